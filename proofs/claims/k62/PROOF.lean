import PyProof.Rows.All
import Wide.All
import OpenK.AllK
import Wide.FinOn
import HandS.ForMost
import HandS.ForExc
import HandS.TryMany
import HandS.CallSlots
import HandS.Wide
import HandS.TupAny
import HandS.IsInst
import HandS.Style
import HandS.Zip
import HandS.Small
import HandS.More
import HandS.Deep
import KE.GoesEnum
import KE.GoesMore
import HandS.DictComp
import HandS.Replace
import HandS.Conv
import HandS.Text
import HandS.Dict
import HandS.ClsMeth
import KE.KStateDown
import HandS.Ends
import HandS.Defaults
import HandS.Head0
import HandS.Head1
import HandS.Head2
import HandS.HeadEnd
import HandS.HeadHook1
import HandS.HeadHook2
import HandS.HeadHook3
import HandS.HeadHook4
import PyProof.StrLawsTight
import HandS.SetTxt0
import HandS.Set
import HandS.SetFor
import HandS.Strs
import PyProof.Rows.SortStr
import HandS.StrMore
import PyProof.Rows.StrCut
import PySem.Challenge.RW_nearerwork_k62_own_ties
set_option Elab.async false
set_option linter.all false
set_option maxRecDepth 100000
set_option maxHeartbeats 4000000
namespace VI
open PySem PySem.Spec PyProof.Rows L2
/-! ### data -/
inductive D where
  | non | bl (b : Bool) | int (i : Int) | str (s : Str) | tup (l : List D) | lst (l : List D)
  | dic (l : List (D × D)) | set (l : List D) | ins (c : Str) (fs : List (Str × D)) | ty (t : String) | cls (c : Str)
  deriving Inhabited
inductive O where
  | pure (d : D) | lst (l : List D) | dic (l : List (D × D)) | ins (c : Str) (fs : List (Str × O)) | hole | lls (l : List (List D))
  deriving Inhabited
mutual
def O.er : O → D
  | .pure d => d
  | .lst l => .lst l
  | .dic l => .dic l
  | .ins c fs => .ins c (O.erF fs)
  | .hole => .non
  | .lls l => .lst (l.map D.lst)
def O.erF : List (Str × O) → List (Str × D)
  | [] => []
  | (f, o) :: r => (f, o.er) :: O.erF r
end
inductive Slot where
  | un | par (o : O) | loc (o : O)
  deriving Inhabited
def Slot.obj : Slot → Option O
  | .un => none | .par o => some o | .loc o => some o
def Slot.wth : Slot → O → Slot
  | .un, _ => .un | .par _, o => .par o | .loc _, o => .loc o
abbrev G := List Slot
inductive R where
  | val (o : O) | slot (i : Nat)
inductive Res (α : Type) where
  | ok (a : α) (g : G) | exc (x : D) (g : G) | stuck
def Res.bind {α β : Type} : Res α → (α → G → Res β) → Res β
  | .ok a g, k => k a g
  | .exc x g, _ => .exc x g
  | .stuck, _ => .stuck
abbrev E := G → Res R
structure Wd where
  K : PySem.W.Frag
  cl : Str → Option Addr
def kD : Key → D
  | .inl i => .int i
  | .inr s => .str s
/-! ### heaps -/
def Ex (H H' : Hp) : Prop := ∀ a o, H a = some o → H' a = some o
theorem Ex.refl (H : Hp) : Ex H H := fun _ _ h => h
theorem Ex.trans {H H1 H2 : Hp} (a : Ex H H1) (b : Ex H1 H2) : Ex H H2 := fun x o h => b x o (a x o h)
theorem Ex.new {H : Hp} {p : Addr} {o : HO} (h : H p = none) : Ex H (upd H p o) := fun a u e => by
  rw [upd_ne (ne_of_none e h)]; exact e
theorem ex_rd {H H' : Hp} {a : Addr} {u : HO} (e : Ex H H') (h : Rd H a u) : Rd H' a u := by
  rcases h with h | ⟨o, h⟩
  · exact Or.inl (e a _ h)
  · exact Or.inr ⟨o, e a _ h⟩
theorem ex_l {K : PySem.W.Frag} {H H' : Hp} {a : Addr} {xs : List V} (e : Ex H H') (h : SqL K H a xs) : SqL K H' a xs := by
  rcases h with h | h
  · exact Or.inl (ex_rd e h)
  · exact Or.inr h
theorem ex_t {K : PySem.W.Frag} {H H' : Hp} {a : Addr} {xs : List V} (e : Ex H H') (h : SqT K H a xs) : SqT K H' a xs := by
  rcases h with h | h
  · exact Or.inl (ex_rd e h)
  · exact Or.inr h
mutual
inductive RepF (W : Wd) (H : Hp) : V → D → Prop
  | non : RepF W H .non .non
  | bl (b : Bool) : RepF W H (.bl b) (.bl b)
  | int (i : Int) : RepF W H (.int i) (.int i)
  | str (s : Str) : RepF W H (.str s) (.str s)
  | ty (t : String) : RepF W H (.ty t) (.ty t)
  | cls {c : Str} {C : Addr} : W.cl c = some C → RepF W H (.ref C) (.cls c)
  | tup {p : Addr} {vs : List V} {ds : List D} : SqT W.K H p vs → RepFs W H vs ds → RepF W H (.ref p) (.tup ds)
  | lst {p : Addr} {vs : List V} {ds : List D} : SqL W.K H p vs → RepFs W H vs ds → RepF W H (.ref p) (.lst ds)
  | dic {p : Addr} {kvs : List (Key × V)} {l : List (D × D)} : H p = some (.dK kvs) → RepFk W H kvs l → RepF W H (.ref p) (.dic l)
  | ins {p : Addr} {c : Str} {C dx : Addr} {fs : List (Str × V)} {ds : List (Str × D)} : H p = some (.ins C dx fs) → W.cl c = some C → RepFf W H fs ds → RepF W H (.ref p) (.ins c ds)
  | set {p : Addr} {od : Obj} {kvs : List (Key × V)} {l : List (D × D)} : H p = some (.frz od (.dK kvs)) → RepFk W H kvs l → RepF W H (.ref p) (.set (l.map fun q => .tup [q.1, q.2]))
inductive RepFs (W : Wd) (H : Hp) : List V → List D → Prop
  | nil : RepFs W H [] []
  | cons {v : V} {d : D} {vs : List V} {ds : List D} : RepF W H v d → RepFs W H vs ds → RepFs W H (v :: vs) (d :: ds)
inductive RepFk (W : Wd) (H : Hp) : List (Key × V) → List (D × D) → Prop
  | nil : RepFk W H [] []
  | cons {k : Key} {v : V} {d : D} {vs : List (Key × V)} {ds : List (D × D)} : RepF W H v d → RepFk W H vs ds → RepFk W H ((k, v) :: vs) ((kD k, d) :: ds)
inductive RepFf (W : Wd) (H : Hp) : List (Str × V) → List (Str × D) → Prop
  | nil : RepFf W H [] []
  | cons {f : Str} {v : V} {d : D} {vs : List (Str × V)} {ds : List (Str × D)} : RepF W H v d → RepFf W H vs ds → RepFf W H ((f, v) :: vs) ((f, d) :: ds)
end
mutual
theorem RepF.mono {W : Wd} {H H' : Hp} (e : Ex H H') : ∀ {v : V} {d : D}, RepF W H v d → RepF W H' v d
  | _, _, .non => .non
  | _, _, .bl b => .bl b
  | _, _, .int i => .int i
  | _, _, .str s => .str s
  | _, _, .ty t => .ty t
  | _, _, .cls h => .cls h
  | _, _, .tup h r => .tup (ex_t e h) (RepFs.mono e r)
  | _, _, .lst h r => .lst (ex_l e h) (RepFs.mono e r)
  | _, _, .dic h r => .dic (e _ _ h) (RepFk.mono e r)
  | _, _, .ins h c r => .ins (e _ _ h) c (RepFf.mono e r)
  | _, _, .set h r => .set (e _ _ h) (RepFk.mono e r)
theorem RepFs.mono {W : Wd} {H H' : Hp} (e : Ex H H') : ∀ {v : List V} {d : List D}, RepFs W H v d → RepFs W H' v d
  | _, _, .nil => .nil
  | _, _, .cons h r => .cons (RepF.mono e h) (RepFs.mono e r)
theorem RepFk.mono {W : Wd} {H H' : Hp} (e : Ex H H') : ∀ {v : List (Key × V)} {d : List (D × D)}, RepFk W H v d → RepFk W H' v d
  | _, _, .nil => .nil
  | _, _, .cons h r => .cons (RepF.mono e h) (RepFk.mono e r)
theorem RepFf.mono {W : Wd} {H H' : Hp} (e : Ex H H') : ∀ {v : List (Str × V)} {d : List (Str × D)}, RepFf W H v d → RepFf W H' v d
  | _, _, .nil => .nil
  | _, _, .cons h r => .cons (RepF.mono e h) (RepFf.mono e r)
end
section
variable {W : Wd} {H : Hp}
theorem RepFs.len : ∀ {vs : List V} {ds : List D}, RepFs W H vs ds → vs.length = ds.length
  | _, _, .nil => rfl
  | _, _, .cons _ r => by simp [RepFs.len r]
theorem RepFs.append : ∀ {vs : List V} {ds : List D} {vs' : List V} {ds' : List D}, RepFs W H vs ds → RepFs W H vs' ds' → RepFs W H (vs ++ vs') (ds ++ ds')
  | _, _, _, _, .nil, h => h
  | _, _, _, _, .cons a r, h => .cons a (RepFs.append r h)
theorem RepFs.get : ∀ {vs : List V} {ds : List D} {i : Nat} {d : D}, RepFs W H vs ds → ds[i]? = some d → ∃ v, vs[i]? = some v ∧ RepF W H v d
  | _, _, i, d, .nil, h => by simp at h
  | _, _, 0, d, .cons a r, h => by
    simp at h; subst h; exact ⟨_, by simp, a⟩
  | _, _, i + 1, d, .cons a r, h => by
    obtain ⟨v, h1, h2⟩ := RepFs.get r (show _ = some d by simpa using h)
    exact ⟨v, by simpa using h1, h2⟩
theorem RepFs.get' : ∀ {vs : List V} {ds : List D} {i : Nat} {v : V}, RepFs W H vs ds → vs[i]? = some v → ∃ d, ds[i]? = some d ∧ RepF W H v d
  | _, _, i, d, .nil, h => by simp at h
  | _, _, 0, d, .cons a r, h => by
    simp at h; subst h; exact ⟨_, by simp, a⟩
  | _, _, i + 1, d, .cons a r, h => by
    obtain ⟨v, h1, h2⟩ := RepFs.get' r (show _ = some d by simpa using h)
    exact ⟨v, by simpa using h1, h2⟩
theorem RepFs.take : ∀ {vs : List V} {ds : List D} (n : Nat), RepFs W H vs ds → RepFs W H (vs.take n) (ds.take n)
  | _, _, n, .nil => by simp; exact .nil
  | _, _, 0, .cons a r => by simp; exact .nil
  | _, _, n + 1, .cons a r => by simp; exact .cons a (RepFs.take n r)
theorem RepFs.drop : ∀ {vs : List V} {ds : List D} (n : Nat), RepFs W H vs ds → RepFs W H (vs.drop n) (ds.drop n)
  | _, _, n, .nil => by simp; exact .nil
  | _, _, 0, .cons a r => by simp; exact .cons a r
  | _, _, n + 1, .cons a r => by simp; exact RepFs.drop n r
theorem RepFs.set : ∀ {vs : List V} {ds : List D} (n : Nat) {v : V} {d : D}, RepFs W H vs ds → RepF W H v d → RepFs W H (vs.set n v) (ds.set n d)
  | _, _, n, _, _, .nil, _ => by simp; exact .nil
  | _, _, 0, _, _, .cons a r, h => by simp; exact .cons h r
  | _, _, n + 1, _, _, .cons a r, h => by simp; exact .cons a (RepFs.set n r h)
theorem RepFs.eraseIdx : ∀ {vs : List V} {ds : List D} (n : Nat), RepFs W H vs ds → RepFs W H (vs.eraseIdx n) (ds.eraseIdx n)
  | _, _, n, .nil => by simp; exact .nil
  | _, _, 0, .cons a r => by simp; exact r
  | _, _, n + 1, .cons a r => by simp; exact .cons a (RepFs.eraseIdx n r)
theorem RepFs.reverse : ∀ {vs : List V} {ds : List D}, RepFs W H vs ds → RepFs W H vs.reverse ds.reverse
  | _, _, .nil => by simp; exact .nil
  | _, _, .cons a r => by
    simp only [List.reverse_cons]
    exact RepFs.append (RepFs.reverse r) (.cons a .nil)
end
/-! ### what is owned -/
/-- own lists in an own list -/
inductive RepLL (W : Wd) (H0 H : Hp) : List Addr → List (List D) → Prop
  | nil : RepLL W H0 H [] []
  | cons {q : Addr} {us : List V} {ds : List D} {qs : List Addr} {ls : List (List D)} : H q = some (.lst us) → RepFs W H0 us ds → RepLL W H0 H qs ls → RepLL W H0 H (q :: qs) (ds :: ls)
theorem RepLL.mono {W : Wd} {H0 H H0' H' : Hp} (e : Ex H0 H0') : ∀ {qs : List Addr} {ls : List (List D)}, RepLL W H0 H qs ls → (∀ a ∈ qs, ∀ u, H a = some u → H' a = some u) → RepLL W H0' H' qs ls
  | _, _, .nil, _ => .nil
  | _, _, .cons h r t, k => .cons (k _ (by simp) _ h) (r.mono e) (RepLL.mono e t fun a ha => k a (List.mem_cons_of_mem _ ha))
theorem RepLL.toF {W : Wd} {H0 H H' : Hp} (e : Ex H0 H') : ∀ {qs : List Addr} {ls : List (List D)}, RepLL W H0 H qs ls → (∀ a ∈ qs, ∀ u, H a = some u → H' a = some u) → RepFs W H' (qs.map .ref) (ls.map D.lst)
  | _, _, .nil, _ => .nil
  | _, _, .cons h r t, k => .cons (.lst (SqL.of (k _ (by simp) _ h)) (r.mono e)) (RepLL.toF e t fun a ha => k a (List.mem_cons_of_mem _ ha))
mutual
inductive RepO (W : Wd) (H0 H : Hp) : V → O → List Addr → Prop
  | pure {v : V} {d : D} : RepF W H0 v d → RepO W H0 H v (.pure d) []
  | lst {p : Addr} {vs : List V} {ds : List D} : H p = some (.lst vs) → RepFs W H0 vs ds → RepO W H0 H (.ref p) (.lst ds) [p]
  | dic {p : Addr} {kvs : List (Key × V)} {l : List (D × D)} : H p = some (.dK kvs) → RepFk W H0 kvs l → RepO W H0 H (.ref p) (.dic l) [p]
  | ins {p : Addr} {c : Str} {C dx : Addr} {fs : List (Str × V)} {os : List (Str × O)} {L : List Addr} : H p = some (.ins C dx fs) → W.cl c = some C → RepOf W H0 H fs os L → RepO W H0 H (.ref p) (.ins c os) (p :: L)
  | hole {v : V} : RepO W H0 H v .hole []
  | lls {p : Addr} {qs : List Addr} {ls : List (List D)} : H p = some (.lst (qs.map .ref)) → RepLL W H0 H qs ls → RepO W H0 H (.ref p) (.lls ls) (p :: qs)
inductive RepOf (W : Wd) (H0 H : Hp) : List (Str × V) → List (Str × O) → List Addr → Prop
  | nil : RepOf W H0 H [] [] []
  | cons {f : Str} {v : V} {o : O} {vs : List (Str × V)} {os : List (Str × O)} {Lo L : List Addr} : RepO W H0 H v o Lo → RepOf W H0 H vs os L → RepOf W H0 H ((f, v) :: vs) ((f, o) :: os) (Lo ++ L)
end
mutual
theorem RepO.mono {W : Wd} {H0 H H0' H' : Hp} (e : Ex H0 H0') : ∀ {v : V} {o : O} {L : List Addr}, RepO W H0 H v o L → (∀ a ∈ L, ∀ u, H a = some u → H' a = some u) → RepO W H0' H' v o L
  | _, _, _, .pure h, _ => .pure (h.mono e)
  | _, _, _, .lst h r, k => .lst (k _ (by simp) _ h) (r.mono e)
  | _, _, _, .dic h r, k => .dic (k _ (by simp) _ h) (r.mono e)
  | _, _, _, .ins h c r, k => .ins (k _ (by simp) _ h) c (RepOf.mono e r fun a ha => k a (List.mem_cons_of_mem _ ha))
  | _, _, _, .hole, _ => .hole
  | _, _, _, .lls h r, k => .lls (k _ (by simp) _ h) (r.mono e fun a ha => k a (List.mem_cons_of_mem _ ha))
theorem RepOf.mono {W : Wd} {H0 H H0' H' : Hp} (e : Ex H0 H0') : ∀ {v : List (Str × V)} {o : List (Str × O)} {L : List Addr}, RepOf W H0 H v o L → (∀ a ∈ L, ∀ u, H a = some u → H' a = some u) → RepOf W H0' H' v o L
  | _, _, _, .nil, _ => .nil
  | _, _, _, .cons h r, k => .cons (RepO.mono e h fun a ha => k a (List.mem_append_left _ ha)) (RepOf.mono e r fun a ha => k a (List.mem_append_right _ ha))
end
inductive RepOs (W : Wd) (H0 H : Hp) : List V → List O → List Addr → Prop
  | nil : RepOs W H0 H [] [] []
  | cons {v : V} {o : O} {vs : List V} {os : List O} {Lo L : List Addr} : RepO W H0 H v o Lo → RepOs W H0 H vs os L → RepOs W H0 H (v :: vs) (o :: os) (Lo ++ L)
theorem RepOs.mono {W : Wd} {H0 H H0' H' : Hp} (e : Ex H0 H0') : ∀ {v : List V} {o : List O} {L : List Addr}, RepOs W H0 H v o L → (∀ a ∈ L, ∀ u, H a = some u → H' a = some u) → RepOs W H0' H' v o L
  | _, _, _, .nil, _ => .nil
  | _, _, _, .cons h r, k => .cons (RepO.mono e h fun a ha => k a (List.mem_append_left _ ha)) (RepOs.mono e r fun a ha => k a (List.mem_append_right _ ha))
structure Sep (H0 H : Hp) (L : List Addr) : Prop where
  ex : Ex H0 H
  nd : L.Nodup
  own : ∀ p ∈ L, H0 p = none ∧ ∃ o, H p = some o
structure Step (H0 H : Hp) (L : List Addr) (H0' H' : Hp) (L' : List Addr) : Prop where
  ex0 : Ex H0 H0'
  keep : ∀ a o, H a = some o → a ∉ L → H' a = some o
  new0 : ∀ a, H0' a ≠ none → H0 a ≠ none ∨ H a = none ∨ a ∈ L
  newL : ∀ a ∈ L', a ∈ L ∨ H a = none
  sep : Sep H0' H' L'
theorem Sep.sub {H0 H : Hp} {L L' : List Addr} (s : Sep H0 H L) (h : ∀ a ∈ L', a ∈ L) (nd : L'.Nodup) : Sep H0 H L' := ⟨s.ex, nd, fun p hp => s.own p (h p hp)⟩
theorem Sep.right {H0 H : Hp} {L L' : List Addr} (s : Sep H0 H (L ++ L')) : Sep H0 H L' := s.sub (fun _ h => List.mem_append_right _ h) (List.nodup_append.mp s.nd).2.1
theorem Sep.left {H0 H : Hp} {L L' : List Addr} (s : Sep H0 H (L ++ L')) : Sep H0 H L := s.sub (fun _ h => List.mem_append_left _ h) (List.nodup_append.mp s.nd).1
theorem Sep.perm {H0 H : Hp} {L L' : List Addr} (s : Sep H0 H L) (p : L.Perm L') : Sep H0 H L' := s.sub (fun _ h => p.mem_iff.mpr h) (p.nodup_iff.mp s.nd)
theorem Sep.nil {H0 H : Hp} (e : Ex H0 H) : Sep H0 H [] := ⟨e, List.nodup_nil, fun _ h => by cases h⟩
theorem Step.refl {H0 H : Hp} {L : List Addr} (s : Sep H0 H L) : Step H0 H L H0 H L := ⟨Ex.refl _, fun _ _ h _ => h, fun _ h => .inl h, fun _ h => .inl h, s⟩
theorem Step.sub {H0 H H0' H' : Hp} {L L1 L2 : List Addr} (s : Step H0 H L H0' H' L1) (h : ∀ a ∈ L2, a ∈ L1) (nd : L2.Nodup) : Step H0 H L H0' H' L2 := ⟨s.ex0, s.keep, s.new0, fun a ha => s.newL a (h a ha), s.sep.sub h nd⟩
theorem Step.perm {H0 H H0' H' : Hp} {L L1 L2 : List Addr} (s : Step H0 H L H0' H' L1) (p : L1.Perm L2) : Step H0 H L H0' H' L2 := s.sub (fun _ h => p.mem_iff.mpr h) (p.nodup_iff.mp s.sep.nd)
theorem Step.right {H0 H H0' H' : Hp} {L L1 L2 : List Addr} (s : Step H0 H L H0' H' (L1 ++ L2)) : Step H0 H L H0' H' L2 := s.sub (fun _ h => List.mem_append_right _ h) (List.nodup_append.mp s.sep.nd).2.1
theorem Step.trans {H0 H H1 H01 H02 H2 : Hp} {L L1 L2 : List Addr} (a : Step H0 H L H01 H1 L1) (b : Step H01 H1 L1 H02 H2 L2) : Step H0 H L H02 H2 L2 where
  ex0 := a.ex0.trans b.ex0
  keep := fun x o h hx => b.keep x o (a.keep x o h hx) fun z => by
    rcases a.newL x z with q | q
    · exact hx q
    · rw [h] at q; cases q
  new0 := fun x h => by
    have key : H1 x = none → H x = none ∨ x ∈ L := fun q => by
      by_cases hx : x ∈ L
      · exact .inr hx
      · cases e : H x with
        | none => exact .inl rfl
        | some o => rw [a.keep x o e hx] at q; cases q
    rcases b.new0 x h with q | q | q
    · exact a.new0 x q
    · exact .inr (key q)
    · rcases a.newL x q with z | z
      · exact .inr (.inr z)
      · exact .inr (.inl z)
  newL := fun x h => by
    rcases b.newL x h with q | q
    · exact a.newL x q
    · by_cases hx : x ∈ L
      · exact .inl hx
      · cases e : H x with
        | none => exact .inr rfl
        | some o => rw [a.keep x o e hx] at q; cases q
  sep := b.sep
/-- what the rest owns stays -/
theorem Step.frame {H0 H H0' H' : Hp} {La Lb Lb' : List Addr} (s : Sep H0 H (La ++ Lb)) (b : Step H0 H Lb H0' H' Lb') : Step H0 H (La ++ Lb) H0' H' (La ++ Lb') where
  ex0 := b.ex0
  keep := fun x o h hx => b.keep x o h fun z => hx (List.mem_append_right _ z)
  new0 := fun x h => by
    rcases b.new0 x h with q | q | q
    · exact .inl q
    · exact .inr (.inl q)
    · exact .inr (.inr (List.mem_append_right _ q))
  newL := fun x h => by
    rcases List.mem_append.mp h with q | q
    · exact .inl (List.mem_append_left _ q)
    · rcases b.newL x q with z | z
      · exact .inl (List.mem_append_right _ z)
      · exact .inr z
  sep := by
    have nd := List.nodup_append.mp s.nd
    have dis : ∀ p ∈ La, p ∉ Lb := fun p h1 h2 => nd.2.2 p h1 p h2 rfl
    refine ⟨b.sep.ex, List.nodup_append.mpr ⟨nd.1, b.sep.nd, fun p h1 q h2 e => ?_⟩, fun p h => ?_⟩
    · subst e
      rcases b.newL p h2 with z | z
      · exact dis p h1 z
      · obtain ⟨o, e⟩ := (s.own p (List.mem_append_left _ h1)).2
        rw [e] at z; cases z
    · rcases List.mem_append.mp h with q | q
      · obtain ⟨h0, o, e⟩ := s.own p (List.mem_append_left _ q)
        refine ⟨?_, o, b.keep p o e (dis p q)⟩
        cases z : H0' p with
        | none => rfl
        | some u =>
          exfalso
          rcases b.new0 p (by rw [z]; simp) with y | y | y
          · exact y h0
          · rw [e] at y; cases y
          · exact dis p q y
      · exact b.sep.own p q
theorem Step.then {H0 H H1 H01 H02 H2 : Hp} {L La L1 L2 : List Addr} (a : Step H0 H L H01 H1 (La ++ L1)) (b : Step H01 H1 L1 H02 H2 L2) : Step H0 H L H02 H2 (La ++ L2) := a.trans (Step.frame a.sep b)
theorem Step.keepL {H0 H H0' H' : Hp} {La Lb Lb' : List Addr} (s : Sep H0 H (La ++ Lb)) (b : Step H0 H Lb H0' H' Lb') : ∀ a ∈ La, ∀ u, H a = some u → H' a = some u := fun a ha u h =>
  b.keep a u h fun z => (List.nodup_append.mp s.nd).2.2 a ha a z rfl
/-- frozen -/
theorem Step.freeze {H0 H : Hp} {Lf L : List Addr} (s : Sep H0 H (Lf ++ L)) : Step H0 H (Lf ++ L) (fun a => if a ∈ Lf then H a else H0 a) H L where
  ex0 := fun a o h => by
    by_cases q : a ∈ Lf
    · rw [(s.own a (List.mem_append_left _ q)).1] at h; cases h
    · simp [q, h]
  keep := fun _ _ h _ => h
  new0 := fun a h => by
    by_cases q : a ∈ Lf
    · exact .inr (.inr (List.mem_append_left _ q))
    · simp [q] at h; exact .inl h
  newL := fun a h => .inl (List.mem_append_right _ h)
  sep := by
    refine ⟨fun a o h => ?_, s.right.nd, fun p hp => ⟨?_, (s.own p (List.mem_append_right _ hp)).2⟩⟩
    · by_cases q : a ∈ Lf
      · simpa [q] using h
      · simp [q] at h; exact s.ex a o h
    · have q : p ∉ Lf := fun z => (List.nodup_append.mp s.nd).2.2 p z p hp rfl
      simp [q, (s.own p (List.mem_append_right _ hp)).1]
mutual
def O.full : O → Bool
  | .hole => false
  | .ins _ fs => O.fullF fs
  | _ => true
def O.fullF : List (Str × O) → Bool
  | [] => true
  | (_, o) :: r => o.full && O.fullF r
end
mutual
theorem RepO.toF {W : Wd} {H0 H H' : Hp} (e : Ex H0 H') : ∀ {v : V} {o : O} {L : List Addr}, RepO W H0 H v o L → o.full = true → (∀ a ∈ L, ∀ u, H a = some u → H' a = some u) → RepF W H' v o.er
  | _, _, _, .pure h, _, _ => by simpa [O.er] using h.mono e
  | _, _, _, .lst h r, _, k => by simpa [O.er] using RepF.lst (SqL.of (k _ (by simp) _ h)) (r.mono e)
  | _, _, _, .dic h r, _, k => by simpa [O.er] using RepF.dic (k _ (by simp) _ h) (r.mono e)
  | _, _, _, .ins h c r, f, k => by simpa [O.er] using RepF.ins (k _ (by simp) _ h) c (RepOf.toF e r (by simpa [O.full] using f) fun a ha => k a (List.mem_cons_of_mem _ ha))
  | _, _, _, .hole, f, _ => by simp [O.full] at f
  | _, _, _, .lls h r, _, k => by simpa [O.er] using RepF.lst (SqL.of (k _ (by simp) _ h)) (r.toF e fun a ha => k a (List.mem_cons_of_mem _ ha))
theorem RepOf.toF {W : Wd} {H0 H H' : Hp} (e : Ex H0 H') : ∀ {v : List (Str × V)} {o : List (Str × O)} {L : List Addr}, RepOf W H0 H v o L → O.fullF o = true → (∀ a ∈ L, ∀ u, H a = some u → H' a = some u) → RepFf W H' v (O.erF o)
  | _, _, _, .nil, _, _ => by simpa [O.erF] using RepFf.nil
  | _, _, _, .cons h r, f, k => by
    simp only [O.fullF, Bool.and_eq_true] at f
    simpa [O.erF] using RepFf.cons (RepO.toF e h f.1 fun a ha => k a (List.mem_append_left _ ha)) (RepOf.toF e r f.2 fun a ha => k a (List.mem_append_right _ ha))
end
end VI
namespace VI
open PySem PySem.Spec PyProof.Rows L2
/-! ### the frame's slots -/
inductive EnvR (W : Wd) (H0 H : Hp) : List (Option V) → L2.St → G → List Addr → Prop
  | nil : EnvR W H0 H [] [] [] []
  | un {a s : Option V} {vs : List (Option V)} {σ : L2.St} {g : G} {L : List Addr} : EnvR W H0 H vs σ g L → EnvR W H0 H (a :: vs) (s :: σ) (.un :: g) L
  | loc {a : Option V} {v : V} {o : O} {vs : List (Option V)} {σ : L2.St} {g : G} {Lo L : List Addr} : RepO W H0 H v o Lo → EnvR W H0 H vs σ g L → EnvR W H0 H (a :: vs) (some v :: σ) (.loc o :: g) (Lo ++ L)
  | par {v : V} {o : O} {vs : List (Option V)} {σ : L2.St} {g : G} {Lo L : List Addr} : RepO W H0 H v o Lo → EnvR W H0 H vs σ g L → EnvR W H0 H (some v :: vs) (some v :: σ) (.par o :: g) (Lo ++ L)
theorem EnvR.mono {W : Wd} {H0 H H0' H' : Hp} (e : Ex H0 H0') : ∀ {vs : List (Option V)} {σ : L2.St} {g : G} {L : List Addr}, EnvR W H0 H vs σ g L → (∀ a ∈ L, ∀ u, H a = some u → H' a = some u) → EnvR W H0' H' vs σ g L
  | _, _, _, _, .nil, _ => .nil
  | _, _, _, _, .un r, k => .un (r.mono e k)
  | _, _, _, _, .loc h r, k => .loc (h.mono e fun a ha => k a (List.mem_append_left _ ha)) (r.mono e fun a ha => k a (List.mem_append_right _ ha))
  | _, _, _, _, .par h r, k => .par (h.mono e fun a ha => k a (List.mem_append_left _ ha)) (r.mono e fun a ha => k a (List.mem_append_right _ ha))
/-- a slot's own part, and how another object comes in its place -/
theorem EnvR.at {W : Wd} {H0 H : Hp} : ∀ {vs : List (Option V)} {σ : L2.St} {g : G} {L : List Addr} {i : Nat} {sl : Slot} {o : O}, EnvR W H0 H vs σ g L → g[i]? = some sl → sl.obj = some o →
    ∃ (v : V) (La Lo Lb : List Addr), σ[i]? = some (some v) ∧ RepO W H0 H v o Lo ∧ L = La ++ (Lo ++ Lb) ∧
      ∀ (H0' H' : Hp), Ex H0 H0' → (∀ a ∈ La ++ Lb, ∀ u, H a = some u → H' a = some u) → ∀ (o' : O) (Lo' : List Addr), RepO W H0' H' v o' Lo' → EnvR W H0' H' vs σ (g.set i (sl.wth o')) (La ++ (Lo' ++ Lb))
  | _, _, _, _, i, sl, o, .nil, h, _ => by simp at h
  | _, _, _, _, 0, sl, o, .un r, h, ho => by simp at h; subst h; cases ho
  | _, _, _, _, 0, sl, o, .loc (Lo := Lo) (L := L) q r, h, ho => by
    simp at h; subst h
    cases ho
    refine ⟨_, [], Lo, L, by simp, q, by simp, fun H0' H' e k o' Lo' q' => ?_⟩
    simpa [Slot.wth] using EnvR.loc q' (r.mono e (by simpa using k))
  | _, _, _, _, 0, sl, o, .par (Lo := Lo) (L := L) q r, h, ho => by
    simp at h; subst h
    cases ho
    refine ⟨_, [], Lo, L, by simp, q, by simp, fun H0' H' e k o' Lo' q' => ?_⟩
    simpa [Slot.wth] using EnvR.par q' (r.mono e (by simpa using k))
  | _, _, _, _, i + 1, sl, o, .un r, h, ho => by
    obtain ⟨v, La, Lo, Lb, h1, h2, h3, h4⟩ := EnvR.at r (by simpa using h) ho
    refine ⟨v, La, Lo, Lb, by simpa using h1, h2, h3, fun H0' H' e k o' Lo' q' => ?_⟩
    simpa using EnvR.un (h4 H0' H' e k o' Lo' q')
  | _, _, _, _, i + 1, sl, o, .loc (Lo := L1) q r, h, ho => by
    obtain ⟨v, La, Lo, Lb, h1, h2, h3, h4⟩ := EnvR.at r (by simpa using h) ho
    subst h3
    refine ⟨v, L1 ++ La, Lo, Lb, by simpa using h1, h2, by simp [List.append_assoc], fun H0' H' e k o' Lo' q' => ?_⟩
    have k1 : ∀ a ∈ L1, ∀ u, H a = some u → H' a = some u := fun a ha => k a (by simp [ha])
    have k2 : ∀ a ∈ La ++ Lb, ∀ u, H a = some u → H' a = some u := fun a ha => k a (by simp at ha ⊢; rcases ha with z | z <;> simp [z])
    simpa [List.append_assoc] using EnvR.loc (q.mono e k1) (h4 H0' H' e k2 o' Lo' q')
  | _, _, _, _, i + 1, sl, o, .par (Lo := L1) q r, h, ho => by
    obtain ⟨v, La, Lo, Lb, h1, h2, h3, h4⟩ := EnvR.at r (by simpa using h) ho
    subst h3
    refine ⟨v, L1 ++ La, Lo, Lb, by simpa using h1, h2, by simp [List.append_assoc], fun H0' H' e k o' Lo' q' => ?_⟩
    have k1 : ∀ a ∈ L1, ∀ u, H a = some u → H' a = some u := fun a ha => k a (by simp [ha])
    have k2 : ∀ a ∈ La ++ Lb, ∀ u, H a = some u → H' a = some u := fun a ha => k a (by simp at ha ⊢; rcases ha with z | z <;> simp [z])
    simpa [List.append_assoc] using EnvR.par (q.mono e k1) (h4 H0' H' e k2 o' Lo' q')
/-- a store -/
theorem EnvR.store {W : Wd} {H0 H : Hp} : ∀ {vs : List (Option V)} {σ : L2.St} {g : G} {L : List Addr} (i : Nat), EnvR W H0 H vs σ g L →
    ∃ (La Lo Lb : List Addr), L = La ++ (Lo ++ Lb) ∧
      ∀ (H0' H' : Hp), Ex H0 H0' → (∀ a ∈ La ++ Lb, ∀ u, H a = some u → H' a = some u) → ∀ (v' : V) (o' : O) (Lo' : List Addr), RepO W H0' H' v' o' Lo' → ∃ Lo'', (Lo'' = Lo' ∨ Lo'' = []) ∧ EnvR W H0' H' vs (σ.set i (some v')) (g.set i (.loc o')) (La ++ (Lo'' ++ Lb))
  | _, _, _, _, i, .nil => ⟨[], [], [], rfl, fun _ _ _ _ _ _ _ _ => ⟨[], .inr rfl, by simpa using EnvR.nil⟩⟩
  | _, _, _, _, 0, .un (L := L) r => ⟨[], [], L, by simp, fun _ _ e k _ _ Lo' q => ⟨Lo', .inl rfl, by simpa using EnvR.loc q (r.mono e (by simpa using k))⟩⟩
  | _, _, _, _, 0, .loc (Lo := Lo) (L := L) _ r => ⟨[], Lo, L, by simp, fun _ _ e k _ _ Lo' q => ⟨Lo', .inl rfl, by simpa using EnvR.loc q (r.mono e (by simpa using k))⟩⟩
  | _, _, _, _, 0, .par (Lo := Lo) (L := L) _ r => ⟨[], Lo, L, by simp, fun _ _ e k _ _ Lo' q => ⟨Lo', .inl rfl, by simpa using EnvR.loc q (r.mono e (by simpa using k))⟩⟩
  | _, _, _, _, i + 1, .un r => by
    obtain ⟨La, Lo, Lb, h3, h4⟩ := EnvR.store i r
    refine ⟨La, Lo, Lb, h3, fun H0' H' e k v' o' Lo' q' => ?_⟩
    obtain ⟨L2, c, h5⟩ := h4 H0' H' e k v' o' Lo' q'
    exact ⟨L2, c, by simpa using EnvR.un h5⟩
  | _, _, _, _, i + 1, .loc (Lo := L1) q r => by
    obtain ⟨La, Lo, Lb, h3, h4⟩ := EnvR.store i r
    subst h3
    refine ⟨L1 ++ La, Lo, Lb, by simp [List.append_assoc], fun H0' H' e k v' o' Lo' q' => ?_⟩
    have k1 : ∀ a ∈ L1, ∀ u, H a = some u → H' a = some u := fun a ha => k a (by simp [ha])
    have k2 : ∀ a ∈ La ++ Lb, ∀ u, H a = some u → H' a = some u := fun a ha => k a (by simp at ha ⊢; rcases ha with z | z <;> simp [z])
    obtain ⟨L2, c, h5⟩ := h4 H0' H' e k2 v' o' Lo' q'
    exact ⟨L2, c, by simpa [List.append_assoc] using EnvR.loc (q.mono e k1) h5⟩
  | _, _, _, _, i + 1, .par (Lo := L1) q r => by
    obtain ⟨La, Lo, Lb, h3, h4⟩ := EnvR.store i r
    subst h3
    refine ⟨L1 ++ La, Lo, Lb, by simp [List.append_assoc], fun H0' H' e k v' o' Lo' q' => ?_⟩
    have k1 : ∀ a ∈ L1, ∀ u, H a = some u → H' a = some u := fun a ha => k a (by simp [ha])
    have k2 : ∀ a ∈ La ++ Lb, ∀ u, H a = some u → H' a = some u := fun a ha => k a (by simp at ha ⊢; rcases ha with z | z <;> simp [z])
    obtain ⟨L2, c, h5⟩ := h4 H0' H' e k2 v' o' Lo' q'
    exact ⟨L2, c, by simpa [List.append_assoc] using EnvR.par (q.mono e k1) h5⟩
/-! ### results -/
def RepR (W : Wd) (H0 H : Hp) (σ : L2.St) (v : V) (r : R) (Lr : List Addr) : Prop := match r with
  | .val o => RepO W H0 H v o Lr
  | .slot i => σ[i]? = some (some v) ∧ Lr = []
theorem RepR.mono {W : Wd} {H0 H H0' H' : Hp} {σ : L2.St} {v : V} {r : R} {L : List Addr} (h : RepR W H0 H σ v r L) (e : Ex H0 H0') (k : ∀ a ∈ L, ∀ u, H a = some u → H' a = some u) : RepR W H0' H' σ v r L := by
  cases r with
  | val o => exact RepO.mono e h k
  | slot i => exact h
/-- an exception: its class, its own dict -/
def RepX (W : Wd) (H0 H : Hp) (x : D) (c : Value) (d : Option Addr) : Prop := ∃ nm fs C, x = .ins nm fs ∧ W.cl nm = some C ∧ c = .ref C ∧ ((d = none ∧ fs = []) ∨ ∃ dd fvs, d = some dd ∧ H dd = some (.xd fvs) ∧ RepFf W H0 fvs fs)
def PostE (W : Wd) (vs : List (Option V)) (Wx : WX) (σ : L2.St) (H0 H : Hp) (L : List Addr) : Res R → VK → Prop
  | .ok r g', Q => ∀ v H' H0' Lr L', Step H0 H L H0' H' (Lr ++ L') → RepR W H0' H' σ v r Lr → EnvR W H0' H' vs σ g' L' → Q v H'
  | .exc x g', _ => ∀ c d H' H0' L', Step H0 H L H0' H' L' → RepX W H0' H' x c d → EnvR W H0' H' vs σ g' L' → Wx c d σ H'
  | .stuck, _ => False
def tE (W : Wd) (vs : List (Option V)) (Wx : WX) (A : E) : TE := fun σ H Q => ∃ H0 L g, Sep H0 H L ∧ EnvR W H0 H vs σ g L ∧ PostE W vs Wx σ H0 H L (A g) Q
def PostT (W : Wd) (vs : List (Option V)) (Wx : WX) (σ : L2.St) (H0 H : Hp) (L : List Addr) : Res Bool → (Bool → Hp → Prop) → Prop
  | .ok b g', Q => ∀ H' H0' L', Step H0 H L H0' H' L' → EnvR W H0' H' vs σ g' L' → Q b H'
  | .exc x g', _ => ∀ c d H' H0' L', Step H0 H L H0' H' L' → RepX W H0' H' x c d → EnvR W H0' H' vs σ g' L' → Wx c d σ H'
  | .stuck, _ => False
def tT (W : Wd) (vs : List (Option V)) (Wx : WX) (A : G → Res Bool) : TT := fun σ H Q => ∃ H0 L g, Sep H0 H L ∧ EnvR W H0 H vs σ g L ∧ PostT W vs Wx σ H0 H L (A g) Q
inductive RepRs (W : Wd) (H0 H : Hp) (σ : L2.St) : List V → List R → List Addr → Prop
  | nil : RepRs W H0 H σ [] [] []
  | cons {v : V} {r : R} {vs : List V} {rs : List R} {Lr L : List Addr} : RepR W H0 H σ v r Lr → RepRs W H0 H σ vs rs L → RepRs W H0 H σ (v :: vs) (r :: rs) (Lr ++ L)
theorem RepRs.mono {W : Wd} {H0 H H0' H' : Hp} {σ : L2.St} (e : Ex H0 H0') : ∀ {v : List V} {r : List R} {L : List Addr}, RepRs W H0 H σ v r L → (∀ a ∈ L, ∀ u, H a = some u → H' a = some u) → RepRs W H0' H' σ v r L
  | _, _, _, .nil, _ => .nil
  | _, _, _, .cons h r, k => .cons (h.mono e fun a ha => k a (List.mem_append_left _ ha)) (RepRs.mono e r fun a ha => k a (List.mem_append_right _ ha))
def PostA (W : Wd) (vs : List (Option V)) (Wx : WX) (σ : L2.St) (H0 H : Hp) (L : List Addr) : Res (List R) → (List V → Hp → Prop) → Prop
  | .ok r g', Q => ∀ v H' H0' Lr L', Step H0 H L H0' H' (Lr ++ L') → RepRs W H0' H' σ v r Lr → EnvR W H0' H' vs σ g' L' → Q v H'
  | .exc x g', _ => ∀ c d H' H0' L', Step H0 H L H0' H' L' → RepX W H0' H' x c d → EnvR W H0' H' vs σ g' L' → Wx c d σ H'
  | .stuck, _ => False
def tA (W : Wd) (vs : List (Option V)) (Wx : WX) (A : G → Res (List R)) : TA := fun σ H Q => ∃ H0 L g, Sep H0 H L ∧ EnvR W H0 H vs σ g L ∧ PostA W vs Wx σ H0 H L (A g) Q
inductive Fl where
  | next | brk | cont | ret (o : O)
abbrev S := G → Res Fl
def PostS (W : Wd) (vs : List (Option V)) (Wx : WX) (H0 H : Hp) (L : List Addr) : Res Fl → Ends → Prop
  | .ok .next g', De => ∀ σ' H' H0' L', Step H0 H L H0' H' L' → EnvR W H0' H' vs σ' g' L' → De.nx σ' H'
  | .ok .brk g', De => ∀ σ' H' H0' L', Step H0 H L H0' H' L' → EnvR W H0' H' vs σ' g' L' → De.bk σ' H'
  | .ok .cont g', De => ∀ σ' H' H0' L', Step H0 H L H0' H' L' → EnvR W H0' H' vs σ' g' L' → De.ct σ' H'
  | .ok (.ret o) g', De => ∀ v σ' H' H0' Lo L', Step H0 H L H0' H' (Lo ++ L') → RepO W H0' H' v o Lo → EnvR W H0' H' vs σ' g' L' → De.rt v H'
  | .exc x g', _ => ∀ c d σ' H' H0' L', Step H0 H L H0' H' L' → RepX W H0' H' x c d → EnvR W H0' H' vs σ' g' L' → Wx c d σ' H'
  | .stuck, _ => False
def tS (W : Wd) (vs : List (Option V)) (Wx : WX) (B : S) : TS := fun De σ H => ∃ H0 L g, Sep H0 H L ∧ EnvR W H0 H vs σ g L ∧ PostS W vs Wx H0 H L (B g) De
/-- the context: what is said of it once -/
structure Ctx (W : Wd) (n : Nat) (Wx : WX) (X : Cx) : Prop where
  K : X.K = W.K
  calm : X.calm = true
  nd : X.N.Nodup
  tk : Takes X Wx
  room : Room n X.A
def SE (W : Wd) (vs : List (Option V)) (Wx : WX) (X : Cx) (e : Expr) (A : E) : Prop := PE X e (tE W vs Wx A)
def ST (W : Wd) (vs : List (Option V)) (Wx : WX) (X : Cx) (e : Expr) (A : G → Res Bool) : Prop := PT X e (tT W vs Wx A)
def SA (W : Wd) (vs : List (Option V)) (Wx : WX) (X : Cx) (e : List Expr) (A : G → Res (List R)) : Prop := PA X e (tA W vs Wx A)
def SS (W : Wd) (vs : List (Option V)) (Wx : WX) (X : Cx) (e : Stmt) (A : S) : Prop := PS X e (tS W vs Wx A)
def SB (W : Wd) (vs : List (Option V)) (Wx : WX) (X : Cx) (e : List Stmt) (A : S) : Prop := PSs X e (tS W vs Wx A)
theorem pe_weak {X : Cx} {e : Expr} {t t' : TE} (h : PE X e t) (i : ∀ σ H Q, t' σ H Q → t σ H Q) : PE X e t' := ⟨fun pins s σ H Q I q => h.run pins s σ H Q I (i _ _ _ q)⟩
theorem pt_weak {X : Cx} {e : Expr} {t t' : TT} (h : PT X e t) (i : ∀ σ H Q, t' σ H Q → t σ H Q) : PT X e t' := ⟨fun pins s σ H Q I q => h.run pins s σ H Q I (i _ _ _ q)⟩
theorem pw_weak {X : Cx} {e : Expr} {t t' : TT} (h : PW X e t) (i : ∀ σ H Q, t' σ H Q → t σ H Q) : PW X e t' := ⟨fun wh pins s σ H Q I q => h.run wh pins s σ H Q I (i _ _ _ q)⟩
theorem pa_weak {X : Cx} {e : List Expr} {t t' : TA} (h : PA X e t) (i : ∀ σ H Q, t' σ H Q → t σ H Q) : PA X e t' := ⟨fun pos pins s σ H Q I q => h.run pos pins s σ H Q I (i _ _ _ q)⟩
theorem ps_weak {X : Cx} {e : Stmt} {t t' : TS} (h : PS X e t) (i : ∀ De σ H, t' De σ H → t De σ H) : PS X e t' := ⟨fun pins s σ H De I q => h.run pins s σ H De I (i _ _ _ q)⟩
theorem pss_weak {X : Cx} {e : List Stmt} {t t' : TS} (h : PSs X e t) (i : ∀ De σ H, t' De σ H → t De σ H) : PSs X e t' := ⟨fun pins s σ H De I q => h.run pins s σ H De I (i _ _ _ q)⟩
/-- what stands for a result now -/
def ob (g : G) : R → Option O
  | .val o => some o
  | .slot i => (g[i]?).bind Slot.obj
theorem ob_rep {W : Wd} {H0 H : Hp} {vs : List (Option V)} {σ : L2.St} {g : G} {L Lr : List Addr} {v : V} {r : R} {o : O} (en : EnvR W H0 H vs σ g L) (h : RepR W H0 H σ v r Lr) (e : ob g r = some o) : ∃ Lo, RepO W H0 H v o Lo ∧ ∀ a ∈ Lo, a ∈ Lr ++ L := by
  cases r with
  | val o' => cases e; exact ⟨Lr, h, fun a ha => List.mem_append_left _ ha⟩
  | slot i =>
    simp only [ob, Option.bind_eq_some_iff] at e
    obtain ⟨sl, e1, e2⟩ := e
    obtain ⟨v', La, Lo, Lb, h1, h2, h3, _⟩ := en.at e1 e2
    obtain ⟨h4, h5⟩ := h
    rw [h1] at h4
    cases h4
    exact ⟨Lo, h2, fun a ha => by subst h3; simp [ha]⟩
/-- values from what was known to an end -/
def Gives (W : Wd) (H0 H : Hp) (o : O) (Q : VK) : Prop := ∀ v H' H0' Lo, Step H0 H [] H0' H' Lo → RepO W H0' H' v o Lo → Q v H'
theorem gives_of {W : Wd} {vs : List (Option V)} {Wx : WX} {σ : L2.St} {H0 H H01 H1 : Hp} {L Lt L1 : List Addr} {g1 : G} {o : O} {Q : VK} (st : Step H0 H L H01 H1 (Lt ++ L1)) (en : EnvR W H01 H1 vs σ g1 L1) (post : PostE W vs Wx σ H0 H L (.ok (.val o) g1) Q) : Gives W H01 H1 o Q := by
  intro v H' H0' Lo s2 ro
  have sp : Sep H01 H1 (L1 ++ []) := by simpa using st.sep.right
  have s3 : Step H01 H1 (L1 ++ []) H0' H' (L1 ++ Lo) := Step.frame sp s2
  have s4 : Step H01 H1 L1 H0' H' (L1 ++ Lo) := by simpa using s3
  have s5 : Step H0 H L H0' H' (Lt ++ (L1 ++ Lo)) := st.then s4
  refine post v H' H0' Lo L1 (s5.right.perm List.perm_append_comm) ro (en.mono s2.ex0 (Step.keepL sp s2))
theorem Gives.atom {W : Wd} {H0 H : Hp} {d : D} {v : V} {Q : VK} (g : Gives W H0 H (.pure d) Q) (e : Ex H0 H) (h : RepF W H0 v d) : Q v H := g v H H0 [] (Step.refl (Sep.nil e)) (.pure h)
theorem step_new0 {H0 H : Hp} {p : Addr} {o : HO} (e : Ex H0 H) (hp : H p = none) : Step H0 H [] (upd H0 p o) (upd H p o) [] := by
  have h0 : H0 p = none := by
    cases z : H0 p with
    | none => rfl
    | some u => rw [e p u z] at hp; cases hp
  refine ⟨Ex.new h0, fun a u h _ => Ex.new hp a u h, fun a h => ?_, fun a h => (by cases h), Sep.nil fun a u h => ?_⟩
  · by_cases q : a = p
    · exact .inr (.inl (by rw [q]; exact hp))
    · rw [upd_ne q] at h; exact .inl h
  · by_cases q : a = p
    · subst q; rw [upd_same] at h ⊢; exact h
    · rw [upd_ne q] at h ⊢; exact e a u h
theorem step_newL {H0 H : Hp} {p : Addr} {o : HO} (e : Ex H0 H) (hp : H p = none) : Step H0 H [] H0 (upd H p o) [p] := by
  have h0 : H0 p = none := by
    cases z : H0 p with
    | none => rfl
    | some u => rw [e p u z] at hp; cases hp
  refine ⟨Ex.refl _, fun a u h _ => Ex.new hp a u h, fun a h => .inl h, fun a h => ?_, ⟨e.trans (Ex.new hp), by simp, fun q hq => ?_⟩⟩
  · have : a = p := by simpa using h
    exact .inr (by rw [this]; exact hp)
  · have : q = p := by simpa using hq
    subst this
    exact ⟨h0, o, upd_same⟩
/-- a new list of known things -/
theorem Gives.newL {W : Wd} {H0 H : Hp} {ds : List D} {us : List V} {Q : VK} (g : Gives W H0 H (.lst ds) Q) (e : Ex H0 H) (h : RepFs W H0 us ds) {p : Addr} (hp : H p = none) : Q (.ref p) (upd H p (.lst us)) :=
  g _ _ H0 [p] (step_newL e hp) (.lst upd_same h)
theorem Gives.newT {W : Wd} {H0 H : Hp} {ds : List D} {us : List V} {Q : VK} (g : Gives W H0 H (.pure (.tup ds)) Q) (e : Ex H0 H) (h : RepFs W H0 us ds) {p : Addr} (hp : H p = none) : Q (.ref p) (upd H p (.tup us)) := by
  have st := step_new0 (o := .tup us) e hp
  exact g _ _ _ [] st (.pure (.tup (SqT.of upd_same) (h.mono st.ex0)))
/-! ### expressions -/
section
variable {W : Wd} {vs : List (Option V)} {Wx : WX} {X : Cx} {n : Nat}
def cst (d : D) : E := fun g => .ok (.val (.pure d)) g
theorem se_tC {e : Expr} {v : V} {d : D} (h : PE X e (tC v)) (r : ∀ H, RepF W H v d) : SE W vs Wx X e (cst d) := by
  refine pe_weak h fun σ H Q ⟨H0, L, g, sp, en, post⟩ => ?_
  exact post v H H0 [] L (Step.refl sp) (.pure (r H0)) en
theorem se_int {i j pos} : SE W vs Wx X (.Constant (.int i) j pos) (cst (.int i)) := se_tC pe_int fun _ => .int _
theorem se_bl {i j pos} : SE W vs Wx X (.Constant (.bool i) j pos) (cst (.bl i)) := se_tC pe_bl fun _ => .bl _
theorem se_non {j pos} : SE W vs Wx X (.Constant .none j pos) (cst .non) := se_tC pe_non fun _ => .non
theorem se_str {i j pos} : SE W vs Wx X (.Constant (.str i) j pos) (cst (.str i)) := se_tC pe_str fun _ => .str _
def nm (i : Nat) : E := fun g => match g[i]? with
  | some (.par (.pure d)) => .ok (.val (.pure d)) g
  | some (.loc (.pure d)) => .ok (.val (.pure d)) g
  | some (.par .hole) => .stuck
  | some (.loc .hole) => .stuck
  | some (.par _) => .ok (.slot i) g
  | some (.loc _) => .ok (.slot i) g
  | _ => .stuck
theorem se_nm (i : Nat) {x : Str} {pos : Pos} (h : PE X (.Name x pos) (tVar i)) : SE W vs Wx X (.Name x pos) (nm i) := by
  refine pe_weak h fun σ H Q ⟨H0, L, g, sp, en, post⟩ => ?_
  unfold nm at post
  have key : ∀ {sl : Slot} {o : O}, g[i]? = some sl → sl.obj = some o → (∀ d, o = .pure d → PostE W vs Wx σ H0 H L (.ok (.val (.pure d)) g) Q) → ((∀ d, o ≠ .pure d) → PostE W vs Wx σ H0 H L (.ok (.slot i) g) Q) → tVar i σ H Q := by
    intro sl o h1 h2 k1 k2
    obtain ⟨v, La, Lo, Lb, e1, e2, e3, e4⟩ := en.at h1 h2
    refine ⟨v, e1, ?_⟩
    cases o with
    | pure d =>
      cases e2 with
      | pure f => exact k1 d rfl v H H0 [] L (Step.refl sp) (.pure f) en
    | _ => exact k2 (fun _ q => by cases q) v H H0 [] L (Step.refl sp) ⟨e1, rfl⟩ en
  split at post
  · rename_i d hg; exact key hg rfl (fun d' q => by cases q; exact post) (fun q => (q _ rfl).elim)
  · rename_i d hg; exact key hg rfl (fun d' q => by cases q; exact post) (fun q => (q _ rfl).elim)
  · exact post.elim
  · exact post.elim
  · rename_i o h1 _ hg; exact key hg rfl (fun d' q => (h1 d' q).elim) (fun _ => post)
  · rename_i o h1 _ hg; exact key hg rfl (fun d' q => (h1 d' q).elim) (fun _ => post)
  · exact post.elim
/-- a binary operation on what stands for both -/
def bin (f : O → O → Option O) (a b : E) : E := fun g => (a g).bind fun r g1 => (b g1).bind fun s g2 =>
  match ob g2 r, ob g2 s with
  | some x, some y => match f x y with
    | some o => .ok (.val o) g2
    | none => .stuck
  | _, _ => .stuck
def rO (W : Wd) (f : O → O → Option O) : R2 := fun x y H Q => ∃ H0 ox oy Lx Ly o, Ex H0 H ∧ RepO W H0 H x ox Lx ∧ RepO W H0 H y oy Ly ∧ f ox oy = some o ∧ Gives W H0 H o Q
theorem tO_bin {f : O → O → Option O} {A B : E} : ∀ σ H Q, tE W vs Wx (bin f A B) σ H Q → tOp (rO W f) (tE W vs Wx A) (tE W vs Wx B) σ H Q := fun σ H Q ⟨H0, L, g, sp, en, post⟩ => by
  refine ⟨H0, L, g, sp, en, ?_⟩
  unfold bin at post
  cases ea : A g with
  | stuck => rw [ea] at post; exact post.elim
  | exc x g' => rw [ea] at post; exact post
  | ok r g1 =>
    rw [ea] at post
    intro v H1 H01 Lr L1 st1 rr en1
    refine ⟨H01, L1, g1, st1.sep.right, en1, ?_⟩
    simp only [Res.bind] at post
    cases eb : B g1 with
    | stuck => rw [eb] at post; exact post.elim
    | exc x g' =>
      rw [eb] at post
      intro c d H' H0' L' st2 rx en2
      exact post c d H' H0' L' (st1.then st2).right rx en2
    | ok s g2 =>
      rw [eb] at post
      intro w H2 H02 Ls L2 st2 rs en2
      simp only at post
      have st := st1.then st2
      have rr2 : RepR W H02 H2 σ v r Lr := rr.mono st2.ex0 (Step.keepL st1.sep st2)
      cases e1 : ob g2 r with
      | none => rw [e1] at post; exact post.elim
      | some x =>
        cases e2 : ob g2 s with
        | none => rw [e1, e2] at post; exact post.elim
        | some y =>
          rw [e1, e2] at post
          simp only at post
          cases e3 : f x y with
          | none => rw [e3] at post; exact post.elim
          | some o =>
            rw [e3] at post
            obtain ⟨Lx, hx, _⟩ := ob_rep en2 rr2 e1
            obtain ⟨Ly, hy, _⟩ := ob_rep en2 rs e2
            exact ⟨H02, x, y, Lx, Ly, o, st2.sep.ex, hx, hy, e3, gives_of (Lt := Lr ++ Ls) (by simpa [List.append_assoc] using st) en2 post⟩
theorem se_bin {op : Operator} {a b : Expr} {pos : Pos} {A B : E} {f : O → O → Option O} (ho : OpR X (binaryOp op) (rO W f)) (ha : SE W vs Wx X a A) (hb : SE W vs Wx X b B) : SE W vs Wx X (.BinOp a op b pos) (bin f A B) :=
  pe_weak (pe_op ho ha hb) tO_bin
theorem se_cmp {op : CmpOp} {a b : Expr} {pos : Pos} {A B : E} {f : O → O → Option O} (ho : OpR X (compareOp op) (rO W f)) (ha : SE W vs Wx X a A) (hb : SE W vs Wx X b B) (hm : behindInMarks op b = false) : SE W vs Wx X (.Compare a [op] [b] pos) (bin f A B) :=
  pe_weak (pe_cmpR ho ha hb hm) tO_bin
/-- a one-place operation -/
def una (f : O → Option O) (a : E) : E := fun g => (a g).bind fun r g1 => match ob g1 r with
  | some x => match f x with
    | some o => .ok (.val o) g1
    | none => .stuck
  | _ => .stuck
def uO (W : Wd) (f : O → Option O) : V → Hp → VK → Prop := fun x H Q => ∃ H0 ox Lx o, Ex H0 H ∧ RepO W H0 H x ox Lx ∧ f ox = some o ∧ Gives W H0 H o Q
theorem tO_una {f : O → Option O} {A : E} : ∀ σ H Q, tE W vs Wx (una f A) σ H Q → tE W vs Wx A σ H (fun x H1 => uO W f x H1 Q) := fun σ H Q ⟨H0, L, g, sp, en, post⟩ => by
  refine ⟨H0, L, g, sp, en, ?_⟩
  unfold una at post
  cases ea : A g with
  | stuck => rw [ea] at post; exact post.elim
  | exc x g' => rw [ea] at post; exact post
  | ok r g1 =>
    rw [ea] at post
    intro v H1 H01 Lr L1 st1 rr en1
    simp only [Res.bind] at post
    cases e1 : ob g1 r with
    | none => rw [e1] at post; exact post.elim
    | some x =>
      rw [e1] at post
      simp only at post
      cases e3 : f x with
      | none => rw [e3] at post; exact post.elim
      | some o =>
        rw [e3] at post
        obtain ⟨Lx, hx, _⟩ := ob_rep en1 rr e1
        exact ⟨H01, x, Lx, o, st1.sep.ex, hx, e3, gives_of st1 en1 post⟩
theorem se_una {op : UnaryOp} {a : Expr} {pos : Pos} {A : E} {f : O → Option O} (ho : UnR X (unaryOp op) (uO W f)) (ha : SE W vs Wx X a A) : SE W vs Wx X (.UnaryOp op a pos) (una f A) :=
  pe_weak (pe_un ho ha) tO_una
end
end VI
namespace VI
open PySem PySem.Spec PyProof.Rows L2
/-! ### argument lists -/
section
variable {W : Wd} {vs : List (Option V)} {Wx : WX} {X : Cx} {n : Nat}
def evs : List E → G → Res (List R)
  | [], g => .ok [] g
  | a :: as, g => (a g).bind fun r g1 => (evs as g1).bind fun rs g2 => .ok (r :: rs) g2
theorem sa_nil : SA W vs Wx X [] (evs []) := by
  refine pa_weak pa_nil fun σ H Q ⟨H0, L, g, sp, en, post⟩ => ?_
  exact post [] H H0 [] L (Step.refl sp) .nil en
theorem sa_cons {e : Expr} {es : List Expr} {A : E} {As : List E} (ha : SE W vs Wx X e A) (hr : SA W vs Wx X es (evs As)) (hs : starEach (e :: es) X.env = (false, eval e X.env) :: starEach es X.env := by rfl) : SA W vs Wx X (e :: es) (evs (A :: As)) := by
  refine pa_weak (pa_cons ha hr hs) fun σ H Q ⟨H0, L, g, sp, en, post⟩ => ?_
  refine ⟨H0, L, g, sp, en, ?_⟩
  rw [evs] at post
  cases ea : A g with
  | stuck => rw [ea] at post; exact post.elim
  | exc x g' => rw [ea] at post; exact post
  | ok r g1 =>
    rw [ea] at post
    intro v H1 H01 Lr L1 st1 rr en1
    refine ⟨H01, L1, g1, st1.sep.right, en1, ?_⟩
    simp only [Res.bind] at post
    cases eb : evs As g1 with
    | stuck => rw [eb] at post; exact post.elim
    | exc x g' =>
      rw [eb] at post
      intro c d H' H0' L' st2 rx en2
      exact post c d H' H0' L' (st1.then st2).right rx en2
    | ok s g2 =>
      rw [eb] at post
      intro w H2 H02 Ls L2 st2 rs en2
      have st := st1.then st2
      have rr2 : RepR W H02 H2 σ v r Lr := rr.mono st2.ex0 (Step.keepL st1.sep st2)
      exact post (v :: w) H2 H02 (Lr ++ Ls) L2 (by simpa [List.append_assoc] using st) (.cons rr2 rs) en2
def setO (g : G) (i : Nat) (o : O) : G := match g[i]? with
  | some sl => g.set i (sl.wth o)
  | none => g
/-- results that go into other things: frozen -/
def frzs : List R → G → Option (List D × G)
  | [], g => some ([], g)
  | .val o :: rs, g => if o.full then (frzs rs g).map fun p => (o.er :: p.1, p.2) else none
  | .slot i :: rs, g => match ob g (.slot i) with
    | some o => if o.full then (frzs rs (setO g i (.pure o.er))).map fun p => (o.er :: p.1, p.2) else none
    | none => none
theorem perm_mid {α : Type} (A B C : List α) : (A ++ (B ++ C)).Perm (B ++ (A ++ C)) := by
  rw [← List.append_assoc, ← List.append_assoc]
  exact List.Perm.append_right C List.perm_append_comm
theorem perm_mid4 {α : Type} (A B C D' : List α) : (A ++ (B ++ (C ++ D'))).Perm (C ++ (A ++ (B ++ D'))) := by
  have h1 : (A ++ (B ++ (C ++ D'))).Perm (A ++ (C ++ (B ++ D'))) := (perm_mid B C D').append_left A
  exact h1.trans (perm_mid A C (B ++ D'))
theorem frzs_ok {σ : L2.St} {H1 : Hp} : ∀ {rs : List R} {us : List V} {Lr : List Addr} {g1 : G} {L1 : List Addr} {H01 : Hp} {ds : List D} {g2 : G}, RepRs W H01 H1 σ us rs Lr → Sep H01 H1 (Lr ++ L1) → EnvR W H01 H1 vs σ g1 L1 → frzs rs g1 = some (ds, g2) →
    ∃ H02 L2, Step H01 H1 (Lr ++ L1) H02 H1 L2 ∧ RepFs W H02 us ds ∧ EnvR W H02 H1 vs σ g2 L2
  | [], _, _, g1, L1, H01, ds, g2, .nil, sp, en, e => by
    cases e
    exact ⟨H01, L1, by simpa using Step.refl (by simpa using sp), .nil, en⟩
  | .val o :: rs, _, _, g1, L1, H01, ds, g2, .cons (v := u) (Lr := Lo) (L := Lt) h r, sp, en, e => by
    have hf : o.full = true := by
      rw [frzs] at e; split at e
      · assumption
      · cases e
    rw [frzs, if_pos hf] at e
    obtain ⟨p, e1, e2⟩ := Option.map_eq_some_iff.mp e
    obtain ⟨ds', g'⟩ := p
    cases e2
    have sp' : Sep H01 H1 (Lo ++ (Lt ++ L1)) := by simpa [List.append_assoc] using sp
    have s1 := Step.freeze sp'
    have hsub : Ex H01 (fun a => if a ∈ Lo then H1 a else H01 a) := s1.ex0
    have ru : RepF W (fun a => if a ∈ Lo then H1 a else H01 a) u o.er := RepO.toF hsub h hf fun a ha w hw => by simp [ha, hw]
    obtain ⟨H02, L2, s2, rf, en2⟩ := frzs_ok (rs := rs) (r.mono hsub fun _ _ _ q => q) s1.sep (en.mono hsub fun _ _ _ q => q) e1
    exact ⟨H02, L2, by simpa [List.append_assoc] using s1.trans s2, .cons (ru.mono s2.ex0) rf, en2⟩
  | .slot i :: rs, _, _, g1, L1, H01, ds, g2, .cons (v := u) (Lr := L0) (L := Lt) h r, sp, en, e => by
    obtain ⟨hu, rfl⟩ := h
    cases eo : ob g1 (.slot i) with
    | none => rw [frzs, eo] at e; cases e
    | some o =>
      rw [frzs, eo] at e
      simp only at e
      have hf : o.full = true := by
        split at e
        · assumption
        · cases e
      rw [if_pos hf] at e
      obtain ⟨p, e1, e2⟩ := Option.map_eq_some_iff.mp e
      obtain ⟨ds', g'⟩ := p
      cases e2
      simp only [ob, Option.bind_eq_some_iff] at eo
      obtain ⟨sl, eo1, eo2⟩ := eo
      obtain ⟨v', La, Lo, Lb, h1, h2, h3, h4⟩ := en.at eo1 eo2
      rw [h1] at hu; cases hu
      subst h3
      have sp' : Sep H01 H1 (Lo ++ (Lt ++ (La ++ Lb))) := by
        refine sp.perm ?_
        simpa [List.append_assoc] using perm_mid4 Lt La Lo Lb
      have s1 := Step.freeze sp'
      have hsub : Ex H01 (fun a => if a ∈ Lo then H1 a else H01 a) := s1.ex0
      have ru : RepF W (fun a => if a ∈ Lo then H1 a else H01 a) u o.er := RepO.toF hsub h2 hf fun a ha w hw => by simp [ha, hw]
      have en1 := h4 (fun a => if a ∈ Lo then H1 a else H01 a) H1 hsub (fun _ _ _ q => q) (.pure o.er) [] (.pure ru)
      have eset : setO g1 i (.pure o.er) = g1.set i (sl.wth (.pure o.er)) := by simp only [setO, eo1]
      rw [eset] at e1
      obtain ⟨H02, L2, s2, rf, en2⟩ := frzs_ok (rs := rs) (L1 := La ++ ([] ++ Lb)) (r.mono hsub fun _ _ _ q => q) (by simpa using s1.sep) en1 e1
      refine ⟨H02, L2, ?_, .cons (ru.mono s2.ex0) rf, en2⟩
      have s3 : Step H01 H1 (Lo ++ (Lt ++ (La ++ Lb))) H02 H1 L2 := by
        refine s1.trans ?_
        simpa using s2
      have hm : ∀ a, a ∈ ([] ++ Lt ++ (La ++ (Lo ++ Lb))) ↔ a ∈ Lo ++ (Lt ++ (La ++ Lb)) := fun a => by
        have := (perm_mid4 Lt La Lo Lb).mem_iff (a := a)
        simpa [List.append_assoc] using this
      exact ⟨s3.ex0, fun a o h hn => s3.keep a o h fun z => hn ((hm a).mpr z), fun a h => (s3.new0 a h).imp_right fun z => z.imp_right (hm a).mpr, fun a h => (s3.newL a h).imp_left (hm a).mpr, s3.sep⟩
theorem Step.from {H0 H H0' H' : Hp} {L L1 L2 : List Addr} (s : Step H0 H L1 H0' H' L2) (h : ∀ a, a ∈ L1 ↔ a ∈ L) : Step H0 H L H0' H' L2 :=
  ⟨s.ex0, fun a o e hn => s.keep a o e fun z => hn ((h a).mp z), fun a e => (s.new0 a e).imp_right fun z => z.imp_right (h a).mp, fun a e => (s.newL a e).imp_left (h a).mp, s.sep⟩
/-- an end by a list of frozen things -/
def PostF (W : Wd) (vs : List (Option V)) (σ : L2.St) (H0 H : Hp) (L : List Addr) (ds : List D) (g' : G) (Q : List V → Hp → Prop) : Prop :=
  ∀ us H' H0' L', Step H0 H L H0' H' L' → RepFs W H0' us ds → EnvR W H0' H' vs σ g' L' → Q us H'
def tupE (A : G → Res (List R)) : E := fun g => (A g).bind fun rs g1 => match frzs rs g1 with
  | some (ds, g2) => if ds.length ≤ 1000 then .ok (.val (.pure (.tup ds))) g2 else .stuck
  | none => .stuck
def lstE (A : G → Res (List R)) : E := fun g => (A g).bind fun rs g1 => match frzs rs g1 with
  | some (ds, g2) => if ds.length ≤ 1000 then .ok (.val (.lst ds)) g2 else .stuck
  | none => .stuck
theorem size1000 {m : Nat} (h : m ≤ 1000) : m ≤ sizeLine := Nat.le_of_lt (small1000 h)
theorem tA_frz {A : G → Res (List R)} {k : List D → O} {σ : L2.St} {H : Hp} {Q : VK} {R' : List V → Hp → Prop} (hk : ∀ H0 H us ds, Ex H0 H → RepFs W H0 us ds → ds.length ≤ 1000 → Gives W H0 H (k ds) Q → R' us H)
    (h : tE W vs Wx (fun g => (A g).bind fun rs g1 => match frzs rs g1 with
      | some (ds, g2) => if ds.length ≤ 1000 then .ok (.val (k ds)) g2 else .stuck
      | none => .stuck) σ H Q) : tA W vs Wx A σ H R' := by
  obtain ⟨H0, L, g, sp, en, post⟩ := h
  refine ⟨H0, L, g, sp, en, ?_⟩
  cases ea : A g with
  | stuck => simp only [ea, Res.bind] at post; exact post.elim
  | exc x g' => simp only [ea, Res.bind] at post; exact post
  | ok rs g1 =>
    simp only [ea, Res.bind] at post
    intro us H1 H01 Lr L1 st1 rr en1
    cases ef : frzs rs g1 with
    | none => simp only [ef] at post; exact post.elim
    | some p =>
      obtain ⟨ds, g2⟩ := p
      simp only [ef] at post
      by_cases hl : ds.length ≤ 1000
      · rw [if_pos hl] at post
        obtain ⟨H02, L2, s2, rf, en2⟩ := frzs_ok rr st1.sep en1 ef
        exact hk H02 H1 us ds s2.sep.ex rf hl (gives_of (Lt := []) (by simpa using st1.trans s2) en2 post)
      · rw [if_neg hl] at post; exact post.elim
theorem se_tup {es : List Expr} {x1 : _} {pos : Pos} {A : G → Res (List R)} (h : SA W vs Wx X es A) : SE W vs Wx X (.Tuple es x1 pos) (tupE A) :=
  pe_weak (pe_tup h) fun σ H Q q => tA_frz (k := fun ds => .pure (.tup ds)) (fun H0 H us ds ex rf hl g => ⟨by rw [rf.len]; exact size1000 hl, fun p hp => g.newT ex rf hp⟩) q
theorem se_lst {es : List Expr} {pos : Pos} {A : G → Res (List R)} (h : SA W vs Wx X es A) : SE W vs Wx X (.List es pos) (lstE A) :=
  pe_weak (pe_lst h) fun σ H Q q => tA_frz (k := fun ds => .lst ds) (fun H0 H us ds ex rf hl g => ⟨by rw [rf.len]; exact size1000 hl, fun p hp => g.newL ex rf hp⟩) q
/-! ### calls -/
inductive CRes where
  | ok (o : O) (os : List O) | exc (x : D) (os : List O) | stuck
abbrev Callee := Nat → List O → CRes
def PostC (W : Wd) (us : List V) (H0 H : Hp) (L : List Addr) : CRes → VK → XK → Prop
  | .ok o os', Q, _ => ∀ v H' H0' Lo La, Step H0 H L H0' H' (Lo ++ La) → RepO W H0' H' v o Lo → RepOs W H0' H' us os' La → Q v H'
  | .exc x os', _, Ek => ∀ c d H' H0' La, Step H0 H L H0' H' La → RepX W H0' H' x c d → RepOs W H0' H' us os' La → Ek c d H'
  | .stuck, _, _ => False
def spD (W : Wd) (C : Callee) (f : Nat) (m : Nat) : Sp := fun us H Q Ek => us.length = m ∧ ∃ H0 L os, Sep H0 H L ∧ RepOs W H0 H us os L ∧ PostC W us H0 H L (C f os) Q Ek
def takes : List R → G → Option (List O × G)
  | [], g => some ([], g)
  | .val o :: rs, g => (takes rs g).map fun p => (o :: p.1, p.2)
  | .slot i :: rs, g => match ob g (.slot i) with
    | some .hole => none
    | some o => (takes rs (setO g i .hole)).map fun p => (o :: p.1, p.2)
    | none => none
def puts : List R → List O → G → G
  | .val _ :: rs, _ :: os, g => puts rs os g
  | .slot i :: rs, o :: os, g => puts rs os (setO g i o)
  | _, _, g => g
theorem takes_ok {σ : L2.St} {H01 H1 : Hp} : ∀ {rs : List R} {us : List V} {Lr : List Addr} {g1 : G} {L1 : List Addr} {os : List O} {g2 : G}, RepRs W H01 H1 σ us rs Lr → EnvR W H01 H1 vs σ g1 L1 → takes rs g1 = some (os, g2) →
    ∃ La L2, RepOs W H01 H1 us os La ∧ EnvR W H01 H1 vs σ g2 L2 ∧ (Lr ++ L1).Perm (La ++ L2)
  | [], _, _, g1, L1, os, g2, .nil, en, e => by
    cases e
    exact ⟨[], L1, .nil, en, .refl _⟩
  | .val o :: rs, _, _, g1, L1, os, g2, .cons (Lr := Lo) (L := Lt) h r, en, e => by
    rw [takes] at e
    obtain ⟨⟨os', g'⟩, e1, e2⟩ := Option.map_eq_some_iff.mp e
    cases e2
    obtain ⟨La, L2, ro, en2, pm⟩ := takes_ok r en e1
    refine ⟨Lo ++ La, L2, .cons h ro, en2, ?_⟩
    simpa [List.append_assoc] using pm.append_left Lo
  | .slot i :: rs, _, _, g1, L1, os, g2, .cons (v := u) (Lr := L0) (L := Lt) h r, en, e => by
    obtain ⟨hu, rfl⟩ := h
    cases eo : ob g1 (.slot i) with
    | none => rw [takes, eo] at e; cases e
    | some o =>
      have e' : (takes rs (setO g1 i .hole)).map (fun p => (o :: p.1, p.2)) = some (os, g2) := by
        rw [takes, eo] at e
        cases o <;> first | exact e | cases e
      obtain ⟨⟨os', g'⟩, e1, e2⟩ := Option.map_eq_some_iff.mp e'
      cases e2
      simp only [ob, Option.bind_eq_some_iff] at eo
      obtain ⟨sl, eo1, eo2⟩ := eo
      obtain ⟨v', La, Lo, Lb, h1, h2, h3, h4⟩ := en.at eo1 eo2
      rw [h1] at hu; cases hu
      subst h3
      have en1 := h4 H01 H1 (Ex.refl _) (fun _ _ _ q => q) .hole [] .hole
      have eset : setO g1 i .hole = g1.set i (sl.wth .hole) := by simp only [setO, eo1]
      rw [eset] at e1
      obtain ⟨Lc, L2, ro, en2, pm⟩ := takes_ok r en1 e1
      refine ⟨Lo ++ Lc, L2, .cons h2 ro, en2, ?_⟩
      have p1 : ([] ++ Lt ++ (La ++ (Lo ++ Lb))).Perm (Lo ++ (Lt ++ (La ++ Lb))) := by simpa [List.append_assoc] using perm_mid4 Lt La Lo Lb
      refine p1.trans ?_
      rw [List.append_assoc]
      exact List.Perm.append_left Lo (by simpa using pm)
inductive Toks (σ : L2.St) : List V → List R → Prop
  | nil : Toks σ [] []
  | val {v : V} {o : O} {vs : List V} {rs : List R} : Toks σ vs rs → Toks σ (v :: vs) (.val o :: rs)
  | slot {v : V} {i : Nat} {vs : List V} {rs : List R} : σ[i]? = some (some v) → Toks σ vs rs → Toks σ (v :: vs) (.slot i :: rs)
theorem RepRs.toks {H0 H : Hp} {σ : L2.St} : ∀ {us : List V} {rs : List R} {L : List Addr}, RepRs W H0 H σ us rs L → Toks σ us rs
  | _, _, _, .nil => .nil
  | _, .val o :: _, _, .cons _ r => .val r.toks
  | _, .slot i :: _, _, .cons h r => .slot h.1 r.toks
theorem puts_ok {σ : L2.St} {H0' H' : Hp} : ∀ {rs : List R} {us : List V} {os : List O} {La : List Addr} {g : G} {L2 : List Addr}, Toks σ us rs → RepOs W H0' H' us os La → EnvR W H0' H' vs σ g L2 →
    ∃ Lx L3, EnvR W H0' H' vs σ (puts rs os g) L3 ∧ (La ++ L2).Perm (Lx ++ L3)
  | _, _, _, _, g, L2, .nil, .nil, en => ⟨[], L2, by simpa [puts] using en, .refl _⟩
  | _, _, _, _, g, L2, .val t, .cons (Lo := Lo) (L := Lt) h r, en => by
    obtain ⟨Lx, L3, en3, pm⟩ := puts_ok t r en
    refine ⟨Lo ++ Lx, L3, by simpa [puts] using en3, ?_⟩
    simpa [List.append_assoc] using pm.append_left Lo
  | .slot i :: _, _, _, _, g, L2, .slot hu t, .cons (o := o) (Lo := Lo) (L := Lt) h r, en => by
    cases eg : g[i]? with
    | none =>
      obtain ⟨Lx, L3, en3, pm⟩ := puts_ok t r en
      refine ⟨Lo ++ Lx, L3, by simpa [puts, setO, eg] using en3, ?_⟩
      simpa [List.append_assoc] using pm.append_left Lo
    | some sl =>
      cases es : sl.obj with
      | none =>
        have : sl = .un := by cases sl <;> first | rfl | cases es
        subst this
        obtain ⟨Lx, L3, en3, pm⟩ := puts_ok t r en
        have e2 : setO g i o = g := by
          simp only [setO, eg, Slot.wth]
          exact List.ext_getElem? fun j => by
            by_cases hj : j = i
            · subst hj; rw [List.getElem?_set_self']; simp [eg]
            · rw [List.getElem?_set_ne (Ne.symm hj)]
        refine ⟨Lo ++ Lx, L3, by simpa [puts, e2] using en3, ?_⟩
        simpa [List.append_assoc] using pm.append_left Lo
      | some o1 =>
        obtain ⟨v', La, L1, Lb, h1, h2, h3, h4⟩ := en.at eg es
        rw [h1] at hu; cases hu
        subst h3
        have en1 := h4 H0' H' (Ex.refl _) (fun _ _ _ q => q) o Lo h
        have e2 : setO g i o = g.set i (sl.wth o) := by simp only [setO, eg]
        obtain ⟨Lx, L3, en3, pm⟩ := puts_ok t r en1
        refine ⟨L1 ++ Lx, L3, by simpa [puts, e2] using en3, ?_⟩
        have p1 : (Lo ++ Lt ++ (La ++ (L1 ++ Lb))).Perm (L1 ++ (Lt ++ (La ++ (Lo ++ Lb)))) := by
          have a1 : (Lo ++ Lt ++ (La ++ (L1 ++ Lb))).Perm (L1 ++ (Lo ++ Lt ++ (La ++ Lb))) := by
            simpa [List.append_assoc] using perm_mid4 (Lo ++ Lt) La L1 Lb
          refine a1.trans (List.Perm.append_left L1 ?_)
          have a2 : (Lt ++ (La ++ (Lo ++ Lb))).Perm (Lo ++ (Lt ++ (La ++ Lb))) := perm_mid4 Lt La Lo Lb
          simpa [List.append_assoc] using a2.symm
        refine p1.trans ?_
        rw [List.append_assoc]
        exact List.Perm.append_left L1 (by simpa [List.append_assoc] using pm)
/-- what is known once the arguments stand: the call itself -/
def callR (C : Callee) (f : Nat) (rs : List R) (g1 : G) : Res R := match takes rs g1 with
  | some (os, g2) => match C f os with
    | .ok o os' => .ok (.val o) (puts rs os' g2)
    | .exc x os' => .exc x (puts rs os' g2)
    | .stuck => .stuck
  | none => .stuck
theorem callR_ok {C : Callee} {f : Nat} {m : Nat} {σ : L2.St} {H0 H H01 H1 : Hp} {L Lr L1 : List Addr} {g1 : G} {us : List V} {rs : List R} {Q : VK} (st1 : Step H0 H L H01 H1 (Lr ++ L1)) (rr : RepRs W H01 H1 σ us rs Lr) (en1 : EnvR W H01 H1 vs σ g1 L1)
    (hm : us.length = m) (post : PostE W vs Wx σ H0 H L (callR C f rs g1) Q) : spD W C f m us H1 Q (WE Wx σ) := by
  unfold callR at post
  cases et : takes rs g1 with
  | none => rw [et] at post; exact post.elim
  | some p =>
    obtain ⟨os, g2⟩ := p
    rw [et] at post
    simp only at post
    obtain ⟨La, L2, ro, en2, pm⟩ := takes_ok rr en1 et
    have sp1 : Sep H01 H1 (L2 ++ La) := st1.sep.perm (pm.trans List.perm_append_comm)
    refine ⟨hm, H01, La, os, sp1.right, ro, ?_⟩
    have fr : ∀ {H0' H' : Hp} {La' : List Addr}, Step H01 H1 La H0' H' La' → Step H0 H L H0' H' (L2 ++ La') := fun b =>
      st1.trans ((Step.frame sp1 b).from fun a => (pm.trans List.perm_append_comm).mem_iff.symm)
    cases ec : C f os with
    | stuck => rw [ec] at post; exact post.elim
    | ok o os' =>
      rw [ec] at post
      intro v H' H0' Lo La' b rv ro'
      have st := fr b
      have en3 := en2.mono b.ex0 (Step.keepL sp1 b)
      obtain ⟨Lx, L3, en4, pm2⟩ := puts_ok rr.toks ro' en3
      have st2 : Step H0 H L H0' H' (Lx ++ (Lo ++ L3)) := by
        refine st.perm ?_
        have a1 : (L2 ++ (Lo ++ La')).Perm (Lo ++ (La' ++ L2)) := by
          have := List.perm_append_comm (l₁ := L2) (l₂ := Lo ++ La')
          simpa [List.append_assoc] using this
        exact (a1.trans (List.Perm.append_left Lo pm2)).trans (perm_mid Lo Lx L3)
      exact post v H' H0' Lo L3 st2.right rv en4
    | exc x os' =>
      rw [ec] at post
      intro c d H' H0' La' b rx ro'
      have st := fr b
      have en3 := en2.mono b.ex0 (Step.keepL sp1 b)
      obtain ⟨Lx, L3, en4, pm2⟩ := puts_ok rr.toks ro' en3
      have st2 : Step H0 H L H0' H' (Lx ++ L3) := st.perm (List.perm_append_comm.trans pm2)
      exact post c d H' H0' L3 st2.right rx en4
theorem RepRs.len {H0 H : Hp} {σ : L2.St} : ∀ {us : List V} {rs : List R} {L : List Addr}, RepRs W H0 H σ us rs L → us.length = rs.length
  | _, _, _, .nil => rfl
  | _, _, _, .cons _ r => by simp [r.len]
theorem tA_call {C : Callee} {f : Nat} {m : Nat} {A : G → Res (List R)} {σ : L2.St} {H : Hp} {Q : VK} (h : tE W vs Wx (fun g => (A g).bind fun rs g1 => if rs.length = m then callR C f rs g1 else .stuck) σ H Q) : tA W vs Wx A σ H (fun us H1 => spD W C f m us H1 Q (WE Wx σ)) := by
  obtain ⟨H0, L, g, sp, en, post⟩ := h
  refine ⟨H0, L, g, sp, en, ?_⟩
  cases ea : A g with
  | stuck => simp only [ea, Res.bind] at post; exact post.elim
  | exc x g' => simp only [ea, Res.bind] at post; exact post
  | ok rs g1 =>
    simp only [ea, Res.bind] at post
    intro us H1 H01 Lr L1 st1 rr en1
    by_cases hl : rs.length = m
    · rw [if_pos hl] at post
      exact callR_ok st1 rr en1 (by rw [rr.len]; exact hl) post
    · rw [if_neg hl] at post; exact post.elim
end
end VI
namespace L2
open PySem PySem.Spec PyProof.Rows
section
variable {X : Cx} {CX : CXT} {k : Nat} {f C : Addr} {fd : FuncData} {ps : List Str} {sp : Sp} {E : St → XK} {x m : Str} {p pos apos : Pos} {e o : Expr} {es : List Expr} {ta : TE} {t : TA}
theorem pe_callS0 (F : FnOk X.prog X.w X.K X.mg X.base CX k f fd ps sp) (hr : Room k X.A) (hg : Gl X x) (hm : X.mg x = some (.ref f)) (hk : PySem.W.keepIn X.K (.ref f) = true) (hb : Binds X.K fd ps []) (hx : ∀ σ, PassesAt CX X σ (E σ))
    (hdb : (x == ("__debug__" : Str)) = false := by decide) : PE X (.Call (.Name x p) [] [] pos) (tCallS sp E tNil) := by
  refine ⟨fun pins s σ H Q I h => ?_⟩
  refine wpAny_Call_Name_kw (ld_glob I hg hm ?_ hdb)
  exact PySem.W.callWith_K0 I.kIn hk (run_fnS (us := []) F hr hb (hx σ) I .nil h)
/-- o.m(..), the class by the receiver -/
def tMethD (X : Cx) (CX : CXT) (k : Nat) (m : Str) (E : St → XK) (ta : TE) (t : TA) : TE := fun σ H Q => ta σ H fun x H1 => ∃ (C f : Addr) (fd : FuncData) (ps : List Str) (sp : Sp) (a dx : Addr) (fs : List (Str × V)), Cls X.K C ∧ Meth X.K C m f ∧
  FnOk X.prog X.w X.K X.mg X.base CX k f fd ps sp ∧ Binds X.K fd ps [] ∧ x = .ref a ∧ H1 a = some (.ins C dx fs) ∧ fs.lookup m = none ∧ t σ H1 fun vs H2 => sp (x :: vs) H2 Q (E σ)
theorem pe_methD {pl : Sem Bool} (he : PE X o ta) (hr : Room k X.A) (hx : ∀ σ, PassesAt CX X σ (E σ)) (ha : PA X (e :: es) t)
    (hst : starEach (e :: es) X.env = (false, eval e X.env) :: starEach es X.env := by rfl) (hpl : (backTo pos (starEach es X.env)).any (·.1) = false := by rfl)
    (ht : eval (.Call (.Attribute o m apos) (e :: es) [] pos) X.env = (do
      let ov ← eval o X.env
      standAt apos.atName
      let (f, first) ← holding [ov] (getMethod ov m pl)
      callWith pos f first (backTo pos (starEach (e :: es) X.env)) (backToKw pos (keywordEach [] X.env))) := by rfl) :
    PE X (.Call (.Attribute o m apos) (e :: es) [] pos) (tMethD X CX k m E ta t) := by
  refine ⟨fun pins s σ H Q I h => ?_⟩
  refine PySem.W.methodCall_KW (pl := pl) (thn (he.run pins s σ H _ I h) fun u s1 ⟨x, H1, I1, rx, C, f, fd, ps, sp, a, dx, fs, c, hm, F, hb, ex, ea, l, q⟩ => ?_) ht
  subst ex
  obtain rfl : u = Value.ref a := rx
  refine getmeth_ok I1 ea c hm l ?_
  refine PySem.W.callWith_K (first := [.ref a]) (h₀ := X.base) I.ok.mod.kin hm.kp (thn (ha.run pos pins s1 σ H1 _ I1 q) fun us s2 ⟨vs, H2, I2, r, q2⟩ => ⟨I2.kIn, ?_⟩) hst hpl
  exact run_fnS (us := .ref a :: us) (vs := .ref a :: vs) F hr hb (hx σ) I2 (.cons rfl r) q2
theorem pe_methD0 {pl : Sem Bool} (he : PE X o ta) (hr : Room k X.A) (hx : ∀ σ, PassesAt CX X σ (E σ))
    (ht : eval (.Call (.Attribute o m apos) [] [] pos) X.env = (do
      let ov ← eval o X.env
      standAt apos.atName
      let (f, first) ← holding [ov] (getMethod ov m pl)
      callWith pos f first (backTo pos (starEach [] X.env)) (backToKw pos (keywordEach [] X.env))) := by rfl) :
    PE X (.Call (.Attribute o m apos) [] [] pos) (tMethD X CX k m E ta tNil) := by
  refine ⟨fun pins s σ H Q I h => ?_⟩
  refine PySem.W.methodCall_KW (pl := pl) (thn (he.run pins s σ H _ I h) fun u s1 ⟨x, H1, I1, rx, C, f, fd, ps, sp, a, dx, fs, c, hm, F, hb, ex, ea, l, q⟩ => ?_) ht
  subst ex
  obtain rfl : u = Value.ref a := rx
  refine getmeth_ok I1 ea c hm l ?_
  exact PySem.W.callWith_K0 (first := [.ref a]) I1.kIn hm.kp (run_fnS (us := [.ref a]) (vs := [.ref a]) F hr hb (hx σ) I1 (.cons rfl .nil) q)
def tMakeS (C : Addr) (sp : Sp) (E : St → XK) (t : TA) : TE := fun σ H Q => t σ H fun vs H1 => ∀ x dx, H1 x = none → H1 dx = none → dx ≠ x →
  sp (.ref x :: vs) (upd (upd H1 dx (.own x)) x (.ins C dx [])) (fun v H2 => v = .non ∧ Q (.ref x) H2) (E σ)
theorem run_makeS {pins : List (Addr × Obj)} {σ : St} {H : Hp} {s : Shared} {Q : VK} {us : List Value} {vs : List V} (M : Mk X.K C f) (F : FnOk X.prog X.w X.K X.mg X.base CX k f fd ps sp) (hr : Room (k + 1) X.A) (hb : Binds X.K fd ps [])
    (hx : PassesAt CX X σ (E σ)) (I : Inv X pins σ H s) (r : Vals vs us)
    (h : ∀ x dx, H x = none → H dx = none → dx ≠ x → sp (.ref x :: vs) (upd (upd H dx (.own x)) x (.ins C dx [])) (fun v H2 => v = .non ∧ Q (.ref x) H2) (E σ)) :
    wpAny (model X.prog X.w) X.A (call (.ref C) us) (EP X pins σ Q) X.xe s := by
  have hq := h (s.heap.objs.size + 1) s.heap.objs.size (I.hok.fresh (Nat.le_succ _)) (I.hok.fresh (Nat.le_refl _)) (Nat.ne_of_lt (Nat.lt_succ_self _))
  have I2 := Inv.made (C := C) I
  have r2 : Vals (V.ref (s.heap.objs.size + 1) :: vs) (Value.ref (s.heap.objs.size + 1) :: us) := .cons rfl r
  have hl : (Value.ref (s.heap.objs.size + 1) :: us).length = ps.length := by
    have e := r2.length
    rw [F.len _ _ _ _ hq] at e
    exact e.symm
  have b := hb _ (Value.ref (s.heap.objs.size + 1) :: us) I2.kIn (by rw [List.append_nil]; exact hl)
  rw [List.append_nil] at b
  refine wpAny_call (make_map (f := f) I.kIn M.makes M.init (beq_iff_eq.mp M.fn) (codeAny_mono (F.run _ X.stack _ _ ⟨Value.ref (s.heap.objs.size + 1) :: us, []⟩ (Value.ref (s.heap.objs.size + 1) :: us) _ _ (E σ) (hr.make C us [])
    (I2.env0.make C us []) b r2 hq) fun r s' hq' => ?_))
  cases r with
  | error e => exact hx pins _ _ e s' I2 hq'
  | ok fl =>
    cases fl with
    | ret u =>
      obtain ⟨v, H', I3, rv, ev, q3⟩ := I2.after hq'
      subst ev
      exact ⟨rv, ⟨V.ref (s.heap.objs.size + 1), H', I3, rfl, q3⟩⟩
    | next => exact False.elim hq'
    | brk => exact False.elim hq'
    | cont => exact False.elim hq'
theorem pe_makeS (M : Mk X.K C f) (F : FnOk X.prog X.w X.K X.mg X.base CX k f fd ps sp) (hr : Room (k + 1) X.A) (hg : Gl X x) (hm : X.mg x = some (.ref C)) (hb : Binds X.K fd ps []) (hx : ∀ σ, PassesAt CX X σ (E σ))
    (ha : PA X (e :: es) t) (hdb : (x == ("__debug__" : Str)) = false := by decide) (he : starEach (e :: es) X.env = (false, eval e X.env) :: starEach es X.env := by rfl) (hpl : (backTo pos (starEach es X.env)).any (·.1) = false := by rfl) :
    PE X (.Call (.Name x p) (e :: es) [] pos) (tMakeS C sp E t) := by
  refine ⟨fun pins s σ H Q I h => ?_⟩
  refine wpAny_Call_Name_kw (ld_glob I hg hm ?_ hdb)
  refine PySem.W.callWith_K (h₀ := X.base) I.ok.mod.kin M.kp (thn (ha.run pos pins s σ H _ I h) fun us s1 ⟨vs, H1, I1, r, q⟩ => ⟨I1.kIn, ?_⟩) he hpl
  exact run_makeS M F hr hb (hx σ) I1 r q
end
end L2
namespace VI
open PySem PySem.Spec PyProof.Rows L2
section
variable {W : Wd} {vs : List (Option V)} {Wx : WX} {X : Cx} {n : Nat}
def FnAt (W : Wd) (C : Callee) (P : Program) (w : World) (mg : Str → Option Value) (base : Heap) (k : Nat) (x : Str) (fn : Nat) (m : Nat) : Prop :=
  ∃ (f : Addr) (fd : FuncData) (ps : List Str), mg x = some (.ref f) ∧ PySem.W.keepIn W.K (.ref f) = true ∧ FnOk P w W.K mg base (L2.CX P w) k f fd ps (spD W C fn m) ∧ Binds W.K fd ps []
theorem evs_len : ∀ {As : List E} {g : G} {rs : List R} {g' : G}, evs As g = .ok rs g' → rs.length = As.length
  | [], g, rs, g', e => by cases e; rfl
  | A :: As, g, rs, g', e => by
    rw [evs] at e
    cases ea : A g with
    | stuck => rw [ea] at e; cases e
    | exc x g1 => rw [ea] at e; cases e
    | ok r g1 =>
      rw [ea] at e
      simp only [Res.bind] at e
      cases eb : evs As g1 with
      | stuck => rw [eb] at e; cases e
      | exc x g1 => rw [eb] at e; cases e
      | ok rs' g2 =>
        rw [eb] at e
        cases e
        simp [evs_len eb]
def callA (C : Callee) (fn : Nat) (As : List E) : E := fun g => (evs As g).bind fun rs g1 => callR C fn rs g1
theorem tA_callA {C : Callee} {fn : Nat} {As : List E} {σ : L2.St} {H : Hp} {Q : VK} (h : tE W vs Wx (callA C fn As) σ H Q) : tA W vs Wx (evs As) σ H (fun us H1 => spD W C fn As.length us H1 Q (WE Wx σ)) := by
  refine tA_call ?_
  obtain ⟨H0, L, g, sp, en, post⟩ := h
  refine ⟨H0, L, g, sp, en, ?_⟩
  unfold callA at post
  cases ea : evs As g with
  | stuck => rw [ea] at post; exact post.elim
  | exc x g' => rw [ea] at post; simp only [ea]; exact post
  | ok rs g1 =>
    rw [ea] at post
    simp only [ea, Res.bind] at post ⊢
    rw [if_pos (evs_len ea)]
    exact post
theorem se_call {C : Callee} {k m fn : Nat} {x : Str} {p pos : Pos} {e : Expr} {es : List Expr} {As : List E} (cx : Ctx W k Wx X) (hf : FnAt W C X.prog X.w X.mg X.base k x fn m) (ha : SA W vs Wx X (e :: es) (evs As)) (hm : As.length = m) (hg : Gl X x)
    (hdb : (x == ("__debug__" : Str)) = false := by decide) (he : starEach (e :: es) X.env = (false, eval e X.env) :: starEach es X.env := by rfl) (hpl : (backTo pos (starEach es X.env)).any (·.1) = false := by rfl) :
    SE W vs Wx X (.Call (.Name x p) (e :: es) [] pos) (callA C fn As) := by
  obtain ⟨f, fd, ps, h1, h2, F, b⟩ := hf
  subst hm
  rw [← cx.K] at h2 F b
  exact pe_weak (pe_callS F cx.room hg h1 h2 b (fun σ => passAt cx.tk σ) ha hdb he hpl) fun σ H Q q => tA_callA q
theorem se_call0 {C : Callee} {k fn : Nat} {x : Str} {p pos : Pos} (cx : Ctx W k Wx X) (hf : FnAt W C X.prog X.w X.mg X.base k x fn 0) (hg : Gl X x)
    (hdb : (x == ("__debug__" : Str)) = false := by decide) : SE W vs Wx X (.Call (.Name x p) [] [] pos) (callA C fn []) := by
  obtain ⟨f, fd, ps, h1, h2, F, b⟩ := hf
  rw [← cx.K] at h2 F b
  refine pe_weak (pe_callS0 F cx.room hg h1 h2 b (fun σ => passAt cx.tk σ) hdb) fun σ H Q q => ?_
  obtain ⟨H0, L, g, sp, en, post⟩ := tA_callA (As := []) q
  exact post [] H H0 [] L (Step.refl sp) .nil en
/-! ### methods -/
def clsO : O → Option Str
  | .pure (.ins c _) => some c
  | .ins c _ => some c
  | _ => none
def fldO : O → Str → Option O
  | .pure (.ins _ fs), f => (fs.lookup f).map .pure
  | .ins _ fs, f => fs.lookup f
  | _, _ => none
theorem RepFf.lookup {H : Hp} : ∀ {fs : List (Str × V)} {ds : List (Str × D)} {f : Str}, RepFf W H fs ds → (∀ d, ds.lookup f = some d → ∃ v, fs.lookup f = some v ∧ RepF W H v d) ∧ (ds.lookup f = none → fs.lookup f = none)
  | _, _, f, .nil => ⟨fun d h => by simp at h, fun _ => rfl⟩
  | _, _, f, .cons (f := f') (v := v') (d := d') h r => by
    obtain ⟨a, b⟩ := RepFf.lookup (f := f) r
    cases e : f == f' with
    | true =>
      simp only [List.lookup, e]
      exact ⟨fun d q => by cases q; exact ⟨_, rfl, h⟩, fun q => by cases q⟩
    | false => simpa only [List.lookup, e] using ⟨a, b⟩
theorem RepOf.lookup {H0 H : Hp} : ∀ {fs : List (Str × V)} {os : List (Str × O)} {L : List Addr} {f : Str}, RepOf W H0 H fs os L → (∀ o, os.lookup f = some o → ∃ v Lo, fs.lookup f = some v ∧ RepO W H0 H v o Lo ∧ ∀ a ∈ Lo, a ∈ L) ∧ (os.lookup f = none → fs.lookup f = none)
  | _, _, _, f, .nil => ⟨fun d h => by simp at h, fun _ => rfl⟩
  | _, _, _, f, .cons (f := f') (Lo := Lo) h r => by
    obtain ⟨a, b⟩ := RepOf.lookup (f := f) r
    cases e : f == f' with
    | true =>
      simp only [List.lookup, e]
      exact ⟨fun d q => by cases q; exact ⟨_, Lo, rfl, h, fun a ha => List.mem_append_left _ ha⟩, fun q => by cases q⟩
    | false =>
      simp only [List.lookup, e]
      exact ⟨fun o q => (by
        obtain ⟨v, Lo', h1, h2, h3⟩ := a o q
        exact ⟨v, Lo', h1, h2, fun a ha => List.mem_append_right _ (h3 a ha)⟩), b⟩
theorem cls_at {H0 H : Hp} {v : V} {o : O} {c : Str} {L : List Addr} (e : Ex H0 H) (h : RepO W H0 H v o L) (hc : clsO o = some c) : ∃ a C dx fs, v = .ref a ∧ H a = some (.ins C dx fs) ∧ W.cl c = some C ∧ ∀ f, fldO o f = none → fs.lookup f = none := by
  cases h with
  | pure f =>
    cases f with
    | ins h1 h2 h3 =>
      cases hc
      exact ⟨_, _, _, _, rfl, e _ _ h1, h2, fun f q => (RepFf.lookup h3).2 (by simpa [fldO] using q)⟩
    | _ => cases hc
  | ins h1 h2 h3 =>
    cases hc
    exact ⟨_, _, _, _, rfl, h1, h2, fun f q => (RepOf.lookup h3).2 (by simpa [fldO] using q)⟩
  | _ => cases hc
def MethAt (W : Wd) (C : Callee) (P : Program) (w : World) (mg : Str → Option Value) (base : Heap) (k : Nat) (c m : Str) (fn : Nat) (ar : Nat) : Prop :=
  ∃ (Ca f : Addr) (fd : FuncData) (ps : List Str), W.cl c = some Ca ∧ Cls W.K Ca ∧ Meth W.K Ca m f ∧ FnOk P w W.K mg base (L2.CX P w) k f fd ps (spD W C fn ar) ∧ Binds W.K fd ps []
def methE (MT : Str → Str → Option Nat) (C : Callee) (m : Str) (A : E) (As : List E) : E := fun g => (A g).bind fun r g1 =>
  match ((ob g1 r).bind fun o => if (fldO o m).isNone then clsO o else none).bind fun c => MT c m with
  | some fn => (evs As g1).bind fun rs g2 => callR C fn (r :: rs) g2
  | none => .stuck
theorem tE_meth {MT : Str → Str → Option Nat} {C : Callee} {k : Nat} {m : Str} {A : E} {As : List E} (cx : Ctx W k Wx X) (hM : ∀ c fn, MT c m = some fn → MethAt W C X.prog X.w X.mg X.base k c m fn (As.length + 1)) {σ : L2.St} {H : Hp} {Q : VK} (q : tE W vs Wx (methE MT C m A As) σ H Q) :
    tMethD X (L2.CX X.prog X.w) k m (WE Wx) (tE W vs Wx A) (tA W vs Wx (evs As)) σ H Q := by
  obtain ⟨H0, L, g, sp, en, post⟩ := q
  refine ⟨H0, L, g, sp, en, ?_⟩
  unfold methE at post
  cases ea : A g with
  | stuck => rw [ea] at post; exact post.elim
  | exc x g' => rw [ea] at post; exact post
  | ok r g1 =>
    rw [ea] at post
    intro v H1 H01 Lr L1 st1 rr en1
    simp only [Res.bind] at post
    cases ed : ((ob g1 r).bind fun o => if (fldO o m).isNone then clsO o else none).bind fun c => MT c m with
    | none => rw [ed] at post; exact post.elim
    | some fn =>
      rw [ed] at post
      simp only at post
      obtain ⟨c, e1, e2⟩ := Option.bind_eq_some_iff.mp ed
      obtain ⟨o, e3, e4⟩ := Option.bind_eq_some_iff.mp e1
      have e5 : fldO o m = none := by
        by_cases z : (fldO o m).isNone
        · exact Option.isNone_iff_eq_none.mp z
        · rw [if_neg z] at e4; cases e4
      rw [if_pos (Option.isNone_iff_eq_none.mpr e5)] at e4
      obtain ⟨Lo, ro, _⟩ := ob_rep en1 rr e3
      obtain ⟨a, Ca, dx, fs, h1, h2, h3, h4⟩ := cls_at st1.sep.ex ro e4
      obtain ⟨Cb, f, fd, ps, m1, m2, m3, m4, m5⟩ := hM c fn e2
      rw [h3] at m1; cases m1
      rw [← cx.K] at m2 m3 m4 m5
      refine ⟨Ca, f, fd, ps, _, a, dx, fs, m2, m3, m4, m5, h1, h2, h4 m e5, ?_⟩
      refine ⟨H01, L1, g1, st1.sep.right, en1, ?_⟩
      cases eb : evs As g1 with
      | stuck => rw [eb] at post; exact post.elim
      | exc x g' =>
        rw [eb] at post
        intro c d H' H0' L' st2 rx en2
        exact post c d H' H0' L' (st1.then st2).right rx en2
      | ok rs g2 =>
        rw [eb] at post
        intro us H2 H02 Ls L2 st2 rs2 en2
        have rr2 : RepR W H02 H2 σ v r Lr := rr.mono st2.ex0 (Step.keepL st1.sep st2)
        refine callR_ok (Lr := Lr ++ Ls) (rs := r :: rs) (by simpa [List.append_assoc] using st1.then st2) (.cons rr2 rs2) en2 ?_ post
        simp [rs2.len, evs_len eb]
theorem se_meth {MT : Str → Str → Option Nat} {C : Callee} {k : Nat} {m : Str} {apos pos : Pos} {o e : Expr} {es : List Expr} {A : E} {As : List E} {pl : Sem Bool} (cx : Ctx W k Wx X) (hM : ∀ c fn, MT c m = some fn → MethAt W C X.prog X.w X.mg X.base k c m fn (As.length + 1))
    (ho : SE W vs Wx X o A) (ha : SA W vs Wx X (e :: es) (evs As))
    (hst : starEach (e :: es) X.env = (false, eval e X.env) :: starEach es X.env := by rfl) (hpl : (backTo pos (starEach es X.env)).any (·.1) = false := by rfl)
    (ht : eval (.Call (.Attribute o m apos) (e :: es) [] pos) X.env = (do
      let ov ← eval o X.env
      standAt apos.atName
      let (f, first) ← holding [ov] (getMethod ov m pl)
      callWith pos f first (backTo pos (starEach (e :: es) X.env)) (backToKw pos (keywordEach [] X.env))) := by rfl) :
    SE W vs Wx X (.Call (.Attribute o m apos) (e :: es) [] pos) (methE MT C m A As) :=
  pe_weak (pe_methD ho cx.room (fun σ => passAt cx.tk σ) ha hst hpl ht) fun σ H Q q => tE_meth cx hM q
theorem se_meth0 {MT : Str → Str → Option Nat} {C : Callee} {k : Nat} {m : Str} {apos pos : Pos} {o : Expr} {A : E} {pl : Sem Bool} (cx : Ctx W k Wx X) (hM : ∀ c fn, MT c m = some fn → MethAt W C X.prog X.w X.mg X.base k c m fn 1)
    (ho : SE W vs Wx X o A)
    (ht : eval (.Call (.Attribute o m apos) [] [] pos) X.env = (do
      let ov ← eval o X.env
      standAt apos.atName
      let (f, first) ← holding [ov] (getMethod ov m pl)
      callWith pos f first (backTo pos (starEach [] X.env)) (backToKw pos (keywordEach [] X.env))) := by rfl) :
    SE W vs Wx X (.Call (.Attribute o m apos) [] [] pos) (methE MT C m A []) := by
  refine pe_weak (pe_methD0 ho cx.room (fun σ => passAt cx.tk σ) ht) fun σ H Q q => ?_
  have q2 := tE_meth (As := []) cx hM q
  obtain ⟨H0, L, g, sp, en, post⟩ := q2
  refine ⟨H0, L, g, sp, en, ?_⟩
  cases ea : A g with
  | stuck => rw [ea] at post; exact post.elim
  | exc x g' => rw [ea] at post; exact post
  | ok r g1 =>
    rw [ea] at post
    intro v H1 H01 Lr L1 st1 rr en1
    obtain ⟨Ca, f, fd, ps, sp, a, dx, fs, m2, m3, m4, m5, h1, h2, h4, H0', L', g', sp', en', post'⟩ := post v H1 H01 Lr L1 st1 rr en1
    exact ⟨Ca, f, fd, ps, sp, a, dx, fs, m2, m3, m4, m5, h1, h2, h4, post' [] H1 H0' [] L' (Step.refl sp') .nil en'⟩
/-! ### a new instance -/
def makeA (C : Callee) (c : Str) (fn : Nat) (As : List E) : E := fun g => (evs As g).bind fun rs g1 => match takes rs g1 with
  | some (os, g2) => match C fn (.ins c [] :: os) with
    | .ok (.pure .non) (self :: os') => .ok (.val self) (puts rs os' g2)
    | .exc x (_ :: os') => .exc x (puts rs os' g2)
    | _ => .stuck
  | none => .stuck
def MakeAt (W : Wd) (C : Callee) (P : Program) (w : World) (mg : Str → Option Value) (base : Heap) (k : Nat) (x c : Str) (fn : Nat) (ar : Nat) : Prop :=
  ∃ (Ca f : Addr) (fd : FuncData) (ps : List Str), W.cl c = some Ca ∧ Mk W.K Ca f ∧ mg x = some (.ref Ca) ∧ FnOk P w W.K mg base (L2.CX P w) k f fd ps (spD W C fn ar) ∧ Binds W.K fd ps []
theorem own_new {H0 H : Hp} {p dx Ca : Addr} {c : Str} (e : Ex H0 H) (hp : H p = none) (hd : H dx = none) (hne : dx ≠ p) (hc : W.cl c = some Ca) :
    Step H0 H [] H0 (upd (upd H dx (.own p)) p (.ins Ca dx [])) [p] ∧ RepO W H0 (upd (upd H dx (.own p)) p (.ins Ca dx [])) (.ref p) (.ins c []) [p] := by
  have h0 : H0 p = none := by
    cases z : H0 p with
    | none => rfl
    | some u => rw [e p u z] at hp; cases hp
  have e1 : Ex H (upd (upd H dx (.own p)) p (.ins Ca dx [])) := fun a u h => by
    rw [upd_ne (ne_of_none h hp), upd_ne (ne_of_none h hd)]; exact h
  refine ⟨⟨Ex.refl _, fun a u h _ => e1 a u h, fun a h => .inl h, fun a h => ?_, ⟨e.trans e1, by simp, fun q hq => ?_⟩⟩, ?_⟩
  · have : a = p := by simpa using h
    exact .inr (by rw [this]; exact hp)
  · have : q = p := by simpa using hq
    subst this
    exact ⟨h0, _, upd_same⟩
  · exact .ins (L := []) upd_same hc .nil
theorem se_make {C : Callee} {k fn : Nat} {x c : Str} {p pos : Pos} {e : Expr} {es : List Expr} {As : List E} (cx : Ctx W (k + 1) Wx X) (hf : MakeAt W C X.prog X.w X.mg X.base k x c fn (As.length + 1)) (ha : SA W vs Wx X (e :: es) (evs As)) (hg : Gl X x)
    (hdb : (x == ("__debug__" : Str)) = false := by decide) (he : starEach (e :: es) X.env = (false, eval e X.env) :: starEach es X.env := by rfl) (hpl : (backTo pos (starEach es X.env)).any (·.1) = false := by rfl) :
    SE W vs Wx X (.Call (.Name x p) (e :: es) [] pos) (makeA C c fn As) := by
  obtain ⟨Ca, f, fd, ps, h1, h2, h3, F, b⟩ := hf
  rw [← cx.K] at h2 F b
  refine pe_weak (pe_makeS h2 F cx.room hg h3 b (fun σ => passAt cx.tk σ) ha hdb he hpl) fun σ H Q q => ?_
  obtain ⟨H0, L, g, sp, en, post⟩ := q
  refine ⟨H0, L, g, sp, en, ?_⟩
  unfold makeA at post
  cases ea : evs As g with
  | stuck => rw [ea] at post; exact post.elim
  | exc x g' => rw [ea] at post; exact post
  | ok rs g1 =>
    rw [ea] at post
    intro us H1 H01 Lr L1 st1 rr en1
    simp only [Res.bind] at post
    cases et : takes rs g1 with
    | none => rw [et] at post; exact post.elim
    | some pr =>
      obtain ⟨os, g2⟩ := pr
      rw [et] at post
      simp only at post
      obtain ⟨La, L2, ro, en2, pm⟩ := takes_ok rr en1 et
      intro p dx hp hd hne
      obtain ⟨sn, rn⟩ := own_new (W := W) st1.sep.ex hp hd hne h1
      generalize hH2 : upd (upd H1 dx (.own p)) p (.ins Ca dx []) = H2 at *
      have sp1 : Sep H01 H1 ((L2 ++ La) ++ []) := by simpa using st1.sep.perm (pm.trans List.perm_append_comm)
      have s2 : Step H01 H1 ((L2 ++ La) ++ []) H01 H2 ((L2 ++ La) ++ [p]) := Step.frame sp1 sn
      have s2' : Step H01 H1 (Lr ++ L1) H01 H2 (L2 ++ ([p] ++ La)) := by
        refine (s2.from fun a => ?_).perm ?_
        · simpa using (pm.trans List.perm_append_comm).mem_iff.symm
        · rw [List.append_assoc]; exact List.Perm.append_left L2 List.perm_append_comm
      have ro2 : RepOs W H01 H2 us os La := ro.mono (Ex.refl _) fun a ha u hu => Step.keepL (Lb := []) (Lb' := [p]) (La := La) (by simpa using (st1.sep.perm pm).left) sn a ha u hu
      have en3 : EnvR W H01 H2 vs σ g2 L2 := en2.mono (Ex.refl _) fun a ha u hu => Step.keepL (Lb := []) (Lb' := [p]) (La := L2) (by simpa using (st1.sep.perm pm).right) sn a ha u hu
      refine ⟨by simp [rr.len, evs_len ea], H01, [p] ++ La, .ins c [] :: os, s2'.sep.right, .cons rn ro2, ?_⟩
      have fr : ∀ {H0' H' : Hp} {La' : List Addr}, Step H01 H2 ([p] ++ La) H0' H' La' → Step H0 H L H0' H' (L2 ++ La') := fun b => (st1.trans s2').trans (Step.frame s2'.sep b)
      cases ec : C fn (.ins c [] :: os) with
      | stuck => rw [ec] at post; exact post.elim
      | ok o os1 =>
        rw [ec] at post
        cases os1 with
        | nil =>
          exfalso
          revert post; cases o <;> try (intro z; exact z)
          rename_i d; cases d <;> intro z <;> exact z
        | cons self os' =>
          have ho : o = .pure .non := by
            cases o with
            | pure d => cases d <;> first | rfl | exact post.elim
            | _ => exact post.elim
          subst ho
          simp only at post
          intro v H' H0' Lo La' b rv ro'
          have st := fr b
          cases rv with
          | pure rv =>
            cases rv
            cases ro' with
            | @cons _ _ _ _ Ls Lt rself ro'' =>
              refine ⟨rfl, ?_⟩
              have en4 := en3.mono b.ex0 (Step.keepL s2'.sep b)
              obtain ⟨Lx, L3, en5, pm2⟩ := puts_ok rr.toks ro'' en4
              have st2 : Step H0 H L H0' H' (Lx ++ (Ls ++ L3)) := by
                refine st.perm ?_
                have a1 : (L2 ++ ([] ++ (Ls ++ Lt))).Perm (Ls ++ (Lt ++ L2)) := by
                  have := List.perm_append_comm (l₁ := L2) (l₂ := Ls ++ Lt)
                  simpa [List.append_assoc] using this
                exact (a1.trans (List.Perm.append_left Ls pm2)).trans (perm_mid Ls Lx L3)
              exact post (.ref p) H' H0' Ls L3 st2.right rself en5
      | exc x os1 =>
        rw [ec] at post
        cases os1 with
        | nil => exact post.elim
        | cons self os' =>
          simp only at post
          intro cc d H' H0' La' b rx ro'
          have st := fr b
          cases ro' with
          | @cons _ _ _ _ Ls Lt rself ro'' =>
            have en4 := en3.mono b.ex0 (Step.keepL s2'.sep b)
            obtain ⟨Lx, L3, en5, pm2⟩ := puts_ok rr.toks ro'' en4
            have st2 : Step H0 H L H0' H' ((Ls ++ Lx) ++ L3) := by
              refine st.perm ?_
              have a1 : (L2 ++ (Ls ++ Lt)).Perm (Ls ++ (Lt ++ L2)) := by
                have := List.perm_append_comm (l₁ := L2) (l₂ := Ls ++ Lt)
                simpa [List.append_assoc] using this
              have a2 := a1.trans (List.Perm.append_left Ls pm2)
              simpa [List.append_assoc] using a2
            exact post cc d H' H0' L3 st2.right rx en5
/-! ### attributes -/
def attrF (f : Str) : O → Option O
  | .pure (.ins _ fs) => (fs.lookup f).map .pure
  | .ins _ fs => match fs.lookup f with
    | some (.pure d) => some (.pure d)
    | _ => none
  | _ => none
/-- f is a field of c's instances: no class of it has the name -/
def FldAt (W : Wd) (c f : Str) : Prop := ∃ Ca, W.cl c = some Ca ∧ Cls W.K Ca ∧ NoAttr W.K Ca f
def attrE (FT : Str → Str → Bool) (f : Str) (A : E) : E := una (fun o => match clsO o with
  | some c => if FT c f then attrF f o else none
  | none => none) A
theorem se_attr {FT : Str → Str → Bool} {f : Str} {pos : Pos} {e : Expr} {A : E} {k : Nat} (cx : Ctx W k Wx X) (hF : ∀ c f, FT c f = true → FldAt W c f) (h : SE W vs Wx X e A) (hb : attributeBase e f X.env (eval e X.env) = eval e X.env := by rfl) : SE W vs Wx X (.Attribute e f pos) (attrE FT f A) := by
  refine pe_weak (pe_fld h hb) fun σ H Q q => ?_
  obtain ⟨H0, L, g, sp, en, post⟩ := tO_una σ H Q q
  refine ⟨H0, L, g, sp, en, ?_⟩
  cases ea : A g with
  | stuck => rw [ea] at post; exact post.elim
  | exc x g' => rw [ea] at post; exact post
  | ok r g1 =>
    rw [ea] at post
    intro v H1 H01 Lr L1 st1 rr en1
    obtain ⟨H02, ox, Lx, o, ex, ro, ef, gv⟩ := post v H1 H01 Lr L1 st1 rr en1
    cases ec : clsO ox with
    | none => simp only [ec] at ef; cases ef
    | some c =>
      simp only [ec] at ef
      by_cases hft : FT c f = true
      · rw [if_pos hft] at ef
        obtain ⟨Ca, f1, f2, f3⟩ := hF c f hft
        rw [← cx.K] at f2 f3
        cases ro with
        | pure rf =>
          cases rf with
          | ins h1 h2 h3 =>
            cases ec
            rw [f1] at h2; cases h2
            simp only [attrF] at ef
            obtain ⟨d, e1, e2⟩ := Option.map_eq_some_iff.mp ef
            subst e2
            obtain ⟨v', l1, l2⟩ := (RepFf.lookup h3).1 d e1
            exact ⟨_, _, _, _, v', rfl, ex _ _ h1, f2, f3, l1, gv.atom ex l2⟩
          | _ => cases ec
        | ins h1 h2 h3 =>
          cases ec
          rw [f1] at h2; cases h2
          simp only [attrF] at ef
          split at ef
          · rename_i d e1
            cases ef
            obtain ⟨v', Lo, l1, l2, _⟩ := (RepOf.lookup h3).1 _ e1
            cases l2 with
            | pure l2 => exact ⟨_, _, _, _, v', rfl, h1, f2, f3, l1, gv.atom ex l2⟩
          · cases ef
        | _ => cases ec
      · rw [if_neg hft] at ef; cases ef
end
end VI
namespace VI
open PySem PySem.Spec PyProof.Rows L2
section
variable {W : Wd} {vs : List (Option V)} {Wx : WX} {X : Cx} {n : Nat}
/-! ### tests -/
def truO : O → Option Bool
  | .pure .non => some false
  | .pure (.bl b) => some b
  | .pure (.int i) => some (i != 0)
  | .pure (.str s) => if s.length ≤ sizeLine then some ((s.length : Int) != 0) else none
  | .pure (.tup l) => some (!l.isEmpty)
  | .pure (.lst l) => some (!l.isEmpty)
  | .lst l => some (!l.isEmpty)
  | _ => none
theorem RepFs.isEmpty {H : Hp} {us : List V} {ds : List D} (h : RepFs W H us ds) : us.isEmpty = ds.isEmpty := by cases h <;> rfl
theorem truV_of {H0 H : Hp} {v : V} {o : O} {L : List Addr} {b : Bool} (e : Ex H0 H) (h : RepO W H0 H v o L) (hb : truO o = some b) : TruV W.K v H b := by
  cases h with
  | pure f =>
    cases f with
    | non => cases hb; rfl
    | bl b' => cases hb; rfl
    | int i => cases hb; rfl
    | str s =>
      simp only [truO] at hb
      split at hb
      · rename_i hs; cases hb; exact ⟨hs, rfl⟩
      · cases hb
    | tup h1 h2 => cases hb; exact .inr (.inl ⟨_, ex_t e h1, by rw [h2.isEmpty]⟩)
    | lst h1 h2 => cases hb; exact .inl ⟨_, ex_l e h1, by rw [h2.isEmpty]⟩
    | _ => cases hb
  | lst h1 h2 => cases hb; exact .inl ⟨_, SqL.of h1, by rw [h2.isEmpty]⟩
  | _ => cases hb
def truT (A : E) : G → Res Bool := fun g => (A g).bind fun r g1 => match (ob g1 r).bind truO with
  | some b => .ok b g1
  | none => .stuck
theorem tT_drop {σ : L2.St} {H0 H H01 H1 : Hp} {L Lr L1 : List Addr} {g1 : G} {b : Bool} {Q : Bool → Hp → Prop} (st : Step H0 H L H01 H1 (Lr ++ L1)) (en : EnvR W H01 H1 vs σ g1 L1) (post : PostT W vs Wx σ H0 H L (.ok b g1) Q) : Q b H1 := post H1 H01 L1 st.right en
theorem st_tru {k : Nat} {e : Expr} {A : E} (cx : Ctx W k Wx X) (h : SE W vs Wx X e A) (he : ∀ whole, isTrue e X.env whole = (do let v ← whole; standAt e.pos; holding [v] (truthy v)) := by intro _; rfl) : ST W vs Wx X e (truT A) := by
  refine pt_weak (pt_truth h he) fun σ H Q ⟨H0, L, g, sp, en, post⟩ => ?_
  refine ⟨H0, L, g, sp, en, ?_⟩
  unfold truT at post
  cases ea : A g with
  | stuck => rw [ea] at post; exact post.elim
  | exc x g' => rw [ea] at post; exact post
  | ok r g1 =>
    rw [ea] at post
    intro v H1 H01 Lr L1 st1 rr en1
    simp only [Res.bind] at post
    cases eb : (ob g1 r).bind truO with
    | none => rw [eb] at post; exact post.elim
    | some b =>
      rw [eb] at post
      obtain ⟨o, e1, e2⟩ := Option.bind_eq_some_iff.mp eb
      obtain ⟨Lo, ro, _⟩ := ob_rep en1 rr e1
      exact ⟨b, by rw [cx.K]; exact truV_of st1.sep.ex ro e2, tT_drop st1 en1 post⟩
/-- a comparison as a test: its value is a truth value -/
def blT (A : E) : G → Res Bool := fun g => (A g).bind fun r g1 => match r with
  | .val (.pure (.bl b)) => .ok b g1
  | _ => .stuck
theorem tT_bl {A : E} : ∀ σ H Q, tT W vs Wx (blT A) σ H Q → tE W vs Wx A σ H (fun x H' => ∃ k, x = .bl k ∧ Q k H') := fun σ H Q ⟨H0, L, g, sp, en, post⟩ => by
  refine ⟨H0, L, g, sp, en, ?_⟩
  unfold blT at post
  cases ea : A g with
  | stuck => rw [ea] at post; exact post.elim
  | exc x g' => rw [ea] at post; exact post
  | ok r g1 =>
    rw [ea] at post
    intro v H1 H01 Lr L1 st1 rr en1
    simp only [Res.bind] at post
    split at post
    · rename_i b
      cases rr with
      | pure f =>
        cases f
        exact ⟨b, rfl, post H1 H01 L1 st1.right en1⟩
    · exact post.elim
theorem st_cmp {op : CmpOp} {a b : Expr} {pos : Pos} {A B : E} {f : O → O → Option O} (ho : OpR X (compareOp op) (rO W f)) (ha : SE W vs Wx X a A) (hb : SE W vs Wx X b B) (hm : behindInMarks op b = false) : ST W vs Wx X (.Compare a [op] [b] pos) (blT (bin f A B)) :=
  pt_weak (pt_cmpR ho ha hb hm) fun σ H Q q => by
    have h := tT_bl σ H Q q
    exact tO_bin σ H _ h
theorem st_val {e : Expr} {A : E} (h : SE W vs Wx X e A) (he : ∀ whole, isTrue e X.env whole = (do let v ← whole; standAt e.pos; holding [v] (truthy v)) := by intro _; rfl) : ST W vs Wx X e (blT A) :=
  pt_weak (pt_val h he) fun σ H Q q => tT_bl σ H Q q
def SW (W : Wd) (vs : List (Option V)) (Wx : WX) (X : Cx) (e : Expr) (A : G → Res Bool) : Prop := PW X e (tT W vs Wx A)
def andT (a b : G → Res Bool) : G → Res Bool := fun g => (a g).bind fun c g1 => if c then b g1 else .ok false g1
def orT (a b : G → Res Bool) : G → Res Bool := fun g => (a g).bind fun c g1 => if c then .ok true g1 else b g1
def notT (a : G → Res Bool) : G → Res Bool := fun g => (a g).bind fun c g1 => .ok (!c) g1
theorem tT_bind {a : G → Res Bool} {f : Bool → G → Res Bool} {σ : L2.St} {H : Hp} {Q : Bool → Hp → Prop} {R' : Bool → Hp → Prop} (h : tT W vs Wx (fun g => (a g).bind f) σ H Q)
    (k : ∀ c H1, tT W vs Wx (f c) σ H1 Q → R' c H1) : tT W vs Wx a σ H R' := by
  obtain ⟨H0, L, g, sp, en, post⟩ := h
  refine ⟨H0, L, g, sp, en, ?_⟩
  dsimp only at post
  cases ea : a g with
  | stuck => rw [ea] at post; exact post.elim
  | exc x g' => rw [ea] at post; exact post
  | ok c g1 =>
    rw [ea] at post
    intro H1 H01 L1 st1 en1
    refine k c H1 ⟨H01, L1, g1, st1.sep, en1, ?_⟩
    simp only [Res.bind] at post
    cases eb : f c g1 with
    | stuck => rw [eb] at post; exact post.elim
    | exc x g' => rw [eb] at post; intro cc d H' H0' L' st2 rx en2; exact post cc d H' H0' L' (st1.trans st2) rx en2
    | ok b g2 => rw [eb] at post; intro H' H0' L' st2 en2; exact post H' H0' L' (st1.trans st2) en2
theorem sw_and1 {a : Expr} {pos : Pos} {A : G → Res Bool} (h : ST W vs Wx X a A) : SW W vs Wx X (.BoolOp .And [a] pos) A := pw_and1 h
theorem sw_or1 {a : Expr} {pos : Pos} {A : G → Res Bool} (h : ST W vs Wx X a A) : SW W vs Wx X (.BoolOp .Or [a] pos) A := pw_or1 h
theorem sw_and {a b : Expr} {rest : List Expr} {pos : Pos} {A B : G → Res Bool} (h : ST W vs Wx X a A) (h2 : SW W vs Wx X (.BoolOp .And (b :: rest) pos) B) : SW W vs Wx X (.BoolOp .And (a :: b :: rest) pos) (andT A B) :=
  pw_weak (pw_and h h2) fun σ H Q q => tT_bind q fun c H1 z => by
    cases c with
    | true => exact z
    | false =>
      obtain ⟨H0, L, g, sp, en, post⟩ := z
      exact post H1 H0 L (Step.refl sp) en
theorem sw_or {a b : Expr} {rest : List Expr} {pos : Pos} {A B : G → Res Bool} (h : ST W vs Wx X a A) (h2 : SW W vs Wx X (.BoolOp .Or (b :: rest) pos) B) : SW W vs Wx X (.BoolOp .Or (a :: b :: rest) pos) (orT A B) :=
  pw_weak (pw_or h h2) fun σ H Q q => tT_bind q fun c H1 z => by
    cases c with
    | false => exact z
    | true =>
      obtain ⟨H0, L, g, sp, en, post⟩ := z
      exact post H1 H0 L (Step.refl sp) en
theorem st_sw {e : Expr} {A : G → Res Bool} (h : SW W vs Wx X e A) : ST W vs Wx X e A := PW.pt h
theorem st_not {a : Expr} {pos : Pos} {A : G → Res Bool} (h : ST W vs Wx X a A) : ST W vs Wx X (.UnaryOp .Not a pos) (notT A) :=
  pt_weak (pt_not h) fun σ H Q q => tT_bind q fun c H1 z => by
    obtain ⟨H0, L, g, sp, en, post⟩ := z
    exact post H1 H0 L (Step.refl sp) en
/-! ### values of and, or, not, if else -/
def andE (a b : E) : E := fun g => (blT a g).bind fun c g1 => if c then (blT b g1).bind fun c2 g2 => .ok (.val (.pure (.bl c2))) g2 else .ok (.val (.pure (.bl false))) g1
def orE (a b : E) : E := fun g => (blT a g).bind fun c g1 => if c then .ok (.val (.pure (.bl true))) g1 else (blT b g1).bind fun c2 g2 => .ok (.val (.pure (.bl c2))) g2
def notE (a : E) : E := fun g => (blT a g).bind fun c g1 => .ok (.val (.pure (.bl (!c)))) g1
def ifE (t : G → Res Bool) (a b : E) : E := fun g => (t g).bind fun c g1 => if c then a g1 else b g1
theorem tE_test {t : G → Res Bool} {f : Bool → E} {σ : L2.St} {H : Hp} {Q : VK} {R' : Bool → Hp → Prop} (h : tE W vs Wx (fun g => (t g).bind f) σ H Q)
    (k : ∀ c H1, tE W vs Wx (f c) σ H1 Q → R' c H1) : tT W vs Wx t σ H R' := by
  obtain ⟨H0, L, g, sp, en, post⟩ := h
  refine ⟨H0, L, g, sp, en, ?_⟩
  dsimp only at post
  cases ea : t g with
  | stuck => rw [ea] at post; exact post.elim
  | exc x g' => rw [ea] at post; exact post
  | ok c g1 =>
    rw [ea] at post
    intro H1 H01 L1 st1 en1
    refine k c H1 ⟨H01, L1, g1, st1.sep, en1, ?_⟩
    simp only [Res.bind] at post
    cases eb : f c g1 with
    | stuck => rw [eb] at post; exact post.elim
    | exc x g' => rw [eb] at post; intro cc d H' H0' L' st2 rx en2; exact post cc d H' H0' L' (st1.trans st2) rx en2
    | ok b g2 => rw [eb] at post; intro v H' H0' Lr L' st2 rr en2; exact post v H' H0' Lr L' (st1.trans st2) rr en2
theorem tE_ret {g0 : Bool} {σ : L2.St} {H : Hp} {Q : VK} (h : tE W vs Wx (fun g => .ok (.val (.pure (.bl g0))) g) σ H Q) : Q (.bl g0) H := by
  obtain ⟨H0, L, g, sp, en, post⟩ := h
  exact post _ H H0 [] L (Step.refl sp) (.pure (.bl _)) en
theorem se_and {a b : Expr} {rest : List Expr} {pos : Pos} {A B : E} (ha : SE W vs Wx X a A) (hb : SE W vs Wx X (.BoolOp .And (b :: rest) pos) B) : SE W vs Wx X (.BoolOp .And (a :: b :: rest) pos) (andE A B) :=
  pe_weak (pe_and ha hb) fun σ H Q q => tT_bl σ H _ (tE_test q fun c H1 z => by
    cases c with
    | true =>
      rw [if_pos rfl]
      have z2 : tE W vs Wx (fun g => (blT B g).bind fun c2 g2 => .ok (.val (.pure (.bl c2))) g2) σ H1 Q := z
      have h1 := tT_bl σ H1 (fun k H' => Q (.bl k) H') (tE_test z2 fun c H1 z => tE_ret (g0 := c) z)
      exact h1.elim fun H0 ⟨L, g, sp, en, post⟩ => ⟨H0, L, g, sp, en, by
        cases eb : B g with
        | stuck => rw [eb] at post; exact post
        | exc x g' => rw [eb] at post; exact post
        | ok r g1 =>
          rw [eb] at post
          intro v H' H0' Lr L' st rr en'
          obtain ⟨k, e1, e2⟩ := post v H' H0' Lr L' st rr en'
          rw [e1]; exact e2⟩
    | false => rw [if_neg Bool.false_ne_true]; exact tE_ret (g0 := false) z)
theorem se_or {a b : Expr} {rest : List Expr} {pos : Pos} {A B : E} (ha : SE W vs Wx X a A) (hb : SE W vs Wx X (.BoolOp .Or (b :: rest) pos) B) : SE W vs Wx X (.BoolOp .Or (a :: b :: rest) pos) (orE A B) :=
  pe_weak (pe_or ha hb) fun σ H Q q => tT_bl σ H _ (tE_test q fun c H1 z => by
    cases c with
    | false =>
      rw [if_neg Bool.false_ne_true]
      have z2 : tE W vs Wx (fun g => (blT B g).bind fun c2 g2 => .ok (.val (.pure (.bl c2))) g2) σ H1 Q := z
      have h1 := tT_bl σ H1 (fun k H' => Q (.bl k) H') (tE_test z2 fun c H1 z => tE_ret (g0 := c) z)
      exact h1.elim fun H0 ⟨L, g, sp, en, post⟩ => ⟨H0, L, g, sp, en, by
        cases eb : B g with
        | stuck => rw [eb] at post; exact post
        | exc x g' => rw [eb] at post; exact post
        | ok r g1 =>
          rw [eb] at post
          intro v H' H0' Lr L' st rr en'
          obtain ⟨k, e1, e2⟩ := post v H' H0' Lr L' st rr en'
          rw [e1]; exact e2⟩
    | true => rw [if_pos rfl]; exact tE_ret (g0 := true) z)
theorem se_one {op : BoolOp} {a : Expr} {pos : Pos} {A : E} (h : SE W vs Wx X a A) : SE W vs Wx X (.BoolOp op [a] pos) A := pe_one h
theorem se_not {a : Expr} {pos : Pos} {A : E} (ha : SE W vs Wx X a A) : SE W vs Wx X (.UnaryOp .Not a pos) (notE A) :=
  pe_weak (pe_not ha) fun σ H Q q => tT_bl σ H _ (tE_test q fun c H1 z => tE_ret (g0 := !c) z)
theorem se_if {c a b : Expr} {pos : Pos} {T : G → Res Bool} {A B : E} (hc : ST W vs Wx X c T) (ha : SE W vs Wx X a A) (hb : SE W vs Wx X b B) : SE W vs Wx X (.IfExp c a b pos) (ifE T A B) :=
  pe_weak (pe_ifExp hc ha hb) fun σ H Q q => tE_test q fun c H1 z => by
    cases c with
    | true => rw [if_pos rfl]; exact z
    | false => rw [if_neg Bool.false_ne_true]; exact z
/-! ### statements -/
def nextS : S := fun g => .ok .next g
def seqS (a b : S) : S := fun g => (a g).bind fun f g1 => match f with
  | .next => b g1
  | f => .ok f g1
theorem ss_nil : SB W vs Wx X [] nextS := pss_weak pss_nil fun De σ H ⟨H0, L, g, sp, en, post⟩ => post σ H H0 L (Step.refl sp) en
theorem PostS.step {H0 H H01 H1 : Hp} {L L1 : List Addr} {r : Res Fl} {De : Ends} (st : Step H0 H L H01 H1 L1) (h : PostS W vs Wx H0 H L r De) : PostS W vs Wx H01 H1 L1 r De := by
  cases r with
  | stuck => exact h
  | exc x g => exact fun c d σ' H' H0' L' s2 rx en => h c d σ' H' H0' L' (st.trans s2) rx en
  | ok f g =>
    cases f with
    | next => exact fun σ' H' H0' L' s2 en => h σ' H' H0' L' (st.trans s2) en
    | brk => exact fun σ' H' H0' L' s2 en => h σ' H' H0' L' (st.trans s2) en
    | cont => exact fun σ' H' H0' L' s2 en => h σ' H' H0' L' (st.trans s2) en
    | ret o => exact fun v σ' H' H0' Lo L' s2 ro en => h v σ' H' H0' Lo L' (st.trans s2) ro en
theorem sb_cons {st : Stmt} {rest : List Stmt} {A B : S} (h1 : SS W vs Wx X st A) (h2 : SB W vs Wx X rest B) : SB W vs Wx X (st :: rest) (seqS A B) := by
  refine pss_weak (pss_cons h1 h2) fun De σ H ⟨H0, L, g, sp, en, post⟩ => ?_
  refine ⟨H0, L, g, sp, en, ?_⟩
  unfold seqS at post
  cases ea : A g with
  | stuck => rw [ea] at post; exact post.elim
  | exc x g' => rw [ea] at post; exact post
  | ok f g1 =>
    rw [ea] at post
    simp only [Res.bind] at post
    cases f with
    | next => exact fun σ' H' H0' L' s2 en2 => ⟨H0', L', g1, s2.sep, en2, PostS.step s2 post⟩
    | brk => exact post
    | cont => exact post
    | ret o => exact post
theorem sb_one {st : Stmt} {A : S} (h1 : SS W vs Wx X st A) : SB W vs Wx X [st] A := pss_one h1
def dropS (A : E) : S := fun g => (A g).bind fun _ g1 => .ok .next g1
theorem ss_expr {e : Expr} {pos : Pos} {A : E} (h : SE W vs Wx X e A) (hs : swapsWith e none pos.line X.env = pure false := by rfl) : SS W vs Wx X (.Expr e pos) (dropS A) := by
  refine ps_weak (ps_expr h hs) fun De σ H ⟨H0, L, g, sp, en, post⟩ => ?_
  refine ⟨H0, L, g, sp, en, ?_⟩
  unfold dropS at post
  cases ea : A g with
  | stuck => rw [ea] at post; exact post.elim
  | exc x g' => rw [ea] at post; exact fun c d H' H0' L' s2 rx en2 => post c d σ H' H0' L' s2 rx en2
  | ok r g1 =>
    rw [ea] at post
    exact fun v H' H0' Lr L' s2 rr en2 => post σ H' H0' L' s2.right en2
theorem ss_doc {x j pos pos'} : SS W vs Wx X (.Expr (.Constant (.str x) j pos) pos') nextS := ps_weak ps_doc fun De σ H ⟨H0, L, g, sp, en, post⟩ => post σ H H0 L (Step.refl sp) en
theorem ss_pass {pos} : SS W vs Wx X (.Pass pos) nextS := ps_weak ps_pass fun De σ H ⟨H0, L, g, sp, en, post⟩ => post σ H H0 L (Step.refl sp) en
def stuckS : S := fun _ => .stuck
theorem ss_never {st : Stmt} : SS W vs Wx X st stuckS := ps_weak ps_never fun De σ H ⟨H0, L, g, sp, en, post⟩ => post
theorem ss_break {pos} : SS W vs Wx X (.Break pos) (fun g => .ok .brk g) := ps_weak ps_break fun De σ H ⟨H0, L, g, sp, en, post⟩ => post σ H H0 L (Step.refl sp) en
theorem ss_continue {pos} : SS W vs Wx X (.Continue pos) (fun g => .ok .cont g) := ps_weak ps_continue fun De σ H ⟨H0, L, g, sp, en, post⟩ => post σ H H0 L (Step.refl sp) en
/-- return: a name of the frame hands its object on -/
def retR (r : R) (g : G) : Res Fl := match r with
  | .val o => .ok (.ret o) g
  | .slot i => match g[i]? with
    | some (.loc o) => .ok (.ret o) (g.set i (.loc .hole))
    | _ => match frzs [.slot i] g with
      | some ([d], g2) => .ok (.ret (.pure d)) g2
      | _ => .stuck
def retS (A : E) : S := fun g => (A g).bind retR
theorem ss_ret {e : Expr} {pos : Pos} {A : E} (h : SE W vs Wx X e A) : SS W vs Wx X (.Return (some e) pos) (retS A) := by
  refine ps_weak (ps_ret h) fun De σ H ⟨H0, L, g, sp, en, post⟩ => ?_
  refine ⟨H0, L, g, sp, en, ?_⟩
  unfold retS at post
  cases ea : A g with
  | stuck => rw [ea] at post; exact post.elim
  | exc x g' => rw [ea] at post; exact fun c d H' H0' L' s2 rx en2 => post c d σ H' H0' L' s2 rx en2
  | ok r g1 =>
    rw [ea] at post
    intro v H1 H01 Lr L1 st rr en1
    simp only [Res.bind] at post
    cases r with
    | val o => exact post v σ H1 H01 Lr L1 st rr en1
    | slot i =>
      obtain ⟨hv, rfl⟩ := id rr
      simp only [retR] at post
      split at post
      · rename_i o eg
        obtain ⟨v', La, Lo, Lb, h1, h2, h3, h4⟩ := en1.at eg rfl
        rw [hv] at h1; cases h1
        subst h3
        have en2 := h4 H01 H1 (Ex.refl _) (fun _ _ _ q => q) .hole [] .hole
        refine post v σ H1 H01 Lo (La ++ ([] ++ Lb)) ?_ h2 en2
        refine st.perm ?_
        simpa using perm_mid La Lo Lb
      · split at post
        · rename_i d g2 ef
          obtain ⟨H02, L2, s2, rf, en2⟩ := frzs_ok (us := [v]) (Lr := [] ++ []) (.cons rr .nil) (by simpa using st.sep) en1 ef
          cases rf with
          | cons rf _ =>
            exact post v σ H1 H02 [] L2 (by simpa using st.trans (by simpa using s2)) (.pure rf) en2
        · exact post.elim
theorem ss_retN {pos} : SS W vs Wx X (.Return none pos) (fun g => .ok (.ret (.pure .non)) g) := ps_weak ps_retN fun De σ H ⟨H0, L, g, sp, en, post⟩ => post _ σ H H0 [] L (Step.refl sp) (.pure .non) en
def ifS (t : G → Res Bool) (a b : S) : S := fun g => (t g).bind fun c g1 => if c then a g1 else b g1
theorem ss_if {c : Expr} {a b : List Stmt} {pos : Pos} {T : G → Res Bool} {A B : S} (hc : ST W vs Wx X c T) (ha : SB W vs Wx X a A) (hb : SB W vs Wx X b B) : SS W vs Wx X (.If c a b pos) (ifS T A B) := by
  refine ps_weak (ps_if hc ha hb) fun De σ H ⟨H0, L, g, sp, en, post⟩ => ?_
  refine ⟨H0, L, g, sp, en, ?_⟩
  unfold ifS at post
  cases ea : T g with
  | stuck => rw [ea] at post; exact post.elim
  | exc x g' => rw [ea] at post; exact fun c d H' H0' L' s2 rx en2 => post c d σ H' H0' L' s2 rx en2
  | ok r g1 =>
    rw [ea] at post
    intro H1 H01 L1 st en1
    simp only [Res.bind] at post
    cases r with
    | true => rw [if_pos rfl] at post ⊢; exact ⟨H01, L1, g1, st.sep, en1, post.step st⟩
    | false => rw [if_neg Bool.false_ne_true] at post ⊢; exact ⟨H01, L1, g1, st.sep, en1, post.step st⟩
/-! ### targets -/
def storeS (i : Nat) (o : O) (g : G) : Option G := match g[i]? with
  | some .un => some (g.set i (.loc o))
  | some (.par (.pure _)) => some (g.set i (.loc o))
  | some (.loc _) => some (g.set i (.loc o))
  | _ => none
theorem storeS_eq {i : Nat} {o : O} {g g' : G} (h : storeS i o g = some g') : g' = g.set i (.loc o) := by
  unfold storeS at h
  split at h <;> first | (cases h; rfl) | cases h
theorem store_ok' {σ : L2.St} {H0 H : Hp} {L1 Lr : List Addr} {g1 g2 : G} {i : Nat} {v : V} {o : O} (sp : Sep H0 H (Lr ++ L1)) (en : EnvR W H0 H vs σ g1 L1) (ro : RepO W H0 H v o Lr) (e : storeS i o g1 = some g2) :
    ∃ L2, Step H0 H (Lr ++ L1) H0 H L2 ∧ EnvR W H0 H vs (σ.set i (some v)) g2 L2 := by
  have eg := storeS_eq e
  subst eg
  obtain ⟨La, Lo, Lb, h3, h4⟩ := en.store i
  subst h3
  obtain ⟨Ln, hn, en2⟩ := h4 H0 H (Ex.refl _) (fun _ _ _ q => q) v o Lr ro
  refine ⟨_, ?_, en2⟩
  have s0 := (Step.refl sp).perm (L2 := Lo ++ (La ++ (Lr ++ Lb))) (by
    have a1 : (Lr ++ (La ++ (Lo ++ Lb))).Perm (Lo ++ (Lr ++ (La ++ Lb))) := perm_mid4 Lr La Lo Lb
    exact a1.trans (List.Perm.append_left Lo (perm_mid Lr La Lb)))
  rcases hn with rfl | rfl
  · exact s0.right
  · have s1 := s0.right.perm (perm_mid La Lr Lb)
    simpa using s1.right
abbrev T := D → G → Option G
theorem wipe_get (σ : L2.St) (j : Nat) : ∀ own : List Nat, (wipe σ own)[j]? = if j ∈ own then (σ[j]?).map (fun _ => none) else σ[j]?
  | [] => by simp [wipe]
  | i :: own => by
    unfold wipe
    by_cases h : i = j
    · subst h
      simp only [List.getElem?_set_self', List.mem_cons, true_or, if_true]
      rw [wipe_get σ i own]
      split <;> cases σ[i]? <;> rfl
    · rw [List.getElem?_set_ne h, wipe_get σ j own]
      simp [Ne.symm h]
theorem wipe_set {σ : L2.St} {i : Nat} {s : Option V} {own : List Nat} (h : i ∈ own) : wipe (σ.set i s) own = wipe σ own := by
  refine List.ext_getElem? fun j => ?_
  rw [wipe_get, wipe_get]
  by_cases hj : j ∈ own
  · rw [if_pos hj, if_pos hj]
    by_cases e : i = j
    · subst e; rw [List.getElem?_set_self']; cases σ[i]? <;> rfl
    · rw [List.getElem?_set_ne e]
  · rw [if_neg hj, if_neg hj]
    have e : i ≠ j := fun z => hj (z ▸ h)
    rw [List.getElem?_set_ne e]
def tG (W : Wd) (vs : List (Option V)) (own : List Nat) (t : T) : TG := fun v σ H Q => ∃ H0 L g d, Sep H0 H L ∧ EnvR W H0 H vs σ g L ∧ RepF W H0 v d ∧ ∃ g', t d g = some g' ∧ ∀ σ' H' H0' L', Step H0 H L H0' H' L' → EnvR W H0' H' vs σ' g' L' → wipe σ' own = wipe σ own → Q σ' H'
def SG (W : Wd) (vs : List (Option V)) (own : List Nat) (X : Cx) (e : Expr) (t : T) : Prop := PG X e (tG W vs own t)
theorem pg_weak {e : Expr} {t t' : TG} (h : PG X e t) (i : ∀ v σ H Q, t' v σ H Q → t v σ H Q) : PG X e t' := ⟨fun pins s σ H v u Q I r q => h.run pins s σ H v u Q I r (i _ _ _ _ q)⟩
theorem pgs_weak {e : List Expr} {t t' : TGs} (h : PGs X e t) (i : ∀ v σ H Q, t' v σ H Q → t v σ H Q) : PGs X e t' := ⟨fun pins s σ H v u Q I r q => h.run pins s σ H v u Q I r (i _ _ _ _ q)⟩
def nmT (i : Nat) : T := fun d g => storeS i (.pure d) g
theorem sg_name {own : List Nat} {x : Str} {pos : Pos} (i : Nat) (h : PG X (.Name x pos) (gName i)) (hi : i ∈ own) : SG W vs own X (.Name x pos) (nmT i) := by
  refine pg_weak h fun v σ H Q ⟨H0, L, g, d, sp, en, rf, g', e, k⟩ => ?_
  obtain ⟨L2, s2, en2⟩ := store_ok' (Lr := []) (by simpa using sp) en (.pure rf) e
  exact k _ H H0 L2 (by simpa using s2) en2 (wipe_set hi)
def foldT : List D → List T → G → Option G
  | d :: ds, t :: ts, g => (t d g).bind (foldT ds ts)
  | [], [], g => some g
  | _, _, _ => none
def tGs (W : Wd) (vs : List (Option V)) (own : List Nat) (ts : List T) : TGs := fun us σ H Q => ∃ H0 L g ds, Sep H0 H L ∧ EnvR W H0 H vs σ g L ∧ RepFs W H0 us ds ∧ ∃ g', foldT ds ts g = some g' ∧ ∀ σ' H' H0' L', Step H0 H L H0' H' L' → EnvR W H0' H' vs σ' g' L' → wipe σ' own = wipe σ own → Q σ' H'
def SGs (W : Wd) (vs : List (Option V)) (own : List Nat) (X : Cx) (e : List Expr) (ts : List T) : Prop := PGs X e (tGs W vs own ts)
theorem sgs_nil {own : List Nat} : SGs W vs own X [] [] := by
  refine pgs_weak pgs_nil fun us σ H Q ⟨H0, L, g, ds, sp, en, rf, g', e, k⟩ => ?_
  cases rf with
  | nil => cases e; exact ⟨rfl, k σ H H0 L (Step.refl sp) en rfl⟩
  | cons _ _ => cases e
theorem sgs_cons {own : List Nat} {e : Expr} {es : List Expr} {t : T} {ts : List T} (h1 : SG W vs own X e t) (h2 : SGs W vs own X es ts) (hs : (assignEach (e :: es) X.env).map (·.2) = assign e X.env :: (assignEach es X.env).map (·.2) := by rfl) : SGs W vs own X (e :: es) (t :: ts) := by
  refine pgs_weak (pgs_cons h1 h2 hs) fun us σ H Q ⟨H0, L, g, ds, sp, en, rf, g', e, k⟩ => ?_
  cases rf with
  | nil => cases e
  | cons r rs =>
    obtain ⟨g1, e1, e2⟩ := Option.bind_eq_some_iff.mp e
    refine ⟨_, _, rfl, H0, L, g, _, sp, en, r, g1, e1, fun σ' H' H0' L' st en1 w1 => ?_⟩
    exact ⟨H0', L', g1, _, st.sep, en1, rs.mono st.ex0, g', e2, fun σ2 H2 H02 L2 s2 en2 w2 => k σ2 H2 H02 L2 (st.trans s2) en2 (w2.trans w1)⟩
theorem foldT_len : ∀ {ds : List D} {ts : List T} {g g' : G}, foldT ds ts g = some g' → ds.length = ts.length
  | [], [], _, _, _ => rfl
  | d :: ds, t :: ts, g, g', e => by
    obtain ⟨g1, e1, e2⟩ := Option.bind_eq_some_iff.mp e
    simp [foldT_len e2]
  | [], _ :: _, _, _, e => by cases e
  | _ :: _, [], _, _, e => by cases e
def tupT (ts : List T) : T := fun d g => match d with
  | .tup ds => foldT ds ts g
  | _ => none
theorem sg_tup {own : List Nat} {k n : Nat} {es : List Expr} {pos : Pos} {ts : List T} (cx : Ctx W n Wx X) (h : SGs W vs own X es ts) (hn : (assignEach es X.env).length = ts.length := by rfl) (hst : (assignEach es X.env).findIdx? (·.1) = none := by rfl) : SG W vs own X (.Tuple es k pos) (tupT ts) := by
  refine pg_weak (pg_tup cx.calm h hn hst) fun v σ H Q ⟨H0, L, g, d, sp, en, rf, g', e, kk⟩ => ?_
  unfold tupT at e
  split at e
  · cases rf with
    | tup h1 h2 => exact ⟨_, _, rfl, by rw [cx.K]; exact ex_t sp.ex h1, by rw [h2.len, foldT_len e], H0, L, g, _, sp, en, h2, g', e, kk⟩
  · cases e
/-- a target of what is frozen -/
def setS (t : T) (A : E) : S := fun g => (A g).bind fun r g1 => match frzs [r] g1 with
  | some ([d], g2) => match t d g2 with
    | some g3 => .ok .next g3
    | none => .stuck
  | _ => .stuck
theorem ss_asg {own : List Nat} {tg e : Expr} {pos : Pos} {A : E} {t : T} (h : SE W vs Wx X e A) (ht : SG W vs own X tg t) (hs : swapsWithSole [tg] e pos.line X.env = pure false := by rfl) (hw : swappedStores [tg] e X.env = pure none := by rfl)
    (h1 : (assignEach [tg] X.env).map (·.2) = [assign tg X.env] := by rfl) : SS W vs Wx X (.Assign [tg] e pos) (setS t A) := by
  refine ps_weak (ps_asg h ht hs hw h1) fun De σ H ⟨H0, L, g, sp, en, post⟩ => ?_
  refine ⟨H0, L, g, sp, en, ?_⟩
  unfold setS at post
  cases ea : A g with
  | stuck => rw [ea] at post; exact post.elim
  | exc x g' => rw [ea] at post; exact fun c d H' H0' L' s2 rx en2 => post c d σ H' H0' L' s2 rx en2
  | ok r g1 =>
    rw [ea] at post
    intro v H1 H01 Lr L1 st rr en1
    simp only [Res.bind] at post
    split at post
    · rename_i d g2 ef
      obtain ⟨H02, L2, s2, rf, en2⟩ := frzs_ok (us := [v]) (Lr := Lr ++ []) (.cons rr .nil) (by simpa using st.sep) en1 ef
      cases rf with
      | cons rf _ =>
        split at post
        · rename_i g3 et
          exact ⟨H02, L2, g2, d, s2.sep, en2, rf, g3, et, fun σ' H' H0' L' s3 en3 _ => post σ' H' H0' L' ((st.trans (by simpa using s2)).trans s3) en3⟩
        · exact post.elim
    · exact post.elim
/-- name = value: what is one's own stays so -/
def asgR (i : Nat) (r : R) (g : G) : Res Fl := match r with
  | .val o => match storeS i o g with
    | some g3 => .ok .next g3
    | none => .stuck
  | .slot j => match frzs [.slot j] g with
    | some ([d], g2) => match storeS i (.pure d) g2 with
      | some g3 => .ok .next g3
      | none => .stuck
    | _ => .stuck
def asgS (i : Nat) (A : E) : S := fun g => (A g).bind (asgR i)
theorem asgR_ok {i : Nat} {r : R} {v : V} {σ : L2.St} {H0 H H01 H1 : Hp} {L Lr L1 : List Addr} {g1 : G} {De : Ends} (st : Step H0 H L H01 H1 (Lr ++ L1)) (rr : RepR W H01 H1 σ v r Lr) (en1 : EnvR W H01 H1 vs σ g1 L1)
    (post : PostS W vs Wx H0 H L (asgR i r g1) De) : De.nx (σ.set i (some v)) H1 := by
  cases r with
  | val o =>
    simp only [asgR] at post
    split at post
    · rename_i g3 es
      obtain ⟨L2, s2, en2⟩ := store_ok' st.sep en1 rr es
      exact post _ H1 H01 L2 (st.trans s2) en2
    · exact post.elim
  | slot j =>
    simp only [asgR] at post
    split at post
    · rename_i d g2 ef
      obtain ⟨H02, L2, s2, rf, en2⟩ := frzs_ok (us := [v]) (Lr := Lr ++ []) (.cons rr .nil) (by simpa using st.sep) en1 ef
      cases rf with
      | cons rf _ =>
        split at post
        · rename_i g3 es
          obtain ⟨L3, s3, en3⟩ := store_ok' (Lr := []) (by simpa using s2.sep) en2 (.pure rf) es
          exact post _ H1 H02 L3 ((st.trans (by simpa using s2)).trans (by simpa using s3)) en3
        · exact post.elim
    · exact post.elim
theorem ss_set {i : Nat} {x : Str} {e : Expr} {pos pos' : Pos} {A : E} (h : SE W vs Wx X e A) (hp : ∀ {te : TE}, PE X e te → PS X (.Assign [.Name x pos'] e pos) (tAsg te (gName i))) : SS W vs Wx X (.Assign [.Name x pos'] e pos) (asgS i A) := by
  refine ps_weak (hp h) fun De σ H ⟨H0, L, g, sp, en, post⟩ => ?_
  refine ⟨H0, L, g, sp, en, ?_⟩
  unfold asgS at post
  cases ea : A g with
  | stuck => rw [ea] at post; exact post.elim
  | exc x g' => rw [ea] at post; exact fun c d H' H0' L' s2 rx en2 => post c d σ H' H0' L' s2 rx en2
  | ok r g1 =>
    rw [ea] at post
    exact fun v H1 H01 Lr L1 st rr en1 => asgR_ok st rr en1 post
end
end VI
namespace VI
open PySem PySem.Spec PyProof.Rows L2
section
variable {W : Wd} {vs : List (Option V)} {Wx : WX} {X : Cx} {n : Nat}
/-! ### what is walked -/
def Feeds (W : Wd) (Hb : Hp) (J : It) (us : List V) (os : List O) (ds : List D) : Prop := ∀ (i : Nat) (H0 H : Hp) (La : List Addr), Ex Hb H0 → Ex H0 H → RepOs W H0 H us os La →
  (∀ d, ds[i]? = some d → J.go i H ∧ ∀ x H', J.yld i H x H' → ∃ H0', Step H0 H [] H0' H' [] ∧ RepF W H0' x d) ∧ (i = ds.length → J.stop i H)
def PostI (W : Wd) (vs : List (Option V)) (Wx : WX) (σ : L2.St) (H0 H : Hp) (L : List Addr) (items : List O → Option (List D)) : Res (List R) → (It → Hp → Prop) → Prop
  | .ok rs g1, Q => ∃ os g2 ds, takes rs g1 = some (os, g2) ∧ items os = some ds ∧ ∀ J us H' H0' La L', Step H0 H L H0' H' (La ++ L') → RepOs W H0' H' us os La → EnvR W H0' H' vs σ g2 L' → Toks σ us rs → Feeds W H0' J us os ds → Q J H'
  | .exc x g', _ => ∀ c d H' H0' L', Step H0 H L H0' H' L' → RepX W H0' H' x c d → EnvR W H0' H' vs σ g' L' → Wx c d σ H'
  | .stuck, _ => False
def tI (W : Wd) (vs : List (Option V)) (Wx : WX) (A : G → Res (List R)) (items : List O → Option (List D)) : TI := fun σ H Q => ∃ H0 L g, Sep H0 H L ∧ EnvR W H0 H vs σ g L ∧ PostI W vs Wx σ H0 H L items (A g) Q
def SI (W : Wd) (vs : List (Option V)) (Wx : WX) (X : Cx) (tg e : Expr) (A : G → Res (List R)) (items : List O → Option (List D)) : Prop := PI X tg e (tI W vs Wx A items)
theorem pi_weak {tg e : Expr} {t t' : TI} (h : PI X tg e t) (i : ∀ σ H Q, t' σ H Q → t σ H Q) : PI X tg e t' := ⟨fun pins s σ H Q I q => h.run pins s σ H Q I (i _ _ _ q)⟩
theorem pi_or {tg e : Expr} {t t' : TI} (h : PI X tg e t) (h' : PI X tg e t') : PI X tg e (fun σ H Q => t σ H Q ∨ t' σ H Q) := ⟨fun pins s σ H Q I q => q.elim (h.run pins s σ H Q I) (h'.run pins s σ H Q I)⟩
/-- from the arguments' end to the walk's beginning -/
theorem tI_args {A : G → Res (List R)} {items : List O → Option (List D)} {σ : L2.St} {H : Hp} {Q : It → Hp → Prop} {R' : List V → Hp → Prop} (h : tI W vs Wx A items σ H Q)
    (k : ∀ us os ds H1 H01 La, RepOs W H01 H1 us os La → Ex H01 H1 → items os = some ds → (∀ J, Feeds W H01 J us os ds → Q J H1) → R' us H1) : tA W vs Wx A σ H R' := by
  obtain ⟨H0, L, g, sp, en, post⟩ := h
  refine ⟨H0, L, g, sp, en, ?_⟩
  cases ea : A g with
  | stuck => rw [ea] at post; exact post.elim
  | exc x g' => rw [ea] at post; exact post
  | ok rs g1 =>
    rw [ea] at post
    obtain ⟨os, g2, ds, e1, e2, kk⟩ := post
    intro us H1 H01 Lr L1 st rr en1
    obtain ⟨La, L2, ro, en2, pm⟩ := takes_ok rr en1 e1
    exact k us os ds H1 H01 La ro st.sep.ex e2 fun J f => kk J us H1 H01 La L2 (st.perm pm) ro en2 rr.toks f
theorem tA_one {A : E} {σ : L2.St} {H : Hp} {R' : V → Hp → Prop} (h : tA W vs Wx (evs [A]) σ H fun us H1 => ∀ v, us = [v] → R' v H1) : tE W vs Wx A σ H R' := by
  obtain ⟨H0, L, g, sp, en, post⟩ := h
  refine ⟨H0, L, g, sp, en, ?_⟩
  rw [evs] at post
  cases ea : A g with
  | stuck => rw [ea] at post; exact post.elim
  | exc x g' => rw [ea] at post; exact post
  | ok r g1 =>
    rw [ea] at post
    intro v H1 H01 Lr L1 st rr en1
    exact post [v] H1 H01 (Lr ++ []) L1 (by simpa using st) (.cons rr .nil) en1 v rfl
theorem RepOs.one {H0 H : Hp} {us : List V} {o : O} {L : List Addr} (h : RepOs W H0 H us [o] L) : ∃ v, us = [v] ∧ RepO W H0 H v o L := by
  cases h with
  | cons h r => cases r; exact ⟨_, rfl, by simpa using h⟩
theorem RepOs.len {H0 H : Hp} : ∀ {us : List V} {os : List O} {L : List Addr}, RepOs W H0 H us os L → us.length = os.length
  | _, _, _, .nil => rfl
  | _, _, _, .cons _ r => by simp [r.len]
def seqO : O → Option (List D)
  | .pure (.lst l) => some l
  | .pure (.tup l) => some l
  | .lst l => some l
  | _ => none
def sgnD (s : Str) : List D := s.cps.toList.map fun c => .str ⟨#[c]⟩
def itemsO : List O → Option (List D)
  | [.pure (.lst l)] => some l
  | [.pure (.tup l)] => some l
  | [.lst l] => some l
  | _ => none
theorem sql_of {H0 H : Hp} {v : V} {o : O} {l : List D} {L : List Addr} (e : Ex H0 H) (h : RepO W H0 H v o L) (ho : o = .pure (.lst l) ∨ o = .lst l) : ∃ p us, v = .ref p ∧ SqL W.K H p us ∧ RepFs W H0 us l := by
  rcases ho with rfl | rfl
  · cases h with
    | pure f => cases f with
      | lst h1 h2 => exact ⟨_, _, rfl, ex_l e h1, h2⟩
  · cases h with
    | lst h1 h2 => exact ⟨_, _, rfl, SqL.of h1, h2⟩
theorem sqt_of {H0 H : Hp} {v : V} {l : List D} {L : List Addr} (e : Ex H0 H) (h : RepO W H0 H v (.pure (.tup l)) L) : ∃ p us, v = .ref p ∧ SqT W.K H p us ∧ RepFs W H0 us l := by
  cases h with
  | pure f => cases f with
    | tup h1 h2 => exact ⟨_, _, rfl, ex_t e h1, h2⟩
theorem feeds_list {Hb : Hp} {p : Addr} {o : O} {l : List D} (ho : o = .pure (.lst l) ∨ o = .lst l) : Feeds W Hb (Itl W.K p) [.ref p] [o] l := by
  intro i H0 H La _ ex ro
  obtain ⟨v, e1, ro⟩ := ro.one
  cases e1
  obtain ⟨p', us, e2, hs, rf⟩ := sql_of ex ro ho
  cases e2
  refine ⟨fun d hd => ?_, fun hl => ⟨us, hs, by rw [rf.len, hl]; exact Nat.le_refl _⟩⟩
  obtain ⟨v, hv, rv⟩ := rf.get hd
  exact ⟨⟨us, v, hs, hv⟩, fun x H' ⟨e3, hx⟩ => by
    subst e3
    have := hx us hs
    rw [hv] at this; cases this
    exact ⟨H0, Step.refl (Sep.nil ex), rv⟩⟩
theorem feeds_tup {Hb : Hp} {p : Addr} {l : List D} : Feeds W Hb (Itt W.K p) [.ref p] [.pure (.tup l)] l := by
  intro i H0 H La _ ex ro
  obtain ⟨v, e1, ro⟩ := ro.one
  cases e1
  obtain ⟨p', us, e2, hs, rf⟩ := sqt_of ex ro
  cases e2
  refine ⟨fun d hd => ?_, fun hl => ⟨us, hs, by rw [rf.len, hl]; exact Nat.le_refl _⟩⟩
  obtain ⟨v, hv, rv⟩ := rf.get hd
  exact ⟨⟨us, v, hs, hv⟩, fun x H' ⟨e3, hx⟩ => by
    subst e3
    have := hx us hs
    rw [hv] at this; cases this
    exact ⟨H0, Step.refl (Sep.nil ex), rv⟩⟩
theorem tI_pick {A : G → Res (List R)} {items : List O → Option (List D)} {σ : L2.St} {H : Hp} {Q : It → Hp → Prop} (h : tI W vs Wx A items σ H Q) {P1 P2 : Prop} (h1 : (∀ os, (∃ ds, items os = some ds ∧ ∃ l, os = [O.pure (.tup l)]) → True) → P1) : True := trivial
theorem si_seq {k : Nat} {tg e : Expr} {A : E} (cx : Ctx W k Wx X) (h : SE W vs Wx X e A) : SI W vs Wx X tg e (evs [A]) itemsO := by
  refine pi_weak (pi_or (pi_list h) (pi_tup h)) fun σ H Q q => ?_
  obtain ⟨H0, L, g, sp, en, post⟩ := id q
  -- by what the object is
  by_cases ht : ∃ rs g1 l g2, evs [A] g = .ok rs g1 ∧ takes rs g1 = some ([O.pure (.tup l)], g2)
  · right
    obtain ⟨rs, g1, l, g2, ea, et⟩ := ht
    refine tA_one (R' := fun x H1 => ∃ a, x = .ref a ∧ (∃ xs, SqT X.K H1 a xs) ∧ Q (Itt X.K a) H1) ⟨H0, L, g, sp, en, ?_⟩
    rw [ea] at post ⊢
    obtain ⟨os, g2', ds, e1, e2, kk⟩ := post
    rw [et] at e1; cases e1
    cases e2
    intro us H1 H01 Lr L1 st rr en1 v hv
    subst hv
    obtain ⟨La, L2, ro, en2, pm⟩ := takes_ok rr en1 et
    obtain ⟨v', e3, ro1⟩ := ro.one
    cases e3
    obtain ⟨p, us, e4, hs, rf⟩ := sqt_of st.sep.ex ro1
    subst e4
    rw [cx.K]
    exact ⟨p, rfl, ⟨us, hs⟩, kk _ _ H1 H01 La L2 (st.perm pm) ro en2 rr.toks feeds_tup⟩
  · left
    refine tA_one (R' := fun x H1 => ∃ a, x = .ref a ∧ (∃ xs, SqL X.K H1 a xs) ∧ Q (Itl X.K a) H1) ⟨H0, L, g, sp, en, ?_⟩
    cases ea : evs [A] g with
    | stuck => rw [ea] at post; exact post.elim
    | exc x g' => rw [ea] at post; exact post
    | ok rs g1 =>
      rw [ea] at post
      obtain ⟨os, g2', ds, e1, e2, kk⟩ := post
      intro us H1 H01 Lr L1 st rr en1 v hv
      subst hv
      obtain ⟨La, L2, ro, en2, pm⟩ := takes_ok rr en1 e1
      have hl := ro.len
      obtain ⟨o, rfl⟩ : ∃ o, os = [o] := by
        cases os with
        | nil => simp at hl
        | cons o r => cases r with
          | nil => exact ⟨o, rfl⟩
          | cons _ _ => simp at hl
      have ho : o = .pure (.lst ds) ∨ o = .lst ds := by
        unfold itemsO at e2
        split at e2
        · rename_i l hh; cases hh; cases e2; exact .inl rfl
        · rename_i l hh; cases hh; exact (ht ⟨rs, g1, l, g2', ea, e1⟩).elim
        · rename_i l hh; cases hh; cases e2; exact .inr rfl
        · cases e2
      obtain ⟨v', e3, ro1⟩ := ro.one
      cases e3
      obtain ⟨p, us, e4, hs, rf⟩ := sql_of st.sep.ex ro1 ho
      subst e4
      rw [cx.K]
      exact ⟨p, rfl, ⟨us, hs⟩, kk _ _ H1 H01 La L2 (st.perm pm) ro en2 rr.toks (feeds_list ho)⟩
def rng1 : List O → Option (List D)
  | [.pure (.int j)] => if -(2 ^ 62) ≤ j ∧ j < 2 ^ 62 then some ((List.range j.toNat).map fun (k : Nat) => D.int (k : Int)) else none
  | _ => none
def rng2 : List O → Option (List D)
  | [.pure (.int i), .pure (.int j)] => if -(2 ^ 62) ≤ i ∧ i < 2 ^ 62 ∧ -(2 ^ 62) ≤ j ∧ j < 2 ^ 62 then some ((List.range (j - i).toNat).map fun (k : Nat) => D.int (i + (k : Int))) else none
  | _ => none
theorem feeds_range {Hb : Hp} {us : List V} {os : List O} {lo : Int} {m : Nat} : Feeds W Hb (Itr lo m) us os ((List.range m).map fun (k : Nat) => D.int (lo + (k : Int))) := by
  intro i H0 H La _ ex ro
  refine ⟨fun d hd => ?_, fun hl => (show m ≤ i by rw [hl]; simp)⟩
  rw [List.getElem?_map] at hd
  obtain ⟨k, hk, e⟩ := Option.map_eq_some_iff.mp hd
  have hi : i < m := by
    have := (List.getElem?_eq_some_iff.mp hk).1
    simpa using this
  have hki : k = i := by
    rw [List.getElem?_range hi] at hk; cases hk; rfl
  subst hki
  exact ⟨hi, fun x H' ⟨e1, e2⟩ => by subst e1; subst e2; subst e; exact ⟨H0, Step.refl (Sep.nil ex), .int _⟩⟩
theorem RepOs.int1 {H0 H : Hp} {us : List V} {j : Int} {L : List Addr} (h : RepOs W H0 H us [.pure (.int j)] L) : us = [.int j] := by
  obtain ⟨v, e, h⟩ := h.one
  cases h with
  | pure f => cases f; exact e
theorem RepOs.int2 {H0 H : Hp} {us : List V} {i j : Int} {L : List Addr} (h : RepOs W H0 H us [.pure (.int i), .pure (.int j)] L) : us = [.int i, .int j] := by
  cases h with
  | cons h r =>
    have := r.int1
    subst this
    cases h with
    | pure f => cases f; rfl
theorem si_range1 {tg a : Expr} {A : E} {p pos : Pos} (hg : Gl X "range") (hm : X.mg "range" = none) (ha : SA W vs Wx X [a] (evs [A])) (hs : starEach [a] X.env = [(false, eval a X.env)] := by rfl) : SI W vs Wx X tg (.Call (.Name "range" p) [a] [] pos) (evs [A]) rng1 := by
  refine pi_weak (pi_range1 hg hm ha hs) fun σ H Q q => tI_args q fun us os ds H1 H01 La ro ex e k => ?_
  unfold rng1 at e
  split at e
  · rename_i j
    split at e
    · rename_i hb
      cases e
      exact ⟨j, ro.int1, hb.1, hb.2, k _ (by simpa using feeds_range (lo := 0))⟩
    · cases e
  · cases e
theorem si_range2 {tg a b : Expr} {A B : E} {p pos : Pos} (hg : Gl X "range") (hm : X.mg "range" = none) (ha : SA W vs Wx X [a, b] (evs [A, B])) (hs : starEach [a, b] X.env = [(false, eval a X.env), (false, eval b X.env)] := by rfl) (hs2 : starEach [b] X.env = [(false, eval b X.env)] := by rfl) :
    SI W vs Wx X tg (.Call (.Name "range" p) [a, b] [] pos) (evs [A, B]) rng2 := by
  refine pi_weak (pi_range2 hg hm ha hs hs2) fun σ H Q q => tI_args q fun us os ds H1 H01 La ro ex e k => ?_
  unfold rng2 at e
  split at e
  · rename_i i j
    split at e
    · rename_i hb
      cases e
      exact ⟨i, j, ro.int2, hb, k _ feeds_range⟩
    · cases e
  · cases e
/-! ### for -/
def loopS (t : T) (body : S) : List D → S
  | [], g => .ok .next g
  | d :: ds, g => match t d g with
    | none => .stuck
    | some g1 => (body g1).bind fun f g2 => match f with
      | .next => loopS t body ds g2
      | .cont => loopS t body ds g2
      | .brk => .ok .next g2
      | .ret o => .ok (.ret o) g2
def lockG (g : G) : G := g.map fun s => match s with
  | .loc .hole => .par .hole
  | s => s
def unlkG : G → G → G
  | .par _ :: r0, .par o :: r => .par o :: unlkG r0 r
  | _ :: r0, .par o :: r => .loc o :: unlkG r0 r
  | _ :: r0, s :: r => s :: unlkG r0 r
  | [], .par o :: r => .loc o :: unlkG [] r
  | [], s :: r => s :: unlkG [] r
  | _, [] => []
def hasSlot : List R → Bool
  | [] => false
  | .slot _ :: _ => true
  | _ :: r => hasSlot r
def Res.mapG {α : Type} (f : G → Option G) : Res α → Res α
  | .ok a g => match f g with
    | some g' => .ok a g'
    | none => .stuck
  | .exc x g => match f g with
    | some g' => .exc x g'
    | none => .stuck
  | .stuck => .stuck
def isPar (g : G) : R → Bool
  | .slot i => match g[i]? with
    | some (.par _) => true
    | _ => false
  | _ => true
def forR (t : T) (body : S) (rs : List R) (os : List O) (ds : List D) (g2 : G) : Res Fl :=
  if hasSlot rs then (loopS t body ds (lockG g2)).mapG fun g' => if rs.all (isPar g') then some (puts rs os (unlkG g2 g')) else none else loopS t body ds g2
def forS (A : G → Res (List R)) (items : List O → Option (List D)) (t : T) (body : S) : S := fun g => (A g).bind fun rs g1 => match takes rs g1 with
  | some (os, g2) => match items os with
    | some ds => forR t body rs os ds g2
    | none => .stuck
  | none => .stuck
theorem env_lock {H0 H : Hp} : ∀ {vs : List (Option V)} {σ : L2.St} {g : G} {L : List Addr}, EnvR W H0 H vs σ g L → EnvR W H0 H σ σ (lockG g) L
  | _, _, _, _, .nil => .nil
  | _, _, _, _, .un r => .un (env_lock r)
  | _, _, _, _, .loc (o := o) h r => by
    cases o with
    | hole =>
      cases h
      exact .par .hole (env_lock r)
    | _ => exact .loc h (env_lock r)
  | _, _, _, _, .par h r => .par h (env_lock r)
theorem env_self {H0 H : Hp} : ∀ {vs : List (Option V)} {σ : L2.St} {g : G} {L : List Addr}, EnvR W H0 H vs σ g L → EnvR W H0 H σ σ g L
  | _, _, _, _, .nil => .nil
  | _, _, _, _, .un r => .un (env_self r)
  | _, _, _, _, .loc h r => .loc h (env_self r)
  | _, _, _, _, .par h r => .par h (env_self r)
theorem env_unlk {H0 H H0' H' : Hp} : ∀ {vs : List (Option V)} {σ0 σ : L2.St} {g0 g : G} {L0 L : List Addr}, EnvR W H0 H vs σ0 g0 L0 → EnvR W H0' H' σ0 σ g L → EnvR W H0' H' vs σ (unlkG g0 g) L
  | _, _, _, _, _, _, _, .nil, .nil => by simpa [unlkG] using EnvR.nil
  | _, _, _, _, _, _, _, .un r0, .un r => by simpa [unlkG] using EnvR.un (env_unlk r0 r)
  | _, _, _, _, _, _, _, .un r0, .loc h r => by simpa [unlkG] using EnvR.loc h (env_unlk r0 r)
  | _, _, _, _, _, _, _, .un r0, .par h r => by simpa [unlkG] using EnvR.loc h (env_unlk r0 r)
  | _, _, _, _, _, _, _, .loc _ r0, .un r => by simpa [unlkG] using EnvR.un (env_unlk r0 r)
  | _, _, _, _, _, _, _, .loc _ r0, .loc h r => by simpa [unlkG] using EnvR.loc h (env_unlk r0 r)
  | _, _, _, _, _, _, _, .loc _ r0, .par h r => by simpa [unlkG] using EnvR.loc h (env_unlk r0 r)
  | _, _, _, _, _, _, _, .par _ r0, .un r => by simpa [unlkG] using EnvR.un (env_unlk r0 r)
  | _, _, _, _, _, _, _, .par _ r0, .loc h r => by simpa [unlkG] using EnvR.loc h (env_unlk r0 r)
  | _, _, _, _, _, _, _, .par _ r0, .par h r => by simpa [unlkG] using EnvR.par h (env_unlk r0 r)
/-- a slot that holds a hole as a parameter keeps its value -/
theorem env_par_val {H0 H : Hp} : ∀ {vs : List (Option V)} {σ : L2.St} {g : G} {L : List Addr} {i : Nat} {o : O}, EnvR W H0 H vs σ g L → g[i]? = some (.par o) → σ[i]? = vs[i]?
  | _, _, _, _, i, o, .nil, h => by simp at h
  | _, _, _, _, 0, o, .un r, h => by simp at h
  | _, _, _, _, 0, o, .loc q r, h => by simp at h
  | _, _, _, _, 0, o, .par q r, h => by simp
  | _, _, _, _, i + 1, o, .un r, h => by simpa using env_par_val r (by simpa using h)
  | _, _, _, _, i + 1, o, .loc q r, h => by simpa using env_par_val r (by simpa using h)
  | _, _, _, _, i + 1, o, .par q r, h => by simpa using env_par_val r (by simpa using h)
/-- the loop's own part: vs' is what the body is told of its slots' first values, F what is done to the slots at the end -/
theorem for_core {t : T} {own : List Nat} {B : S} {ds : List D} {J : It} {us : List V} {os : List O} {vs' : List (Option V)} {F : G → Option G} {σ : L2.St} {H0 H H01 H1 : Hp} {L La L1 : List Addr} {g2 : G} {De : Ends}
    (st1 : Step H0 H L H01 H1 (La ++ L1)) (ro : RepOs W H01 H1 us os La) (en : EnvR W H01 H1 vs' σ g2 L1) (fd : Feeds W H01 J us os ds)
    (hF : ∀ σ' H0' H' g' g3 L', EnvR W H0' H' vs' σ' g' L' → RepOs W H0' H' us os La → F g' = some g3 → ∃ Lx L3, EnvR W H0' H' vs σ' g3 L3 ∧ (La ++ L').Perm (Lx ++ L3))
    (post : PostS W vs Wx H0 H L ((loopS t B ds g2).mapG F) De) :
    ∃ Wv : Nat → Nat → L2.St → Hp → Prop, (∃ m, Wv 0 m σ H1) ∧ ∀ i m σ H, Wv i m σ H →
      (J.stop i H ∧ De.nx σ H) ∨ (J.go i H ∧ ∃ N : L2.St → Hp → Prop, (∀ σ' H', N σ' H' → ∃ m', m' < m ∧ Wv (i + 1) m' σ' H') ∧ ∀ x H', J.yld i H x H' → tG W vs' own t x σ H' fun σ2 H2 => tS W vs' Wx B { De with nx := N, ct := N, bk := De.nx } σ2 H2) := by
  let Pv : Nat → L2.St → Hp → Prop := fun i σ' H' => ∃ H0' L' g', Ex H01 H0' ∧ Step H0 H L H0' H' (La ++ L') ∧ RepOs W H0' H' us os La ∧ EnvR W H0' H' vs' σ' g' L' ∧ PostS W vs Wx H0 H L ((loopS t B (ds.drop i) g').mapG F) De
  refine ⟨fun i m σ' H' => m = ds.length - i ∧ i ≤ ds.length ∧ Pv i σ' H', ⟨ds.length, by simp, Nat.zero_le _, H01, L1, g2, Ex.refl _, st1, ro, en, by simpa using post⟩, ?_⟩
  rintro i m σ2 H2 ⟨rfl, hi, H02, L2, g', exb, st2, ro2, en2, post2⟩
  obtain ⟨f1, f2⟩ := fd i H02 H2 La exb st2.sep.ex ro2
  by_cases hlt : i < ds.length
  · right
    obtain ⟨d, hd⟩ : ∃ d, ds[i]? = some d := ⟨ds[i], List.getElem?_eq_getElem hlt⟩
    obtain ⟨go, yl⟩ := f1 d hd
    have edrop : ds.drop i = d :: ds.drop (i + 1) := by
      have := List.drop_eq_getElem_cons hlt
      rw [this]
      congr 1
      rw [List.getElem?_eq_getElem hlt] at hd
      exact Option.some.inj hd
    rw [edrop, loopS] at post2
    refine ⟨go, Pv (i + 1), fun σ' H' p' => ⟨ds.length - (i + 1), by omega, rfl, hlt, p'⟩, fun x H3 hy => ?_⟩
    obtain ⟨H03, s3, rx⟩ := yl x H3 hy
    -- the item stands
    have sp2 : Sep H02 H2 ((La ++ L2) ++ []) := by simpa using st2.sep
    have s3' : Step H02 H2 (La ++ L2) H03 H3 (La ++ L2) := by simpa using Step.frame sp2 s3
    have kp : ∀ a ∈ La ++ L2, ∀ u, H2 a = some u → H3 a = some u := Step.keepL sp2 s3
    have ro3 := ro2.mono s3.ex0 fun a ha => kp a (List.mem_append_left _ ha)
    have en3 := en2.mono s3.ex0 fun a ha => kp a (List.mem_append_right _ ha)
    have st3 := st2.trans s3'
    cases et : t d g' with
    | none => rw [et] at post2; exact post2.elim
    | some g1 =>
      rw [et] at post2
      simp only at post2
      refine ⟨H03, L2, g', d, st3.sep.right, en3, rx, g1, et, fun σ4 H4 H04 L4 s4 en4 _ => ?_⟩
      have st4 : Step H0 H L H04 H4 (La ++ L4) := st3.then s4
      have ro4 := ro3.mono s4.ex0 (Step.keepL st3.sep s4)
      refine ⟨H04, L4, g1, st4.sep.right, en4, ?_⟩
      cases eb : B g1 with
      | stuck => rw [eb] at post2; exact post2.elim
      | exc x5 g5 =>
        rw [eb] at post2
        intro c dd σ5 H5 H05 L5 s5 rx5 en5
        have st5 : Step H0 H L H05 H5 (La ++ L5) := st4.then s5
        simp only [Res.bind, Res.mapG] at post2
        cases ef : F g5 with
        | none => rw [ef] at post2; exact post2.elim
        | some g6 =>
          rw [ef] at post2
          obtain ⟨Lx, L6, en6, pm⟩ := hF σ5 H05 H5 g5 g6 L5 en5 (ro4.mono s5.ex0 (Step.keepL st4.sep s5)) ef
          exact post2 c dd σ5 H5 H05 L6 ((st5.perm pm).right) rx5 en6
      | ok f g5 =>
        rw [eb] at post2
        simp only [Res.bind] at post2
        cases f with
        | next => exact fun σ5 H5 H05 L5 s5 en5 => ⟨H05, L5, g5, exb.trans (s3.ex0.trans (s4.ex0.trans s5.ex0)), st4.then s5, ro4.mono s5.ex0 (Step.keepL st4.sep s5), en5, post2⟩
        | cont => exact fun σ5 H5 H05 L5 s5 en5 => ⟨H05, L5, g5, exb.trans (s3.ex0.trans (s4.ex0.trans s5.ex0)), st4.then s5, ro4.mono s5.ex0 (Step.keepL st4.sep s5), en5, post2⟩
        | brk =>
          intro σ5 H5 H05 L5 s5 en5
          have st5 : Step H0 H L H05 H5 (La ++ L5) := st4.then s5
          simp only [Res.mapG] at post2
          cases ef : F g5 with
          | none => rw [ef] at post2; exact post2.elim
          | some g6 =>
            rw [ef] at post2
            obtain ⟨Lx, L6, en6, pm⟩ := hF σ5 H05 H5 g5 g6 L5 en5 (ro4.mono s5.ex0 (Step.keepL st4.sep s5)) ef
            exact post2 σ5 H5 H05 L6 ((st5.perm pm).right) en6
        | ret o =>
          intro v σ5 H5 H05 Lo L5 s5 rv en5
          have st5 : Step H0 H L H05 H5 (La ++ (Lo ++ L5)) := st4.then s5
          simp only [Res.mapG] at post2
          cases ef : F g5 with
          | none => rw [ef] at post2; exact post2.elim
          | some g6 =>
            rw [ef] at post2
            obtain ⟨Lx, L6, en6, pm⟩ := hF σ5 H05 H5 g5 g6 L5 en5 (ro4.mono s5.ex0 (Step.keepL st4.sep s5)) ef
            have st6 : Step H0 H L H05 H5 (Lx ++ (Lo ++ L6)) := by
              refine st5.perm ?_
              exact ((perm_mid La Lo L5).trans (List.Perm.append_left Lo pm)).trans (perm_mid Lo Lx L6)
            exact post2 v σ5 H5 H05 Lo L6 st6.right rv en6
  · left
    have e : i = ds.length := by omega
    subst e
    refine ⟨f2 rfl, ?_⟩
    rw [List.drop_length, loopS] at post2
    simp only [Res.mapG] at post2
    cases ef : F g' with
    | none => rw [ef] at post2; exact post2.elim
    | some g6 =>
      rw [ef] at post2
      obtain ⟨Lx, L6, en6, pm⟩ := hF σ2 H02 H2 g' g6 L2 en2 ro2 ef
      exact post2 σ2 H2 H02 L6 ((st2.perm pm).right) en6
theorem takes_hole : ∀ {rs : List R} {os : List O} {g1 g2 : G}, takes rs g1 = some (os, g2) →
    (∀ j : Nat, g1[j]? = some (Slot.par O.hole) → g2[j]? = some (Slot.par O.hole)) ∧ (∀ j : Nat, g1[j]? = some (Slot.loc O.hole) → g2[j]? = some (Slot.loc O.hole)) ∧ ∀ i, R.slot i ∈ rs → g2[i]? = some (Slot.par O.hole) ∨ g2[i]? = some (Slot.loc O.hole)
  | [], os, g1, g2, e => by cases e; exact ⟨fun j h => h, fun j h => h, fun i h => by cases h⟩
  | .val o :: rs, os, g1, g2, e => by
    rw [takes] at e
    obtain ⟨⟨os', g'⟩, e1, e2⟩ := Option.map_eq_some_iff.mp e
    cases e2
    obtain ⟨a, b, c⟩ := takes_hole e1
    exact ⟨a, b, fun i h => c i (by simpa using h)⟩
  | .slot i :: rs, os, g1, g2, e => by
    cases eo : ob g1 (.slot i) with
    | none => rw [takes, eo] at e; cases e
    | some o =>
      have e' : (takes rs (setO g1 i .hole)).map (fun p => (o :: p.1, p.2)) = some (os, g2) := by
        rw [takes, eo] at e
        cases o <;> first | exact e | cases e
      obtain ⟨⟨os', g'⟩, e1, e2⟩ := Option.map_eq_some_iff.mp e'
      cases e2
      simp only [ob, Option.bind_eq_some_iff] at eo
      obtain ⟨sl, eo1, eo2⟩ := eo
      obtain ⟨a, b, c⟩ := takes_hole e1
      have eset : setO g1 i .hole = g1.set i (sl.wth .hole) := by simp only [setO, eo1]
      rw [eset] at a b
      have hlt : i < g1.length := (List.getElem?_eq_some_iff.mp eo1).1
      have at_i : (g1.set i (sl.wth .hole))[i]? = some (sl.wth .hole) := by rw [List.getElem?_set_self hlt]
      refine ⟨fun j h => ?_, fun j h => ?_, fun j h => ?_⟩
      · by_cases hj : i = j
        · subst hj
          rw [eo1] at h; cases h
          exact a i (by rw [at_i]; rfl)
        · exact a j (by rw [List.getElem?_set_ne hj]; exact h)
      · by_cases hj : i = j
        · subst hj
          rw [eo1] at h; cases h
          exact b i (by rw [at_i]; rfl)
        · exact b j (by rw [List.getElem?_set_ne hj]; exact h)
      · rcases List.mem_cons.mp h with q | q
        · cases q
          cases sl with
          | un => cases eo2
          | par o2 => exact .inl (a i (by rw [at_i]; rfl))
          | loc o2 => exact .inr (b i (by rw [at_i]; rfl))
        · exact c j q
theorem toks_keep {σ σ' : L2.St} : ∀ {us : List V} {rs : List R}, Toks σ us rs → (∀ i, R.slot i ∈ rs → σ'[i]? = σ[i]?) → Toks σ' us rs
  | _, _, .nil, _ => .nil
  | _, _, .val t, h => .val (toks_keep t fun i hi => h i (by simp [hi]))
  | _, _, .slot e t, h => .slot (by rw [h _ (by simp)]; exact e) (toks_keep t fun i hi => h i (by simp [hi]))
theorem noSlot : ∀ {rs : List R}, hasSlot rs = false → ∀ i, R.slot i ∉ rs
  | [], _, i, h => by cases h
  | .slot j :: rs, e, i, h => by cases e
  | .val o :: rs, e, i, h => by
    rcases List.mem_cons.mp h with q | q
    · cases q
    · exact noSlot (rs := rs) e i q
theorem ss_for {own : List Nat} {tg iter : Expr} {body : List Stmt} {pos : Pos} {A : G → Res (List R)} {items : List O → Option (List D)} {t : T} {B : S} {k : Nat} (cx : Ctx W k Wx X) (po : PassesOwn (model X.prog X.w) X.A X.env X.xe)
    (hi : SI W vs Wx X tg iter A items) (hg : ∀ vs', SG W vs' own X tg t) (hb : ∀ vs', SB W vs' Wx X body B) (hs : ∀ x, foldedSetIterable iter X.env x = pure x := by intro _; rfl) : SS W vs Wx X (.For tg iter body [] pos) (forS A items t B) := by
  refine ⟨fun pins s σ H De I h => ?_⟩
  by_cases hh : ∃ H0 L g rs g1, Sep H0 H L ∧ EnvR W H0 H vs σ g L ∧ PostS W vs Wx H0 H L (forS A items t B g) De ∧ A g = .ok rs g1 ∧ hasSlot rs = true
  · refine (ps_for po cx.calm hi (hg σ) (hb σ) hs).run pins s σ H De I ?_
    obtain ⟨H0, L, g, rs, g1, sp, en, post, ea, hsl⟩ := hh
    refine ⟨H0, L, g, sp, en, ?_⟩
    unfold forS at post
    rw [ea] at post ⊢
    simp only [Res.bind] at post
    cases et : takes rs g1 with
    | none => rw [et] at post; exact post.elim
    | some p =>
      obtain ⟨os, g2⟩ := p
      rw [et] at post
      simp only at post
      cases ei : items os with
      | none => rw [ei] at post; exact post.elim
      | some ds =>
        rw [ei] at post
        simp only [forR] at post
        rw [if_pos hsl] at post
        refine ⟨os, g2, ds, et, ei, fun J us H1 H01 La L1 st ro en1 tk fd => ?_⟩
        refine for_core st ro (env_lock en1) fd (fun σ' H0' H' g' g3 L' en' ro' hf => ?_) post
        have hall : rs.all (isPar g') = true := by
          by_cases q : rs.all (isPar g') = true
          · exact q
          · rw [if_neg q] at hf; cases hf
        rw [if_pos hall] at hf; cases hf
        have en2 := env_unlk en1 en'
        have tk' : Toks σ' us rs := toks_keep tk fun i hi => by
          have := List.all_eq_true.mp hall _ hi
          simp only [isPar] at this
          split at this
          · rename_i o e; exact env_par_val en' e
          · cases this
        exact puts_ok tk' ro' en2
  · refine (ps_for po cx.calm hi (hg vs) (hb vs) hs).run pins s σ H De I ?_
    obtain ⟨H0, L, g, sp, en, post⟩ := h
    refine ⟨H0, L, g, sp, en, ?_⟩
    cases ea : A g with
    | stuck => unfold forS at post; rw [ea] at post; exact post.elim
    | exc x g' => unfold forS at post; rw [ea] at post; exact fun c d H' H0' L' s2 rx en2 => post c d σ H' H0' L' s2 rx en2
    | ok rs g1 =>
      have hsl : hasSlot rs = false := by
        cases q : hasSlot rs with
        | false => rfl
        | true => exact (hh ⟨H0, L, g, rs, g1, sp, en, post, ea, q⟩).elim
      unfold forS at post
      rw [ea] at post
      simp only [Res.bind] at post
      cases et : takes rs g1 with
      | none => rw [et] at post; exact post.elim
      | some p =>
        obtain ⟨os, g2⟩ := p
        rw [et] at post
        simp only at post
        cases ei : items os with
        | none => rw [ei] at post; exact post.elim
        | some ds =>
          rw [ei] at post
          simp only [forR] at post
          rw [if_neg (by rw [hsl]; simp)] at post
          refine ⟨os, g2, ds, et, ei, fun J us H1 H01 La L1 st ro en1 tk fd => ?_⟩
          refine for_core (vs := vs) (F := some) st ro en1 fd (fun σ' H0' H' g' g3 L' en' ro' hf => ?_) ?_
          · cases hf; exact ⟨La, L', en', .refl _⟩
          · have : ∀ r : Res Fl, r.mapG some = r := fun r => by cases r <;> rfl
            rw [this]; exact post
/-- while: by fuel -/
def whileS (t : G → Res Bool) (body : S) : Nat → S
  | 0, _ => .stuck
  | n + 1, g => (t g).bind fun c g1 => if c then (body g1).bind fun f g2 => match f with
      | .next => whileS t body n g2
      | .cont => whileS t body n g2
      | .brk => .ok .next g2
      | .ret o => .ok (.ret o) g2
    else .ok .next g1
theorem ss_while {c : Expr} {body : List Stmt} {pos : Pos} {t : G → Res Bool} {B : S} (fuel : Nat) (po : PassesOwn (model X.prog X.w) X.A X.env X.xe) (hc : ST W vs Wx X c t) (hb : SB W vs Wx X body B) : SS W vs Wx X (.While c body [] pos) (whileS t B fuel) := by
  refine ps_weak (ps_while po hc hb) fun De σ H ⟨H0, L, g, sp, en, post⟩ => ?_
  refine ⟨fun m σ' H' => ∃ H0' L' g', Step H0 H L H0' H' L' ∧ EnvR W H0' H' vs σ' g' L' ∧ PostS W vs Wx H0 H L (whileS t B m g') De, ⟨fuel, H0, L, g, Step.refl sp, en, post⟩, ?_⟩
  rintro m σ1 H1 ⟨H01, L1, g1, st1, en1, post1⟩
  refine ⟨H01, L1, g1, st1.sep, en1, ?_⟩
  cases m with
  | zero => exact post1.elim
  | succ m =>
    rw [whileS] at post1
    cases et : t g1 with
    | stuck => rw [et] at post1; exact post1.elim
    | exc x g' => rw [et] at post1; exact fun cc d H' H0' L' s2 rx en2 => post1 cc d σ1 H' H0' L' (st1.trans s2) rx en2
    | ok b g2 =>
      rw [et] at post1
      simp only [Res.bind] at post1
      intro H2 H02 L2 s2 en2
      have st2 := st1.trans s2
      cases b with
      | false => rw [if_neg Bool.false_ne_true] at post1 ⊢; exact post1 σ1 H2 H02 L2 st2 en2
      | true =>
        rw [if_pos rfl] at post1 ⊢
        refine ⟨fun σ' H' => ∃ H0' L' g', Step H0 H L H0' H' L' ∧ EnvR W H0' H' vs σ' g' L' ∧ PostS W vs Wx H0 H L (whileS t B m g') De, fun σ' H' p => ⟨m, Nat.lt_succ_self m, p⟩, H02, L2, g2, st2.sep, en2, ?_⟩
        cases eb : B g2 with
        | stuck => rw [eb] at post1; exact post1.elim
        | exc x5 g5 => rw [eb] at post1; exact fun cc dd σ5 H5 H05 L5 s5 rx5 en5 => post1 cc dd σ5 H5 H05 L5 (st2.trans s5) rx5 en5
        | ok f g5 =>
          rw [eb] at post1
          simp only at post1
          cases f with
          | next => exact fun σ5 H5 H05 L5 s5 en5 => ⟨H05, L5, g5, st2.trans s5, en5, post1⟩
          | cont => exact fun σ5 H5 H05 L5 s5 en5 => ⟨H05, L5, g5, st2.trans s5, en5, post1⟩
          | brk => exact fun σ5 H5 H05 L5 s5 en5 => post1 σ5 H5 H05 L5 (st2.trans s5) en5
          | ret o => exact fun v σ5 H5 H05 Lo L5 s5 rv en5 => post1 v σ5 H5 H05 Lo L5 (st2.trans s5) rv en5
end
end VI
namespace VI
open PySem PySem.Spec PyProof.Rows L2
section
variable {W : Wd} {vs : List (Option V)} {Wx : WX} {X : Cx} {n : Nat}
/-! ### list comprehensions -/
abbrev Wx0 : WX := fun _ _ _ _ => False
theorem Ctx.blk {k : Nat} (cx : Ctx W k Wx X) (s : Shared) (H : Hp) (scope : Scope) (cenv : PySem.Env) (fp : List Addr) : Ctx W k Wx0 (X.blk s H scope cenv fp) := ⟨cx.K, cx.calm, cx.nd, takes0, cx.room⟩
def isPure (g : G) (i : Nat) : Bool := match g[i]? with
  | some .un => true
  | some (.loc (.pure _)) => true
  | some (.par (.pure _)) => true
  | _ => false
def wipeG : List Nat → G → G
  | [], g => g
  | i :: own, g => (wipeG own g).set i .un
def restG : List Nat → G → G → G
  | [], _, g => g
  | i :: own, g0, g => restG own g0 (match g0[i]? with
    | some s => g.set i s
    | none => g)
def compL (own : List Nat) (t : T) (cond : G → Res Bool) (elt : E) : List D → G → List D → Option (List D × G)
  | [], g, acc => some (acc, g)
  | d :: ds, g, acc => match t d (wipeG own g) with
    | none => none
    | some g1 => match cond g1 with
      | .ok true g2 => match elt g2 with
        | .ok r g3 => match frzs [r] g3 with
          | some ([y], g4) => if acc.length < 16777216 ∧ own.all (isPure g4) then compL own t cond elt ds g4 (acc ++ [y]) else none
          | _ => none
        | _ => none
      | .ok false g2 => if own.all (isPure g2) then compL own t cond elt ds g2 acc else none
      | _ => none
def compE (A : G → Res (List R)) (items : List O → Option (List D)) (own : List Nat) (t : T) (cond : G → Res Bool) (elt : E) : E := fun g => (A g).bind fun rs g1 => match takes rs g1 with
  | some (os, g2) => match items os with
    | some ds => if own.all (isPure g2) && own.all (fun i => !rs.any fun r => match r with | .slot j => j == i | _ => false) then match compL own t cond elt ds g2 [] with
        | some (acc, g3) => .ok (.val (.lst acc)) (puts rs os (restG own g2 g3))
        | none => .stuck
      else .stuck
    | none => .stuck
  | none => .stuck
theorem env_un {H0 H : Hp} : ∀ {vs : List (Option V)} {σ : L2.St} {g : G} {L : List Addr} (i : Nat) (s : Option V), EnvR W H0 H vs σ g L → isPure g i = true → EnvR W H0 H vs (σ.set i s) (g.set i .un) L
  | _, _, _, _, i, s, .nil, h => by simp [isPure] at h
  | _, _, _, _, 0, s, .un r, h => by simpa using EnvR.un r
  | _, _, _, _, 0, s, .loc (o := o) q r, h => by
    cases q with
    | pure f => simpa using EnvR.un r
    | _ => simp [isPure] at h
  | _, _, _, _, 0, s, .par (o := o) q r, h => by
    cases q with
    | pure f => simpa using EnvR.un r
    | _ => simp [isPure] at h
  | _, _, _, _, i + 1, s, .un r, h => by simpa using EnvR.un (env_un i s r (by simpa [isPure] using h))
  | _, _, _, _, i + 1, s, .loc q r, h => by simpa using EnvR.loc q (env_un i s r (by simpa [isPure] using h))
  | _, _, _, _, i + 1, s, .par q r, h => by simpa using EnvR.par q (env_un i s r (by simpa [isPure] using h))
theorem wipeG_get (g : G) (j : Nat) : ∀ own : List Nat, (wipeG own g)[j]? = if j ∈ own then (g[j]?).map (fun _ => Slot.un) else g[j]?
  | [] => by simp [wipeG]
  | i :: own => by
    unfold wipeG
    by_cases h : i = j
    · subst h
      simp only [List.getElem?_set_self', List.mem_cons, true_or, if_true]
      rw [wipeG_get g i own]
      split <;> cases g[i]? <;> rfl
    · rw [List.getElem?_set_ne h, wipeG_get g j own]
      simp [Ne.symm h]
theorem env_wipe {H0 H : Hp} {vs : List (Option V)} {σ : L2.St} {g : G} {L : List Addr} (en : EnvR W H0 H vs σ g L) : ∀ {own : List Nat}, (∀ i ∈ own, isPure g i = true) → EnvR W H0 H vs (wipe σ own) (wipeG own g) L
  | [], _ => en
  | i :: own, h => by
    refine env_un i none (env_wipe en fun j hj => h j (by simp [hj])) ?_
    have := h i (by simp)
    unfold isPure at this ⊢
    rw [wipeG_get]
    split at this
    · rename_i e; by_cases q : i ∈ own <;> simp [q, e]
    · rename_i e; by_cases q : i ∈ own <;> simp [q, e]
    · rename_i e; by_cases q : i ∈ own <;> simp [q, e]
    · cases this
/-- a pure slot is put back -/
theorem env_back {H0 H H0' H' : Hp} (e : Ex H0 H0') : ∀ {vs : List (Option V)} {σ0 σ : L2.St} {g0 g : G} {L0 L : List Addr} (i : Nat) {s : Slot}, EnvR W H0 H vs σ0 g0 L0 → EnvR W H0' H' vs σ g L → isPure g i = true → g0[i]? = some s → isPure g0 i = true → ∃ x, σ0[i]? = some x ∧ EnvR W H0' H' vs (σ.set i x) (g.set i s) L
  | _, _, _, _, _, _, _, i, s, .nil, _, _, h, _ => by simp at h
  | _, _, _, _, _, _, _, 0, s, .un (s := x) r0, en, hp, h, _ => by
    simp at h; subst h
    cases en with
    | un r => exact ⟨x, by simp, by simpa using EnvR.un r⟩
    | loc q r => cases q with
      | pure _ => exact ⟨x, by simp, by simpa using EnvR.un r⟩
      | _ => simp [isPure] at hp
    | par q r => cases q with
      | pure _ => exact ⟨x, by simp, by simpa using EnvR.un r⟩
      | _ => simp [isPure] at hp
  | _, _, _, _, _, _, _, 0, s, .loc (v := v) q0 r0, en, hp, h, hq => by
    simp at h; subst h
    cases q0 with
    | pure f0 =>
      have z : ∀ {L : List Addr}, RepO W H0' H' v (.pure _) [] := fun {_} => .pure (f0.mono e)
      cases en with
      | un r => exact ⟨some v, by simp, by simpa using EnvR.loc (RepO.pure (H := H') (f0.mono e)) r⟩
      | loc q r => cases q with
        | pure _ => exact ⟨some v, by simp, by simpa using EnvR.loc (RepO.pure (H := H') (f0.mono e)) r⟩
        | _ => simp [isPure] at hp
      | par q r => cases q with
        | pure _ => exact ⟨some v, by simp, by simpa using EnvR.loc (RepO.pure (H := H') (f0.mono e)) r⟩
        | _ => simp [isPure] at hp
    | _ => simp [isPure] at hq
  | _, _, _, _, _, _, _, 0, s, .par (v := v) q0 r0, en, hp, h, hq => by
    simp at h; subst h
    cases q0 with
    | pure f0 =>
      cases en with
      | un r => exact ⟨some v, by simp, by simpa using EnvR.par (RepO.pure (H := H') (f0.mono e)) r⟩
      | loc q r => cases q with
        | pure _ => exact ⟨some v, by simp, by simpa using EnvR.par (RepO.pure (H := H') (f0.mono e)) r⟩
        | _ => simp [isPure] at hp
      | par q r => cases q with
        | pure _ => exact ⟨some v, by simp, by simpa using EnvR.par (RepO.pure (H := H') (f0.mono e)) r⟩
        | _ => simp [isPure] at hp
    | _ => simp [isPure] at hq
  | _, _, _, _, _, _, _, i + 1, s, en0, en, hp, h, hq => by
    have tail0 : ∃ (vs0 : List (Option V)) (σt : L2.St) (gt : G) (Lt : List Addr), True := ⟨[], [], [], [], trivial⟩
    cases en0 with
    | nil => simp at h
    | un r0 =>
      cases en with
      | un r => obtain ⟨x, h1, h2⟩ := env_back e i r0 r (by simpa [isPure] using hp) (by simpa using h) (by simpa [isPure] using hq); exact ⟨x, by simpa using h1, by simpa using EnvR.un h2⟩
      | loc q r => obtain ⟨x, h1, h2⟩ := env_back e i r0 r (by simpa [isPure] using hp) (by simpa using h) (by simpa [isPure] using hq); exact ⟨x, by simpa using h1, by simpa using EnvR.loc q h2⟩
      | par q r => obtain ⟨x, h1, h2⟩ := env_back e i r0 r (by simpa [isPure] using hp) (by simpa using h) (by simpa [isPure] using hq); exact ⟨x, by simpa using h1, by simpa using EnvR.par q h2⟩
    | loc q0 r0 =>
      cases en with
      | un r => obtain ⟨x, h1, h2⟩ := env_back e i r0 r (by simpa [isPure] using hp) (by simpa using h) (by simpa [isPure] using hq); exact ⟨x, by simpa using h1, by simpa using EnvR.un h2⟩
      | loc q r => obtain ⟨x, h1, h2⟩ := env_back e i r0 r (by simpa [isPure] using hp) (by simpa using h) (by simpa [isPure] using hq); exact ⟨x, by simpa using h1, by simpa using EnvR.loc q h2⟩
      | par q r => obtain ⟨x, h1, h2⟩ := env_back e i r0 r (by simpa [isPure] using hp) (by simpa using h) (by simpa [isPure] using hq); exact ⟨x, by simpa using h1, by simpa using EnvR.par q h2⟩
    | par q0 r0 =>
      cases en with
      | un r => obtain ⟨x, h1, h2⟩ := env_back e i r0 r (by simpa [isPure] using hp) (by simpa using h) (by simpa [isPure] using hq); exact ⟨x, by simpa using h1, by simpa using EnvR.un h2⟩
      | loc q r => obtain ⟨x, h1, h2⟩ := env_back e i r0 r (by simpa [isPure] using hp) (by simpa using h) (by simpa [isPure] using hq); exact ⟨x, by simpa using h1, by simpa using EnvR.loc q h2⟩
      | par q r => obtain ⟨x, h1, h2⟩ := env_back e i r0 r (by simpa [isPure] using hp) (by simpa using h) (by simpa [isPure] using hq); exact ⟨x, by simpa using h1, by simpa using EnvR.par q h2⟩
theorem isPure_some {g : G} {i : Nat} (h : isPure g i = true) : ∃ s, g[i]? = some s := by
  unfold isPure at h
  cases e : g[i]? with
  | none => rw [e] at h; cases h
  | some s => exact ⟨s, rfl⟩
theorem isPure_set {g : G} {i j : Nat} {s : Slot} (h : isPure g j = true) (hs : isPure [s] 0 = true) : isPure (g.set i s) j = true := by
  unfold isPure at h hs ⊢
  by_cases e : i = j
  · subst e
    obtain ⟨s', e'⟩ := isPure_some (g := g) (i := i) h
    rw [List.getElem?_set_self (List.getElem?_eq_some_iff.mp e').1]
    simpa using hs
  · rw [List.getElem?_set_ne e]; exact h
theorem env_rest {H0 H H0' H' : Hp} (e : Ex H0 H0') {vs : List (Option V)} {σ0 : L2.St} {g0 : G} {L0 : List Addr} (en0 : EnvR W H0 H vs σ0 g0 L0) : ∀ {own : List Nat} {σ : L2.St} {g : G} {L : List Addr}, EnvR W H0' H' vs σ g L → (∀ i ∈ own, isPure g i = true) → (∀ i ∈ own, isPure g0 i = true) → (∀ j, j ∉ own → σ[j]? = σ0[j]?) → EnvR W H0' H' vs σ0 (restG own g0 g) L
  | [], σ, g, L, en, _, _, hj => by
    have : σ = σ0 := List.ext_getElem? fun j => hj j (by simp)
    subst this; exact en
  | i :: own, σ, g, L, en, hp, hq, hj => by
    obtain ⟨s, hs⟩ := isPure_some (hq i (by simp))
    obtain ⟨x, h1, h2⟩ := env_back e i en0 en (hp i (by simp)) hs (hq i (by simp))
    have h3 : restG (i :: own) g0 g = restG own g0 (g.set i s) := by rw [restG, hs]
    rw [h3]
    have hs1 : isPure [s] 0 = true := by
      have := hq i (by simp)
      unfold isPure at this ⊢
      rw [hs] at this; simpa using this
    refine env_rest e en0 h2 (fun k hk => isPure_set (hp k (by simp [hk])) hs1) (fun k hk => hq k (by simp [hk])) fun j hjn => ?_
    by_cases q : i = j
    · subst q
      by_cases hlt : i < σ.length
      · rw [List.getElem?_set_self hlt, h1]
      · -- the slots are as many
        exfalso
        have l1 := (List.getElem?_eq_some_iff.mp h1).1
        have : ∀ {vs : List (Option V)} {σ : L2.St} {g : G} {L : List Addr} {H0 H : Hp}, EnvR W H0 H vs σ g L → σ.length = g.length ∧ vs.length = g.length := by
          intro vs σ g L H0 H en
          induction en with
          | nil => exact ⟨rfl, rfl⟩
          | un _ ih => simp [ih.1, ih.2]
          | loc _ _ ih => simp [ih.1, ih.2]
          | par _ _ ih => simp [ih.1, ih.2]
        have a := this en0
        have b := this en
        omega
    · rw [List.getElem?_set_ne q]
      exact hj j (by simp [hjn, Ne.symm q])
theorem lcsize {m : Nat} (h : m < 16777216) : m < sizeLine := by rw [sizeLine_eq]; exact h
/-- from A's end to a comprehension's list -/
theorem tLc_ok {own : List Nat} {A : G → Res (List R)} {items : List O → Option (List D)} {t : T} {cond : G → Res Bool} {B : E} {σ : L2.St} {H : Hp} {Q : VK} (h : tE W vs Wx (compE A items own t cond B) σ H Q) :
    tLc (tI W vs Wx A items) (tG W vs own t) (tT W vs Wx0 cond) (tE W vs Wx0 B) own σ H Q := by
  obtain ⟨H0, L, g, sp, en, post⟩ := h
  refine ⟨H0, L, g, sp, en, ?_⟩
  unfold compE at post
  cases ea : A g with
  | stuck => rw [ea] at post; exact post.elim
  | exc x g' => rw [ea] at post; exact post
  | ok rs g1 =>
    rw [ea] at post
    simp only [Res.bind] at post
    cases et : takes rs g1 with
    | none => rw [et] at post; exact post.elim
    | some p =>
      obtain ⟨os, g2⟩ := p
      rw [et] at post
      simp only at post
      cases ei : items os with
      | none => rw [ei] at post; exact post.elim
      | some ds =>
        rw [ei] at post
        simp only at post
        by_cases hcnd : (own.all (isPure g2) && own.all (fun i => !rs.any fun r => match r with | .slot j => j == i | _ => false)) = true
        · rw [if_pos hcnd] at post
          rw [Bool.and_eq_true] at hcnd
          have hpure : ∀ i ∈ own, isPure g2 i = true := List.all_eq_true.mp hcnd.1
          refine ⟨os, g2, ds, et, ei, fun J us H1 H01 La L1 st1 ro1 en1 tk fd Da hD => ?_⟩
          -- the new list is one's own
          have sD := step_newL (o := .lst []) st1.sep.ex hD
          have sp1 : Sep H01 H1 ((La ++ L1) ++ []) := by simpa using st1.sep
          have kp1 := Step.keepL sp1 sD
          have st2 : Step H0 H L H01 (upd H1 Da (.lst [])) ([Da] ++ (La ++ L1)) := by
            refine (st1.trans ((Step.frame sp1 sD).from fun a => by simp)).perm ?_
            exact List.perm_append_comm
          have ro2 : RepOs W H01 (upd H1 Da (.lst [])) us os La := ro1.mono (Ex.refl _) fun a ha => kp1 a (List.mem_append_left _ ha)
          have en2 : EnvR W H01 (upd H1 Da (.lst [])) vs σ g2 L1 := en1.mono (Ex.refl _) fun a ha => kp1 a (List.mem_append_right _ ha)
          let Pv : Nat → Hp → Prop := fun i H' => ∃ H0' L' g' σ' acc av, Step H0 H L H0' H' ([Da] ++ (La ++ L')) ∧ RepOs W H0' H' us os La ∧ EnvR W H0' H' vs σ' g' L' ∧ (∀ j, j ∉ own → σ'[j]? = σ[j]?) ∧ (∀ i ∈ own, isPure g' i = true) ∧
            H' Da = some (.lst av) ∧ RepFs W H0' av acc ∧ Ex H01 H0' ∧ PostE W vs Wx σ H0 H L (match compL own t cond B (ds.drop i) g' acc with
              | some (acc, g3) => .ok (.val (.lst acc)) (puts rs os (restG own g2 g3))
              | none => .stuck) Q
          refine ⟨fun i m H' => m = ds.length - i ∧ i ≤ ds.length ∧ Pv i H', ⟨ds.length, by simp, Nat.zero_le _, H01, L1, g2, σ, [], [], st2, ro2, en2, fun _ _ => rfl, hpure, upd_same, .nil, Ex.refl _, by simpa using post⟩, ?_⟩
          rintro i m H2 ⟨rfl, hi, H02, L2, g', σ', acc, av, st, ro, en', hσ, hp', hDa, rf, exx, post2⟩
          obtain ⟨f1, f2⟩ := fd i H02 H2 La exx st.sep.ex ro
          by_cases hlt : i < ds.length
          · right
            obtain ⟨d, hd⟩ : ∃ d, ds[i]? = some d := ⟨ds[i], List.getElem?_eq_getElem hlt⟩
            obtain ⟨go, yl⟩ := f1 d hd
            have edrop : ds.drop i = d :: ds.drop (i + 1) := by
              have := List.drop_eq_getElem_cons hlt
              rw [this]
              congr 1
              rw [List.getElem?_eq_getElem hlt] at hd
              exact Option.some.inj hd
            rw [edrop, compL] at post2
            refine ⟨go, Pv (i + 1), fun H' p' => ⟨ds.length - (i + 1), by omega, rfl, hlt, p'⟩, fun x H3 hy => ?_⟩
            obtain ⟨H03, s3, rx⟩ := yl x H3 hy
            have sp2 : Sep H02 H2 (([Da] ++ (La ++ L2)) ++ []) := by simpa using st.sep
            have s3' : Step H02 H2 ([Da] ++ (La ++ L2)) H03 H3 ([Da] ++ (La ++ L2)) := by simpa using Step.frame sp2 s3
            have kp : ∀ a ∈ [Da] ++ (La ++ L2), ∀ u, H2 a = some u → H3 a = some u := Step.keepL sp2 s3
            have ro3 := ro.mono s3.ex0 fun a ha => kp a (by simp [ha])
            have en3 := en'.mono s3.ex0 fun a ha => kp a (by simp [ha])
            have hD3 : H3 Da = some (.lst av) := kp Da (by simp) _ hDa
            have st3 := st.trans s3'
            have ewipe : wipe σ own = wipe σ' own := List.ext_getElem? fun j => by
              rw [wipe_get, wipe_get]
              by_cases hj : j ∈ own
              · rw [if_pos hj, if_pos hj]
                have hlen : ∀ {vs : List (Option V)} {σ : List (Option V)} {g : G} {L : List Addr} {H0 H : Hp}, EnvR W H0 H vs σ g L → σ.length = vs.length := by
                  intro vs σ g L H0 H en
                  induction en with
                  | nil => rfl
                  | un _ ih => simp [ih]
                  | loc _ _ ih => simp [ih]
                  | par _ _ ih => simp [ih]
                have l1 := hlen en1
                have l2 := hlen en'
                by_cases q : j < σ.length
                · rw [List.getElem?_eq_getElem q, List.getElem?_eq_getElem (show j < σ'.length by omega)]; rfl
                · rw [List.getElem?_eq_none (by omega), List.getElem?_eq_none (by omega)]
              · rw [if_neg hj, if_neg hj, hσ j hj]
            have enw := env_wipe en3 hp'
            cases eT : t d (wipeG own g') with
            | none => rw [eT] at post2; exact post2.elim
            | some g4 =>
              rw [eT] at post2
              simp only at post2
              have st3r : Step H0 H L H03 H3 (([Da] ++ La) ++ L2) := by simpa [List.append_assoc] using st3
              refine ⟨H03, L2, wipeG own g', d, st3r.sep.right, by rw [ewipe]; exact enw, rx, g4, eT, fun σ4 H4 H04 L4 s4 en4 hw => ?_⟩
              have st4 : Step H0 H L H04 H4 (([Da] ++ La) ++ L4) := st3r.then s4
              have kp4 := Step.keepL st3r.sep s4
              have ro4 := ro3.mono s4.ex0 fun a ha => kp4 a (by simp [ha])
              have hD4 : H4 Da = some (.lst av) := kp4 Da (by simp) _ hD3
              have hwid : wipe (wipe σ own) own = wipe σ own := List.ext_getElem? fun j => by
                rw [wipe_get, wipe_get]
                by_cases hj : j ∈ own
                · rw [if_pos hj, if_pos hj]; cases σ[j]? <;> rfl
                · rw [if_neg hj, if_neg hj]
              have hw2 : wipe σ4 own = wipe σ own := hw.trans hwid
              have hσ4 : ∀ j, j ∉ own → σ4[j]? = σ[j]? := fun j hj => by
                have h1 := wipe_get σ4 j own
                have h2 := wipe_get σ j own
                rw [if_neg hj] at h1 h2
                rw [← h1, ← h2, hw2]
              refine ⟨hw2, H04, L4, g4, st4.sep.right, en4, ?_⟩
              cases ecn : cond g4 with
              | stuck => rw [ecn] at post2; exact post2.elim
              | exc x5 g5 => rw [ecn] at post2; exact post2.elim
              | ok b g5 =>
                rw [ecn] at post2
                intro H5 H05 L5 s5 en5
                have st5 : Step H0 H L H05 H5 (([Da] ++ La) ++ L5) := st4.then s5
                have kp5 := Step.keepL st4.sep s5
                have ro5 := ro4.mono s5.ex0 fun a ha => kp5 a (by simp [ha])
                have hD5 : H5 Da = some (.lst av) := kp5 Da (by simp) _ hD4
                cases b with
                | false =>
                  rw [if_neg Bool.false_ne_true]
                  simp only at post2
                  by_cases hpp : own.all (isPure g5) = true
                  · rw [if_pos hpp] at post2
                    exact ⟨H05, L5, g5, σ4, acc, av, by simpa [List.append_assoc] using st5, ro5, en5, hσ4, List.all_eq_true.mp hpp, hD5, ((rf.mono s3.ex0).mono s4.ex0).mono s5.ex0, exx.trans (s3.ex0.trans (s4.ex0.trans s5.ex0)), post2⟩
                  · rw [if_neg hpp] at post2; exact post2.elim
                | true =>
                  rw [if_pos rfl]
                  simp only at post2
                  refine ⟨H05, L5, g5, st5.sep.right, en5, ?_⟩
                  cases eb : B g5 with
                  | stuck => rw [eb] at post2; exact post2.elim
                  | exc x6 g6 => rw [eb] at post2; exact post2.elim
                  | ok r g6 =>
                    rw [eb] at post2
                    intro y H6 H06 Lr L6 s6 rr6 en6
                    simp only at post2
                    have st6 : Step H0 H L H06 H6 (([Da] ++ La) ++ (Lr ++ L6)) := st5.then s6
                    have kp6 := Step.keepL st5.sep s6
                    have ro6 := ro5.mono s6.ex0 fun a ha => kp6 a (by simp [ha])
                    have hD6 : H6 Da = some (.lst av) := kp6 Da (by simp) _ hD5
                    have hcase : ∃ yd g7, frzs [r] g6 = some ([yd], g7) := by
                      cases ef : frzs [r] g6 with
                      | none => rw [ef] at post2; exact post2.elim
                      | some pp =>
                        obtain ⟨l, g7⟩ := pp
                        rw [ef] at post2
                        cases l with
                        | nil => exact post2.elim
                        | cons a l => cases l with
                          | nil => exact ⟨a, g7, rfl⟩
                          | cons _ _ => exact post2.elim
                    obtain ⟨yd, g7, ef⟩ := hcase
                    rw [ef] at post2
                    simp only at post2
                    · skip
                      obtain ⟨H07, L7, s7, rf7, en7⟩ := frzs_ok (us := [y]) (Lr := Lr ++ []) (.cons rr6 .nil) (by simpa using st6.sep.right) en6 ef
                      have s7' : Step H06 H6 (Lr ++ L6) H07 H6 L7 := by simpa using s7
                      have st7 : Step H0 H L H07 H6 (([Da] ++ La) ++ L7) := st6.then s7'
                      cases rf7 with
                      | cons ry _ =>
                        by_cases hpp : acc.length < 16777216 ∧ own.all (isPure g7) = true
                        · rw [if_pos hpp] at post2
                          have rfa := (((rf.mono s3.ex0).mono s4.ex0).mono s5.ex0).mono s6.ex0 |>.mono s7.ex0
                          refine ⟨av, hD6, by rw [rfa.len]; exact lcsize hpp.1, ?_⟩
                          have nd := st7.sep
                          have stw : Step H0 H L H07 (upd H6 Da (.lst (av ++ [y]))) ([Da] ++ (La ++ L7)) := by
                            have nd' : Sep H07 H6 ([Da] ++ (La ++ L7)) := by simpa [List.append_assoc] using nd
                            have w : Step H07 H6 ([Da] ++ (La ++ L7)) H07 (upd H6 Da (.lst (av ++ [y]))) ([Da] ++ (La ++ L7)) := by
                              refine ⟨Ex.refl _, fun a u h hn => ?_, fun a h => .inl h, fun a h => .inl h, ⟨fun a u h => ?_, nd'.nd, fun q hq => ⟨(nd'.own q hq).1, ?_⟩⟩⟩
                              · have : a ≠ Da := fun z => hn (by simp [z])
                                rw [upd_ne this]; exact h
                              · have : a ≠ Da := fun z => by
                                  subst z
                                  rw [(nd'.own a (by simp)).1] at h; cases h
                                rw [upd_ne this]; exact nd'.ex a u h
                              · by_cases z : q = Da
                                · subst z; exact ⟨_, upd_same⟩
                                · rw [upd_ne z]; exact (nd'.own q hq).2
                            exact (st7.perm (by simp [List.append_assoc])).trans w
                          have ndd := st7.sep.nd
                          have kpw : ∀ a ∈ La ++ L7, ∀ u, H6 a = some u → (upd H6 Da (.lst (av ++ [y]))) a = some u := fun a ha u hu => by
                            have : a ≠ Da := fun z => by
                              subst z
                              have nd2 : ([a] ++ (La ++ L7)).Nodup := by simpa [List.append_assoc] using ndd
                              exact (List.nodup_append.mp nd2).2.2 a (by simp) a ha rfl
                            rw [upd_ne this]; exact hu
                          exact ⟨H07, L7, g7, σ4, acc ++ [yd], av ++ [y], stw, (ro6.mono s7.ex0 fun _ _ _ q => q).mono (Ex.refl _) fun a ha => kpw a (by simp [ha]), en7.mono (Ex.refl _) fun a ha => kpw a (by simp [ha]), hσ4, List.all_eq_true.mp hpp.2, upd_same, rfa.append (.cons ry .nil),
                            exx.trans (s3.ex0.trans (s4.ex0.trans (s5.ex0.trans (s6.ex0.trans s7.ex0)))), post2⟩
                        · rw [if_neg hpp] at post2; exact post2.elim
          · left
            have e : i = ds.length := by omega
            subst e
            refine ⟨f2 rfl, ?_⟩
            rw [List.drop_length, compL] at post2
            have en6 : EnvR W H02 H2 vs σ (restG own g2 g') L2 := env_rest exx en1 en' hp' hpure hσ
            obtain ⟨Lx, L3, en7, pm⟩ := puts_ok tk ro en6
            have st8 : Step H0 H L H02 H2 (Lx ++ ([Da] ++ L3)) := st.perm ((List.Perm.append_left [Da] pm).trans (perm_mid [Da] Lx L3))
            exact post2 (.ref Da) H2 H02 [Da] L3 st8.right (.lst hDa rf) en7
        · rw [if_neg hcnd] at post; exact post.elim
theorem se_comp {own : List (Str × Nat)} {elt tg iter : Expr} {scope : Scope} {pos : Pos} {A : G → Res (List R)} {items : List O → Option (List D)} {t : T} {B : E} {k : Nat}
    (cx : Ctx W k Wx X) {N' : List Str} {sc' : Scope} (hN' : X.N = N') (hsc' : X.env.scope = sc') (ok : blkC N' sc' scope own = true)
    (hi : SI W vs Wx X tg iter A items) (hg : ∀ (s : Shared) (H : Hp) (C : Addr) (cl : List (Str × Addr)) (fp : List Addr), SG W vs (own.map (·.2)) (X.blk s H scope (compEnvC scope cl C X.env) fp) tg t)
    (hb : ∀ (s : Shared) (H : Hp) (C : Addr) (cl : List (Str × Addr)) (fp : List Addr), SE W vs Wx0 (X.blk s H scope (compEnvC scope cl C X.env) fp) elt B) (hs : ∀ x, foldedSetIterable iter X.env x = pure x := by intro _; rfl) :
    SE W vs Wx X (.ListComp elt [⟨tg, iter, [], 0⟩] scope pos) (compE A items (own.map (·.2)) t (fun g => .ok true g) B) :=
  pe_weak (pe_lc cx.calm cx.nd hi (by rw [hN', hsc']; exact blkOk_by ok) hg (fun _ _ _ _ _ => pts_nil) hb hs) fun σ H Q q => by
    obtain ⟨H0, L, g, sp, en, post⟩ := tLc_ok q
    refine ⟨H0, L, g, sp, en, ?_⟩
    cases ea : A g with
    | stuck => rw [ea] at post; exact post.elim
    | exc x g' => rw [ea] at post; exact post
    | ok rs g1 =>
      rw [ea] at post
      obtain ⟨os, g2, ds, e1, e2, kk⟩ := post
      refine ⟨os, g2, ds, e1, e2, fun J us H' H0' La L' st ro en tk fd Da hD => ?_⟩
      obtain ⟨Wv, w0, tn⟩ := kk J us H' H0' La L' st ro en tk fd Da hD
      refine ⟨Wv, w0, fun i m H2 w => ?_⟩
      rcases tn i m H2 w with z | ⟨go, Nx, hN, y⟩
      · exact .inl z
      · refine .inr ⟨go, Nx, hN, fun x H3 hy => ?_⟩
        obtain ⟨H02, L2, g2, d, sp2, en2, rf, g3, et, k2⟩ := y x H3 hy
        refine ⟨H02, L2, g2, d, sp2, en2, rf, g3, et, fun σ' H4 H04 L4 s4 en4 hw => ?_⟩
        obtain ⟨e3, H05, L5, g5, sp5, en5, p5⟩ := k2 σ' H4 H04 L4 s4 en4 hw
        exact ⟨e3, p5 H4 H05 L5 (Step.refl sp5) en5⟩
theorem se_compIf {own : List (Str × Nat)} {elt tg iter c : Expr} {scope : Scope} {pos : Pos} {A : G → Res (List R)} {items : List O → Option (List D)} {t : T} {B : E} {k : Nat} {cond : G → Res Bool}
    (cx : Ctx W k Wx X) {N' : List Str} {sc' : Scope} (hN' : X.N = N') (hsc' : X.env.scope = sc') (ok : blkC N' sc' scope own = true)
    (hi : SI W vs Wx X tg iter A items) (hg : ∀ (s : Shared) (H : Hp) (C : Addr) (cl : List (Str × Addr)) (fp : List Addr), SG W vs (own.map (·.2)) (X.blk s H scope (compEnvC scope cl C X.env) fp) tg t)
    (hc : ∀ (s : Shared) (H : Hp) (C : Addr) (cl : List (Str × Addr)) (fp : List Addr), ST W vs Wx0 (X.blk s H scope (compEnvC scope cl C X.env) fp) c cond)
    (hb : ∀ (s : Shared) (H : Hp) (C : Addr) (cl : List (Str × Addr)) (fp : List Addr), SE W vs Wx0 (X.blk s H scope (compEnvC scope cl C X.env) fp) elt B) (hs : ∀ x, foldedSetIterable iter X.env x = pure x := by intro _; rfl) :
    SE W vs Wx X (.ListComp elt [⟨tg, iter, [c], 0⟩] scope pos) (compE A items (own.map (·.2)) t cond B) :=
  pe_weak (pe_lc cx.calm cx.nd hi (by rw [hN', hsc']; exact blkOk_by ok) hg (fun s H C cl fp => pts_one (hc s H C cl fp)) hb hs) fun σ H Q q => tLc_ok q
end
end VI
namespace VI
open PySem PySem.Spec PyProof.Rows L2
section
variable {W : Wd} {vs : List (Option V)} {Wx : WX} {X : Cx} {n : Nat}
theorem ss_set' {i : Nat} {st : Stmt} {A : E} {tx : TE} (hp : PS X st (tAsg tx (gName i))) (hx : ∀ σ H Q, tE W vs Wx A σ H Q → tx σ H Q) : SS W vs Wx X st (asgS i A) := by
  refine ps_weak hp fun De σ H ⟨H0, L, g, sp, en, post⟩ => ?_
  refine hx σ H _ ⟨H0, L, g, sp, en, ?_⟩
  unfold asgS at post
  cases ea : A g with
  | stuck => rw [ea] at post; exact post.elim
  | exc x g' => rw [ea] at post; exact fun c d H' H0' L' s2 rx en2 => post c d σ H' H0' L' s2 rx en2
  | ok r g1 =>
    rw [ea] at post
    exact fun v H1 H01 Lr L1 st rr en1 => asgR_ok st rr en1 post
theorem tYes_of {σ : L2.St} {H : Hp} {Q : Bool → Hp → Prop} (h : tT W vs Wx (fun g => .ok true g) σ H Q) : tYes σ H Q := by
  obtain ⟨H0, L, g, sp, en, post⟩ := h
  exact post H H0 L (Step.refl sp) en
theorem ss_setLc {i : Nat} {y : Str} {py : Pos} {own : List (Str × Nat)} {elt tg iter : Expr} {scope : Scope} {pos spos : Pos} {A : G → Res (List R)} {items : List O → Option (List D)} {t : T} {B : E} {k : Nat}
    (cx : Ctx W k Wx X) (hy : X.N[i]? = some y) (hyl : X.env.scope.names.lookup y = some .local) (hsw : swapsWith (.ListComp elt [⟨tg, iter, [], 0⟩] scope pos) (some (.Name y py)) spos.line X.env = pure true) {N' : List Str} {sc' : Scope} (hN' : X.N = N') (hsc' : X.env.scope = sc') (ok : blkC N' sc' scope own = true)
    (hi : SI W vs Wx X tg iter A items) (hg : ∀ (s : Shared) (H : Hp) (C : Addr) (cl : List (Str × Addr)) (fp : List Addr), SG W vs (own.map (·.2)) (X.blk s H scope (compEnvC scope cl C X.env) fp) tg t)
    (hb : ∀ (s : Shared) (H : Hp) (C : Addr) (cl : List (Str × Addr)) (fp : List Addr), SE W vs Wx0 (X.blk s H scope (compEnvC scope cl C X.env) fp) elt B) (hs : ∀ x, foldedSetIterable iter X.env x = pure x := by intro _; rfl) :
    SS W vs Wx X (.Assign [.Name y py] (.ListComp elt [⟨tg, iter, [], 0⟩] scope pos) spos) (asgS i (compE A items (own.map (·.2)) t (fun g => .ok true g) B)) :=
  ss_set' (ps_setLc cx.calm cx.nd hy hyl hsw hi (by rw [hN', hsc']; exact blkOk_by ok) hg (fun _ _ _ _ _ => PTs.mk fun pins s σ H Q I hw => pts_nil.run pins s σ H Q I (tYes_of (W := W) (vs := vs) (Wx := Wx0) hw)) hb hs) fun σ H Q q => tLc_ok q
theorem ss_setLcIf {i : Nat} {y : Str} {py : Pos} {own : List (Str × Nat)} {elt tg iter c : Expr} {scope : Scope} {pos spos : Pos} {A : G → Res (List R)} {items : List O → Option (List D)} {t : T} {B : E} {k : Nat} {cond : G → Res Bool}
    (cx : Ctx W k Wx X) (hy : X.N[i]? = some y) (hyl : X.env.scope.names.lookup y = some .local) (hsw : swapsWith (.ListComp elt [⟨tg, iter, [c], 0⟩] scope pos) (some (.Name y py)) spos.line X.env = pure true) {N' : List Str} {sc' : Scope} (hN' : X.N = N') (hsc' : X.env.scope = sc') (ok : blkC N' sc' scope own = true)
    (hi : SI W vs Wx X tg iter A items) (hg : ∀ (s : Shared) (H : Hp) (C : Addr) (cl : List (Str × Addr)) (fp : List Addr), SG W vs (own.map (·.2)) (X.blk s H scope (compEnvC scope cl C X.env) fp) tg t)
    (hc : ∀ (s : Shared) (H : Hp) (C : Addr) (cl : List (Str × Addr)) (fp : List Addr), ST W vs Wx0 (X.blk s H scope (compEnvC scope cl C X.env) fp) c cond)
    (hb : ∀ (s : Shared) (H : Hp) (C : Addr) (cl : List (Str × Addr)) (fp : List Addr), SE W vs Wx0 (X.blk s H scope (compEnvC scope cl C X.env) fp) elt B) (hs : ∀ x, foldedSetIterable iter X.env x = pure x := by intro _; rfl) :
    SS W vs Wx X (.Assign [.Name y py] (.ListComp elt [⟨tg, iter, [c], 0⟩] scope pos) spos) (asgS i (compE A items (own.map (·.2)) t cond B)) :=
  ss_set' (ps_setLc cx.calm cx.nd hy hyl hsw hi (by rw [hN', hsc']; exact blkOk_by ok) hg (fun s H C cl fp => pts_one (hc s H C cl fp)) hb hs) fun σ H Q q => tLc_ok q
end
/-! ### a def's body becomes what its call is worth -/
def backs : List O → G → Option (List O)
  | [], _ => some []
  | o :: os, s :: g => match s, o with
    | .par o', _ => (backs os g).map fun r => o' :: r
    | _, .pure d => (backs os g).map fun r => .pure d :: r
    | _, _ => none
  | _ :: _, [] => none
def bodyC (np nl : Nat) (B : S) (os : List O) : CRes := if os.length = np then match B (os.map Slot.par ++ List.replicate nl .un) with
    | .ok (.ret o) g => match backs os g with
      | some os' => .ok o os'
      | none => .stuck
    | .ok .next g => match backs os g with
      | some os' => .ok (.pure .non) os'
      | none => .stuck
    | .exc x g => match backs os g with
      | some os' => .exc x os'
      | none => .stuck
    | _ => .stuck
  else .stuck
theorem env_start {W : Wd} {H0 H : Hp} : ∀ {us : List V} {os : List O} {L : List Addr} (k : Nat), RepOs W H0 H us os L → EnvR W H0 H (us.map some ++ List.replicate k none) (us.map some ++ List.replicate k none) (os.map Slot.par ++ List.replicate k .un) L
  | _, _, _, 0, .nil => by simpa using EnvR.nil
  | _, _, _, k + 1, .nil => by
    have := env_start (W := W) (H0 := H0) (H := H) k (us := []) (os := []) .nil
    simp only [List.map_nil, List.nil_append, List.replicate_succ] at this ⊢
    exact .un this
  | _, _, _, k, .cons h r => by simpa using EnvR.par h (env_start k r)
theorem backs_ok {W : Wd} {H0 H H0' H' : Hp} (e : Ex H0 H0') : ∀ {us : List V} {os : List O} {L : List Addr} {σ : L2.St} {g : G} {L' : List Addr} {os' : List O} {k : Nat}, RepOs W H0 H us os L → EnvR W H0' H' (us.map some ++ List.replicate k none) σ g L' → backs os g = some os' →
    ∃ La Lx, RepOs W H0' H' us os' La ∧ L'.Perm (Lx ++ La)
  | [], _, _, σ, g, L', os', k, .nil, en, h => by
    cases h
    exact ⟨[], L', .nil, by simp⟩
  | u :: us, o :: os, _, σ, g, L', os', k, .cons h r, en, hb => by
    cases en with
    | un en =>
      cases o with
      | pure d =>
        simp only [backs] at hb
        obtain ⟨os2, e1, e2⟩ := Option.map_eq_some_iff.mp hb
        subst e2
        obtain ⟨La, Lx, ro, pm⟩ := backs_ok e r en e1
        cases h with
        | pure f => exact ⟨[] ++ La, Lx, .cons (.pure (f.mono e)) ro, by simpa using pm⟩
      | _ => cases hb
    | loc q en =>
      rename_i Lo L2
      cases o with
      | pure d =>
        simp only [backs] at hb
        obtain ⟨os2, e1, e2⟩ := Option.map_eq_some_iff.mp hb
        subst e2
        obtain ⟨La, Lx, ro, pm⟩ := backs_ok e r en e1
        cases h with
        | pure f => exact ⟨[] ++ La, Lo ++ Lx, .cons (.pure (f.mono e)) ro, by simpa [List.append_assoc] using pm.append_left Lo⟩
      | _ => cases hb
    | par q en =>
      rename_i Lo L2
      simp only [backs] at hb
      obtain ⟨os2, e1, e2⟩ := Option.map_eq_some_iff.mp hb
      subst e2
      obtain ⟨La, Lx, ro, pm⟩ := backs_ok e r en e1
      refine ⟨Lo ++ La, Lx, .cons q ro, ?_⟩
      exact (List.Perm.append_left Lo pm).trans (perm_mid Lo Lx La)
/-- the context of a def's body -/
theorem ctx_of {W : Wd} {P : Program} {w : World} {mg : Str → Option Value} {base : Heap} {N : List Str} {qual : Str} {scope : Scope} {f : Addr} {cd : Value} {A : Around} {outer : List PySem.Env} {s : Shared} {H : Hp} {Ek : XK} {k : Nat} (nd : N.Nodup)
    (hr : Room k (A.deeper (envOfC qual scope s.heap.objs.size f cd))) : Ctx W k (fun cls d _ H => Ek cls d H) (cxOf (L2.CX P w) P w W.K mg base N qual scope f cd A outer s H Ek) :=
  ⟨rfl, rfl, nd, takes_of rfl rfl rfl rfl, hr⟩
theorem po_of {W : Wd} {P : Program} {w : World} {mg : Str → Option Value} {base : Heap} {N : List Str} {qual : Str} {scope : Scope} {f : Addr} {cd : Value} {A : Around} {outer : List PySem.Env} {s : Shared} {H : Hp} {Ek : XK} :
    PassesOwn (model P w) (cxOf (L2.CX P w) P w W.K mg base N qual scope f cd A outer s H Ek).A (cxOf (L2.CX P w) P w W.K mg base N qual scope f cd A outer s H Ek).env (cxOf (L2.CX P w) P w W.K mg base N qual scope f cd A outer s H Ek).xe := passes_of (X := cxOf (L2.CX P w) P w W.K mg base N qual scope f cd A outer s H Ek) rfl
theorem def_ok {W : Wd} {P : Program} {w : World} {mg : Str → Option Value} {base : Heap} {C : Callee} {x qual : Str} {fn : Nat} {st : Stmt} {f : Addr} {fd : FuncData} {N ps : List Str} {k : Nat} (F : Fun W.K x qual st f fd) (S' : FnScope N ps (defScope st)) {B : S} (hC : ∀ os, C fn os = bodyC ps.length (N.length - ps.length) B os)
    (hN : ps.length ≤ N.length)
    (hbody : ∀ (cdv : Value) (A : Around) (outer : List PySem.Env) (s : Shared) (H : Hp) (Ek : XK) (vs : List (Option V)), Ctx W k (fun cls d _ H => Ek cls d H) (cxOf (L2.CX P w) P w W.K mg base N qual (defScope st) f cdv A outer s H Ek) →
      SB W vs (fun cls d _ H => Ek cls d H) (cxOf (L2.CX P w) P w W.K mg base N qual (defScope st) f cdv A outer s H Ek) (defBody st) B) :
    FnOk P w W.K mg base (L2.CX P w) (k + 1) f fd ps (spD W C fn ps.length) := by
  refine F.okX S' (fun vs H Q Ek h => h.1) fun cdv A outer s H us Q Ek hr h => ?_
  obtain ⟨hl, H0, L, os, sp, ro, post⟩ := h
  refine ⟨_, hbody cdv A outer s H Ek (us.map some ++ List.replicate (N.length - ps.length) none) (ctx_of S'.nd hr), ?_⟩
  have hs : L2.start N us = us.map some ++ List.replicate (N.length - ps.length) none := by unfold L2.start; rw [hl]
  rw [hs]
  refine ⟨H0, L, os.map Slot.par ++ List.replicate (N.length - ps.length) .un, sp, env_start _ ro, ?_⟩
  rw [hC] at post
  unfold bodyC at post
  rw [if_pos (by rw [← ro.len]; exact hl)] at post
  cases eb : B (os.map Slot.par ++ List.replicate (N.length - ps.length) .un) with
  | stuck => rw [eb] at post; exact post.elim
  | exc xd g =>
    rw [eb] at post
    simp only at post
    intro c d σ' H' H0' L' st' rx en
    cases ek : backs os g with
    | none => rw [ek] at post; exact post.elim
    | some os' =>
      rw [ek] at post
      obtain ⟨La, Lx, ro', pm⟩ := backs_ok st'.ex0 ro en ek
      exact post c d H' H0' La ((st'.perm pm).right) rx ro'
  | ok fl g =>
    rw [eb] at post
    cases fl with
    | next =>
      simp only at post
      intro σ' H' H0' L' st' en
      cases ek : backs os g with
      | none => rw [ek] at post; exact post.elim
      | some os' =>
        rw [ek] at post
        obtain ⟨La, Lx, ro', pm⟩ := backs_ok st'.ex0 ro en ek
        exact post .non H' H0' [] La (by simpa using (st'.perm pm).right) (.pure .non) ro'
    | brk => exact post.elim
    | cont => exact post.elim
    | ret o =>
      simp only at post
      intro v σ' H' H0' Lo L' st' rv en
      cases ek : backs os g with
      | none => rw [ek] at post; exact post.elim
      | some os' =>
        rw [ek] at post
        obtain ⟨La, Lx, ro', pm⟩ := backs_ok st'.ex0 ro en ek
        have s2 : Step H0 H L H0' H' (Lx ++ (Lo ++ La)) := st'.perm ((List.Perm.append_left Lo pm).trans (perm_mid Lo Lx La))
        exact post v H' H0' Lo La s2.right rv ro'
end VI
namespace VI
open PySem PySem.Spec PyProof.Rows L2
/-! ### lists put together, whatever stands in their slots -/
theorem cat_meets (l : Addr) (items : Array Value) (n : Nat) (sl : Array (Option Value)) (b : Addr) (items2 : Array Value) (n2 : Nat) (sl2 : Array (Option Value)) (hc0 : items.size + items2.size ≤ sizeLine) :
    Meets (Builtin.«list.__add__» ⟨[.ref l, .ref b], []⟩) (fun _ R s => s.heap.get? l = some ⟨.type "list", none, .seq items n, sl⟩ ∧ s.heap.get? b = some ⟨.type "list", none, .seq items2 n2, sl2⟩ ∧
      R (.ok (.ret (Value.ref s.heap.objs.size))) { s with heap := s.heap.push { cls := Value.type "list", data := Data.seq (items ++ items2) }, toks := s.toks }) :=
  .of_wp fun prog w A R s h => by
    obtain ⟨hp, g, d, tk, os⟩ := s
    obtain ⟨hl, hb, h⟩ := h
    have f1 := AutoSeq1.idx_int
    have f2 := AutoSeq1.sub_tuple_tuple
    have f3 := AutoSeq1.sub_list_list
    have f4 := AutoSeq1.sub_tuple_list
    have f5 := AutoSeq1.sub_list_tuple
    wp_walk using AutoSeq1.wpAny_loadPart' hl, AutoSeq1.wpAny_loadPart' hb
    exact ⟨_, rfl, h⟩
section
variable {W : Wd} {X : Cx}
def rCatS (K : PySem.W.Frag) : R2 := fun x y H Q => ∃ l b xs zs, x = .ref l ∧ y = .ref b ∧ SqL K H l xs ∧ SqL K H b zs ∧ xs.length + zs.length ≤ sizeLine ∧ ∀ p, H p = none → Q (.ref p) (upd H p (.lst (xs ++ zs)))
theorem op_catS : OpR X (binaryOp .Add) (rCatS X.K) := by
  intro pins s σ H x y v u Q I rx ry h
  obtain ⟨l, b, xs, zs, rfl, rfl, h1, h2, hz, q⟩ := h
  cases rx
  cases ry
  obtain ⟨its, r, ⟨⟨c1, d1, dt1, sl1⟩, n1, e1, hc1, hd1, ht1⟩, _⟩ := I.list h1
  obtain ⟨its2, r2, ⟨⟨c2, d2, dt2, sl2⟩, n2, e2, hc2, hd2, ht2⟩, _⟩ := I.list h2
  dsimp only at hc1 hd1 ht1 hc2 hd2 ht2
  subst hc1 hd1 ht1 hc2 hd2 ht2
  have l1 := r.length
  have l2 := r2.length
  refine concat_meets ⟨_, e1, rfl⟩ ⟨_, e2, rfl⟩ noFill_list_add seq_list_add F.slot_list_add F.entry_list_add (F.args_list_add_2 _ _) (cat_meets l _ n1 sl1 b _ n2 sl2 (by rw [List.size_toArray, List.size_toArray]; omega)) ⟨e1, e2, ?_⟩
  rw [show its.toArray ++ its2.toArray = (its ++ its2).toArray by simp]
  exact ⟨.ref _, _, I.lnew (t' := s.toks) (r.append r2) (by rw [List.length_append]; omega), rfl, q _ I.fresh⟩
/-! ### + - * // % ** -/
def seqL : O → Option (List D)
  | .pure (.lst l) => some l
  | .lst l => some l
  | _ => none
def addO : O → O → Option O
  | .pure (.int i), .pure (.int j) => some (.pure (.int (i + j)))
  | .pure (.str a), .pure (.str b) => if a.length + b.length ≤ 16777216 then some (.pure (.str (a ++ b))) else none
  | .pure (.tup a), .pure (.tup b) => if a.length + b.length ≤ 16777216 then some (.pure (.tup (a ++ b))) else none
  | .pure (.lst a), .pure (.lst b) => if a.length + b.length ≤ 16777216 then some (.lst (a ++ b)) else none
  | .pure (.lst a), .lst b => if a.length + b.length ≤ 16777216 then some (.lst (a ++ b)) else none
  | .lst a, .pure (.lst b) => if a.length + b.length ≤ 16777216 then some (.lst (a ++ b)) else none
  | .lst a, .lst b => if a.length + b.length ≤ 16777216 then some (.lst (a ++ b)) else none
  | _, _ => none
theorem atom_int {H0 H : Hp} {v : V} {i : Int} {L : List Addr} (h : RepO W H0 H v (.pure (.int i)) L) : v = .int i := by cases h with | pure f => cases f; rfl
theorem atom_str {H0 H : Hp} {v : V} {i : Str} {L : List Addr} (h : RepO W H0 H v (.pure (.str i)) L) : v = .str i := by cases h with | pure f => cases f; rfl
theorem atom_bl {H0 H : Hp} {v : V} {i : Bool} {L : List Addr} (h : RepO W H0 H v (.pure (.bl i)) L) : v = .bl i := by cases h with | pure f => cases f; rfl
theorem atom_non {H0 H : Hp} {v : V} {L : List Addr} (h : RepO W H0 H v (.pure .non) L) : v = .non := by cases h with | pure f => cases f; rfl
theorem sizeL {m : Nat} (h : m ≤ 16777216) : m ≤ sizeLine := by rw [sizeLine_eq]; exact h
theorem op_addO (hK : X.K = W.K) : OpR X (binaryOp .Add) (rO W addO) := by
  intro pins s σ H x y v u Q I rx ry ⟨H0, ox, oy, Lx, Ly, o, ex, hx, hy, e, gv⟩
  have lists : ∀ a b, (ox = .pure (.lst a) ∨ ox = .lst a) → (oy = .pure (.lst b) ∨ oy = .lst b) → a.length + b.length ≤ 16777216 → o = .lst (a ++ b) → wpAny (model X.prog X.w) X.A (binaryOp .Add v u) (EP X pins σ Q) X.xe s := by
    intro a b ha hb hz ho
    subst ho
    obtain ⟨p, us, e1, hs1, rf1⟩ := sql_of ex hx ha
    obtain ⟨q, ws, e2, hs2, rf2⟩ := sql_of ex hy hb
    exact op_catS pins s σ H x y v u Q I rx ry ⟨p, q, us, ws, e1, e2, by rw [hK]; exact hs1, by rw [hK]; exact hs2, by rw [rf1.len, rf2.len]; exact sizeL hz, fun p' hp => gv.newL ex (rf1.append rf2) hp⟩
  unfold addO at e
  split at e
  · cases e
    exact op_add pins s σ H x y v u Q I rx ry ⟨_, _, atom_int hx, atom_int hy, gv.atom ex (.int _)⟩
  · split at e
    · rename_i hz
      cases e
      exact op_add_str pins s σ H x y v u Q I rx ry ⟨_, _, atom_str hx, atom_str hy, sizeL hz, gv.atom ex (.str _)⟩
    · cases e
  · split at e
    · rename_i a b hz
      cases e
      obtain ⟨p, us, e1, hs1, rf1⟩ := sqt_of ex hx
      obtain ⟨q, ws, e2, hs2, rf2⟩ := sqt_of ex hy
      refine op_catA pins s σ H x y v u Q I rx ry ⟨p, q, us, ws, e1, e2, by rw [hK]; exact hs1, by rw [hK]; exact hs2, by rw [rf1.len, rf2.len]; exact sizeL hz, fun h0 => ?_, fun _ h1 => ?_, fun _ _ p' hp => gv.newT ex (rf1.append rf2) hp⟩
      · subst h0
        have : a = [] := by cases rf1; rfl
        subst this
        cases hy with
        | pure f => rw [← e2]; exact gv.atom ex (by simpa using f)
      · subst h1
        have : b = [] := by cases rf2; rfl
        subst this
        cases hx with
        | pure f => rw [← e1]; exact gv.atom ex (by simpa using f)
    · cases e
  · split at e
    · rename_i a b hz; cases e; exact lists a b (.inl rfl) (.inl rfl) hz rfl
    · cases e
  · split at e
    · rename_i a b hz; cases e; exact lists a b (.inl rfl) (.inr rfl) hz rfl
    · cases e
  · split at e
    · rename_i a b hz; cases e; exact lists a b (.inr rfl) (.inl rfl) hz rfl
    · cases e
  · split at e
    · rename_i a b hz; cases e; exact lists a b (.inr rfl) (.inr rfl) hz rfl
    · cases e
  · cases e
def intO (c : Int → Int → Bool) (f : Int → Int → Int) : O → O → Option O
  | .pure (.int i), .pure (.int j) => if c i j then some (.pure (.int (f i j))) else none
  | _, _ => none
theorem op_intO {f : Value → Value → Sem Value} {C : Int → Int → Prop} {c : Int → Int → Bool} {g : Int → Int → Int} (h : OpR X f (rI C fun i j => .int (g i j))) (hc : ∀ i j, c i j = true → C i j) : OpR X f (rO W (intO c g)) := by
  intro pins s σ H x y v u Q I rx ry ⟨H0, ox, oy, Lx, Ly, o, ex, hx, hy, e, gv⟩
  unfold intO at e
  split at e
  · split at e
    · rename_i i j hij
      cases e
      exact h pins s σ H x y v u Q I rx ry ⟨_, _, atom_int hx, atom_int hy, hc _ _ hij, gv.atom ex (.int _)⟩
    · cases e
  · cases e
def subO := intO (fun _ _ => true) fun i j => i - j
theorem op_subO : OpR X (binaryOp .Sub) (rO W subO) := op_intO (C := fun _ _ => True) (fun pins s σ H x y v u Q I rx ry ⟨i, j, a, b, _, q⟩ => op_sub pins s σ H x y v u Q I rx ry ⟨i, j, a, b, q⟩) fun _ _ _ => trivial
def mulC (i j : Int) : Bool := decide (i.natAbs < 2 ^ 64) || decide (j.natAbs < 2 ^ 64) || decide (i.natAbs.log2 + j.natAbs.log2 < 1000000)
def fdivO := intO (fun _ j => decide (0 < j) && decide (j < 18446744073709551616)) fun i j => i / j
def modO := intO (fun _ j => decide (0 < j)) fun i j => i % j
theorem op_fdivO : OpR X (binaryOp .FloorDiv) (rO W fdivO) := op_intO op_fdivW fun i j h => by
  simp only [Bool.and_eq_true, decide_eq_true_eq] at h
  refine ⟨h.1, Nat.lt_of_le_of_lt (?_ : j.natAbs.log2 ≤ 64) (by decide)⟩
  have h2 : j.natAbs < 2 ^ 64 := by omega
  by_cases h3 : j.natAbs = 0
  · omega
  · exact Nat.le_of_lt ((Nat.log2_lt h3).mpr h2)
theorem op_modO : OpR X (binaryOp .Mod) (rO W modO) := op_intO op_mod fun i j h => by simpa using h
def mulO : O → O → Option O
  | .pure (.int i), .pure (.int j) => if mulC i j then some (.pure (.int (i * j))) else none
  | .pure (.str a), .pure (.int j) => if a.length ≤ 100 ∧ 0 ≤ j ∧ j ≤ 100 then some (.pure (.str (Txt.mul a j))) else none
  | _, _ => none
theorem mul_okC {a : Str} {j : Int} (h1 : a.length ≤ 100) (h2 : 0 ≤ j) (h3 : j ≤ 100) : MulOk a j := by
  have hm : a.length * j.toNat ≤ 100 * 100 := Nat.mul_le_mul h1 (by omega)
  have e63 : (2 : Int) ^ 63 = 9223372036854775808 := by decide +kernel
  unfold MulOk
  rw [e63]
  refine ⟨?_, fun h _ => ?_, fun _ _ => ?_⟩
  · rw [decide_eq_false (by omega), decide_eq_false (by omega)]; rfl
  · have h0 : 0 < j := by omega
    have : (100 : Int) ≤ (9223372036854775808 - 1) / j := (Int.le_ediv_iff_mul_le h0).mpr (by omega)
    omega
  · unfold Builtin.Str.tooLong
    rw [decide_eq_false]
    rw [sizeLine_eq]
    exact fun q => by
      have := Nat.lt_of_lt_of_le q hm
      omega
theorem rep_s (a : Str) (j : Int) (hok : MulOk a j) : OpR X (binaryOp .Mult) (fun x y H Q => x = .str a ∧ y = .int j ∧ Q (.str (Txt.mul a j)) H) := by
  intro pins s σ H x y v u Q I rx ry ⟨e1, e2, q⟩
  subst e1 e2
  obtain ⟨t, rfl⟩ := rx
  obtain ⟨t', rfl⟩ := ry
  refine PySem.SB.mul hok fun t2 k => ?_
  exact ⟨.str (Txt.mul a j), H, I.tok _, ⟨_, rfl⟩, q⟩
theorem op_mulO : OpR X (binaryOp .Mult) (rO W mulO) := by
  intro pins s σ H x y v u Q I rx ry ⟨H0, ox, oy, Lx, Ly, o, ex, hx, hy, e, gv⟩
  unfold mulO at e
  split at e
  · split at e
    · rename_i i j hij
      cases e
      unfold mulC at hij
      rw [Bool.or_eq_true, Bool.or_eq_true, decide_eq_true_eq, decide_eq_true_eq, decide_eq_true_eq] at hij
      rcases hij with (hij | hij) | hij
      · exact op_mul pins s σ H x y v u Q I rx ry ⟨_, _, atom_int hx, atom_int hy, .inl (by omega), gv.atom ex (.int _)⟩
      · exact op_mul pins s σ H x y v u Q I rx ry ⟨_, _, atom_int hx, atom_int hy, .inr (by omega), gv.atom ex (.int _)⟩
      · exact op_mulW pins s σ H x y v u Q I rx ry ⟨_, _, atom_int hx, atom_int hy, hij, gv.atom ex (.int _)⟩
    · cases e
  · split at e
    · rename_i a j hij
      cases e
      exact rep_s a j (mul_okC hij.1 hij.2.1 hij.2.2) pins s σ H x y v u Q I rx ry ⟨atom_str hx, atom_int hy, gv.atom ex (.str _)⟩
    · cases e
  · cases e
def negO : O → Option O
  | .pure (.int i) => some (.pure (.int (-i)))
  | _ => none
theorem un_negO : UnR X (unaryOp .USub) (uO W negO) := by
  intro pins s σ H x v Q I rx ⟨H0, ox, Lx, o, ex, hx, e, gv⟩
  unfold negO at e
  split at e
  · cases e
    exact un_neg pins s σ H x v Q I rx ⟨_, atom_int hx, gv.atom ex (.int _)⟩
  · cases e
/-! ### comparisons -/
mutual
def D.py : D → Option PyData
  | .non => some .none
  | .bl b => some (.bool b)
  | .int i => some (.int i)
  | .str s => some (.str s)
  | .lst l => (D.pys l).map .list
  | .tup l => (D.pys l).map .tuple
  | _ => none
def D.pys : List D → Option (List PyData)
  | [] => some []
  | d :: ds => match d.py, D.pys ds with
    | some p, some ps => some (p :: ps)
    | _, _ => none
end
mutual
theorem RepF.dp {H : Hp} : ∀ {v : V} {d : D} {p : PyData}, RepF W H v d → d.py = some p → Dp W.K H v p
  | _, _, _, .non, e => by cases e; exact .non
  | _, _, _, .bl b, e => by cases e; exact .bl b
  | _, _, _, .int b, e => by cases e; exact .int b
  | _, _, _, .str b, e => by cases e; exact .str b
  | _, _, _, .ty _, e => by cases e
  | _, _, _, .cls _, e => by cases e
  | _, _, _, .dic _ _, e => by cases e
  | _, _, _, .ins _ _ _, e => by cases e
  | _, _, _, .set _ _, e => by cases e
  | _, _, _, .tup h r, e => by
    simp only [D.py] at e
    obtain ⟨ps, e1, e2⟩ := Option.map_eq_some_iff.mp e
    subst e2
    exact .tup h (RepFs.dp r e1)
  | _, _, _, .lst h r, e => by
    simp only [D.py] at e
    obtain ⟨ps, e1, e2⟩ := Option.map_eq_some_iff.mp e
    subst e2
    exact .lst h (RepFs.dp r e1)
theorem RepFs.dp {H : Hp} : ∀ {v : List V} {d : List D} {p : List PyData}, RepFs W H v d → D.pys d = some p → DpAll W.K H v p
  | _, _, _, .nil, e => by cases e; exact .nil
  | _, _, _, .cons (d := d) (ds := ds) h r, e => by
    rw [D.pys] at e
    cases e1 : d.py with
    | none => rw [e1] at e; cases e
    | some p =>
      cases e2 : D.pys ds with
      | none => rw [e1, e2] at e; cases e
      | some ps =>
        rw [e1, e2] at e
        cases e
        exact .cons (RepF.dp h e1) (RepFs.dp r e2)
end
def eqP (a b : D) : Option Bool := match a.py, b.py with
  | some p, some q => if SeqAt.shaped p && SeqAt.shaped q then some (PyData.eqv p q) else none
  | _, _ => none
def eqD : D → D → Option Bool
  | .int a, .int b => some (decide (a = b))
  | .str a, .str b => some (decide (a = b))
  | .bl a, .bl b => some (decide (a = b))
  | .non, .non => some true
  | .non, .int _ => some false
  | .int _, .non => some false
  | .non, .str _ => some false
  | .str _, .non => some false
  | .non, .bl _ => some false
  | .bl _, .non => some false
  | .int _, .str _ => some false
  | .str _, .int _ => some false
  | a, b => eqP a b
def eqO (x y : O) : Option O := if x.full && y.full then (eqD x.er y.er).map fun b => .pure (.bl b) else none
def neO (x y : O) : Option O := if x.full && y.full then (eqD x.er y.er).map fun b => .pure (.bl (!b)) else none
theorem RepO.toH {H0 H : Hp} {v : V} {o : O} {L : List Addr} (ex : Ex H0 H) (h : RepO W H0 H v o L) (hf : o.full = true) : RepF W H v o.er := h.toF ex hf fun _ _ _ q => q
theorem eqD_cases {H : Hp} {x y : V} {a b : D} {r : Bool} (hx : RepF W H x a) (hy : RepF W H y b) (e : eqD a b = some r) : (scal x y = true ∧ r = decide (x = y)) ∨ ∃ p q, Dp W.K H x p ∧ Dp W.K H y q ∧ SeqAt.shaped p = true ∧ SeqAt.shaped q = true ∧ r = PyData.eqv p q := by
  unfold eqD at e
  split at e
  case h_13 =>
    right
    unfold eqP at e
    split at e
    · rename_i p q e1 e2
      split at e
      · rename_i hs
        cases e
        rw [Bool.and_eq_true] at hs
        exact ⟨p, q, hx.dp e1, hy.dp e2, hs.1, hs.2, rfl⟩
      · cases e
    · cases e
  all_goals
    left
    cases hx
    cases hy
    cases e
    refine ⟨rfl, ?_⟩
    first | rfl | (rw [decide_eq_decide]; constructor <;> intro h <;> first | (rw [h]) | (injection h)) | simp
theorem op_eqO (hK : X.K = W.K) (hu : X.A.units + 64 < cLine) : OpR X (compareOp .Eq) (rO W eqO) := by
  intro pins s σ H x y v u Q I rx ry ⟨H0, ox, oy, Lx, Ly, o, ex, hx, hy, e, gv⟩
  unfold eqO at e
  split at e
  · rename_i hf
    rw [Bool.and_eq_true] at hf
    obtain ⟨r, e1, e2⟩ := Option.map_eq_some_iff.mp e
    subst e2
    rcases eqD_cases (hx.toH ex hf.1) (hy.toH ex hf.2) e1 with ⟨h1, h2⟩ | ⟨p, q, h1, h2, h3, h4, h5⟩
    · subst h2
      exact op_eq pins s σ H x y v u Q I rx ry ⟨h1, gv.atom ex (.bl _)⟩
    · subst h5
      exact op_eqD hu pins s σ H x y v u Q I rx ry ⟨p, q, by rw [hK]; exact h1, by rw [hK]; exact h2, h3, h4, gv.atom ex (.bl _)⟩
  · cases e
theorem op_neO (hK : X.K = W.K) (hu : X.A.units + 64 < cLine) : OpR X (compareOp .NotEq) (rO W neO) := by
  intro pins s σ H x y v u Q I rx ry ⟨H0, ox, oy, Lx, Ly, o, ex, hx, hy, e, gv⟩
  unfold neO at e
  split at e
  · rename_i hf
    rw [Bool.and_eq_true] at hf
    obtain ⟨r, e1, e2⟩ := Option.map_eq_some_iff.mp e
    subst e2
    rcases eqD_cases (hx.toH ex hf.1) (hy.toH ex hf.2) e1 with ⟨h1, h2⟩ | ⟨p, q, h1, h2, h3, h4, h5⟩
    · subst h2
      exact op_ne pins s σ H x y v u Q I rx ry ⟨h1, gv.atom ex (.bl _)⟩
    · subst h5
      exact op_neD hu pins s σ H x y v u Q I rx ry ⟨p, q, by rw [hK]; exact h1, by rw [hK]; exact h2, h3, h4, gv.atom ex (.bl _)⟩
  · cases e
def ordO (f : Int → Int → Bool) : O → O → Option O
  | .pure (.int i), .pure (.int j) => some (.pure (.bl (f i j)))
  | _, _ => none
theorem op_ordO {f : Value → Value → Sem Value} {g : Int → Int → Bool} (h : OpR X f (rI0 fun i j => .bl (g i j))) : OpR X f (rO W (ordO g)) := by
  intro pins s σ H x y v u Q I rx ry ⟨H0, ox, oy, Lx, Ly, o, ex, hx, hy, e, gv⟩
  unfold ordO at e
  split at e
  · cases e
    exact h pins s σ H x y v u Q I rx ry ⟨_, _, atom_int hx, atom_int hy, gv.atom ex (.bl _)⟩
  · cases e
def ltO := ordO fun i j => decide (i < j)
def leO := ordO fun i j => decide (i ≤ j)
def gtO := ordO fun i j => decide (j < i)
def geO := ordO fun i j => decide (j ≤ i)
theorem op_ltO : OpR X (compareOp .Lt) (rO W ltO) := op_ordO op_lt
theorem op_leO : OpR X (compareOp .LtE) (rO W leO) := op_ordO op_le
theorem op_gtO : OpR X (compareOp .Gt) (rO W gtO) := op_ordO op_gt
theorem op_geO : OpR X (compareOp .GtE) (rO W geO) := op_ordO op_ge
def D.isN : D → Bool
  | .non => true
  | _ => false
def isNonO (neg : Bool) : O → O → Option O
  | .pure d, .pure .non => some (.pure (.bl (neg.xor d.isN)))
  | .lst _, .pure .non => some (.pure (.bl neg))
  | .ins _ _, .pure .non => some (.pure (.bl neg))
  | _, _ => none
theorem non_iff {H0 H : Hp} {v : V} {d : D} {L : List Addr} (h : RepO W H0 H v (.pure d) L) : decide (v = .non) = d.isN := by
  cases h with
  | pure f => cases f <;> first | rfl | simp
theorem op_isO : OpR X (compareOp .Is) (rO W (isNonO false)) := by
  intro pins s σ H x y v u Q I rx ry ⟨H0, ox, oy, Lx, Ly, o, ex, hx, hy, e, gv⟩
  unfold isNonO at e
  split at e
  · cases e
    refine op_isN pins s σ H x y v u Q I rx ry ⟨atom_non hy, ?_⟩
    rw [non_iff hx]
    simpa using gv.atom ex (.bl _)
  · cases e
    refine op_isN pins s σ H x y v u Q I rx ry ⟨atom_non hy, ?_⟩
    cases hx with
    | lst h r => simpa using gv.atom ex (.bl _)
  · cases e
    refine op_isN pins s σ H x y v u Q I rx ry ⟨atom_non hy, ?_⟩
    cases hx with
    | ins h c r => simpa using gv.atom ex (.bl _)
  · cases e
theorem op_isntO : OpR X (compareOp .IsNot) (rO W (isNonO true)) := by
  intro pins s σ H x y v u Q I rx ry ⟨H0, ox, oy, Lx, Ly, o, ex, hx, hy, e, gv⟩
  unfold isNonO at e
  split at e
  · cases e
    refine op_notN pins s σ H x y v u Q I rx ry ⟨atom_non hy, ?_⟩
    rw [non_iff hx]
    simpa using gv.atom ex (.bl _)
  · cases e
    refine op_notN pins s σ H x y v u Q I rx ry ⟨atom_non hy, ?_⟩
    cases hx with
    | lst h r => simpa using gv.atom ex (.bl _)
  · cases e
    refine op_notN pins s σ H x y v u Q I rx ry ⟨atom_non hy, ?_⟩
    cases hx with
    | ins h c r => simpa using gv.atom ex (.bl _)
  · cases e
end
end VI
namespace VI
open PySem PySem.Spec PyProof.Rows L2
/-! ### dicts by numbers and texts -/
def keyOf : D → Option Key
  | .int i => some (.inl i)
  | .str s => some (.inr s)
  | _ => none
def isKey (k : Key) (d : D) : Bool := match keyOf d with
  | some k' => decide (k' = k)
  | none => false
def lookD (l : List (D × D)) (k : Key) : Option D := (l.find? fun p => isKey k p.1).map (·.2)
def putD (l : List (D × D)) (k : Key) (d : D) : List (D × D) := if l.any (fun p => isKey k p.1) then l.map (fun p => if isKey k p.1 then (p.1, d) else p) else l ++ [(kD k, d)]
theorem keyOf_kD (k : Key) : keyOf (kD k) = some k := by cases k <;> rfl
theorem isKey_kD (k k' : Key) : isKey k (kD k') = decide (k' = k) := by unfold isKey; rw [keyOf_kD]
section
variable {W : Wd} {X : Cx} {H0 H : Hp}
theorem key_rep {v : V} {d : D} {k : Key} (h : RepF W H v d) (e : keyOf d = some k) : v = kV k ∧ d = kD k := by
  cases h <;> cases e <;> exact ⟨rfl, rfl⟩
theorem RepFk.val : ∀ {kvs : List (Key × V)} {l : List (D × D)} (k : Key), RepFk W H kvs l → (∀ d, lookD l k = some d → ∃ v, valV kvs k = some v ∧ RepF W H v d) ∧ (lookD l k = none → valV kvs k = none)
  | _, _, k, .nil => ⟨fun d h => (by cases h), fun _ => rfl⟩
  | _, _, k, .cons (k := k') (v := v') (d := d') h r => by
    obtain ⟨a, b⟩ := RepFk.val k r
    by_cases e : k' = k
    · subst e
      refine ⟨fun d q => ?_, fun q => ?_⟩
      · simp only [lookD, List.find?_cons, isKey_kD, decide_true, Option.map_some] at q
        cases q
        exact ⟨v', valV_pos rfl, h⟩
      · simp only [lookD, List.find?_cons, isKey_kD, decide_true, Option.map_some] at q
        cases q
    · have e1 : ∀ r, valV ((k', v') :: r) k = valV r k := fun r => valV_neg (by simpa using e)
      have e2 : ∀ r, lookD ((kD k', d') :: r) k = lookD r k := fun r => by simp [lookD, List.find?_cons, isKey_kD, e]
      rw [e1, e2]
      exact ⟨a, b⟩
theorem RepFk.len : ∀ {kvs : List (Key × V)} {l : List (D × D)}, RepFk W H kvs l → kvs.length = l.length
  | _, _, .nil => rfl
  | _, _, .cons _ r => by simp [r.len]
theorem RepFk.any : ∀ {kvs : List (Key × V)} {l : List (D × D)} (k : Key), RepFk W H kvs l → (kvs.any fun kv => decide (kv.1 = k)) = l.any fun p => isKey k p.1
  | _, _, k, .nil => rfl
  | _, _, k, .cons h r => by simp only [List.any_cons, isKey_kD, RepFk.any k r]
theorem RepFk.mapPut {v : V} {d : D} (hv : RepF W H v d) : ∀ {kvs : List (Key × V)} {l : List (D × D)} (k : Key), RepFk W H kvs l → RepFk W H (kvs.map fun kv => if kv.1 = k then (kv.1, v) else kv) (l.map fun p => if isKey k p.1 then (p.1, d) else p)
  | _, _, k, .nil => .nil
  | _, _, k, .cons (k := k') h r => by
    simp only [List.map_cons, isKey_kD]
    by_cases e : k' = k
    · simp only [e, if_true, decide_true]
      exact .cons hv (RepFk.mapPut hv k r)
    · simp only [e, if_false, decide_false]
      exact .cons h (RepFk.mapPut hv k r)
theorem RepFk.snoc {k : Key} {v : V} {d : D} (hv : RepF W H v d) : ∀ {kvs : List (Key × V)} {l : List (D × D)}, RepFk W H kvs l → RepFk W H (kvs ++ [(k, v)]) (l ++ [(kD k, d)])
  | _, _, .nil => .cons hv .nil
  | _, _, .cons h r => .cons h (RepFk.snoc hv r)
theorem RepFk.put {k : Key} {v : V} {d : D} {kvs : List (Key × V)} {l : List (D × D)} (hv : RepF W H v d) (h : RepFk W H kvs l) : RepFk W H (putK kvs k v) (putD l k d) := by
  unfold putK putD
  rw [h.any k]
  split
  · exact h.mapPut hv k
  · exact h.snoc hv
/-! ### a[b] -/
def ixO : O → O → Option O
  | .pure (.lst l), .pure (.int i) => (atI l i).map .pure
  | .lst l, .pure (.int i) => (atI l i).map .pure
  | .pure (.tup l), .pure (.int i) => (atI l i).map .pure
  | .pure (.str s), .pure (.int i) => if s.length ≤ 16777216 then (atI s.cps.toList i).map fun c => .pure (.str ⟨#[c]⟩) else none
  | .pure (.dic l), .pure k => (keyOf k).bind fun k => (lookD l k).map .pure
  | .dic l, .pure k => (keyOf k).bind fun k => (lookD l k).map .pure
  | _, _ => none
theorem RepFs.atI {us : List V} {l : List D} {i : Int} {d : D} (h : RepFs W H us l) (e : L2.atI l i = some d) : ∃ v, L2.atI us i = some v ∧ RepF W H v d := by
  unfold L2.atI at e ⊢
  rw [h.len]
  obtain ⟨j, e1, e2⟩ := Option.bind_eq_some_iff.mp e
  obtain ⟨v, h1, h2⟩ := h.get e2
  exact ⟨v, by rw [e1]; exact h1, h2⟩
theorem dic_at {v : V} {o : O} {l : List (D × D)} {L : List Addr} (ex : Ex H0 H) (h : RepO W H0 H v o L) (ho : o = .pure (.dic l) ∨ o = .dic l) : ∃ p kvs, v = .ref p ∧ H p = some (.dK kvs) ∧ RepFk W H0 kvs l := by
  rcases ho with rfl | rfl
  · cases h with
    | pure f => cases f with
      | dic h1 h2 => exact ⟨_, _, rfl, ex _ _ h1, h2⟩
  · cases h with
    | dic h1 h2 => exact ⟨_, _, rfl, h1, h2⟩
theorem ix_ixO (hK : X.K = W.K) (hu : X.A.units + 1 < cLine) : IxR X (rO W ixO) := by
  intro value slice pins s σ H x y v u Q I rx ry ⟨H0, ox, oy, Lx, Ly, o, ex, hx, hy, e, gv⟩ hs
  have lst : ∀ l i d, (ox = .pure (.lst l) ∨ ox = .lst l) → oy = .pure (.int i) → L2.atI l i = some d → o = .pure d → wpAny (model X.prog X.w) X.A (subscriptTail value slice v u) (EP X pins σ Q) X.xe s := by
    intro l i d h1 h2 h3 h4
    subst h2 h4
    obtain ⟨p, us, e1, hs1, rf⟩ := sql_of ex hx h1
    obtain ⟨w, e2, rw'⟩ := rf.atI h3
    exact ix_list value slice pins s σ H x y v u Q I rx ry ⟨p, us, i, w, e1, atom_int hy, by rw [hK]; exact hs1, e2, gv.atom ex rw'⟩ hs
  have dct : ∀ l k kk d, (ox = .pure (.dic l) ∨ ox = .dic l) → oy = .pure k → keyOf k = some kk → lookD l kk = some d → o = .pure d → wpAny (model X.prog X.w) X.A (subscriptTail value slice v u) (EP X pins σ Q) X.xe s := by
    intro l k kk d h1 h2 h3 h4 h5
    subst h2 h5
    obtain ⟨p, kvs, e1, hr, rf⟩ := dic_at ex hx h1
    obtain ⟨w, e2, rw'⟩ := (rf.val kk).1 d h4
    cases hy with
    | pure hy =>
      obtain ⟨e3, _⟩ := key_rep hy h3
      subst e1 e3
      have g : DGet H p (kV kk) (some w) := .inl ⟨kvs, kk, .inl hr, rfl, e2.symm⟩
      cases rx
      exact tail_any (dict_typeIs I g) PySem.F.slot_dict_getitem.lookup (d_getItem hu I g ry fun w' s3 I3 rw'' => ⟨w, H, I3, rw'', gv.atom ex rw'⟩) hs
  unfold ixO at e
  split at e
  · obtain ⟨d, e1, e2⟩ := Option.map_eq_some_iff.mp e; exact lst _ _ d (.inl rfl) rfl e1 e2.symm
  · obtain ⟨d, e1, e2⟩ := Option.map_eq_some_iff.mp e; exact lst _ _ d (.inr rfl) rfl e1 e2.symm
  · obtain ⟨d, e1, e2⟩ := Option.map_eq_some_iff.mp e
    subst e2
    obtain ⟨p, us, e2, hs1, rf⟩ := sqt_of ex hx
    obtain ⟨w, e3, rw'⟩ := rf.atI e1
    exact ix_tup value slice pins s σ H x y v u Q I rx ry ⟨p, us, _, w, e2, atom_int hy, by rw [hK]; exact hs1, e3, gv.atom ex rw'⟩ hs
  · split at e
    · rename_i hz
      obtain ⟨c, e1, e2⟩ := Option.map_eq_some_iff.mp e
      subst e2
      exact ix_str value slice pins s σ H x y v u Q I rx ry ⟨_, _, c, atom_str hx, atom_int hy, sizeL hz, e1, gv.atom ex (.str _)⟩ hs
    · cases e
  · obtain ⟨kk, e1, e2⟩ := Option.bind_eq_some_iff.mp e
    obtain ⟨d, e3, e4⟩ := Option.map_eq_some_iff.mp e2
    exact dct _ _ kk d (.inl rfl) rfl e1 e3 e4.symm
  · obtain ⟨kk, e1, e2⟩ := Option.bind_eq_some_iff.mp e
    obtain ⟨d, e3, e4⟩ := Option.map_eq_some_iff.mp e2
    exact dct _ _ kk d (.inr rfl) rfl e1 e3 e4.symm
  · cases e
theorem se_ix {vs : List (Option V)} {Wx : WX} {k : Nat} {a b : Expr} {pos : Pos} {A B : E} (cx : Ctx W k Wx X) (ha : SE W vs Wx X a A) (hb : SE W vs Wx X b B) (hs : PlainIx b := by intro _ _; rfl) : SE W vs Wx X (.Subscript a b pos) (bin ixO A B) :=
  pe_weak (pe_ix (ix_ixO cx.K (hu_of cx.room)) ha hb hs) tO_bin
/-! ### slices -/
def cutL {α : Type} (l : List α) (lo hi : Option Int) : List α := (l.drop (HT.sIx l.length 0 lo)).take (HT.sIx l.length l.length hi - HT.sIx l.length 0 lo)
def slO (lo hi : Option Int) : O → Option O
  | .pure (.lst l) => some (.lst (cutL l lo hi))
  | .lst l => some (.lst (cutL l lo hi))
  | .pure (.tup l) => some (.pure (.tup (cutL l lo hi)))
  | .pure (.str s) => if s.length ≤ 16777216 then some (.pure (.str ⟨(cutL s.cps.toList lo hi).toArray⟩)) else none
  | _ => none
theorem RepFs.cut {us : List V} {l : List D} (lo hi : Option Int) (h : RepFs W H us l) : RepFs W H (cutV us lo hi) (cutL l lo hi) := by
  unfold cutV cutL
  rw [h.len]
  exact (h.drop _).take _
theorem sl_slO (hK : X.K = W.K) : SlR X (fun x lo hi H Q => uO W (slO lo hi) x H Q) := by
  intro pins s σ H x v vl vu lo hi sl Q I rx hs pl pu ⟨H0, ox, Lx, o, ex, hx, e, gv⟩
  have lst : ∀ l, (ox = .pure (.lst l) ∨ ox = .lst l) → o = .lst (cutL l lo hi) → ∃ (T : String) (id : String), typeLookup (.type T) "__getitem__" = pure (some (.builtin id)) ∧ s.TypeIs v T ∧ wpAny (model X.prog X.w) X.A (getItem v (.ref sl)) (EP X pins σ Q) X.xe s := by
    intro l h1 h2
    subst h2
    obtain ⟨p, us, e1, hs1, rf⟩ := sql_of ex hx h1
    exact sl_list pins s σ H x v vl vu lo hi sl Q I rx hs pl pu ⟨p, us, e1, by rw [hK]; exact hs1, fun p' hp => gv.newL ex (rf.cut lo hi) hp⟩
  unfold slO at e
  split at e
  · cases e; exact lst _ (.inl rfl) rfl
  · cases e; exact lst _ (.inr rfl) rfl
  · cases e
    obtain ⟨p, us, e1, hs1, rf⟩ := sqt_of ex hx
    refine sl_tupA pins s σ H x v vl vu lo hi sl Q I rx hs pl pu ⟨p, us, e1, by rw [hK]; exact hs1, fun hw => ?_, fun _ p' hp => gv.newT ex (rf.cut lo hi) hp⟩
    rename_i ll
    have : cutL ll lo hi = ll := by
      unfold cutL
      rw [← rf.len, hw.1, hw.2]
      simp [rf.len]
    rw [this] at gv
    rw [← e1]
    cases hx with
    | pure f => exact gv.atom ex f
  · split at e
    · rename_i hz
      cases e
      refine sl_str pins s σ H x v vl vu lo hi sl Q I rx hs pl pu ⟨_, atom_str hx, sizeL hz, ?_⟩
      have : ∀ z : Str, cutS z lo hi = ⟨(cutL z.cps.toList lo hi).toArray⟩ := fun z => by
        unfold cutS cutL
        have : z.cps.toList.length = z.length := by simp [Str.length]
        rw [this]
      rw [this]
      exact gv.atom ex (.str _)
    · cases e
  · cases e
/-- an end of a slice -/
abbrev EO := G → Res (Option Int)
def noE : EO := fun g => .ok none g
def intE (A : E) : EO := fun g => (A g).bind fun r g1 => match r with
  | .val (.pure (.int i)) => .ok (some i) g1
  | _ => .stuck
def slE (A : E) (lo hi : EO) : E := fun g => (A g).bind fun r g1 => (lo g1).bind fun l g2 => (hi g2).bind fun h g3 => match ob g3 r with
  | some x => match slO l h x with
    | some o => .ok (.val o) g3
    | none => .stuck
  | none => .stuck
def PostOI (W : Wd) (vs : List (Option V)) (Wx : WX) (σ : L2.St) (H0 H : Hp) (L : List Addr) : Res (Option Int) → (Option Int → Hp → Prop) → Prop
  | .ok b g', Q => ∀ H' H0' L', Step H0 H L H0' H' L' → EnvR W H0' H' vs σ g' L' → Q b H'
  | .exc x g', _ => ∀ c d H' H0' L', Step H0 H L H0' H' L' → RepX W H0' H' x c d → EnvR W H0' H' vs σ g' L' → Wx c d σ H'
  | .stuck, _ => False
def tOI (W : Wd) (vs : List (Option V)) (Wx : WX) (A : EO) : TO := fun σ H Q => ∃ H0 L g, Sep H0 H L ∧ EnvR W H0 H vs σ g L ∧ PostOI W vs Wx σ H0 H L (A g) Q
theorem po_weak {e : Option Expr} {t t' : TO} (h : PO X e t) (i : ∀ σ H Q, t' σ H Q → t σ H Q) : PO X e t' := ⟨fun pins s σ H Q I q => h.run pins s σ H Q I (i _ _ _ q)⟩
variable {vs : List (Option V)} {Wx : WX}
def SO (W : Wd) (vs : List (Option V)) (Wx : WX) (X : Cx) (e : Option Expr) (A : EO) : Prop := PO X e (tOI W vs Wx A)
theorem so_none : SO W vs Wx X none noE := po_weak po_none fun σ H Q ⟨H0, L, g, sp, en, post⟩ => post H H0 L (Step.refl sp) en
theorem so_some {e : Expr} {A : E} (h : SE W vs Wx X e A) : SO W vs Wx X (some e) (intE A) := by
  refine po_weak (po_some h) fun σ H Q ⟨H0, L, g, sp, en, post⟩ => ?_
  refine ⟨H0, L, g, sp, en, ?_⟩
  unfold intE at post
  cases ea : A g with
  | stuck => rw [ea] at post; exact post.elim
  | exc x g' => rw [ea] at post; exact post
  | ok r g1 =>
    rw [ea] at post
    intro v H1 H01 Lr L1 st rr en1
    simp only [Res.bind] at post
    split at post
    · exact ⟨_, atom_int rr, post H1 H01 L1 st.right en1⟩
    · exact post.elim
theorem se_slice {k : Nat} {e : Expr} {lo hi : Option Expr} {pos p2 : Pos} {A : E} {B C : EO} (cx : Ctx W k Wx X) (ha : SE W vs Wx X e A) (hl : SO W vs Wx X lo B) (hh : SO W vs Wx X hi C) : SE W vs Wx X (.Subscript e (.Slice lo hi none p2) pos) (slE A B C) := by
  refine pe_weak (pe_slice (sl_slO cx.K) ha hl hh) fun σ H Q ⟨H0, L, g, sp, en, post⟩ => ?_
  refine ⟨H0, L, g, sp, en, ?_⟩
  unfold slE at post
  cases ea : A g with
  | stuck => rw [ea] at post; exact post.elim
  | exc x g' => rw [ea] at post; exact post
  | ok r g1 =>
    rw [ea] at post
    intro v H1 H01 Lr L1 st1 rr en1
    simp only [Res.bind] at post
    refine ⟨H01, L1, g1, st1.sep.right, en1, ?_⟩
    cases eb : B g1 with
    | stuck => rw [eb] at post; exact post.elim
    | exc x g' => rw [eb] at post; intro c d H' H0' L' st2 rx en2; exact post c d H' H0' L' (st1.then st2).right rx en2
    | ok l g2 =>
      rw [eb] at post
      intro H2 H02 L2 st2 en2
      simp only at post
      have st12 := st1.then st2
      have rr2 := rr.mono st2.ex0 (Step.keepL st1.sep st2)
      refine ⟨H02, L2, g2, st12.sep.right, en2, ?_⟩
      cases ec : C g2 with
      | stuck => rw [ec] at post; exact post.elim
      | exc x g' => rw [ec] at post; intro c d H' H0' L' st3 rx en3; exact post c d H' H0' L' (st12.then st3).right rx en3
      | ok h g3 =>
        rw [ec] at post
        intro H3 H03 L3 st3 en3
        simp only at post
        have st := st12.then st3
        have rr3 := rr2.mono st3.ex0 (Step.keepL st12.sep st3)
        cases eo : ob g3 r with
        | none => rw [eo] at post; exact post.elim
        | some x =>
          rw [eo] at post
          simp only at post
          cases es : slO l h x with
          | none => rw [es] at post; exact post.elim
          | some o =>
            rw [es] at post
            obtain ⟨Lx, hx, _⟩ := ob_rep en3 rr3 eo
            exact ⟨H03, x, Lx, o, st3.sep.ex, hx, es, gives_of st en3 post⟩
def revO : O → Option O
  | .pure (.lst l) => some (.lst l.reverse)
  | .lst l => some (.lst l.reverse)
  | _ => none
theorem se_rev {n k : Nat} {e : Expr} {p1 p2 p3 pos : Pos} {A : E} (cx : Ctx W n Wx X) (h : SE W vs Wx X e A) : SE W vs Wx X (.Subscript e (.Slice none none (some (.UnaryOp .USub (.Constant (.int 1) k p1) p2)) p3) pos) (una revO A) := by
  refine pe_weak (pe_revL h) fun σ H Q q => ?_
  obtain ⟨H0, L, g, sp, en, post⟩ := tO_una σ H Q q
  refine ⟨H0, L, g, sp, en, ?_⟩
  cases ea : A g with
  | stuck => rw [ea] at post; exact post.elim
  | exc x g' => rw [ea] at post; exact post
  | ok r g1 =>
    rw [ea] at post
    intro v H1 H01 Lr L1 st rr en1
    obtain ⟨H02, ox, Lx, o, ex, hx, e, gv⟩ := post v H1 H01 Lr L1 st rr en1
    have lst : ∀ l, (ox = .pure (.lst l) ∨ ox = .lst l) → o = .lst l.reverse → ∃ a xs, v = .ref a ∧ SqL X.K H1 a xs ∧ ∀ p, H1 p = none → Q (.ref p) (upd H1 p (.lst xs.reverse)) := by
      intro l h1 h2
      subst h2
      obtain ⟨p, us, e1, hs1, rf⟩ := sql_of ex hx h1
      exact ⟨p, us, e1, by rw [cx.K]; exact hs1, fun p' hp => gv.newL ex rf.reverse hp⟩
    unfold revO at e
    split at e
    · cases e; exact lst _ (.inl rfl) rfl
    · cases e; exact lst _ (.inr rfl) rfl
    · cases e
/-! ### in -/
def eqA : D → D → Option Bool
  | .non, .non => some true
  | .bl a, .bl b => some (a == b)
  | .int a, .int b => some (a == b)
  | .str a, .str b => some (a == b)
  | .non, .int _ => some false
  | .non, .str _ => some false
  | .int _, .non => some false
  | .int _, .str _ => some false
  | .str _, .non => some false
  | .str _, .int _ => some false
  | _, _ => none
/-- x in l, flat things of kinds that do not mix -/
def anyA (x : D) : List D → Option Bool
  | [] => some false
  | y :: ys => match eqA y x, anyA x ys with
    | some b, some c => some (b || c)
    | _, _ => none
def flatD : D → Bool
  | .non => true
  | .bl _ => true
  | .int _ => true
  | .str _ => true
  | _ => false
theorem anyA_rep {x : V} {dx : D} (hx : RepF W H x dx) : ∀ {us : List V} {l : List D} {b : Bool}, RepFs W H us l → anyA dx l = some b → us.all flatV = true ∧ inV x us = b
  | _, _, b, .nil, e => by cases e; exact ⟨rfl, rfl⟩
  | _, _, b, .cons (v := v) (d := d) (vs := us) (ds := ds) h r, e => by
    rw [anyA] at e
    cases e1 : eqA d dx with
    | none => rw [e1] at e; cases e
    | some b1 =>
      cases e2 : anyA dx ds with
      | none => rw [e1, e2] at e; cases e
      | some b2 =>
        rw [e1, e2] at e
        cases e
        obtain ⟨h1, h2⟩ := anyA_rep hx r e2
        have key : flatV v = true ∧ eqV v x = b1 := by
          unfold eqA at e1
          split at e1 <;> first | (cases e1; cases h; cases hx; exact ⟨rfl, rfl⟩) | cases e1
        refine ⟨by simp [key.1, h1], ?_⟩
        unfold inV at h2 ⊢
        rw [List.any_cons, key.2, h2]
def pysO (l : List D) : Option (List PyData) := D.pys l
def inO (neg : Bool) : O → O → Option O
  | .pure x, o => match o with
    | .pure (.str s) => match x with
      | .str t => match t.cps.toList with
        | [c] => some (.pure (.bl (neg.xor (decide (c ∈ s.cps.toList)))))
        | _ => none
      | _ => none
    | .pure (.dic l) => (keyOf x).map fun k => .pure (.bl (neg.xor (lookD l k).isSome))
    | .dic l => (keyOf x).map fun k => .pure (.bl (neg.xor (lookD l k).isSome))
    | .pure (.tup l) => if flatD x then (anyA x l).map fun b => .pure (.bl (neg.xor b)) else none
    | .pure (.lst l) => if flatD x then (anyA x l).map fun b => .pure (.bl (neg.xor b)) else match x.py, D.pys l with
      | some p, some ps => if SeqAt.shaped p && SeqAt.shaped (.list ps) then some (.pure (.bl (neg.xor (ps.any fun z => PyData.eqv z p)))) else none
      | _, _ => none
    | .lst l => if flatD x then (anyA x l).map fun b => .pure (.bl (neg.xor b)) else match x.py, D.pys l with
      | some p, some ps => if SeqAt.shaped p && SeqAt.shaped (.list ps) then some (.pure (.bl (neg.xor (ps.any fun z => PyData.eqv z p)))) else none
      | _, _ => none
    | _ => none
  | _, _ => none
end
end VI
namespace VI
open PySem PySem.Spec PyProof.Rows L2
section
variable {W : Wd} {X : Cx} {vs : List (Option V)} {Wx : WX}
theorem flat_rep {H : Hp} {v : V} {d : D} (h : RepF W H v d) (f : flatD d = true) : flatV v = true := by
  cases h <;> first | rfl | cases f
theorem neg_if (neg b : Bool) : (if neg then !b else b) = neg.xor b := by cases neg <;> cases b <;> rfl
theorem op_inO_of (hK : X.K = W.K) (hu : X.A.units + 65 < cLine) (neg : Bool) {f : Value → Value → Sem Value} (h1 : OpR X f (rIn X.K neg)) (h2 : OpR X f (fun x y H Q => ∃ d ds, Dp X.K H x d ∧ Dp X.K H y (.list ds) ∧ SeqAt.shaped d = true ∧ SeqAt.shaped (.list ds) = true ∧ Q (.bl (neg.xor (ds.any fun z => PyData.eqv z d))) H))
    (h3 : OpR X f (fun x y H Q => ∃ (c : Nat) (z : Str), x = .str ⟨#[c]⟩ ∧ y = .str z ∧ Q (.bl (neg.xor (decide (c ∈ z.cps.toList)))) H))
    (h4 : OpR X f (fun x y H Q => ∃ a o, y = .ref a ∧ DGet H a x o ∧ Q (.bl (neg.xor o.isSome)) H)) : OpR X f (rO W (inO neg)) := by
  intro pins s σ H x y v u Q I rx ry ⟨H0, ox, oy, Lx, Ly, o, ex, hx, hy, e, gv⟩
  have seqs : ∀ (dx : D) (l : List D) (b : Bool) (p : Addr) (us : List V), ox = .pure dx → flatD dx = true → anyA dx l = some b → y = .ref p → (SqL W.K H p us ∨ SqT W.K H p us) → RepFs W H0 us l → o = .pure (.bl (neg.xor b)) → wpAny (model X.prog X.w) X.A (f v u) (EP X pins σ Q) X.xe s := by
    intro dx l b p us e1 e2 e3 e4 e5 rf e6
    subst e1 e6
    cases hx with
    | pure hx =>
      obtain ⟨a1, a2⟩ := anyA_rep hx rf e3
      refine h1 pins s σ H x y v u Q I rx ry ⟨p, us, e4, by rw [hK]; exact e5, flat_rep hx e2, a1, ?_⟩
      rw [a2, neg_if]
      exact gv.atom ex (.bl _)
  have deep : ∀ (dx : D) (l : List D) (pd : PyData) (ps : List PyData), ox = .pure dx → dx.py = some pd → D.pys l = some ps → (oy = .pure (.lst l) ∨ oy = .lst l) → (SeqAt.shaped pd && SeqAt.shaped (.list ps)) = true → o = .pure (.bl (neg.xor (ps.any fun z => PyData.eqv z pd))) → wpAny (model X.prog X.w) X.A (f v u) (EP X pins σ Q) X.xe s := by
    intro dx l pd ps e1 e2 e3 e4 e5 e6
    subst e1 e6
    rw [Bool.and_eq_true] at e5
    obtain ⟨p, us, e7, hs, rf⟩ := sql_of ex hy e4
    cases hx with
    | pure hx =>
      refine h2 pins s σ H x y v u Q I rx ry ⟨pd, ps, by rw [hK]; exact (hx.mono ex).dp e2, ?_, e5.1, e5.2, gv.atom ex (.bl _)⟩
      rw [hK, e7]
      exact .lst hs ((rf.mono ex).dp e3)
  have dct : ∀ (dx : D) (l : List (D × D)) (k : Key), ox = .pure dx → keyOf dx = some k → (oy = .pure (.dic l) ∨ oy = .dic l) → o = .pure (.bl (neg.xor (lookD l k).isSome)) → wpAny (model X.prog X.w) X.A (f v u) (EP X pins σ Q) X.xe s := by
    intro dx l k e1 e2 e3 e4
    subst e1 e4
    obtain ⟨p, kvs, e5, hr, rf⟩ := dic_at ex hy e3
    cases hx with
    | pure hx =>
      obtain ⟨e6, _⟩ := key_rep hx e2
      subst e5 e6
      have hv : valV kvs k = none ∨ ∃ w, valV kvs k = some w := by cases valV kvs k <;> simp
      have eiso : (valV kvs k).isSome = (lookD l k).isSome := by
        obtain ⟨a, b⟩ := rf.val k
        cases el : lookD l k with
        | none => rw [b el]; rfl
        | some d => obtain ⟨w, e7, _⟩ := a d el; rw [e7]; rfl
      refine h4 pins s σ H _ _ v u Q I rx ry ⟨p, valV kvs k, rfl, .inl ⟨kvs, k, .inl hr, rfl, rfl⟩, ?_⟩
      rw [eiso]
      exact gv.atom ex (.bl _)
  unfold inO at e
  split at e
  · split at e
    · split at e
      · split at e
        · rename_i c ec
          cases e
          refine h3 pins s σ H x y v u Q I rx ry ⟨c, _, ?_, atom_str hy, gv.atom ex (.bl _)⟩
          rw [atom_str hx]
          congr 1
          rename_i t _
          obtain ⟨⟨l⟩⟩ := t
          simp only at ec
          subst ec
          rfl
        · cases e
      · cases e
    · obtain ⟨k, e1, e2⟩ := Option.map_eq_some_iff.mp e
      exact dct _ _ k rfl e1 (.inl rfl) e2.symm
    · obtain ⟨k, e1, e2⟩ := Option.map_eq_some_iff.mp e
      exact dct _ _ k rfl e1 (.inr rfl) e2.symm
    · split at e
      · rename_i hf
        obtain ⟨b, e1, e2⟩ := Option.map_eq_some_iff.mp e
        obtain ⟨p, us, e3, hs, rf⟩ := sqt_of ex hy
        exact seqs _ _ b p us rfl hf e1 e3 (.inr hs) rf e2.symm
      · cases e
    · split at e
      · rename_i hf
        obtain ⟨b, e1, e2⟩ := Option.map_eq_some_iff.mp e
        obtain ⟨p, us, e3, hs, rf⟩ := sql_of ex hy (.inl rfl)
        exact seqs _ _ b p us rfl hf e1 e3 (.inl hs) rf e2.symm
      · split at e
        · rename_i p ps e1 e2
          split at e
          · rename_i hsh; cases e; exact deep _ _ p ps rfl e1 e2 (.inl rfl) hsh rfl
          · cases e
        · cases e
    · split at e
      · rename_i hf
        obtain ⟨b, e1, e2⟩ := Option.map_eq_some_iff.mp e
        obtain ⟨p, us, e3, hs, rf⟩ := sql_of ex hy (.inr rfl)
        exact seqs _ _ b p us rfl hf e1 e3 (.inl hs) rf e2.symm
      · split at e
        · rename_i p ps e1 e2
          split at e
          · rename_i hsh; cases e; exact deep _ _ p ps rfl e1 e2 (.inr rfl) hsh rfl
          · cases e
        · cases e
    · cases e
  · cases e
theorem op_inO (hK : X.K = W.K) (hu : X.A.units + 65 < cLine) : OpR X (compareOp .In) (rO W (inO false)) :=
  op_inO_of hK hu false op_in_seq (fun pins s σ H x y v u Q I rx ry ⟨d, ds, a, b, c, d', q⟩ => op_inD hu pins s σ H x y v u Q I rx ry ⟨d, ds, a, b, c, d', by simpa using q⟩) (fun pins s σ H x y v u Q I rx ry ⟨c, z, a, b, q⟩ => op_in_sign pins s σ H x y v u Q I rx ry ⟨c, z, a, b, by simpa using q⟩)
    fun pins s σ H x y v u Q I rx ry ⟨a, o, e, g, q⟩ => by
      subst e
      cases (show u = Value.ref a from ry)
      exact d_in (by omega) I g rx fun s' I' => ⟨.bl o.isSome, H, I', rfl, by simpa using q⟩
theorem op_ninO (hK : X.K = W.K) (hu : X.A.units + 65 < cLine) : OpR X (compareOp .NotIn) (rO W (inO true)) :=
  op_inO_of hK hu true op_notIn_seq (fun pins s σ H x y v u Q I rx ry ⟨d, ds, a, b, c, d', q⟩ => op_notInD hu pins s σ H x y v u Q I rx ry ⟨d, ds, a, b, c, d', by simpa using q⟩) (fun pins s σ H x y v u Q I rx ry ⟨c, z, a, b, q⟩ => op_notIn_sign pins s σ H x y v u Q I rx ry ⟨c, z, a, b, by simpa using q⟩)
    fun pins s σ H x y v u Q I rx ry ⟨a, o, e, g, q⟩ => by
      subst e
      cases (show u = Value.ref a from ry)
      exact d_notIn (by omega) I g rx fun s' I' => ⟨.bl (!o.isSome), H, I', rfl, by simpa using q⟩
theorem hu65 {k : Nat} (cx : Ctx W k Wx X) : X.A.units + 65 < cLine := by have := cx.room.un; omega
theorem hu64 {k : Nat} (cx : Ctx W k Wx X) : X.A.units + 64 < cLine := by have := cx.room.un; omega
/-! ### built-ins: what a call of known things is worth -/
def bltR (f : List O → Option O) (rs : List R) (g : G) : Res R := match rs.mapM (ob g) with
  | some os => match f os with
    | some o => .ok (.val o) g
    | none => .stuck
  | none => .stuck
def bltE (f : List O → Option O) (As : List E) : E := fun g => (evs As g).bind fun rs g1 => bltR f rs g1
def cO (W : Wd) (f : List O → Option O) : List V → Hp → VK → Prop := fun us H Q => ∃ H0 os o, Ex H0 H ∧ Paired (fun v o => ∃ L, RepO W H0 H v o L) us os ∧ f os = some o ∧ Gives W H0 H o Q
theorem obs_rep {H0 H : Hp} {σ : L2.St} {g : G} {L : List Addr} (en : EnvR W H0 H vs σ g L) : ∀ {us : List V} {rs : List R} {Lr : List Addr} {os : List O}, RepRs W H0 H σ us rs Lr → rs.mapM (ob g) = some os → Paired (fun v o => ∃ L, RepO W H0 H v o L) us os
  | _, _, _, os, .nil, e => by
    simp at e; subst e; exact .nil
  | _, _, _, os, .cons (r := r) (rs := rs) h t, e => by
    rw [List.mapM_cons] at e
    obtain ⟨o, e1, e2⟩ := Option.bind_eq_some_iff.mp e
    obtain ⟨os', e3, e4⟩ := Option.bind_eq_some_iff.mp e2
    cases e4
    obtain ⟨Lo, ro, _⟩ := ob_rep en h e1
    exact .cons ⟨Lo, ro⟩ (obs_rep en t e3)
theorem tA_blt {f : List O → Option O} {As : List E} {σ : L2.St} {H : Hp} {Q : VK} (h : tE W vs Wx (bltE f As) σ H Q) : tA W vs Wx (evs As) σ H (fun us H1 => cO W f us H1 Q) := by
  obtain ⟨H0, L, g, sp, en, post⟩ := h
  refine ⟨H0, L, g, sp, en, ?_⟩
  unfold bltE at post
  cases ea : evs As g with
  | stuck => rw [ea] at post; exact post.elim
  | exc x g' => rw [ea] at post; exact post
  | ok rs g1 =>
    rw [ea] at post
    intro us H1 H01 Lr L1 st rr en1
    simp only [Res.bind, bltR] at post
    cases eo : rs.mapM (ob g1) with
    | none => rw [eo] at post; exact post.elim
    | some os =>
      rw [eo] at post
      simp only at post
      cases ef : f os with
      | none => rw [ef] at post; exact post.elim
      | some o =>
        rw [ef] at post
        exact ⟨H01, os, o, st.sep.ex, obs_rep en1 rr eo, ef, gives_of st en1 post⟩
theorem se_blt {id : String} {x : Str} {p pos : Pos} {e : Expr} {es : List Expr} {As : List E} {f : List O → Option O} (hc : CallR X (.builtin id) (cO W f)) (hg : Gl X x) (hm : X.mg x = none) (hv : bootBuiltins x = some (.builtin id)) (ha : SA W vs Wx X (e :: es) (evs As))
    (run : ∀ {r : List V → Hp → VK → Prop} {t : TA}, CallR X (.builtin id) r → PA X (e :: es) t → PE X (.Call (.Name x p) (e :: es) [] pos) (tCB r t)) : SE W vs Wx X (.Call (.Name x p) (e :: es) [] pos) (bltE f As) :=
  pe_weak (run hc ha) fun σ H Q q => tA_blt q
theorem se_ty {T : String} {x : Str} {p pos : Pos} {e : Expr} {es : List Expr} {As : List E} {f : List O → Option O} (hc : CallR X (.type T) (cO W f)) (ha : SA W vs Wx X (e :: es) (evs As))
    (run : ∀ {r : List V → Hp → VK → Prop} {t : TA}, CallR X (.type T) r → PA X (e :: es) t → PE X (.Call (.Name x p) (e :: es) [] pos) (tCB r t)) : SE W vs Wx X (.Call (.Name x p) (e :: es) [] pos) (bltE f As) :=
  pe_weak (run hc ha) fun σ H Q q => tA_blt q
theorem one_of {P : V → O → Prop} {us : List V} {o : O} (h : Paired P us [o]) : ∃ v, us = [v] ∧ P v o := by
  cases h with | cons a r => cases r; exact ⟨_, rfl, a⟩
theorem two_of {P : V → O → Prop} {us : List V} {o o' : O} (h : Paired P us [o, o']) : ∃ v w, us = [v, w] ∧ P v o ∧ P w o' := by
  cases h with | cons a r => obtain ⟨w, e, b⟩ := one_of r; subst e; exact ⟨_, w, rfl, a, b⟩
theorem three_of {P : V → O → Prop} {us : List V} {o o' o2 : O} (h : Paired P us [o, o', o2]) : ∃ v w z, us = [v, w, z] ∧ P v o ∧ P w o' ∧ P z o2 := by
  cases h with | cons a r => obtain ⟨w, z, e, b, c⟩ := two_of r; subst e; exact ⟨_, w, z, rfl, a, b, c⟩
def lenO : List O → Option O
  | [.pure (.lst l)] => some (.pure (.int (l.length : Nat)))
  | [.pure (.tup l)] => some (.pure (.int (l.length : Nat)))
  | [.lst l] => some (.pure (.int (l.length : Nat)))
  | [.pure (.str s)] => if s.length ≤ 16777216 then some (.pure (.int (s.length : Nat))) else none
  | [.pure (.dic l)] => some (.pure (.int (l.length : Nat)))
  | [.dic l] => some (.pure (.int (l.length : Nat)))
  | _ => none
theorem cr_len (hK : X.K = W.K) : CallR X (.builtin "len") (cO W lenO) := by
  intro pins s σ H us ws Q I r ⟨H0, os, o, ex, pr, e, gv⟩
  have sq : ∀ (p : Addr) (xs : List V) (l : List D), us = [.ref p] → (SqL W.K H p xs ∨ SqT W.K H p xs) → RepFs W H0 xs l → o = .pure (.int (l.length : Nat)) → wpAny (model X.prog X.w) X.A (call (.builtin "len") ws) (EP X pins σ Q) X.xe s := by
    intro p xs l e1 hs rf e2
    subst e1 e2
    refine call_len_seq pins s σ H _ ws Q I r ⟨p, xs, rfl, by rw [hK]; exact hs, ?_⟩
    rw [rf.len]
    exact gv.atom ex (.int _)
  have dc : ∀ (oo : O) (l : List (D × D)), os = [oo] → (oo = .pure (.dic l) ∨ oo = .dic l) → o = .pure (.int (l.length : Nat)) → wpAny (model X.prog X.w) X.A (call (.builtin "len") ws) (EP X pins σ Q) X.xe s := by
    intro oo l e1 e2 e3
    subst e1 e3
    obtain ⟨v, e4, L, ro⟩ := one_of pr
    subst e4
    obtain ⟨p, kvs, e5, hr, rf⟩ := dic_at ex ro e2
    subst e5
    obtain ⟨w1, ew, rw1⟩ := vals1 r
    subst ew
    cases rw1
    exact d_len I (.inl hr) fun t s' I' => ⟨.int (kvs.length : Nat), H, I', ⟨t, rfl⟩, by rw [rf.len]; exact gv.atom ex (.int _)⟩
  unfold lenO at e
  split at e
  · cases e
    obtain ⟨v, e1, L, ro⟩ := one_of pr
    obtain ⟨p, xs, e2, hs, rf⟩ := sql_of ex ro (.inl rfl)
    exact sq p xs _ (by rw [e1, e2]) (.inl hs) rf rfl
  · cases e
    obtain ⟨v, e1, L, ro⟩ := one_of pr
    obtain ⟨p, xs, e2, hs, rf⟩ := sqt_of ex ro
    exact sq p xs _ (by rw [e1, e2]) (.inr hs) rf rfl
  · cases e
    obtain ⟨v, e1, L, ro⟩ := one_of pr
    obtain ⟨p, xs, e2, hs, rf⟩ := sql_of ex ro (.inr rfl)
    exact sq p xs _ (by rw [e1, e2]) (.inl hs) rf rfl
  · split at e
    · rename_i hz
      cases e
      obtain ⟨v, e1, L, ro⟩ := one_of pr
      exact call_len_str pins s σ H us ws Q I r ⟨_, by rw [e1, atom_str ro], sizeL hz, gv.atom ex (.int _)⟩
    · cases e
  · cases e; exact dc _ _ rfl (.inl rfl) rfl
  · cases e; exact dc _ _ rfl (.inr rfl) rfl
  · cases e
def maxO : List O → Option O
  | [.pure (.int i), .pure (.int j)] => some (.pure (.int (if j > i then j else i)))
  | _ => none
def minO : List O → Option O
  | [.pure (.int i), .pure (.int j)] => some (.pure (.int (if j < i then j else i)))
  | _ => none
theorem cr_maxO (hc : X.calm = true) : CallR X (.builtin "max") (cO W maxO) := by
  intro pins s σ H us ws Q I r ⟨H0, os, o, ex, pr, e, gv⟩
  unfold maxO at e
  split at e
  · cases e
    obtain ⟨v, w, e1, ⟨_, r1⟩, ⟨_, r2⟩⟩ := two_of pr
    exact call_max2 hc pins s σ H us ws Q I r ⟨_, _, by rw [e1, atom_int r1, atom_int r2], gv.atom ex (.int _)⟩
  · cases e
theorem cr_minO (hc : X.calm = true) : CallR X (.builtin "min") (cO W minO) := by
  intro pins s σ H us ws Q I r ⟨H0, os, o, ex, pr, e, gv⟩
  unfold minO at e
  split at e
  · cases e
    obtain ⟨v, w, e1, ⟨_, r1⟩, ⟨_, r2⟩⟩ := two_of pr
    exact call_min2 hc pins s σ H us ws Q I r ⟨_, _, by rw [e1, atom_int r1, atom_int r2], gv.atom ex (.int _)⟩
  · cases e
def tupleO : List O → Option O
  | [.pure (.lst l)] => some (.pure (.tup l))
  | [.lst l] => some (.pure (.tup l))
  | [.pure (.tup l)] => some (.pure (.tup l))
  | _ => none
def listO : List O → Option O
  | [.pure (.lst l)] => some (.lst l)
  | [.lst l] => some (.lst l)
  | [.pure (.tup l)] => some (.lst l)
  | _ => none
theorem cr_tupleO (hK : X.K = W.K) : CallR X (.type "tuple") (cO W tupleO) := by
  intro pins s σ H us ws Q I r ⟨H0, os, o, ex, pr, e, gv⟩
  have lst : ∀ (oo : O) l, os = [oo] → (oo = .pure (.lst l) ∨ oo = .lst l) → o = .pure (.tup l) → wpAny (model X.prog X.w) X.A (call (.type "tuple") ws) (EP X pins σ Q) X.xe s := by
    intro oo l e1 h e2
    subst e1 e2
    obtain ⟨v, e1, L, ro⟩ := one_of pr
    obtain ⟨p, xs, e2, hs, rf⟩ := sql_of ex ro h
    exact call_tuple_of pins s σ H us ws Q I r ⟨p, xs, by rw [e1, e2], .inl ⟨by rw [hK]; exact hs, fun l hl => gv.newT ex rf hl⟩⟩
  unfold tupleO at e
  split at e
  · cases e; exact lst _ _ rfl (.inl rfl) rfl
  · cases e; exact lst _ _ rfl (.inr rfl) rfl
  · cases e
    obtain ⟨v, e1, L, ro⟩ := one_of pr
    obtain ⟨p, xs, e2, hs, rf⟩ := sqt_of ex ro
    refine call_tuple_of pins s σ H us ws Q I r ⟨p, xs, by rw [e1, e2], .inr ⟨by rw [hK]; exact hs, ?_⟩⟩
    rw [← e2]
    cases ro with
    | pure f => exact gv.atom ex f
  · cases e
theorem cr_listO (hK : X.K = W.K) : CallR X (.type "list") (cO W listO) := by
  intro pins s σ H us ws Q I r ⟨H0, os, o, ex, pr, e, gv⟩
  have lst : ∀ (oo : O) l, os = [oo] → (oo = .pure (.lst l) ∨ oo = .lst l) → o = .lst l → wpAny (model X.prog X.w) X.A (call (.type "list") ws) (EP X pins σ Q) X.xe s := by
    intro oo l e1 h e2
    subst e1 e2
    obtain ⟨v, e1, L, ro⟩ := one_of pr
    obtain ⟨p, xs, e2, hs, rf⟩ := sql_of ex ro h
    exact call_list_of pins s σ H us ws Q I r ⟨p, xs, by rw [e1, e2], .inl (by rw [hK]; exact hs), fun l hl => gv.newL ex rf hl⟩
  unfold listO at e
  split at e
  · cases e; exact lst _ _ rfl (.inl rfl) rfl
  · cases e; exact lst _ _ rfl (.inr rfl) rfl
  · cases e
    obtain ⟨v, e1, L, ro⟩ := one_of pr
    obtain ⟨p, xs, e2, hs, rf⟩ := sqt_of ex ro
    exact call_list_of pins s σ H us ws Q I r ⟨p, xs, by rw [e1, e2], .inr (by rw [hK]; exact hs), fun l hl => gv.newL ex rf hl⟩
  · cases e
/-- the built-in type of a value -/
def tyO : O → Option String
  | .pure (.bl _) => some "bool"
  | .pure (.int _) => some "int"
  | .pure (.str _) => some "str"
  | .pure (.lst _) => some "list"
  | .lst _ => some "list"
  | .pure (.tup _) => some "tuple"
  | .pure (.dic _) => some "dict"
  | .dic _ => some "dict"
  | .pure .non => some "NoneType"
  | _ => none
def isiO : List O → Option O
  | [x, .pure (.ty t)] => match tyO x with
    | some s => (kitB s t).map fun b => .pure (.bl b)
    | none => none
  | _ => none
theorem tyx_of (hK : X.K = W.K) {H0 H : Hp} {v : V} {o : O} {L : List Addr} {t : String} (ex : Ex H0 H) (h : RepO W H0 H v o L) (e : tyO o = some t) : TyX X.K H v (.type t) := by
  have sql : ∀ {p us}, SqL X.K H p us → TyX X.K H (.ref p) (.type "list") := by
    intro p us hs
    rcases hs with (hs | ⟨ob, hs⟩) | ⟨ob, its, n, h1, h2, _⟩
    · exact .base (.lst hs)
    · exact .base (.frz hs)
    · exact .kList h1 h2
  have sqt : ∀ {p us}, SqT X.K H p us → TyX X.K H (.ref p) (.type "tuple") := by
    intro p us hs
    rcases hs with (hs | ⟨ob, hs⟩) | ⟨ob, its, n, h1, h2, _⟩
    · exact .base (.tup hs)
    · exact .fTuple hs
    · exact .kTuple h1 h2
  have rdd : ∀ {p kvs}, Rd H p (.dK kvs) → TyX X.K H (.ref p) (.type "dict") := by
    intro p kvs hs
    rcases hs with hs | ⟨ob, hs⟩
    · exact .base (.dK hs)
    · exact .fDict hs
  cases h with
  | pure f =>
    cases f with
    | non => cases e; exact .base .non
    | bl b => cases e; exact .base (.bl _)
    | int i => cases e; exact .base (.int _)
    | str s => cases e; exact .base (.str _)
    | tup h1 h2 => cases e; rw [hK] at *; exact sqt (ex_t ex h1)
    | lst h1 h2 => cases e; rw [hK] at *; exact sql (ex_l ex h1)
    | dic h1 h2 => cases e; exact rdd (.inl (ex _ _ h1))
    | _ => cases e
  | lst h1 h2 => cases e; exact sql (SqL.of h1)
  | dic h1 h2 => cases e; exact rdd (.inl h1)
  | _ => cases e
theorem cr_isiO (hK : X.K = W.K) : CallR X (.builtin "isinstance") (cO W isiO) := by
  intro pins s σ H us ws Q I r ⟨H0, os, o, ex, pr, e, gv⟩
  unfold isiO at e
  split at e
  · rename_i t
    obtain ⟨v, w, e1, ⟨_, r1⟩, ⟨_, r2⟩⟩ := two_of pr
    split at e
    · rename_i st es
      obtain ⟨b, e2, e3⟩ := Option.map_eq_some_iff.mp e
      subst e3
      have ew : w = .ty t := by cases r2 with | pure f => cases f; rfl
      exact call_isi pins s σ H us ws Q I r ⟨v, w, .type st, .type t, b, e1, by rw [ew]; exact .ty _, tyx_of hK ex r1 es, kit_ty e2, gv.atom ex (.bl _)⟩
    · cases e
  · cases e
end
end VI
namespace VI
open PySem PySem.Spec PyProof.Rows L2
section
variable {W : Wd} {X : Cx} {vs : List (Option V)} {Wx : WX}
/-! ### methods of built-in things, nothing changed -/
def bmE (ty : String) (f : List O → Option O) (A : E) (As : List E) : E := fun g => (A g).bind fun r g1 => match (ob g1 r).bind tyO with
  | some t => if t = ty then (evs As g1).bind fun rs g2 => bltR f (r :: rs) g2 else .stuck
  | none => .stuck
def mO (W : Wd) (f : List O → Option O) : V → List V → Hp → VK → Prop := fun x us H Q => cO W f (x :: us) H Q
theorem tyV_of (hK : X.K = W.K) {H0 H : Hp} {v : V} {o : O} {L : List Addr} {t : String} (ex : Ex H0 H) (h : RepO W H0 H v o L) (e : tyO o = some t) (hn : t = "str" ∨ t = "list" ∨ t = "dict") : tyV X.K t v H := by
  cases h with
  | pure f =>
    cases f with
    | str s => cases e; rfl
    | lst h1 h2 => cases e; exact .inl ⟨rfl, _, by rw [hK]; exact ex_l ex h1⟩
    | dic h1 h2 => cases e; exact .inr (.inr (.inl ⟨rfl, .inl ⟨_, ex _ _ h1⟩⟩))
    | tup h1 h2 => cases e; rcases hn with h | h | h <;> exact absurd h (by decide)
    | bl b => cases e; rcases hn with h | h | h <;> exact absurd h (by decide)
    | int b => cases e; rcases hn with h | h | h <;> exact absurd h (by decide)
    | non => cases e; rcases hn with h | h | h <;> exact absurd h (by decide)
    | _ => cases e
  | lst h1 h2 => cases e; exact .inl ⟨rfl, _, SqL.of h1⟩
  | dic h1 h2 => cases e; exact .inr (.inr (.inl ⟨rfl, .inl ⟨_, h1⟩⟩))
  | _ => cases e
theorem tE_bm {k : Nat} (cx : Ctx W k Wx X) {ty : String} (hn : ty = "str" ∨ ty = "list" ∨ ty = "dict") {f : List O → Option O} {A : E} {As : List E} {σ : L2.St} {H : Hp} {Q : VK} (h : tE W vs Wx (bmE ty f A As) σ H Q) : tBM X.K ty (mO W f) (tE W vs Wx A) (tA W vs Wx (evs As)) σ H Q := by
  obtain ⟨H0, L, g, sp, en, post⟩ := h
  refine ⟨H0, L, g, sp, en, ?_⟩
  unfold bmE at post
  cases ea : A g with
  | stuck => rw [ea] at post; exact post.elim
  | exc x g' => rw [ea] at post; exact post
  | ok r g1 =>
    rw [ea] at post
    intro v H1 H01 Lr L1 st1 rr en1
    simp only [Res.bind] at post
    cases et : (ob g1 r).bind tyO with
    | none => rw [et] at post; exact post.elim
    | some t =>
      rw [et] at post
      simp only at post
      by_cases htt : t = ty
      · rw [if_pos htt] at post
        subst htt
        obtain ⟨o, e1, e2⟩ := Option.bind_eq_some_iff.mp et
        obtain ⟨Lo, ro, _⟩ := ob_rep en1 rr e1
        refine ⟨tyV_of cx.K st1.sep.ex ro e2 hn, H01, L1, g1, st1.sep.right, en1, ?_⟩
        cases eb : evs As g1 with
        | stuck => rw [eb] at post; exact post.elim
        | exc x g' => rw [eb] at post; intro c d H' H0' L' st2 rx en2; exact post c d H' H0' L' (st1.then st2).right rx en2
        | ok rs g2 =>
          rw [eb] at post
          intro us H2 H02 Ls L2 st2 rs2 en2
          have st := st1.then st2
          have rr2 : RepR W H02 H2 σ v r Lr := rr.mono st2.ex0 (Step.keepL st1.sep st2)
          simp only [bltR] at post
          cases eo : (r :: rs).mapM (ob g2) with
          | none => rw [eo] at post; exact post.elim
          | some os =>
            rw [eo] at post
            simp only at post
            cases ef : f os with
            | none => rw [ef] at post; exact post.elim
            | some o' =>
              rw [ef] at post
              exact ⟨H02, os, o', st2.sep.ex, obs_rep (rs := r :: rs) en2 (.cons rr2 rs2) eo, ef, gives_of (Lt := Lr ++ Ls) (by simpa [List.append_assoc] using st) en2 post⟩
      · rw [if_neg htt] at post; exact post.elim
theorem se_bm {k : Nat} {ty id : String} {o e : Expr} {es : List Expr} {name : Str} {apos cpos : Pos} {f : List O → Option O} {A : E} {As : List E} (cx : Ctx W k Wx X) (hn : ty = "str" ∨ ty = "list" ∨ ty = "dict") (hm : MtR X id (mO W f)) (ho : SE W vs Wx X o A) (ha : SA W vs Wx X (e :: es) (evs As))
    (run : ∀ {r : V → List V → Hp → VK → Prop} {to : TE} {t : TA}, MtR X id r → PE X o to → PA X (e :: es) t → PE X (.Call (.Attribute o name apos) (e :: es) [] cpos) (tBM X.K ty r to t)) : SE W vs Wx X (.Call (.Attribute o name apos) (e :: es) [] cpos) (bmE ty f A As) :=
  pe_weak (run hm ho ha) fun σ H Q q => tE_bm cx hn q
theorem se_bm0 {k : Nat} {ty id : String} {o : Expr} {name : Str} {apos cpos : Pos} {f : List O → Option O} {A : E} (cx : Ctx W k Wx X) (hn : ty = "str" ∨ ty = "list" ∨ ty = "dict") (hm : MtR X id (mO W f)) (ho : SE W vs Wx X o A)
    (run : ∀ {r : V → List V → Hp → VK → Prop} {to : TE}, MtR X id r → PE X o to → PE X (.Call (.Attribute o name apos) [] [] cpos) (tBM0 X.K ty r to)) : SE W vs Wx X (.Call (.Attribute o name apos) [] [] cpos) (bmE ty f A []) := by
  refine pe_weak (run hm ho) fun σ H Q q => ?_
  obtain ⟨H0, L, g, sp, en, post⟩ := tE_bm (As := []) cx hn q
  refine ⟨H0, L, g, sp, en, ?_⟩
  cases ea : A g with
  | stuck => rw [ea] at post; exact post.elim
  | exc x g' => rw [ea] at post; exact post
  | ok r g1 =>
    rw [ea] at post
    intro v H1 H01 Lr L1 st1 rr en1
    obtain ⟨ht, H0', L', g', sp', en', p'⟩ := post v H1 H01 Lr L1 st1 rr en1
    exact ⟨ht, p' [] H1 H0' [] L' (Step.refl sp') .nil en'⟩
def strsD : List D → Option (List Str)
  | [] => some []
  | .str s :: l => (strsD l).map fun r => s :: r
  | _ :: _ => none
theorem strs_rep {H : Hp} : ∀ {us : List V} {l : List D} {ys : List Str}, RepFs W H us l → strsD l = some ys → us = ys.map V.str
  | _, _, ys, .nil, e => by cases e; rfl
  | _, _, ys, .cons (d := d) h r, e => by
    unfold strsD at e
    split at e
    · rename_i heq; cases heq
    · rename_i s l heq
      cases heq
      obtain ⟨r', e1, e2⟩ := Option.map_eq_some_iff.mp e
      subst e2
      cases h
      simp [strs_rep r e1]
    · cases e
theorem strs_map (ys : List Str) : strsD (ys.map D.str) = some ys := by
  induction ys with
  | nil => rfl
  | cons y ys ih => simp [strsD, ih]
theorem reps_strs {H : Hp} : ∀ (ys : List Str), RepFs W H (ys.map V.str) (ys.map D.str)
  | [] => .nil
  | y :: ys => .cons (.str y) (reps_strs ys)
theorem reps_ints {H : Hp} : ∀ (ys : List Int), RepFs W H (ys.map V.int) (ys.map D.int)
  | [] => .nil
  | y :: ys => .cons (.int y) (reps_ints ys)
theorem reps_bls {H : Hp} : ∀ (ys : List Bool), RepFs W H (ys.map V.bl) (ys.map D.bl)
  | [] => .nil
  | y :: ys => .cons (.bl y) (reps_bls ys)
def elemsO : O → Option (List D)
  | .pure (.lst l) => some l
  | .lst l => some l
  | .pure (.tup l) => some l
  | _ => none
theorem elems_rep {H0 H : Hp} {v : V} {o : O} {L : List Addr} {l : List D} (ex : Ex H0 H) (h : RepO W H0 H v o L) (e : elemsO o = some l) : ∃ p us, v = .ref p ∧ (SqL W.K H p us ∨ SqT W.K H p us) ∧ RepFs W H0 us l := by
  unfold elemsO at e
  split at e <;> cases e
  · obtain ⟨p, us, a, b, c⟩ := sql_of ex h (.inl rfl); exact ⟨p, us, a, .inl b, c⟩
  · obtain ⟨p, us, a, b, c⟩ := sql_of ex h (.inr rfl); exact ⟨p, us, a, .inl b, c⟩
  · obtain ⟨p, us, a, b, c⟩ := sqt_of ex h; exact ⟨p, us, a, .inr b, c⟩
def joinO : List O → Option O
  | [.pure (.str a), x] => (elemsO x).bind fun l => (strsD l).bind fun ys => if (ys.map (·.length)).sum + ys.length * a.length ≤ 16777216 then some (.pure (.str (Txt.join a ys))) else none
  | _ => none
theorem mt_joinO (hK : X.K = W.K) : MtR X "str.join" (mO W joinO) := by
  intro pins s σ H x xs v us Q I rx rs ⟨H0, os, o, ex, pr, e, gv⟩
  unfold joinO at e
  split at e
  · obtain ⟨a1, a2, e1, ⟨_, r1⟩, ⟨_, r2⟩⟩ := two_of pr
    obtain ⟨l, e2, e3⟩ := Option.bind_eq_some_iff.mp e
    obtain ⟨ys, e4, e5⟩ := Option.bind_eq_some_iff.mp e3
    obtain ⟨p, ws, e6, hs, rf⟩ := elems_rep ex r2 e2
    have := strs_rep rf e4
    subst this
    split at e5
    · rename_i hz
      cases e5
      cases e1
      rw [← hK] at hs
      exact mt_join pins s σ H _ _ v us Q I rx rs ⟨_, p, ys, atom_str r1, by rw [e6], hs, hz, gv.atom ex (.str _)⟩
    · cases e5
  · cases e
def splitO : List O → Option O
  | [.pure (.str a), .pure (.str b)] => if b.length ≠ 0 ∧ a.length + 2 ≤ 16777216 then some (.lst ((Txt.split a b).map D.str)) else none
  | _ => none
theorem mt_splitO : MtR X "str.split" (mO W splitO) := by
  intro pins s σ H x xs v us Q I rx rs ⟨H0, os, o, ex, pr, e, gv⟩
  unfold splitO at e
  split at e
  · obtain ⟨a1, a2, e1, ⟨_, r1⟩, ⟨_, r2⟩⟩ := two_of pr
    split at e
    · rename_i hz
      cases e
      cases e1
      exact mt_split pins s σ H _ _ v us Q I rx rs ⟨_, _, atom_str r1, by rw [atom_str r2], by simp [hz.1], sizeL hz.2, fun p hp => gv.newL ex (reps_strs _) hp⟩
    · cases e
  · cases e
def startsO : List O → Option O
  | [.pure (.str a), .pure (.str b)] => some (.pure (.bl (Txt.startswith a b)))
  | _ => none
theorem mt_startsO : MtR X "str.startswith" (mO W startsO) := by
  intro pins s σ H x xs v us Q I rx rs ⟨H0, os, o, ex, pr, e, gv⟩
  unfold startsO at e
  split at e
  · obtain ⟨a1, a2, e1, ⟨_, r1⟩, ⟨_, r2⟩⟩ := two_of pr
    cases e
    cases e1
    exact mt_startswith pins s σ H _ _ v us Q I rx rs ⟨_, _, atom_str r1, by rw [atom_str r2], gv.atom ex (.bl _)⟩
  · cases e
/-! ### methods that change their list -/
def putR (g : G) : R → O → G
  | .slot i, o => setO g i o
  | .val _, _ => g
def mutE (ty : String) (f : O → List D → Option (O × D)) (A : E) (As : List E) : E := fun g => (A g).bind fun r g1 => match (ob g1 r).bind tyO with
  | some t => if t = ty then (evs As g1).bind fun rs g2 => match frzs rs g2 with
      | some (ds, g3) => match ob g3 r with
        | some o => match f o ds with
          | some (o', d) => .ok (.val (.pure d)) (putR g3 r o')
          | none => .stuck
        | none => .stuck
      | none => .stuck
    else .stuck
  | none => .stuck
def rM (W : Wd) (f : O → List D → Option (O × D)) : V → List V → Hp → VK → Prop := fun x us H Q => ∃ H0 L o ds o' d, Sep H0 H L ∧ RepO W H0 H x o L ∧ RepFs W H0 us ds ∧ f o ds = some (o', d) ∧ ∀ v H' L', Step H0 H L H0 H' L' → RepO W H0 H' x o' L' → RepF W H0 v d → Q v H'
/-- from what stands for a receiver to its changed self -/
theorem mut_ok {r : R} {σ : L2.St} {H0 H H02 H2 : Hp} {L Lr L3 : List Addr} {g3 : G} {v : V} {o : O} (st : Step H0 H L H02 H2 (Lr ++ L3)) (rr : RepR W H02 H2 σ v r Lr) (en : EnvR W H02 H2 vs σ g3 L3) (eo : ob g3 r = some o) :
    ∃ Lo, Sep H02 H2 Lo ∧ RepO W H02 H2 v o Lo ∧ ∀ o' H' L', Step H02 H2 Lo H02 H' L' → RepO W H02 H' v o' L' → ∃ L4, Step H0 H L H02 H' L4 ∧ EnvR W H02 H' vs σ (putR g3 r o') L4 := by
  cases r with
  | val o1 =>
    cases eo
    refine ⟨Lr, st.sep.left, rr, fun o' H' L' s2 ro' => ⟨L3, ?_, ?_⟩⟩
    · have sp : Sep H02 H2 (L3 ++ Lr) := st.sep.perm List.perm_append_comm
      have s3 := (st.perm List.perm_append_comm).trans (Step.frame sp s2)
      exact (s3.perm List.perm_append_comm).right
    · have sp : Sep H02 H2 (L3 ++ Lr) := st.sep.perm List.perm_append_comm
      exact en.mono (Ex.refl _) (Step.keepL sp s2)
  | slot i =>
    obtain ⟨hv, rfl⟩ := rr
    simp only [ob, Option.bind_eq_some_iff] at eo
    obtain ⟨sl, e1, e2⟩ := eo
    obtain ⟨v', La, Lo, Lb, h1, h2, h3, h4⟩ := en.at e1 e2
    rw [hv] at h1; cases h1
    subst h3
    have sp : Sep H02 H2 ((La ++ Lb) ++ Lo) := by
      refine st.sep.perm ?_
      simpa [List.append_assoc] using List.Perm.append_left La (List.perm_append_comm (l₁ := Lo) (l₂ := Lb))
    refine ⟨Lo, sp.right, h2, fun o' H' L' s2 ro' => ⟨La ++ (L' ++ Lb), ?_, ?_⟩⟩
    · have s3 : Step H0 H L H02 H' ((La ++ Lb) ++ L') := by
        refine (st.perm ?_).trans (Step.frame sp s2)
        simpa [List.append_assoc] using List.Perm.append_left La (List.perm_append_comm (l₁ := Lo) (l₂ := Lb))
      refine s3.perm ?_
      simpa [List.append_assoc] using List.Perm.append_left La (List.perm_append_comm (l₁ := Lb) (l₂ := L'))
    · have := h4 H02 H' (Ex.refl _) (Step.keepL sp s2) o' L' ro'
      simpa [putR, setO, e1] using this
theorem tE_mut {k : Nat} (cx : Ctx W k Wx X) {ty : String} (hn : ty = "str" ∨ ty = "list" ∨ ty = "dict") {f : O → List D → Option (O × D)} {A : E} {As : List E} {σ : L2.St} {H : Hp} {Q : VK} (h : tE W vs Wx (mutE ty f A As) σ H Q) : tBM X.K ty (rM W f) (tE W vs Wx A) (tA W vs Wx (evs As)) σ H Q := by
  obtain ⟨H0, L, g, sp, en, post⟩ := h
  refine ⟨H0, L, g, sp, en, ?_⟩
  unfold mutE at post
  cases ea : A g with
  | stuck => rw [ea] at post; exact post.elim
  | exc x g' => rw [ea] at post; exact post
  | ok r g1 =>
    rw [ea] at post
    intro v H1 H01 Lr L1 st1 rr en1
    simp only [Res.bind] at post
    cases et : (ob g1 r).bind tyO with
    | none => rw [et] at post; exact post.elim
    | some t =>
      rw [et] at post
      simp only at post
      by_cases htt : t = ty
      · rw [if_pos htt] at post
        subst htt
        obtain ⟨o, e1, e2⟩ := Option.bind_eq_some_iff.mp et
        obtain ⟨Lo, ro, _⟩ := ob_rep en1 rr e1
        refine ⟨tyV_of cx.K st1.sep.ex ro e2 hn, H01, L1, g1, st1.sep.right, en1, ?_⟩
        cases eb : evs As g1 with
        | stuck => rw [eb] at post; exact post.elim
        | exc x g' => rw [eb] at post; intro c d H' H0' L' st2 rx en2; exact post c d H' H0' L' (st1.then st2).right rx en2
        | ok rs g2 =>
          rw [eb] at post
          intro us H2 H02 Ls L2 st2 rs2 en2
          have st := st1.then st2
          have rr2 : RepR W H02 H2 σ v r Lr := rr.mono st2.ex0 (Step.keepL st1.sep st2)
          simp only at post
          cases ef : frzs rs g2 with
          | none => rw [ef] at post; exact post.elim
          | some p =>
            obtain ⟨ds, g3⟩ := p
            rw [ef] at post
            simp only at post
            obtain ⟨H03, L3, s3, rf, en3⟩ := frzs_ok rs2 st.sep.right en2 ef
            have st3 : Step H0 H L H03 H2 (Lr ++ L3) := st.then s3
            have rr3 : RepR W H03 H2 σ v r Lr := rr2.mono s3.ex0 fun _ _ _ q => q
            cases eo : ob g3 r with
            | none => rw [eo] at post; exact post.elim
            | some o =>
              rw [eo] at post
              simp only at post
              cases eff : f o ds with
              | none => rw [eff] at post; exact post.elim
              | some q =>
                obtain ⟨o', d⟩ := q
                rw [eff] at post
                obtain ⟨Lo', sp', ro', fin⟩ := mut_ok st3 rr3 en3 eo
                refine ⟨H03, Lo', o, ds, o', d, sp', ro', rf, eff, fun w H' L' s4 ro4 rd => ?_⟩
                obtain ⟨L4, s5, en5⟩ := fin o' H' L' s4 ro4
                exact post w H' H03 [] L4 (by simpa using s5) (.pure rd) en5
      · rw [if_neg htt] at post; exact post.elim
theorem se_mut {k : Nat} {ty id : String} {o e : Expr} {es : List Expr} {name : Str} {apos cpos : Pos} {f : O → List D → Option (O × D)} {A : E} {As : List E} (cx : Ctx W k Wx X) (hn : ty = "str" ∨ ty = "list" ∨ ty = "dict") (hm : MtR X id (rM W f)) (ho : SE W vs Wx X o A) (ha : SA W vs Wx X (e :: es) (evs As))
    (run : ∀ {r : V → List V → Hp → VK → Prop} {to : TE} {t : TA}, MtR X id r → PE X o to → PA X (e :: es) t → PE X (.Call (.Attribute o name apos) (e :: es) [] cpos) (tBM X.K ty r to t)) : SE W vs Wx X (.Call (.Attribute o name apos) (e :: es) [] cpos) (mutE ty f A As) :=
  pe_weak (run hm ho ha) fun σ H Q q => tE_mut cx hn q
theorem se_mut0 {k : Nat} {ty id : String} {o : Expr} {name : Str} {apos cpos : Pos} {f : O → List D → Option (O × D)} {A : E} (cx : Ctx W k Wx X) (hn : ty = "str" ∨ ty = "list" ∨ ty = "dict") (hm : MtR X id (rM W f)) (ho : SE W vs Wx X o A)
    (run : ∀ {r : V → List V → Hp → VK → Prop} {to : TE}, MtR X id r → PE X o to → PE X (.Call (.Attribute o name apos) [] [] cpos) (tBM0 X.K ty r to)) : SE W vs Wx X (.Call (.Attribute o name apos) [] [] cpos) (mutE ty f A []) := by
  refine pe_weak (run hm ho) fun σ H Q q => ?_
  obtain ⟨H0, L, g, sp, en, post⟩ := tE_mut (As := []) cx hn q
  refine ⟨H0, L, g, sp, en, ?_⟩
  cases ea : A g with
  | stuck => rw [ea] at post; exact post.elim
  | exc x g' => rw [ea] at post; exact post
  | ok r g1 =>
    rw [ea] at post
    intro v H1 H01 Lr L1 st1 rr en1
    obtain ⟨ht, H0', L', g', sp', en', p'⟩ := post v H1 H01 Lr L1 st1 rr en1
    exact ⟨ht, p' [] H1 H0' [] L' (Step.refl sp') .nil en'⟩
/-- a change of one's own list in its place -/
theorem step_list {H0 H : Hp} {p : Addr} {o : HO} (sp : Sep H0 H [p]) : Step H0 H [p] H0 (upd H p o) [p] := by
  refine ⟨Ex.refl _, fun a u h hn => ?_, fun a h => .inl h, fun a h => .inl h, ⟨fun a u h => ?_, sp.nd, fun q hq => ⟨(sp.own q hq).1, ?_⟩⟩⟩
  · have : a ≠ p := fun z => hn (by simp [z])
    rw [upd_ne this]; exact h
  · have : a ≠ p := fun z => by subst z; rw [(sp.own a (by simp)).1] at h; cases h
    rw [upd_ne this]; exact sp.ex a u h
  · have : q = p := by simpa using hq
    subst this
    exact ⟨_, upd_same⟩
theorem own_list {H0 H : Hp} {x : V} {l : List D} {L : List Addr} (h : RepO W H0 H x (.lst l) L) : ∃ p us, x = .ref p ∧ L = [p] ∧ H p = some (.lst us) ∧ RepFs W H0 us l := by
  cases h with
  | lst h1 h2 => exact ⟨_, _, rfl, rfl, h1, h2⟩
def appO : O → List D → Option (O × D)
  | .lst l, [d] => if l.length < 16777216 then some (.lst (l ++ [d]), .non) else none
  | _, _ => none
theorem ltL {m : Nat} (h : m < 16777216) : m < sizeLine := by rw [sizeLine_eq]; exact h
theorem RepFs.one {H : Hp} {us : List V} {d : D} (h : RepFs W H us [d]) : ∃ v, us = [v] ∧ RepF W H v d := by
  cases h with | cons a r => cases r; exact ⟨_, rfl, a⟩
theorem mt_appO : MtR X "list.append" (rM W appO) := by
  intro pins s σ H x xs v us Q I rx rs ⟨H0, L, o, ds, o', d, sp, ro, rf, e, k⟩
  unfold appO at e
  split at e
  · split at e
    · rename_i hz
      cases e
      obtain ⟨p, ws, e1, e2, hp, rw1⟩ := own_list ro
      obtain ⟨y, e3, ry⟩ := rf.one
      subst e1 e2 e3
      exact mt_append pins s σ H _ _ v us Q I rx rs ⟨p, ws, y, rfl, rfl, hp, by rw [rw1.len]; exact ltL hz, k _ _ [p] (step_list sp) (.lst upd_same (rw1.append (.cons ry .nil))) .non⟩
    · cases e
  · cases e
def extO : O → List D → Option (O × D)
  | .lst l, [.lst m] => if l.length + m.length ≤ 16777216 then some (.lst (l ++ m), .non) else none
  | _, _ => none
theorem ext_meets (l : Addr) (items : Array Value) (n : Nat) (b : Addr) (items2 : Array Value) (n2 : Nat) (sl2 : Array (Option Value)) (h0 : ¬(!items.isEmpty && Builtin.List.listTooLong (items.size + items2.size)) = true) (h1 : items.size ≤ sizeLine) (h2 : items.size + items2.size ≤ sizeLine + 1) :
    Meets (Builtin.«list.extend» ⟨[.ref l, .ref b], []⟩) (fun _ R s => s.heap.get? l = some ⟨.type "list", none, .seq items n, #[]⟩ ∧ s.heap.get? b = some ⟨.type "list", none, .seq items2 n2, sl2⟩ ∧
      R (.ok (.ret Value.none)) { s with heap := s.heap.update l (Obj.mapSeq fun x => x ++ items2), toks := s.toks }) :=
  .of_wp fun prog w A R s h => by
    obtain ⟨hp, g, d, tk, os⟩ := s
    obtain ⟨hl, hb, h⟩ := h
    have f1 := AutoSeq1.idx_int
    have f2 := AutoSeq1.sub_tuple_tuple
    have f3 := AutoSeq1.sub_list_list
    have f4 := AutoSeq1.sub_tuple_list
    have f5 := AutoSeq1.sub_list_tuple
    have hz' : (items ++ items2).size ≤ sizeLine + 1 := by rw [Array.size_append]; exact h2
    wp_walk using (wpAny_updateSeq hl rfl (hz := h1) (_hz' := hz')), AutoSeq1.wpAny_loadPart' hl, AutoSeq1.wpAny_loadPart' hb
    exact ⟨_, rfl, h⟩
theorem mt_extO (hK : X.K = W.K) : MtR X "list.extend" (rM W extO) := by
  intro pins s σ H x xs v us Q I rx rs ⟨H0, L, o, ds, o', d, sp, ro, rf, e, k⟩
  unfold extO at e
  split at e
  · split at e
    · rename_i hz
      cases e
      obtain ⟨p, ws, e1, e2, hp, rw1⟩ := own_list ro
      obtain ⟨y, e3, ry⟩ := rf.one
      subst e1 e2 e3
      cases ry with
      | lst h1 h2 =>
        rename_i q zs
        cases rx
        obtain ⟨u, rfl, ru⟩ := rs.one
        cases ru
        obtain ⟨z, its, n, r, hl, e⟩ := I.lstM hp
        obtain ⟨its2, r2, ⟨⟨c2, d2, dt2, sl2⟩, n2, e2, hc2, hd2, ht2⟩, _⟩ := I.list (by rw [hK]; exact ex_l sp.ex h1)
        dsimp only at hc2 hd2 ht2
        subst hc2 hd2 ht2
        have l2 := r2.length
        have hz2 : ws.length + zs.length ≤ sizeLine := by rw [rw1.len, h2.len]; exact sizeL hz
        have hsz : its.toArray.size + its2.toArray.size ≤ sizeLine := by rw [List.size_toArray, List.size_toArray]; omega
        have hlong : ¬ (!its.toArray.isEmpty && Builtin.List.listTooLong (its.toArray.size + its2.toArray.size)) = true := by
          rw [notLongL hsz, Bool.and_false]; simp
        refine call_meets F.slot_list_extend ⟨_, e, rfl⟩ F.entry_list_extend (F.args_list_extend_2 _ _) (ext_meets p its.toArray n q its2.toArray n2 sl2 hlong (by rw [List.size_toArray]; omega) (by omega)) ⟨e, e2, ?_⟩
        refine ⟨.non, _, I.lset (its' := its ++ its2) hp e (by simp) (r.append r2) (by rw [List.length_append]; exact hz2), rfl, k _ _ [p] (step_list sp) (.lst upd_same (rw1.append h2)) .non⟩
    · cases e
  · cases e
def popO : O → List D → Option (O × D)
  | .lst l, [] => (l[l.length - 1]?).map fun d => (.lst l.dropLast, d)
  | _, _ => none
theorem RepFs.dropLast {H : Hp} {us : List V} {ds : List D} (h : RepFs W H us ds) : RepFs W H us.dropLast ds.dropLast := by
  rw [List.dropLast_eq_take, List.dropLast_eq_take, h.len]
  exact h.take _
theorem mt_popO : MtR X "list.pop" (rM W popO) := by
  intro pins s σ H x xs v us Q I rx rs ⟨H0, L, o, ds, o', d, sp, ro, rf, e, k⟩
  unfold popO at e
  split at e
  · obtain ⟨d', e1, e2⟩ := Option.map_eq_some_iff.mp e
    cases e2
    obtain ⟨p, ws, e3, e4, hp, rw1⟩ := own_list ro
    cases rf
    obtain ⟨y, e5, ry⟩ := rw1.get e1
    subst e3 e4
    exact mt_pop pins s σ H _ _ v us Q I rx rs ⟨p, ws, y, rfl, rfl, hp, by rw [rw1.len]; exact e5, k _ _ [p] (step_list sp) (.lst upd_same rw1.dropLast) ry⟩
  · cases e
def popAtO : O → List D → Option (O × D)
  | .lst l, [.int i] => if 0 ≤ i ∧ i < 1000000000 then (l[i.toNat]?).map fun d => (.lst (l.eraseIdx i.toNat), d) else none
  | _, _ => none
theorem mt_popAtO : MtR X "list.pop" (rM W popAtO) := by
  intro pins s σ H x xs v us Q I rx rs ⟨H0, L, o, ds, o', d, sp, ro, rf, e, k⟩
  unfold popAtO at e
  split at e
  · split at e
    · rename_i i hi
      obtain ⟨d', e1, e2⟩ := Option.map_eq_some_iff.mp e
      cases e2
      obtain ⟨p, ws, e3, e4, hp, rw1⟩ := own_list ro
      obtain ⟨z, e6, rz⟩ := rf.one
      obtain ⟨y, e5, ry⟩ := rw1.get e1
      subst e3 e4 e6
      cases rz
      have hlt : i.toNat < ws.length := (List.getElem?_eq_some_iff.mp e5).1
      exact mt_popAt pins s σ H _ _ v us Q I rx rs ⟨p, ws, _, i.toNat, y, rfl, rfl, hp, by omega, by omega, seqIndex_of hi.1 (by omega), e5, k _ _ [p] (step_list sp) (.lst upd_same (rw1.eraseIdx _)) ry⟩
    · cases e
  · cases e
def insO : O → List D → Option (O × D)
  | .lst l, [.int i, d] => if l.length < 16777216 ∧ 0 ≤ i ∧ i < 1000000000 then some (.lst (l.take i.toNat ++ [d] ++ l.drop i.toNat), .non) else none
  | _, _ => none
theorem mt_insO : MtR X "list.insert" (rM W insO) := by
  intro pins s σ H x xs v us Q I rx rs ⟨H0, L, o, ds, o', d, sp, ro, rf, e, k⟩
  unfold insO at e
  split at e
  · split at e
    · rename_i i d hi
      cases e
      obtain ⟨p, ws, e3, e4, hp, rw1⟩ := own_list ro
      subst e3 e4
      cases rf with
      | cons rz rf =>
        cases rz
        obtain ⟨z, e6, rz⟩ := rf.one
        subst e6
        exact mt_insert pins s σ H _ _ v us Q I rx rs ⟨p, ws, _, z, rfl, rfl, hp, by rw [rw1.len]; exact ltL hi.1, hi.2.1, by omega, k _ _ [p] (step_list sp) (.lst upd_same (((rw1.take _).append (.cons rz .nil)).append (rw1.drop _))) .non⟩
    · cases e
  · cases e
def clrO : O → List D → Option (O × D)
  | .lst _, [] => some (.lst [], .non)
  | _, _ => none
theorem mt_clrO : MtR X "list.clear" (rM W clrO) := by
  intro pins s σ H x xs v us Q I rx rs ⟨H0, L, o, ds, o', d, sp, ro, rf, e, k⟩
  unfold clrO at e
  split at e
  · cases e
    obtain ⟨p, ws, e3, e4, hp, rw1⟩ := own_list ro
    subst e3 e4
    cases rf
    exact mt_clear pins s σ H _ _ v us Q I rx rs ⟨p, ws, rfl, rfl, hp, k _ _ [p] (step_list sp) (.lst upd_same .nil) .non⟩
  · cases e
/-! ### o[i] = v -/
def stO : O → D → D → Option O
  | .lst l, .int i, d => (ixN l.length i).map fun j => .lst (l.set j d)
  | .dic l, kd, d => (keyOf kd).bind fun k => if l.length < 16777216 then some (.dic (putD l k d)) else none
  | _, _, _ => none
def rSt (W : Wd) : TSet := fun x i v H Q => ∃ H0 L o di dv o', Sep H0 H L ∧ RepO W H0 H x o L ∧ RepF W H0 i di ∧ RepF W H0 v dv ∧ stO o di dv = some o' ∧ ∀ H' L', Step H0 H L H0 H' L' → RepO W H0 H' x o' L' → Q H'
theorem pset_st (hu : X.A.units + 1 < cLine) : PSet X (rSt W) := by
  intro pins s σ H o i v ov iv u Q I ro' ri rv ⟨H0, L, oo, di, dv, o', sp, ro, rdi, rdv, e, k⟩
  unfold stO at e
  split at e
  · obtain ⟨j, e1, e2⟩ := Option.map_eq_some_iff.mp e
    subst e2
    obtain ⟨p, ws, e3, e4, hp, rw1⟩ := own_list ro
    subst e3 e4
    cases rdi
    exact set_list pins s σ H _ _ v ov iv u Q I ro' ri rv ⟨p, ws, _, j, rfl, rfl, hp, by rw [rw1.len]; exact e1, k _ [p] (step_list sp) (.lst upd_same (rw1.set _ rdv))⟩
  · obtain ⟨kk, e1, e2⟩ := Option.bind_eq_some_iff.mp e
    split at e2
    · rename_i hz
      cases e2
      cases ro with
      | dic h1 h2 =>
        obtain ⟨e5, _⟩ := key_rep rdi e1
        subst e5
        exact set_dict hu pins s σ H _ _ v ov iv u Q I ro' ri rv ⟨_, _, rfl, DPut.k h1 (by rw [h2.len]; exact ltL hz), k _ [_] (step_list sp) (.dic upd_same (h2.put rdv))⟩
    · cases e2
  · cases e
/-- o[i] = v, v first -/
def stS (Ao Ai Av : E) : S := fun g => (Av g).bind fun rv g1 => (Ao g1).bind fun r g2 => (Ai g2).bind fun ri g3 => match frzs [rv, ri] g3 with
  | some ([dv, di], g4) => match ob g4 r with
    | some o => match stO o di dv with
      | some o' => .ok .next (putR g4 r o')
      | none => .stuck
    | none => .stuck
  | _ => .stuck
theorem ss_st {k : Nat} {o i e : Expr} {pos pos' : Pos} {Ao Ai Av : E} (cx : Ctx W k Wx X) (ho : SE W vs Wx X o Ao) (hi : SE W vs Wx X i Ai) (hv : SE W vs Wx X e Av)
    (run : ∀ {to ti te : TE} {t : TSet}, PE X o to → PE X i ti → PE X e te → PSet X t → PS X (.Assign [.Subscript o i pos'] e pos) (tAsg te (gSub to ti t))) : SS W vs Wx X (.Assign [.Subscript o i pos'] e pos) (stS Ao Ai Av) := by
  refine ps_weak (run ho hi hv (pset_st (W := W) (hu_of cx.room))) fun De σ H ⟨H0, L, g, sp, en, post⟩ => ?_
  refine ⟨H0, L, g, sp, en, ?_⟩
  unfold stS at post
  cases ea : Av g with
  | stuck => rw [ea] at post; exact post.elim
  | exc x g' => rw [ea] at post; exact fun c d H' H0' L' s2 rx en2 => post c d σ H' H0' L' s2 rx en2
  | ok rv g1 =>
    rw [ea] at post
    intro v H1 H01 Lr L1 st1 rr en1
    simp only [Res.bind] at post
    refine ⟨H01, L1, g1, st1.sep.right, en1, ?_⟩
    cases eb : Ao g1 with
    | stuck => rw [eb] at post; exact post.elim
    | exc x g' => rw [eb] at post; exact fun c d H' H0' L' s2 rx en2 => post c d σ H' H0' L' (st1.then s2).right rx en2
    | ok r g2 =>
      rw [eb] at post
      intro x H2 H02 Lx L2 st2 rx en2
      simp only at post
      have st12 := st1.then st2
      have rr2 := rr.mono st2.ex0 (Step.keepL st1.sep st2)
      refine ⟨H02, L2, g2, st2.sep.right, en2, ?_⟩
      cases ec : Ai g2 with
      | stuck => rw [ec] at post; exact post.elim
      | exc x g' =>
        rw [ec] at post
        intro c d H' H0' L' s3 rx' en3
        have s : Step H0 H L H0' H' ((Lr ++ Lx) ++ L') := Step.then (La := Lr ++ Lx) (by simpa [List.append_assoc] using st12) s3
        exact post c d σ H' H0' L' s.right rx' en3
      | ok ri g3 =>
        rw [ec] at post
        intro y H3 H03 Ly L3 st3 ry en3
        simp only at post
        have st12' : Step H0 H L H02 H2 ((Lr ++ Lx) ++ L2) := by simpa [List.append_assoc] using st12
        have st123 := st12'.then st3
        have kp := Step.keepL st12'.sep st3
        have rr3 := rr2.mono st3.ex0 fun a ha => kp a (by simp [ha])
        have rx3 := rx.mono st3.ex0 fun a ha => kp a (by simp [ha])
        have hcase : ∃ dv di g4, frzs [rv, ri] g3 = some ([dv, di], g4) := by
          cases ef : frzs [rv, ri] g3 with
          | none => rw [ef] at post; exact post.elim
          | some pp =>
            obtain ⟨l, g4⟩ := pp
            rw [ef] at post
            cases l with
            | nil => exact post.elim
            | cons a l => cases l with
              | nil => exact post.elim
              | cons b l => cases l with
                | nil => exact ⟨a, b, g4, rfl⟩
                | cons _ _ => exact post.elim
        obtain ⟨dv, di, g4, ef⟩ := hcase
        rw [ef] at post
        simp only at post
        have spm : Step H0 H L H03 H3 (Lx ++ ((Lr ++ (Ly ++ [])) ++ L3)) := by
          refine st123.perm ?_
          have := perm_mid Lr Lx (Ly ++ L3)
          simpa [List.append_assoc] using this
        obtain ⟨H04, L4, s4, rf, en4⟩ := frzs_ok (us := [v, y]) (Lr := Lr ++ (Ly ++ [])) (.cons rr3 (.cons ry .nil)) spm.sep.right en3 ef
        have st4 : Step H0 H L H04 H3 (Lx ++ L4) := spm.then s4
        have rx4 := rx3.mono s4.ex0 fun _ _ _ q => q
        cases rf with
        | cons rfv rf =>
          obtain ⟨y', e6, rfi⟩ := rf.one
          cases e6
          cases eo : ob g4 r with
          | none => rw [eo] at post; exact post.elim
          | some oo =>
            rw [eo] at post
            simp only at post
            cases es : stO oo di dv with
            | none => rw [es] at post; exact post.elim
            | some o' =>
              rw [es] at post
              obtain ⟨Lo', sp', ro', fin⟩ := mut_ok st4 rx4 en4 eo
              refine ⟨H04, Lo', oo, di, dv, o', sp', ro', rfi, rfv, es, fun H' L' s5 ro5 => ?_⟩
              obtain ⟨L5, s6, en6⟩ := fin o' H' L' s5 ro5
              exact post σ H' H04 L5 s6 en6
/-- {} -/
def dnewE : E := fun g => .ok (.val (.dic [])) g
theorem se_dnew {pos : Pos} : SE W vs Wx X (.Dict [] [] pos) dnewE := pe_weak pe_dnewK fun σ H Q ⟨H0, L, g, sp, en, post⟩ => fun p hp => by
  have s2 := step_newL (o := .dK []) sp.ex hp
  have sp2 : Sep H0 H (L ++ []) := by simpa using sp
  have s3 : Step H0 H L H0 (upd H p (.dK [])) (L ++ [p]) := by simpa using Step.frame sp2 s2
  exact post (.ref p) _ H0 [p] L (s3.perm List.perm_append_comm) (.dic upd_same .nil) (en.mono (Ex.refl _) (Step.keepL sp2 s2))
end
end VI
namespace L2
open PySem PySem.Spec PyProof.Rows
/-! ### zip of lists and tuples, in any mix -/
inductive SrcK where | l | t
def SqK (K : PySem.W.Frag) (H : Hp) : SrcK → Addr → List V → Prop
  | .l, a, xs => SqL K H a xs
  | .t, a, xs => SqT K H a xs
def IterK (h : Heap) : SrcK → Addr → Addr → Nat → Prop
  | .l, it, a, i => h.IsListIter it a i
  | .t, it, a, i => h.IsTupleIter it a i
theorem IterK.obj {h : Heap} {k : SrcK} {it a : Addr} {i : Nat} (st : IterK h k it a i) : ∃ o, h.get? it = some o ∧ ∀ v, o.data ≠ .cell v := by
  cases k <;> (obtain ⟨o, e, _, d⟩ := st; exact ⟨o, e, fun v q => by rw [d] at q; cases q⟩)
theorem IterK.at' {h h' : Heap} {k : SrcK} {it a : Addr} {i : Nat} (st : IterK h k it a i) (f : ∀ o, h.get? it = some o → h'.get? it = some o) : IterK h' k it a i := by
  cases k <;> exact st.at f
theorem Inv.drawsK {X : Cx} {pins : List (Addr × Obj)} {σ : L2.St} {H : Hp} {s : Shared} {k : SrcK} {it a : Addr} {i : Nat} {xs : List V} (I : Inv X pins σ H s) (hh : X.A.handled = none) (hs : SqK X.K H k a xs) (hne : a ≠ it) (st : IterK s.heap k it a i) :
    ∃ (its : List Value) (St : Nat → Heap → Prop), Vals xs its ∧ Draws X.prog X.w X.A.in1 it [it, a] its.length (fun i v => its[i]? = some v) St ∧ St i s.heap ∧ ∀ i h, St i h → IterK h k it a i := by
  cases k with
  | l =>
    obtain ⟨its, rv, p, _⟩ := I.list hs
    have D := Draws.list (prog := X.prog) (w := X.w) (A := X.A.in1) hh it a hne its.toArray
    exact ⟨its, fun i h => h.IsListIter it a i ∧ h.IsList a its.toArray, rv, by simpa using D, ⟨st, p.isList⟩, fun _ _ q => q.1⟩
  | t =>
    obtain ⟨its, rv, p, _⟩ := I.tuple hs
    have D := Draws.tuple (prog := X.prog) (w := X.w) (A := X.A.in1) hh it a hne its.toArray
    exact ⟨its, fun i h => h.IsTupleIter it a i ∧ h.IsTuple a its.toArray, rv, by simpa using D, ⟨st, p⟩, fun _ _ q => q.1⟩
theorem Inv.sqK_inj {X : Cx} {pins : List (Addr × Obj)} {σ : L2.St} {H : Hp} {s : Shared} {k : SrcK} {a : Addr} {xs ys : List V} (I : Inv X pins σ H s) (h1 : SqK X.K H k a xs) (h2 : SqK X.K H k a ys) : xs = ys := by
  cases k with
  | l => exact I.list_inj h1 h2
  | t => exact I.tuple_inj h1 h2
def ItzK (K : PySem.W.Frag) (k1 : SrcK) (a : Addr) (k2 : SrcK) (b : Addr) : It :=
  ⟨fun i H => ∃ (xs ys : List V) (x y : V), SqK K H k1 a xs ∧ SqK K H k2 b ys ∧ xs[i]? = some x ∧ ys[i]? = some y,
    fun i H v H' => ∃ T x y, v = .ref T ∧ H T = none ∧ H' = upd H T (.tup [x, y]) ∧ (∀ xs, SqK K H k1 a xs → xs[i]? = some x) ∧ ∀ ys, SqK K H k2 b ys → ys[i]? = some y,
    fun i H => ∃ xs ys : List V, SqK K H k1 a xs ∧ SqK K H k2 b ys ∧ i ≤ xs.length ∧ i ≤ ys.length ∧ (xs.length = i ∨ ys.length = i)⟩
theorem turn_zipK {P : Program} {w : World} {K : PySem.W.Frag} {elts : List Expr} {kk : Nat} {tpos : Pos} {k1 k2 : SrcK} {a b z TI TO i1 i2 : Addr} (D : ZipSep2 z TI TO i1 i2 [i1, a] [i2, b]) (n1 : a ≠ i1) (n2 : b ≠ i2) :
    Turn P w K (.Tuple elts kk tpos) (ItzK K k1 a k2 b) [z, TI, TO, i1, i2] z (fun i h => IsZip h z TI TO .none ∧ IsPair h TI (.ref i1) (.ref i2) ∧ (∃ x y, IsPair h TO x y) ∧ IterK h k1 i1 a i ∧ IterK h k2 i2 b i) where
  mem := by simp
  obj := fun i h ⟨hz, hTI, ⟨x, y, hTO⟩, s1, s2⟩ c hc => by
    simp only [List.mem_cons, List.not_mem_nil, or_false] at hc
    rcases hc with rfl | rfl | rfl | rfl | rfl
    · exact ⟨_, hz, fun v q => nomatch q⟩
    · exact ⟨_, hTI, fun v q => nomatch q⟩
    · exact ⟨_, hTO, fun v q => nomatch q⟩
    · exact s1.obj
    · exact s2.obj
  keep := fun i h h' ⟨hz, hTI, ⟨x, y, hTO⟩, s1, s2⟩ k =>
    ⟨k z (by simp) _ hz, k TI (by simp) _ hTI, ⟨x, y, k TO (by simp) _ hTO⟩, s1.at' fun o q => k i1 (by simp) o q, s2.at' fun o q => k i2 (by simp) o q⟩
  item := by
    intro X hP hw hK hc i pins s σ H E I hf ⟨hz, hTI, ⟨x0, y0, hTO⟩, s1, s2⟩ ⟨xs, ys, x, y, hqx, hqy, hx, hy⟩
    subst hP; subst hw; subst hK
    obtain ⟨its1, St1, rv1, D1, t1, u1⟩ := I.drawsK (I.ok.hd hc) hqx n1 s1
    obtain ⟨its2, St2, rv2, D2, t2, u2⟩ := I.drawsK (I.ok.hd hc) hqy n2 s2
    obtain ⟨v1, e1, r1⟩ := rv1.get hx
    obtain ⟨v2, e2, r2⟩ := rv2.get hy
    have l1 := (List.getElem?_eq_some_iff.mp e1).1
    have l2 := (List.getElem?_eq_some_iff.mp e2).1
    have zl : z < s.heap.objs.size := Heap.lt_size hz
    refine wpAny_pyNext_zipD2_item D D1 D2 hz hTI hTO t1 t2 l1 l2 fun x1 x2 h' tk p1 p2 z' TO' t1' t2' hT hsz hk => ?_
    have q1 : x1 = v1 := Option.some.inj (p1.symm.trans e1)
    have q2 : x2 = v2 := Option.some.inj (p2.symm.trans e2)
    subst q1; subst q2
    refine ⟨_, rfl, ?_⟩
    refine wpAny_letOwnedTupleGo_zip (s := { s with heap := h', toks := tk }) z' fun h'' z'' sb => ?_
    have old : ∀ c o, c ∉ [z, TI, TO, i1, i2] → s.heap.get? c = some o → h''.get? c = some o := fun c o hcn q => by
      simp only [List.mem_cons, List.not_mem_nil, or_false, not_or] at hcn
      exact (sb.2 c hcn.1).trans (hk c o hcn.1 hcn.2.2.1 hcn.2.2.2.1 hcn.2.2.2.2 q)
    have hT2 : h''.get? s.heap.objs.size = some { cls := .type "tuple", data := .seq #[x1, x2] } := (sb.2 _ (Nat.ne_of_gt zl)).trans hT
    have new : ObjOk X.prog X.w (upd H s.heap.objs.size (.tup [x, y])) h'' s.heap.objs.size (.tup [x, y]) := ⟨by show 2 ≤ sizeLine; decide, [x1, x2], .cons r1 (.cons r2 .nil), ⟨_, hT2, rfl, _, rfl⟩⟩
    refine ⟨.ref s.heap.objs.size, _, I.turnedNew (t' := tk) old hf (Nat.le_refl _) new, rfl, ⟨_, x, y, rfl, I.hok.fresh (Nat.le_refl _), rfl, fun l hl => by rw [I.sqK_inj hl hqx]; exact hx, fun l hl => by rw [I.sqK_inj hl hqy]; exact hy⟩, ⟨z'', ?_, ⟨x1, x2, ?_⟩, ?_, ?_⟩, fun c hcm => ?_⟩
    · exact (sb.2 _ D.TIz).trans (hk _ _ D.TIz D.TITO D.TIi1 D.TIi2 hTI)
    · exact (sb.2 _ D.TOz).trans TO'
    · exact (u1 _ _ t1').at' fun o q => (sb.2 _ (Ne.symm D.zi1)).trans q
    · exact (u2 _ _ t2').at' fun o q => (sb.2 _ (Ne.symm D.zi2)).trans q
    · have lt : c < s.heap.objs.size := by
        simp only [List.mem_cons, List.not_mem_nil, or_false] at hcm
        rcases hcm with rfl | rfl | rfl | rfl | rfl
        · exact zl
        · exact Heap.lt_size hTI
        · exact Heap.lt_size hTO
        · obtain ⟨o, q, _⟩ := s1.obj; exact Heap.lt_size q
        · obtain ⟨o, q, _⟩ := s2.obj; exact Heap.lt_size q
      rw [upd_ne (Nat.ne_of_lt lt)]
      exact (hf c hcm).1
  done := by
    intro X hP hw hK hc i pins s σ H E I hf ⟨hz, hTI, ⟨x0, y0, hTO⟩, s1, s2⟩ ⟨xs, ys, hqx, hqy, hi1, hi2, hend⟩
    subst hP; subst hw; subst hK
    obtain ⟨its1, St1, rv1, D1, t1, u1⟩ := I.drawsK (I.ok.hd hc) hqx n1 s1
    obtain ⟨its2, St2, rv2, D2, t2, u2⟩ := I.drawsK (I.ok.hd hc) hqy n2 s2
    have l1 := rv1.length
    have l2 := rv2.length
    refine wpAny_pyNext_zipD2_end D D1 D2 hz hTI hTO t1 t2 (by omega) (by omega) (by omega) fun h' tk hk => ⟨rfl, ?_⟩
    refine I.turnedL (t' := tk) (ch := [z, TI, TO, i1, i2]) (fun c o hcn q => ?_) hf
    simp only [List.mem_cons, List.not_mem_nil, or_false, not_or] at hcn
    exact hk c o hcn.1 hcn.2.2.1 hcn.2.2.2.1 hcn.2.2.2.2 q
  self := fun A i s Q E st h => wpAny_pyIter_zip st.1 h
def iZipK (K : PySem.W.Frag) (ta : TA) : TI := fun σ H R => ta σ H fun vs H1 => ∃ (k1 : SrcK) (a : Addr) (k2 : SrcK) (b : Addr) (xs ys : List V), vs = [.ref a, .ref b] ∧ SqK K H1 k1 a xs ∧ SqK K H1 k2 b ys ∧ R (ItzK K k1 a k2 b) H1
def objK : SrcK → Addr → Obj
  | .l, a => { cls := .type "list_iterator", data := .fields #[.ref a, .int 0 0] }
  | .t, a => { cls := .type "tuple_iterator", data := .fields #[.ref a, .int 0 0] }
theorem Inv.beginsK {X : Cx} {pins : List (Addr × Obj)} {σ : L2.St} {H : Hp} {s : Shared} {k : SrcK} {a : Addr} {xs : List V} (I : Inv X pins σ H s) (hs : SqK X.K H k a xs) : a < s.heap.objs.size ∧ ∃ P : Heap → Prop, Begins (.ref a) (objK k a) P ∧ P s.heap := by
  cases k with
  | l =>
    obtain ⟨its, rv, p, _⟩ := I.list hs
    exact ⟨p.lt, _, begins_list a its.toArray, p.isList⟩
  | t =>
    obtain ⟨its, rv, p, _⟩ := I.tuple hs
    obtain ⟨o, e, _⟩ := id p
    exact ⟨Heap.lt_size e, _, begins_tuple a its.toArray, p⟩
theorem iterK_new {h : Heap} {k : SrcK} {it a : Addr} (e : h.get? it = some (objK k a)) : IterK h k it a 0 := by
  cases k <;> exact ⟨_, e, rfl, rfl⟩
theorem pi_zipK {X : Cx} {e e2 : Expr} {ta : TA} {p pos tpos : Pos} {elts : List Expr} {kk : Nat} (hg : Gl X "zip") (hm : X.mg "zip" = none) (ha : PA X [e, e2] ta)
    (hs : starEach [e, e2] X.env = (false, eval e X.env) :: starEach [e2] X.env := by rfl) (hpl : (backTo pos (starEach [e2] X.env)).any (·.1) = false := by rfl) : PI X (.Tuple elts kk tpos) (.Call (.Name "zip" p) [e, e2] [] pos) (iZipK X.K ta) := by
  refine ⟨fun pins s σ H R I h => Call_ (ld_blt I hg hm PyProof.Rows.boot_zip (PyProof.Rows.callWith_type1 (thn (ha.run pos pins s σ H _ I h) fun us s1 q0 => ?_) hs hpl))⟩
  obtain ⟨vs, H1, I1, r1, k1, a, k2, b, xs, ys, ex, hqx, hqy, q⟩ := q0
  subst ex
  obtain ⟨u1, u2, eu, ru1, ru2⟩ := vals2 r1
  subst eu
  cases ru1; cases ru2
  obtain ⟨la, P1, B1, p1⟩ := I1.beginsK hqx
  obtain ⟨lb, P2, B2, p2⟩ := I1.beginsK hqy
  refine zip_begins2 B1 B2 p1 p2 fun h' hz hTI hTO h1 h2 hsz hk => wpAny_pyIter_zip hz ?_
  have I2 : Inv X pins σ H1 { s1 with heap := h' } := I1.kept (t' := s1.toks) hk
  have D := zip_sep2 (N := s1.heap.objs.size) (fp1 := [a]) (fp2 := [b]) (fun c hc => by simp at hc; rw [hc]; exact la) (fun c hc => by simp at hc; rw [hc]; exact lb)
  refine ⟨s1.heap.objs.size + 4, [s1.heap.objs.size + 4, s1.heap.objs.size + 2, s1.heap.objs.size + 3, s1.heap.objs.size, s1.heap.objs.size + 1], _, _, H1, rfl, I2, turn_zipK D (Nat.ne_of_lt la) (Nat.ne_of_lt (Nat.lt_succ_of_lt lb)), ⟨hz, hTI, ⟨_, _, hTO⟩, iterK_new h1, iterK_new h2⟩, fun c hcm => ?_, q⟩
  have hle : s1.heap.objs.size ≤ c := by
    simp only [List.mem_cons, List.not_mem_nil, or_false] at hcm
    rcases hcm with rfl | rfl | rfl | rfl | rfl <;> omega
  exact I1.fpOk hle (I1.hok.fresh hle)
end L2
namespace VI
open PySem PySem.Spec PyProof.Rows L2
section
variable {W : Wd} {X : Cx} {vs : List (Option V)} {Wx : WX}
def zipL : List D → List D → List D
  | a :: as, b :: bs => .tup [a, b] :: zipL as bs
  | _, _ => []
def zipI : List O → Option (List D)
  | [a, b] => match elemsO a, elemsO b with
    | some l, some m => some (zipL l m)
    | _, _ => none
  | _ => none
theorem zipL_len : ∀ (l m : List D), (zipL l m).length = min l.length m.length
  | a :: l, b :: m => by simp [zipL, zipL_len l m] <;> omega
  | [], _ => by simp [zipL]
  | _ :: _, [] => by simp [zipL]
theorem zipL_get : ∀ (l m : List D) (i : Nat) (d : D), (zipL l m)[i]? = some d → ∃ a b, l[i]? = some a ∧ m[i]? = some b ∧ d = .tup [a, b]
  | a :: l, b :: m, 0, d, h => by simp [zipL] at h; exact ⟨a, b, by simp, by simp, h.symm⟩
  | a :: l, b :: m, i + 1, d, h => by
    obtain ⟨x, y, h1, h2, h3⟩ := zipL_get l m i d (by simpa [zipL] using h)
    exact ⟨x, y, by simpa using h1, by simpa using h2, h3⟩
  | [], _, i, d, h => by simp [zipL] at h
  | _ :: _, [], i, d, h => by simp [zipL] at h
theorem elems_repK {H0 H : Hp} {v : V} {o : O} {L : List Addr} {l : List D} (ex : Ex H0 H) (h : RepO W H0 H v o L) (e : elemsO o = some l) : ∃ k p us, v = .ref p ∧ SqK W.K H k p us ∧ RepFs W H0 us l := by
  obtain ⟨p, us, a, b | b, c⟩ := elems_rep ex h e
  · exact ⟨.l, p, us, a, b, c⟩
  · exact ⟨.t, p, us, a, b, c⟩
def kindO : O → SrcK
  | .pure (.tup _) => .t
  | _ => .l
theorem elems_kind {H0 H : Hp} {v : V} {o : O} {L : List Addr} {l : List D} (ex : Ex H0 H) (h : RepO W H0 H v o L) (e : elemsO o = some l) : ∃ p us, v = .ref p ∧ SqK W.K H (kindO o) p us ∧ RepFs W H0 us l := by
  unfold elemsO at e
  split at e <;> cases e
  · exact sql_of ex h (.inl rfl)
  · exact sql_of ex h (.inr rfl)
  · exact sqt_of ex h
theorem RepOs.two {H0 H : Hp} {us : List V} {o o' : O} {L : List Addr} (h : RepOs W H0 H us [o, o'] L) : ∃ v w L1 L2, us = [v, w] ∧ RepO W H0 H v o L1 ∧ RepO W H0 H w o' L2 := by
  cases h with
  | cons h r =>
    obtain ⟨w, e, h2⟩ := r.one
    subst e
    exact ⟨_, w, _, _, rfl, h, h2⟩
theorem feeds_zip {Hb : Hp} {p q : Addr} {o o' : O} {l m : List D} (e1 : elemsO o = some l) (e2 : elemsO o' = some m) : Feeds W Hb (ItzK W.K (kindO o) p (kindO o') q) [.ref p, .ref q] [o, o'] (zipL l m) := by
  intro i H0 H La _ ex ro
  obtain ⟨v, w, L1, L2, e3, r1, r2⟩ := ro.two
  cases e3
  obtain ⟨p', us, e4, s1, rf1⟩ := elems_kind ex r1 e1
  obtain ⟨q', ws, e5, s2, rf2⟩ := elems_kind ex r2 e2
  cases e4; cases e5
  refine ⟨fun d hd => ?_, fun hl => ⟨us, ws, s1, s2, ?_⟩⟩
  · obtain ⟨a, b, h1, h2, h3⟩ := zipL_get l m i d hd
    obtain ⟨va, g1, ra⟩ := rf1.get h1
    obtain ⟨vb, g2, rb⟩ := rf2.get h2
    subst h3
    refine ⟨⟨us, ws, va, vb, s1, s2, g1, g2⟩, fun x H' ⟨T, x1, x2, e6, hT, e7, f1, f2⟩ => ?_⟩
    subst e6; subst e7
    have := f1 us s1
    rw [g1] at this; cases this
    have := f2 ws s2
    rw [g2] at this; cases this
    have st := step_new0 (o := .tup [va, vb]) ex hT
    exact ⟨_, st, .tup (SqT.of upd_same) (RepFs.mono st.ex0 (.cons ra (.cons rb .nil)))⟩
  · rw [rf1.len, rf2.len]
    rw [zipL_len] at hl
    omega
theorem si_zip {k : Nat} {e e2 : Expr} {A B : E} {p pos tpos : Pos} {elts : List Expr} {kk : Nat} (cx : Ctx W k Wx X) (hg : Gl X "zip") (hm : X.mg "zip" = none) (ha : SA W vs Wx X [e, e2] (evs [A, B]))
    (hs : starEach [e, e2] X.env = (false, eval e X.env) :: starEach [e2] X.env := by rfl) (hpl : (backTo pos (starEach [e2] X.env)).any (·.1) = false := by rfl) : SI W vs Wx X (.Tuple elts kk tpos) (.Call (.Name "zip" p) [e, e2] [] pos) (evs [A, B]) zipI := by
  refine pi_weak (pi_zipK hg hm ha hs hpl) fun σ H Q q => tI_args q fun us os ds H1 H01 La ro ex e k => ?_
  unfold zipI at e
  split at e
  · split at e
    · rename_i l m e1 e2
      cases e
      obtain ⟨v, w, L1, L2, e3, r1, r2⟩ := ro.two
      obtain ⟨p', us1, e4, s1, rf1⟩ := elems_kind ex r1 e1
      obtain ⟨q', us2, e5, s2, rf2⟩ := elems_kind ex r2 e2
      subst e3; subst e4; subst e5
      rw [cx.K]
      exact ⟨_, p', _, q', us1, us2, rfl, s1, s2, k _ (feeds_zip e1 e2)⟩
    · cases e
  · cases e
/-! ### enumerate(a list) -/
def enumL (l : List D) : List D := (List.range l.length).map fun (i : Nat) => D.tup [.int (i : Nat), l.getD i .non]
def enumI : List O → Option (List D)
  | [.pure (.lst l)] => some (enumL l)
  | [.lst l] => some (enumL l)
  | _ => none
theorem feeds_enum {Hb : Hp} {p : Addr} {o : O} {l : List D} (ho : o = .pure (.lst l) ∨ o = .lst l) : Feeds W Hb (Ite W.K p) [.ref p] [o] (enumL l) := by
  intro i H0 H La _ ex ro
  obtain ⟨v, e1, ro⟩ := ro.one
  cases e1
  obtain ⟨p', us, e2, hs, rf⟩ := sql_of ex ro ho
  cases e2
  refine ⟨fun d hd => ?_, fun hl => ⟨us, hs, by rw [rf.len, hl]; simp [enumL]⟩⟩
  unfold enumL at hd
  rw [List.getElem?_map] at hd
  obtain ⟨j, hj, e3⟩ := Option.map_eq_some_iff.mp hd
  have hi : i < l.length := by
    have := (List.getElem?_eq_some_iff.mp hj).1
    simpa using this
  rw [List.getElem?_range hi] at hj
  cases hj
  have hli : l[i]? = some (l.getD i .non) := by rw [List.getD_eq_getElem?_getD, List.getElem?_eq_getElem hi]; rfl
  obtain ⟨v, hv, rv⟩ := rf.get hli
  refine ⟨⟨us, v, hs, hv⟩, fun x H' ⟨T, x1, e6, hT, e7, f1⟩ => ?_⟩
  subst e6; subst e7; subst e3
  have := f1 us hs
  rw [hv] at this; cases this
  have st := step_new0 (o := .tup [.int (i : Nat), v]) ex hT
  exact ⟨_, st, .tup (SqT.of upd_same) (RepFs.mono st.ex0 (.cons (.int _) (.cons rv .nil)))⟩
theorem si_enum {k : Nat} {e : Expr} {A : E} {p pos tpos : Pos} {elts : List Expr} {kk : Nat} (cx : Ctx W k Wx X) (hg : Gl X "enumerate") (hm : X.mg "enumerate" = none) (ha : SA W vs Wx X [e] (evs [A]))
    (hs : starEach [e] X.env = [(false, eval e X.env)] := by rfl) : SI W vs Wx X (.Tuple elts kk tpos) (.Call (.Name "enumerate" p) [e] [] pos) (evs [A]) enumI := by
  refine pi_weak (pi_enum hg hm ha hs) fun σ H Q q => tI_args q fun us os ds H1 H01 La ro ex e k => ?_
  have lst : ∀ (o : O) l, os = [o] → (o = .pure (.lst l) ∨ o = .lst l) → ds = enumL l → ∃ a xs, us = [.ref a] ∧ SqL X.K H1 a xs ∧ Q (Ite X.K a) H1 := by
    intro o l e1 e2 e3
    subst e1; subst e3
    obtain ⟨v, e4, r1⟩ := ro.one
    obtain ⟨p', us1, e5, s1, rf1⟩ := sql_of ex r1 e2
    subst e4; subst e5
    rw [cx.K]
    exact ⟨p', us1, rfl, s1, k _ (feeds_enum e2)⟩
  unfold enumI at e
  split at e
  · cases e; exact lst _ _ rfl (.inl rfl) rfl
  · cases e; exact lst _ _ rfl (.inr rfl) rfl
  · cases e
/-! ### range(a, b, c) -/
def rng3 : List O → Option (List D)
  | [.pure (.int i), .pure (.int j), .pure (.int c)] => if c ≠ 0 ∧ c.natAbs < 1073741824 ∧ Builtin.Range.small i j c = true ∧ 0 ≤ Builtin.Range.rangeSize i j c then some ((List.range (Builtin.Range.rangeSize i j c).toNat).map fun (k : Nat) => D.int (i + (k : Int) * c)) else none
  | _ => none
theorem feeds_range3 {Hb : Hp} {us : List V} {os : List O} {lo c : Int} {m : Nat} : Feeds W Hb (Itc lo c m) us os ((List.range m).map fun (k : Nat) => D.int (lo + (k : Int) * c)) := by
  intro i H0 H La _ ex ro
  refine ⟨fun d hd => ?_, fun hl => (show m ≤ i by rw [hl]; simp)⟩
  rw [List.getElem?_map] at hd
  obtain ⟨k, hk, e⟩ := Option.map_eq_some_iff.mp hd
  have hi : i < m := by
    have := (List.getElem?_eq_some_iff.mp hk).1
    simpa using this
  rw [List.getElem?_range hi] at hk
  cases hk
  exact ⟨hi, fun x H' ⟨e1, e2⟩ => by subst e1; subst e2; subst e; exact ⟨H0, Step.refl (Sep.nil ex), .int _⟩⟩
theorem si_range3 {tg a b c : Expr} {A B C : E} {p pos : Pos} (hg : Gl X "range") (hm : X.mg "range" = none) (ha : SA W vs Wx X [a, b, c] (evs [A, B, C]))
    (run : ∀ {ta : TA}, PA X [a, b, c] ta → PI X tg (.Call (.Name "range" p) [a, b, c] [] pos) (iRng3 ta)) : SI W vs Wx X tg (.Call (.Name "range" p) [a, b, c] [] pos) (evs [A, B, C]) rng3 := by
  refine pi_weak (run ha) fun σ H Q q => tI_args q fun us os ds H1 H01 La ro ex e k => ?_
  unfold rng3 at e
  split at e
  · rename_i i j c
    split at e
    · rename_i hb
      cases e
      cases ro with
      | cons h1 r =>
        cases h1 with
        | pure f1 =>
          cases f1
          have := r.int2
          subst this
          refine ⟨i, j, c, (Builtin.Range.rangeSize i j c).toNat, rfl, ⟨hb.1, hb.2.1, hb.2.2.1, ?_⟩, k _ feeds_range3⟩
          first | omega | (rw [Int.toNat_of_nonneg hb.2.2.2])
    · cases e
  · cases e
/-! ### names of the module, of types -/
theorem se_glob {x : Str} {pos : Pos} {d : D} (hg : Gl X x) (h : ∃ u v, X.mg x = some u ∧ RelV v u ∧ ∀ H, RepF W H v d) (hd : (x == ("__debug__" : Str)) = false := by decide) : SE W vs Wx X (.Name x pos) (cst d) := by
  obtain ⟨u, v, hm, r, f⟩ := h
  exact se_tC (pe_glob hg hm r hd) f
theorem se_tyn {x : Str} {T : String} {pos : Pos} (hg : Gl X x) (hm : X.mg x = none) (hv : bootBuiltins x = some (.type T)) (hn : x ≠ "__name__" := by decide) (hd : (x == ("__debug__" : Str)) = false := by decide) : SE W vs Wx X (.Name x pos) (cst (.ty T)) :=
  se_tC (pe_bltn (v := .ty T) hg hm hv rfl hn hd) fun _ => .ty T
end
end VI
namespace VI
open PySem PySem.Spec PyProof.Rows L2
/-! ## what the combinators are worth, step by step -/
section
variable {α β : Type}
theorem bind_ok (a : α) (g : G) (k : α → G → Res β) : (Res.ok a g).bind k = k a g := rfl
theorem bind_exc (x : D) (g : G) (k : α → G → Res β) : (Res.exc x g : Res α).bind k = .exc x g := rfl
theorem bind_stuck (k : α → G → Res β) : (Res.stuck : Res α).bind k = .stuck := rfl
end
theorem cst_a (d : D) (g : G) : cst d g = .ok (.val (.pure d)) g := rfl
def nmC (i : Nat) (g : G) : Option Slot → Res R
  | some (.par (.pure d)) => .ok (.val (.pure d)) g
  | some (.loc (.pure d)) => .ok (.val (.pure d)) g
  | some (.par .hole) => .stuck
  | some (.loc .hole) => .stuck
  | some (.par _) => .ok (.slot i) g
  | some (.loc _) => .ok (.slot i) g
  | _ => .stuck
theorem nm_a (i : Nat) (g : G) : nm i g = nmC i g g[i]? := by
  unfold nm nmC
  rcases g[i]? with _ | s
  · rfl
  · cases s with
    | un => rfl
    | par o => cases o <;> rfl
    | loc o => cases o <;> rfl
section
variable (i : Nat) (g : G) (d : D) (l : List D) (m : List (D × D)) (c : Str) (fs : List (Str × O))
theorem nm_pd : nmC i g (some (.par (.pure d))) = .ok (.val (.pure d)) g := rfl
theorem nm_ld : nmC i g (some (.loc (.pure d))) = .ok (.val (.pure d)) g := rfl
theorem nm_pl : nmC i g (some (.par (.lst l))) = .ok (.slot i) g := rfl
theorem nm_ll : nmC i g (some (.loc (.lst l))) = .ok (.slot i) g := rfl
theorem nm_pm : nmC i g (some (.par (.dic m))) = .ok (.slot i) g := rfl
theorem nm_lm : nmC i g (some (.loc (.dic m))) = .ok (.slot i) g := rfl
theorem nm_pi : nmC i g (some (.par (.ins c fs))) = .ok (.slot i) g := rfl
theorem nm_li : nmC i g (some (.loc (.ins c fs))) = .ok (.slot i) g := rfl
theorem ob_val (o : O) : ob g (.val o) = some o := rfl
theorem ob_slot : ob g (.slot i) = (g[i]?).bind Slot.obj := rfl
theorem obj_p (o : O) : Slot.obj (.par o) = some o := rfl
theorem obj_l (o : O) : Slot.obj (.loc o) = some o := rfl
def setC (i : Nat) (o : O) (g : G) : Option Slot → G
  | some sl => g.set i (sl.wth o)
  | none => g
theorem setO_a (o : O) : setO g i o = setC i o g g[i]? := rfl
theorem setC_p (o o' : O) : setC i o g (some (.par o')) = g.set i (.par o) := rfl
theorem setC_l (o o' : O) : setC i o g (some (.loc o')) = g.set i (.loc o) := rfl
/-! freezing -/
def frzB (d : D) : Option (List D × G) → Option (List D × G)
  | some (ds, g) => some (d :: ds, g)
  | none => none
def frzV (o : O) (rs : List R) (g : G) : Bool → Option (List D × G)
  | true => frzB o.er (frzs rs g)
  | false => none
def frzC (i : Nat) (rs : List R) (g : G) : Option O → Option (List D × G)
  | some o => frzV o rs (setO g i (.pure o.er)) o.full
  | none => none
theorem frzs_nil : frzs [] g = some ([], g) := rfl
theorem frzs_val (o : O) (rs : List R) : frzs (.val o :: rs) g = frzV o rs g o.full := by
  rw [frzs]; cases o.full <;> simp [frzV, frzB]
  cases frzs rs g <;> rfl
theorem frzs_slot (rs : List R) : frzs (.slot i :: rs) g = frzC i rs g (ob g (.slot i)) := by
  rw [frzs]
  cases ob g (.slot i) with
  | none => rfl
  | some o =>
    simp only [frzC]
    cases o.full <;> simp [frzV, frzB]
    cases frzs rs _ <;> rfl
theorem frzC_s (o : O) (rs : List R) : frzC i rs g (some o) = frzV o rs (setO g i (.pure o.er)) o.full := rfl
theorem frzV_t (o : O) (rs : List R) : frzV o rs g true = frzB o.er (frzs rs g) := rfl
theorem frzB_s (ds : List D) : frzB d (some (ds, g)) = some (d :: ds, g) := rfl
theorem full_p : (O.pure d).full = true := rfl
theorem full_l : (O.lst l).full = true := rfl
theorem full_m : (O.dic m).full = true := rfl
theorem full_i : (O.ins c fs).full = O.fullF fs := by simp [O.full]
theorem fullF_n : O.fullF [] = true := by simp [O.fullF]
theorem fullF_c (o : O) : O.fullF ((c, o) :: fs) = (o.full && O.fullF fs) := by simp [O.fullF]
theorem er_p : (O.pure d).er = d := by simp [O.er]
theorem er_l : (O.lst l).er = .lst l := by simp [O.er]
theorem er_m : (O.dic m).er = .dic m := by simp [O.er]
theorem er_i : (O.ins c fs).er = .ins c (O.erF fs) := by simp [O.er]
theorem erF_n : O.erF [] = [] := by simp [O.erF]
theorem erF_c (o : O) : O.erF ((c, o) :: fs) = (c, o.er) :: O.erF fs := by simp [O.erF]
/-! lists of values -/
def evC2 (r : R) (rs : List R) (g : G) : Res (List R) := .ok (r :: rs) g
def evC (as : List E) (r : R) (g : G) : Res (List R) := (evs as g).bind (evC2 r)
theorem evs_n : evs [] g = .ok [] g := rfl
theorem evs_c (a : E) (as : List E) : evs (a :: as) g = (a g).bind (evC as) := rfl
theorem evC_a (as : List E) (r : R) : evC as r g = (evs as g).bind (evC2 r) := rfl
theorem evC2_a (r : R) (rs : List R) : evC2 r rs g = .ok (r :: rs) g := rfl
def outE : Option O → G → Res R
  | some o, g => .ok (.val o) g
  | none, _ => .stuck
theorem outE_s (o : O) : outE (some o) g = .ok (.val o) g := rfl
/-! two-place, one-place -/
def binF (f : O → O → Option O) : Option O → Option O → G → Res R
  | some x, some y, g => outE (f x y) g
  | _, _, _ => .stuck
def binD (f : O → O → Option O) (r s : R) (g : G) : Res R := binF f (ob g r) (ob g s) g
def binC (f : O → O → Option O) (b : E) (r : R) (g : G) : Res R := (b g).bind (binD f r)
theorem bin_a (f : O → O → Option O) (a b : E) : bin f a b g = (a g).bind (binC f b) := by
  unfold bin
  congr 1
  funext r g1
  unfold binC
  congr 1
  funext s g2
  unfold binD
  cases ob g2 r <;> cases ob g2 s <;> try rfl
  rename_i x y
  simp only [binF]
  cases f x y <;> rfl
theorem binC_a (f : O → O → Option O) (b : E) (r : R) : binC f b r g = (b g).bind (binD f r) := rfl
theorem binD_a (f : O → O → Option O) (r s : R) : binD f r s g = binF f (ob g r) (ob g s) g := rfl
theorem binF_s (f : O → O → Option O) (x y : O) : binF f (some x) (some y) g = outE (f x y) g := rfl
def unaF (f : O → Option O) : Option O → G → Res R
  | some x, g => outE (f x) g
  | _, _ => .stuck
def unaD (f : O → Option O) (r : R) (g : G) : Res R := unaF f (ob g r) g
theorem una_a (f : O → Option O) (a : E) : una f a g = (a g).bind (unaD f) := by
  unfold una
  congr 1
  funext r g1
  unfold unaD
  cases ob g1 r <;> try rfl
  rename_i x
  simp only [unaF]
  cases f x <;> rfl
theorem unaD_a (f : O → Option O) (r : R) : unaD f r g = unaF f (ob g r) g := rfl
theorem unaF_s (f : O → Option O) (x : O) : unaF f (some x) g = outE (f x) g := rfl
/-! tuples, lists -/
def tupH (g : G) (ds : List D) : Bool → Res R
  | true => .ok (.val (.pure (.tup ds))) g
  | false => .stuck
def tupG : Option (List D × G) → Res R
  | some (ds, g) => tupH g ds (decide (ds.length ≤ 1000))
  | none => .stuck
def tupC (rs : List R) (g : G) : Res R := tupG (frzs rs g)
theorem tupE_a (A : G → Res (List R)) : tupE A g = (A g).bind tupC := by
  unfold tupE
  congr 1
  funext rs g1
  unfold tupC
  rcases frzs rs g1 with _ | ⟨ds, g2⟩
  · rfl
  · simp only [tupG]
    by_cases h : ds.length ≤ 1000 <;> simp [h, tupH]
theorem tupC_a (rs : List R) : tupC rs g = tupG (frzs rs g) := rfl
theorem tupG_s (ds : List D) : tupG (some (ds, g)) = tupH g ds (decide (ds.length ≤ 1000)) := rfl
theorem tupH_t (ds : List D) : tupH g ds true = .ok (.val (.pure (.tup ds))) g := rfl
def lstH (g : G) (ds : List D) : Bool → Res R
  | true => .ok (.val (.lst ds)) g
  | false => .stuck
def lstG : Option (List D × G) → Res R
  | some (ds, g) => lstH g ds (decide (ds.length ≤ 1000))
  | none => .stuck
def lstC (rs : List R) (g : G) : Res R := lstG (frzs rs g)
theorem lstE_a (A : G → Res (List R)) : lstE A g = (A g).bind lstC := by
  unfold lstE
  congr 1
  funext rs g1
  unfold lstC
  rcases frzs rs g1 with _ | ⟨ds, g2⟩
  · rfl
  · simp only [lstG]
    by_cases h : ds.length ≤ 1000 <;> simp [h, lstH]
theorem lstC_a (rs : List R) : lstC rs g = lstG (frzs rs g) := rfl
theorem lstG_s (ds : List D) : lstG (some (ds, g)) = lstH g ds (decide (ds.length ≤ 1000)) := rfl
theorem lstH_t (ds : List D) : lstH g ds true = .ok (.val (.lst ds)) g := rfl
/-! calls -/
def takB (o : O) : Option (List O × G) → Option (List O × G)
  | some (os, g) => some (o :: os, g)
  | none => none
def takC (i : Nat) (rs : List R) (g : G) : Option O → Option (List O × G)
  | some .hole => none
  | some o => takB o (takes rs (setO g i .hole))
  | none => none
theorem takes_n : takes [] g = some ([], g) := rfl
theorem takes_v (o : O) (rs : List R) : takes (.val o :: rs) g = takB o (takes rs g) := by
  rw [takes]; cases takes rs g <;> rfl
theorem takes_s (rs : List R) : takes (.slot i :: rs) g = takC i rs g (ob g (.slot i)) := by
  rw [takes]
  cases ob g (.slot i) with
  | none => rfl
  | some o => cases o <;> first | rfl | (simp only [takC, takB]; cases takes rs (setO g i .hole) <;> rfl)
theorem takC_p (rs : List R) : takC i rs g (some (.pure d)) = takB (.pure d) (takes rs (setO g i .hole)) := rfl
theorem takC_l (rs : List R) : takC i rs g (some (.lst l)) = takB (.lst l) (takes rs (setO g i .hole)) := rfl
theorem takC_m (rs : List R) : takC i rs g (some (.dic m)) = takB (.dic m) (takes rs (setO g i .hole)) := rfl
theorem takC_i (rs : List R) : takC i rs g (some (.ins c fs)) = takB (.ins c fs) (takes rs (setO g i .hole)) := rfl
theorem takB_s (o : O) (os : List O) : takB o (some (os, g)) = some (o :: os, g) := rfl
theorem puts_n : puts [] [] g = g := rfl
theorem puts_v (o o' : O) (rs : List R) (os : List O) : puts (.val o :: rs) (o' :: os) g = puts rs os g := rfl
theorem puts_s (o : O) (rs : List R) (os : List O) : puts (.slot i :: rs) (o :: os) g = puts rs os (setO g i o) := rfl
def callD (rs : List R) (g : G) : CRes → Res R
  | .ok o os => .ok (.val o) (puts rs os g)
  | .exc x os => .exc x (puts rs os g)
  | .stuck => .stuck
def callC (C : Callee) (f : Nat) (rs : List R) : Option (List O × G) → Res R
  | some (os, g) => callD rs g (C f os)
  | none => .stuck
theorem callA_a (C : Callee) (f : Nat) (As : List E) : callA C f As g = (evs As g).bind (callR C f) := rfl
theorem callR_a (C : Callee) (f : Nat) (rs : List R) : callR C f rs g = callC C f rs (takes rs g) := by
  unfold callR
  rcases takes rs g with _ | ⟨os, g2⟩
  · rfl
  · simp only [callC]
    cases C f os <;> rfl
theorem callC_s (C : Callee) (f : Nat) (rs : List R) (os : List O) : callC C f rs (some (os, g)) = callD rs g (C f os) := rfl
theorem callD_o (rs : List R) (o : O) (os : List O) : callD rs g (.ok o os) = .ok (.val o) (puts rs os g) := rfl
theorem callD_x (rs : List R) (x : D) (os : List O) : callD rs g (.exc x os) = .exc x (puts rs os g) := rfl
/-! built-ins -/
def obsB (o : Option O) : Option (List O) → Option (List O)
  | some os => o.map fun o => o :: os
  | none => none
def obsL (g : G) : List R → Option (List O)
  | [] => some []
  | r :: rs => obsB (ob g r) (obsL g rs)
theorem obsL_eq : ∀ rs : List R, rs.mapM (ob g) = obsL g rs
  | [] => rfl
  | r :: rs => by
    simp only [List.mapM_cons, obsL, obsL_eq rs]
    cases ob g r <;> cases obsL g rs <;> rfl
theorem obsL_n : obsL g [] = some [] := rfl
theorem obsL_c (r : R) (rs : List R) : obsL g (r :: rs) = obsB (ob g r) (obsL g rs) := rfl
theorem obsB_s (o : O) (os : List O) : obsB (some o) (some os) = some (o :: os) := rfl
def bltC (f : List O → Option O) : Option (List O) → G → Res R
  | some os, g => outE (f os) g
  | none, _ => .stuck
theorem bltE_a (f : List O → Option O) (As : List E) : bltE f As g = (evs As g).bind (bltR f) := rfl
theorem bltR_a (f : List O → Option O) (rs : List R) : bltR f rs g = bltC f (obsL g rs) g := by
  unfold bltR
  rw [obsL_eq]
  cases obsL g rs with
  | none => rfl
  | some os => simp only [bltC]; cases f os <;> rfl
theorem bltC_s (f : List O → Option O) (os : List O) : bltC f (some os) g = outE (f os) g := rfl
def bmD (f : List O → Option O) (r : R) (rs : List R) (g : G) : Res R := bltR f (r :: rs) g
def bmC (ty : String) (f : List O → Option O) (As : List E) (r : R) (g : G) : Res R := if (ob g r).bind tyO = some ty then (evs As g).bind (bmD f r) else .stuck
theorem bmE_a (ty : String) (f : List O → Option O) (A : E) (As : List E) : bmE ty f A As g = (A g).bind (bmC ty f As) := by
  unfold bmE
  congr 1
  funext r g1
  unfold bmC
  cases (ob g1 r).bind tyO with
  | none => simp
  | some t => by_cases h : t = ty <;> simp [h] <;> rfl
theorem bmC_a (ty : String) (f : List O → Option O) (As : List E) (r : R) : bmC ty f As r g = if (ob g r).bind tyO = some ty then (evs As g).bind (bmD f r) else .stuck := rfl
theorem bmD_a (f : List O → Option O) (r : R) (rs : List R) : bmD f r rs g = bltR f (r :: rs) g := rfl
theorem ty_s (s : Str) : tyO (.pure (.str s)) = some "str" := rfl
theorem ty_t : tyO (.pure (.tup l)) = some "tuple" := rfl
theorem ty_n (j : Int) : tyO (.pure (.int j)) = some "int" := rfl
theorem ty_b (b : Bool) : tyO (.pure (.bl b)) = some "bool" := rfl
theorem ty_0 : tyO (.pure .non) = some "NoneType" := rfl
theorem ty_pl : tyO (.pure (.lst l)) = some "list" := rfl
theorem ty_l : tyO (.lst l) = some "list" := rfl
theorem ty_pm : tyO (.pure (.dic m)) = some "dict" := rfl
theorem ty_m : tyO (.dic m) = some "dict" := rfl
/-! methods that change -/
def mutI (r : R) : Option (O × D) → G → Res R
  | some (o', d), g => .ok (.val (.pure d)) (putR g r o')
  | none, _ => .stuck
def mutH (f : O → List D → Option (O × D)) (r : R) (ds : List D) (g : G) : Option O → Res R
  | some o => mutI r (f o ds) g
  | none => .stuck
def mutG (f : O → List D → Option (O × D)) (r : R) : Option (List D × G) → Res R
  | some (ds, g) => mutH f r ds g (ob g r)
  | none => .stuck
def mutD (f : O → List D → Option (O × D)) (r : R) (rs : List R) (g : G) : Res R := mutG f r (frzs rs g)
def mutC (ty : String) (f : O → List D → Option (O × D)) (As : List E) (r : R) (g : G) : Res R := if (ob g r).bind tyO = some ty then (evs As g).bind (mutD f r) else .stuck
theorem mutE_a (ty : String) (f : O → List D → Option (O × D)) (A : E) (As : List E) : mutE ty f A As g = (A g).bind (mutC ty f As) := by
  unfold mutE
  congr 1
  funext r g1
  unfold mutC
  cases (ob g1 r).bind tyO with
  | none => simp
  | some t =>
    by_cases h : t = ty
    · simp only [h, if_true]
      congr 1
      funext rs g2
      unfold mutD
      rcases frzs rs g2 with _ | ⟨ds, g3⟩
      · rfl
      · simp only [mutG]
        cases ob g3 r with
        | none => rfl
        | some o =>
          simp only [mutH]
          rcases f o ds with _ | ⟨o', d⟩ <;> rfl
    · simp [h]
theorem mutC_a (ty : String) (f : O → List D → Option (O × D)) (As : List E) (r : R) : mutC ty f As r g = if (ob g r).bind tyO = some ty then (evs As g).bind (mutD f r) else .stuck := rfl
theorem mutD_a (f : O → List D → Option (O × D)) (r : R) (rs : List R) : mutD f r rs g = mutG f r (frzs rs g) := rfl
theorem mutG_s (f : O → List D → Option (O × D)) (r : R) (ds : List D) : mutG f r (some (ds, g)) = mutH f r ds g (ob g r) := rfl
theorem mutH_s (f : O → List D → Option (O × D)) (r : R) (ds : List D) (o : O) : mutH f r ds g (some o) = mutI r (f o ds) g := rfl
theorem mutI_s (r : R) (o : O) : mutI r (some (o, d)) g = .ok (.val (.pure d)) (putR g r o) := rfl
theorem putR_s (o : O) : putR g (.slot i) o = setO g i o := rfl
theorem putR_v (o o' : O) : putR g (.val o) o' = g := rfl
theorem app_a (h : l.length < 16777216) : appO (.lst l) [d] = some (.lst (l ++ [d]), .non) := by simp [appO, h]
/-! o[i] = v -/
def stI (r : R) : Option O → G → Res Fl
  | some o, g => .ok .next (putR g r o)
  | none, _ => .stuck
def stH (r : R) (di dv : D) (g : G) : Option O → Res Fl
  | some o => stI r (stO o di dv) g
  | none => .stuck
def stG (r : R) : Option (List D × G) → Res Fl
  | some ([dv, di], g) => stH r di dv g (ob g r)
  | _ => .stuck
def stD (rv r ri : R) (g : G) : Res Fl := stG r (frzs [rv, ri] g)
def stC2 (Ai : E) (rv r : R) (g : G) : Res Fl := (Ai g).bind (stD rv r)
def stC (Ao Ai : E) (rv : R) (g : G) : Res Fl := (Ao g).bind (stC2 Ai rv)
theorem stS_a (Ao Ai Av : E) : stS Ao Ai Av g = (Av g).bind (stC Ao Ai) := by
  unfold stS
  congr 1
  funext rv g1
  unfold stC
  congr 1
  funext r g2
  unfold stC2
  congr 1
  funext ri g3
  unfold stD
  rcases frzs [rv, ri] g3 with _ | ⟨ds, g4⟩
  · rfl
  · rcases ds with _ | ⟨a, _ | ⟨b, _ | _⟩⟩ <;> try rfl
    simp only [stG]
    cases ob g4 r with
    | none => rfl
    | some o => simp only [stH]; cases stO o b a <;> rfl
theorem stC_a (Ao Ai : E) (rv : R) : stC Ao Ai rv g = (Ao g).bind (stC2 Ai rv) := rfl
theorem stC2_a (Ai : E) (rv r : R) : stC2 Ai rv r g = (Ai g).bind (stD rv r) := rfl
theorem stD_a (rv r ri : R) : stD rv r ri g = stG r (frzs [rv, ri] g) := rfl
theorem stG_s (r : R) (dv di : D) : stG r (some ([dv, di], g)) = stH r di dv g (ob g r) := rfl
theorem stH_s (r : R) (di dv : D) (o : O) : stH r di dv g (some o) = stI r (stO o di dv) g := rfl
theorem stI_s (r : R) (o : O) : stI r (some o) g = .ok .next (putR g r o) := rfl
/-! slices -/
def intC : R → G → Res (Option Int)
  | .val (.pure (.int i)), g => .ok (some i) g
  | _, _ => .stuck
theorem noE_a : noE g = .ok none g := rfl
theorem intE_a (A : E) : intE A g = (A g).bind intC := by
  unfold intE; congr 1; funext r g1; rcases r with o | _
  · cases o with
    | pure d => cases d <;> rfl
    | _ => rfl
  · rfl
theorem intC_s (j : Int) : intC (.val (.pure (.int j))) g = .ok (some j) g := rfl
def slI (lo hi : Option Int) : Option O → G → Res R
  | some x, g => outE (slO lo hi x) g
  | none, _ => .stuck
def slD (r : R) (lo hi : Option Int) (g : G) : Res R := slI lo hi (ob g r) g
def slC2 (hi : EO) (r : R) (lo : Option Int) (g : G) : Res R := (hi g).bind (slD r lo)
def slC (lo hi : EO) (r : R) (g : G) : Res R := (lo g).bind (slC2 hi r)
theorem slE_a (A : E) (lo hi : EO) : slE A lo hi g = (A g).bind (slC lo hi) := by
  unfold slE
  congr 1
  funext r g1
  unfold slC
  congr 1
  funext l g2
  unfold slC2
  congr 1
  funext h g3
  unfold slD
  cases ob g3 r with
  | none => rfl
  | some x => simp only [slI]; cases slO l h x <;> rfl
theorem slC_a (lo hi : EO) (r : R) : slC lo hi r g = (lo g).bind (slC2 hi r) := rfl
theorem slC2_a (hi : EO) (r : R) (lo : Option Int) : slC2 hi r lo g = (hi g).bind (slD r lo) := rfl
theorem slD_a (r : R) (lo hi : Option Int) : slD r lo hi g = slI lo hi (ob g r) g := rfl
theorem slI_s (lo hi : Option Int) (x : O) : slI lo hi (some x) g = outE (slO lo hi x) g := rfl
theorem slO_l (lo hi : Option Int) : slO lo hi (.lst l) = some (.lst (cutL l lo hi)) := rfl
theorem slO_pl (lo hi : Option Int) : slO lo hi (.pure (.lst l)) = some (.lst (cutL l lo hi)) := rfl
theorem slO_t (lo hi : Option Int) : slO lo hi (.pure (.tup l)) = some (.pure (.tup (cutL l lo hi))) := rfl
theorem slO_s (lo hi : Option Int) (s : Str) (h : s.length ≤ 16777216) : slO lo hi (.pure (.str s)) = some (.pure (.str ⟨(cutL s.cps.toList lo hi).toArray⟩)) := by simp [slO, h]
theorem revO_l : revO (.lst l) = some (.lst l.reverse) := rfl
theorem revO_p : revO (.pure (.lst l)) = some (.lst l.reverse) := rfl
/-! tests -/
def truD : Option Bool → G → Res Bool
  | some b, g => .ok b g
  | none, _ => .stuck
def truC (r : R) (g : G) : Res Bool := truD ((ob g r).bind truO) g
theorem truT_a (A : E) : truT A g = (A g).bind truC := by
  unfold truT
  congr 1
  funext r g1
  unfold truC
  cases (ob g1 r).bind truO <;> rfl
theorem truC_a (r : R) : truC r g = truD ((ob g r).bind truO) g := rfl
theorem truD_s (b : Bool) : truD (some b) g = .ok b g := rfl
theorem tru_b (b : Bool) : truO (.pure (.bl b)) = some b := rfl
theorem tru_i (j : Int) : truO (.pure (.int j)) = some (j != 0) := rfl
theorem tru_n : truO (.pure .non) = some false := rfl
theorem tru_l : truO (.lst l) = some (!l.isEmpty) := rfl
theorem tru_pl : truO (.pure (.lst l)) = some (!l.isEmpty) := rfl
theorem tru_t : truO (.pure (.tup l)) = some (!l.isEmpty) := rfl
def blC : R → G → Res Bool
  | .val (.pure (.bl b)), g => .ok b g
  | _, _ => .stuck
theorem blT_a (A : E) : blT A g = (A g).bind blC := by
  unfold blT; congr 1; funext r g1; rcases r with o | _
  · cases o with
    | pure d => cases d <;> rfl
    | _ => rfl
  · rfl
theorem blC_s (b : Bool) : blC (.val (.pure (.bl b))) g = .ok b g := rfl
def andC (b : G → Res Bool) : Bool → G → Res Bool
  | true, g => b g
  | false, g => .ok false g
def orC (b : G → Res Bool) : Bool → G → Res Bool
  | true, g => .ok true g
  | false, g => b g
def notC (c : Bool) (g : G) : Res Bool := .ok (!c) g
theorem andT_a (a b : G → Res Bool) : andT a b g = (a g).bind (andC b) := by
  unfold andT; congr 1; funext c g1; cases c <;> rfl
theorem orT_a (a b : G → Res Bool) : orT a b g = (a g).bind (orC b) := by
  unfold orT; congr 1; funext c g1; cases c <;> rfl
theorem notT_a (a : G → Res Bool) : notT a g = (a g).bind notC := rfl
theorem andC_t (b : G → Res Bool) : andC b true g = b g := rfl
theorem andC_f (b : G → Res Bool) : andC b false g = .ok false g := rfl
theorem orC_t (b : G → Res Bool) : orC b true g = .ok true g := rfl
theorem orC_f (b : G → Res Bool) : orC b false g = b g := rfl
theorem notC_a (c : Bool) : notC c g = .ok (!c) g := rfl
def bl1 (c : Bool) (g : G) : Res R := .ok (.val (.pure (.bl c))) g
def andEC (b : E) : Bool → G → Res R
  | true, g => (blT b g).bind bl1
  | false, g => .ok (.val (.pure (.bl false))) g
def orEC (b : E) : Bool → G → Res R
  | true, g => .ok (.val (.pure (.bl true))) g
  | false, g => (blT b g).bind bl1
def notEC (c : Bool) (g : G) : Res R := .ok (.val (.pure (.bl (!c)))) g
theorem bl1_a (c : Bool) : bl1 c g = .ok (.val (.pure (.bl c))) g := rfl
theorem andE_a (a b : E) : andE a b g = (blT a g).bind (andEC b) := by
  unfold andE; congr 1; funext c g1; cases c <;> rfl
theorem orE_a (a b : E) : orE a b g = (blT a g).bind (orEC b) := by
  unfold orE; congr 1; funext c g1; cases c <;> rfl
theorem notE_a (a : E) : notE a g = (blT a g).bind notEC := rfl
theorem andEC_t (b : E) : andEC b true g = (blT b g).bind bl1 := rfl
theorem andEC_f (b : E) : andEC b false g = .ok (.val (.pure (.bl false))) g := rfl
theorem orEC_t (b : E) : orEC b true g = .ok (.val (.pure (.bl true))) g := rfl
theorem orEC_f (b : E) : orEC b false g = (blT b g).bind bl1 := rfl
theorem notEC_a (c : Bool) : notEC c g = .ok (.val (.pure (.bl (!c)))) g := rfl
def ifEC (a b : E) : Bool → G → Res R
  | true, g => a g
  | false, g => b g
theorem ifE_a (t : G → Res Bool) (a b : E) : ifE t a b g = (t g).bind (ifEC a b) := by
  unfold ifE; congr 1; funext c g1; cases c <;> rfl
theorem ifEC_t (a b : E) : ifEC a b true g = a g := rfl
theorem ifEC_f (a b : E) : ifEC a b false g = b g := rfl
/-! statements -/
def seqC (b : S) : Fl → G → Res Fl
  | .next, g => b g
  | f, g => .ok f g
theorem seqS_a (a b : S) : seqS a b g = (a g).bind (seqC b) := by
  unfold seqS; congr 1; funext f g1; cases f <;> rfl
theorem seqC_n (b : S) : seqC b .next g = b g := rfl
theorem seqC_r (b : S) (o : O) : seqC b (.ret o) g = .ok (.ret o) g := rfl
theorem seqC_b (b : S) : seqC b .brk g = .ok .brk g := rfl
theorem seqC_c (b : S) : seqC b .cont g = .ok .cont g := rfl
theorem nextS_a : nextS g = .ok .next g := rfl
def drpC (_ : R) (g : G) : Res Fl := .ok .next g
theorem dropS_a (A : E) : dropS A g = (A g).bind drpC := rfl
theorem drpC_a (r : R) : drpC r g = .ok .next g := rfl
def ifC (a b : S) : Bool → G → Res Fl
  | true, g => a g
  | false, g => b g
theorem ifS_a (t : G → Res Bool) (a b : S) : ifS t a b g = (t g).bind (ifC a b) := by
  unfold ifS; congr 1; funext c g1; cases c <;> rfl
theorem ifC_t (a b : S) : ifC a b true g = a g := rfl
theorem ifC_f (a b : S) : ifC a b false g = b g := rfl
def retF : Option (List D × G) → Res Fl
  | some ([d], g) => .ok (.ret (.pure d)) g
  | _ => .stuck
def retC (i : Nat) (g : G) : Option Slot → Res Fl
  | some (.loc o) => .ok (.ret o) (g.set i (.loc .hole))
  | _ => retF (frzs [.slot i] g)
theorem retS_a (A : E) : retS A g = (A g).bind retR := rfl
theorem retR_v (o : O) : retR (.val o) g = .ok (.ret o) g := rfl
theorem retR_s : retR (.slot i) g = retC i g g[i]? := by
  unfold retR retC
  simp only
  rcases g[i]? with _ | s
  · rcases frzs [.slot i] g with _ | ⟨_ | ⟨_, _ | _⟩, _⟩ <;> rfl
  · cases s <;> first | rfl | (rcases frzs [.slot i] g with _ | ⟨_ | ⟨_, _ | _⟩, _⟩ <;> rfl)
theorem retC_l (o : O) : retC i g (some (.loc o)) = .ok (.ret o) (g.set i (.loc .hole)) := rfl
theorem retC_p (o : O) : retC i g (some (.par o)) = retF (frzs [.slot i] g) := rfl
theorem retF_s : retF (some ([d], g)) = .ok (.ret (.pure d)) g := rfl
def stoC (i : Nat) (o : O) (g : G) : Option Slot → Option G
  | some .un => some (g.set i (.loc o))
  | some (.par (.pure _)) => some (g.set i (.loc o))
  | some (.loc _) => some (g.set i (.loc o))
  | _ => none
theorem storeS_a (o : O) : storeS i o g = stoC i o g g[i]? := by
  unfold storeS stoC
  rcases g[i]? with _ | s
  · rfl
  · cases s with
    | un => rfl
    | par o => cases o <;> rfl
    | loc o => cases o <;> rfl
theorem stoC_u (o : O) : stoC i o g (some .un) = some (g.set i (.loc o)) := rfl
theorem stoC_pd (o : O) : stoC i o g (some (.par (.pure d))) = some (g.set i (.loc o)) := rfl
theorem stoC_lh (o : O) : stoC i o g (some (.loc .hole)) = some (g.set i (.loc o)) := rfl
theorem stoC_ld (o : O) : stoC i o g (some (.loc (.pure d))) = some (g.set i (.loc o)) := rfl
theorem stoC_ll (o : O) : stoC i o g (some (.loc (.lst l))) = some (g.set i (.loc o)) := rfl
theorem stoC_lm (o : O) : stoC i o g (some (.loc (.dic m))) = some (g.set i (.loc o)) := rfl
theorem stoC_li (o : O) : stoC i o g (some (.loc (.ins c fs))) = some (g.set i (.loc o)) := rfl
def asgB : Option G → Res Fl
  | some g => .ok .next g
  | none => .stuck
def asgF (i : Nat) : Option (List D × G) → Res Fl
  | some ([d], g) => asgB (storeS i (.pure d) g)
  | _ => .stuck
theorem asgS_a (A : E) : asgS i A g = (A g).bind (asgR i) := rfl
theorem asgR_v (o : O) : asgR i (.val o) g = asgB (storeS i o g) := by
  unfold asgR; simp only; cases storeS i o g <;> rfl
theorem asgR_s (j : Nat) : asgR i (.slot j) g = asgF i (frzs [.slot j] g) := by
  unfold asgR; simp only
  rcases frzs [.slot j] g with _ | ⟨_ | ⟨a, _ | _⟩, g2⟩ <;> rfl
theorem asgB_s : asgB (some g) = .ok .next g := rfl
theorem asgF_s : asgF i (some ([d], g)) = asgB (storeS i (.pure d) g) := rfl
theorem nmT_a : nmT i d g = storeS i (.pure d) g := rfl
theorem tupT_a (ts : List T) : tupT ts (.tup l) g = foldT l ts g := rfl
def folC (ds : List D) (ts : List T) : Option G → Option G
  | some g => foldT ds ts g
  | none => none
theorem foldT_c (ds : List D) (t : T) (ts : List T) : foldT (d :: ds) (t :: ts) g = folC ds ts (t d g) := by
  rw [foldT]; cases t d g <;> rfl
theorem folC_s (ds : List D) (ts : List T) : folC ds ts (some g) = foldT ds ts g := rfl
theorem foldT_n : foldT [] [] g = some g := rfl
def setD (t : T) : Option (List D × G) → Res Fl
  | some ([d], g) => asgB (t d g)
  | _ => .stuck
def setSC (t : T) (r : R) (g : G) : Res Fl := setD t (frzs [r] g)
theorem setS_a (t : T) (A : E) : setS t A g = (A g).bind (setSC t) := by
  unfold setS
  congr 1
theorem setSC_a (t : T) (r : R) : setSC t r g = setD t (frzs [r] g) := rfl
theorem setD_s (t : T) : setD t (some ([d], g)) = asgB (t d g) := rfl
/-! loops -/
def forF (t : T) (body : S) (rs : List R) (os : List O) (g : G) : Option (List D) → Res Fl
  | some ds => forR t body rs os ds g
  | none => .stuck
def forD (items : List O → Option (List D)) (t : T) (body : S) (rs : List R) : Option (List O × G) → Res Fl
  | some (os, g) => forF t body rs os g (items os)
  | none => .stuck
def forC (items : List O → Option (List D)) (t : T) (body : S) (rs : List R) (g : G) : Res Fl := forD items t body rs (takes rs g)
theorem forS_a (A : G → Res (List R)) (items : List O → Option (List D)) (t : T) (body : S) : forS A items t body g = (A g).bind (forC items t body) := by
  unfold forS
  congr 1
theorem forC_a (items : List O → Option (List D)) (t : T) (body : S) (rs : List R) : forC items t body rs g = forD items t body rs (takes rs g) := rfl
theorem forD_s (items : List O → Option (List D)) (t : T) (body : S) (rs : List R) (os : List O) : forD items t body rs (some (os, g)) = forF t body rs os g (items os) := rfl
theorem forF_s (t : T) (body : S) (rs : List R) (os : List O) (ds : List D) : forF t body rs os g (some ds) = forR t body rs os ds g := rfl
def lokC (rs : List R) (os : List O) (g g' : G) : Option G := if rs.all (isPar g') then some (puts rs os (unlkG g g')) else none
def forQ (t : T) (body : S) (rs : List R) (os : List O) (ds : List D) (g : G) : Bool → Res Fl
  | true => (loopS t body ds (lockG g)).mapG (lokC rs os g)
  | false => loopS t body ds g
theorem forR_a (t : T) (body : S) (rs : List R) (os : List O) (ds : List D) : forR t body rs os ds g = forQ t body rs os ds g (hasSlot rs) := by
  unfold forR; cases hasSlot rs <;> rfl
theorem forQ_f (t : T) (body : S) (rs : List R) (os : List O) (ds : List D) : forQ t body rs os ds g false = loopS t body ds g := rfl
theorem forQ_t (t : T) (body : S) (rs : List R) (os : List O) (ds : List D) : forQ t body rs os ds g true = (loopS t body ds (lockG g)).mapG (lokC rs os g) := rfl
theorem has_n : hasSlot [] = false := rfl
theorem has_s (rs : List R) : hasSlot (.slot i :: rs) = true := rfl
theorem has_v (o : O) (rs : List R) : hasSlot (.val o :: rs) = hasSlot rs := rfl
def mapD {α : Type} (a : α) : Option G → Res α
  | some g => .ok a g
  | none => .stuck
theorem mapG_o {α : Type} (f : G → Option G) (a : α) : (Res.ok a g).mapG f = mapD a (f g) := by
  simp only [Res.mapG]; cases f g <;> rfl
theorem mapD_s {α : Type} (a : α) : mapD a (some g) = .ok a g := rfl
theorem lokC_a (rs : List R) (os : List O) (g' : G) : lokC rs os g g' = if rs.all (isPar g') then some (puts rs os (unlkG g g')) else none := rfl
def lopC (t : T) (body : S) (ds : List D) : Fl → G → Res Fl
  | .next, g => loopS t body ds g
  | .cont, g => loopS t body ds g
  | .brk, g => .ok .next g
  | .ret o, g => .ok (.ret o) g
def lopD (t : T) (body : S) (ds : List D) : Option G → Res Fl
  | some g => (body g).bind (lopC t body ds)
  | none => .stuck
theorem loop_n (t : T) (body : S) : loopS t body [] g = .ok .next g := rfl
theorem loop_c (t : T) (body : S) (ds : List D) : loopS t body (d :: ds) g = lopD t body ds (t d g) := by
  rw [loopS]
  cases t d g with
  | none => rfl
  | some g1 => simp only [lopD]; congr 1; funext f g2; cases f <;> rfl
theorem lopD_s (t : T) (body : S) (ds : List D) : lopD t body ds (some g) = (body g).bind (lopC t body ds) := rfl
theorem lopC_n (t : T) (body : S) (ds : List D) : lopC t body ds .next g = loopS t body ds g := rfl
theorem lopC_c (t : T) (body : S) (ds : List D) : lopC t body ds .cont g = loopS t body ds g := rfl
theorem lopC_b (t : T) (body : S) (ds : List D) : lopC t body ds .brk g = .ok .next g := rfl
theorem lopC_r (t : T) (body : S) (ds : List D) (o : O) : lopC t body ds (.ret o) g = .ok (.ret o) g := rfl
/-! comprehensions -/
def cmpW (rs : List R) (os : List O) (own : List Nat) (g : G) : Option (List D × G) → Res R
  | some (acc, g3) => .ok (.val (.lst acc)) (puts rs os (restG own g g3))
  | none => .stuck
def cmpV (own : List Nat) (t : T) (cond : G → Res Bool) (elt : E) (rs : List R) (os : List O) (g : G) (ds : List D) : Bool → Res R
  | true => cmpW rs os own g (compL own t cond elt ds g [])
  | false => .stuck
def isSl (i : Nat) : R → Bool
  | .slot j => j == i
  | _ => false
def freeR (own : List Nat) (rs : List R) : Bool := own.all fun i => !rs.any (isSl i)
def cmpF (own : List Nat) (t : T) (cond : G → Res Bool) (elt : E) (rs : List R) (os : List O) (g : G) : Option (List D) → Res R
  | some ds => cmpV own t cond elt rs os g ds (own.all (isPure g) && freeR own rs)
  | none => .stuck
def cmpD (items : List O → Option (List D)) (own : List Nat) (t : T) (cond : G → Res Bool) (elt : E) (rs : List R) : Option (List O × G) → Res R
  | some (os, g) => cmpF own t cond elt rs os g (items os)
  | none => .stuck
def cmpC (items : List O → Option (List D)) (own : List Nat) (t : T) (cond : G → Res Bool) (elt : E) (rs : List R) (g : G) : Res R := cmpD items own t cond elt rs (takes rs g)
theorem compE_a (A : G → Res (List R)) (items : List O → Option (List D)) (own : List Nat) (t : T) (cond : G → Res Bool) (elt : E) : compE A items own t cond elt g = (A g).bind (cmpC items own t cond elt) := by
  unfold compE
  congr 1
  funext rs g1
  unfold cmpC
  rcases takes rs g1 with _ | ⟨os, g2⟩
  · rfl
  · simp only [cmpD]
    cases items os with
    | none => rfl
    | some ds =>
      simp only [cmpF]
      show (if (own.all (isPure g2) && freeR own rs) = true then _ else _) = _
      cases h : (own.all (isPure g2) && freeR own rs)
      · simp [cmpV]
      · simp only [if_true, cmpV]
        rcases compL own t cond elt ds g2 [] with _ | ⟨a, b⟩ <;> rfl
theorem cmpC_a (items : List O → Option (List D)) (own : List Nat) (t : T) (cond : G → Res Bool) (elt : E) (rs : List R) : cmpC items own t cond elt rs g = cmpD items own t cond elt rs (takes rs g) := rfl
theorem cmpD_s (items : List O → Option (List D)) (own : List Nat) (t : T) (cond : G → Res Bool) (elt : E) (rs : List R) (os : List O) : cmpD items own t cond elt rs (some (os, g)) = cmpF own t cond elt rs os g (items os) := rfl
theorem cmpF_s (own : List Nat) (t : T) (cond : G → Res Bool) (elt : E) (rs : List R) (os : List O) (ds : List D) : cmpF own t cond elt rs os g (some ds) = cmpV own t cond elt rs os g ds (own.all (isPure g) && freeR own rs) := rfl
theorem cmpV_t (own : List Nat) (t : T) (cond : G → Res Bool) (elt : E) (rs : List R) (os : List O) (ds : List D) : cmpV own t cond elt rs os g ds true = cmpW rs os own g (compL own t cond elt ds g []) := rfl
theorem cmpW_s (rs : List R) (os : List O) (own : List Nat) (acc : List D) (g3 : G) : cmpW rs os own g (some (acc, g3)) = .ok (.val (.lst acc)) (puts rs os (restG own g g3)) := rfl
def cplY (own : List Nat) (t : T) (cond : G → Res Bool) (elt : E) (ds acc : List D) : Option (List D × G) → Option (List D × G)
  | some ([y], g) => if acc.length < 16777216 ∧ own.all (isPure g) then compL own t cond elt ds g (acc ++ [y]) else none
  | _ => none
def cplX (own : List Nat) (t : T) (cond : G → Res Bool) (elt : E) (ds acc : List D) : Res R → Option (List D × G)
  | .ok r g => cplY own t cond elt ds acc (frzs [r] g)
  | _ => none
def cplC (own : List Nat) (t : T) (cond : G → Res Bool) (elt : E) (ds acc : List D) : Res Bool → Option (List D × G)
  | .ok true g => cplX own t cond elt ds acc (elt g)
  | .ok false g => if own.all (isPure g) then compL own t cond elt ds g acc else none
  | _ => none
def cplT (own : List Nat) (t : T) (cond : G → Res Bool) (elt : E) (ds acc : List D) : Option G → Option (List D × G)
  | some g => cplC own t cond elt ds acc (cond g)
  | none => none
theorem compL_n (own : List Nat) (t : T) (cond : G → Res Bool) (elt : E) (acc : List D) : compL own t cond elt [] g acc = some (acc, g) := rfl
theorem compL_c (own : List Nat) (t : T) (cond : G → Res Bool) (elt : E) (ds acc : List D) : compL own t cond elt (d :: ds) g acc = cplT own t cond elt ds acc (t d (wipeG own g)) := by
  rw [compL]
  cases t d (wipeG own g) with
  | none => rfl
  | some g1 =>
    simp only [cplT]
    cases cond g1 with
    | ok b g2 =>
      cases b with
      | false => rfl
      | true =>
        simp only [cplC]
        cases elt g2 with
        | ok r g3 =>
          simp only [cplX]
          rcases frzs [r] g3 with _ | ⟨_ | ⟨a, _ | _⟩, g4⟩ <;> rfl
        | _ => rfl
    | _ => rfl
theorem cplT_s (own : List Nat) (t : T) (cond : G → Res Bool) (elt : E) (ds acc : List D) : cplT own t cond elt ds acc (some g) = cplC own t cond elt ds acc (cond g) := rfl
theorem cplC_t (own : List Nat) (t : T) (cond : G → Res Bool) (elt : E) (ds acc : List D) : cplC own t cond elt ds acc (.ok true g) = cplX own t cond elt ds acc (elt g) := rfl
theorem cplC_f (own : List Nat) (t : T) (cond : G → Res Bool) (elt : E) (ds acc : List D) : cplC own t cond elt ds acc (.ok false g) = if own.all (isPure g) then compL own t cond elt ds g acc else none := rfl
theorem cplX_o (own : List Nat) (t : T) (cond : G → Res Bool) (elt : E) (ds acc : List D) (r : R) : cplX own t cond elt ds acc (.ok r g) = cplY own t cond elt ds acc (frzs [r] g) := rfl
theorem cplY_s (own : List Nat) (t : T) (cond : G → Res Bool) (elt : E) (ds acc : List D) (y : D) : cplY own t cond elt ds acc (some ([y], g)) = if acc.length < 16777216 ∧ own.all (isPure g) then compL own t cond elt ds g (acc ++ [y]) else none := rfl
/-! operations -/
theorem add_i (x y : Int) : addO (.pure (.int x)) (.pure (.int y)) = some (.pure (.int (x + y))) := rfl
theorem sub_i (x y : Int) : subO (.pure (.int x)) (.pure (.int y)) = some (.pure (.int (x - y))) := rfl
theorem mul_i (x y : Int) (h : mulC x y = true) : mulO (.pure (.int x)) (.pure (.int y)) = some (.pure (.int (x * y))) := by simp [mulO, h]
theorem mod_i (x y : Int) (h : 0 < y) : modO (.pure (.int x)) (.pure (.int y)) = some (.pure (.int (x % y))) := by simp [modO, intO, h]
theorem div_i (x y : Int) (h : 0 < y) (h2 : y < 18446744073709551616) : fdivO (.pure (.int x)) (.pure (.int y)) = some (.pure (.int (x / y))) := by
  simp [fdivO, intO, h, h2]
theorem mulC_l (x y : Int) (h : -18446744073709551616 < x) (h2 : x < 18446744073709551616) : mulC x y = true := by
  have : x.natAbs < 2 ^ 64 := by omega
  simp [mulC, this]
theorem mulC_r (x y : Int) (h : -18446744073709551616 < y) (h2 : y < 18446744073709551616) : mulC x y = true := by
  have : y.natAbs < 2 ^ 64 := by omega
  simp [mulC, this]
theorem lt_i (x y : Int) : ltO (.pure (.int x)) (.pure (.int y)) = some (.pure (.bl (decide (x < y)))) := rfl
theorem le_i (x y : Int) : leO (.pure (.int x)) (.pure (.int y)) = some (.pure (.bl (decide (x ≤ y)))) := rfl
theorem gt_i (x y : Int) : gtO (.pure (.int x)) (.pure (.int y)) = some (.pure (.bl (decide (y < x)))) := rfl
theorem ge_i (x y : Int) : geO (.pure (.int x)) (.pure (.int y)) = some (.pure (.bl (decide (y ≤ x)))) := rfl
theorem eq_i (x y : Int) : eqO (.pure (.int x)) (.pure (.int y)) = some (.pure (.bl (decide (x = y)))) := rfl
theorem ne_i (x y : Int) : neO (.pure (.int x)) (.pure (.int y)) = some (.pure (.bl (!decide (x = y)))) := rfl
theorem eq_s (x y : Str) : eqO (.pure (.str x)) (.pure (.str y)) = some (.pure (.bl (decide (x = y)))) := rfl
theorem ne_s (x y : Str) : neO (.pure (.str x)) (.pure (.str y)) = some (.pure (.bl (!decide (x = y)))) := rfl
theorem ix_l (j : Int) : ixO (.lst l) (.pure (.int j)) = (atI l j).map .pure := rfl
theorem ix_pl (j : Int) : ixO (.pure (.lst l)) (.pure (.int j)) = (atI l j).map .pure := rfl
theorem ix_t (j : Int) : ixO (.pure (.tup l)) (.pure (.int j)) = (atI l j).map .pure := rfl
theorem len_l : lenO [.lst l] = some (.pure (.int (l.length : Nat))) := rfl
theorem len_pl : lenO [.pure (.lst l)] = some (.pure (.int (l.length : Nat))) := rfl
theorem len_t : lenO [.pure (.tup l)] = some (.pure (.int (l.length : Nat))) := rfl
theorem tup_l : tupleO [.lst l] = some (.pure (.tup l)) := rfl
theorem tup_pl : tupleO [.pure (.lst l)] = some (.pure (.tup l)) := rfl
theorem tup_t : tupleO [.pure (.tup l)] = some (.pure (.tup l)) := rfl
theorem list_l : listO [.lst l] = some (.lst l) := rfl
theorem list_pl : listO [.pure (.lst l)] = some (.lst l) := rfl
theorem list_t : listO [.pure (.tup l)] = some (.lst l) := rfl
theorem max_i (x y : Int) : maxO [.pure (.int x), .pure (.int y)] = some (.pure (.int (if y > x then y else x))) := rfl
theorem min_i (x y : Int) : minO [.pure (.int x), .pure (.int y)] = some (.pure (.int (if y < x then y else x))) := rfl
theorem isN_f : isNonO false (.pure d) (.pure .non) = some (.pure (.bl d.isN)) := by simp [isNonO]
theorem isN_t : isNonO true (.pure d) (.pure .non) = some (.pure (.bl (!d.isN))) := by simp [isNonO]
theorem n_n : D.isN .non = true := rfl
theorem n_s (s : Str) : D.isN (.str s) = false := rfl
theorem n_i (j : Int) : D.isN (.int j) = false := rfl
theorem n_t : D.isN (.tup l) = false := rfl
theorem n_l : D.isN (.lst l) = false := rfl
theorem it_l : itemsO [.lst l] = some l := rfl
theorem it_pl : itemsO [.pure (.lst l)] = some l := rfl
theorem it_t : itemsO [.pure (.tup l)] = some l := rfl
theorem addL (l' : List D) (h : l.length + l'.length ≤ 16777216) : addO (.lst l) (.lst l') = some (.lst (l ++ l')) := by simp [addO, h]
theorem addLp (l' : List D) (h : l.length + l'.length ≤ 16777216) : addO (.pure (.lst l)) (.lst l') = some (.lst (l ++ l')) := by simp [addO, h]
theorem rng1_a (j : Int) (h : 0 ≤ j) (h2 : j < 1000000) : rng1 [.pure (.int j)] = some ((List.range j.toNat).map fun (k : Nat) => D.int (k : Int)) := by
  simp only [rng1]
  rw [if_pos (by omega)]
theorem atI_nat {α : Type} (l : List α) (k : Nat) : atI l (k : Int) = l[k]? := by
  unfold atI ixN
  rw [if_pos (by omega)]
  by_cases h : k < l.length
  · rw [if_pos (by omega)]; simp
  · rw [if_neg (by omega)]
    simp at h
    simp [h]
theorem atI_lt {α : Type} (l : List α) (k : Int) (h : 0 ≤ k) : atI l k = l[k.toNat]? := by
  obtain ⟨n, rfl⟩ : ∃ n : Nat, k = n := ⟨k.toNat, by omega⟩
  rw [atI_nat]; simp
theorem st_l (j : Int) (h : 0 ≤ j) (h2 : j.toNat < l.length) : stO (.lst l) (.int j) d = some (.lst (l.set j.toNat d)) := by
  have : ixN l.length j = some j.toNat := by
    unfold ixN; rw [if_pos h, if_pos (by omega)]
  simp [stO, this]
theorem if_s {α : Type} (c : Bool) (x y : α) : (if c = true then some x else some y) = some (if c = true then x else y) := by cases c <;> rfl
end
/-! a def's body -/
def backB (o : O) : Option (List O) → Option (List O)
  | some os => some (o :: os)
  | none => none
theorem backs_n (g : G) : backs [] g = some [] := rfl
theorem backs_c (o : O) (os : List O) (o' : O) (g : G) : backs (o :: os) (.par o' :: g) = backB o' (backs os g) := by
  simp only [backs]; cases backs os g <;> rfl
theorem backs_d (d : D) (os : List O) (o' : O) (g : G) : backs (.pure d :: os) (.loc o' :: g) = backB (.pure d) (backs os g) := by
  simp only [backs]; cases backs os g <;> rfl
theorem backB_s (o : O) (os : List O) : backB o (some os) = some (o :: os) := rfl
def endB (o : O) : Option (List O) → CRes
  | some os => .ok o os
  | none => .stuck
def endX (x : D) : Option (List O) → CRes
  | some os => .exc x os
  | none => .stuck
def endC (os : List O) : Res Fl → CRes
  | .ok (.ret o) g => endB o (backs os g)
  | .ok .next g => endB (.pure .non) (backs os g)
  | .exc x g => endX x (backs os g)
  | _ => .stuck
theorem bodyC_a (np nl : Nat) (B : S) (os : List O) (h : os.length = np) : bodyC np nl B os = endC os (B (os.map Slot.par ++ List.replicate nl .un)) := by
  unfold bodyC
  rw [if_pos h]
  rcases B (os.map Slot.par ++ List.replicate nl .un) with ⟨f, g⟩ | ⟨x, g⟩ | _
  · cases f <;> simp only [endC] <;> cases backs os g <;> rfl
  · simp only [endC]; cases backs os g <;> rfl
  · rfl
theorem endC_r (os : List O) (o : O) (g : G) : endC os (.ok (.ret o) g) = endB o (backs os g) := rfl
theorem endC_n (os : List O) (g : G) : endC os (.ok .next g) = endB (.pure .non) (backs os g) := rfl
theorem endC_x (os : List O) (x : D) (g : G) : endC os (.exc x g) = endX x (backs os g) := rfl
theorem endB_s (o : O) (os : List O) : endB o (some os) = .ok o os := rfl
theorem endX_s (x : D) (os : List O) : endX x (some os) = .exc x os := rfl
end VI
namespace VI
open PySem PySem.Spec PyProof.Rows L2
/-! ## == of plain data: none, numbers, texts, and tuples and lists of such -/
mutual
def D.nb : D → Bool
  | .non => true
  | .int _ => true
  | .str s => PyData.strOk s
  | .tup l => D.nbs l
  | .lst l => D.nbs l
  | _ => false
def D.nbs : List D → Bool
  | [] => true
  | d :: ds => d.nb && D.nbs ds
end
mutual
def D.dp : D → Nat
  | .tup l => D.dps l + 1
  | .lst l => D.dps l + 1
  | _ => 0
def D.dps : List D → Nat
  | [] => 0
  | d :: ds => max d.dp (D.dps ds)
end
theorem strbeq (a b : Str) : (a == b) = true ↔ a = b := by simp
mutual
theorem D.nb_py : ∀ {d : D}, d.nb = true → ∃ p, d.py = some p ∧ p.canLay0 = true ∧ p.depth = d.dp ∧ ∀ (e : D) (q : PyData), e.nb = true → e.py = some q → (PyData.eqv p q = true ↔ d = e)
  | .non, _ => ⟨_, by simp [D.py]; rfl, by simp [PyData.canLay0], by simp [PyData.depth, D.dp], fun e q he hq => by
      cases e with
      | tup l => simp only [D.py] at hq; obtain ⟨r, _, e2⟩ := Option.map_eq_some_iff.mp hq; subst e2; simp [PyData.eqv]
      | lst l => simp only [D.py] at hq; obtain ⟨r, _, e2⟩ := Option.map_eq_some_iff.mp hq; subst e2; simp [PyData.eqv]
      | _ => simp [D.nb] at he <;> (simp [D.py] at hq; subst hq; simp [PyData.eqv])⟩
  | .int i, _ => ⟨_, by simp [D.py]; rfl, by simp [PyData.canLay0], by simp [PyData.depth, D.dp], fun e q he hq => by
      cases e with
      | tup l => simp only [D.py] at hq; obtain ⟨r, _, e2⟩ := Option.map_eq_some_iff.mp hq; subst e2; simp [PyData.eqv]
      | lst l => simp only [D.py] at hq; obtain ⟨r, _, e2⟩ := Option.map_eq_some_iff.mp hq; subst e2; simp [PyData.eqv]
      | _ => simp [D.nb] at he <;> (simp [D.py] at hq; subst hq; simp [PyData.eqv])⟩
  | .str s, h => ⟨_, by simp [D.py]; rfl, by simpa [PyData.canLay0, D.nb] using h, by simp [PyData.depth, D.dp], fun e q he hq => by
      cases e with
      | tup l => simp only [D.py] at hq; obtain ⟨r, _, e2⟩ := Option.map_eq_some_iff.mp hq; subst e2; simp [PyData.eqv]
      | lst l => simp only [D.py] at hq; obtain ⟨r, _, e2⟩ := Option.map_eq_some_iff.mp hq; subst e2; simp [PyData.eqv]
      | _ => simp [D.nb] at he <;> (simp [D.py] at hq; subst hq; simp [PyData.eqv])⟩
  | .tup l, h => by
    obtain ⟨ps, h1, h2, h3, h4⟩ := D.nbs_py (show D.nbs l = true by simpa [D.nb] using h)
    refine ⟨.tuple ps, by simp [D.py, h1], by simpa [PyData.canLay0] using h2, by simp [PyData.depth, D.dp, h3], fun e q he hq => ?_⟩
    cases e with
    | tup m =>
      simp only [D.py] at hq
      obtain ⟨r, e1, e2⟩ := Option.map_eq_some_iff.mp hq
      subst e2
      rw [PyData.eqv, h4 m r (by simpa [D.nb] using he) e1]
      simp
    | lst l => simp only [D.py] at hq; obtain ⟨r, _, e2⟩ := Option.map_eq_some_iff.mp hq; subst e2; simp [PyData.eqv]
    | _ => simp [D.nb] at he <;> (simp [D.py] at hq; subst hq; simp [PyData.eqv])
  | .lst l, h => by
    obtain ⟨ps, h1, h2, h3, h4⟩ := D.nbs_py (show D.nbs l = true by simpa [D.nb] using h)
    refine ⟨.list ps, by simp [D.py, h1], by simpa [PyData.canLay0] using h2, by simp [PyData.depth, D.dp, h3], fun e q he hq => ?_⟩
    cases e with
    | lst m =>
      simp only [D.py] at hq
      obtain ⟨r, e1, e2⟩ := Option.map_eq_some_iff.mp hq
      subst e2
      rw [PyData.eqv, h4 m r (by simpa [D.nb] using he) e1]
      simp
    | tup l => simp only [D.py] at hq; obtain ⟨r, _, e2⟩ := Option.map_eq_some_iff.mp hq; subst e2; simp [PyData.eqv]
    | _ => simp [D.nb] at he <;> (simp [D.py] at hq; subst hq; simp [PyData.eqv])
  | .bl _, h => by simp [D.nb] at h
  | .dic _, h => by simp [D.nb] at h
  | .set _, h => by simp [D.nb] at h
  | .ins _ _, h => by simp [D.nb] at h
  | .ty _, h => by simp [D.nb] at h
  | .cls _, h => by simp [D.nb] at h
theorem D.nbs_py : ∀ {l : List D}, D.nbs l = true → ∃ ps, D.pys l = some ps ∧ PyData.canLayAll0 ps = true ∧ PyData.depthAll ps = D.dps l ∧ ∀ (m : List D) (qs : List PyData), D.nbs m = true → D.pys m = some qs → (PyData.eqvAll ps qs = true ↔ l = m)
  | [], _ => ⟨[], by simp [D.pys], by simp [PyData.canLayAll0], by simp [PyData.depthAll, D.dps], fun m qs hm hq => by
      cases m with
      | nil => simp [D.pys] at hq; subst hq; simp [PyData.eqvAll]
      | cons a m =>
        rw [D.pys] at hq
        split at hq <;> cases hq
        simp [PyData.eqvAll]⟩
  | d :: l, h => by
    rw [D.nbs, Bool.and_eq_true] at h
    obtain ⟨p, h1, h2, h3, h4⟩ := D.nb_py h.1
    obtain ⟨ps, g1, g2, g3, g4⟩ := D.nbs_py h.2
    refine ⟨p :: ps, by simp [D.pys, h1, g1], by simp [PyData.canLayAll0, h2, g2], by simp [PyData.depthAll, D.dps, h3, g3], fun m qs hm hq => ?_⟩
    cases m with
    | nil => simp [D.pys] at hq; subst hq; simp [PyData.eqvAll]
    | cons a m =>
      rw [D.nbs, Bool.and_eq_true] at hm
      rw [D.pys] at hq
      split at hq <;> cases hq
      rename_i q qs e1 e2
      rw [PyData.eqvAll, Bool.and_eq_true, h4 a q hm.1 e1, g4 m qs hm.2 e2]
      simp
end
theorem eqP_nb {a b : D} (ha : a.nb = true) (hb : b.nb = true) (da : a.dp ≤ 64) (db : b.dp ≤ 64) : ∃ c, eqP a b = some c ∧ (c = true ↔ a = b) := by
  obtain ⟨p, h1, h2, h3, h4⟩ := D.nb_py ha
  obtain ⟨q, g1, g2, g3, g4⟩ := D.nb_py hb
  refine ⟨PyData.eqv p q, ?_, h4 b q hb g1⟩
  simp [eqP, h1, g1, SeqAt.shaped, h2, g2, h3, g3, da, db]
theorem eqD_nb {a b : D} (ha : a.nb = true) (hb : b.nb = true) (da : a.dp ≤ 64) (db : b.dp ≤ 64) : ∃ c, eqD a b = some c ∧ (c = true ↔ a = b) := by
  cases a <;> cases b <;> simp only [eqD] <;> first
    | exact eqP_nb ha hb da db
    | (refine ⟨_, rfl, ?_⟩; simp)
theorem nbs_iff {l : List D} : D.nbs l = true ↔ ∀ d ∈ l, d.nb = true := by
  induction l with
  | nil => simp [D.nbs]
  | cons d l ih => simp [D.nbs, ih]
theorem dps_le {l : List D} {n : Nat} : D.dps l ≤ n ↔ ∀ d ∈ l, d.dp ≤ n := by
  induction l with
  | nil => simp [D.dps]
  | cons d l ih => simp [D.dps, ih, Nat.max_le]
/-- plain, and not deeper than n -/
def Pl (n : Nat) (d : D) : Prop := d.nb = true ∧ d.dp ≤ n
theorem pl_non (n : Nat) : Pl n .non := ⟨by simp [D.nb], by simp [D.dp]⟩
theorem pl_int (n : Nat) (i : Int) : Pl n (.int i) := ⟨by simp [D.nb], by simp [D.dp]⟩
theorem pl_str (n : Nat) (s : Str) (h : PyData.strOk s = true) : Pl n (.str s) := ⟨by simpa [D.nb] using h, by simp [D.dp]⟩
theorem pl_tup {n : Nat} {l : List D} (h : ∀ d ∈ l, Pl n d) : Pl (n + 1) (.tup l) := ⟨by simpa [D.nb, nbs_iff] using fun d hd => (h d hd).1, by
  simp only [D.dp]; exact Nat.succ_le_succ (dps_le.mpr fun d hd => (h d hd).2)⟩
theorem pl_lst {n : Nat} {l : List D} (h : ∀ d ∈ l, Pl n d) : Pl (n + 1) (.lst l) := ⟨by simpa [D.nb, nbs_iff] using fun d hd => (h d hd).1, by
  simp only [D.dp]; exact Nat.succ_le_succ (dps_le.mpr fun d hd => (h d hd).2)⟩
theorem pl_le {m n : Nat} {d : D} (h : Pl m d) (hl : m ≤ n) : Pl n d := ⟨h.1, Nat.le_trans h.2 hl⟩
open Classical in
theorem eq_pl {a b : D} (ha : Pl 64 a) (hb : Pl 64 b) : eqD a b = some (decide (a = b)) := by
  obtain ⟨c, e, h⟩ := eqD_nb ha.1 hb.1 ha.2 hb.2
  rw [e]
  congr 1
  by_cases q : a = b
  · simp [q, h.mpr q]
  · simp [q]
    cases c with
    | false => rfl
    | true => exact absurd (h.mp rfl) q
open Classical in
theorem eqO_pl {x y : O} {a b : D} (hx : x.full = true) (hy : y.full = true) (ex : x.er = a) (ey : y.er = b) (ha : Pl 64 a) (hb : Pl 64 b) : eqO x y = some (.pure (.bl (decide (a = b)))) := by
  subst ex ey
  simp [eqO, hx, hy, eq_pl ha hb]
open Classical in
theorem neO_pl {x y : O} {a b : D} (hx : x.full = true) (hy : y.full = true) (ex : x.er = a) (ey : y.er = b) (ha : Pl 64 a) (hb : Pl 64 b) : neO x y = some (.pure (.bl (!decide (a = b)))) := by
  subst ex ey
  simp [neO, hx, hy, eq_pl ha hb]
/-! ## texts in lists -/
theorem anyA_str (x : Str) : ∀ l : List Str, anyA (.str x) (l.map D.str) = some (l.contains x)
  | [] => rfl
  | y :: ys => by
    rw [List.map_cons, anyA, anyA_str x ys]
    simp only [eqA, List.contains_cons]
    rw [show (y == x) = (x == y) from Bool.eq_iff_iff.mpr (by rw [beq_iff_eq, beq_iff_eq]; exact eq_comm)]
theorem strsD_map : ∀ l : List Str, strsD (l.map D.str) = some l
  | [] => rfl
  | y :: ys => by simp [strsD, strsD_map ys]
theorem in_str (neg : Bool) (x : Str) (l : List Str) : inO neg (.pure (.str x)) (.lst (l.map D.str)) = some (.pure (.bl (neg.xor (l.contains x)))) := by
  have h : inO neg (.pure (.str x)) (.lst (l.map D.str)) = (anyA (.str x) (l.map D.str)).map fun b => .pure (.bl (neg.xor b)) := rfl
  rw [h, anyA_str]; rfl
theorem str_ext {a b : Str} (h : a.cps.toList = b.cps.toList) : a = b := by
  cases a; cases b; congr; exact Array.toList_inj.mp h
theorem add_s (a b : Str) (h : a.length + b.length ≤ 16777216) : addO (.pure (.str a)) (.pure (.str b)) = some (.pure (.str (a ++ b))) := by simp [addO, h]
theorem len_app (a b : Str) : (a ++ b).length = a.length + b.length := by
  show (a.cps ++ b.cps).size = _
  simp [Str.length]
theorem toL_app (a b : Str) : (a ++ b).cps.toList = a.cps.toList ++ b.cps.toList := by
  show (a.cps ++ b.cps).toList = _
  simp
theorem ok_app {a b : Str} (ha : PyData.strOk a = true) (hb : PyData.strOk b = true) : PyData.strOk (a ++ b) = true := by
  show (a.cps ++ b.cps).all _ = true
  rw [Array.all_append, Bool.and_eq_true]
  exact ⟨ha, hb⟩
theorem ok_iff {a : Str} : PyData.strOk a = true ↔ ∀ c ∈ a.cps.toList, c < 1114112 := by
  unfold PyData.strOk
  rw [← Array.all_toList, List.all_eq_true]
  simp only [decide_eq_true_eq]
theorem cutL_mem {α : Type} {l : List α} {lo hi : Option Int} {x : α} (h : x ∈ cutL l lo hi) : x ∈ l := List.mem_of_mem_drop (List.mem_of_mem_take h)
theorem cutL_len {α : Type} (l : List α) (lo hi : Option Int) : (cutL l lo hi).length ≤ l.length := by
  unfold cutL
  rw [List.length_take, List.length_drop]
  omega
def cutS (s : Str) (lo hi : Option Int) : Str := ⟨(cutL s.cps.toList lo hi).toArray⟩
theorem cutS_len (s : Str) (lo hi : Option Int) : (cutS s lo hi).length ≤ s.length := by
  have := cutL_len s.cps.toList lo hi
  simpa [cutS, Str.length] using this
theorem cutS_ok {s : Str} (lo hi : Option Int) (h : PyData.strOk s = true) : PyData.strOk (cutS s lo hi) = true := by
  rw [ok_iff] at h ⊢
  intro c hc
  exact h c (cutL_mem (by simpa [cutS] using hc))
theorem sl_s (lo hi : Option Int) (s : Str) (h : s.length ≤ 16777216) : slO lo hi (.pure (.str s)) = some (.pure (.str (cutS s lo hi))) := by simp [slO, h, cutS]
theorem glue_fold (l : List Str) : ∀ acc : Array Nat, (List.foldl (fun acc (p : Str) => acc ++ (Str.ofString "").cps ++ p.cps) acc l).toList = acc.toList ++ (l.map fun s => s.cps.toList).flatten := by
  induction l with
  | nil => intro acc; simp
  | cons x xs ih =>
    intro acc
    rw [List.foldl_cons, ih]
    have : (Str.ofString "").cps = #[] := rfl
    simp [this, List.append_assoc]
theorem join_nil (l : List Str) : (Txt.join (Str.ofString "") l).cps.toList = (l.map fun s => s.cps.toList).flatten := by
  show (Builtin.Str.glued (Str.ofString "") l).cps.toList = _
  unfold Builtin.Str.glued
  rw [glue_fold]
  cases l with
  | nil => rfl
  | cons x xs => simp
theorem joinO_l (a : Str) (l : List Str) (h : (l.map (·.length)).sum + l.length * a.length ≤ 16777216) : joinO [.pure (.str a), .lst (l.map D.str)] = some (.pure (.str (Txt.join a l))) := by
  simp [joinO, elemsO, strsD_map]
  simpa using h
theorem splitO_a (a b : Str) (h : b.length ≠ 0 ∧ a.length + 2 ≤ 16777216) : splitO [.pure (.str a), .pure (.str b)] = some (.lst ((Txt.split a b).map D.str)) := by
  have e : splitO [.pure (.str a), .pure (.str b)] = if b.length ≠ 0 ∧ a.length + 2 ≤ 16777216 then some (.lst ((Txt.split a b).map D.str)) else none := rfl
  rw [e, if_pos h]
theorem nodup_map_range {α : Type} (f : Nat → α) (n : Nat) (h : ∀ i j, i < j → j < n → f i ≠ f j) : ((List.range n).map f).Nodup := by
  rw [List.Nodup, List.pairwise_map]
  refine (List.pairwise_lt_range (n := n)).imp_of_mem fun hi hj hlt => h _ _ hlt (List.mem_range.mp hj)
theorem if_c {α : Type} (x y : α) {p : Prop} [Decidable p] (h : p) : (if p then x else y) = x := if_pos h
/-- a slot that a loop may fill -/
def Fre (s : Slot) : Prop := s = .un ∨ ∃ d, s = .loc (.pure d)
theorem fre_un : Fre .un := .inl rfl
theorem fre_d (d : D) : Fre (.loc (.pure d)) := .inr ⟨d, rfl⟩
theorem stoC_fr {s : Slot} (h : Fre s) (i : Nat) (o : O) (g : G) : stoC i o g (some s) = some (g.set i (.loc o)) := by
  rcases h with rfl | ⟨d, rfl⟩ <;> rfl
theorem lock_fr {s : Slot} (h : Fre s) : (match s with | .loc .hole => .par .hole | s => s : Slot) = s := by
  rcases h with rfl | ⟨d, rfl⟩ <;> rfl
def purC : Option Slot → Bool
  | some .un => true
  | some (.loc (.pure _)) => true
  | some (.par (.pure _)) => true
  | _ => false
theorem isPure_a (g : G) (i : Nat) : isPure g i = purC g[i]? := rfl
theorem pur_un : purC (some .un) = true := rfl
theorem pur_ld (d : D) : purC (some (.loc (.pure d))) = true := rfl
theorem pur_pd (d : D) : purC (some (.par (.pure d))) = true := rfl
theorem pur_fr {s : Slot} (h : Fre s) : purC (some s) = true := by
  rcases h with rfl | ⟨d, rfl⟩ <;> rfl
theorem rng1_nat (n : Nat) (h : n < 1000000) : rng1 [.pure (.int (n : Int))] = some ((List.range n).map fun (k : Nat) => D.int (k : Int)) := by
  rw [rng1_a (n : Int) (by omega) (by omega), Int.toNat_natCast]
end VI
namespace L2
open PySem PySem.Spec PySem.Calls PyProof.Rows
/-- K's words of a class that has no __init__ of its own, nor a base's -/
structure Mk0 (K : PySem.W.Frag) (C : Addr) : Prop where
  makes : PySem.W.makesIn K C = true
  init : PySem.W.findIn K (.ref C) "__init__" = some (some (.builtin "object.__init__"))
  kp : PySem.W.keepIn K (.ref C) = true
def tNew (C : Addr) : TE := fun σ H Q => ∀ x dx, H x = none → H dx = none → dx ≠ x → Q (.ref x) (upd (upd H dx (.own x)) x (.ins C dx []))
theorem run_new {X : Cx} {pins : List (Addr × Obj)} {σ : St} {H : Hp} {s : Shared} {Q : VK} {C : Addr} (M : Mk0 X.K C) (I : Inv X pins σ H s) (h : tNew C σ H Q) :
    wpAny (model X.prog X.w) X.A (call (.ref C) []) (EP X pins σ Q) X.xe s := by
  have hq := h (s.heap.objs.size + 1) s.heap.objs.size (I.hok.fresh (Nat.le_succ _)) (I.hok.fresh (Nat.le_refl _)) (Nat.ne_of_lt (Nat.lt_succ_self _))
  have I2 := Inv.made (C := C) I
  have hk := I.kIn
  obtain ⟨hh, g, d, t, os⟩ := s
  have Y := PySem.W.makes_of (M := model X.prog X.w) hk M.makes
  refine wpAny_call ?_
  refine PySem.W.make_core Y (PySem.W.looks_findIn hk M.init) (fun self => PySem.W.Looks.of_pure (PySem.W.oi_bind self)) (.inr ⟨rfl, rfl⟩) ?_
  have e2 : ((hh.push PySem.W.emptyDict).push (PySem.W.instObj C hh.objs.size)).get? (hh.objs.size + 1) = some (PySem.W.instObj C hh.objs.size) := by
    have := Heap.get?_push_size (hh.push PySem.W.emptyDict) (o := PySem.W.instObj C hh.objs.size) rfl
    rwa [Heap.size_push] at this
  have t1 : PySem.W.Looks (model X.prog X.w) ((hh.push PySem.W.emptyDict).push (PySem.W.instObj C hh.objs.size)) (typeOf (.ref (hh.objs.size + 1))) (.ref C) := (PySem.W.Looks.ld e2).andThen .now
  have t2 : PySem.W.Looks (model X.prog X.w) ((hh.push PySem.W.emptyDict).push (PySem.W.instObj C hh.objs.size)) (isInstance (.ref (hh.objs.size + 1)) (.type "object")) true := t1.andThen (Y.top.keeps fun b o e => Heap.get?_push_of_some _ (Heap.get?_push_of_some _ e))
  refine codeAny_call_builtin PySem.W.oi_plain PySem.W.entry_oi (@PySem.W.check_slot (model X.prog X.w) _ _ _ "object.__init__" "object" "__init__" (.ref (hh.objs.size + 1)) [] [] _ PySem.W.oi_kind PySem.W.oi_split t2 (PySem.W.oi_args (.ref (hh.objs.size + 1))) ?_)
  rw [PySem.W.oi_run]
  exact wpAny_pure (And.intro rfl ⟨V.ref (hh.objs.size + 1), _, I2, rfl, hq⟩)
theorem pe_new0 {X : Cx} {C : Addr} {x : Str} {p pos : Pos} (M : Mk0 X.K C) (hg : Gl X x) (hm : X.mg x = some (.ref C)) (hdb : (x == ("__debug__" : Str)) = false := by decide) : PE X (.Call (.Name x p) [] [] pos) (tNew C) := by
  refine ⟨fun pins s σ H Q I h => ?_⟩
  refine wpAny_Call_Name_kw (ld_glob I hg hm ?_ hdb)
  exact PySem.W.callWith_K0 I.kIn M.kp (run_new M I h)
end L2
namespace VI
open PySem PySem.Spec PyProof.Rows L2
section
variable {W : Wd} {vs : List (Option V)} {Wx : WX} {X : Cx} {n : Nat}
/-! ### a new instance without __init__ -/
def newE (c : Str) : E := fun g => .ok (.val (.ins c [])) g
def NewAt (W : Wd) (mg : Str → Option Value) (x c : Str) : Prop := ∃ Ca, W.cl c = some Ca ∧ Mk0 W.K Ca ∧ mg x = some (.ref Ca)
theorem se_new {k : Nat} {x c : Str} {p pos : Pos} (cx : Ctx W k Wx X) (hf : NewAt W X.mg x c) (hg : Gl X x) (hdb : (x == ("__debug__" : Str)) = false := by decide) : SE W vs Wx X (.Call (.Name x p) [] [] pos) (newE c) := by
  obtain ⟨Ca, h1, h2, h3⟩ := hf
  rw [← cx.K] at h2
  refine pe_weak (pe_new0 h2 hg h3 hdb) fun σ H Q ⟨H0, L, g, sp, en, post⟩ => fun q dx hp hd hne => ?_
  obtain ⟨sn, rn⟩ := own_new (W := W) sp.ex hp hd hne h1
  have sp2 : Sep H0 H (L ++ []) := by simpa using sp
  have s3 : Step H0 H L H0 (upd (upd H dx (.own q)) q (.ins Ca dx [])) (L ++ [q]) := by simpa using Step.frame sp2 sn
  exact post (.ref q) (upd (upd H dx (.own q)) q (.ins Ca dx [])) H0 [q] L (s3.perm List.perm_append_comm) rn (en.mono (Ex.refl _) (Step.keepL sp2 sn))
/-! ### o.f = e: what is put in is frozen -/
def putFO (f : Str) (o : O) : List (Str × O) → List (Str × O)
  | [] => [(f, o)]
  | (g, x) :: r => if g = f then (g, o) :: r else (g, x) :: putFO f o r
theorem RepOf.len {H0 H : Hp} : ∀ {fs : List (Str × V)} {os : List (Str × O)} {L : List Addr}, RepOf W H0 H fs os L → fs.length = os.length
  | _, _, _, .nil => rfl
  | _, _, _, .cons _ r => by simp [r.len]
theorem RepOf.put {H0 H : Hp} {f : Str} {v : V} {d : D} (hv : RepF W H0 v d) : ∀ {fs : List (Str × V)} {os : List (Str × O)} {L : List Addr}, RepOf W H0 H fs os L → ∃ L', RepOf W H0 H (putF f v fs) (putFO f (.pure d) os) L' ∧ L'.Sublist L
  | _, _, _, .nil => ⟨[], .cons (Lo := []) (.pure hv) .nil, .refl _⟩
  | (g, x) :: fs, (_, o) :: os, _, .cons (Lo := Lo) (L := Lt) h r => by
    by_cases e : g = f
    · refine ⟨[] ++ Lt, ?_, ?_⟩
      · simp only [putF, putFO, if_pos e]
        exact .cons (.pure hv) r
      · simpa using List.sublist_append_right Lo Lt
    · obtain ⟨L', h1, h2⟩ := RepOf.put hv r
      refine ⟨Lo ++ L', ?_, List.Sublist.append (.refl _) h2⟩
      simp only [putF, putFO, if_neg e]
      exact .cons h h1
def fldC (FT : Str → Str → Bool) (f : Str) (d : D) : O → Option O
  | .ins c fs => if FT c f && decide (fs.length < 1000) then some (.ins c (putFO f (.pure d) fs)) else none
  | _ => none
def fldS (FT : Str → Str → Bool) (f : Str) (Ao Av : E) : S := fun g => (Av g).bind fun rv g1 => (Ao g1).bind fun r g2 => match frzs [rv] g2 with
  | some ([dv], g3) => match (ob g3 r).bind (fldC FT f dv) with
    | some o' => .ok .next (putR g3 r o')
    | none => .stuck
  | _ => .stuck
theorem RepOf.upd_ne {H0 H : Hp} {p : Addr} {u : HO} {fs : List (Str × V)} {os : List (Str × O)} {L : List Addr} (h : RepOf W H0 H fs os L) (hn : p ∉ L) : RepOf W H0 (upd H p u) fs os L :=
  h.mono (Ex.refl _) fun a ha w hw => by
    have : a ≠ p := fun z => hn (z ▸ ha)
    rw [L2.upd_ne this]; exact hw
theorem ss_fld {FT : Str → Str → Bool} {k : Nat} {o e : Expr} {f : Str} {pos pos' : Pos} {Ao Av : E} (cx : Ctx W k Wx X) (hF : ∀ c f, FT c f = true → FldAt W c f) (ho : SE W vs Wx X o Ao) (hv : SE W vs Wx X e Av)
    (hs : swapsWith e (some (.Attribute o f pos')) pos.line X.env = pure false := by rfl) : SS W vs Wx X (.Assign [.Attribute o f pos'] e pos) (fldS FT f Ao Av) := by
  refine ps_weak (ps_fld ho hv hs) fun De σ H ⟨H0, L, g, sp, en, post⟩ => ?_
  refine ⟨H0, L, g, sp, en, ?_⟩
  unfold fldS at post
  cases ea : Av g with
  | stuck => rw [ea] at post; exact post.elim
  | exc x g' => rw [ea] at post; exact fun c d H' H0' L' s2 rx en2 => post c d σ H' H0' L' s2 rx en2
  | ok rv g1 =>
    rw [ea] at post
    intro v H1 H01 Lr L1 st1 rr en1
    simp only [Res.bind] at post
    refine ⟨H01, L1, g1, st1.sep.right, en1, ?_⟩
    cases eb : Ao g1 with
    | stuck => rw [eb] at post; exact post.elim
    | exc x g' => rw [eb] at post; exact fun c d H' H0' L' s2 rx en2 => post c d σ H' H0' L' (st1.then s2).right rx en2
    | ok r g2 =>
      rw [eb] at post
      intro x H2 H02 Lx Lq st2 rx en2
      simp only at post
      have st12 := st1.then st2
      have rr2 := rr.mono st2.ex0 (Step.keepL st1.sep st2)
      have hcase : ∃ dv g3, frzs [rv] g2 = some ([dv], g3) := by
        cases ef : frzs [rv] g2 with
        | none => rw [ef] at post; exact post.elim
        | some pp =>
          obtain ⟨l, g3⟩ := pp
          rw [ef] at post
          cases l with
          | nil => exact post.elim
          | cons a l => cases l with
            | nil => exact ⟨a, g3, rfl⟩
            | cons _ _ => exact post.elim
      obtain ⟨dv, g3, ef⟩ := hcase
      rw [ef] at post
      simp only at post
      have spm : Step H0 H L H02 H2 (Lx ++ ((Lr ++ []) ++ Lq)) := by
        refine st12.perm ?_
        have := perm_mid Lr Lx Lq
        simpa [List.append_assoc] using this
      obtain ⟨H03, L3, s3, rf, en3⟩ := frzs_ok (us := [v]) (Lr := Lr ++ []) (.cons rr2 .nil) spm.sep.right en2 ef
      have st3 : Step H0 H L H03 H2 (Lx ++ L3) := spm.then s3
      have rx3 := rx.mono s3.ex0 fun _ _ _ q => q
      cases rf with
      | cons rfv rf0 =>
        cases ec : (ob g3 r).bind (fldC FT f dv) with
        | none => rw [ec] at post; exact post.elim
        | some o' =>
          rw [ec] at post
          obtain ⟨oo, e1, e2⟩ := Option.bind_eq_some_iff.mp ec
          obtain ⟨Lo', sp', ro', fin⟩ := mut_ok st3 rx3 en3 e1
          unfold fldC at e2
          split at e2
          · rename_i c fs
            split at e2
            · rename_i hc
              cases e2
              rw [Bool.and_eq_true, decide_eq_true_eq] at hc
              cases ro' with
              | @ins p _ Ca dx vfs _ Lf h1 h2 h3 =>
                obtain ⟨Ca', c1, c2, c3⟩ := hF c f hc.1
                rw [h2] at c1; cases c1
                refine ⟨p, Ca, dx, vfs, rfl, h1, by rw [cx.K]; exact c2, by rw [cx.K]; exact c3, by rw [h3.len]; exact hc.2, ?_⟩
                obtain ⟨Lf', q1, q2⟩ := RepOf.put (f := f) rfv h3
                have np : p ∉ Lf := (List.nodup_cons.mp sp'.nd).1
                have np' : p ∉ Lf' := fun z => np (q2.subset z)
                have hown := sp'.own p (by simp)
                have stp : Step H03 H2 (p :: Lf) H03 (upd H2 p (.ins Ca dx (putF f v vfs))) (p :: Lf') := by
                  refine ⟨Ex.refl _, fun a u h hn => ?_, fun a h => .inl h, fun a h => ?_, ⟨fun a u h => ?_, ?_, fun q hq => ⟨?_, ?_⟩⟩⟩
                  · have : a ≠ p := fun z => hn (by simp [z])
                    rw [L2.upd_ne this]; exact h
                  · rcases List.mem_cons.mp h with z | z
                    · exact .inl (by simp [z])
                    · exact .inl (List.mem_cons_of_mem _ (q2.subset z))
                  · have : a ≠ p := fun z => by subst z; rw [hown.1] at h; cases h
                    rw [L2.upd_ne this]; exact sp'.ex a u h
                  · exact List.nodup_cons.mpr ⟨np', (List.nodup_cons.mp sp'.nd).2.sublist q2⟩
                  · rcases List.mem_cons.mp hq with z | z
                    · rw [z]; exact hown.1
                    · exact (sp'.own q (List.mem_cons_of_mem _ (q2.subset z))).1
                  · by_cases z : q = p
                    · subst z; exact ⟨_, upd_same⟩
                    · rw [L2.upd_ne z]
                      rcases List.mem_cons.mp hq with y | y
                      · exact absurd y z
                      · exact (sp'.own q (List.mem_cons_of_mem _ (q2.subset y))).2
                obtain ⟨L5, s6, en6⟩ := fin (.ins c (putFO f (.pure dv) fs)) _ _ stp (.ins upd_same h2 (q1.upd_ne np'))
                exact post σ _ H03 L5 s6 en6
            · cases e2
          · cases e2
/-! ### str(n), sum(l) -/
def strO : List O → Option O
  | [.pure (.int i)] => if i.natAbs.log2 < 1920 then some (.pure (.str (toString i : String))) else none
  | _ => none
theorem cr_strO : CallR X (.type "str") (cO W strO) := by
  intro pins s σ H us ws Q I r ⟨H0, os, o, ex, pr, e, gv⟩
  unfold strO at e
  split at e
  · split at e
    · rename_i hz
      cases e
      obtain ⟨v, e1, _, r1⟩ := one_of pr
      exact call_str_int pins s σ H us ws Q I r ⟨_, by rw [e1, atom_int r1], hz, gv.atom ex (.str _)⟩
    · cases e
  · cases e
def intsD : List D → Option (List Int)
  | [] => some []
  | .int s :: l => (intsD l).map fun r => s :: r
  | _ :: _ => none
theorem intsD_rep {H : Hp} : ∀ {us : List V} {l : List D} {ys : List Int}, RepFs W H us l → intsD l = some ys → us = ys.map V.int
  | _, _, ys, .nil, e => by cases e; rfl
  | _, _, ys, .cons (d := d) h r, e => by
    cases d <;> first | (simp [intsD] at e; done) | skip
    rename_i s
    rw [intsD] at e
    obtain ⟨zs, e1, e2⟩ := Option.map_eq_some_iff.mp e
    subst e2
    cases h
    rw [intsD_rep r e1]; rfl
theorem intsD_map : ∀ l : List Int, intsD (l.map D.int) = some l
  | [] => rfl
  | y :: ys => by simp [intsD, intsD_map ys]
def sumO : List O → Option O
  | [.pure (.lst l)] => (intsD l).map fun ys => .pure (.int ys.sum)
  | [.lst l] => (intsD l).map fun ys => .pure (.int ys.sum)
  | _ => none
theorem cr_sumO (hK : X.K = W.K) (hc : X.calm = true) : CallR X (.builtin "sum") (cO W sumO) := by
  intro pins s σ H us ws Q I r ⟨H0, os, o, ex, pr, e, gv⟩
  have lst : ∀ (oo : O) l ys, os = [oo] → (oo = .pure (.lst l) ∨ oo = .lst l) → intsD l = some ys → o = .pure (.int ys.sum) → wpAny (model X.prog X.w) X.A (call (.builtin "sum") ws) (EP X pins σ Q) X.xe s := by
    intro oo l ys e1 h e2 e3
    subst e1 e3
    obtain ⟨v, e4, _, r1⟩ := one_of pr
    obtain ⟨p, us', e5, hs, rf⟩ := sql_of ex r1 h
    refine cr_sum hc pins s σ H us ws Q I r ⟨p, ys, by rw [e4, e5], ?_, gv.atom ex (.int _)⟩
    rw [← intsD_rep rf e2, hK]; exact hs
  unfold sumO at e
  split at e
  · obtain ⟨ys, h1, h2⟩ := Option.map_eq_some_iff.mp e
    exact lst _ _ ys rfl (.inl rfl) h1 h2.symm
  · obtain ⟨ys, h1, h2⟩ := Option.map_eq_some_iff.mp e
    exact lst _ _ ys rfl (.inr rfl) h1 h2.symm
  · cases e
theorem Ctx.dn {k : Nat} (cx : Ctx W (k + 1) Wx X) : Ctx W k Wx X := ⟨cx.K, cx.calm, cx.nd, cx.tk, cx.room.mono (Nat.le_succ _)⟩
end
/-! ### tables of methods and of fields -/
abbrev MTab := List (Nat × Str × Str × Nat)
def mtOf (T : MTab) (a : Nat) (c m : Str) : Option Nat := (T.find? fun e => decide (e.1 = a) && (decide (e.2.1 = c) && decide (e.2.2.1 = m))).map (·.2.2.2)
theorem mt_of {T : MTab} {P : Str → Str → Nat → Nat → Prop} (h : ∀ e ∈ T, P e.2.1 e.2.2.1 e.2.2.2 e.1) {a : Nat} {c m : Str} {fn : Nat} (q : mtOf T a c m = some fn) : P c m fn a := by
  unfold mtOf at q
  obtain ⟨e, h1, h2⟩ := Option.map_eq_some_iff.mp q
  have hm := h e (List.mem_of_find?_eq_some h1)
  have hp := List.find?_some h1
  simp only [Bool.and_eq_true, decide_eq_true_eq] at hp
  obtain ⟨p1, p2, p3⟩ := hp
  rw [p1, p2, p3, h2] at hm
  exact hm
abbrev FTab := List (Str × Str)
def ftOf (T : FTab) (c f : Str) : Bool := T.any fun e => decide (e.1 = c) && decide (e.2 = f)
theorem ft_of {T : FTab} {P : Str → Str → Prop} (h : ∀ e ∈ T, P e.1 e.2) {c f : Str} (q : ftOf T c f = true) : P c f := by
  unfold ftOf at q
  obtain ⟨e, h1, h2⟩ := List.any_eq_true.mp q
  have hm := h e h1
  simp only [Bool.and_eq_true, decide_eq_true_eq] at h2
  rw [h2.1, h2.2] at hm
  exact hm
/-- what the law's def is asked with, and what it is to be worth -/
def spL (K : PySem.W.Frag) : Sp := fun us H Q _ => ∃ (a : Addr) (ns : List Int), us = [.ref a] ∧ ns.length ≤ 63 ∧ SqL K H a (ns.map V.int) ∧ ∀ (v : V) (H' : Hp), v = .bl true → Q v H'
theorem spL_of {W : Wd} {C : Callee} {fn : Nat} (law : ∀ ns : List Int, ns.length ≤ 63 → ∃ os, C fn [.pure (.lst (ns.map D.int))] = .ok (.pure (.bl true)) os) {us : List V} {H : Hp} {Q : VK} {Ek : XK} (h : spL W.K us H Q Ek) : spD W C fn 1 us H Q Ek := by
  obtain ⟨a, ns, rfl, hl, hS, k⟩ := h
  obtain ⟨os, e⟩ := law ns hl
  refine ⟨rfl, H, [], [.pure (.lst (ns.map D.int))], Sep.nil (Ex.refl H), .cons (Lo := []) (.pure (.lst hS (reps_ints ns))) .nil, ?_⟩
  rw [e]
  intro v H1 H01 Lo La st rv ro
  exact k v H1 (atom_bl rv)
end VI
namespace VI
open PySem PySem.Spec PyProof.Rows L2
/-! ## while, classes: step by step -/
section
variable (g : G)
def whlE (t : G → Res Bool) (body : S) (n : Nat) : Fl → G → Res Fl
  | .next, g => whileS t body n g
  | .cont, g => whileS t body n g
  | .brk, g => .ok .next g
  | .ret o, g => .ok (.ret o) g
def whlC (t : G → Res Bool) (body : S) (n : Nat) : Bool → G → Res Fl
  | true, g => (body g).bind (whlE t body n)
  | false, g => .ok .next g
theorem while_s (t : G → Res Bool) (body : S) (n : Nat) : whileS t body (n + 1) g = (t g).bind (whlC t body n) := by
  rw [whileS]; congr 1; funext c g1; cases c <;> simp only [whlC]
  · rfl
  · simp only [if_true]; congr 1; funext f g2; cases f <;> rfl
theorem whlC_t (t : G → Res Bool) (body : S) (n : Nat) : whlC t body n true g = (body g).bind (whlE t body n) := rfl
theorem whlC_f (t : G → Res Bool) (body : S) (n : Nat) : whlC t body n false g = .ok .next g := rfl
theorem whlE_n (t : G → Res Bool) (body : S) (n : Nat) : whlE t body n .next g = whileS t body n g := rfl
theorem whlE_c (t : G → Res Bool) (body : S) (n : Nat) : whlE t body n .cont g = whileS t body n g := rfl
theorem whlE_b (t : G → Res Bool) (body : S) (n : Nat) : whlE t body n .brk g = .ok .next g := rfl
theorem whlE_r (t : G → Res Bool) (body : S) (n : Nat) (o : O) : whlE t body n (.ret o) g = .ok (.ret o) g := rfl
/-! o.f = e -/
def fldI (r : R) : Option O → G → Res Fl
  | some o, g => .ok .next (putR g r o)
  | none, _ => .stuck
def fldH (FT : Str → Str → Bool) (f : Str) (r : R) : Option (List D × G) → Res Fl
  | some ([dv], g) => fldI r ((ob g r).bind (fldC FT f dv)) g
  | _ => .stuck
def fldE (FT : Str → Str → Bool) (f : Str) (rv r : R) (g : G) : Res Fl := fldH FT f r (frzs [rv] g)
def fldD (FT : Str → Str → Bool) (f : Str) (Ao : E) (rv : R) (g : G) : Res Fl := (Ao g).bind (fldE FT f rv)
theorem fldS_a (FT : Str → Str → Bool) (f : Str) (Ao Av : E) : fldS FT f Ao Av g = (Av g).bind (fldD FT f Ao) := by
  unfold fldS
  congr 1
  funext rv g1
  unfold fldD
  congr 1
  funext r g2
  unfold fldE
  rcases frzs [rv] g2 with _ | ⟨_ | ⟨a, _ | _⟩, g3⟩ <;> try rfl
  simp only [fldH]
  cases (ob g3 r).bind (fldC FT f a) <;> rfl
theorem fldD_a (FT : Str → Str → Bool) (f : Str) (Ao : E) (rv : R) : fldD FT f Ao rv g = (Ao g).bind (fldE FT f rv) := rfl
theorem fldE_a (FT : Str → Str → Bool) (f : Str) (rv r : R) : fldE FT f rv r g = fldH FT f r (frzs [rv] g) := rfl
theorem fldH_s (FT : Str → Str → Bool) (f : Str) (r : R) (dv : D) : fldH FT f r (some ([dv], g)) = fldI r ((ob g r).bind (fldC FT f dv)) g := rfl
theorem fldI_s (r : R) (o : O) : fldI r (some o) g = .ok .next (putR g r o) := rfl
theorem fldC_a (FT : Str → Str → Bool) (f : Str) (d : D) (c : Str) (fs : List (Str × O)) (h : FT c f = true) (h2 : fs.length < 1000) : fldC FT f d (.ins c fs) = some (.ins c (putFO f (.pure d) fs)) := by
  simp [fldC, h, h2]
theorem putFO_n (f : Str) (o : O) : putFO f o [] = [(f, o)] := rfl
theorem putFO_c (f h : Str) (o x : O) (r : List (Str × O)) : putFO f o ((h, x) :: r) = if h = f then (h, o) :: r else (h, x) :: putFO f o r := rfl
/-! attributes -/
def atrF (FT : Str → Str → Bool) (f : Str) (o : O) : Option O := match clsO o with
  | some c => if FT c f then attrF f o else none
  | none => none
theorem attrE_a (FT : Str → Str → Bool) (f : Str) (A : E) : attrE FT f A g = una (atrF FT f) A g := rfl
theorem atr_p (FT : Str → Str → Bool) (f c : Str) (fs : List (Str × D)) (h : FT c f = true) : atrF FT f (.pure (.ins c fs)) = (fs.lookup f).map .pure := by
  simp [atrF, clsO, h, attrF]
theorem atr_i (FT : Str → Str → Bool) (f c : Str) (fs : List (Str × O)) (d : D) (h : FT c f = true) (h2 : fs.lookup f = some (.pure d)) : atrF FT f (.ins c fs) = some (.pure d) := by
  simp [atrF, clsO, h, attrF, h2]
/-! methods -/
def methD (C : Callee) (fn : Nat) (r : R) (rs : List R) (g : G) : Res R := callR C fn (r :: rs) g
def methF (C : Callee) (r : R) (As : List E) (g : G) : Option Nat → Res R
  | some fn => (evs As g).bind (methD C fn r)
  | none => .stuck
def methG (MT : Str → Str → Option Nat) (m : Str) (o : O) : Option Nat := if (fldO o m).isNone then (clsO o).bind fun c => MT c m else none
def methC (MT : Str → Str → Option Nat) (C : Callee) (m : Str) (As : List E) (r : R) (g : G) : Res R := methF C r As g ((ob g r).bind (methG MT m))
theorem methE_a (MT : Str → Str → Option Nat) (C : Callee) (m : Str) (A : E) (As : List E) : methE MT C m A As g = (A g).bind (methC MT C m As) := by
  unfold methE
  congr 1
  funext r g1
  unfold methC
  have : ((ob g1 r).bind fun o => if (fldO o m).isNone then clsO o else none).bind (fun c => MT c m) = (ob g1 r).bind (methG MT m) := by
    cases ob g1 r with
    | none => rfl
    | some o =>
      simp only [Option.bind_some, methG]
      split <;> rfl
  rw [this]
  cases (ob g1 r).bind (methG MT m) <;> rfl
theorem methC_a (MT : Str → Str → Option Nat) (C : Callee) (m : Str) (As : List E) (r : R) : methC MT C m As r g = methF C r As g ((ob g r).bind (methG MT m)) := rfl
theorem methF_s (C : Callee) (r : R) (As : List E) (fn : Nat) : methF C r As g (some fn) = (evs As g).bind (methD C fn r) := rfl
theorem methD_a (C : Callee) (fn : Nat) (r : R) (rs : List R) : methD C fn r rs g = callR C fn (r :: rs) g := rfl
theorem methG_p (MT : Str → Str → Option Nat) (m c : Str) (fs : List (Str × D)) (h : fs.lookup m = none) : methG MT m (.pure (.ins c fs)) = MT c m := by
  simp [methG, fldO, clsO, h]
theorem methG_i (MT : Str → Str → Option Nat) (m c : Str) (fs : List (Str × O)) (h : fs.lookup m = none) : methG MT m (.ins c fs) = MT c m := by
  simp [methG, fldO, clsO, h]
/-! new instances -/
theorem newE_a (c : Str) : newE c g = .ok (.val (.ins c [])) g := rfl
def mkE (rs : List R) (g : G) : CRes → Res R
  | .ok (.pure .non) (self :: os) => .ok (.val self) (puts rs os g)
  | .exc x (_ :: os) => .exc x (puts rs os g)
  | _ => .stuck
def mkD (C : Callee) (c : Str) (fn : Nat) (rs : List R) : Option (List O × G) → Res R
  | some (os, g) => mkE rs g (C fn (.ins c [] :: os))
  | none => .stuck
def mkC (C : Callee) (c : Str) (fn : Nat) (rs : List R) (g : G) : Res R := mkD C c fn rs (takes rs g)
theorem makeA_a (C : Callee) (c : Str) (fn : Nat) (As : List E) : makeA C c fn As g = (evs As g).bind (mkC C c fn) := by
  unfold makeA
  congr 1
theorem mkC_a (C : Callee) (c : Str) (fn : Nat) (rs : List R) : mkC C c fn rs g = mkD C c fn rs (takes rs g) := rfl
theorem mkD_s (C : Callee) (c : Str) (fn : Nat) (rs : List R) (os : List O) : mkD C c fn rs (some (os, g)) = mkE rs g (C fn (.ins c [] :: os)) := rfl
theorem mkE_o (rs : List R) (self : O) (os : List O) : mkE rs g (.ok (.pure .non) (self :: os)) = .ok (.val self) (puts rs os g) := rfl
end
/-! built-ins -/
theorem str_i (i : Int) (h : i.natAbs.log2 < 1920) : strO [.pure (.int i)] = some (.pure (.str (toString i : String))) := by simp [strO, h]
theorem sum_l (l : List Int) : sumO [.lst (l.map D.int)] = some (.pure (.int l.sum)) := by simp [sumO, intsD_map]
theorem ins_0 (l : List D) (d : D) (h : l.length < 16777216) : insO (.lst l) [.int 0, d] = some (.lst (d :: l), .non) := by simp [insO, h]
theorem pop_a (l : List D) (d : D) : popO (.lst (l ++ [d])) [] = some (.lst l, d) := by simp [popO]
theorem enum_l (l : List D) : enumI [.lst l] = some (enumL l) := rfl
theorem enum_pl (l : List D) : enumI [.pure (.lst l)] = some (enumL l) := rfl
theorem add_t (a b : List D) (h : a.length + b.length ≤ 16777216) : addO (.pure (.tup a)) (.pure (.tup b)) = some (.pure (.tup (a ++ b))) := by simp [addO, h]
theorem nodup_le {α : Type} [BEq α] [LawfulBEq α] : ∀ (l T : List α), l.Nodup → (∀ x ∈ l, x ∈ T) → l.length ≤ T.length
  | [], T, _, _ => by simp
  | x :: l, T, nd, h => by
    have hx := h x (by simp)
    have := nodup_le l (T.erase x) (List.nodup_cons.mp nd).2 fun y hy => by
      have : y ≠ x := fun e => (List.nodup_cons.mp nd).1 (e ▸ hy)
      exact (List.mem_erase_of_ne this).mpr (h y (List.mem_cons_of_mem _ hy))
    rw [List.length_erase_of_mem hx] at this
    have hp : 0 < T.length := List.length_pos_of_mem hx
    simp only [List.length_cons]
    omega
theorem cutL_map {α β : Type} (f : α → β) (l : List α) (lo hi : Option Int) : cutL (l.map f) lo hi = (cutL l lo hi).map f := by
  unfold cutL
  rw [List.length_map, ← List.map_drop, ← List.map_take]
theorem cutL_sub {α : Type} (l : List α) (lo hi : Option Int) : (cutL l lo hi).Sublist l := (List.take_sublist _ _).trans (List.drop_sublist _ _)
theorem eq_ints (l : List Int) : eqO (.lst (l.map D.int)) (.lst []) = some (.pure (.bl l.isEmpty)) := by
  rw [eqO_pl (a := .lst (l.map D.int)) (b := .lst []) rfl rfl (by simp [O.er]) (by simp [O.er]) (pl_le (n := 64) (pl_lst (n := 0) fun d hd => by
        obtain ⟨s, hs, rfl⟩ := List.mem_map.mp hd
        exact pl_int 0 _) (by omega)) (pl_le (pl_lst (n := 0) (by simp)) (by omega))]
  cases l <;> simp
theorem ne_strs (xs : List Str) (h : ∀ x ∈ xs, PyData.strOk x = true) : neO (.lst (xs.map D.str)) (.lst []) = some (.pure (.bl (!xs.isEmpty))) := by
  rw [neO_pl (a := .lst (xs.map D.str)) (b := .lst []) rfl rfl (by simp [O.er]) (by simp [O.er]) (pl_le (n := 64) (pl_lst (n := 0) fun d hd => by
        obtain ⟨s, hs, rfl⟩ := List.mem_map.mp hd
        exact pl_str 0 _ (h s hs)) (by omega)) (pl_le (pl_lst (n := 0) (by simp)) (by omega))]
  cases xs <;> simp
end VI
namespace VI
open PySem PySem.Spec PyProof.Rows L2
section
variable {W : Wd} {vs : List (Option V)} {Wx : WX} {X : Cx} {n : Nat}
/-! ### dict(d), d == e (alike) -/
theorem hu0 {k : Nat} (cx : Ctx W k Wx X) : X.A.units < cLine := by have := cx.room.un; omega
def dictO : List O → Option O
  | [.pure (.dic l)] => some (.dic l)
  | [.dic l] => some (.dic l)
  | _ => none
theorem cr_dictO : CallR X (.type "dict") (cO W dictO) := by
  intro pins s σ H us ws Q I r ⟨H0, os, o, ex, pr, e, gv⟩
  have dc : ∀ (oo : O) l, os = [oo] → (oo = .pure (.dic l) ∨ oo = .dic l) → o = .dic l → wpAny (model X.prog X.w) X.A (call (.type "dict") ws) (EP X pins σ Q) X.xe s := by
    intro oo l e1 h e2
    subst e1 e2
    obtain ⟨v, e4, _, r1⟩ := one_of pr
    obtain ⟨p, kvs, e5, hp, rf⟩ := dic_at ex r1 h
    exact call_dictD pins s σ H us ws Q I r ⟨p, kvs, by rw [e4, e5], .inl hp, fun q hq => gv _ _ H0 [q] (step_newL ex hq) (.dic upd_same rf)⟩
  unfold dictO at e
  split at e
  · cases e; exact dc _ _ rfl (.inl rfl) rfl
  · cases e; exact dc _ _ rfl (.inr rfl) rfl
  · cases e
def sameF : D → D → Bool
  | .int i, .int j => decide (i = j)
  | .str i, .str j => decide (i = j)
  | .non, .non => true
  | _, _ => false
def inDic (m : List (D × D)) (p : D × D) : Bool := match keyOf p.1 with
  | some k => match lookD m k with
    | some d => sameF d p.2
    | none => false
  | none => false
def dicOf : O → Option (List (D × D))
  | .pure (.dic l) => some l
  | .dic l => some l
  | _ => none
def eqDic (r : Bool) (x y : O) : Option O := match dicOf x, dicOf y with
  | some l, some m => if l.length = m.length ∧ l.all (inDic m) = true then some (.pure (.bl r)) else none
  | _, _ => none
theorem same_rep {H : Hp} {v w : V} {d e : D} (hv : RepF W H v d) (hw : RepF W H w e) (h : sameF d e = true) : v = w ∧ flatB w = true := by
  unfold sameF at h
  split at h
  · cases hv; cases hw; rw [decide_eq_true_eq] at h; subst h; exact ⟨rfl, rfl⟩
  · cases hv; cases hw; rw [decide_eq_true_eq] at h; subst h; exact ⟨rfl, rfl⟩
  · cases hv; cases hw; exact ⟨rfl, rfl⟩
  · cases h
theorem in_dic {H : Hp} {ls : List (Key × V)} {m : List (D × D)} (hm : RepFk W H ls m) : ∀ {ks : List (Key × V)} {l : List (D × D)}, RepFk W H ks l → l.all (inDic m) = true → ∀ p ∈ ks, valV ls p.1 = some p.2 ∧ flatB p.2 = true
  | _, _, .nil, _, p, hp => by simp at hp
  | _, _, .cons (k := k) (v := v) (d := d) (vs := kvs) (ds := l) h r, e, p, hp => by
    rw [List.all_cons, Bool.and_eq_true] at e
    rcases List.mem_cons.mp hp with rfl | hp
    · have e1 := e.1
      unfold inDic at e1
      simp only [keyOf_kD] at e1
      cases el : lookD m k with
      | none => rw [el] at e1; cases e1
      | some d' =>
        rw [el] at e1
        obtain ⟨w, h1, h2⟩ := (RepFk.val k hm).1 d' el
        obtain ⟨q1, q2⟩ := same_rep h2 h e1
        exact ⟨by rw [h1, q1], q2⟩
    · exact in_dic hm r e.2 p hp
theorem dic_rep {H0 H : Hp} {v : V} {o : O} {l : List (D × D)} {L : List Addr} (ex : Ex H0 H) (h : RepO W H0 H v o L) (ho : dicOf o = some l) : ∃ p kvs, v = .ref p ∧ H p = some (.dK kvs) ∧ RepFk W H0 kvs l := by
  unfold dicOf at ho
  split at ho
  · cases ho; exact dic_at ex h (.inl rfl)
  · cases ho; exact dic_at ex h (.inr rfl)
  · cases ho
theorem op_eqDic (hu : X.A.units < cLine) : OpR X (compareOp .Eq) (rO W (eqDic true)) := by
  intro pins s σ H x y v u Q I rx ry ⟨H0, ox, oy, Lx, Ly, o, ex, hx, hy, e, gv⟩
  unfold eqDic at e
  split at e
  · rename_i l m e1 e2
    split at e
    · rename_i hc
      cases e
      obtain ⟨p, ks, a1, a2, a3⟩ := dic_rep ex hx e1
      obtain ⟨q, ls, b1, b2, b3⟩ := dic_rep ex hy e2
      exact op_eq_dictA hu pins s σ H x y v u Q I rx ry ⟨p, q, ks, ls, a1, b1, a2, b2, by rw [a3.len, b3.len]; exact hc.1, in_dic b3 a3 hc.2, gv.atom ex (.bl _)⟩
    · cases e
  · cases e
theorem op_neDic (hu : X.A.units < cLine) : OpR X (compareOp .NotEq) (rO W (eqDic false)) := by
  intro pins s σ H x y v u Q I rx ry ⟨H0, ox, oy, Lx, Ly, o, ex, hx, hy, e, gv⟩
  unfold eqDic at e
  split at e
  · rename_i l m e1 e2
    split at e
    · rename_i hc
      cases e
      obtain ⟨p, ks, a1, a2, a3⟩ := dic_rep ex hx e1
      obtain ⟨q, ls, b1, b2, b3⟩ := dic_rep ex hy e2
      exact op_ne_dictA hu pins s σ H x y v u Q I rx ry ⟨p, q, ks, ls, a1, b1, a2, b2, by rw [a3.len, b3.len]; exact hc.1, in_dic b3 a3 hc.2, gv.atom ex (.bl _)⟩
    · cases e
  · cases e
def powO := intO (fun i j => decide (0 ≤ j) && (decide (j ≤ 1000000) && decide (i.natAbs < 18446744073709551616))) fun i j => i ^ j.toNat
theorem op_powO : OpR X (binaryOp .Pow) (rO W powO) := op_intO op_pow fun i j h => by
  simp only [Bool.and_eq_true, decide_eq_true_eq] at h
  exact ⟨h.1, h.2.1, h.2.2⟩
/-! ### text.index(sign) -/
def indexO : List O → Option O
  | [.pure (.str a), .pure (.str b)] => match Builtin.Str.occurrences a b 0 a.length 1 with
    | i :: _ => some (.pure (.int (i : Nat)))
    | [] => none
  | _ => none
theorem mt_indexO : MtR X "str.index" (mO W indexO) := by
  intro pins s σ H x xs v us Q I rx rs ⟨H0, os, o, ex, pr, e, gv⟩
  unfold indexO at e
  split at e
  · rename_i a b
    obtain ⟨a1, a2, e1, ⟨_, r1⟩, ⟨_, r2⟩⟩ := two_of pr
    split at e
    · rename_i i rest ho
      cases e
      cases e1
      exact mt_sindex pins s σ H _ _ v us Q I rx rs ⟨a, b, i, rest, atom_str r1, by rw [atom_str r2], ho, gv.atom ex (.int _)⟩
    · cases e
  · cases e
/-! ### isinstance(x, an own class) -/
abbrev ITab := List (Str × Str × Bool)
def itOf (T : ITab) (c d : Str) : Option Bool := (T.find? fun e => decide (e.1 = c) && decide (e.2.1 = d)).map (·.2.2)
theorem it_of {T : ITab} {P : Str → Str → Bool → Prop} (h : ∀ e ∈ T, P e.1 e.2.1 e.2.2) {c d : Str} {b : Bool} (q : itOf T c d = some b) : P c d b := by
  unfold itOf at q
  obtain ⟨e, h1, h2⟩ := Option.map_eq_some_iff.mp q
  have hm := h e (List.mem_of_find?_eq_some h1)
  have hp := List.find?_some h1
  simp only [Bool.and_eq_true, decide_eq_true_eq] at hp
  rw [hp.1, hp.2, h2] at hm
  exact hm
def IsAt (W : Wd) (c d : Str) (b : Bool) : Prop := ∃ Ca Da, W.cl c = some Ca ∧ W.cl d = some Da ∧ Cls W.K Ca ∧ PySem.W.findIn W.K (.ref Ca) "__class__" = some (some (.builtin "object.__class__")) ∧
  PySem.W.specialIn W.K (.builtin "object.__class__") "__get__" = some (some (.builtin "getset_descriptor.__get__")) ∧ PySem.W.takesIn W.K (.builtin "object.__class__") = some true ∧ PySem.W.mroIn W.K Ca (.type "object") = some true ∧ PySem.W.kitOne W.K (.ref Ca) (.ref Da) = some b
def isiC (T : ITab) : List O → Option O
  | [x, .pure (.cls d)] => ((clsO x).bind fun c => itOf T c d).map fun b => .pure (.bl b)
  | _ => none
theorem cr_isiC {T : ITab} (hK : X.K = W.K) (hT : ∀ {c d : Str} {b : Bool}, itOf T c d = some b → IsAt W c d b) : CallR X (.builtin "isinstance") (cO W (isiC T)) := by
  intro pins s σ H us ws Q I r ⟨H0, os, o, ex, pr, e, gv⟩
  unfold isiC at e
  split at e
  · rename_i x d
    obtain ⟨v, w, e1, ⟨_, r1⟩, ⟨_, r2⟩⟩ := two_of pr
    obtain ⟨b, e2, e3⟩ := Option.map_eq_some_iff.mp e
    subst e3
    obtain ⟨c, e4, e5⟩ := Option.bind_eq_some_iff.mp e2
    obtain ⟨Ca, Da, h1, h2, h3, h4, h5, h6, h7, h8⟩ := hT e5
    have hw : w = .ref Da := by
      cases r2 with
      | pure f => cases f with
        | cls q => rw [h2] at q; cases q; rfl
    have hx : ∃ p dx fs, v = .ref p ∧ H p = some (.ins Ca dx fs) := by
      unfold clsO at e4
      split at e4
      · cases e4
        cases r1 with
        | pure f => cases f with
          | ins q1 q2 q3 => rw [h1] at q2; cases q2; exact ⟨_, _, _, rfl, ex _ _ q1⟩
      · cases e4
        cases r1 with
        | ins q1 q2 q3 => rw [h1] at q2; cases q2; exact ⟨_, _, _, rfl, q1⟩
      · cases e4
    obtain ⟨p, dx, fs, ev, hp⟩ := hx
    rw [← hK] at h3 h4 h5 h6 h7 h8
    exact call_isi pins s σ H us ws Q I r ⟨v, w, .ref Ca, .ref Da, b, e1, by rw [hw]; exact .own Da, by rw [ev]; exact .base (.ins hp h3 h4 h5 h6 h7), h8, gv.atom ex (.bl _)⟩
  · cases e
end
end VI
namespace VI
open PySem PySem.Spec PyProof.Rows L2
section
variable {W : Wd} {vs : List (Option V)} {Wx : WX} {X : Cx} {n : Nat}
/-! ### a < b < c -/
def chE (f f' : O → O → Option O) (A B C : E) : E := fun g => (A g).bind fun r g1 => (B g1).bind fun s g2 => match ob g2 r, ob g2 s with
  | some x, some (.pure d) => match f x (.pure d) with
    | some (.pure (.bl true)) => (C g2).bind fun w g3 => match (ob g3 w).bind (f' (.pure d)) with
      | some o => .ok (.val o) g3
      | none => .stuck
    | some (.pure (.bl false)) => .ok (.val (.pure (.bl false))) g2
    | _ => .stuck
  | _, _ => .stuck
theorem tE_chain {f f' : O → O → Option O} {A B C : E} : ∀ σ H Q, tE W vs Wx (chE f f' A B C) σ H Q → tChain (rO W f) (rO W f') (tE W vs Wx A) (tE W vs Wx B) (tE W vs Wx C) σ H Q := fun σ H Q ⟨H0, L, g, sp, en, post⟩ => by
  refine ⟨H0, L, g, sp, en, ?_⟩
  unfold chE at post
  cases ea : A g with
  | stuck => rw [ea] at post; exact post.elim
  | exc x g' => rw [ea] at post; exact post
  | ok r g1 =>
    rw [ea] at post
    intro v H1 H01 Lr L1 st1 rr en1
    refine ⟨H01, L1, g1, st1.sep.right, en1, ?_⟩
    simp only [Res.bind] at post
    cases eb : B g1 with
    | stuck => rw [eb] at post; exact post.elim
    | exc x g' =>
      rw [eb] at post
      intro c d H' H0' L' st2 rx en2
      exact post c d H' H0' L' (st1.then st2).right rx en2
    | ok s g2 =>
      rw [eb] at post
      intro w H2 H02 Ls Lq st2 rs en2
      simp only at post
      have st := st1.then st2
      have rr2 : RepR W H02 H2 σ v r Lr := rr.mono st2.ex0 (Step.keepL st1.sep st2)
      have hcase : ∃ x d k, ob g2 r = some x ∧ ob g2 s = some (.pure d) ∧ f x (.pure d) = some (.pure (.bl k)) := by
        cases e1 : ob g2 r with
        | none => rw [e1] at post; exact post.elim
        | some x =>
          cases e2 : ob g2 s with
          | none => rw [e1, e2] at post; exact post.elim
          | some y =>
            rw [e1, e2] at post
            cases y with
            | pure d =>
              simp only at post
              cases e3 : f x (.pure d) with
              | none => rw [e3] at post; exact post.elim
              | some o =>
                rw [e3] at post
                cases o with
                | pure q => cases q with
                  | bl k => exact ⟨x, d, k, rfl, rfl, e3⟩
                  | _ => exact post.elim
                | _ => exact post.elim
            | _ => exact post.elim
      obtain ⟨x, d, k, e1, e2, e3⟩ := hcase
      rw [e1, e2] at post
      simp only [e3] at post
      obtain ⟨Lx, hx, _⟩ := ob_rep en2 rr2 e1
      obtain ⟨Ly, hy, _⟩ := ob_rep en2 rs e2
      have hy0 : RepF W H02 w d := by cases hy with | pure q => exact q
      refine ⟨H02, x, .pure d, Lx, Ly, .pure (.bl k), st2.sep.ex, hx, hy, e3, fun z H3 H03 Lo s3 rz => ⟨k, atom_bl rz, ?_⟩⟩
      have st' : Step H0 H L H02 H2 ((Lr ++ Ls) ++ Lq) := by simpa [List.append_assoc] using st
      have spq : Sep H02 H2 (Lq ++ []) := by simpa using st'.sep.right
      have s4 : Step H02 H2 Lq H03 H3 Lq := by
        have : Step H02 H2 (Lq ++ []) H03 H3 (Lq ++ Lo) := Step.frame spq s3
        have h5 : Step H02 H2 Lq H03 H3 (Lq ++ Lo) := by simpa using this
        exact h5.sub (fun a ha => List.mem_append_left _ ha) (List.nodup_append.mp h5.sep.nd).1
      have en3 : EnvR W H03 H3 vs σ g2 Lq := en2.mono s3.ex0 (Step.keepL spq s3)
      have stt : Step H0 H L H03 H3 ((Lr ++ Ls) ++ Lq) := st'.then s4
      cases k with
      | false =>
        rw [if_neg Bool.false_ne_true]
        exact post (.bl false) H3 H03 [] Lq (by simpa using stt.right) (.pure (.bl false)) en3
      | true =>
        rw [if_pos rfl]
        simp only at post
        refine ⟨H03, Lq, g2, stt.sep.right, en3, ?_⟩
        cases ec : C g2 with
        | stuck => rw [ec] at post; exact post.elim
        | exc x g' =>
          rw [ec] at post
          intro c d' H' H0' L' st5 rx en5
          exact post c d' H' H0' L' (stt.then st5).right rx en5
        | ok wv g3 =>
          rw [ec] at post
          intro u H4 H04 Lw L4 st5 rw5 en5
          simp only at post
          cases eo : (ob g3 wv).bind (f' (.pure d)) with
          | none => rw [eo] at post; exact post.elim
          | some o =>
            rw [eo] at post
            obtain ⟨zz, h1, h2⟩ := Option.bind_eq_some_iff.mp eo
            obtain ⟨Lz, hz, _⟩ := ob_rep en5 rw5 h1
            have s6 := stt.then st5
            exact ⟨H04, .pure d, zz, [], Lz, o, st5.sep.ex, .pure ((hy0.mono s3.ex0).mono st5.ex0), hz, h2, gives_of (Lt := (Lr ++ Ls) ++ Lw) (by simpa [List.append_assoc] using s6) en5 post⟩
theorem se_chain {op op' : CmpOp} {a b c : Expr} {pos : Pos} {A B C : E} {f f' : O → O → Option O} (ho : OpR X (compareOp op) (rO W f)) (ho' : OpR X (compareOp op') (rO W f')) (ha : SE W vs Wx X a A) (hb : SE W vs Wx X b B) (hc : SE W vs Wx X c C)
    (hm : lastMarks [op, op'] [b, c] = false := by with_unfolding_all rfl) : SE W vs Wx X (.Compare a [op, op'] [b, c] pos) (chE f f' A B C) :=
  pe_weak (pe_chain ho ho' ha hb hc hm) tE_chain
theorem st_chain {op op' : CmpOp} {a b c : Expr} {pos : Pos} {A B C : E} {f f' : O → O → Option O} (ho : OpR X (compareOp op) (rO W f)) (ho' : OpR X (compareOp op') (rO W f')) (ha : SE W vs Wx X a A) (hb : SE W vs Wx X b B) (hc : SE W vs Wx X c C)
    (hm : lastMarks [op, op'] [b, c] = false := by with_unfolding_all rfl) : ST W vs Wx X (.Compare a [op, op'] [b, c] pos) (blT (chE f f' A B C)) :=
  pt_weak (pt_chain ho ho' ha hb hc hm) fun σ H Q q => by
    have h := tT_bl σ H Q q
    exact tE_chain σ H _ h
/-! ### x is True -/
def isBlO (neg : Bool) : O → O → Option O
  | .pure (.bl a), .pure (.bl b) => some (.pure (.bl (neg.xor (decide (a = b)))))
  | _, _ => none
theorem op_isBlO : OpR X (compareOp .Is) (rO W (isBlO false)) := by
  intro pins s σ H x y v u Q I rx ry ⟨H0, ox, oy, Lx, Ly, o, ex, hx, hy, e, gv⟩
  unfold isBlO at e
  split at e
  · rename_i a b
    cases e
    exact op_isBl pins s σ H x y v u Q I rx ry ⟨a, b, atom_bl hx, atom_bl hy, by simpa using gv.atom ex (.bl _)⟩
  · cases e
theorem op_ntBlO : OpR X (compareOp .IsNot) (rO W (isBlO true)) := by
  intro pins s σ H x y v u Q I rx ry ⟨H0, ox, oy, Lx, Ly, o, ex, hx, hy, e, gv⟩
  unfold isBlO at e
  split at e
  · rename_i a b
    cases e
    exact op_notBl pins s σ H x y v u Q I rx ry ⟨a, b, atom_bl hx, atom_bl hy, by simpa using gv.atom ex (.bl _)⟩
  · cases e
/-! ### n += e, whole numbers -/
def augS (f : Int → Int → Int) (i : Nat) (A : E) : S := fun g => match ob g (.slot i) with
  | some (.pure (.int a)) => (A g).bind fun r g1 => match ob g1 r with
    | some (.pure (.int b)) => match storeS i (.pure (.int (f a b))) g1 with
      | some g2 => .ok .next g2
      | none => .stuck
    | _ => .stuck
  | _ => .stuck
theorem ss_aug {f : Int → Int → Int} {op : Operator} {i : Nat} {x : Str} {e : Expr} {pos pos' : Pos} {A : E} (h : SE W vs Wx X e A)
    (run : ∀ {te : TE}, PE X e te → PS X (.AugAssign (.Name x pos') op e pos) (tAug i te (ipI f))) : SS W vs Wx X (.AugAssign (.Name x pos') op e pos) (augS f i A) := by
  refine ps_weak (run h) fun De σ H ⟨H0, L, g, sp, en, post⟩ => ?_
  unfold augS at post
  have hcase : ∃ a, ob g (.slot i) = some (.pure (.int a)) := by
    cases eo : ob g (.slot i) with
    | none => rw [eo] at post; exact post.elim
    | some o =>
      rw [eo] at post
      cases o with
      | pure d => cases d with
        | int a => exact ⟨a, rfl⟩
        | _ => exact post.elim
      | _ => exact post.elim
  obtain ⟨a, ea⟩ := hcase
  rw [ea] at post
  simp only [ob, Option.bind_eq_some_iff] at ea
  obtain ⟨sl, e1, e2⟩ := ea
  obtain ⟨v, La, Lo, Lb, h1, h2, h3, _⟩ := en.at e1 e2
  refine ⟨v, h1, H0, L, g, sp, en, ?_⟩
  have hv := atom_int h2
  simp only at post
  cases ec : A g with
  | stuck => rw [ec] at post; exact post.elim
  | exc x g' => rw [ec] at post; exact fun c d H' H0' L' s2 rx en2 => post c d σ H' H0' L' s2 rx en2
  | ok r g1 =>
    rw [ec] at post
    intro y H1 H01 Lr L1 st1 rr en1
    simp only [Res.bind] at post
    have hc2 : ∃ b, ob g1 r = some (.pure (.int b)) := by
      cases eo : ob g1 r with
      | none => rw [eo] at post; exact post.elim
      | some o =>
        rw [eo] at post
        cases o with
        | pure d => cases d with
          | int b => exact ⟨b, rfl⟩
          | _ => exact post.elim
        | _ => exact post.elim
    obtain ⟨b, eb⟩ := hc2
    rw [eb] at post
    simp only at post
    obtain ⟨Ly, hy, _⟩ := ob_rep en1 rr eb
    have hy2 := atom_int hy
    cases es : storeS i (.pure (.int (f a b))) g1 with
    | none => rw [es] at post; exact post.elim
    | some g2 =>
      rw [es] at post
      obtain ⟨Lq, s2, en2⟩ := store_ok' (Lr := []) (v := .int (f a b)) (by simpa using st1.sep.right) en1 (.pure (.int _)) es
      exact ⟨a, b, hv, hy2, post (σ.set i (some (.int (f a b)))) H1 H01 Lq (st1.right.trans (by simpa using s2)) en2⟩
end
end VI
namespace L2
open PySem PySem.Spec PyProof.Rows
section
variable {X : Cx}
/-- l.count(x), flat things of any kind -/
def rCntF (K : PySem.W.Frag) : V → List V → Hp → VK → Prop := fun x xs H Q => ∃ (p : Addr) (ys : List V) (y : V), x = .ref p ∧ xs = [y] ∧ SqL K H p ys ∧ flatV y = true ∧ ys.all flatV = true ∧ Q (.int (ys.countP fun z => eqV z y : Nat)) H
theorem count_vals {y : V} : ∀ {ys : List V} {its : List Value}, Vals ys its → ys.all flatV = true → its.countP (eqU y) = ys.countP fun z => eqV z y
  | _, _, .nil, _ => rfl
  | _, _, .cons r t, h => by
    rw [List.all_cons, Bool.and_eq_true] at h
    rw [List.countP_cons, List.countP_cons, count_vals t h.2, eqU_of r h.1]
theorem mt_countF : MtR X "list.count" (rCntF X.K) := by
  intro pins s σ H x xs v us Q I rx rxs h
  obtain ⟨p, ys, y, rfl, rfl, hs, fy, fys, q⟩ := h
  cases rx
  cases rxs with
  | cons ry rt =>
    rename_i uy ut
    cases rt
    obtain ⟨its, rv, ⟨⟨cls, dd, data, sl⟩, n, ho, hc, hdn, hd⟩, hlen⟩ := I.list hs
    simp only at hc hd
    subst hc hd
    refine call_meets PySem.F.slot_list_count ⟨_, ho, rfl⟩ PySem.F.entry_list_count (PySem.F.args_list_count_2 _ _)
      (SeqAt.list_countAt p its.toArray n dd sl uy (eqU y)) ⟨ho, fun u' hu' => mem_eqAt ry fy rv fys u' (by simpa using hu'), ?_⟩
    have ec : its.toArray.toList.countP (eqU y) = ys.countP fun z => eqV z y := count_vals rv fys
    refine ⟨.int (ys.countP fun z => eqV z y : Nat), H, I.tok _, ⟨s.toks, ?_⟩, q⟩
    show Value.int ((its.toArray.toList.countP (eqU y) : Nat) : Int) s.toks = Value.int ((ys.countP fun z => eqV z y : Nat) : Int) s.toks
    rw [ec]
end
end L2
namespace VI
open PySem PySem.Spec PyProof.Rows L2
section
variable {W : Wd} {vs : List (Option V)} {Wx : WX} {X : Cx} {n : Nat}
theorem eqA_rep {H : Hp} {x v : V} {dx d : D} {b : Bool} (hx : RepF W H x dx) (hv : RepF W H v d) (e : eqA d dx = some b) : flatV v = true ∧ flatV x = true ∧ eqV v x = b := by
  unfold eqA at e
  split at e <;> first | (cases e; cases hv; cases hx; exact ⟨rfl, rfl, rfl⟩) | cases e
def cntA (x : D) : List D → Option Nat
  | [] => some 0
  | y :: ys => match eqA y x, cntA x ys with
    | some b, some c => some (if b then c + 1 else c)
    | _, _ => none
theorem cntA_rep {H : Hp} {x : V} {dx : D} (hx : RepF W H x dx) : ∀ {us : List V} {l : List D} {c : Nat}, RepFs W H us l → cntA dx l = some c → us.all flatV = true ∧ (us.countP fun z => eqV z x) = c
  | _, _, c, .nil, e => by cases e; exact ⟨rfl, rfl⟩
  | _, _, c, .cons (v := v) (d := d) (vs := us) (ds := ds) h r, e => by
    rw [cntA] at e
    cases e1 : eqA d dx with
    | none => rw [e1] at e; cases e
    | some b =>
      cases e2 : cntA dx ds with
      | none => rw [e1, e2] at e; cases e
      | some k =>
        rw [e1, e2] at e
        obtain ⟨h1, h2⟩ := cntA_rep hx r e2
        obtain ⟨q1, q2, q3⟩ := eqA_rep hx h e1
        refine ⟨by rw [List.all_cons, q1, h1]; rfl, ?_⟩
        rw [List.countP_cons, q3, h2]
        cases e
        cases b <;> rfl
def countO : List O → Option O
  | [o, .pure x] => if flatD x then (elemsO o).bind fun l => match o with
      | .pure (.tup _) => none
      | _ => (cntA x l).map fun c => .pure (.int (c : Nat))
    else none
  | _ => none
theorem flat_repV {H : Hp} {x : V} {d : D} (h : RepF W H x d) (f : flatD d = true) : flatV x = true := by
  cases h <;> first | rfl | cases f
theorem mt_countO (hK : X.K = W.K) : MtR X "list.count" (mO W countO) := by
  intro pins s σ H x xs v us Q I rx rs ⟨H0, os, o, ex, pr, e, gv⟩
  unfold countO at e
  split at e
  · rename_i oo d
    obtain ⟨a1, a2, e1, ⟨_, r1⟩, ⟨_, r2⟩⟩ := two_of pr
    cases e1
    split at e
    · rename_i hf
      have fx : RepF W H0 a2 d := by cases r2 with | pure q => exact q
      have go : ∀ l c, (oo = .pure (.lst l) ∨ oo = .lst l) → cntA d l = some c → o = .pure (.int (c : Nat)) → wpAny (model X.prog X.w) X.A (call (.builtin "list.count") (v :: us)) (EP X pins σ Q) X.xe s := by
        intro l c ho hc ho2
        subst ho2
        obtain ⟨p, ws, e2, hs, rf⟩ := sql_of ex r1 ho
        obtain ⟨h1, h2⟩ := cntA_rep fx rf hc
        rw [← hK] at hs
        exact mt_countF pins s σ H _ _ v us Q I rx rs ⟨p, ws, a2, e2, rfl, hs, flat_repV fx hf, h1, by rw [h2]; exact gv.atom ex (.int _)⟩
      obtain ⟨l, e2, e3⟩ := Option.bind_eq_some_iff.mp e
      unfold elemsO at e2
      split at e2
      · cases e2
        obtain ⟨c, h1, h2⟩ := Option.map_eq_some_iff.mp e3
        exact go _ c (.inl rfl) h1 h2.symm
      · cases e2
        obtain ⟨c, h1, h2⟩ := Option.map_eq_some_iff.mp e3
        exact go _ c (.inr rfl) h1 h2.symm
      · cases e3
      · cases e2
    · cases e
  · cases e
def idxA (x : D) : List D → Option Nat
  | [] => none
  | y :: ys => match eqA y x with
    | some true => if (anyA x ys).isSome then some 0 else none
    | some false => (idxA x ys).map (· + 1)
    | none => none
theorem idxA_rep {H : Hp} {x : V} {dx : D} (hx : RepF W H x dx) : ∀ {us : List V} {l : List D} {j : Nat}, RepFs W H us l → idxA dx l = some j → us.all flatV = true ∧ ∃ z, us[j]? = some z ∧ eqV z x = true ∧ ∀ (m : Nat) (z' : V), m < j → us[m]? = some z' → eqV z' x = false
  | _, _, j, .nil, e => by cases e
  | _, _, j, .cons (v := v) (d := d) (vs := us) (ds := ds) h r, e => by
    rw [idxA] at e
    cases e1 : eqA d dx with
    | none => rw [e1] at e; cases e
    | some b =>
      obtain ⟨q1, q2, q3⟩ := eqA_rep hx h e1
      rw [e1] at e
      cases b with
      | true =>
        simp only at e
        split at e
        · rename_i hs
          cases e
          obtain ⟨c, hc⟩ := Option.isSome_iff_exists.mp hs
          obtain ⟨h1, _⟩ := anyA_rep hx r hc
          exact ⟨by rw [List.all_cons, q1, h1]; rfl, v, rfl, q3, fun m z' hm => absurd hm (Nat.not_lt_zero _)⟩
        · cases e
      | false =>
        simp only at e
        obtain ⟨k, h1, h2⟩ := Option.map_eq_some_iff.mp e
        subst h2
        obtain ⟨g1, z, g2, g3, g4⟩ := idxA_rep hx r h1
        refine ⟨by rw [List.all_cons, q1, g1]; rfl, z, by simpa using g2, g3, fun m z' hm hz => ?_⟩
        cases m with
        | zero => simp at hz; subst hz; exact q3
        | succ m => exact g4 m z' (by omega) (by simpa using hz)
def lindexO : List O → Option O
  | [.pure (.lst l), .pure x] => if flatD x then (idxA x l).map fun c => .pure (.int (c : Nat)) else none
  | [.lst l, .pure x] => if flatD x then (idxA x l).map fun c => .pure (.int (c : Nat)) else none
  | _ => none
theorem mt_lindexO (hK : X.K = W.K) : MtR X "list.index" (mO W lindexO) := by
  intro pins s σ H x xs v us Q I rx rs ⟨H0, os, o, ex, pr, e, gv⟩
  have go : ∀ oo d l, os = [oo, .pure d] → (oo = .pure (.lst l) ∨ oo = .lst l) → flatD d = true → (idxA d l).map (fun c => O.pure (.int (c : Nat))) = some o → wpAny (model X.prog X.w) X.A (call (.builtin "list.index") (v :: us)) (EP X pins σ Q) X.xe s := by
    intro oo d l h0 ho hf hm
    subst h0
    obtain ⟨a1, a2, e1, ⟨_, r1⟩, ⟨_, r2⟩⟩ := two_of pr
    cases e1
    obtain ⟨c, h1, h2⟩ := Option.map_eq_some_iff.mp hm
    subst h2
    have fx : RepF W H0 a2 d := by cases r2 with | pure q => exact q
    obtain ⟨p, ws, e2, hs, rf⟩ := sql_of ex r1 ho
    obtain ⟨g1, z, g2, g3, g4⟩ := idxA_rep fx rf h1
    rw [← hK] at hs
    exact mt_index pins s σ H _ _ v us Q I rx rs ⟨p, ws, a2, c, z, e2, rfl, hs, flat_repV fx hf, g1, g2, g3, g4, gv.atom ex (.int _)⟩
  unfold lindexO at e
  split at e
  · split at e
    · rename_i hf; exact go _ _ _ rfl (.inl rfl) hf e
    · cases e
  · split at e
    · rename_i hf; exact go _ _ _ rfl (.inr rfl) hf e
    · cases e
  · cases e
end
end VI
namespace VI
open PySem PySem.Spec PyProof.Rows L2
/-! ### loops and comprehensions in general -/
theorem compL_one {own : List Nat} {t : T} {cond : G → Res Bool} {elt : E} {d y : D} {g g' : G} (h : compL own t cond elt [d] g [] = some ([y], g')) (ds acc : List D) (ha : acc.length < 16777216) : compL own t cond elt (d :: ds) g acc = compL own t cond elt ds g' (acc ++ [y]) := by
  simp only [compL] at h ⊢
  cases e1 : t d (wipeG own g) with
  | none => rw [e1] at h; cases h
  | some g1 =>
    rw [e1] at h
    simp only at h ⊢
    cases e2 : cond g1 with
    | stuck => rw [e2] at h; cases h
    | exc x g2 => rw [e2] at h; cases h
    | ok b g2 =>
      rw [e2] at h
      cases b with
      | false =>
        simp only at h
        split at h <;> simp at h
      | true =>
        simp only at h ⊢
        cases e3 : elt g2 with
        | stuck => rw [e3] at h; cases h
        | exc x g2 => rw [e3] at h; cases h
        | ok r g3 =>
          rw [e3] at h
          simp only at h ⊢
          cases e4 : frzs [r] g3 with
          | none => rw [e4] at h; simp at h
          | some p =>
            obtain ⟨ys, g4⟩ := p
            rw [e4] at h
            match ys with
            | [] => simp at h
            | [z] =>
              simp only at h ⊢
              by_cases hp : own.all (isPure g4) = true
              · simp only [hp, List.length_nil, and_true, ha, if_true] at h ⊢
                simp at h
                rw [h.1, h.2]
              · simp [hp] at h
            | z :: z2 :: zs => simp at h
theorem compL_none {own : List Nat} {t : T} {cond : G → Res Bool} {elt : E} {d : D} {g g' : G} (h : compL own t cond elt [d] g [] = some ([], g')) (ds acc : List D) : compL own t cond elt (d :: ds) g acc = compL own t cond elt ds g' acc := by
  simp only [compL] at h ⊢
  cases e1 : t d (wipeG own g) with
  | none => rw [e1] at h; cases h
  | some g1 =>
    rw [e1] at h
    simp only at h ⊢
    cases e2 : cond g1 with
    | stuck => rw [e2] at h; cases h
    | exc x g2 => rw [e2] at h; cases h
    | ok b g2 =>
      rw [e2] at h
      cases b with
      | false =>
        simp only at h ⊢
        by_cases hp : own.all (isPure g2) = true
        · simp only [hp, if_true] at h ⊢
          simp at h
          rw [h]
        · simp [hp] at h
      | true =>
        simp only at h ⊢
        cases e3 : elt g2 with
        | stuck => rw [e3] at h; cases h
        | exc x g2 => rw [e3] at h; cases h
        | ok r g3 =>
          rw [e3] at h
          simp only at h ⊢
          cases e4 : frzs [r] g3 with
          | none => rw [e4] at h; simp at h
          | some p =>
            obtain ⟨ys, g4⟩ := p
            rw [e4] at h
            match ys with
            | [] => simp at h
            | [z] =>
              simp only at h
              split at h <;> simp at h
            | z :: z2 :: zs => simp at h
/-- a comprehension over `as` without a condition: `G` says how the frame stands by the state of what the comprehension's own names hold -/
theorem comp_map {α σ : Type} {own : List Nat} {t : T} {cond : G → Res Bool} {elt : E} (Gf : σ → G) (I : σ → Prop) (enc f : α → D) : ∀ (as : List α), (∀ a ∈ as, ∀ s, I s → ∃ s', I s' ∧ compL own t cond elt [enc a] (Gf s) [] = some ([f a], Gf s')) →
    ∀ (acc : List D), acc.length + as.length < 16777216 → ∀ s, I s → ∃ s', I s' ∧ compL own t cond elt (as.map enc) (Gf s) acc = some (acc ++ as.map f, Gf s')
  | [], _, acc, _, s, hs => ⟨s, hs, by simp [compL]⟩
  | a :: as, h, acc, hl, s, hs => by
    obtain ⟨s1, i1, e1⟩ := h a (by simp) s hs
    obtain ⟨s2, i2, e2⟩ := comp_map Gf I enc f as (fun b hb => h b (List.mem_cons_of_mem _ hb)) (acc ++ [f a]) (by simp at hl ⊢; omega) s1 i1
    refine ⟨s2, i2, ?_⟩
    rw [List.map_cons, compL_one e1 _ _ (by simp at hl; omega), e2]
    simp
/-- with a condition -/
theorem comp_filter {α σ : Type} {own : List Nat} {t : T} {cond : G → Res Bool} {elt : E} (Gf : σ → G) (I : σ → Prop) (enc f : α → D) (p : α → Bool) : ∀ (as : List α), (∀ a ∈ as, ∀ s, I s → ∃ s', I s' ∧ compL own t cond elt [enc a] (Gf s) [] = some (if p a then [f a] else [], Gf s')) →
    ∀ (acc : List D), acc.length + as.length < 16777216 → ∀ s, I s → ∃ s', I s' ∧ compL own t cond elt (as.map enc) (Gf s) acc = some (acc ++ (as.filter p).map f, Gf s')
  | [], _, acc, _, s, hs => ⟨s, hs, by simp [compL]⟩
  | a :: as, h, acc, hl, s, hs => by
    obtain ⟨s1, i1, e1⟩ := h a (by simp) s hs
    by_cases hp : p a = true
    · rw [if_pos hp] at e1
      obtain ⟨s2, i2, e2⟩ := comp_filter Gf I enc f p as (fun b hb => h b (List.mem_cons_of_mem _ hb)) (acc ++ [f a]) (by simp at hl ⊢; omega) s1 i1
      refine ⟨s2, i2, ?_⟩
      rw [List.map_cons, compL_one e1 _ _ (by simp at hl; omega), e2, List.filter_cons, if_pos hp]
      simp
    · rw [if_neg hp] at e1
      obtain ⟨s2, i2, e2⟩ := comp_filter Gf I enc f p as (fun b hb => h b (List.mem_cons_of_mem _ hb)) acc (by simp at hl ⊢; omega) s1 i1
      refine ⟨s2, i2, ?_⟩
      rw [List.map_cons, compL_none e1, e2, List.filter_cons, if_neg hp]
inductive All2 {α β : Type} (P : α → β → Prop) : List α → List β → Prop
  | nil : All2 P [] []
  | cons {a : α} {b : β} {as : List α} {bs : List β} : P a b → All2 P as bs → All2 P (a :: as) (b :: bs)
theorem All2.len {α β : Type} {P : α → β → Prop} {as : List α} {bs : List β} (h : All2 P as bs) : bs.length = as.length := by
  induction h with
  | nil => rfl
  | cons _ _ ih => simp [ih]
theorem All2.mem {α β : Type} {P : α → β → Prop} {as : List α} {bs : List β} (h : All2 P as bs) : ∀ b ∈ bs, ∃ a ∈ as, P a b := by
  induction h with
  | nil => simp
  | cons p _ ih =>
    intro b hb
    rcases List.mem_cons.mp hb with rfl | hb
    · exact ⟨_, by simp, p⟩
    · obtain ⟨a, ha, q⟩ := ih b hb
      exact ⟨a, List.mem_cons_of_mem _ ha, q⟩
/-- a comprehension whose items are not told one by one: each has what `P` says -/
theorem comp_ex {α β σ : Type} {own : List Nat} {t : T} {cond : G → Res Bool} {elt : E} (Gf : σ → G) (I : σ → Prop) (enc : α → D) (out : β → D) (P : α → β → Prop) : ∀ (as : List α), (∀ a ∈ as, ∀ s, I s → ∃ s' b, I s' ∧ P a b ∧ compL own t cond elt [enc a] (Gf s) [] = some ([out b], Gf s')) →
    ∀ (acc : List D), acc.length + as.length < 16777216 → ∀ s, I s → ∃ (s' : σ) (bs : List β), I s' ∧ All2 P as bs ∧ compL own t cond elt (as.map enc) (Gf s) acc = some (acc ++ bs.map out, Gf s')
  | [], _, acc, _, s, hs => ⟨s, [], hs, .nil, by simp [compL]⟩
  | a :: as, h, acc, hl, s, hs => by
    obtain ⟨s1, b, i1, p1, e1⟩ := h a (by simp) s hs
    obtain ⟨s2, bs, i2, p2, e2⟩ := comp_ex Gf I enc out P as (fun b hb => h b (List.mem_cons_of_mem _ hb)) (acc ++ [out b]) (by simp at hl ⊢; omega) s1 i1
    refine ⟨s2, b :: bs, i2, .cons p1 p2, ?_⟩
    rw [List.map_cons, compL_one e1 _ _ (by simp at hl; omega), e2]
    simp
theorem loop_one {t : T} {body : S} {d : D} {g g' : G} (h : loopS t body [d] g = .ok .next g') (ds : List D) : loopS t body (d :: ds) g = loopS t body ds g' ∨ loopS t body (d :: ds) g = .ok .next g' := by
  simp only [loopS] at h ⊢
  cases e1 : t d g with
  | none => rw [e1] at h; cases h
  | some g1 =>
    rw [e1] at h
    simp only at h ⊢
    cases e2 : body g1 with
    | stuck => rw [e2] at h; cases h
    | exc x g2 => rw [e2] at h; cases h
    | ok f g2 =>
      rw [e2] at h
      cases f with
      | next => simp only [Res.bind] at h ⊢; cases h; exact .inl rfl
      | cont => simp only [Res.bind] at h ⊢; cases h; exact .inl rfl
      | brk => simp only [Res.bind] at h ⊢; cases h; exact .inr rfl
      | ret o => simp only [Res.bind] at h; cases h
/-- one turn that goes on -/
def turnS (t : T) (body : S) (d : D) (g : G) : Option G := match t d g with
  | some g1 => match body g1 with
    | .ok .next g2 => some g2
    | .ok .cont g2 => some g2
    | _ => none
  | none => none
theorem loop_turn {t : T} {body : S} {d : D} {g g' : G} (h : turnS t body d g = some g') (ds : List D) : loopS t body (d :: ds) g = loopS t body ds g' := by
  unfold turnS at h
  simp only [loopS]
  cases e1 : t d g with
  | none => rw [e1] at h; cases h
  | some g1 =>
    rw [e1] at h
    simp only at h ⊢
    cases e2 : body g1 with
    | stuck => rw [e2] at h; cases h
    | exc x g2 => rw [e2] at h; cases h
    | ok f g2 =>
      rw [e2] at h
      cases f with
      | next => simp only [Option.some.injEq] at h; subst h; rfl
      | cont => simp only [Option.some.injEq] at h; subst h; rfl
      | brk => cases h
      | ret o => cases h
def turnF : Res Fl → Option G
  | .ok .next g2 => some g2
  | .ok .cont g2 => some g2
  | _ => none
def turnD (body : S) : Option G → Option G
  | some g => turnF (body g)
  | none => none
theorem turn_a (t : T) (body : S) (d : D) (g : G) : turnS t body d g = turnD body (t d g) := by
  unfold turnS turnD
  cases t d g with
  | none => rfl
  | some g1 =>
    simp only
    cases body g1 with
    | ok f g2 => cases f <;> rfl
    | exc x g2 => rfl
    | stuck => rfl
theorem turnD_s (body : S) (g : G) : turnD body (some g) = turnF (body g) := rfl
theorem turnF_n (g : G) : turnF (.ok .next g) = some g := rfl
theorem turnF_c (g : G) : turnF (.ok .cont g) = some g := rfl
/-- a loop that goes through all its items: `Gf` the frame by the state, `R` what holds of the state -/
theorem loop_inv {α σ : Type} {t : T} {body : S} (Gf : σ → G) (enc : α → D) (R : List α → σ → Prop) : ∀ (as : List α), (∀ a r s, a :: r <:+ as → R (a :: r) s → ∃ s', R r s' ∧ turnS t body (enc a) (Gf s) = some (Gf s')) →
    ∀ s, R as s → ∃ s', R [] s' ∧ loopS t body (as.map enc) (Gf s) = .ok .next (Gf s')
  | [], _, s, hs => ⟨s, hs, by simp [loopS]⟩
  | a :: as, h, s, hs => by
    obtain ⟨s1, i1, e1⟩ := h a as s (List.suffix_refl _) hs
    obtain ⟨s2, i2, e2⟩ := loop_inv Gf enc R as (fun b r s hb => h b r s (hb.trans (List.suffix_cons a as))) s1 i1
    exact ⟨s2, i2, by rw [List.map_cons, loop_turn e1, e2]⟩
end VI
namespace VI
open PySem PySem.Spec PyProof.Rows L2
section
variable {W : Wd} {vs : List (Option V)} {Wx : WX} {X : Cx} {n : Nat}
/-! ### list(range(a, b)) -/
def rgOk (i j : Int) : Bool := decide (-(2 ^ 62) ≤ i) && (decide (i < 2 ^ 62) && (decide (-(2 ^ 62) ≤ j) && (decide (j < 2 ^ 62) && decide ((j - i).toNat ≤ 2 ^ 24))))
def rgL (i j : Int) : List D := (List.range (j - i).toNat).map fun k : Nat => D.int (i + (k : Int))
def lrgO : O → O → Option O
  | .pure (.int i), .pure (.int j) => if rgOk i j then some (.lst (rgL i j)) else none
  | _, _ => none
theorem rgL_rep (H : Hp) (i j : Int) : RepFs W H (rgV i j) (rgL i j) := by
  unfold rgV rgL
  induction List.range (j - i).toNat with
  | nil => exact .nil
  | cons k ks ih => exact .cons (.int _) ih
theorem se_lrg {p p2 pos pos2 : Pos} {a b : Expr} {A B : E} {k : Nat} (cx : Ctx W k Wx X) (hg : Gl X "list") (hm : X.mg "list" = none) (hg2 : Gl X "range") (hm2 : X.mg "range" = none) (ha : SE W vs Wx X a A) (hb : SE W vs Wx X b B)
    (na : starEach [a, b] X.env = (false, eval a X.env) :: starEach [b] X.env := by rfl) (nb : starEach [b] X.env = (false, eval b X.env) :: starEach [] X.env := by rfl) (hp : (backTo pos2 (starEach [b] X.env)).any (·.1) = false := by rfl)
    (nc : starEach [.Call (.Name "range" p2) [a, b] [] pos2] X.env = (false, eval (.Call (.Name "range" p2) [a, b] [] pos2) X.env) :: starEach [] X.env := by rfl) :
    SE W vs Wx X (.Call (.Name "list" p) [.Call (.Name "range" p2) [a, b] [] pos2] [] pos) (bin lrgO A B) := by
  refine pe_weak (pe_listRg cx.calm hg hm (prg_2 hg2 hm2 ha hb na nb hp) nc) fun σ H Q q => ?_
  obtain ⟨H0, L, g, sp, en, post⟩ := tO_bin σ H Q q
  refine ⟨H0, L, g, sp, en, ?_⟩
  cases ea : A g with
  | stuck => rw [ea] at post; exact post.elim
  | exc x g' => rw [ea] at post; exact post
  | ok r g1 =>
    rw [ea] at post
    intro v H1 H01 Lr L1 st1 rr en1
    obtain ⟨H02, L2, g2, sp2, en2, post2⟩ := post v H1 H01 Lr L1 st1 rr en1
    refine ⟨H02, L2, g2, sp2, en2, ?_⟩
    cases eb : B g2 with
    | stuck => rw [eb] at post2; exact post2.elim
    | exc x g' => rw [eb] at post2; exact post2
    | ok s g3 =>
      rw [eb] at post2
      intro w H2 H03 Ls L3 st2 rs en3
      obtain ⟨H04, ox, oy, Lx, Ly, o, ex, rx, ry, ef, gv⟩ := post2 w H2 H03 Ls L3 st2 rs en3
      cases rx with
      | pure rx =>
        cases rx with
        | int i =>
          cases ry with
          | pure ry =>
            cases ry with
            | int j =>
              simp only [lrgO] at ef
              by_cases hr : rgOk i j = true
              · rw [if_pos hr] at ef
                cases ef
                simp only [rgOk, Bool.and_eq_true, decide_eq_true_eq] at hr
                exact ⟨i, j, rfl, rfl, ⟨hr.1, hr.2.1, hr.2.2.1, hr.2.2.2.1, hr.2.2.2.2⟩, fun q hq => gv.newL ex (rgL_rep H04 i j) hq⟩
              · rw [if_neg hr] at ef; cases ef
            | _ => cases ef
          | _ => cases ef
        | _ => cases ef
      | _ => cases ef
/-! ### {'a': .., 'b': ..} -/
def dispR (ks : List Str) : Option (List D × G) → Res R
  | some (ds, g) => if ks.length = ds.length ∧ ks.length ≤ 15 ∧ ks.Nodup then .ok (.val (.dic ((ks.map D.str).zip ds))) g else .stuck
  | none => .stuck
def dispC (ks : List Str) (rs : List R) (g : G) : Res R := dispR ks (frzs rs g)
def dispE (ks : List Str) (A : G → Res (List R)) : E := fun g => (A g).bind (dispC ks)
structure SD (W : Wd) (vs : List (Option V)) (Wx : WX) (X : Cx) (pos : Pos) (keys : List (Option Expr)) (values : List Expr) (ks : List Str) (As : List E) : Prop where
  ex : ∃ trs, PPs X pos keys values trs ∧ keys.all (·.isSome) = true ∧ keys.length = values.length ∧ keys.length = ks.length ∧
    ∀ σ H (R : List V → Hp → Prop) (Q : List (V × V) → Hp → Prop), (∀ us H2, us.length = ks.length → R us H2 → Q ((ks.zip us).map fun p => (V.str p.1, p.2)) H2) → tA W vs Wx (evs As) σ H R → tPairs trs σ H Q
theorem sd_nil {pos : Pos} : SD W vs Wx X pos [] [] [] [] := ⟨[], pps_nil, rfl, rfl, rfl, fun σ H R Q hq ⟨H0, L, g, sp, en, post⟩ => hq [] H rfl (post [] H H0 [] L (Step.refl sp) .nil en)⟩
theorem sd_cons {pos p2 : Pos} {k : Str} {j : Nat} {v : Expr} {keys : List (Option Expr)} {values : List Expr} {ks : List Str} {A : E} {As : List E} (hv : SE W vs Wx X v A) (hr : SD W vs Wx X pos keys values ks As) :
    SD W vs Wx X pos (some (.Constant (.str k) j p2) :: keys) (v :: values) (k :: ks) (A :: As) := by
  obtain ⟨trs, h1, h2, h3, h4, h5⟩ := hr
  refine ⟨(tC (.str k), tE W vs Wx A) :: trs, pps_cons pe_str hv h1, by simp [h2], by simp [h3], by simp [h4], fun σ H R Q hq q => ?_⟩
  obtain ⟨H0, L, g, sp, en, post⟩ := q
  show tE W vs Wx A σ H _
  refine ⟨H0, L, g, sp, en, ?_⟩
  rw [evs] at post
  cases ea : A g with
  | stuck => rw [ea] at post; exact post.elim
  | exc x g' => rw [ea] at post; exact post
  | ok r g1 =>
    rw [ea] at post
    intro v H1 H01 Lr L1 st1 rr en1
    simp only [Res.bind] at post
    have key : tA W vs Wx (evs As) σ H1 (fun us H2 => R (v :: us) H2) := by
      refine ⟨H01, L1, g1, st1.sep.right, en1, ?_⟩
      cases eb : evs As g1 with
      | stuck => rw [eb] at post; exact post.elim
      | exc x g' =>
        rw [eb] at post
        intro c d H' H0' L' st2 rx en2
        exact post c d H' H0' L' (st1.then st2).right rx en2
      | ok s g2 =>
        rw [eb] at post
        intro w H2 H02 Ls L2 st2 rs en2
        have st := st1.then st2
        have rr2 : RepR W H02 H2 σ v r Lr := rr.mono st2.ex0 (Step.keepL st1.sep st2)
        exact post (v :: w) H2 H02 (Lr ++ Ls) L2 (by simpa [List.append_assoc] using st) (.cons rr2 rs) en2
    exact h5 σ H1 _ _ (fun us H2 e q => hq (v :: us) H2 (by simp [e]) q) key
theorem mergeK_new : ∀ (kvs acc : List (Key × V)), (acc.map (·.1) ++ kvs.map (·.1)).Nodup → mergeK acc kvs = acc ++ kvs
  | [], acc, _ => by simp [mergeK]
  | p :: kvs, acc, h => by
    have hv : valV acc p.1 = none := by
      cases e : valV acc p.1 with
      | none => rfl
      | some v =>
        exfalso
        have ha : (acc.any fun kv => decide (kv.1 = p.1)) = true := by rw [valV_any, e]; rfl
        obtain ⟨q, hq, e2⟩ := List.any_eq_true.mp ha
        have := (List.nodup_append.mp h).2.2 q.1 (List.mem_map_of_mem hq) p.1 (by simp)
        exact this (by simpa using e2)
    have e1 : mergeK acc (p :: kvs) = mergeK (putK acc p.1 p.2) kvs := rfl
    rw [e1, putK_new _ hv, mergeK_new kvs _ (by simpa using h)]
    simp
theorem se_disp {pos : Pos} {keys : List (Option Expr)} {values : List Expr} {ks : List Str} {As : List E} (h : SD W vs Wx X pos keys values ks As) (h0 : ks ≠ []) (hk15 : ks.length ≤ 15) : SE W vs Wx X (.Dict keys values pos) (dispE ks (evs As)) := by
  obtain ⟨trs, h1, h2, h3, h4, h5⟩ := h
  refine pe_weak (pe_disp h1 h2 h3 (fun e => h0 (List.length_eq_zero_iff.mp (by rw [← h4, e]; rfl))) (by omega)) fun σ H Q q => ?_
  obtain ⟨H0, L, g, sp, en, post⟩ := q
  intro p hp
  have s2 := step_newL (o := .dK []) sp.ex hp
  have sp2 : Sep H0 H (L ++ []) := by simpa using sp
  have s3 : Step H0 H L H0 (upd H p (.dK [])) ([p] ++ L) := by
    have : Step H0 H L H0 (upd H p (.dK [])) (L ++ [p]) := by simpa using Step.frame sp2 s2
    exact this.perm List.perm_append_comm
  have en' := en.mono (Ex.refl _) (Step.keepL sp2 s2)
  have hpL : p ∉ L := fun hm => by
    have := (List.nodup_append.mp s3.sep.nd).2.2 p (by simp) p hm
    exact this rfl
  have key : tA W vs Wx (evs As) σ (upd H p (.dK [])) (fun (us : List V) (H2 : Hp) => us.length = ks.length → H2 p = some (.dK []) ∧ ∃ kvs : List (Key × V), (ks.zip us).map (fun q : Str × V => (V.str q.1, q.2)) = kvs.map (fun kv => (kV kv.1, kv.2)) ∧ kvs.length ≤ 15 ∧ Q (.ref p) (upd H2 p (.dK (mergeK [] kvs)))) := by
    refine ⟨H0, L, g, s3.sep.right, en', ?_⟩
    unfold dispE at post
    cases ea : evs As g with
    | stuck => rw [ea] at post; exact post.elim
    | exc x g' =>
      rw [ea] at post
      intro c d H' H0' L' st rx en1
      exact post c d H' H0' L' (s3.trans (Step.frame s3.sep st)).right rx en1
    | ok rs g1 =>
      rw [ea] at post
      intro us H1 H01 Lr L1 st1 rr en1 hl
      have kp : H1 p = some (.dK []) := st1.keep p _ upd_same hpL
      refine ⟨kp, ?_⟩
      simp only [Res.bind, dispC] at post
      cases ef : frzs rs g1 with
      | none => rw [ef] at post; exact post.elim
      | some pr =>
        obtain ⟨ds, g2⟩ := pr
        rw [ef] at post
        simp only [dispR] at post
        by_cases hc : ks.length = ds.length ∧ ks.length ≤ 15 ∧ ks.Nodup
        · rw [if_pos hc] at post
          obtain ⟨H02, L2, s4, rf, en2⟩ := frzs_ok rr st1.sep en1 ef
          have st2 : Step H0 H L H02 H1 ([p] ++ L2) := s3.trans (Step.frame s3.sep (st1.trans s4))
          refine ⟨(ks.map (Sum.inr : Str → Key)).zip us, ?_, by simp; omega, ?_⟩
          · clear post en1 en2 rr rf ef
            rw [List.zip_map_left, List.map_map]
            rfl
          · have hnd : (([] : List (Key × V)).map (·.1) ++ ((ks.map (Sum.inr : Str → Key)).zip us).map (·.1)).Nodup := by
              rw [List.map_nil, List.nil_append]
              have : ((ks.map (Sum.inr : Str → Key)).zip us).map (·.1) = ks.map (Sum.inr : Str → Key) := List.map_fst_zip (by simp [hl])
              rw [this]
              show List.Pairwise (· ≠ ·) (ks.map (Sum.inr : Str → Key))
              rw [List.pairwise_map]
              exact List.Pairwise.imp (fun h e => h (Sum.inr.inj e)) hc.2.2
            rw [mergeK_new _ _ hnd, List.nil_append]
            have spp : Sep H02 H1 (L2 ++ [p]) := st2.sep.perm List.perm_append_comm
            have sw : Step H02 H1 [p] H02 (upd H1 p (.dK ((ks.map (Sum.inr : Str → Key)).zip us))) [p] := step_list spp.right
            have sf := Step.frame spp sw
            have sf2 : Step H0 H L H02 (upd H1 p (.dK ((ks.map (Sum.inr : Str → Key)).zip us))) ([p] ++ L2) := (st2.trans (sf.from fun a => by simp [or_comm])).perm List.perm_append_comm
            refine post (.ref p) _ H02 [p] L2 sf2 (.dic upd_same ?_) (en2.mono (Ex.refl _) (Step.keepL spp sw))
            have gen : ∀ (ks : List Str) (us : List V) (ds : List D), ks.length = ds.length → RepFs W H02 us ds → RepFk W H02 ((ks.map (Sum.inr : Str → Key)).zip us) ((ks.map D.str).zip ds) := by
              intro ks
              induction ks with
              | nil => intro us ds _ _; exact .nil
              | cons k ks ih =>
                intro us ds e r
                cases r with
                | nil => simp at e
                | cons a r => exact .cons (k := .inr k) a (ih _ _ (by simpa using e) r)
            exact gen ks us ds hc.1 rf
        · rw [if_neg hc] at post; exact post.elim
  exact h5 σ _ _ _ (fun us H2 e q => by
    obtain ⟨a, kvs, b, c, d⟩ := q e
    exact ⟨a, kvs, b, c, d⟩) key
/-! ### C.__init__(self, ..) -/
def CInitAt (W : Wd) (C : Callee) (P : Program) (w : World) (mg : Str → Option Value) (base : Heap) (k : Nat) (x m : Str) (fn : Nat) (ar : Nat) : Prop :=
  ∃ (Ca f : Addr) (fd : FuncData) (ps : List Str), mg x = some (.ref Ca) ∧ ClX.CRead W.K Ca (.type "type") ∧ PySem.W.findCls W.K (.ref Ca) (.type "type") m = some (.val (.ref f)) ∧ PySem.W.keepIn W.K (.ref f) = true ∧ FnOk P w W.K mg base (L2.CX P w) k f fd ps (spD W C fn ar) ∧ Binds W.K fd ps []
theorem pe_cfn {CX : CXT} {k : Nat} {f C : Addr} {fd : FuncData} {ps : List Str} {sp : Sp} {E : L2.St → XK} {x m : Str} {p pos apos : Pos} {e : Expr} {es : List Expr} {t : TA} {pl : Sem Bool} (hg : Gl X x) (hm : X.mg x = some (.ref C)) (r : ClX.CRead X.K C (.type "type")) (hf : PySem.W.findCls X.K (.ref C) (.type "type") m = some (.val (.ref f)))
    (F : FnOk X.prog X.w X.K X.mg X.base CX k f fd ps sp) (hr : Room k X.A) (hk : PySem.W.keepIn X.K (.ref f) = true) (hb : Binds X.K fd ps []) (hx : ∀ σ, PassesAt CX X σ (E σ)) (ha : PA X (e :: es) t)
    (hdb : (x == ("__debug__" : Str)) = false := by decide) (hst : starEach (e :: es) X.env = (false, eval e X.env) :: starEach es X.env := by rfl) (hpl : (backTo pos (starEach es X.env)).any (·.1) = false := by rfl)
    (ht : eval (.Call (.Attribute (.Name x p) m apos) (e :: es) [] pos) X.env = (do
      let ov ← eval (.Name x p) X.env
      standAt apos.atName
      let (f, first) ← holding [ov] (getMethod ov m pl)
      callWith pos f first (backTo pos (starEach (e :: es) X.env)) (backToKw pos (keywordEach [] X.env))) := by rfl) :
    PE X (.Call (.Attribute (.Name x p) m apos) (e :: es) [] pos) (tCallS sp E t) := by
  refine ⟨fun pins s σ H Q I h => ?_⟩
  refine PySem.W.methodCall_KW (pl := pl) (ld_glob I hg hm ?_ hdb) ht
  refine PySem.W.method_cls I.kIn r.ga (ClX.getcval_ok (v := .ref f) I r ⟨hf, rfl⟩ fun s2 I2 => ?_)
  refine PySem.W.callWith_K (h₀ := X.base) I.ok.mod.kin hk (thn (ha.run pos pins s2 σ H _ I2 h) fun us s3 ⟨vs, H3, I3, rv, q⟩ => ⟨I3.kIn, ?_⟩) hst hpl
  exact run_fnS F hr hb (hx σ) I3 rv q
theorem se_cinit {C : Callee} {k m fn : Nat} {x mm : Str} {p pos apos : Pos} {e : Expr} {es : List Expr} {As : List E} {pl : Sem Bool} (cx : Ctx W k Wx X) (hf : CInitAt W C X.prog X.w X.mg X.base k x mm fn m) (ha : SA W vs Wx X (e :: es) (evs As)) (hm : As.length = m) (hg : Gl X x)
    (hdb : (x == ("__debug__" : Str)) = false := by decide) (hst : starEach (e :: es) X.env = (false, eval e X.env) :: starEach es X.env := by rfl) (hpl : (backTo pos (starEach es X.env)).any (·.1) = false := by rfl)
    (ht : eval (.Call (.Attribute (.Name x p) mm apos) (e :: es) [] pos) X.env = (do
      let ov ← eval (.Name x p) X.env
      standAt apos.atName
      let (f, first) ← holding [ov] (getMethod ov mm pl)
      callWith pos f first (backTo pos (starEach (e :: es) X.env)) (backToKw pos (keywordEach [] X.env))) := by rfl) :
    SE W vs Wx X (.Call (.Attribute (.Name x p) mm apos) (e :: es) [] pos) (callA C fn As) := by
  obtain ⟨Ca, f, fd, ps, h1, h2, h3, h4, F, b⟩ := hf
  subst hm
  rw [← cx.K] at h2 h3 h4 F b
  exact pe_weak (pe_cfn hg h1 h2 h3 F cx.room h4 b (fun σ => passAt cx.tk σ) ha hdb hst hpl ht) fun σ H Q q => tA_callA q
/-! ### int(x) -/
def intTO : List O → Option O
  | [.pure (.int i)] => some (.pure (.int i))
  | [.pure (.bl k)] => some (.pure (.int (if k then 1 else 0)))
  | [.pure (.str a)] => if a.length ≤ 640 then (PySem.intText? a).map fun n => .pure (.int n) else none
  | _ => none
theorem cr_intO : CallR X (.type "int") (cO W intTO) := by
  intro pins s σ H us ws Q I r ⟨H0, os, o, ex, pr, e, gv⟩
  unfold intTO at e
  split at e
  · cases e
    obtain ⟨v, e1, _, r1⟩ := one_of pr
    exact call_int1 pins s σ H us ws Q I r (.inl ⟨_, by rw [e1, atom_int r1], gv.atom ex (.int _)⟩)
  · cases e
    obtain ⟨v, e1, _, r1⟩ := one_of pr
    exact call_int1 pins s σ H us ws Q I r (.inr ⟨_, by rw [e1, atom_bl r1], gv.atom ex (.int _)⟩)
  · split at e
    · rename_i a hl
      obtain ⟨n, e1, e2⟩ := Option.map_eq_some_iff.mp e
      cases e2
      obtain ⟨v, e3, _, r1⟩ := one_of pr
      exact call_int_str pins s σ H us ws Q I r ⟨a, n, by rw [e3, atom_str r1], e1, hl, gv.atom ex (.int _)⟩
    · cases e
  · cases e
end
end VI
namespace VI
open PySem PySem.Spec PyProof.Rows L2
/-! ### what the top has left, by one look -/
/-- facts of the written part; an owner `o` says in which class a method stands -/
inductive FX where
  | glo (x : Str) | fre (x : Str) | cls (c : Str) | noat (c f : Str) | met (c m o : Str) | mak (c o : Str) | mk0 (c : Str)
  | isi (c d : Str) (b : Bool) | inst (c : Str) | gst | cin (c m o : Str) | st (x z : Str) | it (x : Str) (i : Int) | tu (x : Str) (l : List Str)
def clsAt (K : PySem.W.Frag) (c : Str) : Addr := He.ga K c
def metAt (K : PySem.W.Frag) (o m : Str) : Addr := He.ma K (He.ga K o) m
def valIs (f : Option PySem.W.CFound) (u : Value) : Bool := match f with
  | some (.val v) => decide (v = u)
  | _ => false
theorem valIs_ok {f : Option PySem.W.CFound} {u : Value} (h : valIs f u = true) : f = some (.val u) := by
  unfold valIs at h
  split at h
  · rw [of_decide_eq_true h]
  · cases h
def FX.ok (K : PySem.W.Frag) : FX → Bool
  | .glo x => (He.Fa.glo x).ok K
  | .fre x => (He.Fa.free x).ok K
  | .cls c => (He.Fa.cls c).ok K
  | .noat c f => (He.Fa.noat c f).ok K
  | .met c m o => He.eqO (PySem.W.findIn K (.ref (clsAt K c)) m) (some (some (.ref (metAt K o m)))) && (PySem.W.isFn K (.ref (metAt K o m)) && PySem.W.keepIn K (.ref (metAt K o m)))
  | .mak c o => PySem.W.makesIn K (clsAt K c) && (He.eqO (PySem.W.findIn K (.ref (clsAt K c)) "__init__") (some (some (.ref (metAt K o "__init__")))) && (PySem.W.isFn K (.ref (metAt K o "__init__")) && PySem.W.keepIn K (.ref (clsAt K c))))
  | .mk0 c => PySem.W.makesIn K (clsAt K c) && (He.eqO (PySem.W.findIn K (.ref (clsAt K c)) "__init__") (some (some (.builtin "object.__init__"))) && PySem.W.keepIn K (.ref (clsAt K c)))
  | .isi c d b => decide (PySem.W.kitOne K (.ref (clsAt K c)) (.ref (clsAt K d)) = some b)
  | .inst c => He.eqO (PySem.W.findIn K (.ref (clsAt K c)) "__class__") (some (some (.builtin "object.__class__"))) && decide (PySem.W.mroIn K (clsAt K c) (.type "object") = some true)
  | .gst => He.eqO (PySem.W.specialIn K (.builtin "object.__class__") "__get__") (some (some (.builtin "getset_descriptor.__get__"))) && decide (PySem.W.takesIn K (.builtin "object.__class__") = some true)
  | .cin c m o => PySem.W.readsIn K (clsAt K c) (.type "type") && (He.eqO (PySem.W.specialIn K (.ref (clsAt K c)) "__getattribute__") (some (some (.builtin "type.__getattribute__"))) && valIs (PySem.W.findCls K (.ref (clsAt K c)) (.type "type") m) (.ref (metAt K o m)))
  | .st x z => (He.Fa.str x z).ok K
  | .it x i => (He.Fa.int x i).ok K
  | .tu x l => (He.Fa.glo x).ok K && He.tupB K x (l.map He.Dv.str)
def fxs (l : List FX) (K : PySem.W.Frag) : Bool := l.all fun f => f.ok K
theorem fx_at {l : List FX} {K : PySem.W.Frag} (h : fxs l K = true) (i : Nat) {f : FX} (e : l[i]? = some f) : f.ok K = true :=
  List.all_eq_true.mp h f (List.mem_of_getElem? e)
theorem fx_l {a b : List FX} {K : PySem.W.Frag} (h : fxs (a ++ b) K = true) : fxs a K = true := by
  unfold fxs at *
  rw [List.all_append, Bool.and_eq_true] at h
  exact h.1
theorem fx_r {a b : List FX} {K : PySem.W.Frag} (h : fxs (a ++ b) K = true) : fxs b K = true := by
  unfold fxs at *
  rw [List.all_append, Bool.and_eq_true] at h
  exact h.2
def wdOf (K : PySem.W.Frag) : Wd := ⟨K, fun c => some (clsAt K c)⟩
section
variable {K : PySem.W.Frag} {h : Heap} {mg : Str → Option Value}
theorem fx_glo (X : K.In h) (G : h.Ns mainGlobals mg) {x : Str} (c : (FX.glo x).ok K = true) : mg x = some (.ref (clsAt K x)) := He.glo_ok X G c
theorem fx_free (X : K.In h) (G : h.Ns mainGlobals mg) {x : Str} (c : (FX.fre x).ok K = true) : mg x = none := He.free_ok X G c
theorem fx_cls {x : Str} (c : (FX.cls x).ok K = true) : Cls K (clsAt K x) := He.cls_ok c
theorem fx_noat {x f : Str} (c : (FX.noat x f).ok K = true) : NoAttr K (clsAt K x) f := He.noat_ok c
theorem fx_met {x m o : Str} (c : (FX.met x m o).ok K = true) : Meth K (clsAt K x) m (metAt K o m) := by
  simp only [FX.ok, Bool.and_eq_true] at c
  exact ⟨He.eqO_ok c.1, c.2.1, c.2.2⟩
theorem fx_mak {x o : Str} (c : (FX.mak x o).ok K = true) : Mk K (clsAt K x) (metAt K o "__init__") := by
  simp only [FX.ok, Bool.and_eq_true] at c
  exact ⟨c.1, He.eqO_ok c.2.1, c.2.2.1, c.2.2.2⟩
theorem fx_mk0 {x : Str} (c : (FX.mk0 x).ok K = true) : Mk0 K (clsAt K x) := by
  simp only [FX.ok, Bool.and_eq_true] at c
  exact ⟨c.1, He.eqO_ok c.2.1, c.2.2⟩
theorem fx_isi {x d : Str} {b : Bool} (c : (FX.isi x d b).ok K = true) (c1 : (FX.cls x).ok K = true) (c2 : (FX.inst x).ok K = true) (c3 : FX.gst.ok K = true) : IsAt (wdOf K) x d b := by
  simp only [FX.ok, Bool.and_eq_true, decide_eq_true_eq] at c2 c3
  exact ⟨clsAt K x, clsAt K d, rfl, rfl, fx_cls c1, He.eqO_ok c2.1, He.eqO_ok c3.1, c3.2, c2.2, of_decide_eq_true c⟩
theorem fx_cin {x m o : Str} (c : (FX.cin x m o).ok K = true) : ClX.CRead K (clsAt K x) (.type "type") ∧ PySem.W.findCls K (.ref (clsAt K x)) (.type "type") m = some (.val (.ref (metAt K o m))) := by
  simp only [FX.ok, Bool.and_eq_true] at c
  exact ⟨⟨c.1, He.eqO_ok c.2.1⟩, valIs_ok c.2.2⟩
theorem fx_new (X : K.In h) (G : h.Ns mainGlobals mg) {x : Str} (c : (FX.mk0 x).ok K = true) (g : (FX.glo x).ok K = true) : NewAt (wdOf K) mg x x := ⟨clsAt K x, rfl, fx_mk0 c, fx_glo X G g⟩
theorem fx_clsv (X : K.In h) (G : h.Ns mainGlobals mg) {x : Str} (g : (FX.glo x).ok K = true) : ∃ u v, mg x = some u ∧ RelV v u ∧ ∀ H, RepF (wdOf K) H v (.cls x) := ⟨.ref (clsAt K x), .ref (clsAt K x), fx_glo X G g, rfl, fun _ => .cls rfl⟩
theorem fx_str (X : K.In h) (G : h.Ns mainGlobals mg) {x z : Str} (c : (FX.st x z).ok K = true) : ∃ u v, mg x = some u ∧ RelV v u ∧ ∀ H, RepF (wdOf K) H v (.str z) := by
  obtain ⟨t, e⟩ := He.str_ok X G c
  exact ⟨_, .str z, e, ⟨t, rfl⟩, fun _ => .str z⟩
theorem fx_int (X : K.In h) (G : h.Ns mainGlobals mg) {x : Str} {i : Int} (c : (FX.it x i).ok K = true) : ∃ u v, mg x = some u ∧ RelV v u ∧ ∀ H, RepF (wdOf K) H v (.int i) := by
  obtain ⟨t, e⟩ := He.int_ok X G c
  exact ⟨_, .int i, e, ⟨t, rfl⟩, fun _ => .int i⟩
theorem fx_tup (X : K.In h) (G : h.Ns mainGlobals mg) {x : Str} {l : List Str} (c : (FX.tu x l).ok K = true) : ∃ u v, mg x = some u ∧ RelV v u ∧ ∀ H, RepF (wdOf K) H v (.tup (l.map D.str)) := by
  simp only [FX.ok, Bool.and_eq_true] at c
  refine ⟨_, .ref (clsAt K x), He.glo_ok X G c.1, rfl, fun H => .tup (He.tupB_ok c.2 H) ?_⟩
  clear c
  induction l with
  | nil => exact .nil
  | cons s l ih => exact .cons (.str s) ih
end
theorem fun_of {K : PySem.W.Frag} {x q : Str} {st : Stmt} {f : Addr} {fd : FuncData} (F : FunD K x q (defArgs st) (defBody st) (defScope st) [] [] f fd) : Fun K x q st f fd := by
  obtain ⟨oc, od, dV, kV, doc, pm, an, cdv, ct, osl, e, lk, hc, hd, _⟩ := F.ex
  have : dV = .none := by
    rcases hd with ⟨_, e⟩ | ⟨e, _⟩
    · exact e
    · exact absurd rfl e
  subst this
  exact ⟨⟨oc, od, kV, doc, pm, an, cdv, ct, osl, e, lk, hc⟩, F.kp⟩
/-- the law's end: what is asked of its def at each world -/
theorem law_end {l : PySem.W.OpenLaw} {n k : Nat} {q : Program} {loose : List Str} {XP : (Str → Option Value) → Heap → Prop} {YP : World → Heap → Prop} {d : DefRec} {x : Str}
    (h1 : l.most = some n) (h2 : n ≤ sizeLine) (h3 : d.params.defaults = []) (h4 : Room k callerA)
    (F : ∀ (w : World) (mg : Str → Option Value) (f : Addr) (h : Heap), YP w h → h.Ns mainGlobals mg → mg d.name = some (.ref f) → ∃ (K : PySem.W.Frag) (fd : FuncData) (sp : Sp), K.In h ∧
      (∀ (s : Shared) (u : Value), BindsTo s fd ⟨[u], []⟩ [(x, u)]) ∧
      (∀ (H : Hp) (a : Addr) (ns : List Int), ns.length ≤ n → SqL K H a (ns.map V.int) → sp [.ref a] H (fun v _ => v = .bl true) fun _ _ _ => False) ∧
      ∀ b : Heap, K.In b → b.Ns mainGlobals mg → FnOk l.prog w K mg b (L2.CX l.prog w) k f fd [x] sp) :
    PySem.W.WalkO q loose XP YP l.row.toRowW d [] fun f vs => PySem.call f vs := by
  apply Att.attach_call h1 h3
  intro w _ s1 mg mb f _ _ _ _ a vs ns G Y _ _ _ hm ha hi hl hg
  obtain ⟨K, fd, sp, kx, hb, hs, hf⟩ := F w mg f _ Y G.T.g hm
  refine law_call kx G.T.g G.T.b G.T.builtins ?_ hg ha hi (Nat.le_trans hl h2) h4 hf hb ?_ ?_
  · exact G.T.nolimit
  · exact fun H _ S => hs H a ns hl S
  · rintro H e s' ⟨_, _, _, _, _, _, _, _, _, _, _, _, z⟩
    exact z
/-! ### the look itself -/
abbrev LookT : Type := He.AlD × Bool
def lookK (g : Addr → Option Obj) : PySem.W.Frag := He.frG g (PySem.cStatics :: He.asD g 4)
def lookV (fn : List He.DefD) (ex : PySem.W.Frag → Bool) (g : Addr → Option Obj) : LookT := (He.obsD [] fn (lookK g), ex (lookK g))
structure SeenV (fn : List He.DefD) (ex : PySem.W.Frag → Bool) (K : PySem.W.Frag) : Prop where
  d : He.SaysD [] fn K
  more : ex K = true
def hookV (fn : List He.DefD) (ex : PySem.W.Frag → Bool) : PySem.W.Hook where
  α := LookT
  obs := fun s => lookV fn ex s.heap.get?
  val := fun _ => (He.valD fn, true)
  says := fun _ h => ∃ K : PySem.W.Frag, K.In h ∧ SeenV fn ex K
  of := fun _ s e => ⟨lookK s.heap.get?, He.frG_in, ⟨congrArg Prod.fst e, congrArg Prod.snd e⟩⟩
  keeps := fun _ _ _ ⟨K, hK, c⟩ k => ⟨K, PySem.W.Frag.In.keeps hK k, c⟩
theorem lookV_eq {fn : List He.DefD} {ex : PySem.W.Frag → Bool} {g : Addr → Option Obj} {s : Shared} (h : ∀ a, g a = s.heap.get? a) : lookV fn ex g = (hookV fn ex).obs s := by
  have e : g = s.heap.get? := funext h
  subst e
  rfl
end VI
namespace VI
open PySem PySem.Spec PyProof.Rows L2
section
variable {W : Wd} {vs : List (Option V)} {Wx : WX} {X : Cx} {n : Nat}
/-! ### a name read for the last time: what it holds goes out of it -/
def mvC (j : Nat) (g : G) : Option Slot → Res R
  | some (.loc (.pure d)) => .ok (.val (.pure d)) g
  | some (.par (.pure d)) => .ok (.val (.pure d)) g
  | some (.loc .hole) => .stuck
  | some (.loc o) => .ok (.val o) (g.set j (.loc .hole))
  | _ => .stuck
def mvE (j : Nat) : E := fun g => mvC j g g[j]?
theorem se_mv (i : Nat) {x : Str} {pos : Pos} (h : PE X (.Name x pos) (tVar i)) : SE W vs Wx X (.Name x pos) (mvE i) := by
  refine pe_weak h fun σ H Q ⟨H0, L, g, sp, en, post⟩ => ?_
  unfold mvE at post
  cases eg : g[i]? with
  | none => rw [eg] at post; exact post.elim
  | some sl =>
    rw [eg] at post
    have pure : ∀ d, sl.obj = some (.pure d) → PostE W vs Wx σ H0 H L (.ok (.val (.pure d)) g) Q → tVar i σ H Q := fun d ho p => by
      obtain ⟨v, La, Lo, Lb, e1, e2, e3, e4⟩ := en.at eg ho
      refine ⟨v, e1, ?_⟩
      cases e2 with
      | pure f => exact p v H H0 [] L (Step.refl sp) (.pure f) en
    have move : ∀ o, sl = .loc o → PostE W vs Wx σ H0 H L (.ok (.val o) (g.set i (.loc .hole))) Q → tVar i σ H Q := fun o ho p => by
      subst ho
      obtain ⟨v, La, Lo, Lb, e1, e2, e3, e4⟩ := en.at eg rfl
      refine ⟨v, e1, ?_⟩
      have en2 := e4 H0 H (Ex.refl _) (fun _ _ _ q => q) .hole [] .hole
      subst e3
      have sp2 : Sep H0 H (Lo ++ (La ++ Lb)) := sp.perm (perm_mid La Lo Lb)
      refine p v H H0 Lo (La ++ ([] ++ Lb)) ?_ e2 en2
      exact (Step.refl sp).perm (by simpa using perm_mid La Lo Lb)
    cases sl with
    | un => exact post.elim
    | par o =>
      cases o with
      | pure d => exact pure d rfl post
      | _ => exact post.elim
    | loc o =>
      cases o with
      | pure d => exact pure d rfl post
      | hole => exact post.elim
      | lst l => exact move _ rfl post
      | dic l => exact move _ rfl post
      | ins c fs => exact move _ rfl post
      | lls l => exact move _ rfl post
section
variable (i : Nat) (g : G)
theorem mvE_a : mvE i g = mvC i g g[i]? := rfl
theorem mvC_pd (d : D) : mvC i g (some (.par (.pure d))) = .ok (.val (.pure d)) g := rfl
theorem mvC_ld (d : D) : mvC i g (some (.loc (.pure d))) = .ok (.val (.pure d)) g := rfl
theorem mvC_ll (l : List D) : mvC i g (some (.loc (.lst l))) = .ok (.val (.lst l)) (g.set i (.loc .hole)) := rfl
theorem mvC_lm (l : List (D × D)) : mvC i g (some (.loc (.dic l))) = .ok (.val (.dic l)) (g.set i (.loc .hole)) := rfl
theorem mvC_li (c : Str) (fs : List (Str × O)) : mvC i g (some (.loc (.ins c fs))) = .ok (.val (.ins c fs)) (g.set i (.loc .hole)) := rfl
end
section
variable (g : G)
theorem dispE_a (ks : List Str) (A : G → Res (List R)) : dispE ks A g = (A g).bind (dispC ks) := rfl
theorem dispC_a (ks : List Str) (rs : List R) : dispC ks rs g = dispR ks (frzs rs g) := rfl
theorem into_b (b : Bool) : intTO [.pure (.bl b)] = some (.pure (.int (if b then 1 else 0))) := rfl
theorem into_i (i : Int) : intTO [.pure (.int i)] = some (.pure (.int i)) := rfl
end
/-! ### a < b < c, step by step -/
def chB4 (f' : O → O → Option O) (d : D) (w : R) (g : G) : Res R := outE ((ob g w).bind (f' (.pure d))) g
def chB3 (f' : O → O → Option O) (C : E) (d : D) (g : G) : Option O → Res R
  | some (.pure (.bl true)) => (C g).bind (chB4 f' d)
  | some (.pure (.bl false)) => .ok (.val (.pure (.bl false))) g
  | _ => .stuck
def chB2 (f f' : O → O → Option O) (C : E) (g : G) : Option O → Option O → Res R
  | some x, some (.pure d) => chB3 f' C d g (f x (.pure d))
  | _, _ => .stuck
def chB1 (f f' : O → O → Option O) (C : E) (r s : R) (g : G) : Res R := chB2 f f' C g (ob g r) (ob g s)
def chA1 (f f' : O → O → Option O) (B C : E) (r : R) (g : G) : Res R := (B g).bind (chB1 f f' C r)
section
variable (f f' : O → O → Option O) (A B C : E) (g : G)
theorem chE_a : chE f f' A B C g = (A g).bind (chA1 f f' B C) := by
  unfold chE
  congr 1
  funext r g1
  unfold chA1
  congr 1
  funext s g2
  unfold chB1
  rcases ob g2 r with _ | x
  · rfl
  · rcases ob g2 s with _ | y
    · rfl
    · cases y with
      | pure d =>
        simp only [chB2]
        rcases f x (.pure d) with _ | o
        · rfl
        · cases o with
          | pure e => cases e with
            | bl b =>
              cases b
              · rfl
              · simp only [chB3]
                congr 1
                funext w g3
                unfold chB4
                cases (ob g3 w).bind (f' (.pure d)) <;> rfl
            | _ => rfl
          | _ => rfl
      | _ => rfl
theorem chA1_a (r : R) : chA1 f f' B C r g = (B g).bind (chB1 f f' C r) := rfl
theorem chB1_a (r s : R) : chB1 f f' C r s g = chB2 f f' C g (ob g r) (ob g s) := rfl
theorem chB2_s (x : O) (d : D) : chB2 f f' C g (some x) (some (.pure d)) = chB3 f' C d g (f x (.pure d)) := rfl
theorem chB3_t (d : D) : chB3 f' C d g (some (.pure (.bl true))) = (C g).bind (chB4 f' d) := rfl
theorem chB3_f (d : D) : chB3 f' C d g (some (.pure (.bl false))) = .ok (.val (.pure (.bl false))) g := rfl
theorem chB4_a (d : D) (w : R) : chB4 f' d w g = outE ((ob g w).bind (f' (.pure d))) g := rfl
end
/-! ### a loop over what a name holds: the other slots -/
def lkS : Slot → Slot
  | .loc .hole => .par .hole
  | s => s
def unS (s : Slot) : Slot → Slot
  | .par o => match s with
    | .par _ => .par o
    | _ => .loc o
  | t => t
def NoH (s : Slot) : Prop := s ≠ .loc .hole
theorem lock_n : lockG [] = [] := rfl
theorem lock_c (s : Slot) (g : G) : lockG (s :: g) = lkS s :: lockG g := by
  show List.map _ (s :: g) = _
  rw [List.map_cons]
  congr 1
theorem unlk_n (g : G) : unlkG g [] = [] := by cases g <;> first | rfl | (rename_i s r; cases s <;> rfl)
theorem unlk_c (s t : Slot) (g g' : G) : unlkG (s :: g) (t :: g') = unS s t :: unlkG g g' := by
  cases s <;> cases t <;> simp [unlkG, unS]
theorem lk_p (o : O) : lkS (.par o) = .par o := rfl
theorem lk_u : lkS .un = .un := rfl
theorem lk_d (d : D) : lkS (.loc (.pure d)) = .loc (.pure d) := rfl
theorem lk_l (l : List D) : lkS (.loc (.lst l)) = .loc (.lst l) := rfl
theorem lk_m (l : List (D × D)) : lkS (.loc (.dic l)) = .loc (.dic l) := rfl
theorem lk_i (c : Str) (fs : List (Str × O)) : lkS (.loc (.ins c fs)) = .loc (.ins c fs) := rfl
theorem lk_h : lkS (.loc .hole) = .par .hole := rfl
theorem lk_no {s : Slot} (h : NoH s) : lkS s = s := by
  cases s with
  | loc o => cases o with
    | hole => exact absurd rfl h
    | _ => rfl
  | _ => rfl
theorem Fre.no {s : Slot} (h : Fre s) : NoH s := by
  rcases h with rfl | ⟨d, rfl⟩
  · intro e; cases e
  · intro e; cases e
theorem lk_fr {s : Slot} (h : Fre s) : lkS s = s := lk_no h.no
theorem un_s (s : Slot) : unS s s = s := by cases s <;> rfl
theorem un_l (s : Slot) (o : O) : unS s (.loc o) = .loc o := rfl
theorem un_u (s : Slot) : unS s .un = .un := rfl
theorem un_pp (o o' : O) : unS (.par o') (.par o) = .par o := rfl
theorem un_lp (o o' : O) : unS (.loc o') (.par o) = .loc o := rfl
theorem un_fr {t : Slot} (h : Fre t) (s : Slot) : unS s t = t := by
  rcases h with rfl | ⟨d, rfl⟩ <;> rfl
theorem no_p (o : O) : NoH (.par o) := by intro e; cases e
theorem no_u : NoH .un := by intro e; cases e
theorem no_d (d : D) : NoH (.loc (.pure d)) := by intro e; cases e
theorem no_l (l : List D) : NoH (.loc (.lst l)) := by intro e; cases e
theorem no_m (l : List (D × D)) : NoH (.loc (.dic l)) := by intro e; cases e
theorem no_i (c : Str) (fs : List (Str × O)) : NoH (.loc (.ins c fs)) := by intro e; cases e
end
end VI
namespace VI
open PySem PySem.Spec PyProof.Rows L2
section
variable {W : Wd} {vs : List (Option V)} {Wx : WX} {X : Cx} {n : Nat}
/-! ### d.get(k), d.get(k, e) -/
def dgetO (x y z : O) : Option O := match dicOf x, y, z with
  | some l, .pure kd, .pure e => (keyOf kd).map fun k => .pure ((lookD l k).getD e)
  | _, _, _ => none
def getD1 (g : G) (r s : R) : Option O := match ob g r, ob g s with
  | some x, some y => dgetO x y (.pure .non)
  | _, _ => none
def getE1 (A B : E) : E := fun g => (A g).bind fun r g1 => match (ob g1 r).bind dicOf with
  | some _ => (B g1).bind fun s g2 => outE (getD1 g2 r s) g2
  | none => .stuck
def getD2 (g : G) (r s t : R) : Option O := match ob g r, ob g s, ob g t with
  | some x, some y, some z => dgetO x y z
  | _, _, _ => none
def getE2 (A B C : E) : E := fun g => (A g).bind fun r g1 => match (ob g1 r).bind dicOf with
  | some _ => (B g1).bind fun s g2 => (C g2).bind fun t g3 => outE (getD2 g3 r s t) g3
  | none => .stuck
theorem dict_at {H0 H : Hp} {v : V} {o : O} {L : List Addr} {l : List (D × D)} (e : Ex H0 H) (h : RepO W H0 H v o L) (hc : dicOf o = some l) : ∃ a kvs, v = .ref a ∧ H a = some (.dK kvs) ∧ RepFk W H0 kvs l := by
  cases h with
  | pure f => cases f with
    | dic h1 h2 => cases hc; exact ⟨_, _, rfl, e _ _ h1, h2⟩
    | _ => cases hc
  | dic h1 h2 => cases hc; exact ⟨_, _, rfl, h1, h2⟩
  | _ => cases hc
theorem dget_ok {H0 H : Hp} {v w u : V} {x y z o : O} {Lx Ly Lz : List Addr} {Q : VK} (e : Ex H0 H) (hx : RepO W H0 H v x Lx) (hy : RepO W H0 H w y Ly) (hz : RepO W H0 H u z Lz) (ef : dgetO x y z = some o) (gv : Gives W H0 H o Q) : ∃ a r, v = .ref a ∧ DGet H a w r ∧ Q (r.getD u) H := by
  unfold dgetO at ef
  split at ef
  · rename_i l kd ed hl
    obtain ⟨k, e1, e2⟩ := Option.map_eq_some_iff.mp ef
    subst e2
    obtain ⟨a, kvs, h1, h2, h3⟩ := dict_at e hx hl
    cases hy with
    | pure hy =>
      cases hz with
      | pure hz =>
        obtain ⟨h4, _⟩ := key_rep hy e1
        obtain ⟨h5, h6⟩ := RepFk.val k h3
        refine ⟨a, valV kvs k, h1, .inl ⟨kvs, k, .inl h2, h4, rfl⟩, ?_⟩
        cases hd : lookD l k with
        | none =>
          rw [hd] at gv
          rw [h6 hd]
          exact gv.atom e hz
        | some d =>
          rw [hd] at gv
          obtain ⟨v', h7, h8⟩ := h5 d hd
          rw [h7]
          exact gv.atom e h8
  · cases ef
theorem isD_of {H0 H : Hp} {v : V} {o : O} {L : List Addr} {l : List (D × D)} (e : Ex H0 H) (h : RepO W H0 H v o L) (hc : dicOf o = some l) : ∃ a, v = .ref a ∧ IsD H a := by
  obtain ⟨a, kvs, h1, h2, _⟩ := dict_at e h hc
  exact ⟨a, h1, .inl ⟨kvs, .inl h2⟩⟩
theorem se_get1 {k : Nat} {apos cpos : Pos} {o e : Expr} {A B : E} (cx : Ctx W k Wx X) (ho : SE W vs Wx X o A) (he : SE W vs Wx X e B) (m : M1 X o "get" apos e cpos := by exact ⟨by rfl, by rfl, by rfl, by rfl⟩) : SE W vs Wx X (.Call (.Attribute o "get" apos) [e] [] cpos) (getE1 A B) := by
  refine pe_weak (pe_dget1 (hu_of cx.room) ho he m) fun σ H Q q => ?_
  obtain ⟨H0, L, g, sp, en, post⟩ := q
  refine ⟨H0, L, g, sp, en, ?_⟩
  unfold getE1 at post
  cases ea : A g with
  | stuck => rw [ea] at post; exact post.elim
  | exc x g' => rw [ea] at post; exact post
  | ok r g1 =>
    rw [ea] at post
    intro v H1 H01 Lr L1 st1 rr en1
    simp only [Res.bind] at post
    cases ed : (ob g1 r).bind dicOf with
    | none => rw [ed] at post; exact post.elim
    | some l =>
      rw [ed] at post
      simp only at post
      obtain ⟨ox, e1, e2⟩ := Option.bind_eq_some_iff.mp ed
      obtain ⟨Lo, ro, _⟩ := ob_rep en1 rr e1
      obtain ⟨a, ha, hd⟩ := isD_of st1.sep.ex ro e2
      refine ⟨a, ha, hd, H01, L1, g1, st1.sep.right, en1, ?_⟩
      cases eb : B g1 with
      | stuck => rw [eb] at post; exact post.elim
      | exc x g' =>
        rw [eb] at post
        intro c d H' H0' L' st2 rx en2
        exact post c d H' H0' L' (st1.then st2).right rx en2
      | ok s g2 =>
        rw [eb] at post
        intro w H2 H02 Ls L2 st2 rs en2
        have st := st1.then st2
        have rr2 : RepR W H02 H2 σ v r Lr := rr.mono st2.ex0 (Step.keepL st1.sep st2)
        simp only at post
        cases ef : getD1 g2 r s with
        | none => rw [ef] at post; exact post.elim
        | some o =>
          rw [ef] at post
          unfold getD1 at ef
          cases e3 : ob g2 r with
          | none => rw [e3] at ef; cases ef
          | some x =>
            cases e4 : ob g2 s with
            | none => rw [e3, e4] at ef; cases ef
            | some y =>
              rw [e3, e4] at ef
              simp only at ef
              obtain ⟨Lx, hx, _⟩ := ob_rep en2 rr2 e3
              obtain ⟨Ly, hy, _⟩ := ob_rep en2 rs e4
              have gv := gives_of (Lt := Lr ++ Ls) (by simpa [List.append_assoc] using st) en2 post
              obtain ⟨a2, r2, h1, h2, h3⟩ := dget_ok st2.sep.ex hx hy (.pure .non) ef gv
              rw [ha] at h1
              cases h1
              exact ⟨r2, h2, h3⟩
theorem se_get2 {k : Nat} {apos cpos : Pos} {o e f : Expr} {A B C : E} (cx : Ctx W k Wx X) (ho : SE W vs Wx X o A) (he : SE W vs Wx X e B) (hf : SE W vs Wx X f C) (m : M2 X o "get" apos e f cpos := by exact ⟨by rfl, by rfl, by rfl, by rfl⟩) : SE W vs Wx X (.Call (.Attribute o "get" apos) [e, f] [] cpos) (getE2 A B C) := by
  refine pe_weak (pe_dget2 (hu_of cx.room) ho he hf m) fun σ H Q q => ?_
  obtain ⟨H0, L, g, sp, en, post⟩ := q
  refine ⟨H0, L, g, sp, en, ?_⟩
  unfold getE2 at post
  cases ea : A g with
  | stuck => rw [ea] at post; exact post.elim
  | exc x g' => rw [ea] at post; exact post
  | ok r g1 =>
    rw [ea] at post
    intro v H1 H01 Lr L1 st1 rr en1
    simp only [Res.bind] at post
    cases ed : (ob g1 r).bind dicOf with
    | none => rw [ed] at post; exact post.elim
    | some l =>
      rw [ed] at post
      simp only at post
      obtain ⟨ox, e1, e2⟩ := Option.bind_eq_some_iff.mp ed
      obtain ⟨Lo, ro, _⟩ := ob_rep en1 rr e1
      obtain ⟨a, ha, hd⟩ := isD_of st1.sep.ex ro e2
      refine ⟨a, ha, hd, H01, L1, g1, st1.sep.right, en1, ?_⟩
      cases eb : B g1 with
      | stuck => rw [eb] at post; exact post.elim
      | exc x g' =>
        rw [eb] at post
        intro c d H' H0' L' st2 rx en2
        exact post c d H' H0' L' (st1.then st2).right rx en2
      | ok s g2 =>
        rw [eb] at post
        intro w H2 H02 Ls L2 st2 rs en2
        have st := st1.then st2
        have rr2 : RepR W H02 H2 σ v r Lr := rr.mono st2.ex0 (Step.keepL st1.sep st2)
        refine ⟨H02, L2, g2, st2.sep.right, en2, ?_⟩
        simp only at post
        cases ec : C g2 with
        | stuck => rw [ec] at post; exact post.elim
        | exc x g' =>
          rw [ec] at post
          intro c d H' H0' L' st3 rx en3
          exact post c d H' H0' L' ((show Step H0 H L H02 H2 ((Lr ++ Ls) ++ L2) by simpa [List.append_assoc] using st).then st3).right rx en3
        | ok t g3 =>
          rw [ec] at post
          intro u H3 H03 Lt L3 st3 rt en3
          have spq : Sep H02 H2 ((Lr ++ Ls) ++ L2) := by simpa [List.append_assoc] using st.sep
          have stt : Step H0 H L H03 H3 ((Lr ++ Ls) ++ (Lt ++ L3)) := (show Step H0 H L H02 H2 ((Lr ++ Ls) ++ L2) by simpa [List.append_assoc] using st).then st3
          have kl := Step.keepL spq st3
          have rr3 : RepR W H03 H3 σ v r Lr := rr2.mono st3.ex0 fun a ha => kl a (List.mem_append_left _ ha)
          have rs3 : RepR W H03 H3 σ w s Ls := rs.mono st3.ex0 fun a ha => kl a (List.mem_append_right _ ha)
          simp only at post
          cases ef : getD2 g3 r s t with
          | none => rw [ef] at post; exact post.elim
          | some o =>
            rw [ef] at post
            unfold getD2 at ef
            cases e3 : ob g3 r with
            | none => rw [e3] at ef; cases ef
            | some x =>
              cases e4 : ob g3 s with
              | none => rw [e3, e4] at ef; cases ef
              | some y =>
                cases e5 : ob g3 t with
                | none => rw [e3, e4, e5] at ef; cases ef
                | some z =>
                  rw [e3, e4, e5] at ef
                  simp only at ef
                  obtain ⟨Lx, hx, _⟩ := ob_rep en3 rr3 e3
                  obtain ⟨Ly, hy, _⟩ := ob_rep en3 rs3 e4
                  obtain ⟨Lz, hz, _⟩ := ob_rep en3 rt e5
                  have gv := gives_of (Lt := (Lr ++ Ls) ++ Lt) (by simpa [List.append_assoc] using stt) en3 post
                  obtain ⟨a2, r2, h1, h2, h3⟩ := dget_ok st3.sep.ex hx hy hz ef gv
                  rw [ha] at h1
                  cases h1
                  exact ⟨r2, h2, h3⟩
/-! step by step -/
def getI1 (r s : R) (g : G) : Res R := outE (getD1 g r s) g
def getH1 (B : E) (r : R) (g : G) : Option (List (D × D)) → Res R
  | some _ => (B g).bind (getI1 r)
  | none => .stuck
def getG1 (B : E) (r : R) (g : G) : Res R := getH1 B r g ((ob g r).bind dicOf)
theorem getE1_a (A B : E) (g : G) : getE1 A B g = (A g).bind (getG1 B) := by
  unfold getE1
  congr 1
theorem getG1_a (B : E) (r : R) (g : G) : getG1 B r g = getH1 B r g ((ob g r).bind dicOf) := rfl
theorem getH1_s (B : E) (r : R) (g : G) (l : List (D × D)) : getH1 B r g (some l) = (B g).bind (getI1 r) := rfl
theorem getI1_a (r s : R) (g : G) : getI1 r s g = outE (getD1 g r s) g := rfl
theorem getD1_a (g : G) (r s : R) : getD1 g r s = (ob g r).bind fun x => (ob g s).bind fun y => dgetO x y (.pure .non) := by
  unfold getD1; cases ob g r <;> cases ob g s <;> rfl
def getI2 (r s t : R) (g : G) : Res R := outE (getD2 g r s t) g
def getJ2 (C : E) (r s : R) (g : G) : Res R := (C g).bind (getI2 r s)
def getH2 (B C : E) (r : R) (g : G) : Option (List (D × D)) → Res R
  | some _ => (B g).bind (getJ2 C r)
  | none => .stuck
def getG2 (B C : E) (r : R) (g : G) : Res R := getH2 B C r g ((ob g r).bind dicOf)
theorem getE2_a (A B C : E) (g : G) : getE2 A B C g = (A g).bind (getG2 B C) := by
  unfold getE2
  congr 1
theorem getG2_a (B C : E) (r : R) (g : G) : getG2 B C r g = getH2 B C r g ((ob g r).bind dicOf) := rfl
theorem getH2_s (B C : E) (r : R) (g : G) (l : List (D × D)) : getH2 B C r g (some l) = (B g).bind (getJ2 C r) := rfl
theorem getJ2_a (C : E) (r s : R) (g : G) : getJ2 C r s g = (C g).bind (getI2 r s) := rfl
theorem getI2_a (r s t : R) (g : G) : getI2 r s t g = outE (getD2 g r s t) g := rfl
theorem getD2_a (g : G) (r s t : R) : getD2 g r s t = (ob g r).bind fun x => (ob g s).bind fun y => (ob g t).bind fun z => dgetO x y z := by
  unfold getD2; cases ob g r <;> cases ob g s <;> cases ob g t <;> rfl
theorem dicOf_l (l : List (D × D)) : dicOf (.dic l) = some l := rfl
theorem dicOf_p (l : List (D × D)) : dicOf (.pure (.dic l)) = some l := rfl
/-! ### any, all of truths -/
def blsD : List D → Option (List Bool)
  | [] => some []
  | .bl s :: l => (blsD l).map fun r => s :: r
  | _ :: _ => none
theorem blsD_rep {H : Hp} : ∀ {us : List V} {l : List D} {ys : List Bool}, RepFs W H us l → blsD l = some ys → us = ys.map V.bl
  | _, _, ys, .nil, e => by cases e; rfl
  | _, _, ys, .cons (d := d) h r, e => by
    cases h with
    | bl b =>
      rw [blsD] at e
      obtain ⟨r', e1, e2⟩ := Option.map_eq_some_iff.mp e
      subst e2
      rw [List.map_cons, blsD_rep r e1]
    | _ => cases e
def anyO : List O → Option O
  | [.pure (.lst l)] => (blsD l).map fun ys => .pure (.bl (ys.any id))
  | [.lst l] => (blsD l).map fun ys => .pure (.bl (ys.any id))
  | _ => none
def allO : List O → Option O
  | [.pure (.lst l)] => (blsD l).map fun ys => .pure (.bl (ys.all id))
  | [.lst l] => (blsD l).map fun ys => .pure (.bl (ys.all id))
  | _ => none
theorem cr_anyO (hK : X.K = W.K) (hc : X.calm = true) : CallR X (.builtin "any") (cO W anyO) := by
  intro pins s σ H us ws Q I r ⟨H0, os, o, ex, pr, e, gv⟩
  have go : ∀ (oo : O) l ys, os = [oo] → (oo = .pure (.lst l) ∨ oo = .lst l) → blsD l = some ys → o = .pure (.bl (ys.any id)) → wpAny (model X.prog X.w) X.A (call (.builtin "any") ws) (EP X pins σ Q) X.xe s := by
    intro oo l ys e1 h e2 e3
    subst e1 e3
    obtain ⟨v, e4, _, r1⟩ := one_of pr
    obtain ⟨p, us', e5, hs, rf⟩ := sql_of ex r1 h
    refine cr_any hc pins s σ H us ws Q I r ⟨p, ys, by rw [e4, e5], ?_, gv.atom ex (.bl _)⟩
    rw [← blsD_rep rf e2, hK]; exact hs
  unfold anyO at e
  split at e
  · obtain ⟨ys, h1, h2⟩ := Option.map_eq_some_iff.mp e
    exact go _ _ ys rfl (.inl rfl) h1 h2.symm
  · obtain ⟨ys, h1, h2⟩ := Option.map_eq_some_iff.mp e
    exact go _ _ ys rfl (.inr rfl) h1 h2.symm
  · cases e
theorem cr_allO (hK : X.K = W.K) (hc : X.calm = true) : CallR X (.builtin "all") (cO W allO) := by
  intro pins s σ H us ws Q I r ⟨H0, os, o, ex, pr, e, gv⟩
  have go : ∀ (oo : O) l ys, os = [oo] → (oo = .pure (.lst l) ∨ oo = .lst l) → blsD l = some ys → o = .pure (.bl (ys.all id)) → wpAny (model X.prog X.w) X.A (call (.builtin "all") ws) (EP X pins σ Q) X.xe s := by
    intro oo l ys e1 h e2 e3
    subst e1 e3
    obtain ⟨v, e4, _, r1⟩ := one_of pr
    obtain ⟨p, us', e5, hs, rf⟩ := sql_of ex r1 h
    refine cr_all hc pins s σ H us ws Q I r ⟨p, ys, by rw [e4, e5], ?_, gv.atom ex (.bl _)⟩
    rw [← blsD_rep rf e2, hK]; exact hs
  unfold allO at e
  split at e
  · obtain ⟨ys, h1, h2⟩ := Option.map_eq_some_iff.mp e
    exact go _ _ ys rfl (.inl rfl) h1 h2.symm
  · obtain ⟨ys, h1, h2⟩ := Option.map_eq_some_iff.mp e
    exact go _ _ ys rfl (.inr rfl) h1 h2.symm
  · cases e
theorem blsD_map (l : List Bool) : blsD (l.map D.bl) = some l := by
  induction l with
  | nil => rfl
  | cons b l ih => rw [List.map_cons, blsD, ih]; rfl
theorem any_l (l : List Bool) : anyO [.lst (l.map D.bl)] = some (.pure (.bl (l.any id))) := by simp [anyO, blsD_map]
theorem all_l (l : List Bool) : allO [.lst (l.map D.bl)] = some (.pure (.bl (l.all id))) := by simp [allO, blsD_map]
end
end VI
namespace VI
open PySem PySem.Spec PyProof.Rows L2
/-! ### the text of words, split again -/
def sp1 : Str := Str.ofString " "
theorem sp1_eq : sp1 = ⟨#[32]⟩ := by decide +kernel
def NoSp (s : Str) : Prop := 32 ∉ s.cps.toList
theorem join_cons2 (s a b : Str) (l : List Str) : Str.join s (a :: b :: l) = a ++ s ++ Str.join s (b :: l) := rfl
theorem cps_app (a b : Str) : (a ++ b).cps.toList = a.cps.toList ++ b.cps.toList := by
  show (a.cps ++ b.cps).toList = _
  simp
theorem cut32 : ∀ {p q r s : List Nat}, 32 ∉ p → 32 ∉ q → p ++ 32 :: r = q ++ 32 :: s → p = q ∧ r = s
  | [], [], r, s, _, _, h => by simpa using h
  | [], y :: q, r, s, _, hq, h => by
    simp at h; exact absurd h.1 (by simp at hq; omega)
  | x :: p, [], r, s, hp, _, h => by
    simp at h; exact absurd h.1 (by simp at hp; omega)
  | x :: p, y :: q, r, s, hp, hq, h => by
    simp only [List.cons_append, List.cons.injEq] at h
    simp only [List.mem_cons, not_or] at hp hq
    obtain ⟨e1, e2⟩ := cut32 hp.2 hq.2 h.2
    exact ⟨by rw [h.1, e1], e2⟩
theorem join_inj : ∀ {ps qs : List Str}, ps ≠ [] → qs ≠ [] → (∀ p ∈ ps, NoSp p) → (∀ q ∈ qs, NoSp q) → Str.join sp1 ps = Str.join sp1 qs → ps = qs
  | [], _, h, _, _, _, _ => absurd rfl h
  | _, [], _, h, _, _, _ => absurd rfl h
  | [p], [q], _, _, _, _, h => by rw [show p = q from h]
  | [p], q :: q2 :: qs, _, _, hp, _, h => by
    have h1 : p.cps.toList = (q ++ sp1 ++ Str.join sp1 (q2 :: qs)).cps.toList := congrArg (fun s : Str => s.cps.toList) h
    rw [cps_app, cps_app, sp1_eq] at h1
    have := hp p (by simp)
    unfold NoSp at this
    rw [h1] at this
    simp at this
  | p :: p2 :: ps, [q], _, _, _, hq, h => by
    have h1 : (p ++ sp1 ++ Str.join sp1 (p2 :: ps)).cps.toList = q.cps.toList := congrArg (fun s : Str => s.cps.toList) h
    rw [cps_app, cps_app, sp1_eq] at h1
    have := hq q (by simp)
    unfold NoSp at this
    rw [← h1] at this
    simp at this
  | p :: p2 :: ps, q :: q2 :: qs, _, _, hp, hq, h => by
    have h1 : (p ++ sp1 ++ Str.join sp1 (p2 :: ps)).cps.toList = (q ++ sp1 ++ Str.join sp1 (q2 :: qs)).cps.toList := congrArg (fun s : Str => s.cps.toList) h
    rw [cps_app, cps_app, cps_app, cps_app, sp1_eq] at h1
    simp only [List.append_assoc, List.cons_append, List.nil_append] at h1
    obtain ⟨e1, e2⟩ := cut32 (hp p (by simp)) (hq q (by simp)) h1
    have e3 := join_inj (ps := p2 :: ps) (qs := q2 :: qs) (by simp) (by simp) (fun x hx => hp x (List.mem_cons_of_mem _ hx)) (fun x hx => hq x (List.mem_cons_of_mem _ hx)) (by rw [sp1_eq]; exact str_ext e2)
    rw [str_ext e1, e3]
theorem split_join {ps : List Str} (h0 : ps ≠ []) (h : ∀ p ∈ ps, NoSp p) : Txt.split (Str.join sp1 ps) sp1 = ps := by
  have j := StrLaws.join_split (Str.join sp1 ps) sp1
  have f : ∀ q ∈ Txt.split (Str.join sp1 ps) sp1, NoSp q := by rw [sp1_eq]; exact StrLaws.split_free _ 32
  refine join_inj ?_ h0 f h j
  intro e
  rw [e] at j
  match ps, h0, j with
  | [p], _, j =>
    have : p = Str.empty := j.symm
    subst this
    simp [Str.join] at e
    revert e; decide +kernel
  | p :: q :: r, _, j =>
    have h1 : (Str.empty).cps.toList = (p ++ sp1 ++ Str.join sp1 (q :: r)).cps.toList := congrArg (fun s : Str => s.cps.toList) j
    rw [cps_app, cps_app, sp1_eq] at h1
    have h2 : (Str.empty).cps.toList = [] := rfl
    rw [h2] at h1
    simp at h1
theorem join_app : ∀ {a b : List Str}, a ≠ [] → b ≠ [] → Str.join sp1 (a ++ b) = Str.join sp1 a ++ sp1 ++ Str.join sp1 b
  | [], _, h, _ => absurd rfl h
  | [x], b, _, hb => by
    cases b with
    | nil => exact absurd rfl hb
    | cons y b => rfl
  | x :: y :: a, b, _, hb => by
    have := join_app (a := y :: a) (b := b) (by simp) hb
    show x ++ sp1 ++ Str.join sp1 ((y :: a) ++ b) = x ++ sp1 ++ Str.join sp1 (y :: a) ++ sp1 ++ Str.join sp1 b
    rw [this]
    simp only [Str.append_assoc]
section
variable {W : Wd} {vs : List (Option V)} {Wx : WX} {X : Cx} {n : Nat}
/-! ### a walk over a text -/
def txtI : List O → Option (List D)
  | [.pure (.str s)] => some (sgnD s)
  | _ => none
theorem feeds_txt {Hb : Hp} {y : Str} : Feeds W Hb (Its y) [.str y] [.pure (.str y)] (sgnD y) := by
  intro i H0 H La _ ex ro
  refine ⟨fun d hd => ?_, fun hl => by
    rw [hl]
    show y.cps.size ≤ (sgnD y).length
    simp [sgnD]⟩
  unfold sgnD at hd
  rw [List.getElem?_map] at hd
  cases hc : y.cps.toList[i]? with
  | none => rw [hc] at hd; cases hd
  | some c =>
    rw [hc] at hd
    cases hd
    have hi : y.cps[i]? = some c := by rw [← Array.getElem?_toList]; exact hc
    refine ⟨?_, fun x H' hx => ?_⟩
    · show i < y.cps.size
      exact (Array.getElem?_eq_some_iff.mp hi).1
    · obtain ⟨e, c', h1, rfl⟩ := hx
      subst e
      rw [hi] at h1; cases h1
      exact ⟨H0, Step.refl (Sep.nil ex), .str _⟩
theorem si_txt {k : Nat} {tg e : Expr} {A : E} (cx : Ctx W k Wx X) (h : SE W vs Wx X e A) : SI W vs Wx X tg e (evs [A]) txtI := by
  refine pi_weak (pi_str h) fun σ H Q q => ?_
  obtain ⟨H0, L, g, sp, en, post⟩ := q
  refine tA_one (R' := fun x H1 => ∃ y, x = .str y ∧ Q (Its y) H1) ⟨H0, L, g, sp, en, ?_⟩
  cases ea : evs [A] g with
  | stuck => rw [ea] at post; exact post.elim
  | exc x g' => rw [ea] at post; exact post
  | ok rs g1 =>
    rw [ea] at post
    obtain ⟨os, g2', ds, e1, e2, kk⟩ := post
    intro us H1 H01 Lr L1 st rr en1 v hv
    subst hv
    obtain ⟨La, L2, ro, en2, pm⟩ := takes_ok rr en1 e1
    obtain ⟨y, ho, hd⟩ : ∃ y, os = [.pure (.str y)] ∧ ds = sgnD y := by
      unfold txtI at e2
      split at e2
      · exact ⟨_, rfl, by cases e2; rfl⟩
      · cases e2
    subst ho hd
    obtain ⟨v', e3, ro1⟩ := ro.one
    cases e3
    have e4 : v = .str y := by
      cases ro1 with
      | pure f => cases f; rfl
    subst e4
    exact ⟨y, rfl, kk _ _ H1 H01 La L2 (st.perm pm) ro en2 rr.toks feeds_txt⟩
end
/-! ### n += k, step by step -/
def augD (f : Int → Int → Int) (i : Nat) (a : Int) (g1 : G) : Option O → Res Fl
  | some (.pure (.int b)) => asgB (storeS i (.pure (.int (f a b))) g1)
  | _ => .stuck
def augE (f : Int → Int → Int) (i : Nat) (a : Int) (r : R) (g1 : G) : Res Fl := augD f i a g1 (ob g1 r)
def augC (f : Int → Int → Int) (i : Nat) (A : E) (g : G) : Option O → Res Fl
  | some (.pure (.int a)) => (A g).bind (augE f i a)
  | _ => .stuck
theorem augS_a (f : Int → Int → Int) (i : Nat) (A : E) (g : G) : augS f i A g = augC f i A g (ob g (.slot i)) := by
  unfold augS
  generalize ob g (.slot i) = x
  cases x with
  | none => rfl
  | some o => cases o with
    | pure d => cases d with
      | int a =>
        rfl
      | _ => rfl
    | _ => rfl
theorem augC_i (f : Int → Int → Int) (i : Nat) (A : E) (g : G) (a : Int) : augC f i A g (some (.pure (.int a))) = (A g).bind (augE f i a) := rfl
theorem augE_a (f : Int → Int → Int) (i : Nat) (a : Int) (r : R) (g1 : G) : augE f i a r g1 = augD f i a g1 (ob g1 r) := rfl
theorem augD_i (f : Int → Int → Int) (i : Nat) (a b : Int) (g1 : G) : augD f i a g1 (some (.pure (.int b))) = asgB (storeS i (.pure (.int (f a b))) g1) := rfl
end VI
namespace VI
open PySem PySem.Spec PyProof.Rows L2
/-! ### sets of texts: what stays true of the table -/
def TabR (w : World) (t : SetTable) : Prop := Ris t.place.toList ∧ (w.params.followText "set-order" = true ∨ t.led = true)
theorem tail_tabR {w : World} {ep : Nat} {es : Array (Int × Value)} {t : SetTable} (b : Bool) (h : TabR w t) : TabR w (Froz.tailTx ep es t b).2.2 := by
  unfold Froz.tailTx
  split
  · exact ⟨relayAll_ris _ _ _, h.2.imp id fun e => by rw [← e]; exact relayAll_led _ _ _⟩
  · exact h
theorem add_tabR {w : World} {D : Froz.SD} (k : Int) (v : Value) (h : TabR w D.2.2) : TabR w (Froz.addTx k v D).2.2 := by
  have r := layNew_ris D.2.2 D.1 k v h.1
  have l := layNew_led D.2.2 D.1 k v
  unfold Froz.addTx
  refine tail_tabR _ ?_
  split
  · exact ⟨r, h.2.imp id fun e => by show (layNew D.2.2 D.1 k v).2.1.led = true; rw [l]; exact e⟩
  · exact ⟨r, h.2.imp id fun e => by rw [l]; exact e⟩
section
open PySem.Froz
variable {P : Program} {w : World} {A : Around} {E : Value → Shared → Prop} {s : Shared}
/-- a text that is in already -/
theorem add_old {a : Addr} {T : String} {D : Froz.SD} {l : List Str} {k : Str} {u : Tok} {Q : Bool → Shared → Prop} (ho : s.heap.get? a = some (sObj T D)) (F : TxOk P w D l) (hk : k ∈ l) (hb : l.length < scanBound)
    (h : Q false s) : wpAny (model P w) A (setAddHashed a (.str k u) (hashStr w k)) Q E s := by
  rcases D with ⟨es, ep, t⟩
  have d0 : (sObj T (es, ep, t)).data = .set es ep t := rfl
  have sz : es.size < scanBound := by rw [show es.size = l.length from F.sz]; exact hb
  have fit : t.fits es.size = true := F.fit
  have el : ElemsOf (strKind P w) es.toList := F.el
  obtain ⟨e, he, hp⟩ := (F.mem k).mp hk
  unfold setAddHashed setAddHashedIn
  apply wpAny_holding
  apply wpAny_bind
  apply wpAny_setState_of ho d0 fit
  dsimp only
  rw [byScan_of rfl sz el]
  simp only [↓reduceIte]
  unfold setAddByScan
  apply wpAny_bind
  apply wpAny_bind
  apply wpAny_rule
  apply wpAny_bind
  apply wpAny_setScan_of (knd := strKind P w) (k := k) (is_str k u) ho d0 fit el
  cases f : List.findIdx? (fun e => (strKind P w).is k e.2) es.toList with
  | none => exact absurd (List.findIdx?_eq_none_iff.mp f e he) (by rw [hp]; decide)
  | some j =>
    dsimp only
    exact wpAny_pure (wpAny_pure h)
end
/-- the texts met, each once -/
def metS (l : List Str) (x : Str) : List Str := if x ∈ l then l else x :: l
theorem metS_len (l : List Str) (x : Str) : (metS l x).length ≤ l.length + 1 := by unfold metS; split <;> simp
theorem getD_drop {xs : List Str} {i : Nat} (h : i < xs.length) : xs.drop i = xs.getD i Str.empty :: xs.drop (i + 1) := by
  rw [List.drop_eq_getElem_cons h]
  simp [h]
section
open PySem.Froz
variable {P : Program} {w : World} {A : Around} {R : Result → Shared → Prop} {I : Addr} {fp wr : List Addr} {G : Array GenState → Array GenState → Prop} {n : Nat} {Pv : Nat → Value → Prop} {St : Nat → Shared → Prop}
theorem loopTx (Wk : WalksS P w A.in1 I fp wr G n Pv St) (S : Addr) (nf : S ∉ fp) (xs : List Str) (hn : xs.length = n) (room : n + 1 < scanBound) (vl : ∀ i v, Pv i v → ∃ t, v = .str (xs.getD i Str.empty) t) :
    ∀ (m i : Nat) (s : Shared) (D : Froz.SD) (l : List Str), n - i = m → i ≤ n → St i s → s.heap.get? S = some (sObj "set" D) → TxOk P w D l → TabR w D.2.2 → l.length ≤ i →
      (∀ s' D', Moved (S :: wr) G s s' → s'.heap.get? S = some (sObj "set" D') → TxOk P w D' ((xs.drop i).foldl metS l) → TabR w D'.2.2 → R (.ok (.ret .none)) s') →
      codeAny (model P w) A (.builtin "set.update.loop" ⟨[.ref S, .ref I], []⟩) R s := by
  have nw : S ∉ wr := fun z => nf (Wk.sub _ z)
  have up : ∀ b ∈ wr, b ∈ S :: wr := fun b z => List.mem_cons_of_mem _ z
  intro m
  induction m with
  | zero =>
    intro i s D l hm hi hs ho F T hl hR
    obtain rfl : i = n := by omega
    apply codeAny_builtin PyProof.Rows.F.entry_set_update_loop
    rw [Around.under_plainId PyProof.Rows.F.plain_set_update_loop _]
    show wpAny _ A.in1 (pyNext (.ref I) >>= _) _ _ s
    apply wpAny_bind
    apply Wk.done s _ _ hs
    intro s' mv
    show wpAny _ A.in1 (ret Value.none) _ _ s'
    refine wpAny_pure (hR s' D (mv.mono up) (mv.heap S _ nw ho) ?_ T)
    rw [List.drop_eq_nil_of_le (by omega)]
    exact F
  | succ m ih =>
    intro i s D l hm hi hs ho F T hl hR
    have lt : i < n := by omega
    apply codeAny_builtin PyProof.Rows.F.entry_set_update_loop
    rw [Around.under_plainId PyProof.Rows.F.plain_set_update_loop _]
    show wpAny _ A.in1 (pyNext (.ref I) >>= _) _ _ s
    apply wpAny_bind
    apply Wk.item i s _ _ lt hs
    intro v s' hv hs' mv
    obtain ⟨t, rfl⟩ := vl i v hv
    have ho' := mv.heap S _ nw ho
    have go : ∀ (D' : Froz.SD) (l' : List Str) (s2 : Shared), s2.heap.get? S = some (sObj "set" D') → TxOk P w D' l' → TabR w D'.2.2 → l' = metS l (xs.getD i Str.empty) → St (i + 1) s2 → Moved (S :: wr) G s s2 →
        codeAny (model P w) A (.builtin "set.update.loop" ⟨[.ref S, .ref I], []⟩) R s2 := fun D' l' s2 o2 F2 T2 e2 st2 mv2 => by
      refine ih (i + 1) s2 D' l' (by omega) lt st2 o2 F2 T2 (by rw [e2]; have := metS_len l (xs.getD i Str.empty); omega) fun s3 D3 mv3 o3 F3 T3 => ?_
      refine hR s3 D3 (Moved.trans Wk.gtrans mv2 mv3) o3 ?_ T3
      rw [getD_drop (by omega), List.foldl_cons, ← e2]
      exact F3
    show wpAny _ A.in1 (holding [Value.str (xs.getD i Str.empty) t] (setAdd S (.str (xs.getD i Str.empty) t)) >>= _) _ _ s'
    apply wpAny_bind
    apply wpAny_holding
    unfold setAdd
    apply wpAny_holding
    apply wpAny_bind
    apply (strKind P w).pyHash (k := xs.getD i Str.empty) (is_str _ _)
    by_cases hk : xs.getD i Str.empty ∈ l
    · refine add_old (s := { s' with toks := s'.toks + 1 }) ho' F hk (by omega) ?_
      refine wpAny_pure ⟨plainId_quiet PyProof.Rows.F.plain_set_update_loop _, ?_⟩
      refine go D l { s' with toks := s'.toks + 1 } ho' F T (by unfold metS; rw [if_pos hk]) ?_ ?_
      · exact Wk.frame _ s' _ _ hs' (Nat.le_succ _) fun b hb o e => e
      · exact (mv.mono up).then_heap (Nat.le_succ _) fun b o hb e => e
    · refine add_x (s := { s' with toks := s'.toks + 1 }) ho' F hk (by omega) ?_
      refine wpAny_pure ⟨plainId_quiet PyProof.Rows.F.plain_set_update_loop _, ?_⟩
      have o2 : (s'.heap.update S (fun _ => sObj "set" (addTx (hashStr w (xs.getD i Str.empty)) (.str (xs.getD i Str.empty) t) D))).get? S = some (sObj "set" (addTx (hashStr w (xs.getD i Str.empty)) (.str (xs.getD i Str.empty) t) D)) := get_upd _ ho' rfl
      refine go _ (xs.getD i Str.empty :: l) { s' with heap := s'.heap.update S (fun _ => sObj "set" (addTx (hashStr w (xs.getD i Str.empty)) (.str (xs.getD i Str.empty) t) D)), toks := s'.toks + 1 } o2 (add_ok t F) (add_tabR _ _ T) (by unfold metS; rw [if_neg hk]) ?_ ?_
      · refine Wk.frame _ s' _ _ hs' (Nat.le_succ _) fun b hb o e => ?_
        exact (Heap.get?_update_other _ _ (fun z : S = b => nf (by rw [z]; exact hb))).trans e
      · refine (mv.mono up).then_heap (Nat.le_succ _) fun b o hb e => ?_
        exact (Heap.get?_update_other _ _ (fun z : S = b => hb (by rw [← z]; exact List.mem_cons_self))).trans e
end
/-- the empty set as it is made -/
abbrev setE (w : World) : Obj := { cls := .type "set", dict := none, data := .set #[] 0 (.fresh 0 0 (!w.params.followText "set-order")) }
theorem setE_tab (w : World) : TabR w (.fresh 0 0 (!w.params.followText "set-order")) := by
  refine ⟨List.Pairwise.nil, ?_⟩
  show _ ∨ (!w.params.followText "set-order") = true
  cases w.params.followText "set-order" with
  | false => exact .inr rfl
  | true => exact .inl rfl
section
open PySem.Froz
variable {P : Program} {w : World} {A : Around} {E : Value → Shared → Prop} {s : Shared}
theorem call_set_txs {l : Addr} {items : Array Value} {xs : List Str} {Q : Value → Shared → Prop} (hh : A.handled = none) (hl : s.heap.IsList l items) (hx : PyProof.Rows.StrsAre items.toList xs) (room : xs.length + 1 < scanBound)
    (h : ∀ (h' : Heap) (tk : Nat) (D : Froz.SD), h'.get? s.heap.objs.size = some (sObj "set" D) → TxOk P w D (xs.foldl metS []) → TabR w D.2.2 → (∀ b o, b < s.heap.objs.size → s.heap.get? b = some o → h'.get? b = some o) →
      Q (.ref s.heap.objs.size) { s with heap := h', toks := tk }) : wpAny (model P w) A (call (.type "set") [.ref l]) Q E s := by
  obtain ⟨c, tl, mro⟩ := PySem.F.called_set.mro
  have made := PySem.F.called_set.made
  have sub := PySem.F.called_set.sub
  apply wpAny_call
  apply codeAny_of_tree
  show wpAny _ _ (callAny (.type "set") _) _ _ _
  refine wpAny_pure ⟨Code.quiet_builtin _ (by decide +kernel), ?_⟩
  apply codeAny_builtin PySem.F.entry_type_call
  rw [Around.under_plain (weight_type_call_type "set" [.ref l] []) rfl]
  have u1 := PySem.F.called_set.notType
  have u2 := PySem.F.called_set.canCreate
  have u3 := PySem.F.typeCall_set_1 (.ref l)
  repeat (any_goals (first | wp_step | assumption))
  refine codeAny_mono (code_set_led1 (.ref l) (E := E) (Q₁ := fun r s₁ => r = .ref s.heap.objs.size ∧ s₁ = { s with heap := s.heap.push (setE w) }) ⟨rfl, rfl⟩) fun r s₁ g1 => ?_
  rcases r with e | fl
  · exact g1
  cases fl with
  | ret obj =>
    obtain ⟨rfl, rfl⟩ := g1
    have oS : (s.heap.push (setE w)).get? s.heap.objs.size = some (setE w) := Heap.get?_push_size _ rfl
    have tS : Shared.TypeIs { s with heap := s.heap.push (setE w) } (.ref s.heap.objs.size) "set" := ⟨_, oS, rfl⟩
    have v1 := PySem.F.called_set.init.lookup
    have v2 := PySem.F.called_set.init.bind (.ref s.heap.objs.size)
    repeat (any_goals (first | wp_step | assumption))
    refine codeAny_mono (codeAny_call_builtin (R := wants (fun r s₂ => r = .none ∧ ∃ h' tk D, s₂ = { s with heap := h', toks := tk } ∧ h'.get? s.heap.objs.size = some (sObj "set" D) ∧ TxOk P w D (xs.foldl metS []) ∧ TabR w D.2.2 ∧
      (∀ b o, b < s.heap.objs.size → s.heap.get? b = some o → h'.get? b = some o)) E) PySem.F.called_set.init.plain PySem.F.entry_set_init (check_set_init_1 tS ?_)) fun r₂ s₂ g2 => ?_
    · obtain ⟨⟨ocls, odict, odata, oslots⟩, hol, hcl, nl, hdl⟩ := hl
      dsimp only at hcl hdl
      subst hcl hdl
      have ol' : (s.heap.push (setE w)).get? l = some { cls := .type "list", dict := odict, data := .seq items nl, slots := oslots } := Heap.get?_push_of_some _ hol
      have w1 := PySem.F.sub_list_set
      have w2 := PySem.F.sub_list_frozenset
      have w3 : (Value.type "list" == Value.type "dict") = false := by decide
      have il : (s.heap.push (setE w)).IsList l items := ⟨_, ol', rfl, nl, rfl⟩
      unfold Builtin.«set.__init__» noKeywords Builtin.Frozenset.updateFrom
      generalize e0 : pyIter = PI
      wp_walk
      subst e0
      apply wpAny_pyIter_list il
      apply wpAny_bind
      apply wpAny_runValue
      have lS : l < s.heap.objs.size := Heap.lt_size hol
      have zS : (s.heap.push (setE w)).objs.size = s.heap.objs.size + 1 := Heap.size_push ..
      have hh3 : A.in1.in1.in1.handled = none := by simp [hh]
      have nI : l ≠ (s.heap.push (setE w)).objs.size := fun z => by rw [zS] at z; rw [z] at lS; exact absurd lS (Nat.not_lt_of_le (Nat.le_succ _))
      have nf : s.heap.objs.size ∉ [(s.heap.push (setE w)).objs.size, l] := by
        rw [zS]
        intro z
        rcases List.mem_cons.mp z with z | z
        · exact absurd z.symm (Nat.succ_ne_self _)
        · rw [List.mem_singleton.mp z] at lS; exact absurd lS (Nat.lt_irrefl _)
      have len : xs.length = items.size := by rw [← PyProof.Rows.StrsAre.len_eq hx, Array.length_toList]
      have vl : ∀ (i : Nat) (v : Value), items[i]? = some v → ∃ t, v = .str (xs.getD i Str.empty) t := fun i v q => SS.strs_at hx i v ((Array.getElem?_toList ..).trans q)
      refine loopTx ((Walks.list hh3 _ l nI items).toS) s.heap.objs.size nf xs len (by omega) vl (items.size - 0) 0 _ (#[], 0, .fresh 0 0 (!w.params.followText "set-order")) [] rfl (Nat.zero_le _)
        ⟨⟨_, Heap.get?_push_size _ rfl, rfl, rfl⟩, il.push _⟩ (Heap.get?_push_of_some _ oS) (TxOk.nil rfl) (setE_tab w) (Nat.le_refl _) ?_
      rintro ⟨h', g', d', tk', os'⟩ D' mv o' F' T'
      have q1 : g' = s.gens := mv.gens
      have q2 : d' = s.drawn := mv.drawn
      have q3 : os' = s.os := mv.os
      subst q1 q2 q3
      show wpAny _ _ _ _ _ _
      apply wpAny_pure
      show wpAny _ _ (ret Value.none) _ _ _
      refine wpAny_pure ⟨rfl, h', tk', D', rfl, o', F', T', fun b o hb e => ?_⟩
      refine mv.heap b o ?_ (Heap.get?_push_of_some _ (Heap.get?_push_of_some _ e))
      intro z
      rcases List.mem_cons.mp z with z | z
      · rw [z] at hb; exact absurd hb (Nat.lt_irrefl _)
      · have z := List.mem_singleton.mp z
        rw [z] at hb
        exact absurd (Nat.lt_of_lt_of_eq hb rfl) (Nat.not_lt_of_le (Nat.le_of_lt (Nat.lt_of_lt_of_eq (Nat.lt_succ_self _) zS.symm)))
    · rcases r₂ with e | fl₂
      · exact g2
      cases fl₂ with
      | ret r =>
        obtain ⟨rfl, h', tk, D, rfl, o2, F2, T2, k2⟩ := g2
        repeat (any_goals (first | wp_step | assumption))
        exact h h' tk D o2 F2 T2 k2
      | _ => exact g2.elim
  | _ => exact g1.elim
end
end VI
namespace VI
open PySem PySem.Spec PyProof.Rows L2
/-! ### the members of a set of texts, as a list of texts -/
theorem perm_all {α : Type} [DecidableEq α] : ∀ (l m : List α), l.Nodup → (∀ x ∈ l, x ∈ m) → m.length = l.length → m.Perm l
  | [], m, _, _, h => by rw [List.eq_nil_of_length_eq_zero h]
  | x :: l, m, nd, hs, h => by
    have hx := hs x (by simp)
    have p := List.perm_cons_erase hx
    obtain ⟨n1, n2⟩ := List.nodup_cons.mp nd
    refine p.trans (List.Perm.cons x (perm_all l (m.erase x) n2 (fun y hy => ?_) ?_))
    · have ne : y ≠ x := fun e => n1 (e ▸ hy)
      exact (List.mem_erase_of_ne ne).mpr (hs y (List.mem_cons_of_mem _ hy))
    · have := p.length_eq
      simp only [List.length_cons] at this h
      omega
theorem metS_nodup : ∀ (xs l : List Str), l.Nodup → (xs.foldl metS l).Nodup
  | [], l, h => h
  | x :: xs, l, h => by
    refine metS_nodup xs _ ?_
    unfold metS
    split
    · exact h
    · rename_i hx; exact List.nodup_cons.mpr ⟨hx, h⟩
theorem metS_mem : ∀ (xs l : List Str) (y : Str), y ∈ xs.foldl metS l ↔ y ∈ l ∨ y ∈ xs
  | [], l, y => by simp
  | x :: xs, l, y => by
    rw [List.foldl_cons, metS_mem xs]
    unfold metS
    split
    · rename_i hx
      constructor
      · rintro (h | h)
        · exact .inl h
        · exact .inr (List.mem_cons_of_mem _ h)
      · rintro (h | h)
        · exact .inl h
        · rcases List.mem_cons.mp h with rfl | h
          · exact .inl hx
          · exact .inr h
    · simp only [List.mem_cons]
      constructor
      · rintro ((h | h) | h)
        · exact .inr (.inl h)
        · exact .inl h
        · exact .inr (.inr h)
      · rintro (h | h | h)
        · exact .inl (.inr h)
        · exact .inl (.inl h)
        · exact .inr h
def txOf : Value → Str
  | .str x _ => x
  | _ => Str.empty
theorem strsAre_tx : ∀ (vs : List Value), (∀ v ∈ vs, ∃ x t, v = Value.str x t) → PyProof.Rows.StrsAre vs (vs.map txOf)
  | [], _ => .nil
  | v :: vs, h => by
    obtain ⟨x, t, rfl⟩ := h v (by simp)
    exact .cons x t (strsAre_tx vs fun u hu => h u (List.mem_cons_of_mem _ hu))
section
open PySem.Froz
variable {P : Program} {w : World}
theorem members_tx {D : Froz.SD} {l : List Str} (F : TxOk P w D l) (nd : l.Nodup) {vs : List Value} (p : vs.Perm (D.1.toList.map (·.2))) : PyProof.Rows.StrsAre vs (vs.map txOf) ∧ (vs.map txOf).Perm l := by
  have sh : ∀ e ∈ D.1.toList, ∃ x t, e.2 = Value.str x t := fun e he => by
    obtain ⟨⟨k, hk, _⟩, _⟩ := F.el e he
    obtain ⟨t, ht⟩ := Value.isStrOf_shape hk
    exact ⟨k, t, ht⟩
  refine ⟨strsAre_tx vs fun v hv => ?_, ?_⟩
  · obtain ⟨e, he, rfl⟩ := List.mem_map.mp (p.mem_iff.mp hv)
    exact sh e he
  · refine perm_all l _ nd (fun x hx => ?_) ?_
    · obtain ⟨e, he, hk⟩ := (F.mem x).mp hx
      obtain ⟨t, ht⟩ := Value.isStrOf_shape hk
      refine List.mem_map.mpr ⟨e.2, p.mem_iff.mpr (List.mem_map_of_mem he), ?_⟩
      rw [ht]; rfl
    · rw [List.length_map, p.length_eq, List.length_map, Array.length_toList]
      exact F.sz
end
section
open PySem.Froz
variable {P : Program} {w : World} {A : Around} {E : Value → Shared → Prop} {s : Shared}
theorem sorted_txs {a : Addr} {D : Froz.SD} {l : List Str} {Q : Value → Shared → Prop} (hh : A.handled = none) (ho : s.heap.get? a = some (sObj "set" D)) (F : TxOk P w D l) (nd : l.Nodup) (T : TabR w D.2.2) (h64 : l.length < 64)
    (hQ : ∀ s' p (out : Array Value) (c : Nat) (ys : List Str), (∀ b o, s.heap.get? b = some o → s'.heap.get? b = some o) → s'.gens = s.gens → s'.os = s.os → s.heap.objs.size ≤ p → s'.heap.get? p = some (seqObj "list" out c) →
      PyProof.Rows.StrsAre out.toList ys → ys.Perm l → sortedS ys = true → Q (.ref p) s') : wpAny (model P w) A (call (.builtin "sorted") [.ref a]) Q E s := by
  rcases D with ⟨es, ep, t⟩
  have sz : es.size = l.length := F.sz
  apply Calls.call_function_entry kind_sorted plain_sorted entry_sorted (args_sorted1 _)
  unfold Builtin.«sorted»
  apply wpAny_bind (m := checkCount "sorted" 1 1 _)
  apply wpAny_pure
  apply wpAny_bind
  apply collect_set (A := A.in1) hh ⟨_, ho, rfl, rfl⟩ F.fit (by rw [sz]; unfold scanBound; omega) T.1 T.2
  intro s1 vs k1 z1 g1 o1 pm
  obtain ⟨hS, hp⟩ := members_tx F nd pm
  have vl : vs.length = l.length := by have := hp.length_eq; rwa [List.length_map] at this
  refine wpAny_bind (wpAny_newList ?_ (by rw [vl, sizeLine_eq]; omega))
  have oL : (s1.heap.push (seqObj "list" vs.toArray 0)).get? s1.heap.objs.size = some (seqObj "list" vs.toArray 0) := Heap.get?_push_size _ rfl
  apply wpAny_bind
  apply wpAny_holding
  refine wpAny_call_entry slot_list_sort ⟨_, oL, rfl⟩ entry_list_sort (list_sort_treeK strKind_oneLt oL hS.keysOf (fun v₁ v₂ rest e => keyKind_strs (by rw [← e]; exact hS)) (by rw [vl]; exact h64) fun st' a1 a2 => ⟨_, rfl, ?_⟩) (args_list_sort _)
  obtain ⟨ys, b1, b2, b3⟩ := sorted_out_str hS a1 a2
  obtain ⟨c, hc⟩ := sortedHeap_at (vs := vs) (out := (arrOf st').map (·.2)) oL
  refine wpAny_pure ⟨_, rfl, hQ _ s1.heap.objs.size _ c ys (fun b u e => ?_) g1 o1 z1 hc b1 (b2.trans hp) b3⟩
  have q := k1 b u e
  have lt := Heap.lt_size q
  show (sortedHeap (s1.heap.push (seqObj "list" vs.toArray 0)) s1.heap.objs.size vs _).get? b = some u
  rw [sortedHeap_old (Nat.ne_of_lt lt) (by rw [size_push']; exact Nat.lt_succ_of_lt lt)]
  exact Heap.get?_push_of_some _ q
end
end VI
namespace VI
open PySem PySem.Spec PyProof.Rows L2
section
variable {X : Cx}
/-! ### sorted(set(xs)) -/
def tSortSet (K : PySem.W.Frag) (ta : TE) : TE := fun σ H Q => ta σ H fun x H1 => ∃ l, ∃ xs : List Str, x = .ref l ∧ SqL K H1 l (xs.map V.str) ∧ xs.length < 64 ∧
  ∀ (ys : List Str) (p : Addr), ys.Perm (xs.foldl metS []) → sortedS ys = true → H1 p = none → Q (.ref p) (upd H1 p (.lst (ys.map V.str)))
theorem pe_sortSet {a : Expr} {ta : TE} {p p2 q pos : Pos} (hc : X.calm = true) (hg : Gl X "sorted") (hm : X.mg "sorted" = none) (hg2 : Gl X "set") (hm2 : X.mg "set" = none) (ha : PE X a ta)
    (na : starEach [a] X.env = (false, eval a X.env) :: starEach [] X.env := by rfl) : PE X (.Call (.Name "sorted" p) [.Call (.Name "set" p2) [a] [] q] [] pos) (tSortSet X.K ta) := by
  refine ⟨fun pins s σ H Q I h => ?_⟩
  refine Call_ (ld_blt (u := .builtin "sorted") I hg hm (by decide +kernel) ?_)
  refine callWith_builtin1 (args_cons ?_ rfl) rfl rfl
  refine Call_ (ld_blt I hg2 hm2 boot_set ?_)
  refine callWith_type1 (args_cons (thn (ha.run pins s σ H _ I h) fun v s1 ⟨x, H1, I1, r1, q1⟩ => args_nil ?_) na) na rfl
  obtain ⟨l, xs, rfl, hq, h1, q1⟩ := q1
  cases r1
  obtain ⟨its, r, pl, hz⟩ := I1.list hq
  have hS := strsAre_of r
  refine call_set_txs (I1.ok.hd hc) pl.isList (by simpa using hS) (by unfold scanBound; omega) fun h' tk D o2 F T k2 => ?_
  apply args_nil
  have I2 : Inv X pins σ H1 { s1 with heap := h', toks := tk } := I1.kept fun b o e => k2 b o (Heap.lt_size e) e
  have ln : (xs.foldl metS []).length ≤ xs.length := by
    have : ∀ (xs l : List Str), (xs.foldl metS l).length ≤ l.length + xs.length := fun xs => by
      induction xs with
      | nil => simp
      | cons x xs ih => intro l; have := ih (metS l x); have := metS_len l x; simp only [List.foldl_cons, List.length_cons]; omega
    simpa using this xs []
  have o3 : ({ s1 with heap := h', toks := tk } : Shared).heap.get? s1.heap.objs.size = some (Froz.sObj "set" D) := o2
  generalize ({ s1 with heap := h', toks := tk } : Shared) = s2 at I2 o3 ⊢
  refine sorted_txs (s := s2) (I2.ok.hd hc) o3 F (metS_nodup xs [] (by simp)) T (by omega) fun s' p out c ys k g o hp hget hi pm hs => ?_
  have hlen : (ys.map V.str).length ≤ sizeLine := by rw [List.length_map, pm.length_eq, sizeLine_eq]; omega
  have hn : H1 p = none := I2.hok.fresh hp
  have J : Inv X pins σ (upd H1 p (.lst (ys.map V.str))) { s2 with heap := s'.heap, gens := s'.gens, drawn := s'.drawn, toks := s'.toks } :=
    I2.call (ch := []) (Un.laid k hp hn) (I2.hok.laid k hp ⟨hlen, out.toList, c, vals_of_strs hi, hget⟩) (by rw [g]; exact I2.bare) (fun _ z => nomatch z)
  have e : s' = { s2 with heap := s'.heap, gens := s'.gens, drawn := s'.drawn, toks := s'.toks } := by
    rcases s' with ⟨_, _, _, _, _⟩
    dsimp only at o
    subst o
    rfl
  rw [e]
  exact ⟨.ref p, _, J, rfl, q1 ys p pm hs hn⟩
end
end VI
namespace VI
open PySem PySem.Spec PyProof.Rows L2
/-! ### the order of texts -/
theorem ltC_anti : ∀ {a b : List Nat}, ltCps a b = false → ltCps b a = false → a = b
  | [], [], _, _ => rfl
  | [], _ :: _, h, _ => by simp [ltCps] at h
  | _ :: _, [], _, h => by simp [ltCps] at h
  | x :: a, y :: b, h1, h2 => by
    simp only [ltCps, Bool.or_eq_false_iff, decide_eq_false_iff_not, Bool.and_eq_false_iff, beq_eq_false_iff_ne] at h1 h2
    have e : x = y := by omega
    subst e
    have i1 : ltCps a b = false := h1.2.resolve_left (fun z => z rfl)
    have i2 : ltCps b a = false := h2.2.resolve_left (fun z => z rfl)
    rw [ltC_anti i1 i2]
theorem leC_trans : ∀ {a b c : List Nat}, ltCps b a = false → ltCps c b = false → ltCps c a = false
  | [], _, [], _, _ => rfl
  | [], _, _ :: _, _, _ => by simp [ltCps]
  | _ :: _, [], _, h, _ => by simp [ltCps] at h
  | _ :: _, _ :: _, [], _, h => by simp [ltCps] at h
  | x :: a, y :: b, z :: c, h1, h2 => by
    simp only [ltCps, Bool.or_eq_false_iff, decide_eq_false_iff_not, Bool.and_eq_false_iff, beq_eq_false_iff_ne] at h1 h2 ⊢
    refine ⟨by omega, ?_⟩
    by_cases e : z = x
    · right
      have e1 : y = x := by omega
      have e2 : z = y := by omega
      exact leC_trans (h1.2.resolve_left (fun w => w e1)) (h2.2.resolve_left (fun w => w e2))
    · exact .inl e
def leT (a b : Str) : Prop := ltCps b.cps.toList a.cps.toList = false
theorem rising_pw : ∀ (l : List Str) (p : Str), risingS p l = true → (p :: l).Pairwise leT
  | [], p, _ => by simp
  | x :: l, p, h => by
    simp only [risingS, Bool.and_eq_true, Bool.not_eq_true'] at h
    have ih := rising_pw l x h.2
    refine List.pairwise_cons.mpr ⟨fun y hy => ?_, ih⟩
    rcases List.mem_cons.mp hy with rfl | hy
    · exact h.1
    · exact leC_trans h.1 ((List.pairwise_cons.mp ih).1 y hy)
theorem sortedS_pw {l : List Str} (h : sortedS l = true) : l.Pairwise leT := by
  cases l with
  | nil => exact .nil
  | cons x l => exact rising_pw l x h
theorem sorted_one : ∀ {a b : List Str}, a.Pairwise leT → b.Pairwise leT → a.Perm b → a = b
  | [], b, _, _, p => p.nil_eq
  | x :: a, [], _, _, p => by have := p.length_eq; simp at this
  | x :: a, y :: b, ha, hb, p => by
    have h1 := (List.pairwise_cons.mp ha)
    have h2 := (List.pairwise_cons.mp hb)
    have e : x = y := by
      by_cases e : x = y
      · exact e
      · have m1 : x ∈ b := by
          rcases List.mem_cons.mp (p.mem_iff.mp (List.mem_cons_self)) with z | z
          · exact absurd z e
          · exact z
        have m2 : y ∈ a := by
          rcases List.mem_cons.mp (p.mem_iff.mpr (List.mem_cons_self)) with z | z
          · exact absurd z.symm e
          · exact z
        exact str_ext (ltC_anti (h2.1 x m1) (h1.1 y m2))
    subst e
    rw [sorted_one h1.2 h2.2 (List.Perm.cons_inv p)]
def putS (x : Str) : List Str → List Str
  | [] => [x]
  | y :: l => if ltCps y.cps.toList x.cps.toList = true then y :: putS x l else x :: y :: l
def sortT : List Str → List Str
  | [] => []
  | x :: l => putS x (sortT l)
theorem putS_perm (x : Str) : ∀ l : List Str, (putS x l).Perm (x :: l)
  | [] => .refl _
  | y :: l => by
    unfold putS
    split
    · exact ((putS_perm x l).cons y).trans (.swap x y l)
    · exact .refl _
theorem sortT_perm : ∀ l : List Str, (sortT l).Perm l
  | [] => .refl _
  | x :: l => (putS_perm x _).trans ((sortT_perm l).cons x)
theorem ltC_asymm : ∀ {a b : List Nat}, ltCps a b = true → ltCps b a = false
  | [], [], h => by simp [ltCps] at h
  | [], _ :: _, _ => by simp [ltCps]
  | _ :: _, [], h => by simp [ltCps] at h
  | x :: a, y :: b, h => by
    simp only [ltCps, Bool.or_eq_true, decide_eq_true_eq, Bool.and_eq_true, beq_iff_eq] at h
    simp only [ltCps, Bool.or_eq_false_iff, decide_eq_false_iff_not, Bool.and_eq_false_iff, beq_eq_false_iff_ne]
    rcases h with h | ⟨e, h⟩
    · exact ⟨by omega, .inl (by omega)⟩
    · exact ⟨by omega, .inr (ltC_asymm h)⟩
theorem putS_pw (x : Str) : ∀ l : List Str, l.Pairwise leT → (putS x l).Pairwise leT
  | [], _ => by simp [putS]
  | y :: l, h => by
    obtain ⟨h1, h2⟩ := List.pairwise_cons.mp h
    unfold putS
    split
    · rename_i c
      refine List.pairwise_cons.mpr ⟨fun z hz => ?_, putS_pw x l h2⟩
      rcases List.mem_cons.mp ((putS_perm x l).mem_iff.mp hz) with rfl | hz
      · exact ltC_asymm c
      · exact h1 z hz
    · rename_i c
      have c' : leT x y := by unfold leT; simpa using c
      refine List.pairwise_cons.mpr ⟨fun z hz => ?_, h⟩
      rcases List.mem_cons.mp hz with rfl | hz
      · exact c'
      · exact leC_trans c' (h1 z hz)
theorem sortT_pw : ∀ l : List Str, (sortT l).Pairwise leT
  | [] => .nil
  | x :: l => putS_pw x _ (sortT_pw l)
theorem sorted_is {ys xs : List Str} (p : ys.Perm xs) (h : sortedS ys = true) : ys = sortT xs := sorted_one (sortedS_pw h) (sortT_pw xs) (p.trans (sortT_perm xs).symm)
end VI
namespace VI
open PySem PySem.Spec PyProof.Rows L2
/-! ### sorted(set(..)) as a combinator -/
def txsD : List D → Option (List Str)
  | [] => some []
  | .str s :: l => (txsD l).map (s :: ·)
  | _ :: _ => none
theorem txsD_map : ∀ xs : List Str, txsD (xs.map D.str) = some xs
  | [] => rfl
  | x :: xs => by rw [List.map_cons, txsD, txsD_map xs]; rfl
theorem txsD_is : ∀ {l : List D} {xs : List Str}, txsD l = some xs → l = xs.map D.str
  | [], xs, h => by cases h; rfl
  | .str s :: l, xs, h => by
    rw [txsD] at h
    obtain ⟨ys, h1, h2⟩ := Option.map_eq_some_iff.mp h
    subst h2
    rw [List.map_cons, ← txsD_is h1]
  | .non :: l, xs, h => by cases h
  | .bl _ :: l, xs, h => by cases h
  | .int _ :: l, xs, h => by cases h
  | .tup _ :: l, xs, h => by cases h
  | .lst _ :: l, xs, h => by cases h
  | .dic _ :: l, xs, h => by cases h
  | .set _ :: l, xs, h => by cases h
  | .ins _ _ :: l, xs, h => by cases h
  | .ty _ :: l, xs, h => by cases h
  | .cls _ :: l, xs, h => by cases h
def nubT (xs : List Str) : List Str := sortT (xs.foldl metS [])
def ssetL (l : List D) : Option O := (txsD l).bind fun xs => if xs.length < 64 then some (.lst ((nubT xs).map D.str)) else none
def ssetO : O → Option O
  | .lst l => ssetL l
  | .pure (.lst l) => ssetL l
  | _ => none
theorem sset_l (xs : List Str) (h : xs.length < 64) : ssetO (.lst (xs.map D.str)) = some (.lst ((nubT xs).map D.str)) := by
  unfold ssetO ssetL
  simp only [txsD_map, Option.bind_some, if_pos h]
theorem sset_ll (xs ys : List Str) (h : xs.length + ys.length < 64) : ssetO (.lst (xs.map D.str ++ ys.map D.str)) = some (.lst ((nubT (xs ++ ys)).map D.str)) := by
  rw [← List.map_append]
  exact sset_l _ (by rw [List.length_append]; exact h)
theorem add_sl (xs ys : List Str) (h : xs.length + ys.length ≤ 16777216) : addO (.lst (xs.map D.str)) (.lst (ys.map D.str)) = some (.lst ((xs ++ ys).map D.str)) := by
  show (if (xs.map D.str).length + (ys.map D.str).length ≤ 16777216 then some (O.lst (xs.map D.str ++ ys.map D.str)) else none) = _
  rw [if_pos (by simpa using h), List.map_append]
theorem strs_repU {W : Wd} {H : Hp} : ∀ {us : List V} {xs : List Str}, RepFs W H us (xs.map D.str) → us = xs.map V.str
  | _, [], .nil => rfl
  | _, x :: xs, .cons a r => by
    cases a
    rw [List.map_cons, ← strs_repU r]
theorem reps_strsU {W : Wd} {H : Hp} : ∀ xs : List Str, RepFs W H (xs.map V.str) (xs.map D.str)
  | [] => .nil
  | x :: xs => .cons (.str x) (reps_strsU xs)
section
variable {W : Wd} {X : Cx} {vs : List (Option V)} {Wx : WX} {n : Nat}
theorem se_sset {a : Expr} {A : E} {p p2 q pos : Pos} (cx : Ctx W n Wx X) (hg : Gl X "sorted") (hm : X.mg "sorted" = none) (hg2 : Gl X "set") (hm2 : X.mg "set" = none) (ha : SE W vs Wx X a A)
    (na : starEach [a] X.env = (false, eval a X.env) :: starEach [] X.env := by rfl) : SE W vs Wx X (.Call (.Name "sorted" p) [.Call (.Name "set" p2) [a] [] q] [] pos) (una ssetO A) := by
  refine pe_weak (pe_sortSet cx.calm hg hm hg2 hm2 ha na) fun σ H Q qq => ?_
  unfold tSortSet
  obtain ⟨H0, L, g, sp, en, post⟩ := tO_una σ H Q qq
  refine ⟨H0, L, g, sp, en, ?_⟩
  cases ea : A g with
  | stuck => rw [ea] at post; exact post.elim
  | exc x g' => rw [ea] at post; exact post
  | ok r g1 =>
    rw [ea] at post
    intro v H1 H01 Lr L1 st1 rr en1
    obtain ⟨H02, ox, Lx, o, ex, ro, ef, gv⟩ := post v H1 H01 Lr L1 st1 rr en1
    have key : ∀ l, (ox = .pure (.lst l) ∨ ox = .lst l) → ssetL l = some o → ∃ l, ∃ xs : List Str, v = .ref l ∧ SqL X.K H1 l (xs.map V.str) ∧ xs.length < 64 ∧
        ∀ (ys : List Str) (p : Addr), ys.Perm (xs.foldl metS []) → sortedS ys = true → H1 p = none → Q (.ref p) (upd H1 p (.lst (ys.map V.str))) := fun l h e => by
      unfold ssetL at e
      obtain ⟨xs, e1, e2⟩ := Option.bind_eq_some_iff.mp e
      split at e2
      · rename_i h64
        cases e2
        obtain ⟨p, us, e3, hs, rf⟩ := sql_of ex ro h
        rw [txsD_is e1] at rf
        have e4 := strs_repU rf
        subst e4
        refine ⟨p, xs, e3, by rw [cx.K]; exact hs, h64, fun ys p2 pm hs2 hp => ?_⟩
        have e5 : ys = nubT xs := sorted_is pm hs2
        subst e5
        exact gv.newL ex (reps_strsU _) hp
      · cases e2
    unfold ssetO at ef
    split at ef
    · exact key _ (.inr rfl) ef
    · exact key _ (.inl rfl) ef
    · cases ef
end
/-! ### what it holds -/
theorem putS_nodup {x : Str} : ∀ {l : List Str}, (x :: l).Nodup → (putS x l).Nodup := fun h => (putS_perm _ _).nodup_iff.mpr h
theorem nub_mem (xs : List Str) (x : Str) : x ∈ nubT xs ↔ x ∈ xs := by
  unfold nubT
  rw [(sortT_perm _).mem_iff]
  have := metS_mem xs [] x
  simpa using this
theorem nub_nodup (xs : List Str) : (nubT xs).Nodup := (sortT_perm _).nodup_iff.mpr (metS_nodup xs [] (by simp))
/-- two lists of the same texts -/
theorem nub_eq {xs ys : List Str} (h : ∀ x, x ∈ xs ↔ x ∈ ys) : nubT xs = nubT ys := by
  refine sorted_one (sortT_pw _) (sortT_pw _) ?_
  exact (List.perm_ext_iff_of_nodup (nub_nodup xs) (nub_nodup ys)).mpr fun x => by rw [nub_mem, nub_mem, h]
theorem nub_len (xs : List Str) : (nubT xs).length ≤ xs.length := by
  unfold nubT
  rw [(sortT_perm _).length_eq]
  have : ∀ (xs l : List Str), (xs.foldl metS l).length ≤ l.length + xs.length := fun xs => by
    induction xs with
    | nil => simp
    | cons x xs ih => intro l; have := ih (metS l x); have := metS_len l x; simp only [List.foldl_cons, List.length_cons]; omega
  simpa using this xs []
theorem nub_nil : nubT [] = [] := rfl
theorem nub_one (x : Str) : nubT [x] = [x] := rfl
end VI
namespace VI
open PySem PySem.Spec PyProof.Rows L2
/-! ### for k, v in d.items(), d a new dict -/
section
variable {W : Wd} {X : Cx} {vs : List (Option V)} {Wx : WX} {n : Nat}
theorem pe_lock {e : Expr} {td : TE} (he : PE X e td) : PE X e (fun σ H Q => td σ H fun x H1 => ∃ (d : Addr) (kvs : List (Key × V)), x = .ref d ∧ H1 d = some (.dK kvs) ∧ ∀ od, Q x (upd H1 d (.frz od (.dK kvs)))) := by
  refine ⟨fun pins s σ H Q I h => ?_⟩
  refine wpAny_mono (he.run pins s σ H _ I h) (fun v s1 q => ?_) (fun _ _ z => z)
  obtain ⟨x, H1, I1, r1, d, kvs, ex, hd, q⟩ := q
  obtain ⟨od, I2⟩ := I1.lock hd trivial
  exact ⟨x, _, I2, r1, q od⟩
def itsD (l : List (D × D)) : List D := l.map fun q => .tup [q.1, q.2]
def itmE (A : E) : E := fun g => (A g).bind fun r g1 => match r with
  | .val (.dic l) => .ok (.val (.pure (.set (itsD l)))) g1
  | _ => .stuck
def setI : List O → Option (List D)
  | [.pure (.set l)] => some l
  | _ => none
theorem fk_at {H : Hp} : ∀ {kvs : List (Key × V)} {l : List (D × D)} {i : Nat}, RepFk W H kvs l → kvs.length = l.length ∧ ∀ k v, kvs[i]? = some (k, v) → ∃ d, l[i]? = some (kD k, d) ∧ RepF W H v d
  | _, _, i, .nil => ⟨rfl, fun k v h => by simp at h⟩
  | _, _, 0, .cons (vs := ks) a r => ⟨by simp [(fk_at (i := 0) r).1], fun k v h => by
      simp only [List.getElem?_cons_zero, Option.some.injEq, Prod.mk.injEq] at h
      obtain ⟨rfl, rfl⟩ := h
      exact ⟨_, by simp, a⟩⟩
  | _, _, i + 1, .cons a r => ⟨by simp [(fk_at (i := i) r).1], fun k v h => by
      obtain ⟨d, h1, h2⟩ := (fk_at (i := i) r).2 k v (by simpa using h)
      exact ⟨d, by simpa using h1, h2⟩⟩
theorem kV_rep {H : Hp} (k : Key) : RepF W H (kV k) (kD k) := by
  cases k with
  | inl i => exact .int i
  | inr s => exact .str s
theorem feeds_items {Hb : Hp} {p : Addr} {od : Obj} {kvs : List (Key × V)} {l : List (D × D)} (hp : Hb p = some (.frz od (.dK kvs))) (rf : RepFk W Hb kvs l) {us : List V} {os : List O} : Feeds W Hb (Iti p od kvs) us os (itsD l) := by
  intro i H0 H La eb ex ro
  have hH : H p = some (.frz od (.dK kvs)) := ex _ _ (eb _ _ hp)
  have ln := (fk_at (i := 0) rf).1
  refine ⟨fun d hd => ?_, fun hl => ⟨hH, by rw [hl]; simp [itsD, ln]⟩⟩
  have hi : i < l.length := by
    have := (List.getElem?_eq_some_iff.mp hd).1
    simpa [itsD] using this
  refine ⟨⟨hH, by omega⟩, fun x H' hy => ?_⟩
  obtain ⟨T, k, v, hk, rfl, hT, rfl⟩ := hy
  obtain ⟨d', h1, h2⟩ := (fk_at (i := i) rf).2 k v hk
  have ed : d = .tup [kD k, d'] := by
    simp only [itsD, List.getElem?_map, h1, Option.map_some, Option.some.injEq] at hd
    exact hd.symm
  subst ed
  have st := step_new0 (o := .tup [kV k, v]) ex hT
  exact ⟨_, st, .tup (SqT.of upd_same) (.cons (kV_rep k) (.cons ((h2.mono eb).mono st.ex0) .nil))⟩
theorem si_items {e : Expr} {A : E} {kk : Nat} {elts : List Expr} {tpos apos cpos : Pos} (he : SE W vs Wx X e A) (hbase : attributeBase e "items" X.env (eval e X.env) = eval e X.env := by rfl) (hline : (apos.endLine == cpos.line) = true := by rfl) :
    SI W vs Wx X (.Tuple elts kk tpos) (.Call (.Attribute e "items" apos) [] [] cpos) (evs [itmE A]) setI := by
  refine pi_weak (pi_items (pe_lock he) hbase hline) fun σ H Q q => ?_
  obtain ⟨H0, L, g, sp, en, post⟩ := q
  refine ⟨H0, L, g, sp, en, ?_⟩
  have ev : ∀ (a : E) (g : G), evs [a] g = (a g).bind fun r g1 => .ok [r] g1 := fun a g => by simp only [evs]; congr 1
  rw [ev] at post
  unfold itmE at post
  cases ea : A g with
  | stuck => rw [ea] at post; exact post.elim
  | exc x g' => rw [ea] at post; exact post
  | ok r g1 =>
    rw [ea] at post
    intro v H1 H01 Lr L1 st1 rr en1
    simp only [Res.bind] at post
    cases r with
    | slot i => exact post.elim
    | val o =>
      cases o with
      | pure d => exact post.elim
      | lst l => exact post.elim
      | ins c fs => exact post.elim
      | hole => exact post.elim
      | lls l => exact post.elim
      | dic l =>
        simp only [Res.bind] at post
        cases rr with
        | @dic p kvs _ hp rf =>
          refine ⟨p, kvs, rfl, hp, fun od => ⟨p, od, kvs, rfl, upd_same, ?_⟩⟩
          obtain ⟨os, g2, ds, e1, e2, kq⟩ := post
          simp only [takes, Option.map_some, Option.some.injEq, Prod.mk.injEq] at e1
          obtain ⟨rfl, rfl⟩ := e1
          cases e2
          have sp1 := st1.sep
          have h01 : H01 p = none := (sp1.own p (by simp)).1
          have ex0 : Ex H01 (upd H01 p (.frz od (.dK kvs))) := Ex.new h01
          have nd := sp1.nd
          have hpL : p ∉ L1 := by
            have := List.nodup_cons.mp (show (p :: L1).Nodup from nd)
            exact this.1
          have st2 : Step H01 H1 ([p] ++ L1) (upd H01 p (.frz od (.dK kvs))) (upd H1 p (.frz od (.dK kvs))) L1 := by
            refine ⟨ex0, fun a u hu hn => ?_, fun a ha => ?_, fun a ha => .inl (List.mem_append_right _ ha), ⟨fun a u hu => ?_, (List.nodup_cons.mp (show (p :: L1).Nodup from nd)).2, fun q hq => ?_⟩⟩
            · rw [upd_ne (fun z => hn (by rw [z]; simp))]
              exact hu
            · by_cases z : a = p
              · exact .inr (.inr (by rw [z]; simp))
              · rw [upd_ne z] at ha
                exact .inl ha
            · by_cases z : a = p
              · subst z
                rw [upd_same] at hu ⊢
                exact hu
              · rw [upd_ne z] at hu ⊢
                exact sp1.ex a u hu
            · have z : q ≠ p := fun z => hpL (z ▸ hq)
              rw [upd_ne z, upd_ne z]
              exact sp1.own q (List.mem_append_right _ hq)
          have rf2 := rf.mono ex0
          refine kq (Iti p od kvs) [.ref p] _ _ [] L1 (by simpa using st1.trans st2) (.cons (Lo := []) (L := []) (.pure (.set upd_same rf2)) .nil) (en1.mono ex0 fun a ha u hu => ?_) (.val .nil) (feeds_items upd_same rf2)
          have z : a ≠ p := fun z => hpL (by rw [← z]; exact ha)
          rw [upd_ne z]
          exact hu
end
end VI
namespace VI
open PySem PySem.Spec PyProof.Rows L2
/-! ### steps of items(); rstrip -/
def itmC (r : R) (g : G) : Res R := match r with
  | .val (.dic l) => .ok (.val (.pure (.set (itsD l)))) g
  | _ => .stuck
theorem itmE_a (A : E) (g : G) : itmE A g = (A g).bind itmC := rfl
theorem itmC_d (l : List (D × D)) (g : G) : itmC (.val (.dic l)) g = .ok (.val (.pure (.set (itsD l)))) g := rfl
theorem setI_a (l : List D) : setI [.pure (.set l)] = some l := rfl
def rstripO : List O → Option O
  | [.pure (.str a), .pure (.str b)] => if a.length ≤ 16777216 then some (.pure (.str (Txt.rstripChars a b))) else none
  | _ => none
section
variable {W : Wd} {X : Cx}
theorem mt_rstripO : MtR X "str.rstrip" (mO W rstripO) := by
  intro pins s σ H x xs v us Q I rx rs ⟨H0, os, o, ex, pr, e, gv⟩
  unfold rstripO at e
  split at e
  · obtain ⟨a1, a2, e1, ⟨_, r1⟩, ⟨_, r2⟩⟩ := two_of pr
    split at e
    · rename_i hz
      cases e
      cases e1
      exact mt_rstripChars pins s σ H _ _ v us Q I rx rs ⟨_, _, atom_str r1, by rw [atom_str r2], sizeL hz, gv.atom ex (.str _)⟩
    · cases e
  · cases e
end
theorem mul_s (a : Str) (j : Int) (h1 : a.length ≤ 100) (h2 : 0 ≤ j) (h3 : j ≤ 100) : mulO (.pure (.str a)) (.pure (.int j)) = some (.pure (.str (Txt.mul a j))) := by
  show (if a.length ≤ 100 ∧ 0 ≤ j ∧ j ≤ 100 then _ else none) = _
  rw [if_pos ⟨h1, h2, h3⟩]
end VI
namespace VI
open PySem PySem.Spec PyProof.Rows L2
/-! ### blanks -/
def sps : Nat → Str
  | 0 => Str.ofString ""
  | n + 1 => sps n ++ sp1
theorem sps_cps : ∀ n : Nat, (sps n).cps.toList = List.replicate n 32
  | 0 => by decide
  | n + 1 => by
    rw [sps, cps_app, sps_cps n, sp1_eq, List.replicate_succ']
theorem sps_len (n : Nat) : (sps n).length = n := by
  have := congrArg List.length (sps_cps n)
  simpa [Str.length] using this
theorem rstrip_sps {s : Str} (n : Nat) (h : ∃ b c, s.cps.toList = b ++ [c] ∧ c ≠ 32) : Txt.rstripChars (s ++ sps n) sp1 = s := by
  obtain ⟨b, c, e, hc⟩ := h
  unfold Txt.rstripChars
  rw [PyProof.Rows.stripBy_eq]
  have ex : (s ++ sps n).cps.toList = b ++ [c] ++ List.replicate n 32 := by rw [cps_app, e, sps_cps]
  have e0 : PySem.stripLo (sp1.cps.contains) false (s ++ sps n) = 0 := rfl
  have ht : ((s ++ sps n).cps.toList.reverse.takeWhile sp1.cps.contains) = List.replicate n 32 := by
    rw [ex, List.reverse_append, List.reverse_append, List.reverse_replicate, sp1_eq]
    have pc : ∀ k : Nat, (#[32] : Array Nat).contains k = decide (k = 32) := fun k => by simp
    have tw : ∀ (m : Nat) (l : List Nat), (List.replicate m 32 ++ l).takeWhile (#[32] : Array Nat).contains = List.replicate m 32 ++ l.takeWhile (#[32] : Array Nat).contains := fun m l => by
      induction m with
      | zero => rfl
      | succ m ih =>
        rw [List.replicate_succ, List.cons_append, List.takeWhile_cons, pc, decide_eq_true rfl, if_pos rfl, ih]
        rfl
    rw [tw]
    show List.replicate n 32 ++ (c :: b.reverse).takeWhile (#[32] : Array Nat).contains = List.replicate n 32
    rw [List.takeWhile_cons, pc, decide_eq_false hc]
    simp
  apply str_ext
  have hl : (s ++ sps n).length = b.length + 1 + n := by
    have := congrArg List.length ex
    simp only [List.length_append, List.length_replicate, List.length_cons, List.length_nil] at this
    exact this
  have hh : PySem.stripHi (sp1.cps.contains) true (s ++ sps n) 0 = b.length + 1 := by
    show (s ++ sps n).length - (((s ++ sps n).cps.toList.drop 0).reverse.takeWhile sp1.cps.contains).length = _
    rw [List.drop_zero, ht, List.length_replicate, hl]
    omega
  rw [e0, hh]
  show ((s ++ sps n).cps.extract 0 (b.length + 1)).toList = s.cps.toList
  rw [Array.toList_extract, ex, e]
  show ((b ++ [c] ++ List.replicate n 32).drop 0).take (b.length + 1 - 0) = b ++ [c]
  rw [List.drop_zero]
  exact List.take_left' (by simp)
theorem join_push : ∀ (A : List Str) (x y : Str), Str.join sp1 (A ++ [x]) ++ y = Str.join sp1 (A ++ [x ++ y])
  | [], x, y => rfl
  | [a], x, y => by
    show a ++ sp1 ++ x ++ y = a ++ sp1 ++ (x ++ y)
    rw [Str.append_assoc]
  | a :: b :: A, x, y => by
    have := join_push (b :: A) x y
    show a ++ sp1 ++ Str.join sp1 ((b :: A) ++ [x]) ++ y = a ++ sp1 ++ Str.join sp1 ((b :: A) ++ [x ++ y])
    rw [Str.append_assoc, this]
theorem str_nil (x : Str) : x ++ Str.ofString "" = x := str_ext (by rw [cps_app]; simp [show (Str.ofString "").cps.toList = [] by decide])
theorem nil_str (x : Str) : Str.ofString "" ++ x = x := str_ext (by rw [cps_app]; simp [show (Str.ofString "").cps.toList = [] by decide])
theorem join_blank (A : List Str) (h : A ≠ []) : Str.join sp1 A ++ sp1 = Str.join sp1 (A ++ [Str.ofString ""]) := by
  rw [join_app h (by simp)]
  show _ = Str.join sp1 A ++ sp1 ++ Str.ofString ""
  rw [str_nil]
theorem join_sps (A : List Str) (h : A ≠ []) : ∀ n : Nat, Str.join sp1 A ++ sps n = Str.join sp1 (A ++ List.replicate n (Str.ofString ""))
  | 0 => by simp [sps, str_nil]
  | n + 1 => by
    rw [sps, ← Str.append_assoc, join_sps A h n, join_blank _ (by simp [h]), List.append_assoc, List.replicate_succ']
theorem sps_join : ∀ n : Nat, sps n = Str.join sp1 (List.replicate (n + 1) (Str.ofString ""))
  | 0 => rfl
  | n + 1 => by
    rw [sps, sps_join n, join_blank _ (by simp), ← List.replicate_succ']
theorem mul_sps : ∀ q : Fin 4, Txt.mul sp1 (q.val : Int) = sps q.val := by decide +kernel
theorem cut_sps : ∀ q : Fin 3, cutS (Str.ofString "  ") none (some (q.val : Int)) = sps q.val := by decide +kernel
end VI
namespace VI
open PySem PySem.Spec PyProof.Rows L2
/-! ### own lists in an own list; a name frozen -/
section
variable {W : Wd} {X : Cx} {vs : List (Option V)} {Wx : WX} {n : Nat}
def frzE (i : Nat) : E := fun g => match frzs [.slot i] g with
  | some ([d], g2) => .ok (.val (.pure d)) g2
  | _ => .stuck
theorem se_frz (i : Nat) {x : Str} {pos : Pos} (h : PE X (.Name x pos) (tVar i)) : SE W vs Wx X (.Name x pos) (frzE i) := by
  refine pe_weak h fun σ H Q ⟨H0, L, g, sp, en, post⟩ => ?_
  unfold frzE at post
  cases ef : frzs [.slot i] g with
  | none => rw [ef] at post; exact post.elim
  | some pr =>
    obtain ⟨ds, g2⟩ := pr
    rw [ef] at post
    cases eo : ob g (.slot i) with
    | none => rw [frzs, eo] at ef; cases ef
    | some o =>
      have eo2 := eo
      simp only [ob, Option.bind_eq_some_iff] at eo
      obtain ⟨sl, eo1, eo3⟩ := eo
      obtain ⟨v, La, Lo, Lb, h1, h2, h3, h4⟩ := en.at eo1 eo3
      refine ⟨v, h1, ?_⟩
      have rr : RepRs W H0 H σ [v] [.slot i] [] := .cons (r := .slot i) (Lr := []) (L := []) ⟨h1, rfl⟩ .nil
      obtain ⟨H02, L2, s2, rf, en2⟩ := frzs_ok rr (by simpa using sp) en ef
      cases rf with
      | cons rd r2 =>
        cases r2
        exact post v H H02 [] L2 (by simpa using s2) (.pure rd) en2
def llsE : E := fun g => .ok (.val (.lls [[]])) g
theorem step_upd {H0 H : Hp} {L : List Addr} {p : Addr} {o : HO} (sp : Sep H0 H L) (hp : p ∈ L) : Step H0 H L H0 (upd H p o) L := by
  refine ⟨Ex.refl _, fun a u h hn => ?_, fun a h => .inl h, fun a h => .inl h, ⟨fun a u h => ?_, sp.nd, fun q hq => ⟨(sp.own q hq).1, ?_⟩⟩⟩
  · rw [upd_ne (fun z => hn (by rw [z]; exact hp))]; exact h
  · rw [upd_ne (fun z => by rw [z, (sp.own p hp).1] at h; cases h)]; exact sp.ex a u h
  · by_cases z : q = p
    · rw [z]; exact ⟨_, upd_same⟩
    · rw [upd_ne z]; exact (sp.own q hq).2
theorem step_more {H0 H : Hp} {L : List Addr} {q : Addr} {o : HO} (sp : Sep H0 H L) (hq : H q = none) : Step H0 H L H0 (upd H q o) (L ++ [q]) := by
  have s := Step.frame (La := L) (Lb := []) (by simpa using sp) (step_newL (o := o) sp.ex hq)
  simpa using s
theorem se_lls {p1 p2 : Pos} (hs : starEach [Expr.List [] p1] X.env = (false, eval (Expr.List [] p1) X.env) :: starEach [] X.env := by rfl) : SE W vs Wx X (.List [.List [] p1] p2) llsE := by
  refine pe_weak (pe_lst (pa_cons (pe_lst pa_nil) pa_nil hs)) fun σ H Q ⟨H0, L, g, sp, en, post⟩ => ?_
  refine ⟨by simp, fun q hq => ⟨by simp; exact size1000 (by omega), fun p hp => ?_⟩⟩
  have s1 := step_more (o := .lst []) sp hq
  have s2 := step_more (o := .lst [V.ref q]) s1.sep hp
  have s3 : Step H0 H L H0 (upd (upd H q (.lst [])) p (.lst [V.ref q])) ([p, q] ++ L) := by
    refine (s1.trans s2).perm ?_
    have a1 : (L ++ [q] ++ [p]).Perm ([p] ++ (L ++ [q])) := List.perm_append_comm
    exact a1.trans (List.Perm.append_left [p] List.perm_append_comm)
  have hne : q ≠ p := fun z => by subst z; rw [upd_same] at hp; cases hp
  have kp : ∀ a ∈ L, ∀ u, H a = some u → upd (upd H q (.lst [])) p (.lst [V.ref q]) a = some u := fun a ha u hu => by
    have z1 : a ≠ q := fun z => by rw [z, hq] at hu; cases hu
    have z2 : a ≠ p := fun z => by rw [← z, upd_ne z1, hu] at hp; cases hp
    rw [upd_ne z2, upd_ne z1]; exact hu
  refine post _ _ H0 [p, q] L s3 (.lls (qs := [q]) upd_same (.cons (us := []) ?_ .nil .nil)) (en.mono (Ex.refl _) kp)
  rw [upd_ne hne, upd_same]
theorem RepLL.add {H0 H : Hp} {q : Addr} {us : List V} {ds : List D} (h : H q = some (.lst us)) (r : RepFs W H0 us ds) : ∀ {qs : List Addr} {ls : List (List D)}, RepLL W H0 H qs ls → RepLL W H0 H (qs ++ [q]) (ls ++ [ds])
  | _, _, .nil => .cons h r .nil
  | _, _, .cons a b t => .cons a b (RepLL.add h r t)
theorem RepLL.last {H0 H : Hp} : ∀ {qs : List Addr} {ls : List (List D)} {m : List D}, RepLL W H0 H qs (ls ++ [m]) → ∃ qs' q us, qs = qs' ++ [q] ∧ RepLL W H0 H qs' ls ∧ H q = some (.lst us) ∧ RepFs W H0 us m
  | _, [], m, .cons (q := q) a b t => by
    cases t
    exact ⟨[], q, _, rfl, .nil, a, b⟩
  | _, l :: ls, m, .cons (q := q0) a b t => by
    obtain ⟨qs', q, us, e, r, h1, h2⟩ := RepLL.last t
    subst e
    exact ⟨q0 :: qs', q, us, rfl, .cons a b r, h1, h2⟩
/-- x.append([]) -/
def lapE (i : Nat) : E := fun g => match g[i]? with
  | some (.loc (.lls l)) => if l.length < 16777216 then .ok (.val (.pure .non)) (g.set i (.loc (.lls (l ++ [[]])))) else .stuck
  | _ => .stuck
theorem RepLL.len {H0 H : Hp} : ∀ {qs : List Addr} {ls : List (List D)}, RepLL W H0 H qs ls → qs.length = ls.length
  | _, _, .nil => rfl
  | _, _, .cons _ _ t => by simp [RepLL.len t]
theorem tyV_l {K : PySem.W.Frag} {H : Hp} {p : Addr} {us : List V} (h : H p = some (.lst us)) : tyV K "list" (.ref p) H := .inl ⟨rfl, _, SqL.of h⟩
theorem se_lap {i : Nat} {x : Str} {pos apos cpos p1 : Pos} (hx : PE X (.Name x pos) (tVar i))
    (hs : starEach [Expr.List [] p1] X.env = (false, eval (Expr.List [] p1) X.env) :: starEach [] X.env := by rfl)
    (run : ∀ {r : V → List V → Hp → VK → Prop} {to : TE} {t : TA}, MtR X "list.append" r → PE X (.Name x pos) to → PA X [.List [] p1] t → PE X (.Call (.Attribute (.Name x pos) "append" apos) [.List [] p1] [] cpos) (tBM X.K "list" r to t)) :
    SE W vs Wx X (.Call (.Attribute (.Name x pos) "append" apos) [.List [] p1] [] cpos) (lapE i) := by
  refine pe_weak (run mt_append hx (pa_cons (pe_lst pa_nil) pa_nil hs)) fun σ H Q ⟨H0, L, g, sp, en, post⟩ => ?_
  unfold lapE at post
  split at post
  · rename_i l hg
    split at post
    · rename_i hz
      obtain ⟨v, La, Lo, Lb, h1, h2, h3, h4⟩ := en.at hg rfl
      cases h2 with
      | @lls p qs _ hp rl =>
        subst h3
        refine ⟨.ref p, h1, tyV_l hp, by simp, fun q hq => ?_⟩
        have hne : p ≠ q := fun z => by rw [z, hq] at hp; cases hp
        have hp2 : upd H q (.lst []) p = some (.lst (qs.map .ref)) := by rw [upd_ne hne]; exact hp
        refine ⟨p, qs.map .ref, .ref q, rfl, rfl, hp2, by rw [List.length_map, rl.len]; exact ltL hz, ?_⟩
        have s1 := step_more (o := .lst []) sp hq
        have s2 := step_upd (o := .lst (qs.map V.ref ++ [V.ref q])) (p := p) s1.sep (by simp)
        have pm : (La ++ (p :: qs ++ Lb) ++ [q]).Perm (La ++ ((p :: (qs ++ [q])) ++ Lb)) := by
          have a1 : ((p :: qs) ++ (Lb ++ [q])).Perm ((p :: qs) ++ ([q] ++ Lb)) := List.Perm.append_left _ List.perm_append_comm
          simpa [List.append_assoc] using List.Perm.append_left La a1
        have s3 := (s1.trans s2).perm pm
        have own : ∀ a, a ∈ La ++ (p :: qs ++ Lb) → ∃ o, H a = some o := fun a ha => (sp.own a ha).2
        have nq : ∀ a, a ∈ La ++ (p :: qs ++ Lb) → a ≠ q := fun a ha z => by
          obtain ⟨o, e⟩ := own a ha
          rw [z, hq] at e; cases e
        have nd := sp.nd
        have np : ∀ a, a ∈ qs → a ≠ p := fun a ha z => by
          subst z
          have := (List.nodup_append.mp nd).2.1
          have := (List.nodup_cons.mp (show (a :: (qs ++ Lb)).Nodup from this)).1
          exact this (List.mem_append_left _ ha)
        have np2 : ∀ a, a ∈ La ++ Lb → a ≠ p := fun a ha z => by
          subst z
          rcases List.mem_append.mp ha with q1 | q1
          · exact (List.nodup_append.mp nd).2.2 a q1 a (by simp) rfl
          · have := (List.nodup_append.mp nd).2.1
            have := (List.nodup_cons.mp (show (a :: (qs ++ Lb)).Nodup from this)).1
            exact this (List.mem_append_right _ q1)
        have en2 := h4 H0 (upd (upd H q (.lst [])) p (.lst (qs.map V.ref ++ [V.ref q]))) (Ex.refl _) (fun a ha u hu => by
          rw [upd_ne (np2 a ha), upd_ne (nq a (by rcases List.mem_append.mp ha with q1 | q1 <;> simp [q1]))]; exact hu) (.lls (l ++ [[]])) (p :: (qs ++ [q])) (.lls (by rw [upd_same]; simp) ?_)
        · exact post .non _ H0 [] _ (by simpa using s3) (.pure .non) en2
        · refine RepLL.add (us := []) (by rw [upd_ne (Ne.symm hne), upd_same]) .nil (rl.mono (Ex.refl _) fun a ha u hu => ?_)
          rw [upd_ne (np a ha), upd_ne (nq a (by simp [ha]))]; exact hu
    · exact post.elim
  · exact post.elim
/-- x[-1].append(y) -/
def lasE (i j : Nat) : E := fun g => match g[i]?, (g[j]?).bind Slot.obj with
  | some (.loc (.lls l)), some (.pure d) => match l.getLast? with
    | some m => if m.length < 16777216 then .ok (.val (.pure .non)) (g.set i (.loc (.lls (l.dropLast ++ [m ++ [d]])))) else .stuck
    | none => .stuck
  | _, _ => .stuck
theorem atI_last {α : Type} (l : List α) (x : α) : L2.atI (l ++ [x]) (-1) = some x := by
  unfold L2.atI
  have : L2.ixN (l ++ [x]).length (-1) = some l.length := by
    unfold L2.ixN
    simp
    omega
  rw [this]
  simp
theorem se_las {i j : Nat} {x y : Str} {pos apos cpos spos upos ypos kpos : Pos} {kk : _} (hx : PE X (.Name x pos) (tVar i)) (hy : PE X (.Name y ypos) (tVar j)) (hb : PlainIx (.UnaryOp .USub (.Constant (.int 1) kk kpos) upos))
    (hs : starEach [Expr.Name y ypos] X.env = (false, eval (Expr.Name y ypos) X.env) :: starEach [] X.env := by rfl)
    (run : ∀ {r : V → List V → Hp → VK → Prop} {to : TE} {t : TA}, MtR X "list.append" r → PE X (.Subscript (.Name x pos) (.UnaryOp .USub (.Constant (.int 1) kk kpos) upos) spos) to → PA X [.Name y ypos] t → PE X (.Call (.Attribute (.Subscript (.Name x pos) (.UnaryOp .USub (.Constant (.int 1) kk kpos) upos) spos) "append" apos) [.Name y ypos] [] cpos) (tBM X.K "list" r to t)) :
    SE W vs Wx X (.Call (.Attribute (.Subscript (.Name x pos) (.UnaryOp .USub (.Constant (.int 1) kk kpos) upos) spos) "append" apos) [.Name y ypos] [] cpos) (lasE i j) := by
  refine pe_weak (run mt_append (pe_ix ix_list hx (pe_un un_neg pe_int) hb) (pa_cons hy pa_nil hs)) fun σ H Q ⟨H0, L, g, sp, en, post⟩ => ?_
  unfold lasE at post
  split at post
  · rename_i l d hg hd
    split at post
    · rename_i m hm
      split at post
      · rename_i hz
        obtain ⟨slj, ej1, ej2⟩ := Option.bind_eq_some_iff.mp hd
        obtain ⟨w, _, _, _, w1, w2, _, _⟩ := en.at ej1 ej2
        cases w2 with
        | pure wd =>
        obtain ⟨v, La, Lo, Lb, h1, h2, h3, h4⟩ := en.at hg rfl
        obtain ⟨l', rfl⟩ := List.getLast?_eq_some_iff.mp hm
        rw [List.dropLast_concat] at post
        cases h2 with
        | @lls p qs _ hp rl =>
          obtain ⟨qs', q, us, rfl, rl', hq, rf⟩ := rl.last
          subst h3
          have hmap : (qs' ++ [q]).map V.ref = qs'.map V.ref ++ [V.ref q] := by simp
          refine ⟨.ref p, h1, 1, rfl, p, _, -1, .ref q, rfl, rfl, SqL.of hp, by rw [hmap]; exact atI_last _ _, tyV_l hq, w, w1, q, us, w, rfl, rfl, hq, by rw [rf.len]; exact ltL hz, ?_⟩
          have s2 := step_upd (o := .lst (us ++ [w])) (p := q) sp (by simp)
          have nd := sp.nd
          have nd1 : (p :: (qs' ++ [q] ++ Lb)).Nodup := (List.nodup_append.mp nd).2.1
          have npq : p ≠ q := fun z => by
            have := (List.nodup_cons.mp nd1).1
            exact this (by simp [z])
          have nqs : ∀ a, a ∈ qs' → a ≠ q := fun a ha z => by
            have a1 := (List.nodup_cons.mp nd1).2
            have a2 := (List.nodup_append.mp a1).1
            exact (List.nodup_append.mp a2).2.2 a ha q (by simp) z
          have nq2 : ∀ a, a ∈ La ++ Lb → a ≠ q := fun a ha z => by
            subst z
            rcases List.mem_append.mp ha with q1 | q1
            · exact (List.nodup_append.mp nd).2.2 a q1 a (by simp) rfl
            · have a1 := (List.nodup_cons.mp nd1).2
              exact (List.nodup_append.mp a1).2.2 a (by simp) a q1 rfl
          have en2 := h4 H0 (upd H q (.lst (us ++ [w]))) (Ex.refl _) (fun a ha u hu => by rw [upd_ne (nq2 a ha)]; exact hu) (.lls (l' ++ [m ++ [d]])) (p :: (qs' ++ [q])) (.lls (by rw [upd_ne npq]; exact hp) ?_)
          · exact post .non _ H0 [] _ (by simpa using s2) (.pure .non) en2
          · refine RepLL.add (us := us ++ [w]) upd_same (rf.append (.cons wd .nil)) (rl'.mono (Ex.refl _) fun a ha u hu => ?_)
            rw [upd_ne (nqs a ha)]; exact hu
      · exact post.elim
    · exact post.elim
  · exact post.elim
end
end VI
namespace VI
open PySem PySem.Spec PyProof.Rows L2
/-! ### len(set(texts)) -/
section
variable {W : Wd} {X : Cx} {vs : List (Option V)} {Wx : WX} {n : Nat}
def tLenTx (K : PySem.W.Frag) (ta : TE) : TE := fun σ H Q => ta σ H fun x H1 => ∃ l, ∃ xs : List Str, x = .ref l ∧ SqL K H1 l (xs.map V.str) ∧ xs.length < 64 ∧ Q (.int (((xs.foldl metS []).length : Nat) : Int)) H1
theorem pe_lenTx {a : Expr} {ta : TE} {p p2 q pos : Pos} (hc : X.calm = true) (hg : Gl X "len") (hm : X.mg "len" = none) (hg2 : Gl X "set") (hm2 : X.mg "set" = none) (ha : PE X a ta)
    (na : starEach [a] X.env = (false, eval a X.env) :: starEach [] X.env := by rfl) : PE X (.Call (.Name "len" p) [.Call (.Name "set" p2) [a] [] q] [] pos) (tLenTx X.K ta) := by
  refine ⟨fun pins s σ H Q I h => ?_⟩
  refine Call_ (ld_blt (u := .builtin "len") I hg hm boot_len ?_)
  refine callWith_builtin1 (args_cons ?_ rfl) rfl rfl
  refine Call_ (ld_blt I hg2 hm2 boot_set ?_)
  refine callWith_type1 (args_cons (thn (ha.run pins s σ H _ I h) fun v s1 ⟨x, H1, I1, r1, q1⟩ => args_nil ?_) na) na rfl
  obtain ⟨l, xs, rfl, hq, h1, q1⟩ := q1
  cases r1
  obtain ⟨its, r, pl, hz⟩ := I1.list hq
  have hS := strsAre_of r
  refine call_set_txs (I1.ok.hd hc) pl.isList (by simpa using hS) (by unfold scanBound; omega) fun h' tk D o2 F T k2 => ?_
  apply args_nil
  have I2 : Inv X pins σ H1 { s1 with heap := h', toks := tk } := I1.kept fun b o e => k2 b o (Heap.lt_size e) e
  have ln : (xs.foldl metS []).length ≤ xs.length := by
    have : ∀ (xs l : List Str), (xs.foldl metS l).length ≤ l.length + xs.length := fun xs => by
      induction xs with
      | nil => simp
      | cons x xs ih => intro l; have := ih (metS l x); have := metS_len l x; simp only [List.foldl_cons, List.length_cons]; omega
    simpa using this xs []
  have hsz : D.1.size = (xs.foldl metS []).length := F.sz
  refine call_len_set o2 ⟨rfl, rfl, rfl⟩ rfl F.fit (by rw [hsz]; omega) ?_
  rw [hsz]
  exact ⟨.int _, H1, I2.tok _, ⟨_, rfl⟩, q1⟩
def slenL (l : List D) : Option O := (txsD l).bind fun xs => if xs.length < 64 then some (.pure (.int (((nubT xs).length : Nat) : Int))) else none
def slenO : O → Option O
  | .lst l => slenL l
  | .pure (.lst l) => slenL l
  | _ => none
theorem slen_p (xs : List Str) (h : xs.length < 64) : slenO (.pure (.lst (xs.map D.str))) = some (.pure (.int (((nubT xs).length : Nat) : Int))) := by
  unfold slenO slenL
  simp only [txsD_map, Option.bind_some, if_pos h]
theorem slen_l (xs : List Str) (h : xs.length < 64) : slenO (.lst (xs.map D.str)) = some (.pure (.int (((nubT xs).length : Nat) : Int))) := by
  unfold slenO slenL
  simp only [txsD_map, Option.bind_some, if_pos h]
theorem se_slen {a : Expr} {A : E} {p p2 q pos : Pos} (cx : Ctx W n Wx X) (hg : Gl X "len") (hm : X.mg "len" = none) (hg2 : Gl X "set") (hm2 : X.mg "set" = none) (ha : SE W vs Wx X a A)
    (na : starEach [a] X.env = (false, eval a X.env) :: starEach [] X.env := by rfl) : SE W vs Wx X (.Call (.Name "len" p) [.Call (.Name "set" p2) [a] [] q] [] pos) (una slenO A) := by
  refine pe_weak (pe_lenTx cx.calm hg hm hg2 hm2 ha na) fun σ H Q qq => ?_
  unfold tLenTx
  obtain ⟨H0, L, g, sp, en, post⟩ := tO_una σ H Q qq
  refine ⟨H0, L, g, sp, en, ?_⟩
  cases ea : A g with
  | stuck => rw [ea] at post; exact post.elim
  | exc x g' => rw [ea] at post; exact post
  | ok r g1 =>
    rw [ea] at post
    intro v H1 H01 Lr L1 st1 rr en1
    obtain ⟨H02, ox, Lx, o, ex, ro, ef, gv⟩ := post v H1 H01 Lr L1 st1 rr en1
    have key : ∀ l, (ox = .pure (.lst l) ∨ ox = .lst l) → slenL l = some o → ∃ l, ∃ xs : List Str, v = .ref l ∧ SqL X.K H1 l (xs.map V.str) ∧ xs.length < 64 ∧ Q (.int (((xs.foldl metS []).length : Nat) : Int)) H1 := fun l h e => by
      unfold slenL at e
      obtain ⟨xs, e1, e2⟩ := Option.bind_eq_some_iff.mp e
      split at e2
      · rename_i h64
        cases e2
        obtain ⟨p, us, e3, hs, rf⟩ := sql_of ex ro h
        rw [txsD_is e1] at rf
        have e4 := strs_repU rf
        subst e4
        have en : (nubT xs).length = (xs.foldl metS []).length := (sortT_perm _).length_eq
        rw [en] at gv
        exact ⟨p, xs, e3, by rw [cx.K]; exact hs, h64, gv.atom ex (.int _)⟩
      · cases e2
    unfold slenO at ef
    split at ef
    · exact key _ (.inr rfl) ef
    · exact key _ (.inl rfl) ef
    · cases ef
end
theorem foldS_nd : ∀ (xs l : List Str), (xs ++ l).Nodup → (xs.foldl metS l).length = xs.length + l.length
  | [], l, _ => by simp
  | x :: xs, l, h => by
    have hx : x ∉ l := fun q => by
      have := (List.nodup_cons.mp (show (x :: (xs ++ l)).Nodup from h)).1
      exact this (List.mem_append_right _ q)
    rw [List.foldl_cons]
    have e : metS l x = x :: l := by unfold metS; rw [if_neg hx]
    rw [e, foldS_nd xs (x :: l) ((List.perm_middle.nodup_iff).mpr h)]
    simp only [List.length_cons]
    omega
theorem nub_nd {xs : List Str} (h : xs.Nodup) : (nubT xs).length = xs.length := by
  unfold nubT
  rw [(sortT_perm _).length_eq, foldS_nd xs [] (by simpa using h)]
  simp
end VI
namespace VI
open PySem PySem.Spec PyProof.Rows L2
/-! ### steps of frozen names and nested lists; slices at a place -/
def frzF : Option (List D × G) → Res R
  | some ([d], g2) => .ok (.val (.pure d)) g2
  | _ => .stuck
theorem frzE_a (i : Nat) (g : G) : frzE i g = frzF (frzs [.slot i] g) := by
  unfold frzE frzF
  rfl
theorem frzF_s (d : D) (g : G) : frzF (some ([d], g)) = .ok (.val (.pure d)) g := rfl
theorem llsE_a (g : G) : llsE g = .ok (.val (.lls [[]])) g := rfl
theorem cut_to {α : Type} (l : List α) (k : Nat) (h : k ≤ l.length) : cutL l none (some (k : Int)) = l.take k := by
  unfold cutL
  rw [HT.sIx_none, HT.sIx_nat, Nat.min_eq_left h]
  simp
theorem cut_from {α : Type} (l : List α) (k : Nat) (h : k ≤ l.length) : cutL l (some (k : Int)) none = l.drop k := by
  unfold cutL
  rw [HT.sIx_none, HT.sIx_nat, Nat.min_eq_left h]
  exact List.take_of_length_le (by simp)
end VI
namespace VI
open PySem PySem.Spec PyProof.Rows L2
/-! ## the text of the law, by program -/
def topS (i : Nat) : Stmt := PySem.Challenge.pw_nearerwork_k62_own_ties.main.body.getD i (.Pass ⟨0, 0, 0, 0⟩)
abbrev ITl : ITab := [(Str.ofString "Saying", Str.ofString "Tie", false), (Str.ofString "Compared", Str.ofString "Tie", false), (Str.ofString "Less", Str.ofString "Tie", false), (Str.ofString "AtMost", Str.ofString "Tie", false), (Str.ofString "Equal", Str.ofString "Tie", false), (Str.ofString "Unlike", Str.ofString "Tie", false), (Str.ofString "Both", Str.ofString "Tie", false), (Str.ofString "Either", Str.ofString "Tie", false), (Str.ofString "Not", Str.ofString "Tie", false), (Str.ofString "Sum", Str.ofString "Tie", false), (Str.ofString "Number", Str.ofString "Tie", false), (Str.ofString "Named", Str.ofString "Tie", false), (Str.ofString "Joined", Str.ofString "Tie", false), (Str.ofString "Plus", Str.ofString "Tie", false), (Str.ofString "Minus", Str.ofString "Tie", false), (Str.ofString "Times", Str.ofString "Tie", false), (Str.ofString "Tie", Str.ofString "Tie", true), (Str.ofString "Change", Str.ofString "Tie", false), (Str.ofString "Put", Str.ofString "Tie", false), (Str.ofString "Any", Str.ofString "Tie", false), (Str.ofString "Deed", Str.ofString "Tie", false), (Str.ofString "Machine", Str.ofString "Tie", false)]
abbrev MTl : MTab := [(2, Str.ofString "Saying", Str.ofString "holds", 54), (1, Str.ofString "Saying", Str.ofString "shown", 56), (2, Str.ofString "Compared", Str.ofString "holds", 54), (1, Str.ofString "Compared", Str.ofString "shown", 60), (1, Str.ofString "Compared", Str.ofString "sign", 58), (2, Str.ofString "Less", Str.ofString "holds", 62), (1, Str.ofString "Less", Str.ofString "shown", 60), (1, Str.ofString "Less", Str.ofString "sign", 61), (2, Str.ofString "AtMost", Str.ofString "holds", 64), (1, Str.ofString "AtMost", Str.ofString "shown", 60), (1, Str.ofString "AtMost", Str.ofString "sign", 63), (2, Str.ofString "Equal", Str.ofString "holds", 65), (1, Str.ofString "Equal", Str.ofString "shown", 60), (1, Str.ofString "Equal", Str.ofString "sign", 58), (2, Str.ofString "Unlike", Str.ofString "holds", 67), (1, Str.ofString "Unlike", Str.ofString "shown", 60), (1, Str.ofString "Unlike", Str.ofString "sign", 66), (2, Str.ofString "Both", Str.ofString "holds", 69), (1, Str.ofString "Both", Str.ofString "shown", 71), (2, Str.ofString "Either", Str.ofString "holds", 73), (1, Str.ofString "Either", Str.ofString "shown", 75), (2, Str.ofString "Not", Str.ofString "holds", 77), (1, Str.ofString "Not", Str.ofString "shown", 79), (2, Str.ofString "Sum", Str.ofString "worth", 31), (1, Str.ofString "Sum", Str.ofString "shown", 33), (2, Str.ofString "Number", Str.ofString "worth", 35), (1, Str.ofString "Number", Str.ofString "shown", 36), (2, Str.ofString "Named", Str.ofString "worth", 38), (1, Str.ofString "Named", Str.ofString "shown", 40), (2, Str.ofString "Joined", Str.ofString "worth", 31), (1, Str.ofString "Joined", Str.ofString "shown", 44), (1, Str.ofString "Joined", Str.ofString "sign", 42), (2, Str.ofString "Plus", Str.ofString "worth", 45), (1, Str.ofString "Plus", Str.ofString "shown", 44), (1, Str.ofString "Plus", Str.ofString "sign", 42), (2, Str.ofString "Minus", Str.ofString "worth", 47), (1, Str.ofString "Minus", Str.ofString "shown", 44), (1, Str.ofString "Minus", Str.ofString "sign", 46), (2, Str.ofString "Times", Str.ofString "worth", 49), (1, Str.ofString "Times", Str.ofString "shown", 44), (1, Str.ofString "Times", Str.ofString "sign", 48), (1, Str.ofString "Change", Str.ofString "shown", 143), (1, Str.ofString "Put", Str.ofString "shown", 145), (1, Str.ofString "Any", Str.ofString "shown", 147), (1, Str.ofString "Machine", Str.ofString "first", 164), (2, Str.ofString "Machine", Str.ofString "values_in", 165)]
abbrev FTl : FTab := [(Str.ofString "Compared", Str.ofString "one"), (Str.ofString "Compared", Str.ofString "other"), (Str.ofString "Less", Str.ofString "one"), (Str.ofString "Less", Str.ofString "other"), (Str.ofString "AtMost", Str.ofString "one"), (Str.ofString "AtMost", Str.ofString "other"), (Str.ofString "Equal", Str.ofString "one"), (Str.ofString "Equal", Str.ofString "other"), (Str.ofString "Unlike", Str.ofString "one"), (Str.ofString "Unlike", Str.ofString "other"), (Str.ofString "Both", Str.ofString "one"), (Str.ofString "Both", Str.ofString "other"), (Str.ofString "Either", Str.ofString "one"), (Str.ofString "Either", Str.ofString "other"), (Str.ofString "Not", Str.ofString "one"), (Str.ofString "Number", Str.ofString "told"), (Str.ofString "Named", Str.ofString "name"), (Str.ofString "Joined", Str.ofString "one"), (Str.ofString "Joined", Str.ofString "other"), (Str.ofString "Plus", Str.ofString "one"), (Str.ofString "Plus", Str.ofString "other"), (Str.ofString "Minus", Str.ofString "one"), (Str.ofString "Minus", Str.ofString "other"), (Str.ofString "Times", Str.ofString "one"), (Str.ofString "Times", Str.ofString "other"), (Str.ofString "Tie", Str.ofString "falling"), (Str.ofString "Tie", Str.ofString "saying"), (Str.ofString "Tie", Str.ofString "table"), (Str.ofString "Change", Str.ofString "name"), (Str.ofString "Put", Str.ofString "name"), (Str.ofString "Put", Str.ofString "one"), (Str.ofString "Any", Str.ofString "name"), (Str.ofString "Any", Str.ofString "one"), (Str.ofString "Any", Str.ofString "other"), (Str.ofString "Deed", Str.ofString "called"), (Str.ofString "Deed", Str.ofString "changes"), (Str.ofString "Deed", Str.ofString "when"), (Str.ofString "Machine", Str.ofString "deeds"), (Str.ofString "Machine", Str.ofString "keeps"), (Str.ofString "Machine", Str.ofString "places")]
abbrev st_values_of : Stmt := topS 21
abbrev N_values_of : List Str := ["far", "near", "far_room", "room", "values", "name", "value"]
theorem sc_values_of : FnScope N_values_of ["far", "near", "far_room", "room"] (defScope st_values_of) := ⟨rfl, rfl, rfl, by decide +kernel, rfl, by decide +kernel, by decide +kernel⟩
def b_values_of (C : Callee) : S :=
  (seqS (asgS 4 (bltE dictO [(methE (mtOf MTl 2) C (Str.ofString "values_in") (nm 1) [(nm 3)])])) (seqS (forS (evs [itmE (methE (mtOf MTl 2) C (Str.ofString "values_in") (nm 0) [(nm 2)])]) setI (tupT [(nmT 5), (nmT 6)]) (stS (nm 4) (bin addO (cst (.str (Str.ofString "@"))) (nm 5)) (nm 6))) (retS (nm 4))))
abbrev st_tied : Stmt := topS 22
abbrev N_tied : List Str := ["far", "near", "tie", "far_room", "room"]
theorem sc_tied : FnScope N_tied ["far", "near", "tie", "far_room", "room"] (defScope st_tied) := ⟨rfl, rfl, rfl, by decide +kernel, rfl, by decide +kernel, by decide +kernel⟩
def b_tied (C : Callee) : S :=
  (retS (methE (mtOf MTl 2) C (Str.ofString "holds") (attrE (ftOf FTl) (Str.ofString "saying") (nm 2)) [(callA C 263 [(nm 0), (nm 1), (nm 3), (nm 4)])]))
abbrev st_all_alike : Stmt := topS 24
abbrev N_all_alike : List Str := ["names", "first"]
theorem sc_all_alike : FnScope N_all_alike ["names"] (defScope st_all_alike) := ⟨rfl, rfl, rfl, by decide +kernel, rfl, by decide +kernel, by decide +kernel⟩
def b_all_alike (C : Callee) : S :=
  (seqS (ifS (blT (bin eqO (nm 0) (lstE (evs [])))) (retS (newE (Str.ofString "Saying"))) nextS) (seqS (asgS 1 (makeA C (Str.ofString "Equal") 57 [(makeA C (Str.ofString "Named") 37 [(bin addO (cst (.str (Str.ofString "@"))) (bin ixO (nm 0) (cst (.int 0))))]), (makeA C (Str.ofString "Named") 37 [(bin ixO (nm 0) (cst (.int 0)))])])) (seqS (ifS (blT (bin eqO (bltE lenO [(nm 0)]) (cst (.int 1)))) (retS (nm 1)) nextS) (retS (makeA C (Str.ofString "Both") 68 [(nm 1), (callA C 462 [(slE (nm 0) (intE (cst (.int 1))) noE)])])))))
abbrev st_own_tie : Stmt := topS 25
abbrev N_own_tie : List Str := ["machine", "names", "place", "deed"]
theorem sc_own_tie : FnScope N_own_tie ["machine"] (defScope st_own_tie) := ⟨rfl, rfl, rfl, by decide +kernel, rfl, by decide +kernel, by decide +kernel⟩
def b_own_tie (C : Callee) : S :=
  (seqS (asgS 1 (compE (evs [(attrE (ftOf FTl) (Str.ofString "places") (nm 0))]) itemsO [2] (nmT 2) (fun g => .ok true g) (bin ixO (nm 2) (cst (.int 0))))) (retS (makeA C (Str.ofString "Tie") 292 [(callA C 462 [(nm 1)]), (bltE tupleO [(compE (evs [(attrE (ftOf FTl) (Str.ofString "deeds") (nm 0))]) itemsO [3] (nmT 3) (fun g => .ok true g) (tupE (evs [(attrE (ftOf FTl) (Str.ofString "called") (nm 3)), (attrE (ftOf FTl) (Str.ofString "called") (nm 3))])))]), (makeA C (Str.ofString "Number") 34 [(cst (.int 0))])])))
abbrev st__law_whole : Stmt := topS 34
abbrev N__law_whole : List Str := ["found"]
theorem sc__law_whole : FnScope N__law_whole ["found"] (defScope st__law_whole) := ⟨rfl, rfl, rfl, by decide +kernel, rfl, by decide +kernel, by decide +kernel⟩
def b__law_whole (C : Callee) : S :=
  (retS (andE (bltE isiO [(nm 0), (cst (.ty "int"))]) (notE (bltE isiO [(nm 0), (cst (.ty "bool"))]))))
abbrev st__law_at : Stmt := topS 35
abbrev N__law_at : List Str := ["script", "k"]
theorem sc__law_at : FnScope N__law_at ["script", "k"] (defScope st__law_at) := ⟨rfl, rfl, rfl, by decide +kernel, rfl, by decide +kernel, by decide +kernel⟩
def b__law_at (C : Callee) : S :=
  (seqS (ifS (blT (bin ltO (nm 1) (bltE lenO [(nm 0)]))) (retS (bin ixO (nm 0) (nm 1))) nextS) (retS (bin modO (bin mulO (bin addO (bin modO (bin ixO (bin addO (nm 0) (lstE (evs [(cst (.int 0))]))) (cst (.int 0))) (cst (.int 1000003))) (cst (.int 29))) (bin addO (bin mulO (nm 1) (nm 1)) (cst (.int 40009)))) (cst (.int 2147483647)))))
abbrev st__law_begin : Stmt := topS 36
abbrev N__law_begin : List Str := ["cell"]
theorem sc__law_begin : FnScope N__law_begin ["cell"] (defScope st__law_begin) := ⟨rfl, rfl, rfl, by decide +kernel, rfl, by decide +kernel, by decide +kernel⟩
def b__law_begin (C : Callee) : S :=
  (retS (lstE (evs [(bin fdivO (nm 0) (cst (.int 2))), (bin modO (nm 0) (cst (.int 2)))])))
abbrev st__law_draw_v2 : Stmt := topS 37
abbrev N__law_draw_v2 : List Str := ["state", "many", "found", "number"]
theorem sc__law_draw_v2 : FnScope N__law_draw_v2 ["state", "many"] (defScope st__law_draw_v2) := ⟨rfl, rfl, rfl, by decide +kernel, rfl, by decide +kernel, by decide +kernel⟩
def b__law_draw_v2 (C : Callee) : S :=
  (seqS (ifS (blT (bin eqO (bin ixO (nm 0) (cst (.int 1))) (cst (.int 0)))) (seqS (asgS 2 (bin modO (bin ixO (nm 0) (cst (.int 0))) (nm 1))) (seqS (stS (nm 0) (cst (.int 0)) (bin fdivO (bin ixO (nm 0) (cst (.int 0))) (nm 1))) (retS (nm 2)))) nextS) (seqS (asgS 3 (bin modO (bin addO (bin mulO (bin modO (bin ixO (nm 0) (cst (.int 0))) (cst (.int 2147483647))) (cst (.int 48271))) (cst (.int 11))) (cst (.int 2147483629)))) (seqS (stS (nm 0) (cst (.int 0)) (bin modO (bin addO (bin addO (bin mulO (nm 3) (cst (.int 69621))) (bin modO (bin fdivO (bin ixO (nm 0) (cst (.int 0))) (cst (.int 2147483647))) (cst (.int 1000003)))) (cst (.int 7))) (cst (.int 2147483587)))) (retS (bin modO (bin fdivO (bin modO (bin addO (bin mulO (bin ixO (nm 0) (cst (.int 0))) (cst (.int 16807))) (cst (.int 3))) (cst (.int 2147483579))) (cst (.int 5))) (nm 1))))))
abbrev st__law_names_v2 : Stmt := topS 38
abbrev N__law_names_v2 : List Str := ["cell", "many", "letters", "state", "size", "at", "first", "step", "base", "some", "k", "letter", "own", "name"]
theorem sc__law_names_v2 : FnScope N__law_names_v2 ["cell", "many"] (defScope st__law_names_v2) := ⟨rfl, rfl, rfl, by decide +kernel, rfl, by decide +kernel, by decide +kernel⟩
def b__law_names_v2 (C : Callee) : S :=
  (seqS (asgS 2 (cst (.str (Str.ofString "abcdefghijklmnopqrstuvwxyz")))) (seqS (asgS 3 (callA C 123 [(nm 0)])) (seqS (asgS 4 (callA C 124 [(nm 3), (cst (.int 8))])) (seqS (asgS 5 (callA C 124 [(nm 3), (bin addO (nm 4) (cst (.int 1)))])) (seqS (asgS 6 (callA C 124 [(nm 3), (cst (.int 26))])) (seqS (asgS 7 (bin addO (cst (.int 1)) (callA C 124 [(nm 3), (cst (.int 3))]))) (seqS (asgS 8 (bmE "str" joinO (cst (.str (Str.ofString ""))) [(compE (evs [(nm 4)]) rng1 [10] (nmT 10) (fun g => .ok true g) (bin ixO (nm 2) (callA C 124 [(nm 3), (cst (.int 26))])))])) (seqS (asgS 9 (lstE (evs []))) (seqS (forS (evs [(nm 1)]) rng1 (nmT 10) (seqS (asgS 11 (bin ixO (nm 2) (bin modO (bin addO (nm 6) (bin mulO (nm 10) (nm 7))) (cst (.int 26))))) (dropS (mutE "list" appO (nm 9) [(bin addO (bin addO (slE (nm 8) noE (intE (nm 5))) (nm 11)) (slE (nm 8) (intE (nm 5)) noE))])))) (seqS (asgS 12 (bmE "str" splitO (cst (.str (Str.ofString "name from to at keep deed when do any and or not yes tie step for none falls"))) [(cst (.str (Str.ofString " ")))])) (seqS (ifS (blT (bin neO (compE (evs [(nm 9)]) itemsO [13] (nmT 13) (blT (bin (inO false) (nm 13) (nm 12))) (nm 13)) (lstE (evs [])))) (retS (compE (evs [(nm 1)]) rng1 [10] (nmT 10) (fun g => .ok true g) (bin addO (cst (.str (Str.ofString "zq"))) (bin ixO (nm 2) (bin modO (bin addO (nm 6) (nm 10)) (cst (.int 26))))))) nextS) (retS (nm 9)))))))))))))
abbrev st__law_sum_v2 : Stmt := topS 39
abbrev N__law_sum_v2 : List Str := ["state", "names", "near", "depth", "kind", "sign", "one"]
theorem sc__law_sum_v2 : FnScope N__law_sum_v2 ["state", "names", "near", "depth"] (defScope st__law_sum_v2) := ⟨rfl, rfl, rfl, by decide +kernel, rfl, by decide +kernel, by decide +kernel⟩
def b__law_sum_v2 (C : Callee) : S :=
  (seqS (asgS 4 (callA C 124 [(nm 0), (cst (.int 6))])) (seqS (ifS (orT (blT (bin eqO (nm 4) (cst (.int 0)))) (blT (bin eqO (nm 1) (lstE (evs []))))) (retS (tupE (evs [(cst (.str (Str.ofString "number"))), (bin modO (bin addO (nm 2) (callA C 124 [(nm 0), (cst (.int 7))])) (cst (.int 100)))]))) nextS) (seqS (ifS (blT (bin eqO (nm 4) (cst (.int 1)))) (retS (tupE (evs [(cst (.str (Str.ofString "name"))), (bin ixO (nm 1) (callA C 124 [(nm 0), (bltE lenO [(nm 1)])]))]))) nextS) (seqS (ifS (blT (bin eqO (nm 4) (cst (.int 2)))) (retS (tupE (evs [(cst (.str (Str.ofString "number"))), (callA C 124 [(nm 0), (cst (.int 100))])]))) nextS) (seqS (asgS 5 (bin ixO (lstE (evs [(cst (.str (Str.ofString "+"))), (cst (.str (Str.ofString "-"))), (cst (.str (Str.ofString "*")))])) (callA C 124 [(nm 0), (cst (.int 3))]))) (seqS (ifS (orT (blT (bin ltO (nm 4) (cst (.int 5)))) (blT (bin eqO (nm 3) (cst (.int 0))))) (retS (tupE (evs [(nm 5), (tupE (evs [(cst (.str (Str.ofString "name"))), (bin ixO (nm 1) (callA C 124 [(nm 0), (bltE lenO [(nm 1)])]))])), (tupE (evs [(cst (.str (Str.ofString "number"))), (callA C 124 [(nm 0), (cst (.int 4))])]))]))) nextS) (seqS (asgS 6 (callA C 126 [(nm 0), (nm 1), (nm 2), (bin subO (nm 3) (cst (.int 1)))])) (retS (tupE (evs [(nm 5), (nm 6), (callA C 126 [(nm 0), (nm 1), (nm 2), (bin subO (nm 3) (cst (.int 1)))])]))))))))))
abbrev st__law_sum_of : Stmt := topS 40
abbrev N__law_sum_of : List Str := ["one", "here", "there"]
theorem sc__law_sum_of : FnScope N__law_sum_of ["one"] (defScope st__law_sum_of) := ⟨rfl, rfl, rfl, by decide +kernel, rfl, by decide +kernel, by decide +kernel⟩
def b__law_sum_of (C : Callee) : S :=
  (seqS (ifS (blT (bin eqO (bin ixO (nm 0) (cst (.int 0))) (cst (.str (Str.ofString "number"))))) (retS (makeA C (Str.ofString "Number") 34 [(bin ixO (nm 0) (cst (.int 1)))])) nextS) (seqS (ifS (blT (bin eqO (bin ixO (nm 0) (cst (.int 0))) (cst (.str (Str.ofString "name"))))) (retS (makeA C (Str.ofString "Named") 37 [(bin ixO (nm 0) (cst (.int 1)))])) nextS) (seqS (asgS 1 (callA C 128 [(bin ixO (nm 0) (cst (.int 1)))])) (seqS (asgS 2 (callA C 128 [(bin ixO (nm 0) (cst (.int 2)))])) (seqS (ifS (blT (bin eqO (bin ixO (nm 0) (cst (.int 0))) (cst (.str (Str.ofString "+"))))) (retS (makeA C (Str.ofString "Plus") 41 [(nm 1), (nm 2)])) nextS) (seqS (ifS (blT (bin eqO (bin ixO (nm 0) (cst (.int 0))) (cst (.str (Str.ofString "-"))))) (retS (makeA C (Str.ofString "Minus") 41 [(nm 1), (nm 2)])) nextS) (retS (makeA C (Str.ofString "Times") 41 [(nm 1), (nm 2)]))))))))
abbrev st__law_saying_v2 : Stmt := topS 41
abbrev N__law_saying_v2 : List Str := ["state", "names", "near", "depth", "kind", "sign", "one", "word"]
theorem sc__law_saying_v2 : FnScope N__law_saying_v2 ["state", "names", "near", "depth"] (defScope st__law_saying_v2) := ⟨rfl, rfl, rfl, by decide +kernel, rfl, by decide +kernel, by decide +kernel⟩
def b__law_saying_v2 (C : Callee) : S :=
  (seqS (asgS 4 (callA C 124 [(nm 0), (cst (.int 8))])) (seqS (ifS (blT (bin eqO (nm 4) (cst (.int 0)))) (retS (tupE (evs [(cst (.str (Str.ofString "yes")))]))) nextS) (seqS (ifS (orT (blT (bin ltO (nm 4) (cst (.int 5)))) (blT (bin eqO (nm 3) (cst (.int 0))))) (seqS (asgS 5 (bin ixO (lstE (evs [(cst (.str (Str.ofString "<"))), (cst (.str (Str.ofString "<="))), (cst (.str (Str.ofString "="))), (cst (.str (Str.ofString "!=")))])) (callA C 124 [(nm 0), (cst (.int 4))]))) (seqS (asgS 6 (callA C 126 [(nm 0), (nm 1), (nm 2), (cst (.int 1))])) (retS (tupE (evs [(nm 5), (nm 6), (callA C 126 [(nm 0), (nm 1), (nm 2), (cst (.int 1))])]))))) nextS) (seqS (ifS (blT (bin eqO (nm 4) (cst (.int 5)))) (retS (tupE (evs [(cst (.str (Str.ofString "not"))), (callA C 148 [(nm 0), (nm 1), (nm 2), (bin subO (nm 3) (cst (.int 1)))])]))) nextS) (seqS (asgS 7 (bin ixO (lstE (evs [(cst (.str (Str.ofString "and"))), (cst (.str (Str.ofString "or")))])) (callA C 124 [(nm 0), (cst (.int 2))]))) (seqS (asgS 6 (callA C 148 [(nm 0), (nm 1), (nm 2), (bin subO (nm 3) (cst (.int 1)))])) (retS (tupE (evs [(nm 7), (nm 6), (callA C 148 [(nm 0), (nm 1), (nm 2), (bin subO (nm 3) (cst (.int 1)))])])))))))))
abbrev st__law_saying_of : Stmt := topS 42
abbrev N__law_saying_of : List Str := ["one", "here", "there"]
theorem sc__law_saying_of : FnScope N__law_saying_of ["one"] (defScope st__law_saying_of) := ⟨rfl, rfl, rfl, by decide +kernel, rfl, by decide +kernel, by decide +kernel⟩
def b__law_saying_of (C : Callee) : S :=
  (seqS (ifS (blT (bin eqO (bin ixO (nm 0) (cst (.int 0))) (cst (.str (Str.ofString "yes"))))) (retS (newE (Str.ofString "Saying"))) nextS) (seqS (ifS (blT (bin eqO (bin ixO (nm 0) (cst (.int 0))) (cst (.str (Str.ofString "not"))))) (retS (makeA C (Str.ofString "Not") 76 [(callA C 150 [(bin ixO (nm 0) (cst (.int 1)))])])) nextS) (seqS (ifS (blT (bin eqO (bin ixO (nm 0) (cst (.int 0))) (cst (.str (Str.ofString "and"))))) (retS (makeA C (Str.ofString "Both") 68 [(callA C 150 [(bin ixO (nm 0) (cst (.int 1)))]), (callA C 150 [(bin ixO (nm 0) (cst (.int 2)))])])) nextS) (seqS (ifS (blT (bin eqO (bin ixO (nm 0) (cst (.int 0))) (cst (.str (Str.ofString "or"))))) (retS (makeA C (Str.ofString "Either") 72 [(callA C 150 [(bin ixO (nm 0) (cst (.int 1)))]), (callA C 150 [(bin ixO (nm 0) (cst (.int 2)))])])) nextS) (seqS (asgS 1 (callA C 128 [(bin ixO (nm 0) (cst (.int 1)))])) (seqS (asgS 2 (callA C 128 [(bin ixO (nm 0) (cst (.int 2)))])) (seqS (ifS (blT (bin eqO (bin ixO (nm 0) (cst (.int 0))) (cst (.str (Str.ofString "<"))))) (retS (makeA C (Str.ofString "Less") 57 [(nm 1), (nm 2)])) nextS) (seqS (ifS (blT (bin eqO (bin ixO (nm 0) (cst (.int 0))) (cst (.str (Str.ofString "<="))))) (retS (makeA C (Str.ofString "AtMost") 57 [(nm 1), (nm 2)])) nextS) (seqS (ifS (blT (bin eqO (bin ixO (nm 0) (cst (.int 0))) (cst (.str (Str.ofString "="))))) (retS (makeA C (Str.ofString "Equal") 57 [(nm 1), (nm 2)])) nextS) (retS (makeA C (Str.ofString "Unlike") 57 [(nm 1), (nm 2)])))))))))))
abbrev st__law_places : Stmt := topS 43
abbrev N__law_places : List Str := ["script", "start", "names", "places", "k", "state", "far", "wide", "first", "low"]
theorem sc__law_places : FnScope N__law_places ["script", "start", "names"] (defScope st__law_places) := ⟨rfl, rfl, rfl, by decide +kernel, rfl, by decide +kernel, by decide +kernel⟩
def b__law_places (C : Callee) : S :=
  (seqS (asgS 3 (lstE (evs []))) (seqS (forS (evs [(bltE lenO [(nm 2)])]) rng1 (nmT 4) (seqS (asgS 5 (callA C 123 [(callA C 122 [(nm 0), (bin addO (nm 1) (nm 4))])])) (seqS (asgS 6 (callA C 124 [(nm 5), (cst (.int 2))])) (seqS (asgS 7 (callA C 124 [(nm 5), (cst (.int 6))])) (seqS (asgS 8 (callA C 124 [(nm 5), (bin addO (nm 7) (cst (.int 1)))])) (seqS (asgS 9 (bin mulO (nm 6) (callA C 124 [(nm 5), (cst (.int 95))]))) (dropS (mutE "list" appO (nm 3) [(tupE (evs [(bin ixO (nm 2) (nm 4)), (nm 9), (bin addO (nm 9) (nm 7)), (bin addO (nm 9) (nm 8))]))])))))))) (retS (nm 3))))
abbrev st__law_change : Stmt := topS 44
abbrev N__law_change : List Str := ["cell", "place", "names", "state", "wide", "one"]
theorem sc__law_change : FnScope N__law_change ["cell", "place", "names"] (defScope st__law_change) := ⟨rfl, rfl, rfl, by decide +kernel, rfl, by decide +kernel, by decide +kernel⟩
def b__law_change (C : Callee) : S :=
  (seqS (asgS 3 (callA C 123 [(nm 0)])) (seqS (asgS 4 (callA C 124 [(nm 3), (cst (.int 3))])) (seqS (asgS 5 (callA C 126 [(nm 3), (nm 2), (bin ixO (nm 1) (cst (.int 1))), (cst (.int 2))])) (seqS (ifS (blT (bin eqO (nm 4) (cst (.int 0)))) (retS (tupE (evs [(bin ixO (nm 1) (cst (.int 0))), (nm 5), (callA C 126 [(nm 3), (nm 2), (bin addO (bin ixO (nm 1) (cst (.int 1))) (cst (.int 2))), (cst (.int 1))])]))) nextS) (retS (tupE (evs [(bin ixO (nm 1) (cst (.int 0))), (nm 5)])))))))
abbrev st__law_deed : Stmt := topS 45
abbrev N__law_deed : List Str := ["script", "start", "called", "places", "names", "near", "when", "state", "many", "first", "changes", "k", "place"]
theorem sc__law_deed : FnScope N__law_deed ["script", "start", "called", "places"] (defScope st__law_deed) := ⟨rfl, rfl, rfl, by decide +kernel, rfl, by decide +kernel, by decide +kernel⟩
def b__law_deed (C : Callee) : S :=
  (seqS (asgS 4 (compE (evs [(nm 3)]) itemsO [12] (nmT 12) (fun g => .ok true g) (bin ixO (nm 12) (cst (.int 0))))) (seqS (asgS 5 (cst (.int 0))) (seqS (ifS (blT (bin neO (nm 3) (lstE (evs [])))) (asgS 5 (bin ixO (bin ixO (nm 3) (cst (.int 0))) (cst (.int 1)))) nextS) (seqS (asgS 6 (callA C 148 [(callA C 123 [(callA C 122 [(nm 0), (nm 1)])]), (nm 4), (nm 5), (cst (.int 2))])) (seqS (asgS 7 (callA C 123 [(callA C 122 [(nm 0), (bin addO (nm 1) (cst (.int 1)))])])) (seqS (asgS 8 (callA C 124 [(nm 7), (bin addO (bltE lenO [(nm 3)]) (cst (.int 1)))])) (seqS (asgS 9 (callA C 124 [(nm 7), (cst (.int 3))])) (seqS (asgS 10 (lstE (evs []))) (seqS (forS (evs [(nm 8)]) rng1 (nmT 11) (seqS (asgS 12 (bin ixO (nm 3) (bin modO (bin addO (nm 9) (nm 11)) (bltE lenO [(nm 3)])))) (dropS (mutE "list" appO (nm 10) [(callA C 152 [(callA C 122 [(nm 0), (bin addO (bin addO (nm 1) (cst (.int 2))) (nm 11))]), (nm 12), (nm 4)])])))) (retS (tupE (evs [(nm 2), (nm 6), (bltE tupleO [(nm 10)])]))))))))))))
abbrev st__law_machine : Stmt := topS 46
abbrev N__law_machine : List Str := ["script", "start", "many_names", "many_deeds", "names", "places", "called", "deeds", "k"]
theorem sc__law_machine : FnScope N__law_machine ["script", "start", "many_names", "many_deeds"] (defScope st__law_machine) := ⟨rfl, rfl, rfl, by decide +kernel, rfl, by decide +kernel, by decide +kernel⟩
def b__law_machine (C : Callee) : S :=
  (seqS (asgS 4 (callA C 125 [(callA C 122 [(nm 0), (nm 1)]), (nm 2)])) (seqS (asgS 5 (callA C 151 [(nm 0), (bin addO (nm 1) (cst (.int 2))), (nm 4)])) (seqS (asgS 6 (callA C 125 [(callA C 122 [(nm 0), (bin addO (nm 1) (cst (.int 1)))]), (nm 3)])) (seqS (asgS 7 (lstE (evs []))) (seqS (forS (evs [(nm 3)]) rng1 (nmT 8) (dropS (mutE "list" appO (nm 7) [(callA C 153 [(nm 0), (bin addO (bin addO (nm 1) (cst (.int 5))) (bin mulO (cst (.int 5)) (nm 8))), (bin ixO (nm 6) (nm 8)), (nm 5)])]))) (retS (tupE (evs [(bltE tupleO [(nm 5)]), (bltE tupleO [(nm 7)])]))))))))
abbrev st__law_change_of : Stmt := topS 47
abbrev N__law_change_of : List Str := ["change"]
theorem sc__law_change_of : FnScope N__law_change_of ["change"] (defScope st__law_change_of) := ⟨rfl, rfl, rfl, by decide +kernel, rfl, by decide +kernel, by decide +kernel⟩
def b__law_change_of (C : Callee) : S :=
  (seqS (ifS (blT (bin eqO (bltE lenO [(nm 0)]) (cst (.int 3)))) (retS (makeA C (Str.ofString "Any") 136 [(bin ixO (nm 0) (cst (.int 0))), (callA C 128 [(bin ixO (nm 0) (cst (.int 1)))]), (callA C 128 [(bin ixO (nm 0) (cst (.int 2)))])])) nextS) (retS (makeA C (Str.ofString "Put") 134 [(bin ixO (nm 0) (cst (.int 0))), (callA C 128 [(bin ixO (nm 0) (cst (.int 1)))])])))
abbrev st__law_deed_of : Stmt := topS 48
abbrev N__law_deed_of : List Str := ["deed", "changes", "change"]
theorem sc__law_deed_of : FnScope N__law_deed_of ["deed"] (defScope st__law_deed_of) := ⟨rfl, rfl, rfl, by decide +kernel, rfl, by decide +kernel, by decide +kernel⟩
def b__law_deed_of (C : Callee) : S :=
  (seqS (asgS 1 (bltE tupleO [(compE (evs [(bin ixO (nm 0) (cst (.int 2)))]) itemsO [2] (nmT 2) (fun g => .ok true g) (callA C 155 [(nm 2)]))])) (retS (makeA C (Str.ofString "Deed") 168 [(bin ixO (nm 0) (cst (.int 0))), (callA C 150 [(bin ixO (nm 0) (cst (.int 1)))]), (nm 1)])))
abbrev st__law_room_v2 : Stmt := topS 49
abbrev N__law_room_v2 : List Str := ["places", "cell", "state", "name", "low", "high", "start"]
theorem sc__law_room_v2 : FnScope N__law_room_v2 ["places", "cell"] (defScope st__law_room_v2) := ⟨rfl, rfl, rfl, by decide +kernel, rfl, by decide +kernel, by decide +kernel⟩
def b__law_room_v2 (C : Callee) : S :=
  (seqS (asgS 2 (callA C 123 [(nm 1)])) (retS (bltE tupleO [(compE (evs [(nm 0)]) itemsO [3, 4, 5, 6] (tupT [(nmT 3), (nmT 4), (nmT 5), (nmT 6)]) (fun g => .ok true g) (bin addO (nm 4) (callA C 124 [(nm 2), (bin addO (bin subO (nm 5) (nm 4)) (cst (.int 1)))])))])))
abbrev st__law_text_v8 : Stmt := topS 50
abbrev N__law_text_v8 : List Str := ["names", "text", "name"]
theorem sc__law_text_v8 : FnScope N__law_text_v8 ["names"] (defScope st__law_text_v8) := ⟨rfl, rfl, rfl, by decide +kernel, rfl, by decide +kernel, by decide +kernel⟩
def b__law_text_v8 (C : Callee) : S :=
  (seqS (ifS (blT (bin eqO (nm 0) (lstE (evs [])))) (retS (cst (.str (Str.ofString "yes")))) nextS) (seqS (asgS 1 (bin addO (bin addO (bin addO (cst (.str (Str.ofString "@"))) (bin ixO (nm 0) (una negO (cst (.int 1))))) (cst (.str (Str.ofString " = ")))) (bin ixO (nm 0) (una negO (cst (.int 1)))))) (seqS (forS (evs [(una revO (slE (nm 0) noE (intE (una negO (cst (.int 1))))))]) itemsO (nmT 2) (asgS 1 (bin addO (bin addO (bin addO (bin addO (bin addO (bin addO (cst (.str (Str.ofString "[ @"))) (nm 2)) (cst (.str (Str.ofString " = ")))) (nm 2)) (cst (.str (Str.ofString " and ")))) (nm 1)) (cst (.str (Str.ofString " ]")))))) (retS (nm 1)))))
abbrev st__law_tie_right : Stmt := topS 51
abbrev N__law_tie_right : List Str := ["machine", "places", "deeds", "tie", "worth", "place", "deed"]
theorem sc__law_tie_right : FnScope N__law_tie_right ["machine", "places", "deeds", "tie"] (defScope st__law_tie_right) := ⟨rfl, rfl, rfl, by decide +kernel, rfl, by decide +kernel, by decide +kernel⟩
def b__law_tie_right (C : Callee) : S :=
  (seqS (ifS (orT (notT (truT (bltE (isiC ITl) [(nm 3), (cst (.cls (Str.ofString "Tie")))]))) (blT (bin neO (methE (mtOf MTl 1) C (Str.ofString "shown") (attrE (ftOf FTl) (Str.ofString "saying") (nm 3)) []) (callA C 464 [(compE (evs [(nm 1)]) itemsO [5] (nmT 5) (fun g => .ok true g) (bin ixO (nm 5) (cst (.int 0))))])))) (retS (cst (.bl false))) nextS) (seqS (ifS (orT (notT (truT (bltE isiO [(attrE (ftOf FTl) (Str.ofString "table") (nm 3)), (cst (.ty "tuple"))]))) (blT (bin neO (bltE listO [(attrE (ftOf FTl) (Str.ofString "table") (nm 3))]) (compE (evs [(nm 2)]) itemsO [6] (nmT 6) (fun g => .ok true g) (tupE (evs [(bin ixO (nm 6) (cst (.int 0))), (bin ixO (nm 6) (cst (.int 0)))])))))) (retS (cst (.bl false))) nextS) (seqS (asgS 4 (methE (mtOf MTl 2) C (Str.ofString "worth") (attrE (ftOf FTl) (Str.ofString "falling") (nm 3)) [(methE (mtOf MTl 2) C (Str.ofString "values_in") (nm 0) [(methE (mtOf MTl 1) C (Str.ofString "first") (nm 0) [])])])) (retS (andE (bin eqO (methE (mtOf MTl 1) C (Str.ofString "shown") (attrE (ftOf FTl) (Str.ofString "falling") (nm 3)) []) (cst (.str (Str.ofString "0")))) (andE (callA C 121 [(nm 4)]) (bin eqO (nm 4) (cst (.int 0)))))))))
abbrev st_law_k62 : Stmt := topS 52
abbrev N_law_k62 : List Str := ["script", "head", "places", "deeds", "machine", "tie", "more", "others", "second", "k", "cell", "one", "other", "at", "name", "low", "high", "start", "value", "found", "deed"]
theorem sc_law_k62 : FnScope N_law_k62 ["script"] (defScope st_law_k62) := ⟨rfl, rfl, rfl, by decide +kernel, rfl, by decide +kernel, by decide +kernel⟩
def b_law_k62 (C : Callee) : S :=
  (seqS (asgS 1 (callA C 122 [(nm 0), (cst (.int 0))])) (seqS (setS (tupT [(nmT 2), (nmT 3)]) (callA C 154 [(nm 0), (cst (.int 2)), (bin modO (nm 1) (cst (.int 4))), (bin modO (bin fdivO (nm 1) (cst (.int 4))) (cst (.int 7)))])) (seqS (asgS 4 (makeA C (Str.ofString "Machine") 163 [(nm 2), (tupE (evs [])), (bltE tupleO [(compE (evs [(nm 3)]) itemsO [20] (nmT 20) (fun g => .ok true g) (callA C 156 [(nm 20)]))])])) (seqS (asgS 5 (callA C 463 [(nm 4)])) (seqS (ifS (notT (truT (callA C 465 [(nm 4), (nm 2), (nm 3), (nm 5)]))) (retS (cst (.bl false))) nextS) (seqS (setS (tupT [(nmT 6), (nmT 7)]) (callA C 154 [(nm 0), (cst (.int 46)), (bin modO (bin addO (bin addO (nm 1) (cst (.int 1))) (bin modO (bin fdivO (nm 1) (cst (.int 28))) (cst (.int 3)))) (cst (.int 4))), (bin modO (bin fdivO (nm 1) (cst (.int 84))) (cst (.int 7)))])) (seqS (asgS 8 (makeA C (Str.ofString "Machine") 163 [(nm 6), (tupE (evs [])), (bltE tupleO [(compE (evs [(nm 7)]) itemsO [20] (nmT 20) (fun g => .ok true g) (callA C 156 [(nm 20)]))])])) (seqS (ifS (orT (notT (truT (callA C 465 [(nm 8), (nm 6), (nm 7), (callA C 463 [(nm 8)])]))) (notT (truT (callA C 465 [(nm 4), (nm 2), (nm 3), (nm 5)])))) (retS (cst (.bl false))) nextS) (seqS (asgS 5 (callA C 463 [(nm 4)])) (seqS (ifS (notT (truT (callA C 465 [(nm 4), (nm 2), (nm 3), (nm 5)]))) (retS (cst (.bl false))) nextS) (seqS (forS (evs [(cst (.int 6))]) rng1 (nmT 9) (seqS (asgS 10 (callA C 122 [(nm 0), (bin addO (cst (.int 40)) (nm 9))])) (seqS (asgS 11 (callA C 160 [(nm 2), (nm 10)])) (seqS (asgS 12 (nm 11)) (seqS (ifS (andT (blT (bin gtO (bin modO (nm 10) (cst (.int 3))) (cst (.int 0)))) (blT (bin gtO (bltE lenO [(nm 2)]) (cst (.int 0))))) (seqS (asgS 13 (bin modO (bin fdivO (nm 10) (cst (.int 3))) (bltE lenO [(nm 2)]))) (seqS (setS (tupT [(nmT 14), (nmT 15), (nmT 16), (nmT 17)]) (bin ixO (nm 2) (nm 13))) (seqS (asgS 18 (bin addO (nm 15) (bin modO (bin fdivO (nm 10) (cst (.int 9))) (bin addO (bin subO (nm 16) (nm 15)) (cst (.int 1)))))) (asgS 12 (bin addO (bin addO (slE (nm 11) noE (intE (nm 13))) (tupE (evs [(nm 18)]))) (slE (nm 11) (intE (bin addO (nm 13) (cst (.int 1)))) noE)))))) nextS) (seqS (asgS 19 (callA C 264 [(frzE 4), (frzE 4), (nm 5), (nm 11), (nm 12)])) (ifS (orT (notT (truT (bltE isiO [(nm 19), (cst (.ty "bool"))]))) (blT (bin neO (nm 19) (bin eqO (nm 11) (nm 12))))) (retS (cst (.bl false))) nextS))))))) (retS (cst (.bl true))))))))))))))
abbrev st_Saying_holds : Stmt := inClass (topS 2) 0
abbrev N_Saying_holds : List Str := ["self", "values"]
theorem sc_Saying_holds : FnScope N_Saying_holds ["self", "values"] (defScope st_Saying_holds) := ⟨rfl, rfl, rfl, by decide +kernel, rfl, by decide +kernel, by decide +kernel⟩
def b_Saying_holds (C : Callee) : S :=
  (retS (cst (.bl true)))
abbrev st_Saying_shown : Stmt := inClass (topS 2) 2
abbrev N_Saying_shown : List Str := ["self"]
theorem sc_Saying_shown : FnScope N_Saying_shown ["self"] (defScope st_Saying_shown) := ⟨rfl, rfl, rfl, by decide +kernel, rfl, by decide +kernel, by decide +kernel⟩
def b_Saying_shown (C : Callee) : S :=
  (retS (cst (.str (Str.ofString "yes"))))
abbrev st_Compared___init__ : Stmt := inClass (topS 3) 0
abbrev N_Compared___init__ : List Str := ["self", "one", "other"]
theorem sc_Compared___init__ : FnScope N_Compared___init__ ["self", "one", "other"] (defScope st_Compared___init__) := ⟨rfl, rfl, rfl, by decide +kernel, rfl, by decide +kernel, by decide +kernel⟩
def b_Compared___init__ (C : Callee) : S :=
  (seqS (fldS (ftOf FTl) (Str.ofString "one") (nm 0) (nm 1)) (fldS (ftOf FTl) (Str.ofString "other") (nm 0) (nm 2)))
abbrev st_Compared_sign : Stmt := inClass (topS 3) 1
abbrev N_Compared_sign : List Str := ["self"]
theorem sc_Compared_sign : FnScope N_Compared_sign ["self"] (defScope st_Compared_sign) := ⟨rfl, rfl, rfl, by decide +kernel, rfl, by decide +kernel, by decide +kernel⟩
def b_Compared_sign (C : Callee) : S :=
  (retS (cst (.str (Str.ofString "="))))
abbrev st_Compared_shown : Stmt := inClass (topS 3) 3
abbrev N_Compared_shown : List Str := ["self"]
theorem sc_Compared_shown : FnScope N_Compared_shown ["self"] (defScope st_Compared_shown) := ⟨rfl, rfl, rfl, by decide +kernel, rfl, by decide +kernel, by decide +kernel⟩
def b_Compared_shown (C : Callee) : S :=
  (retS (bin addO (bin addO (bin addO (bin addO (methE (mtOf MTl 1) C (Str.ofString "shown") (attrE (ftOf FTl) (Str.ofString "one") (nm 0)) []) (cst (.str (Str.ofString " ")))) (methE (mtOf MTl 1) C (Str.ofString "sign") (nm 0) [])) (cst (.str (Str.ofString " ")))) (methE (mtOf MTl 1) C (Str.ofString "shown") (attrE (ftOf FTl) (Str.ofString "other") (nm 0)) [])))
abbrev st_Less_sign : Stmt := inClass (topS 4) 0
abbrev N_Less_sign : List Str := ["self"]
theorem sc_Less_sign : FnScope N_Less_sign ["self"] (defScope st_Less_sign) := ⟨rfl, rfl, rfl, by decide +kernel, rfl, by decide +kernel, by decide +kernel⟩
def b_Less_sign (C : Callee) : S :=
  (retS (cst (.str (Str.ofString "<"))))
abbrev st_Less_holds : Stmt := inClass (topS 4) 1
abbrev N_Less_holds : List Str := ["self", "values"]
theorem sc_Less_holds : FnScope N_Less_holds ["self", "values"] (defScope st_Less_holds) := ⟨rfl, rfl, rfl, by decide +kernel, rfl, by decide +kernel, by decide +kernel⟩
def b_Less_holds (C : Callee) : S :=
  (retS (bin ltO (methE (mtOf MTl 2) C (Str.ofString "worth") (attrE (ftOf FTl) (Str.ofString "one") (nm 0)) [(nm 1)]) (methE (mtOf MTl 2) C (Str.ofString "worth") (attrE (ftOf FTl) (Str.ofString "other") (nm 0)) [(nm 1)])))
abbrev st_AtMost_sign : Stmt := inClass (topS 5) 0
abbrev N_AtMost_sign : List Str := ["self"]
theorem sc_AtMost_sign : FnScope N_AtMost_sign ["self"] (defScope st_AtMost_sign) := ⟨rfl, rfl, rfl, by decide +kernel, rfl, by decide +kernel, by decide +kernel⟩
def b_AtMost_sign (C : Callee) : S :=
  (retS (cst (.str (Str.ofString "<="))))
abbrev st_AtMost_holds : Stmt := inClass (topS 5) 1
abbrev N_AtMost_holds : List Str := ["self", "values"]
theorem sc_AtMost_holds : FnScope N_AtMost_holds ["self", "values"] (defScope st_AtMost_holds) := ⟨rfl, rfl, rfl, by decide +kernel, rfl, by decide +kernel, by decide +kernel⟩
def b_AtMost_holds (C : Callee) : S :=
  (retS (bin leO (methE (mtOf MTl 2) C (Str.ofString "worth") (attrE (ftOf FTl) (Str.ofString "one") (nm 0)) [(nm 1)]) (methE (mtOf MTl 2) C (Str.ofString "worth") (attrE (ftOf FTl) (Str.ofString "other") (nm 0)) [(nm 1)])))
abbrev st_Equal_holds : Stmt := inClass (topS 6) 0
abbrev N_Equal_holds : List Str := ["self", "values"]
theorem sc_Equal_holds : FnScope N_Equal_holds ["self", "values"] (defScope st_Equal_holds) := ⟨rfl, rfl, rfl, by decide +kernel, rfl, by decide +kernel, by decide +kernel⟩
def b_Equal_holds (C : Callee) : S :=
  (retS (bin eqO (methE (mtOf MTl 2) C (Str.ofString "worth") (attrE (ftOf FTl) (Str.ofString "one") (nm 0)) [(nm 1)]) (methE (mtOf MTl 2) C (Str.ofString "worth") (attrE (ftOf FTl) (Str.ofString "other") (nm 0)) [(nm 1)])))
abbrev st_Unlike_sign : Stmt := inClass (topS 7) 0
abbrev N_Unlike_sign : List Str := ["self"]
theorem sc_Unlike_sign : FnScope N_Unlike_sign ["self"] (defScope st_Unlike_sign) := ⟨rfl, rfl, rfl, by decide +kernel, rfl, by decide +kernel, by decide +kernel⟩
def b_Unlike_sign (C : Callee) : S :=
  (retS (cst (.str (Str.ofString "!="))))
abbrev st_Unlike_holds : Stmt := inClass (topS 7) 1
abbrev N_Unlike_holds : List Str := ["self", "values"]
theorem sc_Unlike_holds : FnScope N_Unlike_holds ["self", "values"] (defScope st_Unlike_holds) := ⟨rfl, rfl, rfl, by decide +kernel, rfl, by decide +kernel, by decide +kernel⟩
def b_Unlike_holds (C : Callee) : S :=
  (retS (bin neO (methE (mtOf MTl 2) C (Str.ofString "worth") (attrE (ftOf FTl) (Str.ofString "one") (nm 0)) [(nm 1)]) (methE (mtOf MTl 2) C (Str.ofString "worth") (attrE (ftOf FTl) (Str.ofString "other") (nm 0)) [(nm 1)])))
abbrev st_Both___init__ : Stmt := inClass (topS 8) 0
abbrev N_Both___init__ : List Str := ["self", "one", "other"]
theorem sc_Both___init__ : FnScope N_Both___init__ ["self", "one", "other"] (defScope st_Both___init__) := ⟨rfl, rfl, rfl, by decide +kernel, rfl, by decide +kernel, by decide +kernel⟩
def b_Both___init__ (C : Callee) : S :=
  (seqS (fldS (ftOf FTl) (Str.ofString "one") (nm 0) (nm 1)) (fldS (ftOf FTl) (Str.ofString "other") (nm 0) (nm 2)))
abbrev st_Both_holds : Stmt := inClass (topS 8) 1
abbrev N_Both_holds : List Str := ["self", "values"]
theorem sc_Both_holds : FnScope N_Both_holds ["self", "values"] (defScope st_Both_holds) := ⟨rfl, rfl, rfl, by decide +kernel, rfl, by decide +kernel, by decide +kernel⟩
def b_Both_holds (C : Callee) : S :=
  (retS (andE (methE (mtOf MTl 2) C (Str.ofString "holds") (attrE (ftOf FTl) (Str.ofString "one") (nm 0)) [(nm 1)]) (methE (mtOf MTl 2) C (Str.ofString "holds") (attrE (ftOf FTl) (Str.ofString "other") (nm 0)) [(nm 1)])))
abbrev st_Both_shown : Stmt := inClass (topS 8) 3
abbrev N_Both_shown : List Str := ["self"]
theorem sc_Both_shown : FnScope N_Both_shown ["self"] (defScope st_Both_shown) := ⟨rfl, rfl, rfl, by decide +kernel, rfl, by decide +kernel, by decide +kernel⟩
def b_Both_shown (C : Callee) : S :=
  (retS (bin addO (bin addO (bin addO (bin addO (cst (.str (Str.ofString "[ "))) (methE (mtOf MTl 1) C (Str.ofString "shown") (attrE (ftOf FTl) (Str.ofString "one") (nm 0)) [])) (cst (.str (Str.ofString " and ")))) (methE (mtOf MTl 1) C (Str.ofString "shown") (attrE (ftOf FTl) (Str.ofString "other") (nm 0)) [])) (cst (.str (Str.ofString " ]")))))
abbrev st_Either___init__ : Stmt := inClass (topS 9) 0
abbrev N_Either___init__ : List Str := ["self", "one", "other"]
theorem sc_Either___init__ : FnScope N_Either___init__ ["self", "one", "other"] (defScope st_Either___init__) := ⟨rfl, rfl, rfl, by decide +kernel, rfl, by decide +kernel, by decide +kernel⟩
def b_Either___init__ (C : Callee) : S :=
  (seqS (fldS (ftOf FTl) (Str.ofString "one") (nm 0) (nm 1)) (fldS (ftOf FTl) (Str.ofString "other") (nm 0) (nm 2)))
abbrev st_Either_holds : Stmt := inClass (topS 9) 1
abbrev N_Either_holds : List Str := ["self", "values"]
theorem sc_Either_holds : FnScope N_Either_holds ["self", "values"] (defScope st_Either_holds) := ⟨rfl, rfl, rfl, by decide +kernel, rfl, by decide +kernel, by decide +kernel⟩
def b_Either_holds (C : Callee) : S :=
  (retS (orE (methE (mtOf MTl 2) C (Str.ofString "holds") (attrE (ftOf FTl) (Str.ofString "one") (nm 0)) [(nm 1)]) (methE (mtOf MTl 2) C (Str.ofString "holds") (attrE (ftOf FTl) (Str.ofString "other") (nm 0)) [(nm 1)])))
abbrev st_Either_shown : Stmt := inClass (topS 9) 3
abbrev N_Either_shown : List Str := ["self"]
theorem sc_Either_shown : FnScope N_Either_shown ["self"] (defScope st_Either_shown) := ⟨rfl, rfl, rfl, by decide +kernel, rfl, by decide +kernel, by decide +kernel⟩
def b_Either_shown (C : Callee) : S :=
  (retS (bin addO (bin addO (bin addO (bin addO (cst (.str (Str.ofString "[ "))) (methE (mtOf MTl 1) C (Str.ofString "shown") (attrE (ftOf FTl) (Str.ofString "one") (nm 0)) [])) (cst (.str (Str.ofString " or ")))) (methE (mtOf MTl 1) C (Str.ofString "shown") (attrE (ftOf FTl) (Str.ofString "other") (nm 0)) [])) (cst (.str (Str.ofString " ]")))))
abbrev st_Not___init__ : Stmt := inClass (topS 10) 0
abbrev N_Not___init__ : List Str := ["self", "one"]
theorem sc_Not___init__ : FnScope N_Not___init__ ["self", "one"] (defScope st_Not___init__) := ⟨rfl, rfl, rfl, by decide +kernel, rfl, by decide +kernel, by decide +kernel⟩
def b_Not___init__ (C : Callee) : S :=
  (fldS (ftOf FTl) (Str.ofString "one") (nm 0) (nm 1))
abbrev st_Not_holds : Stmt := inClass (topS 10) 1
abbrev N_Not_holds : List Str := ["self", "values"]
theorem sc_Not_holds : FnScope N_Not_holds ["self", "values"] (defScope st_Not_holds) := ⟨rfl, rfl, rfl, by decide +kernel, rfl, by decide +kernel, by decide +kernel⟩
def b_Not_holds (C : Callee) : S :=
  (retS (notE (methE (mtOf MTl 2) C (Str.ofString "holds") (attrE (ftOf FTl) (Str.ofString "one") (nm 0)) [(nm 1)])))
abbrev st_Not_shown : Stmt := inClass (topS 10) 3
abbrev N_Not_shown : List Str := ["self"]
theorem sc_Not_shown : FnScope N_Not_shown ["self"] (defScope st_Not_shown) := ⟨rfl, rfl, rfl, by decide +kernel, rfl, by decide +kernel, by decide +kernel⟩
def b_Not_shown (C : Callee) : S :=
  (retS (bin addO (bin addO (cst (.str (Str.ofString "[ not "))) (methE (mtOf MTl 1) C (Str.ofString "shown") (attrE (ftOf FTl) (Str.ofString "one") (nm 0)) [])) (cst (.str (Str.ofString " ]")))))
abbrev st_Sum_worth : Stmt := inClass (topS 12) 0
abbrev N_Sum_worth : List Str := ["self", "values"]
theorem sc_Sum_worth : FnScope N_Sum_worth ["self", "values"] (defScope st_Sum_worth) := ⟨rfl, rfl, rfl, by decide +kernel, rfl, by decide +kernel, by decide +kernel⟩
def b_Sum_worth (C : Callee) : S :=
  (retS (cst (.int 0)))
abbrev st_Sum_shown : Stmt := inClass (topS 12) 2
abbrev N_Sum_shown : List Str := ["self"]
theorem sc_Sum_shown : FnScope N_Sum_shown ["self"] (defScope st_Sum_shown) := ⟨rfl, rfl, rfl, by decide +kernel, rfl, by decide +kernel, by decide +kernel⟩
def b_Sum_shown (C : Callee) : S :=
  (retS (cst (.str (Str.ofString "0"))))
abbrev st_Number___init__ : Stmt := inClass (topS 13) 0
abbrev N_Number___init__ : List Str := ["self", "number"]
theorem sc_Number___init__ : FnScope N_Number___init__ ["self", "number"] (defScope st_Number___init__) := ⟨rfl, rfl, rfl, by decide +kernel, rfl, by decide +kernel, by decide +kernel⟩
def b_Number___init__ (C : Callee) : S :=
  (fldS (ftOf FTl) (Str.ofString "told") (nm 0) (nm 1))
abbrev st_Number_worth : Stmt := inClass (topS 13) 1
abbrev N_Number_worth : List Str := ["self", "values"]
theorem sc_Number_worth : FnScope N_Number_worth ["self", "values"] (defScope st_Number_worth) := ⟨rfl, rfl, rfl, by decide +kernel, rfl, by decide +kernel, by decide +kernel⟩
def b_Number_worth (C : Callee) : S :=
  (retS (attrE (ftOf FTl) (Str.ofString "told") (nm 0)))
abbrev st_Number_shown : Stmt := inClass (topS 13) 2
abbrev N_Number_shown : List Str := ["self"]
theorem sc_Number_shown : FnScope N_Number_shown ["self"] (defScope st_Number_shown) := ⟨rfl, rfl, rfl, by decide +kernel, rfl, by decide +kernel, by decide +kernel⟩
def b_Number_shown (C : Callee) : S :=
  (retS (bltE strO [(attrE (ftOf FTl) (Str.ofString "told") (nm 0))]))
abbrev st_Named___init__ : Stmt := inClass (topS 14) 0
abbrev N_Named___init__ : List Str := ["self", "name"]
theorem sc_Named___init__ : FnScope N_Named___init__ ["self", "name"] (defScope st_Named___init__) := ⟨rfl, rfl, rfl, by decide +kernel, rfl, by decide +kernel, by decide +kernel⟩
def b_Named___init__ (C : Callee) : S :=
  (fldS (ftOf FTl) (Str.ofString "name") (nm 0) (nm 1))
abbrev st_Named_worth : Stmt := inClass (topS 14) 1
abbrev N_Named_worth : List Str := ["self", "values"]
theorem sc_Named_worth : FnScope N_Named_worth ["self", "values"] (defScope st_Named_worth) := ⟨rfl, rfl, rfl, by decide +kernel, rfl, by decide +kernel, by decide +kernel⟩
def b_Named_worth (C : Callee) : S :=
  (retS (bin ixO (nm 1) (attrE (ftOf FTl) (Str.ofString "name") (nm 0))))
abbrev st_Named_shown : Stmt := inClass (topS 14) 3
abbrev N_Named_shown : List Str := ["self"]
theorem sc_Named_shown : FnScope N_Named_shown ["self"] (defScope st_Named_shown) := ⟨rfl, rfl, rfl, by decide +kernel, rfl, by decide +kernel, by decide +kernel⟩
def b_Named_shown (C : Callee) : S :=
  (retS (attrE (ftOf FTl) (Str.ofString "name") (nm 0)))
abbrev st_Joined___init__ : Stmt := inClass (topS 15) 0
abbrev N_Joined___init__ : List Str := ["self", "one", "other"]
theorem sc_Joined___init__ : FnScope N_Joined___init__ ["self", "one", "other"] (defScope st_Joined___init__) := ⟨rfl, rfl, rfl, by decide +kernel, rfl, by decide +kernel, by decide +kernel⟩
def b_Joined___init__ (C : Callee) : S :=
  (seqS (fldS (ftOf FTl) (Str.ofString "one") (nm 0) (nm 1)) (fldS (ftOf FTl) (Str.ofString "other") (nm 0) (nm 2)))
abbrev st_Joined_sign : Stmt := inClass (topS 15) 1
abbrev N_Joined_sign : List Str := ["self"]
theorem sc_Joined_sign : FnScope N_Joined_sign ["self"] (defScope st_Joined_sign) := ⟨rfl, rfl, rfl, by decide +kernel, rfl, by decide +kernel, by decide +kernel⟩
def b_Joined_sign (C : Callee) : S :=
  (retS (cst (.str (Str.ofString "+"))))
abbrev st_Joined_shown : Stmt := inClass (topS 15) 3
abbrev N_Joined_shown : List Str := ["self"]
theorem sc_Joined_shown : FnScope N_Joined_shown ["self"] (defScope st_Joined_shown) := ⟨rfl, rfl, rfl, by decide +kernel, rfl, by decide +kernel, by decide +kernel⟩
def b_Joined_shown (C : Callee) : S :=
  (retS (bin addO (bin addO (bin addO (bin addO (bin addO (bin addO (cst (.str (Str.ofString "( "))) (methE (mtOf MTl 1) C (Str.ofString "shown") (attrE (ftOf FTl) (Str.ofString "one") (nm 0)) [])) (cst (.str (Str.ofString " ")))) (methE (mtOf MTl 1) C (Str.ofString "sign") (nm 0) [])) (cst (.str (Str.ofString " ")))) (methE (mtOf MTl 1) C (Str.ofString "shown") (attrE (ftOf FTl) (Str.ofString "other") (nm 0)) [])) (cst (.str (Str.ofString " )")))))
abbrev st_Plus_worth : Stmt := inClass (topS 16) 0
abbrev N_Plus_worth : List Str := ["self", "values"]
theorem sc_Plus_worth : FnScope N_Plus_worth ["self", "values"] (defScope st_Plus_worth) := ⟨rfl, rfl, rfl, by decide +kernel, rfl, by decide +kernel, by decide +kernel⟩
def b_Plus_worth (C : Callee) : S :=
  (retS (bin addO (methE (mtOf MTl 2) C (Str.ofString "worth") (attrE (ftOf FTl) (Str.ofString "one") (nm 0)) [(nm 1)]) (methE (mtOf MTl 2) C (Str.ofString "worth") (attrE (ftOf FTl) (Str.ofString "other") (nm 0)) [(nm 1)])))
abbrev st_Minus_sign : Stmt := inClass (topS 17) 0
abbrev N_Minus_sign : List Str := ["self"]
theorem sc_Minus_sign : FnScope N_Minus_sign ["self"] (defScope st_Minus_sign) := ⟨rfl, rfl, rfl, by decide +kernel, rfl, by decide +kernel, by decide +kernel⟩
def b_Minus_sign (C : Callee) : S :=
  (retS (cst (.str (Str.ofString "-"))))
abbrev st_Minus_worth : Stmt := inClass (topS 17) 1
abbrev N_Minus_worth : List Str := ["self", "values"]
theorem sc_Minus_worth : FnScope N_Minus_worth ["self", "values"] (defScope st_Minus_worth) := ⟨rfl, rfl, rfl, by decide +kernel, rfl, by decide +kernel, by decide +kernel⟩
def b_Minus_worth (C : Callee) : S :=
  (retS (bin subO (methE (mtOf MTl 2) C (Str.ofString "worth") (attrE (ftOf FTl) (Str.ofString "one") (nm 0)) [(nm 1)]) (methE (mtOf MTl 2) C (Str.ofString "worth") (attrE (ftOf FTl) (Str.ofString "other") (nm 0)) [(nm 1)])))
abbrev st_Times_sign : Stmt := inClass (topS 18) 0
abbrev N_Times_sign : List Str := ["self"]
theorem sc_Times_sign : FnScope N_Times_sign ["self"] (defScope st_Times_sign) := ⟨rfl, rfl, rfl, by decide +kernel, rfl, by decide +kernel, by decide +kernel⟩
def b_Times_sign (C : Callee) : S :=
  (retS (cst (.str (Str.ofString "*"))))
abbrev st_Times_worth : Stmt := inClass (topS 18) 1
abbrev N_Times_worth : List Str := ["self", "values"]
theorem sc_Times_worth : FnScope N_Times_worth ["self", "values"] (defScope st_Times_worth) := ⟨rfl, rfl, rfl, by decide +kernel, rfl, by decide +kernel, by decide +kernel⟩
def b_Times_worth (C : Callee) : S :=
  (retS (bin mulO (methE (mtOf MTl 2) C (Str.ofString "worth") (attrE (ftOf FTl) (Str.ofString "one") (nm 0)) [(nm 1)]) (methE (mtOf MTl 2) C (Str.ofString "worth") (attrE (ftOf FTl) (Str.ofString "other") (nm 0)) [(nm 1)])))
abbrev st_Tie___init__ : Stmt := inClass (topS 20) 0
abbrev N_Tie___init__ : List Str := ["self", "saying", "table", "falling"]
theorem sc_Tie___init__ : FnScope N_Tie___init__ ["self", "saying", "table", "falling"] (defScope st_Tie___init__) := ⟨rfl, rfl, rfl, by decide +kernel, rfl, by decide +kernel, by decide +kernel⟩
def b_Tie___init__ (C : Callee) : S :=
  (seqS (fldS (ftOf FTl) (Str.ofString "saying") (nm 0) (nm 1)) (seqS (fldS (ftOf FTl) (Str.ofString "table") (nm 0) (nm 2)) (fldS (ftOf FTl) (Str.ofString "falling") (nm 0) (nm 3))))
abbrev st_Change___init__ : Stmt := inClass (topS 27) 0
abbrev N_Change___init__ : List Str := ["self", "name"]
theorem sc_Change___init__ : FnScope N_Change___init__ ["self", "name"] (defScope st_Change___init__) := ⟨rfl, rfl, rfl, by decide +kernel, rfl, by decide +kernel, by decide +kernel⟩
def b_Change___init__ (C : Callee) : S :=
  (fldS (ftOf FTl) (Str.ofString "name") (nm 0) (nm 1))
abbrev st_Change_shown : Stmt := inClass (topS 27) 3
abbrev N_Change_shown : List Str := ["self"]
theorem sc_Change_shown : FnScope N_Change_shown ["self"] (defScope st_Change_shown) := ⟨rfl, rfl, rfl, by decide +kernel, rfl, by decide +kernel, by decide +kernel⟩
def b_Change_shown (C : Callee) : S :=
  (retS (attrE (ftOf FTl) (Str.ofString "name") (nm 0)))
abbrev st_Put___init__ : Stmt := inClass (topS 28) 0
abbrev N_Put___init__ : List Str := ["self", "name", "one"]
theorem sc_Put___init__ : FnScope N_Put___init__ ["self", "name", "one"] (defScope st_Put___init__) := ⟨rfl, rfl, rfl, by decide +kernel, rfl, by decide +kernel, by decide +kernel⟩
def b_Put___init__ (C : Callee) : S :=
  (seqS (dropS (callA C 132 [(nm 0), (nm 1)])) (fldS (ftOf FTl) (Str.ofString "one") (nm 0) (nm 2)))
abbrev st_Put_shown : Stmt := inClass (topS 28) 3
abbrev N_Put_shown : List Str := ["self"]
theorem sc_Put_shown : FnScope N_Put_shown ["self"] (defScope st_Put_shown) := ⟨rfl, rfl, rfl, by decide +kernel, rfl, by decide +kernel, by decide +kernel⟩
def b_Put_shown (C : Callee) : S :=
  (retS (bin addO (bin addO (attrE (ftOf FTl) (Str.ofString "name") (nm 0)) (cst (.str (Str.ofString " = ")))) (methE (mtOf MTl 1) C (Str.ofString "shown") (attrE (ftOf FTl) (Str.ofString "one") (nm 0)) [])))
abbrev st_Any___init__ : Stmt := inClass (topS 29) 0
abbrev N_Any___init__ : List Str := ["self", "name", "one", "other"]
theorem sc_Any___init__ : FnScope N_Any___init__ ["self", "name", "one", "other"] (defScope st_Any___init__) := ⟨rfl, rfl, rfl, by decide +kernel, rfl, by decide +kernel, by decide +kernel⟩
def b_Any___init__ (C : Callee) : S :=
  (seqS (dropS (callA C 132 [(nm 0), (nm 1)])) (seqS (fldS (ftOf FTl) (Str.ofString "one") (nm 0) (nm 2)) (fldS (ftOf FTl) (Str.ofString "other") (nm 0) (nm 3))))
abbrev st_Any_shown : Stmt := inClass (topS 29) 3
abbrev N_Any_shown : List Str := ["self"]
theorem sc_Any_shown : FnScope N_Any_shown ["self"] (defScope st_Any_shown) := ⟨rfl, rfl, rfl, by decide +kernel, rfl, by decide +kernel, by decide +kernel⟩
def b_Any_shown (C : Callee) : S :=
  (retS (bin addO (bin addO (bin addO (bin addO (attrE (ftOf FTl) (Str.ofString "name") (nm 0)) (cst (.str (Str.ofString " any ")))) (methE (mtOf MTl 1) C (Str.ofString "shown") (attrE (ftOf FTl) (Str.ofString "one") (nm 0)) [])) (cst (.str (Str.ofString " to ")))) (methE (mtOf MTl 1) C (Str.ofString "shown") (attrE (ftOf FTl) (Str.ofString "other") (nm 0)) [])))
abbrev st_Deed___init__ : Stmt := inClass (topS 30) 0
abbrev N_Deed___init__ : List Str := ["self", "called", "when", "changes"]
theorem sc_Deed___init__ : FnScope N_Deed___init__ ["self", "called", "when", "changes"] (defScope st_Deed___init__) := ⟨rfl, rfl, rfl, by decide +kernel, rfl, by decide +kernel, by decide +kernel⟩
def b_Deed___init__ (C : Callee) : S :=
  (seqS (fldS (ftOf FTl) (Str.ofString "called") (nm 0) (nm 1)) (seqS (fldS (ftOf FTl) (Str.ofString "when") (nm 0) (nm 2)) (fldS (ftOf FTl) (Str.ofString "changes") (nm 0) (nm 3))))
abbrev st_Machine___init__ : Stmt := inClass (topS 32) 0
abbrev N_Machine___init__ : List Str := ["self", "places", "keeps", "deeds"]
theorem sc_Machine___init__ : FnScope N_Machine___init__ ["self", "places", "keeps", "deeds"] (defScope st_Machine___init__) := ⟨rfl, rfl, rfl, by decide +kernel, rfl, by decide +kernel, by decide +kernel⟩
def b_Machine___init__ (C : Callee) : S :=
  (seqS (fldS (ftOf FTl) (Str.ofString "places") (nm 0) (nm 1)) (seqS (fldS (ftOf FTl) (Str.ofString "keeps") (nm 0) (nm 2)) (fldS (ftOf FTl) (Str.ofString "deeds") (nm 0) (nm 3))))
abbrev st_Machine_first : Stmt := inClass (topS 32) 1
abbrev N_Machine_first : List Str := ["self", "name", "low", "high", "start"]
theorem sc_Machine_first : FnScope N_Machine_first ["self"] (defScope st_Machine_first) := ⟨rfl, rfl, rfl, by decide +kernel, rfl, by decide +kernel, by decide +kernel⟩
def b_Machine_first (C : Callee) : S :=
  (retS (bltE tupleO [(compE (evs [(attrE (ftOf FTl) (Str.ofString "places") (nm 0))]) itemsO [1, 2, 3, 4] (tupT [(nmT 1), (nmT 2), (nmT 3), (nmT 4)]) (fun g => .ok true g) (nm 4))]))
abbrev st_Machine_values_in : Stmt := inClass (topS 32) 2
abbrev N_Machine_values_in : List Str := ["self", "room", "values", "place", "value"]
theorem sc_Machine_values_in : FnScope N_Machine_values_in ["self", "room"] (defScope st_Machine_values_in) := ⟨rfl, rfl, rfl, by decide +kernel, rfl, by decide +kernel, by decide +kernel⟩
def b_Machine_values_in (C : Callee) : S :=
  (seqS (asgS 2 dnewE) (seqS (forS (evs [(attrE (ftOf FTl) (Str.ofString "places") (nm 0)), (nm 1)]) zipI (tupT [(nmT 3), (nmT 4)]) (stS (nm 2) (bin ixO (nm 3) (cst (.int 0))) (nm 4))) (retS (nm 2))))
def callN : Nat → Callee
  | 0, _, _ => .stuck
  | n + 1, f, os => match f with
    | 31 => bodyC 2 0 (b_Sum_worth (callN n)) os
    | 33 => bodyC 1 0 (b_Sum_shown (callN n)) os
    | 34 => bodyC 2 0 (b_Number___init__ (callN n)) os
    | 35 => bodyC 2 0 (b_Number_worth (callN n)) os
    | 36 => bodyC 1 0 (b_Number_shown (callN n)) os
    | 37 => bodyC 2 0 (b_Named___init__ (callN n)) os
    | 38 => bodyC 2 0 (b_Named_worth (callN n)) os
    | 40 => bodyC 1 0 (b_Named_shown (callN n)) os
    | 41 => bodyC 3 0 (b_Joined___init__ (callN n)) os
    | 42 => bodyC 1 0 (b_Joined_sign (callN n)) os
    | 44 => bodyC 1 0 (b_Joined_shown (callN n)) os
    | 45 => bodyC 2 0 (b_Plus_worth (callN n)) os
    | 46 => bodyC 1 0 (b_Minus_sign (callN n)) os
    | 47 => bodyC 2 0 (b_Minus_worth (callN n)) os
    | 48 => bodyC 1 0 (b_Times_sign (callN n)) os
    | 49 => bodyC 2 0 (b_Times_worth (callN n)) os
    | 54 => bodyC 2 0 (b_Saying_holds (callN n)) os
    | 56 => bodyC 1 0 (b_Saying_shown (callN n)) os
    | 57 => bodyC 3 0 (b_Compared___init__ (callN n)) os
    | 58 => bodyC 1 0 (b_Compared_sign (callN n)) os
    | 60 => bodyC 1 0 (b_Compared_shown (callN n)) os
    | 61 => bodyC 1 0 (b_Less_sign (callN n)) os
    | 62 => bodyC 2 0 (b_Less_holds (callN n)) os
    | 63 => bodyC 1 0 (b_AtMost_sign (callN n)) os
    | 64 => bodyC 2 0 (b_AtMost_holds (callN n)) os
    | 65 => bodyC 2 0 (b_Equal_holds (callN n)) os
    | 66 => bodyC 1 0 (b_Unlike_sign (callN n)) os
    | 67 => bodyC 2 0 (b_Unlike_holds (callN n)) os
    | 68 => bodyC 3 0 (b_Both___init__ (callN n)) os
    | 69 => bodyC 2 0 (b_Both_holds (callN n)) os
    | 71 => bodyC 1 0 (b_Both_shown (callN n)) os
    | 72 => bodyC 3 0 (b_Either___init__ (callN n)) os
    | 73 => bodyC 2 0 (b_Either_holds (callN n)) os
    | 75 => bodyC 1 0 (b_Either_shown (callN n)) os
    | 76 => bodyC 2 0 (b_Not___init__ (callN n)) os
    | 77 => bodyC 2 0 (b_Not_holds (callN n)) os
    | 79 => bodyC 1 0 (b_Not_shown (callN n)) os
    | 121 => bodyC 1 0 (b__law_whole (callN n)) os
    | 122 => bodyC 2 0 (b__law_at (callN n)) os
    | 123 => bodyC 1 0 (b__law_begin (callN n)) os
    | 124 => bodyC 2 2 (b__law_draw_v2 (callN n)) os
    | 125 => bodyC 2 12 (b__law_names_v2 (callN n)) os
    | 126 => bodyC 4 3 (b__law_sum_v2 (callN n)) os
    | 128 => bodyC 1 2 (b__law_sum_of (callN n)) os
    | 132 => bodyC 2 0 (b_Change___init__ (callN n)) os
    | 134 => bodyC 3 0 (b_Put___init__ (callN n)) os
    | 136 => bodyC 4 0 (b_Any___init__ (callN n)) os
    | 143 => bodyC 1 0 (b_Change_shown (callN n)) os
    | 145 => bodyC 1 0 (b_Put_shown (callN n)) os
    | 147 => bodyC 1 0 (b_Any_shown (callN n)) os
    | 148 => bodyC 4 4 (b__law_saying_v2 (callN n)) os
    | 150 => bodyC 1 2 (b__law_saying_of (callN n)) os
    | 151 => bodyC 3 7 (b__law_places (callN n)) os
    | 152 => bodyC 3 3 (b__law_change (callN n)) os
    | 153 => bodyC 4 9 (b__law_deed (callN n)) os
    | 154 => bodyC 4 5 (b__law_machine (callN n)) os
    | 155 => bodyC 1 0 (b__law_change_of (callN n)) os
    | 156 => bodyC 1 2 (b__law_deed_of (callN n)) os
    | 160 => bodyC 2 5 (b__law_room_v2 (callN n)) os
    | 163 => bodyC 4 0 (b_Machine___init__ (callN n)) os
    | 164 => bodyC 1 4 (b_Machine_first (callN n)) os
    | 165 => bodyC 2 3 (b_Machine_values_in (callN n)) os
    | 168 => bodyC 4 0 (b_Deed___init__ (callN n)) os
    | 263 => bodyC 4 3 (b_values_of (callN n)) os
    | 264 => bodyC 5 0 (b_tied (callN n)) os
    | 292 => bodyC 4 0 (b_Tie___init__ (callN n)) os
    | 462 => bodyC 1 1 (b_all_alike (callN n)) os
    | 463 => bodyC 1 3 (b_own_tie (callN n)) os
    | 464 => bodyC 1 2 (b__law_text_v8 (callN n)) os
    | 465 => bodyC 4 3 (b__law_tie_right (callN n)) os
    | 466 => bodyC 1 20 (b_law_k62 (callN n)) os
    | _ => .stuck
structure Facts (W : Wd) (P : Program) (w : World) (mg : Str → Option Value) (base : Heap) (n : Nat) : Prop where
  m_bool : mg "bool" = none
  m_dict : mg "dict" = none
  m_int : mg "int" = none
  m_isinstance : mg "isinstance" = none
  m_len : mg "len" = none
  m_list : mg "list" = none
  m_range : mg "range" = none
  m_str : mg "str" = none
  m_tuple : mg "tuple" = none
  m_zip : mg "zip" = none
  f_values_of : FnAt W (callN n) P w mg base (2 * n) "values_of" 263 4
  f_tied : FnAt W (callN n) P w mg base (2 * n) "tied" 264 5
  f_all_alike : FnAt W (callN n) P w mg base (2 * n) "all_alike" 462 1
  f_own_tie : FnAt W (callN n) P w mg base (2 * n) "own_tie" 463 1
  f__law_whole : FnAt W (callN n) P w mg base (2 * n) "_law_whole" 121 1
  f__law_at : FnAt W (callN n) P w mg base (2 * n) "_law_at" 122 2
  f__law_begin : FnAt W (callN n) P w mg base (2 * n) "_law_begin" 123 1
  f__law_draw : FnAt W (callN n) P w mg base (2 * n) "_law_draw" 124 2
  f__law_names : FnAt W (callN n) P w mg base (2 * n) "_law_names" 125 2
  f__law_sum : FnAt W (callN n) P w mg base (2 * n) "_law_sum" 126 4
  f__law_sum_of : FnAt W (callN n) P w mg base (2 * n) "_law_sum_of" 128 1
  f__law_saying : FnAt W (callN n) P w mg base (2 * n) "_law_saying" 148 4
  f__law_saying_of : FnAt W (callN n) P w mg base (2 * n) "_law_saying_of" 150 1
  f__law_places : FnAt W (callN n) P w mg base (2 * n) "_law_places" 151 3
  f__law_change : FnAt W (callN n) P w mg base (2 * n) "_law_change" 152 3
  f__law_deed : FnAt W (callN n) P w mg base (2 * n) "_law_deed" 153 4
  f__law_machine : FnAt W (callN n) P w mg base (2 * n) "_law_machine" 154 4
  f__law_change_of : FnAt W (callN n) P w mg base (2 * n) "_law_change_of" 155 1
  f__law_deed_of : FnAt W (callN n) P w mg base (2 * n) "_law_deed_of" 156 1
  f__law_room : FnAt W (callN n) P w mg base (2 * n) "_law_room" 160 2
  f__law_text : FnAt W (callN n) P w mg base (2 * n) "_law_text" 464 1
  f__law_tie_right : FnAt W (callN n) P w mg base (2 * n) "_law_tie_right" 465 4
  f_law : FnAt W (callN n) P w mg base (2 * n) "law" 466 1
  k_Any : MakeAt W (callN n) P w mg base (2 * n) "Any" (Str.ofString "Any") 136 4
  k_AtMost : MakeAt W (callN n) P w mg base (2 * n) "AtMost" (Str.ofString "AtMost") 57 3
  k_Both : MakeAt W (callN n) P w mg base (2 * n) "Both" (Str.ofString "Both") 68 3
  k_Deed : MakeAt W (callN n) P w mg base (2 * n) "Deed" (Str.ofString "Deed") 168 4
  k_Either : MakeAt W (callN n) P w mg base (2 * n) "Either" (Str.ofString "Either") 72 3
  k_Equal : MakeAt W (callN n) P w mg base (2 * n) "Equal" (Str.ofString "Equal") 57 3
  k_Less : MakeAt W (callN n) P w mg base (2 * n) "Less" (Str.ofString "Less") 57 3
  k_Machine : MakeAt W (callN n) P w mg base (2 * n) "Machine" (Str.ofString "Machine") 163 4
  k_Minus : MakeAt W (callN n) P w mg base (2 * n) "Minus" (Str.ofString "Minus") 41 3
  k_Named : MakeAt W (callN n) P w mg base (2 * n) "Named" (Str.ofString "Named") 37 2
  k_Not : MakeAt W (callN n) P w mg base (2 * n) "Not" (Str.ofString "Not") 76 2
  k_Number : MakeAt W (callN n) P w mg base (2 * n) "Number" (Str.ofString "Number") 34 2
  k_Plus : MakeAt W (callN n) P w mg base (2 * n) "Plus" (Str.ofString "Plus") 41 3
  k_Put : MakeAt W (callN n) P w mg base (2 * n) "Put" (Str.ofString "Put") 134 3
  k_Tie : MakeAt W (callN n) P w mg base (2 * n) "Tie" (Str.ofString "Tie") 292 4
  k_Times : MakeAt W (callN n) P w mg base (2 * n) "Times" (Str.ofString "Times") 41 3
  k_Unlike : MakeAt W (callN n) P w mg base (2 * n) "Unlike" (Str.ofString "Unlike") 57 3
  i_Change___init__ : CInitAt W (callN n) P w mg base (2 * n) "Change" "__init__" 132 2
  k_Saying : NewAt W mg "Saying" (Str.ofString "Saying")
  e_Tie : ∃ u v, mg "Tie" = some u ∧ RelV v u ∧ ∀ H, RepF W H v (.cls (Str.ofString "Tie"))
  it {c d : Str} {b : Bool} : itOf ITl c d = some b → IsAt W c d b
  mt {a : Nat} {c m : Str} {fn : Nat} : mtOf MTl a c m = some fn → MethAt W (callN n) P w mg base (2 * n) c m fn a
  fld {c f : Str} : ftOf FTl c f = true → FldAt W c f
theorem c_values_of (n : Nat) (os : List O) : callN (n + 1) 263 os = bodyC 4 3 (b_values_of (callN n)) os := rfl
theorem c_tied (n : Nat) (os : List O) : callN (n + 1) 264 os = bodyC 5 0 (b_tied (callN n)) os := rfl
theorem c_all_alike (n : Nat) (os : List O) : callN (n + 1) 462 os = bodyC 1 1 (b_all_alike (callN n)) os := rfl
theorem c_own_tie (n : Nat) (os : List O) : callN (n + 1) 463 os = bodyC 1 3 (b_own_tie (callN n)) os := rfl
theorem c__law_whole (n : Nat) (os : List O) : callN (n + 1) 121 os = bodyC 1 0 (b__law_whole (callN n)) os := rfl
theorem c__law_at (n : Nat) (os : List O) : callN (n + 1) 122 os = bodyC 2 0 (b__law_at (callN n)) os := rfl
theorem c__law_begin (n : Nat) (os : List O) : callN (n + 1) 123 os = bodyC 1 0 (b__law_begin (callN n)) os := rfl
theorem c__law_draw_v2 (n : Nat) (os : List O) : callN (n + 1) 124 os = bodyC 2 2 (b__law_draw_v2 (callN n)) os := rfl
theorem c__law_names_v2 (n : Nat) (os : List O) : callN (n + 1) 125 os = bodyC 2 12 (b__law_names_v2 (callN n)) os := rfl
theorem c__law_sum_v2 (n : Nat) (os : List O) : callN (n + 1) 126 os = bodyC 4 3 (b__law_sum_v2 (callN n)) os := rfl
theorem c__law_sum_of (n : Nat) (os : List O) : callN (n + 1) 128 os = bodyC 1 2 (b__law_sum_of (callN n)) os := rfl
theorem c__law_saying_v2 (n : Nat) (os : List O) : callN (n + 1) 148 os = bodyC 4 4 (b__law_saying_v2 (callN n)) os := rfl
theorem c__law_saying_of (n : Nat) (os : List O) : callN (n + 1) 150 os = bodyC 1 2 (b__law_saying_of (callN n)) os := rfl
theorem c__law_places (n : Nat) (os : List O) : callN (n + 1) 151 os = bodyC 3 7 (b__law_places (callN n)) os := rfl
theorem c__law_change (n : Nat) (os : List O) : callN (n + 1) 152 os = bodyC 3 3 (b__law_change (callN n)) os := rfl
theorem c__law_deed (n : Nat) (os : List O) : callN (n + 1) 153 os = bodyC 4 9 (b__law_deed (callN n)) os := rfl
theorem c__law_machine (n : Nat) (os : List O) : callN (n + 1) 154 os = bodyC 4 5 (b__law_machine (callN n)) os := rfl
theorem c__law_change_of (n : Nat) (os : List O) : callN (n + 1) 155 os = bodyC 1 0 (b__law_change_of (callN n)) os := rfl
theorem c__law_deed_of (n : Nat) (os : List O) : callN (n + 1) 156 os = bodyC 1 2 (b__law_deed_of (callN n)) os := rfl
theorem c__law_room_v2 (n : Nat) (os : List O) : callN (n + 1) 160 os = bodyC 2 5 (b__law_room_v2 (callN n)) os := rfl
theorem c__law_text_v8 (n : Nat) (os : List O) : callN (n + 1) 464 os = bodyC 1 2 (b__law_text_v8 (callN n)) os := rfl
theorem c__law_tie_right (n : Nat) (os : List O) : callN (n + 1) 465 os = bodyC 4 3 (b__law_tie_right (callN n)) os := rfl
theorem c_law_k62 (n : Nat) (os : List O) : callN (n + 1) 466 os = bodyC 1 20 (b_law_k62 (callN n)) os := rfl
theorem c_Saying_holds (n : Nat) (os : List O) : callN (n + 1) 54 os = bodyC 2 0 (b_Saying_holds (callN n)) os := rfl
theorem c_Saying_shown (n : Nat) (os : List O) : callN (n + 1) 56 os = bodyC 1 0 (b_Saying_shown (callN n)) os := rfl
theorem c_Compared___init__ (n : Nat) (os : List O) : callN (n + 1) 57 os = bodyC 3 0 (b_Compared___init__ (callN n)) os := rfl
theorem c_Compared_sign (n : Nat) (os : List O) : callN (n + 1) 58 os = bodyC 1 0 (b_Compared_sign (callN n)) os := rfl
theorem c_Compared_shown (n : Nat) (os : List O) : callN (n + 1) 60 os = bodyC 1 0 (b_Compared_shown (callN n)) os := rfl
theorem c_Less_sign (n : Nat) (os : List O) : callN (n + 1) 61 os = bodyC 1 0 (b_Less_sign (callN n)) os := rfl
theorem c_Less_holds (n : Nat) (os : List O) : callN (n + 1) 62 os = bodyC 2 0 (b_Less_holds (callN n)) os := rfl
theorem c_AtMost_sign (n : Nat) (os : List O) : callN (n + 1) 63 os = bodyC 1 0 (b_AtMost_sign (callN n)) os := rfl
theorem c_AtMost_holds (n : Nat) (os : List O) : callN (n + 1) 64 os = bodyC 2 0 (b_AtMost_holds (callN n)) os := rfl
theorem c_Equal_holds (n : Nat) (os : List O) : callN (n + 1) 65 os = bodyC 2 0 (b_Equal_holds (callN n)) os := rfl
theorem c_Unlike_sign (n : Nat) (os : List O) : callN (n + 1) 66 os = bodyC 1 0 (b_Unlike_sign (callN n)) os := rfl
theorem c_Unlike_holds (n : Nat) (os : List O) : callN (n + 1) 67 os = bodyC 2 0 (b_Unlike_holds (callN n)) os := rfl
theorem c_Both___init__ (n : Nat) (os : List O) : callN (n + 1) 68 os = bodyC 3 0 (b_Both___init__ (callN n)) os := rfl
theorem c_Both_holds (n : Nat) (os : List O) : callN (n + 1) 69 os = bodyC 2 0 (b_Both_holds (callN n)) os := rfl
theorem c_Both_shown (n : Nat) (os : List O) : callN (n + 1) 71 os = bodyC 1 0 (b_Both_shown (callN n)) os := rfl
theorem c_Either___init__ (n : Nat) (os : List O) : callN (n + 1) 72 os = bodyC 3 0 (b_Either___init__ (callN n)) os := rfl
theorem c_Either_holds (n : Nat) (os : List O) : callN (n + 1) 73 os = bodyC 2 0 (b_Either_holds (callN n)) os := rfl
theorem c_Either_shown (n : Nat) (os : List O) : callN (n + 1) 75 os = bodyC 1 0 (b_Either_shown (callN n)) os := rfl
theorem c_Not___init__ (n : Nat) (os : List O) : callN (n + 1) 76 os = bodyC 2 0 (b_Not___init__ (callN n)) os := rfl
theorem c_Not_holds (n : Nat) (os : List O) : callN (n + 1) 77 os = bodyC 2 0 (b_Not_holds (callN n)) os := rfl
theorem c_Not_shown (n : Nat) (os : List O) : callN (n + 1) 79 os = bodyC 1 0 (b_Not_shown (callN n)) os := rfl
theorem c_Sum_worth (n : Nat) (os : List O) : callN (n + 1) 31 os = bodyC 2 0 (b_Sum_worth (callN n)) os := rfl
theorem c_Sum_shown (n : Nat) (os : List O) : callN (n + 1) 33 os = bodyC 1 0 (b_Sum_shown (callN n)) os := rfl
theorem c_Number___init__ (n : Nat) (os : List O) : callN (n + 1) 34 os = bodyC 2 0 (b_Number___init__ (callN n)) os := rfl
theorem c_Number_worth (n : Nat) (os : List O) : callN (n + 1) 35 os = bodyC 2 0 (b_Number_worth (callN n)) os := rfl
theorem c_Number_shown (n : Nat) (os : List O) : callN (n + 1) 36 os = bodyC 1 0 (b_Number_shown (callN n)) os := rfl
theorem c_Named___init__ (n : Nat) (os : List O) : callN (n + 1) 37 os = bodyC 2 0 (b_Named___init__ (callN n)) os := rfl
theorem c_Named_worth (n : Nat) (os : List O) : callN (n + 1) 38 os = bodyC 2 0 (b_Named_worth (callN n)) os := rfl
theorem c_Named_shown (n : Nat) (os : List O) : callN (n + 1) 40 os = bodyC 1 0 (b_Named_shown (callN n)) os := rfl
theorem c_Joined___init__ (n : Nat) (os : List O) : callN (n + 1) 41 os = bodyC 3 0 (b_Joined___init__ (callN n)) os := rfl
theorem c_Joined_sign (n : Nat) (os : List O) : callN (n + 1) 42 os = bodyC 1 0 (b_Joined_sign (callN n)) os := rfl
theorem c_Joined_shown (n : Nat) (os : List O) : callN (n + 1) 44 os = bodyC 1 0 (b_Joined_shown (callN n)) os := rfl
theorem c_Plus_worth (n : Nat) (os : List O) : callN (n + 1) 45 os = bodyC 2 0 (b_Plus_worth (callN n)) os := rfl
theorem c_Minus_sign (n : Nat) (os : List O) : callN (n + 1) 46 os = bodyC 1 0 (b_Minus_sign (callN n)) os := rfl
theorem c_Minus_worth (n : Nat) (os : List O) : callN (n + 1) 47 os = bodyC 2 0 (b_Minus_worth (callN n)) os := rfl
theorem c_Times_sign (n : Nat) (os : List O) : callN (n + 1) 48 os = bodyC 1 0 (b_Times_sign (callN n)) os := rfl
theorem c_Times_worth (n : Nat) (os : List O) : callN (n + 1) 49 os = bodyC 2 0 (b_Times_worth (callN n)) os := rfl
theorem c_Tie___init__ (n : Nat) (os : List O) : callN (n + 1) 292 os = bodyC 4 0 (b_Tie___init__ (callN n)) os := rfl
theorem c_Change___init__ (n : Nat) (os : List O) : callN (n + 1) 132 os = bodyC 2 0 (b_Change___init__ (callN n)) os := rfl
theorem c_Change_shown (n : Nat) (os : List O) : callN (n + 1) 143 os = bodyC 1 0 (b_Change_shown (callN n)) os := rfl
theorem c_Put___init__ (n : Nat) (os : List O) : callN (n + 1) 134 os = bodyC 3 0 (b_Put___init__ (callN n)) os := rfl
theorem c_Put_shown (n : Nat) (os : List O) : callN (n + 1) 145 os = bodyC 1 0 (b_Put_shown (callN n)) os := rfl
theorem c_Any___init__ (n : Nat) (os : List O) : callN (n + 1) 136 os = bodyC 4 0 (b_Any___init__ (callN n)) os := rfl
theorem c_Any_shown (n : Nat) (os : List O) : callN (n + 1) 147 os = bodyC 1 0 (b_Any_shown (callN n)) os := rfl
theorem c_Deed___init__ (n : Nat) (os : List O) : callN (n + 1) 168 os = bodyC 4 0 (b_Deed___init__ (callN n)) os := rfl
theorem c_Machine___init__ (n : Nat) (os : List O) : callN (n + 1) 163 os = bodyC 4 0 (b_Machine___init__ (callN n)) os := rfl
theorem c_Machine_first (n : Nat) (os : List O) : callN (n + 1) 164 os = bodyC 1 4 (b_Machine_first (callN n)) os := rfl
theorem c_Machine_values_in (n : Nat) (os : List O) : callN (n + 1) 165 os = bodyC 2 3 (b_Machine_values_in (callN n)) os := rfl
section
variable {W : Wd} {P : Program} {w : World} {mg : Str → Option Value} {base : Heap} {n : Nat}
theorem ok_values_of (Fc : Facts W P w mg base n) {f : Addr} {fd : FuncData} (F : Fun W.K "values_of" "values_of" st_values_of f fd) : FnOk P w W.K mg base (L2.CX P w) (2 * n + 2) f fd ["far", "near", "far_room", "room"] (spD W (callN (n + 1)) 263 4) :=
  def_ok (B := b_values_of (callN n)) F sc_values_of (fun _ => rfl) (by decide) fun cdv A outer s H Ek vs cx => by
    unfold b_values_of
    exact (sb_cons (ss_set (i := 4) (se_ty cr_dictO (sa_cons (se_meth cx.dn (fun c fn h => Fc.mt h) (se_nm 1 (pv 1)) (sa_cons (se_nm 3 (pv 3)) sa_nil)) sa_nil) fun a b => pe_callTy a (by rfl) Fc.m_dict (by decide +kernel) b) (fun h => ps_set (i := 4) cx.nd rfl (by first | exact .inl rfl | exact .inr rfl) h)) (sb_cons (ss_for (own := [5, 6]) cx po_of (si_items (se_meth cx.dn (fun c fn h => Fc.mt h) (se_nm 0 (pv 0)) (sa_cons (se_nm 2 (pv 2)) sa_nil))) (fun _ => (sg_tup cx (sgs_cons (sg_name 5 (pg_name (i := 5) cx.nd rfl (by first | exact .inl rfl | exact .inr rfl)) (by decide)) (sgs_cons (sg_name 6 (pg_name (i := 6) cx.nd rfl (by first | exact .inl rfl | exact .inr rfl)) (by decide)) sgs_nil)))) (fun _ => (sb_one (ss_st cx (se_nm 4 (pv 4)) (se_bin (op_addO cx.K) se_str (se_nm 5 (pv 5))) (se_nm 6 (pv 6)) (fun a b d e => ps_asg d (pg_sub a b e)))))) (sb_one (ss_ret (se_nm 4 (pv 4))))))
theorem ok_tied (Fc : Facts W P w mg base n) {f : Addr} {fd : FuncData} (F : Fun W.K "tied" "tied" st_tied f fd) : FnOk P w W.K mg base (L2.CX P w) (2 * n + 2) f fd ["far", "near", "tie", "far_room", "room"] (spD W (callN (n + 1)) 264 5) :=
  def_ok (B := b_tied (callN n)) F sc_tied (fun _ => rfl) (by decide) fun cdv A outer s H Ek vs cx => by
    unfold b_tied
    exact (sb_one (ss_ret (se_meth cx.dn (fun c fn h => Fc.mt h) (se_attr cx (fun c f h => Fc.fld h) (se_nm 2 (pv 2))) (sa_cons (se_call cx.dn Fc.f_values_of (sa_cons (se_nm 0 (pv 0)) (sa_cons (se_nm 1 (pv 1)) (sa_cons (se_nm 3 (pv 3)) (sa_cons (se_nm 4 (pv 4)) sa_nil)))) rfl (by rfl)) sa_nil))))
theorem ok_all_alike (Fc : Facts W P w mg base n) {f : Addr} {fd : FuncData} (F : Fun W.K "all_alike" "all_alike" st_all_alike f fd) : FnOk P w W.K mg base (L2.CX P w) (2 * n + 2) f fd ["names"] (spD W (callN (n + 1)) 462 1) :=
  def_ok (B := b_all_alike (callN n)) F sc_all_alike (fun _ => rfl) (by decide) fun cdv A outer s H Ek vs cx => by
    unfold b_all_alike
    exact (sb_cons (ss_if (st_cmp (op_eqO cx.K (hu64 cx)) (se_nm 0 (pv 0)) (se_lst sa_nil) (nomark _)) (sb_one (ss_ret (se_new cx Fc.k_Saying (by rfl)))) ss_nil) (sb_cons (ss_set (i := 1) (se_make cx Fc.k_Equal (sa_cons (se_make cx Fc.k_Named (sa_cons (se_bin (op_addO cx.K) se_str (se_ix cx (se_nm 0 (pv 0)) se_int)) sa_nil) (by rfl)) (sa_cons (se_make cx Fc.k_Named (sa_cons (se_ix cx (se_nm 0 (pv 0)) se_int) sa_nil) (by rfl)) sa_nil)) (by rfl)) (fun h => ps_set (i := 1) cx.nd rfl (by first | exact .inl rfl | exact .inr rfl) h)) (sb_cons (ss_if (st_cmp (op_eqO cx.K (hu64 cx)) (se_blt (cr_len cx.K) (by rfl) Fc.m_len PySem.boot_len (sa_cons (se_nm 0 (pv 0)) sa_nil) fun a b => pe_callB a (by rfl) Fc.m_len PySem.boot_len b) se_int (nomark _)) (sb_one (ss_ret (se_nm 1 (pv 1)))) ss_nil) (sb_one (ss_ret (se_make cx Fc.k_Both (sa_cons (se_nm 1 (pv 1)) (sa_cons (se_call cx.dn Fc.f_all_alike (sa_cons (se_slice cx (se_nm 0 (pv 0)) (so_some se_int) so_none) sa_nil) rfl (by rfl)) sa_nil)) (by rfl)))))))
theorem ok_own_tie (Fc : Facts W P w mg base n) {f : Addr} {fd : FuncData} (F : Fun W.K "own_tie" "own_tie" st_own_tie f fd) : FnOk P w W.K mg base (L2.CX P w) (2 * n + 2) f fd ["machine"] (spD W (callN (n + 1)) 463 1) :=
  def_ok (B := b_own_tie (callN n)) F sc_own_tie (fun _ => rfl) (by decide) fun cdv A outer s H Ek vs cx => by
    unfold b_own_tie
    exact (sb_cons (ss_setLc (i := 1) (own := [(Str.ofString "place", 2)]) cx rfl rfl (sw_true rfl rfl rfl (by decide +kernel)) (N' := N_own_tie) (sc' := defScope st_own_tie) rfl rfl (by decide +kernel) (si_seq cx (se_attr cx (fun c f h => Fc.fld h) (se_nm 0 (pv 0)))) (fun s1 H1 C1 cl1 fp1 => (sg_name 2 (pg_name (i := 2) (Ctx.blk cx s1 H1 _ _ fp1).nd rfl (by first | exact .inl rfl | exact .inr rfl)) (by decide))) (fun s1 H1 C1 cl1 fp1 => (se_ix (Ctx.blk cx s1 H1 _ _ fp1) (se_nm 2 (pv 2)) se_int))) (sb_one (ss_ret (se_make cx Fc.k_Tie (sa_cons (se_call cx.dn Fc.f_all_alike (sa_cons (se_nm 1 (pv 1)) sa_nil) rfl (by rfl)) (sa_cons (se_ty (cr_tupleO cx.K) (sa_cons (se_comp (own := [(Str.ofString "deed", 3)]) cx (N' := N_own_tie) (sc' := defScope st_own_tie) rfl rfl (by decide +kernel) (si_seq cx (se_attr cx (fun c f h => Fc.fld h) (se_nm 0 (pv 0)))) (fun s2 H2 C2 cl2 fp2 => (sg_name 3 (pg_name (i := 3) (Ctx.blk cx s2 H2 _ _ fp2).nd rfl (by first | exact .inl rfl | exact .inr rfl)) (by decide))) (fun s2 H2 C2 cl2 fp2 => (se_tup (sa_cons (se_attr (Ctx.blk cx s2 H2 _ _ fp2) (fun c f h => Fc.fld h) (se_nm 3 (pv 3))) (sa_cons (se_attr (Ctx.blk cx s2 H2 _ _ fp2) (fun c f h => Fc.fld h) (se_nm 3 (pv 3))) sa_nil))))) sa_nil) fun a b => pe_callTy a (by rfl) Fc.m_tuple (by decide +kernel) b) (sa_cons (se_make cx Fc.k_Number (sa_cons se_int sa_nil) (by rfl)) sa_nil))) (by rfl)))))
theorem ok__law_whole (Fc : Facts W P w mg base n) {f : Addr} {fd : FuncData} (F : Fun W.K "_law_whole" "_law_whole" st__law_whole f fd) : FnOk P w W.K mg base (L2.CX P w) (2 * n + 2) f fd ["found"] (spD W (callN (n + 1)) 121 1) :=
  def_ok (B := b__law_whole (callN n)) F sc__law_whole (fun _ => rfl) (by decide) fun cdv A outer s H Ek vs cx => by
    unfold b__law_whole
    exact (sb_one (ss_ret (se_and (se_blt (cr_isiO cx.K) (by rfl) Fc.m_isinstance (by decide +kernel) (sa_cons (se_nm 0 (pv 0)) (sa_cons (se_tyn (by rfl) Fc.m_int (by decide +kernel)) sa_nil)) fun a b => pe_callB a (by rfl) Fc.m_isinstance (by decide +kernel) b) (se_one (se_not (se_blt (cr_isiO cx.K) (by rfl) Fc.m_isinstance (by decide +kernel) (sa_cons (se_nm 0 (pv 0)) (sa_cons (se_tyn (by rfl) Fc.m_bool (by decide +kernel)) sa_nil)) fun a b => pe_callB a (by rfl) Fc.m_isinstance (by decide +kernel) b))))))
theorem ok__law_at (Fc : Facts W P w mg base n) {f : Addr} {fd : FuncData} (F : Fun W.K "_law_at" "_law_at" st__law_at f fd) : FnOk P w W.K mg base (L2.CX P w) (2 * n + 2) f fd ["script", "k"] (spD W (callN (n + 1)) 122 2) :=
  def_ok (B := b__law_at (callN n)) F sc__law_at (fun _ => rfl) (by decide) fun cdv A outer s H Ek vs cx => by
    unfold b__law_at
    exact (sb_cons (ss_if (st_cmp op_ltO (se_nm 1 (pv 1)) (se_blt (cr_len cx.K) (by rfl) Fc.m_len PySem.boot_len (sa_cons (se_nm 0 (pv 0)) sa_nil) fun a b => pe_callB a (by rfl) Fc.m_len PySem.boot_len b) (nomark _)) (sb_one (ss_ret (se_ix cx (se_nm 0 (pv 0)) (se_nm 1 (pv 1))))) ss_nil) (sb_one (ss_ret (se_bin op_modO (se_bin op_mulO (se_bin (op_addO cx.K) (se_bin op_modO (se_ix cx (se_bin (op_addO cx.K) (se_nm 0 (pv 0)) (se_lst (sa_cons se_int sa_nil))) se_int) se_int) se_int) (se_bin (op_addO cx.K) (se_bin op_mulO (se_nm 1 (pv 1)) (se_nm 1 (pv 1))) se_int)) se_int))))
theorem ok__law_begin (Fc : Facts W P w mg base n) {f : Addr} {fd : FuncData} (F : Fun W.K "_law_begin" "_law_begin" st__law_begin f fd) : FnOk P w W.K mg base (L2.CX P w) (2 * n + 2) f fd ["cell"] (spD W (callN (n + 1)) 123 1) :=
  def_ok (B := b__law_begin (callN n)) F sc__law_begin (fun _ => rfl) (by decide) fun cdv A outer s H Ek vs cx => by
    unfold b__law_begin
    exact (sb_one (ss_ret (se_lst (sa_cons (se_bin op_fdivO (se_nm 0 (pv 0)) se_int) (sa_cons (se_bin op_modO (se_nm 0 (pv 0)) se_int) sa_nil)))))
theorem ok__law_draw_v2 (Fc : Facts W P w mg base n) {f : Addr} {fd : FuncData} (F : Fun W.K "_law_draw" "_law_draw" st__law_draw_v2 f fd) : FnOk P w W.K mg base (L2.CX P w) (2 * n + 2) f fd ["state", "many"] (spD W (callN (n + 1)) 124 2) :=
  def_ok (B := b__law_draw_v2 (callN n)) F sc__law_draw_v2 (fun _ => rfl) (by decide) fun cdv A outer s H Ek vs cx => by
    unfold b__law_draw_v2
    exact (sb_cons (ss_if (st_cmp (op_eqO cx.K (hu64 cx)) (se_ix cx (se_nm 0 (pv 0)) se_int) se_int (nomark _)) (sb_cons (ss_set (i := 2) (se_bin op_modO (se_ix cx (se_nm 0 (pv 0)) se_int) (se_nm 1 (pv 1))) (fun h => ps_set (i := 2) cx.nd rfl (by first | exact .inl rfl | exact .inr rfl) h)) (sb_cons (ss_st cx (se_nm 0 (pv 0)) se_int (se_bin op_fdivO (se_ix cx (se_nm 0 (pv 0)) se_int) (se_nm 1 (pv 1))) (fun a b d e => ps_asg d (pg_sub a b e))) (sb_one (ss_ret (se_nm 2 (pv 2)))))) ss_nil) (sb_cons (ss_set (i := 3) (se_bin op_modO (se_bin (op_addO cx.K) (se_bin op_mulO (se_bin op_modO (se_ix cx (se_nm 0 (pv 0)) se_int) se_int) se_int) se_int) se_int) (fun h => ps_set (i := 3) cx.nd rfl (by first | exact .inl rfl | exact .inr rfl) h)) (sb_cons (ss_st cx (se_nm 0 (pv 0)) se_int (se_bin op_modO (se_bin (op_addO cx.K) (se_bin (op_addO cx.K) (se_bin op_mulO (se_nm 3 (pv 3)) se_int) (se_bin op_modO (se_bin op_fdivO (se_ix cx (se_nm 0 (pv 0)) se_int) se_int) se_int)) se_int) se_int) (fun a b d e => ps_asg d (pg_sub a b e))) (sb_one (ss_ret (se_bin op_modO (se_bin op_fdivO (se_bin op_modO (se_bin (op_addO cx.K) (se_bin op_mulO (se_ix cx (se_nm 0 (pv 0)) se_int) se_int) se_int) se_int) se_int) (se_nm 1 (pv 1))))))))
theorem ok__law_names_v2 (Fc : Facts W P w mg base n) {f : Addr} {fd : FuncData} (F : Fun W.K "_law_names" "_law_names" st__law_names_v2 f fd) : FnOk P w W.K mg base (L2.CX P w) (2 * n + 2) f fd ["cell", "many"] (spD W (callN (n + 1)) 125 2) :=
  def_ok (B := b__law_names_v2 (callN n)) F sc__law_names_v2 (fun _ => rfl) (by decide) fun cdv A outer s H Ek vs cx => by
    unfold b__law_names_v2
    exact (sb_cons (ss_set (i := 2) se_str (fun h => ps_set (i := 2) cx.nd rfl (by first | exact .inl rfl | exact .inr rfl) h)) (sb_cons (ss_set (i := 3) (se_call cx.dn Fc.f__law_begin (sa_cons (se_nm 0 (pv 0)) sa_nil) rfl (by rfl)) (fun h => ps_set (i := 3) cx.nd rfl (by first | exact .inl rfl | exact .inr rfl) h)) (sb_cons (ss_set (i := 4) (se_call cx.dn Fc.f__law_draw (sa_cons (se_nm 3 (pv 3)) (sa_cons se_int sa_nil)) rfl (by rfl)) (fun h => ps_set (i := 4) cx.nd rfl (by first | exact .inl rfl | exact .inr rfl) h)) (sb_cons (ss_set (i := 5) (se_call cx.dn Fc.f__law_draw (sa_cons (se_nm 3 (pv 3)) (sa_cons (se_bin (op_addO cx.K) (se_nm 4 (pv 4)) se_int) sa_nil)) rfl (by rfl)) (fun h => ps_set (i := 5) cx.nd rfl (by first | exact .inl rfl | exact .inr rfl) h)) (sb_cons (ss_set (i := 6) (se_call cx.dn Fc.f__law_draw (sa_cons (se_nm 3 (pv 3)) (sa_cons se_int sa_nil)) rfl (by rfl)) (fun h => ps_set (i := 6) cx.nd rfl (by first | exact .inl rfl | exact .inr rfl) h)) (sb_cons (ss_set (i := 7) (se_bin (op_addO cx.K) se_int (se_call cx.dn Fc.f__law_draw (sa_cons (se_nm 3 (pv 3)) (sa_cons se_int sa_nil)) rfl (by rfl))) (fun h => ps_set (i := 7) cx.nd rfl (by first | exact .inl rfl | exact .inr rfl) h)) (sb_cons (ss_set (i := 8) (se_bm cx (by decide) (mt_joinO cx.K) se_str (sa_cons (se_comp (own := [(Str.ofString "k", 10)]) cx (N' := N__law_names_v2) (sc' := defScope st__law_names_v2) rfl rfl (by decide +kernel) (si_range1 (by rfl) Fc.m_range (sa_cons (se_nm 4 (pv 4)) sa_nil)) (fun s1 H1 C1 cl1 fp1 => (sg_name 10 (pg_name (i := 10) (Ctx.blk cx s1 H1 _ _ fp1).nd rfl (by first | exact .inl rfl | exact .inr rfl)) (by decide))) (fun s1 H1 C1 cl1 fp1 => (se_ix (Ctx.blk cx s1 H1 _ _ fp1) (se_nm 2 (pv 2)) (se_call (Ctx.blk cx s1 H1 _ _ fp1).dn Fc.f__law_draw (sa_cons (se_nm 3 (pv 3)) (sa_cons se_int sa_nil)) rfl (by rfl))))) sa_nil) fun a b d => pe_bm PySem.F.plainAttrs_str PySem.F.slot_str_join PySem.F.type_str_join a b d) (fun h => ps_set (i := 8) cx.nd rfl (by first | exact .inl rfl | exact .inr rfl) h)) (sb_cons (ss_set (i := 9) (se_lst sa_nil) (fun h => ps_set (i := 9) cx.nd rfl (by first | exact .inl rfl | exact .inr rfl) h)) (sb_cons (ss_for (own := [10]) cx po_of (si_range1 (by rfl) Fc.m_range (sa_cons (se_nm 1 (pv 1)) sa_nil)) (fun _ => (sg_name 10 (pg_name (i := 10) cx.nd rfl (by first | exact .inl rfl | exact .inr rfl)) (by decide))) (fun _ => (sb_cons (ss_set (i := 11) (se_ix cx (se_nm 2 (pv 2)) (se_bin op_modO (se_bin (op_addO cx.K) (se_nm 6 (pv 6)) (se_bin op_mulO (se_nm 10 (pv 10)) (se_nm 7 (pv 7)))) se_int)) (fun h => ps_set (i := 11) cx.nd rfl (by first | exact .inl rfl | exact .inr rfl) h)) (sb_one (ss_expr (se_mut cx (by decide) mt_appO (se_nm 9 (pv 9)) (sa_cons (se_bin (op_addO cx.K) (se_bin (op_addO cx.K) (se_slice cx (se_nm 8 (pv 8)) so_none (so_some (se_nm 5 (pv 5)))) (se_nm 11 (pv 11))) (se_slice cx (se_nm 8 (pv 8)) (so_some (se_nm 5 (pv 5))) so_none)) sa_nil) fun a b d => pe_bm PySem.F.plainAttrs_list PySem.F.slot_list_append PySem.F.type_list_append a b d)))))) (sb_cons (ss_set (i := 12) (se_bm cx (by decide) mt_splitO se_str (sa_cons se_str sa_nil) fun a b d => pe_bm PySem.F.plainAttrs_str PySem.F.slot_str_split PySem.F.type_str_split a b d) (fun h => ps_set (i := 12) cx.nd rfl (by first | exact .inl rfl | exact .inr rfl) h)) (sb_cons (ss_if (st_cmp (op_neO cx.K (hu64 cx)) (se_compIf (own := [(Str.ofString "name", 13)]) cx (N' := N__law_names_v2) (sc' := defScope st__law_names_v2) rfl rfl (by decide +kernel) (si_seq cx (se_nm 9 (pv 9))) (fun s2 H2 C2 cl2 fp2 => (sg_name 13 (pg_name (i := 13) (Ctx.blk cx s2 H2 _ _ fp2).nd rfl (by first | exact .inl rfl | exact .inr rfl)) (by decide))) (fun s2 H2 C2 cl2 fp2 => (st_cmp (op_inO (Ctx.blk cx s2 H2 _ _ fp2).K (hu65 (Ctx.blk cx s2 H2 _ _ fp2))) (se_nm 13 (pv 13)) (se_nm 12 (pv 12)) (by rfl))) (fun s2 H2 C2 cl2 fp2 => (se_nm 13 (pv 13)))) (se_lst sa_nil) (nomark _)) (sb_one (ss_ret (se_comp (own := [(Str.ofString "k", 10)]) cx (N' := N__law_names_v2) (sc' := defScope st__law_names_v2) rfl rfl (by decide +kernel) (si_range1 (by rfl) Fc.m_range (sa_cons (se_nm 1 (pv 1)) sa_nil)) (fun s3 H3 C3 cl3 fp3 => (sg_name 10 (pg_name (i := 10) (Ctx.blk cx s3 H3 _ _ fp3).nd rfl (by first | exact .inl rfl | exact .inr rfl)) (by decide))) (fun s3 H3 C3 cl3 fp3 => (se_bin (op_addO (Ctx.blk cx s3 H3 _ _ fp3).K) se_str (se_ix (Ctx.blk cx s3 H3 _ _ fp3) (se_nm 2 (pv 2)) (se_bin op_modO (se_bin (op_addO (Ctx.blk cx s3 H3 _ _ fp3).K) (se_nm 6 (pv 6)) (se_nm 10 (pv 10))) se_int))))))) ss_nil) (sb_one (ss_ret (se_nm 9 (pv 9)))))))))))))))
theorem ok__law_sum_v2 (Fc : Facts W P w mg base n) {f : Addr} {fd : FuncData} (F : Fun W.K "_law_sum" "_law_sum" st__law_sum_v2 f fd) : FnOk P w W.K mg base (L2.CX P w) (2 * n + 2) f fd ["state", "names", "near", "depth"] (spD W (callN (n + 1)) 126 4) :=
  def_ok (B := b__law_sum_v2 (callN n)) F sc__law_sum_v2 (fun _ => rfl) (by decide) fun cdv A outer s H Ek vs cx => by
    unfold b__law_sum_v2
    exact (sb_cons (ss_set (i := 4) (se_call cx.dn Fc.f__law_draw (sa_cons (se_nm 0 (pv 0)) (sa_cons se_int sa_nil)) rfl (by rfl)) (fun h => ps_set (i := 4) cx.nd rfl (by first | exact .inl rfl | exact .inr rfl) h)) (sb_cons (ss_if (st_sw (sw_or (st_cmp (op_eqO cx.K (hu64 cx)) (se_nm 4 (pv 4)) se_int (nomark _)) (sw_or1 (st_cmp (op_eqO cx.K (hu64 cx)) (se_nm 1 (pv 1)) (se_lst sa_nil) (nomark _))))) (sb_one (ss_ret (se_tup (sa_cons se_str (sa_cons (se_bin op_modO (se_bin (op_addO cx.K) (se_nm 2 (pv 2)) (se_call cx.dn Fc.f__law_draw (sa_cons (se_nm 0 (pv 0)) (sa_cons se_int sa_nil)) rfl (by rfl))) se_int) sa_nil))))) ss_nil) (sb_cons (ss_if (st_cmp (op_eqO cx.K (hu64 cx)) (se_nm 4 (pv 4)) se_int (nomark _)) (sb_one (ss_ret (se_tup (sa_cons se_str (sa_cons (se_ix cx (se_nm 1 (pv 1)) (se_call cx.dn Fc.f__law_draw (sa_cons (se_nm 0 (pv 0)) (sa_cons (se_blt (cr_len cx.K) (by rfl) Fc.m_len PySem.boot_len (sa_cons (se_nm 1 (pv 1)) sa_nil) fun a b => pe_callB a (by rfl) Fc.m_len PySem.boot_len b) sa_nil)) rfl (by rfl))) sa_nil))))) ss_nil) (sb_cons (ss_if (st_cmp (op_eqO cx.K (hu64 cx)) (se_nm 4 (pv 4)) se_int (nomark _)) (sb_one (ss_ret (se_tup (sa_cons se_str (sa_cons (se_call cx.dn Fc.f__law_draw (sa_cons (se_nm 0 (pv 0)) (sa_cons se_int sa_nil)) rfl (by rfl)) sa_nil))))) ss_nil) (sb_cons (ss_set (i := 5) (se_ix cx (se_lst (sa_cons se_str (sa_cons se_str (sa_cons se_str sa_nil)))) (se_call cx.dn Fc.f__law_draw (sa_cons (se_nm 0 (pv 0)) (sa_cons se_int sa_nil)) rfl (by rfl))) (fun h => ps_set (i := 5) cx.nd rfl (by first | exact .inl rfl | exact .inr rfl) h)) (sb_cons (ss_if (st_sw (sw_or (st_cmp op_ltO (se_nm 4 (pv 4)) se_int (nomark _)) (sw_or1 (st_cmp (op_eqO cx.K (hu64 cx)) (se_nm 3 (pv 3)) se_int (nomark _))))) (sb_one (ss_ret (se_tup (sa_cons (se_nm 5 (pv 5)) (sa_cons (se_tup (sa_cons se_str (sa_cons (se_ix cx (se_nm 1 (pv 1)) (se_call cx.dn Fc.f__law_draw (sa_cons (se_nm 0 (pv 0)) (sa_cons (se_blt (cr_len cx.K) (by rfl) Fc.m_len PySem.boot_len (sa_cons (se_nm 1 (pv 1)) sa_nil) fun a b => pe_callB a (by rfl) Fc.m_len PySem.boot_len b) sa_nil)) rfl (by rfl))) sa_nil))) (sa_cons (se_tup (sa_cons se_str (sa_cons (se_call cx.dn Fc.f__law_draw (sa_cons (se_nm 0 (pv 0)) (sa_cons se_int sa_nil)) rfl (by rfl)) sa_nil))) sa_nil)))))) ss_nil) (sb_cons (ss_set (i := 6) (se_call cx.dn Fc.f__law_sum (sa_cons (se_nm 0 (pv 0)) (sa_cons (se_nm 1 (pv 1)) (sa_cons (se_nm 2 (pv 2)) (sa_cons (se_bin op_subO (se_nm 3 (pv 3)) se_int) sa_nil)))) rfl (by rfl)) (fun h => ps_set (i := 6) cx.nd rfl (by first | exact .inl rfl | exact .inr rfl) h)) (sb_one (ss_ret (se_tup (sa_cons (se_nm 5 (pv 5)) (sa_cons (se_nm 6 (pv 6)) (sa_cons (se_call cx.dn Fc.f__law_sum (sa_cons (se_nm 0 (pv 0)) (sa_cons (se_nm 1 (pv 1)) (sa_cons (se_nm 2 (pv 2)) (sa_cons (se_bin op_subO (se_nm 3 (pv 3)) se_int) sa_nil)))) rfl (by rfl)) sa_nil)))))))))))))
theorem ok__law_sum_of (Fc : Facts W P w mg base n) {f : Addr} {fd : FuncData} (F : Fun W.K "_law_sum_of" "_law_sum_of" st__law_sum_of f fd) : FnOk P w W.K mg base (L2.CX P w) (2 * n + 2) f fd ["one"] (spD W (callN (n + 1)) 128 1) :=
  def_ok (B := b__law_sum_of (callN n)) F sc__law_sum_of (fun _ => rfl) (by decide) fun cdv A outer s H Ek vs cx => by
    unfold b__law_sum_of
    exact (sb_cons (ss_if (st_cmp (op_eqO cx.K (hu64 cx)) (se_ix cx (se_nm 0 (pv 0)) se_int) se_str (nomark _)) (sb_one (ss_ret (se_make cx Fc.k_Number (sa_cons (se_ix cx (se_nm 0 (pv 0)) se_int) sa_nil) (by rfl)))) ss_nil) (sb_cons (ss_if (st_cmp (op_eqO cx.K (hu64 cx)) (se_ix cx (se_nm 0 (pv 0)) se_int) se_str (nomark _)) (sb_one (ss_ret (se_make cx Fc.k_Named (sa_cons (se_ix cx (se_nm 0 (pv 0)) se_int) sa_nil) (by rfl)))) ss_nil) (sb_cons (ss_set (i := 1) (se_call cx.dn Fc.f__law_sum_of (sa_cons (se_ix cx (se_nm 0 (pv 0)) se_int) sa_nil) rfl (by rfl)) (fun h => ps_set (i := 1) cx.nd rfl (by first | exact .inl rfl | exact .inr rfl) h)) (sb_cons (ss_set (i := 2) (se_call cx.dn Fc.f__law_sum_of (sa_cons (se_ix cx (se_nm 0 (pv 0)) se_int) sa_nil) rfl (by rfl)) (fun h => ps_set (i := 2) cx.nd rfl (by first | exact .inl rfl | exact .inr rfl) h)) (sb_cons (ss_if (st_cmp (op_eqO cx.K (hu64 cx)) (se_ix cx (se_nm 0 (pv 0)) se_int) se_str (nomark _)) (sb_one (ss_ret (se_make cx Fc.k_Plus (sa_cons (se_nm 1 (pv 1)) (sa_cons (se_nm 2 (pv 2)) sa_nil)) (by rfl)))) ss_nil) (sb_cons (ss_if (st_cmp (op_eqO cx.K (hu64 cx)) (se_ix cx (se_nm 0 (pv 0)) se_int) se_str (nomark _)) (sb_one (ss_ret (se_make cx Fc.k_Minus (sa_cons (se_nm 1 (pv 1)) (sa_cons (se_nm 2 (pv 2)) sa_nil)) (by rfl)))) ss_nil) (sb_one (ss_ret (se_make cx Fc.k_Times (sa_cons (se_nm 1 (pv 1)) (sa_cons (se_nm 2 (pv 2)) sa_nil)) (by rfl))))))))))
theorem ok__law_saying_v2 (Fc : Facts W P w mg base n) {f : Addr} {fd : FuncData} (F : Fun W.K "_law_saying" "_law_saying" st__law_saying_v2 f fd) : FnOk P w W.K mg base (L2.CX P w) (2 * n + 2) f fd ["state", "names", "near", "depth"] (spD W (callN (n + 1)) 148 4) :=
  def_ok (B := b__law_saying_v2 (callN n)) F sc__law_saying_v2 (fun _ => rfl) (by decide) fun cdv A outer s H Ek vs cx => by
    unfold b__law_saying_v2
    exact (sb_cons (ss_set (i := 4) (se_call cx.dn Fc.f__law_draw (sa_cons (se_nm 0 (pv 0)) (sa_cons se_int sa_nil)) rfl (by rfl)) (fun h => ps_set (i := 4) cx.nd rfl (by first | exact .inl rfl | exact .inr rfl) h)) (sb_cons (ss_if (st_cmp (op_eqO cx.K (hu64 cx)) (se_nm 4 (pv 4)) se_int (nomark _)) (sb_one (ss_ret (se_tup (sa_cons se_str sa_nil)))) ss_nil) (sb_cons (ss_if (st_sw (sw_or (st_cmp op_ltO (se_nm 4 (pv 4)) se_int (nomark _)) (sw_or1 (st_cmp (op_eqO cx.K (hu64 cx)) (se_nm 3 (pv 3)) se_int (nomark _))))) (sb_cons (ss_set (i := 5) (se_ix cx (se_lst (sa_cons se_str (sa_cons se_str (sa_cons se_str (sa_cons se_str sa_nil))))) (se_call cx.dn Fc.f__law_draw (sa_cons (se_nm 0 (pv 0)) (sa_cons se_int sa_nil)) rfl (by rfl))) (fun h => ps_set (i := 5) cx.nd rfl (by first | exact .inl rfl | exact .inr rfl) h)) (sb_cons (ss_set (i := 6) (se_call cx.dn Fc.f__law_sum (sa_cons (se_nm 0 (pv 0)) (sa_cons (se_nm 1 (pv 1)) (sa_cons (se_nm 2 (pv 2)) (sa_cons se_int sa_nil)))) rfl (by rfl)) (fun h => ps_set (i := 6) cx.nd rfl (by first | exact .inl rfl | exact .inr rfl) h)) (sb_one (ss_ret (se_tup (sa_cons (se_nm 5 (pv 5)) (sa_cons (se_nm 6 (pv 6)) (sa_cons (se_call cx.dn Fc.f__law_sum (sa_cons (se_nm 0 (pv 0)) (sa_cons (se_nm 1 (pv 1)) (sa_cons (se_nm 2 (pv 2)) (sa_cons se_int sa_nil)))) rfl (by rfl)) sa_nil)))))))) ss_nil) (sb_cons (ss_if (st_cmp (op_eqO cx.K (hu64 cx)) (se_nm 4 (pv 4)) se_int (nomark _)) (sb_one (ss_ret (se_tup (sa_cons se_str (sa_cons (se_call cx.dn Fc.f__law_saying (sa_cons (se_nm 0 (pv 0)) (sa_cons (se_nm 1 (pv 1)) (sa_cons (se_nm 2 (pv 2)) (sa_cons (se_bin op_subO (se_nm 3 (pv 3)) se_int) sa_nil)))) rfl (by rfl)) sa_nil))))) ss_nil) (sb_cons (ss_set (i := 7) (se_ix cx (se_lst (sa_cons se_str (sa_cons se_str sa_nil))) (se_call cx.dn Fc.f__law_draw (sa_cons (se_nm 0 (pv 0)) (sa_cons se_int sa_nil)) rfl (by rfl))) (fun h => ps_set (i := 7) cx.nd rfl (by first | exact .inl rfl | exact .inr rfl) h)) (sb_cons (ss_set (i := 6) (se_call cx.dn Fc.f__law_saying (sa_cons (se_nm 0 (pv 0)) (sa_cons (se_nm 1 (pv 1)) (sa_cons (se_nm 2 (pv 2)) (sa_cons (se_bin op_subO (se_nm 3 (pv 3)) se_int) sa_nil)))) rfl (by rfl)) (fun h => ps_set (i := 6) cx.nd rfl (by first | exact .inl rfl | exact .inr rfl) h)) (sb_one (ss_ret (se_tup (sa_cons (se_nm 7 (pv 7)) (sa_cons (se_nm 6 (pv 6)) (sa_cons (se_call cx.dn Fc.f__law_saying (sa_cons (se_nm 0 (pv 0)) (sa_cons (se_nm 1 (pv 1)) (sa_cons (se_nm 2 (pv 2)) (sa_cons (se_bin op_subO (se_nm 3 (pv 3)) se_int) sa_nil)))) rfl (by rfl)) sa_nil))))))))))))
theorem ok__law_saying_of (Fc : Facts W P w mg base n) {f : Addr} {fd : FuncData} (F : Fun W.K "_law_saying_of" "_law_saying_of" st__law_saying_of f fd) : FnOk P w W.K mg base (L2.CX P w) (2 * n + 2) f fd ["one"] (spD W (callN (n + 1)) 150 1) :=
  def_ok (B := b__law_saying_of (callN n)) F sc__law_saying_of (fun _ => rfl) (by decide) fun cdv A outer s H Ek vs cx => by
    unfold b__law_saying_of
    exact (sb_cons (ss_if (st_cmp (op_eqO cx.K (hu64 cx)) (se_ix cx (se_nm 0 (pv 0)) se_int) se_str (nomark _)) (sb_one (ss_ret (se_new cx Fc.k_Saying (by rfl)))) ss_nil) (sb_cons (ss_if (st_cmp (op_eqO cx.K (hu64 cx)) (se_ix cx (se_nm 0 (pv 0)) se_int) se_str (nomark _)) (sb_one (ss_ret (se_make cx Fc.k_Not (sa_cons (se_call cx.dn Fc.f__law_saying_of (sa_cons (se_ix cx (se_nm 0 (pv 0)) se_int) sa_nil) rfl (by rfl)) sa_nil) (by rfl)))) ss_nil) (sb_cons (ss_if (st_cmp (op_eqO cx.K (hu64 cx)) (se_ix cx (se_nm 0 (pv 0)) se_int) se_str (nomark _)) (sb_one (ss_ret (se_make cx Fc.k_Both (sa_cons (se_call cx.dn Fc.f__law_saying_of (sa_cons (se_ix cx (se_nm 0 (pv 0)) se_int) sa_nil) rfl (by rfl)) (sa_cons (se_call cx.dn Fc.f__law_saying_of (sa_cons (se_ix cx (se_nm 0 (pv 0)) se_int) sa_nil) rfl (by rfl)) sa_nil)) (by rfl)))) ss_nil) (sb_cons (ss_if (st_cmp (op_eqO cx.K (hu64 cx)) (se_ix cx (se_nm 0 (pv 0)) se_int) se_str (nomark _)) (sb_one (ss_ret (se_make cx Fc.k_Either (sa_cons (se_call cx.dn Fc.f__law_saying_of (sa_cons (se_ix cx (se_nm 0 (pv 0)) se_int) sa_nil) rfl (by rfl)) (sa_cons (se_call cx.dn Fc.f__law_saying_of (sa_cons (se_ix cx (se_nm 0 (pv 0)) se_int) sa_nil) rfl (by rfl)) sa_nil)) (by rfl)))) ss_nil) (sb_cons (ss_set (i := 1) (se_call cx.dn Fc.f__law_sum_of (sa_cons (se_ix cx (se_nm 0 (pv 0)) se_int) sa_nil) rfl (by rfl)) (fun h => ps_set (i := 1) cx.nd rfl (by first | exact .inl rfl | exact .inr rfl) h)) (sb_cons (ss_set (i := 2) (se_call cx.dn Fc.f__law_sum_of (sa_cons (se_ix cx (se_nm 0 (pv 0)) se_int) sa_nil) rfl (by rfl)) (fun h => ps_set (i := 2) cx.nd rfl (by first | exact .inl rfl | exact .inr rfl) h)) (sb_cons (ss_if (st_cmp (op_eqO cx.K (hu64 cx)) (se_ix cx (se_nm 0 (pv 0)) se_int) se_str (nomark _)) (sb_one (ss_ret (se_make cx Fc.k_Less (sa_cons (se_nm 1 (pv 1)) (sa_cons (se_nm 2 (pv 2)) sa_nil)) (by rfl)))) ss_nil) (sb_cons (ss_if (st_cmp (op_eqO cx.K (hu64 cx)) (se_ix cx (se_nm 0 (pv 0)) se_int) se_str (nomark _)) (sb_one (ss_ret (se_make cx Fc.k_AtMost (sa_cons (se_nm 1 (pv 1)) (sa_cons (se_nm 2 (pv 2)) sa_nil)) (by rfl)))) ss_nil) (sb_cons (ss_if (st_cmp (op_eqO cx.K (hu64 cx)) (se_ix cx (se_nm 0 (pv 0)) se_int) se_str (nomark _)) (sb_one (ss_ret (se_make cx Fc.k_Equal (sa_cons (se_nm 1 (pv 1)) (sa_cons (se_nm 2 (pv 2)) sa_nil)) (by rfl)))) ss_nil) (sb_one (ss_ret (se_make cx Fc.k_Unlike (sa_cons (se_nm 1 (pv 1)) (sa_cons (se_nm 2 (pv 2)) sa_nil)) (by rfl)))))))))))))
theorem ok__law_places (Fc : Facts W P w mg base n) {f : Addr} {fd : FuncData} (F : Fun W.K "_law_places" "_law_places" st__law_places f fd) : FnOk P w W.K mg base (L2.CX P w) (2 * n + 2) f fd ["script", "start", "names"] (spD W (callN (n + 1)) 151 3) :=
  def_ok (B := b__law_places (callN n)) F sc__law_places (fun _ => rfl) (by decide) fun cdv A outer s H Ek vs cx => by
    unfold b__law_places
    exact (sb_cons (ss_set (i := 3) (se_lst sa_nil) (fun h => ps_set (i := 3) cx.nd rfl (by first | exact .inl rfl | exact .inr rfl) h)) (sb_cons (ss_for (own := [4]) cx po_of (si_range1 (by rfl) Fc.m_range (sa_cons (se_blt (cr_len cx.K) (by rfl) Fc.m_len PySem.boot_len (sa_cons (se_nm 2 (pv 2)) sa_nil) fun a b => pe_callB a (by rfl) Fc.m_len PySem.boot_len b) sa_nil)) (fun _ => (sg_name 4 (pg_name (i := 4) cx.nd rfl (by first | exact .inl rfl | exact .inr rfl)) (by decide))) (fun _ => (sb_cons (ss_set (i := 5) (se_call cx.dn Fc.f__law_begin (sa_cons (se_call cx.dn Fc.f__law_at (sa_cons (se_nm 0 (pv 0)) (sa_cons (se_bin (op_addO cx.K) (se_nm 1 (pv 1)) (se_nm 4 (pv 4))) sa_nil)) rfl (by rfl)) sa_nil) rfl (by rfl)) (fun h => ps_set (i := 5) cx.nd rfl (by first | exact .inl rfl | exact .inr rfl) h)) (sb_cons (ss_set (i := 6) (se_call cx.dn Fc.f__law_draw (sa_cons (se_nm 5 (pv 5)) (sa_cons se_int sa_nil)) rfl (by rfl)) (fun h => ps_set (i := 6) cx.nd rfl (by first | exact .inl rfl | exact .inr rfl) h)) (sb_cons (ss_set (i := 7) (se_call cx.dn Fc.f__law_draw (sa_cons (se_nm 5 (pv 5)) (sa_cons se_int sa_nil)) rfl (by rfl)) (fun h => ps_set (i := 7) cx.nd rfl (by first | exact .inl rfl | exact .inr rfl) h)) (sb_cons (ss_set (i := 8) (se_call cx.dn Fc.f__law_draw (sa_cons (se_nm 5 (pv 5)) (sa_cons (se_bin (op_addO cx.K) (se_nm 7 (pv 7)) se_int) sa_nil)) rfl (by rfl)) (fun h => ps_set (i := 8) cx.nd rfl (by first | exact .inl rfl | exact .inr rfl) h)) (sb_cons (ss_set (i := 9) (se_bin op_mulO (se_nm 6 (pv 6)) (se_call cx.dn Fc.f__law_draw (sa_cons (se_nm 5 (pv 5)) (sa_cons se_int sa_nil)) rfl (by rfl))) (fun h => ps_set (i := 9) cx.nd rfl (by first | exact .inl rfl | exact .inr rfl) h)) (sb_one (ss_expr (se_mut cx (by decide) mt_appO (se_nm 3 (pv 3)) (sa_cons (se_tup (sa_cons (se_ix cx (se_nm 2 (pv 2)) (se_nm 4 (pv 4))) (sa_cons (se_nm 9 (pv 9)) (sa_cons (se_bin (op_addO cx.K) (se_nm 9 (pv 9)) (se_nm 7 (pv 7))) (sa_cons (se_bin (op_addO cx.K) (se_nm 9 (pv 9)) (se_nm 8 (pv 8))) sa_nil))))) sa_nil) fun a b d => pe_bm PySem.F.plainAttrs_list PySem.F.slot_list_append PySem.F.type_list_append a b d)))))))))) (sb_one (ss_ret (se_nm 3 (pv 3))))))
theorem ok__law_change (Fc : Facts W P w mg base n) {f : Addr} {fd : FuncData} (F : Fun W.K "_law_change" "_law_change" st__law_change f fd) : FnOk P w W.K mg base (L2.CX P w) (2 * n + 2) f fd ["cell", "place", "names"] (spD W (callN (n + 1)) 152 3) :=
  def_ok (B := b__law_change (callN n)) F sc__law_change (fun _ => rfl) (by decide) fun cdv A outer s H Ek vs cx => by
    unfold b__law_change
    exact (sb_cons (ss_set (i := 3) (se_call cx.dn Fc.f__law_begin (sa_cons (se_nm 0 (pv 0)) sa_nil) rfl (by rfl)) (fun h => ps_set (i := 3) cx.nd rfl (by first | exact .inl rfl | exact .inr rfl) h)) (sb_cons (ss_set (i := 4) (se_call cx.dn Fc.f__law_draw (sa_cons (se_nm 3 (pv 3)) (sa_cons se_int sa_nil)) rfl (by rfl)) (fun h => ps_set (i := 4) cx.nd rfl (by first | exact .inl rfl | exact .inr rfl) h)) (sb_cons (ss_set (i := 5) (se_call cx.dn Fc.f__law_sum (sa_cons (se_nm 3 (pv 3)) (sa_cons (se_nm 2 (pv 2)) (sa_cons (se_ix cx (se_nm 1 (pv 1)) se_int) (sa_cons se_int sa_nil)))) rfl (by rfl)) (fun h => ps_set (i := 5) cx.nd rfl (by first | exact .inl rfl | exact .inr rfl) h)) (sb_cons (ss_if (st_cmp (op_eqO cx.K (hu64 cx)) (se_nm 4 (pv 4)) se_int (nomark _)) (sb_one (ss_ret (se_tup (sa_cons (se_ix cx (se_nm 1 (pv 1)) se_int) (sa_cons (se_nm 5 (pv 5)) (sa_cons (se_call cx.dn Fc.f__law_sum (sa_cons (se_nm 3 (pv 3)) (sa_cons (se_nm 2 (pv 2)) (sa_cons (se_bin (op_addO cx.K) (se_ix cx (se_nm 1 (pv 1)) se_int) se_int) (sa_cons se_int sa_nil)))) rfl (by rfl)) sa_nil)))))) ss_nil) (sb_one (ss_ret (se_tup (sa_cons (se_ix cx (se_nm 1 (pv 1)) se_int) (sa_cons (se_nm 5 (pv 5)) sa_nil)))))))))
theorem ok__law_deed (Fc : Facts W P w mg base n) {f : Addr} {fd : FuncData} (F : Fun W.K "_law_deed" "_law_deed" st__law_deed f fd) : FnOk P w W.K mg base (L2.CX P w) (2 * n + 2) f fd ["script", "start", "called", "places"] (spD W (callN (n + 1)) 153 4) :=
  def_ok (B := b__law_deed (callN n)) F sc__law_deed (fun _ => rfl) (by decide) fun cdv A outer s H Ek vs cx => by
    unfold b__law_deed
    exact (sb_cons (ss_setLc (i := 4) (own := [(Str.ofString "place", 12)]) cx rfl rfl (sw_true rfl rfl rfl (by decide +kernel)) (N' := N__law_deed) (sc' := defScope st__law_deed) rfl rfl (by decide +kernel) (si_seq cx (se_nm 3 (pv 3))) (fun s1 H1 C1 cl1 fp1 => (sg_name 12 (pg_name (i := 12) (Ctx.blk cx s1 H1 _ _ fp1).nd rfl (by first | exact .inl rfl | exact .inr rfl)) (by decide))) (fun s1 H1 C1 cl1 fp1 => (se_ix (Ctx.blk cx s1 H1 _ _ fp1) (se_nm 12 (pv 12)) se_int))) (sb_cons (ss_set (i := 5) se_int (fun h => ps_set (i := 5) cx.nd rfl (by first | exact .inl rfl | exact .inr rfl) h)) (sb_cons (ss_if (st_cmp (op_neO cx.K (hu64 cx)) (se_nm 3 (pv 3)) (se_lst sa_nil) (nomark _)) (sb_one (ss_set (i := 5) (se_ix cx (se_ix cx (se_nm 3 (pv 3)) se_int) se_int) (fun h => ps_set (i := 5) cx.nd rfl (by first | exact .inl rfl | exact .inr rfl) h))) ss_nil) (sb_cons (ss_set (i := 6) (se_call cx.dn Fc.f__law_saying (sa_cons (se_call cx.dn Fc.f__law_begin (sa_cons (se_call cx.dn Fc.f__law_at (sa_cons (se_nm 0 (pv 0)) (sa_cons (se_nm 1 (pv 1)) sa_nil)) rfl (by rfl)) sa_nil) rfl (by rfl)) (sa_cons (se_nm 4 (pv 4)) (sa_cons (se_nm 5 (pv 5)) (sa_cons se_int sa_nil)))) rfl (by rfl)) (fun h => ps_set (i := 6) cx.nd rfl (by first | exact .inl rfl | exact .inr rfl) h)) (sb_cons (ss_set (i := 7) (se_call cx.dn Fc.f__law_begin (sa_cons (se_call cx.dn Fc.f__law_at (sa_cons (se_nm 0 (pv 0)) (sa_cons (se_bin (op_addO cx.K) (se_nm 1 (pv 1)) se_int) sa_nil)) rfl (by rfl)) sa_nil) rfl (by rfl)) (fun h => ps_set (i := 7) cx.nd rfl (by first | exact .inl rfl | exact .inr rfl) h)) (sb_cons (ss_set (i := 8) (se_call cx.dn Fc.f__law_draw (sa_cons (se_nm 7 (pv 7)) (sa_cons (se_bin (op_addO cx.K) (se_blt (cr_len cx.K) (by rfl) Fc.m_len PySem.boot_len (sa_cons (se_nm 3 (pv 3)) sa_nil) fun a b => pe_callB a (by rfl) Fc.m_len PySem.boot_len b) se_int) sa_nil)) rfl (by rfl)) (fun h => ps_set (i := 8) cx.nd rfl (by first | exact .inl rfl | exact .inr rfl) h)) (sb_cons (ss_set (i := 9) (se_call cx.dn Fc.f__law_draw (sa_cons (se_nm 7 (pv 7)) (sa_cons se_int sa_nil)) rfl (by rfl)) (fun h => ps_set (i := 9) cx.nd rfl (by first | exact .inl rfl | exact .inr rfl) h)) (sb_cons (ss_set (i := 10) (se_lst sa_nil) (fun h => ps_set (i := 10) cx.nd rfl (by first | exact .inl rfl | exact .inr rfl) h)) (sb_cons (ss_for (own := [11]) cx po_of (si_range1 (by rfl) Fc.m_range (sa_cons (se_nm 8 (pv 8)) sa_nil)) (fun _ => (sg_name 11 (pg_name (i := 11) cx.nd rfl (by first | exact .inl rfl | exact .inr rfl)) (by decide))) (fun _ => (sb_cons (ss_set (i := 12) (se_ix cx (se_nm 3 (pv 3)) (se_bin op_modO (se_bin (op_addO cx.K) (se_nm 9 (pv 9)) (se_nm 11 (pv 11))) (se_blt (cr_len cx.K) (by rfl) Fc.m_len PySem.boot_len (sa_cons (se_nm 3 (pv 3)) sa_nil) fun a b => pe_callB a (by rfl) Fc.m_len PySem.boot_len b))) (fun h => ps_set (i := 12) cx.nd rfl (by first | exact .inl rfl | exact .inr rfl) h)) (sb_one (ss_expr (se_mut cx (by decide) mt_appO (se_nm 10 (pv 10)) (sa_cons (se_call cx.dn Fc.f__law_change (sa_cons (se_call cx.dn Fc.f__law_at (sa_cons (se_nm 0 (pv 0)) (sa_cons (se_bin (op_addO cx.K) (se_bin (op_addO cx.K) (se_nm 1 (pv 1)) se_int) (se_nm 11 (pv 11))) sa_nil)) rfl (by rfl)) (sa_cons (se_nm 12 (pv 12)) (sa_cons (se_nm 4 (pv 4)) sa_nil))) rfl (by rfl)) sa_nil) fun a b d => pe_bm PySem.F.plainAttrs_list PySem.F.slot_list_append PySem.F.type_list_append a b d)))))) (sb_one (ss_ret (se_tup (sa_cons (se_nm 2 (pv 2)) (sa_cons (se_nm 6 (pv 6)) (sa_cons (se_ty (cr_tupleO cx.K) (sa_cons (se_nm 10 (pv 10)) sa_nil) fun a b => pe_callTy a (by rfl) Fc.m_tuple (by decide +kernel) b) sa_nil)))))))))))))))
theorem ok__law_machine (Fc : Facts W P w mg base n) {f : Addr} {fd : FuncData} (F : Fun W.K "_law_machine" "_law_machine" st__law_machine f fd) : FnOk P w W.K mg base (L2.CX P w) (2 * n + 2) f fd ["script", "start", "many_names", "many_deeds"] (spD W (callN (n + 1)) 154 4) :=
  def_ok (B := b__law_machine (callN n)) F sc__law_machine (fun _ => rfl) (by decide) fun cdv A outer s H Ek vs cx => by
    unfold b__law_machine
    exact (sb_cons (ss_set (i := 4) (se_call cx.dn Fc.f__law_names (sa_cons (se_call cx.dn Fc.f__law_at (sa_cons (se_nm 0 (pv 0)) (sa_cons (se_nm 1 (pv 1)) sa_nil)) rfl (by rfl)) (sa_cons (se_nm 2 (pv 2)) sa_nil)) rfl (by rfl)) (fun h => ps_set (i := 4) cx.nd rfl (by first | exact .inl rfl | exact .inr rfl) h)) (sb_cons (ss_set (i := 5) (se_call cx.dn Fc.f__law_places (sa_cons (se_nm 0 (pv 0)) (sa_cons (se_bin (op_addO cx.K) (se_nm 1 (pv 1)) se_int) (sa_cons (se_nm 4 (pv 4)) sa_nil))) rfl (by rfl)) (fun h => ps_set (i := 5) cx.nd rfl (by first | exact .inl rfl | exact .inr rfl) h)) (sb_cons (ss_set (i := 6) (se_call cx.dn Fc.f__law_names (sa_cons (se_call cx.dn Fc.f__law_at (sa_cons (se_nm 0 (pv 0)) (sa_cons (se_bin (op_addO cx.K) (se_nm 1 (pv 1)) se_int) sa_nil)) rfl (by rfl)) (sa_cons (se_nm 3 (pv 3)) sa_nil)) rfl (by rfl)) (fun h => ps_set (i := 6) cx.nd rfl (by first | exact .inl rfl | exact .inr rfl) h)) (sb_cons (ss_set (i := 7) (se_lst sa_nil) (fun h => ps_set (i := 7) cx.nd rfl (by first | exact .inl rfl | exact .inr rfl) h)) (sb_cons (ss_for (own := [8]) cx po_of (si_range1 (by rfl) Fc.m_range (sa_cons (se_nm 3 (pv 3)) sa_nil)) (fun _ => (sg_name 8 (pg_name (i := 8) cx.nd rfl (by first | exact .inl rfl | exact .inr rfl)) (by decide))) (fun _ => (sb_one (ss_expr (se_mut cx (by decide) mt_appO (se_nm 7 (pv 7)) (sa_cons (se_call cx.dn Fc.f__law_deed (sa_cons (se_nm 0 (pv 0)) (sa_cons (se_bin (op_addO cx.K) (se_bin (op_addO cx.K) (se_nm 1 (pv 1)) se_int) (se_bin op_mulO se_int (se_nm 8 (pv 8)))) (sa_cons (se_ix cx (se_nm 6 (pv 6)) (se_nm 8 (pv 8))) (sa_cons (se_nm 5 (pv 5)) sa_nil)))) rfl (by rfl)) sa_nil) fun a b d => pe_bm PySem.F.plainAttrs_list PySem.F.slot_list_append PySem.F.type_list_append a b d))))) (sb_one (ss_ret (se_tup (sa_cons (se_ty (cr_tupleO cx.K) (sa_cons (se_nm 5 (pv 5)) sa_nil) fun a b => pe_callTy a (by rfl) Fc.m_tuple (by decide +kernel) b) (sa_cons (se_ty (cr_tupleO cx.K) (sa_cons (se_nm 7 (pv 7)) sa_nil) fun a b => pe_callTy a (by rfl) Fc.m_tuple (by decide +kernel) b) sa_nil))))))))))
theorem ok__law_change_of (Fc : Facts W P w mg base n) {f : Addr} {fd : FuncData} (F : Fun W.K "_law_change_of" "_law_change_of" st__law_change_of f fd) : FnOk P w W.K mg base (L2.CX P w) (2 * n + 2) f fd ["change"] (spD W (callN (n + 1)) 155 1) :=
  def_ok (B := b__law_change_of (callN n)) F sc__law_change_of (fun _ => rfl) (by decide) fun cdv A outer s H Ek vs cx => by
    unfold b__law_change_of
    exact (sb_cons (ss_if (st_cmp (op_eqO cx.K (hu64 cx)) (se_blt (cr_len cx.K) (by rfl) Fc.m_len PySem.boot_len (sa_cons (se_nm 0 (pv 0)) sa_nil) fun a b => pe_callB a (by rfl) Fc.m_len PySem.boot_len b) se_int (nomark _)) (sb_one (ss_ret (se_make cx Fc.k_Any (sa_cons (se_ix cx (se_nm 0 (pv 0)) se_int) (sa_cons (se_call cx.dn Fc.f__law_sum_of (sa_cons (se_ix cx (se_nm 0 (pv 0)) se_int) sa_nil) rfl (by rfl)) (sa_cons (se_call cx.dn Fc.f__law_sum_of (sa_cons (se_ix cx (se_nm 0 (pv 0)) se_int) sa_nil) rfl (by rfl)) sa_nil))) (by rfl)))) ss_nil) (sb_one (ss_ret (se_make cx Fc.k_Put (sa_cons (se_ix cx (se_nm 0 (pv 0)) se_int) (sa_cons (se_call cx.dn Fc.f__law_sum_of (sa_cons (se_ix cx (se_nm 0 (pv 0)) se_int) sa_nil) rfl (by rfl)) sa_nil)) (by rfl)))))
theorem ok__law_deed_of (Fc : Facts W P w mg base n) {f : Addr} {fd : FuncData} (F : Fun W.K "_law_deed_of" "_law_deed_of" st__law_deed_of f fd) : FnOk P w W.K mg base (L2.CX P w) (2 * n + 2) f fd ["deed"] (spD W (callN (n + 1)) 156 1) :=
  def_ok (B := b__law_deed_of (callN n)) F sc__law_deed_of (fun _ => rfl) (by decide) fun cdv A outer s H Ek vs cx => by
    unfold b__law_deed_of
    exact (sb_cons (ss_set (i := 1) (se_ty (cr_tupleO cx.K) (sa_cons (se_comp (own := [(Str.ofString "change", 2)]) cx (N' := N__law_deed_of) (sc' := defScope st__law_deed_of) rfl rfl (by decide +kernel) (si_seq cx (se_ix cx (se_nm 0 (pv 0)) se_int)) (fun s1 H1 C1 cl1 fp1 => (sg_name 2 (pg_name (i := 2) (Ctx.blk cx s1 H1 _ _ fp1).nd rfl (by first | exact .inl rfl | exact .inr rfl)) (by decide))) (fun s1 H1 C1 cl1 fp1 => (se_call (Ctx.blk cx s1 H1 _ _ fp1).dn Fc.f__law_change_of (sa_cons (se_nm 2 (pv 2)) sa_nil) rfl (by rfl)))) sa_nil) fun a b => pe_callTy a (by rfl) Fc.m_tuple (by decide +kernel) b) (fun h => ps_set (i := 1) cx.nd rfl (by first | exact .inl rfl | exact .inr rfl) h)) (sb_one (ss_ret (se_make cx Fc.k_Deed (sa_cons (se_ix cx (se_nm 0 (pv 0)) se_int) (sa_cons (se_call cx.dn Fc.f__law_saying_of (sa_cons (se_ix cx (se_nm 0 (pv 0)) se_int) sa_nil) rfl (by rfl)) (sa_cons (se_nm 1 (pv 1)) sa_nil))) (by rfl)))))
theorem ok__law_room_v2 (Fc : Facts W P w mg base n) {f : Addr} {fd : FuncData} (F : Fun W.K "_law_room" "_law_room" st__law_room_v2 f fd) : FnOk P w W.K mg base (L2.CX P w) (2 * n + 2) f fd ["places", "cell"] (spD W (callN (n + 1)) 160 2) :=
  def_ok (B := b__law_room_v2 (callN n)) F sc__law_room_v2 (fun _ => rfl) (by decide) fun cdv A outer s H Ek vs cx => by
    unfold b__law_room_v2
    exact (sb_cons (ss_set (i := 2) (se_call cx.dn Fc.f__law_begin (sa_cons (se_nm 1 (pv 1)) sa_nil) rfl (by rfl)) (fun h => ps_set (i := 2) cx.nd rfl (by first | exact .inl rfl | exact .inr rfl) h)) (sb_one (ss_ret (se_ty (cr_tupleO cx.K) (sa_cons (se_comp (own := [(Str.ofString "name", 3), (Str.ofString "low", 4), (Str.ofString "high", 5), (Str.ofString "start", 6)]) cx (N' := N__law_room_v2) (sc' := defScope st__law_room_v2) rfl rfl (by decide +kernel) (si_seq cx (se_nm 0 (pv 0))) (fun s1 H1 C1 cl1 fp1 => (sg_tup (Ctx.blk cx s1 H1 _ _ fp1) (sgs_cons (sg_name 3 (pg_name (i := 3) (Ctx.blk cx s1 H1 _ _ fp1).nd rfl (by first | exact .inl rfl | exact .inr rfl)) (by decide)) (sgs_cons (sg_name 4 (pg_name (i := 4) (Ctx.blk cx s1 H1 _ _ fp1).nd rfl (by first | exact .inl rfl | exact .inr rfl)) (by decide)) (sgs_cons (sg_name 5 (pg_name (i := 5) (Ctx.blk cx s1 H1 _ _ fp1).nd rfl (by first | exact .inl rfl | exact .inr rfl)) (by decide)) (sgs_cons (sg_name 6 (pg_name (i := 6) (Ctx.blk cx s1 H1 _ _ fp1).nd rfl (by first | exact .inl rfl | exact .inr rfl)) (by decide)) sgs_nil)))))) (fun s1 H1 C1 cl1 fp1 => (se_bin (op_addO (Ctx.blk cx s1 H1 _ _ fp1).K) (se_nm 4 (pv 4)) (se_call (Ctx.blk cx s1 H1 _ _ fp1).dn Fc.f__law_draw (sa_cons (se_nm 2 (pv 2)) (sa_cons (se_bin (op_addO (Ctx.blk cx s1 H1 _ _ fp1).K) (se_bin op_subO (se_nm 5 (pv 5)) (se_nm 4 (pv 4))) se_int) sa_nil)) rfl (by rfl))))) sa_nil) fun a b => pe_callTy a (by rfl) Fc.m_tuple (by decide +kernel) b))))
theorem ok__law_text_v8 (Fc : Facts W P w mg base n) {f : Addr} {fd : FuncData} (F : Fun W.K "_law_text" "_law_text" st__law_text_v8 f fd) : FnOk P w W.K mg base (L2.CX P w) (2 * n + 2) f fd ["names"] (spD W (callN (n + 1)) 464 1) :=
  def_ok (B := b__law_text_v8 (callN n)) F sc__law_text_v8 (fun _ => rfl) (by decide) fun cdv A outer s H Ek vs cx => by
    unfold b__law_text_v8
    exact (sb_cons (ss_if (st_cmp (op_eqO cx.K (hu64 cx)) (se_nm 0 (pv 0)) (se_lst sa_nil) (nomark _)) (sb_one (ss_ret se_str)) ss_nil) (sb_cons (ss_set (i := 1) (se_bin (op_addO cx.K) (se_bin (op_addO cx.K) (se_bin (op_addO cx.K) se_str (se_ix cx (se_nm 0 (pv 0)) (se_una un_negO se_int))) se_str) (se_ix cx (se_nm 0 (pv 0)) (se_una un_negO se_int))) (fun h => ps_set (i := 1) cx.nd rfl (by first | exact .inl rfl | exact .inr rfl) h)) (sb_cons (ss_for (own := [2]) cx po_of (si_seq cx (se_rev cx (se_slice cx (se_nm 0 (pv 0)) so_none (so_some (se_una un_negO se_int))))) (fun _ => (sg_name 2 (pg_name (i := 2) cx.nd rfl (by first | exact .inl rfl | exact .inr rfl)) (by decide))) (fun _ => (sb_one (ss_set (i := 1) (se_bin (op_addO cx.K) (se_bin (op_addO cx.K) (se_bin (op_addO cx.K) (se_bin (op_addO cx.K) (se_bin (op_addO cx.K) (se_bin (op_addO cx.K) se_str (se_nm 2 (pv 2))) se_str) (se_nm 2 (pv 2))) se_str) (se_nm 1 (pv 1))) se_str) (fun h => ps_set (i := 1) cx.nd rfl (by first | exact .inl rfl | exact .inr rfl) h))))) (sb_one (ss_ret (se_nm 1 (pv 1)))))))
theorem ok__law_tie_right (Fc : Facts W P w mg base n) {f : Addr} {fd : FuncData} (F : Fun W.K "_law_tie_right" "_law_tie_right" st__law_tie_right f fd) : FnOk P w W.K mg base (L2.CX P w) (2 * n + 2) f fd ["machine", "places", "deeds", "tie"] (spD W (callN (n + 1)) 465 4) :=
  def_ok (B := b__law_tie_right (callN n)) F sc__law_tie_right (fun _ => rfl) (by decide) fun cdv A outer s H Ek vs cx => by
    unfold b__law_tie_right
    exact (sb_cons (ss_if (st_sw (sw_or (st_not (st_tru cx (se_blt (cr_isiC cx.K (fun h => Fc.it h)) (by rfl) Fc.m_isinstance (by decide +kernel) (sa_cons (se_nm 3 (pv 3)) (sa_cons (se_glob (by rfl) Fc.e_Tie) sa_nil)) fun a b => pe_callB a (by rfl) Fc.m_isinstance (by decide +kernel) b))) (sw_or1 (st_cmp (op_neO cx.K (hu64 cx)) (se_meth0 cx.dn (fun c fn h => Fc.mt h) (se_attr cx (fun c f h => Fc.fld h) (se_nm 3 (pv 3)))) (se_call cx.dn Fc.f__law_text (sa_cons (se_comp (own := [(Str.ofString "place", 5)]) cx (N' := N__law_tie_right) (sc' := defScope st__law_tie_right) rfl rfl (by decide +kernel) (si_seq cx (se_nm 1 (pv 1))) (fun s1 H1 C1 cl1 fp1 => (sg_name 5 (pg_name (i := 5) (Ctx.blk cx s1 H1 _ _ fp1).nd rfl (by first | exact .inl rfl | exact .inr rfl)) (by decide))) (fun s1 H1 C1 cl1 fp1 => (se_ix (Ctx.blk cx s1 H1 _ _ fp1) (se_nm 5 (pv 5)) se_int))) sa_nil) rfl (by rfl)) (nomark _))))) (sb_one (ss_ret se_bl)) ss_nil) (sb_cons (ss_if (st_sw (sw_or (st_not (st_tru cx (se_blt (cr_isiO cx.K) (by rfl) Fc.m_isinstance (by decide +kernel) (sa_cons (se_attr cx (fun c f h => Fc.fld h) (se_nm 3 (pv 3))) (sa_cons (se_tyn (by rfl) Fc.m_tuple (by decide +kernel)) sa_nil)) fun a b => pe_callB a (by rfl) Fc.m_isinstance (by decide +kernel) b))) (sw_or1 (st_cmp (op_neO cx.K (hu64 cx)) (se_ty (cr_listO cx.K) (sa_cons (se_attr cx (fun c f h => Fc.fld h) (se_nm 3 (pv 3))) sa_nil) fun a b => pe_callTy a (by rfl) Fc.m_list (by decide +kernel) b) (se_comp (own := [(Str.ofString "deed", 6)]) cx (N' := N__law_tie_right) (sc' := defScope st__law_tie_right) rfl rfl (by decide +kernel) (si_seq cx (se_nm 2 (pv 2))) (fun s2 H2 C2 cl2 fp2 => (sg_name 6 (pg_name (i := 6) (Ctx.blk cx s2 H2 _ _ fp2).nd rfl (by first | exact .inl rfl | exact .inr rfl)) (by decide))) (fun s2 H2 C2 cl2 fp2 => (se_tup (sa_cons (se_ix (Ctx.blk cx s2 H2 _ _ fp2) (se_nm 6 (pv 6)) se_int) (sa_cons (se_ix (Ctx.blk cx s2 H2 _ _ fp2) (se_nm 6 (pv 6)) se_int) sa_nil))))) (nomark _))))) (sb_one (ss_ret se_bl)) ss_nil) (sb_cons (ss_set (i := 4) (se_meth cx.dn (fun c fn h => Fc.mt h) (se_attr cx (fun c f h => Fc.fld h) (se_nm 3 (pv 3))) (sa_cons (se_meth cx.dn (fun c fn h => Fc.mt h) (se_nm 0 (pv 0)) (sa_cons (se_meth0 cx.dn (fun c fn h => Fc.mt h) (se_nm 0 (pv 0))) sa_nil)) sa_nil)) (fun h => ps_set (i := 4) cx.nd rfl (by first | exact .inl rfl | exact .inr rfl) h)) (sb_one (ss_ret (se_and (se_cmp (op_eqO cx.K (hu64 cx)) (se_meth0 cx.dn (fun c fn h => Fc.mt h) (se_attr cx (fun c f h => Fc.fld h) (se_nm 3 (pv 3)))) se_str (nomark _)) (se_and (se_call cx.dn Fc.f__law_whole (sa_cons (se_nm 4 (pv 4)) sa_nil) rfl (by rfl)) (se_one (se_cmp (op_eqO cx.K (hu64 cx)) (se_nm 4 (pv 4)) se_int (nomark _))))))))))
theorem ok_law_k62 (Fc : Facts W P w mg base n) {f : Addr} {fd : FuncData} (F : Fun W.K "law" "law" st_law_k62 f fd) : FnOk P w W.K mg base (L2.CX P w) (2 * n + 2) f fd ["script"] (spD W (callN (n + 1)) 466 1) :=
  def_ok (B := b_law_k62 (callN n)) F sc_law_k62 (fun _ => rfl) (by decide) fun cdv A outer s H Ek vs cx => by
    unfold b_law_k62
    exact (sb_cons (ss_set (i := 1) (se_call cx.dn Fc.f__law_at (sa_cons (se_nm 0 (pv 0)) (sa_cons se_int sa_nil)) rfl (by rfl)) (fun h => ps_set (i := 1) cx.nd rfl (by first | exact .inl rfl | exact .inr rfl) h)) (sb_cons (ss_asg (own := [2, 3]) (se_call cx.dn Fc.f__law_machine (sa_cons (se_nm 0 (pv 0)) (sa_cons se_int (sa_cons (se_bin op_modO (se_nm 1 (pv 1)) se_int) (sa_cons (se_bin op_modO (se_bin op_fdivO (se_nm 1 (pv 1)) se_int) se_int) sa_nil)))) rfl (by rfl)) (sg_tup cx (sgs_cons (sg_name 2 (pg_name (i := 2) cx.nd rfl (by first | exact .inl rfl | exact .inr rfl)) (by decide)) (sgs_cons (sg_name 3 (pg_name (i := 3) cx.nd rfl (by first | exact .inl rfl | exact .inr rfl)) (by decide)) sgs_nil)))) (sb_cons (ss_set (i := 4) (se_make cx Fc.k_Machine (sa_cons (se_nm 2 (pv 2)) (sa_cons (se_tup sa_nil) (sa_cons (se_ty (cr_tupleO cx.K) (sa_cons (se_comp (own := [(Str.ofString "deed", 20)]) cx (N' := N_law_k62) (sc' := defScope st_law_k62) rfl rfl (by decide +kernel) (si_seq cx (se_nm 3 (pv 3))) (fun s1 H1 C1 cl1 fp1 => (sg_name 20 (pg_name (i := 20) (Ctx.blk cx s1 H1 _ _ fp1).nd rfl (by first | exact .inl rfl | exact .inr rfl)) (by decide))) (fun s1 H1 C1 cl1 fp1 => (se_call (Ctx.blk cx s1 H1 _ _ fp1).dn Fc.f__law_deed_of (sa_cons (se_nm 20 (pv 20)) sa_nil) rfl (by rfl)))) sa_nil) fun a b => pe_callTy a (by rfl) Fc.m_tuple (by decide +kernel) b) sa_nil))) (by rfl)) (fun h => ps_set (i := 4) cx.nd rfl (by first | exact .inl rfl | exact .inr rfl) h)) (sb_cons (ss_set (i := 5) (se_call cx.dn Fc.f_own_tie (sa_cons (se_nm 4 (pv 4)) sa_nil) rfl (by rfl)) (fun h => ps_set (i := 5) cx.nd rfl (by first | exact .inl rfl | exact .inr rfl) h)) (sb_cons (ss_if (st_not (st_tru cx (se_call cx.dn Fc.f__law_tie_right (sa_cons (se_nm 4 (pv 4)) (sa_cons (se_nm 2 (pv 2)) (sa_cons (se_nm 3 (pv 3)) (sa_cons (se_nm 5 (pv 5)) sa_nil)))) rfl (by rfl)))) (sb_one (ss_ret se_bl)) ss_nil) (sb_cons (ss_asg (own := [6, 7]) (se_call cx.dn Fc.f__law_machine (sa_cons (se_nm 0 (pv 0)) (sa_cons se_int (sa_cons (se_bin op_modO (se_bin (op_addO cx.K) (se_bin (op_addO cx.K) (se_nm 1 (pv 1)) se_int) (se_bin op_modO (se_bin op_fdivO (se_nm 1 (pv 1)) se_int) se_int)) se_int) (sa_cons (se_bin op_modO (se_bin op_fdivO (se_nm 1 (pv 1)) se_int) se_int) sa_nil)))) rfl (by rfl)) (sg_tup cx (sgs_cons (sg_name 6 (pg_name (i := 6) cx.nd rfl (by first | exact .inl rfl | exact .inr rfl)) (by decide)) (sgs_cons (sg_name 7 (pg_name (i := 7) cx.nd rfl (by first | exact .inl rfl | exact .inr rfl)) (by decide)) sgs_nil)))) (sb_cons (ss_set (i := 8) (se_make cx Fc.k_Machine (sa_cons (se_nm 6 (pv 6)) (sa_cons (se_tup sa_nil) (sa_cons (se_ty (cr_tupleO cx.K) (sa_cons (se_comp (own := [(Str.ofString "deed", 20)]) cx (N' := N_law_k62) (sc' := defScope st_law_k62) rfl rfl (by decide +kernel) (si_seq cx (se_nm 7 (pv 7))) (fun s2 H2 C2 cl2 fp2 => (sg_name 20 (pg_name (i := 20) (Ctx.blk cx s2 H2 _ _ fp2).nd rfl (by first | exact .inl rfl | exact .inr rfl)) (by decide))) (fun s2 H2 C2 cl2 fp2 => (se_call (Ctx.blk cx s2 H2 _ _ fp2).dn Fc.f__law_deed_of (sa_cons (se_nm 20 (pv 20)) sa_nil) rfl (by rfl)))) sa_nil) fun a b => pe_callTy a (by rfl) Fc.m_tuple (by decide +kernel) b) sa_nil))) (by rfl)) (fun h => ps_set (i := 8) cx.nd rfl (by first | exact .inl rfl | exact .inr rfl) h)) (sb_cons (ss_if (st_sw (sw_or (st_not (st_tru cx (se_call cx.dn Fc.f__law_tie_right (sa_cons (se_nm 8 (pv 8)) (sa_cons (se_nm 6 (pv 6)) (sa_cons (se_nm 7 (pv 7)) (sa_cons (se_call cx.dn Fc.f_own_tie (sa_cons (se_nm 8 (pv 8)) sa_nil) rfl (by rfl)) sa_nil)))) rfl (by rfl)))) (sw_or1 (st_not (st_tru cx (se_call cx.dn Fc.f__law_tie_right (sa_cons (se_nm 4 (pv 4)) (sa_cons (se_nm 2 (pv 2)) (sa_cons (se_nm 3 (pv 3)) (sa_cons (se_nm 5 (pv 5)) sa_nil)))) rfl (by rfl))))))) (sb_one (ss_ret se_bl)) ss_nil) (sb_cons (ss_set (i := 5) (se_call cx.dn Fc.f_own_tie (sa_cons (se_nm 4 (pv 4)) sa_nil) rfl (by rfl)) (fun h => ps_set (i := 5) cx.nd rfl (by first | exact .inl rfl | exact .inr rfl) h)) (sb_cons (ss_if (st_not (st_tru cx (se_call cx.dn Fc.f__law_tie_right (sa_cons (se_nm 4 (pv 4)) (sa_cons (se_nm 2 (pv 2)) (sa_cons (se_nm 3 (pv 3)) (sa_cons (se_nm 5 (pv 5)) sa_nil)))) rfl (by rfl)))) (sb_one (ss_ret se_bl)) ss_nil) (sb_cons (ss_for (own := [9]) cx po_of (si_range1 (by rfl) Fc.m_range (sa_cons se_int sa_nil)) (fun _ => (sg_name 9 (pg_name (i := 9) cx.nd rfl (by first | exact .inl rfl | exact .inr rfl)) (by decide))) (fun _ => (sb_cons (ss_set (i := 10) (se_call cx.dn Fc.f__law_at (sa_cons (se_nm 0 (pv 0)) (sa_cons (se_bin (op_addO cx.K) se_int (se_nm 9 (pv 9))) sa_nil)) rfl (by rfl)) (fun h => ps_set (i := 10) cx.nd rfl (by first | exact .inl rfl | exact .inr rfl) h)) (sb_cons (ss_set (i := 11) (se_call cx.dn Fc.f__law_room (sa_cons (se_nm 2 (pv 2)) (sa_cons (se_nm 10 (pv 10)) sa_nil)) rfl (by rfl)) (fun h => ps_set (i := 11) cx.nd rfl (by first | exact .inl rfl | exact .inr rfl) h)) (sb_cons (ss_set (i := 12) (se_nm 11 (pv 11)) (fun h => ps_set (i := 12) cx.nd rfl (by first | exact .inl rfl | exact .inr rfl) h)) (sb_cons (ss_if (st_sw (sw_and (st_cmp op_gtO (se_bin op_modO (se_nm 10 (pv 10)) se_int) se_int (nomark _)) (sw_and1 (st_cmp op_gtO (se_blt (cr_len cx.K) (by rfl) Fc.m_len PySem.boot_len (sa_cons (se_nm 2 (pv 2)) sa_nil) fun a b => pe_callB a (by rfl) Fc.m_len PySem.boot_len b) se_int (nomark _))))) (sb_cons (ss_set (i := 13) (se_bin op_modO (se_bin op_fdivO (se_nm 10 (pv 10)) se_int) (se_blt (cr_len cx.K) (by rfl) Fc.m_len PySem.boot_len (sa_cons (se_nm 2 (pv 2)) sa_nil) fun a b => pe_callB a (by rfl) Fc.m_len PySem.boot_len b)) (fun h => ps_set (i := 13) cx.nd rfl (by first | exact .inl rfl | exact .inr rfl) h)) (sb_cons (ss_asg (own := [14, 15, 16, 17]) (se_ix cx (se_nm 2 (pv 2)) (se_nm 13 (pv 13))) (sg_tup cx (sgs_cons (sg_name 14 (pg_name (i := 14) cx.nd rfl (by first | exact .inl rfl | exact .inr rfl)) (by decide)) (sgs_cons (sg_name 15 (pg_name (i := 15) cx.nd rfl (by first | exact .inl rfl | exact .inr rfl)) (by decide)) (sgs_cons (sg_name 16 (pg_name (i := 16) cx.nd rfl (by first | exact .inl rfl | exact .inr rfl)) (by decide)) (sgs_cons (sg_name 17 (pg_name (i := 17) cx.nd rfl (by first | exact .inl rfl | exact .inr rfl)) (by decide)) sgs_nil)))))) (sb_cons (ss_set (i := 18) (se_bin (op_addO cx.K) (se_nm 15 (pv 15)) (se_bin op_modO (se_bin op_fdivO (se_nm 10 (pv 10)) se_int) (se_bin (op_addO cx.K) (se_bin op_subO (se_nm 16 (pv 16)) (se_nm 15 (pv 15))) se_int))) (fun h => ps_set (i := 18) cx.nd rfl (by first | exact .inl rfl | exact .inr rfl) h)) (sb_one (ss_set (i := 12) (se_bin (op_addO cx.K) (se_bin (op_addO cx.K) (se_slice cx (se_nm 11 (pv 11)) so_none (so_some (se_nm 13 (pv 13)))) (se_tup (sa_cons (se_nm 18 (pv 18)) sa_nil))) (se_slice cx (se_nm 11 (pv 11)) (so_some (se_bin (op_addO cx.K) (se_nm 13 (pv 13)) se_int)) so_none)) (fun h => ps_set (i := 12) cx.nd rfl (by first | exact .inl rfl | exact .inr rfl) h)))))) ss_nil) (sb_cons (ss_set (i := 19) (se_call cx.dn Fc.f_tied (sa_cons (se_frz 4 (pv 4)) (sa_cons (se_frz 4 (pv 4)) (sa_cons (se_nm 5 (pv 5)) (sa_cons (se_nm 11 (pv 11)) (sa_cons (se_nm 12 (pv 12)) sa_nil))))) rfl (by rfl)) (fun h => ps_set (i := 19) cx.nd rfl (by first | exact .inl rfl | exact .inr rfl) h)) (sb_one (ss_if (st_sw (sw_or (st_not (st_tru cx (se_blt (cr_isiO cx.K) (by rfl) Fc.m_isinstance (by decide +kernel) (sa_cons (se_nm 19 (pv 19)) (sa_cons (se_tyn (by rfl) Fc.m_bool (by decide +kernel)) sa_nil)) fun a b => pe_callB a (by rfl) Fc.m_isinstance (by decide +kernel) b))) (sw_or1 (st_cmp (op_neO cx.K (hu64 cx)) (se_nm 19 (pv 19)) (se_cmp (op_eqO cx.K (hu64 cx)) (se_nm 11 (pv 11)) (se_nm 12 (pv 12)) (nomark _)) (nomark _))))) (sb_one (ss_ret se_bl)) ss_nil))))))))) (sb_one (ss_ret se_bl)))))))))))))
theorem ok_Saying_holds (Fc : Facts W P w mg base n) {f : Addr} {fd : FuncData} (F : Fun W.K "holds" "Saying.holds" st_Saying_holds f fd) : FnOk P w W.K mg base (L2.CX P w) (2 * n + 2) f fd ["self", "values"] (spD W (callN (n + 1)) 54 2) :=
  def_ok (B := b_Saying_holds (callN n)) F sc_Saying_holds (fun _ => rfl) (by decide) fun cdv A outer s H Ek vs cx => by
    unfold b_Saying_holds
    exact (sb_one (ss_ret se_bl))
theorem ok_Saying_shown (Fc : Facts W P w mg base n) {f : Addr} {fd : FuncData} (F : Fun W.K "shown" "Saying.shown" st_Saying_shown f fd) : FnOk P w W.K mg base (L2.CX P w) (2 * n + 2) f fd ["self"] (spD W (callN (n + 1)) 56 1) :=
  def_ok (B := b_Saying_shown (callN n)) F sc_Saying_shown (fun _ => rfl) (by decide) fun cdv A outer s H Ek vs cx => by
    unfold b_Saying_shown
    exact (sb_one (ss_ret se_str))
theorem ok_Compared___init__ (Fc : Facts W P w mg base n) {f : Addr} {fd : FuncData} (F : Fun W.K "__init__" "Compared.__init__" st_Compared___init__ f fd) : FnOk P w W.K mg base (L2.CX P w) (2 * n + 2) f fd ["self", "one", "other"] (spD W (callN (n + 1)) 57 3) :=
  def_ok (B := b_Compared___init__ (callN n)) F sc_Compared___init__ (fun _ => rfl) (by decide) fun cdv A outer s H Ek vs cx => by
    unfold b_Compared___init__
    exact (sb_cons (ss_fld cx (fun c f h => Fc.fld h) (se_nm 0 (pv 0)) (se_nm 1 (pv 1))) (sb_one (ss_fld cx (fun c f h => Fc.fld h) (se_nm 0 (pv 0)) (se_nm 2 (pv 2)))))
theorem ok_Compared_sign (Fc : Facts W P w mg base n) {f : Addr} {fd : FuncData} (F : Fun W.K "sign" "Compared.sign" st_Compared_sign f fd) : FnOk P w W.K mg base (L2.CX P w) (2 * n + 2) f fd ["self"] (spD W (callN (n + 1)) 58 1) :=
  def_ok (B := b_Compared_sign (callN n)) F sc_Compared_sign (fun _ => rfl) (by decide) fun cdv A outer s H Ek vs cx => by
    unfold b_Compared_sign
    exact (sb_one (ss_ret se_str))
theorem ok_Compared_shown (Fc : Facts W P w mg base n) {f : Addr} {fd : FuncData} (F : Fun W.K "shown" "Compared.shown" st_Compared_shown f fd) : FnOk P w W.K mg base (L2.CX P w) (2 * n + 2) f fd ["self"] (spD W (callN (n + 1)) 60 1) :=
  def_ok (B := b_Compared_shown (callN n)) F sc_Compared_shown (fun _ => rfl) (by decide) fun cdv A outer s H Ek vs cx => by
    unfold b_Compared_shown
    exact (sb_one (ss_ret (se_bin (op_addO cx.K) (se_bin (op_addO cx.K) (se_bin (op_addO cx.K) (se_bin (op_addO cx.K) (se_meth0 cx.dn (fun c fn h => Fc.mt h) (se_attr cx (fun c f h => Fc.fld h) (se_nm 0 (pv 0)))) se_str) (se_meth0 cx.dn (fun c fn h => Fc.mt h) (se_nm 0 (pv 0)))) se_str) (se_meth0 cx.dn (fun c fn h => Fc.mt h) (se_attr cx (fun c f h => Fc.fld h) (se_nm 0 (pv 0)))))))
theorem ok_Less_sign (Fc : Facts W P w mg base n) {f : Addr} {fd : FuncData} (F : Fun W.K "sign" "Less.sign" st_Less_sign f fd) : FnOk P w W.K mg base (L2.CX P w) (2 * n + 2) f fd ["self"] (spD W (callN (n + 1)) 61 1) :=
  def_ok (B := b_Less_sign (callN n)) F sc_Less_sign (fun _ => rfl) (by decide) fun cdv A outer s H Ek vs cx => by
    unfold b_Less_sign
    exact (sb_one (ss_ret se_str))
theorem ok_Less_holds (Fc : Facts W P w mg base n) {f : Addr} {fd : FuncData} (F : Fun W.K "holds" "Less.holds" st_Less_holds f fd) : FnOk P w W.K mg base (L2.CX P w) (2 * n + 2) f fd ["self", "values"] (spD W (callN (n + 1)) 62 2) :=
  def_ok (B := b_Less_holds (callN n)) F sc_Less_holds (fun _ => rfl) (by decide) fun cdv A outer s H Ek vs cx => by
    unfold b_Less_holds
    exact (sb_one (ss_ret (se_cmp op_ltO (se_meth cx.dn (fun c fn h => Fc.mt h) (se_attr cx (fun c f h => Fc.fld h) (se_nm 0 (pv 0))) (sa_cons (se_nm 1 (pv 1)) sa_nil)) (se_meth cx.dn (fun c fn h => Fc.mt h) (se_attr cx (fun c f h => Fc.fld h) (se_nm 0 (pv 0))) (sa_cons (se_nm 1 (pv 1)) sa_nil)) (nomark _))))
theorem ok_AtMost_sign (Fc : Facts W P w mg base n) {f : Addr} {fd : FuncData} (F : Fun W.K "sign" "AtMost.sign" st_AtMost_sign f fd) : FnOk P w W.K mg base (L2.CX P w) (2 * n + 2) f fd ["self"] (spD W (callN (n + 1)) 63 1) :=
  def_ok (B := b_AtMost_sign (callN n)) F sc_AtMost_sign (fun _ => rfl) (by decide) fun cdv A outer s H Ek vs cx => by
    unfold b_AtMost_sign
    exact (sb_one (ss_ret se_str))
theorem ok_AtMost_holds (Fc : Facts W P w mg base n) {f : Addr} {fd : FuncData} (F : Fun W.K "holds" "AtMost.holds" st_AtMost_holds f fd) : FnOk P w W.K mg base (L2.CX P w) (2 * n + 2) f fd ["self", "values"] (spD W (callN (n + 1)) 64 2) :=
  def_ok (B := b_AtMost_holds (callN n)) F sc_AtMost_holds (fun _ => rfl) (by decide) fun cdv A outer s H Ek vs cx => by
    unfold b_AtMost_holds
    exact (sb_one (ss_ret (se_cmp op_leO (se_meth cx.dn (fun c fn h => Fc.mt h) (se_attr cx (fun c f h => Fc.fld h) (se_nm 0 (pv 0))) (sa_cons (se_nm 1 (pv 1)) sa_nil)) (se_meth cx.dn (fun c fn h => Fc.mt h) (se_attr cx (fun c f h => Fc.fld h) (se_nm 0 (pv 0))) (sa_cons (se_nm 1 (pv 1)) sa_nil)) (nomark _))))
theorem ok_Equal_holds (Fc : Facts W P w mg base n) {f : Addr} {fd : FuncData} (F : Fun W.K "holds" "Equal.holds" st_Equal_holds f fd) : FnOk P w W.K mg base (L2.CX P w) (2 * n + 2) f fd ["self", "values"] (spD W (callN (n + 1)) 65 2) :=
  def_ok (B := b_Equal_holds (callN n)) F sc_Equal_holds (fun _ => rfl) (by decide) fun cdv A outer s H Ek vs cx => by
    unfold b_Equal_holds
    exact (sb_one (ss_ret (se_cmp (op_eqO cx.K (hu64 cx)) (se_meth cx.dn (fun c fn h => Fc.mt h) (se_attr cx (fun c f h => Fc.fld h) (se_nm 0 (pv 0))) (sa_cons (se_nm 1 (pv 1)) sa_nil)) (se_meth cx.dn (fun c fn h => Fc.mt h) (se_attr cx (fun c f h => Fc.fld h) (se_nm 0 (pv 0))) (sa_cons (se_nm 1 (pv 1)) sa_nil)) (nomark _))))
theorem ok_Unlike_sign (Fc : Facts W P w mg base n) {f : Addr} {fd : FuncData} (F : Fun W.K "sign" "Unlike.sign" st_Unlike_sign f fd) : FnOk P w W.K mg base (L2.CX P w) (2 * n + 2) f fd ["self"] (spD W (callN (n + 1)) 66 1) :=
  def_ok (B := b_Unlike_sign (callN n)) F sc_Unlike_sign (fun _ => rfl) (by decide) fun cdv A outer s H Ek vs cx => by
    unfold b_Unlike_sign
    exact (sb_one (ss_ret se_str))
theorem ok_Unlike_holds (Fc : Facts W P w mg base n) {f : Addr} {fd : FuncData} (F : Fun W.K "holds" "Unlike.holds" st_Unlike_holds f fd) : FnOk P w W.K mg base (L2.CX P w) (2 * n + 2) f fd ["self", "values"] (spD W (callN (n + 1)) 67 2) :=
  def_ok (B := b_Unlike_holds (callN n)) F sc_Unlike_holds (fun _ => rfl) (by decide) fun cdv A outer s H Ek vs cx => by
    unfold b_Unlike_holds
    exact (sb_one (ss_ret (se_cmp (op_neO cx.K (hu64 cx)) (se_meth cx.dn (fun c fn h => Fc.mt h) (se_attr cx (fun c f h => Fc.fld h) (se_nm 0 (pv 0))) (sa_cons (se_nm 1 (pv 1)) sa_nil)) (se_meth cx.dn (fun c fn h => Fc.mt h) (se_attr cx (fun c f h => Fc.fld h) (se_nm 0 (pv 0))) (sa_cons (se_nm 1 (pv 1)) sa_nil)) (nomark _))))
theorem ok_Both___init__ (Fc : Facts W P w mg base n) {f : Addr} {fd : FuncData} (F : Fun W.K "__init__" "Both.__init__" st_Both___init__ f fd) : FnOk P w W.K mg base (L2.CX P w) (2 * n + 2) f fd ["self", "one", "other"] (spD W (callN (n + 1)) 68 3) :=
  def_ok (B := b_Both___init__ (callN n)) F sc_Both___init__ (fun _ => rfl) (by decide) fun cdv A outer s H Ek vs cx => by
    unfold b_Both___init__
    exact (sb_cons (ss_fld cx (fun c f h => Fc.fld h) (se_nm 0 (pv 0)) (se_nm 1 (pv 1))) (sb_one (ss_fld cx (fun c f h => Fc.fld h) (se_nm 0 (pv 0)) (se_nm 2 (pv 2)))))
theorem ok_Both_holds (Fc : Facts W P w mg base n) {f : Addr} {fd : FuncData} (F : Fun W.K "holds" "Both.holds" st_Both_holds f fd) : FnOk P w W.K mg base (L2.CX P w) (2 * n + 2) f fd ["self", "values"] (spD W (callN (n + 1)) 69 2) :=
  def_ok (B := b_Both_holds (callN n)) F sc_Both_holds (fun _ => rfl) (by decide) fun cdv A outer s H Ek vs cx => by
    unfold b_Both_holds
    exact (sb_one (ss_ret (se_and (se_meth cx.dn (fun c fn h => Fc.mt h) (se_attr cx (fun c f h => Fc.fld h) (se_nm 0 (pv 0))) (sa_cons (se_nm 1 (pv 1)) sa_nil)) (se_one (se_meth cx.dn (fun c fn h => Fc.mt h) (se_attr cx (fun c f h => Fc.fld h) (se_nm 0 (pv 0))) (sa_cons (se_nm 1 (pv 1)) sa_nil))))))
theorem ok_Both_shown (Fc : Facts W P w mg base n) {f : Addr} {fd : FuncData} (F : Fun W.K "shown" "Both.shown" st_Both_shown f fd) : FnOk P w W.K mg base (L2.CX P w) (2 * n + 2) f fd ["self"] (spD W (callN (n + 1)) 71 1) :=
  def_ok (B := b_Both_shown (callN n)) F sc_Both_shown (fun _ => rfl) (by decide) fun cdv A outer s H Ek vs cx => by
    unfold b_Both_shown
    exact (sb_one (ss_ret (se_bin (op_addO cx.K) (se_bin (op_addO cx.K) (se_bin (op_addO cx.K) (se_bin (op_addO cx.K) se_str (se_meth0 cx.dn (fun c fn h => Fc.mt h) (se_attr cx (fun c f h => Fc.fld h) (se_nm 0 (pv 0))))) se_str) (se_meth0 cx.dn (fun c fn h => Fc.mt h) (se_attr cx (fun c f h => Fc.fld h) (se_nm 0 (pv 0))))) se_str)))
theorem ok_Either___init__ (Fc : Facts W P w mg base n) {f : Addr} {fd : FuncData} (F : Fun W.K "__init__" "Either.__init__" st_Either___init__ f fd) : FnOk P w W.K mg base (L2.CX P w) (2 * n + 2) f fd ["self", "one", "other"] (spD W (callN (n + 1)) 72 3) :=
  def_ok (B := b_Either___init__ (callN n)) F sc_Either___init__ (fun _ => rfl) (by decide) fun cdv A outer s H Ek vs cx => by
    unfold b_Either___init__
    exact (sb_cons (ss_fld cx (fun c f h => Fc.fld h) (se_nm 0 (pv 0)) (se_nm 1 (pv 1))) (sb_one (ss_fld cx (fun c f h => Fc.fld h) (se_nm 0 (pv 0)) (se_nm 2 (pv 2)))))
theorem ok_Either_holds (Fc : Facts W P w mg base n) {f : Addr} {fd : FuncData} (F : Fun W.K "holds" "Either.holds" st_Either_holds f fd) : FnOk P w W.K mg base (L2.CX P w) (2 * n + 2) f fd ["self", "values"] (spD W (callN (n + 1)) 73 2) :=
  def_ok (B := b_Either_holds (callN n)) F sc_Either_holds (fun _ => rfl) (by decide) fun cdv A outer s H Ek vs cx => by
    unfold b_Either_holds
    exact (sb_one (ss_ret (se_or (se_meth cx.dn (fun c fn h => Fc.mt h) (se_attr cx (fun c f h => Fc.fld h) (se_nm 0 (pv 0))) (sa_cons (se_nm 1 (pv 1)) sa_nil)) (se_one (se_meth cx.dn (fun c fn h => Fc.mt h) (se_attr cx (fun c f h => Fc.fld h) (se_nm 0 (pv 0))) (sa_cons (se_nm 1 (pv 1)) sa_nil))))))
theorem ok_Either_shown (Fc : Facts W P w mg base n) {f : Addr} {fd : FuncData} (F : Fun W.K "shown" "Either.shown" st_Either_shown f fd) : FnOk P w W.K mg base (L2.CX P w) (2 * n + 2) f fd ["self"] (spD W (callN (n + 1)) 75 1) :=
  def_ok (B := b_Either_shown (callN n)) F sc_Either_shown (fun _ => rfl) (by decide) fun cdv A outer s H Ek vs cx => by
    unfold b_Either_shown
    exact (sb_one (ss_ret (se_bin (op_addO cx.K) (se_bin (op_addO cx.K) (se_bin (op_addO cx.K) (se_bin (op_addO cx.K) se_str (se_meth0 cx.dn (fun c fn h => Fc.mt h) (se_attr cx (fun c f h => Fc.fld h) (se_nm 0 (pv 0))))) se_str) (se_meth0 cx.dn (fun c fn h => Fc.mt h) (se_attr cx (fun c f h => Fc.fld h) (se_nm 0 (pv 0))))) se_str)))
theorem ok_Not___init__ (Fc : Facts W P w mg base n) {f : Addr} {fd : FuncData} (F : Fun W.K "__init__" "Not.__init__" st_Not___init__ f fd) : FnOk P w W.K mg base (L2.CX P w) (2 * n + 2) f fd ["self", "one"] (spD W (callN (n + 1)) 76 2) :=
  def_ok (B := b_Not___init__ (callN n)) F sc_Not___init__ (fun _ => rfl) (by decide) fun cdv A outer s H Ek vs cx => by
    unfold b_Not___init__
    exact (sb_one (ss_fld cx (fun c f h => Fc.fld h) (se_nm 0 (pv 0)) (se_nm 1 (pv 1))))
theorem ok_Not_holds (Fc : Facts W P w mg base n) {f : Addr} {fd : FuncData} (F : Fun W.K "holds" "Not.holds" st_Not_holds f fd) : FnOk P w W.K mg base (L2.CX P w) (2 * n + 2) f fd ["self", "values"] (spD W (callN (n + 1)) 77 2) :=
  def_ok (B := b_Not_holds (callN n)) F sc_Not_holds (fun _ => rfl) (by decide) fun cdv A outer s H Ek vs cx => by
    unfold b_Not_holds
    exact (sb_one (ss_ret (se_not (se_meth cx.dn (fun c fn h => Fc.mt h) (se_attr cx (fun c f h => Fc.fld h) (se_nm 0 (pv 0))) (sa_cons (se_nm 1 (pv 1)) sa_nil)))))
theorem ok_Not_shown (Fc : Facts W P w mg base n) {f : Addr} {fd : FuncData} (F : Fun W.K "shown" "Not.shown" st_Not_shown f fd) : FnOk P w W.K mg base (L2.CX P w) (2 * n + 2) f fd ["self"] (spD W (callN (n + 1)) 79 1) :=
  def_ok (B := b_Not_shown (callN n)) F sc_Not_shown (fun _ => rfl) (by decide) fun cdv A outer s H Ek vs cx => by
    unfold b_Not_shown
    exact (sb_one (ss_ret (se_bin (op_addO cx.K) (se_bin (op_addO cx.K) se_str (se_meth0 cx.dn (fun c fn h => Fc.mt h) (se_attr cx (fun c f h => Fc.fld h) (se_nm 0 (pv 0))))) se_str)))
theorem ok_Sum_worth (Fc : Facts W P w mg base n) {f : Addr} {fd : FuncData} (F : Fun W.K "worth" "Sum.worth" st_Sum_worth f fd) : FnOk P w W.K mg base (L2.CX P w) (2 * n + 2) f fd ["self", "values"] (spD W (callN (n + 1)) 31 2) :=
  def_ok (B := b_Sum_worth (callN n)) F sc_Sum_worth (fun _ => rfl) (by decide) fun cdv A outer s H Ek vs cx => by
    unfold b_Sum_worth
    exact (sb_one (ss_ret se_int))
theorem ok_Sum_shown (Fc : Facts W P w mg base n) {f : Addr} {fd : FuncData} (F : Fun W.K "shown" "Sum.shown" st_Sum_shown f fd) : FnOk P w W.K mg base (L2.CX P w) (2 * n + 2) f fd ["self"] (spD W (callN (n + 1)) 33 1) :=
  def_ok (B := b_Sum_shown (callN n)) F sc_Sum_shown (fun _ => rfl) (by decide) fun cdv A outer s H Ek vs cx => by
    unfold b_Sum_shown
    exact (sb_one (ss_ret se_str))
theorem ok_Number___init__ (Fc : Facts W P w mg base n) {f : Addr} {fd : FuncData} (F : Fun W.K "__init__" "Number.__init__" st_Number___init__ f fd) : FnOk P w W.K mg base (L2.CX P w) (2 * n + 2) f fd ["self", "number"] (spD W (callN (n + 1)) 34 2) :=
  def_ok (B := b_Number___init__ (callN n)) F sc_Number___init__ (fun _ => rfl) (by decide) fun cdv A outer s H Ek vs cx => by
    unfold b_Number___init__
    exact (sb_one (ss_fld cx (fun c f h => Fc.fld h) (se_nm 0 (pv 0)) (se_nm 1 (pv 1))))
theorem ok_Number_worth (Fc : Facts W P w mg base n) {f : Addr} {fd : FuncData} (F : Fun W.K "worth" "Number.worth" st_Number_worth f fd) : FnOk P w W.K mg base (L2.CX P w) (2 * n + 2) f fd ["self", "values"] (spD W (callN (n + 1)) 35 2) :=
  def_ok (B := b_Number_worth (callN n)) F sc_Number_worth (fun _ => rfl) (by decide) fun cdv A outer s H Ek vs cx => by
    unfold b_Number_worth
    exact (sb_one (ss_ret (se_attr cx (fun c f h => Fc.fld h) (se_nm 0 (pv 0)))))
theorem ok_Number_shown (Fc : Facts W P w mg base n) {f : Addr} {fd : FuncData} (F : Fun W.K "shown" "Number.shown" st_Number_shown f fd) : FnOk P w W.K mg base (L2.CX P w) (2 * n + 2) f fd ["self"] (spD W (callN (n + 1)) 36 1) :=
  def_ok (B := b_Number_shown (callN n)) F sc_Number_shown (fun _ => rfl) (by decide) fun cdv A outer s H Ek vs cx => by
    unfold b_Number_shown
    exact (sb_one (ss_ret (se_ty cr_strO (sa_cons (se_attr cx (fun c f h => Fc.fld h) (se_nm 0 (pv 0))) sa_nil) fun a b => pe_callTy a (by rfl) Fc.m_str (by decide +kernel) b)))
theorem ok_Named___init__ (Fc : Facts W P w mg base n) {f : Addr} {fd : FuncData} (F : Fun W.K "__init__" "Named.__init__" st_Named___init__ f fd) : FnOk P w W.K mg base (L2.CX P w) (2 * n + 2) f fd ["self", "name"] (spD W (callN (n + 1)) 37 2) :=
  def_ok (B := b_Named___init__ (callN n)) F sc_Named___init__ (fun _ => rfl) (by decide) fun cdv A outer s H Ek vs cx => by
    unfold b_Named___init__
    exact (sb_one (ss_fld cx (fun c f h => Fc.fld h) (se_nm 0 (pv 0)) (se_nm 1 (pv 1))))
theorem ok_Named_worth (Fc : Facts W P w mg base n) {f : Addr} {fd : FuncData} (F : Fun W.K "worth" "Named.worth" st_Named_worth f fd) : FnOk P w W.K mg base (L2.CX P w) (2 * n + 2) f fd ["self", "values"] (spD W (callN (n + 1)) 38 2) :=
  def_ok (B := b_Named_worth (callN n)) F sc_Named_worth (fun _ => rfl) (by decide) fun cdv A outer s H Ek vs cx => by
    unfold b_Named_worth
    exact (sb_one (ss_ret (se_ix cx (se_nm 1 (pv 1)) (se_attr cx (fun c f h => Fc.fld h) (se_nm 0 (pv 0))))))
theorem ok_Named_shown (Fc : Facts W P w mg base n) {f : Addr} {fd : FuncData} (F : Fun W.K "shown" "Named.shown" st_Named_shown f fd) : FnOk P w W.K mg base (L2.CX P w) (2 * n + 2) f fd ["self"] (spD W (callN (n + 1)) 40 1) :=
  def_ok (B := b_Named_shown (callN n)) F sc_Named_shown (fun _ => rfl) (by decide) fun cdv A outer s H Ek vs cx => by
    unfold b_Named_shown
    exact (sb_one (ss_ret (se_attr cx (fun c f h => Fc.fld h) (se_nm 0 (pv 0)))))
theorem ok_Joined___init__ (Fc : Facts W P w mg base n) {f : Addr} {fd : FuncData} (F : Fun W.K "__init__" "Joined.__init__" st_Joined___init__ f fd) : FnOk P w W.K mg base (L2.CX P w) (2 * n + 2) f fd ["self", "one", "other"] (spD W (callN (n + 1)) 41 3) :=
  def_ok (B := b_Joined___init__ (callN n)) F sc_Joined___init__ (fun _ => rfl) (by decide) fun cdv A outer s H Ek vs cx => by
    unfold b_Joined___init__
    exact (sb_cons (ss_fld cx (fun c f h => Fc.fld h) (se_nm 0 (pv 0)) (se_nm 1 (pv 1))) (sb_one (ss_fld cx (fun c f h => Fc.fld h) (se_nm 0 (pv 0)) (se_nm 2 (pv 2)))))
theorem ok_Joined_sign (Fc : Facts W P w mg base n) {f : Addr} {fd : FuncData} (F : Fun W.K "sign" "Joined.sign" st_Joined_sign f fd) : FnOk P w W.K mg base (L2.CX P w) (2 * n + 2) f fd ["self"] (spD W (callN (n + 1)) 42 1) :=
  def_ok (B := b_Joined_sign (callN n)) F sc_Joined_sign (fun _ => rfl) (by decide) fun cdv A outer s H Ek vs cx => by
    unfold b_Joined_sign
    exact (sb_one (ss_ret se_str))
theorem ok_Joined_shown (Fc : Facts W P w mg base n) {f : Addr} {fd : FuncData} (F : Fun W.K "shown" "Joined.shown" st_Joined_shown f fd) : FnOk P w W.K mg base (L2.CX P w) (2 * n + 2) f fd ["self"] (spD W (callN (n + 1)) 44 1) :=
  def_ok (B := b_Joined_shown (callN n)) F sc_Joined_shown (fun _ => rfl) (by decide) fun cdv A outer s H Ek vs cx => by
    unfold b_Joined_shown
    exact (sb_one (ss_ret (se_bin (op_addO cx.K) (se_bin (op_addO cx.K) (se_bin (op_addO cx.K) (se_bin (op_addO cx.K) (se_bin (op_addO cx.K) (se_bin (op_addO cx.K) se_str (se_meth0 cx.dn (fun c fn h => Fc.mt h) (se_attr cx (fun c f h => Fc.fld h) (se_nm 0 (pv 0))))) se_str) (se_meth0 cx.dn (fun c fn h => Fc.mt h) (se_nm 0 (pv 0)))) se_str) (se_meth0 cx.dn (fun c fn h => Fc.mt h) (se_attr cx (fun c f h => Fc.fld h) (se_nm 0 (pv 0))))) se_str)))
theorem ok_Plus_worth (Fc : Facts W P w mg base n) {f : Addr} {fd : FuncData} (F : Fun W.K "worth" "Plus.worth" st_Plus_worth f fd) : FnOk P w W.K mg base (L2.CX P w) (2 * n + 2) f fd ["self", "values"] (spD W (callN (n + 1)) 45 2) :=
  def_ok (B := b_Plus_worth (callN n)) F sc_Plus_worth (fun _ => rfl) (by decide) fun cdv A outer s H Ek vs cx => by
    unfold b_Plus_worth
    exact (sb_one (ss_ret (se_bin (op_addO cx.K) (se_meth cx.dn (fun c fn h => Fc.mt h) (se_attr cx (fun c f h => Fc.fld h) (se_nm 0 (pv 0))) (sa_cons (se_nm 1 (pv 1)) sa_nil)) (se_meth cx.dn (fun c fn h => Fc.mt h) (se_attr cx (fun c f h => Fc.fld h) (se_nm 0 (pv 0))) (sa_cons (se_nm 1 (pv 1)) sa_nil)))))
theorem ok_Minus_sign (Fc : Facts W P w mg base n) {f : Addr} {fd : FuncData} (F : Fun W.K "sign" "Minus.sign" st_Minus_sign f fd) : FnOk P w W.K mg base (L2.CX P w) (2 * n + 2) f fd ["self"] (spD W (callN (n + 1)) 46 1) :=
  def_ok (B := b_Minus_sign (callN n)) F sc_Minus_sign (fun _ => rfl) (by decide) fun cdv A outer s H Ek vs cx => by
    unfold b_Minus_sign
    exact (sb_one (ss_ret se_str))
theorem ok_Minus_worth (Fc : Facts W P w mg base n) {f : Addr} {fd : FuncData} (F : Fun W.K "worth" "Minus.worth" st_Minus_worth f fd) : FnOk P w W.K mg base (L2.CX P w) (2 * n + 2) f fd ["self", "values"] (spD W (callN (n + 1)) 47 2) :=
  def_ok (B := b_Minus_worth (callN n)) F sc_Minus_worth (fun _ => rfl) (by decide) fun cdv A outer s H Ek vs cx => by
    unfold b_Minus_worth
    exact (sb_one (ss_ret (se_bin op_subO (se_meth cx.dn (fun c fn h => Fc.mt h) (se_attr cx (fun c f h => Fc.fld h) (se_nm 0 (pv 0))) (sa_cons (se_nm 1 (pv 1)) sa_nil)) (se_meth cx.dn (fun c fn h => Fc.mt h) (se_attr cx (fun c f h => Fc.fld h) (se_nm 0 (pv 0))) (sa_cons (se_nm 1 (pv 1)) sa_nil)))))
theorem ok_Times_sign (Fc : Facts W P w mg base n) {f : Addr} {fd : FuncData} (F : Fun W.K "sign" "Times.sign" st_Times_sign f fd) : FnOk P w W.K mg base (L2.CX P w) (2 * n + 2) f fd ["self"] (spD W (callN (n + 1)) 48 1) :=
  def_ok (B := b_Times_sign (callN n)) F sc_Times_sign (fun _ => rfl) (by decide) fun cdv A outer s H Ek vs cx => by
    unfold b_Times_sign
    exact (sb_one (ss_ret se_str))
theorem ok_Times_worth (Fc : Facts W P w mg base n) {f : Addr} {fd : FuncData} (F : Fun W.K "worth" "Times.worth" st_Times_worth f fd) : FnOk P w W.K mg base (L2.CX P w) (2 * n + 2) f fd ["self", "values"] (spD W (callN (n + 1)) 49 2) :=
  def_ok (B := b_Times_worth (callN n)) F sc_Times_worth (fun _ => rfl) (by decide) fun cdv A outer s H Ek vs cx => by
    unfold b_Times_worth
    exact (sb_one (ss_ret (se_bin op_mulO (se_meth cx.dn (fun c fn h => Fc.mt h) (se_attr cx (fun c f h => Fc.fld h) (se_nm 0 (pv 0))) (sa_cons (se_nm 1 (pv 1)) sa_nil)) (se_meth cx.dn (fun c fn h => Fc.mt h) (se_attr cx (fun c f h => Fc.fld h) (se_nm 0 (pv 0))) (sa_cons (se_nm 1 (pv 1)) sa_nil)))))
theorem ok_Tie___init__ (Fc : Facts W P w mg base n) {f : Addr} {fd : FuncData} (F : Fun W.K "__init__" "Tie.__init__" st_Tie___init__ f fd) : FnOk P w W.K mg base (L2.CX P w) (2 * n + 2) f fd ["self", "saying", "table", "falling"] (spD W (callN (n + 1)) 292 4) :=
  def_ok (B := b_Tie___init__ (callN n)) F sc_Tie___init__ (fun _ => rfl) (by decide) fun cdv A outer s H Ek vs cx => by
    unfold b_Tie___init__
    exact (sb_cons (ss_fld cx (fun c f h => Fc.fld h) (se_nm 0 (pv 0)) (se_nm 1 (pv 1))) (sb_cons (ss_fld cx (fun c f h => Fc.fld h) (se_nm 0 (pv 0)) (se_nm 2 (pv 2))) (sb_one (ss_fld cx (fun c f h => Fc.fld h) (se_nm 0 (pv 0)) (se_nm 3 (pv 3))))))
theorem ok_Change___init__ (Fc : Facts W P w mg base n) {f : Addr} {fd : FuncData} (F : Fun W.K "__init__" "Change.__init__" st_Change___init__ f fd) : FnOk P w W.K mg base (L2.CX P w) (2 * n + 2) f fd ["self", "name"] (spD W (callN (n + 1)) 132 2) :=
  def_ok (B := b_Change___init__ (callN n)) F sc_Change___init__ (fun _ => rfl) (by decide) fun cdv A outer s H Ek vs cx => by
    unfold b_Change___init__
    exact (sb_one (ss_fld cx (fun c f h => Fc.fld h) (se_nm 0 (pv 0)) (se_nm 1 (pv 1))))
theorem ok_Change_shown (Fc : Facts W P w mg base n) {f : Addr} {fd : FuncData} (F : Fun W.K "shown" "Change.shown" st_Change_shown f fd) : FnOk P w W.K mg base (L2.CX P w) (2 * n + 2) f fd ["self"] (spD W (callN (n + 1)) 143 1) :=
  def_ok (B := b_Change_shown (callN n)) F sc_Change_shown (fun _ => rfl) (by decide) fun cdv A outer s H Ek vs cx => by
    unfold b_Change_shown
    exact (sb_one (ss_ret (se_attr cx (fun c f h => Fc.fld h) (se_nm 0 (pv 0)))))
theorem ok_Put___init__ (Fc : Facts W P w mg base n) {f : Addr} {fd : FuncData} (F : Fun W.K "__init__" "Put.__init__" st_Put___init__ f fd) : FnOk P w W.K mg base (L2.CX P w) (2 * n + 2) f fd ["self", "name", "one"] (spD W (callN (n + 1)) 134 3) :=
  def_ok (B := b_Put___init__ (callN n)) F sc_Put___init__ (fun _ => rfl) (by decide) fun cdv A outer s H Ek vs cx => by
    unfold b_Put___init__
    exact (sb_cons (ss_expr (se_cinit cx.dn Fc.i_Change___init__ (sa_cons (se_nm 0 (pv 0)) (sa_cons (se_nm 1 (pv 1)) sa_nil)) rfl (by rfl))) (sb_one (ss_fld cx (fun c f h => Fc.fld h) (se_nm 0 (pv 0)) (se_nm 2 (pv 2)))))
theorem ok_Put_shown (Fc : Facts W P w mg base n) {f : Addr} {fd : FuncData} (F : Fun W.K "shown" "Put.shown" st_Put_shown f fd) : FnOk P w W.K mg base (L2.CX P w) (2 * n + 2) f fd ["self"] (spD W (callN (n + 1)) 145 1) :=
  def_ok (B := b_Put_shown (callN n)) F sc_Put_shown (fun _ => rfl) (by decide) fun cdv A outer s H Ek vs cx => by
    unfold b_Put_shown
    exact (sb_one (ss_ret (se_bin (op_addO cx.K) (se_bin (op_addO cx.K) (se_attr cx (fun c f h => Fc.fld h) (se_nm 0 (pv 0))) se_str) (se_meth0 cx.dn (fun c fn h => Fc.mt h) (se_attr cx (fun c f h => Fc.fld h) (se_nm 0 (pv 0)))))))
theorem ok_Any___init__ (Fc : Facts W P w mg base n) {f : Addr} {fd : FuncData} (F : Fun W.K "__init__" "Any.__init__" st_Any___init__ f fd) : FnOk P w W.K mg base (L2.CX P w) (2 * n + 2) f fd ["self", "name", "one", "other"] (spD W (callN (n + 1)) 136 4) :=
  def_ok (B := b_Any___init__ (callN n)) F sc_Any___init__ (fun _ => rfl) (by decide) fun cdv A outer s H Ek vs cx => by
    unfold b_Any___init__
    exact (sb_cons (ss_expr (se_cinit cx.dn Fc.i_Change___init__ (sa_cons (se_nm 0 (pv 0)) (sa_cons (se_nm 1 (pv 1)) sa_nil)) rfl (by rfl))) (sb_cons (ss_fld cx (fun c f h => Fc.fld h) (se_nm 0 (pv 0)) (se_nm 2 (pv 2))) (sb_one (ss_fld cx (fun c f h => Fc.fld h) (se_nm 0 (pv 0)) (se_nm 3 (pv 3))))))
theorem ok_Any_shown (Fc : Facts W P w mg base n) {f : Addr} {fd : FuncData} (F : Fun W.K "shown" "Any.shown" st_Any_shown f fd) : FnOk P w W.K mg base (L2.CX P w) (2 * n + 2) f fd ["self"] (spD W (callN (n + 1)) 147 1) :=
  def_ok (B := b_Any_shown (callN n)) F sc_Any_shown (fun _ => rfl) (by decide) fun cdv A outer s H Ek vs cx => by
    unfold b_Any_shown
    exact (sb_one (ss_ret (se_bin (op_addO cx.K) (se_bin (op_addO cx.K) (se_bin (op_addO cx.K) (se_bin (op_addO cx.K) (se_attr cx (fun c f h => Fc.fld h) (se_nm 0 (pv 0))) se_str) (se_meth0 cx.dn (fun c fn h => Fc.mt h) (se_attr cx (fun c f h => Fc.fld h) (se_nm 0 (pv 0))))) se_str) (se_meth0 cx.dn (fun c fn h => Fc.mt h) (se_attr cx (fun c f h => Fc.fld h) (se_nm 0 (pv 0)))))))
theorem ok_Deed___init__ (Fc : Facts W P w mg base n) {f : Addr} {fd : FuncData} (F : Fun W.K "__init__" "Deed.__init__" st_Deed___init__ f fd) : FnOk P w W.K mg base (L2.CX P w) (2 * n + 2) f fd ["self", "called", "when", "changes"] (spD W (callN (n + 1)) 168 4) :=
  def_ok (B := b_Deed___init__ (callN n)) F sc_Deed___init__ (fun _ => rfl) (by decide) fun cdv A outer s H Ek vs cx => by
    unfold b_Deed___init__
    exact (sb_cons (ss_fld cx (fun c f h => Fc.fld h) (se_nm 0 (pv 0)) (se_nm 1 (pv 1))) (sb_cons (ss_fld cx (fun c f h => Fc.fld h) (se_nm 0 (pv 0)) (se_nm 2 (pv 2))) (sb_one (ss_fld cx (fun c f h => Fc.fld h) (se_nm 0 (pv 0)) (se_nm 3 (pv 3))))))
theorem ok_Machine___init__ (Fc : Facts W P w mg base n) {f : Addr} {fd : FuncData} (F : Fun W.K "__init__" "Machine.__init__" st_Machine___init__ f fd) : FnOk P w W.K mg base (L2.CX P w) (2 * n + 2) f fd ["self", "places", "keeps", "deeds"] (spD W (callN (n + 1)) 163 4) :=
  def_ok (B := b_Machine___init__ (callN n)) F sc_Machine___init__ (fun _ => rfl) (by decide) fun cdv A outer s H Ek vs cx => by
    unfold b_Machine___init__
    exact (sb_cons (ss_fld cx (fun c f h => Fc.fld h) (se_nm 0 (pv 0)) (se_nm 1 (pv 1))) (sb_cons (ss_fld cx (fun c f h => Fc.fld h) (se_nm 0 (pv 0)) (se_nm 2 (pv 2))) (sb_one (ss_fld cx (fun c f h => Fc.fld h) (se_nm 0 (pv 0)) (se_nm 3 (pv 3))))))
theorem ok_Machine_first (Fc : Facts W P w mg base n) {f : Addr} {fd : FuncData} (F : Fun W.K "first" "Machine.first" st_Machine_first f fd) : FnOk P w W.K mg base (L2.CX P w) (2 * n + 2) f fd ["self"] (spD W (callN (n + 1)) 164 1) :=
  def_ok (B := b_Machine_first (callN n)) F sc_Machine_first (fun _ => rfl) (by decide) fun cdv A outer s H Ek vs cx => by
    unfold b_Machine_first
    exact (sb_one (ss_ret (se_ty (cr_tupleO cx.K) (sa_cons (se_comp (own := [(Str.ofString "name", 1), (Str.ofString "low", 2), (Str.ofString "high", 3), (Str.ofString "start", 4)]) cx (N' := N_Machine_first) (sc' := defScope st_Machine_first) rfl rfl (by decide +kernel) (si_seq cx (se_attr cx (fun c f h => Fc.fld h) (se_nm 0 (pv 0)))) (fun s1 H1 C1 cl1 fp1 => (sg_tup (Ctx.blk cx s1 H1 _ _ fp1) (sgs_cons (sg_name 1 (pg_name (i := 1) (Ctx.blk cx s1 H1 _ _ fp1).nd rfl (by first | exact .inl rfl | exact .inr rfl)) (by decide)) (sgs_cons (sg_name 2 (pg_name (i := 2) (Ctx.blk cx s1 H1 _ _ fp1).nd rfl (by first | exact .inl rfl | exact .inr rfl)) (by decide)) (sgs_cons (sg_name 3 (pg_name (i := 3) (Ctx.blk cx s1 H1 _ _ fp1).nd rfl (by first | exact .inl rfl | exact .inr rfl)) (by decide)) (sgs_cons (sg_name 4 (pg_name (i := 4) (Ctx.blk cx s1 H1 _ _ fp1).nd rfl (by first | exact .inl rfl | exact .inr rfl)) (by decide)) sgs_nil)))))) (fun s1 H1 C1 cl1 fp1 => (se_nm 4 (pv 4)))) sa_nil) fun a b => pe_callTy a (by rfl) Fc.m_tuple (by decide +kernel) b)))
theorem ok_Machine_values_in (Fc : Facts W P w mg base n) {f : Addr} {fd : FuncData} (F : Fun W.K "values_in" "Machine.values_in" st_Machine_values_in f fd) : FnOk P w W.K mg base (L2.CX P w) (2 * n + 2) f fd ["self", "room"] (spD W (callN (n + 1)) 165 2) :=
  def_ok (B := b_Machine_values_in (callN n)) F sc_Machine_values_in (fun _ => rfl) (by decide) fun cdv A outer s H Ek vs cx => by
    unfold b_Machine_values_in
    exact (sb_cons (ss_set (i := 2) se_dnew (fun h => ps_set (i := 2) cx.nd rfl (by first | exact .inl rfl | exact .inr rfl) h)) (sb_cons (ss_for (own := [3, 4]) cx po_of (si_zip cx (by rfl) Fc.m_zip (sa_cons (se_attr cx (fun c f h => Fc.fld h) (se_nm 0 (pv 0))) (sa_cons (se_nm 1 (pv 1)) sa_nil))) (fun _ => (sg_tup cx (sgs_cons (sg_name 3 (pg_name (i := 3) cx.nd rfl (by first | exact .inl rfl | exact .inr rfl)) (by decide)) (sgs_cons (sg_name 4 (pg_name (i := 4) cx.nd rfl (by first | exact .inl rfl | exact .inr rfl)) (by decide)) sgs_nil)))) (fun _ => (sb_one (ss_st cx (se_nm 2 (pv 2)) (se_ix cx (se_nm 3 (pv 3)) se_int) (se_nm 4 (pv 4)) (fun a b d e => ps_asg d (pg_sub a b e)))))) (sb_one (ss_ret (se_nm 2 (pv 2))))))
end
local macro_rules | `(tactic| walk_at "vi") => `(tactic| simp -implicitDefEqProofs only [bind_ok, bind_exc, bind_stuck, cst_a, nm_a, nm_pd, nm_ld, nm_pl, nm_ll, nm_pm, nm_lm, nm_pi, nm_li, ob_val, ob_slot, obj_p, obj_l, setO_a, setC_p, setC_l, frzs_nil, frzs_val, frzs_slot, frzC_s, frzV_t, frzB_s, full_p, full_l, full_m, full_i, fullF_n, fullF_c, er_p, er_l, er_m, er_i, erF_n, erF_c, evs_n, evs_c, evC_a, evC2_a, outE_s, bin_a, binC_a, binD_a, binF_s, una_a, unaD_a, unaF_s, tupE_a, tupC_a, tupG_s, tupH_t, lstE_a, lstC_a, lstG_s, lstH_t, takes_n, takes_v, takes_s, takC_p, takC_l, takC_m, takC_i, takB_s, puts_n, puts_v, puts_s, callA_a, callR_a, callC_s, callD_o, callD_x, obsL_n, obsL_c, obsB_s, bltE_a, bltR_a, bltC_s, bmE_a, bmC_a, bmD_a, ty_s, ty_t, ty_n, ty_b, ty_0, ty_pl, ty_l, ty_pm, ty_m, mutE_a, mutC_a, mutD_a, mutG_s, mutH_s, mutI_s, putR_s, putR_v, app_a, stS_a, stC_a, stC2_a, stD_a, stG_s, stH_s, stI_s, noE_a, intE_a, intC_s, slE_a, slC_a, slC2_a, slD_a, slI_s, slO_l, slO_pl, slO_t, slO_s, revO_l, revO_p, truT_a, truC_a, truD_s, tru_b, tru_i, tru_n, tru_l, tru_pl, tru_t, blT_a, blC_s, andT_a, orT_a, notT_a, andC_t, andC_f, orC_t, orC_f, notC_a, bl1_a, andE_a, orE_a, notE_a, andEC_t, andEC_f, orEC_t, orEC_f, notEC_a, ifE_a, ifEC_t, ifEC_f, seqS_a, seqC_n, seqC_r, seqC_b, seqC_c, nextS_a, dropS_a, drpC_a, ifS_a, ifC_t, ifC_f, retS_a, retR_v, retR_s, retC_l, retC_p, retF_s, storeS_a, stoC_u, stoC_lh, getE1_a, getG1_a, getH1_s, getI1_a, getD1_a, getE2_a, getG2_a, getH2_s, getJ2_a, getI2_a, getD2_a, dicOf_l, dicOf_p, chE_a, chA1_a, chB1_a, chB2_s, chB3_t, chB3_f, chB4_a, dispE_a, dispC_a, into_b, into_i, mvE_a, mvC_pd, mvC_ld, mvC_ll, mvC_lm, mvC_li, stoC_fr, fre_un, fre_d, stoC_pd, stoC_ld, stoC_ll, stoC_lm, stoC_li, asgS_a, asgR_v, asgR_s, asgB_s, asgF_s, nmT_a, tupT_a, foldT_c, folC_s, foldT_n, setS_a, setSC_a, setD_s, forS_a, forC_a, forD_s, forF_s, forR_a, forQ_f, forQ_t, has_n, has_s, has_v, mapG_o, mapD_s, lokC_a, loop_n, loop_c, lopD_s, lopC_n, lopC_c, lopC_b, lopC_r, compE_a, cmpC_a, cmpD_s, cmpF_s, cmpV_t, cmpW_s, compL_n, compL_c, cplT_s, cplC_t, cplC_f, cplX_o, cplY_s, add_i, sub_i, mul_i, mod_i, div_i, mulC_l, mulC_r, lt_i, le_i, gt_i, ge_i, eq_i, ne_i, eq_s, ne_s, ix_l, ix_pl, ix_t, len_l, len_pl, len_t, tup_l, tup_pl, tup_t, list_l, list_pl, list_t, max_i, min_i, isN_f, isN_t, n_n, n_s, n_i, n_t, n_l, it_l, it_pl, it_t, addL, addLp, atI_lt, atI_nat, st_l, if_s, backs_n, backs_c, backs_d, backB_s, endC_r, endC_n, endC_x, endB_s, endX_s, turn_a, turnD_s, turnF_n, turnF_c, whlC_t, whlC_f, whlE_n, whlE_c, whlE_b, whlE_r, fldS_a, fldD_a, fldE_a, fldH_s, fldI_s, fldC_a, putFO_n, putFO_c, attrE_a, atr_p, atr_i, methE_a, methC_a, methF_s, methD_a, methG_p, methG_i, newE_a, makeA_a, mkC_a, mkD_s, mkE_o, str_i, sum_l, ins_0, enum_l, enum_pl, add_t, List.lookup_nil, eq_self, List.map_cons, List.map_nil, List.length_cons, List.length_nil, List.length_map, List.length_append, List.cons_append, List.nil_append, List.getElem?_cons_zero, List.getElem?_cons_succ, List.set_cons_zero, List.set_cons_succ, List.replicate_succ, List.replicate_zero, Option.bind_some, Option.map_some, Option.bind_none, Option.map_none, reduceIte, Nat.reduceAdd, Nat.reduceSub, Nat.reduceLeDiff, Nat.reduceBEq, Nat.reduceLT, Int.reduceLT, Int.reduceLE, Int.reduceToNat, Int.reduceAdd, Int.reduceEq, Int.cast_ofNat_Int, Int.reduceMul, Int.reduceSub, Int.reduceMod, Int.reduceDiv, Nat.zero_add, if_true, if_false, decide_true, decide_false, Bool.false_eq_true, Bool.not_true, Bool.not_false, Bool.and_true, Bool.true_and, Bool.and_false, Bool.false_and, Bool.or_false, Bool.or_true, true_and, and_true, List.all_cons, List.all_nil, Nat.le_refl, Int.le_refl, Int.reduceNeg, wipeG, restG, isPure_a, pur_un, pur_ld, pur_pd, pur_fr, isPar, lock_n, lock_c, unlk_n, unlk_c, lk_p, lk_u, lk_d, lk_l, lk_m, lk_i, lk_h, lk_fr, lk_no, un_s, un_l, un_u, un_pp, un_lp, un_fr, freeR, isSl, List.any_cons, List.any_nil, List.getElem?_map, Bool.false_xor, Bool.true_xor, Bool.xor_false, Bool.xor_true, List.filter_cons, List.range_zero])
local macro_rules | `(tactic| walk_at "vi*") => `(tactic| simp -implicitDefEqProofs only [*, augS_a, itmE_a, itmC_d, setI_a, frzE_a, frzF_s, llsE_a, augC_i, augE_a, augD_i, bind_ok, bind_exc, bind_stuck, cst_a, nm_a, nm_pd, nm_ld, nm_pl, nm_ll, nm_pm, nm_lm, nm_pi, nm_li, ob_val, ob_slot, obj_p, obj_l, setO_a, setC_p, setC_l, frzs_nil, frzs_val, frzs_slot, frzC_s, frzV_t, frzB_s, full_p, full_l, full_m, full_i, fullF_n, fullF_c, er_p, er_l, er_m, er_i, erF_n, erF_c, evs_n, evs_c, evC_a, evC2_a, outE_s, bin_a, binC_a, binD_a, binF_s, una_a, unaD_a, unaF_s, tupE_a, tupC_a, tupG_s, tupH_t, lstE_a, lstC_a, lstG_s, lstH_t, takes_n, takes_v, takes_s, takC_p, takC_l, takC_m, takC_i, takB_s, puts_n, puts_v, puts_s, callA_a, callR_a, callC_s, callD_o, callD_x, obsL_n, obsL_c, obsB_s, bltE_a, bltR_a, bltC_s, bmE_a, bmC_a, bmD_a, ty_s, ty_t, ty_n, ty_b, ty_0, ty_pl, ty_l, ty_pm, ty_m, mutE_a, mutC_a, mutD_a, mutG_s, mutH_s, mutI_s, putR_s, putR_v, app_a, stS_a, stC_a, stC2_a, stD_a, stG_s, stH_s, stI_s, noE_a, intE_a, intC_s, slE_a, slC_a, slC2_a, slD_a, slI_s, slO_l, slO_pl, slO_t, slO_s, revO_l, revO_p, truT_a, truC_a, truD_s, tru_b, tru_i, tru_n, tru_l, tru_pl, tru_t, blT_a, blC_s, andT_a, orT_a, notT_a, andC_t, andC_f, orC_t, orC_f, notC_a, bl1_a, andE_a, orE_a, notE_a, andEC_t, andEC_f, orEC_t, orEC_f, notEC_a, ifE_a, ifEC_t, ifEC_f, seqS_a, seqC_n, seqC_r, seqC_b, seqC_c, nextS_a, dropS_a, drpC_a, ifS_a, ifC_t, ifC_f, retS_a, retR_v, retR_s, retC_l, retC_p, retF_s, storeS_a, stoC_u, stoC_lh, getE1_a, getG1_a, getH1_s, getI1_a, getD1_a, getE2_a, getG2_a, getH2_s, getJ2_a, getI2_a, getD2_a, dicOf_l, dicOf_p, chE_a, chA1_a, chB1_a, chB2_s, chB3_t, chB3_f, chB4_a, dispE_a, dispC_a, into_b, into_i, mvE_a, mvC_pd, mvC_ld, mvC_ll, mvC_lm, mvC_li, stoC_fr, fre_un, fre_d, stoC_pd, stoC_ld, stoC_ll, stoC_lm, stoC_li, asgS_a, asgR_v, asgR_s, asgB_s, asgF_s, nmT_a, tupT_a, foldT_c, folC_s, foldT_n, setS_a, setSC_a, setD_s, forS_a, forC_a, forD_s, forF_s, forR_a, forQ_f, forQ_t, has_n, has_s, has_v, mapG_o, mapD_s, lokC_a, loop_n, loop_c, lopD_s, lopC_n, lopC_c, lopC_b, lopC_r, compE_a, cmpC_a, cmpD_s, cmpF_s, cmpV_t, cmpW_s, compL_n, compL_c, cplT_s, cplC_t, cplC_f, cplX_o, cplY_s, add_i, sub_i, mul_i, mod_i, div_i, mulC_l, mulC_r, lt_i, le_i, gt_i, ge_i, eq_i, ne_i, eq_s, ne_s, ix_l, ix_pl, ix_t, len_l, len_pl, len_t, tup_l, tup_pl, tup_t, list_l, list_pl, list_t, max_i, min_i, isN_f, isN_t, n_n, n_s, n_i, n_t, n_l, it_l, it_pl, it_t, addL, addLp, atI_lt, atI_nat, st_l, if_s, backs_n, backs_c, backs_d, backB_s, endC_r, endC_n, endC_x, endB_s, endX_s, turn_a, turnD_s, turnF_n, turnF_c, whlC_t, whlC_f, whlE_n, whlE_c, whlE_b, whlE_r, fldS_a, fldD_a, fldE_a, fldH_s, fldI_s, fldC_a, putFO_n, putFO_c, attrE_a, atr_p, atr_i, methE_a, methC_a, methF_s, methD_a, methG_p, methG_i, newE_a, makeA_a, mkC_a, mkD_s, mkE_o, str_i, sum_l, ins_0, enum_l, enum_pl, add_t, List.lookup_nil, eq_self, List.map_cons, List.map_nil, List.length_cons, List.length_nil, List.length_map, List.length_append, List.cons_append, List.nil_append, List.getElem?_cons_zero, List.getElem?_cons_succ, List.set_cons_zero, List.set_cons_succ, List.replicate_succ, List.replicate_zero, Option.bind_some, Option.map_some, Option.bind_none, Option.map_none, reduceIte, Nat.reduceAdd, Nat.reduceSub, Nat.reduceLeDiff, Nat.reduceBEq, Nat.reduceLT, Int.reduceLT, Int.reduceLE, Int.reduceToNat, Int.reduceAdd, Int.reduceEq, Int.cast_ofNat_Int, Int.reduceMul, Int.reduceSub, Int.reduceMod, Int.reduceDiv, Nat.zero_add, if_true, if_false, decide_true, decide_false, Bool.false_eq_true, Bool.not_true, Bool.not_false, Bool.and_true, Bool.true_and, Bool.and_false, Bool.false_and, Bool.or_false, Bool.or_true, true_and, and_true, List.all_cons, List.all_nil, Nat.le_refl, Int.le_refl, Int.reduceNeg, wipeG, restG, isPure_a, pur_un, pur_ld, pur_pd, pur_fr, isPar, lock_n, lock_c, unlk_n, unlk_c, lk_p, lk_u, lk_d, lk_l, lk_m, lk_i, lk_h, lk_fr, lk_no, un_s, un_l, un_u, un_pp, un_lp, un_fr, freeR, isSl, List.any_cons, List.any_nil, List.getElem?_map, Bool.false_xor, Bool.true_xor, Bool.xor_false, Bool.xor_true, List.filter_cons, List.range_zero])
local macro_rules | `(tactic| walk_at "vi*w") => `(tactic| simp -implicitDefEqProofs only [*, augS_a, itmE_a, itmC_d, setI_a, frzE_a, frzF_s, llsE_a, augC_i, augE_a, augD_i, while_s, bind_ok, bind_exc, bind_stuck, cst_a, nm_a, nm_pd, nm_ld, nm_pl, nm_ll, nm_pm, nm_lm, nm_pi, nm_li, ob_val, ob_slot, obj_p, obj_l, setO_a, setC_p, setC_l, frzs_nil, frzs_val, frzs_slot, frzC_s, frzV_t, frzB_s, full_p, full_l, full_m, full_i, fullF_n, fullF_c, er_p, er_l, er_m, er_i, erF_n, erF_c, evs_n, evs_c, evC_a, evC2_a, outE_s, bin_a, binC_a, binD_a, binF_s, una_a, unaD_a, unaF_s, tupE_a, tupC_a, tupG_s, tupH_t, lstE_a, lstC_a, lstG_s, lstH_t, takes_n, takes_v, takes_s, takC_p, takC_l, takC_m, takC_i, takB_s, puts_n, puts_v, puts_s, callA_a, callR_a, callC_s, callD_o, callD_x, obsL_n, obsL_c, obsB_s, bltE_a, bltR_a, bltC_s, bmE_a, bmC_a, bmD_a, ty_s, ty_t, ty_n, ty_b, ty_0, ty_pl, ty_l, ty_pm, ty_m, mutE_a, mutC_a, mutD_a, mutG_s, mutH_s, mutI_s, putR_s, putR_v, app_a, stS_a, stC_a, stC2_a, stD_a, stG_s, stH_s, stI_s, noE_a, intE_a, intC_s, slE_a, slC_a, slC2_a, slD_a, slI_s, slO_l, slO_pl, slO_t, slO_s, revO_l, revO_p, truT_a, truC_a, truD_s, tru_b, tru_i, tru_n, tru_l, tru_pl, tru_t, blT_a, blC_s, andT_a, orT_a, notT_a, andC_t, andC_f, orC_t, orC_f, notC_a, bl1_a, andE_a, orE_a, notE_a, andEC_t, andEC_f, orEC_t, orEC_f, notEC_a, ifE_a, ifEC_t, ifEC_f, seqS_a, seqC_n, seqC_r, seqC_b, seqC_c, nextS_a, dropS_a, drpC_a, ifS_a, ifC_t, ifC_f, retS_a, retR_v, retR_s, retC_l, retC_p, retF_s, storeS_a, stoC_u, stoC_lh, getE1_a, getG1_a, getH1_s, getI1_a, getD1_a, getE2_a, getG2_a, getH2_s, getJ2_a, getI2_a, getD2_a, dicOf_l, dicOf_p, chE_a, chA1_a, chB1_a, chB2_s, chB3_t, chB3_f, chB4_a, dispE_a, dispC_a, into_b, into_i, mvE_a, mvC_pd, mvC_ld, mvC_ll, mvC_lm, mvC_li, stoC_fr, fre_un, fre_d, stoC_pd, stoC_ld, stoC_ll, stoC_lm, stoC_li, asgS_a, asgR_v, asgR_s, asgB_s, asgF_s, nmT_a, tupT_a, foldT_c, folC_s, foldT_n, setS_a, setSC_a, setD_s, forS_a, forC_a, forD_s, forF_s, forR_a, forQ_f, forQ_t, has_n, has_s, has_v, mapG_o, mapD_s, lokC_a, loop_n, loop_c, lopD_s, lopC_n, lopC_c, lopC_b, lopC_r, compE_a, cmpC_a, cmpD_s, cmpF_s, cmpV_t, cmpW_s, compL_n, compL_c, cplT_s, cplC_t, cplC_f, cplX_o, cplY_s, add_i, sub_i, mul_i, mod_i, div_i, mulC_l, mulC_r, lt_i, le_i, gt_i, ge_i, eq_i, ne_i, eq_s, ne_s, ix_l, ix_pl, ix_t, len_l, len_pl, len_t, tup_l, tup_pl, tup_t, list_l, list_pl, list_t, max_i, min_i, isN_f, isN_t, n_n, n_s, n_i, n_t, n_l, it_l, it_pl, it_t, addL, addLp, atI_lt, atI_nat, st_l, if_s, backs_n, backs_c, backs_d, backB_s, endC_r, endC_n, endC_x, endB_s, endX_s, turn_a, turnD_s, turnF_n, turnF_c, whlC_t, whlC_f, whlE_n, whlE_c, whlE_b, whlE_r, fldS_a, fldD_a, fldE_a, fldH_s, fldI_s, fldC_a, putFO_n, putFO_c, attrE_a, atr_p, atr_i, methE_a, methC_a, methF_s, methD_a, methG_p, methG_i, newE_a, makeA_a, mkC_a, mkD_s, mkE_o, str_i, sum_l, ins_0, enum_l, enum_pl, add_t, List.lookup_nil, eq_self, List.map_cons, List.map_nil, List.length_cons, List.length_nil, List.length_map, List.length_append, List.cons_append, List.nil_append, List.getElem?_cons_zero, List.getElem?_cons_succ, List.set_cons_zero, List.set_cons_succ, List.replicate_succ, List.replicate_zero, Option.bind_some, Option.map_some, Option.bind_none, Option.map_none, reduceIte, Nat.reduceAdd, Nat.reduceSub, Nat.reduceLeDiff, Nat.reduceBEq, Nat.reduceLT, Int.reduceLT, Int.reduceLE, Int.reduceToNat, Int.reduceAdd, Int.reduceEq, Int.cast_ofNat_Int, Int.reduceMul, Int.reduceSub, Int.reduceMod, Int.reduceDiv, Nat.zero_add, if_true, if_false, decide_true, decide_false, Bool.false_eq_true, Bool.not_true, Bool.not_false, Bool.and_true, Bool.true_and, Bool.and_false, Bool.false_and, Bool.or_false, Bool.or_true, true_and, and_true, List.all_cons, List.all_nil, Nat.le_refl, Int.le_refl, Int.reduceNeg, wipeG, restG, isPure_a, pur_un, pur_ld, pur_pd, pur_fr, isPar, lock_n, lock_c, unlk_n, unlk_c, lk_p, lk_u, lk_d, lk_l, lk_m, lk_i, lk_h, lk_fr, lk_no, un_s, un_l, un_u, un_pp, un_lp, un_fr, freeR, isSl, List.any_cons, List.any_nil, List.getElem?_map, Bool.false_xor, Bool.true_xor, Bool.xor_false, Bool.xor_true, List.filter_cons, List.range_zero])
abbrev ABC : Str := Str.ofString "abcdefghijklmnopqrstuvwxyz"
def ltr (i : Int) : Str := ⟨#[97 + i.toNat]⟩
theorem abc_at (i : Int) (h0 : 0 ≤ i) (h1 : i < 26) : ixO (.pure (.str ABC)) (.pure (.int i)) = some (.pure (.str (ltr i))) := by
  have e : ABC.cps.toList = List.range' 97 26 := rfl
  have : ixO (.pure (.str ABC)) (.pure (.int i)) = if ABC.length ≤ 16777216 then (atI ABC.cps.toList i).map fun c => .pure (.str ⟨#[c]⟩) else none := rfl
  rw [this, if_pos (by decide), e, atI_lt _ _ h0, List.getElem?_range' (by omega)]
  simp [ltr]
theorem ltr_len (i : Int) : (ltr i).length = 1 := rfl
def O15 : List Str := ["name", "from", "to", "at", "keep", "deed", "when", "do", "any", "and", "or", "not", "yes", "tie", "step"]
def O3 : List Str := ["for", "none", "falls"]
inductive Op3 where | p | m | t
inductive T3 where
  | num (n : Int) | name (s : Str) | op (o : Op3) (a b : T3)
def sg : Op3 → Str
  | .p => "+" | .m => "-" | .t => "*"
def cn : Op3 → Str
  | .p => "Plus" | .m => "Minus" | .t => "Times"
def opI : Op3 → Int → Int → Int
  | .p, x, y => x + y | .m, x, y => x - y | .t, x, y => x * y
def tD : T3 → D
  | .num n => .tup [.str "number", .int n]
  | .name s => .tup [.str "name", .str s]
  | .op o a b => .tup [.str (sg o), tD a, tD b]
def icls : T3 → Str
  | .num _ => "Number" | .name _ => "Named" | .op o _ _ => cn o
def idfs : T3 → List (Str × D)
  | .num n => [("told", .int n)]
  | .name s => [("name", .str s)]
  | .op _ a b => [("one", .ins (icls a) (idfs a)), ("other", .ins (icls b) (idfs b))]
abbrev insD (t : T3) : D := .ins (icls t) (idfs t)
def ifls : T3 → List (Str × O)
  | .num n => [("told", .pure (.int n))]
  | .name s => [("name", .pure (.str s))]
  | .op _ a b => [("one", .pure (insD a)), ("other", .pure (insD b))]
theorem ifls_full (t : T3) : O.fullF (ifls t) = true := by cases t <;> simp [ifls, O.fullF, O.full]
theorem ifls_er (t : T3) : O.erF (ifls t) = idfs t := by cases t <;> simp [ifls, idfs, O.erF, O.er]
def dep : T3 → Nat
  | .op _ a b => max (dep a) (dep b) + 1
  | _ => 0
def siz : T3 → Nat
  | .op _ a b => siz a + siz b
  | _ => 1
def val (m : Str → Int) : T3 → Int
  | .num n => n
  | .name s => m s
  | .op o a b => opI o (val m a) (val m b)
/-- fit to a dict -/
def Fit (l : List (D × D)) (m : Str → Int) : T3 → Prop
  | .num n => n.natAbs < 2 ^ 102
  | .name s => lookD l (.inr s) = some (.int (m s)) ∧ (m s).natAbs < 2 ^ 102
  | .op _ a b => Fit l m a ∧ Fit l m b
theorem siz_pos : ∀ t : T3, 1 ≤ siz t
  | .num _ => Nat.le_refl _
  | .name _ => Nat.le_refl _
  | .op _ a b => by have := siz_pos a; simp only [siz]; omega
theorem pow_add_le (x y : Nat) (hx : 1 ≤ x) (hy : 1 ≤ y) : 2 ^ x + 2 ^ y ≤ 2 ^ (x + y) := by
  have a : 2 ≤ 2 ^ x := Nat.pow_le_pow_right (n := 2) (by omega) hx
  have b : 2 ≤ 2 ^ y := Nat.pow_le_pow_right (n := 2) (by omega) hy
  rw [Nat.pow_add]
  generalize 2 ^ x = p at *
  generalize 2 ^ y = q at *
  obtain ⟨p', rfl⟩ : ∃ p', p = p' + 2 := ⟨p - 2, by omega⟩
  obtain ⟨q', rfl⟩ : ∃ q', q = q' + 2 := ⟨q - 2, by omega⟩
  have : (p' + 2) * (q' + 2) = p' * q' + 2 * p' + 2 * q' + 4 := by
    rw [Nat.add_mul, Nat.mul_add, Nat.mul_add]; omega
  omega
theorem val_bd {l : List (D × D)} {m : Str → Int} : ∀ {t : T3}, Fit l m t → (val m t).natAbs < 2 ^ (102 * siz t)
  | .num n, h => h
  | .name s, h => h.2
  | .op o a b, h => by
    have ha := val_bd h.1
    have hb := val_bd h.2
    have pa := siz_pos a
    have pb := siz_pos b
    have pw := pow_add_le (102 * siz a) (102 * siz b) (by omega) (by omega)
    have e : 102 * siz (.op o a b) = 102 * siz a + 102 * siz b := by simp only [siz]; omega
    rw [e]
    cases o with
    | p => simp only [val, opI]; omega
    | m => simp only [val, opI]; omega
    | t =>
      simp only [val, opI]
      rw [Int.natAbs_mul, Nat.pow_add]
      exact Nat.mul_lt_mul'' ha hb
theorem mul_big {x y : Int} {p q : Nat} (hx : x.natAbs < 2 ^ p) (hy : y.natAbs < 2 ^ q) (h : p + q < 1000000) : mulC x y = true := by
  have lg : ∀ (z : Int) (r : Nat), z.natAbs < 2 ^ r → z.natAbs.log2 ≤ r := fun z r hz => by
    by_cases h0 : z.natAbs = 0
    · rw [h0]; exact Nat.zero_le _
    · exact Nat.le_of_lt ((Nat.log2_lt h0).mpr hz)
  have a := lg x p hx
  have b := lg y q hy
  unfold mulC
  rw [Bool.or_eq_true]
  exact .inr (decide_eq_true (by omega))
theorem f_told : ftOf FTl "Number" "told" = true := by decide +kernel
theorem f_name : ftOf FTl "Named" "name" = true := by decide +kernel
theorem f_one (o : Op3) : ftOf FTl (cn o) "one" = true := by cases o <;> decide +kernel
theorem f_oth (o : Op3) : ftOf FTl (cn o) "other" = true := by cases o <;> decide +kernel
theorem mt_num : mtOf MTl 2 "Number" "worth" = some 35 := by decide +kernel
theorem mt_nam : mtOf MTl 2 "Named" "worth" = some 38 := by decide +kernel
theorem mt_p : mtOf MTl 2 (cn .p) "worth" = some 45 := by decide +kernel
theorem mt_m : mtOf MTl 2 (cn .m) "worth" = some 47 := by decide +kernel
theorem mt_t : mtOf MTl 2 (cn .t) "worth" = some 49 := by decide +kernel
def wf : T3 → Nat
  | .num _ => 35 | .name _ => 38 | .op .p _ _ => 45 | .op .m _ _ => 47 | .op .t _ _ => 49
theorem mw (t : T3) : methG (mtOf MTl 2) "worth" (.pure (insD t)) = some (wf t) := by
  match t with
  | .num _ => exact (methG_p _ _ _ _ rfl).trans mt_num
  | .name _ => exact (methG_p _ _ _ _ rfl).trans mt_nam
  | .op .p _ _ => exact (methG_p _ _ _ _ rfl).trans mt_p
  | .op .m _ _ => exact (methG_p _ _ _ _ rfl).trans mt_m
  | .op .t _ _ => exact (methG_p _ _ _ _ rfl).trans mt_t
/-- the instance itself, frozen or one's own -/
def SelfOf (S : O) (t : T3) : Prop := S = .pure (insD t) ∨ S = .ins (icls t) (ifls t)
/-- a dict, one's own or frozen -/
def DicOf (Q : O) (l : List (D × D)) : Prop := Q = .dic l ∨ Q = .pure (.dic l)
theorem ix_dic {Q : O} {l : List (D × D)} {s : Str} {v : Int} (h : DicOf Q l) (e : lookD l (.inr s) = some (.int v)) : ixO Q (.pure (.str s)) = some (.pure (.int v)) := by
  rcases h with rfl | rfl <;> simp only [ixO, keyOf, Option.bind_some, e, Option.map_some]
theorem worth_spec (l : List (D × D)) (m : Str → Int) {Q : O} (hQ : DicOf Q l) : ∀ (t : T3) (d : Nat) (S : O), dep t ≤ d → siz t ≤ 1000 → Fit l m t → SelfOf S t → callN (d + 1) (wf t) [S, Q] = .ok (.pure (.int (val m t))) [S, Q]
  | .num n, d, S, hd, hz, F, hS => by
    refine (c_Number_worth d _).trans ((bodyC_a 2 0 _ _ rfl).trans ?_)
    unfold b_Number_worth
    rcases hS with rfl | rfl
    · have a1 : atrF (ftOf FTl) "told" (.pure (insD (.num n))) = some (.pure (.int n)) := (atr_p _ _ _ _ f_told).trans rfl
      simp only [icls, idfs, val] at a1 ⊢
      clear hd hz F
      (rcases hQ with rfl | rfl <;> walk_at "vi*")
    · have a1 : atrF (ftOf FTl) "told" (.ins (icls (.num n)) (ifls (.num n))) = some (.pure (.int n)) := atr_i _ _ _ _ _ f_told rfl
      simp only [icls, ifls, val] at a1 ⊢
      clear hd hz F
      (rcases hQ with rfl | rfl <;> walk_at "vi*")
  | .name s, d, S, hd, hz, F, hS => by
    refine (c_Named_worth d _).trans ((bodyC_a 2 0 _ _ rfl).trans ?_)
    unfold b_Named_worth
    have ix := ix_dic hQ F.1
    rcases hS with rfl | rfl
    · have a1 : atrF (ftOf FTl) "name" (.pure (insD (.name s))) = some (.pure (.str s)) := (atr_p _ _ _ _ f_name).trans rfl
      simp only [icls, idfs, val] at a1 ⊢
      clear hd hz F
      (rcases hQ with rfl | rfl <;> walk_at "vi*")
    · have a1 : atrF (ftOf FTl) "name" (.ins (icls (.name s)) (ifls (.name s))) = some (.pure (.str s)) := atr_i _ _ _ _ _ f_name rfl
      simp only [icls, ifls, val] at a1 ⊢
      clear hd hz F
      (rcases hQ with rfl | rfl <;> walk_at "vi*")
  | .op o a b, 0, S, hd, hz, F, hS => by simp [dep] at hd
  | .op o a b, d + 1, S, hd, hz, F, hS => by
    simp only [dep] at hd
    simp only [siz] at hz
    have ea := worth_spec l m hQ a d (.pure (insD a)) (by omega) (by have := siz_pos b; omega) F.1 (.inl rfl)
    have eb := worth_spec l m hQ b d (.pure (insD b)) (by omega) (by have := siz_pos a; omega) F.2 (.inl rfl)
    have ma := mw a
    have mb := mw b
    have ml := mul_i (val m a) (val m b) (mul_big (val_bd F.1) (val_bd F.2) (by omega))
    have a1 : atrF (ftOf FTl) "one" S = some (.pure (insD a)) := by
      rcases hS with rfl | rfl
      · exact (atr_p _ _ _ _ (f_one o)).trans rfl
      · exact atr_i _ _ _ _ _ (f_one o) rfl
    have a2 : atrF (ftOf FTl) "other" S = some (.pure (insD b)) := by
      rcases hS with rfl | rfl
      · exact (atr_p _ _ _ _ (f_oth o)).trans rfl
      · exact atr_i _ _ _ _ _ (f_oth o) rfl
    clear hd hz F
    cases o with
    | p =>
      refine (c_Plus_worth (d + 1) _).trans ((bodyC_a 2 0 _ _ rfl).trans ?_)
      unfold b_Plus_worth
      have hv : val m (.op .p a b) = val m a + val m b := rfl
      rcases hS with rfl | rfl <;> (rcases hQ with rfl | rfl <;> walk_at "vi*")
    | m =>
      refine (c_Minus_worth (d + 1) _).trans ((bodyC_a 2 0 _ _ rfl).trans ?_)
      unfold b_Minus_worth
      have hv : val m (.op .m a b) = val m a - val m b := rfl
      rcases hS with rfl | rfl <;> (rcases hQ with rfl | rfl <;> walk_at "vi*")
    | t =>
      refine (c_Times_worth (d + 1) _).trans ((bodyC_a 2 0 _ _ rfl).trans ?_)
      unfold b_Times_worth
      have hv : val m (.op .t a b) = val m a * val m b := rfl
      rcases hS with rfl | rfl <;> (rcases hQ with rfl | rfl <;> walk_at "vi*")
theorem sign_at (i : Int) (h0 : 0 ≤ i) (h1 : i < 3) : ∃ o, ixO (.lst [.str (Str.ofString "+"), .str (Str.ofString "-"), .str (Str.ofString "*")]) (.pure (.int i)) = some (.pure (.str (sg o))) := by
  have : i = 0 ∨ i = 1 ∨ i = 2 := by omega
  rcases this with rfl | rfl | rfl
  · exact ⟨.p, by rw [ix_l, atI_lt _ _ (by omega)]; rfl⟩
  · exact ⟨.m, by rw [ix_l, atI_lt _ _ (by omega)]; rfl⟩
  · exact ⟨.t, by rw [ix_l, atI_lt _ _ (by omega)]; rfl⟩
theorem num_init (n : Nat) (r : Int) : callN (n + 1) 34 [.ins "Number" [], .pure (.int r)] = .ok (.pure .non) [.ins "Number" [("told", .pure (.int r))], .pure (.int r)] := by
  refine (c_Number___init__ n _).trans ((bodyC_a 2 0 _ _ rfl).trans ?_)
  have f1 : fldC (ftOf FTl) "told" (.int r) (.ins "Number" []) = some (.ins "Number" [("told", .pure (.int r))]) := fldC_a _ _ _ _ _ f_told (by simp)
  unfold b_Number___init__
  walk_at "vi*"
theorem nam_init (n : Nat) (r : Str) : callN (n + 1) 37 [.ins "Named" [], .pure (.str r)] = .ok (.pure .non) [.ins "Named" [("name", .pure (.str r))], .pure (.str r)] := by
  refine (c_Named___init__ n _).trans ((bodyC_a 2 0 _ _ rfl).trans ?_)
  have f1 : fldC (ftOf FTl) "name" (.str r) (.ins "Named" []) = some (.ins "Named" [("name", .pure (.str r))]) := fldC_a _ _ _ _ _ f_name (by simp)
  unfold b_Named___init__
  walk_at "vi*"
theorem jn_init (n : Nat) (o : Op3) (a b : T3) : callN (n + 1) 41 [.ins (cn o) [], .ins (icls a) (ifls a), .ins (icls b) (ifls b)] = .ok (.pure .non) [.ins (cn o) [("one", .pure (insD a)), ("other", .pure (insD b))], .pure (insD a), .pure (insD b)] := by
  refine (c_Joined___init__ n _).trans ((bodyC_a 3 0 _ _ rfl).trans ?_)
  have f1 : fldC (ftOf FTl) "one" (insD a) (.ins (cn o) []) = some (.ins (cn o) [("one", .pure (insD a))]) := fldC_a _ _ _ _ _ (f_one o) (by simp)
  have f2 : fldC (ftOf FTl) "other" (insD b) (.ins (cn o) [("one", .pure (insD a))]) = some (.ins (cn o) [("one", .pure (insD a)), ("other", .pure (insD b))]) := (fldC_a _ _ _ _ _ (f_oth o) (by simp)).trans rfl
  have u1 := ifls_full a
  have u2 := ifls_full b
  have v1 := ifls_er a
  have v2 := ifls_er b
  unfold b_Joined___init__
  walk_at "vi*"
abbrev NA := List (Str × Int)
def enc (m : NA) : List (D × D) := m.map fun p => (.str p.1, .int p.2)
def setA (m : NA) (s : Str) (v : Int) : NA := if m.any (fun p => decide (p.1 = s)) then m.map (fun p => if p.1 = s then (p.1, v) else p) else m ++ [(s, v)]
theorem isKey_s (a b : Str) : isKey (.inr a) (.str b) = decide (b = a) := by
  have : isKey (.inr a) (.str b) = decide ((Sum.inr b : Key) = .inr a) := rfl
  rw [this]
  simp
theorem put_enc (m : NA) (s : Str) (v : Int) : putD (enc m) (.inr s) (.int v) = enc (setA m s v) := by
  have ha : (enc m).any (fun p => isKey (.inr s) p.1) = m.any (fun p => decide (p.1 = s)) := by
    unfold enc
    rw [List.any_map]
    congr 1
    funext p
    simp [isKey_s]
  unfold putD setA
  rw [ha]
  cases m.any (fun p => decide (p.1 = s)) with
  | true =>
    simp only [if_true, enc, List.map_map]
    refine List.map_congr_left fun p hp => ?_
    simp only [Function.comp, isKey_s, decide_eq_true_eq]
    by_cases h : p.1 = s <;> simp [h]
  | false =>
    simp [enc, kD]
theorem keys_set (m : NA) (s : Str) (v : Int) : (setA m s v).map (·.1) = if m.any (fun p => decide (p.1 = s)) then m.map (·.1) else m.map (·.1) ++ [s] := by
  unfold setA
  cases h : m.any (fun p => decide (p.1 = s)) with
  | true =>
    simp only [if_true, List.map_map]
    refine List.map_congr_left fun p hp => ?_
    simp only [Function.comp]
    split <;> rfl
  | false => simp
structure GoodA (m : NA) (K : List Str) : Prop where
  nd : (m.map (·.1)).Nodup
  bd : ∀ p ∈ m, p.2.natAbs < 2 ^ 102
  has : ∀ s ∈ K, s ∈ m.map (·.1)
theorem GoodA.put {m : NA} {K : List Str} (h : GoodA m K) (s : Str) (v : Int) (hv : v.natAbs < 2 ^ 102) : GoodA (setA m s v) (s :: K) := by
  have hk := keys_set m s v
  cases ha : m.any (fun p => decide (p.1 = s)) with
  | true =>
    rw [ha] at hk
    simp only [if_true] at hk
    refine ⟨by rw [hk]; exact h.nd, fun p hp => ?_, fun x hx => ?_⟩
    · unfold setA at hp
      rw [ha] at hp
      simp only [if_true] at hp
      obtain ⟨q, hq, rfl⟩ := List.mem_map.mp hp
      split
      · exact hv
      · exact h.bd q hq
    · rw [hk]
      rcases List.mem_cons.mp hx with rfl | hx
      · obtain ⟨q, hq, e⟩ := List.any_eq_true.mp ha
        exact decide_eq_true_eq.mp e ▸ List.mem_map_of_mem (f := (·.1)) hq
      · exact h.has x hx
  | false =>
    rw [ha] at hk
    simp only [Bool.false_eq_true, if_false] at hk
    refine ⟨by
      rw [hk, List.nodup_append]
      refine ⟨h.nd, by simp, fun a ha' b hb e => ?_⟩
      rw [List.mem_singleton.mp hb] at e
      obtain ⟨q, hq, e2⟩ := List.mem_map.mp ha'
      have := List.any_eq_false.mp ha q hq
      simp only [decide_eq_true_eq] at this
      exact this (e2.trans e), fun p hp => ?_, fun x hx => ?_⟩
    · unfold setA at hp
      rw [ha] at hp
      simp only [Bool.false_eq_true, if_false] at hp
      rcases List.mem_append.mp hp with hp | hp
      · exact h.bd p hp
      · rw [List.mem_singleton.mp hp]; exact hv
    · rw [hk]
      rcases List.mem_cons.mp hx with rfl | hx
      · simp
      · exact List.mem_append_left _ (h.has x hx)
theorem set_len (m : NA) (s : Str) (v : Int) : (setA m s v).length ≤ m.length + 1 := by
  unfold setA; split <;> simp
def valA (m : NA) (s : Str) : Int := ((m.find? fun p => decide (p.1 = s)).map (·.2)).getD 0
theorem look_enc {m : NA} {s : Str} (h : s ∈ m.map (·.1)) (hb : ∀ p ∈ m, p.2.natAbs < 2 ^ 102) : lookD (enc m) (.inr s) = some (.int (valA m s)) ∧ (valA m s).natAbs < 2 ^ 102 := by
  unfold lookD valA enc
  induction m with
  | nil => simp at h
  | cons p m ih =>
    rw [List.map_cons, List.find?_cons, List.find?_cons]
    simp only [isKey_s]
    by_cases hp : p.1 = s
    · simp only [hp, decide_true, Option.map_some, Option.getD_some]
      exact ⟨by first | trivial | rfl, hb p (by simp)⟩
    · simp only [hp, decide_false]
      rw [List.map_cons, List.mem_cons] at h
      exact ih (h.resolve_left fun e => hp e.symm) fun q hq => hb q (List.mem_cons_of_mem _ hq)
inductive C4 where | lt | le | eq | ne
inductive S4 where
  | yes | cmp (o : C4) (a b : T3) | no (s : S4) | both (a b : S4) | either (a b : S4)
def csg : C4 → Str
  | .lt => "<" | .le => "<=" | .eq => "=" | .ne => "!="
def ccn : C4 → Str
  | .lt => "Less" | .le => "AtMost" | .eq => "Equal" | .ne => "Unlike"
def cmpI : C4 → Int → Int → Bool
  | .lt, x, y => decide (x < y) | .le, x, y => decide (x ≤ y) | .eq, x, y => decide (x = y) | .ne, x, y => !decide (x = y)
def sD : S4 → D
  | .yes => .tup [.str "yes"]
  | .cmp o a b => .tup [.str (csg o), tD a, tD b]
  | .no s => .tup [.str "not", sD s]
  | .both a b => .tup [.str "and", sD a, sD b]
  | .either a b => .tup [.str "or", sD a, sD b]
def scls : S4 → Str
  | .yes => "Saying" | .cmp o _ _ => ccn o | .no _ => "Not" | .both _ _ => "Both" | .either _ _ => "Either"
def sdfs : S4 → List (Str × D)
  | .yes => []
  | .cmp _ a b => [("one", insD a), ("other", insD b)]
  | .no s => [("one", .ins (scls s) (sdfs s))]
  | .both a b => [("one", .ins (scls a) (sdfs a)), ("other", .ins (scls b) (sdfs b))]
  | .either a b => [("one", .ins (scls a) (sdfs a)), ("other", .ins (scls b) (sdfs b))]
abbrev insS (t : S4) : D := .ins (scls t) (sdfs t)
def sfls : S4 → List (Str × O)
  | .yes => []
  | .cmp _ a b => [("one", .pure (insD a)), ("other", .pure (insD b))]
  | .no s => [("one", .pure (insS s))]
  | .both a b => [("one", .pure (insS a)), ("other", .pure (insS b))]
  | .either a b => [("one", .pure (insS a)), ("other", .pure (insS b))]
theorem sfls_full (t : S4) : O.fullF (sfls t) = true := by cases t <;> simp [sfls, O.fullF, O.full]
theorem sfls_er (t : S4) : O.erF (sfls t) = sdfs t := by cases t <;> simp [sfls, sdfs, O.erF, O.er]
def sdep : S4 → Nat
  | .yes => 0
  | .cmp _ a b => max (dep a) (dep b) + 1
  | .no s => sdep s + 1
  | .both a b => max (sdep a) (sdep b) + 1
  | .either a b => max (sdep a) (sdep b) + 1
def hol (m : Str → Int) : S4 → Bool
  | .yes => true
  | .cmp o a b => cmpI o (val m a) (val m b)
  | .no s => !hol m s
  | .both a b => hol m a && hol m b
  | .either a b => hol m a || hol m b
def FitS (l : List (D × D)) (m : Str → Int) : S4 → Prop
  | .yes => True
  | .cmp _ a b => Fit l m a ∧ Fit l m b ∧ siz a ≤ 1000 ∧ siz b ≤ 1000
  | .no s => FitS l m s
  | .both a b => FitS l m a ∧ FitS l m b
  | .either a b => FitS l m a ∧ FitS l m b
theorem sf_cmp (o : C4) : ftOf FTl (ccn o) "one" = true ∧ ftOf FTl (ccn o) "other" = true := by cases o <;> exact ⟨by decide +kernel, by decide +kernel⟩
theorem sf_no : ftOf FTl "Not" "one" = true := by decide +kernel
theorem sf_bo : ftOf FTl "Both" "one" = true ∧ ftOf FTl "Both" "other" = true := ⟨by decide +kernel, by decide +kernel⟩
theorem sf_ei : ftOf FTl "Either" "one" = true ∧ ftOf FTl "Either" "other" = true := ⟨by decide +kernel, by decide +kernel⟩
def hf : S4 → Nat
  | .yes => 54 | .cmp .lt _ _ => 62 | .cmp .le _ _ => 64 | .cmp .eq _ _ => 65 | .cmp .ne _ _ => 67 | .no _ => 77 | .both _ _ => 69 | .either _ _ => 73
theorem mh_cls : mtOf MTl 2 "Saying" "holds" = some 54 ∧ mtOf MTl 2 (ccn .lt) "holds" = some 62 ∧ mtOf MTl 2 (ccn .le) "holds" = some 64 ∧ mtOf MTl 2 (ccn .eq) "holds" = some 65 ∧ mtOf MTl 2 (ccn .ne) "holds" = some 67 ∧ mtOf MTl 2 "Not" "holds" = some 77 ∧ mtOf MTl 2 "Both" "holds" = some 69 ∧ mtOf MTl 2 "Either" "holds" = some 73 := by
  refine ⟨?_, ?_, ?_, ?_, ?_, ?_, ?_, ?_⟩ <;> decide +kernel
theorem mh (t : S4) : methG (mtOf MTl 2) "holds" (.pure (insS t)) = some (hf t) := by
  obtain ⟨a, b, c, d, e, f, g, h⟩ := mh_cls
  match t with
  | .yes => exact (methG_p _ _ _ _ rfl).trans a
  | .cmp .lt _ _ => exact (methG_p _ _ _ _ rfl).trans b
  | .cmp .le _ _ => exact (methG_p _ _ _ _ rfl).trans c
  | .cmp .eq _ _ => exact (methG_p _ _ _ _ rfl).trans d
  | .cmp .ne _ _ => exact (methG_p _ _ _ _ rfl).trans e
  | .no _ => exact (methG_p _ _ _ _ rfl).trans f
  | .both _ _ => exact (methG_p _ _ _ _ rfl).trans g
  | .either _ _ => exact (methG_p _ _ _ _ rfl).trans h
def SelfS (S : O) (t : S4) : Prop := S = .pure (insS t) ∨ S = .ins (scls t) (sfls t)
theorem atr_S {S : O} {t : S4} {f : Str} {d : D} (hS : SelfS S t) (hf : ftOf FTl (scls t) f = true) (h1 : (sdfs t).lookup f = some d) (h2 : (sfls t).lookup f = some (.pure d)) : atrF (ftOf FTl) f S = some (.pure d) := by
  rcases hS with rfl | rfl
  · rw [atr_p _ _ _ _ hf, h1]; rfl
  · exact atr_i _ _ _ _ _ hf h2
theorem holds_spec (l : List (D × D)) (m : Str → Int) {Q : O} (hQ : DicOf Q l) : ∀ (t : S4) (d : Nat) (S : O), sdep t ≤ d → FitS l m t → SelfS S t → callN (d + 1) (hf t) [S, Q] = .ok (.pure (.bl (hol m t))) [S, Q]
  | .yes, d, S, hd, F, hS => by
    refine (c_Saying_holds d _).trans ((bodyC_a 2 0 _ _ rfl).trans ?_)
    unfold b_Saying_holds
    simp only [hol]
    clear hd F
    rcases hS with rfl | rfl <;> rcases hQ with rfl | rfl <;> walk_at "vi*"
  | .cmp o a b, 0, S, hd, F, hS => by simp [sdep] at hd
  | .cmp o a b, d + 1, S, hd, F, hS => by
    simp only [sdep] at hd
    have ea := worth_spec l m hQ a d (.pure (insD a)) (by omega) F.2.2.1 F.1 (.inl rfl)
    have eb := worth_spec l m hQ b d (.pure (insD b)) (by omega) F.2.2.2 F.2.1 (.inl rfl)
    have ma := mw a
    have mb := mw b
    have a1 : atrF (ftOf FTl) "one" S = some (.pure (insD a)) := atr_S hS (sf_cmp o).1 rfl rfl
    have a2 : atrF (ftOf FTl) "other" S = some (.pure (insD b)) := atr_S hS (sf_cmp o).2 rfl rfl
    clear hd F
    cases o with
    | lt =>
      refine (c_Less_holds (d + 1) _).trans ((bodyC_a 2 0 _ _ rfl).trans ?_)
      unfold b_Less_holds
      have hv : hol m (.cmp .lt a b) = decide (val m a < val m b) := rfl
      rcases hS with rfl | rfl <;> rcases hQ with rfl | rfl <;> walk_at "vi*"
    | le =>
      refine (c_AtMost_holds (d + 1) _).trans ((bodyC_a 2 0 _ _ rfl).trans ?_)
      unfold b_AtMost_holds
      have hv : hol m (.cmp .le a b) = decide (val m a ≤ val m b) := rfl
      rcases hS with rfl | rfl <;> rcases hQ with rfl | rfl <;> walk_at "vi*"
    | eq =>
      refine (c_Equal_holds (d + 1) _).trans ((bodyC_a 2 0 _ _ rfl).trans ?_)
      unfold b_Equal_holds
      have hv : hol m (.cmp .eq a b) = decide (val m a = val m b) := rfl
      rcases hS with rfl | rfl <;> rcases hQ with rfl | rfl <;> walk_at "vi*"
    | ne =>
      refine (c_Unlike_holds (d + 1) _).trans ((bodyC_a 2 0 _ _ rfl).trans ?_)
      unfold b_Unlike_holds
      have hv : hol m (.cmp .ne a b) = !decide (val m a = val m b) := rfl
      rcases hS with rfl | rfl <;> rcases hQ with rfl | rfl <;> walk_at "vi*"
  | .no s, 0, S, hd, F, hS => by simp [sdep] at hd
  | .no s, d + 1, S, hd, F, hS => by
    simp only [sdep] at hd
    have ea := holds_spec l m hQ s d (.pure (insS s)) (by omega) F (.inl rfl)
    have ma := mh s
    have a1 : atrF (ftOf FTl) "one" S = some (.pure (insS s)) := atr_S hS sf_no rfl rfl
    refine (c_Not_holds (d + 1) _).trans ((bodyC_a 2 0 _ _ rfl).trans ?_)
    unfold b_Not_holds
    have hv : hol m (.no s) = !hol m s := rfl
    clear hd F
    rcases hS with rfl | rfl <;> rcases hQ with rfl | rfl <;> walk_at "vi*"
  | .both a b, 0, S, hd, F, hS => by simp [sdep] at hd
  | .both a b, d + 1, S, hd, F, hS => by
    simp only [sdep] at hd
    have ea := holds_spec l m hQ a d (.pure (insS a)) (by omega) F.1 (.inl rfl)
    have eb := holds_spec l m hQ b d (.pure (insS b)) (by omega) F.2 (.inl rfl)
    have ma := mh a
    have mb := mh b
    have a1 : atrF (ftOf FTl) "one" S = some (.pure (insS a)) := atr_S hS sf_bo.1 rfl rfl
    have a2 : atrF (ftOf FTl) "other" S = some (.pure (insS b)) := atr_S hS sf_bo.2 rfl rfl
    refine (c_Both_holds (d + 1) _).trans ((bodyC_a 2 0 _ _ rfl).trans ?_)
    unfold b_Both_holds
    have hv : hol m (.both a b) = (hol m a && hol m b) := rfl
    clear hd F
    generalize hol m a = x at *
    cases x <;> rcases hS with rfl | rfl <;> rcases hQ with rfl | rfl <;> walk_at "vi*"
  | .either a b, 0, S, hd, F, hS => by simp [sdep] at hd
  | .either a b, d + 1, S, hd, F, hS => by
    simp only [sdep] at hd
    have ea := holds_spec l m hQ a d (.pure (insS a)) (by omega) F.1 (.inl rfl)
    have eb := holds_spec l m hQ b d (.pure (insS b)) (by omega) F.2 (.inl rfl)
    have ma := mh a
    have mb := mh b
    have a1 : atrF (ftOf FTl) "one" S = some (.pure (insS a)) := atr_S hS sf_ei.1 rfl rfl
    have a2 : atrF (ftOf FTl) "other" S = some (.pure (insS b)) := atr_S hS sf_ei.2 rfl rfl
    refine (c_Either_holds (d + 1) _).trans ((bodyC_a 2 0 _ _ rfl).trans ?_)
    unfold b_Either_holds
    have hv : hol m (.either a b) = (hol m a || hol m b) := rfl
    clear hd F
    generalize hol m a = x at *
    cases x <;> rcases hS with rfl | rfl <;> rcases hQ with rfl | rfl <;> (walk_at "vi*" <;> simp)
theorem cmp_init (n : Nat) (o : C4) (a b : T3) : callN (n + 1) 57 [.ins (ccn o) [], .ins (icls a) (ifls a), .ins (icls b) (ifls b)] = .ok (.pure .non) [.ins (ccn o) [("one", .pure (insD a)), ("other", .pure (insD b))], .pure (insD a), .pure (insD b)] := by
  refine (c_Compared___init__ n _).trans ((bodyC_a 3 0 _ _ rfl).trans ?_)
  have f1 : fldC (ftOf FTl) "one" (insD a) (.ins (ccn o) []) = some (.ins (ccn o) [("one", .pure (insD a))]) := fldC_a _ _ _ _ _ (sf_cmp o).1 (by simp)
  have f2 : fldC (ftOf FTl) "other" (insD b) (.ins (ccn o) [("one", .pure (insD a))]) = some (.ins (ccn o) [("one", .pure (insD a)), ("other", .pure (insD b))]) := (fldC_a _ _ _ _ _ (sf_cmp o).2 (by simp)).trans rfl
  have u1 := ifls_full a
  have u2 := ifls_full b
  have v1 := ifls_er a
  have v2 := ifls_er b
  unfold b_Compared___init__
  walk_at "vi*"
theorem both_init (n : Nat) (a b : S4) : callN (n + 1) 68 [.ins "Both" [], .ins (scls a) (sfls a), .ins (scls b) (sfls b)] = .ok (.pure .non) [.ins "Both" [("one", .pure (insS a)), ("other", .pure (insS b))], .pure (insS a), .pure (insS b)] := by
  refine (c_Both___init__ n _).trans ((bodyC_a 3 0 _ _ rfl).trans ?_)
  have f1 : fldC (ftOf FTl) "one" (insS a) (.ins "Both" []) = some (.ins "Both" [("one", .pure (insS a))]) := fldC_a _ _ _ _ _ sf_bo.1 (by simp)
  have f2 : fldC (ftOf FTl) "other" (insS b) (.ins "Both" [("one", .pure (insS a))]) = some (.ins "Both" [("one", .pure (insS a)), ("other", .pure (insS b))]) := (fldC_a _ _ _ _ _ sf_bo.2 (by simp)).trans rfl
  have u1 := sfls_full a
  have u2 := sfls_full b
  have v1 := sfls_er a
  have v2 := sfls_er b
  unfold b_Both___init__
  walk_at "vi*"
theorem ei_init (n : Nat) (a b : S4) : callN (n + 1) 72 [.ins "Either" [], .ins (scls a) (sfls a), .ins (scls b) (sfls b)] = .ok (.pure .non) [.ins "Either" [("one", .pure (insS a)), ("other", .pure (insS b))], .pure (insS a), .pure (insS b)] := by
  refine (c_Either___init__ n _).trans ((bodyC_a 3 0 _ _ rfl).trans ?_)
  have f1 : fldC (ftOf FTl) "one" (insS a) (.ins "Either" []) = some (.ins "Either" [("one", .pure (insS a))]) := fldC_a _ _ _ _ _ sf_ei.1 (by simp)
  have f2 : fldC (ftOf FTl) "other" (insS b) (.ins "Either" [("one", .pure (insS a))]) = some (.ins "Either" [("one", .pure (insS a)), ("other", .pure (insS b))]) := (fldC_a _ _ _ _ _ sf_ei.2 (by simp)).trans rfl
  have u1 := sfls_full a
  have u2 := sfls_full b
  have v1 := sfls_er a
  have v2 := sfls_er b
  unfold b_Either___init__
  walk_at "vi*"
theorem no_init (n : Nat) (a : S4) : callN (n + 1) 76 [.ins "Not" [], .ins (scls a) (sfls a)] = .ok (.pure .non) [.ins "Not" [("one", .pure (insS a))], .pure (insS a)] := by
  refine (c_Not___init__ n _).trans ((bodyC_a 2 0 _ _ rfl).trans ?_)
  have f1 : fldC (ftOf FTl) "one" (insS a) (.ins "Not" []) = some (.ins "Not" [("one", .pure (insS a))]) := fldC_a _ _ _ _ _ sf_no (by simp)
  have u1 := sfls_full a
  have v1 := sfls_er a
  unfold b_Not___init__
  walk_at "vi*"
theorem csg_at (i : Int) (h0 : 0 ≤ i) (h1 : i < 4) : ∃ o, ixO (.lst [.str (Str.ofString "<"), .str (Str.ofString "<="), .str (Str.ofString "="), .str (Str.ofString "!=")]) (.pure (.int i)) = some (.pure (.str (csg o))) := by
  have : i = 0 ∨ i = 1 ∨ i = 2 ∨ i = 3 := by omega
  rcases this with rfl | rfl | rfl | rfl
  · exact ⟨.lt, by rw [ix_l, atI_lt _ _ (by omega)]; rfl⟩
  · exact ⟨.le, by rw [ix_l, atI_lt _ _ (by omega)]; rfl⟩
  · exact ⟨.eq, by rw [ix_l, atI_lt _ _ (by omega)]; rfl⟩
  · exact ⟨.ne, by rw [ix_l, atI_lt _ _ (by omega)]; rfl⟩
theorem dep_siz : ∀ t : T3, dep t + 1 ≤ siz t
  | .num _ => by simp [dep, siz]
  | .name _ => by simp [dep, siz]
  | .op _ a b => by
    have h1 := dep_siz a
    have h2 := dep_siz b
    simp only [dep, siz]
    omega
theorem ao_at (i : Int) (h0 : 0 ≤ i) (h1 : i < 2) : ixO (.lst [.str (Str.ofString "and"), .str (Str.ofString "or")]) (.pure (.int i)) = some (.pure (.str (if i = 0 then Str.ofString "and" else Str.ofString "or"))) := by
  have : i = 0 ∨ i = 1 := by omega
  rcases this with rfl | rfl <;> (rw [ix_l, atI_lt _ _ (by omega)]; rfl)
def lawCe (ns : List Int) (k : Int) : Int := if k < ns.length then ns.getD k.toNat 0 else (ns.headD 0 % 1000003 + 29) * (k * k + 40009) % 2147483647
theorem ce_spec (n : Nat) (ns : List Int) (k : Int) (h : 0 ≤ k) (hk : k < 1000) (hl : ns.length ≤ 63) : callN (n + 1) 122 [.pure (.lst (ns.map D.int)), .pure (.int k)] = .ok (.pure (.int (lawCe ns k))) [.pure (.lst (ns.map D.int)), .pure (.int k)] := by
  refine (c__law_at n _).trans ((bodyC_a 2 0 _ _ rfl).trans ?_)
  unfold b__law_at
  by_cases hb : k < ns.length
  · have : ns[k.toNat]? = some (ns.getD k.toNat 0) := by
      have : k.toNat < ns.length := by omega
      simp [List.getD, this]
    walk_at "vi*"
    simp [lawCe, hb]
  · have h1 : k * k ≤ 1000 * 1000 := Int.mul_le_mul (by omega) (by omega) h (by omega)
    have h0 : 0 ≤ k * k := Int.mul_nonneg h h
    have h2 : k * k + 40009 < 18446744073709551616 := by omega
    have h3 : -18446744073709551616 < k * k + 40009 := by omega
    have h4 : -18446744073709551616 < k := by omega
    have h5 : k < 18446744073709551616 := by omega
    have h6 : ns.length + 1 ≤ 16777216 := by omega
    cases ns with
    | nil =>
      simp only [List.length_nil, Int.cast_ofNat_Int] at hb h6
      walk_at "vi*"
      simp only [lawCe, List.length_nil, Int.cast_ofNat_Int, hb, if_false, List.headD_nil]
      rfl
    | cons x xs =>
      simp only [List.length_cons] at h6 hb
      walk_at "vi*"
      simp only [lawCe, List.length_cons, hb, if_false, List.headD_cons]
/-- a drawing state: two cells -/
abbrev drS (a b : Int) : O := .lst [.int a, .int b]
theorem begin_spec (n : Nat) (c : Int) : callN (n + 1) 123 [.pure (.int c)] = .ok (drS (c / 2) (c % 2)) [.pure (.int c)] := by
  refine (c__law_begin n _).trans ((bodyC_a 1 0 _ _ rfl).trans ?_)
  unfold b__law_begin
  walk_at "vi*"
theorem ix_st0 (a b : Int) : ixO (drS a b) (.pure (.int 0)) = some (.pure (.int a)) := by rw [ix_l, atI_lt _ _ (by omega)]; rfl
theorem ix_st1 (a b : Int) : ixO (drS a b) (.pure (.int 1)) = some (.pure (.int b)) := by rw [ix_l, atI_lt _ _ (by omega)]; rfl
theorem st_st0 (a b v : Int) : stO (drS a b) (.int 0) (.int v) = some (drS v b) := rfl
theorem draw_spec (n : Nat) (a b m : Int) (hm : 0 < m) (hm2 : m < 18446744073709551616) : ∃ r a' : Int, 0 ≤ r ∧ r < m ∧ callN (n + 1) 124 [drS a b, .pure (.int m)] = .ok (.pure (.int r)) [drS a' b, .pure (.int m)] := by
  by_cases hb : b = 0
  · have i0 := ix_st0 a b
    have i1 := ix_st1 a b
    have s0 := st_st0 a b (a / m)
    refine ⟨a % m, a / m, Int.emod_nonneg _ (by omega), Int.emod_lt_of_pos _ hm, (c__law_draw_v2 n _).trans ((bodyC_a 2 2 _ _ rfl).trans ?_)⟩
    unfold b__law_draw_v2
    walk_at "vi*"
  · obtain ⟨q, hq⟩ : ∃ q, (a % 2147483647 * 48271 + 11) % 2147483629 = q := ⟨_, rfl⟩
    obtain ⟨a2, ha2⟩ : ∃ a2, (q * 69621 + a / 2147483647 % 1000003 + 7) % 2147483587 = a2 := ⟨_, rfl⟩
    have i0 := ix_st0 a b
    have i1 := ix_st1 a b
    have i2 := ix_st0 a2 b
    have s0 := st_st0 a b a2
    have m1 : mulO (.pure (.int (a % 2147483647))) (.pure (.int 48271)) = some (.pure (.int (a % 2147483647 * 48271))) := mul_i _ _ (mulC_r _ _ (by omega) (by omega))
    have m2 : mulO (.pure (.int q)) (.pure (.int 69621)) = some (.pure (.int (q * 69621))) := mul_i _ _ (mulC_r _ _ (by omega) (by omega))
    have m3 : mulO (.pure (.int a2)) (.pure (.int 16807)) = some (.pure (.int (a2 * 16807))) := mul_i _ _ (mulC_r _ _ (by omega) (by omega))
    refine ⟨(a2 * 16807 + 3) % 2147483579 / 5 % m, a2, Int.emod_nonneg _ (by omega), Int.emod_lt_of_pos _ hm, (c__law_draw_v2 n _).trans ((bodyC_a 2 2 _ _ rfl).trans ?_)⟩
    unfold b__law_draw_v2
    walk_at "vi*"
theorem isi_int (i : Int) : isiO [.pure (.int i), .pure (.ty "int")] = some (.pure (.bl true)) := rfl
theorem isi_int_bool (i : Int) : isiO [.pure (.int i), .pure (.ty "bool")] = some (.pure (.bl false)) := rfl
theorem whole_spec (n : Nat) (i : Int) : callN (n + 1) 121 [.pure (.int i)] = .ok (.pure (.bl true)) [.pure (.int i)] := by
  refine (c__law_whole n _).trans ((bodyC_a 1 0 _ _ rfl).trans ?_)
  have h1 := isi_int i
  have h2 := isi_int_bool i
  unfold b__law_whole
  walk_at "vi*"
def LowC (c : Nat) : Prop := 97 ≤ c ∧ c ≤ 122
structure NameOk (s : Str) : Prop where
  pos : 1 ≤ s.length
  le : s.length ≤ 8
  low : ∀ c ∈ s.cps.toList, LowC c
  own : (O15 ++ O3).contains s = false
theorem app_cps (a b : Str) : (a ++ b).cps.toList = a.cps.toList ++ b.cps.toList := by
  show (a.cps ++ b.cps).toList = _
  simp
theorem len_cps (a : Str) : a.cps.toList.length = a.length := by simp [Str.length]
theorem cut_cps (s : Str) (lo hi : Option Int) : (cutS s lo hi).cps.toList = cutL s.cps.toList lo hi := by simp [cutS]
theorem NameOk.strOk {s : Str} (h : NameOk s) : PyData.strOk s = true := by
  rw [ok_iff]; intro c hc; have := h.low c hc; simp [LowC] at this; omega
theorem ltr_low (i : Int) (h1 : i < 26) : ∀ c ∈ (ltr i).cps.toList, LowC c := by
  intro c hc; simp [ltr] at hc; subst hc; simp [LowC]; omega
theorem ltr_inj {i j : Int} (hi : 0 ≤ i) (hj : 0 ≤ j) (h : (ltr i).cps.toList = (ltr j).cps.toList) : i = j := by
  simp [ltr] at h; omega
theorem cut_split {α : Type} (l : List α) (k : Int) (h0 : 0 ≤ k) (h1 : k ≤ l.length) : (cutL l none (some k)).length = k.toNat ∧ (cutL l (some k) none).length = l.length - k.toNat := by
  have e : HT.sIx l.length l.length (some k) = k.toNat := by
    simp [HT.sIx]; split <;> omega
  have e2 : HT.sIx l.length 0 (some k) = k.toNat := by
    simp [HT.sIx]; split <;> omega
  have e3 : HT.sIx l.length 0 none = 0 := rfl
  have e4 : HT.sIx l.length l.length none = l.length := rfl
  unfold cutL
  rw [e, e2, e3, e4]
  simp
  omega
/-- the k-th of the names -/
def nameW (B : Str) (at' first step : Int) (k : Nat) : Str := cutS B none (some at') ++ ltr ((first + (k : Int) * step) % 26) ++ cutS B (some at') none
theorem nameW_low {B : Str} {at' first step : Int} (hB : ∀ c ∈ B.cps.toList, LowC c) (k : Nat) : ∀ c ∈ (nameW B at' first step k).cps.toList, LowC c := by
  intro c hc
  unfold nameW at hc
  rw [app_cps, app_cps, cut_cps, cut_cps] at hc
  rcases List.mem_append.mp hc with hc | hc
  · rcases List.mem_append.mp hc with hc | hc
    · exact hB c (cutL_mem hc)
    · exact ltr_low _ (Int.emod_lt_of_pos _ (by omega)) c hc
  · exact hB c (cutL_mem hc)
theorem nameW_len {B : Str} {at' first step : Int} (h0 : 0 ≤ at') (h1 : at' ≤ B.length) (k : Nat) : (nameW B at' first step k).length = B.length + 1 := by
  unfold nameW
  rw [len_app, len_app, ltr_len, ← len_cps, ← len_cps (cutS B (some at') none), cut_cps, cut_cps]
  have := cut_split B.cps.toList at' h0 (by rw [len_cps]; exact h1)
  rw [this.1, this.2, len_cps]
  omega
theorem nameW_inj {B : Str} {at' first step : Int} (hs : 1 ≤ step ∧ step ≤ 3) {i j : Nat} (hi : i < 8) (hj : j < 8) (h : nameW B at' first step i = nameW B at' first step j) : i = j := by
  unfold nameW at h
  have h2 := congrArg (fun s : Str => s.cps.toList) h
  simp only [app_cps, List.append_assoc] at h2
  have h3 := List.append_cancel_left h2
  have h4 := List.append_cancel_right h3
  have := ltr_inj (Int.emod_nonneg _ (by omega)) (Int.emod_nonneg _ (by omega)) h4
  have : step = 1 ∨ step = 2 ∨ step = 3 := by omega
  rcases this with rfl | rfl | rfl <;> omega
theorem draw_zq (first : Int) (k : Nat) : (Str.ofString "zq" ++ ltr ((first + (k : Int)) % 26)).length = 3 := by
  rw [len_app, ltr_len]; rfl
theorem zq_own : ∀ q : Fin 26, (O15 ++ O3).contains (Str.ofString "zq" ++ ltr (q.val : Int)) = false := by decide +kernel
theorem zq_ok (i : Int) (h0 : 0 ≤ i) (h1 : i < 26) : NameOk (Str.ofString "zq" ++ ltr i) := by
  refine ⟨by rw [len_app, ltr_len]; decide, by rw [len_app, ltr_len]; decide, fun c hc => ?_, ?_⟩
  · rw [app_cps] at hc
    rcases List.mem_append.mp hc with hc | hc
    · have : c = 122 ∨ c = 113 := by
        have e : (Str.ofString "zq").cps.toList = [122, 113] := by decide +kernel
        rw [e] at hc; simpa using hc
      rcases this with rfl | rfl <;> simp [LowC]
    · exact ltr_low i h1 c hc
  · have := zq_own ⟨i.toNat, by omega⟩
    have e : ((i.toNat : Nat) : Int) = i := by omega
    simpa only [e] using this
theorem zq_inj {first : Int} {i j : Nat} (hi : i < 8) (hj : j < 8) (h : Str.ofString "zq" ++ ltr ((first + (i : Int)) % 26) = Str.ofString "zq" ++ ltr ((first + (j : Int)) % 26)) : i = j := by
  have h2 := congrArg (fun s : Str => s.cps.toList) h
  simp only [app_cps] at h2
  have h4 := List.append_cancel_left h2
  have := ltr_inj (Int.emod_nonneg _ (by omega)) (Int.emod_nonneg _ (by omega)) h4
  omega
theorem own_split : splitO [.pure (.str (Str.ofString "name from to at keep deed when do any and or not yes tie step for none falls")), .pure (.str (Str.ofString " "))] = some (.lst ((O15 ++ O3).map D.str)) := by
  have : Txt.split (Str.ofString "name from to at keep deed when do any and or not yes tie step for none falls") (Str.ofString " ") = O15 ++ O3 := by decide +kernel
  have e : splitO [.pure (.str (Str.ofString "name from to at keep deed when do any and or not yes tie step for none falls")), .pure (.str (Str.ofString " "))] = some (.lst ((Txt.split (Str.ofString "name from to at keep deed when do any and or not yes tie step for none falls") (Str.ofString " ")).map D.str)) := rfl
  rw [e, this]
theorem All2.all {α β : Type} {P : α → β → Prop} {Q : β → Prop} {as : List α} {bs : List β} (h : All2 P as bs) (hq : ∀ a b, P a b → Q b) : ∀ b ∈ bs, Q b := fun b hb => by
  obtain ⟨a, _, p⟩ := h.mem b hb
  exact hq a b p
theorem names_spec (n : Nat) (c many : Int) (h0 : 0 ≤ many) (h1 : many ≤ 7) : ∃ N : List Str, N.length = many.toNat ∧ N.Nodup ∧ (∀ s ∈ N, NameOk s) ∧ (∃ L : Nat, ∀ s ∈ N, s.length = L) ∧ callN (n + 2) 125 [.pure (.int c), .pure (.int many)] = .ok (.lst (N.map D.str)) [.pure (.int c), .pure (.int many)] := by
  have bg := begin_spec n c
  generalize c / 2 = a0 at bg
  generalize c % 2 = b at bg
  obtain ⟨size, a1, s0, s1, d1⟩ := draw_spec n a0 b 8 (by omega) (by omega)
  obtain ⟨at', a2, t0, t1, d2⟩ := draw_spec n a1 b (size + 1) (by omega) (by omega)
  obtain ⟨first, a3, f0, f1, d3⟩ := draw_spec n a2 b 26 (by omega) (by omega)
  obtain ⟨st, a4, g0, g1, d4⟩ := draw_spec n a3 b 3 (by omega) (by omega)
  have rs := rng1_a size s0 (by omega)
  have rm := rng1_a many h0 (by omega)
  obtain ⟨⟨a5, t10⟩, cs, ht, hp, e1⟩ := comp_ex (own := [10]) (t := nmT 10) (cond := fun g => .ok true g) (elt := bin ixO (nm 2) (callA (callN (n + 1)) 124 [(nm 3), (cst (.int 26))])) (fun s : Int × Slot => [.par (.pure (.int c)), .par (.pure (.int many)), .loc (.pure (.str ABC)), .loc (drS s.1 b), .loc (.pure (.int size)), .loc (.pure (.int at')), .loc (.pure (.int first)), .loc (.pure (.int (1 + st))), .un, .un, s.2, .un, .un, .un]) (fun s => Fre s.2) (fun k : Nat => D.int (k : Int)) (fun i : Int => D.str (ltr i)) (fun _ i => 0 ≤ i ∧ i < 26) (List.range size.toNat) (fun k hk s hs => by
    obtain ⟨r, a', r0, r1, d⟩ := draw_spec n s.1 b 26 (by omega) (by omega)
    have ix := abc_at r r0 r1
    obtain ⟨sa, sb⟩ := s
    refine ⟨(a', .loc (.pure (.int k))), r, fre_d _, ⟨r0, r1⟩, ?_⟩
    clear hk r0 r1 bg d1 d2 d3 d4 s0 s1 t0 t1 f0 f1 g0 g1 rs rm h0 h1
    walk_at "vi*") [] (by simp; omega) (a4, .un) fre_un
  have hcl : cs.length = size.toNat := by rw [hp.len, List.length_range]
  have hcs : ∀ x ∈ cs, 0 ≤ x ∧ x < 26 := hp.all fun _ _ h => h
  clear hp
  have cl8 : cs.length ≤ 8 := by omega
  have ls : ((cs.map ltr).map (·.length)).sum = cs.length := by
    clear e1 hcs hcl cl8
    induction cs with
    | nil => rfl
    | cons x xs ih => simp only [List.map_cons, List.sum_cons, ih, ltr_len, List.length_cons]; omega
  have jn := joinO_l (Str.ofString "") (cs.map ltr) (by rw [ls, List.length_map, show (Str.ofString "").length = 0 from rfl]; omega)
  obtain ⟨B, hB⟩ : ∃ B, B = Txt.join (Str.ofString "") (cs.map ltr) := ⟨_, rfl⟩
  rw [← hB] at jn
  have hBl : B.cps.toList = cs.map fun x => 97 + x.toNat := by
    rw [hB, join_nil]
    clear e1 hcs hcl cl8 ls jn hB
    induction cs with
    | nil => rfl
    | cons x xs ih => simp only [List.map_cons, List.flatten_cons, ih]; simp [ltr]
  have Bl : B.length = size.toNat := by rw [← len_cps, hBl, List.length_map, hcl]
  have Bo : ∀ c ∈ B.cps.toList, LowC c := by
    intro c hc
    rw [hBl] at hc
    obtain ⟨x, hx, rfl⟩ := List.mem_map.mp hc
    have := hcs x hx
    simp [LowC]; omega
  clear hB hBl
  simp only [List.nil_append] at e1
  rw [show cs.map (fun i : Int => D.str (ltr i)) = (cs.map ltr).map D.str by rw [List.map_map]; rfl] at e1
  generalize cs.map ltr = bl at *
  -- the loop
  have sp : (1 + st) = 1 ∨ (1 + st) = 2 ∨ (1 + st) = 3 := by omega
  generalize hst : 1 + st = step at *
  obtain ⟨⟨t10', t11⟩, ⟨hx1, hx2⟩, e2⟩ : ∃ s : Slot × Slot, (Fre s.1 ∧ Fre s.2) ∧ loopS (nmT 10) (seqS (asgS 11 (bin ixO (nm 2) (bin modO (bin addO (nm 6) (bin mulO (nm 10) (nm 7))) (cst (.int 26))))) (dropS (mutE "list" appO (nm 9) [(bin addO (bin addO (slE (nm 8) noE (intE (nm 5))) (nm 11)) (slE (nm 8) (intE (nm 5)) noE))]))) ((List.range many.toNat).map fun k : Nat => D.int (k : Int)) [.par (.pure (.int c)), .par (.pure (.int many)), .loc (.pure (.str ABC)), .loc (drS a5 b), .loc (.pure (.int size)), .loc (.pure (.int at')), .loc (.pure (.int first)), .loc (.pure (.int step)), .loc (.pure (.str B)), .loc (.lst []), .un, .un, .un, .un] = .ok .next [.par (.pure (.int c)), .par (.pure (.int many)), .loc (.pure (.str ABC)), .loc (drS a5 b), .loc (.pure (.int size)), .loc (.pure (.int at')), .loc (.pure (.int first)), .loc (.pure (.int step)), .loc (.pure (.str B)), .loc (.lst (((List.range many.toNat).map (nameW B at' first step)).map D.str)), s.1, s.2, .un, .un] := by
    obtain ⟨⟨⟨l, t10'⟩, t11⟩, ⟨h1', h2', h3'⟩, e⟩ := loop_inv (t := nmT 10) (body := (seqS (asgS 11 (bin ixO (nm 2) (bin modO (bin addO (nm 6) (bin mulO (nm 10) (nm 7))) (cst (.int 26))))) (dropS (mutE "list" appO (nm 9) [(bin addO (bin addO (slE (nm 8) noE (intE (nm 5))) (nm 11)) (slE (nm 8) (intE (nm 5)) noE))])))) (fun s : (List D × Slot) × Slot => [.par (.pure (.int c)), .par (.pure (.int many)), .loc (.pure (.str ABC)), .loc (drS a5 b), .loc (.pure (.int size)), .loc (.pure (.int at')), .loc (.pure (.int first)), .loc (.pure (.int step)), .loc (.pure (.str B)), .loc (.lst s.1.1), s.1.2, s.2, .un, .un]) (fun k : Nat => D.int (k : Int)) (fun r s => s.1.1 ++ (r.map (nameW B at' first step)).map D.str = ((List.range many.toNat).map (nameW B at' first step)).map D.str ∧ Fre s.1.2 ∧ Fre s.2) (List.range many.toNat) (fun k r s hsuf hs => by
      obtain ⟨⟨l, t10'⟩, t11⟩ := s
      obtain ⟨q1, q2, q3⟩ := hs
      have hk : k < 8 := by
        have : k ∈ List.range many.toNat := hsuf.subset (by simp)
        have := List.mem_range.mp this
        omega
      have ix := abc_at ((first + (k : Int) * step) % 26) (Int.emod_nonneg _ (by omega)) (Int.emod_lt_of_pos _ (by omega))
      have ml : mulO (.pure (.int (k : Int))) (.pure (.int step)) = some (.pure (.int ((k : Int) * step))) := mul_i _ _ (mulC_l _ _ (by omega) (by omega))
      have c1 := cutS_len B none (some at')
      have c2 := cutS_len B (some at') none
      have s8 := sl_s none (some at') B (by omega)
      have s9 := sl_s (some at') none B (by omega)
      have x1 := add_s (cutS B none (some at')) (ltr ((first + (k : Int) * step) % 26)) (by rw [ltr_len]; omega)
      have x2 := add_s (cutS B none (some at') ++ ltr ((first + (k : Int) * step) % 26)) (cutS B (some at') none) (by rw [len_app, ltr_len]; omega)
      have wE : cutS B none (some at') ++ ltr ((first + (k : Int) * step) % 26) ++ cutS B (some at') none = nameW B at' first step k := rfl
      rw [wE] at x2
      have l0 : l.length < 16777216 := by
        have := congrArg List.length q1
        simp at this
        omega
      simp only at q2 q3
      refine ⟨((l ++ [.str (nameW B at' first step k)], .loc (.pure (.int k))), .loc (.pure (.str (ltr ((first + (k : Int) * step) % 26))))), ⟨by simpa using q1, fre_d _, fre_d _⟩, ?_⟩
      clear q1 hk c1 c2 hst sp Bl Bo bg d1 d2 d3 d4 s0 s1 t0 t1 f0 f1 g0 g1 rs rm h0 h1 e1 jn wE ls cl8 hcl hcs ht
      walk_at "vi*") (([], .un), .un) ⟨by simp, fre_un, fre_un⟩
    refine ⟨(t10', t11), ⟨h2', h3'⟩, ?_⟩
    simp only [List.map_nil, List.append_nil] at h1'
    rw [← h1']
    exact e
  obtain ⟨N, hN⟩ : ∃ N, (List.range many.toNat).map (nameW B at' first step) = N := ⟨_, rfl⟩
  rw [hN] at e2
  have Nl : N.length = many.toNat := by rw [← hN]; simp
  have Nlow : ∀ s ∈ N, (∀ c ∈ s.cps.toList, LowC c) ∧ s.length = size.toNat + 1 := by
    intro s hs
    rw [← hN] at hs
    obtain ⟨k, hk, rfl⟩ := List.mem_map.mp hs
    exact ⟨nameW_low Bo k, by rw [nameW_len t0 (by omega)]; omega⟩
  have Nnd : N.Nodup := by
    rw [← hN]
    show List.Pairwise (· ≠ ·) _
    rw [List.pairwise_map]
    refine List.Pairwise.imp_of_mem ?_ (List.nodup_range (n := many.toNat))
    intro i j hi hj ne e
    exact ne (nameW_inj (by omega) (by have := List.mem_range.mp hi; omega) (by have := List.mem_range.mp hj; omega) e)
  have os := own_split
  obtain ⟨t13, ht13, e3⟩ := comp_filter (own := [13]) (t := nmT 13) (cond := blT (bin (inO false) (nm 13) (nm 12))) (elt := nm 13) (fun s : Slot => [.par (.pure (.int c)), .par (.pure (.int many)), .loc (.pure (.str ABC)), .loc (drS a5 b), .loc (.pure (.int size)), .loc (.pure (.int at')), .loc (.pure (.int first)), .loc (.pure (.int step)), .loc (.pure (.str B)), .loc .hole, t10', t11, .loc (.lst ((O15 ++ O3).map D.str)), s]) Fre D.str D.str (fun s => (O15 ++ O3).contains s) N (fun w hw s hs => by
    have il := in_str false w (O15 ++ O3)
    generalize O15 ++ O3 = OW at *
    refine ⟨.loc (.pure (.str w)), fre_d _, ?_⟩
    clear hw e1 e2 Nlow Nnd Nl hN bg d1 d2 d3 d4 s0 s1 t0 t1 f0 f1 g0 g1 rs rm h0 h1 os jn hx1 hx2 sp hst Bl Bo
    generalize OW.contains w = bb at *
    cases bb <;> walk_at "vi*") [] (by simp; omega) .un fre_un
  have nn := ne_strs (N.filter fun s => (O15 ++ O3).contains s) (fun s hs => by
    have := (Nlow s (List.mem_filter.mp hs).1).1
    rw [ok_iff]; intro c hc; have := this c hc; simp [LowC] at this; omega)
  simp only [List.nil_append] at e3
  by_cases hf : (N.filter fun s => (O15 ++ O3).contains s) = []
  · refine ⟨N, Nl, Nnd, fun s hs => ⟨by rw [(Nlow s hs).2]; omega, by rw [(Nlow s hs).2]; omega, (Nlow s hs).1, ?_⟩, ⟨size.toNat + 1, fun s hs => (Nlow s hs).2⟩, (c__law_names_v2 (n + 1) _).trans ((bodyC_a 2 12 _ _ rfl).trans ?_)⟩
    · have := List.filter_eq_nil_iff.mp hf s hs
      simpa using this
    · rw [hf] at e3 nn
      generalize O15 ++ O3 = OW at *
      simp only [List.map_nil, List.isEmpty_nil, Bool.not_true] at e3 nn
      clear hf Nlow Nnd Nl hN s0 s1 t0 t1 f0 f1 g0 g1 h0 h1 sp Bl Bo ls cl8 hcl hcs ht ht13
      subst hst
      unfold b__law_names_v2
      walk_at "vi*"
  · obtain ⟨t10z, ht10z, e4⟩ := comp_map (own := [10]) (t := nmT 10) (cond := fun g => .ok true g) (elt := bin addO (cst (.str (Str.ofString "zq"))) (bin ixO (nm 2) (bin modO (bin addO (nm 6) (nm 10)) (cst (.int 26))))) (fun s : Slot => [.par (.pure (.int c)), .par (.pure (.int many)), .loc (.pure (.str ABC)), .loc (drS a5 b), .loc (.pure (.int size)), .loc (.pure (.int at')), .loc (.pure (.int first)), .loc (.pure (.int step)), .loc (.pure (.str B)), .loc (.lst (N.map D.str)), s, t11, .loc (.lst ((O15 ++ O3).map D.str)), .un]) Fre (fun k : Nat => D.int (k : Int)) (fun k : Nat => D.str (Str.ofString "zq" ++ ltr ((first + (k : Int)) % 26))) (List.range many.toNat) (fun k hk s hs => by
      have ix := abc_at ((first + (k : Int)) % 26) (Int.emod_nonneg _ (by omega)) (Int.emod_lt_of_pos _ (by omega))
      have ad := add_s (Str.ofString "zq") (ltr ((first + (k : Int)) % 26)) (by rw [ltr_len]; decide)
      refine ⟨.loc (.pure (.int k)), fre_d _, ?_⟩
      generalize O15 ++ O3 = OW at *
      clear hk e1 e2 e3 nn hf Nlow Nnd Nl hN bg d1 d2 d3 d4 s0 s1 t0 t1 f0 f1 g0 g1 rs rm h0 h1 os jn hx1 hx2 sp hst Bl Bo ls cl8 hcl hcs ht ht13
      walk_at "vi*") [] (by simp; omega) t10' hx1
    refine ⟨(List.range many.toNat).map fun k : Nat => Str.ofString "zq" ++ ltr ((first + (k : Int)) % 26), by simp, ?_, fun s hs => ?_, ⟨3, fun s hs => by
      obtain ⟨k, _, rfl⟩ := List.mem_map.mp hs
      exact draw_zq first k⟩, (c__law_names_v2 (n + 1) _).trans ((bodyC_a 2 12 _ _ rfl).trans ?_)⟩
    · show List.Pairwise (· ≠ ·) _
      rw [List.pairwise_map]
      refine List.Pairwise.imp_of_mem ?_ (List.nodup_range (n := many.toNat))
      intro i j hi hj ne e
      exact ne (zq_inj (by have := List.mem_range.mp hi; omega) (by have := List.mem_range.mp hj; omega) e)
    · obtain ⟨k, hk, rfl⟩ := List.mem_map.mp hs
      exact zq_ok _ (Int.emod_nonneg _ (by omega)) (Int.emod_lt_of_pos _ (by omega))
    · rw [show (N.filter fun s => (O15 ++ O3).contains s).isEmpty = false by
        cases hq : N.filter fun s => (O15 ++ O3).contains s with
        | nil => exact absurd hq hf
        | cons _ _ => rfl] at nn
      simp only [List.nil_append] at e4
      generalize (N.filter fun s => (O15 ++ O3).contains s) = NF at *
      generalize O15 ++ O3 = OW at *
      simp only [Bool.not_false] at nn
      have mm : ((List.range many.toNat).map fun k : Nat => Str.ofString "zq" ++ ltr ((first + (k : Int)) % 26)).map D.str = (List.range many.toNat).map (fun k : Nat => D.str (Str.ofString "zq" ++ ltr ((first + (k : Int)) % 26))) := by rw [List.map_map]; rfl
      rw [mm]
      generalize (List.range many.toNat).map (fun k : Nat => D.str (Str.ofString "zq" ++ ltr ((first + (k : Int)) % 26))) = ZQ at *
      clear hf Nlow Nnd Nl hN s0 s1 t0 t1 f0 f1 g0 g1 h0 h1 sp Bl Bo ls cl8 hcl hcs ht ht13 mm
      subst hst
      unfold b__law_names_v2
      walk_at "vi*"
def NumN (N : List Str) : T3 → Prop
  | .num n => 0 ≤ n ∧ n ≤ 99
  | .name s => s ∈ N
  | .op _ a b => NumN N a ∧ NumN N b
theorem eq_strs0 (xs : List Str) (h : ∀ x ∈ xs, PyData.strOk x = true) : eqO (.lst (xs.map D.str)) (.lst []) = some (.pure (.bl xs.isEmpty)) := by
  rw [eqO_pl (a := .lst (xs.map D.str)) (b := .lst []) rfl rfl (by simp [O.er]) (by simp [O.er]) (pl_le (n := 64) (pl_lst (n := 0) fun d hd => by
        obtain ⟨s, hs, rfl⟩ := List.mem_map.mp hd
        exact pl_str 0 _ (h s hs)) (by omega)) (pl_le (pl_lst (n := 0) (by simp)) (by omega))]
  cases xs <;> simp
theorem len_strs (l : List Str) : lenO [.lst (l.map D.str)] = some (.pure (.int l.length)) := by simp [lenO, elemsO]
theorem ix_strs {N : List Str} {r : Int} (h0 : 0 ≤ r) (h1 : r < N.length) : ∃ s ∈ N, ixO (.lst (N.map D.str)) (.pure (.int r)) = some (.pure (.str s)) := by
  have hl : r.toNat < N.length := by omega
  exact ⟨N[r.toNat], List.getElem_mem hl, by rw [ix_l, atI_lt _ _ h0, List.getElem?_map, List.getElem?_eq_getElem hl]; rfl⟩
theorem sum2_spec (N : List Str) (ok : ∀ s ∈ N, PyData.strOk s = true) (hN : N.length ≤ 100) (near b : Int) (n : Nat) : ∀ (d : Nat) (dd a : Int), dd = d → ∃ (t : T3) (a' : Int), NumN N t ∧ dep t ≤ d + 1 ∧ siz t ≤ 2 ^ (d + 1) ∧
    callN (n + d + 2) 126 [drS a b, .lst (N.map D.str), .pure (.int near), .pure (.int dd)] = .ok (.pure (tD t)) [drS a' b, .lst (N.map D.str), .pure (.int near), .pure (.int dd)] := by
  have e0 := eq_strs0 N ok
  have ln := len_strs N
  intro d
  induction d with
  | zero =>
    intro dd a hD
    subst hD
    obtain ⟨kind, a1, k0, k1, d1⟩ := draw_spec n a b 6 (by omega) (by omega)
    by_cases hk : kind = 0 ∨ N = []
    · obtain ⟨r, a2, r0, r1, d2⟩ := draw_spec n a1 b 7 (by omega) (by omega)
      refine ⟨.num ((near + r) % 100), a2, ⟨Int.emod_nonneg _ (by omega), by have := Int.emod_lt_of_pos (near + r) (show (0 : Int) < 100 by omega); omega⟩, by simp [dep], by simp [siz], (c__law_sum_v2 (n + 1) _).trans ((bodyC_a 4 3 _ _ rfl).trans ?_)⟩
      simp only [tD]
      have hb : kind = 0 ∨ (¬ kind = 0 ∧ N.isEmpty = true) := by
        by_cases h : kind = 0
        · exact .inl h
        · exact .inr ⟨h, by rw [hk.resolve_left h]; rfl⟩
      clear hk k0 k1 r0 r1 ok hN
      unfold b__law_sum_v2
      rcases hb with h | ⟨h, h2⟩
      · subst h; walk_at "vi*"
      · rw [h2] at e0; walk_at "vi*"
    · have hk0 : ¬ kind = 0 := fun h => hk (.inl h)
      have hne : N ≠ [] := fun h => hk (.inr h)
      have hl : 0 < N.length := List.length_pos_iff.mpr hne
      have hem : N.isEmpty = false := by cases N with
        | nil => exact absurd rfl hne
        | cons _ _ => rfl
      rw [hem] at e0
      by_cases h1 : kind = 1
      · obtain ⟨r, a2, r0, r1, d2⟩ := draw_spec n a1 b N.length (by omega) (by omega)
        obtain ⟨s, hs, ix⟩ := ix_strs r0 r1
        refine ⟨.name s, a2, hs, by simp [dep], by simp [siz], (c__law_sum_v2 (n + 1) _).trans ((bodyC_a 4 3 _ _ rfl).trans ?_)⟩
        simp only [tD]
        clear hk k0 k1 r0 r1 ok hN hne hl hem hs
        unfold b__law_sum_v2
        subst h1; walk_at "vi*"
      · by_cases h2 : kind = 2
        · obtain ⟨r, a2, r0, r1, d2⟩ := draw_spec n a1 b 100 (by omega) (by omega)
          refine ⟨.num r, a2, ⟨r0, by omega⟩, by simp [dep], by simp [siz], (c__law_sum_v2 (n + 1) _).trans ((bodyC_a 4 3 _ _ rfl).trans ?_)⟩
          simp only [tD]
          clear hk k0 k1 r0 r1 ok hN hne hl hem
          unfold b__law_sum_v2
          subst h2; walk_at "vi*"
        · obtain ⟨r, a2, r0, r1, d2⟩ := draw_spec n a1 b 3 (by omega) (by omega)
          obtain ⟨o, so⟩ := sign_at r r0 r1
          obtain ⟨q, a3, q0, q1, d3⟩ := draw_spec n a2 b N.length (by omega) (by omega)
          obtain ⟨s, hs, ix⟩ := ix_strs q0 q1
          obtain ⟨v, a4, v0, v1, d4⟩ := draw_spec n a3 b 4 (by omega) (by omega)
          refine ⟨.op o (.name s) (.num v), a4, ⟨hs, v0, by omega⟩, by simp [dep], by simp [siz], (c__law_sum_v2 (n + 1) _).trans ((bodyC_a 4 3 _ _ rfl).trans ?_)⟩
          simp only [tD]
          by_cases h5 : kind < 5 <;> (clear hk k0 k1 r0 r1 ok hN hne hl hem hs q0 q1 v0 v1; unfold b__law_sum_v2; walk_at "vi*")
  | succ d ih =>
    intro dd a hD
    have hD0 : ¬ dd = 0 := by omega
    have hD1 : dd - 1 = (d : Int) := by omega
    have ihD : ∀ a : Int, ∃ (t : T3) (a' : Int), NumN N t ∧ dep t ≤ d + 1 ∧ siz t ≤ 2 ^ (d + 1) ∧ callN (n + d + 2) 126 [drS a b, .lst (N.map D.str), .pure (.int near), .pure (.int (dd - 1))] = .ok (.pure (tD t)) [drS a' b, .lst (N.map D.str), .pure (.int near), .pure (.int (dd - 1))] := fun a => ih (dd - 1) a hD1
    clear ih hD hD1
    have p1 : 2 ^ (d + 1) ≥ 1 := Nat.one_le_two_pow
    have p2 : 2 ^ (d + 1 + 1) = 2 * 2 ^ (d + 1) := by rw [Nat.pow_succ]; omega
    obtain ⟨kind, a1, k0, k1, d1⟩ := draw_spec (n + d + 1) a b 6 (by omega) (by omega)
    by_cases hk : kind = 0 ∨ N = []
    · obtain ⟨r, a2, r0, r1, d2⟩ := draw_spec (n + d + 1) a1 b 7 (by omega) (by omega)
      refine ⟨.num ((near + r) % 100), a2, ⟨Int.emod_nonneg _ (by omega), by have := Int.emod_lt_of_pos (near + r) (show (0 : Int) < 100 by omega); omega⟩, by simp [dep], by simp only [siz]; omega, (c__law_sum_v2 (n + d + 2) _).trans ((bodyC_a 4 3 _ _ rfl).trans ?_)⟩
      simp only [tD]
      have hb : kind = 0 ∨ (¬ kind = 0 ∧ N.isEmpty = true) := by
        by_cases h : kind = 0
        · exact .inl h
        · exact .inr ⟨h, by rw [hk.resolve_left h]; rfl⟩
      clear hk k0 k1 r0 r1 ok hN ihD p1 p2
      unfold b__law_sum_v2
      rcases hb with h | ⟨h, h2⟩
      · subst h; walk_at "vi*"
      · rw [h2] at e0; walk_at "vi*"
    · have hk0 : ¬ kind = 0 := fun h => hk (.inl h)
      have hne : N ≠ [] := fun h => hk (.inr h)
      have hl : 0 < N.length := List.length_pos_iff.mpr hne
      have hem : N.isEmpty = false := by cases N with
        | nil => exact absurd rfl hne
        | cons _ _ => rfl
      rw [hem] at e0
      by_cases h1 : kind = 1
      · obtain ⟨r, a2, r0, r1, d2⟩ := draw_spec (n + d + 1) a1 b N.length (by omega) (by omega)
        obtain ⟨s, hs, ix⟩ := ix_strs r0 r1
        refine ⟨.name s, a2, hs, by simp [dep], by simp only [siz]; omega, (c__law_sum_v2 (n + d + 2) _).trans ((bodyC_a 4 3 _ _ rfl).trans ?_)⟩
        simp only [tD]
        clear hk k0 k1 r0 r1 ok hN hne hl hem hs ihD p1 p2
        unfold b__law_sum_v2
        subst h1; walk_at "vi*"
      · by_cases h2 : kind = 2
        · obtain ⟨r, a2, r0, r1, d2⟩ := draw_spec (n + d + 1) a1 b 100 (by omega) (by omega)
          refine ⟨.num r, a2, ⟨r0, by omega⟩, by simp [dep], by simp only [siz]; omega, (c__law_sum_v2 (n + d + 2) _).trans ((bodyC_a 4 3 _ _ rfl).trans ?_)⟩
          simp only [tD]
          clear hk k0 k1 r0 r1 ok hN hne hl hem ihD p1 p2
          unfold b__law_sum_v2
          subst h2; walk_at "vi*"
        · obtain ⟨r, a2, r0, r1, d2⟩ := draw_spec (n + d + 1) a1 b 3 (by omega) (by omega)
          obtain ⟨o, so⟩ := sign_at r r0 r1
          by_cases h5 : kind < 5
          · obtain ⟨q, a3, q0, q1, d3⟩ := draw_spec (n + d + 1) a2 b N.length (by omega) (by omega)
            obtain ⟨s, hs, ix⟩ := ix_strs q0 q1
            obtain ⟨v, a4, v0, v1, d4⟩ := draw_spec (n + d + 1) a3 b 4 (by omega) (by omega)
            refine ⟨.op o (.name s) (.num v), a4, ⟨hs, v0, by omega⟩, by simp [dep], by simp only [siz]; omega, (c__law_sum_v2 (n + d + 2) _).trans ((bodyC_a 4 3 _ _ rfl).trans ?_)⟩
            simp only [tD]
            clear hk k0 k1 r0 r1 ok hN hne hl hem hs q0 q1 v0 v1 ihD p1 p2
            unfold b__law_sum_v2
            walk_at "vi*"
          · obtain ⟨t1, a3, n1, z1, y1, c1⟩ := ihD a2
            obtain ⟨t2, a4, n2, z2, y2, c2⟩ := ihD a3
            refine ⟨.op o t1 t2, a4, ⟨n1, n2⟩, by simp only [dep]; omega, by simp only [siz]; omega, (c__law_sum_v2 (n + d + 2) _).trans ((bodyC_a 4 3 _ _ rfl).trans ?_)⟩
            simp only [tD]
            clear hk k0 k1 r0 r1 ok hN hne hl hem ihD p1 p2 n1 z1 y1 n2 z2 y2
            unfold b__law_sum_v2
            walk_at "vi*"
theorem sg_ne (o : Op3) : (sg o = Str.ofString "number") = False ∧ (sg o = Str.ofString "name") = False := by cases o <;> exact ⟨eq_false (by decide), eq_false (by decide)⟩
theorem sumof_spec : ∀ (t : T3) (d : Nat), dep t ≤ d → callN (d + 2) 128 [.pure (tD t)] = .ok (.ins (icls t) (ifls t)) [.pure (tD t)]
  | .num n, d, hd => by
    refine (c__law_sum_of (d + 1) _).trans ((bodyC_a 1 2 _ _ rfl).trans ?_)
    have ni := num_init d n
    unfold b__law_sum_of
    simp only [tD, icls, ifls]
    clear hd
    walk_at "vi*"
  | .name s, d, hd => by
    refine (c__law_sum_of (d + 1) _).trans ((bodyC_a 1 2 _ _ rfl).trans ?_)
    have k1 : (Str.ofString "name" = Str.ofString "number") = False := eq_false (by decide)
    have ni := nam_init d s
    unfold b__law_sum_of
    simp only [tD, icls, ifls]
    clear hd
    walk_at "vi*"
  | .op o a b, 0, hd => by simp [dep] at hd
  | .op o a b, d + 1, hd => by
    simp only [dep] at hd
    have ea := sumof_spec a d (by omega)
    have eb := sumof_spec b d (by omega)
    have ji := jn_init (d + 1) o a b
    have k1 := (sg_ne o).1
    have k2 := (sg_ne o).2
    refine (c__law_sum_of (d + 2) _).trans ((bodyC_a 1 2 _ _ rfl).trans ?_)
    unfold b__law_sum_of
    clear hd
    cases o with
    | p =>
      have k3 : (sg .p = Str.ofString "+") = True := eq_true rfl
      have k4 : cn .p = Str.ofString "Plus" := rfl
      simp only [tD, icls, ifls]
      rw [k4] at ji ⊢
      walk_at "vi*"
    | m =>
      have k3 : (sg .m = Str.ofString "+") = False := eq_false (by decide)
      have k5 : (sg .m = Str.ofString "-") = True := eq_true rfl
      have k4 : cn .m = Str.ofString "Minus" := rfl
      simp only [tD, icls, ifls]
      rw [k4] at ji ⊢
      walk_at "vi*"
    | t =>
      have k3 : (sg .t = Str.ofString "+") = False := eq_false (by decide)
      have k5 : (sg .t = Str.ofString "-") = False := eq_false (by decide)
      have k4 : cn .t = Str.ofString "Times" := rfl
      simp only [tD, icls, ifls]
      rw [k4] at ji ⊢
      walk_at "vi*"
def NumS (N : List Str) : S4 → Prop
  | .yes => True
  | .cmp _ a b => (NumN N a ∧ NumN N b) ∧ siz a ≤ 8 ∧ siz b ≤ 8
  | .no s => NumS N s
  | .both a b => NumS N a ∧ NumS N b
  | .either a b => NumS N a ∧ NumS N b
theorem saying2_spec (N : List Str) (ok : ∀ s ∈ N, PyData.strOk s = true) (hN : N.length ≤ 100) (near b : Int) (n : Nat) : ∀ (d : Nat) (dd a : Int), dd = d → ∃ (t : S4) (a' : Int), NumS N t ∧ sdep t ≤ d + 3 ∧
    callN (n + d + 4) 148 [drS a b, .lst (N.map D.str), .pure (.int near), .pure (.int dd)] = .ok (.pure (sD t)) [drS a' b, .lst (N.map D.str), .pure (.int near), .pure (.int dd)] := by
  have cmp : ∀ (k : Nat) (dd a a1 kind : Int), callN (k + 3) 124 [drS a b, .pure (.int 8)] = .ok (.pure (.int kind)) [drS a1 b, .pure (.int 8)] → ¬ kind = 0 → (kind < 5 ∨ (¬ kind < 5 ∧ dd = 0)) → ∃ (t : S4) (a' : Int), NumS N t ∧ sdep t ≤ 3 ∧
      callN (k + 4) 148 [drS a b, .lst (N.map D.str), .pure (.int near), .pure (.int dd)] = .ok (.pure (sD t)) [drS a' b, .lst (N.map D.str), .pure (.int near), .pure (.int dd)] := by
    intro k dd a a1 kind d1 h0 h5
    obtain ⟨r, a2, r0, r1, d2⟩ := draw_spec (k + 2) a1 b 4 (by omega) (by omega)
    obtain ⟨o, so⟩ := csg_at r r0 r1
    obtain ⟨t1, a3, n1, z1, y1, c1⟩ := sum2_spec N ok hN near b k 1 1 a2 rfl
    obtain ⟨t2, a4, n2, z2, y2, c2⟩ := sum2_spec N ok hN near b k 1 1 a3 rfl
    refine ⟨.cmp o t1 t2, a4, ⟨⟨n1, n2⟩, by omega, by omega⟩, by simp only [sdep]; omega, (c__law_saying_v2 (k + 3) _).trans ((bodyC_a 4 4 _ _ rfl).trans ?_)⟩
    simp only [sD]
    clear ok hN r0 r1 n1 z1 y1 n2 z2 y2
    unfold b__law_saying_v2
    rcases h5 with h5 | ⟨h5, h6⟩
    · walk_at "vi*"
    · subst h6; walk_at "vi*"
  intro d
  induction d with
  | zero =>
    intro dd a hd
    have hd : dd = 0 := hd
    obtain ⟨kind, a1, k0, k1, d1⟩ := draw_spec (n + 2) a b 8 (by omega) (by omega)
    by_cases hk : kind = 0
    · refine ⟨.yes, a1, trivial, by simp [sdep], (c__law_saying_v2 (n + 3) _).trans ((bodyC_a 4 4 _ _ rfl).trans ?_)⟩
      simp only [sD]
      clear k0 k1 ok hN cmp hd
      unfold b__law_saying_v2
      subst hk; walk_at "vi*"
    · exact cmp n dd a a1 kind d1 hk (by omega)
  | succ d ih =>
    intro dd a hd
    have hd0 : ¬ dd = 0 := by omega
    obtain ⟨kind, a1, k0, k1, d1⟩ := draw_spec (n + d + 3) a b 8 (by omega) (by omega)
    by_cases hk : kind = 0
    · refine ⟨.yes, a1, trivial, by simp [sdep], (c__law_saying_v2 (n + d + 4) _).trans ((bodyC_a 4 4 _ _ rfl).trans ?_)⟩
      simp only [sD]
      clear k0 k1 ok hN cmp hd ih hd0
      unfold b__law_saying_v2
      subst hk; walk_at "vi*"
    · by_cases h5 : kind < 5
      · obtain ⟨t, a', h1, h2, h3⟩ := cmp (n + (d + 1)) dd a a1 kind d1 hk (.inl h5)
        exact ⟨t, a', h1, by omega, h3⟩
      · have ihD : ∀ a : Int, ∃ (t : S4) (a' : Int), NumS N t ∧ sdep t ≤ d + 3 ∧ callN (n + d + 4) 148 [drS a b, .lst (N.map D.str), .pure (.int near), .pure (.int (dd - 1))] = .ok (.pure (sD t)) [drS a' b, .lst (N.map D.str), .pure (.int near), .pure (.int (dd - 1))] := fun a => ih (dd - 1) a (by omega)
        clear ih cmp
        by_cases h6 : kind = 5
        · obtain ⟨t1, a3, n1, z1, c1⟩ := ihD a1
          refine ⟨.no t1, a3, n1, by simp only [sdep]; omega, (c__law_saying_v2 (n + d + 4) _).trans ((bodyC_a 4 4 _ _ rfl).trans ?_)⟩
          simp only [sD]
          clear k0 k1 ok hN hd ihD n1 z1 h5 hk
          unfold b__law_saying_v2
          subst h6; walk_at "vi*"
        · obtain ⟨r, a2, r0, r1, d2⟩ := draw_spec (n + d + 3) a1 b 2 (by omega) (by omega)
          have ia := ao_at r r0 r1
          obtain ⟨t1, a3, n1, z1, c1⟩ := ihD a2
          obtain ⟨t2, a4, n2, z2, c2⟩ := ihD a3
          have key : ∃ t : S4, NumS N t ∧ sdep t ≤ d + 1 + 3 ∧ sD t = .tup [.str (if r = 0 then Str.ofString "and" else Str.ofString "or"), sD t1, sD t2] := by
            by_cases hz : r = 0
            · exact ⟨.both t1 t2, ⟨n1, n2⟩, by simp only [sdep]; omega, by rw [if_pos hz]; rfl⟩
            · exact ⟨.either t1 t2, ⟨n1, n2⟩, by simp only [sdep]; omega, by rw [if_neg hz]; rfl⟩
          obtain ⟨t, e1, e2, e3⟩ := key
          refine ⟨t, a4, e1, e2, (c__law_saying_v2 (n + d + 4) _).trans ((bodyC_a 4 4 _ _ rfl).trans ?_)⟩
          rw [e3]
          generalize (if r = 0 then Str.ofString "and" else Str.ofString "or") = w at *
          clear k0 k1 ok hN hd ihD n1 z1 n2 z2 r0 r1 e1 e2 e3
          unfold b__law_saying_v2
          walk_at "vi*"
theorem sayof_spec : ∀ (t : S4) (d : Nat), sdep t ≤ d → callN (d + 3) 150 [.pure (sD t)] = .ok (.ins (scls t) (sfls t)) [.pure (sD t)]
  | .yes, d, hd => by
    refine (c__law_saying_of (d + 2) _).trans ((bodyC_a 1 2 _ _ rfl).trans ?_)
    unfold b__law_saying_of
    simp only [sD, scls, sfls]
    clear hd
    walk_at "vi*"
  | .no s, 0, hd => by simp [sdep] at hd
  | .no s, d + 1, hd => by
    simp only [sdep] at hd
    have es := sayof_spec s d (by omega)
    have ni := no_init (d + 2) s
    have k1 : (Str.ofString "not" = Str.ofString "yes") = False := eq_false (by decide)
    refine (c__law_saying_of (d + 3) _).trans ((bodyC_a 1 2 _ _ rfl).trans ?_)
    unfold b__law_saying_of
    simp only [sD, scls, sfls]
    clear hd
    walk_at "vi*"
  | .both a b, 0, hd => by simp [sdep] at hd
  | .both a b, d + 1, hd => by
    simp only [sdep] at hd
    have ea := sayof_spec a d (by omega)
    have eb := sayof_spec b d (by omega)
    have ni := both_init (d + 2) a b
    have k1 : (Str.ofString "and" = Str.ofString "yes") = False := eq_false (by decide)
    have k2 : (Str.ofString "and" = Str.ofString "not") = False := eq_false (by decide)
    refine (c__law_saying_of (d + 3) _).trans ((bodyC_a 1 2 _ _ rfl).trans ?_)
    unfold b__law_saying_of
    simp only [sD, scls, sfls]
    clear hd
    walk_at "vi*"
  | .either a b, 0, hd => by simp [sdep] at hd
  | .either a b, d + 1, hd => by
    simp only [sdep] at hd
    have ea := sayof_spec a d (by omega)
    have eb := sayof_spec b d (by omega)
    have ni := ei_init (d + 2) a b
    have k1 : (Str.ofString "or" = Str.ofString "yes") = False := eq_false (by decide)
    have k2 : (Str.ofString "or" = Str.ofString "not") = False := eq_false (by decide)
    have k3 : (Str.ofString "or" = Str.ofString "and") = False := eq_false (by decide)
    refine (c__law_saying_of (d + 3) _).trans ((bodyC_a 1 2 _ _ rfl).trans ?_)
    unfold b__law_saying_of
    simp only [sD, scls, sfls]
    clear hd
    walk_at "vi*"
  | .cmp o a b, 0, hd => by simp [sdep] at hd
  | .cmp o a b, d + 1, hd => by
    simp only [sdep] at hd
    have ea := sumof_spec a (d + 1) (by omega)
    have eb := sumof_spec b (d + 1) (by omega)
    have ni := cmp_init (d + 2) o a b
    have k1 : (csg o = Str.ofString "yes") = False := eq_false (by cases o <;> decide)
    have k2 : (csg o = Str.ofString "not") = False := eq_false (by cases o <;> decide)
    have k3 : (csg o = Str.ofString "and") = False := eq_false (by cases o <;> decide)
    have k4 : (csg o = Str.ofString "or") = False := eq_false (by cases o <;> decide)
    refine (c__law_saying_of (d + 3) _).trans ((bodyC_a 1 2 _ _ rfl).trans ?_)
    unfold b__law_saying_of
    simp only [sD, scls, sfls]
    clear hd
    cases o with
    | lt =>
      have k5 : (csg .lt = Str.ofString "<") = True := eq_true rfl
      rw [show ccn .lt = Str.ofString "Less" from rfl] at ni ⊢
      walk_at "vi*"
    | le =>
      have k5 : (csg .le = Str.ofString "<") = False := eq_false (by decide)
      have k6 : (csg .le = Str.ofString "<=") = True := eq_true rfl
      rw [show ccn .le = Str.ofString "AtMost" from rfl] at ni ⊢
      walk_at "vi*"
    | eq =>
      have k5 : (csg .eq = Str.ofString "<") = False := eq_false (by decide)
      have k6 : (csg .eq = Str.ofString "<=") = False := eq_false (by decide)
      have k7 : (csg .eq = Str.ofString "=") = True := eq_true rfl
      rw [show ccn .eq = Str.ofString "Equal" from rfl] at ni ⊢
      walk_at "vi*"
    | ne =>
      have k5 : (csg .ne = Str.ofString "<") = False := eq_false (by decide)
      have k6 : (csg .ne = Str.ofString "<=") = False := eq_false (by decide)
      have k7 : (csg .ne = Str.ofString "=") = False := eq_false (by decide)
      rw [show ccn .ne = Str.ofString "Unlike" from rfl] at ni ⊢
      walk_at "vi*"
structure PlaceT where
  nm : Str
  lo : Int
  hi : Int
  st : Int
def plD (p : PlaceT) : D := .tup [.str p.nm, .int p.lo, .int p.hi, .int p.st]
structure PlaceOk (p : PlaceT) : Prop where
  nm : NameOk p.nm
  lo : 0 ≤ p.lo
  st : p.lo ≤ p.st
  hi : p.st ≤ p.hi
  w : p.hi ≤ p.lo + 5
  top : p.hi ≤ 99
inductive ChangeT where
  | put (x : Str) (a : T3) | any (x : Str) (a b : T3)
def ChangeT.nm : ChangeT → Str
  | .put x _ => x | .any x _ _ => x
def chD : ChangeT → D
  | .put x a => .tup [.str x, tD a] | .any x a b => .tup [.str x, tD a, tD b]
def ChangeOk (N : List Str) : ChangeT → Prop
  | .put x a => x ∈ N ∧ NumN N a ∧ siz a ≤ 8 ∧ dep a ≤ 7
  | .any x a b => x ∈ N ∧ (NumN N a ∧ siz a ≤ 8 ∧ dep a ≤ 7) ∧ (NumN N b ∧ siz b ≤ 8 ∧ dep b ≤ 7)
structure DeedT where
  called : Str
  cond : S4
  changes : List ChangeT
def deD (d : DeedT) : D := .tup [.str d.called, sD d.cond, .tup (d.changes.map chD)]
structure DeedOk (N : List Str) (d : DeedT) : Prop where
  called : NameOk d.called
  cond : NumS N d.cond
  dep : sdep d.cond ≤ 8
  ch : ∀ c ∈ d.changes, ChangeOk N c
  nd : (d.changes.map ChangeT.nm).Nodup
  few : d.changes.length ≤ 3
theorem chg_dep {t : T3} (h : siz t ≤ 8) : dep t ≤ 7 := by have := dep_siz t; omega
theorem pl_plD (p : PlaceT) (h : NameOk p.nm) : Pl 1 (plD p) := pl_tup (n := 0) fun d hd => by
  simp only [List.mem_cons, List.mem_nil_iff, or_false] at hd
  rcases hd with rfl | rfl | rfl | rfl
  · exact pl_str 0 _ h.strOk
  · exact pl_int 0 _
  · exact pl_int 0 _
  · exact pl_int 0 _
theorem ne_nil {l : List D} (h : ∀ d ∈ l, Pl 60 d) : neO (.lst l) (.lst []) = some (.pure (.bl (!l.isEmpty))) := by
  rw [neO_pl (a := .lst l) (b := .lst []) rfl rfl (by simp [O.er]) (by simp [O.er]) (pl_le (n := 64) (pl_lst (n := 60) h) (by omega)) (pl_le (pl_lst (n := 0) (by simp)) (by omega))]
  cases l <;> simp
theorem len_lst (l : List D) : lenO [.lst l] = some (.pure (.int l.length)) := by simp [lenO, elemsO]
theorem places_spec (n : Nat) (ns : List Int) (hn : ns.length ≤ 63) (start : Int) (s0 : 0 ≤ start) (s1 : start ≤ 500) (N : List Str) (hN : N.length ≤ 100) (hok : ∀ s ∈ N, NameOk s) : ∃ ps : List PlaceT, ps.map PlaceT.nm = N ∧ (∀ p ∈ ps, PlaceOk p) ∧
    callN (n + 2) 151 [.pure (.lst (ns.map D.int)), .pure (.int start), .lst (N.map D.str)] = .ok (.lst (ps.map plD)) [.pure (.lst (ns.map D.int)), .pure (.int start), .lst (N.map D.str)] := by
  have ln := len_strs N
  have r1 : rng1 [.pure (.int (N.length : Int))] = some ((List.range N.length).map fun k : Nat => D.int (k : Int)) := rng1_nat N.length (by omega)
  have key : ∀ (ks : List Nat), (∀ k ∈ ks, k < N.length) → ∀ (ps : List PlaceT) (t4 t5 t6 t7 t8 t9 : Slot), ps.length + ks.length ≤ 200 → Fre t4 → Fre t6 → Fre t7 → Fre t8 → Fre t9 → (t5 = .un ∨ ∃ a b, t5 = .loc (drS a b)) → ∃ (qs : List PlaceT) (t4' t5' t6' t7' t8' t9' : Slot), qs.map PlaceT.nm = ps.map PlaceT.nm ++ ks.map (fun k => N.getD k Str.empty) ∧ ((∀ p ∈ ps, PlaceOk p) → ∀ p ∈ qs, PlaceOk p) ∧
      loopS (nmT 4) (seqS (asgS 5 (callA (callN (n + 1)) 123 [(callA (callN (n + 1)) 122 [(nm 0), (bin addO (nm 1) (nm 4))])])) (seqS (asgS 6 (callA (callN (n + 1)) 124 [(nm 5), (cst (.int 2))])) (seqS (asgS 7 (callA (callN (n + 1)) 124 [(nm 5), (cst (.int 6))])) (seqS (asgS 8 (callA (callN (n + 1)) 124 [(nm 5), (bin addO (nm 7) (cst (.int 1)))])) (seqS (asgS 9 (bin mulO (nm 6) (callA (callN (n + 1)) 124 [(nm 5), (cst (.int 95))]))) (dropS (mutE "list" appO (nm 3) [(tupE (evs [(bin ixO (nm 2) (nm 4)), (nm 9), (bin addO (nm 9) (nm 7)), (bin addO (nm 9) (nm 8))]))]))))))) (ks.map fun k : Nat => D.int (k : Int)) [.par (.pure (.lst (ns.map D.int))), .par (.pure (.int start)), .par (.lst (N.map D.str)), .loc (.lst (ps.map plD)), t4, t5, t6, t7, t8, t9] = .ok .next [.par (.pure (.lst (ns.map D.int))), .par (.pure (.int start)), .par (.lst (N.map D.str)), .loc (.lst (qs.map plD)), t4', t5', t6', t7', t8', t9'] := by
    intro ks
    induction ks with
    | nil => exact fun _ ps t4 t5 t6 t7 t8 t9 _ _ _ _ _ _ _ => ⟨ps, t4, t5, t6, t7, t8, t9, by simp, fun h => h, by simp [loop_n]⟩
    | cons k ks ih =>
      intro hk ps t4 t5 t6 t7 t8 t9 hl f4 f6 f7 f8 f9 f5
      have hk1 := hk k (by simp)
      have ce := ce_spec n ns (start + (k : Int)) (by omega) (by omega) hn
      have bg := begin_spec n (lawCe ns (start + (k : Int)))
      obtain ⟨far, a1, a0, a01, d1⟩ := draw_spec n (lawCe ns (start + (k : Int)) / 2) (lawCe ns (start + (k : Int)) % 2) 2 (by omega) (by omega)
      generalize lawCe ns (start + (k : Int)) % 2 = b at *
      obtain ⟨wide, a2, w0, w1, d2⟩ := draw_spec n a1 b 6 (by omega) (by omega)
      obtain ⟨fst, a3, c0, c1, d3⟩ := draw_spec n a2 b (wide + 1) (by omega) (by omega)
      obtain ⟨lw, a4, l0, l1, d4⟩ := draw_spec n a3 b 95 (by omega) (by omega)
      have ml : mulO (.pure (.int far)) (.pure (.int lw)) = some (.pure (.int (far * lw))) := mul_i _ _ (mulC_l _ _ (by omega) (by omega))
      have ix : ixO (.lst (N.map D.str)) (.pure (.int (k : Int))) = some (.pure (.str (N.getD k Str.empty))) := by
        rw [ix_l, atI_lt _ _ (by omega), List.getElem?_map, show ((k : Int)).toNat = k by omega, List.getElem?_eq_getElem hk1]
        simp [List.getD, hk1]
      have hnk : NameOk (N.getD k Str.empty) := by
        have : N.getD k Str.empty = N[k] := by simp [List.getD, hk1]
        rw [this]; exact hok _ (List.getElem_mem hk1)
      have fl : far * lw = 0 ∨ far * lw = lw := by
        have : far = 0 ∨ far = 1 := by omega
        rcases this with rfl | rfl <;> simp
      obtain ⟨qs, u4, u5, u6, u7, u8, u9, e1, e2, e3⟩ := ih (fun q hq => hk q (List.mem_cons_of_mem _ hq)) (ps ++ [⟨N.getD k Str.empty, far * lw, far * lw + wide, far * lw + fst⟩]) (.loc (.pure (.int k))) (.loc (drS a4 b)) (.loc (.pure (.int far))) (.loc (.pure (.int wide))) (.loc (.pure (.int fst))) (.loc (.pure (.int (far * lw)))) (by simp at hl ⊢; omega) (fre_d _) (fre_d _) (fre_d _) (fre_d _) (fre_d _) (.inr ⟨_, _, rfl⟩)
      refine ⟨qs, u4, u5, u6, u7, u8, u9, by simpa using e1, fun h => e2 fun p hp => ?_, ?_⟩
      · rcases List.mem_append.mp hp with hp | hp
        · exact h p hp
        · rw [List.mem_singleton.mp hp]
          exact ⟨hnk, by dsimp only; omega, by dsimp only; omega, by dsimp only; omega, by dsimp only; omega, by dsimp only; omega⟩
      · have l0' : (ps.map plD).length < 16777216 := by simp at hl ⊢; omega
        simp only [List.map_append, List.map_cons, List.map_nil, plD] at e3
        generalize ps.map plD = PS at *
        generalize N.getD k Str.empty = nk at *
        clear ih hk hl hk1 e1 e2 a0 a01 w0 w1 c0 c1 l0 l1 hnk fl hn s0 s1 hN hok ln r1
        rcases f5 with rfl | ⟨a, b2, rfl⟩ <;> walk_at "vi*"
  obtain ⟨ps, t4, t5, t6, t7, t8, t9, e1, e2, e3⟩ := key (List.range N.length) (fun k hk => List.mem_range.mp hk) [] .un .un .un .un .un .un (by simp; omega) fre_un fre_un fre_un fre_un fre_un (.inl rfl)
  refine ⟨ps, ?_, e2 (by simp), (c__law_places (n + 1) _).trans ((bodyC_a 3 7 _ _ rfl).trans ?_)⟩
  · rw [e1]
    simp only [List.map_nil, List.nil_append]
    refine List.ext_getElem (by simp) fun i h1 h2 => ?_
    have : i < N.length := by simpa using h1
    simp [List.getD, this]
  · clear key e1 e2 hN hok hn s0 s1
    simp only [List.map_nil] at e3
    unfold b__law_places
    walk_at "vi*"
theorem ix_t0 {l : List D} {d : D} : ixO (.pure (.tup (d :: l))) (.pure (.int 0)) = some (.pure d) := by rw [ix_t, atI_lt _ _ (by omega)]; rfl
theorem ix_t1 {l : List D} {c d : D} : ixO (.pure (.tup (c :: d :: l))) (.pure (.int 1)) = some (.pure d) := by rw [ix_t, atI_lt _ _ (by omega)]; rfl
theorem ix_t2 {l : List D} {b c d : D} : ixO (.pure (.tup (b :: c :: d :: l))) (.pure (.int 2)) = some (.pure d) := by rw [ix_t, atI_lt _ _ (by omega)]; rfl
theorem names_strOk {N : List Str} (h : ∀ s ∈ N, NameOk s) : ∀ s ∈ N, PyData.strOk s = true := fun s hs => (h s hs).strOk
theorem change_spec (n : Nat) (c : Int) (p : PlaceT) (N : List Str) (hN : N.length ≤ 100) (ok : ∀ s ∈ N, NameOk s) (hp : p.nm ∈ N) : ∃ ch : ChangeT, ch.nm = p.nm ∧ ChangeOk N ch ∧
    callN (n + 6) 152 [.pure (.int c), .pure (plD p), .lst (N.map D.str)] = .ok (.pure (chD ch)) [.pure (.int c), .pure (plD p), .lst (N.map D.str)] := by
  have bg := begin_spec (n + 4) c
  obtain ⟨wide, a1, w0, w1, d1⟩ := draw_spec (n + 4) (c / 2) (c % 2) 3 (by omega) (by omega)
  generalize c % 2 = b at *
  obtain ⟨t1, a2, n1, z1, y1, c1⟩ := sum2_spec N (names_strOk ok) hN p.lo b (n + 1) 2 2 a1 rfl
  obtain ⟨t2, a3, n2, z2, y2, c2⟩ := sum2_spec N (names_strOk ok) hN (p.lo + 2) b (n + 2) 1 1 a2 rfl
  have i0 : ixO (.pure (plD p)) (.pure (.int 0)) = some (.pure (.str p.nm)) := ix_t0
  have i1 : ixO (.pure (plD p)) (.pure (.int 1)) = some (.pure (.int p.lo)) := ix_t1
  by_cases hw : wide = 0
  · refine ⟨.any p.nm t1 t2, rfl, ⟨hp, ⟨n1, by omega, chg_dep (by omega)⟩, n2, by omega, chg_dep (by omega)⟩, (c__law_change (n + 5) _).trans ((bodyC_a 3 3 _ _ rfl).trans ?_)⟩
    simp only [chD]
    clear w0 w1 n1 z1 y1 n2 z2 y2 hp ok hN
    unfold b__law_change
    subst hw; walk_at "vi*"
  · refine ⟨.put p.nm t1, rfl, ⟨hp, n1, by omega, chg_dep (by omega)⟩, (c__law_change (n + 5) _).trans ((bodyC_a 3 3 _ _ rfl).trans ?_)⟩
    simp only [chD]
    clear w0 w1 n1 z1 y1 n2 z2 y2 hp ok hN c2
    unfold b__law_change
    walk_at "vi*"
theorem deed_spec (n : Nat) (ns : List Int) (hn : ns.length ≤ 63) (start : Int) (s0 : 0 ≤ start) (s1 : start ≤ 500) (called : Str) (hc : NameOk called) (ps : List PlaceT) (hps : ps.length ≤ 3) (hnd : (ps.map PlaceT.nm).Nodup) (hok : ∀ p ∈ ps, PlaceOk p) : ∃ de : DeedT, de.called = called ∧ DeedOk (ps.map PlaceT.nm) de ∧
    callN (n + 8) 153 [.pure (.lst (ns.map D.int)), .pure (.int start), .pure (.str called), .lst (ps.map plD)] = .ok (.pure (deD de)) [.pure (.lst (ns.map D.int)), .pure (.int start), .pure (.str called), .lst (ps.map plD)] := by
  have hN : ∀ s ∈ ps.map PlaceT.nm, NameOk s := fun s hs => by
    obtain ⟨p, hp, rfl⟩ := List.mem_map.mp hs
    exact (hok p hp).nm
  obtain ⟨N, hNe⟩ : ∃ N, ps.map PlaceT.nm = N := ⟨_, rfl⟩
  have Nl : N.length = ps.length := by rw [← hNe]; simp
  -- names
  obtain ⟨t12, ht12, e1⟩ := comp_map (own := [12]) (t := nmT 12) (cond := fun g => .ok true g) (elt := bin ixO (nm 12) (cst (.int 0))) (fun s : Slot => [.par (.pure (.lst (ns.map D.int))), .par (.pure (.int start)), .par (.pure (.str called)), .par .hole, .un, .un, .un, .un, .un, .un, .un, .un, s]) Fre plD (fun p => D.str p.nm) ps (fun p hp s hs => by
    have i0 : ixO (.pure (plD p)) (.pure (.int 0)) = some (.pure (.str p.nm)) := ix_t0
    refine ⟨.loc (.pure (plD p)), fre_d _, ?_⟩
    clear hp hN hNe Nl hok hnd hps hc s0 s1 hn
    walk_at "vi*") [] (by simp; omega) .un fre_un
  rw [show ps.map (fun p => D.str p.nm) = N.map D.str by rw [← hNe, List.map_map]; rfl] at e1
  simp only [List.nil_append] at e1
  have nn := ne_nil (l := ps.map plD) (fun d hd => by
    obtain ⟨p, hp, rfl⟩ := List.mem_map.mp hd
    exact pl_le (pl_plD p (hok p hp).nm) (by omega))
  obtain ⟨near, hnear⟩ : ∃ near : Int, (ps.isEmpty = true ∧ near = 0) ∨ (ps.isEmpty = false ∧ ∃ p r, ps = p :: r ∧ near = p.lo) := by
    cases ps with
    | nil => exact ⟨0, .inl ⟨rfl, rfl⟩⟩
    | cons p r => exact ⟨p.lo, .inr ⟨rfl, p, r, rfl, rfl⟩⟩
  have ce1 := ce_spec (n + 6) ns start (by omega) (by omega) hn
  have ce2 := ce_spec (n + 6) ns (start + 1) (by omega) (by omega) hn
  have bg1 := begin_spec (n + 6) (lawCe ns start)
  have bg2 := begin_spec (n + 6) (lawCe ns (start + 1))
  rw [hNe] at hN hnd
  obtain ⟨cd, a1, k1, k2, c1⟩ := saying2_spec N (names_strOk hN) (by omega) near (lawCe ns start % 2) (n + 1) 2 2 (lawCe ns start / 2) rfl
  obtain ⟨many, a2, m0, m1, d1⟩ := draw_spec (n + 6) (lawCe ns (start + 1) / 2) (lawCe ns (start + 1) % 2) ((ps.length : Int) + 1) (by omega) (by omega)
  obtain ⟨fst, a3, f0, f1, d2⟩ := draw_spec (n + 6) a2 (lawCe ns (start + 1) % 2) 3 (by omega) (by omega)
  have ln := len_lst (ps.map plD)
  rw [List.length_map] at ln
  have rm := rng1_a many m0 (by omega)
  generalize lawCe ns (start + 1) % 2 = b2 at *
  generalize lawCe ns start % 2 = b1 at *
  -- changes
  have key : ∀ (ks : List Nat), (∀ k ∈ ks, (k : Int) < many) → ∀ (cs : List ChangeT) (t11 t12 : Slot), cs.length + ks.length ≤ 100 → Fre t11 → Fre t12 → ∃ (qs : List ChangeT) (t11' t12' : Slot), qs.map ChangeT.nm = cs.map ChangeT.nm ++ ks.map (fun k : Nat => N.getD ((fst + (k : Int)) % (ps.length : Int)).toNat Str.empty) ∧ ((∀ c ∈ cs, ChangeOk N c) → ∀ c ∈ qs, ChangeOk N c) ∧
      loopS (nmT 11) (seqS (asgS 12 (bin ixO (nm 3) (bin modO (bin addO (nm 9) (nm 11)) (bltE lenO [(nm 3)])))) (dropS (mutE "list" appO (nm 10) [(callA (callN (n + 7)) 152 [(callA (callN (n + 7)) 122 [(nm 0), (bin addO (bin addO (nm 1) (cst (.int 2))) (nm 11))]), (nm 12), (nm 4)])]))) (ks.map fun k : Nat => D.int (k : Int)) [.par (.pure (.lst (ns.map D.int))), .par (.pure (.int start)), .par (.pure (.str called)), .par (.lst (ps.map plD)), .loc (.lst (N.map D.str)), .loc (.pure (.int near)), .loc (.pure (sD cd)), .loc (drS a3 b2), .loc (.pure (.int many)), .loc (.pure (.int fst)), .loc (.lst (cs.map chD)), t11, t12] = .ok .next [.par (.pure (.lst (ns.map D.int))), .par (.pure (.int start)), .par (.pure (.str called)), .par (.lst (ps.map plD)), .loc (.lst (N.map D.str)), .loc (.pure (.int near)), .loc (.pure (sD cd)), .loc (drS a3 b2), .loc (.pure (.int many)), .loc (.pure (.int fst)), .loc (.lst (qs.map chD)), t11', t12'] := by
    intro ks
    induction ks with
    | nil => exact fun _ cs t11 t12 _ _ _ => ⟨cs, t11, t12, by simp, fun h => h, by simp [loop_n]⟩
    | cons k ks ih =>
      intro hk cs t11 t12 hl f11 f12
      have hk1 := hk k (by simp)
      have hp0 : (0 : Int) < ps.length := by omega
      have j0 := Int.emod_nonneg (fst + (k : Int)) (show (ps.length : Int) ≠ 0 by omega)
      have j1 := Int.emod_lt_of_pos (fst + (k : Int)) hp0
      have ce := ce_spec (n + 6) ns (start + 2 + (k : Int)) (by omega) (by omega) hn
      have hjl : ((fst + (k : Int)) % (ps.length : Int)).toNat < ps.length := by omega
      have ix : ixO (.lst (ps.map plD)) (.pure (.int ((fst + (k : Int)) % (ps.length : Int)))) = some (.pure (plD ps[((fst + (k : Int)) % (ps.length : Int)).toNat])) := by
        rw [ix_l, atI_lt _ _ j0, List.getElem?_map, List.getElem?_eq_getElem hjl]; rfl
      have mem := List.getElem_mem hjl
      have nmE : N.getD ((fst + (k : Int)) % (ps.length : Int)).toNat Str.empty = (ps[((fst + (k : Int)) % (ps.length : Int)).toNat]).nm := by
        rw [← hNe]; simp [List.getD, hjl]
      obtain ⟨ch, x1, x2, x3⟩ := change_spec (n + 1) (lawCe ns (start + 2 + (k : Int))) ps[((fst + (k : Int)) % (ps.length : Int)).toNat] N (by omega) hN (by rw [← hNe]; exact List.mem_map_of_mem mem)
      obtain ⟨qs, u11, u12, e1, e2, e3⟩ := ih (fun q hq => hk q (List.mem_cons_of_mem _ hq)) (cs ++ [ch]) (.loc (.pure (.int k))) (.loc (.pure (plD ps[((fst + (k : Int)) % (ps.length : Int)).toNat]))) (by simp at hl ⊢; omega) (fre_d _) (fre_d _)
      refine ⟨qs, u11, u12, by rw [e1, List.map_append, List.map_cons, List.map_cons, x1, nmE]; simp, fun h => e2 fun c hc => ?_, ?_⟩
      · rcases List.mem_append.mp hc with hc | hc
        · exact h c hc
        · rw [List.mem_singleton.mp hc]; exact x2
      · have l0' : (cs.map chD).length < 16777216 := by simp at hl ⊢; omega
        have hpl : (ps.length : Int) < 18446744073709551616 := by omega
        simp only [List.map_append, List.map_cons, List.map_nil] at e3
        generalize cs.map chD = CS at *
        generalize plD ps[((fst + (k : Int)) % (ps.length : Int)).toNat] = pk at *
        clear ih hk hl hk1 e1 e2 x1 x2 nmE mem hjl j0 j1 hN hnd hok hnear hNe Nl m0 m1 f0 f1 hps hc s0 s1 hn ce1 ce2 bg1 bg2 c1 d1 d2 rm nn
        walk_at "vi*"
  obtain ⟨cs, t11, t12', q1, q2, q3⟩ := key (List.range many.toNat) (fun k hk => by have := List.mem_range.mp hk; omega) [] .un .un (by simp; omega) fre_un fre_un
  simp only [List.map_nil, List.nil_append] at q1 q3
  have cl : cs.length = many.toNat := by have := congrArg List.length q1; simpa using this
  have tp : tupleO [.lst (cs.map chD)] = some (.pure (.tup (cs.map chD))) := by simp [tupleO, elemsO]
  rw [hNe]
  refine ⟨⟨called, cd, cs⟩, rfl, ⟨hc, k1, by dsimp only; omega, fun c h => q2 (by simp) c h, ?_, by dsimp only; omega⟩, (c__law_deed (n + 7) _).trans ((bodyC_a 4 9 _ _ rfl).trans ?_)⟩
  · show List.Pairwise (· ≠ ·) (cs.map ChangeT.nm)
    rw [q1, List.pairwise_map]
    refine List.Pairwise.imp_of_mem ?_ (List.nodup_range (n := many.toNat))
    intro i j hi hj ne e
    have hi := List.mem_range.mp hi
    have hj := List.mem_range.mp hj
    have hp0 : (0 : Int) < ps.length := by omega
    have i0 := Int.emod_nonneg (fst + (i : Int)) (show (ps.length : Int) ≠ 0 by omega)
    have i1 := Int.emod_lt_of_pos (fst + (i : Int)) hp0
    have j0 := Int.emod_nonneg (fst + (j : Int)) (show (ps.length : Int) ≠ 0 by omega)
    have j1 := Int.emod_lt_of_pos (fst + (j : Int)) hp0
    have li : ((fst + (i : Int)) % (ps.length : Int)).toNat < N.length := by omega
    have lj : ((fst + (j : Int)) % (ps.length : Int)).toNat < N.length := by omega
    simp only [List.getD, List.getElem?_eq_getElem li, List.getElem?_eq_getElem lj, Option.getD_some] at e
    have := (List.getElem_inj hnd).mp e
    have h3 : ps.length = 1 ∨ ps.length = 2 ∨ ps.length = 3 := by omega
    have : (fst + (i : Int)) % (ps.length : Int) = (fst + (j : Int)) % (ps.length : Int) := by omega
    rcases h3 with h | h | h <;> rw [h] at this m1 <;> omega
  · simp only [deD]
    rcases hnear with ⟨h1, h2⟩ | ⟨h1, p, r, h3, h2⟩
    · rw [List.isEmpty_map, h1] at nn
      clear key q1 q2 cl hc hN hnd hok hNe Nl m0 m1 f0 f1 k1 k2 hn s0 s1 hps
      simp only [Bool.not_true] at nn
      subst h2
      unfold b__law_deed
      walk_at "vi*"
    · rw [List.isEmpty_map, h1] at nn
      have i0 : ixO (.lst (ps.map plD)) (.pure (.int 0)) = some (.pure (plD p)) := by rw [h3, ix_l, atI_lt _ _ (by omega)]; rfl
      have i1 : ixO (.pure (plD p)) (.pure (.int 1)) = some (.pure (.int p.lo)) := ix_t1
      clear key q1 q2 cl hc hN hnd hok hNe Nl m0 m1 f0 f1 k1 k2 hn s0 s1 hps h3
      simp only [Bool.not_false] at nn
      subst h2
      unfold b__law_deed
      walk_at "vi*"
structure MachOk (ps : List PlaceT) (ds : List DeedT) : Prop where
  pl : ps.length ≤ 3
  nd : (ps.map PlaceT.nm).Nodup
  ok : ∀ p ∈ ps, PlaceOk p
  dl : ds.length ≤ 6
  dnd : (ds.map DeedT.called).Nodup
  dlen : ∃ L : Nat, ∀ d ∈ ds, d.called.length = L
  dok : ∀ d ∈ ds, DeedOk (ps.map PlaceT.nm) d
theorem tup_l1 (l : List D) : tupleO [.lst l] = some (.pure (.tup l)) := by simp [tupleO, elemsO]
theorem machine_spec (n : Nat) (ns : List Int) (hn : ns.length ≤ 63) (mn md : Int) (a0 : 0 ≤ mn) (a1 : mn ≤ 3) (b0 : 0 ≤ md) (b1 : md ≤ 6) (start : Int) (s0 : 0 ≤ start) (s1 : start ≤ 100) : ∃ (ps : List PlaceT) (ds : List DeedT), ps.length = mn.toNat ∧ ds.length = md.toNat ∧ MachOk ps ds ∧
    callN (n + 9) 154 [.pure (.lst (ns.map D.int)), .pure (.int start), .pure (.int mn), .pure (.int md)] = .ok (.pure (.tup [.tup (ps.map plD), .tup (ds.map deD)])) [.pure (.lst (ns.map D.int)), .pure (.int start), .pure (.int mn), .pure (.int md)] := by
  have ce1 := ce_spec (n + 7) ns start (by omega) (by omega) hn
  have ce2 := ce_spec (n + 7) ns (start + 1) (by omega) (by omega) hn
  obtain ⟨N, Nl, Nnd, Nok, _, c1⟩ := names_spec (n + 6) (lawCe ns start) mn a0 (by omega)
  obtain ⟨ps, p1, p2, c2⟩ := places_spec (n + 6) ns hn (start + 2) (by omega) (by omega) N (by omega) Nok
  obtain ⟨C, Cl, Cnd, Cok, ⟨CL, hCL⟩, c3⟩ := names_spec (n + 6) (lawCe ns (start + 1)) md b0 (by omega)
  have pl : ps.length = mn.toNat := by have := congrArg List.length p1; simp at this; omega
  have rm := rng1_a md b0 (by omega)
  have key : ∀ (ks : List Nat), (∀ k ∈ ks, k < C.length) → ∀ (ds : List DeedT) (t8 : Slot), ds.length + ks.length ≤ 100 → Fre t8 → ∃ (qs : List DeedT) (t8' : Slot), qs.map DeedT.called = ds.map DeedT.called ++ ks.map (fun k => C.getD k Str.empty) ∧ ((∀ d ∈ ds, DeedOk (ps.map PlaceT.nm) d) → ∀ d ∈ qs, DeedOk (ps.map PlaceT.nm) d) ∧
      loopS (nmT 8) (dropS (mutE "list" appO (nm 7) [(callA (callN (n + 8)) 153 [(nm 0), (bin addO (bin addO (nm 1) (cst (.int 5))) (bin mulO (cst (.int 5)) (nm 8))), (bin ixO (nm 6) (nm 8)), (nm 5)])])) (ks.map fun k : Nat => D.int (k : Int)) [.par (.pure (.lst (ns.map D.int))), .par (.pure (.int start)), .par (.pure (.int mn)), .par (.pure (.int md)), .loc (.lst (N.map D.str)), .loc (.lst (ps.map plD)), .loc (.lst (C.map D.str)), .loc (.lst (ds.map deD)), t8] = .ok .next [.par (.pure (.lst (ns.map D.int))), .par (.pure (.int start)), .par (.pure (.int mn)), .par (.pure (.int md)), .loc (.lst (N.map D.str)), .loc (.lst (ps.map plD)), .loc (.lst (C.map D.str)), .loc (.lst (qs.map deD)), t8'] := by
    intro ks
    induction ks with
    | nil => exact fun _ ds t8 _ _ => ⟨ds, t8, by simp, fun h => h, by simp [loop_n]⟩
    | cons k ks ih =>
      intro hk ds t8 hl f8
      have hk1 := hk k (by simp)
      have ml : mulO (.pure (.int 5)) (.pure (.int (k : Int))) = some (.pure (.int (5 * (k : Int)))) := mul_i _ _ (mulC_l _ _ (by omega) (by omega))
      have gk : C.getD k Str.empty = C[k] := by simp [List.getD, hk1]
      have ix : ixO (.lst (C.map D.str)) (.pure (.int (k : Int))) = some (.pure (.str (C.getD k Str.empty))) := by
        rw [ix_l, atI_lt _ _ (by omega), List.getElem?_map, show ((k : Int)).toNat = k by omega, List.getElem?_eq_getElem hk1, gk]; rfl
      obtain ⟨de, x1, x2, x3⟩ := deed_spec n ns hn (start + 5 + 5 * (k : Int)) (by omega) (by omega) (C.getD k Str.empty) (by rw [gk]; exact Cok _ (List.getElem_mem hk1)) ps (by omega) (by rw [p1]; exact Nnd) p2
      obtain ⟨qs, u8, e1, e2, e3⟩ := ih (fun q hq => hk q (List.mem_cons_of_mem _ hq)) (ds ++ [de]) (.loc (.pure (.int k))) (by simp at hl ⊢; omega) (fre_d _)
      refine ⟨qs, u8, by rw [e1, List.map_append, List.map_cons, List.map_cons, x1]; simp, fun h => e2 fun d hd => ?_, ?_⟩
      · rcases List.mem_append.mp hd with hd | hd
        · exact h d hd
        · rw [List.mem_singleton.mp hd]; exact x2
      · have l0' : (ds.map deD).length < 16777216 := by simp at hl ⊢; omega
        simp only [List.map_append, List.map_cons, List.map_nil] at e3
        generalize ds.map deD = DS at *
        generalize C.getD k Str.empty = ck at *
        generalize ps.map plD = PS at *
        clear ih hk hl hk1 gk e1 e2 x1 x2 Nl Nnd Nok Cl Cnd Cok hCL pl p1 p2 c1 c2 c3 ce1 ce2 a0 a1 b0 b1 s0 s1 hn rm
        walk_at "vi*"
  obtain ⟨ds, t8, q1, q2, q3⟩ := key (List.range md.toNat) (fun k hk => by have := List.mem_range.mp hk; omega) [] .un (by simp; omega) fre_un
  simp only [List.map_nil, List.nil_append] at q1 q3
  have dl : ds.length = md.toNat := by have := congrArg List.length q1; simpa using this
  have dC : ds.map DeedT.called = C := by
    rw [q1]
    refine List.ext_getElem (by simp; omega) fun i h1 h2 => ?_
    simp [List.getD, h2]
  have t1 := tup_l1 (ps.map plD)
  have t2 := tup_l1 (ds.map deD)
  refine ⟨ps, ds, pl, dl, ⟨by omega, by rw [p1]; exact Nnd, p2, by omega, by rw [dC]; exact Cnd, ⟨CL, fun d hd => hCL _ (by rw [← dC]; exact List.mem_map_of_mem hd)⟩, fun d h => q2 (by simp) d h⟩, (c__law_machine (n + 8) _).trans ((bodyC_a 4 5 _ _ rfl).trans ?_)⟩
  clear key q1 q2 hCL dl dC pl p1 p2 Nl Nnd Nok Cl Cnd Cok a0 a1 b0 b1 s0 s1 hn
  unfold b__law_machine
  walk_at "vi*"
def chC : ChangeT → Str
  | .put _ _ => "Put" | .any _ _ _ => "Any"
def chF : ChangeT → List (Str × D)
  | .put x a => [("name", .str x), ("one", insD a)]
  | .any x a b => [("name", .str x), ("one", insD a), ("other", insD b)]
def insC (c : ChangeT) : D := .ins (chC c) (chF c)
def chO : ChangeT → List (Str × O)
  | .put x a => [("name", .pure (.str x)), ("one", .pure (insD a))]
  | .any x a b => [("name", .pure (.str x)), ("one", .pure (insD a)), ("other", .pure (insD b))]
theorem f_chn : ftOf FTl "Put" "name" = true ∧ ftOf FTl "Put" "one" = true ∧ ftOf FTl "Any" "name" = true ∧ ftOf FTl "Any" "one" = true ∧ ftOf FTl "Any" "other" = true := ⟨by decide +kernel, by decide +kernel, by decide +kernel, by decide +kernel, by decide +kernel⟩
theorem chbase_init (n : Nat) (c x : Str) (hf : ftOf FTl c "name" = true) : callN (n + 1) 132 [.ins c [], .pure (.str x)] = .ok (.pure .non) [.ins c [("name", .pure (.str x))], .pure (.str x)] := by
  refine (c_Change___init__ n _).trans ((bodyC_a 2 0 _ _ rfl).trans ?_)
  have f1 : fldC (ftOf FTl) "name" (.str x) (.ins c []) = some (.ins c [("name", .pure (.str x))]) := fldC_a _ _ _ _ _ hf (by simp)
  unfold b_Change___init__
  walk_at "vi*"
theorem put_init (n : Nat) (x : Str) (a : T3) : callN (n + 2) 134 [.ins "Put" [], .pure (.str x), .ins (icls a) (ifls a)] = .ok (.pure .non) [.ins "Put" (chO (.put x a)), .pure (.str x), .pure (insD a)] := by
  refine (c_Put___init__ (n + 1) _).trans ((bodyC_a 3 0 _ _ rfl).trans ?_)
  have b1 := chbase_init n "Put" x f_chn.1
  have f1 : fldC (ftOf FTl) "one" (insD a) (.ins "Put" [("name", .pure (.str x))]) = some (.ins "Put" (chO (.put x a))) := fldC_a _ _ _ _ _ f_chn.2.1 (by simp)
  have fu := ifls_full a
  have er := ifls_er a
  unfold b_Put___init__
  walk_at "vi*"
theorem any_init (n : Nat) (x : Str) (a b : T3) : callN (n + 2) 136 [.ins "Any" [], .pure (.str x), .ins (icls a) (ifls a), .ins (icls b) (ifls b)] = .ok (.pure .non) [.ins "Any" (chO (.any x a b)), .pure (.str x), .pure (insD a), .pure (insD b)] := by
  refine (c_Any___init__ (n + 1) _).trans ((bodyC_a 4 0 _ _ rfl).trans ?_)
  have b1 := chbase_init n "Any" x f_chn.2.2.1
  have f1 : fldC (ftOf FTl) "one" (insD a) (.ins "Any" [("name", .pure (.str x))]) = some (.ins "Any" [("name", .pure (.str x)), ("one", .pure (insD a))]) := fldC_a _ _ _ _ _ f_chn.2.2.2.1 (by simp)
  have f2 : fldC (ftOf FTl) "other" (insD b) (.ins "Any" [("name", .pure (.str x)), ("one", .pure (insD a))]) = some (.ins "Any" (chO (.any x a b))) := fldC_a _ _ _ _ _ f_chn.2.2.2.2 (by simp)
  have fu := ifls_full a
  have er := ifls_er a
  have fu2 := ifls_full b
  have er2 := ifls_er b
  unfold b_Any___init__
  walk_at "vi*"
theorem chD_len (c : ChangeT) : lenO [.pure (chD c)] = some (.pure (.int (match c with | .put _ _ => 2 | .any _ _ _ => 3))) := by cases c <;> rfl
def chDep : ChangeT → Prop
  | .put _ a => dep a ≤ 7 | .any _ a b => dep a ≤ 7 ∧ dep b ≤ 7
theorem chof_spec (n : Nat) (c : ChangeT) (hd : chDep c) : callN (n + 10) 155 [.pure (chD c)] = .ok (.ins (chC c) (chO c)) [.pure (chD c)] := by
  refine (c__law_change_of (n + 9) _).trans ((bodyC_a 1 0 _ _ rfl).trans ?_)
  cases c with
  | put x a =>
    have ea := sumof_spec a (n + 7) (by simp only [chDep] at hd; omega)
    have pi := put_init (n + 7) x a
    have ln : lenO [.pure (.tup [.str x, tD a])] = some (.pure (.int 2)) := chD_len (.put x a)
    simp only [chD, chC]
    clear hd
    unfold b__law_change_of
    walk_at "vi*"
  | any x a b =>
    have ea := sumof_spec a (n + 7) (by simp only [chDep] at hd; omega)
    have eb := sumof_spec b (n + 7) (by simp only [chDep] at hd; omega)
    have pi := any_init (n + 7) x a b
    have ln : lenO [.pure (.tup [.str x, tD a, tD b])] = some (.pure (.int 3)) := chD_len (.any x a b)
    simp only [chD, chC]
    clear hd
    unfold b__law_change_of
    walk_at "vi*"
theorem chO_full (c : ChangeT) : O.fullF (chO c) = true := by cases c <;> simp [chO, O.fullF, O.full]
theorem chO_er (c : ChangeT) : O.erF (chO c) = chF c := by cases c <;> simp [chO, chF, O.erF, O.er]
def deF (d : DeedT) : List (Str × D) := [("called", .str d.called), ("when", insS d.cond), ("changes", .tup (d.changes.map insC))]
def insDe (d : DeedT) : D := .ins "Deed" (deF d)
def deO (d : DeedT) : List (Str × O) := [("called", .pure (.str d.called)), ("when", .pure (insS d.cond)), ("changes", .pure (.tup (d.changes.map insC)))]
theorem f_de : ftOf FTl "Deed" "called" = true ∧ ftOf FTl "Deed" "when" = true ∧ ftOf FTl "Deed" "changes" = true := ⟨by decide +kernel, by decide +kernel, by decide +kernel⟩
theorem deed_init (n : Nat) (d : DeedT) : callN (n + 1) 168 [.ins "Deed" [], .pure (.str d.called), .ins (scls d.cond) (sfls d.cond), .pure (.tup (d.changes.map insC))] = .ok (.pure .non) [.ins "Deed" (deO d), .pure (.str d.called), .pure (insS d.cond), .pure (.tup (d.changes.map insC))] := by
  refine (c_Deed___init__ n _).trans ((bodyC_a 4 0 _ _ rfl).trans ?_)
  have f1 : fldC (ftOf FTl) "called" (.str d.called) (.ins "Deed" []) = some (.ins "Deed" [("called", .pure (.str d.called))]) := fldC_a _ _ _ _ _ f_de.1 (by simp)
  have f2 : fldC (ftOf FTl) "when" (insS d.cond) (.ins "Deed" [("called", .pure (.str d.called))]) = some (.ins "Deed" [("called", .pure (.str d.called)), ("when", .pure (insS d.cond))]) := fldC_a _ _ _ _ _ f_de.2.1 (by simp)
  have f3 : fldC (ftOf FTl) "changes" (.tup (d.changes.map insC)) (.ins "Deed" [("called", .pure (.str d.called)), ("when", .pure (insS d.cond))]) = some (.ins "Deed" (deO d)) := fldC_a _ _ _ _ _ f_de.2.2 (by simp)
  have fu := sfls_full d.cond
  have er := sfls_er d.cond
  unfold b_Deed___init__
  walk_at "vi*"
theorem ChangeOk.dep {N : List Str} {c : ChangeT} (h : ChangeOk N c) : chDep c := by
  cases c with
  | put x a => exact h.2.2.2
  | any x a b => exact ⟨h.2.1.2.2, h.2.2.2.2⟩
theorem deof_spec (n : Nat) (N : List Str) (d : DeedT) (hd : DeedOk N d) : callN (n + 12) 156 [.pure (deD d)] = .ok (.ins "Deed" (deO d)) [.pure (deD d)] := by
  have i0 : ixO (.pure (deD d)) (.pure (.int 0)) = some (.pure (.str d.called)) := ix_t0
  have i1 : ixO (.pure (deD d)) (.pure (.int 1)) = some (.pure (sD d.cond)) := ix_t1
  have i2 : ixO (.pure (deD d)) (.pure (.int 2)) = some (.pure (.tup (d.changes.map chD))) := ix_t2
  have so := sayof_spec d.cond (n + 8) (by have := hd.dep; omega)
  have di := deed_init (n + 10) d
  obtain ⟨t2, ht2, e1⟩ := comp_map (own := [2]) (t := nmT 2) (cond := fun g => .ok true g) (elt := callA (callN (n + 11)) 155 [(nm 2)]) (fun s : Slot => [.par (.pure (deD d)), .un, s]) Fre chD insC d.changes (fun c hc s hs => by
    have sp := chof_spec (n + 1) c (hd.ch c hc).dep
    have fu := chO_full c
    have er := chO_er c
    have ie : insC c = .ins (chC c) (chF c) := rfl
    refine ⟨.loc (.pure (chD c)), fre_d _, ?_⟩
    rw [ie]
    clear hc hd so di i0 i1 i2 ie
    walk_at "vi*") [] (by have := hd.few; simp; omega) .un fre_un
  simp only [List.nil_append] at e1
  have tp := tup_l1 (d.changes.map insC)
  refine (c__law_deed_of (n + 11) _).trans ((bodyC_a 1 2 _ _ rfl).trans ?_)
  clear hd
  unfold b__law_deed_of
  walk_at "vi*"
def mcO (ps : List PlaceT) (K ds : List D) : List (Str × O) := [("places", .pure (.tup (ps.map plD))), ("keeps", .pure (.tup K)), ("deeds", .pure (.tup ds))]
theorem f_mc : ftOf FTl "Machine" "places" = true ∧ ftOf FTl "Machine" "keeps" = true ∧ ftOf FTl "Machine" "deeds" = true := ⟨by decide +kernel, by decide +kernel, by decide +kernel⟩
theorem mach_init (n : Nat) (ps : List PlaceT) (K ds : List D) : callN (n + 1) 163 [.ins "Machine" [], .pure (.tup (ps.map plD)), .pure (.tup K), .pure (.tup ds)] = .ok (.pure .non) [.ins "Machine" (mcO ps K ds), .pure (.tup (ps.map plD)), .pure (.tup K), .pure (.tup ds)] := by
  refine (c_Machine___init__ n _).trans ((bodyC_a 4 0 _ _ rfl).trans ?_)
  have f1 : fldC (ftOf FTl) "places" (.tup (ps.map plD)) (.ins "Machine" []) = some (.ins "Machine" [("places", .pure (.tup (ps.map plD)))]) := fldC_a _ _ _ _ _ f_mc.1 (by simp)
  have f2 : fldC (ftOf FTl) "keeps" (.tup K) (.ins "Machine" [("places", .pure (.tup (ps.map plD)))]) = some (.ins "Machine" [("places", .pure (.tup (ps.map plD))), ("keeps", .pure (.tup K))]) := fldC_a _ _ _ _ _ f_mc.2.1 (by simp)
  have f3 : fldC (ftOf FTl) "deeds" (.tup ds) (.ins "Machine" [("places", .pure (.tup (ps.map plD))), ("keeps", .pure (.tup K))]) = some (.ins "Machine" (mcO ps K ds)) := fldC_a _ _ _ _ _ f_mc.2.2 (by simp)
  unfold b_Machine___init__
  walk_at "vi*"
def envA (ps : List PlaceT) (room : List Int) : NA := (ps.zip room).foldl (fun m q => setA m q.1.nm q.2) []
theorem zipL_map {α β : Type} (f : α → D) (g : β → D) : ∀ (as : List α) (bs : List β), zipL (as.map f) (bs.map g) = (as.zip bs).map fun q => D.tup [f q.1, g q.2]
  | [], bs => by cases bs <;> rfl
  | a :: as, [] => rfl
  | a :: as, b :: bs => by simp [zipL, zipL_map f g as bs]
theorem zip_tt {α β : Type} (f : α → D) (g : β → D) (as : List α) (bs : List β) : zipI [.pure (.tup (as.map f)), .pure (.tup (bs.map g))] = some ((as.zip bs).map fun q => D.tup [f q.1, g q.2]) := by
  simp [zipI, elemsO, zipL_map]
theorem enc_put (m : NA) (s : Str) (v : Int) (h : m.length < 1000) : stO (.dic (enc m)) (.str s) (.int v) = some (.dic (enc (setA m s v))) := by
  have el : (enc m).length < 16777216 := by simp [enc]; omega
  simp only [stO, keyOf, Option.bind_some, el, if_true, put_enc]
structure EnvOk (N : List Str) (m : NA) : Prop where
  good : GoodA m N
  sml : ∀ p ∈ m, p.2.natAbs ≤ 100
theorem EnvOk.val {N : List Str} {m : NA} (h : EnvOk N m) : ∀ s ∈ N, (valA m s).natAbs ≤ 100 := fun s hs => by
  have := h.good.has s hs
  unfold valA
  cases e : m.find? fun p => decide (p.1 = s) with
  | none => simp
  | some p => exact h.sml p (List.mem_of_find?_eq_some e)
def roomD (r : List Int) : D := .tup (r.map D.int)
theorem foldl_set {ps : List PlaceT} {room : List Int} (N : List Str) : ∀ (qs : List (PlaceT × Int)) (m : NA) (K : List Str), EnvOk K m → (∀ q ∈ qs, q.2.natAbs ≤ 100) → EnvOk ((qs.map fun q => q.1.nm).reverse ++ K) (qs.foldl (fun m q => setA m q.1.nm q.2) m)
  | [], m, K, h, _ => by simpa using h
  | q :: qs, m, K, h, hb => by
    have b : (2 : Nat) ^ 102 > 100 := by decide
    have hq := hb q (by simp)
    have h2 : EnvOk (q.1.nm :: K) (setA m q.1.nm q.2) := by
      refine ⟨h.good.put _ _ (by omega), fun p hp => ?_⟩
      unfold setA at hp
      split at hp
      · obtain ⟨r, hr, rfl⟩ := List.mem_map.mp hp
        split
        · exact hq
        · exact h.sml r hr
      · rcases List.mem_append.mp hp with hp | hp
        · exact h.sml p hp
        · rw [List.mem_singleton.mp hp]; exact hq
    have := foldl_set (ps := ps) (room := room) N qs (setA m q.1.nm q.2) (q.1.nm :: K) h2 fun r hr => hb r (List.mem_cons_of_mem _ hr)
    simpa using this
theorem env_ok {ps : List PlaceT} {room : List Int} (hl : room.length = ps.length) (hb : ∀ v ∈ room, v.natAbs ≤ 100) : EnvOk (ps.map PlaceT.nm) (envA ps room) := by
  have h := foldl_set (ps := ps) (room := room) [] (ps.zip room) [] [] ⟨⟨by simp, by simp, by simp⟩, by simp⟩ fun q hq => hb _ (List.of_mem_zip hq).2
  have e : (ps.zip room).map (fun q => q.1.nm) = ps.map PlaceT.nm := by
    rw [show (fun q : PlaceT × Int => q.1.nm) = PlaceT.nm ∘ Prod.fst from rfl, ← List.map_map, List.map_fst_zip (by omega)]
  rw [e] at h
  exact ⟨⟨h.good.nd, h.good.bd, fun s hs => h.good.has s (by simpa using hs)⟩, h.sml⟩
theorem valA_set (m : NA) (s t : Str) (v : Int) : valA (setA m s v) t = if t = s then v else valA m t := by
  have find_map : ∀ (m : NA), (m.map fun p => if p.1 = s then (p.1, v) else p).find? (fun p => decide (p.1 = t)) = (m.find? fun p => decide (p.1 = t)).map fun p => if p.1 = s then (p.1, v) else p := by
    intro m
    induction m with
    | nil => rfl
    | cons q m ih =>
      rw [List.map_cons, List.find?_cons, List.find?_cons]
      have e1 : (if q.1 = s then (q.1, v) else q).1 = q.1 := by split <;> rfl
      rw [e1]
      by_cases h : q.1 = t
      · simp [h]
      · simp [h, ih]
  unfold setA valA
  cases ha : m.any fun p => decide (p.1 = s) with
  | true =>
    rw [if_pos rfl, find_map]
    by_cases h : t = s
    · subst h
      obtain ⟨q, hq, e⟩ := List.any_eq_true.mp ha
      cases hf : m.find? fun p => decide (p.1 = t) with
      | none => exact absurd e (by simpa using List.find?_eq_none.mp hf q hq)
      | some p =>
        have : p.1 = t := by have := List.find?_some hf; simpa using this
        simp [this]
    · rw [if_neg h]
      cases hf : m.find? fun p => decide (p.1 = t) with
      | none => rfl
      | some p =>
        have : p.1 = t := by have := List.find?_some hf; simpa using this
        have : ¬ p.1 = s := fun e => h (this.symm.trans e)
        simp [this]
  | false =>
    simp only [Bool.false_eq_true, if_false, List.find?_append]
    by_cases h : t = s
    · subst h
      have : m.find? (fun p => decide (p.1 = t)) = none := List.find?_eq_none.mpr fun p hp e => by
        have := List.any_eq_false.mp ha p hp
        exact this e
      rw [this]; simp
    · rw [if_neg h]
      have : ([(s, v)] : NA).find? (fun p => decide (p.1 = t)) = none := by simp [Ne.symm h, show ¬ s = t from fun e => h e.symm]
      rw [this]
      cases m.find? (fun p => decide (p.1 = t)) <;> rfl
theorem foldl_val : ∀ (qs : List (PlaceT × Int)) (m : NA) (t : Str), t ∉ qs.map (fun q => q.1.nm) → valA (qs.foldl (fun m q => setA m q.1.nm q.2) m) t = valA m t
  | [], m, t, _ => rfl
  | q :: qs, m, t, h => by
    rw [List.foldl_cons, foldl_val qs _ t (fun hm => h (List.mem_cons_of_mem _ hm)), valA_set, if_neg (fun e => h (by rw [e]; simp))]
theorem env_val : ∀ (qs : List (PlaceT × Int)) (m : NA), (qs.map fun q => q.1.nm).Nodup → ∀ q ∈ qs, valA (qs.foldl (fun m q => setA m q.1.nm q.2) m) q.1.nm = q.2
  | [], _, _, _, h => by cases h
  | r :: qs, m, nd, q, h => by
    rw [List.map_cons, List.nodup_cons] at nd
    rw [List.foldl_cons]
    rcases List.mem_cons.mp h with rfl | h
    · rw [foldl_val qs _ _ nd.1, valA_set, if_pos rfl]
    · exact env_val qs _ nd.2 q h
theorem env_at {ps : List PlaceT} {room : List Int} (hl : room.length = ps.length) (nd : (ps.map PlaceT.nm).Nodup) {q : PlaceT × Int} (hq : q ∈ ps.zip room) : valA (envA ps room) q.1.nm = q.2 := by
  refine env_val (ps.zip room) [] ?_ q hq
  have e : (ps.zip room).map (fun q => q.1.nm) = ps.map PlaceT.nm := by
    rw [show (fun q : PlaceT × Int => q.1.nm) = PlaceT.nm ∘ Prod.fst from rfl, ← List.map_map, List.map_fst_zip (by omega)]
  rw [e]; exact nd
theorem de_called (d : DeedT) : atrF (ftOf FTl) "called" (.pure (insDe d)) = some (.pure (.str d.called)) := (atr_p _ _ _ _ f_de.1).trans rfl
theorem pl_room (r : List Int) : Pl 1 (roomD r) := pl_tup (n := 0) fun d hd => by
  obtain ⟨i, _, rfl⟩ := List.mem_map.mp hd
  exact pl_int 0 i
theorem room2_spec (n : Nat) (ps : List PlaceT) (hok : ∀ p ∈ ps, PlaceOk p) (hpl : ps.length ≤ 100) (c : Int) : ∃ r : List Int, r.length = ps.length ∧ All2 (fun p v => p.lo ≤ v ∧ v ≤ p.hi) ps r ∧ callN (n + 2) 160 [.pure (.tup (ps.map plD)), .pure (.int c)] = .ok (.pure (roomD r)) [.pure (.tup (ps.map plD)), .pure (.int c)] := by
  have bg := begin_spec n c
  obtain ⟨⟨a', t3, t4, t5, t6⟩, r, ht, hp, e⟩ := comp_ex (own := [3, 4, 5, 6]) (t := tupT [(nmT 3), (nmT 4), (nmT 5), (nmT 6)]) (cond := fun g => .ok true g) (elt := bin addO (nm 4) (callA (callN (n + 1)) 124 [(nm 2), (bin addO (bin subO (nm 5) (nm 4)) (cst (.int 1)))])) (fun s : Int × Slot × Slot × Slot × Slot => [.par (.pure (.tup (ps.map plD))), .par (.pure (.int c)), .loc (drS s.1 (c % 2)), s.2.1, s.2.2.1, s.2.2.2.1, s.2.2.2.2]) (fun s => Fre s.2.1 ∧ Fre s.2.2.1 ∧ Fre s.2.2.2.1 ∧ Fre s.2.2.2.2) plD D.int (fun p v => p.lo ≤ v ∧ v ≤ p.hi) ps (fun p hp s hs => by
    obtain ⟨a, q3, q4, q5, q6⟩ := s
    obtain ⟨f3, f4, f5, f6⟩ := hs
    have pk := hok p hp
    obtain ⟨v, a2, v0, v1, d⟩ := draw_spec n a (c % 2) (p.hi - p.lo + 1) (by have := pk.st; have := pk.hi; omega) (by have := pk.w; omega)
    refine ⟨(a2, .loc (.pure (.str p.nm)), .loc (.pure (.int p.lo)), .loc (.pure (.int p.hi)), .loc (.pure (.int p.st))), p.lo + v, ⟨fre_d _, fre_d _, fre_d _, fre_d _⟩, ⟨by omega, by omega⟩, ?_⟩
    simp only at f3 f4 f5 f6
    have pe : plD p = .tup [.str p.nm, .int p.lo, .int p.hi, .int p.st] := rfl
    rw [pe]
    generalize ps.map plD = PS at *
    generalize c % 2 = b at *
    clear hp pk v0 v1 bg hok hpl pe
    walk_at "vi*") [] (by simp; omega) (c / 2, .un, .un, .un, .un) ⟨fre_un, fre_un, fre_un, fre_un⟩
  refine ⟨r, hp.len, hp, (c__law_room_v2 (n + 1) _).trans ((bodyC_a 2 5 _ _ rfl).trans ?_)⟩
  have tp : tupleO [.lst (r.map D.int)] = some (.pure (roomD r)) := tup_l1 _
  simp only [List.nil_append] at e
  generalize roomD r = rr at *
  clear hp ht hok hpl
  unfold b__law_room_v2
  walk_at "vi*"
theorem deO_full (d : DeedT) : O.fullF (deO d) = true := by simp [deO, O.fullF, O.full]
theorem deO_er (d : DeedT) : O.erF (deO d) = deF d := by simp [deO, deF, O.erF, O.er]
def RoomOk (ps : List PlaceT) (r : List Int) : Prop := r.length = ps.length ∧ ∀ v ∈ r, v.natAbs ≤ 100
def OwnL (s : Slot) : Prop := Fre s ∨ ∃ l, s = .loc (.lst l)
theorem OwnL.no {s : Slot} (h : OwnL s) : NoH s := by
  rcases h with h | ⟨l, rfl⟩
  · exact h.no
  · exact no_l l
theorem All2.mem_all {α β : Type} {P : α → β → Prop} {Q : β → Prop} {as : List α} {bs : List β} (h : All2 P as bs) (hq : ∀ a ∈ as, ∀ b, P a b → Q b) : ∀ b ∈ bs, Q b := fun b hb => by
  obtain ⟨a, ha, p⟩ := h.mem b hb
  exact hq a ha b p
def numS (n : Int) : Str := Str.ofString (toString n)
def shT : T3 → Str
  | .num n => numS n
  | .name s => s
  | .op o a b => Str.ofString "( " ++ shT a ++ Str.ofString " " ++ sg o ++ Str.ofString " " ++ shT b ++ Str.ofString " )"
def TxT : T3 → Prop
  | .num n => 0 ≤ n ∧ n ≤ 99
  | .name s => s.length ≤ 9 ∧ PyData.strOk s = true
  | .op _ a b => TxT a ∧ TxT b
theorem numS_len : ∀ q : Fin 100, (numS (q.val : Int)).length ≤ 2 ∧ PyData.strOk (numS (q.val : Int)) = true := by decide +kernel
theorem numS_ok {n : Int} (h : 0 ≤ n ∧ n ≤ 99) : (numS n).length ≤ 2 ∧ PyData.strOk (numS n) = true := by
  have := numS_len ⟨n.toNat, by omega⟩
  have e : ((n.toNat : Nat) : Int) = n := by omega
  simpa only [e] using this
theorem sg_len (o : Op3) : (sg o).length = 1 := by cases o <;> rfl
theorem sp_len : (Str.ofString " ").length = 1 ∧ (Str.ofString "( ").length = 2 ∧ (Str.ofString " )").length = 2 := ⟨rfl, rfl, rfl⟩
theorem shT_len : ∀ {t : T3}, TxT t → (shT t).length + 10 ≤ 20 * siz t
  | .num n, h => by have := (numS_ok h).1; simp only [shT, siz]; omega
  | .name s, h => by simp only [shT, siz]; have := h.1; omega
  | .op o a b, h => by
    have ha := shT_len h.1
    have hb := shT_len h.2
    simp only [shT, siz, len_app, sg_len, sp_len.1, sp_len.2.1, sp_len.2.2]
    omega
def shF : T3 → Nat
  | .num _ => 36 | .name _ => 40 | .op _ _ _ => 44
def sgF : Op3 → Nat
  | .p => 42 | .m => 46 | .t => 48
theorem mt_sh : mtOf MTl 1 "Number" "shown" = some 36 ∧ mtOf MTl 1 "Named" "shown" = some 40 ∧ (∀ o, mtOf MTl 1 (cn o) "shown" = some 44) ∧ (∀ o, mtOf MTl 1 (cn o) "sign" = some (sgF o)) := by
  refine ⟨by decide +kernel, by decide +kernel, fun o => ?_, fun o => ?_⟩ <;> cases o <;> decide +kernel
theorem msh {S : O} {t : T3} (hS : SelfOf S t) : methG (mtOf MTl 1) "shown" S = some (shF t) := by
  rcases hS with rfl | rfl
  · cases t with
    | num n => exact (methG_p _ _ _ _ rfl).trans mt_sh.1
    | name s => exact (methG_p _ _ _ _ rfl).trans mt_sh.2.1
    | op o a b => exact (methG_p _ _ _ _ rfl).trans (mt_sh.2.2.1 o)
  · cases t with
    | num n => exact (methG_i _ _ _ _ rfl).trans mt_sh.1
    | name s => exact (methG_i _ _ _ _ rfl).trans mt_sh.2.1
    | op o a b => exact (methG_i _ _ _ _ rfl).trans (mt_sh.2.2.1 o)
theorem msg {S : O} {o : Op3} {a b : T3} (hS : SelfOf S (.op o a b)) : methG (mtOf MTl 1) "sign" S = some (sgF o) := by
  rcases hS with rfl | rfl
  · exact (methG_p _ _ _ _ rfl).trans (mt_sh.2.2.2 o)
  · exact (methG_i _ _ _ _ rfl).trans (mt_sh.2.2.2 o)
theorem sign_spec (n : Nat) (o : Op3) (S : O) (h : (∃ c fs, S = .ins c fs) ∨ ∃ d, S = .pure d) : callN (n + 1) (sgF o) [S] = .ok (.pure (.str (sg o))) [S] := by
  cases o with
  | p =>
    refine (c_Joined_sign n _).trans ((bodyC_a 1 0 _ _ rfl).trans ?_)
    unfold b_Joined_sign
    rcases h with ⟨c, fs, rfl⟩ | ⟨d, rfl⟩ <;> walk_at "vi*" <;> rfl
  | m =>
    refine (c_Minus_sign n _).trans ((bodyC_a 1 0 _ _ rfl).trans ?_)
    unfold b_Minus_sign
    rcases h with ⟨c, fs, rfl⟩ | ⟨d, rfl⟩ <;> walk_at "vi*" <;> rfl
  | t =>
    refine (c_Times_sign n _).trans ((bodyC_a 1 0 _ _ rfl).trans ?_)
    unfold b_Times_sign
    rcases h with ⟨c, fs, rfl⟩ | ⟨d, rfl⟩ <;> walk_at "vi*" <;> rfl
theorem str_num {n : Int} (h : 0 ≤ n ∧ n ≤ 99) : strO [.pure (.int n)] = some (.pure (.str (numS n))) := by
  have : n.natAbs.log2 < 1920 := by
    have h2 : n.natAbs < 2 ^ 7 := by omega
    by_cases h0 : n.natAbs = 0
    · rw [h0]; decide
    · have := (Nat.log2_lt h0).mpr h2; omega
  simp only [strO, this, if_true]
  rfl
theorem atr_T {S : O} {t : T3} {f : Str} {d : D} (hS : SelfOf S t) (hf : ftOf FTl (icls t) f = true) (h1 : (idfs t).lookup f = some d) (h2 : (ifls t).lookup f = some (.pure d)) : atrF (ftOf FTl) f S = some (.pure d) := by
  rcases hS with rfl | rfl
  · rw [atr_p _ _ _ _ hf, h1]; rfl
  · exact atr_i _ _ _ _ _ hf h2
theorem shown_spec : ∀ (t : T3) (d : Nat) (S : O), dep t ≤ d → siz t ≤ 100000 → TxT t → SelfOf S t → callN (d + 1) (shF t) [S] = .ok (.pure (.str (shT t))) [S]
  | .num n, d, S, hd, hz, hx, hS => by
    refine (c_Number_shown d _).trans ((bodyC_a 1 0 _ _ rfl).trans ?_)
    have a1 : atrF (ftOf FTl) "told" S = some (.pure (.int n)) := atr_T hS f_told rfl rfl
    have sn := str_num hx
    unfold b_Number_shown
    simp only [shT]
    clear hd hz hx
    rcases hS with rfl | rfl <;> walk_at "vi*"
  | .name s, d, S, hd, hz, hx, hS => by
    refine (c_Named_shown d _).trans ((bodyC_a 1 0 _ _ rfl).trans ?_)
    have a1 : atrF (ftOf FTl) "name" S = some (.pure (.str s)) := atr_T hS f_name rfl rfl
    unfold b_Named_shown
    simp only [shT]
    clear hd hz hx
    rcases hS with rfl | rfl <;> walk_at "vi*"
  | .op o a b, 0, S, hd, hz, hx, hS => by simp [dep] at hd
  | .op o a b, d + 1, S, hd, hz, hx, hS => by
    simp only [dep] at hd
    simp only [siz] at hz
    have ea := shown_spec a d (.pure (insD a)) (by omega) (by omega) hx.1 (.inl rfl)
    have eb := shown_spec b d (.pure (insD b)) (by omega) (by omega) hx.2 (.inl rfl)
    have ma := msh (S := .pure (insD a)) (t := a) (.inl rfl)
    have mb := msh (S := .pure (insD b)) (t := b) (.inl rfl)
    have ms := msg hS
    have sg1 := sign_spec d o S (by rcases hS with rfl | rfl; exact .inr ⟨_, rfl⟩; exact .inl ⟨_, _, rfl⟩)
    have a1 : atrF (ftOf FTl) "one" S = some (.pure (insD a)) := atr_T hS (f_one o) rfl rfl
    have a2 : atrF (ftOf FTl) "other" S = some (.pure (insD b)) := atr_T hS (f_oth o) rfl rfl
    have la := shT_len hx.1
    have lb := shT_len hx.2
    have p1 := add_s (Str.ofString "( ") (shT a) (by rw [sp_len.2.1]; omega)
    have p2 := add_s (Str.ofString "( " ++ shT a) (Str.ofString " ") (by rw [len_app, sp_len.1, sp_len.2.1]; omega)
    have p3 := add_s (Str.ofString "( " ++ shT a ++ Str.ofString " ") (sg o) (by rw [len_app, len_app, sp_len.1, sp_len.2.1, sg_len]; omega)
    have p4 := add_s (Str.ofString "( " ++ shT a ++ Str.ofString " " ++ sg o) (Str.ofString " ") (by rw [len_app, len_app, len_app, sp_len.1, sp_len.2.1, sg_len]; omega)
    have p5 := add_s (Str.ofString "( " ++ shT a ++ Str.ofString " " ++ sg o ++ Str.ofString " ") (shT b) (by rw [len_app, len_app, len_app, len_app, sp_len.1, sp_len.2.1, sg_len]; omega)
    have p6 := add_s (Str.ofString "( " ++ shT a ++ Str.ofString " " ++ sg o ++ Str.ofString " " ++ shT b) (Str.ofString " )") (by rw [len_app, len_app, len_app, len_app, len_app, sp_len.1, sp_len.2.1, sp_len.2.2, sg_len]; omega)
    refine (c_Joined_shown (d + 1) _).trans ((bodyC_a 1 0 _ _ rfl).trans ?_)
    simp only [shT]
    generalize shT a = A at *
    generalize shT b = B at *
    clear hd hz hx la lb
    unfold b_Joined_shown
    rcases hS with rfl | rfl <;> walk_at "vi*"
def ssz : S4 → Nat
  | .yes => 1 | .cmp _ a b => siz a + siz b | .no s => ssz s + 1 | .both a b => ssz a + ssz b + 1 | .either a b => ssz a + ssz b + 1
def shS : S4 → Str
  | .yes => Str.ofString "yes"
  | .cmp o a b => shT a ++ Str.ofString " " ++ csg o ++ Str.ofString " " ++ shT b
  | .no s => Str.ofString "[ not " ++ shS s ++ Str.ofString " ]"
  | .both a b => Str.ofString "[ " ++ shS a ++ Str.ofString " and " ++ shS b ++ Str.ofString " ]"
  | .either a b => Str.ofString "[ " ++ shS a ++ Str.ofString " or " ++ shS b ++ Str.ofString " ]"
def TxS : S4 → Prop
  | .yes => True
  | .cmp _ a b => TxT a ∧ TxT b
  | .no s => TxS s
  | .both a b => TxS a ∧ TxS b
  | .either a b => TxS a ∧ TxS b
theorem csg_len (o : C4) : (csg o).length ≤ 2 := by cases o <;> decide
theorem br_len : (Str.ofString "[ not ").length = 6 ∧ (Str.ofString " ]").length = 2 ∧ (Str.ofString "[ ").length = 2 ∧ (Str.ofString " and ").length = 5 ∧ (Str.ofString " or ").length = 4 ∧ (Str.ofString "yes").length = 3 := ⟨rfl, rfl, rfl, rfl, rfl, rfl⟩
theorem shS_len : ∀ {t : S4}, TxS t → (shS t).length + 10 ≤ 20 * ssz t
  | .yes, _ => by simp only [shS, ssz, br_len.2.2.2.2.2]; omega
  | .cmp o a b, h => by
    have ha := shT_len h.1
    have hb := shT_len h.2
    have := csg_len o
    simp only [shS, ssz, len_app, sp_len.1]
    omega
  | .no s, h => by
    have hs := shS_len (t := s) h
    simp only [shS, ssz, len_app, br_len.1, br_len.2.1]
    omega
  | .both a b, h => by
    have ha := shS_len h.1
    have hb := shS_len h.2
    simp only [shS, ssz, len_app, br_len.2.1, br_len.2.2.1, br_len.2.2.2.1]
    omega
  | .either a b, h => by
    have ha := shS_len h.1
    have hb := shS_len h.2
    simp only [shS, ssz, len_app, br_len.2.1, br_len.2.2.1, br_len.2.2.2.2.1]
    omega
def ssF : S4 → Nat
  | .yes => 56 | .cmp _ _ _ => 60 | .no _ => 79 | .both _ _ => 71 | .either _ _ => 75
def csF : C4 → Nat
  | .lt => 61 | .le => 63 | .eq => 58 | .ne => 66
theorem mt_ssh : mtOf MTl 1 "Saying" "shown" = some 56 ∧ (∀ o, mtOf MTl 1 (ccn o) "shown" = some 60) ∧ mtOf MTl 1 "Not" "shown" = some 79 ∧ mtOf MTl 1 "Both" "shown" = some 71 ∧ mtOf MTl 1 "Either" "shown" = some 75 ∧ (∀ o, mtOf MTl 1 (ccn o) "sign" = some (csF o)) := by
  refine ⟨by decide +kernel, fun o => ?_, by decide +kernel, by decide +kernel, by decide +kernel, fun o => ?_⟩ <;> cases o <;> decide +kernel
theorem mssh {S : O} {t : S4} (hS : SelfS S t) : methG (mtOf MTl 1) "shown" S = some (ssF t) := by
  rcases hS with rfl | rfl
  · cases t with
    | yes => exact (methG_p _ _ _ _ rfl).trans mt_ssh.1
    | cmp o a b => exact (methG_p _ _ _ _ rfl).trans (mt_ssh.2.1 o)
    | no s => exact (methG_p _ _ _ _ rfl).trans mt_ssh.2.2.1
    | both a b => exact (methG_p _ _ _ _ rfl).trans mt_ssh.2.2.2.1
    | either a b => exact (methG_p _ _ _ _ rfl).trans mt_ssh.2.2.2.2.1
  · cases t with
    | yes => exact (methG_i _ _ _ _ rfl).trans mt_ssh.1
    | cmp o a b => exact (methG_i _ _ _ _ rfl).trans (mt_ssh.2.1 o)
    | no s => exact (methG_i _ _ _ _ rfl).trans mt_ssh.2.2.1
    | both a b => exact (methG_i _ _ _ _ rfl).trans mt_ssh.2.2.2.1
    | either a b => exact (methG_i _ _ _ _ rfl).trans mt_ssh.2.2.2.2.1
theorem mscg {S : O} {o : C4} {a b : T3} (hS : SelfS S (.cmp o a b)) : methG (mtOf MTl 1) "sign" S = some (csF o) := by
  rcases hS with rfl | rfl
  · exact (methG_p _ _ _ _ rfl).trans (mt_ssh.2.2.2.2.2 o)
  · exact (methG_i _ _ _ _ rfl).trans (mt_ssh.2.2.2.2.2 o)
theorem csign_spec (n : Nat) (o : C4) (S : O) (h : (∃ c fs, S = .ins c fs) ∨ ∃ d, S = .pure d) : callN (n + 1) (csF o) [S] = .ok (.pure (.str (csg o))) [S] := by
  cases o with
  | lt =>
    refine (c_Less_sign n _).trans ((bodyC_a 1 0 _ _ rfl).trans ?_)
    unfold b_Less_sign
    rcases h with ⟨c, fs, rfl⟩ | ⟨d, rfl⟩ <;> walk_at "vi*" <;> rfl
  | le =>
    refine (c_AtMost_sign n _).trans ((bodyC_a 1 0 _ _ rfl).trans ?_)
    unfold b_AtMost_sign
    rcases h with ⟨c, fs, rfl⟩ | ⟨d, rfl⟩ <;> walk_at "vi*" <;> rfl
  | eq =>
    refine (c_Compared_sign n _).trans ((bodyC_a 1 0 _ _ rfl).trans ?_)
    unfold b_Compared_sign
    rcases h with ⟨c, fs, rfl⟩ | ⟨d, rfl⟩ <;> walk_at "vi*" <;> rfl
  | ne =>
    refine (c_Unlike_sign n _).trans ((bodyC_a 1 0 _ _ rfl).trans ?_)
    unfold b_Unlike_sign
    rcases h with ⟨c, fs, rfl⟩ | ⟨d, rfl⟩ <;> walk_at "vi*" <;> rfl
theorem sshown_spec : ∀ (t : S4) (d : Nat) (S : O), sdep t ≤ d → ssz t ≤ 100000 → TxS t → SelfS S t → callN (d + 1) (ssF t) [S] = .ok (.pure (.str (shS t))) [S]
  | .yes, d, S, hd, hz, hx, hS => by
    refine (c_Saying_shown d _).trans ((bodyC_a 1 0 _ _ rfl).trans ?_)
    unfold b_Saying_shown
    simp only [shS]
    clear hd hz hx
    rcases hS with rfl | rfl <;> walk_at "vi*"
  | .cmp o a b, 0, S, hd, hz, hx, hS => by simp [sdep] at hd
  | .cmp o a b, d + 1, S, hd, hz, hx, hS => by
    simp only [sdep] at hd
    simp only [ssz] at hz
    have ea := shown_spec a d (.pure (insD a)) (by omega) (by omega) hx.1 (.inl rfl)
    have eb := shown_spec b d (.pure (insD b)) (by omega) (by omega) hx.2 (.inl rfl)
    have ma := msh (S := .pure (insD a)) (t := a) (.inl rfl)
    have mb := msh (S := .pure (insD b)) (t := b) (.inl rfl)
    have ms := mscg hS
    have sg1 := csign_spec d o S (by rcases hS with rfl | rfl; exact .inr ⟨_, rfl⟩; exact .inl ⟨_, _, rfl⟩)
    have a1 : atrF (ftOf FTl) "one" S = some (.pure (insD a)) := atr_S hS (sf_cmp o).1 rfl rfl
    have a2 : atrF (ftOf FTl) "other" S = some (.pure (insD b)) := atr_S hS (sf_cmp o).2 rfl rfl
    have la := shT_len hx.1
    have lb := shT_len hx.2
    have lo := csg_len o
    have p1 := add_s (shT a) (Str.ofString " ") (by rw [sp_len.1]; omega)
    have p2 := add_s (shT a ++ Str.ofString " ") (csg o) (by rw [len_app, sp_len.1]; omega)
    have p3 := add_s (shT a ++ Str.ofString " " ++ csg o) (Str.ofString " ") (by rw [len_app, len_app, sp_len.1]; omega)
    have p4 := add_s (shT a ++ Str.ofString " " ++ csg o ++ Str.ofString " ") (shT b) (by rw [len_app, len_app, len_app, sp_len.1]; omega)
    refine (c_Compared_shown (d + 1) _).trans ((bodyC_a 1 0 _ _ rfl).trans ?_)
    simp only [shS]
    generalize shT a = A at *
    generalize shT b = B at *
    clear hd hz hx la lb lo
    unfold b_Compared_shown
    rcases hS with rfl | rfl <;> walk_at "vi*"
  | .no s, 0, S, hd, hz, hx, hS => by simp [sdep] at hd
  | .no s, d + 1, S, hd, hz, hx, hS => by
    simp only [sdep] at hd
    simp only [ssz] at hz
    have ea := sshown_spec s d (.pure (insS s)) (by omega) (by omega) hx (.inl rfl)
    have ma := mssh (S := .pure (insS s)) (t := s) (.inl rfl)
    have a1 : atrF (ftOf FTl) "one" S = some (.pure (insS s)) := atr_S hS sf_no rfl rfl
    have la := shS_len (t := s) hx
    have p1 := add_s (Str.ofString "[ not ") (shS s) (by rw [br_len.1]; omega)
    have p2 := add_s (Str.ofString "[ not " ++ shS s) (Str.ofString " ]") (by rw [len_app, br_len.1, br_len.2.1]; omega)
    refine (c_Not_shown (d + 1) _).trans ((bodyC_a 1 0 _ _ rfl).trans ?_)
    simp only [shS]
    generalize shS s = A at *
    clear hd hz hx la
    unfold b_Not_shown
    rcases hS with rfl | rfl <;> walk_at "vi*"
  | .both a b, 0, S, hd, hz, hx, hS => by simp [sdep] at hd
  | .both a b, d + 1, S, hd, hz, hx, hS => by
    simp only [sdep] at hd
    simp only [ssz] at hz
    have ea := sshown_spec a d (.pure (insS a)) (by omega) (by omega) hx.1 (.inl rfl)
    have eb := sshown_spec b d (.pure (insS b)) (by omega) (by omega) hx.2 (.inl rfl)
    have ma := mssh (S := .pure (insS a)) (t := a) (.inl rfl)
    have mb := mssh (S := .pure (insS b)) (t := b) (.inl rfl)
    have a1 : atrF (ftOf FTl) "one" S = some (.pure (insS a)) := atr_S hS sf_bo.1 rfl rfl
    have a2 : atrF (ftOf FTl) "other" S = some (.pure (insS b)) := atr_S hS sf_bo.2 rfl rfl
    have la := shS_len hx.1
    have lb := shS_len hx.2
    have p1 := add_s (Str.ofString "[ ") (shS a) (by rw [br_len.2.2.1]; omega)
    have p2 := add_s (Str.ofString "[ " ++ shS a) (Str.ofString " and ") (by rw [len_app, br_len.2.2.1, br_len.2.2.2.1]; omega)
    have p3 := add_s (Str.ofString "[ " ++ shS a ++ Str.ofString " and ") (shS b) (by rw [len_app, len_app, br_len.2.2.1, br_len.2.2.2.1]; omega)
    have p4 := add_s (Str.ofString "[ " ++ shS a ++ Str.ofString " and " ++ shS b) (Str.ofString " ]") (by rw [len_app, len_app, len_app, br_len.2.2.1, br_len.2.2.2.1, br_len.2.1]; omega)
    refine (c_Both_shown (d + 1) _).trans ((bodyC_a 1 0 _ _ rfl).trans ?_)
    simp only [shS]
    generalize shS a = A at *
    generalize shS b = B at *
    clear hd hz hx la lb
    unfold b_Both_shown
    rcases hS with rfl | rfl <;> walk_at "vi*"
  | .either a b, 0, S, hd, hz, hx, hS => by simp [sdep] at hd
  | .either a b, d + 1, S, hd, hz, hx, hS => by
    simp only [sdep] at hd
    simp only [ssz] at hz
    have ea := sshown_spec a d (.pure (insS a)) (by omega) (by omega) hx.1 (.inl rfl)
    have eb := sshown_spec b d (.pure (insS b)) (by omega) (by omega) hx.2 (.inl rfl)
    have ma := mssh (S := .pure (insS a)) (t := a) (.inl rfl)
    have mb := mssh (S := .pure (insS b)) (t := b) (.inl rfl)
    have a1 : atrF (ftOf FTl) "one" S = some (.pure (insS a)) := atr_S hS sf_ei.1 rfl rfl
    have a2 : atrF (ftOf FTl) "other" S = some (.pure (insS b)) := atr_S hS sf_ei.2 rfl rfl
    have la := shS_len hx.1
    have lb := shS_len hx.2
    have p1 := add_s (Str.ofString "[ ") (shS a) (by rw [br_len.2.2.1]; omega)
    have p2 := add_s (Str.ofString "[ " ++ shS a) (Str.ofString " or ") (by rw [len_app, br_len.2.2.1, br_len.2.2.2.2.1]; omega)
    have p3 := add_s (Str.ofString "[ " ++ shS a ++ Str.ofString " or ") (shS b) (by rw [len_app, len_app, br_len.2.2.1, br_len.2.2.2.2.1]; omega)
    have p4 := add_s (Str.ofString "[ " ++ shS a ++ Str.ofString " or " ++ shS b) (Str.ofString " ]") (by rw [len_app, len_app, len_app, br_len.2.2.1, br_len.2.2.2.2.1, br_len.2.1]; omega)
    refine (c_Either_shown (d + 1) _).trans ((bodyC_a 1 0 _ _ rfl).trans ?_)
    simp only [shS]
    generalize shS a = A at *
    generalize shS b = B at *
    clear hd hz hx la lb
    unfold b_Either_shown
    rcases hS with rfl | rfl <;> walk_at "vi*"
theorem first_spec (n : Nat) (ps : List PlaceT) (hpl : ps.length ≤ 3) (K DS : List D) : callN (n + 1) 164 [.ins "Machine" (mcO ps K DS)] = .ok (.pure (roomD (ps.map PlaceT.st))) [.ins "Machine" (mcO ps K DS)] := by
  have ad : atrF (ftOf FTl) "places" (.ins "Machine" (mcO ps K DS)) = some (.pure (.tup (ps.map plD))) := atr_i _ _ _ _ _ f_mc.1 rfl
  obtain ⟨⟨t1, t2, t3, t4⟩, _, e⟩ := comp_map (own := [1, 2, 3, 4]) (t := tupT [(nmT 1), (nmT 2), (nmT 3), (nmT 4)]) (cond := fun g => .ok true g) (elt := nm 4) (fun s : Slot × Slot × Slot × Slot => [.par (.ins "Machine" (mcO ps K DS)), s.1, s.2.1, s.2.2.1, s.2.2.2]) (fun s => Fre s.1 ∧ Fre s.2.1 ∧ Fre s.2.2.1 ∧ Fre s.2.2.2) plD (fun p => D.int p.st) ps (fun p hp s hs => by
    obtain ⟨q1, q2, q3, q4⟩ := s
    obtain ⟨f1, f2, f3, f4⟩ := hs
    refine ⟨(.loc (.pure (.str p.nm)), .loc (.pure (.int p.lo)), .loc (.pure (.int p.hi)), .loc (.pure (.int p.st))), ⟨fre_d _, fre_d _, fre_d _, fre_d _⟩, ?_⟩
    simp only at f1 f2 f3 f4
    unfold plD
    generalize mcO ps K DS = MC at *
    clear hp ad
    walk_at "vi*") [] (by simp; omega) (.un, .un, .un, .un) ⟨fre_un, fre_un, fre_un, fre_un⟩
  rw [show ps.map (fun p => D.int p.st) = (ps.map PlaceT.st).map D.int by rw [List.map_map]; rfl] at e
  simp only [List.nil_append] at e
  have tp : tupleO [.lst ((ps.map PlaceT.st).map D.int)] = some (.pure (roomD (ps.map PlaceT.st))) := tup_l1 _
  refine (c_Machine_first n _).trans ((bodyC_a 1 4 _ _ rfl).trans ?_)
  generalize mcO ps K DS = MC at *
  generalize roomD (ps.map PlaceT.st) = R at *
  generalize (ps.map PlaceT.st).map D.int = RI at *
  clear hpl
  unfold b_Machine_first
  walk_at "vi*"
theorem envA_eq {ps : List PlaceT} {room : List Int} (hl : room.length = ps.length) (nd : (ps.map PlaceT.nm).Nodup) : (envA ps room).map (·.1) = ps.map PlaceT.nm := by
  have key : ∀ (qs : List (PlaceT × Int)) (m : NA), (m.map (·.1) ++ qs.map fun q => q.1.nm).Nodup → (qs.foldl (fun m q => setA m q.1.nm q.2) m).map (·.1) = m.map (·.1) ++ qs.map fun q => q.1.nm := by
    intro qs
    induction qs with
    | nil => simp
    | cons q qs ih =>
      intro m hm
      have hq : m.any (fun p => decide (p.1 = q.1.nm)) = false := by
        rw [List.any_eq_false]
        intro p hp
        rw [List.map_cons, List.nodup_append] at hm
        have := hm.2.2 p.1 (List.mem_map_of_mem hp) q.1.nm (by simp)
        simpa using this
      have ks := keys_set m q.1.nm q.2
      rw [hq] at ks
      simp only [Bool.false_eq_true, if_false] at ks
      rw [List.foldl_cons, ih _ (by rw [ks]; simpa using hm), ks]
      simp
  have e : (ps.zip room).map (fun q => q.1.nm) = ps.map PlaceT.nm := by
    rw [show (fun q : PlaceT × Int => q.1.nm) = PlaceT.nm ∘ Prod.fst from rfl, ← List.map_map, List.map_fst_zip (by omega)]
  have := key (ps.zip room) [] (by simpa [e] using nd)
  unfold envA
  simpa [e] using this
theorem envA_bd {ps : List PlaceT} {room : List Int} (hl : room.length = ps.length) (hb : ∀ v ∈ room, v.natAbs ≤ 100) : ∀ p ∈ envA ps room, p.2.natAbs < 2 ^ 102 := (env_ok hl hb).good.bd
def moB (s signs : Str) : Bool := (!decide (s = Str.empty)) && s.cps.toList.all fun c => decide (c ∈ signs.cps.toList)
def FIG : Str := Str.ofString "0123456789"
def LET : Str := Str.ofString "abcdefghijklmnopqrstuvwxyz"
def numB (w : Str) : Bool := if w.length > 2 || !moB w FIG then false else decide (w = Str.ofString "0") || !decide (cutS w none (some 1) = Str.ofString "0")
def namB (w : Str) : Bool := decide (w.length ≤ 8) && (moB w LET && !(O15 ++ O3).contains w)
def farB (w : Str) : Bool := Txt.startswith w (Str.ofString "@") && namB (cutS w (some 1) none)
def SGN : List Str := ["+", "-", "*", "(", ")", "[", "]", "<", "<=", "=", "!=", ";", ","]
def wrdB (w : Str) : Bool := SGN.contains w || (O15 ++ O3).contains w || numB w || namB w || farB w
def WName (w : Str) : Prop := NameOk w ∨ ∃ v, NameOk v ∧ w = Str.ofString "@" ++ v
theorem low_LET {c : Nat} (h : LowC c) : c ∈ LET.cps.toList := by
  have e : LET.cps.toList = List.range' 97 26 := rfl
  obtain ⟨h1, h2⟩ := h
  rw [e, List.mem_range'_1]
  omega
theorem low_FIG {c : Nat} (h : LowC c ∨ c = 64) : c ∉ FIG.cps.toList := by
  have e : FIG.cps.toList = List.range' 48 10 := rfl
  rw [e, List.mem_range'_1]
  rcases h with ⟨h1, h2⟩ | h <;> omega
theorem moB_head {s signs : Str} {c : Nat} {r : List Nat} (e : s.cps.toList = c :: r) (h : c ∉ signs.cps.toList) : moB s signs = false := by
  unfold moB
  rw [e, List.all_cons, decide_eq_false h]
  simp
theorem NameOk.head {s : Str} (h : NameOk s) : ∃ c r, s.cps.toList = c :: r ∧ LowC c := by
  cases e : s.cps.toList with
  | nil => have := h.pos; rw [← len_cps, e] at this; simp at this
  | cons c r => exact ⟨c, r, rfl, h.low c (by rw [e]; simp)⟩
theorem NameOk.ne {s : Str} (h : NameOk s) : s ≠ Str.empty := fun e => by
  have := h.pos
  subst e
  exact absurd this (by decide)
theorem NameOk.nam {s : Str} (h : NameOk s) : namB s = true := by
  unfold namB moB
  rw [h.own, decide_eq_true h.le, decide_eq_false h.ne]
  have : (s.cps.toList.all fun c => decide (c ∈ LET.cps.toList)) = true := List.all_eq_true.mpr fun c hc => decide_eq_true (low_LET (h.low c hc))
  rw [this]; rfl
theorem NameOk.num {s : Str} (h : NameOk s) : numB s = false := by
  obtain ⟨c, r, e, l⟩ := h.head
  have := moB_head e (low_FIG (.inl l))
  unfold numB; rw [this]; simp
theorem at_cps (v : Str) : (Str.ofString "@" ++ v).cps.toList = 64 :: v.cps.toList := by
  rw [app_cps]; rfl
theorem at_num (v : Str) : numB (Str.ofString "@" ++ v) = false := by
  have := moB_head (at_cps v) (low_FIG (.inr rfl))
  unfold numB; rw [this]; simp
theorem at_cut (v : Str) : cutS (Str.ofString "@" ++ v) (some 1) none = v := str_ext (by
  rw [cut_cps, at_cps]
  have h : (64 :: v.cps.toList).take (v.cps.toList.length + 1) = 64 :: v.cps.toList := List.take_of_length_le (by simp)
  simp [cutL, HT.sIx]
  exact List.take_of_length_le (by simp))
theorem at_far {v : Str} (h : NameOk v) : farB (Str.ofString "@" ++ v) = true := by
  unfold farB
  rw [at_cut, h.nam]
  have : Txt.startswith (Str.ofString "@" ++ v) (Str.ofString "@") = true := by
    have h1 : (Str.ofString "@" ++ v).length = 1 + v.length := len_app _ _
    unfold Txt.startswith
    rw [StrLaws.subAt_eq, at_cps, h1]
    simp [show (Str.ofString "@").length = 1 from rfl, show (Str.ofString "@").cps.toList = [64] from rfl]
  rw [this]; rfl
structure Wd1 (w : Str) : Prop where
  ok : PyData.strOk w = true
  le : w.length ≤ 9
  wrd : wrdB w = true
  ns : NoSp w
  ne : w ≠ Str.ofString ""
theorem wd_num : ∀ q : Fin 100, numB (numS (q.val : Int)) = true ∧ (numS (q.val : Int)).cps.toList.all (fun c => decide (48 ≤ c) && decide (c ≤ 57)) = true ∧ (decide (numS (q.val : Int) ≠ Str.ofString "")) = true := by decide +kernel
theorem numS_num {n : Int} (h : 0 ≤ n ∧ n ≤ 99) : numB (numS n) = true ∧ (numS n).cps.toList.all (fun c => decide (48 ≤ c) && decide (c ≤ 57)) = true ∧ numS n ≠ Str.ofString "" := by
  have := wd_num ⟨n.toNat, by omega⟩
  have e : ((n.toNat : Nat) : Int) = n := by omega
  simp only [e] at this
  exact ⟨this.1, this.2.1, by simpa using this.2.2⟩
theorem Wd1.num {n : Int} (h : 0 ≤ n ∧ n ≤ 99) : Wd1 (numS n) := by
  obtain ⟨h1, h2, h3⟩ := numS_num h
  refine ⟨(numS_ok h).2, by have := (numS_ok h).1; omega, by unfold wrdB; rw [h1]; simp, fun hc => ?_, h3⟩
  have := List.all_eq_true.mp h2 32 hc
  simp at this
theorem NameOk.ns {w : Str} (h : NameOk w) : NoSp w := fun hc => by have := h.low 32 hc; simp [LowC] at this
theorem Wd1.name {w : Str} (h : WName w) : Wd1 w := by
  rcases h with h | ⟨v, h, rfl⟩
  · exact ⟨h.strOk, by have := h.le; omega, by unfold wrdB; rw [h.nam]; simp, h.ns, h.ne⟩
  · refine ⟨ok_app (by decide +kernel) h.strOk, by rw [len_app]; have := h.le; have : (Str.ofString "@").length = 1 := rfl; omega, by unfold wrdB; rw [at_far h]; simp, fun hc => ?_, fun e => ?_⟩
    · rw [at_cps] at hc
      rcases List.mem_cons.mp hc with hc | hc
      · cases hc
      · exact h.ns hc
    · have := congrArg (fun s : Str => s.cps.toList) e
      simp only [at_cps] at this
      exact absurd this (by simp [show (Str.ofString "").cps.toList = [] from rfl])
theorem WName.num {w : Str} (h : WName w) : numB w = false := by
  rcases h with h | ⟨v, h, rfl⟩
  · exact h.num
  · exact at_num v
theorem eqs_t (a : Str) : eqO (.pure (.str a)) (.pure (.str a)) = some (.pure (.bl true)) := by rw [eq_s, decide_eq_true rfl]
theorem nes_f (a : Str) : neO (.pure (.str a)) (.pure (.str a)) = some (.pure (.bl false)) := by rw [ne_s, decide_eq_true rfl]; rfl
theorem nums : numS 0 = Str.ofString "0" ∧ numS 2 = Str.ofString "2" := ⟨by decide +kernel, by decide +kernel⟩
theorem ne_b (b : Bool) : neO (.pure (.bl b)) (.pure (.bl b)) = some (.pure (.bl false)) := by cases b <;> rfl
theorem eq_ii (i : Int) : eqO (.pure (.int i)) (.pure (.int i)) = some (.pure (.bl true)) := by
  have : eqO (.pure (.int i)) (.pure (.int i)) = some (.pure (.bl (decide (i = i)))) := rfl
  rw [this, decide_eq_true rfl]
def mcF (ps : List PlaceT) (K ds : List D) : List (Str × D) := [("places", .tup (ps.map plD)), ("keeps", .tup K), ("deeds", .tup ds)]
def SelfM (S : O) (ps : List PlaceT) (K ds : List D) : Prop := S = .ins "Machine" (mcO ps K ds) ∨ S = .pure (.ins "Machine" (mcF ps K ds))
theorem mc_er (ps : List PlaceT) (K ds : List D) : O.erF (mcO ps K ds) = mcF ps K ds := by simp [mcO, mcF, O.erF, O.er]
theorem mc_full (ps : List PlaceT) (K ds : List D) : O.fullF (mcO ps K ds) = true := by simp [mcO, O.fullF, O.full]
theorem atr_M {S : O} {ps : List PlaceT} {K ds : List D} {f : Str} {d : D} (hS : SelfM S ps K ds) (hf : ftOf FTl "Machine" f = true) (h1 : (mcF ps K ds).lookup f = some d) (h2 : (mcO ps K ds).lookup f = some (.pure d)) : atrF (ftOf FTl) f S = some (.pure d) := by
  rcases hS with rfl | rfl
  · exact atr_i _ _ _ _ _ hf h2
  · exact (atr_p _ _ _ _ hf).trans (by rw [h1]; rfl)
theorem valinS (n : Nat) (ps : List PlaceT) (K ds : List D) (S : O) (hS : SelfM S ps K ds) (room : List Int) (hl : ps.length ≤ 100) : callN (n + 1) 165 [S, .pure (.tup (room.map D.int))] = .ok (.dic (enc (envA ps room))) [S, .pure (.tup (room.map D.int))] := by
  have key : ∀ (s0 s1 : Slot) (qs : List (PlaceT × Int)) (m : NA) (t3 t4 : Slot), m.length + qs.length ≤ 200 → Fre t3 → Fre t4 → ∃ t3' t4' : Slot, loopS (tupT [(nmT 3), (nmT 4)]) (stS (nm 2) (bin ixO (nm 3) (cst (.int 0))) (nm 4)) (qs.map fun q => D.tup [plD q.1, D.int q.2]) [s0, s1, .loc (.dic (enc m)), t3, t4] = .ok .next [s0, s1, .loc (.dic (enc (qs.foldl (fun m q => setA m q.1.nm q.2) m))), t3', t4'] := by
    intro s0 s1 qs
    induction qs with
    | nil => exact fun m t3 t4 _ _ _ => ⟨t3, t4, by simp [loop_n]⟩
    | cons q qs ih =>
      intro m t3 t4 hm f3 f4
      have i0 : ixO (.pure (plD q.1)) (.pure (.int 0)) = some (.pure (.str q.1.nm)) := ix_t0
      have st := enc_put m q.1.nm q.2 (by simp at hm; omega)
      obtain ⟨u3, u4, e⟩ := ih (setA m q.1.nm q.2) (.loc (.pure (plD q.1))) (.loc (.pure (.int q.2))) (by have := set_len m q.1.nm q.2; simp at hm; omega) (fre_d _) (fre_d _)
      refine ⟨u3, u4, ?_⟩
      simp only [List.foldl_cons]
      clear ih hm
      walk_at "vi*"
  obtain ⟨u3, u4, e⟩ := key (.par S) (.par (.pure (.tup (room.map D.int)))) (ps.zip room) [] .un .un (by simp; omega) fre_un fre_un
  have a1 : atrF (ftOf FTl) "places" S = some (.pure (.tup (ps.map plD))) := atr_M hS f_mc.1 rfl rfl
  have zz := zip_tt plD D.int ps room
  have dn : dnewE = fun g => .ok (.val (.dic (enc []))) g := rfl
  refine (c_Machine_values_in n _).trans ((bodyC_a 2 3 _ _ rfl).trans ?_)
  clear key hl
  unfold envA
  unfold b_Machine_values_in
  rw [dn]
  clear dn
  rcases hS with rfl | rfl <;> walk_at "vi*"
abbrev eqN (x : Str) : S4 := .cmp .eq (.name (Str.ofString "@" ++ x)) (.name x)
def alike : List Str → S4
  | [] => .yes
  | [x] => eqN x
  | x :: y :: r => .both (eqN x) (alike (y :: r))
theorem alike_spec (n : Nat) : ∀ (N : List Str) (d : Nat), N.length ≤ d → (∀ x ∈ N, NameOk x) → callN (n + d + 3) 462 [.lst (N.map D.str)] = .ok (.ins (scls (alike N)) (sfls (alike N))) [.lst (N.map D.str)]
  | [], d, hd, hok => by
    have e0 : eqO (.lst []) (.lst []) = some (.pure (.bl true)) := rfl
    refine (c_all_alike (n + d + 2) _).trans ((bodyC_a 1 1 _ _ rfl).trans ?_)
    simp only [List.map_nil, alike, scls, sfls]
    unfold b_all_alike
    walk_at "vi*"
  | [x], d, hd, hok => by
    have e0 := eq_strs0 [x] fun y hy => (hok y hy).strOk
    have xl := (hok x (by simp)).le
    have ad := add_s (Str.ofString "@") x (by have : (Str.ofString "@").length = 1 := rfl; omega)
    have n1 := nam_init (n + d + 1) (Str.ofString "@" ++ x)
    have n2 := nam_init (n + d + 1) x
    have ci : callN (n + d + 2) 57 [.ins "Equal" [], .ins "Named" [("name", .pure (.str (Str.ofString "@" ++ x)))], .ins "Named" [("name", .pure (.str x))]] = .ok (.pure .non) [.ins "Equal" [("one", .pure (insD (.name (Str.ofString "@" ++ x)))), ("other", .pure (insD (.name x)))], .pure (insD (.name (Str.ofString "@" ++ x))), .pure (insD (.name x))] := cmp_init (n + d + 1) .eq (.name (Str.ofString "@" ++ x)) (.name x)
    refine (c_all_alike (n + d + 2) _).trans ((bodyC_a 1 1 _ _ rfl).trans ?_)
    simp only [List.map_cons, List.map_nil, alike, scls, sfls, List.isEmpty_cons] at *
    generalize insD (.name (Str.ofString "@" ++ x)) = ia at *
    generalize insD (.name x) = ib at *
    clear hok hd xl
    unfold b_all_alike
    walk_at "vi*"
    rfl
  | x :: y :: r, 0, hd, hok => by simp at hd
  | x :: y :: r, d + 1, hd, hok => by
    have ih := alike_spec n (y :: r) d (by simp at hd ⊢; omega) fun z hz => hok z (List.mem_cons_of_mem _ hz)
    have e0 := eq_strs0 (x :: y :: r) fun y hy => (hok y hy).strOk
    have xl := (hok x (by simp)).le
    have ad := add_s (Str.ofString "@") x (by have : (Str.ofString "@").length = 1 := rfl; omega)
    have n1 := nam_init (n + d + 2) (Str.ofString "@" ++ x)
    have n2 := nam_init (n + d + 2) x
    have ci : callN (n + d + 3) 57 [.ins "Equal" [], .ins "Named" [("name", .pure (.str (Str.ofString "@" ++ x)))], .ins "Named" [("name", .pure (.str x))]] = .ok (.pure .non) [.ins "Equal" (sfls (eqN x)), .pure (insD (.name (Str.ofString "@" ++ x))), .pure (insD (.name x))] := cmp_init (n + d + 2) .eq (.name (Str.ofString "@" ++ x)) (.name x)
    have bi : callN (n + d + 3) 68 [.ins "Both" [], .ins "Equal" (sfls (eqN x)), .ins (scls (alike (y :: r))) (sfls (alike (y :: r)))] = .ok (.pure .non) [.ins "Both" [("one", .pure (insS (eqN x))), ("other", .pure (insS (alike (y :: r))))], .pure (insS (eqN x)), .pure (insS (alike (y :: r)))] := both_init (n + d + 2) (eqN x) (alike (y :: r))
    have ln : lenO [.lst ((x :: y :: r).map D.str)] = some (.pure (.int ((x :: y :: r).length : Nat))) := len_strs _
    have l1 : eqO (.pure (.int ((x :: y :: r).length : Nat))) (.pure (.int 1)) = some (.pure (.bl false)) := by
      show some (O.pure (D.bl (decide (_ = _)))) = _
      rw [decide_eq_false (by simp; omega)]
    have ct : slO (some 1) none (.lst ((x :: y :: r).map D.str)) = some (.lst ((y :: r).map D.str)) := by
      show some (O.lst (cutL (D.str x :: (y :: r).map D.str) (some 1) none)) = _
      have : cutL (D.str x :: (y :: r).map D.str) (some 1) none = (y :: r).map D.str := by
        unfold cutL
        simp [HT.sIx]
        exact List.take_of_length_le (by simp)
      rw [this]
    have ix : ixO (.lst ((x :: y :: r).map D.str)) (.pure (.int 0)) = some (.pure (.str x)) := by rw [ix_l, atI_lt _ _ (by omega)]; rfl
    have f1 : n + (d + 1) + 3 = n + d + 4 := by omega
    rw [f1]
    refine (c_all_alike (n + d + 3) _).trans ((bodyC_a 1 1 _ _ rfl).trans ?_)
    have s1 : scls (alike (x :: y :: r)) = "Both" := rfl
    have s2 : sfls (alike (x :: y :: r)) = ([("one", .pure (insS (eqN x))), ("other", .pure (insS (alike (y :: r))))] : List (Str × O)) := rfl
    rw [s1, s2]
    simp only [List.isEmpty_cons] at e0
    generalize (((x :: y :: r).length : Nat) : Int) = L at *
    generalize sfls (alike (y :: r)) = fb at *
    generalize scls (alike (y :: r)) = cb at *
    generalize insS (alike (y :: r)) = ib at *
    generalize insS (eqN x) = ia at *
    generalize sfls (eqN x) = fa at *
    generalize insD (.name (Str.ofString "@" ++ x)) = da at *
    generalize insD (.name x) = db at *
    generalize (x :: y :: r).map D.str = XY at *
    generalize (y :: r).map D.str = YR at *
    clear hok hd xl s1 s2
    unfold b_all_alike
    walk_at "vi*"
abbrev atS (x : Str) : Str := Str.ofString "@" ++ x
def farA (m2 m : NA) : NA := m2.foldl (fun m p => setA m (atS p.1) p.2) m
theorem at_inj {a b : Str} (h : atS a = atS b) : a = b := by
  have := congrArg (fun s : Str => s.cps.toList) h
  simp only [atS, at_cps, List.cons.injEq, true_and] at this
  exact str_ext this
theorem at_ne {a b : Str} (hb : NameOk b) : atS a ≠ b := fun h => by
  obtain ⟨c, r, e, l⟩ := hb.head
  have := congrArg (fun s : Str => s.cps.toList) h
  simp only [atS, at_cps, e, List.cons.injEq] at this
  unfold LowC at l
  omega
theorem farA_val : ∀ (m2 m : NA) (t : Str), (∀ p ∈ m2, atS p.1 ≠ t) → valA (farA m2 m) t = valA m t
  | [], m, t, h => rfl
  | p :: m2, m, t, h => by
    show valA (farA m2 (setA m (atS p.1) p.2)) t = _
    rw [farA_val m2 _ t fun q hq => h q (List.mem_cons_of_mem _ hq), valA_set, if_neg (fun e => h p (by simp) e.symm)]
theorem valA_cons (p : Str × Int) (m : NA) (t : Str) : valA (p :: m) t = if p.1 = t then p.2 else valA m t := by
  unfold valA
  rw [List.find?_cons]
  by_cases h : p.1 = t
  · simp [h]
  · simp [h]
theorem farA_at : ∀ (m2 m : NA) (x : Str), (m2.map (·.1)).Nodup → x ∈ m2.map (·.1) → valA (farA m2 m) (atS x) = valA m2 x
  | [], m, x, nd, h => by simp at h
  | p :: m2, m, x, nd, h => by
    show valA (farA m2 (setA m (atS p.1) p.2)) (atS x) = _
    have nd2 := List.nodup_cons.mp (show (p.1 :: m2.map (·.1)).Nodup from nd)
    rw [valA_cons]
    by_cases e : p.1 = x
    · rw [if_pos e, farA_val m2 _ _ (fun q hq z => nd2.1 (by rw [e, ← at_inj z]; exact List.mem_map_of_mem hq)), valA_set, e, if_pos rfl]
    · rw [if_neg e]
      have hx : x ∈ m2.map (·.1) := by
        rcases List.mem_cons.mp (show x ∈ p.1 :: m2.map (·.1) from h) with q | q
        · exact absurd q.symm e
        · exact q
      exact farA_at m2 _ x nd2.2 hx
theorem farA_good : ∀ (m2 m : NA) (K : List Str), GoodA m K → (∀ p ∈ m2, p.2.natAbs < 2 ^ 102) → ∃ K', GoodA (farA m2 m) K' ∧ (∀ s ∈ K, s ∈ K') ∧ ∀ p ∈ m2, atS p.1 ∈ K'
  | [], m, K, g, h => ⟨K, g, fun s hs => hs, fun p hp => by cases hp⟩
  | p :: m2, m, K, g, h => by
    obtain ⟨K', g', h1, h2⟩ := farA_good m2 (setA m (atS p.1) p.2) (atS p.1 :: K) (g.put _ _ (h p (by simp))) fun q hq => h q (List.mem_cons_of_mem _ hq)
    refine ⟨K', g', fun s hs => h1 s (List.mem_cons_of_mem _ hs), fun q hq => ?_⟩
    rcases List.mem_cons.mp hq with rfl | hq
    · exact h1 _ (by simp)
    · exact h2 q hq
theorem its_enc (m : NA) : itsD (enc m) = m.map fun p => D.tup [.str p.1, .int p.2] := by
  unfold itsD enc
  rw [List.map_map]
  rfl
theorem valuesof_spec (n : Nat) (ps1 ps2 : List PlaceT) (K1 D1 K2 D2 : List D) (S1 S2 : O) (h1 : SelfM S1 ps1 K1 D1) (h2 : SelfM S2 ps2 K2 D2) (r1 r2 : List Int) (l1 : ps1.length ≤ 100) (l2 : ps2.length ≤ 100) (hok : ∀ p ∈ envA ps1 r1, p.1.length ≤ 9) (le : (envA ps1 r1).length ≤ 100 ∧ (envA ps2 r2).length ≤ 100) :
    callN (n + 2) 263 [S1, S2, .pure (roomD r1), .pure (roomD r2)] = .ok (.dic (enc (farA (envA ps1 r1) (envA ps2 r2)))) [S1, S2, .pure (roomD r1), .pure (roomD r2)] := by
  have v1 : callN (n + 1) 165 [S1, .pure (roomD r1)] = .ok (.dic (enc (envA ps1 r1))) [S1, .pure (roomD r1)] := valinS n ps1 K1 D1 S1 h1 r1 l1
  have v2 : callN (n + 1) 165 [S2, .pure (roomD r2)] = .ok (.dic (enc (envA ps2 r2))) [S2, .pure (roomD r2)] := valinS n ps2 K2 D2 S2 h2 r2 l2
  have mt : mtOf MTl 2 "Machine" "values_in" = some 165 := by decide +kernel
  have m1 : methG (mtOf MTl 2) "values_in" S1 = some 165 := by rcases h1 with rfl | rfl; exact (methG_i _ _ _ _ rfl).trans mt; exact (methG_p _ _ _ _ rfl).trans mt
  have m2 : methG (mtOf MTl 2) "values_in" S2 = some 165 := by rcases h2 with rfl | rfl; exact (methG_i _ _ _ _ rfl).trans mt; exact (methG_p _ _ _ _ rfl).trans mt
  have key : ∀ (s0 s1 s2 s3 : Slot) (qs m : NA) (t5 t6 : Slot), (∀ p ∈ qs, p.1.length ≤ 9) → m.length + qs.length ≤ 500 → Fre t5 → Fre t6 → ∃ t5' t6' : Slot, loopS (tupT [(nmT 5), (nmT 6)]) (stS (nm 4) (bin addO (cst (.str (Str.ofString "@"))) (nm 5)) (nm 6)) (qs.map fun p => D.tup [.str p.1, .int p.2]) [s0, s1, s2, s3, .loc (.dic (enc m)), t5, t6] = .ok .next [s0, s1, s2, s3, .loc (.dic (enc (farA qs m))), t5', t6'] := by
    intro s0 s1 s2 s3 qs
    induction qs with
    | nil => exact fun m t5 t6 _ _ _ _ => ⟨t5, t6, by simp [loop_n, farA]⟩
    | cons q qs ih =>
      intro m t5 t6 hq hm f5 f6
      have ql := hq q (by simp)
      have ad := add_s (Str.ofString "@") q.1 (by have : (Str.ofString "@").length = 1 := rfl; omega)
      have st := enc_put m (atS q.1) q.2 (by simp at hm; omega)
      obtain ⟨u5, u6, e⟩ := ih (setA m (atS q.1) q.2) (.loc (.pure (.str q.1))) (.loc (.pure (.int q.2))) (fun p hp => hq p (List.mem_cons_of_mem _ hp)) (by have := set_len m (atS q.1) q.2; simp at hm; omega) (fre_d _) (fre_d _)
      refine ⟨u5, u6, ?_⟩
      rw [List.map_cons]
      have ef : farA (q :: qs) m = farA qs (setA m (atS q.1) q.2) := rfl
      rw [ef]
      generalize enc (farA qs (setA m (atS q.1) q.2)) = EF at *
      generalize enc (setA m (atS q.1) q.2) = E1 at *
      generalize enc m = E0 at *
      unfold atS at st
      clear ih hm hq ql ef
      walk_at "vi*"
  have di : dictO [.dic (enc (envA ps2 r2))] = some (.dic (enc (envA ps2 r2))) := rfl
  obtain ⟨u5, u6, e⟩ := key (.par S1) (.par S2) (.par (.pure (roomD r1))) (.par (.pure (roomD r2))) (envA ps1 r1) (envA ps2 r2) .un .un hok (by omega) fre_un fre_un
  rw [← its_enc] at e
  refine (c_values_of (n + 1) _).trans ((bodyC_a 4 3 _ _ rfl).trans ?_)
  generalize enc (envA ps1 r1) = E1 at *
  generalize enc (farA (envA ps1 r1) (envA ps2 r2)) = EF at *
  generalize enc (envA ps2 r2) = E2 at *
  generalize roomD r1 = R1 at *
  generalize roomD r2 = R2 at *
  clear key hok le l1 l2 mt
  unfold b_values_of
  rcases h1 with rfl | rfl <;> rcases h2 with rfl | rfl <;> walk_at "vi*"
abbrev tieO (t : S4) (tab : D) : List (Str × O) := [("saying", .pure (insS t)), ("table", .pure tab), ("falling", .pure (insD (.num 0)))]
theorem f_ti : ftOf FTl "Tie" "saying" = true ∧ ftOf FTl "Tie" "table" = true ∧ ftOf FTl "Tie" "falling" = true := ⟨by decide +kernel, by decide +kernel, by decide +kernel⟩
theorem tie_init (n : Nat) (t : S4) (tab : D) : callN (n + 1) 292 [.ins "Tie" [], .ins (scls t) (sfls t), .pure tab, .ins "Number" [("told", .pure (.int 0))]] = .ok (.pure .non) [.ins "Tie" (tieO t tab), .pure (insS t), .pure tab, .pure (insD (.num 0))] := by
  refine (c_Tie___init__ n _).trans ((bodyC_a 4 0 _ _ rfl).trans ?_)
  have f1 : fldC (ftOf FTl) "saying" (insS t) (.ins "Tie" []) = some (.ins "Tie" [("saying", .pure (insS t))]) := fldC_a _ _ _ _ _ f_ti.1 (by simp)
  have f2 : fldC (ftOf FTl) "table" tab (.ins "Tie" [("saying", .pure (insS t))]) = some (.ins "Tie" [("saying", .pure (insS t)), ("table", .pure tab)]) := fldC_a _ _ _ _ _ f_ti.2.1 (by simp)
  have f3 : fldC (ftOf FTl) "falling" (insD (.num 0)) (.ins "Tie" [("saying", .pure (insS t)), ("table", .pure tab)]) = some (.ins "Tie" (tieO t tab)) := fldC_a _ _ _ _ _ f_ti.2.2 (by simp)
  have fu := sfls_full t
  have er := sfls_er t
  have ie : D.ins "Number" [("told", .int 0)] = insD (.num 0) := rfl
  unfold b_Tie___init__
  walk_at "vi*"
theorem tied_spec (n : Nat) (ps1 ps2 : List PlaceT) (K1 D1 K2 D2 : List D) (S1 S2 : O) (h1 : SelfM S1 ps1 K1 D1) (h2 : SelfM S2 ps2 K2 D2) (r1 r2 : List Int) (l1 : ps1.length ≤ 100) (l2 : ps2.length ≤ 100) (hok : ∀ p ∈ envA ps1 r1, p.1.length ≤ 9) (le : (envA ps1 r1).length ≤ 100 ∧ (envA ps2 r2).length ≤ 100)
    (t : S4) (tab : D) (d : Nat) (hd : sdep t ≤ d) (F : FitS (enc (farA (envA ps1 r1) (envA ps2 r2))) (valA (farA (envA ps1 r1) (envA ps2 r2))) t) :
    callN (n + d + 3) 264 [S1, S2, .ins "Tie" (tieO t tab), .pure (roomD r1), .pure (roomD r2)] = .ok (.pure (.bl (hol (valA (farA (envA ps1 r1) (envA ps2 r2))) t))) [S1, S2, .ins "Tie" (tieO t tab), .pure (roomD r1), .pure (roomD r2)] := by
  have v := valuesof_spec (n + d) ps1 ps2 K1 D1 K2 D2 S1 S2 h1 h2 r1 r2 l1 l2 hok le
  have hs := holds_spec _ _ (Q := .dic (enc (farA (envA ps1 r1) (envA ps2 r2)))) (.inl rfl) t (n + d + 1) (.pure (insS t)) (by omega) F (.inl rfl)
  have a1 : atrF (ftOf FTl) "saying" (.ins "Tie" (tieO t tab)) = some (.pure (insS t)) := atr_i _ _ _ _ _ f_ti.1 rfl
  have mh1 := mh t
  refine (c_tied (n + d + 2) _).trans ((bodyC_a 5 0 _ _ rfl).trans ?_)
  generalize hol (valA (farA (envA ps1 r1) (envA ps2 r2))) t = hv at *
  generalize enc (farA (envA ps1 r1) (envA ps2 r2)) = E1 at *
  generalize roomD r1 = R1 at *
  generalize roomD r2 = R2 at *
  generalize tieO t tab = TT at *
  generalize insS t = it at *
  clear hok le l1 l2 F hd
  unfold b_tied
  rcases h1 with rfl | rfl <;> rcases h2 with rfl | rfl <;> walk_at "vi*"
theorem owntie_spec (n : Nat) (ps : List PlaceT) (K : List D) (L : List DeedT) (hN : ∀ s ∈ ps.map PlaceT.nm, NameOk s) (hl : ps.length ≤ 3) (hL : L.length ≤ 100) :
    callN (n + 7) 463 [.ins "Machine" (mcO ps K (L.map insDe))] = .ok (.ins "Tie" (tieO (alike (ps.map PlaceT.nm)) (.tup (L.map fun d => .tup [.str d.called, .str d.called])))) [.ins "Machine" (mcO ps K (L.map insDe))] := by
  have a1 : atrF (ftOf FTl) "places" (.ins "Machine" (mcO ps K (L.map insDe))) = some (.pure (.tup (ps.map plD))) := atr_i _ _ _ _ _ f_mc.1 rfl
  have a2 : atrF (ftOf FTl) "deeds" (.ins "Machine" (mcO ps K (L.map insDe))) = some (.pure (.tup (L.map insDe))) := atr_i _ _ _ _ _ f_mc.2.2 rfl
  obtain ⟨t2, f2, e1⟩ := comp_map (own := [2]) (t := nmT 2) (cond := fun g => .ok true g) (elt := bin ixO (nm 2) (cst (.int 0))) (fun s : Slot => [.par (.ins "Machine" (mcO ps K (L.map insDe))), .un, s, .un]) Fre plD (fun p => D.str p.nm) ps (fun p hp s hs => by
    have i0 : ixO (.pure (plD p)) (.pure (.int 0)) = some (.pure (.str p.nm)) := ix_t0
    refine ⟨.loc (.pure (plD p)), fre_d _, ?_⟩
    generalize plD p = pp at *
    generalize mcO ps K (L.map insDe) = MC at *
    clear hp a1 a2 hN hl hL
    walk_at "vi*") [] (by simp; omega) .un fre_un
  rw [show ps.map (fun p => D.str p.nm) = (ps.map PlaceT.nm).map D.str by rw [List.map_map]; rfl] at e1
  simp only [List.nil_append] at e1
  obtain ⟨t3, f3, e2⟩ := comp_map (own := [3]) (t := nmT 3) (cond := fun g => .ok true g) (elt := tupE (evs [(attrE (ftOf FTl) (Str.ofString "called") (nm 3)), (attrE (ftOf FTl) (Str.ofString "called") (nm 3))])) (fun s : Slot => [.par (.ins "Machine" (mcO ps K (L.map insDe))), .loc (.lst ((ps.map PlaceT.nm).map D.str)), .un, s]) Fre insDe (fun d => D.tup [.str d.called, .str d.called]) L (fun d hd s hs => by
    have dc := de_called d
    refine ⟨.loc (.pure (insDe d)), fre_d _, ?_⟩
    generalize insDe d = dd at *
    generalize mcO ps K (L.map insDe) = MC at *
    clear hd a1 a2 hN hl hL e1
    walk_at "vi*") [] (by simp; omega) .un fre_un
  simp only [List.nil_append] at e2
  have tp := tup_l1 (L.map fun d => D.tup [.str d.called, .str d.called])
  have al := alike_spec n (ps.map PlaceT.nm) 3 (by simpa using hl) hN
  have ni := num_init (n + 5) 0
  have ti := tie_init (n + 5) (alike (ps.map PlaceT.nm)) (.tup (L.map fun d => .tup [.str d.called, .str d.called]))
  refine (c_own_tie (n + 6) _).trans ((bodyC_a 1 3 _ _ rfl).trans ?_)
  generalize tieO (alike (ps.map PlaceT.nm)) (.tup (L.map fun d => .tup [.str d.called, .str d.called])) = TO at *
  generalize (L.map fun d => D.tup [.str d.called, .str d.called]) = TB at *
  generalize mcO ps K (L.map insDe) = MC at *
  generalize insS (alike (ps.map PlaceT.nm)) = ia at *
  generalize sfls (alike (ps.map PlaceT.nm)) = fa at *
  generalize scls (alike (ps.map PlaceT.nm)) = ca at *
  generalize (ps.map PlaceT.nm).map D.str = NM at *
  generalize insD (.num 0) = n0 at *
  generalize ps.map plD = PS at *
  generalize L.map insDe = DI at *
  clear hN hl hL
  unfold b_own_tie
  walk_at "vi*"
def stp (t x : Str) : Str := Str.ofString "[ @" ++ x ++ Str.ofString " = " ++ x ++ Str.ofString " and " ++ t ++ Str.ofString " ]"
def txt0 (z : Str) : Str := Str.ofString "@" ++ z ++ Str.ofString " = " ++ z
theorem lt1 : Str.ofString " = " = Str.ofString " " ++ Str.ofString "=" ++ Str.ofString " " ∧ Str.ofString "[ @" = Str.ofString "[ " ++ Str.ofString "@" := ⟨by decide +kernel, by decide +kernel⟩
theorem sh_eqN (z : Str) : shS (eqN z) = txt0 z := by
  have : csg .eq = Str.ofString "=" := rfl
  simp only [eqN, shS, shT, txt0, atS, this, lt1.1, Str.append_assoc]
theorem alike_cons (x : Str) {l : List Str} (h : l ≠ []) : alike (x :: l) = .both (eqN x) (alike l) := by
  cases l with
  | nil => exact absurd rfl h
  | cons y r => rfl
theorem stp_eq (x : Str) (s : S4) : stp (shS s) x = shS (.both (eqN x) s) := by
  rw [shS, sh_eqN]
  simp only [stp, txt0, lt1.2, Str.append_assoc]
theorem alike_text (z : Str) : ∀ xs : List Str, xs.reverse.foldl stp (txt0 z) = shS (alike (xs ++ [z]))
  | [] => (sh_eqN z).symm
  | x :: xs => by
    rw [List.reverse_cons, List.foldl_append, alike_text z xs, List.cons_append, alike_cons x (by simp)]
    exact stp_eq x _
theorem tx_len : (Str.ofString "[ @").length = 3 ∧ (Str.ofString " = ").length = 3 ∧ (Str.ofString " and ").length = 5 ∧ (Str.ofString " ]").length = 2 ∧ (Str.ofString "@").length = 1 := ⟨rfl, rfl, rfl, rfl, rfl⟩
theorem text_loop (s0 : Slot) : ∀ (rs : List Str) (t : Str) (t2 : Slot), (∀ x ∈ rs, x.length ≤ 9) → t.length + 60 * rs.length ≤ 10000 → Fre t2 → ∃ t2' : Slot,
    loopS (nmT 2) (asgS 1 (bin addO (bin addO (bin addO (bin addO (bin addO (bin addO (cst (.str (Str.ofString "[ @"))) (nm 2)) (cst (.str (Str.ofString " = ")))) (nm 2)) (cst (.str (Str.ofString " and ")))) (nm 1)) (cst (.str (Str.ofString " ]"))))) (rs.map D.str) [s0, .loc (.pure (.str t)), t2] = .ok .next [s0, .loc (.pure (.str (rs.foldl stp t))), t2']
  | [], t, t2, h, hl, f => ⟨t2, by simp [loop_n]⟩
  | x :: rs, t, t2, h, hl, f => by
    have xl := h x (by simp)
    have ls : (stp t x).length = t.length + 2 * x.length + 13 := by
      unfold stp
      rw [len_app, len_app, len_app, len_app, len_app, len_app, tx_len.1, tx_len.2.1, tx_len.2.2.1, tx_len.2.2.2.1]
      omega
    simp only [List.length_cons] at hl
    have p1 := add_s (Str.ofString "[ @") x (by rw [tx_len.1]; omega)
    have p2 := add_s (Str.ofString "[ @" ++ x) (Str.ofString " = ") (by rw [len_app, tx_len.1, tx_len.2.1]; omega)
    have p3 := add_s (Str.ofString "[ @" ++ x ++ Str.ofString " = ") x (by rw [len_app, len_app, tx_len.1, tx_len.2.1]; omega)
    have p4 := add_s (Str.ofString "[ @" ++ x ++ Str.ofString " = " ++ x) (Str.ofString " and ") (by rw [len_app, len_app, len_app, tx_len.1, tx_len.2.1, tx_len.2.2.1]; omega)
    have p5 := add_s (Str.ofString "[ @" ++ x ++ Str.ofString " = " ++ x ++ Str.ofString " and ") t (by rw [len_app, len_app, len_app, len_app, tx_len.1, tx_len.2.1, tx_len.2.2.1]; omega)
    have p6 := add_s (Str.ofString "[ @" ++ x ++ Str.ofString " = " ++ x ++ Str.ofString " and " ++ t) (Str.ofString " ]") (by rw [len_app, len_app, len_app, len_app, len_app, tx_len.1, tx_len.2.1, tx_len.2.2.1, tx_len.2.2.2.1]; omega)
    obtain ⟨t2', e⟩ := text_loop s0 rs (stp t x) (.loc (.pure (.str x))) (fun y hy => h y (List.mem_cons_of_mem _ hy)) (by omega) (fre_d _)
    refine ⟨t2', ?_⟩
    rw [List.map_cons]
    have ef : (x :: rs).foldl stp t = rs.foldl stp (stp t x) := rfl
    rw [ef]
    have es : stp t x = Str.ofString "[ @" ++ x ++ Str.ofString " = " ++ x ++ Str.ofString " and " ++ t ++ Str.ofString " ]" := rfl
    generalize rs.foldl stp (stp t x) = F at *
    rw [es] at e
    generalize Str.ofString "[ @" ++ x ++ Str.ofString " = " ++ x ++ Str.ofString " and " ++ t ++ Str.ofString " ]" = w6 at *
    generalize Str.ofString "[ @" ++ x ++ Str.ofString " = " ++ x ++ Str.ofString " and " ++ t = w5 at *
    generalize Str.ofString "[ @" ++ x ++ Str.ofString " = " ++ x ++ Str.ofString " and " = w4 at *
    clear h hl xl ls ef es
    walk_at "vi*"
theorem text8_spec (n : Nat) (N : List Str) (hok : ∀ x ∈ N, NameOk x) (hl : N.length ≤ 3) : callN (n + 1) 464 [.lst (N.map D.str)] = .ok (.pure (.str (shS (alike N)))) [.lst (N.map D.str)] := by
  have e0 := eq_strs0 N fun y hy => (hok y hy).strOk
  refine (c__law_text_v8 n _).trans ((bodyC_a 1 2 _ _ rfl).trans ?_)
  rcases List.eq_nil_or_concat N with rfl | ⟨xs, z, hc⟩
  · simp only [List.map_nil, List.isEmpty_nil, alike, shS] at *
    clear hok hl
    unfold b__law_text_v8
    walk_at "vi*"
  · rw [List.concat_eq_append] at hc
    subst hc
    have hz := (hok z (by simp)).le
    have i1 : ixO (.lst ((xs ++ [z]).map D.str)) (.pure (.int (-1))) = some (.pure (.str z)) := by
      rw [ix_l, List.map_append, List.map_cons, List.map_nil, atI_last]; rfl
    have ng : negO (.pure (.int 1)) = some (.pure (.int (-1))) := rfl
    have ct : slO none (some (-1)) (.lst ((xs ++ [z]).map D.str)) = some (.lst (xs.map D.str)) := by
      show some (O.lst (cutL ((xs ++ [z]).map D.str) none (some (-1)))) = _
      have : cutL ((xs ++ [z]).map D.str) none (some (-1)) = xs.map D.str := by
        unfold cutL
        simp [HT.sIx]
        have e9 : (-1 + ((xs.length : Int) + 1)).toNat = xs.length := by omega
        rw [e9]
        exact List.take_left' (by simp)
      rw [this]
    have rv : revO (.lst (xs.map D.str)) = some (.lst (xs.reverse.map D.str)) := by rw [List.map_reverse]; rfl
    have lz : (txt0 z).length ≤ 30 := by unfold txt0; rw [len_app, len_app, len_app, tx_len.2.1, tx_len.2.2.2.2]; omega
    have p1 := add_s (Str.ofString "@") z (by rw [tx_len.2.2.2.2]; omega)
    have p2 := add_s (Str.ofString "@" ++ z) (Str.ofString " = ") (by rw [len_app, tx_len.2.2.2.2, tx_len.2.1]; omega)
    have p3 := add_s (Str.ofString "@" ++ z ++ Str.ofString " = ") z (by rw [len_app, len_app, tx_len.2.2.2.2, tx_len.2.1]; omega)
    obtain ⟨t2', e⟩ := text_loop (.par (.lst ((xs ++ [z]).map D.str))) xs.reverse (txt0 z) .un (fun x hx => by have := (hok x (by simp at hx; simp [hx])).le; omega) (by simp at hl ⊢; omega) fre_un
    rw [alike_text] at e
    have es : txt0 z = Str.ofString "@" ++ z ++ Str.ofString " = " ++ z := rfl
    rw [es] at e
    have ne : (xs ++ [z]).isEmpty = false := by simp
    rw [ne] at e0
    generalize shS (alike (xs ++ [z])) = R at *
    generalize Str.ofString "@" ++ z ++ Str.ofString " = " ++ z = w3 at *
    generalize (xs ++ [z]).map D.str = XZ at *
    generalize xs.reverse.map D.str = RX at *
    generalize xs.map D.str = XS at *
    clear hok hl hz lz es ne
    unfold b__law_text_v8
    walk_at "vi*"
theorem alike_dep : ∀ N : List Str, sdep (alike N) ≤ N.length
  | [] => by simp [alike, sdep]
  | [x] => by simp [alike, sdep, dep]
  | x :: y :: r => by
    have := alike_dep (y :: r)
    simp only [alike, sdep, dep, List.length_cons] at *
    omega
theorem alike_ssz : ∀ N : List Str, ssz (alike N) ≤ 10 * N.length + 10
  | [] => by simp [alike, ssz]
  | [x] => by simp [alike, ssz, siz]
  | x :: y :: r => by
    have := alike_ssz (y :: r)
    simp only [alike, ssz, siz, List.length_cons] at *
    omega
theorem at_ok {x : Str} (h : NameOk x) : (atS x).length ≤ 9 ∧ PyData.strOk (atS x) = true := by
  have := h.le
  refine ⟨by unfold atS; rw [len_app, tx_len.2.2.2.2]; omega, ok_app (by decide +kernel) h.strOk⟩
theorem eqN_tx {x : Str} (h : NameOk x) : TxS (eqN x) := ⟨at_ok h, by have := h.le; omega, h.strOk⟩
theorem alike_tx : ∀ {N : List Str}, (∀ x ∈ N, NameOk x) → TxS (alike N)
  | [], _ => trivial
  | [x], h => eqN_tx (h x (by simp))
  | x :: y :: r, h => ⟨eqN_tx (h x (by simp)), alike_tx (N := y :: r) fun z hz => h z (List.mem_cons_of_mem _ hz)⟩
theorem tieright_spec (n : Nat) (ps : List PlaceT) (L : List DeedT) (M : MachOk ps L) (hN : ∀ s ∈ ps.map PlaceT.nm, NameOk s) :
    callN (n + 12) 465 [.ins "Machine" (mcO ps [] (L.map insDe)), .pure (.tup (ps.map plD)), .pure (.tup (L.map deD)), .ins "Tie" (tieO (alike (ps.map PlaceT.nm)) (.tup (L.map fun d => .tup [.str d.called, .str d.called])))] =
      .ok (.pure (.bl true)) [.ins "Machine" (mcO ps [] (L.map insDe)), .pure (.tup (ps.map plD)), .pure (.tup (L.map deD)), .ins "Tie" (tieO (alike (ps.map PlaceT.nm)) (.tup (L.map fun d => .tup [.str d.called, .str d.called])))] := by
  have hl := M.pl
  have hL := M.dl
  obtain ⟨N, hNN⟩ : ∃ N, ps.map PlaceT.nm = N := ⟨_, rfl⟩
  have hNl : N.length ≤ 3 := by rw [← hNN]; simpa using hl
  rw [hNN] at hN
  have ad := alike_dep N
  have az := alike_ssz N
  have x1 := sshown_spec (alike N) (n + 10) (.pure (insS (alike N))) (by omega) (by omega) (alike_tx hN) (.inl rfl)
  have ms := mssh (S := .pure (insS (alike N))) (t := alike N) (.inl rfl)
  have tx := text8_spec (n + 10) N hN hNl
  obtain ⟨TB, hTB⟩ : ∃ T, (L.map fun d => D.tup [.str d.called, .str d.called]) = T := ⟨_, rfl⟩
  have a1 : atrF (ftOf FTl) "saying" (.ins "Tie" (tieO (alike N) (.tup TB))) = some (.pure (insS (alike N))) := atr_i _ _ _ _ _ f_ti.1 rfl
  have a2 : atrF (ftOf FTl) "table" (.ins "Tie" (tieO (alike N) (.tup TB))) = some (.pure (.tup TB)) := atr_i _ _ _ _ _ f_ti.2.1 rfl
  have a3 : atrF (ftOf FTl) "falling" (.ins "Tie" (tieO (alike N) (.tup TB))) = some (.pure (insD (.num 0))) := atr_i _ _ _ _ _ f_ti.2.2 rfl
  have ic : isiC ITl [.ins "Tie" (tieO (alike N) (.tup TB)), .pure (.cls (Str.ofString "Tie"))] = some (.pure (.bl true)) := by
    have h1 : itOf ITl (Str.ofString "Tie") (Str.ofString "Tie") = some true := by decide +kernel
    have : isiC ITl [.ins "Tie" (tieO (alike N) (.tup TB)), .pure (.cls (Str.ofString "Tie"))] = (itOf ITl (Str.ofString "Tie") (Str.ofString "Tie")).map fun b => .pure (.bl b) := rfl
    rw [this, h1]; rfl
  obtain ⟨t5, f5, e1⟩ := comp_map (own := [5]) (t := nmT 5) (cond := fun g => .ok true g) (elt := bin ixO (nm 5) (cst (.int 0))) (fun s : Slot => [.par (.ins "Machine" (mcO ps [] (L.map insDe))), .par (.pure (.tup (ps.map plD))), .par (.pure (.tup (L.map deD))), .par (.ins "Tie" (tieO (alike N) (.tup TB))), .un, s, .un]) Fre plD (fun p => D.str p.nm) ps (fun p hp s hs => by
    have i0 : ixO (.pure (plD p)) (.pure (.int 0)) = some (.pure (.str p.nm)) := ix_t0
    refine ⟨.loc (.pure (plD p)), fre_d _, ?_⟩
    generalize plD p = pp at *
    generalize ps.map plD = PS at *
    generalize L.map deD = LD at *
    generalize mcO ps [] (L.map insDe) = MC at *
    generalize tieO (alike N) (.tup TB) = TO at *
    clear hp x1 ms tx a1 a2 a3 ic M hN hl hL hNN hNl ad az hTB
    walk_at "vi*") [] (by simp; omega) .un fre_un
  rw [show ps.map (fun p => D.str p.nm) = N.map D.str by rw [← hNN, List.map_map]; rfl] at e1
  simp only [List.nil_append] at e1
  obtain ⟨t6, f6, e2⟩ := comp_map (own := [6]) (t := nmT 6) (cond := fun g => .ok true g) (elt := tupE (evs [(bin ixO (nm 6) (cst (.int 0))), (bin ixO (nm 6) (cst (.int 0)))])) (fun s : Slot => [.par (.ins "Machine" (mcO ps [] (L.map insDe))), .par (.pure (.tup (ps.map plD))), .par (.pure (.tup (L.map deD))), .par (.ins "Tie" (tieO (alike N) (.tup TB))), .un, .un, s]) Fre deD (fun d => D.tup [.str d.called, .str d.called]) L (fun d hd s hs => by
    have i0 : ixO (.pure (deD d)) (.pure (.int 0)) = some (.pure (.str d.called)) := ix_t0
    refine ⟨.loc (.pure (deD d)), fre_d _, ?_⟩
    generalize deD d = dd at *
    generalize ps.map plD = PS at *
    generalize L.map deD = LD at *
    generalize mcO ps [] (L.map insDe) = MC at *
    generalize tieO (alike N) (.tup TB) = TO at *
    clear hd x1 ms tx a1 a2 a3 ic M hN hl hL hNN hNl ad az hTB e1
    walk_at "vi*") [] (by simp; omega) .un fre_un
  rw [hTB] at e2
  simp only [List.nil_append] at e2
  have nt : neO (.lst TB) (.lst TB) = some (.pure (.bl false)) := by
    have p : Pl 64 (.lst TB) := pl_lst (n := 63) fun x hx => by
      rw [← hTB] at hx
      obtain ⟨d, hd, rfl⟩ := List.mem_map.mp hx
      have ok := (M.dok d hd).called.strOk
      refine pl_le (pl_tup (n := 0) fun y hy => ?_) (by omega)
      have : y = .str d.called := by simpa using hy
      rw [this]; exact pl_str _ _ ok
    rw [neO_pl (a := .lst TB) (b := .lst TB) rfl rfl rfl rfl p p]; simp
  have it : isiO [.pure (.tup TB), .pure (.ty "tuple")] = some (.pure (.bl true)) := rfl
  have nx := nes_f (shS (alike N))
  have fs := first_spec (n + 10) ps hl [] (L.map insDe)
  have vi : callN (n + 11) 165 [.ins "Machine" (mcO ps [] (L.map insDe)), .pure (roomD (ps.map PlaceT.st))] = .ok (.dic (enc (envA ps (ps.map PlaceT.st)))) [.ins "Machine" (mcO ps [] (L.map insDe)), .pure (roomD (ps.map PlaceT.st))] := valinS (n + 10) ps [] (L.map insDe) _ (.inl rfl) (ps.map PlaceT.st) (by omega)
  have mv : methG (mtOf MTl 2) "values_in" (.ins "Machine" (mcO ps [] (L.map insDe))) = some 165 := (methG_i _ _ _ _ rfl).trans (by decide +kernel)
  have mf : methG (mtOf MTl 1) "first" (.ins "Machine" (mcO ps [] (L.map insDe))) = some 164 := (methG_i _ _ _ _ rfl).trans (by decide +kernel)
  obtain ⟨m, hm⟩ : ∃ m, envA ps (ps.map PlaceT.st) = m := ⟨_, rfl⟩
  rw [hm] at vi
  have wo := worth_spec (enc m) (valA m) (Q := .dic (enc m)) (.inl rfl) (.num 0) (n + 10) (.pure (insD (.num 0))) (by simp [dep]) (by simp [siz]) (show (0 : Int).natAbs < 2 ^ 102 by decide) (.inl rfl)
  have mw0 := mw (.num 0)
  have sh0 := shown_spec (.num 0) (n + 10) (.pure (insD (.num 0))) (by simp [dep]) (by simp [siz]) (show TxT (.num 0) from ⟨by omega, by omega⟩) (.inl rfl)
  have ms0 := msh (S := .pure (insD (.num 0))) (t := .num 0) (.inl rfl)
  have ws := whole_spec (n + 10) 0
  have v0 : val (valA m) (.num 0) = 0 := rfl
  have t0 : shT (.num 0) = Str.ofString "0" := nums.1
  rw [v0] at wo
  rw [t0] at sh0
  have e00 := eqs_t (Str.ofString "0")
  have ez := eq_ii 0
  refine (c__law_tie_right (n + 11) _).trans ((bodyC_a 4 3 _ _ rfl).trans ?_)
  rw [hNN, hTB]
  generalize shS (alike N) = SH at *
  generalize tieO (alike N) (.tup TB) = TO at *
  generalize insS (alike N) = iS at *
  generalize insD (.num 0) = i0 at *
  generalize enc m = em at *
  generalize roomD (ps.map PlaceT.st) = R0 at *
  generalize mcO ps [] (L.map insDe) = MC at *
  generalize ssF (alike N) = fS at *
  generalize wf (.num 0) = fW at *
  generalize shF (.num 0) = fH at *
  generalize N.map D.str = NM at *
  generalize ps.map plD = PS at *
  generalize L.map deD = LD at *
  clear M hN hl hL hNN hNl ad az hTB hm v0 t0
  unfold b__law_tie_right
  walk_at "vi*"
theorem hol_alike (m : Str → Int) : ∀ N : List Str, hol m (alike N) = N.all fun x => decide (m (atS x) = m x)
  | [] => rfl
  | [x] => by
    rw [List.all_cons, List.all_nil, Bool.and_true]
    rfl
  | x :: y :: r => by
    have := hol_alike m (y :: r)
    rw [alike, hol, this, List.all_cons]
    rfl
theorem names_eq {ps : List PlaceT} {a b : List Int} (nd : (ps.map PlaceT.nm).Nodup) (la : a.length = ps.length) (lb : b.length = ps.length) : ((ps.map PlaceT.nm).all fun x => decide (valA (envA ps a) x = valA (envA ps b) x)) = decide (a = b) := by
  by_cases h : a = b
  · subst h
    simp
  · rw [decide_eq_false h, ← Bool.not_eq_true, List.all_eq_true]
    intro q
    apply h
    refine List.ext_getElem (by omega) fun i h1 h2 => ?_
    have hp : i < ps.length := by omega
    have z1 : (ps[i], a[i]) ∈ ps.zip a := by
      have h3 : i < (ps.zip a).length := by simp; omega
      have := List.getElem_mem h3
      rwa [List.getElem_zip] at this
    have z2 : (ps[i], b[i]) ∈ ps.zip b := by
      have h3 : i < (ps.zip b).length := by simp; omega
      have := List.getElem_mem h3
      rwa [List.getElem_zip] at this
    have e := q ps[i].nm (List.mem_map_of_mem (List.getElem_mem hp))
    rw [decide_eq_true_eq] at e
    have e1 := env_at la nd z1
    have e2 := env_at lb nd z2
    simp only at e1 e2
    rw [← e1, ← e2, e]
theorem all_congr {α : Type} {l : List α} {p q : α → Bool} (h : ∀ x ∈ l, p x = q x) : l.all p = l.all q := by
  induction l with
  | nil => rfl
  | cons x l ih => rw [List.all_cons, List.all_cons, h x (by simp), ih fun y hy => h y (List.mem_cons_of_mem _ hy)]
section
variable {ps : List PlaceT} (nd : (ps.map PlaceT.nm).Nodup) (hN : ∀ s ∈ ps.map PlaceT.nm, NameOk s) {a b : List Int} (ra : RoomOk ps a) (rb : RoomOk ps b)
include nd hN ra rb
theorem tie_hol : hol (valA (farA (envA ps a) (envA ps b))) (alike (ps.map PlaceT.nm)) = decide (a = b) := by
  rw [hol_alike, ← names_eq nd ra.1 rb.1]
  refine all_congr fun x hx => ?_
  have k1 := envA_eq ra.1 nd
  rw [farA_at _ _ x (by rw [k1]; exact nd) (by rw [k1]; exact hx), farA_val _ _ x fun p hp => at_ne (hN x hx)]
theorem tie_fit : FitS (enc (farA (envA ps a) (envA ps b))) (valA (farA (envA ps a) (envA ps b))) (alike (ps.map PlaceT.nm)) := by
  have g2 := (env_ok rb.1 rb.2).good
  obtain ⟨K', g, h1, h2⟩ := farA_good (envA ps a) (envA ps b) _ g2 (envA_bd ra.1 ra.2)
  have one : ∀ x ∈ ps.map PlaceT.nm, FitS (enc (farA (envA ps a) (envA ps b))) (valA (farA (envA ps a) (envA ps b))) (eqN x) := fun x hx => by
    have kx : atS x ∈ K' := by
      have : x ∈ (envA ps a).map (·.1) := by rw [envA_eq ra.1 nd]; exact hx
      obtain ⟨p, hp, rfl⟩ := List.mem_map.mp this
      exact h2 p hp
    exact ⟨look_enc (g.has _ kx) g.bd, look_enc (g.has _ (h1 x hx)) g.bd, by simp [siz], by simp [siz]⟩
  have all : ∀ N : List Str, (∀ x ∈ N, x ∈ ps.map PlaceT.nm) → FitS (enc (farA (envA ps a) (envA ps b))) (valA (farA (envA ps a) (envA ps b))) (alike N) := fun N => by
    induction N with
    | nil => intro _; trivial
    | cons x r ih =>
      intro h
      cases r with
      | nil => exact one x (h x (by simp))
      | cons y r => exact ⟨one x (h x (by simp)), ih fun z hz => h z (List.mem_cons_of_mem _ hz)⟩
  exact all _ fun x hx => hx
end
theorem tied_own (ps : List PlaceT) (DI : List D) (M1 : (ps.map PlaceT.nm).Nodup) (hl : ps.length ≤ 3) (hN : ∀ s ∈ ps.map PlaceT.nm, NameOk s) (a b : List Int) (ra : RoomOk ps a) (rb : RoomOk ps b) (tab : D) :
    callN 29 264 [.pure (.ins "Machine" (mcF ps [] DI)), .pure (.ins "Machine" (mcF ps [] DI)), .ins "Tie" (tieO (alike (ps.map PlaceT.nm)) tab), .pure (roomD a), .pure (roomD b)] =
      .ok (.pure (.bl (decide (a = b)))) [.pure (.ins "Machine" (mcF ps [] DI)), .pure (.ins "Machine" (mcF ps [] DI)), .ins "Tie" (tieO (alike (ps.map PlaceT.nm)) tab), .pure (roomD a), .pure (roomD b)] := by
  have k1 := envA_eq ra.1 M1
  have k2 := envA_eq rb.1 M1
  have l1 : (envA ps a).length = ps.length := by have := congrArg List.length k1; simpa using this
  have l2 : (envA ps b).length = ps.length := by have := congrArg List.length k2; simpa using this
  have := tied_spec 23 ps ps [] DI [] DI _ _ (.inr rfl) (.inr rfl) a b (by omega) (by omega) (fun p hp => by
    have : p.1 ∈ ps.map PlaceT.nm := by rw [← k1]; exact List.mem_map_of_mem hp
    have := (hN _ this).le
    omega) (by omega) (alike (ps.map PlaceT.nm)) tab 3 (by have := alike_dep (ps.map PlaceT.nm); simp at this; omega) (tie_fit M1 hN ra rb)
  rw [tie_hol M1 hN ra rb] at this
  exact this
theorem bent_ok {ps : List PlaceT} (hok : ∀ p ∈ ps, PlaceOk p) {a : List Int} (ra : RoomOk ps a) {k : Nat} (hk : k < ps.length) {v : Int} (hv : v.natAbs ≤ 100) : RoomOk ps (a.take k ++ [v] ++ a.drop (k + 1)) := by
  have la := ra.1
  refine ⟨by simp; omega, fun x hx => ?_⟩
  rcases List.mem_append.mp hx with q | q
  · rcases List.mem_append.mp q with q | q
    · exact ra.2 x (List.mem_of_mem_take q)
    · have : x = v := by simpa using q
      rw [this]; exact hv
  · exact ra.2 x (List.mem_of_mem_drop q)
abbrev k62B (C : Callee) : S := (seqS (asgS 10 (callA C 122 [(nm 0), (bin addO (cst (.int 40)) (nm 9))])) (seqS (asgS 11 (callA C 160 [(nm 2), (nm 10)])) (seqS (asgS 12 (nm 11)) (seqS (ifS (andT (blT (bin gtO (bin modO (nm 10) (cst (.int 3))) (cst (.int 0)))) (blT (bin gtO (bltE lenO [(nm 2)]) (cst (.int 0))))) (seqS (asgS 13 (bin modO (bin fdivO (nm 10) (cst (.int 3))) (bltE lenO [(nm 2)]))) (seqS (setS (tupT [(nmT 14), (nmT 15), (nmT 16), (nmT 17)]) (bin ixO (nm 2) (nm 13))) (seqS (asgS 18 (bin addO (nm 15) (bin modO (bin fdivO (nm 10) (cst (.int 9))) (bin addO (bin subO (nm 16) (nm 15)) (cst (.int 1)))))) (asgS 12 (bin addO (bin addO (slE (nm 11) noE (intE (nm 13))) (tupE (evs [(nm 18)]))) (slE (nm 11) (intE (bin addO (nm 13) (cst (.int 1)))) noE)))))) nextS) (seqS (asgS 19 (callA C 264 [(frzE 4), (frzE 4), (nm 5), (nm 11), (nm 12)])) (ifS (orT (notT (truT (bltE isiO [(nm 19), (cst (.ty "bool"))]))) (blT (bin neO (nm 19) (bin eqO (nm 11) (nm 12))))) (retS (cst (.bl false))) nextS))))))
theorem tup_room (r : List Int) (k : Nat) (h : k ≤ r.length) : slO none (some (k : Int)) (.pure (roomD r)) = some (.pure (roomD (r.take k))) ∧ slO (some (k : Int)) none (.pure (roomD r)) = some (.pure (roomD (r.drop k))) := by
  unfold roomD
  refine ⟨?_, ?_⟩
  · show some (O.pure (.tup (cutL (r.map D.int) none (some (k : Int))))) = _
    rw [cut_to _ k (by simpa using h), List.map_take]
  · show some (O.pure (.tup (cutL (r.map D.int) (some (k : Int)) none))) = _
    rw [cut_from _ k (by simpa using h), List.map_drop]
theorem eq_room (a b : List Int) : eqO (.pure (roomD a)) (.pure (roomD b)) = some (.pure (.bl (decide (a = b)))) := by
  have pa := pl_le (pl_room a) (show 1 ≤ 64 by omega)
  have pb := pl_le (pl_room b) (show 1 ≤ 64 by omega)
  rw [eqO_pl (a := roomD a) (b := roomD b) rfl rfl rfl rfl pa pb]
  have : (roomD a = roomD b) ↔ a = b := by
    unfold roomD
    constructor
    · intro h
      injection h with h
      exact (List.map_inj_right fun x y q => by injection q).mp h
    · intro h; rw [h]
  rw [decide_eq_decide.mpr this]
theorem k62_loop (ns : List Int) (hl : ns.length ≤ 63) (hd : Int) (ps : List PlaceT) (DS DI : List D) (pl3 : ps.length ≤ 3) (nd : (ps.map PlaceT.nm).Nodup) (ok : ∀ p ∈ ps, PlaceOk p) (hN : ∀ s ∈ ps.map PlaceT.nm, NameOk s) (tab : D) (s6 s7 s8 s20 : Slot) : ∀ (ks : List Nat), (∀ k ∈ ks, k < 6) → ∀ (t4 t9 t10 t11 t12 t13 t14 t15 t16 t17 t18 t19 : Slot),
    (t4 = .loc (.ins "Machine" (mcO ps [] DI)) ∨ t4 = .loc (.pure (.ins "Machine" (mcF ps [] DI)))) → Fre t9 → Fre t10 → Fre t11 → Fre t12 → Fre t13 → Fre t14 → Fre t15 → Fre t16 → Fre t17 → Fre t18 → Fre t19 → ∃ g' : G,
    loopS (nmT 9) (k62B (callN 29)) (ks.map fun k : Nat => D.int (k : Int)) [.par (.pure (.lst (ns.map D.int))), .loc (.pure (.int hd)), .loc (.pure (.tup (ps.map plD))), .loc (.pure (.tup DS)), t4, .loc (.ins "Tie" (tieO (alike (ps.map PlaceT.nm)) tab)), s6, s7, s8, t9, t10, t11, t12, t13, t14, t15, t16, t17, t18, t19, s20] =
      .ok .next ([.par (.pure (.lst (ns.map D.int)))] ++ g')
  | [], _, t4, t9, t10, t11, t12, t13, t14, t15, t16, t17, t18, t19, h4, f9, f10, f11, f12, f13, f14, f15, f16, f17, f18, f19 => ⟨_, by simp only [List.map_nil, loop_n]; rfl⟩
  | k :: ks, hk, t4, t9, t10, t11, t12, t13, t14, t15, t16, t17, t18, t19, h4, f9, f10, f11, f12, f13, f14, f15, f16, f17, f18, f19 => by
    have hk1 := hk k (by simp)
    have sp := ce_spec 28 ns (40 + (k : Int)) (by omega) (by omega) hl
    obtain ⟨c, hc⟩ : ∃ c, lawCe ns (40 + (k : Int)) = c := ⟨_, rfl⟩
    rw [hc] at sp
    obtain ⟨rm, r1, r2, r3⟩ := room2_spec 27 ps ok (by omega) c
    have rk : RoomOk ps rm := ⟨r1, r2.mem_all fun p hp v hv => by
      have := ok p hp
      have h1 := this.lo; have h2 := this.st; have h3 := this.hi; have h4 := this.top
      omega⟩
    have fu := mc_full ps [] DI
    have er := mc_er ps [] DI
    have lp : lenO [.pure (.tup (ps.map plD))] = some (.pure (.int (ps.length : Int))) := by simp [lenO, elemsO]
    have ih := k62_loop ns hl hd ps DS DI pl3 nd ok hN tab s6 s7 s8 s20 ks (fun x hx => hk x (List.mem_cons_of_mem _ hx)) (.loc (.pure (.ins "Machine" (mcF ps [] DI))))
    rw [List.map_cons]
    by_cases hA : c % 3 > 0 ∧ 0 < ps.length
    · obtain ⟨g1, g2⟩ := hA
      have h1 : gtO (.pure (.int (c % 3))) (.pure (.int 0)) = some (.pure (.bl true)) := by rw [gt_i, decide_eq_true (by omega)]
      have h2 : gtO (.pure (.int (ps.length : Int))) (.pure (.int 0)) = some (.pure (.bl true)) := by rw [gt_i, decide_eq_true (by omega)]
      obtain ⟨at', ha, ha2⟩ : ∃ a : Nat, c / 3 % (ps.length : Int) = (a : Int) ∧ a < ps.length := ⟨(c / 3 % (ps.length : Int)).toNat, by have := Int.emod_nonneg (c / 3) (show (ps.length : Int) ≠ 0 by omega); omega, by have := Int.emod_lt_of_pos (c / 3) (show (0 : Int) < ps.length by omega); have := Int.emod_nonneg (c / 3) (show (ps.length : Int) ≠ 0 by omega); omega⟩
      have md := mod_i (c / 3) (ps.length : Int) (by omega)
      rw [ha] at md
      have pok := ok ps[at'] (List.getElem_mem ha2)
      have o1 := pok.lo; have o2 := pok.st; have o3 := pok.hi; have o4 := pok.top
      have xp : ixO (.pure (.tup (ps.map plD))) (.pure (.int (at' : Int))) = some (.pure (.tup [.str ps[at'].nm, .int ps[at'].lo, .int ps[at'].hi, .int ps[at'].st])) := by
        rw [ix_t, atI_lt _ _ (by omega)]; simp [ha2, plD]
      generalize ps[at'].nm = pn at *
      generalize ps[at'].lo = lo at *
      generalize ps[at'].hi = hi at *
      generalize ps[at'].st = st at *
      have m2 := mod_i (c / 9) (hi - lo + 1) (by omega)
      obtain ⟨v, hv, v0⟩ : ∃ v, lo + c / 9 % (hi - lo + 1) = v ∧ v.natAbs ≤ 100 := ⟨_, rfl, by have := Int.emod_lt_of_pos (c / 9) (show (0 : Int) < hi - lo + 1 by omega); have := Int.emod_nonneg (c / 9) (show hi - lo + 1 ≠ 0 by omega); omega⟩
      have la := rk.1
      have sl1 := (tup_room rm at' (by omega)).1
      have sl2 := (tup_room rm (at' + 1) (by omega)).2
      rw [show ((at' + 1 : Nat) : Int) = (at' : Int) + 1 by omega] at sl2
      have ad1 : addO (.pure (roomD (rm.take at'))) (.pure (.tup [.int v])) = some (.pure (roomD (rm.take at' ++ [v]))) := by
        unfold roomD
        rw [add_t _ _ (by simp; omega), List.map_append]; rfl
      have ad2 : addO (.pure (roomD (rm.take at' ++ [v]))) (.pure (roomD (rm.drop (at' + 1)))) = some (.pure (roomD (rm.take at' ++ [v] ++ rm.drop (at' + 1)))) := by
        unfold roomD
        rw [add_t _ _ (by simp; omega), ← List.map_append]
      have rb := bent_ok ok rk ha2 v0
      have td := tied_own ps DI nd pl3 hN rm (rm.take at' ++ [v] ++ rm.drop (at' + 1)) rk rb tab
      have eqr := eq_room rm (rm.take at' ++ [v] ++ rm.drop (at' + 1))
      have i9 : ∀ b : Bool, isiO [.pure (.bl b), .pure (.ty "bool")] = some (.pure (.bl true)) := fun _ => rfl
      have i9 := i9 (decide (rm = rm.take at' ++ [v] ++ rm.drop (at' + 1)))
      have nb := ne_b (decide (rm = rm.take at' ++ [v] ++ rm.drop (at' + 1)))
      obtain ⟨g', e2⟩ := ih (.loc (.pure (.int (k : Int)))) (.loc (.pure (.int c))) (.loc (.pure (roomD rm))) (.loc (.pure (roomD (rm.take at' ++ [v] ++ rm.drop (at' + 1))))) (.loc (.pure (.int (at' : Int)))) (.loc (.pure (.str pn))) (.loc (.pure (.int lo))) (.loc (.pure (.int hi))) (.loc (.pure (.int st))) (.loc (.pure (.int v))) (.loc (.pure (.bl (decide (rm = rm.take at' ++ [v] ++ rm.drop (at' + 1)))))) (.inr rfl) (fre_d _) (fre_d _) (fre_d _) (fre_d _) (fre_d _) (fre_d _) (fre_d _) (fre_d _) (fre_d _) (fre_d _) (fre_d _)
      refine ⟨g', ?_⟩
      generalize decide (rm = rm.take at' ++ [v] ++ rm.drop (at' + 1)) = db at *
      generalize roomD (rm.take at' ++ [v] ++ rm.drop (at' + 1)) = R2 at *
      generalize roomD (rm.take at' ++ [v]) = R1 at *
      generalize roomD (rm.take at') = R0 at *
      generalize roomD (rm.drop (at' + 1)) = R3 at *
      generalize roomD rm = R4 at *
      generalize tieO (alike (ps.map PlaceT.nm)) tab = TO at *
      generalize mcO ps [] DI = MC at *
      generalize mcF ps [] DI = MF at *
      generalize ps.map plD = PS at *
      generalize (ps.length : Int) = PL at *
      clear ih hl hk hk1 hc r1 r2 rk ok nd hN pl3 g1 g2 ha ha2 pok o1 o2 o3 o4 v0 la rb
      unfold k62B at e2 ⊢
      rcases h4 with rfl | rfl <;> walk_at "vi*"
    · have td := tied_own ps DI nd pl3 hN rm rm rk rk tab
      have eqr := eq_room rm rm
      rw [decide_eq_true rfl] at td eqr
      have i9 : isiO [.pure (.bl true), .pure (.ty "bool")] = some (.pure (.bl true)) := rfl
      have nb := ne_b true
      obtain ⟨g', e2⟩ := ih (.loc (.pure (.int (k : Int)))) (.loc (.pure (.int c))) (.loc (.pure (roomD rm))) (.loc (.pure (roomD rm))) t13 t14 t15 t16 t17 t18 (.loc (.pure (.bl true))) (.inr rfl) (fre_d _) (fre_d _) (fre_d _) (fre_d _) f13 f14 f15 f16 f17 f18 (fre_d _)
      refine ⟨g', ?_⟩
      by_cases h : c % 3 > 0
      · have h1 : gtO (.pure (.int (c % 3))) (.pure (.int 0)) = some (.pure (.bl true)) := by rw [gt_i, decide_eq_true (by omega)]
        have h2 : gtO (.pure (.int (ps.length : Int))) (.pure (.int 0)) = some (.pure (.bl false)) := by rw [gt_i, decide_eq_false (fun q => hA ⟨h, by omega⟩)]
        generalize roomD rm = R4 at *
        generalize tieO (alike (ps.map PlaceT.nm)) tab = TO at *
        generalize mcO ps [] DI = MC at *
        generalize mcF ps [] DI = MF at *
        generalize ps.map plD = PS at *
        generalize (ps.length : Int) = PL at *
        clear ih hl hk hk1 hc r1 r2 rk ok nd hN pl3 h hA
        unfold k62B at e2 ⊢
        rcases h4 with rfl | rfl <;> walk_at "vi*"
      · have h1 : gtO (.pure (.int (c % 3))) (.pure (.int 0)) = some (.pure (.bl false)) := by rw [gt_i, decide_eq_false h]
        generalize roomD rm = R4 at *
        generalize tieO (alike (ps.map PlaceT.nm)) tab = TO at *
        generalize mcO ps [] DI = MC at *
        generalize mcF ps [] DI = MF at *
        generalize ps.map plD = PS at *
        generalize (ps.length : Int) = PL at *
        clear ih hl hk hk1 hc r1 r2 rk ok nd hN pl3 h hA
        unfold k62B at e2 ⊢
        rcases h4 with rfl | rfl <;> walk_at "vi*"
theorem deeds_comp (ns : List Int) (N : List Str) (L : List DeedT) (hL : L.length ≤ 100) (dok : ∀ d ∈ L, DeedOk N d) (s0 s1 s2 s3 s4 s5 s6 s7 s8 s9 s10 s11 s12 s13 s14 s15 s16 s17 s18 s19 : Slot) : ∃ t20, Fre t20 ∧
    compL [20] (nmT 20) (fun g => .ok true g) (callA (callN 29) 156 [(nm 20)]) (L.map deD) [s0, s1, s2, s3, s4, s5, s6, s7, s8, s9, s10, s11, s12, s13, s14, s15, s16, s17, s18, s19, .un] [] =
      some (L.map insDe, [s0, s1, s2, s3, s4, s5, s6, s7, s8, s9, s10, s11, s12, s13, s14, s15, s16, s17, s18, s19, t20]) := by
  obtain ⟨t20, f20, e⟩ := comp_map (own := [20]) (t := nmT 20) (cond := fun g => .ok true g) (elt := callA (callN 29) 156 [(nm 20)]) (fun s : Slot => [s0, s1, s2, s3, s4, s5, s6, s7, s8, s9, s10, s11, s12, s13, s14, s15, s16, s17, s18, s19, s]) Fre deD insDe L (fun d hdd s hs => by
    have sp := deof_spec 17 _ d (dok d hdd)
    have fu := deO_full d
    have er := deO_er d
    have ie : insDe d = .ins "Deed" (deF d) := rfl
    refine ⟨.loc (.pure (deD d)), fre_d _, ?_⟩
    rw [ie]
    clear hdd ie hL
    walk_at "vi*") [] (by simp; omega) .un fre_un
  exact ⟨t20, f20, by simpa using e⟩
theorem law_true (ns : List Int) (hl : ns.length ≤ 63) : ∃ os, callN 30 466 [.pure (.lst (ns.map D.int))] = .ok (.pure (.bl true)) os := by
  have c0 := ce_spec 28 ns 0 (by omega) (by omega) hl
  obtain ⟨hd, hhd⟩ : ∃ h, lawCe ns 0 = h := ⟨_, rfl⟩
  rw [hhd] at c0
  have b4 : ∀ x : Int, 0 ≤ x % 4 ∧ x % 4 ≤ 3 := fun x => by omega
  have b7 : ∀ x : Int, 0 ≤ x % 7 ∧ x % 7 ≤ 6 := fun x => by omega
  obtain ⟨ps, ds, _, _, M, ms⟩ := machine_spec 20 ns hl (hd % 4) (hd / 4 % 7) (b4 _).1 (b4 _).2 (b7 _).1 (b7 _).2 2 (by omega) (by omega)
  obtain ⟨ps2, ds2, _, _, M2, ms2⟩ := machine_spec 20 ns hl ((hd + 1 + hd / 28 % 3) % 4) (hd / 84 % 7) (b4 _).1 (b4 _).2 (b7 _).1 (b7 _).2 46 (by omega) (by omega)
  have hN : ∀ s ∈ ps.map PlaceT.nm, NameOk s := fun s hs => by
    obtain ⟨p, hp, rfl⟩ := List.mem_map.mp hs
    exact (M.ok p hp).nm
  have hN2 : ∀ s ∈ ps2.map PlaceT.nm, NameOk s := fun s hs => by
    obtain ⟨p, hp, rfl⟩ := List.mem_map.mp hs
    exact (M2.ok p hp).nm
  have tp0 : D.tup [] = .tup [] := rfl
  have tp1 := tup_l1 (ds.map insDe)
  have tp2 := tup_l1 (ds2.map insDe)
  have mi := mach_init 28 ps [] (ds.map insDe)
  have mi2 := mach_init 28 ps2 [] (ds2.map insDe)
  have ow := owntie_spec 22 ps [] ds hN M.pl (by have := M.dl; omega)
  have ow2 := owntie_spec 22 ps2 [] ds2 hN2 M2.pl (by have := M2.dl; omega)
  have tr := tieright_spec 17 ps ds M hN
  have tr2 := tieright_spec 17 ps2 ds2 M2 hN2
  obtain ⟨TO, hTO⟩ : ∃ T, tieO (alike (ps.map PlaceT.nm)) (.tup (ds.map fun d => .tup [.str d.called, .str d.called])) = T := ⟨_, rfl⟩
  obtain ⟨TO2, hTO2⟩ : ∃ T, tieO (alike (ps2.map PlaceT.nm)) (.tup (ds2.map fun d => .tup [.str d.called, .str d.called])) = T := ⟨_, rfl⟩
  obtain ⟨t20, _, e1⟩ := deeds_comp ns _ ds (by have := M.dl; omega) M.dok (.par (.pure (.lst (ns.map D.int)))) (.loc (.pure (.int hd))) (.loc (.pure (.tup (ps.map plD)))) (.loc (.pure (.tup (ds.map deD)))) .un .un .un .un .un .un .un .un .un .un .un .un .un .un .un .un
  obtain ⟨u20, _, e2⟩ := deeds_comp ns _ ds2 (by have := M2.dl; omega) M2.dok (.par (.pure (.lst (ns.map D.int)))) (.loc (.pure (.int hd))) (.loc (.pure (.tup (ps.map plD)))) (.loc (.pure (.tup (ds.map deD)))) (.loc (.ins "Machine" (mcO ps [] (ds.map insDe)))) (.loc (.ins "Tie" TO)) (.loc (.pure (.tup (ps2.map plD)))) (.loc (.pure (.tup (ds2.map deD)))) .un .un .un .un .un .un .un .un .un .un .un .un
  obtain ⟨g', e3⟩ := k62_loop ns hl hd ps (ds.map deD) (ds.map insDe) M.pl M.nd M.ok hN (.tup (ds.map fun d => .tup [.str d.called, .str d.called])) (.loc (.pure (.tup (ps2.map plD)))) (.loc (.pure (.tup (ds2.map deD)))) (.loc (.ins "Machine" (mcO ps2 [] (ds2.map insDe)))) .un (List.range 6) (fun k hk => List.mem_range.mp hk) (.loc (.ins "Machine" (mcO ps [] (ds.map insDe)))) .un .un .un .un .un .un .un .un .un .un .un (.inl rfl) fre_un fre_un fre_un fre_un fre_un fre_un fre_un fre_un fre_un fre_un fre_un
  rw [hTO] at ow tr e3
  rw [hTO2] at ow2 tr2
  have r6 : rng1 [.pure (.int 6)] = some ((List.range 6).map fun k : Nat => D.int (k : Int)) := rng1_nat 6 (by omega)
  refine ⟨[.pure (.lst (ns.map D.int))], (c_law_k62 29 _).trans ((bodyC_a 1 20 _ _ rfl).trans ?_)⟩
  unfold k62B at e3
  generalize mcO ps [] (ds.map insDe) = MC at *
  generalize mcO ps2 [] (ds2.map insDe) = MC2 at *
  generalize ps.map plD = PS at *
  generalize ds.map deD = DS at *
  generalize ds.map insDe = DI at *
  generalize ps2.map plD = PS2 at *
  generalize ds2.map deD = DS2 at *
  generalize ds2.map insDe = DI2 at *
  generalize (List.range 6).map (fun k : Nat => D.int (k : Int)) = R6 at *
  clear M M2 hN hN2 hl hhd b4 b7 hTO hTO2 tp0
  unfold b_law_k62
  walk_at "vi*"
/-! ## the facts at every depth -/
section
variable {W : Wd} {P : Program} {w : World} {mg : Str → Option Value} {base : Heap}
structure Base (W : Wd) (mg : Str → Option Value) : Prop where
  m_bool : mg "bool" = none
  m_dict : mg "dict" = none
  m_int : mg "int" = none
  m_isinstance : mg "isinstance" = none
  m_len : mg "len" = none
  m_list : mg "list" = none
  m_range : mg "range" = none
  m_str : mg "str" = none
  m_tuple : mg "tuple" = none
  m_zip : mg "zip" = none
  f_values_of : ∃ (f : Addr) (fd : FuncData), mg "values_of" = some (.ref f) ∧ Fun W.K "values_of" "values_of" st_values_of f fd ∧ Binds W.K fd ["far", "near", "far_room", "room"] []
  f_tied : ∃ (f : Addr) (fd : FuncData), mg "tied" = some (.ref f) ∧ Fun W.K "tied" "tied" st_tied f fd ∧ Binds W.K fd ["far", "near", "tie", "far_room", "room"] []
  f_all_alike : ∃ (f : Addr) (fd : FuncData), mg "all_alike" = some (.ref f) ∧ Fun W.K "all_alike" "all_alike" st_all_alike f fd ∧ Binds W.K fd ["names"] []
  f_own_tie : ∃ (f : Addr) (fd : FuncData), mg "own_tie" = some (.ref f) ∧ Fun W.K "own_tie" "own_tie" st_own_tie f fd ∧ Binds W.K fd ["machine"] []
  f__law_whole : ∃ (f : Addr) (fd : FuncData), mg "_law_whole" = some (.ref f) ∧ Fun W.K "_law_whole" "_law_whole" st__law_whole f fd ∧ Binds W.K fd ["found"] []
  f__law_at : ∃ (f : Addr) (fd : FuncData), mg "_law_at" = some (.ref f) ∧ Fun W.K "_law_at" "_law_at" st__law_at f fd ∧ Binds W.K fd ["script", "k"] []
  f__law_begin : ∃ (f : Addr) (fd : FuncData), mg "_law_begin" = some (.ref f) ∧ Fun W.K "_law_begin" "_law_begin" st__law_begin f fd ∧ Binds W.K fd ["cell"] []
  f__law_draw : ∃ (f : Addr) (fd : FuncData), mg "_law_draw" = some (.ref f) ∧ Fun W.K "_law_draw" "_law_draw" st__law_draw_v2 f fd ∧ Binds W.K fd ["state", "many"] []
  f__law_names : ∃ (f : Addr) (fd : FuncData), mg "_law_names" = some (.ref f) ∧ Fun W.K "_law_names" "_law_names" st__law_names_v2 f fd ∧ Binds W.K fd ["cell", "many"] []
  f__law_sum : ∃ (f : Addr) (fd : FuncData), mg "_law_sum" = some (.ref f) ∧ Fun W.K "_law_sum" "_law_sum" st__law_sum_v2 f fd ∧ Binds W.K fd ["state", "names", "near", "depth"] []
  f__law_sum_of : ∃ (f : Addr) (fd : FuncData), mg "_law_sum_of" = some (.ref f) ∧ Fun W.K "_law_sum_of" "_law_sum_of" st__law_sum_of f fd ∧ Binds W.K fd ["one"] []
  f__law_saying : ∃ (f : Addr) (fd : FuncData), mg "_law_saying" = some (.ref f) ∧ Fun W.K "_law_saying" "_law_saying" st__law_saying_v2 f fd ∧ Binds W.K fd ["state", "names", "near", "depth"] []
  f__law_saying_of : ∃ (f : Addr) (fd : FuncData), mg "_law_saying_of" = some (.ref f) ∧ Fun W.K "_law_saying_of" "_law_saying_of" st__law_saying_of f fd ∧ Binds W.K fd ["one"] []
  f__law_places : ∃ (f : Addr) (fd : FuncData), mg "_law_places" = some (.ref f) ∧ Fun W.K "_law_places" "_law_places" st__law_places f fd ∧ Binds W.K fd ["script", "start", "names"] []
  f__law_change : ∃ (f : Addr) (fd : FuncData), mg "_law_change" = some (.ref f) ∧ Fun W.K "_law_change" "_law_change" st__law_change f fd ∧ Binds W.K fd ["cell", "place", "names"] []
  f__law_deed : ∃ (f : Addr) (fd : FuncData), mg "_law_deed" = some (.ref f) ∧ Fun W.K "_law_deed" "_law_deed" st__law_deed f fd ∧ Binds W.K fd ["script", "start", "called", "places"] []
  f__law_machine : ∃ (f : Addr) (fd : FuncData), mg "_law_machine" = some (.ref f) ∧ Fun W.K "_law_machine" "_law_machine" st__law_machine f fd ∧ Binds W.K fd ["script", "start", "many_names", "many_deeds"] []
  f__law_change_of : ∃ (f : Addr) (fd : FuncData), mg "_law_change_of" = some (.ref f) ∧ Fun W.K "_law_change_of" "_law_change_of" st__law_change_of f fd ∧ Binds W.K fd ["change"] []
  f__law_deed_of : ∃ (f : Addr) (fd : FuncData), mg "_law_deed_of" = some (.ref f) ∧ Fun W.K "_law_deed_of" "_law_deed_of" st__law_deed_of f fd ∧ Binds W.K fd ["deed"] []
  f__law_room : ∃ (f : Addr) (fd : FuncData), mg "_law_room" = some (.ref f) ∧ Fun W.K "_law_room" "_law_room" st__law_room_v2 f fd ∧ Binds W.K fd ["places", "cell"] []
  f__law_text : ∃ (f : Addr) (fd : FuncData), mg "_law_text" = some (.ref f) ∧ Fun W.K "_law_text" "_law_text" st__law_text_v8 f fd ∧ Binds W.K fd ["names"] []
  f__law_tie_right : ∃ (f : Addr) (fd : FuncData), mg "_law_tie_right" = some (.ref f) ∧ Fun W.K "_law_tie_right" "_law_tie_right" st__law_tie_right f fd ∧ Binds W.K fd ["machine", "places", "deeds", "tie"] []
  f_law : ∃ (f : Addr) (fd : FuncData), mg "law" = some (.ref f) ∧ Fun W.K "law" "law" st_law_k62 f fd ∧ Binds W.K fd ["script"] []
  q_Saying_holds : ∃ (f : Addr) (fd : FuncData), Fun W.K "holds" "Saying.holds" st_Saying_holds f fd ∧ Binds W.K fd ["self", "values"] [] ∧ (∃ Ca, W.cl "Saying" = some Ca ∧ Cls W.K Ca ∧ Meth W.K Ca "holds" f) ∧ (∃ Ca, W.cl "Compared" = some Ca ∧ Cls W.K Ca ∧ Meth W.K Ca "holds" f)
  q_Saying_shown : ∃ (f : Addr) (fd : FuncData), Fun W.K "shown" "Saying.shown" st_Saying_shown f fd ∧ Binds W.K fd ["self"] [] ∧ (∃ Ca, W.cl "Saying" = some Ca ∧ Cls W.K Ca ∧ Meth W.K Ca "shown" f)
  q_Compared_shown : ∃ (f : Addr) (fd : FuncData), Fun W.K "shown" "Compared.shown" st_Compared_shown f fd ∧ Binds W.K fd ["self"] [] ∧ (∃ Ca, W.cl "Compared" = some Ca ∧ Cls W.K Ca ∧ Meth W.K Ca "shown" f) ∧ (∃ Ca, W.cl "Less" = some Ca ∧ Cls W.K Ca ∧ Meth W.K Ca "shown" f) ∧ (∃ Ca, W.cl "AtMost" = some Ca ∧ Cls W.K Ca ∧ Meth W.K Ca "shown" f) ∧ (∃ Ca, W.cl "Equal" = some Ca ∧ Cls W.K Ca ∧ Meth W.K Ca "shown" f) ∧ (∃ Ca, W.cl "Unlike" = some Ca ∧ Cls W.K Ca ∧ Meth W.K Ca "shown" f)
  q_Compared_sign : ∃ (f : Addr) (fd : FuncData), Fun W.K "sign" "Compared.sign" st_Compared_sign f fd ∧ Binds W.K fd ["self"] [] ∧ (∃ Ca, W.cl "Compared" = some Ca ∧ Cls W.K Ca ∧ Meth W.K Ca "sign" f) ∧ (∃ Ca, W.cl "Equal" = some Ca ∧ Cls W.K Ca ∧ Meth W.K Ca "sign" f)
  q_Less_holds : ∃ (f : Addr) (fd : FuncData), Fun W.K "holds" "Less.holds" st_Less_holds f fd ∧ Binds W.K fd ["self", "values"] [] ∧ (∃ Ca, W.cl "Less" = some Ca ∧ Cls W.K Ca ∧ Meth W.K Ca "holds" f)
  q_Less_sign : ∃ (f : Addr) (fd : FuncData), Fun W.K "sign" "Less.sign" st_Less_sign f fd ∧ Binds W.K fd ["self"] [] ∧ (∃ Ca, W.cl "Less" = some Ca ∧ Cls W.K Ca ∧ Meth W.K Ca "sign" f)
  q_AtMost_holds : ∃ (f : Addr) (fd : FuncData), Fun W.K "holds" "AtMost.holds" st_AtMost_holds f fd ∧ Binds W.K fd ["self", "values"] [] ∧ (∃ Ca, W.cl "AtMost" = some Ca ∧ Cls W.K Ca ∧ Meth W.K Ca "holds" f)
  q_AtMost_sign : ∃ (f : Addr) (fd : FuncData), Fun W.K "sign" "AtMost.sign" st_AtMost_sign f fd ∧ Binds W.K fd ["self"] [] ∧ (∃ Ca, W.cl "AtMost" = some Ca ∧ Cls W.K Ca ∧ Meth W.K Ca "sign" f)
  q_Equal_holds : ∃ (f : Addr) (fd : FuncData), Fun W.K "holds" "Equal.holds" st_Equal_holds f fd ∧ Binds W.K fd ["self", "values"] [] ∧ (∃ Ca, W.cl "Equal" = some Ca ∧ Cls W.K Ca ∧ Meth W.K Ca "holds" f)
  q_Unlike_holds : ∃ (f : Addr) (fd : FuncData), Fun W.K "holds" "Unlike.holds" st_Unlike_holds f fd ∧ Binds W.K fd ["self", "values"] [] ∧ (∃ Ca, W.cl "Unlike" = some Ca ∧ Cls W.K Ca ∧ Meth W.K Ca "holds" f)
  q_Unlike_sign : ∃ (f : Addr) (fd : FuncData), Fun W.K "sign" "Unlike.sign" st_Unlike_sign f fd ∧ Binds W.K fd ["self"] [] ∧ (∃ Ca, W.cl "Unlike" = some Ca ∧ Cls W.K Ca ∧ Meth W.K Ca "sign" f)
  q_Both_holds : ∃ (f : Addr) (fd : FuncData), Fun W.K "holds" "Both.holds" st_Both_holds f fd ∧ Binds W.K fd ["self", "values"] [] ∧ (∃ Ca, W.cl "Both" = some Ca ∧ Cls W.K Ca ∧ Meth W.K Ca "holds" f)
  q_Both_shown : ∃ (f : Addr) (fd : FuncData), Fun W.K "shown" "Both.shown" st_Both_shown f fd ∧ Binds W.K fd ["self"] [] ∧ (∃ Ca, W.cl "Both" = some Ca ∧ Cls W.K Ca ∧ Meth W.K Ca "shown" f)
  q_Either_holds : ∃ (f : Addr) (fd : FuncData), Fun W.K "holds" "Either.holds" st_Either_holds f fd ∧ Binds W.K fd ["self", "values"] [] ∧ (∃ Ca, W.cl "Either" = some Ca ∧ Cls W.K Ca ∧ Meth W.K Ca "holds" f)
  q_Either_shown : ∃ (f : Addr) (fd : FuncData), Fun W.K "shown" "Either.shown" st_Either_shown f fd ∧ Binds W.K fd ["self"] [] ∧ (∃ Ca, W.cl "Either" = some Ca ∧ Cls W.K Ca ∧ Meth W.K Ca "shown" f)
  q_Not_holds : ∃ (f : Addr) (fd : FuncData), Fun W.K "holds" "Not.holds" st_Not_holds f fd ∧ Binds W.K fd ["self", "values"] [] ∧ (∃ Ca, W.cl "Not" = some Ca ∧ Cls W.K Ca ∧ Meth W.K Ca "holds" f)
  q_Not_shown : ∃ (f : Addr) (fd : FuncData), Fun W.K "shown" "Not.shown" st_Not_shown f fd ∧ Binds W.K fd ["self"] [] ∧ (∃ Ca, W.cl "Not" = some Ca ∧ Cls W.K Ca ∧ Meth W.K Ca "shown" f)
  q_Sum_worth : ∃ (f : Addr) (fd : FuncData), Fun W.K "worth" "Sum.worth" st_Sum_worth f fd ∧ Binds W.K fd ["self", "values"] [] ∧ (∃ Ca, W.cl "Sum" = some Ca ∧ Cls W.K Ca ∧ Meth W.K Ca "worth" f) ∧ (∃ Ca, W.cl "Joined" = some Ca ∧ Cls W.K Ca ∧ Meth W.K Ca "worth" f)
  q_Sum_shown : ∃ (f : Addr) (fd : FuncData), Fun W.K "shown" "Sum.shown" st_Sum_shown f fd ∧ Binds W.K fd ["self"] [] ∧ (∃ Ca, W.cl "Sum" = some Ca ∧ Cls W.K Ca ∧ Meth W.K Ca "shown" f)
  q_Number_worth : ∃ (f : Addr) (fd : FuncData), Fun W.K "worth" "Number.worth" st_Number_worth f fd ∧ Binds W.K fd ["self", "values"] [] ∧ (∃ Ca, W.cl "Number" = some Ca ∧ Cls W.K Ca ∧ Meth W.K Ca "worth" f)
  q_Number_shown : ∃ (f : Addr) (fd : FuncData), Fun W.K "shown" "Number.shown" st_Number_shown f fd ∧ Binds W.K fd ["self"] [] ∧ (∃ Ca, W.cl "Number" = some Ca ∧ Cls W.K Ca ∧ Meth W.K Ca "shown" f)
  q_Named_worth : ∃ (f : Addr) (fd : FuncData), Fun W.K "worth" "Named.worth" st_Named_worth f fd ∧ Binds W.K fd ["self", "values"] [] ∧ (∃ Ca, W.cl "Named" = some Ca ∧ Cls W.K Ca ∧ Meth W.K Ca "worth" f)
  q_Named_shown : ∃ (f : Addr) (fd : FuncData), Fun W.K "shown" "Named.shown" st_Named_shown f fd ∧ Binds W.K fd ["self"] [] ∧ (∃ Ca, W.cl "Named" = some Ca ∧ Cls W.K Ca ∧ Meth W.K Ca "shown" f)
  q_Joined_shown : ∃ (f : Addr) (fd : FuncData), Fun W.K "shown" "Joined.shown" st_Joined_shown f fd ∧ Binds W.K fd ["self"] [] ∧ (∃ Ca, W.cl "Joined" = some Ca ∧ Cls W.K Ca ∧ Meth W.K Ca "shown" f) ∧ (∃ Ca, W.cl "Plus" = some Ca ∧ Cls W.K Ca ∧ Meth W.K Ca "shown" f) ∧ (∃ Ca, W.cl "Minus" = some Ca ∧ Cls W.K Ca ∧ Meth W.K Ca "shown" f) ∧ (∃ Ca, W.cl "Times" = some Ca ∧ Cls W.K Ca ∧ Meth W.K Ca "shown" f)
  q_Joined_sign : ∃ (f : Addr) (fd : FuncData), Fun W.K "sign" "Joined.sign" st_Joined_sign f fd ∧ Binds W.K fd ["self"] [] ∧ (∃ Ca, W.cl "Joined" = some Ca ∧ Cls W.K Ca ∧ Meth W.K Ca "sign" f) ∧ (∃ Ca, W.cl "Plus" = some Ca ∧ Cls W.K Ca ∧ Meth W.K Ca "sign" f)
  q_Plus_worth : ∃ (f : Addr) (fd : FuncData), Fun W.K "worth" "Plus.worth" st_Plus_worth f fd ∧ Binds W.K fd ["self", "values"] [] ∧ (∃ Ca, W.cl "Plus" = some Ca ∧ Cls W.K Ca ∧ Meth W.K Ca "worth" f)
  q_Minus_worth : ∃ (f : Addr) (fd : FuncData), Fun W.K "worth" "Minus.worth" st_Minus_worth f fd ∧ Binds W.K fd ["self", "values"] [] ∧ (∃ Ca, W.cl "Minus" = some Ca ∧ Cls W.K Ca ∧ Meth W.K Ca "worth" f)
  q_Minus_sign : ∃ (f : Addr) (fd : FuncData), Fun W.K "sign" "Minus.sign" st_Minus_sign f fd ∧ Binds W.K fd ["self"] [] ∧ (∃ Ca, W.cl "Minus" = some Ca ∧ Cls W.K Ca ∧ Meth W.K Ca "sign" f)
  q_Times_worth : ∃ (f : Addr) (fd : FuncData), Fun W.K "worth" "Times.worth" st_Times_worth f fd ∧ Binds W.K fd ["self", "values"] [] ∧ (∃ Ca, W.cl "Times" = some Ca ∧ Cls W.K Ca ∧ Meth W.K Ca "worth" f)
  q_Times_sign : ∃ (f : Addr) (fd : FuncData), Fun W.K "sign" "Times.sign" st_Times_sign f fd ∧ Binds W.K fd ["self"] [] ∧ (∃ Ca, W.cl "Times" = some Ca ∧ Cls W.K Ca ∧ Meth W.K Ca "sign" f)
  q_Change_shown : ∃ (f : Addr) (fd : FuncData), Fun W.K "shown" "Change.shown" st_Change_shown f fd ∧ Binds W.K fd ["self"] [] ∧ (∃ Ca, W.cl "Change" = some Ca ∧ Cls W.K Ca ∧ Meth W.K Ca "shown" f)
  q_Put_shown : ∃ (f : Addr) (fd : FuncData), Fun W.K "shown" "Put.shown" st_Put_shown f fd ∧ Binds W.K fd ["self"] [] ∧ (∃ Ca, W.cl "Put" = some Ca ∧ Cls W.K Ca ∧ Meth W.K Ca "shown" f)
  q_Any_shown : ∃ (f : Addr) (fd : FuncData), Fun W.K "shown" "Any.shown" st_Any_shown f fd ∧ Binds W.K fd ["self"] [] ∧ (∃ Ca, W.cl "Any" = some Ca ∧ Cls W.K Ca ∧ Meth W.K Ca "shown" f)
  q_Machine_first : ∃ (f : Addr) (fd : FuncData), Fun W.K "first" "Machine.first" st_Machine_first f fd ∧ Binds W.K fd ["self"] [] ∧ (∃ Ca, W.cl "Machine" = some Ca ∧ Cls W.K Ca ∧ Meth W.K Ca "first" f)
  q_Machine_values_in : ∃ (f : Addr) (fd : FuncData), Fun W.K "values_in" "Machine.values_in" st_Machine_values_in f fd ∧ Binds W.K fd ["self", "room"] [] ∧ (∃ Ca, W.cl "Machine" = some Ca ∧ Cls W.K Ca ∧ Meth W.K Ca "values_in" f)
  q_Any___init__ : ∃ (f : Addr) (fd : FuncData), Fun W.K "__init__" "Any.__init__" st_Any___init__ f fd ∧ Binds W.K fd ["self", "name", "one", "other"] [] ∧ (∃ Ca, W.cl "Any" = some Ca ∧ Mk W.K Ca f ∧ mg "Any" = some (.ref Ca))
  q_Compared___init__ : ∃ (f : Addr) (fd : FuncData), Fun W.K "__init__" "Compared.__init__" st_Compared___init__ f fd ∧ Binds W.K fd ["self", "one", "other"] [] ∧ (∃ Ca, W.cl "AtMost" = some Ca ∧ Mk W.K Ca f ∧ mg "AtMost" = some (.ref Ca)) ∧ (∃ Ca, W.cl "Equal" = some Ca ∧ Mk W.K Ca f ∧ mg "Equal" = some (.ref Ca)) ∧ (∃ Ca, W.cl "Less" = some Ca ∧ Mk W.K Ca f ∧ mg "Less" = some (.ref Ca)) ∧ (∃ Ca, W.cl "Unlike" = some Ca ∧ Mk W.K Ca f ∧ mg "Unlike" = some (.ref Ca))
  q_Both___init__ : ∃ (f : Addr) (fd : FuncData), Fun W.K "__init__" "Both.__init__" st_Both___init__ f fd ∧ Binds W.K fd ["self", "one", "other"] [] ∧ (∃ Ca, W.cl "Both" = some Ca ∧ Mk W.K Ca f ∧ mg "Both" = some (.ref Ca))
  q_Deed___init__ : ∃ (f : Addr) (fd : FuncData), Fun W.K "__init__" "Deed.__init__" st_Deed___init__ f fd ∧ Binds W.K fd ["self", "called", "when", "changes"] [] ∧ (∃ Ca, W.cl "Deed" = some Ca ∧ Mk W.K Ca f ∧ mg "Deed" = some (.ref Ca))
  q_Either___init__ : ∃ (f : Addr) (fd : FuncData), Fun W.K "__init__" "Either.__init__" st_Either___init__ f fd ∧ Binds W.K fd ["self", "one", "other"] [] ∧ (∃ Ca, W.cl "Either" = some Ca ∧ Mk W.K Ca f ∧ mg "Either" = some (.ref Ca))
  q_Machine___init__ : ∃ (f : Addr) (fd : FuncData), Fun W.K "__init__" "Machine.__init__" st_Machine___init__ f fd ∧ Binds W.K fd ["self", "places", "keeps", "deeds"] [] ∧ (∃ Ca, W.cl "Machine" = some Ca ∧ Mk W.K Ca f ∧ mg "Machine" = some (.ref Ca))
  q_Joined___init__ : ∃ (f : Addr) (fd : FuncData), Fun W.K "__init__" "Joined.__init__" st_Joined___init__ f fd ∧ Binds W.K fd ["self", "one", "other"] [] ∧ (∃ Ca, W.cl "Minus" = some Ca ∧ Mk W.K Ca f ∧ mg "Minus" = some (.ref Ca)) ∧ (∃ Ca, W.cl "Plus" = some Ca ∧ Mk W.K Ca f ∧ mg "Plus" = some (.ref Ca)) ∧ (∃ Ca, W.cl "Times" = some Ca ∧ Mk W.K Ca f ∧ mg "Times" = some (.ref Ca))
  q_Named___init__ : ∃ (f : Addr) (fd : FuncData), Fun W.K "__init__" "Named.__init__" st_Named___init__ f fd ∧ Binds W.K fd ["self", "name"] [] ∧ (∃ Ca, W.cl "Named" = some Ca ∧ Mk W.K Ca f ∧ mg "Named" = some (.ref Ca))
  q_Not___init__ : ∃ (f : Addr) (fd : FuncData), Fun W.K "__init__" "Not.__init__" st_Not___init__ f fd ∧ Binds W.K fd ["self", "one"] [] ∧ (∃ Ca, W.cl "Not" = some Ca ∧ Mk W.K Ca f ∧ mg "Not" = some (.ref Ca))
  q_Number___init__ : ∃ (f : Addr) (fd : FuncData), Fun W.K "__init__" "Number.__init__" st_Number___init__ f fd ∧ Binds W.K fd ["self", "number"] [] ∧ (∃ Ca, W.cl "Number" = some Ca ∧ Mk W.K Ca f ∧ mg "Number" = some (.ref Ca))
  q_Put___init__ : ∃ (f : Addr) (fd : FuncData), Fun W.K "__init__" "Put.__init__" st_Put___init__ f fd ∧ Binds W.K fd ["self", "name", "one"] [] ∧ (∃ Ca, W.cl "Put" = some Ca ∧ Mk W.K Ca f ∧ mg "Put" = some (.ref Ca))
  q_Tie___init__ : ∃ (f : Addr) (fd : FuncData), Fun W.K "__init__" "Tie.__init__" st_Tie___init__ f fd ∧ Binds W.K fd ["self", "saying", "table", "falling"] [] ∧ (∃ Ca, W.cl "Tie" = some Ca ∧ Mk W.K Ca f ∧ mg "Tie" = some (.ref Ca))
  q_Change___init__ : ∃ (f : Addr) (fd : FuncData), Fun W.K "__init__" "Change.__init__" st_Change___init__ f fd ∧ Binds W.K fd ["self", "name"] [] ∧ (∃ Ca, mg "Change" = some (.ref Ca) ∧ ClX.CRead W.K Ca (.type "type") ∧ PySem.W.findCls W.K (.ref Ca) (.type "type") "__init__" = some (.val (.ref f)))
  n_Saying : NewAt W mg "Saying" (Str.ofString "Saying")
  e_Tie : ∃ u v, mg "Tie" = some u ∧ RelV v u ∧ ∀ H, RepF W H v (.cls (Str.ofString "Tie"))
  it : ∀ {c d : Str} {b : Bool}, itOf ITl c d = some b → IsAt W c d b
  fld : ∀ {c f : Str}, ftOf FTl c f = true → FldAt W c f
theorem fn_zero {f : Addr} {fd : FuncData} {ps : List Str} {fn m : Nat} (hm : m = ps.length) : FnOk P w W.K mg base (L2.CX P w) 0 f fd ps (spD W (callN 0) fn m) :=
  ⟨fun _ _ _ _ h => h.1.trans hm, fun _ _ _ _ _ _ _ _ _ _ _ _ _ ⟨_, _, _, _, _, _, z⟩ => z.elim⟩
theorem facts_all (B : Base W mg) : ∀ n, Facts W P w mg base n
  | 0 => ⟨B.m_bool,
      B.m_dict,
      B.m_int,
      B.m_isinstance,
      B.m_len,
      B.m_list,
      B.m_range,
      B.m_str,
      B.m_tuple,
      B.m_zip,
      (let ⟨f, fd, h1, F, b⟩ := B.f_values_of; ⟨f, fd, _, h1, F.kp, fn_zero rfl, b⟩),
      (let ⟨f, fd, h1, F, b⟩ := B.f_tied; ⟨f, fd, _, h1, F.kp, fn_zero rfl, b⟩),
      (let ⟨f, fd, h1, F, b⟩ := B.f_all_alike; ⟨f, fd, _, h1, F.kp, fn_zero rfl, b⟩),
      (let ⟨f, fd, h1, F, b⟩ := B.f_own_tie; ⟨f, fd, _, h1, F.kp, fn_zero rfl, b⟩),
      (let ⟨f, fd, h1, F, b⟩ := B.f__law_whole; ⟨f, fd, _, h1, F.kp, fn_zero rfl, b⟩),
      (let ⟨f, fd, h1, F, b⟩ := B.f__law_at; ⟨f, fd, _, h1, F.kp, fn_zero rfl, b⟩),
      (let ⟨f, fd, h1, F, b⟩ := B.f__law_begin; ⟨f, fd, _, h1, F.kp, fn_zero rfl, b⟩),
      (let ⟨f, fd, h1, F, b⟩ := B.f__law_draw; ⟨f, fd, _, h1, F.kp, fn_zero rfl, b⟩),
      (let ⟨f, fd, h1, F, b⟩ := B.f__law_names; ⟨f, fd, _, h1, F.kp, fn_zero rfl, b⟩),
      (let ⟨f, fd, h1, F, b⟩ := B.f__law_sum; ⟨f, fd, _, h1, F.kp, fn_zero rfl, b⟩),
      (let ⟨f, fd, h1, F, b⟩ := B.f__law_sum_of; ⟨f, fd, _, h1, F.kp, fn_zero rfl, b⟩),
      (let ⟨f, fd, h1, F, b⟩ := B.f__law_saying; ⟨f, fd, _, h1, F.kp, fn_zero rfl, b⟩),
      (let ⟨f, fd, h1, F, b⟩ := B.f__law_saying_of; ⟨f, fd, _, h1, F.kp, fn_zero rfl, b⟩),
      (let ⟨f, fd, h1, F, b⟩ := B.f__law_places; ⟨f, fd, _, h1, F.kp, fn_zero rfl, b⟩),
      (let ⟨f, fd, h1, F, b⟩ := B.f__law_change; ⟨f, fd, _, h1, F.kp, fn_zero rfl, b⟩),
      (let ⟨f, fd, h1, F, b⟩ := B.f__law_deed; ⟨f, fd, _, h1, F.kp, fn_zero rfl, b⟩),
      (let ⟨f, fd, h1, F, b⟩ := B.f__law_machine; ⟨f, fd, _, h1, F.kp, fn_zero rfl, b⟩),
      (let ⟨f, fd, h1, F, b⟩ := B.f__law_change_of; ⟨f, fd, _, h1, F.kp, fn_zero rfl, b⟩),
      (let ⟨f, fd, h1, F, b⟩ := B.f__law_deed_of; ⟨f, fd, _, h1, F.kp, fn_zero rfl, b⟩),
      (let ⟨f, fd, h1, F, b⟩ := B.f__law_room; ⟨f, fd, _, h1, F.kp, fn_zero rfl, b⟩),
      (let ⟨f, fd, h1, F, b⟩ := B.f__law_text; ⟨f, fd, _, h1, F.kp, fn_zero rfl, b⟩),
      (let ⟨f, fd, h1, F, b⟩ := B.f__law_tie_right; ⟨f, fd, _, h1, F.kp, fn_zero rfl, b⟩),
      (let ⟨f, fd, h1, F, b⟩ := B.f_law; ⟨f, fd, _, h1, F.kp, fn_zero rfl, b⟩),
      (let ⟨f, fd, F, b, ⟨Ca, h1, h2, h3⟩⟩ := B.q_Any___init__; ⟨Ca, f, fd, _, h1, h2, h3, fn_zero rfl, b⟩),
      (let ⟨f, fd, F, b, ⟨Ca, h1, h2, h3⟩, _, _, _⟩ := B.q_Compared___init__; ⟨Ca, f, fd, _, h1, h2, h3, fn_zero rfl, b⟩),
      (let ⟨f, fd, F, b, ⟨Ca, h1, h2, h3⟩⟩ := B.q_Both___init__; ⟨Ca, f, fd, _, h1, h2, h3, fn_zero rfl, b⟩),
      (let ⟨f, fd, F, b, ⟨Ca, h1, h2, h3⟩⟩ := B.q_Deed___init__; ⟨Ca, f, fd, _, h1, h2, h3, fn_zero rfl, b⟩),
      (let ⟨f, fd, F, b, ⟨Ca, h1, h2, h3⟩⟩ := B.q_Either___init__; ⟨Ca, f, fd, _, h1, h2, h3, fn_zero rfl, b⟩),
      (let ⟨f, fd, F, b, _, ⟨Ca, h1, h2, h3⟩, _, _⟩ := B.q_Compared___init__; ⟨Ca, f, fd, _, h1, h2, h3, fn_zero rfl, b⟩),
      (let ⟨f, fd, F, b, _, _, ⟨Ca, h1, h2, h3⟩, _⟩ := B.q_Compared___init__; ⟨Ca, f, fd, _, h1, h2, h3, fn_zero rfl, b⟩),
      (let ⟨f, fd, F, b, ⟨Ca, h1, h2, h3⟩⟩ := B.q_Machine___init__; ⟨Ca, f, fd, _, h1, h2, h3, fn_zero rfl, b⟩),
      (let ⟨f, fd, F, b, ⟨Ca, h1, h2, h3⟩, _, _⟩ := B.q_Joined___init__; ⟨Ca, f, fd, _, h1, h2, h3, fn_zero rfl, b⟩),
      (let ⟨f, fd, F, b, ⟨Ca, h1, h2, h3⟩⟩ := B.q_Named___init__; ⟨Ca, f, fd, _, h1, h2, h3, fn_zero rfl, b⟩),
      (let ⟨f, fd, F, b, ⟨Ca, h1, h2, h3⟩⟩ := B.q_Not___init__; ⟨Ca, f, fd, _, h1, h2, h3, fn_zero rfl, b⟩),
      (let ⟨f, fd, F, b, ⟨Ca, h1, h2, h3⟩⟩ := B.q_Number___init__; ⟨Ca, f, fd, _, h1, h2, h3, fn_zero rfl, b⟩),
      (let ⟨f, fd, F, b, _, ⟨Ca, h1, h2, h3⟩, _⟩ := B.q_Joined___init__; ⟨Ca, f, fd, _, h1, h2, h3, fn_zero rfl, b⟩),
      (let ⟨f, fd, F, b, ⟨Ca, h1, h2, h3⟩⟩ := B.q_Put___init__; ⟨Ca, f, fd, _, h1, h2, h3, fn_zero rfl, b⟩),
      (let ⟨f, fd, F, b, ⟨Ca, h1, h2, h3⟩⟩ := B.q_Tie___init__; ⟨Ca, f, fd, _, h1, h2, h3, fn_zero rfl, b⟩),
      (let ⟨f, fd, F, b, _, _, ⟨Ca, h1, h2, h3⟩⟩ := B.q_Joined___init__; ⟨Ca, f, fd, _, h1, h2, h3, fn_zero rfl, b⟩),
      (let ⟨f, fd, F, b, _, _, _, ⟨Ca, h1, h2, h3⟩⟩ := B.q_Compared___init__; ⟨Ca, f, fd, _, h1, h2, h3, fn_zero rfl, b⟩),
      (let ⟨f, fd, F, b, ⟨Ca, h1, h2, h3⟩⟩ := B.q_Change___init__; ⟨Ca, f, fd, _, h1, h2, h3, F.kp, fn_zero rfl, b⟩),
      B.n_Saying,
      B.e_Tie,
      B.it,
      fun h => mt_of (T := MTl) (P := fun c m fn a => MethAt W (callN 0) P w mg base (2 * 0) c m fn a) (List.forall_mem_cons.mpr ⟨(let ⟨f, fd, F, b, ⟨Ca, h1, h2, h3⟩, _⟩ := B.q_Saying_holds; ⟨Ca, f, fd, _, h1, h2, h3, fn_zero rfl, b⟩), (List.forall_mem_cons.mpr ⟨(let ⟨f, fd, F, b, ⟨Ca, h1, h2, h3⟩⟩ := B.q_Saying_shown; ⟨Ca, f, fd, _, h1, h2, h3, fn_zero rfl, b⟩), (List.forall_mem_cons.mpr ⟨(let ⟨f, fd, F, b, _, ⟨Ca, h1, h2, h3⟩⟩ := B.q_Saying_holds; ⟨Ca, f, fd, _, h1, h2, h3, fn_zero rfl, b⟩), (List.forall_mem_cons.mpr ⟨(let ⟨f, fd, F, b, ⟨Ca, h1, h2, h3⟩, _, _, _, _⟩ := B.q_Compared_shown; ⟨Ca, f, fd, _, h1, h2, h3, fn_zero rfl, b⟩), (List.forall_mem_cons.mpr ⟨(let ⟨f, fd, F, b, ⟨Ca, h1, h2, h3⟩, _⟩ := B.q_Compared_sign; ⟨Ca, f, fd, _, h1, h2, h3, fn_zero rfl, b⟩), (List.forall_mem_cons.mpr ⟨(let ⟨f, fd, F, b, ⟨Ca, h1, h2, h3⟩⟩ := B.q_Less_holds; ⟨Ca, f, fd, _, h1, h2, h3, fn_zero rfl, b⟩), (List.forall_mem_cons.mpr ⟨(let ⟨f, fd, F, b, _, ⟨Ca, h1, h2, h3⟩, _, _, _⟩ := B.q_Compared_shown; ⟨Ca, f, fd, _, h1, h2, h3, fn_zero rfl, b⟩), (List.forall_mem_cons.mpr ⟨(let ⟨f, fd, F, b, ⟨Ca, h1, h2, h3⟩⟩ := B.q_Less_sign; ⟨Ca, f, fd, _, h1, h2, h3, fn_zero rfl, b⟩), (List.forall_mem_cons.mpr ⟨(let ⟨f, fd, F, b, ⟨Ca, h1, h2, h3⟩⟩ := B.q_AtMost_holds; ⟨Ca, f, fd, _, h1, h2, h3, fn_zero rfl, b⟩), (List.forall_mem_cons.mpr ⟨(let ⟨f, fd, F, b, _, _, ⟨Ca, h1, h2, h3⟩, _, _⟩ := B.q_Compared_shown; ⟨Ca, f, fd, _, h1, h2, h3, fn_zero rfl, b⟩), (List.forall_mem_cons.mpr ⟨(let ⟨f, fd, F, b, ⟨Ca, h1, h2, h3⟩⟩ := B.q_AtMost_sign; ⟨Ca, f, fd, _, h1, h2, h3, fn_zero rfl, b⟩), (List.forall_mem_cons.mpr ⟨(let ⟨f, fd, F, b, ⟨Ca, h1, h2, h3⟩⟩ := B.q_Equal_holds; ⟨Ca, f, fd, _, h1, h2, h3, fn_zero rfl, b⟩), (List.forall_mem_cons.mpr ⟨(let ⟨f, fd, F, b, _, _, _, ⟨Ca, h1, h2, h3⟩, _⟩ := B.q_Compared_shown; ⟨Ca, f, fd, _, h1, h2, h3, fn_zero rfl, b⟩), (List.forall_mem_cons.mpr ⟨(let ⟨f, fd, F, b, _, ⟨Ca, h1, h2, h3⟩⟩ := B.q_Compared_sign; ⟨Ca, f, fd, _, h1, h2, h3, fn_zero rfl, b⟩), (List.forall_mem_cons.mpr ⟨(let ⟨f, fd, F, b, ⟨Ca, h1, h2, h3⟩⟩ := B.q_Unlike_holds; ⟨Ca, f, fd, _, h1, h2, h3, fn_zero rfl, b⟩), (List.forall_mem_cons.mpr ⟨(let ⟨f, fd, F, b, _, _, _, _, ⟨Ca, h1, h2, h3⟩⟩ := B.q_Compared_shown; ⟨Ca, f, fd, _, h1, h2, h3, fn_zero rfl, b⟩), (List.forall_mem_cons.mpr ⟨(let ⟨f, fd, F, b, ⟨Ca, h1, h2, h3⟩⟩ := B.q_Unlike_sign; ⟨Ca, f, fd, _, h1, h2, h3, fn_zero rfl, b⟩), (List.forall_mem_cons.mpr ⟨(let ⟨f, fd, F, b, ⟨Ca, h1, h2, h3⟩⟩ := B.q_Both_holds; ⟨Ca, f, fd, _, h1, h2, h3, fn_zero rfl, b⟩), (List.forall_mem_cons.mpr ⟨(let ⟨f, fd, F, b, ⟨Ca, h1, h2, h3⟩⟩ := B.q_Both_shown; ⟨Ca, f, fd, _, h1, h2, h3, fn_zero rfl, b⟩), (List.forall_mem_cons.mpr ⟨(let ⟨f, fd, F, b, ⟨Ca, h1, h2, h3⟩⟩ := B.q_Either_holds; ⟨Ca, f, fd, _, h1, h2, h3, fn_zero rfl, b⟩), (List.forall_mem_cons.mpr ⟨(let ⟨f, fd, F, b, ⟨Ca, h1, h2, h3⟩⟩ := B.q_Either_shown; ⟨Ca, f, fd, _, h1, h2, h3, fn_zero rfl, b⟩), (List.forall_mem_cons.mpr ⟨(let ⟨f, fd, F, b, ⟨Ca, h1, h2, h3⟩⟩ := B.q_Not_holds; ⟨Ca, f, fd, _, h1, h2, h3, fn_zero rfl, b⟩), (List.forall_mem_cons.mpr ⟨(let ⟨f, fd, F, b, ⟨Ca, h1, h2, h3⟩⟩ := B.q_Not_shown; ⟨Ca, f, fd, _, h1, h2, h3, fn_zero rfl, b⟩), (List.forall_mem_cons.mpr ⟨(let ⟨f, fd, F, b, ⟨Ca, h1, h2, h3⟩, _⟩ := B.q_Sum_worth; ⟨Ca, f, fd, _, h1, h2, h3, fn_zero rfl, b⟩), (List.forall_mem_cons.mpr ⟨(let ⟨f, fd, F, b, ⟨Ca, h1, h2, h3⟩⟩ := B.q_Sum_shown; ⟨Ca, f, fd, _, h1, h2, h3, fn_zero rfl, b⟩), (List.forall_mem_cons.mpr ⟨(let ⟨f, fd, F, b, ⟨Ca, h1, h2, h3⟩⟩ := B.q_Number_worth; ⟨Ca, f, fd, _, h1, h2, h3, fn_zero rfl, b⟩), (List.forall_mem_cons.mpr ⟨(let ⟨f, fd, F, b, ⟨Ca, h1, h2, h3⟩⟩ := B.q_Number_shown; ⟨Ca, f, fd, _, h1, h2, h3, fn_zero rfl, b⟩), (List.forall_mem_cons.mpr ⟨(let ⟨f, fd, F, b, ⟨Ca, h1, h2, h3⟩⟩ := B.q_Named_worth; ⟨Ca, f, fd, _, h1, h2, h3, fn_zero rfl, b⟩), (List.forall_mem_cons.mpr ⟨(let ⟨f, fd, F, b, ⟨Ca, h1, h2, h3⟩⟩ := B.q_Named_shown; ⟨Ca, f, fd, _, h1, h2, h3, fn_zero rfl, b⟩), (List.forall_mem_cons.mpr ⟨(let ⟨f, fd, F, b, _, ⟨Ca, h1, h2, h3⟩⟩ := B.q_Sum_worth; ⟨Ca, f, fd, _, h1, h2, h3, fn_zero rfl, b⟩), (List.forall_mem_cons.mpr ⟨(let ⟨f, fd, F, b, ⟨Ca, h1, h2, h3⟩, _, _, _⟩ := B.q_Joined_shown; ⟨Ca, f, fd, _, h1, h2, h3, fn_zero rfl, b⟩), (List.forall_mem_cons.mpr ⟨(let ⟨f, fd, F, b, ⟨Ca, h1, h2, h3⟩, _⟩ := B.q_Joined_sign; ⟨Ca, f, fd, _, h1, h2, h3, fn_zero rfl, b⟩), (List.forall_mem_cons.mpr ⟨(let ⟨f, fd, F, b, ⟨Ca, h1, h2, h3⟩⟩ := B.q_Plus_worth; ⟨Ca, f, fd, _, h1, h2, h3, fn_zero rfl, b⟩), (List.forall_mem_cons.mpr ⟨(let ⟨f, fd, F, b, _, ⟨Ca, h1, h2, h3⟩, _, _⟩ := B.q_Joined_shown; ⟨Ca, f, fd, _, h1, h2, h3, fn_zero rfl, b⟩), (List.forall_mem_cons.mpr ⟨(let ⟨f, fd, F, b, _, ⟨Ca, h1, h2, h3⟩⟩ := B.q_Joined_sign; ⟨Ca, f, fd, _, h1, h2, h3, fn_zero rfl, b⟩), (List.forall_mem_cons.mpr ⟨(let ⟨f, fd, F, b, ⟨Ca, h1, h2, h3⟩⟩ := B.q_Minus_worth; ⟨Ca, f, fd, _, h1, h2, h3, fn_zero rfl, b⟩), (List.forall_mem_cons.mpr ⟨(let ⟨f, fd, F, b, _, _, ⟨Ca, h1, h2, h3⟩, _⟩ := B.q_Joined_shown; ⟨Ca, f, fd, _, h1, h2, h3, fn_zero rfl, b⟩), (List.forall_mem_cons.mpr ⟨(let ⟨f, fd, F, b, ⟨Ca, h1, h2, h3⟩⟩ := B.q_Minus_sign; ⟨Ca, f, fd, _, h1, h2, h3, fn_zero rfl, b⟩), (List.forall_mem_cons.mpr ⟨(let ⟨f, fd, F, b, ⟨Ca, h1, h2, h3⟩⟩ := B.q_Times_worth; ⟨Ca, f, fd, _, h1, h2, h3, fn_zero rfl, b⟩), (List.forall_mem_cons.mpr ⟨(let ⟨f, fd, F, b, _, _, _, ⟨Ca, h1, h2, h3⟩⟩ := B.q_Joined_shown; ⟨Ca, f, fd, _, h1, h2, h3, fn_zero rfl, b⟩), (List.forall_mem_cons.mpr ⟨(let ⟨f, fd, F, b, ⟨Ca, h1, h2, h3⟩⟩ := B.q_Times_sign; ⟨Ca, f, fd, _, h1, h2, h3, fn_zero rfl, b⟩), (List.forall_mem_cons.mpr ⟨(let ⟨f, fd, F, b, ⟨Ca, h1, h2, h3⟩⟩ := B.q_Change_shown; ⟨Ca, f, fd, _, h1, h2, h3, fn_zero rfl, b⟩), (List.forall_mem_cons.mpr ⟨(let ⟨f, fd, F, b, ⟨Ca, h1, h2, h3⟩⟩ := B.q_Put_shown; ⟨Ca, f, fd, _, h1, h2, h3, fn_zero rfl, b⟩), (List.forall_mem_cons.mpr ⟨(let ⟨f, fd, F, b, ⟨Ca, h1, h2, h3⟩⟩ := B.q_Any_shown; ⟨Ca, f, fd, _, h1, h2, h3, fn_zero rfl, b⟩), (List.forall_mem_cons.mpr ⟨(let ⟨f, fd, F, b, ⟨Ca, h1, h2, h3⟩⟩ := B.q_Machine_first; ⟨Ca, f, fd, _, h1, h2, h3, fn_zero rfl, b⟩), (List.forall_mem_cons.mpr ⟨(let ⟨f, fd, F, b, ⟨Ca, h1, h2, h3⟩⟩ := B.q_Machine_values_in; ⟨Ca, f, fd, _, h1, h2, h3, fn_zero rfl, b⟩), (List.forall_mem_nil _)⟩)⟩)⟩)⟩)⟩)⟩)⟩)⟩)⟩)⟩)⟩)⟩)⟩)⟩)⟩)⟩)⟩)⟩)⟩)⟩)⟩)⟩)⟩)⟩)⟩)⟩)⟩)⟩)⟩)⟩)⟩)⟩)⟩)⟩)⟩)⟩)⟩)⟩)⟩)⟩)⟩)⟩)⟩)⟩)⟩)⟩) h,
      B.fld⟩
  | n + 1 => ⟨B.m_bool,
      B.m_dict,
      B.m_int,
      B.m_isinstance,
      B.m_len,
      B.m_list,
      B.m_range,
      B.m_str,
      B.m_tuple,
      B.m_zip,
      (let ⟨f, fd, h1, F, b⟩ := B.f_values_of; ⟨f, fd, _, h1, F.kp, ok_values_of (facts_all B n) F, b⟩),
      (let ⟨f, fd, h1, F, b⟩ := B.f_tied; ⟨f, fd, _, h1, F.kp, ok_tied (facts_all B n) F, b⟩),
      (let ⟨f, fd, h1, F, b⟩ := B.f_all_alike; ⟨f, fd, _, h1, F.kp, ok_all_alike (facts_all B n) F, b⟩),
      (let ⟨f, fd, h1, F, b⟩ := B.f_own_tie; ⟨f, fd, _, h1, F.kp, ok_own_tie (facts_all B n) F, b⟩),
      (let ⟨f, fd, h1, F, b⟩ := B.f__law_whole; ⟨f, fd, _, h1, F.kp, ok__law_whole (facts_all B n) F, b⟩),
      (let ⟨f, fd, h1, F, b⟩ := B.f__law_at; ⟨f, fd, _, h1, F.kp, ok__law_at (facts_all B n) F, b⟩),
      (let ⟨f, fd, h1, F, b⟩ := B.f__law_begin; ⟨f, fd, _, h1, F.kp, ok__law_begin (facts_all B n) F, b⟩),
      (let ⟨f, fd, h1, F, b⟩ := B.f__law_draw; ⟨f, fd, _, h1, F.kp, ok__law_draw_v2 (facts_all B n) F, b⟩),
      (let ⟨f, fd, h1, F, b⟩ := B.f__law_names; ⟨f, fd, _, h1, F.kp, ok__law_names_v2 (facts_all B n) F, b⟩),
      (let ⟨f, fd, h1, F, b⟩ := B.f__law_sum; ⟨f, fd, _, h1, F.kp, ok__law_sum_v2 (facts_all B n) F, b⟩),
      (let ⟨f, fd, h1, F, b⟩ := B.f__law_sum_of; ⟨f, fd, _, h1, F.kp, ok__law_sum_of (facts_all B n) F, b⟩),
      (let ⟨f, fd, h1, F, b⟩ := B.f__law_saying; ⟨f, fd, _, h1, F.kp, ok__law_saying_v2 (facts_all B n) F, b⟩),
      (let ⟨f, fd, h1, F, b⟩ := B.f__law_saying_of; ⟨f, fd, _, h1, F.kp, ok__law_saying_of (facts_all B n) F, b⟩),
      (let ⟨f, fd, h1, F, b⟩ := B.f__law_places; ⟨f, fd, _, h1, F.kp, ok__law_places (facts_all B n) F, b⟩),
      (let ⟨f, fd, h1, F, b⟩ := B.f__law_change; ⟨f, fd, _, h1, F.kp, ok__law_change (facts_all B n) F, b⟩),
      (let ⟨f, fd, h1, F, b⟩ := B.f__law_deed; ⟨f, fd, _, h1, F.kp, ok__law_deed (facts_all B n) F, b⟩),
      (let ⟨f, fd, h1, F, b⟩ := B.f__law_machine; ⟨f, fd, _, h1, F.kp, ok__law_machine (facts_all B n) F, b⟩),
      (let ⟨f, fd, h1, F, b⟩ := B.f__law_change_of; ⟨f, fd, _, h1, F.kp, ok__law_change_of (facts_all B n) F, b⟩),
      (let ⟨f, fd, h1, F, b⟩ := B.f__law_deed_of; ⟨f, fd, _, h1, F.kp, ok__law_deed_of (facts_all B n) F, b⟩),
      (let ⟨f, fd, h1, F, b⟩ := B.f__law_room; ⟨f, fd, _, h1, F.kp, ok__law_room_v2 (facts_all B n) F, b⟩),
      (let ⟨f, fd, h1, F, b⟩ := B.f__law_text; ⟨f, fd, _, h1, F.kp, ok__law_text_v8 (facts_all B n) F, b⟩),
      (let ⟨f, fd, h1, F, b⟩ := B.f__law_tie_right; ⟨f, fd, _, h1, F.kp, ok__law_tie_right (facts_all B n) F, b⟩),
      (let ⟨f, fd, h1, F, b⟩ := B.f_law; ⟨f, fd, _, h1, F.kp, ok_law_k62 (facts_all B n) F, b⟩),
      (let ⟨f, fd, F, b, ⟨Ca, h1, h2, h3⟩⟩ := B.q_Any___init__; ⟨Ca, f, fd, _, h1, h2, h3, ok_Any___init__ (facts_all B n) F, b⟩),
      (let ⟨f, fd, F, b, ⟨Ca, h1, h2, h3⟩, _, _, _⟩ := B.q_Compared___init__; ⟨Ca, f, fd, _, h1, h2, h3, ok_Compared___init__ (facts_all B n) F, b⟩),
      (let ⟨f, fd, F, b, ⟨Ca, h1, h2, h3⟩⟩ := B.q_Both___init__; ⟨Ca, f, fd, _, h1, h2, h3, ok_Both___init__ (facts_all B n) F, b⟩),
      (let ⟨f, fd, F, b, ⟨Ca, h1, h2, h3⟩⟩ := B.q_Deed___init__; ⟨Ca, f, fd, _, h1, h2, h3, ok_Deed___init__ (facts_all B n) F, b⟩),
      (let ⟨f, fd, F, b, ⟨Ca, h1, h2, h3⟩⟩ := B.q_Either___init__; ⟨Ca, f, fd, _, h1, h2, h3, ok_Either___init__ (facts_all B n) F, b⟩),
      (let ⟨f, fd, F, b, _, ⟨Ca, h1, h2, h3⟩, _, _⟩ := B.q_Compared___init__; ⟨Ca, f, fd, _, h1, h2, h3, ok_Compared___init__ (facts_all B n) F, b⟩),
      (let ⟨f, fd, F, b, _, _, ⟨Ca, h1, h2, h3⟩, _⟩ := B.q_Compared___init__; ⟨Ca, f, fd, _, h1, h2, h3, ok_Compared___init__ (facts_all B n) F, b⟩),
      (let ⟨f, fd, F, b, ⟨Ca, h1, h2, h3⟩⟩ := B.q_Machine___init__; ⟨Ca, f, fd, _, h1, h2, h3, ok_Machine___init__ (facts_all B n) F, b⟩),
      (let ⟨f, fd, F, b, ⟨Ca, h1, h2, h3⟩, _, _⟩ := B.q_Joined___init__; ⟨Ca, f, fd, _, h1, h2, h3, ok_Joined___init__ (facts_all B n) F, b⟩),
      (let ⟨f, fd, F, b, ⟨Ca, h1, h2, h3⟩⟩ := B.q_Named___init__; ⟨Ca, f, fd, _, h1, h2, h3, ok_Named___init__ (facts_all B n) F, b⟩),
      (let ⟨f, fd, F, b, ⟨Ca, h1, h2, h3⟩⟩ := B.q_Not___init__; ⟨Ca, f, fd, _, h1, h2, h3, ok_Not___init__ (facts_all B n) F, b⟩),
      (let ⟨f, fd, F, b, ⟨Ca, h1, h2, h3⟩⟩ := B.q_Number___init__; ⟨Ca, f, fd, _, h1, h2, h3, ok_Number___init__ (facts_all B n) F, b⟩),
      (let ⟨f, fd, F, b, _, ⟨Ca, h1, h2, h3⟩, _⟩ := B.q_Joined___init__; ⟨Ca, f, fd, _, h1, h2, h3, ok_Joined___init__ (facts_all B n) F, b⟩),
      (let ⟨f, fd, F, b, ⟨Ca, h1, h2, h3⟩⟩ := B.q_Put___init__; ⟨Ca, f, fd, _, h1, h2, h3, ok_Put___init__ (facts_all B n) F, b⟩),
      (let ⟨f, fd, F, b, ⟨Ca, h1, h2, h3⟩⟩ := B.q_Tie___init__; ⟨Ca, f, fd, _, h1, h2, h3, ok_Tie___init__ (facts_all B n) F, b⟩),
      (let ⟨f, fd, F, b, _, _, ⟨Ca, h1, h2, h3⟩⟩ := B.q_Joined___init__; ⟨Ca, f, fd, _, h1, h2, h3, ok_Joined___init__ (facts_all B n) F, b⟩),
      (let ⟨f, fd, F, b, _, _, _, ⟨Ca, h1, h2, h3⟩⟩ := B.q_Compared___init__; ⟨Ca, f, fd, _, h1, h2, h3, ok_Compared___init__ (facts_all B n) F, b⟩),
      (let ⟨f, fd, F, b, ⟨Ca, h1, h2, h3⟩⟩ := B.q_Change___init__; ⟨Ca, f, fd, _, h1, h2, h3, F.kp, ok_Change___init__ (facts_all B n) F, b⟩),
      B.n_Saying,
      B.e_Tie,
      B.it,
      fun h => mt_of (T := MTl) (P := fun c m fn a => MethAt W (callN (n + 1)) P w mg base (2 * (n + 1)) c m fn a) (List.forall_mem_cons.mpr ⟨(let ⟨f, fd, F, b, ⟨Ca, h1, h2, h3⟩, _⟩ := B.q_Saying_holds; ⟨Ca, f, fd, _, h1, h2, h3, ok_Saying_holds (facts_all B n) F, b⟩), (List.forall_mem_cons.mpr ⟨(let ⟨f, fd, F, b, ⟨Ca, h1, h2, h3⟩⟩ := B.q_Saying_shown; ⟨Ca, f, fd, _, h1, h2, h3, ok_Saying_shown (facts_all B n) F, b⟩), (List.forall_mem_cons.mpr ⟨(let ⟨f, fd, F, b, _, ⟨Ca, h1, h2, h3⟩⟩ := B.q_Saying_holds; ⟨Ca, f, fd, _, h1, h2, h3, ok_Saying_holds (facts_all B n) F, b⟩), (List.forall_mem_cons.mpr ⟨(let ⟨f, fd, F, b, ⟨Ca, h1, h2, h3⟩, _, _, _, _⟩ := B.q_Compared_shown; ⟨Ca, f, fd, _, h1, h2, h3, ok_Compared_shown (facts_all B n) F, b⟩), (List.forall_mem_cons.mpr ⟨(let ⟨f, fd, F, b, ⟨Ca, h1, h2, h3⟩, _⟩ := B.q_Compared_sign; ⟨Ca, f, fd, _, h1, h2, h3, ok_Compared_sign (facts_all B n) F, b⟩), (List.forall_mem_cons.mpr ⟨(let ⟨f, fd, F, b, ⟨Ca, h1, h2, h3⟩⟩ := B.q_Less_holds; ⟨Ca, f, fd, _, h1, h2, h3, ok_Less_holds (facts_all B n) F, b⟩), (List.forall_mem_cons.mpr ⟨(let ⟨f, fd, F, b, _, ⟨Ca, h1, h2, h3⟩, _, _, _⟩ := B.q_Compared_shown; ⟨Ca, f, fd, _, h1, h2, h3, ok_Compared_shown (facts_all B n) F, b⟩), (List.forall_mem_cons.mpr ⟨(let ⟨f, fd, F, b, ⟨Ca, h1, h2, h3⟩⟩ := B.q_Less_sign; ⟨Ca, f, fd, _, h1, h2, h3, ok_Less_sign (facts_all B n) F, b⟩), (List.forall_mem_cons.mpr ⟨(let ⟨f, fd, F, b, ⟨Ca, h1, h2, h3⟩⟩ := B.q_AtMost_holds; ⟨Ca, f, fd, _, h1, h2, h3, ok_AtMost_holds (facts_all B n) F, b⟩), (List.forall_mem_cons.mpr ⟨(let ⟨f, fd, F, b, _, _, ⟨Ca, h1, h2, h3⟩, _, _⟩ := B.q_Compared_shown; ⟨Ca, f, fd, _, h1, h2, h3, ok_Compared_shown (facts_all B n) F, b⟩), (List.forall_mem_cons.mpr ⟨(let ⟨f, fd, F, b, ⟨Ca, h1, h2, h3⟩⟩ := B.q_AtMost_sign; ⟨Ca, f, fd, _, h1, h2, h3, ok_AtMost_sign (facts_all B n) F, b⟩), (List.forall_mem_cons.mpr ⟨(let ⟨f, fd, F, b, ⟨Ca, h1, h2, h3⟩⟩ := B.q_Equal_holds; ⟨Ca, f, fd, _, h1, h2, h3, ok_Equal_holds (facts_all B n) F, b⟩), (List.forall_mem_cons.mpr ⟨(let ⟨f, fd, F, b, _, _, _, ⟨Ca, h1, h2, h3⟩, _⟩ := B.q_Compared_shown; ⟨Ca, f, fd, _, h1, h2, h3, ok_Compared_shown (facts_all B n) F, b⟩), (List.forall_mem_cons.mpr ⟨(let ⟨f, fd, F, b, _, ⟨Ca, h1, h2, h3⟩⟩ := B.q_Compared_sign; ⟨Ca, f, fd, _, h1, h2, h3, ok_Compared_sign (facts_all B n) F, b⟩), (List.forall_mem_cons.mpr ⟨(let ⟨f, fd, F, b, ⟨Ca, h1, h2, h3⟩⟩ := B.q_Unlike_holds; ⟨Ca, f, fd, _, h1, h2, h3, ok_Unlike_holds (facts_all B n) F, b⟩), (List.forall_mem_cons.mpr ⟨(let ⟨f, fd, F, b, _, _, _, _, ⟨Ca, h1, h2, h3⟩⟩ := B.q_Compared_shown; ⟨Ca, f, fd, _, h1, h2, h3, ok_Compared_shown (facts_all B n) F, b⟩), (List.forall_mem_cons.mpr ⟨(let ⟨f, fd, F, b, ⟨Ca, h1, h2, h3⟩⟩ := B.q_Unlike_sign; ⟨Ca, f, fd, _, h1, h2, h3, ok_Unlike_sign (facts_all B n) F, b⟩), (List.forall_mem_cons.mpr ⟨(let ⟨f, fd, F, b, ⟨Ca, h1, h2, h3⟩⟩ := B.q_Both_holds; ⟨Ca, f, fd, _, h1, h2, h3, ok_Both_holds (facts_all B n) F, b⟩), (List.forall_mem_cons.mpr ⟨(let ⟨f, fd, F, b, ⟨Ca, h1, h2, h3⟩⟩ := B.q_Both_shown; ⟨Ca, f, fd, _, h1, h2, h3, ok_Both_shown (facts_all B n) F, b⟩), (List.forall_mem_cons.mpr ⟨(let ⟨f, fd, F, b, ⟨Ca, h1, h2, h3⟩⟩ := B.q_Either_holds; ⟨Ca, f, fd, _, h1, h2, h3, ok_Either_holds (facts_all B n) F, b⟩), (List.forall_mem_cons.mpr ⟨(let ⟨f, fd, F, b, ⟨Ca, h1, h2, h3⟩⟩ := B.q_Either_shown; ⟨Ca, f, fd, _, h1, h2, h3, ok_Either_shown (facts_all B n) F, b⟩), (List.forall_mem_cons.mpr ⟨(let ⟨f, fd, F, b, ⟨Ca, h1, h2, h3⟩⟩ := B.q_Not_holds; ⟨Ca, f, fd, _, h1, h2, h3, ok_Not_holds (facts_all B n) F, b⟩), (List.forall_mem_cons.mpr ⟨(let ⟨f, fd, F, b, ⟨Ca, h1, h2, h3⟩⟩ := B.q_Not_shown; ⟨Ca, f, fd, _, h1, h2, h3, ok_Not_shown (facts_all B n) F, b⟩), (List.forall_mem_cons.mpr ⟨(let ⟨f, fd, F, b, ⟨Ca, h1, h2, h3⟩, _⟩ := B.q_Sum_worth; ⟨Ca, f, fd, _, h1, h2, h3, ok_Sum_worth (facts_all B n) F, b⟩), (List.forall_mem_cons.mpr ⟨(let ⟨f, fd, F, b, ⟨Ca, h1, h2, h3⟩⟩ := B.q_Sum_shown; ⟨Ca, f, fd, _, h1, h2, h3, ok_Sum_shown (facts_all B n) F, b⟩), (List.forall_mem_cons.mpr ⟨(let ⟨f, fd, F, b, ⟨Ca, h1, h2, h3⟩⟩ := B.q_Number_worth; ⟨Ca, f, fd, _, h1, h2, h3, ok_Number_worth (facts_all B n) F, b⟩), (List.forall_mem_cons.mpr ⟨(let ⟨f, fd, F, b, ⟨Ca, h1, h2, h3⟩⟩ := B.q_Number_shown; ⟨Ca, f, fd, _, h1, h2, h3, ok_Number_shown (facts_all B n) F, b⟩), (List.forall_mem_cons.mpr ⟨(let ⟨f, fd, F, b, ⟨Ca, h1, h2, h3⟩⟩ := B.q_Named_worth; ⟨Ca, f, fd, _, h1, h2, h3, ok_Named_worth (facts_all B n) F, b⟩), (List.forall_mem_cons.mpr ⟨(let ⟨f, fd, F, b, ⟨Ca, h1, h2, h3⟩⟩ := B.q_Named_shown; ⟨Ca, f, fd, _, h1, h2, h3, ok_Named_shown (facts_all B n) F, b⟩), (List.forall_mem_cons.mpr ⟨(let ⟨f, fd, F, b, _, ⟨Ca, h1, h2, h3⟩⟩ := B.q_Sum_worth; ⟨Ca, f, fd, _, h1, h2, h3, ok_Sum_worth (facts_all B n) F, b⟩), (List.forall_mem_cons.mpr ⟨(let ⟨f, fd, F, b, ⟨Ca, h1, h2, h3⟩, _, _, _⟩ := B.q_Joined_shown; ⟨Ca, f, fd, _, h1, h2, h3, ok_Joined_shown (facts_all B n) F, b⟩), (List.forall_mem_cons.mpr ⟨(let ⟨f, fd, F, b, ⟨Ca, h1, h2, h3⟩, _⟩ := B.q_Joined_sign; ⟨Ca, f, fd, _, h1, h2, h3, ok_Joined_sign (facts_all B n) F, b⟩), (List.forall_mem_cons.mpr ⟨(let ⟨f, fd, F, b, ⟨Ca, h1, h2, h3⟩⟩ := B.q_Plus_worth; ⟨Ca, f, fd, _, h1, h2, h3, ok_Plus_worth (facts_all B n) F, b⟩), (List.forall_mem_cons.mpr ⟨(let ⟨f, fd, F, b, _, ⟨Ca, h1, h2, h3⟩, _, _⟩ := B.q_Joined_shown; ⟨Ca, f, fd, _, h1, h2, h3, ok_Joined_shown (facts_all B n) F, b⟩), (List.forall_mem_cons.mpr ⟨(let ⟨f, fd, F, b, _, ⟨Ca, h1, h2, h3⟩⟩ := B.q_Joined_sign; ⟨Ca, f, fd, _, h1, h2, h3, ok_Joined_sign (facts_all B n) F, b⟩), (List.forall_mem_cons.mpr ⟨(let ⟨f, fd, F, b, ⟨Ca, h1, h2, h3⟩⟩ := B.q_Minus_worth; ⟨Ca, f, fd, _, h1, h2, h3, ok_Minus_worth (facts_all B n) F, b⟩), (List.forall_mem_cons.mpr ⟨(let ⟨f, fd, F, b, _, _, ⟨Ca, h1, h2, h3⟩, _⟩ := B.q_Joined_shown; ⟨Ca, f, fd, _, h1, h2, h3, ok_Joined_shown (facts_all B n) F, b⟩), (List.forall_mem_cons.mpr ⟨(let ⟨f, fd, F, b, ⟨Ca, h1, h2, h3⟩⟩ := B.q_Minus_sign; ⟨Ca, f, fd, _, h1, h2, h3, ok_Minus_sign (facts_all B n) F, b⟩), (List.forall_mem_cons.mpr ⟨(let ⟨f, fd, F, b, ⟨Ca, h1, h2, h3⟩⟩ := B.q_Times_worth; ⟨Ca, f, fd, _, h1, h2, h3, ok_Times_worth (facts_all B n) F, b⟩), (List.forall_mem_cons.mpr ⟨(let ⟨f, fd, F, b, _, _, _, ⟨Ca, h1, h2, h3⟩⟩ := B.q_Joined_shown; ⟨Ca, f, fd, _, h1, h2, h3, ok_Joined_shown (facts_all B n) F, b⟩), (List.forall_mem_cons.mpr ⟨(let ⟨f, fd, F, b, ⟨Ca, h1, h2, h3⟩⟩ := B.q_Times_sign; ⟨Ca, f, fd, _, h1, h2, h3, ok_Times_sign (facts_all B n) F, b⟩), (List.forall_mem_cons.mpr ⟨(let ⟨f, fd, F, b, ⟨Ca, h1, h2, h3⟩⟩ := B.q_Change_shown; ⟨Ca, f, fd, _, h1, h2, h3, ok_Change_shown (facts_all B n) F, b⟩), (List.forall_mem_cons.mpr ⟨(let ⟨f, fd, F, b, ⟨Ca, h1, h2, h3⟩⟩ := B.q_Put_shown; ⟨Ca, f, fd, _, h1, h2, h3, ok_Put_shown (facts_all B n) F, b⟩), (List.forall_mem_cons.mpr ⟨(let ⟨f, fd, F, b, ⟨Ca, h1, h2, h3⟩⟩ := B.q_Any_shown; ⟨Ca, f, fd, _, h1, h2, h3, ok_Any_shown (facts_all B n) F, b⟩), (List.forall_mem_cons.mpr ⟨(let ⟨f, fd, F, b, ⟨Ca, h1, h2, h3⟩⟩ := B.q_Machine_first; ⟨Ca, f, fd, _, h1, h2, h3, ok_Machine_first (facts_all B n) F, b⟩), (List.forall_mem_cons.mpr ⟨(let ⟨f, fd, F, b, ⟨Ca, h1, h2, h3⟩⟩ := B.q_Machine_values_in; ⟨Ca, f, fd, _, h1, h2, h3, ok_Machine_values_in (facts_all B n) F, b⟩), (List.forall_mem_nil _)⟩)⟩)⟩)⟩)⟩)⟩)⟩)⟩)⟩)⟩)⟩)⟩)⟩)⟩)⟩)⟩)⟩)⟩)⟩)⟩)⟩)⟩)⟩)⟩)⟩)⟩)⟩)⟩)⟩)⟩)⟩)⟩)⟩)⟩)⟩)⟩)⟩)⟩)⟩)⟩)⟩)⟩)⟩)⟩)⟩)⟩) h,
      B.fld⟩
end
/-! ## what the top has left -/
def fxl0 : List FX := [.fre "bool", .fre "dict", .fre "int", .fre "isinstance", .fre "len", .fre "list", .fre "range", .fre "str", .fre "tuple", .fre "zip", .glo "values_of", .glo "tied", .glo "all_alike", .glo "own_tie", .glo "_law_whole", .glo "_law_at", .glo "_law_begin", .glo "_law_draw", .glo "_law_names", .glo "_law_sum", .glo "_law_sum_of", .glo "_law_saying", .glo "_law_saying_of", .glo "_law_places", .glo "_law_change", .glo "_law_deed", .glo "_law_machine", .glo "_law_change_of", .glo "_law_deed_of", .glo "_law_room"]
def fxl1 : List FX := [.glo "_law_text", .glo "_law_tie_right", .glo "law", .cls "Saying", .met "Saying" "holds" "Saying", .cls "Compared", .met "Compared" "holds" "Saying", .met "Saying" "shown" "Saying", .met "Compared" "shown" "Compared", .cls "Less", .met "Less" "shown" "Compared", .cls "AtMost", .met "AtMost" "shown" "Compared", .cls "Equal", .met "Equal" "shown" "Compared", .cls "Unlike", .met "Unlike" "shown" "Compared", .met "Compared" "sign" "Compared", .met "Equal" "sign" "Compared", .met "Less" "holds" "Less", .met "Less" "sign" "Less", .met "AtMost" "holds" "AtMost", .met "AtMost" "sign" "AtMost", .met "Equal" "holds" "Equal", .met "Unlike" "holds" "Unlike", .met "Unlike" "sign" "Unlike", .cls "Both", .met "Both" "holds" "Both", .met "Both" "shown" "Both", .cls "Either"]
def fxl2 : List FX := [.met "Either" "holds" "Either", .met "Either" "shown" "Either", .cls "Not", .met "Not" "holds" "Not", .met "Not" "shown" "Not", .cls "Sum", .met "Sum" "worth" "Sum", .cls "Joined", .met "Joined" "worth" "Sum", .met "Sum" "shown" "Sum", .cls "Number", .met "Number" "worth" "Number", .met "Number" "shown" "Number", .cls "Named", .met "Named" "worth" "Named", .met "Named" "shown" "Named", .met "Joined" "shown" "Joined", .cls "Plus", .met "Plus" "shown" "Joined", .cls "Minus", .met "Minus" "shown" "Joined", .cls "Times", .met "Times" "shown" "Joined", .met "Joined" "sign" "Joined", .met "Plus" "sign" "Joined", .met "Plus" "worth" "Plus", .met "Minus" "worth" "Minus", .met "Minus" "sign" "Minus", .met "Times" "worth" "Times", .met "Times" "sign" "Times"]
def fxl3 : List FX := [.cls "Change", .met "Change" "shown" "Change", .cls "Put", .met "Put" "shown" "Put", .cls "Any", .met "Any" "shown" "Any", .cls "Machine", .met "Machine" "first" "Machine", .met "Machine" "values_in" "Machine", .mak "Any" "Any", .glo "Any", .mak "AtMost" "Compared", .glo "AtMost", .mak "Equal" "Compared", .glo "Equal", .mak "Less" "Compared", .glo "Less", .mak "Unlike" "Compared", .glo "Unlike", .mak "Both" "Both", .glo "Both", .mak "Deed" "Deed", .glo "Deed", .mak "Either" "Either", .glo "Either", .mak "Machine" "Machine", .glo "Machine", .mak "Minus" "Joined", .glo "Minus", .mak "Plus" "Joined"]
def fxl4 : List FX := [.glo "Plus", .mak "Times" "Joined", .glo "Times", .mak "Named" "Named", .glo "Named", .mak "Not" "Not", .glo "Not", .mak "Number" "Number", .glo "Number", .mak "Put" "Put", .glo "Put", .mak "Tie" "Tie", .glo "Tie", .glo "Change", .cin "Change" "__init__" "Change", .mk0 "Saying", .glo "Saying", .isi "Machine" "Tie" false, .inst "Machine", .gst, .isi "Deed" "Tie" false, .cls "Deed", .inst "Deed", .isi "Any" "Tie" false, .inst "Any", .isi "Put" "Tie" false, .inst "Put", .isi "Change" "Tie" false, .inst "Change", .isi "Tie" "Tie" true]
def fxl5 : List FX := [.cls "Tie", .inst "Tie", .isi "Times" "Tie" false, .inst "Times", .isi "Minus" "Tie" false, .inst "Minus", .isi "Plus" "Tie" false, .inst "Plus", .isi "Joined" "Tie" false, .inst "Joined", .isi "Named" "Tie" false, .inst "Named", .isi "Number" "Tie" false, .inst "Number", .isi "Sum" "Tie" false, .inst "Sum", .isi "Not" "Tie" false, .inst "Not", .isi "Either" "Tie" false, .inst "Either", .isi "Both" "Tie" false, .inst "Both", .isi "Unlike" "Tie" false, .inst "Unlike", .isi "Equal" "Tie" false, .inst "Equal", .isi "AtMost" "Tie" false, .inst "AtMost", .isi "Less" "Tie" false, .inst "Less"]
def fxl6 : List FX := [.isi "Compared" "Tie" false, .inst "Compared", .isi "Saying" "Tie" false, .inst "Saying", .noat "Machine" "places", .noat "Machine" "keeps", .noat "Machine" "deeds", .noat "Deed" "when", .noat "Deed" "changes", .noat "Deed" "called", .noat "Any" "other", .noat "Any" "one", .noat "Any" "name", .noat "Put" "one", .noat "Put" "name", .noat "Change" "name", .noat "Tie" "table", .noat "Tie" "saying", .noat "Tie" "falling", .noat "Times" "other", .noat "Times" "one", .noat "Minus" "other", .noat "Minus" "one", .noat "Plus" "other", .noat "Plus" "one", .noat "Joined" "other", .noat "Joined" "one", .noat "Named" "name", .noat "Number" "told", .noat "Not" "one"]
def fxl7 : List FX := [.noat "Either" "other", .noat "Either" "one", .noat "Both" "other", .noat "Both" "one", .noat "Unlike" "other", .noat "Unlike" "one", .noat "Equal" "other", .noat "Equal" "one", .noat "AtMost" "other", .noat "AtMost" "one", .noat "Less" "other", .noat "Less" "one", .noat "Compared" "other", .noat "Compared" "one"]
def fxl : List FX := fxl0 ++ (fxl1 ++ (fxl2 ++ (fxl3 ++ (fxl4 ++ (fxl5 ++ (fxl6 ++ (fxl7)))))))
def dd0 : He.DefD := ⟨("values_of", none), "values_of", "values_of", defArgs st_values_of, defBody st_values_of, defScope st_values_of, [], []⟩
def dd1 : He.DefD := ⟨("tied", none), "tied", "tied", defArgs st_tied, defBody st_tied, defScope st_tied, [], []⟩
def dd2 : He.DefD := ⟨("all_alike", none), "all_alike", "all_alike", defArgs st_all_alike, defBody st_all_alike, defScope st_all_alike, [], []⟩
def dd3 : He.DefD := ⟨("own_tie", none), "own_tie", "own_tie", defArgs st_own_tie, defBody st_own_tie, defScope st_own_tie, [], []⟩
def dd4 : He.DefD := ⟨("_law_whole", none), "_law_whole", "_law_whole", defArgs st__law_whole, defBody st__law_whole, defScope st__law_whole, [], []⟩
def dd5 : He.DefD := ⟨("_law_at", none), "_law_at", "_law_at", defArgs st__law_at, defBody st__law_at, defScope st__law_at, [], []⟩
def dd6 : He.DefD := ⟨("_law_begin", none), "_law_begin", "_law_begin", defArgs st__law_begin, defBody st__law_begin, defScope st__law_begin, [], []⟩
def dd7 : He.DefD := ⟨("_law_draw", none), "_law_draw", "_law_draw", defArgs st__law_draw_v2, defBody st__law_draw_v2, defScope st__law_draw_v2, [], []⟩
def dd8 : He.DefD := ⟨("_law_names", none), "_law_names", "_law_names", defArgs st__law_names_v2, defBody st__law_names_v2, defScope st__law_names_v2, [], []⟩
def dd9 : He.DefD := ⟨("_law_sum", none), "_law_sum", "_law_sum", defArgs st__law_sum_v2, defBody st__law_sum_v2, defScope st__law_sum_v2, [], []⟩
def dd10 : He.DefD := ⟨("_law_sum_of", none), "_law_sum_of", "_law_sum_of", defArgs st__law_sum_of, defBody st__law_sum_of, defScope st__law_sum_of, [], []⟩
def dd11 : He.DefD := ⟨("_law_saying", none), "_law_saying", "_law_saying", defArgs st__law_saying_v2, defBody st__law_saying_v2, defScope st__law_saying_v2, [], []⟩
def dd12 : He.DefD := ⟨("_law_saying_of", none), "_law_saying_of", "_law_saying_of", defArgs st__law_saying_of, defBody st__law_saying_of, defScope st__law_saying_of, [], []⟩
def dd13 : He.DefD := ⟨("_law_places", none), "_law_places", "_law_places", defArgs st__law_places, defBody st__law_places, defScope st__law_places, [], []⟩
def dd14 : He.DefD := ⟨("_law_change", none), "_law_change", "_law_change", defArgs st__law_change, defBody st__law_change, defScope st__law_change, [], []⟩
def dd15 : He.DefD := ⟨("_law_deed", none), "_law_deed", "_law_deed", defArgs st__law_deed, defBody st__law_deed, defScope st__law_deed, [], []⟩
def dd16 : He.DefD := ⟨("_law_machine", none), "_law_machine", "_law_machine", defArgs st__law_machine, defBody st__law_machine, defScope st__law_machine, [], []⟩
def dd17 : He.DefD := ⟨("_law_change_of", none), "_law_change_of", "_law_change_of", defArgs st__law_change_of, defBody st__law_change_of, defScope st__law_change_of, [], []⟩
def dd18 : He.DefD := ⟨("_law_deed_of", none), "_law_deed_of", "_law_deed_of", defArgs st__law_deed_of, defBody st__law_deed_of, defScope st__law_deed_of, [], []⟩
def dd19 : He.DefD := ⟨("_law_room", none), "_law_room", "_law_room", defArgs st__law_room_v2, defBody st__law_room_v2, defScope st__law_room_v2, [], []⟩
def dd20 : He.DefD := ⟨("_law_text", none), "_law_text", "_law_text", defArgs st__law_text_v8, defBody st__law_text_v8, defScope st__law_text_v8, [], []⟩
def dd21 : He.DefD := ⟨("_law_tie_right", none), "_law_tie_right", "_law_tie_right", defArgs st__law_tie_right, defBody st__law_tie_right, defScope st__law_tie_right, [], []⟩
def dd22 : He.DefD := ⟨("law", none), "law", "law", defArgs st_law_k62, defBody st_law_k62, defScope st_law_k62, [], []⟩
def dd23 : He.DefD := ⟨("Saying", some "holds"), "holds", "Saying.holds", defArgs st_Saying_holds, defBody st_Saying_holds, defScope st_Saying_holds, [], []⟩
def dd24 : He.DefD := ⟨("Saying", some "shown"), "shown", "Saying.shown", defArgs st_Saying_shown, defBody st_Saying_shown, defScope st_Saying_shown, [], []⟩
def dd25 : He.DefD := ⟨("Compared", some "shown"), "shown", "Compared.shown", defArgs st_Compared_shown, defBody st_Compared_shown, defScope st_Compared_shown, [], []⟩
def dd26 : He.DefD := ⟨("Compared", some "sign"), "sign", "Compared.sign", defArgs st_Compared_sign, defBody st_Compared_sign, defScope st_Compared_sign, [], []⟩
def dd27 : He.DefD := ⟨("Less", some "holds"), "holds", "Less.holds", defArgs st_Less_holds, defBody st_Less_holds, defScope st_Less_holds, [], []⟩
def dd28 : He.DefD := ⟨("Less", some "sign"), "sign", "Less.sign", defArgs st_Less_sign, defBody st_Less_sign, defScope st_Less_sign, [], []⟩
def dd29 : He.DefD := ⟨("AtMost", some "holds"), "holds", "AtMost.holds", defArgs st_AtMost_holds, defBody st_AtMost_holds, defScope st_AtMost_holds, [], []⟩
def dd30 : He.DefD := ⟨("AtMost", some "sign"), "sign", "AtMost.sign", defArgs st_AtMost_sign, defBody st_AtMost_sign, defScope st_AtMost_sign, [], []⟩
def dd31 : He.DefD := ⟨("Equal", some "holds"), "holds", "Equal.holds", defArgs st_Equal_holds, defBody st_Equal_holds, defScope st_Equal_holds, [], []⟩
def dd32 : He.DefD := ⟨("Unlike", some "holds"), "holds", "Unlike.holds", defArgs st_Unlike_holds, defBody st_Unlike_holds, defScope st_Unlike_holds, [], []⟩
def dd33 : He.DefD := ⟨("Unlike", some "sign"), "sign", "Unlike.sign", defArgs st_Unlike_sign, defBody st_Unlike_sign, defScope st_Unlike_sign, [], []⟩
def dd34 : He.DefD := ⟨("Both", some "holds"), "holds", "Both.holds", defArgs st_Both_holds, defBody st_Both_holds, defScope st_Both_holds, [], []⟩
def dd35 : He.DefD := ⟨("Both", some "shown"), "shown", "Both.shown", defArgs st_Both_shown, defBody st_Both_shown, defScope st_Both_shown, [], []⟩
def dd36 : He.DefD := ⟨("Either", some "holds"), "holds", "Either.holds", defArgs st_Either_holds, defBody st_Either_holds, defScope st_Either_holds, [], []⟩
def dd37 : He.DefD := ⟨("Either", some "shown"), "shown", "Either.shown", defArgs st_Either_shown, defBody st_Either_shown, defScope st_Either_shown, [], []⟩
def dd38 : He.DefD := ⟨("Not", some "holds"), "holds", "Not.holds", defArgs st_Not_holds, defBody st_Not_holds, defScope st_Not_holds, [], []⟩
def dd39 : He.DefD := ⟨("Not", some "shown"), "shown", "Not.shown", defArgs st_Not_shown, defBody st_Not_shown, defScope st_Not_shown, [], []⟩
def dd40 : He.DefD := ⟨("Sum", some "worth"), "worth", "Sum.worth", defArgs st_Sum_worth, defBody st_Sum_worth, defScope st_Sum_worth, [], []⟩
def dd41 : He.DefD := ⟨("Sum", some "shown"), "shown", "Sum.shown", defArgs st_Sum_shown, defBody st_Sum_shown, defScope st_Sum_shown, [], []⟩
def dd42 : He.DefD := ⟨("Number", some "worth"), "worth", "Number.worth", defArgs st_Number_worth, defBody st_Number_worth, defScope st_Number_worth, [], []⟩
def dd43 : He.DefD := ⟨("Number", some "shown"), "shown", "Number.shown", defArgs st_Number_shown, defBody st_Number_shown, defScope st_Number_shown, [], []⟩
def dd44 : He.DefD := ⟨("Named", some "worth"), "worth", "Named.worth", defArgs st_Named_worth, defBody st_Named_worth, defScope st_Named_worth, [], []⟩
def dd45 : He.DefD := ⟨("Named", some "shown"), "shown", "Named.shown", defArgs st_Named_shown, defBody st_Named_shown, defScope st_Named_shown, [], []⟩
def dd46 : He.DefD := ⟨("Joined", some "shown"), "shown", "Joined.shown", defArgs st_Joined_shown, defBody st_Joined_shown, defScope st_Joined_shown, [], []⟩
def dd47 : He.DefD := ⟨("Joined", some "sign"), "sign", "Joined.sign", defArgs st_Joined_sign, defBody st_Joined_sign, defScope st_Joined_sign, [], []⟩
def dd48 : He.DefD := ⟨("Plus", some "worth"), "worth", "Plus.worth", defArgs st_Plus_worth, defBody st_Plus_worth, defScope st_Plus_worth, [], []⟩
def dd49 : He.DefD := ⟨("Minus", some "worth"), "worth", "Minus.worth", defArgs st_Minus_worth, defBody st_Minus_worth, defScope st_Minus_worth, [], []⟩
def dd50 : He.DefD := ⟨("Minus", some "sign"), "sign", "Minus.sign", defArgs st_Minus_sign, defBody st_Minus_sign, defScope st_Minus_sign, [], []⟩
def dd51 : He.DefD := ⟨("Times", some "worth"), "worth", "Times.worth", defArgs st_Times_worth, defBody st_Times_worth, defScope st_Times_worth, [], []⟩
def dd52 : He.DefD := ⟨("Times", some "sign"), "sign", "Times.sign", defArgs st_Times_sign, defBody st_Times_sign, defScope st_Times_sign, [], []⟩
def dd53 : He.DefD := ⟨("Change", some "shown"), "shown", "Change.shown", defArgs st_Change_shown, defBody st_Change_shown, defScope st_Change_shown, [], []⟩
def dd54 : He.DefD := ⟨("Put", some "shown"), "shown", "Put.shown", defArgs st_Put_shown, defBody st_Put_shown, defScope st_Put_shown, [], []⟩
def dd55 : He.DefD := ⟨("Any", some "shown"), "shown", "Any.shown", defArgs st_Any_shown, defBody st_Any_shown, defScope st_Any_shown, [], []⟩
def dd56 : He.DefD := ⟨("Machine", some "first"), "first", "Machine.first", defArgs st_Machine_first, defBody st_Machine_first, defScope st_Machine_first, [], []⟩
def dd57 : He.DefD := ⟨("Machine", some "values_in"), "values_in", "Machine.values_in", defArgs st_Machine_values_in, defBody st_Machine_values_in, defScope st_Machine_values_in, [], []⟩
def dd58 : He.DefD := ⟨("Any", some "__init__"), "__init__", "Any.__init__", defArgs st_Any___init__, defBody st_Any___init__, defScope st_Any___init__, [], []⟩
def dd59 : He.DefD := ⟨("Compared", some "__init__"), "__init__", "Compared.__init__", defArgs st_Compared___init__, defBody st_Compared___init__, defScope st_Compared___init__, [], []⟩
def dd60 : He.DefD := ⟨("Both", some "__init__"), "__init__", "Both.__init__", defArgs st_Both___init__, defBody st_Both___init__, defScope st_Both___init__, [], []⟩
def dd61 : He.DefD := ⟨("Deed", some "__init__"), "__init__", "Deed.__init__", defArgs st_Deed___init__, defBody st_Deed___init__, defScope st_Deed___init__, [], []⟩
def dd62 : He.DefD := ⟨("Either", some "__init__"), "__init__", "Either.__init__", defArgs st_Either___init__, defBody st_Either___init__, defScope st_Either___init__, [], []⟩
def dd63 : He.DefD := ⟨("Machine", some "__init__"), "__init__", "Machine.__init__", defArgs st_Machine___init__, defBody st_Machine___init__, defScope st_Machine___init__, [], []⟩
def dd64 : He.DefD := ⟨("Joined", some "__init__"), "__init__", "Joined.__init__", defArgs st_Joined___init__, defBody st_Joined___init__, defScope st_Joined___init__, [], []⟩
def dd65 : He.DefD := ⟨("Named", some "__init__"), "__init__", "Named.__init__", defArgs st_Named___init__, defBody st_Named___init__, defScope st_Named___init__, [], []⟩
def dd66 : He.DefD := ⟨("Not", some "__init__"), "__init__", "Not.__init__", defArgs st_Not___init__, defBody st_Not___init__, defScope st_Not___init__, [], []⟩
def dd67 : He.DefD := ⟨("Number", some "__init__"), "__init__", "Number.__init__", defArgs st_Number___init__, defBody st_Number___init__, defScope st_Number___init__, [], []⟩
def dd68 : He.DefD := ⟨("Put", some "__init__"), "__init__", "Put.__init__", defArgs st_Put___init__, defBody st_Put___init__, defScope st_Put___init__, [], []⟩
def dd69 : He.DefD := ⟨("Tie", some "__init__"), "__init__", "Tie.__init__", defArgs st_Tie___init__, defBody st_Tie___init__, defScope st_Tie___init__, [], []⟩
def dd70 : He.DefD := ⟨("Change", some "__init__"), "__init__", "Change.__init__", defArgs st_Change___init__, defBody st_Change___init__, defScope st_Change___init__, [], []⟩
def fnl0 : List He.DefD := [dd0, dd1, dd2, dd3, dd4, dd5, dd6, dd7, dd8, dd9, dd10, dd11, dd12, dd13, dd14, dd15, dd16, dd17, dd18, dd19, dd20, dd21, dd22, dd23, dd24, dd25, dd26, dd27, dd28, dd29]
def fnl1 : List He.DefD := [dd30, dd31, dd32, dd33, dd34, dd35, dd36, dd37, dd38, dd39, dd40, dd41, dd42, dd43, dd44, dd45, dd46, dd47, dd48, dd49, dd50, dd51, dd52, dd53, dd54, dd55, dd56, dd57, dd58, dd59]
def fnl2 : List He.DefD := [dd60, dd61, dd62, dd63, dd64, dd65, dd66, dd67, dd68, dd69, dd70]
def fnl : List He.DefD := fnl0 ++ (fnl1 ++ (fnl2))
theorem base_of {K : PySem.W.Frag} {h : Heap} {mg : Str → Option Value} (X : K.In h) (G : h.Ns mainGlobals mg) (c : SeenV fnl (fxs fxl) K) : Base (wdOf K) mg :=
  have k0 : fxs fxl0 K = true := (fx_l c.more)
  have k1 : fxs fxl1 K = true := (fx_l (fx_r c.more))
  have k2 : fxs fxl2 K = true := (fx_l (fx_r (fx_r c.more)))
  have k3 : fxs fxl3 K = true := (fx_l (fx_r (fx_r (fx_r c.more))))
  have k4 : fxs fxl4 K = true := (fx_l (fx_r (fx_r (fx_r (fx_r c.more)))))
  have k5 : fxs fxl5 K = true := (fx_l (fx_r (fx_r (fx_r (fx_r (fx_r c.more))))))
  have k6 : fxs fxl6 K = true := (fx_l (fx_r (fx_r (fx_r (fx_r (fx_r (fx_r c.more)))))))
  have k7 : fxs fxl7 K = true := ((fx_r (fx_r (fx_r (fx_r (fx_r (fx_r (fx_r c.more))))))))
  ⟨
    fx_free X G (fx_at k0 0 rfl),
    fx_free X G (fx_at k0 1 rfl),
    fx_free X G (fx_at k0 2 rfl),
    fx_free X G (fx_at k0 3 rfl),
    fx_free X G (fx_at k0 4 rfl),
    fx_free X G (fx_at k0 5 rfl),
    fx_free X G (fx_at k0 6 rfl),
    fx_free X G (fx_at k0 7 rfl),
    fx_free X G (fx_at k0 8 rfl),
    fx_free X G (fx_at k0 9 rfl),
    (let ⟨fd, F⟩ := c.d.def_ 0 (d := dd0) rfl; ⟨clsAt K "values_of", fd, (fx_glo X G (fx_at k0 10 rfl)), fun_of F, (fun_of (x := "values_of") (q := "values_of") (st := st_values_of) F).binds (ps := ["far", "near", "far_room", "room"]) (fun _ _ _ _ _ _ us hl => match us, hl with | [_, _, _, _], _ => by kernel_rfl)⟩),
    (let ⟨fd, F⟩ := c.d.def_ 1 (d := dd1) rfl; ⟨clsAt K "tied", fd, (fx_glo X G (fx_at k0 11 rfl)), fun_of F, (fun_of (x := "tied") (q := "tied") (st := st_tied) F).binds (ps := ["far", "near", "tie", "far_room", "room"]) (fun _ _ _ _ _ _ us hl => match us, hl with | [_, _, _, _, _], _ => by kernel_rfl)⟩),
    (let ⟨fd, F⟩ := c.d.def_ 2 (d := dd2) rfl; ⟨clsAt K "all_alike", fd, (fx_glo X G (fx_at k0 12 rfl)), fun_of F, (fun_of (x := "all_alike") (q := "all_alike") (st := st_all_alike) F).binds (ps := ["names"]) (fun _ _ _ _ _ _ us hl => match us, hl with | [_], _ => by kernel_rfl)⟩),
    (let ⟨fd, F⟩ := c.d.def_ 3 (d := dd3) rfl; ⟨clsAt K "own_tie", fd, (fx_glo X G (fx_at k0 13 rfl)), fun_of F, (fun_of (x := "own_tie") (q := "own_tie") (st := st_own_tie) F).binds (ps := ["machine"]) (fun _ _ _ _ _ _ us hl => match us, hl with | [_], _ => by kernel_rfl)⟩),
    (let ⟨fd, F⟩ := c.d.def_ 4 (d := dd4) rfl; ⟨clsAt K "_law_whole", fd, (fx_glo X G (fx_at k0 14 rfl)), fun_of F, (fun_of (x := "_law_whole") (q := "_law_whole") (st := st__law_whole) F).binds (ps := ["found"]) (fun _ _ _ _ _ _ us hl => match us, hl with | [_], _ => by kernel_rfl)⟩),
    (let ⟨fd, F⟩ := c.d.def_ 5 (d := dd5) rfl; ⟨clsAt K "_law_at", fd, (fx_glo X G (fx_at k0 15 rfl)), fun_of F, (fun_of (x := "_law_at") (q := "_law_at") (st := st__law_at) F).binds (ps := ["script", "k"]) (fun _ _ _ _ _ _ us hl => match us, hl with | [_, _], _ => by kernel_rfl)⟩),
    (let ⟨fd, F⟩ := c.d.def_ 6 (d := dd6) rfl; ⟨clsAt K "_law_begin", fd, (fx_glo X G (fx_at k0 16 rfl)), fun_of F, (fun_of (x := "_law_begin") (q := "_law_begin") (st := st__law_begin) F).binds (ps := ["cell"]) (fun _ _ _ _ _ _ us hl => match us, hl with | [_], _ => by kernel_rfl)⟩),
    (let ⟨fd, F⟩ := c.d.def_ 7 (d := dd7) rfl; ⟨clsAt K "_law_draw", fd, (fx_glo X G (fx_at k0 17 rfl)), fun_of F, (fun_of (x := "_law_draw") (q := "_law_draw") (st := st__law_draw_v2) F).binds (ps := ["state", "many"]) (fun _ _ _ _ _ _ us hl => match us, hl with | [_, _], _ => by kernel_rfl)⟩),
    (let ⟨fd, F⟩ := c.d.def_ 8 (d := dd8) rfl; ⟨clsAt K "_law_names", fd, (fx_glo X G (fx_at k0 18 rfl)), fun_of F, (fun_of (x := "_law_names") (q := "_law_names") (st := st__law_names_v2) F).binds (ps := ["cell", "many"]) (fun _ _ _ _ _ _ us hl => match us, hl with | [_, _], _ => by kernel_rfl)⟩),
    (let ⟨fd, F⟩ := c.d.def_ 9 (d := dd9) rfl; ⟨clsAt K "_law_sum", fd, (fx_glo X G (fx_at k0 19 rfl)), fun_of F, (fun_of (x := "_law_sum") (q := "_law_sum") (st := st__law_sum_v2) F).binds (ps := ["state", "names", "near", "depth"]) (fun _ _ _ _ _ _ us hl => match us, hl with | [_, _, _, _], _ => by kernel_rfl)⟩),
    (let ⟨fd, F⟩ := c.d.def_ 10 (d := dd10) rfl; ⟨clsAt K "_law_sum_of", fd, (fx_glo X G (fx_at k0 20 rfl)), fun_of F, (fun_of (x := "_law_sum_of") (q := "_law_sum_of") (st := st__law_sum_of) F).binds (ps := ["one"]) (fun _ _ _ _ _ _ us hl => match us, hl with | [_], _ => by kernel_rfl)⟩),
    (let ⟨fd, F⟩ := c.d.def_ 11 (d := dd11) rfl; ⟨clsAt K "_law_saying", fd, (fx_glo X G (fx_at k0 21 rfl)), fun_of F, (fun_of (x := "_law_saying") (q := "_law_saying") (st := st__law_saying_v2) F).binds (ps := ["state", "names", "near", "depth"]) (fun _ _ _ _ _ _ us hl => match us, hl with | [_, _, _, _], _ => by kernel_rfl)⟩),
    (let ⟨fd, F⟩ := c.d.def_ 12 (d := dd12) rfl; ⟨clsAt K "_law_saying_of", fd, (fx_glo X G (fx_at k0 22 rfl)), fun_of F, (fun_of (x := "_law_saying_of") (q := "_law_saying_of") (st := st__law_saying_of) F).binds (ps := ["one"]) (fun _ _ _ _ _ _ us hl => match us, hl with | [_], _ => by kernel_rfl)⟩),
    (let ⟨fd, F⟩ := c.d.def_ 13 (d := dd13) rfl; ⟨clsAt K "_law_places", fd, (fx_glo X G (fx_at k0 23 rfl)), fun_of F, (fun_of (x := "_law_places") (q := "_law_places") (st := st__law_places) F).binds (ps := ["script", "start", "names"]) (fun _ _ _ _ _ _ us hl => match us, hl with | [_, _, _], _ => by kernel_rfl)⟩),
    (let ⟨fd, F⟩ := c.d.def_ 14 (d := dd14) rfl; ⟨clsAt K "_law_change", fd, (fx_glo X G (fx_at k0 24 rfl)), fun_of F, (fun_of (x := "_law_change") (q := "_law_change") (st := st__law_change) F).binds (ps := ["cell", "place", "names"]) (fun _ _ _ _ _ _ us hl => match us, hl with | [_, _, _], _ => by kernel_rfl)⟩),
    (let ⟨fd, F⟩ := c.d.def_ 15 (d := dd15) rfl; ⟨clsAt K "_law_deed", fd, (fx_glo X G (fx_at k0 25 rfl)), fun_of F, (fun_of (x := "_law_deed") (q := "_law_deed") (st := st__law_deed) F).binds (ps := ["script", "start", "called", "places"]) (fun _ _ _ _ _ _ us hl => match us, hl with | [_, _, _, _], _ => by kernel_rfl)⟩),
    (let ⟨fd, F⟩ := c.d.def_ 16 (d := dd16) rfl; ⟨clsAt K "_law_machine", fd, (fx_glo X G (fx_at k0 26 rfl)), fun_of F, (fun_of (x := "_law_machine") (q := "_law_machine") (st := st__law_machine) F).binds (ps := ["script", "start", "many_names", "many_deeds"]) (fun _ _ _ _ _ _ us hl => match us, hl with | [_, _, _, _], _ => by kernel_rfl)⟩),
    (let ⟨fd, F⟩ := c.d.def_ 17 (d := dd17) rfl; ⟨clsAt K "_law_change_of", fd, (fx_glo X G (fx_at k0 27 rfl)), fun_of F, (fun_of (x := "_law_change_of") (q := "_law_change_of") (st := st__law_change_of) F).binds (ps := ["change"]) (fun _ _ _ _ _ _ us hl => match us, hl with | [_], _ => by kernel_rfl)⟩),
    (let ⟨fd, F⟩ := c.d.def_ 18 (d := dd18) rfl; ⟨clsAt K "_law_deed_of", fd, (fx_glo X G (fx_at k0 28 rfl)), fun_of F, (fun_of (x := "_law_deed_of") (q := "_law_deed_of") (st := st__law_deed_of) F).binds (ps := ["deed"]) (fun _ _ _ _ _ _ us hl => match us, hl with | [_], _ => by kernel_rfl)⟩),
    (let ⟨fd, F⟩ := c.d.def_ 19 (d := dd19) rfl; ⟨clsAt K "_law_room", fd, (fx_glo X G (fx_at k0 29 rfl)), fun_of F, (fun_of (x := "_law_room") (q := "_law_room") (st := st__law_room_v2) F).binds (ps := ["places", "cell"]) (fun _ _ _ _ _ _ us hl => match us, hl with | [_, _], _ => by kernel_rfl)⟩),
    (let ⟨fd, F⟩ := c.d.def_ 20 (d := dd20) rfl; ⟨clsAt K "_law_text", fd, (fx_glo X G (fx_at k1 0 rfl)), fun_of F, (fun_of (x := "_law_text") (q := "_law_text") (st := st__law_text_v8) F).binds (ps := ["names"]) (fun _ _ _ _ _ _ us hl => match us, hl with | [_], _ => by kernel_rfl)⟩),
    (let ⟨fd, F⟩ := c.d.def_ 21 (d := dd21) rfl; ⟨clsAt K "_law_tie_right", fd, (fx_glo X G (fx_at k1 1 rfl)), fun_of F, (fun_of (x := "_law_tie_right") (q := "_law_tie_right") (st := st__law_tie_right) F).binds (ps := ["machine", "places", "deeds", "tie"]) (fun _ _ _ _ _ _ us hl => match us, hl with | [_, _, _, _], _ => by kernel_rfl)⟩),
    (let ⟨fd, F⟩ := c.d.def_ 22 (d := dd22) rfl; ⟨clsAt K "law", fd, (fx_glo X G (fx_at k1 2 rfl)), fun_of F, (fun_of (x := "law") (q := "law") (st := st_law_k62) F).binds (ps := ["script"]) (fun _ _ _ _ _ _ us hl => match us, hl with | [_], _ => by kernel_rfl)⟩),
    (let ⟨fd, F⟩ := c.d.def_ 23 (d := dd23) rfl; ⟨metAt K "Saying" "holds", fd, fun_of F, (fun_of (x := "holds") (q := "Saying.holds") (st := st_Saying_holds) F).binds (ps := ["self", "values"]) (fun _ _ _ _ _ _ us hl => match us, hl with | [_, _], _ => by kernel_rfl), ⟨clsAt K "Saying", rfl, fx_cls (fx_at k1 3 rfl), fx_met (fx_at k1 4 rfl)⟩, ⟨clsAt K "Compared", rfl, fx_cls (fx_at k1 5 rfl), fx_met (fx_at k1 6 rfl)⟩⟩),
    (let ⟨fd, F⟩ := c.d.def_ 24 (d := dd24) rfl; ⟨metAt K "Saying" "shown", fd, fun_of F, (fun_of (x := "shown") (q := "Saying.shown") (st := st_Saying_shown) F).binds (ps := ["self"]) (fun _ _ _ _ _ _ us hl => match us, hl with | [_], _ => by kernel_rfl), ⟨clsAt K "Saying", rfl, fx_cls (fx_at k1 3 rfl), fx_met (fx_at k1 7 rfl)⟩⟩),
    (let ⟨fd, F⟩ := c.d.def_ 25 (d := dd25) rfl; ⟨metAt K "Compared" "shown", fd, fun_of F, (fun_of (x := "shown") (q := "Compared.shown") (st := st_Compared_shown) F).binds (ps := ["self"]) (fun _ _ _ _ _ _ us hl => match us, hl with | [_], _ => by kernel_rfl), ⟨clsAt K "Compared", rfl, fx_cls (fx_at k1 5 rfl), fx_met (fx_at k1 8 rfl)⟩, ⟨clsAt K "Less", rfl, fx_cls (fx_at k1 9 rfl), fx_met (fx_at k1 10 rfl)⟩, ⟨clsAt K "AtMost", rfl, fx_cls (fx_at k1 11 rfl), fx_met (fx_at k1 12 rfl)⟩, ⟨clsAt K "Equal", rfl, fx_cls (fx_at k1 13 rfl), fx_met (fx_at k1 14 rfl)⟩, ⟨clsAt K "Unlike", rfl, fx_cls (fx_at k1 15 rfl), fx_met (fx_at k1 16 rfl)⟩⟩),
    (let ⟨fd, F⟩ := c.d.def_ 26 (d := dd26) rfl; ⟨metAt K "Compared" "sign", fd, fun_of F, (fun_of (x := "sign") (q := "Compared.sign") (st := st_Compared_sign) F).binds (ps := ["self"]) (fun _ _ _ _ _ _ us hl => match us, hl with | [_], _ => by kernel_rfl), ⟨clsAt K "Compared", rfl, fx_cls (fx_at k1 5 rfl), fx_met (fx_at k1 17 rfl)⟩, ⟨clsAt K "Equal", rfl, fx_cls (fx_at k1 13 rfl), fx_met (fx_at k1 18 rfl)⟩⟩),
    (let ⟨fd, F⟩ := c.d.def_ 27 (d := dd27) rfl; ⟨metAt K "Less" "holds", fd, fun_of F, (fun_of (x := "holds") (q := "Less.holds") (st := st_Less_holds) F).binds (ps := ["self", "values"]) (fun _ _ _ _ _ _ us hl => match us, hl with | [_, _], _ => by kernel_rfl), ⟨clsAt K "Less", rfl, fx_cls (fx_at k1 9 rfl), fx_met (fx_at k1 19 rfl)⟩⟩),
    (let ⟨fd, F⟩ := c.d.def_ 28 (d := dd28) rfl; ⟨metAt K "Less" "sign", fd, fun_of F, (fun_of (x := "sign") (q := "Less.sign") (st := st_Less_sign) F).binds (ps := ["self"]) (fun _ _ _ _ _ _ us hl => match us, hl with | [_], _ => by kernel_rfl), ⟨clsAt K "Less", rfl, fx_cls (fx_at k1 9 rfl), fx_met (fx_at k1 20 rfl)⟩⟩),
    (let ⟨fd, F⟩ := c.d.def_ 29 (d := dd29) rfl; ⟨metAt K "AtMost" "holds", fd, fun_of F, (fun_of (x := "holds") (q := "AtMost.holds") (st := st_AtMost_holds) F).binds (ps := ["self", "values"]) (fun _ _ _ _ _ _ us hl => match us, hl with | [_, _], _ => by kernel_rfl), ⟨clsAt K "AtMost", rfl, fx_cls (fx_at k1 11 rfl), fx_met (fx_at k1 21 rfl)⟩⟩),
    (let ⟨fd, F⟩ := c.d.def_ 30 (d := dd30) rfl; ⟨metAt K "AtMost" "sign", fd, fun_of F, (fun_of (x := "sign") (q := "AtMost.sign") (st := st_AtMost_sign) F).binds (ps := ["self"]) (fun _ _ _ _ _ _ us hl => match us, hl with | [_], _ => by kernel_rfl), ⟨clsAt K "AtMost", rfl, fx_cls (fx_at k1 11 rfl), fx_met (fx_at k1 22 rfl)⟩⟩),
    (let ⟨fd, F⟩ := c.d.def_ 31 (d := dd31) rfl; ⟨metAt K "Equal" "holds", fd, fun_of F, (fun_of (x := "holds") (q := "Equal.holds") (st := st_Equal_holds) F).binds (ps := ["self", "values"]) (fun _ _ _ _ _ _ us hl => match us, hl with | [_, _], _ => by kernel_rfl), ⟨clsAt K "Equal", rfl, fx_cls (fx_at k1 13 rfl), fx_met (fx_at k1 23 rfl)⟩⟩),
    (let ⟨fd, F⟩ := c.d.def_ 32 (d := dd32) rfl; ⟨metAt K "Unlike" "holds", fd, fun_of F, (fun_of (x := "holds") (q := "Unlike.holds") (st := st_Unlike_holds) F).binds (ps := ["self", "values"]) (fun _ _ _ _ _ _ us hl => match us, hl with | [_, _], _ => by kernel_rfl), ⟨clsAt K "Unlike", rfl, fx_cls (fx_at k1 15 rfl), fx_met (fx_at k1 24 rfl)⟩⟩),
    (let ⟨fd, F⟩ := c.d.def_ 33 (d := dd33) rfl; ⟨metAt K "Unlike" "sign", fd, fun_of F, (fun_of (x := "sign") (q := "Unlike.sign") (st := st_Unlike_sign) F).binds (ps := ["self"]) (fun _ _ _ _ _ _ us hl => match us, hl with | [_], _ => by kernel_rfl), ⟨clsAt K "Unlike", rfl, fx_cls (fx_at k1 15 rfl), fx_met (fx_at k1 25 rfl)⟩⟩),
    (let ⟨fd, F⟩ := c.d.def_ 34 (d := dd34) rfl; ⟨metAt K "Both" "holds", fd, fun_of F, (fun_of (x := "holds") (q := "Both.holds") (st := st_Both_holds) F).binds (ps := ["self", "values"]) (fun _ _ _ _ _ _ us hl => match us, hl with | [_, _], _ => by kernel_rfl), ⟨clsAt K "Both", rfl, fx_cls (fx_at k1 26 rfl), fx_met (fx_at k1 27 rfl)⟩⟩),
    (let ⟨fd, F⟩ := c.d.def_ 35 (d := dd35) rfl; ⟨metAt K "Both" "shown", fd, fun_of F, (fun_of (x := "shown") (q := "Both.shown") (st := st_Both_shown) F).binds (ps := ["self"]) (fun _ _ _ _ _ _ us hl => match us, hl with | [_], _ => by kernel_rfl), ⟨clsAt K "Both", rfl, fx_cls (fx_at k1 26 rfl), fx_met (fx_at k1 28 rfl)⟩⟩),
    (let ⟨fd, F⟩ := c.d.def_ 36 (d := dd36) rfl; ⟨metAt K "Either" "holds", fd, fun_of F, (fun_of (x := "holds") (q := "Either.holds") (st := st_Either_holds) F).binds (ps := ["self", "values"]) (fun _ _ _ _ _ _ us hl => match us, hl with | [_, _], _ => by kernel_rfl), ⟨clsAt K "Either", rfl, fx_cls (fx_at k1 29 rfl), fx_met (fx_at k2 0 rfl)⟩⟩),
    (let ⟨fd, F⟩ := c.d.def_ 37 (d := dd37) rfl; ⟨metAt K "Either" "shown", fd, fun_of F, (fun_of (x := "shown") (q := "Either.shown") (st := st_Either_shown) F).binds (ps := ["self"]) (fun _ _ _ _ _ _ us hl => match us, hl with | [_], _ => by kernel_rfl), ⟨clsAt K "Either", rfl, fx_cls (fx_at k1 29 rfl), fx_met (fx_at k2 1 rfl)⟩⟩),
    (let ⟨fd, F⟩ := c.d.def_ 38 (d := dd38) rfl; ⟨metAt K "Not" "holds", fd, fun_of F, (fun_of (x := "holds") (q := "Not.holds") (st := st_Not_holds) F).binds (ps := ["self", "values"]) (fun _ _ _ _ _ _ us hl => match us, hl with | [_, _], _ => by kernel_rfl), ⟨clsAt K "Not", rfl, fx_cls (fx_at k2 2 rfl), fx_met (fx_at k2 3 rfl)⟩⟩),
    (let ⟨fd, F⟩ := c.d.def_ 39 (d := dd39) rfl; ⟨metAt K "Not" "shown", fd, fun_of F, (fun_of (x := "shown") (q := "Not.shown") (st := st_Not_shown) F).binds (ps := ["self"]) (fun _ _ _ _ _ _ us hl => match us, hl with | [_], _ => by kernel_rfl), ⟨clsAt K "Not", rfl, fx_cls (fx_at k2 2 rfl), fx_met (fx_at k2 4 rfl)⟩⟩),
    (let ⟨fd, F⟩ := c.d.def_ 40 (d := dd40) rfl; ⟨metAt K "Sum" "worth", fd, fun_of F, (fun_of (x := "worth") (q := "Sum.worth") (st := st_Sum_worth) F).binds (ps := ["self", "values"]) (fun _ _ _ _ _ _ us hl => match us, hl with | [_, _], _ => by kernel_rfl), ⟨clsAt K "Sum", rfl, fx_cls (fx_at k2 5 rfl), fx_met (fx_at k2 6 rfl)⟩, ⟨clsAt K "Joined", rfl, fx_cls (fx_at k2 7 rfl), fx_met (fx_at k2 8 rfl)⟩⟩),
    (let ⟨fd, F⟩ := c.d.def_ 41 (d := dd41) rfl; ⟨metAt K "Sum" "shown", fd, fun_of F, (fun_of (x := "shown") (q := "Sum.shown") (st := st_Sum_shown) F).binds (ps := ["self"]) (fun _ _ _ _ _ _ us hl => match us, hl with | [_], _ => by kernel_rfl), ⟨clsAt K "Sum", rfl, fx_cls (fx_at k2 5 rfl), fx_met (fx_at k2 9 rfl)⟩⟩),
    (let ⟨fd, F⟩ := c.d.def_ 42 (d := dd42) rfl; ⟨metAt K "Number" "worth", fd, fun_of F, (fun_of (x := "worth") (q := "Number.worth") (st := st_Number_worth) F).binds (ps := ["self", "values"]) (fun _ _ _ _ _ _ us hl => match us, hl with | [_, _], _ => by kernel_rfl), ⟨clsAt K "Number", rfl, fx_cls (fx_at k2 10 rfl), fx_met (fx_at k2 11 rfl)⟩⟩),
    (let ⟨fd, F⟩ := c.d.def_ 43 (d := dd43) rfl; ⟨metAt K "Number" "shown", fd, fun_of F, (fun_of (x := "shown") (q := "Number.shown") (st := st_Number_shown) F).binds (ps := ["self"]) (fun _ _ _ _ _ _ us hl => match us, hl with | [_], _ => by kernel_rfl), ⟨clsAt K "Number", rfl, fx_cls (fx_at k2 10 rfl), fx_met (fx_at k2 12 rfl)⟩⟩),
    (let ⟨fd, F⟩ := c.d.def_ 44 (d := dd44) rfl; ⟨metAt K "Named" "worth", fd, fun_of F, (fun_of (x := "worth") (q := "Named.worth") (st := st_Named_worth) F).binds (ps := ["self", "values"]) (fun _ _ _ _ _ _ us hl => match us, hl with | [_, _], _ => by kernel_rfl), ⟨clsAt K "Named", rfl, fx_cls (fx_at k2 13 rfl), fx_met (fx_at k2 14 rfl)⟩⟩),
    (let ⟨fd, F⟩ := c.d.def_ 45 (d := dd45) rfl; ⟨metAt K "Named" "shown", fd, fun_of F, (fun_of (x := "shown") (q := "Named.shown") (st := st_Named_shown) F).binds (ps := ["self"]) (fun _ _ _ _ _ _ us hl => match us, hl with | [_], _ => by kernel_rfl), ⟨clsAt K "Named", rfl, fx_cls (fx_at k2 13 rfl), fx_met (fx_at k2 15 rfl)⟩⟩),
    (let ⟨fd, F⟩ := c.d.def_ 46 (d := dd46) rfl; ⟨metAt K "Joined" "shown", fd, fun_of F, (fun_of (x := "shown") (q := "Joined.shown") (st := st_Joined_shown) F).binds (ps := ["self"]) (fun _ _ _ _ _ _ us hl => match us, hl with | [_], _ => by kernel_rfl), ⟨clsAt K "Joined", rfl, fx_cls (fx_at k2 7 rfl), fx_met (fx_at k2 16 rfl)⟩, ⟨clsAt K "Plus", rfl, fx_cls (fx_at k2 17 rfl), fx_met (fx_at k2 18 rfl)⟩, ⟨clsAt K "Minus", rfl, fx_cls (fx_at k2 19 rfl), fx_met (fx_at k2 20 rfl)⟩, ⟨clsAt K "Times", rfl, fx_cls (fx_at k2 21 rfl), fx_met (fx_at k2 22 rfl)⟩⟩),
    (let ⟨fd, F⟩ := c.d.def_ 47 (d := dd47) rfl; ⟨metAt K "Joined" "sign", fd, fun_of F, (fun_of (x := "sign") (q := "Joined.sign") (st := st_Joined_sign) F).binds (ps := ["self"]) (fun _ _ _ _ _ _ us hl => match us, hl with | [_], _ => by kernel_rfl), ⟨clsAt K "Joined", rfl, fx_cls (fx_at k2 7 rfl), fx_met (fx_at k2 23 rfl)⟩, ⟨clsAt K "Plus", rfl, fx_cls (fx_at k2 17 rfl), fx_met (fx_at k2 24 rfl)⟩⟩),
    (let ⟨fd, F⟩ := c.d.def_ 48 (d := dd48) rfl; ⟨metAt K "Plus" "worth", fd, fun_of F, (fun_of (x := "worth") (q := "Plus.worth") (st := st_Plus_worth) F).binds (ps := ["self", "values"]) (fun _ _ _ _ _ _ us hl => match us, hl with | [_, _], _ => by kernel_rfl), ⟨clsAt K "Plus", rfl, fx_cls (fx_at k2 17 rfl), fx_met (fx_at k2 25 rfl)⟩⟩),
    (let ⟨fd, F⟩ := c.d.def_ 49 (d := dd49) rfl; ⟨metAt K "Minus" "worth", fd, fun_of F, (fun_of (x := "worth") (q := "Minus.worth") (st := st_Minus_worth) F).binds (ps := ["self", "values"]) (fun _ _ _ _ _ _ us hl => match us, hl with | [_, _], _ => by kernel_rfl), ⟨clsAt K "Minus", rfl, fx_cls (fx_at k2 19 rfl), fx_met (fx_at k2 26 rfl)⟩⟩),
    (let ⟨fd, F⟩ := c.d.def_ 50 (d := dd50) rfl; ⟨metAt K "Minus" "sign", fd, fun_of F, (fun_of (x := "sign") (q := "Minus.sign") (st := st_Minus_sign) F).binds (ps := ["self"]) (fun _ _ _ _ _ _ us hl => match us, hl with | [_], _ => by kernel_rfl), ⟨clsAt K "Minus", rfl, fx_cls (fx_at k2 19 rfl), fx_met (fx_at k2 27 rfl)⟩⟩),
    (let ⟨fd, F⟩ := c.d.def_ 51 (d := dd51) rfl; ⟨metAt K "Times" "worth", fd, fun_of F, (fun_of (x := "worth") (q := "Times.worth") (st := st_Times_worth) F).binds (ps := ["self", "values"]) (fun _ _ _ _ _ _ us hl => match us, hl with | [_, _], _ => by kernel_rfl), ⟨clsAt K "Times", rfl, fx_cls (fx_at k2 21 rfl), fx_met (fx_at k2 28 rfl)⟩⟩),
    (let ⟨fd, F⟩ := c.d.def_ 52 (d := dd52) rfl; ⟨metAt K "Times" "sign", fd, fun_of F, (fun_of (x := "sign") (q := "Times.sign") (st := st_Times_sign) F).binds (ps := ["self"]) (fun _ _ _ _ _ _ us hl => match us, hl with | [_], _ => by kernel_rfl), ⟨clsAt K "Times", rfl, fx_cls (fx_at k2 21 rfl), fx_met (fx_at k2 29 rfl)⟩⟩),
    (let ⟨fd, F⟩ := c.d.def_ 53 (d := dd53) rfl; ⟨metAt K "Change" "shown", fd, fun_of F, (fun_of (x := "shown") (q := "Change.shown") (st := st_Change_shown) F).binds (ps := ["self"]) (fun _ _ _ _ _ _ us hl => match us, hl with | [_], _ => by kernel_rfl), ⟨clsAt K "Change", rfl, fx_cls (fx_at k3 0 rfl), fx_met (fx_at k3 1 rfl)⟩⟩),
    (let ⟨fd, F⟩ := c.d.def_ 54 (d := dd54) rfl; ⟨metAt K "Put" "shown", fd, fun_of F, (fun_of (x := "shown") (q := "Put.shown") (st := st_Put_shown) F).binds (ps := ["self"]) (fun _ _ _ _ _ _ us hl => match us, hl with | [_], _ => by kernel_rfl), ⟨clsAt K "Put", rfl, fx_cls (fx_at k3 2 rfl), fx_met (fx_at k3 3 rfl)⟩⟩),
    (let ⟨fd, F⟩ := c.d.def_ 55 (d := dd55) rfl; ⟨metAt K "Any" "shown", fd, fun_of F, (fun_of (x := "shown") (q := "Any.shown") (st := st_Any_shown) F).binds (ps := ["self"]) (fun _ _ _ _ _ _ us hl => match us, hl with | [_], _ => by kernel_rfl), ⟨clsAt K "Any", rfl, fx_cls (fx_at k3 4 rfl), fx_met (fx_at k3 5 rfl)⟩⟩),
    (let ⟨fd, F⟩ := c.d.def_ 56 (d := dd56) rfl; ⟨metAt K "Machine" "first", fd, fun_of F, (fun_of (x := "first") (q := "Machine.first") (st := st_Machine_first) F).binds (ps := ["self"]) (fun _ _ _ _ _ _ us hl => match us, hl with | [_], _ => by kernel_rfl), ⟨clsAt K "Machine", rfl, fx_cls (fx_at k3 6 rfl), fx_met (fx_at k3 7 rfl)⟩⟩),
    (let ⟨fd, F⟩ := c.d.def_ 57 (d := dd57) rfl; ⟨metAt K "Machine" "values_in", fd, fun_of F, (fun_of (x := "values_in") (q := "Machine.values_in") (st := st_Machine_values_in) F).binds (ps := ["self", "room"]) (fun _ _ _ _ _ _ us hl => match us, hl with | [_, _], _ => by kernel_rfl), ⟨clsAt K "Machine", rfl, fx_cls (fx_at k3 6 rfl), fx_met (fx_at k3 8 rfl)⟩⟩),
    (let ⟨fd, F⟩ := c.d.def_ 58 (d := dd58) rfl; ⟨metAt K "Any" "__init__", fd, fun_of F, (fun_of (x := "__init__") (q := "Any.__init__") (st := st_Any___init__) F).binds (ps := ["self", "name", "one", "other"]) (fun _ _ _ _ _ _ us hl => match us, hl with | [_, _, _, _], _ => by kernel_rfl), ⟨clsAt K "Any", rfl, fx_mak (fx_at k3 9 rfl), (fx_glo X G (fx_at k3 10 rfl))⟩⟩),
    (let ⟨fd, F⟩ := c.d.def_ 59 (d := dd59) rfl; ⟨metAt K "Compared" "__init__", fd, fun_of F, (fun_of (x := "__init__") (q := "Compared.__init__") (st := st_Compared___init__) F).binds (ps := ["self", "one", "other"]) (fun _ _ _ _ _ _ us hl => match us, hl with | [_, _, _], _ => by kernel_rfl), ⟨clsAt K "AtMost", rfl, fx_mak (fx_at k3 11 rfl), (fx_glo X G (fx_at k3 12 rfl))⟩, ⟨clsAt K "Equal", rfl, fx_mak (fx_at k3 13 rfl), (fx_glo X G (fx_at k3 14 rfl))⟩, ⟨clsAt K "Less", rfl, fx_mak (fx_at k3 15 rfl), (fx_glo X G (fx_at k3 16 rfl))⟩, ⟨clsAt K "Unlike", rfl, fx_mak (fx_at k3 17 rfl), (fx_glo X G (fx_at k3 18 rfl))⟩⟩),
    (let ⟨fd, F⟩ := c.d.def_ 60 (d := dd60) rfl; ⟨metAt K "Both" "__init__", fd, fun_of F, (fun_of (x := "__init__") (q := "Both.__init__") (st := st_Both___init__) F).binds (ps := ["self", "one", "other"]) (fun _ _ _ _ _ _ us hl => match us, hl with | [_, _, _], _ => by kernel_rfl), ⟨clsAt K "Both", rfl, fx_mak (fx_at k3 19 rfl), (fx_glo X G (fx_at k3 20 rfl))⟩⟩),
    (let ⟨fd, F⟩ := c.d.def_ 61 (d := dd61) rfl; ⟨metAt K "Deed" "__init__", fd, fun_of F, (fun_of (x := "__init__") (q := "Deed.__init__") (st := st_Deed___init__) F).binds (ps := ["self", "called", "when", "changes"]) (fun _ _ _ _ _ _ us hl => match us, hl with | [_, _, _, _], _ => by kernel_rfl), ⟨clsAt K "Deed", rfl, fx_mak (fx_at k3 21 rfl), (fx_glo X G (fx_at k3 22 rfl))⟩⟩),
    (let ⟨fd, F⟩ := c.d.def_ 62 (d := dd62) rfl; ⟨metAt K "Either" "__init__", fd, fun_of F, (fun_of (x := "__init__") (q := "Either.__init__") (st := st_Either___init__) F).binds (ps := ["self", "one", "other"]) (fun _ _ _ _ _ _ us hl => match us, hl with | [_, _, _], _ => by kernel_rfl), ⟨clsAt K "Either", rfl, fx_mak (fx_at k3 23 rfl), (fx_glo X G (fx_at k3 24 rfl))⟩⟩),
    (let ⟨fd, F⟩ := c.d.def_ 63 (d := dd63) rfl; ⟨metAt K "Machine" "__init__", fd, fun_of F, (fun_of (x := "__init__") (q := "Machine.__init__") (st := st_Machine___init__) F).binds (ps := ["self", "places", "keeps", "deeds"]) (fun _ _ _ _ _ _ us hl => match us, hl with | [_, _, _, _], _ => by kernel_rfl), ⟨clsAt K "Machine", rfl, fx_mak (fx_at k3 25 rfl), (fx_glo X G (fx_at k3 26 rfl))⟩⟩),
    (let ⟨fd, F⟩ := c.d.def_ 64 (d := dd64) rfl; ⟨metAt K "Joined" "__init__", fd, fun_of F, (fun_of (x := "__init__") (q := "Joined.__init__") (st := st_Joined___init__) F).binds (ps := ["self", "one", "other"]) (fun _ _ _ _ _ _ us hl => match us, hl with | [_, _, _], _ => by kernel_rfl), ⟨clsAt K "Minus", rfl, fx_mak (fx_at k3 27 rfl), (fx_glo X G (fx_at k3 28 rfl))⟩, ⟨clsAt K "Plus", rfl, fx_mak (fx_at k3 29 rfl), (fx_glo X G (fx_at k4 0 rfl))⟩, ⟨clsAt K "Times", rfl, fx_mak (fx_at k4 1 rfl), (fx_glo X G (fx_at k4 2 rfl))⟩⟩),
    (let ⟨fd, F⟩ := c.d.def_ 65 (d := dd65) rfl; ⟨metAt K "Named" "__init__", fd, fun_of F, (fun_of (x := "__init__") (q := "Named.__init__") (st := st_Named___init__) F).binds (ps := ["self", "name"]) (fun _ _ _ _ _ _ us hl => match us, hl with | [_, _], _ => by kernel_rfl), ⟨clsAt K "Named", rfl, fx_mak (fx_at k4 3 rfl), (fx_glo X G (fx_at k4 4 rfl))⟩⟩),
    (let ⟨fd, F⟩ := c.d.def_ 66 (d := dd66) rfl; ⟨metAt K "Not" "__init__", fd, fun_of F, (fun_of (x := "__init__") (q := "Not.__init__") (st := st_Not___init__) F).binds (ps := ["self", "one"]) (fun _ _ _ _ _ _ us hl => match us, hl with | [_, _], _ => by kernel_rfl), ⟨clsAt K "Not", rfl, fx_mak (fx_at k4 5 rfl), (fx_glo X G (fx_at k4 6 rfl))⟩⟩),
    (let ⟨fd, F⟩ := c.d.def_ 67 (d := dd67) rfl; ⟨metAt K "Number" "__init__", fd, fun_of F, (fun_of (x := "__init__") (q := "Number.__init__") (st := st_Number___init__) F).binds (ps := ["self", "number"]) (fun _ _ _ _ _ _ us hl => match us, hl with | [_, _], _ => by kernel_rfl), ⟨clsAt K "Number", rfl, fx_mak (fx_at k4 7 rfl), (fx_glo X G (fx_at k4 8 rfl))⟩⟩),
    (let ⟨fd, F⟩ := c.d.def_ 68 (d := dd68) rfl; ⟨metAt K "Put" "__init__", fd, fun_of F, (fun_of (x := "__init__") (q := "Put.__init__") (st := st_Put___init__) F).binds (ps := ["self", "name", "one"]) (fun _ _ _ _ _ _ us hl => match us, hl with | [_, _, _], _ => by kernel_rfl), ⟨clsAt K "Put", rfl, fx_mak (fx_at k4 9 rfl), (fx_glo X G (fx_at k4 10 rfl))⟩⟩),
    (let ⟨fd, F⟩ := c.d.def_ 69 (d := dd69) rfl; ⟨metAt K "Tie" "__init__", fd, fun_of F, (fun_of (x := "__init__") (q := "Tie.__init__") (st := st_Tie___init__) F).binds (ps := ["self", "saying", "table", "falling"]) (fun _ _ _ _ _ _ us hl => match us, hl with | [_, _, _, _], _ => by kernel_rfl), ⟨clsAt K "Tie", rfl, fx_mak (fx_at k4 11 rfl), (fx_glo X G (fx_at k4 12 rfl))⟩⟩),
    (let ⟨fd, F⟩ := c.d.def_ 70 (d := dd70) rfl; ⟨metAt K "Change" "__init__", fd, fun_of F, (fun_of (x := "__init__") (q := "Change.__init__") (st := st_Change___init__) F).binds (ps := ["self", "name"]) (fun _ _ _ _ _ _ us hl => match us, hl with | [_, _], _ => by kernel_rfl), ⟨clsAt K "Change", (fx_glo X G (fx_at k4 13 rfl)), (fx_cin (fx_at k4 14 rfl)).1, (fx_cin (fx_at k4 14 rfl)).2⟩⟩),
    fx_new X G (fx_at k4 15 rfl) (fx_at k4 16 rfl),
    fx_clsv X G (fx_at k4 12 rfl),
    fun h => it_of (T := ITl) (P := IsAt (wdOf K)) (List.forall_mem_cons.mpr ⟨fx_isi (fx_at k6 2 rfl) (fx_at k1 3 rfl) (fx_at k6 3 rfl) (fx_at k4 19 rfl), (List.forall_mem_cons.mpr ⟨fx_isi (fx_at k6 0 rfl) (fx_at k1 5 rfl) (fx_at k6 1 rfl) (fx_at k4 19 rfl), (List.forall_mem_cons.mpr ⟨fx_isi (fx_at k5 28 rfl) (fx_at k1 9 rfl) (fx_at k5 29 rfl) (fx_at k4 19 rfl), (List.forall_mem_cons.mpr ⟨fx_isi (fx_at k5 26 rfl) (fx_at k1 11 rfl) (fx_at k5 27 rfl) (fx_at k4 19 rfl), (List.forall_mem_cons.mpr ⟨fx_isi (fx_at k5 24 rfl) (fx_at k1 13 rfl) (fx_at k5 25 rfl) (fx_at k4 19 rfl), (List.forall_mem_cons.mpr ⟨fx_isi (fx_at k5 22 rfl) (fx_at k1 15 rfl) (fx_at k5 23 rfl) (fx_at k4 19 rfl), (List.forall_mem_cons.mpr ⟨fx_isi (fx_at k5 20 rfl) (fx_at k1 26 rfl) (fx_at k5 21 rfl) (fx_at k4 19 rfl), (List.forall_mem_cons.mpr ⟨fx_isi (fx_at k5 18 rfl) (fx_at k1 29 rfl) (fx_at k5 19 rfl) (fx_at k4 19 rfl), (List.forall_mem_cons.mpr ⟨fx_isi (fx_at k5 16 rfl) (fx_at k2 2 rfl) (fx_at k5 17 rfl) (fx_at k4 19 rfl), (List.forall_mem_cons.mpr ⟨fx_isi (fx_at k5 14 rfl) (fx_at k2 5 rfl) (fx_at k5 15 rfl) (fx_at k4 19 rfl), (List.forall_mem_cons.mpr ⟨fx_isi (fx_at k5 12 rfl) (fx_at k2 10 rfl) (fx_at k5 13 rfl) (fx_at k4 19 rfl), (List.forall_mem_cons.mpr ⟨fx_isi (fx_at k5 10 rfl) (fx_at k2 13 rfl) (fx_at k5 11 rfl) (fx_at k4 19 rfl), (List.forall_mem_cons.mpr ⟨fx_isi (fx_at k5 8 rfl) (fx_at k2 7 rfl) (fx_at k5 9 rfl) (fx_at k4 19 rfl), (List.forall_mem_cons.mpr ⟨fx_isi (fx_at k5 6 rfl) (fx_at k2 17 rfl) (fx_at k5 7 rfl) (fx_at k4 19 rfl), (List.forall_mem_cons.mpr ⟨fx_isi (fx_at k5 4 rfl) (fx_at k2 19 rfl) (fx_at k5 5 rfl) (fx_at k4 19 rfl), (List.forall_mem_cons.mpr ⟨fx_isi (fx_at k5 2 rfl) (fx_at k2 21 rfl) (fx_at k5 3 rfl) (fx_at k4 19 rfl), (List.forall_mem_cons.mpr ⟨fx_isi (fx_at k4 29 rfl) (fx_at k5 0 rfl) (fx_at k5 1 rfl) (fx_at k4 19 rfl), (List.forall_mem_cons.mpr ⟨fx_isi (fx_at k4 27 rfl) (fx_at k3 0 rfl) (fx_at k4 28 rfl) (fx_at k4 19 rfl), (List.forall_mem_cons.mpr ⟨fx_isi (fx_at k4 25 rfl) (fx_at k3 2 rfl) (fx_at k4 26 rfl) (fx_at k4 19 rfl), (List.forall_mem_cons.mpr ⟨fx_isi (fx_at k4 23 rfl) (fx_at k3 4 rfl) (fx_at k4 24 rfl) (fx_at k4 19 rfl), (List.forall_mem_cons.mpr ⟨fx_isi (fx_at k4 20 rfl) (fx_at k4 21 rfl) (fx_at k4 22 rfl) (fx_at k4 19 rfl), (List.forall_mem_cons.mpr ⟨fx_isi (fx_at k4 17 rfl) (fx_at k3 6 rfl) (fx_at k4 18 rfl) (fx_at k4 19 rfl), (List.forall_mem_nil _)⟩)⟩)⟩)⟩)⟩)⟩)⟩)⟩)⟩)⟩)⟩)⟩)⟩)⟩)⟩)⟩)⟩)⟩)⟩)⟩)⟩)⟩) h,
    fun h => ft_of (T := FTl) (P := FldAt (wdOf K)) (List.forall_mem_cons.mpr ⟨⟨clsAt K "Compared", rfl, fx_cls (fx_at k1 5 rfl), fx_noat (fx_at k7 13 rfl)⟩, (List.forall_mem_cons.mpr ⟨⟨clsAt K "Compared", rfl, fx_cls (fx_at k1 5 rfl), fx_noat (fx_at k7 12 rfl)⟩, (List.forall_mem_cons.mpr ⟨⟨clsAt K "Less", rfl, fx_cls (fx_at k1 9 rfl), fx_noat (fx_at k7 11 rfl)⟩, (List.forall_mem_cons.mpr ⟨⟨clsAt K "Less", rfl, fx_cls (fx_at k1 9 rfl), fx_noat (fx_at k7 10 rfl)⟩, (List.forall_mem_cons.mpr ⟨⟨clsAt K "AtMost", rfl, fx_cls (fx_at k1 11 rfl), fx_noat (fx_at k7 9 rfl)⟩, (List.forall_mem_cons.mpr ⟨⟨clsAt K "AtMost", rfl, fx_cls (fx_at k1 11 rfl), fx_noat (fx_at k7 8 rfl)⟩, (List.forall_mem_cons.mpr ⟨⟨clsAt K "Equal", rfl, fx_cls (fx_at k1 13 rfl), fx_noat (fx_at k7 7 rfl)⟩, (List.forall_mem_cons.mpr ⟨⟨clsAt K "Equal", rfl, fx_cls (fx_at k1 13 rfl), fx_noat (fx_at k7 6 rfl)⟩, (List.forall_mem_cons.mpr ⟨⟨clsAt K "Unlike", rfl, fx_cls (fx_at k1 15 rfl), fx_noat (fx_at k7 5 rfl)⟩, (List.forall_mem_cons.mpr ⟨⟨clsAt K "Unlike", rfl, fx_cls (fx_at k1 15 rfl), fx_noat (fx_at k7 4 rfl)⟩, (List.forall_mem_cons.mpr ⟨⟨clsAt K "Both", rfl, fx_cls (fx_at k1 26 rfl), fx_noat (fx_at k7 3 rfl)⟩, (List.forall_mem_cons.mpr ⟨⟨clsAt K "Both", rfl, fx_cls (fx_at k1 26 rfl), fx_noat (fx_at k7 2 rfl)⟩, (List.forall_mem_cons.mpr ⟨⟨clsAt K "Either", rfl, fx_cls (fx_at k1 29 rfl), fx_noat (fx_at k7 1 rfl)⟩, (List.forall_mem_cons.mpr ⟨⟨clsAt K "Either", rfl, fx_cls (fx_at k1 29 rfl), fx_noat (fx_at k7 0 rfl)⟩, (List.forall_mem_cons.mpr ⟨⟨clsAt K "Not", rfl, fx_cls (fx_at k2 2 rfl), fx_noat (fx_at k6 29 rfl)⟩, (List.forall_mem_cons.mpr ⟨⟨clsAt K "Number", rfl, fx_cls (fx_at k2 10 rfl), fx_noat (fx_at k6 28 rfl)⟩, (List.forall_mem_cons.mpr ⟨⟨clsAt K "Named", rfl, fx_cls (fx_at k2 13 rfl), fx_noat (fx_at k6 27 rfl)⟩, (List.forall_mem_cons.mpr ⟨⟨clsAt K "Joined", rfl, fx_cls (fx_at k2 7 rfl), fx_noat (fx_at k6 26 rfl)⟩, (List.forall_mem_cons.mpr ⟨⟨clsAt K "Joined", rfl, fx_cls (fx_at k2 7 rfl), fx_noat (fx_at k6 25 rfl)⟩, (List.forall_mem_cons.mpr ⟨⟨clsAt K "Plus", rfl, fx_cls (fx_at k2 17 rfl), fx_noat (fx_at k6 24 rfl)⟩, (List.forall_mem_cons.mpr ⟨⟨clsAt K "Plus", rfl, fx_cls (fx_at k2 17 rfl), fx_noat (fx_at k6 23 rfl)⟩, (List.forall_mem_cons.mpr ⟨⟨clsAt K "Minus", rfl, fx_cls (fx_at k2 19 rfl), fx_noat (fx_at k6 22 rfl)⟩, (List.forall_mem_cons.mpr ⟨⟨clsAt K "Minus", rfl, fx_cls (fx_at k2 19 rfl), fx_noat (fx_at k6 21 rfl)⟩, (List.forall_mem_cons.mpr ⟨⟨clsAt K "Times", rfl, fx_cls (fx_at k2 21 rfl), fx_noat (fx_at k6 20 rfl)⟩, (List.forall_mem_cons.mpr ⟨⟨clsAt K "Times", rfl, fx_cls (fx_at k2 21 rfl), fx_noat (fx_at k6 19 rfl)⟩, (List.forall_mem_cons.mpr ⟨⟨clsAt K "Tie", rfl, fx_cls (fx_at k5 0 rfl), fx_noat (fx_at k6 18 rfl)⟩, (List.forall_mem_cons.mpr ⟨⟨clsAt K "Tie", rfl, fx_cls (fx_at k5 0 rfl), fx_noat (fx_at k6 17 rfl)⟩, (List.forall_mem_cons.mpr ⟨⟨clsAt K "Tie", rfl, fx_cls (fx_at k5 0 rfl), fx_noat (fx_at k6 16 rfl)⟩, (List.forall_mem_cons.mpr ⟨⟨clsAt K "Change", rfl, fx_cls (fx_at k3 0 rfl), fx_noat (fx_at k6 15 rfl)⟩, (List.forall_mem_cons.mpr ⟨⟨clsAt K "Put", rfl, fx_cls (fx_at k3 2 rfl), fx_noat (fx_at k6 14 rfl)⟩, (List.forall_mem_cons.mpr ⟨⟨clsAt K "Put", rfl, fx_cls (fx_at k3 2 rfl), fx_noat (fx_at k6 13 rfl)⟩, (List.forall_mem_cons.mpr ⟨⟨clsAt K "Any", rfl, fx_cls (fx_at k3 4 rfl), fx_noat (fx_at k6 12 rfl)⟩, (List.forall_mem_cons.mpr ⟨⟨clsAt K "Any", rfl, fx_cls (fx_at k3 4 rfl), fx_noat (fx_at k6 11 rfl)⟩, (List.forall_mem_cons.mpr ⟨⟨clsAt K "Any", rfl, fx_cls (fx_at k3 4 rfl), fx_noat (fx_at k6 10 rfl)⟩, (List.forall_mem_cons.mpr ⟨⟨clsAt K "Deed", rfl, fx_cls (fx_at k4 21 rfl), fx_noat (fx_at k6 9 rfl)⟩, (List.forall_mem_cons.mpr ⟨⟨clsAt K "Deed", rfl, fx_cls (fx_at k4 21 rfl), fx_noat (fx_at k6 8 rfl)⟩, (List.forall_mem_cons.mpr ⟨⟨clsAt K "Deed", rfl, fx_cls (fx_at k4 21 rfl), fx_noat (fx_at k6 7 rfl)⟩, (List.forall_mem_cons.mpr ⟨⟨clsAt K "Machine", rfl, fx_cls (fx_at k3 6 rfl), fx_noat (fx_at k6 6 rfl)⟩, (List.forall_mem_cons.mpr ⟨⟨clsAt K "Machine", rfl, fx_cls (fx_at k3 6 rfl), fx_noat (fx_at k6 5 rfl)⟩, (List.forall_mem_cons.mpr ⟨⟨clsAt K "Machine", rfl, fx_cls (fx_at k3 6 rfl), fx_noat (fx_at k6 4 rfl)⟩, (List.forall_mem_nil _)⟩)⟩)⟩)⟩)⟩)⟩)⟩)⟩)⟩)⟩)⟩)⟩)⟩)⟩)⟩)⟩)⟩)⟩)⟩)⟩)⟩)⟩)⟩)⟩)⟩)⟩)⟩)⟩)⟩)⟩)⟩)⟩)⟩)⟩)⟩)⟩)⟩)⟩)⟩)⟩) h⟩
def loo0 : List PySem.Str := ["_wall", "Saying", "Compared", "Less", "AtMost", "Equal", "Unlike", "Both", "Either", "Not", "Sum", "Number", "Named", "Joined", "Plus", "Minus", "Times", "Tie", "values_of", "tied", "all_alike", "own_tie", "Change", "Put", "Any", "Deed", "Machine", "_law_whole", "_law_at", "_law_begin"]
def loo1 : List PySem.Str := ["_law_draw", "_law_names", "_law_sum", "_law_sum_of", "_law_saying", "_law_saying_of", "_law_places", "_law_change", "_law_deed", "_law_machine", "_law_change_of", "_law_deed_of", "_law_room", "_law_text", "_law_tie_right"]
def loo : List PySem.Str := loo0 ++ (loo1)
abbrev RR : PySem.W.OpenRow := PySem.W.OpenLaw.row PySem.Challenge.rw_nearerwork_k62_own_ties
abbrev hk : PySem.W.Hook := hookV fnl (fxs fxl)
def obT (s : PySem.W.SharedT) : LookT := lookV fnl (fxs fxl) (HandSHeadRun.getT s)
theorem obT_eq (s : PySem.W.SharedT) : obT s = hk.obs s.abs := lookV_eq (HandSHeadRun.getT_eq s)
theorem run (w : World) : HandSHeadRun.RunEq RR (PySem.W.view RR.prog [52]) hk obT 40000 loo w := by
  intro os
  kernel_rfl
theorem law_ok {K : PySem.W.Frag} {h : Heap} {mg : Str → Option Value} {w : World} {f : Addr} (X : K.In h) (G : h.Ns mainGlobals mg) (c : SeenV fnl (fxs fxl) K) (hm : mg "law" = some (.ref f)) :
    ∃ (fd : FuncData) (sp : Sp), (∀ (s : Shared) (u : Value), BindsTo s fd ⟨[u], []⟩ [("script", u)]) ∧ (∀ (H : Hp) (a : Addr) (ns : List Int), ns.length ≤ 63 → SqL K H a (ns.map V.int) → sp [.ref a] H (fun v _ => v = .bl true) fun _ _ _ => False) ∧
      ∀ b : Heap, K.In b → b.Ns mainGlobals mg → FnOk PySem.Challenge.rw_nearerwork_k62_own_ties.prog w K mg b (L2.CX PySem.Challenge.rw_nearerwork_k62_own_ties.prog w) 60 f fd ["script"] sp := by
  have B := base_of X G c
  obtain ⟨fd, F⟩ := c.d.def_ 22 (d := dd22) rfl
  have k0 : fxs fxl0 K = true := (fx_l c.more)
  have k1 : fxs fxl1 K = true := (fx_l (fx_r c.more))
  have k2 : fxs fxl2 K = true := (fx_l (fx_r (fx_r c.more)))
  have k3 : fxs fxl3 K = true := (fx_l (fx_r (fx_r (fx_r c.more))))
  have k4 : fxs fxl4 K = true := (fx_l (fx_r (fx_r (fx_r (fx_r c.more)))))
  have k5 : fxs fxl5 K = true := (fx_l (fx_r (fx_r (fx_r (fx_r (fx_r c.more))))))
  have k6 : fxs fxl6 K = true := (fx_l (fx_r (fx_r (fx_r (fx_r (fx_r (fx_r c.more)))))))
  have k7 : fxs fxl7 K = true := ((fx_r (fx_r (fx_r (fx_r (fx_r (fx_r (fx_r c.more))))))))
  have e := hm.symm.trans (fx_glo X G (fx_at k1 2 rfl))
  cases e
  have b := FunD.bindsA (ps := ["script"]) F fun _ _ _ _ _ _ us hl => match us, hl with | [_], _ => rfl
  exact ⟨fd, spL K, fun s u => b s [u] rfl, fun H a ns hl S => ⟨a, ns, rfl, hl, S, fun _ _ e => e⟩, fun _ _ _ => (ok_law_k62 (facts_all B 29) (fun_of F)).imp fun vs H Q E h => spL_of law_true h⟩
end VI
open PySem PySem.W PySem.Calls PyProof.Rows
set_option maxHeartbeats 0 in
theorem PySem.Challenge.cw_nearerwork_k62_own_ties_holds : PySem.Challenge.rw_nearerwork_k62_own_ties.Holds := by
  w_on; o_law
  refine HandSHeadRun.head_any (r := VI.RR) (q := view VI.RR.prog [52]) (H := VI.hk) (ob := VI.obT) (M := 40000) (loose := VI.loo) (d := HandSHeadRun.topDef VI.RR.prog 52) (kwd := []) VI.obT_eq
    (by kernel_rfl) (fun s => by kernel_rfl) VI.run (by kernel_rfl) (by kernel_rfl) (by kernel_rfl) (by rfl) (by first | assumption | decide +kernel) (by decide +kernel) ⟨rfl, rfl, rfl, rfl, rfl, by decide +kernel⟩ ?hw ?hc
  case hw => w_witness2
  case hc =>
    refine VI.law_end (l := PySem.Challenge.rw_nearerwork_k62_own_ties) (n := 63) (k := 60) (x := "script") rfl (by decide) (by kernel_rfl) ⟨rfl, by decide, by decide⟩ ?F
    intro w mg fa h Y G hm0
    obtain ⟨K, KX, c⟩ := Y
    have hm : mg ("law" : PySem.Str) = some (.ref fa) := by
      have e : (HandSHeadRun.topDef VI.RR.prog 52).name = ("law" : PySem.Str) := by kernel_rfl
      rw [← e]
      exact hm0
    obtain ⟨fd, sp, h1, h2, h3⟩ := VI.law_ok KX G c hm
    exact ⟨K, fd, sp, KX, h1, h2, h3⟩
