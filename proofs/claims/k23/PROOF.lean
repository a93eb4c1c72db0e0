import PyProof.Rows.All
import Wide.All
import OpenK.AllK
import Wide.FinOn
import HandS.ForMost
import HandS.ExcInit
import HandS.Defaults
import HandS.Iter
import HandS.IsInst
import HandS.Wide
import HandS.Flow
import HandS.DictEq
import HandS.Codes
import HandS.Property
import HandS.DictComp
import HandS.ListItems
import HandS.DictTup
import KE.SortCalls
import HandS.Strs
import PyProof.ListStr
import HandS.More
import HandS.Conv
import HandS.Exc
import HandS.ExcOwn
import HandS.ExcIs
import HandS.WordsExc
import KE.KExcSuper
import KE.KExcIs
import HandS.ExcValue
import HandS.ExcField
import HandS.HeadHook1
import PyProof.ReprRoads
import PyProof.CallFns
import HandS.HeadEnd
import HandS.Style
import HandS.NoneIn
import PyProof.StrOps2
import HandS.Lambda
import HandS.HeadHook4
import HandS.ReplaceLit
import HandS.ReplaceList
import HandS.Deep
import HandS.Comp
import KE.KDictZip
import HandS.TupSets
import PyProof.EqKinds
import PyProof.P3In
import PyProof.NeKinds
import HandS.Head0
import HandS.Head1
import HandS.Head2
import HandS.HeadHook2
import HandS.HeadHook3
import PySem.Challenge.RW_wordjoins_k23_rings_judged
set_option Elab.async false
set_option linter.all false
set_option maxRecDepth 100000
set_option maxHeartbeats 2000000
/-! WjA: data read off the abstract heap, heaps kept outside a list of places, expressions by the data they give -/
namespace WJ
open PySem L2

/-- all but the places of B is kept -/
def Kp (B : List Addr) (H H' : Hp) : Prop := ∀ a o, a ∉ B → H a = some o → H' a = some o
section
variable {B C : List Addr} {H H1 H2 : Hp} {a : Addr} {o : HO}
theorem Kp.refl : Kp B H H := fun _ _ _ h => h
theorem Kp.trans (k : Kp B H H1) (k' : Kp B H1 H2) : Kp B H H2 := fun a o n h => k' a o n (k a o n h)
theorem Kp.more (k : Kp C H H1) (s : ∀ b ∈ C, b ∈ B) : Kp B H H1 := fun a o n h => k a o (fun z => n (s a z)) h
theorem Kp.all (k : Kp [] H H1) : Kp B H H1 := k.more (fun _ z => nomatch z)
theorem Kp.new (h : H a = none) : Kp B H (upd H a o) := fun b u _ e => by
  rw [upd_ne (ne_of_none e h)]
  exact e
theorem Kp.mut (h : a ∈ B) : Kp B H (upd H a o) := fun b u n e => by
  rw [upd_ne (fun z => n (by rw [z]; exact h))]
  exact e
/-- an object that the first heap did not know may change -/
theorem Kp.late (k : Kp B H H1) (h : H a = none) : Kp B H (upd H1 a o) := fun b u n e => by
  rw [upd_ne (ne_of_none e h)]
  exact k b u n e
theorem Kp.back (k : Kp [] H H1) (h : H1 a = none) : H a = none := by
  cases e : H a with
  | none => rfl
  | some u =>
    rw [k a u (fun z => nomatch z) e] at h
    cases h
theorem Kp.backB (k : Kp B H H1) (n : a ∉ B) (h : H1 a = none) : H a = none := by
  cases e : H a with
  | none => rfl
  | some u =>
    rw [k a u n e] at h
    cases h
theorem Kp.rd {u : HO} (k : Kp B H H1) (n : a ∉ B) (h : Rd H a u) : Rd H1 a u := by
  rcases h with h | ⟨o, h⟩
  · exact Or.inl (k a _ n h)
  · exact Or.inr ⟨o, k a _ n h⟩
end

/-- what may be locked meanwhile -/
def still : HO → Bool
  | .dK _ => false
  | .frz _ _ => false
  | _ => true
def seen : HO → Bool
  | .dK _ => true
  | .tup _ => true
  | .lst _ => true
  | _ => false
/-- kept, but that a dict may be locked or unlocked -/
structure Kq (B : List Addr) (H H' : Hp) : Prop where
  rd : ∀ a u, a ∉ B → seen u = true → Rd H a u → Rd H' a u
  ex : ∀ a o, a ∉ B → still o = true → H a = some o → H' a = some o
theorem Kp.q {B : List Addr} {H H1 : Hp} (k : Kp B H H1) : Kq B H H1 := ⟨fun a u n _ h => k.rd n h, fun a o n _ h => k a o n h⟩
theorem Kq.lock {B : List Addr} {H : Hp} {a : Addr} {kvs : List (Key × V)} (od : Obj) (h : H a = some (.dK kvs)) : Kq B H (upd H a (.frz od (.dK kvs))) := by
  refine ⟨fun b u n _ r => ?_, fun b o n t e => ?_⟩
  · by_cases hb : b = a
    · subst hb
      rcases r with r | ⟨ob, r⟩
      · rw [h] at r
        cases r
        exact Or.inr ⟨od, upd_same⟩
      · rw [h] at r
        cases r
    · unfold Rd
      rw [upd_ne hb]
      exact r
  · by_cases hb : b = a
    · subst hb
      rw [h] at e
      cases e
      cases t
    · rw [upd_ne hb]
      exact e
theorem Kq.unlock {B : List Addr} {H : Hp} {a : Addr} {kvs : List (Key × V)} {od : Obj} (h : H a = some (.frz od (.dK kvs))) : Kq B H (upd H a (.dK kvs)) := by
  refine ⟨fun b u n sn r => ?_, fun b o n t e => ?_⟩
  · by_cases hb : b = a
    · subst hb
      rcases r with r | ⟨ob, r⟩
      · rw [h] at r
        cases r
        cases sn
      · rw [h] at r
        cases r
        exact Or.inl upd_same
    · unfold Rd
      rw [upd_ne hb]
      exact r
  · by_cases hb : b = a
    · subst hb
      rw [h] at e
      cases e
      cases t
    · rw [upd_ne hb]
      exact e
/-- data: what a value stands for, as a tree; obj a: the object at a itself -/
inductive Da where
  | non | bl (b : Bool) | int (i : Int) | str (x : Str) | lst (xs : List Da) | tup (xs : List Da) | dct (kvs : List (Key × Da)) | ins (C : Addr) (fs : List (Str × Da)) | obj (a : Addr) | ty (n : String) | exc (cls : Value) (fs : List (Str × Da))
/-- an exception that was caught, at a -/
def EO (cls : Value) (d : Option Addr) (a : Addr) : HO := .ext fun h => ∃ oe : Obj, h.get? a = some oe ∧ Zc cls d oe ∧ ∃ vs, oe.data = .fields vs
/-- its fields -/
def XDt (H : Hp) (dx : Addr) (xs : List (Str × V)) : Prop := H dx = some (exd dx xs) ∨ H dx = some (.xd xs)
def EF (B : List Addr) (H : Hp) (d : Option Addr) (xs : List (Str × V)) : Prop := (d = none ∧ xs = []) ∨ ∃ dx, d = some dx ∧ xs ≠ [] ∧ dx ∉ B ∧ XDt H dx xs

/-- a list, a tuple read at a: tracked and out of B, or written in the module -/
def SLb (K : PySem.W.Frag) (B : List Addr) (H : Hp) (a : Addr) (xs : List V) : Prop := (a ∉ B ∧ Rd H a (.lst xs)) ∨ SqL K (fun _ => none) a xs
def STb (K : PySem.W.Frag) (B : List Addr) (H : Hp) (a : Addr) (xs : List V) : Prop := (a ∉ B ∧ Rd H a (.tup xs)) ∨ SqT K (fun _ => none) a xs
theorem rd_none {a : Addr} {u : HO} (h : Rd (fun _ => none) a u) : False := by
  rcases h with h | ⟨o, h⟩ <;> cases h
section
variable {K : PySem.W.Frag} {B C : List Addr} {H H1 : Hp} {a : Addr} {xs : List V}
theorem SLb.sq (h : SLb K B H a xs) : SqL K H a xs := by
  rcases h with h | h | h
  · exact Or.inl h.2
  · exact (rd_none h).elim
  · exact Or.inr h
theorem STb.sq (h : STb K B H a xs) : SqT K H a xs := by
  rcases h with h | h | h
  · exact Or.inl h.2
  · exact (rd_none h).elim
  · exact Or.inr h
theorem SLb.mono (k : Kp B H H1) (h : SLb K B H a xs) : SLb K B H1 a xs := by
  rcases h with h | h
  · exact Or.inl ⟨h.1, k.rd h.1 h.2⟩
  · exact Or.inr h
theorem STb.mono (k : Kp B H H1) (h : STb K B H a xs) : STb K B H1 a xs := by
  rcases h with h | h
  · exact Or.inl ⟨h.1, k.rd h.1 h.2⟩
  · exact Or.inr h
theorem SLb.monoq (k : Kq B H H1) (h : SLb K B H a xs) : SLb K B H1 a xs := by
  rcases h with h | h
  · exact Or.inl ⟨h.1, k.rd _ _ h.1 rfl h.2⟩
  · exact Or.inr h
theorem STb.monoq (k : Kq B H H1) (h : STb K B H a xs) : STb K B H1 a xs := by
  rcases h with h | h
  · exact Or.inl ⟨h.1, k.rd _ _ h.1 rfl h.2⟩
  · exact Or.inr h
theorem SLb.of (n : a ∉ B) (h : H a = some (.lst xs)) : SLb K B H a xs := Or.inl ⟨n, Or.inl h⟩
theorem STb.of (n : a ∉ B) (h : H a = some (.tup xs)) : STb K B H a xs := Or.inl ⟨n, Or.inl h⟩
end

mutual
/-- the value v stands for the data d; all places lie out of B -/
def Dat (K : PySem.W.Frag) (B : List Addr) (H : Hp) : V → Da → Prop
  | v, .non => v = .non
  | v, .bl b => v = .bl b
  | v, .int i => v = .int i
  | v, .str x => v = .str x
  | v, .lst ds => ∃ a xs, v = .ref a ∧ SLb K B H a xs ∧ Dats K B H xs ds
  | v, .tup ds => ∃ a xs, v = .ref a ∧ STb K B H a xs ∧ Dats K B H xs ds
  | v, .dct es => ∃ a kvs, v = .ref a ∧ (a ∉ B ∧ Rd H a (.dK kvs)) ∧ Datk K B H kvs es
  | v, .ins C fs => ∃ a dx xs, v = .ref a ∧ (a ∉ B ∧ H a = some (.ins C dx xs)) ∧ Datf K B H xs fs
  | v, .obj a => v = .ref a
  | v, .ty n => v = .ty n
  | v, .exc cls fs => ∃ a d xs, v = .ref a ∧ (a ∉ B ∧ H a = some (EO cls d a)) ∧ EF B H d xs ∧ Datf K B H xs fs
def Dats (K : PySem.W.Frag) (B : List Addr) (H : Hp) : List V → List Da → Prop
  | vs, [] => vs = []
  | vs, d :: ds => ∃ v r, vs = v :: r ∧ Dat K B H v d ∧ Dats K B H r ds
def Datk (K : PySem.W.Frag) (B : List Addr) (H : Hp) : List (Key × V) → List (Key × Da) → Prop
  | vs, [] => vs = []
  | vs, (k, d) :: ds => ∃ v r, vs = (k, v) :: r ∧ Dat K B H v d ∧ Datk K B H r ds
def Datf (K : PySem.W.Frag) (B : List Addr) (H : Hp) : List (Str × V) → List (Str × Da) → Prop
  | vs, [] => vs = []
  | vs, (k, d) :: ds => ∃ v r, vs = (k, v) :: r ∧ Dat K B H v d ∧ Datf K B H r ds
end

section
variable {K : PySem.W.Frag} {B C : List Addr} {H H1 : Hp}
mutual
theorem Dat.monoq (k : Kq B H H1) : ∀ (d : Da) (v : V), Dat K B H v d → Dat K B H1 v d
  | .non, _, h => by unfold Dat at h ⊢; exact h
  | .bl _, _, h => by unfold Dat at h ⊢; exact h
  | .int _, _, h => by unfold Dat at h ⊢; exact h
  | .str _, _, h => by unfold Dat at h ⊢; exact h
  | .lst ds, _, h => by
    unfold Dat at h ⊢
    obtain ⟨a, xs, e, s, t⟩ := h
    exact ⟨a, xs, e, s.monoq k, Dats.monoq k ds xs t⟩
  | .tup ds, _, h => by
    unfold Dat at h ⊢
    obtain ⟨a, xs, e, s, t⟩ := h
    exact ⟨a, xs, e, s.monoq k, Dats.monoq k ds xs t⟩
  | .dct es, _, h => by
    unfold Dat at h ⊢
    obtain ⟨a, xs, e, s, t⟩ := h
    exact ⟨a, xs, e, ⟨s.1, k.rd _ _ s.1 rfl s.2⟩, Datk.monoq k es xs t⟩
  | .ins C fs, _, h => by
    unfold Dat at h ⊢
    obtain ⟨a, dx, xs, e, s, t⟩ := h
    exact ⟨a, dx, xs, e, ⟨s.1, k.ex a _ s.1 rfl s.2⟩, Datf.monoq k fs xs t⟩
  | .obj _, _, h => by unfold Dat at h ⊢; exact h
  | .ty _, _, h => by unfold Dat at h ⊢; exact h
  | .exc cls fs, _, h => by
    unfold Dat at h ⊢
    obtain ⟨a, d, xs, e, s, f, t⟩ := h
    refine ⟨a, d, xs, e, ⟨s.1, k.ex a _ s.1 rfl s.2⟩, ?_, Datf.monoq k fs xs t⟩
    rcases f with f | ⟨dx, f1, f0, f2, f3⟩
    · exact Or.inl f
    · exact Or.inr ⟨dx, f1, f0, f2, f3.imp (k.ex dx _ f2 rfl) (k.ex dx _ f2 rfl)⟩
theorem Dats.monoq (k : Kq B H H1) : ∀ (ds : List Da) (vs : List V), Dats K B H vs ds → Dats K B H1 vs ds
  | [], _, h => by unfold Dats at h ⊢; exact h
  | d :: ds, _, h => by
    unfold Dats at h ⊢
    obtain ⟨v, r, e, s, t⟩ := h
    exact ⟨v, r, e, Dat.monoq k d v s, Dats.monoq k ds r t⟩
theorem Datk.monoq (k : Kq B H H1) : ∀ (ds : List (Key × Da)) (vs : List (Key × V)), Datk K B H vs ds → Datk K B H1 vs ds
  | [], _, h => by unfold Datk at h ⊢; exact h
  | (q, d) :: ds, _, h => by
    unfold Datk at h ⊢
    obtain ⟨v, r, e, s, t⟩ := h
    exact ⟨v, r, e, Dat.monoq k d v s, Datk.monoq k ds r t⟩
theorem Datf.monoq (k : Kq B H H1) : ∀ (ds : List (Str × Da)) (vs : List (Str × V)), Datf K B H vs ds → Datf K B H1 vs ds
  | [], _, h => by unfold Datf at h ⊢; exact h
  | (q, d) :: ds, _, h => by
    unfold Datf at h ⊢
    obtain ⟨v, r, e, s, t⟩ := h
    exact ⟨v, r, e, Dat.monoq k d v s, Datf.monoq k ds r t⟩
end
theorem Dat.mono (k : Kp B H H1) (d : Da) (v : V) (h : Dat K B H v d) : Dat K B H1 v d := Dat.monoq k.q d v h
theorem Dats.mono (k : Kp B H H1) (ds : List Da) (vs : List V) (h : Dats K B H vs ds) : Dats K B H1 vs ds := Dats.monoq k.q ds vs h
theorem Datk.mono (k : Kp B H H1) (ds : List (Key × Da)) (vs : List (Key × V)) (h : Datk K B H vs ds) : Datk K B H1 vs ds := Datk.monoq k.q ds vs h
theorem Datf.mono (k : Kp B H H1) (ds : List (Str × Da)) (vs : List (Str × V)) (h : Datf K B H vs ds) : Datf K B H1 vs ds := Datf.monoq k.q ds vs h
/-- data that stands lies apart from what is new -/
theorem bar_out {u : HO} {a : Addr} (n : ∀ b ∈ C, b ∈ B ∨ H b = none) (h : a ∉ B) (r : Rd H a u) : a ∉ C := fun z => by
  rcases n a z with q | q
  · exact h q
  · rcases r with r | ⟨o, r⟩ <;> (rw [q] at r; cases r)
theorem SLb.bar {a : Addr} {xs : List V} (n : ∀ b ∈ C, b ∈ B ∨ H b = none) (h : SLb K B H a xs) : SLb K C H a xs := by
  rcases h with h | h
  · exact Or.inl ⟨bar_out n h.1 h.2, h.2⟩
  · exact Or.inr h
theorem STb.bar {a : Addr} {xs : List V} (n : ∀ b ∈ C, b ∈ B ∨ H b = none) (h : STb K B H a xs) : STb K C H a xs := by
  rcases h with h | h
  · exact Or.inl ⟨bar_out n h.1 h.2, h.2⟩
  · exact Or.inr h
mutual
theorem Dat.bar (n : ∀ b ∈ C, b ∈ B ∨ H b = none) : ∀ (d : Da) (v : V), Dat K B H v d → Dat K C H v d
  | .non, _, h => by unfold Dat at h ⊢; exact h
  | .bl _, _, h => by unfold Dat at h ⊢; exact h
  | .int _, _, h => by unfold Dat at h ⊢; exact h
  | .str _, _, h => by unfold Dat at h ⊢; exact h
  | .lst ds, _, h => by
    unfold Dat at h ⊢
    obtain ⟨a, xs, e, s, t⟩ := h
    exact ⟨a, xs, e, s.bar n, Dats.bar n ds xs t⟩
  | .tup ds, _, h => by
    unfold Dat at h ⊢
    obtain ⟨a, xs, e, s, t⟩ := h
    exact ⟨a, xs, e, s.bar n, Dats.bar n ds xs t⟩
  | .dct es, _, h => by
    unfold Dat at h ⊢
    obtain ⟨a, xs, e, s, t⟩ := h
    exact ⟨a, xs, e, ⟨bar_out n s.1 s.2, s.2⟩, Datk.bar n es xs t⟩
  | .ins C fs, _, h => by
    unfold Dat at h ⊢
    obtain ⟨a, dx, xs, e, s, t⟩ := h
    exact ⟨a, dx, xs, e, ⟨bar_out n s.1 (Or.inl s.2), s.2⟩, Datf.bar n fs xs t⟩
  | .obj _, _, h => by unfold Dat at h ⊢; exact h
  | .ty _, _, h => by unfold Dat at h ⊢; exact h
  | .exc cls fs, _, h => by
    unfold Dat at h ⊢
    obtain ⟨a, d, xs, e, s, f, t⟩ := h
    refine ⟨a, d, xs, e, ⟨bar_out n s.1 (Or.inl s.2), s.2⟩, ?_, Datf.bar n fs xs t⟩
    rcases f with f | ⟨dx, f1, f0, f2, f3⟩
    · exact Or.inl f
    · refine Or.inr ⟨dx, f1, f0, ?_, f3⟩
      rcases f3 with z | z
      · exact bar_out n f2 (Or.inl z)
      · exact bar_out n f2 (Or.inl z)
theorem Dats.bar (n : ∀ b ∈ C, b ∈ B ∨ H b = none) : ∀ (ds : List Da) (vs : List V), Dats K B H vs ds → Dats K C H vs ds
  | [], _, h => by unfold Dats at h ⊢; exact h
  | d :: ds, _, h => by
    unfold Dats at h ⊢
    obtain ⟨v, r, e, s, t⟩ := h
    exact ⟨v, r, e, Dat.bar n d v s, Dats.bar n ds r t⟩
theorem Datk.bar (n : ∀ b ∈ C, b ∈ B ∨ H b = none) : ∀ (ds : List (Key × Da)) (vs : List (Key × V)), Datk K B H vs ds → Datk K C H vs ds
  | [], _, h => by unfold Datk at h ⊢; exact h
  | (q, d) :: ds, _, h => by
    unfold Datk at h ⊢
    obtain ⟨v, r, e, s, t⟩ := h
    exact ⟨v, r, e, Dat.bar n d v s, Datk.bar n ds r t⟩
theorem Datf.bar (n : ∀ b ∈ C, b ∈ B ∨ H b = none) : ∀ (ds : List (Str × Da)) (vs : List (Str × V)), Datf K B H vs ds → Datf K C H vs ds
  | [], _, h => by unfold Datf at h ⊢; exact h
  | (q, d) :: ds, _, h => by
    unfold Datf at h ⊢
    obtain ⟨v, r, e, s, t⟩ := h
    exact ⟨v, r, e, Dat.bar n d v s, Datf.bar n ds r t⟩
end
theorem put_bar {l : Addr} (n : H l = none) : ∀ b ∈ l :: B, b ∈ B ∨ H b = none := fun b hb => by
  rcases List.mem_cons.mp hb with z | z
  · exact Or.inr (by rw [z]; exact n)
  · exact Or.inl z
theorem sub_bar (s : ∀ b ∈ C, b ∈ B) : ∀ b ∈ C, b ∈ B ∨ H b = none := fun b hb => Or.inl (s b hb)
theorem Dat.put {l : Addr} (n : H l = none) (d : Da) (v : V) (h : Dat K B H v d) : Dat K (l :: B) H v d := Dat.bar (put_bar n) d v h
theorem Dats.put {l : Addr} (n : H l = none) (d : List Da) (v : List V) (h : Dats K B H v d) : Dats K (l :: B) H v d := Dats.bar (put_bar n) d v h
theorem Datk.put {l : Addr} (n : H l = none) (d : List (Key × Da)) (v : List (Key × V)) (h : Datk K B H v d) : Datk K (l :: B) H v d := Datk.bar (put_bar n) d v h
theorem Datf.put {l : Addr} (n : H l = none) (d : List (Str × Da)) (v : List (Str × V)) (h : Datf K B H v d) : Datf K (l :: B) H v d := Datf.bar (put_bar n) d v h
theorem Datf.sub (s : ∀ b ∈ C, b ∈ B) (d : List (Str × Da)) (v : List (Str × V)) (h : Datf K B H v d) : Datf K C H v d := Datf.bar (sub_bar s) d v h
theorem Dat.sub (s : ∀ b ∈ C, b ∈ B) (d : Da) (v : V) (h : Dat K B H v d) : Dat K C H v d := Dat.bar (sub_bar s) d v h
theorem Dats.sub (s : ∀ b ∈ C, b ∈ B) (d : List Da) (v : List V) (h : Dats K B H v d) : Dats K C H v d := Dats.bar (sub_bar s) d v h
theorem Datk.sub (s : ∀ b ∈ C, b ∈ B) (d : List (Key × Da)) (v : List (Key × V)) (h : Datk K B H v d) : Datk K C H v d := Datk.bar (sub_bar s) d v h
end

/-- from (B, H) to (B', H'): what changed lies in B, what is newly barred was new -/
structure Mv (B : List Addr) (H : Hp) (B' : List Addr) (H' : Hp) : Prop where
  bar : ∀ b ∈ B', b ∈ B ∨ H b = none
  kp : Kp B H H'
section
variable {K : PySem.W.Frag} {B B' B2 : List Addr} {H H' H2 : Hp}
theorem Mv.refl : Mv B H B H := ⟨fun _ h => Or.inl h, Kp.refl⟩
theorem Mv.of (k : Kp B H H') : Mv B H B H' := ⟨fun _ h => Or.inl h, k⟩
theorem Mv.trans (m : Mv B H B' H') (n : Mv B' H' B2 H2) : Mv B H B2 H2 := by
  refine ⟨fun b hb => ?_, fun a o na e => ?_⟩
  · rcases n.bar b hb with q | q
    · exact m.bar b q
    · by_cases hB : b ∈ B
      · exact Or.inl hB
      · exact Or.inr (m.kp.backB hB q)
  · refine n.kp a o (fun z => ?_) (m.kp a o na e)
    rcases m.bar a z with q | q
    · exact na q
    · rw [e] at q
      cases q
theorem Mv.sub (m : Mv B H B' H') (s : ∀ b ∈ B2, b ∈ B') : Mv B H B2 H' := ⟨fun b hb => m.bar b (s b hb), m.kp⟩
theorem Mv.both (m : Mv B H B' H') : ∀ b ∈ B ++ B', b ∈ B ∨ H b = none := fun b hb => by
  rcases List.mem_append.mp hb with q | q
  · exact Or.inl q
  · exact m.bar b q
theorem Dat.mv (m : Mv B H B' H') (d : Da) (v : V) (h : Dat K B H v d) : Dat K B' H' v d :=
  Dat.sub (fun b hb => List.mem_append_right B hb) d v (Dat.mono (m.kp.more fun b hb => List.mem_append_left B' hb) d v (Dat.bar m.both d v h))
theorem Dats.mv (m : Mv B H B' H') (d : List Da) (v : List V) (h : Dats K B H v d) : Dats K B' H' v d :=
  Dats.sub (fun b hb => List.mem_append_right B hb) d v (Dats.mono (m.kp.more fun b hb => List.mem_append_left B' hb) d v (Dats.bar m.both d v h))
theorem Datk.mv (m : Mv B H B' H') (d : List (Key × Da)) (v : List (Key × V)) (h : Datk K B H v d) : Datk K B' H' v d :=
  Datk.sub (fun b hb => List.mem_append_right B hb) d v (Datk.mono (m.kp.more fun b hb => List.mem_append_left B' hb) d v (Datk.bar m.both d v h))
end

/-! ### lists of data -/
section
variable {K : PySem.W.Frag} {B : List Addr} {H : Hp}
theorem Dats.length : ∀ {ds : List Da} {vs : List V}, Dats K B H vs ds → vs.length = ds.length
  | [], _, h => by
    unfold Dats at h
    rw [h]; rfl
  | d :: ds, _, h => by
    unfold Dats at h
    obtain ⟨v, r, rfl, _, t⟩ := h
    rw [List.length_cons, List.length_cons, Dats.length t]
theorem Dats.nil : Dats K B H [] [] := by unfold Dats; rfl
theorem Dats.cons {v : V} {vs : List V} {d : Da} {ds : List Da} (h : Dat K B H v d) (t : Dats K B H vs ds) : Dats K B H (v :: vs) (d :: ds) := by
  unfold Dats
  exact ⟨v, vs, rfl, h, t⟩
theorem Dats.one {v : V} {d : Da} (h : Dat K B H v d) : Dats K B H [v] [d] := .cons h .nil
theorem Dats.append : ∀ {ds : List Da} {vs ws : List V} {es : List Da}, Dats K B H vs ds → Dats K B H ws es → Dats K B H (vs ++ ws) (ds ++ es)
  | [], _, _, _, h, h' => by
    unfold Dats at h
    rw [h]; exact h'
  | d :: ds, _, _, _, h, h' => by
    unfold Dats at h
    obtain ⟨v, r, rfl, s, t⟩ := h
    exact .cons s (Dats.append t h')
theorem Dats.get : ∀ {ds : List Da} {vs : List V} {i : Nat} {v : V}, Dats K B H vs ds → vs[i]? = some v → ∃ d, ds[i]? = some d ∧ Dat K B H v d
  | [], _, i, v, h, e => by
    unfold Dats at h
    rw [h] at e
    cases e
  | d :: ds, _, i, v, h, e => by
    unfold Dats at h
    obtain ⟨w, r, rfl, s, t⟩ := h
    cases i with
    | zero =>
      cases e
      exact ⟨d, rfl, s⟩
    | succ i =>
      obtain ⟨d', e', s'⟩ := Dats.get (i := i) t (by simpa using e)
      exact ⟨d', by simpa using e', s'⟩
theorem Dats.get' : ∀ {ds : List Da} {vs : List V} {i : Nat} {d : Da}, Dats K B H vs ds → ds[i]? = some d → ∃ v, vs[i]? = some v ∧ Dat K B H v d := fun {ds vs i d} h e => by
  have hl : i < vs.length := by
    rw [h.length]
    exact (List.getElem?_eq_some_iff.mp e).1
  obtain ⟨d', e', s⟩ := h.get (List.getElem?_eq_getElem hl)
  rw [e] at e'
  cases e'
  exact ⟨_, List.getElem?_eq_getElem hl, s⟩
theorem Dats.drop : ∀ {ds : List Da} {vs : List V} (n : Nat), Dats K B H vs ds → Dats K B H (vs.drop n) (ds.drop n)
  | ds, vs, 0, h => by simpa using h
  | [], _, n + 1, h => by
    unfold Dats at h
    rw [h]
    simpa using Dats.nil
  | d :: ds, _, n + 1, h => by
    unfold Dats at h
    obtain ⟨w, r, rfl, s, t⟩ := h
    simpa using Dats.drop n t
theorem Dats.take : ∀ {ds : List Da} {vs : List V} (n : Nat), Dats K B H vs ds → Dats K B H (vs.take n) (ds.take n)
  | ds, vs, 0, h => by simpa using Dats.nil
  | [], _, n + 1, h => by
    unfold Dats at h
    rw [h]
    simpa using Dats.nil
  | d :: ds, _, n + 1, h => by
    unfold Dats at h
    obtain ⟨w, r, rfl, s, t⟩ := h
    simpa using Dats.cons s (Dats.take n t)
theorem Dats.eraseIdx : ∀ {ds : List Da} {vs : List V} (n : Nat), Dats K B H vs ds → Dats K B H (vs.eraseIdx n) (ds.eraseIdx n)
  | [], _, n, h => by
    unfold Dats at h
    rw [h]
    simpa using Dats.nil
  | d :: ds, _, 0, h => by
    unfold Dats at h
    obtain ⟨w, r, rfl, s, t⟩ := h
    simpa using t
  | d :: ds, _, n + 1, h => by
    unfold Dats at h
    obtain ⟨w, r, rfl, s, t⟩ := h
    simpa using Dats.cons s (Dats.eraseIdx n t)
theorem Dats.strs : ∀ {xs : List Str} {vs : List V}, Dats K B H vs (xs.map Da.str) → vs = xs.map V.str
  | [], _, h => by
    unfold Dats at h
    exact h
  | x :: xs, vs, h => by
    have h2 : Dats K B H vs (Da.str x :: xs.map Da.str) := h
    unfold Dats at h2
    obtain ⟨v, r, rfl, s, t⟩ := h2
    unfold Dat at s
    rw [s, Dats.strs t]; rfl
theorem Dats.ofStrs : ∀ (xs : List Str), Dats K B H (xs.map V.str) (xs.map Da.str)
  | [] => .nil
  | x :: xs => .cons (by unfold Dat; rfl) (Dats.ofStrs xs)
theorem Dats.ints : ∀ {xs : List Int} {vs : List V}, Dats K B H vs (xs.map Da.int) → vs = xs.map V.int
  | [], _, h => by
    unfold Dats at h
    exact h
  | x :: xs, vs, h => by
    have h2 : Dats K B H vs (Da.int x :: xs.map Da.int) := h
    unfold Dats at h2
    obtain ⟨v, r, rfl, s, t⟩ := h2
    unfold Dat at s
    rw [s, Dats.ints t]; rfl
theorem Dats.ofInts : ∀ (xs : List Int), Dats K B H (xs.map V.int) (xs.map Da.int)
  | [] => .nil
  | x :: xs => .cons (by unfold Dat; rfl) (Dats.ofInts xs)
theorem Dats.bls : ∀ {xs : List Bool} {vs : List V}, Dats K B H vs (xs.map Da.bl) → vs = xs.map V.bl
  | [], _, h => by
    unfold Dats at h
    exact h
  | x :: xs, vs, h => by
    have h2 : Dats K B H vs (Da.bl x :: xs.map Da.bl) := h
    unfold Dats at h2
    obtain ⟨v, r, rfl, s, t⟩ := h2
    unfold Dat at s
    rw [s, Dats.bls t]; rfl
end
end WJ
set_option Elab.async false
set_option linter.all false
set_option maxRecDepth 100000
set_option maxHeartbeats 2000000
/-! WjB: a body's names as data (En), expressions (Ev, EvF, EvT, EvA) and statements (Es) over them -/
namespace WJ
open PySem L2

/-- no new tables of code objects -/
def Nt (H H' : Hp) : Prop := ∀ b ps, H' b = some (.tbl ps) → H b = some (.tbl ps)
theorem Nt.refl {H : Hp} : Nt H H := fun _ _ h => h
theorem Nt.trans {H H1 H2 : Hp} (a : Nt H H1) (b : Nt H1 H2) : Nt H H2 := fun c ps h => a c ps (b c ps h)
theorem Nt.upd {H : Hp} {a : Addr} {o : HO} (ho : ∀ ps, o ≠ .tbl ps) : Nt H (upd H a o) := fun b ps h => by
  by_cases e : b = a
  · rw [e, upd_same] at h
    exact absurd (Option.some.inj h) (ho ps)
  · rw [upd_ne e] at h
    exact h
/-- a world: the places F that calls may change, what holds of them (Dr, with a budget) -/
structure Wd (K : PySem.W.Frag) where
  F : List Addr
  Dr : Nat → Hp → Prop
  pres : ∀ {M : Nat} {H H' : Hp}, (∀ b ∈ F, H' b = H b) → (∀ b φ, H b = some (.ext φ) → H' b = some (.ext φ)) → Nt H H' → Dr M H → Dr M H'
  alive : ∀ {M : Nat} {H : Hp}, Dr M H → ∀ b ∈ F, H b ≠ none
  less : ∀ {M N : Nat} {H : Hp}, Dr M H → N ≤ M → Dr N H

/-- a world that asks nothing of tables of code objects -/
def Wd.Lax {K : PySem.W.Frag} (W : Wd K) : Prop := ∀ {M : Nat} {H H' : Hp}, (∀ b ∈ W.F, H' b = H b) → (∀ b φ, H b = some (.ext φ) → H' b = some (.ext φ)) → W.Dr M H → W.Dr M H'
/-- what stands at a call: the barred places B hold F and are alive -/
structure Bk {K : PySem.W.Frag} (W : Wd K) (B : List Addr) (H : Hp) (M : Nat) : Prop where
  dr : W.Dr M H
  fb : ∀ b ∈ W.F, b ∈ B
  al : ∀ b ∈ B, H b ≠ none

section
variable {K : PySem.W.Frag} {W : Wd K} {B B0 : List Addr} {H H0 H' : Hp} {M M' : Nat}
theorem Wd.new {a : Addr} {o : HO} (h : H a = none) (d : W.Dr M H) (ho : ∀ ps, o ≠ .tbl ps := by exact fun ps z => HO.noConfusion z) : W.Dr M (upd H a o) :=
  W.pres (fun b hb => upd_ne fun e => W.alive d b hb (by rw [e]; exact h)) (fun b φ e => by rw [upd_ne fun z => by rw [z, h] at e; cases e]; exact e) (Nt.upd ho) d
theorem Wd.out {a : Addr} {o : HO} (h : a ∉ W.F) (hx : ∀ φ, H a ≠ some (.ext φ)) (ho : ∀ ps, o ≠ .tbl ps) (d : W.Dr M H) : W.Dr M (upd H a o) :=
  W.pres (fun b hb => upd_ne fun e => h (by rw [← e]; exact hb)) (fun b φ e => by rw [upd_ne fun z => hx φ (by rw [← z]; exact e)]; exact e) (Nt.upd ho) d
theorem Bk.keep (s : Bk W B H M) (k : Kp W.F H H') (d : W.Dr M' H') : Bk W B H' M' := by
  refine ⟨d, s.fb, fun b hb => ?_⟩
  by_cases hf : b ∈ W.F
  · exact W.alive d b hf
  · cases e : H b with
    | none => exact absurd e (s.al b hb)
    | some o =>
      rw [k b o hf e]
      exact Option.some_ne_none o
theorem Bk.kp (s : Bk W B H M) (k : Kp W.F H H') : Kp B H H' := k.more s.fb
theorem Bk.free (s : Bk W B H M) {a : Addr} (h : H a = none) : a ∉ B := fun z => s.al a z h
end

/-- what a name holds: nothing said, data, a list or a dict of the body's own (nobody else knows it) -/
inductive En where
  | no | dat (d : Da) | own (ds : List Da) | ownD (es : List (Key × Da)) | ownI (a C : Addr) (fs : List (Str × Da))
def En.isOwn : En → Bool
  | .own _ => true
  | .ownD _ => true
  | .ownI _ _ _ => true
  | _ => false
def Sl (K : PySem.W.Frag) (B : List Addr) (H : Hp) (o : Option V) : En → Prop
  | .no => True
  | .dat d => ∃ v, o = some v ∧ Dat K B H v d
  | .own ds => ∃ l xs, o = some (.ref l) ∧ l ∈ B ∧ H l = some (.lst xs) ∧ Dats K B H xs ds
  | .ownD es => ∃ l kvs, o = some (.ref l) ∧ l ∈ B ∧ H l = some (.dK kvs) ∧ Datk K B H kvs es
  | .ownI a C fs => ∃ (l : Addr) (x : Addr × List (Str × V)), o = some (.ref l) ∧ l ∈ B ∧ H l = some (.ins C x.1 x.2) ∧ (Datf K B H x.2 fs ∧ l = a)
/-- slot i holds the body's own thing at l -/
def Ow (σ : St) (Γ : List En) (i : Nat) (l : Addr) : Prop := (∃ e, Γ[i]? = some e ∧ e.isOwn = true) ∧ σ[i]? = some (some (.ref l))

structure Sg {K : PySem.W.Frag} (W : Wd K) (H0 : Hp) (B0 B : List Addr) (σ : St) (Γ : List En) (H : Hp) (M : Nat) : Prop extends Bk W B H M where
  k0 : Kp W.F H0 H
  b0 : ∀ b ∈ B0, b ∈ B
  a0 : ∀ b ∈ B0, H0 b ≠ none
  f0 : ∀ b ∈ W.F, b ∈ B0
  ln : σ.length = Γ.length
  sl : ∀ (i : Nat) (e : En), Γ[i]? = some e → ∃ o, σ[i]? = some o ∧ Sl K B H o e
  ow : ∀ (i j : Nat) (l : Addr), Ow σ Γ i l → Ow σ Γ j l → i = j
  on : ∀ (i : Nat) (l : Addr), Ow σ Γ i l → H0 l = none

section
variable {K : PySem.W.Frag} {W : Wd K} {B B0 : List Addr} {H H0 H' : Hp} {M M' : Nat} {σ : St} {Γ : List En}
theorem Sl.mono {o : Option V} {e : En} (k : Kp B H H') (ok : ∀ l, e.isOwn = true → o = some (.ref l) → H' l = H l) (h : Sl K B H o e) : Sl K B H' o e := by
  cases e with
  | no => exact trivial
  | dat d =>
    obtain ⟨v, e, h⟩ := h
    exact ⟨v, e, Dat.mono k d v h⟩
  | own ds =>
    obtain ⟨l, xs, e, hl, hx, h⟩ := h
    exact ⟨l, xs, e, hl, (ok l rfl e).trans hx, Dats.mono k ds xs h⟩
  | ownD ds =>
    obtain ⟨l, xs, e, hl, hx, h⟩ := h
    exact ⟨l, xs, e, hl, (ok l rfl e).trans hx, Datk.mono k ds xs h⟩
  | ownI aI CI ds =>
    obtain ⟨l, xs, e, hl, hx, h⟩ := h
    exact ⟨l, xs, e, hl, (ok l rfl e).trans hx, ⟨Datf.mono k ds xs.2 h.1, h.2⟩⟩
theorem Sg.outF (s : Sg W H0 B0 B σ Γ H M) {i : Nat} {l : Addr} (h : Ow σ Γ i l) : l ∉ W.F := fun z => s.a0 l (s.f0 l z) (s.on i l h)
theorem Sg.keep (s : Sg W H0 B0 B σ Γ H M) (k : Kp W.F H H') (d : W.Dr M' H') : Sg W H0 B0 B σ Γ H' M' := by
  refine ⟨s.toBk.keep k d, s.k0.trans k, s.b0, s.a0, s.f0, s.ln, fun i e hi => ?_, s.ow, s.on⟩
  obtain ⟨o, ho, hs⟩ := s.sl i e hi
  refine ⟨o, ho, hs.mono (s.toBk.kp k) fun l he e2 => ?_⟩
  have hO : Ow σ Γ i l := ⟨⟨e, hi, he⟩, by rw [ho, e2]⟩
  cases e with
  | no => cases he
  | dat d => cases he
  | own ds =>
    obtain ⟨l', xs, e3, _, hx, _⟩ := hs
    rw [e2] at e3
    cases e3
    rw [hx, k l _ (s.outF hO) hx]
  | ownD ds =>
    obtain ⟨l', xs, e3, _, hx, _⟩ := hs
    rw [e2] at e3
    cases e3
    rw [hx, k l _ (s.outF hO) hx]
  | ownI aI CI ds =>
    obtain ⟨l', xs, e3, _, hx, _⟩ := hs
    rw [e2] at e3
    cases e3
    rw [hx, k l _ (s.outF hO) hx]
theorem Sg.less (s : Sg W H0 B0 B σ Γ H M) (h : M' ≤ M) : Sg W H0 B0 B σ Γ H M' := s.keep Kp.refl (W.less s.dr h)
/-- a name takes data (or is forgotten) -/
theorem Sg.set (s : Sg W H0 B0 B σ Γ H M) {i : Nat} {o : Option V} {e : En} (he : e.isOwn = false) (h : Sl K B H o e) : Sg W H0 B0 B (σ.set i o) (Γ.set i e) H M := by
  have own : ∀ j l, Ow (σ.set i o) (Γ.set i e) j l → Ow σ Γ j l := fun j l ⟨⟨e', g, t⟩, q⟩ => by
    by_cases hj : i = j
    · subst hj
      by_cases hl : i < Γ.length
      · rw [List.getElem?_set_self hl] at g
        cases g
        rw [he] at t
        cases t
      · rw [List.getElem?_eq_none (by simpa using hl)] at g
        cases g
    · rw [List.getElem?_set_ne hj] at g q
      exact ⟨⟨e', g, t⟩, q⟩
  refine ⟨s.toBk, s.k0, s.b0, s.a0, s.f0, by rw [List.length_set, List.length_set, s.ln], fun j e' hj => ?_, fun a b l ha hb => s.ow a b l (own a l ha) (own b l hb), fun a l ha => s.on a l (own a l ha)⟩
  by_cases hij : i = j
  · subst hij
    have hl : i < Γ.length := by
      have := (List.getElem?_eq_some_iff.mp hj).1
      simpa using this
    rw [List.getElem?_set_self hl] at hj
    cases hj
    exact ⟨o, List.getElem?_set_self (by rw [s.ln]; exact hl), h⟩
  · rw [List.getElem?_set_ne hij] at hj
    obtain ⟨o', ho, hs⟩ := s.sl j e' hj
    exact ⟨o', by rw [List.getElem?_set_ne hij]; exact ho, hs⟩
theorem Sl.put {l : Addr} {o : Option V} {e : En} (n : H l = none) (h : Sl K B H o e) : Sl K (l :: B) H o e := by
  cases e with
  | no => exact trivial
  | dat d =>
    obtain ⟨v, e, h⟩ := h
    exact ⟨v, e, Dat.put n d v h⟩
  | own ds =>
    obtain ⟨l', xs, e, hl, hx, h⟩ := h
    exact ⟨l', xs, e, List.mem_cons_of_mem _ hl, hx, Dats.put n ds xs h⟩
  | ownD ds =>
    obtain ⟨l', xs, e, hl, hx, h⟩ := h
    exact ⟨l', xs, e, List.mem_cons_of_mem _ hl, hx, Datk.put n ds xs h⟩
  | ownI aI CI ds =>
    obtain ⟨l', xs, e, hl, hx, h⟩ := h
    exact ⟨l', xs, e, List.mem_cons_of_mem _ hl, hx, ⟨Datf.put n ds xs.2 h.1, h.2⟩⟩
/-- a new thing of the body's own comes to a name: l was new at H, what it holds lies in H' -/
theorem Sg.setOwn (s : Sg W H0 B0 B σ Γ H M) {i : Nat} {l : Addr} {e : En} (n : H l = none) (k : Kp W.F H H') (d : W.Dr M' H') (he : e.isOwn = true) (h : Sl K (l :: B) H' (some (.ref l)) e) (hl' : H' l ≠ none) :
    Sg W H0 B0 (l :: B) (σ.set i (some (.ref l))) (Γ.set i e) H' M' := by
  have s2 := s.keep k d
  have n0 : H0 l = none := s.k0.backB (fun z => W.alive s.dr l z n) n
  have old : ∀ j e' o, Γ[j]? = some e' → σ[j]? = some o → Sl K B H' o e' → Sl K (l :: B) H' o e' := fun j e' o g q hs => by
    obtain ⟨o2, q2, h2⟩ := s.sl j e' g
    rw [q] at q2
    cases q2
    have h3 := h2.put n
    refine h3.mono (k.more fun b hb => List.mem_cons_of_mem _ (s.fb b hb)) fun l' t e2 => ?_
    cases e' with
    | no => cases t
    | dat d => cases t
    | own ds =>
      obtain ⟨l1, x1, e3, _, hx1, _⟩ := h2
      obtain ⟨l2, x2, e4, _, hx2, _⟩ := hs
      rw [e2] at e3 e4
      cases e3
      cases e4
      rw [hx1, k _ _ (s.outF (i := j) ⟨⟨_, g, rfl⟩, by rw [q, e2]⟩) hx1]
    | ownD ds =>
      obtain ⟨l1, x1, e3, _, hx1, _⟩ := h2
      obtain ⟨l2, x2, e4, _, hx2, _⟩ := hs
      rw [e2] at e3 e4
      cases e3
      cases e4
      rw [hx1, k _ _ (s.outF (i := j) ⟨⟨_, g, rfl⟩, by rw [q, e2]⟩) hx1]
    | ownI aI CI ds =>
      obtain ⟨l1, x1, e3, _, hx1, _⟩ := h2
      obtain ⟨l2, x2, e4, _, hx2, _⟩ := hs
      rw [e2] at e3 e4
      cases e3
      cases e4
      rw [hx1, k _ _ (s.outF (i := j) ⟨⟨_, g, rfl⟩, by rw [q, e2]⟩) hx1]
  have new : ∀ j, Ow σ Γ j l → False := fun j ⟨⟨e', g, t⟩, q⟩ => by
    obtain ⟨o2, q2, h2⟩ := s.sl j e' g
    rw [q] at q2
    cases q2
    cases e' with
    | no => cases t
    | dat d => cases t
    | own ds =>
      obtain ⟨l1, x1, e3, hb, _⟩ := h2
      cases e3
      exact s.al _ hb n
    | ownD ds =>
      obtain ⟨l1, x1, e3, hb, _⟩ := h2
      cases e3
      exact s.al _ hb n
    | ownI aI CI ds =>
      obtain ⟨l1, x1, e3, hb, _⟩ := h2
      cases e3
      exact s.al _ hb n
  have own : ∀ j l', Ow (σ.set i (some (.ref l))) (Γ.set i e) j l' → (j = i ∧ l' = l) ∨ (j ≠ i ∧ Ow σ Γ j l') := fun j l' ⟨⟨e', g, t⟩, q⟩ => by
    by_cases hj : i = j
    · subst hj
      by_cases hl : i < Γ.length
      · rw [List.getElem?_set_self (by rw [s.ln]; exact hl)] at q
        cases q
        exact .inl ⟨rfl, rfl⟩
      · rw [List.getElem?_eq_none (by simpa using hl)] at g
        cases g
    · rw [List.getElem?_set_ne hj] at g q
      exact .inr ⟨fun z => hj z.symm, ⟨e', g, t⟩, q⟩
  refine ⟨⟨d, fun b hb => List.mem_cons_of_mem _ (s.fb b hb), fun b hb => ?_⟩, s2.k0, fun b hb => List.mem_cons_of_mem _ (s.b0 b hb), s.a0, s.f0, by rw [List.length_set, List.length_set, s.ln], fun j e' hj => ?_, fun a b l' ha hb => ?_, fun a l' ha => ?_⟩
  · rcases List.mem_cons.mp hb with z | z
    · rw [z]
      exact hl'
    · exact s2.al b z
  · by_cases hij : i = j
    · subst hij
      have hl : i < Γ.length := by
        have := (List.getElem?_eq_some_iff.mp hj).1
        simpa using this
      rw [List.getElem?_set_self hl] at hj
      cases hj
      exact ⟨_, List.getElem?_set_self (by rw [s.ln]; exact hl), h⟩
    · rw [List.getElem?_set_ne hij] at hj
      obtain ⟨o', ho, hs⟩ := s2.sl j e' hj
      exact ⟨o', by rw [List.getElem?_set_ne hij]; exact ho, old j e' o' hj ho hs⟩
  · rcases own a l' ha with ⟨ea, el⟩ | ⟨na, wa⟩ <;> rcases own b l' hb with ⟨eb, el2⟩ | ⟨nb, wb⟩
    · rw [ea, eb]
    · rw [el] at wb
      exact (new b wb).elim
    · rw [el2] at wa
      exact (new a wa).elim
    · exact s.ow a b l' wa wb
  · rcases own a l' ha with ⟨ea, el⟩ | ⟨na, wa⟩
    · rw [el]
      exact n0
    · exact s.on a l' wa
/-- the body's own thing changes -/
theorem Sg.change (s : Sg W H0 B0 B σ Γ H M) {i : Nat} {l : Addr} {e e' : En} {o : HO} (hi : Γ[i]? = some e) (he : e.isOwn = true) (hs : σ[i]? = some (some (.ref l))) (he' : e'.isOwn = true)
    (h : Sl K B (upd H l o) (some (.ref l)) e') : Sg W H0 B0 B σ (Γ.set i e') (upd H l o) M := by
  have hO : Ow σ Γ i l := ⟨⟨e, hi, he⟩, hs⟩
  have hB : l ∈ B := by
    obtain ⟨o', q, z⟩ := s.sl i e hi
    rw [hs] at q
    cases q
    cases e with
    | no => cases he
    | dat d => cases he
    | own ds => obtain ⟨l1, _, e3, hb, _⟩ := z; cases e3; exact hb
    | ownD ds => obtain ⟨l1, _, e3, hb, _⟩ := z; cases e3; exact hb
    | ownI aI CI ds => obtain ⟨l1, _, e3, hb, _⟩ := z; cases e3; exact hb
  have hlt : i < Γ.length := (List.getElem?_eq_some_iff.mp hi).1
  have own : ∀ j l', Ow σ (Γ.set i e') j l' → Ow σ Γ j l' := fun j l' ⟨⟨e1, g, t⟩, q⟩ => by
    by_cases hj : i = j
    · subst hj
      exact ⟨⟨e, hi, he⟩, q⟩
    · rw [List.getElem?_set_ne hj] at g
      exact ⟨⟨e1, g, t⟩, q⟩
  have hx : ∀ φ, H l ≠ some (.ext φ) := fun φ w => by
    obtain ⟨o', q, z⟩ := s.sl i e hi
    rw [hs] at q
    cases q
    cases e with
    | no => cases he
    | dat d => cases he
    | own ds => obtain ⟨l1, x1, e3, _, hx, _⟩ := z; cases e3; rw [hx] at w; cases w
    | ownD ds => obtain ⟨l1, x1, e3, _, hx, _⟩ := z; cases e3; rw [hx] at w; cases w
    | ownI aI CI ds => obtain ⟨l1, x1, e3, _, hx, _⟩ := z; cases e3; rw [hx] at w; cases w
  have ho : ∀ ps, o ≠ .tbl ps := fun ps w => by
    cases e' with
    | no => cases he'
    | dat d => cases he'
    | own ds => obtain ⟨l1, x1, e3, _, hx, _⟩ := h; cases e3; rw [upd_same, w] at hx; cases hx
    | ownD ds => obtain ⟨l1, x1, e3, _, hx, _⟩ := h; cases e3; rw [upd_same, w] at hx; cases hx
    | ownI aI CI ds => obtain ⟨l1, x1, e3, _, hx, _⟩ := h; cases e3; rw [upd_same, w] at hx; cases hx
  refine ⟨⟨Wd.out (s.outF hO) hx ho s.dr, s.fb, fun b hb => ?_⟩, s.k0.late (s.on i l hO), s.b0, s.a0, s.f0, by rw [List.length_set, s.ln], fun j e1 hj => ?_, fun a b l' ha hb => s.ow a b l' (own a l' ha) (own b l' hb), fun a l' ha => s.on a l' (own a l' ha)⟩
  · by_cases hbl : b = l
    · rw [hbl, upd_same]
      exact Option.some_ne_none _
    · rw [upd_ne hbl]
      exact s.al b hb
  · by_cases hij : i = j
    · subst hij
      rw [List.getElem?_set_self hlt] at hj
      cases hj
      exact ⟨_, hs, h⟩
    · rw [List.getElem?_set_ne hij] at hj
      obtain ⟨o', ho, hs'⟩ := s.sl j e1 hj
      refine ⟨o', ho, hs'.mono (Kp.mut hB) fun l' t e2 => ?_⟩
      have hne : l' ≠ l := fun z => hij (s.ow i j l hO (by rw [← z]; exact ⟨⟨e1, hj, t⟩, by rw [ho, e2]⟩))
      rw [upd_ne hne]
/-- the body's own list is from now on data -/
theorem Sg.freezeS (s : Sg W H0 B0 B σ Γ H M) {i : Nat} {ds : List Da} (hi : Γ[i]? = some (.own ds)) : ∃ B', Sg W H0 B0 B' σ (Γ.set i (.dat (.lst ds))) H M ∧ ∀ x ∈ B', x ∈ B := by
  obtain ⟨o, ho, l, xs, rfl, hB, hx, hd⟩ := s.sl i _ hi
  have hO : Ow σ Γ i l := ⟨⟨_, hi, rfl⟩, ho⟩
  have hlt : i < Γ.length := (List.getElem?_eq_some_iff.mp hi).1
  have own : ∀ j l', Ow σ (Γ.set i (.dat (.lst ds))) j l' → i ≠ j ∧ Ow σ Γ j l' := fun j l' ⟨⟨e1, g, t⟩, q⟩ => by
    by_cases hj : i = j
    · subst hj
      rw [List.getElem?_set_self hlt] at g
      cases g
      cases t
    · rw [List.getElem?_set_ne hj] at g
      exact ⟨hj, ⟨e1, g, t⟩, q⟩
  have hsub : ∀ b ∈ B.filter (fun b => decide (b ≠ l)), b ∈ B := fun b hb => (List.mem_filter.mp hb).1
  have hmem : ∀ b ∈ B, b ≠ l → b ∈ B.filter (fun b => decide (b ≠ l)) := fun b hb hn => List.mem_filter.mpr ⟨hb, decide_eq_true hn⟩
  have hn : l ∉ B.filter (fun b => decide (b ≠ l)) := fun z => of_decide_eq_true (List.mem_filter.mp z).2 rfl
  refine ⟨B.filter (fun b => decide (b ≠ l)), ⟨⟨s.dr, fun b hb => hmem b (s.fb b hb) fun z => s.outF hO (by rw [← z]; exact hb), fun b hb => s.al b (hsub b hb)⟩, s.k0, fun b hb => hmem b (s.b0 b hb) fun z => s.a0 b hb (by rw [z]; exact s.on i l hO), s.a0, s.f0, by rw [List.length_set, s.ln], fun j e1 hj => ?_, fun a b l' ha hb => s.ow a b l' (own a l' ha).2 (own b l' hb).2, fun a l' ha => s.on a l' (own a l' ha).2⟩, hsub⟩
  by_cases hij : i = j
  · subst hij
    rw [List.getElem?_set_self hlt] at hj
    cases hj
    refine ⟨_, ho, .ref l, rfl, ?_⟩
    unfold Dat
    exact ⟨l, xs, rfl, .of hn hx, Dats.sub hsub ds xs hd⟩
  · rw [List.getElem?_set_ne hij] at hj
    obtain ⟨o', ho', hs'⟩ := s.sl j e1 hj
    refine ⟨o', ho', ?_⟩
    cases e1 with
    | no => exact trivial
    | dat d =>
      obtain ⟨v, e, h⟩ := hs'
      exact ⟨v, e, Dat.sub hsub d v h⟩
    | own es =>
      obtain ⟨l', x', e, hl, hx', h⟩ := hs'
      refine ⟨l', x', e, hmem l' hl fun z => hij (s.ow i j l hO ⟨⟨_, hj, rfl⟩, by rw [ho', e, z]⟩), hx', Dats.sub hsub es x' h⟩
    | ownD es =>
      obtain ⟨l', x', e, hl, hx', h⟩ := hs'
      refine ⟨l', x', e, hmem l' hl fun z => hij (s.ow i j l hO ⟨⟨_, hj, rfl⟩, by rw [ho', e, z]⟩), hx', Datk.sub hsub es x' h⟩
    | ownI aI CI es =>
      obtain ⟨l', x', e, hl, hx', h⟩ := hs'
      refine ⟨l', x', e, hmem l' hl fun z => hij (s.ow i j l hO ⟨⟨_, hj, rfl⟩, by rw [ho', e, z]⟩), hx', ⟨Datf.sub hsub es x'.2 h.1, h.2⟩⟩
theorem Sg.freezeDS (s : Sg W H0 B0 B σ Γ H M) {i : Nat} {ds : List (Key × Da)} (hi : Γ[i]? = some (.ownD ds)) : ∃ B', Sg W H0 B0 B' σ (Γ.set i (.dat (.dct ds))) H M ∧ ∀ x ∈ B', x ∈ B := by
  obtain ⟨o, ho, l, xs, rfl, hB, hx, hd⟩ := s.sl i _ hi
  have hO : Ow σ Γ i l := ⟨⟨_, hi, rfl⟩, ho⟩
  have hlt : i < Γ.length := (List.getElem?_eq_some_iff.mp hi).1
  have own : ∀ j l', Ow σ (Γ.set i (.dat (.dct ds))) j l' → i ≠ j ∧ Ow σ Γ j l' := fun j l' ⟨⟨e1, g, t⟩, q⟩ => by
    by_cases hj : i = j
    · subst hj
      rw [List.getElem?_set_self hlt] at g
      cases g
      cases t
    · rw [List.getElem?_set_ne hj] at g
      exact ⟨hj, ⟨e1, g, t⟩, q⟩
  have hsub : ∀ b ∈ B.filter (fun b => decide (b ≠ l)), b ∈ B := fun b hb => (List.mem_filter.mp hb).1
  have hmem : ∀ b ∈ B, b ≠ l → b ∈ B.filter (fun b => decide (b ≠ l)) := fun b hb hn => List.mem_filter.mpr ⟨hb, decide_eq_true hn⟩
  have hn : l ∉ B.filter (fun b => decide (b ≠ l)) := fun z => of_decide_eq_true (List.mem_filter.mp z).2 rfl
  refine ⟨B.filter (fun b => decide (b ≠ l)), ⟨⟨s.dr, fun b hb => hmem b (s.fb b hb) fun z => s.outF hO (by rw [← z]; exact hb), fun b hb => s.al b (hsub b hb)⟩, s.k0, fun b hb => hmem b (s.b0 b hb) fun z => s.a0 b hb (by rw [z]; exact s.on i l hO), s.a0, s.f0, by rw [List.length_set, s.ln], fun j e1 hj => ?_, fun a b l' ha hb => s.ow a b l' (own a l' ha).2 (own b l' hb).2, fun a l' ha => s.on a l' (own a l' ha).2⟩, hsub⟩
  by_cases hij : i = j
  · subst hij
    rw [List.getElem?_set_self hlt] at hj
    cases hj
    refine ⟨_, ho, .ref l, rfl, ?_⟩
    unfold Dat
    exact ⟨l, xs, rfl, ⟨hn, Or.inl hx⟩, Datk.sub hsub ds xs hd⟩
  · rw [List.getElem?_set_ne hij] at hj
    obtain ⟨o', ho', hs'⟩ := s.sl j e1 hj
    refine ⟨o', ho', ?_⟩
    cases e1 with
    | no => exact trivial
    | dat d =>
      obtain ⟨v, e, h⟩ := hs'
      exact ⟨v, e, Dat.sub hsub d v h⟩
    | own es =>
      obtain ⟨l', x', e, hl, hx', h⟩ := hs'
      refine ⟨l', x', e, hmem l' hl fun z => hij (s.ow i j l hO ⟨⟨_, hj, rfl⟩, by rw [ho', e, z]⟩), hx', Dats.sub hsub es x' h⟩
    | ownD es =>
      obtain ⟨l', x', e, hl, hx', h⟩ := hs'
      refine ⟨l', x', e, hmem l' hl fun z => hij (s.ow i j l hO ⟨⟨_, hj, rfl⟩, by rw [ho', e, z]⟩), hx', Datk.sub hsub es x' h⟩
    | ownI aI CI es =>
      obtain ⟨l', x', e, hl, hx', h⟩ := hs'
      refine ⟨l', x', e, hmem l' hl fun z => hij (s.ow i j l hO ⟨⟨_, hj, rfl⟩, by rw [ho', e, z]⟩), hx', ⟨Datf.sub hsub es x'.2 h.1, h.2⟩⟩
theorem Sg.freezeIS (s : Sg W H0 B0 B σ Γ H M) {i : Nat} {aI CI : Addr} {ds : List (Str × Da)} (hi : Γ[i]? = some (.ownI aI CI ds)) : ∃ B', Sg W H0 B0 B' σ (Γ.set i (.dat (.ins CI ds))) H M ∧ ∀ x ∈ B', x ∈ B := by
  obtain ⟨o, ho, l, xs, rfl, hB, hx, hd, _⟩ := s.sl i _ hi
  have hO : Ow σ Γ i l := ⟨⟨_, hi, rfl⟩, ho⟩
  have hlt : i < Γ.length := (List.getElem?_eq_some_iff.mp hi).1
  have own : ∀ j l', Ow σ (Γ.set i (.dat (.ins CI ds))) j l' → i ≠ j ∧ Ow σ Γ j l' := fun j l' ⟨⟨e1, g, t⟩, q⟩ => by
    by_cases hj : i = j
    · subst hj
      rw [List.getElem?_set_self hlt] at g
      cases g
      cases t
    · rw [List.getElem?_set_ne hj] at g
      exact ⟨hj, ⟨e1, g, t⟩, q⟩
  have hsub : ∀ b ∈ B.filter (fun b => decide (b ≠ l)), b ∈ B := fun b hb => (List.mem_filter.mp hb).1
  have hmem : ∀ b ∈ B, b ≠ l → b ∈ B.filter (fun b => decide (b ≠ l)) := fun b hb hn => List.mem_filter.mpr ⟨hb, decide_eq_true hn⟩
  have hn : l ∉ B.filter (fun b => decide (b ≠ l)) := fun z => of_decide_eq_true (List.mem_filter.mp z).2 rfl
  refine ⟨B.filter (fun b => decide (b ≠ l)), ⟨⟨s.dr, fun b hb => hmem b (s.fb b hb) fun z => s.outF hO (by rw [← z]; exact hb), fun b hb => s.al b (hsub b hb)⟩, s.k0, fun b hb => hmem b (s.b0 b hb) fun z => s.a0 b hb (by rw [z]; exact s.on i l hO), s.a0, s.f0, by rw [List.length_set, s.ln], fun j e1 hj => ?_, fun a b l' ha hb => s.ow a b l' (own a l' ha).2 (own b l' hb).2, fun a l' ha => s.on a l' (own a l' ha).2⟩, hsub⟩
  by_cases hij : i = j
  · subst hij
    rw [List.getElem?_set_self hlt] at hj
    cases hj
    refine ⟨_, ho, .ref l, rfl, ?_⟩
    unfold Dat
    exact ⟨l, xs.1, xs.2, rfl, ⟨hn, hx⟩, Datf.sub hsub ds xs.2 hd⟩
  · rw [List.getElem?_set_ne hij] at hj
    obtain ⟨o', ho', hs'⟩ := s.sl j e1 hj
    refine ⟨o', ho', ?_⟩
    cases e1 with
    | no => exact trivial
    | dat d =>
      obtain ⟨v, e, h⟩ := hs'
      exact ⟨v, e, Dat.sub hsub d v h⟩
    | own es =>
      obtain ⟨l', x', e, hl, hx', h⟩ := hs'
      refine ⟨l', x', e, hmem l' hl fun z => hij (s.ow i j l hO ⟨⟨_, hj, rfl⟩, by rw [ho', e, z]⟩), hx', Dats.sub hsub es x' h⟩
    | ownD es =>
      obtain ⟨l', x', e, hl, hx', h⟩ := hs'
      refine ⟨l', x', e, hmem l' hl fun z => hij (s.ow i j l hO ⟨⟨_, hj, rfl⟩, by rw [ho', e, z]⟩), hx', Datk.sub hsub es x' h⟩
    | ownI aI CI es =>
      obtain ⟨l', x', e, hl, hx', h⟩ := hs'
      refine ⟨l', x', e, hmem l' hl fun z => hij (s.ow i j l hO ⟨⟨_, hj, rfl⟩, by rw [ho', e, z]⟩), hx', ⟨Datf.sub hsub es x'.2 h.1, h.2⟩⟩
theorem Sg.freeze (s : Sg W H0 B0 B σ Γ H M) {i : Nat} {ds : List Da} (hi : Γ[i]? = some (.own ds)) : ∃ B', Sg W H0 B0 B' σ (Γ.set i (.dat (.lst ds))) H M := let ⟨B', s', _⟩ := s.freezeS hi; ⟨B', s'⟩
theorem Sg.freezeD (s : Sg W H0 B0 B σ Γ H M) {i : Nat} {ds : List (Key × Da)} (hi : Γ[i]? = some (.ownD ds)) : ∃ B', Sg W H0 B0 B' σ (Γ.set i (.dat (.dct ds))) H M := let ⟨B', s', _⟩ := s.freezeDS hi; ⟨B', s'⟩
end
end WJ
set_option Elab.async false
set_option linter.all false
set_option maxRecDepth 100000
set_option maxHeartbeats 2000000
/-! WjC: judgements over data: expressions, tests, arguments, what is walked, statements; their rules -/
namespace WJ
open PySem L2
section
variable {K : PySem.W.Frag}
/-- te gives data d with P d, at the cost c -/
def Ev (W : Wd K) (te : TE) (Γ : List En) (c : Nat) (P : Da → Prop) : Prop :=
  ∀ (H0 : Hp) (B0 B : List Addr) (σ : L2.St) (H : Hp) (M : Nat), Sg W H0 B0 B σ Γ H M → c ≤ M → ∀ Q : VK, (∀ v d H', Kp W.F H H' → W.Dr (M - c) H' → Dat K B H' v d → P d → Q v H') → te σ H Q
/-- te gives a new list -/
def EvF (W : Wd K) (te : TE) (Γ : List En) (c : Nat) (P : List Da → Prop) : Prop :=
  ∀ (H0 : Hp) (B0 B : List Addr) (σ : L2.St) (H : Hp) (M : Nat), Sg W H0 B0 B σ Γ H M → c ≤ M → ∀ Q : VK, (∀ l xs ds H', H l = none → Kp W.F H H' → W.Dr (M - c) H' → H' l = some (.lst xs) → Dats K (l :: B) H' xs ds → P ds → Q (.ref l) H') → te σ H Q
/-- te gives a new dict -/
def EvG (W : Wd K) (te : TE) (Γ : List En) (c : Nat) (P : List (Key × Da) → Prop) : Prop :=
  ∀ (H0 : Hp) (B0 B : List Addr) (σ : L2.St) (H : Hp) (M : Nat), Sg W H0 B0 B σ Γ H M → c ≤ M → ∀ Q : VK, (∀ l xs ds H', H l = none → Kp W.F H H' → W.Dr (M - c) H' → H' l = some (.dK xs) → Datk K (l :: B) H' xs ds → P ds → Q (.ref l) H') → te σ H Q
def EvT (W : Wd K) (tt : TT) (Γ : List En) (c : Nat) (P : Bool → Prop) : Prop :=
  ∀ (H0 : Hp) (B0 B : List Addr) (σ : L2.St) (H : Hp) (M : Nat), Sg W H0 B0 B σ Γ H M → c ≤ M → ∀ Q : Bool → Hp → Prop, (∀ b H', Kp W.F H H' → W.Dr (M - c) H' → P b → Q b H') → tt σ H Q
def EvA (W : Wd K) (ta : TA) (Γ : List En) (c : Nat) (P : List Da → Prop) : Prop :=
  ∀ (H0 : Hp) (B0 B : List Addr) (σ : L2.St) (H : Hp) (M : Nat), Sg W H0 B0 B σ Γ H M → c ≤ M → ∀ Q : List V → Hp → Prop, (∀ vs ds H', Kp W.F H H' → W.Dr (M - c) H' → Dats K B H' vs ds → P ds → Q vs H') → ta σ H Q
/-- two values by an operation; a list of values by a call -/
def Rv (W : Wd K) (r : R2) (d1 d2 : Da) (P : Da → Prop) : Prop :=
  ∀ (B : List Addr) (H : Hp) (M : Nat) (v1 v2 : V), Bk W B H M → Dat K B H v1 d1 → Dat K B H v2 d2 → ∀ Q : VK, (∀ v d H', Kp W.F H H' → W.Dr M H' → Dat K B H' v d → P d → Q v H') → r v1 v2 H Q
def RvF (W : Wd K) (r : R2) (d1 d2 : Da) (P : List Da → Prop) : Prop :=
  ∀ (B : List Addr) (H : Hp) (M : Nat) (v1 v2 : V), Bk W B H M → Dat K B H v1 d1 → Dat K B H v2 d2 → ∀ Q : VK, (∀ l xs ds H', H l = none → Kp W.F H H' → W.Dr M H' → H' l = some (.lst xs) → Dats K (l :: B) H' xs ds → P ds → Q (.ref l) H') → r v1 v2 H Q
def Rc (W : Wd K) (r : List V → Hp → VK → Prop) (ds : List Da) (P : Da → Prop) : Prop :=
  ∀ (B : List Addr) (H : Hp) (M : Nat) (vs : List V), Bk W B H M → Dats K B H vs ds → ∀ Q : VK, (∀ v d H', Kp W.F H H' → W.Dr M H' → Dat K B H' v d → P d → Q v H') → r vs H Q
def RcF (W : Wd K) (r : List V → Hp → VK → Prop) (ds : List Da) (P : List Da → Prop) : Prop :=
  ∀ (B : List Addr) (H : Hp) (M : Nat) (vs : List V), Bk W B H M → Dats K B H vs ds → ∀ Q : VK, (∀ l xs ds H', H l = none → Kp W.F H H' → W.Dr M H' → H' l = some (.lst xs) → Dats K (l :: B) H' xs ds → P ds → Q (.ref l) H') → r vs H Q
/-- a def's promise over data -/
def Fn (W : Wd K) (sp : Sp) (ds : List Da) (c : Nat) (P : Da → Prop) : Prop :=
  ∀ (B : List Addr) (H : Hp) (M : Nat) (vs : List V), Bk W B H M → c ≤ M → Dats K B H vs ds → ∀ (Q : VK) (E : XK), (∀ v d H', Kp W.F H H' → W.Dr (M - c) H' → Dat K B H' v d → P d → Q v H') → sp vs H Q E
/-- what is walked stands for the items ds, whatever becomes of the rest -/
def Src (K : PySem.W.Frag) (B : List Addr) (J : It) (ds : List Da) (H : Hp) : Prop :=
  ∀ (B' : List Addr) (H' : Hp), Mv B H B' H' → (∀ b ∈ B', H' b ≠ none) → (∀ i, i < ds.length → J.go i H' ∧ ∀ x H2, J.yld i H' x H2 → Kp [] H' H2 ∧ Nt H' H2 ∧ ∃ d, ds[i]? = some d ∧ Dat K B' H2 x d) ∧ J.stop ds.length H'
def Ei (W : Wd K) (wi : TI) (Γ : List En) (c : Nat) (P : List Da → Prop) : Prop :=
  ∀ (H0 : Hp) (B0 B : List Addr) (σ : L2.St) (H : Hp) (M : Nat), Sg W H0 B0 B σ Γ H M → c ≤ M → ∀ R : It → Hp → Prop, (∀ J ds H', Kp W.F H H' → W.Dr (M - c) H' → Src K B J ds H' → P ds → R J H') → wi σ H R
end

section
variable {K : PySem.W.Frag} {W : Wd K} {Γ : List En} {c c1 c2 c' : Nat} {P P' P1 P2 : Da → Prop} {te ta tb tc : TE} {tt tu : TT} {r r' : R2}
theorem Ev.weak (h : Ev W te Γ c P) (hc : c ≤ c') (hp : ∀ d, P d → P' d) : Ev W te Γ c' P' := fun H0 B0 B σ H M s hM Q q =>
  h H0 B0 B σ H M s (Nat.le_trans hc hM) Q fun v d H' k r hd p => q v d H' k (W.less r (by omega)) hd (hp d p)
theorem Ev.imp (h : Ev W te Γ c P) (hp : ∀ d, P d → P' d) : Ev W te Γ c P' := h.weak (Nat.le_refl _) hp
theorem EvF.weak {P P' : List Da → Prop} (h : EvF W te Γ c P) (hc : c ≤ c') (hp : ∀ d, P d → P' d) : EvF W te Γ c' P' := fun H0 B0 B σ H M s hM Q q =>
  h H0 B0 B σ H M s (Nat.le_trans hc hM) Q fun l xs ds H' n k r e hd p => q l xs ds H' n k (W.less r (by omega)) e hd (hp ds p)
theorem EvT.weak {P P' : Bool → Prop} (h : EvT W tt Γ c P) (hc : c ≤ c') (hp : ∀ d, P d → P' d) : EvT W tt Γ c' P' := fun H0 B0 B σ H M s hM Q q =>
  h H0 B0 B σ H M s (Nat.le_trans hc hM) Q fun b H' k r p => q b H' k (W.less r (by omega)) (hp b p)
theorem EvA.weak {ta : TA} {P P' : List Da → Prop} (h : EvA W ta Γ c P) (hc : c ≤ c') (hp : ∀ d, P d → P' d) : EvA W ta Γ c' P' := fun H0 B0 B σ H M s hM Q q =>
  h H0 B0 B σ H M s (Nat.le_trans hc hM) Q fun b ds H' k r hd p => q b ds H' k (W.less r (by omega)) hd (hp ds p)
theorem sub_le {M c c' : Nat} (h : c + c' ≤ M) : c' ≤ M - c := by omega
theorem sub_sub {M c c' : Nat} : M - c - c' = M - (c + c') := by omega

theorem ev_var {i : Nat} {d : Da} (h : Γ[i]? = some (.dat d)) : Ev W (tVar i) Γ 0 (· = d) := fun H0 B0 B σ H M s _ Q q => by
  obtain ⟨o, ho, v, rfl, hd⟩ := s.sl i _ h
  exact ⟨v, ho, q v d H Kp.refl s.dr hd rfl⟩
theorem ev_c {v : V} {d : Da} (h : ∀ (B : List Addr) (H : Hp), Dat K B H v d) : Ev W (tC v) Γ 0 (· = d) := fun H0 B0 B σ H M s _ Q q => q v d H Kp.refl s.dr (h B H) rfl
theorem ev_int {i : Int} : Ev W (tC (.int i)) Γ 0 (· = .int i) := ev_c fun _ _ => by unfold Dat; rfl
theorem ev_str {x : Str} : Ev W (tC (.str x)) Γ 0 (· = .str x) := ev_c fun _ _ => by unfold Dat; rfl
theorem ev_bl {b : Bool} : Ev W (tC (.bl b)) Γ 0 (· = .bl b) := ev_c fun _ _ => by unfold Dat; rfl
theorem ev_non : Ev W (tC .non) Γ 0 (· = .non) := ev_c fun _ _ => by unfold Dat; rfl
/-- a new list is data -/
theorem EvF.ev {P : List Da → Prop} (h : EvF W te Γ c P) : Ev W te Γ c (fun d => ∃ ds, d = .lst ds ∧ P ds) := fun H0 B0 B σ H M s hM Q q =>
  h H0 B0 B σ H M s hM Q fun l xs ds H' n k r e hd p => q _ (.lst ds) H' k r (by
    unfold Dat
    exact ⟨l, xs, rfl, .of (s.toBk.free n) e, Dats.sub (fun b hb => List.mem_cons_of_mem _ hb) ds xs hd⟩) ⟨ds, rfl, p⟩
theorem EvF.ev' {ds : List Da} (h : EvF W te Γ c (· = ds)) : Ev W te Γ c (· = .lst ds) := h.ev.imp fun d ⟨e, h1, h2⟩ => by rw [h1, h2]
theorem EvG.ev {P : List (Key × Da) → Prop} (h : EvG W te Γ c P) : Ev W te Γ c (fun d => ∃ ds, d = .dct ds ∧ P ds) := fun H0 B0 B σ H M s hM Q q =>
  h H0 B0 B σ H M s hM Q fun l xs ds H' n k r e hd p => q _ (.dct ds) H' k r (by
    unfold Dat
    exact ⟨l, xs, rfl, ⟨s.toBk.free n, Or.inl e⟩, Datk.sub (fun b hb => List.mem_cons_of_mem _ hb) ds xs hd⟩) ⟨ds, rfl, p⟩

theorem ev_op (ha : Ev W ta Γ c1 P1) (hb : Ev W tb Γ c2 P2) (hr : ∀ d1 d2, P1 d1 → P2 d2 → Rv W r d1 d2 P) : Ev W (tOp r ta tb) Γ (c1 + c2) P := fun H0 B0 B σ H M s hM Q q =>
  ha H0 B0 B σ H M s (by omega) _ fun v1 d1 H1 k1 r1 h1 p1 => hb H0 B0 B σ H1 _ (s.keep k1 r1) (by omega) _ fun v2 d2 H2 k2 r2 h2 p2 =>
    hr d1 d2 p1 p2 B H2 _ v1 v2 ((s.keep k1 r1).keep k2 r2).toBk (Dat.mono ((s.keep k1 r1).toBk.kp k2) d1 v1 h1) h2 Q fun v d H3 k3 r3 h3 p3 => q v d H3 ((k1.trans k2).trans k3) (by rw [← sub_sub]; exact r3) h3 p3
theorem evF_op {P : List Da → Prop} (ha : Ev W ta Γ c1 P1) (hb : Ev W tb Γ c2 P2) (hr : ∀ d1 d2, P1 d1 → P2 d2 → RvF W r d1 d2 P) : EvF W (tOp r ta tb) Γ (c1 + c2) P := fun H0 B0 B σ H M s hM Q q =>
  ha H0 B0 B σ H M s (by omega) _ fun v1 d1 H1 k1 r1 h1 p1 => hb H0 B0 B σ H1 _ (s.keep k1 r1) (by omega) _ fun v2 d2 H2 k2 r2 h2 p2 =>
    hr d1 d2 p1 p2 B H2 _ v1 v2 ((s.keep k1 r1).keep k2 r2).toBk (Dat.mono ((s.keep k1 r1).toBk.kp k2) d1 v1 h1) h2 Q fun l xs ds H3 n k3 r3 e h3 p3 =>
      q l xs ds H3 ((k1.trans k2).backB (fun z => ((s.keep k1 r1).keep k2 r2).al l (s.fb l z) n) n) ((k1.trans k2).trans k3) (by rw [← sub_sub]; exact r3) e h3 p3
/-- both known -/
theorem ev_op2 {d1 d2 : Da} (ha : Ev W ta Γ c1 (· = d1)) (hb : Ev W tb Γ c2 (· = d2)) (hr : Rv W r d1 d2 P) : Ev W (tOp r ta tb) Γ (c1 + c2) P := ev_op ha hb fun _ _ e1 e2 => by rw [e1, e2]; exact hr
theorem evF_op2 {d1 d2 : Da} {P : List Da → Prop} (ha : Ev W ta Γ c1 (· = d1)) (hb : Ev W tb Γ c2 (· = d2)) (hr : RvF W r d1 d2 P) : EvF W (tOp r ta tb) Γ (c1 + c2) P := evF_op ha hb fun _ _ e1 e2 => by rw [e1, e2]; exact hr

theorem ev_and {Pa : Bool → Prop} (ha : Ev W ta Γ c1 (fun d => ∃ a, d = .bl a ∧ Pa a)) (hb : Pa true → Ev W tb Γ c2 P) (hf : Pa false → P (.bl false)) : Ev W (tAndV ta tb) Γ (c1 + c2) P := fun H0 B0 B σ H M s hM Q q =>
  ha H0 B0 B σ H M s (by omega) _ fun v1 d1 H1 k1 r1 h1 ⟨a, e, p1⟩ => by
    subst e
    unfold Dat at h1
    refine ⟨a, h1, ?_⟩
    cases a with
    | true =>
      show tb σ H1 Q
      exact hb p1 H0 B0 B σ H1 _ (s.keep k1 r1) (by omega) Q fun v d H2 k2 r2 h2 p2 => q v d H2 (k1.trans k2) (by rw [← sub_sub]; exact r2) h2 p2
    | false =>
      show Q (.bl false) H1
      exact q _ (.bl false) H1 k1 (W.less r1 (by omega)) (by unfold Dat; rfl) (hf p1)
theorem ev_or {Pa : Bool → Prop} (ha : Ev W ta Γ c1 (fun d => ∃ a, d = .bl a ∧ Pa a)) (hb : Pa false → Ev W tb Γ c2 P) (hf : Pa true → P (.bl true)) : Ev W (tOrV ta tb) Γ (c1 + c2) P := fun H0 B0 B σ H M s hM Q q =>
  ha H0 B0 B σ H M s (by omega) _ fun v1 d1 H1 k1 r1 h1 ⟨a, e, p1⟩ => by
    subst e
    unfold Dat at h1
    refine ⟨a, h1, ?_⟩
    cases a with
    | false =>
      show tb σ H1 Q
      exact hb p1 H0 B0 B σ H1 _ (s.keep k1 r1) (by omega) Q fun v d H2 k2 r2 h2 p2 => q v d H2 (k1.trans k2) (by rw [← sub_sub]; exact r2) h2 p2
    | true =>
      show Q (.bl true) H1
      exact q _ (.bl true) H1 k1 (W.less r1 (by omega)) (by unfold Dat; rfl) (hf p1)
theorem ev_not {Pa : Bool → Prop} (ha : Ev W ta Γ c (fun d => ∃ a, d = .bl a ∧ Pa a)) : Ev W (tNotV ta) Γ c (fun d => ∃ a, d = .bl (!a) ∧ Pa a) := fun H0 B0 B σ H M s hM Q q =>
  ha H0 B0 B σ H M s hM _ fun v1 d1 H1 k1 r1 h1 ⟨a, e, p1⟩ => by
    subst e
    unfold Dat at h1
    exact ⟨a, h1, q _ (.bl (!a)) H1 k1 r1 (by unfold Dat; rfl) ⟨a, rfl, p1⟩⟩
theorem ev_if {Pt : Bool → Prop} (ht : EvT W tt Γ c1 Pt) (h1 : Pt true → Ev W ta Γ c2 P) (h2 : Pt false → Ev W tb Γ c2 P) : Ev W (tIf tt ta tb) Γ (c1 + c2) P := fun H0 B0 B σ H M s hM Q q =>
  ht H0 B0 B σ H M s (by omega) _ fun b H1 k1 r1 p1 => by
    cases b with
    | true =>
      show ta σ H1 Q
      exact h1 p1 H0 B0 B σ H1 _ (s.keep k1 r1) (by omega) Q fun v d H2 k2 r2 h2 p2 => q v d H2 (k1.trans k2) (by rw [← sub_sub]; exact r2) h2 p2
    | false =>
      show tb σ H1 Q
      exact h2 p1 H0 B0 B σ H1 _ (s.keep k1 r1) (by omega) Q fun v d H2 k2 r2 h2 p2 => q v d H2 (k1.trans k2) (by rw [← sub_sub]; exact r2) h2 p2
theorem ev_chain (ha : Ev W ta Γ c1 P1) (hb : Ev W tb Γ c2 P2) {c3 : Nat} {P3 : Da → Prop} (hc : Ev W tc Γ c3 P3) {Pk : Da → Da → Bool → Prop}
    (hr : ∀ d1 d2, P1 d1 → P2 d2 → Rv W r d1 d2 (fun d => ∃ k, d = .bl k ∧ Pk d1 d2 k)) (hf : ∀ d1 d2, P1 d1 → P2 d2 → Pk d1 d2 false → P (.bl false)) (hr' : ∀ d1 d2 d3, P1 d1 → P2 d2 → P3 d3 → Pk d1 d2 true → Rv W r' d2 d3 P) :
    Ev W (tChain r r' ta tb tc) Γ (c1 + c2 + c3) P := fun H0 B0 B σ H M s hM Q q =>
  ha H0 B0 B σ H M s (by omega) _ fun v1 d1 H1 k1 r1 h1 p1 => hb H0 B0 B σ H1 _ (s.keep k1 r1) (by omega) _ fun v2 d2 H2 k2 r2 h2 p2 =>
    hr d1 d2 p1 p2 B H2 _ v1 v2 ((s.keep k1 r1).keep k2 r2).toBk (Dat.mono ((s.keep k1 r1).toBk.kp k2) d1 v1 h1) h2 _ fun v d H3 k3 r3 h3 ⟨k, e, p3⟩ => by
      subst e
      unfold Dat at h3
      refine ⟨k, h3, ?_⟩
      have s3 := ((s.keep k1 r1).keep k2 r2).keep k3 r3
      cases k with
      | false =>
        show Q (.bl false) H3
        exact q _ (.bl false) H3 ((k1.trans k2).trans k3) (W.less r3 (by omega)) (by unfold Dat; rfl) (hf d1 d2 p1 p2 p3)
      | true =>
        show tc σ H3 _
        refine hc H0 B0 B σ H3 _ s3 (by omega) _ fun v4 d4 H4 k4 r4 h4 p4 => ?_
        exact hr' d1 d2 d4 p1 p2 p4 p3 B H4 _ v2 v4 (s3.keep k4 r4).toBk (Dat.mono (((s.keep k1 r1).keep k2 r2).toBk.kp k3 |>.trans (s3.toBk.kp k4)) d2 v2 h2) h4 Q fun v5 d5 H5 k5 r5 h5 p5 =>
          q v5 d5 H5 ((((k1.trans k2).trans k3).trans k4).trans k5) (W.less r5 (by omega)) h5 p5
/-! tests -/
theorem et_test {P : Bool → Prop} (h : Ev W te Γ c (fun d => ∃ b, d = .bl b ∧ P b)) : EvT W (tTest te) Γ c P := fun H0 B0 B σ H M s hM Q q =>
  h H0 B0 B σ H M s hM _ fun v d H1 k r hd ⟨b, e, p⟩ => by
    subst e
    unfold Dat at hd
    exact ⟨b, hd, q b H1 k r p⟩
theorem et_B {P : Bool → Prop} (h : Ev W te Γ c (fun d => ∃ b, d = .bl b ∧ P b)) : EvT W (tB te) Γ c P := fun H0 B0 B σ H M s hM Q q =>
  h H0 B0 B σ H M s hM _ fun v d H1 k r hd ⟨b, e, p⟩ => by
    subst e
    unfold Dat at hd
    exact ⟨b, hd, q b H1 k r p⟩
theorem et_and {Pa P : Bool → Prop} (h1 : EvT W tt Γ c1 Pa) (h2 : Pa true → EvT W tu Γ c2 P) (hf : Pa false → P false) : EvT W (tAnd tt tu) Γ (c1 + c2) P := fun H0 B0 B σ H M s hM Q q =>
  h1 H0 B0 B σ H M s (by omega) _ fun b H1 k1 r1 p1 => by
    cases b with
    | true =>
      show tu σ H1 Q
      exact h2 p1 H0 B0 B σ H1 _ (s.keep k1 r1) (by omega) Q fun v H2 k2 r2 p2 => q v H2 (k1.trans k2) (by rw [← sub_sub]; exact r2) p2
    | false =>
      show Q false H1
      exact q _ H1 k1 (W.less r1 (by omega)) (hf p1)
theorem et_or {Pa P : Bool → Prop} (h1 : EvT W tt Γ c1 Pa) (h2 : Pa false → EvT W tu Γ c2 P) (hf : Pa true → P true) : EvT W (tOr tt tu) Γ (c1 + c2) P := fun H0 B0 B σ H M s hM Q q =>
  h1 H0 B0 B σ H M s (by omega) _ fun b H1 k1 r1 p1 => by
    cases b with
    | false =>
      show tu σ H1 Q
      exact h2 p1 H0 B0 B σ H1 _ (s.keep k1 r1) (by omega) Q fun v H2 k2 r2 p2 => q v H2 (k1.trans k2) (by rw [← sub_sub]; exact r2) p2
    | true =>
      show Q true H1
      exact q _ H1 k1 (W.less r1 (by omega)) (hf p1)
theorem et_not {P : Bool → Prop} (h : EvT W tt Γ c (fun b => P (!b))) : EvT W (tNot tt) Γ c P := fun H0 B0 B σ H M s hM Q q =>
  h H0 B0 B σ H M s hM _ fun b H1 k r p => q _ H1 k r p
theorem et_yes {P : Bool → Prop} (h : P true) : EvT W tYes Γ 0 P := fun H0 B0 B σ H M s hM Q q => q true H Kp.refl s.dr h
/-! arguments, displays, calls -/
theorem ea_nil : EvA W tNil Γ 0 (· = []) := fun H0 B0 B σ H M s _ Q q => q [] [] H Kp.refl s.dr Dats.nil rfl
theorem ea_cons {tr : TA} {P1 : Da → Prop} {P2 P : List Da → Prop} (h : Ev W ta Γ c1 P1) (hr : EvA W tr Γ c2 P2) (hp : ∀ d ds, P1 d → P2 ds → P (d :: ds)) : EvA W (tCons ta tr) Γ (c1 + c2) P := fun H0 B0 B σ H M s hM Q q =>
  h H0 B0 B σ H M s (by omega) _ fun v1 d1 H1 k1 r1 h1 p1 => hr H0 B0 B σ H1 _ (s.keep k1 r1) (by omega) _ fun vs ds H2 k2 r2 h2 p2 =>
    q _ _ H2 (k1.trans k2) (by rw [← sub_sub]; exact r2) (.cons (Dat.mono ((s.keep k1 r1).toBk.kp k2) d1 v1 h1) h2) (hp d1 ds p1 p2)
theorem ea_cons2 {tr : TA} {d : Da} {ds : List Da} (h : Ev W ta Γ c1 (· = d)) (hr : EvA W tr Γ c2 (· = ds)) : EvA W (tCons ta tr) Γ (c1 + c2) (· = d :: ds) := ea_cons h hr fun _ _ e1 e2 => by rw [e1, e2]
theorem ev_tup {ta : TA} {P : List Da → Prop} (h : EvA W ta Γ c P) (hl : ∀ ds, P ds → ds.length ≤ 100000) : Ev W (tTup ta) Γ c (fun d => ∃ ds, d = .tup ds ∧ P ds) := fun H0 B0 B σ H M s hM Q q =>
  h H0 B0 B σ H M s hM _ fun vs ds H1 k r hd p => ⟨by rw [hd.length]; exact Nat.le_trans (hl ds p) (by decide), fun a na => q _ (.tup ds) _ (k.trans (Kp.new na)) (Wd.new na r) (by
    unfold Dat
    exact ⟨a, vs, rfl, .of ((s.keep k r).toBk.free na) upd_same, Dats.mono (Kp.new na) ds vs hd⟩) ⟨ds, rfl, p⟩⟩
theorem evF_lst {ta : TA} {P : List Da → Prop} (h : EvA W ta Γ c P) (hl : ∀ ds, P ds → ds.length ≤ 100000) : EvF W (tLst ta) Γ c P := fun H0 B0 B σ H M s hM Q q =>
  h H0 B0 B σ H M s hM _ fun vs ds H1 k r hd p => ⟨by rw [hd.length]; exact Nat.le_trans (hl ds p) (by decide), fun a na => q a vs ds _ (k.backB (fun z => (s.keep k r).al a (s.fb a z) na) na) (k.trans (Kp.new na)) (Wd.new na r) upd_same
    (Dats.mono (Kp.new na) ds vs (Dats.put na ds vs hd)) p⟩
theorem evG_new : EvG W tDNewK Γ 0 (· = []) := fun H0 B0 B σ H M s _ Q q => fun a na => q a [] [] _ na (Kp.new na) (Wd.new na s.dr) upd_same (by unfold Datk; rfl) rfl
theorem ev_cb {rc : List V → Hp → VK → Prop} {ta : TA} {Pa : List Da → Prop} (h : EvA W ta Γ c Pa) (hr : ∀ ds, Pa ds → Rc W rc ds P) : Ev W (tCB rc ta) Γ c P := fun H0 B0 B σ H M s hM Q q =>
  h H0 B0 B σ H M s hM _ fun vs ds H1 k r hd p => hr ds p B H1 _ vs (s.keep k r).toBk hd Q fun v d H2 k2 r2 h2 p2 => q v d H2 (k.trans k2) r2 h2 p2
theorem evF_cb {rc : List V → Hp → VK → Prop} {ta : TA} {Pa P : List Da → Prop} (h : EvA W ta Γ c Pa) (hr : ∀ ds, Pa ds → RcF W rc ds P) : EvF W (tCB rc ta) Γ c P := fun H0 B0 B σ H M s hM Q q =>
  h H0 B0 B σ H M s hM _ fun vs ds H1 k r hd p => hr ds p B H1 _ vs (s.keep k r).toBk hd Q fun l xs ds H2 n k2 r2 e h2 p2 =>
    q l xs ds H2 (k.backB (fun z => (s.keep k r).al l (s.fb l z) n) n) (k.trans k2) r2 e h2 p2
theorem ev_call {sp : Sp} {E : XK} {ta : TA} {Pa : List Da → Prop} (h : EvA W ta Γ c1 Pa) (hs : ∀ ds, Pa ds → Fn W sp ds c2 P) : Ev W (tCall sp [] E ta) Γ (c1 + c2) P := fun H0 B0 B σ H M s hM Q q =>
  h H0 B0 B σ H M s (by omega) _ fun vs ds H1 k r hd p => by
    show sp (vs ++ []) H1 Q E
    rw [List.append_nil]
    exact hs ds p B H1 _ vs (s.keep k r).toBk (by omega) hd Q E fun v d H2 k2 r2 h2 p2 => q v d H2 (k.trans k2) (by rw [← sub_sub]; exact r2) h2 p2
/-- data without places -/
def Da.flat : Da → Bool
  | .lst _ => false
  | .tup _ => false
  | .dct _ => false
  | .ins _ _ => false
  | .exc _ _ => false
  | _ => true
theorem flat_dat {B B' : List Addr} {H H' : Hp} {v : V} {d : Da} (f : d.flat = true) (h : Dat K B H v d) : Dat K B' H' v d := by
  cases d <;> first | (unfold Dat at h ⊢; exact h) | cases f
/-- a list of the body's own, looked at -/
theorem ev_own {i : Nat} {ds : List Da} (hi : Γ[i]? = some (.own ds)) (h : Ev W te (Γ.set i (.dat (.lst ds))) c P) (hf : ∀ d, P d → d.flat = true) : Ev W te Γ c P := fun H0 B0 B σ H M s hM Q q => by
  obtain ⟨B', s'⟩ := s.freeze hi
  exact h H0 B0 B' σ H M s' hM Q fun v d H' k r hd p => q v d H' k r (flat_dat (hf d p) hd) p
theorem ev_ownD {i : Nat} {ds : List (Key × Da)} (hi : Γ[i]? = some (.ownD ds)) (h : Ev W te (Γ.set i (.dat (.dct ds))) c P) (hf : ∀ d, P d → d.flat = true) : Ev W te Γ c P := fun H0 B0 B σ H M s hM Q q => by
  obtain ⟨B', s'⟩ := s.freezeD hi
  exact h H0 B0 B' σ H M s' hM Q fun v d H' k r hd p => q v d H' k r (flat_dat (hf d p) hd) p
theorem et_own {i : Nat} {ds : List Da} {P : Bool → Prop} (hi : Γ[i]? = some (.own ds)) (h : EvT W tt (Γ.set i (.dat (.lst ds))) c P) : EvT W tt Γ c P := fun H0 B0 B σ H M s hM Q q => by
  obtain ⟨B', s'⟩ := s.freeze hi
  exact h H0 B0 B' σ H M s' hM Q fun b H' k r p => q b H' k r p
theorem et_ownD {i : Nat} {ds : List (Key × Da)} {P : Bool → Prop} (hi : Γ[i]? = some (.ownD ds)) (h : EvT W tt (Γ.set i (.dat (.dct ds))) c P) : EvT W tt Γ c P := fun H0 B0 B σ H M s hM Q q => by
  obtain ⟨B', s'⟩ := s.freezeD hi
  exact h H0 B0 B' σ H M s' hM Q fun b H' k r p => q b H' k r p
end
end WJ
set_option Elab.async false
set_option linter.all false
set_option maxRecDepth 100000
set_option maxHeartbeats 2000000
/-! WjD: what is walked, targets, comprehensions, statements, loops, a def's promise over data -/
namespace WJ
open PySem L2
section
variable {K : PySem.W.Frag} {W : Wd K} {B B0 : List Addr} {H H0 H' : Hp} {M M' : Nat} {σ : L2.St} {Γ : List En}
/-- a new place is barred -/
theorem Sg.bar (s : Sg W H0 B0 B σ Γ H M) {l : Addr} (n : H l = none) (k : Kp W.F H H') (d : W.Dr M' H') (hl' : H' l ≠ none) : Sg W H0 B0 (l :: B) σ Γ H' M' := by
  have s2 := s.keep k d
  refine ⟨⟨d, fun b hb => List.mem_cons_of_mem _ (s.fb b hb), fun b hb => ?_⟩, s2.k0, fun b hb => List.mem_cons_of_mem _ (s.b0 b hb), s.a0, s.f0, s.ln, fun j e' hj => ?_, s.ow, s.on⟩
  · rcases List.mem_cons.mp hb with z | z
    · rw [z]
      exact hl'
    · exact s2.al b z
  · obtain ⟨o2, q2, h2⟩ := s.sl j e' hj
    refine ⟨o2, q2, (h2.put n).mono (k.more fun b hb => List.mem_cons_of_mem _ (s.fb b hb)) fun l' t e2 => ?_⟩
    cases e' with
    | no => cases t
    | dat d => cases t
    | own ds =>
      obtain ⟨l1, x1, e3, _, hx1, _⟩ := h2
      rw [e2] at e3
      cases e3
      rw [hx1, k _ _ (s.outF (i := j) ⟨⟨_, hj, rfl⟩, by rw [q2, e2]⟩) hx1]
    | ownD ds =>
      obtain ⟨l1, x1, e3, _, hx1, _⟩ := h2
      rw [e2] at e3
      cases e3
      rw [hx1, k _ _ (s.outF (i := j) ⟨⟨_, hj, rfl⟩, by rw [q2, e2]⟩) hx1]
    | ownI aI CI ds =>
      obtain ⟨l1, x1, e3, _, hx1, _⟩ := h2
      rw [e2] at e3
      cases e3
      rw [hx1, k _ _ (s.outF (i := j) ⟨⟨_, hj, rfl⟩, by rw [q2, e2]⟩) hx1]
/-- a barred place that is nobody's changes -/
theorem Sg.upd0 (s : Sg W H0 B0 B σ Γ H M) {l : Addr} {o : HO} (hx : ∀ φ, H l ≠ some (.ext φ)) (ho : ∀ ps, o ≠ .tbl ps) (hB : l ∈ B) (hF : l ∉ W.F) (h0 : H0 l = none) (hn : ∀ j, ¬ Ow σ Γ j l) : Sg W H0 B0 B σ Γ (upd H l o) M := by
  refine ⟨⟨Wd.out hF hx ho s.dr, s.fb, fun b hb => ?_⟩, s.k0.late h0, s.b0, s.a0, s.f0, s.ln, fun j e1 hj => ?_, s.ow, s.on⟩
  · by_cases hbl : b = l
    · rw [hbl, upd_same]
      exact Option.some_ne_none _
    · rw [upd_ne hbl]
      exact s.al b hb
  · obtain ⟨o', ho, hs'⟩ := s.sl j e1 hj
    refine ⟨o', ho, hs'.mono (Kp.mut hB) fun l' t e2 => ?_⟩
    have hne : l' ≠ l := fun z => hn j (by rw [← z]; exact ⟨⟨e1, hj, t⟩, by rw [ho, e2]⟩)
    rw [upd_ne hne]
def wipeE (Γ : List En) : List Nat → List En
  | [] => Γ
  | v :: vs => (wipeE Γ vs).set v .no
theorem Sg.wipe (s : Sg W H0 B0 B σ Γ H M) : ∀ vs : List Nat, Sg W H0 B0 B (L2.wipe σ vs) (wipeE Γ vs) H M
  | [] => s
  | v :: vs => (Sg.wipe s vs).set rfl trivial
theorem Sg.fresh (s : Sg W H0 B0 B σ Γ H M) {l : Addr} (n : H l = none) (j : Nat) : ¬ Ow σ Γ j l := fun ⟨⟨e', g, t⟩, q⟩ => by
  obtain ⟨o2, q2, h2⟩ := s.sl j e' g
  rw [q] at q2
  cases q2
  cases e' with
  | no => cases t
  | dat d => cases t
  | own ds =>
    obtain ⟨l1, x1, e3, hb, _⟩ := h2
    cases e3
    exact s.al _ hb n
  | ownD ds =>
    obtain ⟨l1, x1, e3, hb, _⟩ := h2
    cases e3
    exact s.al _ hb n
  | ownI aI CI ds =>
    obtain ⟨l1, x1, e3, hb, _⟩ := h2
    cases e3
    exact s.al _ hb n
theorem ow_wipe : ∀ {vs : List Nat} {j : Nat} {l : Addr}, Ow (L2.wipe σ vs) (wipeE Γ vs) j l → Ow σ Γ j l
  | [], _, _, h => h
  | v :: vs, j, l, ⟨⟨e, g, t⟩, q⟩ => by
    have g2 : ((wipeE Γ vs).set v .no)[j]? = some e := g
    have q2 : ((L2.wipe σ vs).set v none)[j]? = some (some (.ref l)) := q
    by_cases hj : v = j
    · subst hj
      by_cases hl : v < (wipeE Γ vs).length
      · rw [List.getElem?_set_self hl] at g2
        cases g2
        cases t
      · rw [List.getElem?_eq_none (by simpa using hl)] at g2
        cases g2
    · rw [List.getElem?_set_ne hj] at g2 q2
      exact ow_wipe ⟨⟨e, g2, t⟩, q2⟩
end

theorem Sg.setD {K : PySem.W.Frag} {W : Wd K} {B B0 : List Addr} {H H0 : Hp} {M : Nat} {σ : L2.St} {Γ : List En} (s : Sg W H0 B0 B σ Γ H M) {i : Nat} {v : V} {d : Da} (h : Dat K B H v d) : Sg W H0 B0 B (σ.set i (some v)) (Γ.set i (.dat d)) H M := s.set (e := .dat d) rfl ⟨v, rfl, h⟩
theorem set_wipe_comm {σ : L2.St} (i : Nat) : ∀ vs : List Nat, (L2.wipe σ vs).set i none = L2.wipe (σ.set i none) vs
  | [] => rfl
  | v :: vs => by
    show ((L2.wipe σ vs).set v none).set i none = (L2.wipe (σ.set i none) vs).set v none
    by_cases h : v = i
    · rw [h, List.set_set, ← set_wipe_comm i vs, List.set_set]
    · rw [List.set_comm _ _ h, set_wipe_comm i vs]
theorem wipe_wipe (σ : L2.St) : ∀ vs : List Nat, L2.wipe (L2.wipe σ vs) vs = L2.wipe σ vs
  | [] => rfl
  | v :: vs => by
    show (L2.wipe ((L2.wipe σ vs).set v none) vs).set v none = (L2.wipe σ vs).set v none
    rw [← set_wipe_comm v vs, List.set_set, wipe_wipe σ vs]
/-! ### what is walked -/
section
variable {K : PySem.W.Frag} {W : Wd K} {Γ : List En} {c c1 c2 c' : Nat} {te ta tb tc tl : TE} {tt tu : TT}
theorem src_list {B : List Addr} {H : Hp} {a : Addr} {ds : List Da} (h : Dat K B H (.ref a) (.lst ds)) : Src K B (Itl K a) ds H := fun B' H' m al => by
  have h3 := Dat.mv m _ _ h
  unfold Dat at h3
  obtain ⟨a', xs', e, s, hd2⟩ := h3
  cases e
  refine ⟨fun i hi => ?_, xs', s.sq, by rw [hd2.length]; exact Nat.le_refl _⟩
  have hx : i < xs'.length := by rw [hd2.length]; exact hi
  refine ⟨⟨xs', xs'[i], s.sq, List.getElem?_eq_getElem hx⟩, fun x H2 ⟨e1, y⟩ => ?_⟩
  subst e1
  obtain ⟨d, e3, hd3⟩ := hd2.get (y xs' s.sq)
  exact ⟨Kp.refl, Nt.refl, d, e3, hd3⟩
theorem src_tup {B : List Addr} {H : Hp} {a : Addr} {ds : List Da} (h : Dat K B H (.ref a) (.tup ds)) : Src K B (Itt K a) ds H := fun B' H' m al => by
  have h3 := Dat.mv m _ _ h
  unfold Dat at h3
  obtain ⟨a', xs', e, s, hd2⟩ := h3
  cases e
  refine ⟨fun i hi => ?_, xs', s.sq, by rw [hd2.length]; exact Nat.le_refl _⟩
  have hx : i < xs'.length := by rw [hd2.length]; exact hi
  refine ⟨⟨xs', xs'[i], s.sq, List.getElem?_eq_getElem hx⟩, fun x H2 ⟨e1, y⟩ => ?_⟩
  subst e1
  obtain ⟨d, e3, hd3⟩ := hd2.get (y xs' s.sq)
  exact ⟨Kp.refl, Nt.refl, d, e3, hd3⟩
/-- lo, lo + 1, .. as data -/
def rngD (lo : Int) (n : Nat) : List Da := (List.range n).map fun (i : Nat) => Da.int (lo + (i : Int))
theorem rngD_len {lo : Int} {n : Nat} : (rngD lo n).length = n := by simp [rngD]
theorem rngD_get {lo : Int} {n i : Nat} (h : i < n) : (rngD lo n)[i]? = some (.int (lo + i)) := by simp [rngD, h]
theorem src_rng {B : List Addr} {H : Hp} {lo : Int} {n : Nat} : Src K B (Itr lo n) (rngD lo n) H := fun B' H' m al => by
  refine ⟨fun i hi => ?_, by rw [rngD_len]; exact Nat.le_refl _⟩
  rw [rngD_len] at hi
  refine ⟨hi, fun x H2 ⟨e1, y⟩ => ?_⟩
  subst e1 y
  exact ⟨Kp.refl, Nt.refl, _, rngD_get hi, by unfold Dat; rfl⟩
/-- the signs of a text -/
def signsD (x : Str) : List Da := x.cps.toList.map fun c => Da.str ⟨#[c]⟩
theorem src_str {B : List Addr} {H : Hp} {x : Str} : Src K B (Its x) (signsD x) H := fun B' H' m al => by
  have el : (signsD x).length = x.cps.size := by simp [signsD]
  refine ⟨fun i hi => ?_, by rw [el]; exact Nat.le_refl _⟩
  rw [el] at hi
  refine ⟨hi, fun v H2 ⟨e1, c, e2, e3⟩ => ?_⟩
  subst e1 e3
  refine ⟨Kp.refl, Nt.refl, .str ⟨#[c]⟩, ?_, by unfold Dat; rfl⟩
  unfold signsD
  rw [List.getElem?_map, Array.getElem?_toList, e2]
  rfl
theorem ei_list {P : List Da → Prop} (h : Ev W tl Γ c (fun d => ∃ ds, d = .lst ds ∧ P ds)) : Ei W (iList K tl) Γ c P := fun H0 B0 B σ H M s hM R q =>
  h H0 B0 B σ H M s hM _ fun v d H1 k r hd ⟨ds, e, p⟩ => by
    subst e
    have hd0 := hd
    unfold Dat at hd
    obtain ⟨a, xs, rfl, hs, _⟩ := hd
    exact ⟨a, rfl, ⟨xs, hs.sq⟩, q _ ds H1 k r (src_list hd0) p⟩
theorem ei_tup {P : List Da → Prop} (h : Ev W tl Γ c (fun d => ∃ ds, d = .tup ds ∧ P ds)) : Ei W (iTup K tl) Γ c P := fun H0 B0 B σ H M s hM R q =>
  h H0 B0 B σ H M s hM _ fun v d H1 k r hd ⟨ds, e, p⟩ => by
    subst e
    have hd0 := hd
    unfold Dat at hd
    obtain ⟨a, xs, rfl, hs, _⟩ := hd
    exact ⟨a, rfl, ⟨xs, hs.sq⟩, q _ ds H1 k r (src_tup hd0) p⟩
theorem ei_str {P : List Da → Prop} (h : Ev W tl Γ c (fun d => ∃ x, d = .str x ∧ P (signsD x))) : Ei W (iStr tl) Γ c P := fun H0 B0 B σ H M s hM R q =>
  h H0 B0 B σ H M s hM _ fun v d H1 k r hd ⟨x, e, p⟩ => by
    subst e
    unfold Dat at hd
    exact ⟨x, hd, q _ _ H1 k r src_str p⟩
theorem ei_rng1 {P : List Da → Prop} {ta : TA} (h : EvA W ta Γ c (fun ds => ∃ n : Int, ds = [.int n] ∧ (-(2 ^ 62) ≤ n ∧ n < 2 ^ 62) ∧ P (rngD 0 n.toNat))) : Ei W (iRng1 ta) Γ c P := fun H0 B0 B σ H M s hM R q =>
  h H0 B0 B σ H M s hM _ fun vs ds H1 k r hd ⟨n, e, hn, p⟩ => by
    subst e
    unfold Dats at hd
    obtain ⟨v, t, rfl, hv, ht⟩ := hd
    unfold Dat at hv
    unfold Dats at ht
    subst hv ht
    exact ⟨n, rfl, hn.1, hn.2, q _ _ H1 k r src_rng p⟩
theorem ei_rng2 {P : List Da → Prop} {ta : TA} (h : EvA W ta Γ c (fun ds => ∃ m n : Int, ds = [.int m, .int n] ∧ (-(2 ^ 62) ≤ m ∧ m < 2 ^ 62 ∧ -(2 ^ 62) ≤ n ∧ n < 2 ^ 62) ∧ P (rngD m (n - m).toNat))) : Ei W (iRng2 ta) Γ c P := fun H0 B0 B σ H M s hM R q =>
  h H0 B0 B σ H M s hM _ fun vs ds H1 k r hd ⟨m, n, e, hn, p⟩ => by
    subst e
    unfold Dats at hd
    obtain ⟨v, t, rfl, hv, ht⟩ := hd
    unfold Dats at ht
    obtain ⟨v2, t2, rfl, hv2, ht2⟩ := ht
    unfold Dat at hv hv2
    unfold Dats at ht2
    subst hv hv2 ht2
    exact ⟨m, n, rfl, hn, q _ _ H1 k r src_rng p⟩
theorem Ei.weak {wi : TI} {P P' : List Da → Prop} (h : Ei W wi Γ c P) (hp : ∀ ds, P ds → P' ds) : Ei W wi Γ c P' := fun H0 B0 B σ H M s hM R q =>
  h H0 B0 B σ H M s hM R fun J ds H' k r hs p => q J ds H' k r hs (hp ds p)

/-! ### targets -/
def Eg (W : Wd K) (g : TG) (vs : List Nat) (d : Da) (Γ Γ' : List En) : Prop :=
  ∀ (H0 : Hp) (B0 B : List Addr) (σ : L2.St) (H : Hp) (M : Nat) (v : V), Sg W H0 B0 B σ Γ H M → Dat K B H v d → ∀ Q : L2.St → Hp → Prop, (∀ σ', Sg W H0 B0 B σ' Γ' H M → L2.wipe σ' vs = L2.wipe σ vs → Q σ' H) → g v σ H Q
theorem eg_name {i : Nat} {d : Da} : Eg W (gName i) [i] d Γ (Γ.set i (.dat d)) := fun H0 B0 B σ H M v s hd Q q =>
  q _ (s.set rfl ⟨v, rfl, hd⟩) (by show (σ.set i (some v)).set i none = σ.set i none; rw [List.set_set])
theorem wipe_set {σ : L2.St} {o : Option V} : ∀ (vs : List Nat) (i : Nat), i ∈ vs → L2.wipe (σ.set i o) vs = L2.wipe σ vs
  | [], _, h => nomatch h
  | v :: vs, i, h => by
    show (L2.wipe (σ.set i o) vs).set v none = (L2.wipe σ vs).set v none
    by_cases hi : i ∈ vs
    · rw [wipe_set vs i hi]
    · have e : i = v := by
        rcases List.mem_cons.mp h with z | z
        · exact z
        · exact absurd z hi
      subst e
      have sw : ∀ ws : List Nat, i ∉ ws → L2.wipe (σ.set i o) ws = (L2.wipe σ ws).set i o := fun ws hw => by
        induction ws with
        | nil => rfl
        | cons w ws ih =>
          show (L2.wipe (σ.set i o) ws).set w none = ((L2.wipe σ ws).set w none).set i o
          rw [ih (fun z => hw (List.mem_cons_of_mem _ z)), List.set_comm _ _ (fun z => hw (by rw [z]; exact List.mem_cons_self))]
      rw [sw vs hi, List.set_set]
theorem eg_pair {i j : Nat} {d1 d2 : Da} : Eg W (gTup K 2 (gCons (gName i) (gCons (gName j) gNil))) [i, j] (.tup [d1, d2]) Γ ((Γ.set i (.dat d1)).set j (.dat d2)) := fun H0 B0 B σ H M v s hd Q q => by
  unfold Dat at hd
  obtain ⟨a, xs, rfl, hs, hx⟩ := hd
  have hl := hx.length
  unfold Dats at hx
  obtain ⟨v1, t, rfl, h1, hx⟩ := hx
  unfold Dats at hx
  obtain ⟨v2, t2, rfl, h2, hx⟩ := hx
  unfold Dats at hx
  subst hx
  refine ⟨a, _, rfl, hs.sq, rfl, v1, _, rfl, v2, _, rfl, rfl, ?_⟩
  refine q _ ((s.setD h1).setD h2) ?_
  rw [wipe_set _ _ (by simp), wipe_set _ _ (by simp)]
theorem eg_three {i j k : Nat} {d1 d2 d3 : Da} : Eg W (gTup K 3 (gCons (gName i) (gCons (gName j) (gCons (gName k) gNil)))) [i, j, k] (.tup [d1, d2, d3]) Γ (((Γ.set i (.dat d1)).set j (.dat d2)).set k (.dat d3)) := fun H0 B0 B σ H M v s hd Q q => by
  unfold Dat at hd
  obtain ⟨a, xs, rfl, hs, hx⟩ := hd
  have hl := hx.length
  unfold Dats at hx
  obtain ⟨v1, t, rfl, h1, hx⟩ := hx
  unfold Dats at hx
  obtain ⟨v2, t2, rfl, h2, hx⟩ := hx
  unfold Dats at hx
  obtain ⟨v3, t3, rfl, h3, hx⟩ := hx
  unfold Dats at hx
  subst hx
  refine ⟨a, _, rfl, hs.sq, rfl, v1, _, rfl, v2, _, rfl, v3, _, rfl, rfl, ?_⟩
  refine q _ (((s.setD h1).setD h2).setD h3) ?_
  rw [wipe_set _ _ (by simp), wipe_set _ _ (by simp), wipe_set _ _ (by simp)]

/-! ### comprehensions -/
theorem mul_step {i n cb : Nat} (h : i < n) : i * cb + cb ≤ n * cb := by
  have := Nat.mul_le_mul_right cb (show i + 1 ≤ n from h)
  rw [Nat.add_mul, Nat.one_mul] at this
  exact this
theorem mul_mono {i n cb : Nat} (h : i ≤ n) : i * cb ≤ n * cb := Nat.mul_le_mul_right cb h
/-- one turn of a comprehension: the items ds, the i-th one d, acc so far -/
def Turn1 (W : Wd K) (g : TG) (tt : TT) (te : TE) (vs : List Nat) (Γ : List En) (cb : Nat) (d : Da) (Ry : Da → Prop) (Rn : Prop) : Prop :=
  ∃ (Γ' : List En) (Pt : Bool → Prop) (ct ce : Nat), Eg W g vs d (wipeE Γ vs) Γ' ∧ ct + ce ≤ cb ∧ EvT W tt Γ' ct Pt ∧ (Pt true → Ev W te Γ' ce Ry) ∧ (Pt false → Rn)
/-- a comprehension once its source stands -/
theorem lc_run {g : TG} {vs : List Nat} {c0 cb n : Nat} {Pi : List Da → Prop} {R : List Da → Nat → List Da → Prop} (h0 : ∀ ds, Pi ds → R ds 0 [])
    (hs : ∀ ds i d acc, Pi ds → ds[i]? = some d → R ds i acc → Turn1 W g tt te vs Γ cb d (fun e => R ds (i + 1) (acc ++ [e])) (R ds (i + 1) acc)) (hn : ∀ ds, Pi ds → ds.length ≤ n) (hz : n ≤ 100000)
    (H0 : Hp) (B0 B : List Addr) (σ : L2.St) (H : Hp) (M : Nat) (s : Sg W H0 B0 B σ Γ H M) (hM : c0 + n * cb ≤ M) (Q : VK) (q : ∀ l xs ds H', H l = none → Kp W.F H H' → W.Dr (M - (c0 + n * cb)) H' → H' l = some (.lst xs) → Dats K (l :: B) H' xs ds → (∃ es, Pi es ∧ R es es.length ds) → Q (.ref l) H')
    (J : It) (ds : List Da) (H1 : Hp) (k1 : Kp W.F H H1) (r1 : W.Dr (M - c0) H1) (hJ : Src K B J ds H1) (pi : Pi ds) : tLc (fun _ H R => R J H) g tt te vs σ H1 Q := by
    intro D nD
    have s1 := s.keep k1 r1
    have nDH : H D = none := k1.backB (fun z => s1.al D (s.fb D z) nD) nD
    have D0 : H0 D = none := s.k0.backB (fun z => s.al D (s.fb D z) nDH) nDH
    have DF : D ∉ W.F := fun z => s1.al D (s.fb D z) nD
    have hlen := hn ds pi
    have noOw : ∀ j, ¬ Ow (L2.wipe σ vs) (wipeE Γ vs) j D := fun j z => s1.fresh nD j (ow_wipe z)
    refine ⟨fun i m H2 => m = ds.length - i ∧ i ≤ ds.length ∧ ∃ acc xs, Sg W H0 B0 (D :: B) (L2.wipe σ vs) (wipeE Γ vs) H2 (M - c0 - i * cb) ∧ Mv B H1 (D :: B) H2 ∧ Kp W.F H1 H2 ∧ H2 D = some (.lst xs) ∧ Dats K (D :: B) H2 xs acc ∧ R ds i acc ∧ acc.length ≤ i, ⟨_, rfl, Nat.zero_le _, [], [], ?_, ?_, Kp.new nD, upd_same, Dats.nil, h0 ds pi, Nat.le_refl _⟩, ?_⟩
    · rw [Nat.zero_mul]
      exact (s1.wipe vs).bar nD (Kp.new nD) (Wd.new nD r1) (by rw [upd_same]; exact Option.some_ne_none _)
    · exact ⟨put_bar nD, Kp.new nD⟩
    · rintro i m H2 ⟨rfl, hi2, acc, xs, s2, m2, k2, hD, hacc, hR, hal⟩
      have hsrc := hJ (D :: B) H2 m2 s2.al
      by_cases hlt : i < ds.length
      · refine Or.inr ⟨(hsrc.1 i hlt).1, fun H3 => ∃ acc xs, Sg W H0 B0 (D :: B) (L2.wipe σ vs) (wipeE Γ vs) H3 (M - c0 - (i + 1) * cb) ∧ Mv B H1 (D :: B) H3 ∧ Kp W.F H1 H3 ∧ H3 D = some (.lst xs) ∧ Dats K (D :: B) H3 xs acc ∧ R ds (i + 1) acc ∧ acc.length ≤ i + 1, fun H3 h3 => ⟨ds.length - (i + 1), by omega, rfl, hlt, h3⟩, fun x H3 hy => ?_⟩
        obtain ⟨k3, n3, d, ed, hd3⟩ := (hsrc.1 i hlt).2 x H3 hy
        have st := mul_step (cb := cb) (Nat.lt_of_lt_of_le hlt hlen)
        have st2 : (i + 1) * cb = i * cb + cb := by rw [Nat.add_mul, Nat.one_mul]
        have r3 : W.Dr (M - c0 - i * cb) H3 := W.pres (fun b hb => by
          cases e : H2 b with
          | none => exact absurd e (W.alive s2.dr b hb)
          | some o => rw [k3 b o (fun z => nomatch z) e]) (fun b φ e => k3 b _ (fun z => nomatch z) e) n3 s2.dr
        have s3 := s2.keep (k3.all) r3
        obtain ⟨Γ', Pt, ct, ce, hg, hce, hT, hE, hN⟩ := hs ds i d acc pi ed hR
        refine hg H0 B0 (D :: B) _ H3 _ x s3 hd3 _ fun σ' s4 hw => ⟨by
          rw [hw]
          have hww : ∀ us : List Nat, L2.wipe (L2.wipe σ vs) us = L2.wipe (L2.wipe σ vs) us := fun _ => rfl
          exact wipe_wipe σ vs, ?_⟩
        refine hT H0 B0 (D :: B) σ' H3 _ s4 (by omega) _ fun b H4 k4 r4 pt => ?_
        have hD4 : H4 D = some (.lst xs) := k4 D _ DF (k3 D _ (fun z => nomatch z) hD)
        have m4 : Mv B H1 (D :: B) H4 := m2.trans (Mv.of ((Kp.all k3).trans (s3.toBk.kp k4)))
        have hacc4 : Dats K (D :: B) H4 xs acc := Dats.mono ((Kp.all k3).trans (s3.toBk.kp k4)) acc xs hacc
        have hw4 : ∀ (H5 : Hp) (M5 : Nat), Kp W.F H4 H5 → W.Dr M5 H5 → Sg W H0 B0 (D :: B) (L2.wipe σ vs) (wipeE Γ vs) H5 M5 := fun H5 M5 k5 r5 => (s3.keep k4 r4).keep k5 r5
        cases b with
        | false =>
          show ∃ acc xs, _
          exact ⟨acc, xs, (hw4 H4 _ Kp.refl (W.less r4 (by omega))), m4, (k2.trans k3.all).trans k4, hD4, hacc4, hN pt, by omega⟩
        | true =>
          show te σ' H4 _
          refine hE pt H0 B0 (D :: B) σ' H4 _ (s4.keep k4 r4) (by omega) _ fun y e H5 k5 r5 hy5 hR5 => ?_
          have hD5 : H5 D = some (.lst xs) := k5 D _ DF hD4
          have kB : Kp (D :: B) H4 H5 := (s3.keep k4 r4).toBk.kp k5
          refine ⟨xs, hD5, by rw [hacc.length]; exact Nat.lt_of_lt_of_le (show acc.length < 100000 by omega) (by decide), acc ++ [e], xs ++ [y], ?_, m4.trans (Mv.of (kB.trans (Kp.mut List.mem_cons_self))), (((k2.trans k3.all).trans k4).trans k5).late nD, upd_same, ?_, hR5, by rw [List.length_append]; simpa using hal⟩
          · exact (hw4 H5 _ k5 (W.less r5 (by omega))).upd0 (fun φ e => by rw [hD5] at e; cases e) (fun ps z => HO.noConfusion z) List.mem_cons_self DF D0 noOw
          · exact Dats.mono (Kp.mut List.mem_cons_self) _ _ ((Dats.mono kB acc xs hacc4).append (Dats.one hy5))
      · have e : i = ds.length := by omega
        subst e
        have := mul_mono (cb := cb) hlen
        exact Or.inl ⟨hsrc.2, q D xs acc H2 nDH (k1.trans k2) (W.less s2.dr (by omega)) hD hacc ⟨ds, pi, hR⟩⟩
theorem evF_lc {wi : TI} {g : TG} {vs : List Nat} {c0 cb n : Nat} {Pi : List Da → Prop} {R : List Da → Nat → List Da → Prop} (hi : Ei W wi Γ c0 Pi) (h0 : ∀ ds, Pi ds → R ds 0 [])
    (hs : ∀ ds i d acc, Pi ds → ds[i]? = some d → R ds i acc → Turn1 W g tt te vs Γ cb d (fun e => R ds (i + 1) (acc ++ [e])) (R ds (i + 1) acc)) (hn : ∀ ds, Pi ds → ds.length ≤ n) (hz : n ≤ 100000) :
    EvF W (tLc wi g tt te vs) Γ (c0 + n * cb) (fun acc => ∃ ds, Pi ds ∧ R ds ds.length acc) := fun H0 B0 B σ H M s hM Q q =>
  hi H0 B0 B σ H M s (by omega) _ fun J ds H1 k1 r1 hJ pi => lc_run h0 hs hn hz H0 B0 B σ H M s hM Q q J ds H1 k1 r1 hJ pi
end
end WJ
set_option Elab.async false
set_option linter.all false
set_option maxRecDepth 100000
set_option maxHeartbeats 2000000
/-! WjE: statements over data, loops, a def's promise over data -/
namespace WJ
open PySem L2
/-- how a block may end: it goes on, hands back, breaks, continues -/
structure Po where
  nx : List En → Prop
  rt : Da → Prop
  bk : List En → Prop := fun _ => False
  ct : List En → Prop := fun _ => False
section
variable {K : PySem.W.Frag}
def Es (W : Wd K) (t : TS) (Γ : List En) (c : Nat) (p : Po) : Prop :=
  ∀ (H0 : Hp) (B0 B : List Addr) (σ : L2.St) (H : Hp) (M : Nat) (D : Ends), Sg W H0 B0 B σ Γ H M → c ≤ M →
    (∀ B' σ' Γ' H', Sg W H0 B0 B' σ' Γ' H' (M - c) → Mv B H B' H' → p.nx Γ' → D.nx σ' H') →
    (∀ v d H', Kp W.F H0 H' → W.Dr (M - c) H' → Dat K B0 H' v d → p.rt d → D.rt v H') →
    (∀ B' σ' Γ' H', Sg W H0 B0 B' σ' Γ' H' (M - c) → Mv B H B' H' → p.bk Γ' → D.bk σ' H') →
    (∀ B' σ' Γ' H', Sg W H0 B0 B' σ' Γ' H' (M - c) → Mv B H B' H' → p.ct Γ' → D.ct σ' H') → t D σ H
end
section
variable {K : PySem.W.Frag} {W : Wd K} {Γ : List En} {c c1 c2 c' : Nat} {P : Da → Prop} {te ta tb : TE} {tt : TT} {t u : TS} {p : Po}
theorem Es.weak (h : Es W t Γ c p) (hc : c ≤ c') : Es W t Γ c' p := fun H0 B0 B σ H M D s hM a b e f =>
  h H0 B0 B σ H M D s (Nat.le_trans hc hM) (fun B' σ' Γ' H' s' => a B' σ' Γ' H' (s'.less (by omega))) (fun v d H' k r => b v d H' k (W.less r (by omega))) (fun B' σ' Γ' H' s' => e B' σ' Γ' H' (s'.less (by omega))) (fun B' σ' Γ' H' s' => f B' σ' Γ' H' (s'.less (by omega)))
theorem es_seq {N : List En → Prop} (h1 : Es W t Γ c1 { p with nx := N }) (h2 : ∀ Γ', N Γ' → Es W u Γ' c2 p) : Es W (tSeq t u) Γ (c1 + c2) p := fun H0 B0 B σ H M D s hM a b e f =>
  h1 H0 B0 B σ H M { D with nx := u D } s (by omega)
    (fun B1 σ1 Γ1 H1 s1 m1 n1 => h2 Γ1 n1 H0 B0 B1 σ1 H1 _ D s1 (by omega) (fun B' σ' Γ' H' s' m' => a B' σ' Γ' H' (by rw [← sub_sub]; exact s') (m1.trans m')) (fun v d H' k r => b v d H' k (by rw [← sub_sub]; exact r))
      (fun B' σ' Γ' H' s' m' => e B' σ' Γ' H' (by rw [← sub_sub]; exact s') (m1.trans m')) (fun B' σ' Γ' H' s' m' => f B' σ' Γ' H' (by rw [← sub_sub]; exact s') (m1.trans m')))
    (fun v d H' k r => b v d H' k (W.less r (by omega))) (fun B' σ' Γ' H' s' => e B' σ' Γ' H' (s'.less (by omega))) (fun B' σ' Γ' H' s' => f B' σ' Γ' H' (s'.less (by omega)))
theorem es_next (h : p.nx Γ) : Es W tNext Γ 0 p := fun H0 B0 B σ H M D s hM a b e f => a B σ Γ H s Mv.refl h
theorem es_break (h : p.bk Γ) : Es W tBreak Γ 0 p := fun H0 B0 B σ H M D s hM a b e f => e B σ Γ H s Mv.refl h
theorem es_cont (h : p.ct Γ) : Es W tCont Γ 0 p := fun H0 B0 B σ H M D s hM a b e f => f B σ Γ H s Mv.refl h
theorem es_ret (h : Ev W te Γ c P) (hp : ∀ d, P d → p.rt d) : Es W (tRet te) Γ c p := fun H0 B0 B σ H M D s hM a b e f =>
  h H0 B0 B σ H M s hM _ fun v d H' k r hd q => b v d H' (s.k0.trans k) r (Dat.sub s.b0 d v hd) (hp d q)
theorem es_retN (h : p.rt .non) : Es W tRetN Γ 0 p := fun H0 B0 B σ H M D s hM a b e f => b _ .non H s.k0 s.dr (by unfold Dat; rfl) h
theorem es_drop (h : Ev W te Γ c P) (hp : p.nx Γ) : Es W (tDrop te) Γ c p := fun H0 B0 B σ H M D s hM a b e f =>
  h H0 B0 B σ H M s hM _ fun v d H' k r hd q => a B σ Γ H' (s.keep k r) (Mv.of (s.toBk.kp k)) hp
theorem es_asg {i : Nat} (h : Ev W te Γ c P) (hp : ∀ d, P d → p.nx (Γ.set i (.dat d))) : Es W (tAsg te (gName i)) Γ c p := fun H0 B0 B σ H M D s hM a b e f =>
  h H0 B0 B σ H M s hM _ fun v d H' k r hd q => a B _ _ H' ((s.keep k r).setD hd) (Mv.of (s.toBk.kp k)) (hp d q)
theorem es_asgG {g : TG} {vs : List Nat} (h : Ev W te Γ c P) (hg : ∀ d, P d → ∃ Γ', Eg W g vs d Γ Γ' ∧ p.nx Γ') : Es W (tAsg te g) Γ c p := fun H0 B0 B σ H M D s hM a b e f =>
  h H0 B0 B σ H M s hM _ fun v d H' k r hd q => by
    obtain ⟨Γ', h1, h2⟩ := hg d q
    exact h1 H0 B0 B σ H' _ v (s.keep k r) hd _ fun σ' s' _ => a B σ' Γ' H' s' (Mv.of (s.toBk.kp k)) h2
theorem es_asgF {i : Nat} {P : List Da → Prop} (h : EvF W te Γ c P) (hp : ∀ ds, P ds → p.nx (Γ.set i (.own ds))) : Es W (tAsg te (gName i)) Γ c p := fun H0 B0 B σ H M D s hM a b e f =>
  h H0 B0 B σ H M s hM _ fun l xs ds H' n k r hl hd q => a (l :: B) _ _ H' (s.setOwn n k r rfl (show Sl K (l :: B) H' (some (.ref l)) (.own ds) from ⟨l, xs, rfl, List.mem_cons_self, hl, hd⟩) (by rw [hl]; exact Option.some_ne_none _)) ⟨put_bar n, s.toBk.kp k⟩ (hp ds q)
theorem es_asgD {i : Nat} {P : List (Key × Da) → Prop} (h : EvG W te Γ c P) (hp : ∀ ds, P ds → p.nx (Γ.set i (.ownD ds))) : Es W (tAsg te (gName i)) Γ c p := fun H0 B0 B σ H M D s hM a b e f =>
  h H0 B0 B σ H M s hM _ fun l xs ds H' n k r hl hd q => a (l :: B) _ _ H' (s.setOwn n k r rfl (show Sl K (l :: B) H' (some (.ref l)) (.ownD ds) from ⟨l, xs, rfl, List.mem_cons_self, hl, hd⟩) (by rw [hl]; exact Option.some_ne_none _)) ⟨put_bar n, s.toBk.kp k⟩ (hp ds q)
theorem es_freeze {i : Nat} {ds : List Da} (hi : Γ[i]? = some (.own ds)) (h : Es W t (Γ.set i (.dat (.lst ds))) c p) : Es W t Γ c p := fun H0 B0 B σ H M D s hM a b e f => by
  have q := s.freeze hi
  obtain ⟨B', s', hb⟩ : ∃ B', Sg W H0 B0 B' σ (Γ.set i (.dat (.lst ds))) H M ∧ ∀ x ∈ B', x ∈ B := s.freezeS hi
  have m : Mv B H B' H := Mv.sub Mv.refl hb
  exact h H0 B0 B' σ H M D s' hM (fun B1 σ1 Γ1 H1 s1 m1 => a B1 σ1 Γ1 H1 s1 (m.trans m1)) b (fun B1 σ1 Γ1 H1 s1 m1 => e B1 σ1 Γ1 H1 s1 (m.trans m1)) (fun B1 σ1 Γ1 H1 s1 m1 => f B1 σ1 Γ1 H1 s1 (m.trans m1))
theorem es_freezeD {i : Nat} {ds : List (Key × Da)} (hi : Γ[i]? = some (.ownD ds)) (h : Es W t (Γ.set i (.dat (.dct ds))) c p) : Es W t Γ c p := fun H0 B0 B σ H M D s hM a b e f => by
  obtain ⟨B', s', hb⟩ : ∃ B', Sg W H0 B0 B' σ (Γ.set i (.dat (.dct ds))) H M ∧ ∀ x ∈ B', x ∈ B := s.freezeDS hi
  have m : Mv B H B' H := Mv.sub Mv.refl hb
  exact h H0 B0 B' σ H M D s' hM (fun B1 σ1 Γ1 H1 s1 m1 => a B1 σ1 Γ1 H1 s1 (m.trans m1)) b (fun B1 σ1 Γ1 H1 s1 m1 => e B1 σ1 Γ1 H1 s1 (m.trans m1)) (fun B1 σ1 Γ1 H1 s1 m1 => f B1 σ1 Γ1 H1 s1 (m.trans m1))
theorem es_freezeI {i : Nat} {aI CI : Addr} {ds : List (Str × Da)} (hi : Γ[i]? = some (.ownI aI CI ds)) (h : Es W t (Γ.set i (.dat (.ins CI ds))) c p) : Es W t Γ c p := fun H0 B0 B σ H M D s hM a b e f => by
  obtain ⟨B', s', hb⟩ : ∃ B', Sg W H0 B0 B' σ (Γ.set i (.dat (.ins CI ds))) H M ∧ ∀ x ∈ B', x ∈ B := s.freezeIS hi
  have m : Mv B H B' H := Mv.sub Mv.refl hb
  exact h H0 B0 B' σ H M D s' hM (fun B1 σ1 Γ1 H1 s1 m1 => a B1 σ1 Γ1 H1 s1 (m.trans m1)) b (fun B1 σ1 Γ1 H1 s1 m1 => e B1 σ1 Γ1 H1 s1 (m.trans m1)) (fun B1 σ1 Γ1 H1 s1 m1 => f B1 σ1 Γ1 H1 s1 (m.trans m1))
theorem es_if {Pt : Bool → Prop} (h : EvT W tt Γ c1 Pt) (h1 : Pt true → Es W t Γ c2 p) (h2 : Pt false → Es W u Γ c2 p) : Es W (tIfS tt t u) Γ (c1 + c2) p := fun H0 B0 B σ H M D s hM a b e f =>
  h H0 B0 B σ H M s (by omega) _ fun bb H1 k1 r1 p1 => by
    have m1 : Mv B H B H1 := Mv.of (s.toBk.kp k1)
    cases bb with
    | true =>
      show t D σ H1
      exact h1 p1 H0 B0 B σ H1 _ D (s.keep k1 r1) (by omega) (fun B' σ' Γ' H' s' m' => a B' σ' Γ' H' (by rw [← sub_sub]; exact s') (m1.trans m')) (fun v d H' k r => b v d H' k (by rw [← sub_sub]; exact r))
        (fun B' σ' Γ' H' s' m' => e B' σ' Γ' H' (by rw [← sub_sub]; exact s') (m1.trans m')) (fun B' σ' Γ' H' s' m' => f B' σ' Γ' H' (by rw [← sub_sub]; exact s') (m1.trans m'))
    | false =>
      show u D σ H1
      exact h2 p1 H0 B0 B σ H1 _ D (s.keep k1 r1) (by omega) (fun B' σ' Γ' H' s' m' => a B' σ' Γ' H' (by rw [← sub_sub]; exact s') (m1.trans m')) (fun v d H' k r => b v d H' k (by rw [← sub_sub]; exact r))
        (fun B' σ' Γ' H' s' m' => e B' σ' Γ' H' (by rw [← sub_sub]; exact s') (m1.trans m')) (fun B' σ' Γ' H' s' m' => f B' σ' Γ' H' (by rw [← sub_sub]; exact s') (m1.trans m'))
/-- a, b = e1, e2 -/
theorem es_par {i j : Nat} {ta : TA} {P : List Da → Prop} (h : EvA W ta Γ c P) (hp : ∀ ds, P ds → ∃ d1 d2, ds = [d1, d2] ∧ p.nx ((Γ.set i (.dat d1)).set j (.dat d2))) : Es W (tPar i j ta) Γ c p := fun H0 B0 B σ H M D s hM a b e f =>
  h H0 B0 B σ H M s hM _ fun vs ds H' k r hd q => by
    obtain ⟨d1, d2, rfl, hn⟩ := hp ds q
    unfold Dats at hd
    obtain ⟨v1, t, rfl, h1, hx⟩ := hd
    unfold Dats at hx
    obtain ⟨v2, t2, rfl, h2, hx⟩ := hx
    unfold Dats at hx
    subst hx
    exact ⟨v1, v2, rfl, a B _ _ H' (((s.keep k r).setD h1).setD h2) (Mv.of (s.toBk.kp k)) hn⟩
/-! ### the body's own lists and dicts -/
theorem es_append {i : Nat} {ds : List Da} (hi : Γ[i]? = some (.own ds)) (h : Ev W te Γ c P) (hl : ds.length < 100000) (hp : ∀ d, P d → p.nx (Γ.set i (.own (ds ++ [d])))) : Es W (tDrop (tBM K "list" rAppend (tVar i) (tCons te tNil))) Γ c p := fun H0 B0 B σ H M D s hM a b e f => by
  obtain ⟨o, ho, l, xs, rfl, hB, hx, hd⟩ := s.sl i _ hi
  have hO : Ow σ Γ i l := ⟨⟨_, hi, rfl⟩, ho⟩
  refine ⟨.ref l, ho, Or.inl ⟨rfl, xs, Or.inl (Or.inl hx)⟩, ?_⟩
  refine h H0 B0 B σ H M s hM _ fun v d H1 k r hv q => ?_
  have hx1 : H1 l = some (.lst xs) := k l _ (s.outF hO) hx
  have s1 := s.keep k r
  refine ⟨l, xs, v, rfl, rfl, hx1, by rw [hd.length]; exact Nat.lt_of_lt_of_le hl (by decide), ?_⟩
  refine a B σ _ _ (s1.change hi rfl ho (e' := .own (ds ++ [d])) rfl ⟨l, xs ++ [v], rfl, hB, upd_same, Dats.mono (Kp.mut hB) _ _ ((Dats.mono (s.toBk.kp k) ds xs hd).append (Dats.one hv))⟩) (Mv.of ((s.toBk.kp k).trans (Kp.mut hB))) (hp d q)
def putD (es : List (Key × Da)) (k : Key) (d : Da) : List (Key × Da) := if es.any (fun kv => decide (kv.1 = k)) then es.map (fun kv => if kv.1 = k then (kv.1, d) else kv) else es ++ [(k, d)]
theorem Datk.keys {B : List Addr} {H : Hp} : ∀ {es : List (Key × Da)} {kvs : List (Key × V)}, Datk K B H kvs es → kvs.map (·.1) = es.map (·.1)
  | [], _, h => by
    unfold Datk at h
    rw [h]; rfl
  | (k, d) :: es, _, h => by
    unfold Datk at h
    obtain ⟨v, r, rfl, _, t⟩ := h
    rw [List.map_cons, List.map_cons, Datk.keys t]
theorem Datk.cons {B : List Addr} {H : Hp} {k : Key} {v : V} {d : Da} {kvs : List (Key × V)} {es : List (Key × Da)} (h : Dat K B H v d) (t : Datk K B H kvs es) : Datk K B H ((k, v) :: kvs) ((k, d) :: es) := by
  unfold Datk
  exact ⟨v, kvs, rfl, h, t⟩
theorem Datk.nil {B : List Addr} {H : Hp} : Datk K B H [] [] := by unfold Datk; rfl
theorem Datk.snoc {B : List Addr} {H : Hp} {k : Key} {v : V} {d : Da} (hv : Dat K B H v d) : ∀ {es : List (Key × Da)} {kvs : List (Key × V)}, Datk K B H kvs es → Datk K B H (kvs ++ [(k, v)]) (es ++ [(k, d)])
  | [], _, h => by
    unfold Datk at h
    rw [h]
    exact .cons hv .nil
  | (q, e) :: es, _, h => by
    unfold Datk at h
    obtain ⟨w, r, rfl, h1, t⟩ := h
    exact .cons h1 (Datk.snoc hv t)
theorem Datk.length {B : List Addr} {H : Hp} {es : List (Key × Da)} {kvs : List (Key × V)} (h : Datk K B H kvs es) : kvs.length = es.length := by
  have := congrArg List.length h.keys
  simpa using this
end
end WJ
set_option Elab.async false
set_option linter.all false
set_option maxRecDepth 100000
set_option maxHeartbeats 2000000
/-! WjF: dicts of the body's own, loops, a def's promise over data -/
namespace WJ
open PySem L2
section
variable {K : PySem.W.Frag} {W : Wd K} {Γ : List En} {c c1 c2 c3 c' : Nat} {P : Da → Prop} {te ta tb td ty tv : TE} {tt : TT} {t u : TS} {p : Po}
/-- what a dict of data holds -/
def valD (es : List (Key × Da)) (k : Key) : Option Da := (es.find? fun kv => decide (kv.1 = k)).map (·.2)
theorem Datk.val {B : List Addr} {H : Hp} (k : Key) : ∀ {es : List (Key × Da)} {kvs : List (Key × V)}, Datk K B H kvs es → (valD es k = none ∧ valV kvs k = none) ∨ ∃ v d, valD es k = some d ∧ valV kvs k = some v ∧ Dat K B H v d
  | [], _, h => by
    unfold Datk at h
    rw [h]
    exact Or.inl ⟨rfl, rfl⟩
  | (q, e) :: es, _, h => by
    unfold Datk at h
    obtain ⟨w, r, rfl, h1, t⟩ := h
    by_cases hq : q = k
    · refine Or.inr ⟨w, e, ?_, valV_pos hq, h1⟩
      simp [valD, List.find?_cons, hq]
    · have e1 : valD ((q, e) :: es) k = valD es k := by simp [valD, List.find?_cons, hq]
      rw [e1, valV_neg hq]
      exact Datk.val k t
theorem Datk.any {B : List Addr} {H : Hp} (k : Key) {es : List (Key × Da)} {kvs : List (Key × V)} (h : Datk K B H kvs es) : (kvs.any fun kv => decide (kv.1 = k)) = es.any fun kv => decide (kv.1 = k) := by
  have e := h.keys
  have e1 : (kvs.any fun kv => decide (kv.1 = k)) = (kvs.map (·.1)).any fun q => decide (q = k) := by simp [List.any_map]; rfl
  have e2 : (es.any fun kv => decide (kv.1 = k)) = (es.map (·.1)).any fun q => decide (q = k) := by simp [List.any_map]; rfl
  rw [e1, e2, e]
theorem Datk.over {B : List Addr} {H : Hp} {k : Key} {v : V} {d : Da} (hv : Dat K B H v d) : ∀ {es : List (Key × Da)} {kvs : List (Key × V)}, Datk K B H kvs es →
    Datk K B H (kvs.map fun kv => if kv.1 = k then (kv.1, v) else kv) (es.map fun kv => if kv.1 = k then (kv.1, d) else kv)
  | [], _, h => by
    unfold Datk at h
    rw [h]
    exact .nil
  | (q, e) :: es, _, h => by
    unfold Datk at h
    obtain ⟨w, r, rfl, h1, t⟩ := h
    rw [List.map_cons, List.map_cons]
    by_cases hq : q = k
    · rw [if_pos hq, if_pos hq]
      exact .cons hv (Datk.over hv t)
    · rw [if_neg hq, if_neg hq]
      exact .cons h1 (Datk.over hv t)
theorem Datk.putK {B : List Addr} {H : Hp} {k : Key} {v : V} {d : Da} {es : List (Key × Da)} {kvs : List (Key × V)} (hv : Dat K B H v d) (h : Datk K B H kvs es) : Datk K B H (L2.putK kvs k v) (putD es k d) := by
  unfold L2.putK putD
  rw [h.any k]
  by_cases q : (es.any fun kv => decide (kv.1 = k)) = true
  · rw [if_pos q, if_pos q]
    exact h.over hv
  · rw [if_neg q, if_neg q]
    exact h.snoc hv
/-- a key as data -/
def keyD : Key → Da
  | .inl i => .int i
  | .inr x => .str x
theorem keyD_dat {B : List Addr} {H : Hp} {v : V} {k : Key} (h : Dat K B H v (keyD k)) : v = kV k := by
  cases k <;> (unfold keyD Dat at h; exact h)
/-- d[k] = e, d the body's own -/
theorem es_dput {i : Nat} {es : List (Key × Da)} {Pk : Key → Prop} (hi : Γ[i]? = some (.ownD es)) (hv : Ev W tv Γ c1 P) (hk : Ev W ty Γ c2 (fun d => ∃ k, d = keyD k ∧ Pk k)) (hl : es.length < 100000)
    (hp : ∀ d k, P d → Pk k → p.nx (Γ.set i (.ownD (putD es k d)))) : Es W (sDPut (tVar i) ty tv) Γ (c1 + c2) p := fun H0 B0 B σ H M D s hM a b e f => by
  obtain ⟨o, ho, l, xs, rfl, hB, hx, hd⟩ := s.sl i _ hi
  have hO : Ow σ Γ i l := ⟨⟨_, hi, rfl⟩, ho⟩
  refine hv H0 B0 B σ H M s (by omega) _ fun v d H1 k1 r1 hv1 q1 => ⟨.ref l, ho, ?_⟩
  refine hk H0 B0 B σ H1 _ (s.keep k1 r1) (by omega) _ fun y dy H2 k2 r2 hy ⟨k, e1, pk⟩ => ?_
  subst e1
  have k12 := k1.trans k2
  have hx2 : H2 l = some (.dK xs) := k12 l _ (s.outF hO) hx
  have s2 := (s.keep k1 r1).keep k2 r2
  refine ⟨l, _, rfl, (keyD_dat hy) ▸ DPut.k hx2 (by rw [hd.length]; exact Nat.lt_of_lt_of_le hl (by decide)), ?_⟩
  have hd2 : Datk K B H2 xs es := Datk.mono (s.toBk.kp k12) es xs hd
  have hv2 : Dat K B H2 v d := Dat.mono ((s.keep k1 r1).toBk.kp k2) d v hv1
  refine a B σ _ _ ((s2.change hi rfl ho (e' := .ownD (putD es k d)) rfl ⟨l, _, rfl, hB, upd_same, Datk.mono (Kp.mut hB) _ _ (Datk.putK hv2 hd2)⟩).less (by omega)) (Mv.of ((s.toBk.kp k12).trans (Kp.mut hB))) (hp d k q1 pk)
/-! ### loops -/
theorem es_for {wi : TI} {g : TG} {vs : List Nat} {c0 cb n : Nat} {Pi : List Da → Prop} (I : List Da → Nat → List En → Prop) (hi : Ei W wi Γ c0 Pi) (h0 : ∀ ds, Pi ds → I ds 0 Γ)
    (hs : ∀ ds i d Γ1, Pi ds → ds[i]? = some d → I ds i Γ1 → ∃ Γ2, Eg W g vs d Γ1 Γ2 ∧ Es W t Γ2 cb ⟨I ds (i + 1), p.rt, p.nx, I ds (i + 1)⟩) (hd : ∀ ds Γ1, Pi ds → I ds ds.length Γ1 → p.nx Γ1) (hn : ∀ ds, Pi ds → ds.length ≤ n) :
    Es W (tFor wi g t) Γ (c0 + n * cb) p := fun H0 B0 B σ H M D s hM a b e f =>
  hi H0 B0 B σ H M s (by omega) _ fun J ds H1 k1 r1 hJ pi => by
    have hlen := hn ds pi
    have s1 := s.keep k1 r1
    have m1 : Mv B H B H1 := Mv.of (s.toBk.kp k1)
    have hall := mul_mono (cb := cb) hlen
    refine ⟨fun i m σ2 H2 => m = ds.length - i ∧ i ≤ ds.length ∧ ∃ B2 Γ2, Sg W H0 B0 B2 σ2 Γ2 H2 (M - c0 - i * cb) ∧ Mv B H1 B2 H2 ∧ I ds i Γ2, ⟨_, rfl, Nat.zero_le _, B, Γ, by rw [Nat.zero_mul]; exact s1, Mv.refl, h0 ds pi⟩, ?_⟩
    rintro i m σ2 H2 ⟨rfl, hi2, B2, Γ2, s2, m2, hI⟩
    have hsrc := hJ B2 H2 m2 s2.al
    by_cases hlt : i < ds.length
    · refine Or.inr ⟨(hsrc.1 i hlt).1, fun σ3 H3 => ∃ B2 Γ2, Sg W H0 B0 B2 σ3 Γ2 H3 (M - c0 - (i + 1) * cb) ∧ Mv B H1 B2 H3 ∧ I ds (i + 1) Γ2, fun σ3 H3 h3 => ⟨ds.length - (i + 1), by omega, rfl, hlt, h3⟩, fun x H3 hy => ?_⟩
      obtain ⟨k3, n3, d, ed, hd3⟩ := (hsrc.1 i hlt).2 x H3 hy
      have st := mul_step (cb := cb) (Nat.lt_of_lt_of_le hlt hlen)
      have st2 : (i + 1) * cb = i * cb + cb := by rw [Nat.add_mul, Nat.one_mul]
      have r3 : W.Dr (M - c0 - i * cb) H3 := W.pres (fun b hb => by
        cases e : H2 b with
        | none => exact absurd e (W.alive s2.dr b hb)
        | some o => rw [k3 b o (fun z => nomatch z) e]) (fun b φ e => k3 b _ (fun z => nomatch z) e) n3 s2.dr
      have s3 := s2.keep (k3.all) r3
      have m3 : Mv B H1 B2 H3 := m2.trans (Mv.of k3.all)
      obtain ⟨Γ3, hg, hb⟩ := hs ds i d Γ2 pi ed hI
      refine hg H0 B0 B2 σ2 H3 _ x s3 hd3 _ fun σ3 s4 _ => ?_
      exact hb H0 B0 B2 σ3 H3 _ _ s4 (by omega) (fun B5 σ5 Γ5 H5 s5 m5 n5 => ⟨B5, Γ5, s5.less (by omega), m3.trans m5, n5⟩) (fun v d H5 k5 r5 => b v d H5 k5 (W.less r5 (by omega)))
        (fun B5 σ5 Γ5 H5 s5 m5 n5 => a B5 σ5 Γ5 H5 (s5.less (by omega)) ((m1.trans m3).trans m5) n5) (fun B5 σ5 Γ5 H5 s5 m5 n5 => ⟨B5, Γ5, s5.less (by omega), m3.trans m5, n5⟩)
    · have e : i = ds.length := by omega
      subst e
      exact Or.inl ⟨hsrc.2, a B2 σ2 Γ2 H2 (s2.less (by omega)) (m1.trans m2) (hd ds Γ2 pi hI)⟩
theorem es_while {ct cb m0 : Nat} (I : Nat → List En → Prop) (h0 : I m0 Γ)
    (hs : ∀ m Γ1, m ≤ m0 → I m Γ1 → ∃ Pt, EvT W tt Γ1 ct Pt ∧ (Pt true → Es W t Γ1 cb ⟨fun Γ2 => ∃ m', m' < m ∧ I m' Γ2, p.rt, p.nx, fun Γ2 => ∃ m', m' < m ∧ I m' Γ2⟩) ∧ (Pt false → p.nx Γ1)) :
    Es W (tWhile tt t) Γ ((m0 + 1) * (ct + cb)) p := fun H0 B0 B σ H M D s hM a b e f => by
  have e0 : (m0 + 1) * (ct + cb) = m0 * (ct + cb) + (ct + cb) := by rw [Nat.add_mul, Nat.one_mul]
  have key : ∀ m, m ≤ m0 → (m0 - m) * (ct + cb) + (ct + cb) ≤ M := fun m hm => by
    have := mul_mono (cb := ct + cb) (show m0 - m ≤ m0 by omega)
    omega
  refine ⟨fun m σ2 H2 => m ≤ m0 ∧ ∃ B2 Γ2, Sg W H0 B0 B2 σ2 Γ2 H2 (M - (m0 - m) * (ct + cb)) ∧ Mv B H B2 H2 ∧ I m Γ2, ⟨m0, Nat.le_refl _, B, Γ, by rw [Nat.sub_self, Nat.zero_mul]; exact s, Mv.refl, h0⟩, ?_⟩
  rintro m σ2 H2 ⟨hm, B2, Γ2, s2, m2, hI⟩
  obtain ⟨Pt, hT, h1, h2⟩ := hs m Γ2 hm hI
  have hk := key m hm
  have top : (m0 - m) * (ct + cb) + (ct + cb) ≤ (m0 + 1) * (ct + cb) := by
    have := mul_step (cb := ct + cb) (show m0 - m < m0 + 1 by omega)
    exact this
  refine hT H0 B0 B2 σ2 H2 _ s2 (by omega) _ fun bb H3 k3 r3 pt => ?_
  have s3 := s2.keep k3 r3
  have m3 : Mv B H B2 H3 := m2.trans (Mv.of (s2.toBk.kp k3))
  cases bb with
  | false =>
    show D.nx σ2 H3
    exact a B2 σ2 Γ2 H3 (s3.less (by omega)) m3 (h2 pt)
  | true =>
    show ∃ N, _
    have back : ∀ m', m' < m → (m0 - m) * (ct + cb) + (ct + cb) ≤ (m0 - m') * (ct + cb) := fun m' hm' => by
      have := mul_step (cb := ct + cb) (show m0 - m < m0 - m' by omega)
      exact this
    refine ⟨fun σ4 H4 => ∃ m', m' < m ∧ (m' ≤ m0 ∧ ∃ B2 Γ2, Sg W H0 B0 B2 σ4 Γ2 H4 (M - (m0 - m') * (ct + cb)) ∧ Mv B H B2 H4 ∧ I m' Γ2), fun σ4 H4 ⟨m', l, z⟩ => ⟨m', l, z⟩, ?_⟩
    exact h1 pt H0 B0 B2 σ2 H3 _ _ s3 (by omega) (fun B5 σ5 Γ5 H5 s5 m5 ⟨m', l, i5⟩ => ⟨m', l, by omega, B5, Γ5, s5.less (by have := back m' l; omega), m3.trans m5, i5⟩) (fun v d H5 k5 r5 => b v d H5 k5 (W.less r5 (by omega)))
      (fun B5 σ5 Γ5 H5 s5 m5 n5 => a B5 σ5 Γ5 H5 (s5.less (by omega)) (m3.trans m5) n5) (fun B5 σ5 Γ5 H5 s5 m5 ⟨m', l, i5⟩ => ⟨m', l, by omega, B5, Γ5, s5.less (by have := back m' l; omega), m3.trans m5, i5⟩)
end
/-! ### a def's promise over data -/
/-- what is promised: in which world, of which arguments, at what cost, of which result -/
abbrev Ct (K : PySem.W.Frag) := Wd K → List Da → Nat → (Da → Prop) → Prop
def spD {K : PySem.W.Frag} (C : Ct K) : Sp := fun vs H Q _ => ∃ (W : Wd K) (B : List Addr) (M : Nat) (ds : List Da) (c : Nat) (P : Da → Prop), C W ds c P ∧ Bk W B H M ∧ c ≤ M ∧ Dats K B H vs ds ∧
  ∀ v d H', Kp W.F H H' → W.Dr (M - c) H' → Dat K B H' v d → P d → Q v H'
theorem fn_of_ct {K : PySem.W.Frag} {C : Ct K} {W : Wd K} {ds : List Da} {c : Nat} {P : Da → Prop} (h : C W ds c P) : Fn W (spD C) ds c P := fun B H M vs s hM hd Q E q => ⟨W, B, M, ds, c, P, h, s, hM, hd, q⟩
/-- the names at the entry -/
def startE (N : List Str) (ds : List Da) : List En := ds.map En.dat ++ List.replicate (N.length - ds.length) .no
section
variable {K : PySem.W.Frag} {W : Wd K} {B : List Addr} {H : Hp} {M : Nat}
theorem startE_own {N : List Str} {ds : List Da} {i : Nat} {e : En} (h : (startE N ds)[i]? = some e) : e.isOwn = false := by
  have h2 := List.mem_of_getElem? h
  unfold startE at h2
  rcases List.mem_append.mp h2 with z | z
  · obtain ⟨d, _, rfl⟩ := List.mem_map.mp z
    rfl
  · rw [(List.mem_replicate.mp z).2]; rfl
theorem Sg.start {N : List Str} {ds : List Da} {vs : List V} (s : Bk W B H M) (hd : Dats K B H vs ds) (hn : ds.length ≤ N.length) : Sg W H B B (L2.start N vs) (startE N ds) H M := by
  have hl := hd.length
  refine ⟨s, Kp.refl, fun _ h => h, s.al, s.fb, ?_, fun i e he => ?_, fun i j l ⟨⟨e, g, t⟩, _⟩ => ?_, fun i l ⟨⟨e, g, t⟩, _⟩ => ?_⟩
  · unfold L2.start startE
    rw [List.length_append, List.length_append, List.length_map, List.length_map, List.length_replicate, List.length_replicate, hl]
  · unfold startE at he
    unfold L2.start
    by_cases hi : i < ds.length
    · rw [List.getElem?_append_left (by simpa using hi), List.getElem?_map] at he
      cases ed : ds[i]? with
      | none =>
        rw [ed] at he
        cases he
      | some d =>
        rw [ed] at he
        cases he
        obtain ⟨v, ev, hv⟩ := hd.get' ed
        refine ⟨some v, ?_, v, rfl, hv⟩
        rw [List.getElem?_append_left (by simpa [hl] using hi), List.getElem?_map, ev]
        rfl
    · rw [List.getElem?_append_right (by simpa using hi)] at he
      have hm := List.mem_of_getElem? he
      have e1 := (List.mem_replicate.mp hm).2
      subst e1
      have hlt := (List.getElem?_eq_some_iff.mp he).1
      rw [List.length_replicate, List.length_map] at hlt
      refine ⟨none, ?_, trivial⟩
      rw [List.getElem?_append_right (by simpa [hl] using hi), List.length_map, List.getElem?_replicate, if_pos (by rw [hl]; omega)]
  · rw [startE_own g] at t
    cases t
  · rw [startE_own g] at t
    cases t
end
/-- THE RULE of a def over data -/
theorem fn_data {Pr : Program} {w : World} {K : PySem.W.Frag} {mg : Str → Option Value} {base : Heap} {x qual : Str} {params : Arguments} {body : List Stmt} {scope : Scope} {dvs : List V} {kws : List (Str × V)} {f : Addr} {fd : FuncData} {N ps : List Str} {k : Nat} {C : Ct K}
    (F : FunD K x qual params body scope dvs kws f fd) (S : FnScope N ps scope) (len : ∀ W ds c P, C W ds c P → ds.length = ps.length) (hps : ps.length ≤ N.length)
    (hbody : ∀ (cdv : Value) (A : Around) (outer : List Env) (s : Shared) (H : Hp) (E : XK), Room k (A.deeper (PyProof.Rows.envOfC qual scope s.heap.objs.size f cdv)) →
      ∃ t, PSs (cxOf CX0 Pr w K mg base N qual scope f cdv A outer s H E) body t ∧ ∀ W ds c P, C W ds c P → Es W t (startE N ds) c ⟨fun _ => P .non, P, fun _ => False, fun _ => False⟩) : FnOk Pr w K mg base CX0 (k + 1) f fd ps (spD C) := by
  refine F.ok S (fun vs H Q E h => ?_) (fun cdv A outer s H vs Q E hr h => ?_)
  · obtain ⟨W, B, M, ds, c, P, hC, _, _, hd, _⟩ := h
    rw [hd.length]
    exact len W ds c P hC
  · obtain ⟨W, B, M, ds, c, P, hC, hb, hM, hd, q⟩ := h
    obtain ⟨t, ht, hE⟩ := hbody cdv A outer s H E hr
    refine ⟨t, ht, ?_⟩
    have s0 : Sg W H B B (L2.start N vs) (startE N ds) H M := Sg.start hb hd (by rw [len W ds c P hC]; exact hps)
    exact hE W ds c P hC H B B _ H M _ s0 hM (fun B' σ' Γ' H' s' m' n' => q .non .non H' s'.k0 s'.dr (by unfold Dat; rfl) n') (fun v d H' k' r' hd' p' => q v d H' k' r' hd' p') (fun _ _ _ _ _ _ z => z.elim) (fun _ _ _ _ _ _ z => z.elim)
end WJ
set_option Elab.async false
set_option linter.all false
set_option maxRecDepth 100000
set_option maxHeartbeats 2000000
/-! WjO: a dict locked while it is walked -/
namespace WJ
open PySem L2
section
variable {K : PySem.W.Frag} {W : Wd K} {B B0 : List Addr} {H H0 H' : Hp} {M M' : Nat} {σ : L2.St} {Γ : List En}
theorem Sl.monoq {o : Option V} {e : En} (k : Kq B H H') (ok : ∀ l, e.isOwn = true → o = some (.ref l) → H' l = H l) (h : Sl K B H o e) : Sl K B H' o e := by
  cases e with
  | no => exact trivial
  | dat d =>
    obtain ⟨v, e, h⟩ := h
    exact ⟨v, e, Dat.monoq k d v h⟩
  | own ds =>
    obtain ⟨l, xs, e, hl, hx, h⟩ := h
    exact ⟨l, xs, e, hl, (ok l rfl e).trans hx, Dats.monoq k ds xs h⟩
  | ownD ds =>
    obtain ⟨l, xs, e, hl, hx, h⟩ := h
    exact ⟨l, xs, e, hl, (ok l rfl e).trans hx, Datk.monoq k ds xs h⟩
  | ownI aI CI ds =>
    obtain ⟨l, xs, e, hl, hx, h⟩ := h
    exact ⟨l, xs, e, hl, (ok l rfl e).trans hx, ⟨Datf.monoq k ds xs.2 h.1, h.2⟩⟩
/-- a dict that is read is locked -/
theorem Sg.lock (s : Sg W H0 B0 B σ Γ H M) {d : Addr} {kvs : List (Key × V)} (od : Obj) (hd : H d = some (.dK kvs)) (hb : d ∉ B) : ∃ H1 B1, Sg W H1 B1 B σ Γ (upd H d (.frz od (.dK kvs))) M := by
  refine ⟨fun a => if a ∈ W.F then H a else none, W.F, ⟨⟨Wd.out (fun z => hb (s.fb d z)) (fun φ e => by rw [hd] at e; cases e) (fun ps z => HO.noConfusion z) s.dr, s.fb, fun b hb' => ?_⟩, fun a o n e => ?_, s.fb, fun b hb' => ?_, fun b h => h, s.ln, fun i e hi => ?_, s.ow, fun i l h => ?_⟩⟩
  · rw [upd_ne (fun z => hb (by rw [← z]; exact hb'))]
    exact s.al b hb'
  · rw [if_neg n] at e
    cases e
  · show (if b ∈ W.F then H b else none) ≠ none
    rw [if_pos hb']
    exact s.al b (s.fb b hb')
  · obtain ⟨o, ho, hs⟩ := s.sl i e hi
    refine ⟨o, ho, hs.monoq (Kq.lock od hd) fun l t e2 => upd_ne fun z => ?_⟩
    subst z
    cases e with
    | no => cases t
    | dat d => cases t
    | own ds =>
      obtain ⟨l1, x1, e3, hl1, _⟩ := hs
      rw [e2] at e3
      cases e3
      exact hb hl1
    | ownD ds =>
      obtain ⟨l1, x1, e3, hl1, _⟩ := hs
      rw [e2] at e3
      cases e3
      exact hb hl1
    | ownI aI CI ds =>
      obtain ⟨l1, x1, e3, hl1, _⟩ := hs
      rw [e2] at e3
      cases e3
      exact hb hl1
  · show (if l ∈ W.F then H l else none) = none
    rw [if_neg (s.outF h)]
end
/-- locked, or locked before -/
def tLockO (t : TE) : TE := fun σ H Q => tLockE t σ H Q ∨ t σ H Q
theorem pe_lockO {X : Cx} {e : Expr} {t : TE} (h : PE X e t) : PE X e (tLockO t) := by
  refine ⟨fun pins s σ H Q I hw => ?_⟩
  rcases hw with hw | hw
  · exact (pe_lock h).run pins s σ H Q I hw
  · exact h.run pins s σ H Q I hw
section
variable {K : PySem.W.Frag} {W : Wd K} {Γ : List En} {c c0 : Nat} {te td : TE} {tt : TT}
/-- a new list, made while the dict of name i is locked -/
theorem evF_lock {t : TE} {i : Nat} {es : List (Key × Da)} {P : List Da → Prop} (h : Γ[i]? = some (.dat (.dct es)))
    (ht : ∀ (H0 : Hp) (B0 B : List Addr) (σ : L2.St) (H : Hp) (M : Nat) (d : Addr) (od : Obj) (kvs : List (Key × V)), Sg W H0 B0 B σ Γ H M → c ≤ M → σ[i]? = some (some (.ref d)) → d ∉ B → H d = some (.frz od (.dK kvs)) → Datk K B H kvs es →
      ∀ Q : VK, (∀ l xs ds H', H l = none → Kp W.F H H' → W.Dr (M - c) H' → H' l = some (.lst xs) → Dats K (l :: B) H' xs ds → P ds → Q (.ref l) H') → t σ H Q) : EvF W (tLockO t) Γ c P := fun H0 B0 B σ H M s hM Q q => by
  obtain ⟨o, ho, v, rfl, hd⟩ := s.sl i _ h
  unfold Dat at hd
  obtain ⟨d, kvs, rfl, ⟨nb, rd⟩, hk⟩ := hd
  rcases rd with rd | ⟨od, rd⟩
  · refine Or.inl ⟨d, _, rd, True.intro, fun od => ?_⟩
    obtain ⟨H1, B1, s1⟩ := s.lock od rd nb
    refine ht H1 B1 B σ _ M d od kvs s1 hM ho nb upd_same (Datk.monoq (Kq.lock od rd) es kvs hk) _ fun l xs ds H' nl k r hl hds p => ?_
    have nF : d ∉ W.F := fun z => nb (s.fb d z)
    have hfz : H' d = some (.frz od (.dK kvs)) := k d _ nF upd_same
    have ld : l ≠ d := fun z => by
      rw [z, upd_same] at nl
      cases nl
    refine ⟨hfz, q l xs ds _ (by rw [upd_ne ld] at nl; exact nl) (fun a o n e => ?_) (Wd.out nF (fun φ e => by rw [hfz] at e; cases e) (fun ps z => HO.noConfusion z) r) (by rw [upd_ne ld]; exact hl) (Dats.monoq (Kq.unlock hfz) ds xs hds) p⟩
    by_cases ha : a = d
    · subst ha
      rw [upd_same, ← rd, e]
    · rw [upd_ne ha]
      exact k a o n (by rw [upd_ne ha]; exact e)
  · exact Or.inr (ht H0 B0 B σ H M d od kvs s hM ho nb rd hk Q q)
theorem src_keys {B : List Addr} {H : Hp} {d : Addr} {od : Obj} {kvs : List (Key × V)} {es : List (Key × Da)} (nb : d ∉ B) (h : H d = some (.frz od (.dK kvs))) (hk : kvs.map (·.1) = es.map (·.1)) (hp : ∀ {B' H'}, Mv B H B' H' → (∀ b ∈ B', H' b ≠ none) → H' d = some (.frz od (.dK kvs))) : Src K B (Itk d od kvs) (es.map fun e => keyD e.1) H := fun B' H' m al => by
  have e1 := hp m al
  have el : kvs.length = es.length := by simpa using congrArg List.length hk
  rw [List.length_map]
  refine ⟨fun i hi => ⟨⟨e1, by omega⟩, fun x H2 ⟨e2, k, v, e3, e4⟩ => ?_⟩, e1, by omega⟩
  subst e2 e4
  refine ⟨Kp.refl, Nt.refl, keyD k, ?_, by cases k <;> (unfold keyD Dat; rfl)⟩
  have e5 : (es.map (·.1))[i]? = some k := by rw [← hk, List.getElem?_map, e3]; rfl
  have e6 : (es.map fun e => keyD e.1) = (es.map (·.1)).map keyD := by rw [List.map_map]; rfl
  rw [e6, List.getElem?_map, e5]
  rfl
/-- [e for target in d if ..], d a dict by name -/
theorem evF_lcK {g : TG} {vs : List Nat} {cb n i : Nat} {es : List (Key × Da)} {R : Nat → List Da → Prop} (h : Γ[i]? = some (.dat (.dct es))) (h0 : R 0 [])
    (hs : ∀ i k acc, (es.map (·.1))[i]? = some k → R i acc → Turn1 W g tt te vs Γ cb (keyD k) (fun e => R (i + 1) (acc ++ [e])) (R (i + 1) acc)) (hn : es.length ≤ n) (hz : n ≤ 100000) :
    EvF W (tLockO (tLc (iKeys (tVar i)) g tt te vs)) Γ (n * cb) (fun acc => R es.length acc) :=
  evF_lock h fun H0 B0 B σ H M d od kvs s hM ho nb hd hk Q q => by
    refine ⟨.ref d, ho, d, od, rfl, Or.inl ⟨kvs, hd, ?_⟩⟩
    have hmap : (es.map fun e => keyD e.1) = (es.map (·.1)).map keyD := by rw [List.map_map]; rfl
    refine lc_run (W := W) (c0 := 0) (cb := cb) (n := n) (Pi := fun ds => ds = es.map fun e => keyD e.1) (R := fun ds => R) (fun _ _ => h0) (fun ds j dd acc e1 e2 hR => ?_) (fun ds e1 => by rw [e1, List.length_map]; exact hn) hz H0 B0 B σ H M s (by omega) Q (fun l xs ds H' n1 k r e1 e2 ⟨es', e3, e4⟩ => q l xs ds H' n1 k (by rw [Nat.zero_add] at r; exact r) e1 e2 (by rw [e3, List.length_map] at e4; exact e4)) _ _ H Kp.refl s.dr (src_keys nb hd hk.keys fun m al => ?_) rfl
    · rw [e1, hmap, List.getElem?_map] at e2
      cases e3 : (es.map (·.1))[j]? with
      | none =>
        rw [e3] at e2
        cases e2
      | some k =>
        rw [e3] at e2
        cases e2
        exact hs j k acc e3 hR
    · exact m.2 d _ nb hd
end
end WJ
set_option Elab.async false
set_option linter.all false
set_option maxRecDepth 100000
set_option maxHeartbeats 2000000
/-! WjG: rules for values of any kind (a join of the layer's own), and what they give over data -/
namespace WJ
open PySem L2
section
variable {X : Cx}
theorem orO {f : Value → Value → Sem Value} {r r' : R2} (h : OpR X f r) (h' : OpR X f r') : OpR X f (fun x y H Q => r x y H Q ∨ r' x y H Q) := by
  intro pins s σ H x y v u Q I rx ry q
  rcases q with q | q
  · exact h pins s σ H x y v u Q I rx ry q
  · exact h' pins s σ H x y v u Q I rx ry q
theorem orC {f : Value} {r r' : List V → Hp → VK → Prop} (h : CallR X f r) (h' : CallR X f r') : CallR X f (fun xs H Q => r xs H Q ∨ r' xs H Q) := by
  intro pins s σ H xs us Q I rs q
  rcases q with q | q
  · exact h pins s σ H xs us Q I rs q
  · exact h' pins s σ H xs us Q I rs q
theorem orS {r r' : V → Option Int → Option Int → Hp → VK → Prop} (h : SlR X r) (h' : SlR X r') : SlR X (fun x a b H Q => r x a b H Q ∨ r' x a b H Q) := by
  intro pins s σ H x v vl vu lo hi sl Q I rx hs pl pu q
  rcases q with q | q
  · exact h pins s σ H x v vl vu lo hi sl Q I rx hs pl pu q
  · exact h' pins s σ H x v vl vu lo hi sl Q I rx hs pl pu q
/-! + -/
def rAddI : R2 := rI0 fun i j => .int (i + j)
def rAddS : R2 := fun x y H Q => ∃ i j, x = .str i ∧ y = .str j ∧ i.length + j.length ≤ sizeLine ∧ Q (.str (i ++ j)) H
/-- two lists, tracked or written -/
def rCatL (K : PySem.W.Frag) : R2 := fun x y H Q => ∃ (l b : Addr) (xs zs : List V), x = .ref l ∧ y = .ref b ∧ SqL K H l xs ∧ SqL K H b zs ∧ xs.length + zs.length ≤ sizeLine ∧ ∀ p, H p = none → Q (.ref p) (upd H p (.lst (xs ++ zs)))
theorem op_catL : OpR X (binaryOp .Add) (rCatL X.K) := by
  intro pins s σ H x y v u Q I rx ry h
  obtain ⟨l, b, xs, zs, rfl, rfl, h1, h2, hz, q⟩ := h
  cases rx
  cases ry
  obtain ⟨i1, r1, p1, _⟩ := I.list h1
  obtain ⟨i2, r2, p2, _⟩ := I.list h2
  have l1 := r1.length
  have l2 := r2.length
  obtain ⟨⟨c1, d1, t1, s1⟩, o1, e1, n1, z1⟩ := id p1.isList
  obtain ⟨⟨c2, d2, t2, s2⟩, o2, e2, n2, z2⟩ := id p2.isList
  simp only at e1 z1 e2 z2
  subst e1 z1 e2 z2
  refine PySem.concat_meets ⟨_, o1, rfl⟩ ⟨_, o2, rfl⟩ PySem.noFill_list_add PySem.seq_list_add PySem.F.slot_list_add PySem.F.entry_list_add (PySem.F.args_list_add_2 _ _) (PyProof.Rows.list_addW l b i1.toArray i2.toArray n1 n2 d1 d2 s1 s2 (by rw [List.size_toArray, List.size_toArray]; omega)) ⟨o1, o2, ?_⟩
  rw [show i1.toArray ++ i2.toArray = (i1 ++ i2).toArray by simp]
  exact ⟨.ref _, _, I.lnew (t' := s.toks) (r1.append r2) (by rw [List.length_append]; omega), rfl, q _ I.fresh⟩
def rAddA (K : PySem.W.Frag) : R2 := fun x y H Q => rAddI x y H Q ∨ rAddS x y H Q ∨ rCatL K x y H Q ∨ rCatT K x y H Q
theorem op_addA : OpR X (binaryOp .Add) (rAddA X.K) := orO op_add (orO op_add_str (orO op_catL op_catT))
/-! a[b] -/
def rIxD : R2 := fun x y H Q => ∃ a v, x = .ref a ∧ DGet H a y (some v) ∧ Q v H
theorem ix_dict (hu : X.A.units + 1 < cLine) : IxR X rIxD := by
  intro value slice pins s σ H x y v u Q I rx ry h hs
  obtain ⟨a, z, rfl, g, q⟩ := h
  obtain rfl : v = Value.ref a := rx
  exact PyProof.Rows.tail_any (dict_typeIs I g) PySem.F.slot_dict_getitem.lookup (d_getItem hu I g ry fun w' s3 I3 rw' => ⟨z, H, I3, rw', q⟩) hs
def rIxA (K : PySem.W.Frag) : R2 := fun x y H Q => rIx K x y H Q ∨ rIxD x y H Q
theorem ix_any (hu : X.A.units + 1 < cLine) : IxR X (rIxA X.K) := ix_seq.or (ix_dict hu)
/-! in -/
def rInDt (neg : Bool) : R2 := fun y x H Q => ∃ a o, x = .ref a ∧ DGet H a y o ∧ Q (.bl (if neg then !o.isSome else o.isSome)) H
theorem op_in_dict (hu : X.A.units + 1 < cLine) : OpR X (compareOp .In) (rInDt false) := by
  intro pins s σ H y x v u Q I ry rx h
  obtain ⟨a, o, rfl, g, q⟩ := h
  obtain rfl : u = Value.ref a := rx
  exact d_in hu I g ry fun s3 I3 => ⟨.bl o.isSome, H, I3, rfl, q⟩
theorem op_notin_dict (hu : X.A.units + 1 < cLine) : OpR X (compareOp .NotIn) (rInDt true) := by
  intro pins s σ H y x v u Q I ry rx h
  obtain ⟨a, o, rfl, g, q⟩ := h
  obtain rfl : u = Value.ref a := rx
  exact d_notIn hu I g ry fun s3 I3 => ⟨.bl (!o.isSome), H, I3, rfl, q⟩
def rInSg (neg : Bool) : R2 := fun x y H Q => ∃ (c : Nat) (z : Str), x = .str ⟨#[c]⟩ ∧ y = .str z ∧ Q (.bl (if neg then !decide (c ∈ z.cps.toList) else decide (c ∈ z.cps.toList))) H
def rInA (K : PySem.W.Frag) (neg : Bool) : R2 := fun x y H Q => rIn K neg x y H Q ∨ rInDt neg x y H Q ∨ rInSg neg x y H Q
theorem op_inA (hu : X.A.units + 1 < cLine) : OpR X (compareOp .In) (rInA X.K false) := orO op_in_seq (orO (op_in_dict hu) op_in_sign)
theorem op_notinA (hu : X.A.units + 1 < cLine) : OpR X (compareOp .NotIn) (rInA X.K true) := orO op_notIn_seq (orO (op_notin_dict hu) op_notIn_sign)
/-! ==, != -/
def rEqA (K : PySem.W.Frag) : R2 := fun x y H Q => rEq x y H Q ∨ rEqD K x y H Q
def rNeA (K : PySem.W.Frag) : R2 := fun x y H Q => rNe x y H Q ∨ rNeD K x y H Q
theorem op_eqA (hu : X.A.units + 64 < cLine) : OpR X (compareOp .Eq) (rEqA X.K) := orO op_eq (op_eqD hu)
theorem op_neA (hu : X.A.units + 64 < cLine) : OpR X (compareOp .NotEq) (rNeA X.K) := orO op_ne (op_neD hu)
/-! len, isinstance, slices -/
theorem call_lenR : CallR X (.builtin "len") (fun xs H Q => ∃ a kvs, xs = [V.ref a] ∧ Rd H a (.dK kvs) ∧ Q (.int kvs.length) H) := by
  intro pins s σ H xs us Q I r h
  obtain ⟨a, kvs, rfl, ha, q⟩ := h
  obtain ⟨u, rfl, ru⟩ := vals1 r
  cases ru
  exact d_len I ha fun t s' I' => ⟨.int kvs.length, H, I', ⟨t, rfl⟩, q⟩
def rLenA (K : PySem.W.Frag) : List V → Hp → VK → Prop := fun xs H Q => (∃ x n, xs = [x] ∧ LenV K x H n ∧ Q (.int n) H) ∨ ∃ a kvs, xs = [V.ref a] ∧ Rd H a (.dK kvs) ∧ Q (.int kvs.length) H
theorem call_lenA : CallR X (.builtin "len") (rLenA X.K) := orC call_len call_lenR
def rIsiA (K : PySem.W.Frag) : List V → Hp → VK → Prop := fun xs H Q => rIsi K xs H Q ∨ rIsiT K xs H Q
theorem call_isiA : CallR X (.builtin "isinstance") (rIsiA X.K) := orC call_isi call_isiT
def rSlA (K : PySem.W.Frag) : V → Option Int → Option Int → Hp → VK → Prop := fun x a b H Q => rSlL K x a b H Q ∨ rSlS x a b H Q ∨ rSlT K x a b H Q
theorem sl_any : SlR X (rSlA X.K) := orS sl_list (orS sl_str sl_tup)
/-! the same with the written part named -/
variable (K : PySem.W.Frag)
theorem o_add (hK : X.K = K := by rfl) : OpR X (binaryOp .Add) (rAddA K) := hK ▸ op_addA
theorem o_ix (hu : X.A.units + 1 < cLine) (hK : X.K = K := by rfl) : IxR X (rIxA K) := hK ▸ ix_any hu
theorem o_in (hu : X.A.units + 1 < cLine) (hK : X.K = K := by rfl) : OpR X (compareOp .In) (rInA K false) := hK ▸ op_inA hu
theorem o_notin (hu : X.A.units + 1 < cLine) (hK : X.K = K := by rfl) : OpR X (compareOp .NotIn) (rInA K true) := hK ▸ op_notinA hu
theorem o_eq (hu : X.A.units + 64 < cLine) (hK : X.K = K := by rfl) : OpR X (compareOp .Eq) (rEqA K) := hK ▸ op_eqA hu
theorem o_ne (hu : X.A.units + 64 < cLine) (hK : X.K = K := by rfl) : OpR X (compareOp .NotEq) (rNeA K) := hK ▸ op_neA hu
theorem o_len (hK : X.K = K := by rfl) : CallR X (.builtin "len") (rLenA K) := hK ▸ call_lenA
theorem o_isi (hK : X.K = K := by rfl) : CallR X (.builtin "isinstance") (rIsiA K) := hK ▸ call_isiA
theorem o_sl (hK : X.K = K := by rfl) : SlR X (rSlA K) := hK ▸ sl_any
theorem o_all (hc : X.calm = true := by rfl) (hK : X.K = K := by rfl) : CallR X (.builtin "all") (rAll K) := hK ▸ cr_all hc
theorem o_any (hc : X.calm = true := by rfl) (hK : X.K = K := by rfl) : CallR X (.builtin "any") (rAny K) := hK ▸ cr_any hc
theorem p_list {tg l : Expr} {tl : TE} (hl : PE X l tl) (hK : X.K = K := by rfl) : PI X tg l (iList K tl) := hK ▸ pi_list hl
theorem p_tup {tg l : Expr} {tl : TE} (hl : PE X l tl) (hK : X.K = K := by rfl) : PI X tg l (iTup K tl) := hK ▸ pi_tup hl
theorem p_tupT {n : Nat} {es : List Expr} {e2 : Expr} {x1} {pos : Pos} {t : TGs} (h : PG X (.Tuple es x1 pos) (gTup X.K n t)) (hK : X.K = K := by rfl) : PG X (.Tuple es x1 pos) (gTup K n t) := hK ▸ h
end
end WJ
set_option Elab.async false
set_option linter.all false
set_option maxRecDepth 100000
set_option maxHeartbeats 2000000
/-! WjH: the operators over data -/
namespace WJ
open PySem L2
section
variable {K : PySem.W.Frag} {W : Wd K} {P : Da → Prop}
theorem rv_now {r : R2} {d1 d2 d : Da} (h : ∀ (B : List Addr) (H : Hp) (v1 v2 : V) (Q : VK), Dat K B H v1 d1 → Dat K B H v2 d2 → (∀ v, Dat K B H v d → Q v H) → r v1 v2 H Q) (p : P d) : Rv W r d1 d2 P := fun B H M v1 v2 s h1 h2 Q q =>
  h B H v1 v2 Q h1 h2 fun v hv => q v d H Kp.refl s.dr hv p
theorem dInt {B : List Addr} {H : Hp} {v : V} {i : Int} : Dat K B H v (.int i) ↔ v = .int i := by unfold Dat; exact Iff.rfl
theorem dStr {B : List Addr} {H : Hp} {v : V} {i : Str} : Dat K B H v (.str i) ↔ v = .str i := by unfold Dat; exact Iff.rfl
theorem dBl {B : List Addr} {H : Hp} {v : V} {i : Bool} : Dat K B H v (.bl i) ↔ v = .bl i := by unfold Dat; exact Iff.rfl
theorem dNon {B : List Addr} {H : Hp} {v : V} : Dat K B H v .non ↔ v = .non := by unfold Dat; exact Iff.rfl
/-- two ints -/
theorem rv_I0 {g : Int → Int → V} {gd : Int → Int → Da} {i j : Int} (hg : ∀ (B : List Addr) (H : Hp), Dat K B H (g i j) (gd i j)) (p : P (gd i j)) : Rv W (rI0 g) (.int i) (.int j) P :=
  rv_now (fun B H v1 v2 Q h1 h2 q => ⟨i, j, dInt.mp h1, dInt.mp h2, q _ (hg B H)⟩) p
theorem rv_I {C : Int → Int → Prop} {g : Int → Int → V} {gd : Int → Int → Da} {i j : Int} (hc : C i j) (hg : ∀ (B : List Addr) (H : Hp), Dat K B H (g i j) (gd i j)) (p : P (gd i j)) : Rv W (rI C g) (.int i) (.int j) P :=
  rv_now (fun B H v1 v2 Q h1 h2 q => ⟨i, j, dInt.mp h1, dInt.mp h2, hc, q _ (hg B H)⟩) p
theorem rv_addI {i j : Int} (p : P (.int (i + j))) : Rv W (rAddA K) (.int i) (.int j) P :=
  rv_now (fun B H v1 v2 Q h1 h2 q => Or.inl ⟨i, j, dInt.mp h1, dInt.mp h2, q _ (dInt.mpr rfl)⟩) p
theorem rv_addS {i j : Str} (hl : i.length + j.length ≤ 100000) (p : P (.str (i ++ j))) : Rv W (rAddA K) (.str i) (.str j) P :=
  rv_now (fun B H v1 v2 Q h1 h2 q => Or.inr (Or.inl ⟨i, j, dStr.mp h1, dStr.mp h2, Nat.le_trans hl (by decide), q _ (dStr.mpr rfl)⟩)) p
theorem rvF_addL {as bs : List Da} {P : List Da → Prop} (hl : as.length + bs.length ≤ 100000) (p : P (as ++ bs)) : RvF W (rAddA K) (.lst as) (.lst bs) P := fun B H M v1 v2 s h1 h2 Q q => by
  unfold Dat at h1 h2
  obtain ⟨a, xs, rfl, s1, t1⟩ := h1
  obtain ⟨b, ys, rfl, s2, t2⟩ := h2
  refine Or.inr (Or.inr (Or.inl ⟨a, b, xs, ys, rfl, rfl, s1.sq, s2.sq, by rw [t1.length, t2.length]; exact Nat.le_trans hl (by decide), fun l nl => ?_⟩))
  exact q l (xs ++ ys) (as ++ bs) _ nl (Kp.new nl) (Wd.new nl s.dr) upd_same (Dats.mono (Kp.new nl) _ _ (Dats.put nl _ _ (t1.append t2))) p
theorem rv_addT {as bs : List Da} (ha : as ≠ []) (hb : bs ≠ []) (hl : as.length + bs.length ≤ 100000) (p : P (.tup (as ++ bs))) : Rv W (rAddA K) (.tup as) (.tup bs) P := fun B H M v1 v2 s h1 h2 Q q => by
  unfold Dat at h1 h2
  obtain ⟨a, xs, rfl, s1, t1⟩ := h1
  obtain ⟨b, ys, rfl, s2, t2⟩ := h2
  have ea : xs ≠ [] := fun z => ha (List.length_eq_zero_iff.mp (by rw [← t1.length, z]; rfl))
  have eb : ys ≠ [] := fun z => hb (List.length_eq_zero_iff.mp (by rw [← t2.length, z]; rfl))
  refine Or.inr (Or.inr (Or.inr ⟨a, b, xs, ys, rfl, rfl, s1.sq, s2.sq, ea, by rw [t1.length, t2.length]; exact Nat.le_trans hl (by decide), fun z => absurd z eb, fun _ l nl => ?_⟩))
  refine q (.ref l) (.tup (as ++ bs)) _ (Kp.new nl) (Wd.new nl s.dr) ?_ p
  unfold Dat
  exact ⟨l, _, rfl, .of (s.free nl) upd_same, Dats.mono (Kp.new nl) _ _ (t1.append t2)⟩
/-! an item -/
theorem ixN_lt {n : Nat} {i : Int} {j : Nat} (h : ixN n i = some j) : j < n := by
  unfold ixN at h
  split at h
  · split at h
    · cases h
      omega
    · cases h
  · split at h
    · cases h
      omega
    · cases h
theorem atI_dats {B : List Addr} {H : Hp} {ds : List Da} {xs : List V} {i : Int} {d : Da} (t : Dats K B H xs ds) (h : atI ds i = some d) : ∃ v, atI xs i = some v ∧ Dat K B H v d := by
  unfold atI at h ⊢
  rw [t.length]
  cases e : ixN ds.length i with
  | none =>
    rw [e] at h
    cases h
  | some j =>
    rw [e] at h
    exact t.get' h
theorem rv_ixL {ds : List Da} {i : Int} {d : Da} (h : atI ds i = some d) (p : P d) : Rv W (rIxA K) (.lst ds) (.int i) P :=
  rv_now (fun B H v1 v2 Q h1 h2 q => by
    unfold Dat at h1
    obtain ⟨a, xs, rfl, s1, t1⟩ := h1
    obtain ⟨v, e, hv⟩ := atI_dats t1 h
    exact Or.inl (Or.inl ⟨a, xs, i, v, rfl, dInt.mp h2, s1.sq, e, q v hv⟩)) p
theorem rv_ixT {ds : List Da} {i : Int} {d : Da} (h : atI ds i = some d) (p : P d) : Rv W (rIxA K) (.tup ds) (.int i) P :=
  rv_now (fun B H v1 v2 Q h1 h2 q => by
    unfold Dat at h1
    obtain ⟨a, xs, rfl, s1, t1⟩ := h1
    obtain ⟨v, e, hv⟩ := atI_dats t1 h
    exact Or.inl (Or.inr (Or.inl ⟨a, xs, i, v, rfl, dInt.mp h2, s1.sq, e, q v hv⟩))) p
theorem rv_ixS {z : Str} {i : Int} {c : Nat} (hz : z.length ≤ 100000) (h : atI z.cps.toList i = some c) (p : P (.str ⟨#[c]⟩)) : Rv W (rIxA K) (.str z) (.int i) P :=
  rv_now (fun B H v1 v2 Q h1 h2 q => Or.inl (Or.inr (Or.inr ⟨z, i, c, dStr.mp h1, dInt.mp h2, Nat.le_trans hz (by decide), h, q _ (dStr.mpr rfl)⟩))) p
theorem rv_ixD {es : List (Key × Da)} {k : Key} {d : Da} (h : valD es k = some d) (p : P d) : Rv W (rIxA K) (.dct es) (keyD k) P :=
  rv_now (fun B H v1 v2 Q h1 h2 q => by
    unfold Dat at h1
    obtain ⟨a, xs, rfl, s1, t1⟩ := h1
    rcases t1.val k with ⟨z, _⟩ | ⟨v, d', e1, e2, hv⟩
    · rw [h] at z
      cases z
    · rw [h] at e1
      cases e1
      exact Or.inr ⟨a, v, rfl, Or.inl ⟨xs, k, s1.2, keyD_dat h2, e2.symm⟩, q v hv⟩) p
/-! in -/
/-- data that == tells apart by itself, as a value -/
def Da.flatv : Da → Option V
  | .non => some .non
  | .bl b => some (.bl b)
  | .int i => some (.int i)
  | .str x => some (.str x)
  | _ => none
theorem flatv_dat {B : List Addr} {H : Hp} {v w : V} {d : Da} (h : Dat K B H v d) (e : d.flatv = some w) : v = w := by
  cases d <;> first | (unfold Dat at h; cases e; exact h) | cases e
theorem flatv_flat {w : V} {d : Da} (e : d.flatv = some w) : flatV w = true := by
  cases d <;> first | (cases e; rfl) | cases e
/-- all items are flat -/
def flats : List Da → Option (List V)
  | [] => some []
  | d :: ds => match d.flatv, flats ds with
    | some v, some vs => some (v :: vs)
    | _, _ => none
theorem flats_dat {B : List Addr} {H : Hp} : ∀ {ds : List Da} {vs ws : List V}, Dats K B H vs ds → flats ds = some ws → vs = ws ∧ ws.all flatV = true
  | [], _, _, h, e => by
    unfold Dats at h
    cases e
    exact ⟨h, rfl⟩
  | d :: ds, _, ws, h, e => by
    unfold Dats at h
    obtain ⟨v, r, rfl, h1, t⟩ := h
    unfold flats at e
    cases e1 : d.flatv with
    | none => simp [e1] at e
    | some w =>
      cases e2 : flats ds with
      | none => simp [e1, e2] at e
      | some rs =>
        simp [e1, e2] at e
        subst e
        obtain ⟨q1, q2⟩ := flats_dat t e2
        rw [q1, flatv_dat h1 e1]
        exact ⟨rfl, by rw [List.all_cons, flatv_flat e1, q2]; rfl⟩
theorem rv_inL {neg : Bool} {d : Da} {ds : List Da} {w : V} {ws : List V} (e1 : d.flatv = some w) (e2 : flats ds = some ws) (p : P (.bl (if neg then !inV w ws else inV w ws))) : Rv W (rInA K neg) d (.lst ds) P :=
  rv_now (fun B H v1 v2 Q h1 h2 q => by
    unfold Dat at h2
    obtain ⟨a, xs, rfl, s1, t1⟩ := h2
    obtain ⟨q1, q2⟩ := flats_dat t1 e2
    subst q1
    have e3 := flatv_dat h1 e1
    subst e3
    exact Or.inl ⟨a, xs, rfl, Or.inl s1.sq, flatv_flat e1, q2, q _ (dBl.mpr rfl)⟩) p
theorem rv_inT {neg : Bool} {d : Da} {ds : List Da} {w : V} {ws : List V} (e1 : d.flatv = some w) (e2 : flats ds = some ws) (p : P (.bl (if neg then !inV w ws else inV w ws))) : Rv W (rInA K neg) d (.tup ds) P :=
  rv_now (fun B H v1 v2 Q h1 h2 q => by
    unfold Dat at h2
    obtain ⟨a, xs, rfl, s1, t1⟩ := h2
    obtain ⟨q1, q2⟩ := flats_dat t1 e2
    subst q1
    have e3 := flatv_dat h1 e1
    subst e3
    exact Or.inl ⟨a, xs, rfl, Or.inr s1.sq, flatv_flat e1, q2, q _ (dBl.mpr rfl)⟩) p
theorem rv_inD {neg : Bool} {es : List (Key × Da)} {k : Key} (p : P (.bl (if neg then !(valD es k).isSome else (valD es k).isSome))) : Rv W (rInA K neg) (keyD k) (.dct es) P :=
  rv_now (fun B H v1 v2 Q h1 h2 q => by
    unfold Dat at h2
    obtain ⟨a, xs, rfl, s1, t1⟩ := h2
    have e : (valV xs k).isSome = (valD es k).isSome := by
      rcases t1.val k with ⟨z1, z2⟩ | ⟨v, d', z1, z2, hv⟩ <;> rw [z1, z2] <;> rfl
    refine Or.inr (Or.inl ⟨a, valV xs k, rfl, Or.inl ⟨xs, k, s1.2, keyD_dat h1, rfl⟩, ?_⟩)
    rw [e]
    exact q _ (dBl.mpr rfl)) p
theorem rv_inS {neg : Bool} {c : Nat} {z : Str} (p : P (.bl (if neg then !decide (c ∈ z.cps.toList) else decide (c ∈ z.cps.toList)))) : Rv W (rInA K neg) (.str ⟨#[c]⟩) (.str z) P :=
  rv_now (fun B H v1 v2 Q h1 h2 q => Or.inr (Or.inr ⟨c, z, dStr.mp h1, dStr.mp h2, q _ (dBl.mpr rfl)⟩)) p
/-! ==, != of flat things -/
theorem rv_eqF {d1 d2 : Da} {w1 w2 : V} (e1 : d1.flatv = some w1) (e2 : d2.flatv = some w2) (hs : scal w1 w2 = true) (p : P (.bl (decide (w1 = w2)))) : Rv W (rEqA K) d1 d2 P :=
  rv_now (fun B H v1 v2 Q h1 h2 q => by
    have q1 := flatv_dat h1 e1
    have q2 := flatv_dat h2 e2
    subst q1 q2
    exact Or.inl ⟨hs, q _ (dBl.mpr rfl)⟩) p
theorem rv_neF {d1 d2 : Da} {w1 w2 : V} (e1 : d1.flatv = some w1) (e2 : d2.flatv = some w2) (hs : scal w1 w2 = true) (p : P (.bl (!decide (w1 = w2)))) : Rv W (rNeA K) d1 d2 P :=
  rv_now (fun B H v1 v2 Q h1 h2 q => by
    have q1 := flatv_dat h1 e1
    have q2 := flatv_dat h2 e2
    subst q1 q2
    exact Or.inl ⟨hs, q _ (dBl.mpr rfl)⟩) p
/-! ==, != of nested lists and tuples -/
mutual
def Da.py : Da → PyData
  | .non => .none
  | .bl b => .bool b
  | .int i => .int i
  | .str x => .str x
  | .lst xs => .list (pys xs)
  | .tup xs => .tuple (pys xs)
  | _ => .none
def pys : List Da → List PyData
  | [] => []
  | d :: ds => d.py :: pys ds
end
mutual
/-- flat things, lists and tuples of them -/
def Da.plain : Da → Bool
  | .non => true
  | .bl _ => true
  | .int _ => true
  | .str _ => true
  | .lst xs => plains xs
  | .tup xs => plains xs
  | _ => false
def plains : List Da → Bool
  | [] => true
  | d :: ds => d.plain && plains ds
end
mutual
theorem Dat.dp {B : List Addr} {H : Hp} : ∀ (d : Da) (v : V), d.plain = true → Dat K B H v d → Dp K H v d.py
  | .non, v, _, h => by
    unfold Dat at h
    subst h
    exact .non
  | .bl b, v, _, h => by
    unfold Dat at h
    subst h
    exact .bl b
  | .int b, v, _, h => by
    unfold Dat at h
    subst h
    exact .int b
  | .str b, v, _, h => by
    unfold Dat at h
    subst h
    exact .str b
  | .lst xs, v, p, h => by
    unfold Dat at h
    obtain ⟨a, vs, rfl, s, t⟩ := h
    unfold Da.plain at p
    unfold Da.py
    exact .lst s.sq (Dats.dp xs vs p t)
  | .tup xs, v, p, h => by
    unfold Dat at h
    obtain ⟨a, vs, rfl, s, t⟩ := h
    unfold Da.plain at p
    unfold Da.py
    exact .tup s.sq (Dats.dp xs vs p t)
  | .dct _, _, p, _ => by unfold Da.plain at p; cases p
  | .ins _ _, _, p, _ => by unfold Da.plain at p; cases p
  | .obj _, _, p, _ => by unfold Da.plain at p; cases p
  | .ty _, _, p, _ => by unfold Da.plain at p; cases p
  | .exc _ _, _, p, _ => by unfold Da.plain at p; cases p
theorem Dats.dp {B : List Addr} {H : Hp} : ∀ (ds : List Da) (vs : List V), plains ds = true → Dats K B H vs ds → DpAll K H vs (pys ds)
  | [], vs, _, h => by
    unfold Dats at h
    subst h
    unfold pys
    exact .nil
  | d :: ds, vs, p, h => by
    unfold Dats at h
    obtain ⟨v, r, rfl, h1, t⟩ := h
    unfold plains at p
    obtain ⟨p1, p2⟩ := Bool.and_eq_true_iff.mp p
    unfold pys
    exact .cons (Dat.dp d v p1 h1) (Dats.dp ds r p2 t)
end
theorem rv_eqP {d1 d2 : Da} (p1 : d1.plain = true) (p2 : d2.plain = true) (s1 : SeqAt.shaped d1.py = true) (s2 : SeqAt.shaped d2.py = true) (p : P (.bl (PyData.eqv d1.py d2.py))) : Rv W (rEqA K) d1 d2 P :=
  rv_now (fun B H v1 v2 Q h1 h2 q => Or.inr ⟨_, _, Dat.dp d1 v1 p1 h1, Dat.dp d2 v2 p2 h2, s1, s2, q _ (dBl.mpr rfl)⟩) p
theorem rv_neP {d1 d2 : Da} (p1 : d1.plain = true) (p2 : d2.plain = true) (s1 : SeqAt.shaped d1.py = true) (s2 : SeqAt.shaped d2.py = true) (p : P (.bl (!PyData.eqv d1.py d2.py))) : Rv W (rNeA K) d1 d2 P :=
  rv_now (fun B H v1 v2 Q h1 h2 q => Or.inr ⟨_, _, Dat.dp d1 v1 p1 h1, Dat.dp d2 v2 p2 h2, s1, s2, q _ (dBl.mpr rfl)⟩) p
/-! len, isinstance -/
theorem rc_lenS {x : Str} (hl : x.length ≤ 100000) (p : P (.int x.length)) : Rc W (rLenA K) [.str x] P := fun B H M vs s h Q q => by
  unfold Dats at h
  obtain ⟨v, r, rfl, h1, t⟩ := h
  unfold Dats at t
  subst t
  exact Or.inl ⟨v, x.length, rfl, by rw [dStr.mp h1]; exact ⟨Nat.le_trans hl (by decide), rfl⟩, q _ (.int x.length) H Kp.refl s.dr (dInt.mpr rfl) p⟩
theorem rc_lenL {ds : List Da} (p : P (.int ds.length)) : Rc W (rLenA K) [.lst ds] P := fun B H M vs s h Q q => by
  unfold Dats at h
  obtain ⟨v, r, rfl, h1, t⟩ := h
  unfold Dats at t
  subst t
  unfold Dat at h1
  obtain ⟨a, xs, rfl, s1, t1⟩ := h1
  exact Or.inl ⟨_, xs.length, rfl, Or.inl ⟨xs, s1.sq, rfl⟩, by rw [t1.length]; exact q _ (.int ds.length) H Kp.refl s.dr (dInt.mpr rfl) p⟩
theorem rc_lenT {ds : List Da} (p : P (.int ds.length)) : Rc W (rLenA K) [.tup ds] P := fun B H M vs s h Q q => by
  unfold Dats at h
  obtain ⟨v, r, rfl, h1, t⟩ := h
  unfold Dats at t
  subst t
  unfold Dat at h1
  obtain ⟨a, xs, rfl, s1, t1⟩ := h1
  exact Or.inl ⟨_, xs.length, rfl, Or.inr ⟨xs, s1.sq, rfl⟩, by rw [t1.length]; exact q _ (.int ds.length) H Kp.refl s.dr (dInt.mpr rfl) p⟩
theorem rc_lenD {es : List (Key × Da)} (p : P (.int es.length)) : Rc W (rLenA K) [.dct es] P := fun B H M vs s h Q q => by
  unfold Dats at h
  obtain ⟨v, r, rfl, h1, t⟩ := h
  unfold Dats at t
  subst t
  unfold Dat at h1
  obtain ⟨a, xs, rfl, s1, t1⟩ := h1
  exact Or.inr ⟨a, xs, rfl, s1.2, by rw [t1.length]; exact q _ (.int es.length) H Kp.refl s.dr (dInt.mpr rfl) p⟩
end
end WJ
set_option Elab.async false
set_option linter.all false
set_option maxRecDepth 100000
set_option maxHeartbeats 2000000
/-! WjP: == of dicts of plain things -/
namespace WJ
open PySem L2
/-- two dicts are equal -/
def eqvK (es fs : List (Key × Da)) : Bool := (es.length == fs.length) && es.all fun p => match valD fs p.1 with
  | none => false
  | some d => PyData.eqv p.2.py d.py
def okK (es : List (Key × Da)) : Bool := es.all fun p => p.2.plain && SeqAt.shaped p.2.py
theorem okK_at {es : List (Key × Da)} (h : okK es = true) {k : Key} {d : Da} (e : valD es k = some d) : d.plain = true ∧ SeqAt.shaped d.py = true := by
  unfold valD at e
  cases e1 : es.find? (fun kv => decide (kv.1 = k)) with
  | none =>
    rw [e1] at e
    cases e
  | some p =>
    rw [e1] at e
    cases e
    exact Bool.and_eq_true_iff.mp (List.all_eq_true.mp h p (List.mem_of_find?_eq_some e1))
def rEqK (K : PySem.W.Frag) : R2 := fun x y H Q => ∃ (B : List Addr) (es fs : List (Key × Da)), Dat K B H x (.dct es) ∧ Dat K B H y (.dct fs) ∧ okK es = true ∧ okK fs = true ∧ Q (.bl (eqvK es fs)) H
section
variable {X : Cx} {pins : List (Addr × Obj)} {σ : L2.St} {H : Hp} {s : Shared} {B : List Addr}
theorem hitsK (I : Inv X pins σ H s) {A : Around} (hu : A.units + 64 < cLine) {ls : List (Key × V)} {vb : List (Key × Value)} {fs : List (Key × Da)} (hf : Datk X.K B H ls fs) (of : okK fs = true) (rb : KV ls vb) :
    ∀ (es : List (Key × Da)) (ks : List (Key × V)) (va : List (Key × Value)), okK es = true → Datk X.K B H ks es → KV ks va → PySem.W.KeqHitsP X.prog X.w A s vb va (es.all fun p => match valD fs p.1 with
      | none => false
      | some d => PyData.eqv p.2.py d.py)
  | [], ks, va, _, h, r => by
    unfold Datk at h
    subst h
    unfold KV at r
    cases r
    exact .nil
  | (k, d) :: es, ks, va, o, h, r => by
    unfold Datk at h
    obtain ⟨v, t, rfl, hv, ht⟩ := h
    unfold KV at r
    cases r with
    | @cons p q ps qs r1 r2 =>
      obtain ⟨e1, e2⟩ := r1
      obtain ⟨k', u⟩ := q
      have e1' : k = k' := e1
      subst e1'
      have e2' : RelV v u := e2
      unfold okK at o
      rw [List.all_cons] at o
      obtain ⟨o1, o2⟩ := Bool.and_eq_true_iff.mp o
      obtain ⟨p1, p2⟩ := Bool.and_eq_true_iff.mp o1
      have ih := hitsK I hu hf of rb es t qs o2 ht r2
      rw [List.all_cons]
      have rv := rb.val k
      rcases hf.val k with ⟨z1, z2⟩ | ⟨w, d2, z1, z2, hw⟩
      · rw [z2] at rv
        have en : valueAt vb k = none := by
          cases e : valueAt vb k with
          | none => rfl
          | some y =>
            rw [e] at rv
            exact rv.elim
        have : (match valD fs (k, d).1 with
          | none => false
          | some d2 => PyData.eqv (k, d).2.py d2.py) = false := by
          show (match valD fs k with
            | none => false
            | some d2 => PyData.eqv d.py d2.py) = false
          rw [z1]
        rw [this, Bool.false_and]
        exact .miss en
      · rw [z2] at rv
        obtain ⟨y, ey, ry⟩ : ∃ y, valueAt vb k = some y ∧ RelV w y := by
          cases e : valueAt vb k with
          | none =>
            rw [e] at rv
            exact rv.elim
          | some y =>
            rw [e] at rv
            exact ⟨y, rfl, rv⟩
        have : (match valD fs (k, d).1 with
          | none => false
          | some d2 => PyData.eqv (k, d).2.py d2.py) = PyData.eqv d.py d2.py := by
          show (match valD fs k with
            | none => false
            | some d2 => PyData.eqv d.py d2.py) = _
          rw [z1]
        rw [this]
        obtain ⟨q1, q2⟩ := okK_at of z1
        obtain ⟨as, ra⟩ := Dp.reads I d.py v u (Dat.dp d v p1 hv) e2'
        obtain ⟨bs, rb'⟩ := Dp.reads I d2.py w y (Dat.dp d2 w q1 hw) ry
        exact .hit ey (SeqAt.eqAt_reads d.py d2.py A s u y as bs ra rb' (SeqAt.canLay_of_shaped p2) (SeqAt.canLay_of_shaped q2) (SeqAt.room_of_shaped p2 hu)).eqP ih
end
section
variable {X : Cx}
theorem op_eqK (hu : X.A.units + 65 < cLine) : OpR X (compareOp .Eq) (rEqK X.K) := by
  intro pins s σ H x y v u Q I rx ry h
  obtain ⟨B, es, fs, h1, h2, o1, o2, q⟩ := h
  unfold Dat at h1 h2
  obtain ⟨a, ks, rfl, ⟨_, r1⟩, k1⟩ := h1
  obtain ⟨b, ls, rfl, ⟨_, r2⟩, k2⟩ := h2
  cases (show v = Value.ref a from rx)
  cases (show u = Value.ref b from ry)
  obtain ⟨_, ya, va, ra, da⟩ := dk_rd I.hok r1
  obtain ⟨_, yb, vb, rb, db⟩ := dk_rd I.hok r2
  refine PySem.W.rcP_dicts (knd := mixKind X.prog X.w) ya yb da db (by omega) (fun _ => hitsK I (A := X.A.in1) (by show X.A.units + 1 + 64 < cLine; omega) k2 o2 rb es ks va o1 k1 ra) _ _ ?_
  have e1 : va.length = es.length := by rw [← Paired.length ra, k1.length]
  have e2 : vb.length = fs.length := by rw [← Paired.length rb, k2.length]
  rw [e1, e2]
  exact ⟨.bl _, H, I, rfl, q⟩
def rEqB (K : PySem.W.Frag) : R2 := fun x y H Q => rEqA K x y H Q ∨ rEqK K x y H Q
theorem o_eqB (K : PySem.W.Frag) (hu : X.A.units + 65 < cLine) (hK : X.K = K := by rfl) : OpR X (compareOp .Eq) (rEqB K) := orO (o_eq K (by omega) hK) (hK ▸ op_eqK hu)
end
section
variable {K : PySem.W.Frag} {W : Wd K} {P : Da → Prop}
theorem rv_eqB {d1 d2 : Da} (h : Rv W (rEqA K) d1 d2 P) : Rv W (rEqB K) d1 d2 P := fun B H M v1 v2 s h1 h2 Q q => Or.inl (h B H M v1 v2 s h1 h2 Q q)
theorem rv_eqK {es fs : List (Key × Da)} (h1 : okK es = true) (h2 : okK fs = true) (p : P (.bl (eqvK es fs))) : Rv W (rEqB K) (.dct es) (.dct fs) P := fun B H M v1 v2 s g1 g2 Q q =>
  Or.inr ⟨B, es, fs, g1, g2, h1, h2, q _ _ H Kp.refl s.dr (dBl.mpr rfl) p⟩
end
end WJ
set_option Elab.async false
set_option linter.all false
set_option maxRecDepth 100000
set_option maxHeartbeats 2000000
/-! WjI: names of the module, defs by their names, kinds of data, all, any -/
namespace WJ
open PySem L2
section
variable {X : Cx}
theorem pe_globI {x : Str} {i : Int} {pos : Pos} (hg : Gl X x) (h : ∃ t, X.mg x = some (.int i t)) (hd : (x == ("__debug__" : Str)) = false := by decide) : PE X (.Name x pos) (tC (.int i)) := by
  obtain ⟨t, e⟩ := h
  exact pe_glob hg e ⟨t, rfl⟩ hd
theorem pe_globS {x z : Str} {pos : Pos} (hg : Gl X x) (h : ∃ t, X.mg x = some (.str z t)) (hd : (x == ("__debug__" : Str)) = false := by decide) : PE X (.Name x pos) (tC (.str z)) := by
  obtain ⟨t, e⟩ := h
  exact pe_glob hg e ⟨t, rfl⟩ hd
theorem pe_globR {x : Str} {a : Addr} {pos : Pos} (hg : Gl X x) (h : X.mg x = some (.ref a)) (hd : (x == ("__debug__" : Str)) = false := by decide) : PE X (.Name x pos) (tC (.ref a)) := pe_glob hg h rfl hd
theorem pe_type {x : Str} {n : String} {pos : Pos} (hg : Gl X x) (hm : X.mg x = none) (hv : bootBuiltins x = some (.type n)) (hn : x ≠ "__name__" := by decide) (hd : (x == ("__debug__" : Str)) = false := by decide) : PE X (.Name x pos) (tC (.ty n)) := pe_bltn hg hm hv rfl hn hd
/-- the def called x keeps the promise sp -/
structure Fnd (P : Program) (w : World) (K : PySem.W.Frag) (mg : Str → Option Value) (base : Heap) (k : Nat) (x : Str) (ps : List Str) (sp : Sp) : Prop where
  ex : ∃ (f : Addr) (fd : FuncData), FnOk P w K mg base CX0 k f fd ps sp ∧ mg x = some (.ref f) ∧ PySem.W.keepIn K (.ref f) = true ∧ Binds K fd ps []
theorem pe_fun {k j : Nat} {x : Str} {ps : List Str} {sp : Sp} {e : Expr} {es : List Expr} {t : TA} {p pos : Pos} (h : Fnd X.prog X.w X.K X.mg X.base j x ps sp) (hr : Room k X.A) (hj : j ≤ k) (hg : Gl X x) (ha : PA X (e :: es) t)
    (hdb : (x == ("__debug__" : Str)) = false := by decide) (he : starEach (e :: es) X.env = (false, eval e X.env) :: starEach es X.env := by rfl) (hpl : (backTo pos (starEach es X.env)).any (·.1) = false := by rfl) :
    PE X (.Call (.Name x p) (e :: es) [] pos) (tCall sp [] E0 t) := by
  obtain ⟨f, fd, F, hm, hk, hb⟩ := h.ex
  exact pe_call F (hr.mono hj) hg hm hk hb .nil pass0 ha hdb he hpl
end
section
variable {K : PySem.W.Frag} {W : Wd K} {P : Da → Prop}
theorem ev_ty {Γ : List En} {n : String} : Ev W (tC (.ty n)) Γ 0 (· = .ty n) := ev_c fun _ _ => by unfold Dat; rfl
/-- the kind of a thing -/
def Da.kind : Da → Option String
  | .non => some "NoneType"
  | .bl _ => some "bool"
  | .int _ => some "int"
  | .str _ => some "str"
  | .lst _ => some "list"
  | .tup _ => some "tuple"
  | .dct _ => some "dict"
  | _ => none
theorem kind_ty {B : List Addr} {H : Hp} {v : V} {d : Da} {n : String} (h : Dat K B H v d) (e : d.kind = some n) : TyX K H v (.type n) := by
  cases d with
  | non => cases e; unfold Dat at h; subst h; exact .base .non
  | bl b => cases e; unfold Dat at h; subst h; exact .base (.bl b)
  | int b => cases e; unfold Dat at h; subst h; exact .base (.int b)
  | str b => cases e; unfold Dat at h; subst h; exact .base (.str b)
  | lst b =>
    cases e
    unfold Dat at h
    obtain ⟨a, xs, rfl, s, _⟩ := h
    rcases s with ⟨_, s | ⟨o, s⟩⟩ | s | ⟨o, its, n, s, c, _⟩
    · exact .base (.lst s)
    · exact .base (.frz s)
    · exact (rd_none s).elim
    · exact .kList s c
  | tup b =>
    cases e
    unfold Dat at h
    obtain ⟨a, xs, rfl, s, _⟩ := h
    rcases s with ⟨_, s | ⟨o, s⟩⟩ | s | ⟨o, its, n, s, c, _⟩
    · exact .base (.tup s)
    · exact .fTuple s
    · exact (rd_none s).elim
    · exact .kTuple s c
  | dct b =>
    cases e
    unfold Dat at h
    obtain ⟨a, xs, rfl, ⟨_, s | ⟨o, s⟩⟩, _⟩ := h
    · exact .base (.dK s)
    · exact .fDict s
  | ins C fs => cases e
  | obj a => cases e
  | ty m => cases e
  | exc c fs => cases e
theorem rc_isi {d : Da} {t n : String} {b : Bool} (e : d.kind = some t) (hb : kitB t n = some b) (p : P (.bl b)) : Rc W (rIsiA K) [d, .ty n] P := fun B H M vs s h Q q => by
  unfold Dats at h
  obtain ⟨v, r, rfl, h1, t1⟩ := h
  unfold Dats at t1
  obtain ⟨v2, r2, rfl, h2, t2⟩ := t1
  unfold Dats at t2
  subst t2
  unfold Dat at h2
  subst h2
  exact Or.inl ⟨v, .ty n, .type t, .type n, b, rfl, .ty n, kind_ty h1 e, kit_ty hb, q _ (.bl b) H Kp.refl s.dr (dBl.mpr rfl) p⟩
/-- isinstance(x, (T1, T2)) -/
theorem ev_isi2 {Γ : List En} {tx : TE} {c : Nat} {n1 n2 : String} {Px : Da → Prop} (h : Ev W tx Γ c Px) (hk : ∀ d, Px d → ∃ t b1 b2, d.kind = some t ∧ kitB t n1 = some b1 ∧ kitB t n2 = some b2 ∧ P (.bl (b1 || b2))) :
    Ev W (tCB (rIsiA K) (tCons tx (tCons (tTup (tCons (tC (.ty n1)) (tCons (tC (.ty n2)) tNil))) tNil))) Γ c P := fun H0 B0 B σ H M s hM Q q =>
  h H0 B0 B σ H M s hM _ fun v d H1 k r hd pd => by
    obtain ⟨t, b1, b2, e, h1, h2, p⟩ := hk d pd
    refine ⟨by show 2 ≤ sizeLine; decide, fun tp np => ?_⟩
    have hk : PySem.W.kitAny K (.type t) [.type n1, .type n2] = some (b1 || b2) := by
      refine kitAny_cons (kit_ty h1) (fun z => ?_) (fun z => by rw [z]; rfl)
      refine kitAny_cons (kit_ty h2) (fun z2 => ?_) (fun z2 => by rw [z, z2]; rfl)
      rw [z, z2]
      rfl
    have hd2 : Dat K B (upd H1 tp (.tup [.ty n1, .ty n2])) v d := Dat.mono (Kp.new np) d v hd
    exact Or.inr ⟨v, tp, _, .type t, [.type n1, .type n2], b1 || b2, rfl, upd_same, .cons (.ty n1) (.cons (.ty n2) .nil), kind_ty hd2 e, hk, q _ (.bl (b1 || b2)) _ (k.trans (Kp.new np)) (Wd.new np r) (dBl.mpr rfl) p⟩
theorem rc_all {bs : List Bool} (p : P (.bl (bs.all id))) : Rc W (rAll K) [.lst (bs.map Da.bl)] P := fun B H M vs s h Q q => by
  unfold Dats at h
  obtain ⟨v, r, rfl, h1, t1⟩ := h
  unfold Dats at t1
  subst t1
  unfold Dat at h1
  obtain ⟨a, xs, rfl, s1, t1⟩ := h1
  have e := t1.bls
  subst e
  exact ⟨a, bs, rfl, s1.sq, q _ (.bl (bs.all id)) H Kp.refl s.dr (dBl.mpr rfl) p⟩
theorem rc_any {bs : List Bool} (p : P (.bl (bs.any id))) : Rc W (rAny K) [.lst (bs.map Da.bl)] P := fun B H M vs s h Q q => by
  unfold Dats at h
  obtain ⟨v, r, rfl, h1, t1⟩ := h
  unfold Dats at t1
  subst t1
  unfold Dat at h1
  obtain ⟨a, xs, rfl, s1, t1⟩ := h1
  have e := t1.bls
  subst e
  exact ⟨a, bs, rfl, s1.sq, q _ (.bl (bs.any id)) H Kp.refl s.dr (dBl.mpr rfl) p⟩
/-- a comprehension of a function, without a test -/
theorem evF_map {Γ Γ' : List En} {wi : TI} {i : Nat} {te : TE} {c0 cb n : Nat} {ds : List Da} {f : Da → Da} (hi : Ei W wi Γ c0 (· = ds)) (he : ∀ d ∈ ds, Ev W te ((wipeE Γ [i]).set i (.dat d)) cb (· = f d)) (hn : ds.length ≤ n) (hz : n ≤ 100000) :
    EvF W (tLc wi (gName i) tYes te [i]) Γ (c0 + n * cb) (· = ds.map f) := by
  refine (evF_lc (n := n) (R := fun ds j acc => acc = (ds.take j).map f) hi (fun ds h => by simp) (fun ds' j d acc h hj ha => ?_) (fun ds' h => by rw [h]; exact hn) hz).weak (Nat.le_refl _) (fun acc ⟨ds', h1, h2⟩ => by rw [h2, h1, List.take_length])
  subst h
  refine ⟨_, fun b => b = true, 0, cb, eg_name, by omega, et_yes rfl, fun _ => (he d (List.mem_of_getElem? hj)).imp fun e q => ?_, fun z => by cases z⟩
  rw [ha, q, List.take_succ, hj]
  simp
/-- a comprehension of a function with a test -/
theorem evF_filter {Γ : List En} {wi : TI} {i : Nat} {te : TE} {tt : TT} {c0 ct ce n : Nat} {ds : List Da} {f : Da → Da} {t : Da → Bool} (hi : Ei W wi Γ c0 (· = ds)) (ht : ∀ d ∈ ds, EvT W tt ((wipeE Γ [i]).set i (.dat d)) ct (· = t d))
    (he : ∀ d ∈ ds, t d = true → Ev W te ((wipeE Γ [i]).set i (.dat d)) ce (· = f d)) (hn : ds.length ≤ n) (hz : n ≤ 100000) :
    EvF W (tLc wi (gName i) tt te [i]) Γ (c0 + n * (ct + ce)) (· = (ds.filter t).map f) := by
  refine (evF_lc (n := n) (R := fun ds j acc => acc = ((ds.take j).filter t).map f) hi (fun ds h => by simp) (fun ds' j d acc h hj ha => ?_) (fun ds' h => by rw [h]; exact hn) hz).weak (Nat.le_refl _) (fun acc ⟨ds', h1, h2⟩ => by rw [h2, h1, List.take_length])
  subst h
  have hd := List.mem_of_getElem? hj
  refine ⟨_, fun b => b = t d, ct, ce, eg_name, Nat.le_refl _, ht d hd, fun z => (he d hd z.symm).imp fun e q => ?_, fun z => ?_⟩
  · rw [ha, q, List.take_succ, hj]
    simp [List.filter_append, ← z]
  · rw [ha, List.take_succ, hj]
    simp [List.filter_append, ← z]
end
end WJ
set_option Elab.async false
set_option linter.all false
set_option maxRecDepth 100000
set_option maxHeartbeats 2000000
/-! WjJ: the source of draws with a list of digits, cells and a turn; _law_next, _law_pick over it -/
namespace WJ
open PySem L2
def rIntA : List V → Hp → VK → Prop := fun xs H Q => (∃ i, xs = [.int i] ∧ Q (.int i) H) ∨ ∃ k, xs = [.bl k] ∧ Q (.int (if k then 1 else 0)) H
theorem o_int {X : Cx} : CallR X (.type "int") rIntA := call_int1
def rAbs : List V → Hp → VK → Prop := fun xs H Q => ∃ i, xs = [.int i] ∧ Q (.int (if i < 0 then -i else i)) H
theorem o_abs {X : Cx} : CallR X (.builtin "abs") rAbs := call_abs
/-- a list of ints as data that == reads -/
theorem dp_ints {K : PySem.W.Frag} {H : Hp} : ∀ ns : List Int, DpAll K H (ns.map V.int) (ns.map PyData.int)
  | [] => .nil
  | n :: ns => .cons (.int n) (dp_ints ns)
theorem can_ints : ∀ ns : List Int, PyData.canLayAll0 (ns.map PyData.int) = true
  | [] => rfl
  | n :: ns => by
    show (PyData.canLay0 (PyData.int n) && PyData.canLayAll0 (ns.map PyData.int)) = true
    rw [can_ints ns]
    rfl
theorem dep_ints : ∀ ns : List Int, PyData.depthAll (ns.map PyData.int) ≤ 1
  | [] => by decide
  | n :: ns => by
    have h := dep_ints ns
    rw [List.map_cons]
    unfold PyData.depthAll
    unfold PyData.depth
    omega
theorem shaped_ints (ns : List Int) : SeqAt.shaped (.list (ns.map PyData.int)) = true := by
  unfold SeqAt.shaped
  have h := dep_ints ns
  have e : PyData.canLay0 (.list (ns.map PyData.int)) = true := by
    unfold PyData.canLay0
    exact can_ints ns
  have e2 : PyData.depth (.list (ns.map PyData.int)) ≤ 64 := by
    unfold PyData.depth
    omega
  rw [e, decide_eq_true e2]
  rfl
theorem eqv_nil (ns : List Int) : PyData.eqv (.list (ns.map PyData.int)) (.list []) = ns.isEmpty := by
  cases ns with
  | nil => rfl
  | cons n ns => rfl
section
variable {K : PySem.W.Frag} {σ : L2.St} {H : Hp}
/-- d[x] of a dict that stands -/
theorem rd_at {p : Addr} {kvs : List (Key × V)} {x : Str} {v : V} {Q : VK} (hσ : σ[0]? = some (some (.ref p))) (hp : H p = some (.dK kvs)) (hv : valV kvs (Sum.inr x) = some v) (h : Q v H) : tOp (rIxA K) (tVar 0) (tC (.str x)) σ H Q :=
  ⟨_, hσ, Or.inr ⟨p, v, rfl, Or.inl ⟨kvs, Sum.inr x, Or.inl hp, rfl, hv.symm⟩, h⟩⟩
/-- xs != [] -/
theorem ne_nil {g : Addr} {ns : List Int} {te : TE} {Q : Bool → Hp → Prop} (he : ∀ Q : VK, Q (.ref g) H → te σ H Q) (hg : H g = some (.lst (ns.map V.int))) (h : ∀ q, H q = none → Q (!ns.isEmpty) (upd H q (.lst []))) : tTest (tOp (rNeA K) te (tLst tNil)) σ H Q := by
  refine he _ ⟨by decide, fun q nq => ?_⟩
  have hg2 : upd H q (.lst []) g = some (.lst (ns.map V.int)) := by
    rw [upd_ne (ne_of_none hg nq)]
    exact hg
  refine Or.inr ⟨.list (ns.map PyData.int), .list [], .lst (Or.inl (Or.inl hg2)) (dp_ints ns), .lst (Or.inl (Or.inl upd_same)) .nil, shaped_ints ns, shaped_ints [], ?_⟩
  rw [eqv_nil]
  exact ⟨_, rfl, h q nq⟩
end
/-! ### the second kind of source -/
def kv2 (g l : Addr) (t : Int) : List (Key × V) := [(Sum.inr "digits", .ref g), (Sum.inr "cells", .ref l), (Sum.inr "turn", .int t)]
theorem k_dc : ¬ (Sum.inr "digits" : Key) = (Sum.inr "cells" : Key) := by decide +kernel
theorem k_dt : ¬ (Sum.inr "digits" : Key) = (Sum.inr "turn" : Key) := by decide +kernel
theorem k_ct : ¬ (Sum.inr "cells" : Key) = (Sum.inr "turn" : Key) := by decide +kernel
theorem kv2_d {g l : Addr} {t : Int} : valV (kv2 g l t) (Sum.inr "digits") = some (.ref g) := valV_pos rfl
theorem kv2_c {g l : Addr} {t : Int} : valV (kv2 g l t) (Sum.inr "cells") = some (.ref l) := by
  unfold kv2
  rw [valV_neg k_dc, valV_pos rfl]
theorem kv2_t {g l : Addr} {t : Int} : valV (kv2 g l t) (Sum.inr "turn") = some (.int t) := by
  unfold kv2
  rw [valV_neg k_dt, valV_neg k_ct, valV_pos rfl]
theorem kv2_put {g l : Addr} {t u : Int} : putK (kv2 g l t) (Sum.inr "turn") (.int u) = kv2 g l u := by
  unfold putK
  rw [valV_any, kv2_t, if_pos (show (some (V.int t)).isSome = true from rfl)]
  unfold kv2
  rw [List.map_cons, List.map_cons, List.map_cons, if_neg k_dt, if_neg k_ct, if_pos rfl]
  rfl
/-- what holds of the source: the budget M bounds the turns to come -/
structure Dr2 (p g l : Addr) (M : Nat) (H : Hp) : Prop where
  ex : ∃ (ds cs : List Int) (t : Int), H p = some (.dK (kv2 g l t)) ∧ H g = some (.lst (ds.map V.int)) ∧ H l = some (.lst (cs.map V.int)) ∧ (∀ d ∈ ds, 0 ≤ d) ∧ (∀ c ∈ cs, 0 ≤ c ∧ c < 2147483648) ∧ cs ≠ [] ∧ cs.length ≤ 1000 ∧ 0 ≤ t ∧ t + M ≤ 68719476736 ∧ g ≠ l
def DW2 (K : PySem.W.Frag) (p g l : Addr) : Wd K where
  F := [p, g, l]
  Dr := Dr2 p g l
  pres := fun {M H H'} h _ _ ⟨ds, cs, t, e1, e2, e3, r⟩ => ⟨ds, cs, t, (h p (by simp)).trans e1, (h g (by simp)).trans e2, (h l (by simp)).trans e3, r⟩
  alive := fun {M H} ⟨ds, cs, t, e1, e2, e3, r⟩ b hb => by
    simp only [List.mem_cons, List.not_mem_nil, or_false] at hb
    rcases hb with rfl | rfl | rfl
    · rw [e1]; exact Option.some_ne_none _
    · rw [e2]; exact Option.some_ne_none _
    · rw [e3]; exact Option.some_ne_none _
  less := fun {M N H} ⟨ds, cs, t, e1, e2, e3, h1, h2, h3, h4, h5, h6, h7⟩ hn => ⟨ds, cs, t, e1, e2, e3, h1, h2, h3, h4, h5, by omega, h7⟩
def t_n2mix (K : PySem.W.Frag) : TS :=
  (tSeq (sDAug (tVar 0) (tC (.str "turn")) (tC (.int 1)) rAdd)
    (tSeq (tAsg (tOp (rIxA K) (tOp (rIxA K) (tVar 0) (tC (.str "cells"))) (tOp (rI (fun _ j => 0 < j) fun i j => .int (i % j)) (tCB (rIntA) (tCons (tOp (rIxA K) (tVar 0) (tC (.str "turn"))) tNil)) (tCB (rLenA K) (tCons (tOp (rIxA K) (tVar 0) (tC (.str "cells"))) tNil)))) (gName 3))
    (tSeq (tAsg (tOp (rI (fun _ j => 0 < j) fun i j => .int (i % j)) (tCB (rIntA) (tCons (tOp (rI CPow fun i j => .int (i ^ j.toNat)) (tOp (rAddA K) (tVar 3) (tOp (rI CMulW fun i j => .int (i * j)) (tC (.int 15485863)) (tOp (rIxA K) (tVar 0) (tC (.str "turn"))))) (tC (.int 3))) tNil)) (tC (.int 2147483647))) (gName 4))
    (tRet (tOp (rI (fun _ j => 0 < j) fun i j => .int (i % j)) (tCB (rIntA) (tCons (tOp (rI CDivW fun i j => .int (i / j)) (tOp (rI (fun _ j => 0 < j) fun i j => .int (i % j)) (tCB (rIntA) (tCons (tOp (rI CPow fun i j => .int (i ^ j.toNat)) (tOp (rAddA K) (tVar 4) (tOp (rI CMulW fun i j => .int (i * j)) (tC (.int 32452843)) (tOp (rIxA K) (tVar 0) (tC (.str "turn"))))) (tC (.int 5))) tNil)) (tC (.int 2147483579))) (tC (.int 13))) tNil)) (tVar 1))))))
def t_n2dig (K : PySem.W.Frag) : TS :=
  (tIfS (tTest (tOp (rNeA K) (tOp (rIxA K) (tVar 0) (tC (.str "digits"))) (tLst tNil)))
    (tSeq (tAsg (tOp (rI (fun _ j => 0 < j) fun i j => .int (i % j)) (tCB (rIntA) (tCons (tOp (rIxA K) (tOp (rIxA K) (tVar 0) (tC (.str "digits"))) (tC (.int 0))) tNil)) (tVar 1)) (gName 2))
    (tSeq (tAsg (tOp (rI CDivW fun i j => .int (i / j)) (tOp (rIxA K) (tOp (rIxA K) (tVar 0) (tC (.str "digits"))) (tC (.int 0))) (tVar 1)) (gSub (tOp (rIxA K) (tVar 0) (tC (.str "digits"))) (tC (.int 0)) rSetL))
    (tRet (tVar 2))))
    tNext)
def t_next2 (K : PySem.W.Frag) : TS :=
  tSeq (tWhile (tAnd (tTest (tOp (rNeA K) (tOp (rIxA K) (tVar 0) (tC (.str "digits"))) (tLst tNil))) (tTest (tOp (rEqA K) (tOp (rIxA K) (tOp (rIxA K) (tVar 0) (tC (.str "digits"))) (tC (.int 0))) (tC (.int 0)))))
    (tDrop (tBM K "list" rPopAt (tOp (rIxA K) (tVar 0) (tC (.str "digits"))) (tCons (tC (.int 0)) tNil))))
    (tSeq (t_n2dig K) (t_n2mix K))
theorem cpow3 {x : Int} (h0 : 0 ≤ x) (h1 : x < 2 ^ 63) : CPow x 3 := ⟨by decide, by decide, by omega⟩
theorem cpow5 {x : Int} (h0 : 0 ≤ x) (h1 : x < 2 ^ 63) : CPow x 5 := ⟨by decide, by decide, by omega⟩
theorem log2_small {x : Int} (h0 : 0 ≤ x) (h1 : x < 2 ^ 62) : x.natAbs.log2 < 63 := by
  have := PySem.Flt.log2_lt_of (n := x.natAbs) (k := 63) (by decide) (by omega)
  exact this
theorem mod_b {a n : Int} (h : 0 < n) : 0 ≤ a % n ∧ a % n < n := ⟨Int.emod_nonneg a (by omega), Int.emod_lt_of_pos a h⟩
theorem lst_get {ns : List Int} {i : Nat} (h : i < ns.length) : (ns.map V.int)[i]? = some (V.int (ns[i])) := by
  rw [List.getElem?_map, List.getElem?_eq_getElem h]
  rfl
theorem atI_cons {v : V} {vs : List V} : atI (v :: vs) 0 = some v := by
  unfold atI ixN
  rw [List.length_cons, if_pos (by decide), if_pos (by omega)]
  rfl
theorem atI_nat' {vs : List V} {i : Int} {v : V} (h0 : 0 ≤ i) (h : vs[i.toNat]? = some v) : atI vs i = some v := by
  have hl : i.toNat < vs.length := (List.getElem?_eq_some_iff.mp h).1
  unfold atI ixN
  rw [if_pos h0, if_pos (by omega)]
  exact h
theorem five {σ : L2.St} (h : σ.length = 5) : ∃ a b c d e, σ = [a, b, c, d, e] := by
  match σ, h with
  | [a, b, c, d, e], _ => exact ⟨a, b, c, d, e, rfl⟩
/-- the source as it stands, in pieces -/
structure D2 (p g l : Addr) (ds cs : List Int) (t : Int) (H : Hp) : Prop where
  hp : H p = some (.dK (kv2 g l t))
  hg : H g = some (.lst (ds.map V.int))
  hl : H l = some (.lst (cs.map V.int))
theorem D2.new {p g l q : Addr} {ds cs : List Int} {t : Int} {H : Hp} {u : HO} (h : D2 p g l ds cs t H) (nq : H q = none) : D2 p g l ds cs t (upd H q u) :=
  ⟨by rw [upd_ne (ne_of_none h.hp nq)]; exact h.hp, by rw [upd_ne (ne_of_none h.hg nq)]; exact h.hg, by rw [upd_ne (ne_of_none h.hl nq)]; exact h.hl⟩
theorem D2.ngp {p g l : Addr} {ds cs : List Int} {t : Int} {H : Hp} (h : D2 p g l ds cs t H) : g ≠ p := ne_of h.hg h.hp (fun z => nomatch z)
theorem D2.nlp {p g l : Addr} {ds cs : List Int} {t : Int} {H : Hp} (h : D2 p g l ds cs t H) : l ≠ p := ne_of h.hl h.hp (fun z => nomatch z)
theorem D2.digs {p g l : Addr} {ds ds' cs : List Int} {t : Int} {H : Hp} (h : D2 p g l ds cs t H) (n : g ≠ l) : D2 p g l ds' cs t (upd H g (.lst (ds'.map V.int))) :=
  ⟨by rw [upd_ne h.ngp.symm]; exact h.hp, upd_same, by rw [upd_ne n.symm]; exact h.hl⟩
theorem D2.turn {p g l : Addr} {ds cs : List Int} {t u : Int} {H : Hp} (h : D2 p g l ds cs t H) : D2 p g l ds cs u (upd H p (.dK (kv2 g l u))) :=
  ⟨upd_same, by rw [upd_ne h.ngp]; exact h.hg, by rw [upd_ne h.nlp]; exact h.hl⟩
section
variable {K : PySem.W.Frag} {p g l : Addr} {n t : Int} {ds cs : List Int} {H : Hp} {D : Ends} {s2 s3 s4 : Option V}
/-- behind the digits: a turn more, a cell, mixed -/
theorem n2mix (h : D2 p g l ds cs t H) (hn0 : 0 < n) (hcs : ∀ c ∈ cs, 0 ≤ c ∧ c < 2147483648) (hc0 : cs ≠ []) (hcl : cs.length ≤ 1000) (ht0 : 0 ≤ t) (ht : t < 68719476736)
    (hD : ∀ k H', D2 p g l ds cs (t + 1) H' → Kp [p] H H' → 0 ≤ k → k < n → D.rt (.int k) H') : t_n2mix K D [some (.ref p), some (.int n), s2, s3, s4] H := by
  -- turn += 1
  refine ⟨_, rfl, p, _, rfl, Or.inl ⟨_, Sum.inr "turn", Or.inl h.hp, rfl, kv2_t.symm⟩, t, 1, rfl, rfl, _, Or.inl ⟨_, Sum.inr "turn", h.hp, rfl, (by show 3 < sizeLine; decide), rfl⟩, ?_⟩
  rw [kv2_put]
  have h1 : D2 p g l ds cs (t + 1) (upd H p (.dK (kv2 g l (t + 1)))) := h.turn
  have k1 : Kp [p] H (upd H p (.dK (kv2 g l (t + 1)))) := Kp.mut (by simp)
  generalize upd H p (.dK (kv2 g l (t + 1))) = H1 at h1 k1 ⊢
  -- the cell
  refine rd_at rfl h1.hp kv2_c (rd_at rfl h1.hp kv2_t (Or.inl ⟨_, rfl, rd_at rfl h1.hp kv2_c (Or.inl ⟨_, (cs.map V.int).length, rfl, Or.inl ⟨_, Or.inl (Or.inl h1.hl), rfl⟩, ?_⟩)⟩))
  have hcp : 0 < cs.length := List.length_pos_iff.mpr hc0
  rw [List.length_map]
  refine ⟨t + 1, (cs.length : Int), rfl, rfl, by omega, ?_⟩
  have hb := mod_b (a := t + 1) (n := (cs.length : Int)) (by omega)
  have hi : ((t + 1) % (cs.length : Int)).toNat < cs.length := by omega
  refine Or.inl (Or.inl ⟨l, _, _, _, rfl, rfl, Or.inl (Or.inl h1.hl), atI_nat' hb.1 (lst_get hi), ?_⟩)
  generalize hc : cs[((t + 1) % (cs.length : Int)).toNat] = c
  have hc2 : 0 ≤ c ∧ c < 2147483648 := hcs c (by rw [← hc]; exact List.getElem_mem hi)
  -- mixed
  refine ⟨_, rfl, rd_at rfl h1.hp kv2_t ⟨15485863, t + 1, rfl, rfl, ?_, Or.inl ⟨_, _, rfl, rfl, _, 3, rfl, rfl, cpow3 (by omega) (by omega), Or.inl ⟨_, rfl, _, 2147483647, rfl, rfl, (by show (0 : Int) < 2147483647; decide), ?_⟩⟩⟩⟩
  · show Nat.log2 _ + Nat.log2 _ < 1000000
    have := log2_small (x := t + 1) (by omega) (by omega)
    have e : (15485863 : Int).natAbs.log2 = 23 := by decide +kernel
    omega
  generalize hm : (c + 15485863 * (t + 1)) ^ (3 : Int).toNat % 2147483647 = m
  have hm2 : 0 ≤ m ∧ m < 2147483647 := by rw [← hm]; exact mod_b (by decide)
  refine ⟨_, rfl, rd_at rfl h1.hp kv2_t ⟨32452843, t + 1, rfl, rfl, ?_, Or.inl ⟨_, _, rfl, rfl, _, 5, rfl, rfl, cpow5 (by omega) (by omega), Or.inl ⟨_, rfl, _, 2147483579, rfl, rfl, (by show (0 : Int) < 2147483579; decide), _, 13, rfl, rfl, ⟨by decide, by decide +kernel⟩, Or.inl ⟨_, rfl, _, rfl, _, n, rfl, rfl, hn0, ?_⟩⟩⟩⟩⟩
  · show Nat.log2 _ + Nat.log2 _ < 1000000
    have := log2_small (x := t + 1) (by omega) (by omega)
    have e : (32452843 : Int).natAbs.log2 = 24 := by decide +kernel
    omega
  exact hD _ _ h1 k1 (mod_b hn0).1 (mod_b hn0).2
theorem n2dig (h : D2 p g l ds cs t H) (hgl : g ≠ l) (hn0 : 0 < n) (hn : n < 2 ^ 62) (hds : ∀ d ∈ ds, 0 ≤ d)
    (hD : ∀ k ds' H', D2 p g l ds' cs t H' → (∀ d ∈ ds', 0 ≤ d) → Kp [g] H H' → 0 ≤ k → k < n → D.rt (.int k) H')
    (hN : ∀ H', D2 p g l ds cs t H' → Kp [] H H' → D.nx [some (.ref p), some (.int n), s2, s3, s4] H') : t_n2dig K D [some (.ref p), some (.int n), s2, s3, s4] H := by
  refine ne_nil (ns := ds) (fun Q q => rd_at rfl h.hp kv2_d q) h.hg fun q nq => ?_
  have h1 : D2 p g l ds cs t (upd H q (.lst [])) := h.new nq
  have k1 : Kp [] H (upd H q (.lst [])) := Kp.new nq
  generalize upd H q (.lst []) = H1 at h1 k1 ⊢
  cases ds with
  | nil => exact hN H1 h1 k1
  | cons d r =>
    refine iteT ?_
    refine rd_at rfl h1.hp kv2_d (Or.inl (Or.inl ⟨g, _, 0, .int d, rfl, rfl, Or.inl (Or.inl h1.hg), atI_cons, Or.inl ⟨d, rfl, _, rfl, d, n, rfl, rfl, hn0, ?_⟩⟩))
    refine rd_at rfl h1.hp kv2_d (Or.inl (Or.inl ⟨g, _, 0, .int d, rfl, rfl, Or.inl (Or.inl h1.hg), atI_cons, _, rfl, d, n, rfl, rfl, ⟨hn0, Nat.lt_trans (log2_small (by omega) hn) (by decide)⟩, ?_⟩))
    refine rd_at rfl h1.hp kv2_d ⟨g, _, 0, 0, rfl, rfl, h1.hg, (by rw [List.map_cons, List.length_cons]; unfold ixN; rw [if_pos (by decide), if_pos (by omega)]; rfl), _, rfl, ?_⟩
    have hb := mod_b (a := d) hn0
    have hd := hds d List.mem_cons_self
    have e : ((d :: r).map V.int).set 0 (.int (d / n)) = ((d / n) :: r).map V.int := rfl
    rw [e]
    refine hD _ ((d / n) :: r) _ (h1.digs hgl) (fun x hx => ?_) (k1.all.trans (Kp.mut (by simp))) hb.1 hb.2
    rcases List.mem_cons.mp hx with z | z
    · rw [z]
      exact Int.ediv_nonneg hd (by omega)
    · exact hds x (List.mem_cons_of_mem _ z)
end
theorem es_next2 {K : PySem.W.Frag} {p g l : Addr} {n : Int} (hn0 : 0 < n) (hn : n < 2 ^ 62) : Es (DW2 K p g l) (t_next2 K) [.dat (.obj p), .dat (.int n), .no, .no, .no] 1 ⟨fun _ => False, fun d => ∃ k, d = .int k ∧ 0 ≤ k ∧ k < n, fun _ => False, fun _ => False⟩ := by
  intro H0 B0 B σ H M D s hM a b e f
  obtain ⟨o0, e0, v0, rfl, d0⟩ := s.sl 0 _ rfl
  obtain ⟨o1, e1, v1, rfl, d1⟩ := s.sl 1 _ rfl
  unfold Dat at d0 d1
  subst d0 d1
  obtain ⟨s0, s1, s2, s3, s4, rfl⟩ := five s.ln
  cases e0
  cases e1
  obtain ⟨ds, cs, t, hp, hg, hl, hds, hcs, hc0, hcl, ht0, htM, hgl⟩ := s.dr
  have k0 := s.k0
  -- what is left behind the while
  have rest : ∀ ds1 H1, D2 p g l ds1 cs t H1 → (∀ d ∈ ds1, 0 ≤ d) → Kp [p, g, l] H0 H1 → tSeq (t_n2dig K) (t_n2mix K) D [some (.ref p), some (.int n), s2, s3, s4] H1 := fun ds1 H1 h1 hd1 k1 => by
    refine n2dig h1 hgl hn0 hn hd1 (fun k ds' H' h' hd' k' hk0 hk1 => ?_) (fun H' h' k' => ?_)
    · exact b _ (.int k) H' (k1.trans (k'.more (by simp))) ⟨ds', cs, t, h'.hp, h'.hg, h'.hl, hd', hcs, hc0, hcl, ht0, by omega, hgl⟩ (dInt.mpr rfl) ⟨k, rfl, hk0, hk1⟩
    · refine n2mix h' hn0 hcs hc0 hcl ht0 (by omega) (fun k H2 h2 k2 hk0 hk1 => ?_)
      exact b _ (.int k) H2 ((k1.trans k'.all).trans (k2.more (by simp))) ⟨ds1, cs, t + 1, h2.hp, h2.hg, h2.hl, hd1, hcs, hc0, hcl, by omega, by omega, hgl⟩ (dInt.mpr rfl) ⟨k, rfl, hk0, hk1⟩
  refine ⟨fun m σ' H' => σ' = [some (.ref p), some (.int n), s2, s3, s4] ∧ ∃ ds', m = ds'.length ∧ D2 p g l ds' cs t H' ∧ (∀ d ∈ ds', 0 ≤ d) ∧ Kp [p, g, l] H0 H', ⟨ds.length, rfl, ds, rfl, ⟨hp, hg, hl⟩, hds, k0⟩, ?_⟩
  rintro m σ' H1 ⟨rfl, ds1, rfl, h1, hd1, k1⟩
  refine ne_nil (ns := ds1) (fun Q q => rd_at rfl h1.hp kv2_d q) h1.hg fun q nq => ?_
  have h2 : D2 p g l ds1 cs t (upd H1 q (.lst [])) := h1.new nq
  have k2 : Kp [p, g, l] H0 (upd H1 q (.lst [])) := k1.trans (Kp.new nq)
  generalize upd H1 q (.lst []) = H2 at h2 k2 ⊢
  cases ds1 with
  | nil => exact rest [] H2 h2 hd1 k2
  | cons d r =>
    refine rd_at rfl h2.hp kv2_d (Or.inl (Or.inl ⟨g, _, 0, .int d, rfl, rfl, Or.inl (Or.inl h2.hg), atI_cons, Or.inl ⟨rfl, _, rfl, ?_⟩⟩))
    by_cases hd : d = 0
    · subst hd
      show ∃ N, _
      refine ⟨fun σ' H' => ∃ m', m' < (0 :: r).length ∧ σ' = [some (.ref p), some (.int n), s2, s3, s4] ∧ ∃ ds', m' = ds'.length ∧ D2 p g l ds' cs t H' ∧ (∀ d ∈ ds', 0 ≤ d) ∧ Kp [p, g, l] H0 H', fun σ' H' z => z, ?_⟩
      refine rd_at rfl h2.hp kv2_d ⟨Or.inl ⟨rfl, _, Or.inl (Or.inl h2.hg)⟩, g, _, 0, 0, .int 0, rfl, rfl, h2.hg, by decide, by decide, (by rw [seqIndex_of (by decide) (by simp)]; rfl), rfl, r.length, by simp, rfl, r, rfl, ?_, fun x hx => hd1 x (List.mem_cons_of_mem _ hx), k2.trans (Kp.mut (by simp))⟩
      exact h2.digs hgl
    · rw [show decide (V.int d = V.int 0) = false from decide_eq_false (fun z => hd (by cases z; rfl))]
      exact rest (d :: r) H2 h2 hd1 k2
end WJ
set_option Elab.async false
set_option linter.all false
set_option maxRecDepth 100000
set_option maxHeartbeats 2000000
/-! WjK: what comes to a name, of whatever kind; pairs of names; sequences of any kind; _law_pick, _law_shuffled -/
namespace WJ
open PySem L2
section
variable {K : PySem.W.Frag} {W : Wd K} {B B0 : List Addr} {H H0 H' : Hp} {M M' : Nat} {σ : L2.St} {Γ : List En}
/-- a barred place that is nobody's comes to a name -/
theorem Sg.setOwnB (s : Sg W H0 B0 B σ Γ H M) {i : Nat} {l : Addr} {e : En} (hl : ∀ j, ¬ Ow σ Γ j l) (h0 : H0 l = none) (he : e.isOwn = true) (h : Sl K B H (some (.ref l)) e) : Sg W H0 B0 B (σ.set i (some (.ref l))) (Γ.set i e) H M := by
  have own : ∀ j l', Ow (σ.set i (some (.ref l))) (Γ.set i e) j l' → (j = i ∧ l' = l) ∨ (j ≠ i ∧ Ow σ Γ j l') := fun j l' ⟨⟨e', g, t⟩, q⟩ => by
    by_cases hj : i = j
    · subst hj
      by_cases hl : i < Γ.length
      · rw [List.getElem?_set_self (by rw [s.ln]; exact hl)] at q
        cases q
        exact .inl ⟨rfl, rfl⟩
      · rw [List.getElem?_eq_none (by simpa using hl)] at g
        cases g
    · rw [List.getElem?_set_ne hj] at g q
      exact .inr ⟨fun z => hj z.symm, ⟨e', g, t⟩, q⟩
  refine ⟨s.toBk, s.k0, s.b0, s.a0, s.f0, by rw [List.length_set, List.length_set, s.ln], fun j e' hj => ?_, fun a b l' ha hb => ?_, fun a l' ha => ?_⟩
  · by_cases hij : i = j
    · subst hij
      have hl : i < Γ.length := by
        have := (List.getElem?_eq_some_iff.mp hj).1
        simpa using this
      rw [List.getElem?_set_self hl] at hj
      cases hj
      exact ⟨_, List.getElem?_set_self (by rw [s.ln]; exact hl), h⟩
    · rw [List.getElem?_set_ne hij] at hj
      obtain ⟨o', ho, hs⟩ := s.sl j e' hj
      exact ⟨o', by rw [List.getElem?_set_ne hij]; exact ho, hs⟩
  · rcases own a l' ha with ⟨ea, el⟩ | ⟨na, wa⟩ <;> rcases own b l' hb with ⟨eb, el2⟩ | ⟨nb, wb⟩
    · rw [ea, eb]
    · rw [el] at wb
      exact (hl b wb).elim
    · rw [el2] at wa
      exact (hl a wa).elim
    · exact s.ow a b l' wa wb
  · rcases own a l' ha with ⟨ea, el⟩ | ⟨na, wa⟩
    · rw [el]
      exact h0
    · exact s.on a l' wa
/-- v is what e says, made between H and H' -/
def NewE (K : PySem.W.Frag) (B : List Addr) (H : Hp) (v : V) (e : En) (H' : Hp) : Prop :=
  match e with
  | .no => True
  | .dat d => Dat K B H' v d
  | .own ds => ∃ l xs, v = .ref l ∧ H l = none ∧ H' l = some (.lst xs) ∧ Dats K (l :: B) H' xs ds
  | .ownD ds => ∃ l xs, v = .ref l ∧ H l = none ∧ H' l = some (.dK xs) ∧ Datk K (l :: B) H' xs ds
  | .ownI a C fs => ∃ (l : Addr) (x : Addr × List (Str × V)), v = .ref l ∧ H l = none ∧ H' l = some (.ins C x.1 x.2) ∧ (Datf K (l :: B) H' x.2 fs ∧ l = a)
/-- the new thing barred, not yet at a name: then at its name -/
theorem Sg.newE (s : Sg W H0 B0 B σ Γ H M) {v : V} {e : En} (k : Kp W.F H H') (d : W.Dr M' H') (h : NewE K B H v e H') :
    ∃ B', Sg W H0 B0 B' σ Γ H' M' ∧ Mv B H B' H' ∧ ∀ i, Sg W H0 B0 B' (σ.set i (some v)) (Γ.set i e) H' M' := by
  cases e with
  | no => exact ⟨B, s.keep k d, Mv.of (s.toBk.kp k), fun i => (s.keep k d).set rfl trivial⟩
  | dat x => exact ⟨B, s.keep k d, Mv.of (s.toBk.kp k), fun i => (s.keep k d).setD h⟩
  | own ds =>
    obtain ⟨l, xs, rfl, n, hl, hd⟩ := h
    have s2 := s.bar n k d (by rw [hl]; exact Option.some_ne_none _)
    have n0 : H0 l = none := s.k0.backB (fun z => W.alive s.dr l z n) n
    exact ⟨l :: B, s2, ⟨put_bar n, s.toBk.kp k⟩, fun i => s2.setOwnB (fun j => s.fresh n j) n0 rfl ⟨l, xs, rfl, List.mem_cons_self, hl, hd⟩⟩
  | ownD ds =>
    obtain ⟨l, xs, rfl, n, hl, hd⟩ := h
    have s2 := s.bar n k d (by rw [hl]; exact Option.some_ne_none _)
    have n0 : H0 l = none := s.k0.backB (fun z => W.alive s.dr l z n) n
    exact ⟨l :: B, s2, ⟨put_bar n, s.toBk.kp k⟩, fun i => s2.setOwnB (fun j => s.fresh n j) n0 rfl ⟨l, xs, rfl, List.mem_cons_self, hl, hd⟩⟩
  | ownI aI CI ds =>
    obtain ⟨l, xs, rfl, n, hl, hd⟩ := h
    have s2 := s.bar n k d (by rw [hl]; exact Option.some_ne_none _)
    have n0 : H0 l = none := s.k0.backB (fun z => W.alive s.dr l z n) n
    exact ⟨l :: B, s2, ⟨put_bar n, s.toBk.kp k⟩, fun i => s2.setOwnB (fun j => s.fresh n j) n0 rfl ⟨l, xs, rfl, List.mem_cons_self, hl, hd⟩⟩
end
section
variable {K : PySem.W.Frag} {W : Wd K} {Γ : List En} {c c1 c2 c' : Nat} {te t1 t2 ta tb tc : TE} {tt : TT} {p : Po} {r : R2}
/-- te gives something that e says, P e -/
def EvE (W : Wd K) (te : TE) (Γ : List En) (c : Nat) (P : En → Prop) : Prop :=
  ∀ (H0 : Hp) (B0 B : List Addr) (σ : L2.St) (H : Hp) (M : Nat), Sg W H0 B0 B σ Γ H M → c ≤ M → ∀ Q : VK, (∀ v e H', Kp W.F H H' → W.Dr (M - c) H' → NewE K B H v e H' → P e → Q v H') → te σ H Q
theorem Ev.e {P : Da → Prop} (h : Ev W te Γ c P) : EvE W te Γ c (fun e => ∃ d, e = .dat d ∧ P d) := fun H0 B0 B σ H M s hM Q q =>
  h H0 B0 B σ H M s hM Q fun v d H' k r hd p => q v (.dat d) H' k r hd ⟨d, rfl, p⟩
theorem EvF.e {P : List Da → Prop} (h : EvF W te Γ c P) : EvE W te Γ c (fun e => ∃ d, e = .own d ∧ P d) := fun H0 B0 B σ H M s hM Q q =>
  h H0 B0 B σ H M s hM Q fun l xs ds H' n k r hl hd p => q _ (.own ds) H' k r ⟨l, xs, rfl, n, hl, hd⟩ ⟨ds, rfl, p⟩
theorem EvG.e {P : List (Key × Da) → Prop} (h : EvG W te Γ c P) : EvE W te Γ c (fun e => ∃ d, e = .ownD d ∧ P d) := fun H0 B0 B σ H M s hM Q q =>
  h H0 B0 B σ H M s hM Q fun l xs ds H' n k r hl hd p => q _ (.ownD ds) H' k r ⟨l, xs, rfl, n, hl, hd⟩ ⟨ds, rfl, p⟩
/-- a, b = e1, e2, of whatever kinds -/
theorem es_parE {i j : Nat} {P1 P2 : En → Prop} (h1 : EvE W t1 Γ c1 P1) (h2 : EvE W t2 Γ c2 P2) (hp : ∀ e1 e2, P1 e1 → P2 e2 → p.nx ((Γ.set i e1).set j e2)) : Es W (tPar i j (tCons t1 (tCons t2 tNil))) Γ (c1 + c2) p := fun H0 B0 B σ H M D s hM a b e f =>
  h1 H0 B0 B σ H M s (by omega) _ fun v1 e1 H1 k1 r1 n1 p1 => by
    obtain ⟨B1, s1, m1, f1⟩ := s.newE k1 r1 n1
    refine h2 H0 B0 B1 σ H1 _ s1 (by omega) _ fun v2 e2 H2 k2 r2 n2 p2 => ?_
    obtain ⟨B2, s2, m2, f2⟩ := (f1 i).newE k2 r2 n2
    exact ⟨v1, v2, rfl, a B2 _ _ H2 ((f2 j).less (by omega)) (m1.trans m2) (hp e1 e2 p1 p2)⟩
/-! known values -/
theorem ev_cbE {rc : List V → Hp → VK → Prop} {ta : TA} {ds : List Da} {P : Da → Prop} (h : EvA W ta Γ c (· = ds)) (hr : Rc W rc ds P) : Ev W (tCB rc ta) Γ c P := ev_cb h fun _ e => by rw [e]; exact hr
theorem ev_callE {sp : Sp} {E : XK} {ta : TA} {ds : List Da} {P : Da → Prop} (h : EvA W ta Γ c1 (· = ds)) (hs : Fn W sp ds c2 P) : Ev W (tCall sp [] E ta) Γ (c1 + c2) P := ev_call h fun _ e => by rw [e]; exact hs
theorem ev_andB {a b : Bool} (ha : Ev W ta Γ c1 (· = .bl a)) (hb : a = true → Ev W tb Γ c2 (· = .bl b)) : Ev W (tAndV ta tb) Γ (c1 + c2) (· = .bl (a && b)) :=
  ev_and (Pa := (· = a)) (ha.imp fun d e => ⟨a, e, rfl⟩) (fun e => (hb e.symm).imp fun d q => by rw [q, ← e]; rfl) (fun e => by rw [← e]; rfl)
theorem ev_orB {a b : Bool} (ha : Ev W ta Γ c1 (· = .bl a)) (hb : a = false → Ev W tb Γ c2 (· = .bl b)) : Ev W (tOrV ta tb) Γ (c1 + c2) (· = .bl (a || b)) :=
  ev_or (Pa := (· = a)) (ha.imp fun d e => ⟨a, e, rfl⟩) (fun e => (hb e.symm).imp fun d q => by rw [q, ← e]; rfl) (fun e => by rw [← e]; rfl)
theorem ev_notB {a : Bool} (ha : Ev W ta Γ c (· = .bl a)) : Ev W (tNotV ta) Γ c (· = .bl (!a)) :=
  (ev_not (Pa := (· = a)) (ha.imp fun d e => ⟨a, e, rfl⟩)).imp fun d ⟨b, e, q⟩ => by rw [e, q]
theorem et_testB {b : Bool} (h : Ev W te Γ c (· = .bl b)) : EvT W (tTest te) Γ c (· = b) := et_test (h.imp fun d e => ⟨b, e, rfl⟩)
theorem et_BB {b : Bool} (h : Ev W te Γ c (· = .bl b)) : EvT W (tB te) Γ c (· = b) := et_B (h.imp fun d e => ⟨b, e, rfl⟩)
theorem et_andB {tu : TT} {a b : Bool} (h1 : EvT W tt Γ c1 (· = a)) (h2 : a = true → EvT W tu Γ c2 (· = b)) : EvT W (tAnd tt tu) Γ (c1 + c2) (· = (a && b)) :=
  et_and h1 (fun e => (h2 e.symm).weak (Nat.le_refl _) fun d q => by rw [q, ← e]; rfl) (fun e => by rw [← e]; rfl)
theorem et_orB {tu : TT} {a b : Bool} (h1 : EvT W tt Γ c1 (· = a)) (h2 : a = false → EvT W tu Γ c2 (· = b)) : EvT W (tOr tt tu) Γ (c1 + c2) (· = (a || b)) :=
  et_or h1 (fun e => (h2 e.symm).weak (Nat.le_refl _) fun d q => by rw [q, ← e]; rfl) (fun e => by rw [← e]; rfl)
theorem et_notB {a : Bool} (h : EvT W tt Γ c (· = a)) : EvT W (tNot tt) Γ c (· = !a) := et_not (h.weak (Nat.le_refl _) fun b e => by rw [e])
theorem es_retE {d : Da} (h : Ev W te Γ c (· = d)) (hp : p.rt d) : Es W (tRet te) Γ c p := es_ret h fun _ e => by rw [e]; exact hp
theorem es_asgE {i : Nat} {d : Da} (h : Ev W te Γ c (· = d)) (hp : p.nx (Γ.set i (.dat d))) : Es W (tAsg te (gName i)) Γ c p := es_asg h fun _ e => by rw [e]; exact hp
theorem es_asgFE {i : Nat} {ds : List Da} (h : EvF W te Γ c (· = ds)) (hp : p.nx (Γ.set i (.own ds))) : Es W (tAsg te (gName i)) Γ c p := es_asgF h fun _ e => by rw [e]; exact hp
/-- if, the answer known -/
theorem es_ifB {t u : TS} {b : Bool} (h : EvT W tt Γ c1 (· = b)) (h1 : b = true → Es W t Γ c2 p) (h2 : b = false → Es W u Γ c2 p) : Es W (tIfS tt t u) Γ (c1 + c2) p := es_if h (fun e => h1 e.symm) (fun e => h2 e.symm)
/-- the next statement's names are known -/
theorem es_seqE {t u : TS} {Γ' : List En} (h1 : Es W t Γ c1 { p with nx := (· = Γ') }) (h2 : Es W u Γ' c2 p) : Es W (tSeq t u) Γ (c1 + c2) p := es_seq h1 fun _ e => by rw [e]; exact h2
/-! ints -/
theorem ev_int2 {g : Int → Int → V} {i j : Int} {d : Da} (ha : Ev W ta Γ c1 (· = .int i)) (hb : Ev W tb Γ c2 (· = .int j)) (hg : ∀ (B : List Addr) (H : Hp), Dat K B H (g i j) d) : Ev W (tOp (rI0 g) ta tb) Γ (c1 + c2) (· = d) := ev_op2 ha hb (rv_I0 (gd := fun _ _ => d) hg rfl)
theorem ev_int3 {C : Int → Int → Prop} {g : Int → Int → V} {i j : Int} {d : Da} (ha : Ev W ta Γ c1 (· = .int i)) (hb : Ev W tb Γ c2 (· = .int j)) (hc : C i j) (hg : ∀ (B : List Addr) (H : Hp), Dat K B H (g i j) d) : Ev W (tOp (rI C g) ta tb) Γ (c1 + c2) (· = d) := ev_op2 ha hb (rv_I (gd := fun _ _ => d) hc hg rfl)
theorem ev_addI {i j : Int} (ha : Ev W ta Γ c1 (· = .int i)) (hb : Ev W tb Γ c2 (· = .int j)) : Ev W (tOp (rAddA K) ta tb) Γ (c1 + c2) (· = .int (i + j)) := ev_op2 ha hb (rv_addI rfl)
theorem ev_addS {x y : Str} (ha : Ev W ta Γ c1 (· = .str x)) (hb : Ev W tb Γ c2 (· = .str y)) (hl : x.length + y.length ≤ 100000) : Ev W (tOp (rAddA K) ta tb) Γ (c1 + c2) (· = .str (x ++ y)) := ev_op2 ha hb (rv_addS hl rfl)
theorem evF_addL {xs ys : List Da} (ha : Ev W ta Γ c1 (· = .lst xs)) (hb : Ev W tb Γ c2 (· = .lst ys)) (hl : xs.length + ys.length ≤ 100000) : EvF W (tOp (rAddA K) ta tb) Γ (c1 + c2) (· = xs ++ ys) := evF_op2 ha hb (rvF_addL hl rfl)
theorem ev_chainB {r r' : R2} {d1 d2 d3 : Da} {c3 : Nat} {a b : Bool} (ha : Ev W ta Γ c1 (· = d1)) (hb : Ev W tb Γ c2 (· = d2)) (hc : Ev W tc Γ c3 (· = d3)) (h1 : Rv W r d1 d2 (· = .bl a)) (h2 : a = true → Rv W r' d2 d3 (· = .bl b)) :
    Ev W (tChain r r' ta tb tc) Γ (c1 + c2 + c3) (· = .bl (a && b)) :=
  ev_chain ha hb hc (Pk := fun _ _ k => k = a) (fun _ _ e1 e2 => by
    rw [e1, e2]
    exact fun B H M v1 v2 s hd1 hd2 Q q => h1 B H M v1 v2 s hd1 hd2 Q fun v d H' k r hd e => q v d H' k r hd ⟨a, e, rfl⟩) (fun _ _ _ _ e => by rw [← e]; rfl) (fun _ _ _ _ e2 e3 e => by
    rw [e2, e3]
    exact fun B H M v1 v2 s hd1 hd2 Q q => h2 e.symm B H M v1 v2 s hd1 hd2 Q fun v d H' k r hd e' => q v d H' k r hd (by rw [e', ← e]; rfl))
theorem rv_I0B {q : Int → Int → Bool} {i j : Int} : Rv W (rI0 fun i j => .bl (q i j)) (.int i) (.int j) (· = .bl (q i j)) := rv_I0 (gd := fun i j => .bl (q i j)) (fun _ _ => dBl.mpr rfl) rfl
/-! sequences of any kind -/
def seqD : Da → Option (List Da)
  | .lst xs => some xs
  | .tup xs => some xs
  | .str z => some (signsD z)
  | _ => none
theorem signs_len {z : Str} : (signsD z).length = z.length := by simp [signsD, Str.length]
theorem rc_len {d : Da} {xs : List Da} {P : Da → Prop} (h : seqD d = some xs) (hl : xs.length ≤ 100000) (p : P (.int xs.length)) : Rc W (rLenA K) [d] P := by
  cases d with
  | lst ys => cases h; exact rc_lenL p
  | tup ys => cases h; exact rc_lenT p
  | str z =>
    cases h
    rw [signs_len] at hl p
    exact rc_lenS hl p
  | _ => cases h
theorem atI_of {α : Type} {xs : List α} {i : Int} {x : α} (h0 : 0 ≤ i) (h : xs[i.toNat]? = some x) : atI xs i = some x := by
  have hl : i.toNat < xs.length := (List.getElem?_eq_some_iff.mp h).1
  unfold atI ixN
  rw [if_pos h0, if_pos (by omega)]
  exact h
theorem rv_ix {d : Da} {xs : List Da} {i : Int} {x : Da} {P : Da → Prop} (h : seqD d = some xs) (hl : xs.length ≤ 100000) (h0 : 0 ≤ i) (hx : xs[i.toNat]? = some x) (p : P x) : Rv W (rIxA K) d (.int i) P := by
  cases d with
  | lst ys => cases h; exact rv_ixL (atI_of h0 hx) p
  | tup ys => cases h; exact rv_ixT (atI_of h0 hx) p
  | str z =>
    cases h
    rw [signs_len] at hl
    unfold signsD at hx
    rw [List.getElem?_map] at hx
    cases e : z.cps.toList[i.toNat]? with
    | none =>
      rw [e] at hx
      cases hx
    | some c =>
      rw [e] at hx
      cases hx
      exact rv_ixS hl (atI_of h0 e) p
  | _ => cases h
/-- the source of draws at q is drawn from by sp -/
def NextOk (W : Wd K) (q : Addr) (sp : Sp) : Prop := ∀ (n : Int) (P : Da → Prop), 0 < n → n < 2 ^ 62 → (∀ k, 0 ≤ k → k < n → P (.int k)) → Fn W sp [.obj q, .int n] 1 P
def PickOk (W : Wd K) (q : Addr) (sp : Sp) : Prop := ∀ (d : Da) (xs : List Da) (P : Da → Prop), seqD d = some xs → xs ≠ [] → xs.length ≤ 100000 → (∀ x ∈ xs, P x) → Fn W sp [.obj q, d] 1 P
def t__law_pick (K : PySem.W.Frag) (sp__law_next : Sp) : TS :=
  (tRet (tOp (rIxA K) (tVar 1) (tCall sp__law_next [] E0 (tCons (tVar 0) (tCons (tCB (rLenA K) (tCons (tVar 1) tNil)) tNil)))))
theorem es_pick {q : Addr} {sp : Sp} {d : Da} {xs : List Da} (hN : NextOk W q sp) (hs : seqD d = some xs) (h0 : xs ≠ []) (hl : xs.length ≤ 100000) (hp : ∀ x ∈ xs, p.rt x) : Es W (t__law_pick K sp) [.dat (.obj q), .dat d] 1 p := by
  have hpos : 0 < xs.length := List.length_pos_iff.mpr h0
  refine es_ret (P := fun x => x ∈ xs) (c := 0 + (0 + (0 + 0 + 0) + 1)) (ev_op (ev_var rfl) (ev_callE (ea_cons2 (ev_var rfl) (ea_cons2 (ev_cbE (ea_cons2 (ev_var rfl) ea_nil) (rc_len hs hl rfl)) ea_nil)) (hN _ (fun e => ∃ k, e = .int k ∧ 0 ≤ k ∧ k < (xs.length : Int)) (by omega) (by omega) (fun k a b => ⟨k, rfl, a, b⟩))) (fun d1 d2 e1 ⟨k, e2, h1, h2⟩ => ?_)) hp
  subst e1 e2
  have hk : k.toNat < xs.length := by omega
  exact rv_ix hs hl h1 (List.getElem?_eq_getElem hk) (List.getElem_mem hk)
end
end WJ
set_option Elab.async false
set_option linter.all false
set_option maxRecDepth 100000
set_option maxHeartbeats 2000000
/-! WjQ: objects of own classes: fields, making, properties, isinstance, ==; dict(x), dict comprehensions -/
namespace WJ
open PySem L2
section
variable {K : PySem.W.Frag}
theorem Datf.look {B : List Addr} {H : Hp} {f : Str} {d : Da} : ∀ {fs : List (Str × Da)} {xs : List (Str × V)}, Datf K B H xs fs → fs.lookup f = some d → ∃ v, xs.lookup f = some v ∧ Dat K B H v d
  | [], _, _, e => by cases e
  | (g, x) :: fs, _, h, e => by
    unfold Datf at h
    obtain ⟨v, r, rfl, h1, t⟩ := h
    rw [List.lookup_cons] at e ⊢
    cases hb : (f == g) with
    | true =>
      rw [hb] at e
      cases e
      exact ⟨v, rfl, h1⟩
    | false =>
      rw [hb] at e
      exact Datf.look t e
/-- a field is set -/
def putFD (f : Str) (d : Da) : List (Str × Da) → List (Str × Da)
  | [] => [(f, d)]
  | (g, x) :: r => if g = f then (g, d) :: r else (g, x) :: putFD f d r
theorem Datf.put1 {B : List Addr} {H : Hp} {f : Str} {d : Da} {v : V} (hv : Dat K B H v d) : ∀ {fs : List (Str × Da)} {xs : List (Str × V)}, Datf K B H xs fs → Datf K B H (putF f v xs) (putFD f d fs)
  | [], _, h => by
    unfold Datf at h
    subst h
    show Datf K B H [(f, v)] [(f, d)]
    unfold Datf
    exact ⟨v, [], rfl, hv, by unfold Datf; rfl⟩
  | (g, x) :: fs, _, h => by
    unfold Datf at h
    obtain ⟨w, r, rfl, h1, t⟩ := h
    show Datf K B H (if g = f then (g, v) :: r else (g, w) :: putF f v r) (if g = f then (g, d) :: fs else (g, x) :: putFD f d fs)
    by_cases e : g = f
    · rw [if_pos e, if_pos e]
      unfold Datf
      exact ⟨v, r, rfl, hv, t⟩
    · rw [if_neg e, if_neg e]
      unfold Datf
      exact ⟨w, _, rfl, h1, Datf.put1 hv t⟩
theorem Datf.length {B : List Addr} {H : Hp} : ∀ {fs : List (Str × Da)} {xs : List (Str × V)}, Datf K B H xs fs → xs.length = fs.length
  | [], _, h => by
    unfold Datf at h
    subst h
    rfl
  | (g, x) :: fs, _, h => by
    unfold Datf at h
    obtain ⟨w, r, rfl, h1, t⟩ := h
    rw [List.length_cons, List.length_cons, Datf.length t]
end
section
variable {K : PySem.W.Frag} {W : Wd K} {Γ : List En} {c c1 c2 : Nat} {P : Da → Prop} {te ta tv : TE} {p : Po} {C : Addr} {f : Str}
theorem ev_fld {Pf : List (Str × Da) → Prop} (cl : Cls K C) (na : NoAttr K C f) (ha : Ev W ta Γ c (fun d => ∃ fs, d = .ins C fs ∧ Pf fs)) (hf : ∀ fs, Pf fs → ∃ x, fs.lookup f = some x ∧ P x) : Ev W (tFld K ta f) Γ c P := fun H0 B0 B σ H M s hM Q q =>
  ha H0 B0 B σ H M s hM _ fun v d H1 k r hd ⟨fs, e, pf⟩ => by
    subst e
    unfold Dat at hd
    obtain ⟨a, dx, xs, rfl, ⟨nb, hx⟩, t⟩ := hd
    obtain ⟨x, e1, px⟩ := hf fs pf
    obtain ⟨w, e2, hw⟩ := t.look e1
    exact ⟨a, C, dx, xs, w, rfl, hx, cl, na, e2, q w x H1 k r hw px⟩
theorem ev_fldE {fs : List (Str × Da)} {x : Da} (cl : Cls K C) (na : NoAttr K C f) (ha : Ev W ta Γ c (· = .ins C fs)) (hf : fs.lookup f = some x) : Ev W (tFld K ta f) Γ c (· = x) :=
  ev_fld (Pf := (· = fs)) cl na (ha.imp fun d e => ⟨fs, e, rfl⟩) fun _ e => by rw [e]; exact ⟨x, hf, rfl⟩
/-- self.f = e in an __init__ -/
theorem es_fld {i : Nat} {aI : Addr} {fs : List (Str × Da)} (cl : Cls K C) (na : NoAttr K C f) (hi : Γ[i]? = some (.ownI aI C fs)) (hv : Ev W tv Γ c P) (hl : fs.length < 1000) (hp : ∀ d, P d → p.nx (Γ.set i (.ownI aI C (putFD f d fs)))) : Es W (sFld K (tVar i) tv f) Γ c p := fun H0 B0 B σ H M D s hM a b e g => by
  obtain ⟨o, ho, l, x, rfl, hB, hx, hd, rfl⟩ := s.sl i _ hi
  have hO : Ow σ Γ i l := ⟨⟨_, hi, rfl⟩, ho⟩
  refine hv H0 B0 B σ H M s hM _ fun v d H1 k1 r1 hv1 q1 => ⟨.ref l, ho, ?_⟩
  have hx1 : H1 l = some (.ins C x.1 x.2) := k1 l _ (s.outF hO) hx
  refine ⟨l, C, x.1, x.2, rfl, hx1, cl, na, by rw [hd.length]; exact hl, ?_⟩
  have hd1 : Datf K B H1 x.2 fs := Datf.mono (s.toBk.kp k1) fs x.2 hd
  exact a B σ _ _ ((s.keep k1 r1).change hi rfl ho (e' := .ownI l C (putFD f d fs)) rfl ⟨l, (x.1, putF f v x.2), rfl, hB, upd_same, Datf.mono (Kp.mut hB) _ _ (Datf.put1 hv1 hd1), rfl⟩) (Mv.of ((s.toBk.kp k1).trans (Kp.mut hB))) (hp d q1)
end
/-! ### making -/
abbrev CtI (K : PySem.W.Frag) := Wd K → List Da → Nat → (List (Str × Da) → Prop) → Prop
/-- what an __init__ promises: the fields of the new object -/
def spI {K : PySem.W.Frag} (C : Addr) (T : CtI K) : Sp := fun vs H Q _ => ∃ (W : Wd K) (B : List Addr) (M : Nat) (x dx : Addr) (ws : List V) (ds : List Da) (c : Nat) (P : List (Str × Da) → Prop), vs = .ref x :: ws ∧ T W ds c P ∧ H x = some (.ins C dx []) ∧ x ∉ B ∧ Bk W B H M ∧ c ≤ M ∧ Dats K (x :: B) H ws ds ∧
  ∀ H' dx' xs fs, Kp (x :: W.F) H H' → W.Dr (M - c) H' → H' x = some (.ins C dx' xs) → Datf K (x :: B) H' xs fs → P fs → Q .non H'
section
variable {K : PySem.W.Frag} {W : Wd K} {Γ : List En} {c c1 c2 : Nat} {P : Da → Prop} {te ta tv : TE} {C : Addr} {f : Str}
theorem ev_make {t : TA} {T : CtI K} {E : XK} {Pa : List Da → Prop} {Pf : List (Str × Da) → Prop} (h : EvA W t Γ c1 Pa) (hT : ∀ ds, Pa ds → T W ds c2 Pf) : Ev W (tMake C (spI C T) [] E t) Γ (c1 + c2) (fun d => ∃ fs, d = .ins C fs ∧ Pf fs) := fun H0 B0 B σ H M s hM Q q =>
  h H0 B0 B σ H M s (by omega) _ fun vs ds H1 k r hd pa => fun x dx nx ndx ne => by
    have s1 := s.keep k r
    have n2 : upd H1 dx (.own x) x = none := by rw [upd_ne (fun z => ne z.symm)]; exact nx
    have xB : x ∉ B := s1.toBk.free nx
    have kk : Kp B H1 (upd (upd H1 dx (.own x)) x (.ins C dx [])) := (Kp.new ndx).trans (Kp.new n2)
    refine ⟨W, B, M - c1, x, dx, vs, ds, c2, Pf, by rw [List.append_nil], hT ds pa, upd_same, xB, ⟨Wd.new n2 (Wd.new ndx r), s.fb, fun b hb => ?_⟩, by omega, Dats.mono (Kp.more kk fun b hb => hb) ds vs hd |> fun z => ?_, fun H' dx' xs fs k2 r2 hx hf pf => ⟨rfl, ?_⟩⟩
    · cases e : H1 b with
      | none => exact absurd e (s1.al b hb)
      | some o =>
        rw [upd_ne (ne_of_none e nx), upd_ne (ne_of_none e ndx), e]
        exact Option.some_ne_none _
    · exact Dats.mono ((Kp.new ndx).trans (Kp.new n2)) ds vs (Dats.put nx ds vs hd)
    · refine q (.ref x) (.ins C fs) H' (fun a o n e => ?_) (by rw [← sub_sub]; exact r2) ?_ ⟨fs, rfl, pf⟩
      · have e1 : H1 a = some o := k a o n e
        refine k2 a o (fun z => ?_) (by rw [upd_ne (ne_of_none e1 nx), upd_ne (ne_of_none e1 ndx)]; exact e1)
        rcases List.mem_cons.mp z with z | z
        · rw [z, nx] at e1
          cases e1
        · exact n z
      · unfold Dat
        exact ⟨x, dx', xs, rfl, ⟨xB, hx⟩, Datf.sub (fun b hb => List.mem_cons_of_mem _ hb) fs xs hf⟩
theorem ev_prop {sp : Sp} {E : XK} {Pf : List (Str × Da) → Prop} (ha : Ev W ta Γ c1 (fun d => ∃ fs, d = .ins C fs ∧ Pf fs)) (hs : ∀ fs, Pf fs → Fn W sp [.ins C fs] c2 P) : Ev W (tProp C sp [] E ta) Γ (c1 + c2) P := fun H0 B0 B σ H M s hM Q q =>
  ha H0 B0 B σ H M s (by omega) _ fun v d H1 k r hd ⟨fs, e, pf⟩ => by
    subst e
    have hd0 := hd
    unfold Dat at hd
    obtain ⟨a, dx, xs, rfl, ⟨nb, hx⟩, t⟩ := hd
    refine ⟨a, dx, xs, rfl, hx, ?_⟩
    exact hs fs pf B H1 _ [.ref a] (s.keep k r).toBk (by omega) (.cons hd0 .nil) Q E fun v2 d2 H2 k2 r2 h2 p2 => q v2 d2 H2 (k.trans k2) (by rw [← sub_sub]; exact r2) h2 p2
theorem ev_propE {sp : Sp} {E : XK} {fs : List (Str × Da)} (ha : Ev W ta Γ c1 (· = .ins C fs)) (hs : Fn W sp [.ins C fs] c2 P) : Ev W (tProp C sp [] E ta) Γ (c1 + c2) P :=
  ev_prop (Pf := (· = fs)) (ha.imp fun d e => ⟨fs, e, rfl⟩) fun _ e => by rw [e]; exact hs
/-- isinstance(x, C), C an own class -/
theorem rc_isiO {fs : List (Str × Da)} (O : C8.InsC K C) (p : P (.bl true)) : Rc W (rIsiA K) [.ins C fs, .obj C] P := fun B H M vs s h Q q => by
  unfold Dats at h
  obtain ⟨v, r, rfl, h1, t1⟩ := h
  unfold Dats at t1
  obtain ⟨v2, r2, rfl, h2, t2⟩ := t1
  unfold Dats at t2
  subst t2
  unfold Dat at h1 h2
  obtain ⟨a, dx, xs, rfl, ⟨nb, hx⟩, t⟩ := h1
  subst h2
  exact Or.inl ⟨.ref a, .ref C, .ref C, .ref C, true, rfl, .own C, .base (.ins hx O.cl O.ha O.hn O.htk O.hm), O.me, q _ (.bl true) H Kp.refl s.dr (dBl.mpr rfl) p⟩
/-- nothing of a kind is one -/
theorem rc_isiN {d : Da} {n : String} {b : Bool} (e : d.kind = some n) (hb : PySem.W.kitOne K (.type n) (.ref C) = some b) (p : P (.bl b)) : Rc W (rIsiA K) [d, .obj C] P := fun B H M vs s h Q q => by
  unfold Dats at h
  obtain ⟨v, r, rfl, h1, t1⟩ := h
  unfold Dats at t1
  obtain ⟨v2, r2, rfl, h2, t2⟩ := t1
  unfold Dats at t2
  subst t2
  unfold Dat at h2
  subst h2
  exact Or.inl ⟨v, .ref C, .type n, .ref C, b, rfl, .own C, kind_ty h1 e, hb, q _ (.bl b) H Kp.refl s.dr (dBl.mpr rfl) p⟩
theorem ev_obj {a : Addr} : Ev W (tC (.ref a)) Γ 0 (· = .obj a) := ev_c fun _ _ => by unfold Dat; rfl
end
/-! ### an __init__ -/
theorem fn_init {Pr : Program} {w : World} {K : PySem.W.Frag} {mg : Str → Option Value} {base : Heap} {x qual : Str} {params : Arguments} {body : List Stmt} {scope : Scope} {dvs : List V} {kws : List (Str × V)} {f : Addr} {fd : FuncData} {N ps : List Str} {k : Nat} {C : Addr} {T : CtI K}
    (F : FunD K x qual params body scope dvs kws f fd) (S : FnScope N ps scope) (len : ∀ W ds c P, T W ds c P → ds.length + 1 = ps.length) (hps : ps.length ≤ N.length)
    (hbody : ∀ (cdv : Value) (A : Around) (outer : List Env) (s : Shared) (H : Hp) (E : XK), Room k (A.deeper (PyProof.Rows.envOfC qual scope s.heap.objs.size f cdv)) →
      ∃ t, PSs (cxOf CX0 Pr w K mg base N qual scope f cdv A outer s H E) body t ∧ ∀ W ds c P aI, T W ds c P → Es W t ((startE N (.non :: ds)).set 0 (.ownI aI C [])) c ⟨fun Γ' => ∃ fs, Γ'[0]? = some (.ownI aI C fs) ∧ P fs, fun _ => False, fun _ => False, fun _ => False⟩) : FnOk Pr w K mg base CX0 (k + 1) f fd ps (spI C T) := by
  refine F.ok S (fun vs H Q E h => ?_) (fun cdv A outer s H vs Q E hr h => ?_)
  · obtain ⟨W, B, M, x, dx, ws, ds, c, P, rfl, hT, _, _, _, _, hd, _⟩ := h
    rw [List.length_cons, hd.length]
    exact len W ds c P hT
  · obtain ⟨W, B, M, x, dx, ws, ds, c, P, rfl, hT, hx, xB, hb, hM, hd, q⟩ := h
    obtain ⟨t, ht, hE⟩ := hbody cdv A outer s H E hr
    refine ⟨t, ht, ?_⟩
    have xF : x ∉ W.F := fun z => xB (hb.fb x z)
    have hlen : (Da.non :: ds).length ≤ N.length := by
      have := len W ds c P hT
      rw [List.length_cons]
      omega
    have hb1 : Bk W (x :: B) H M := ⟨hb.dr, fun b z => List.mem_cons_of_mem _ (hb.fb b z), fun b z => by
      rcases List.mem_cons.mp z with z | z
      · rw [z, hx]
        exact Option.some_ne_none _
      · exact hb.al b z⟩
    have s1 : Sg W H (x :: B) (x :: B) (L2.start N (.non :: ws)) (startE N (.non :: ds)) H M := Sg.start hb1 (.cons (by unfold Dat; rfl) hd) hlen
    have e0 : L2.start N (.ref x :: ws) = (L2.start N (.non :: ws)).set 0 (some (.ref x)) := by
      unfold L2.start
      rfl
    have no : ∀ i l, Ow (L2.start N (.ref x :: ws)) ((startE N (.non :: ds)).set 0 (.ownI x C [])) i l → i = 0 ∧ l = x := fun i l ⟨⟨e, g, t⟩, q2⟩ => by
      cases i with
      | zero =>
        refine ⟨rfl, ?_⟩
        rw [e0] at q2
        rw [List.getElem?_set_self (by rw [s1.ln]; exact Nat.lt_of_lt_of_le (Nat.succ_pos _) (by unfold startE; rw [List.length_append, List.length_map]; exact Nat.le_add_right _ _))] at q2
        cases q2
        rfl
      | succ j =>
        rw [List.getElem?_set_ne (by omega)] at g
        rw [startE_own g] at t
        cases t
    have s0 : Sg W (fun a => if a = x then none else H a) B (x :: B) (L2.start N (.ref x :: ws)) ((startE N (.non :: ds)).set 0 (.ownI x C [])) H M := by
      refine ⟨hb1, fun a o n e => ?_, fun b z => List.mem_cons_of_mem _ z, fun b z => ?_, hb.fb, ?_, fun i e he => ?_, fun i j l h1 h2 => by rw [(no i l h1).1, (no j l h2).1], fun i l h1 => ?_⟩
      · by_cases ha : a = x
        · have e' : (if a = x then none else H a) = some o := e
          rw [if_pos ha] at e'
          cases e'
        · have e' : (if a = x then none else H a) = some o := e
          rw [if_neg ha] at e'
          exact e'
      · show (if b = x then none else H b) ≠ none
        rw [if_neg (fun e => xB (by rw [← e]; exact z))]
        exact hb.al b z
      · rw [e0, List.length_set, List.length_set, s1.ln]
      · rw [e0]
        cases i with
        | zero =>
          have hl : 0 < (startE N (.non :: ds)).length := by unfold startE; rw [List.length_append, List.length_map]; exact Nat.lt_of_lt_of_le (Nat.succ_pos _) (Nat.le_add_right _ _)
          rw [List.getElem?_set_self hl] at he
          cases he
          refine ⟨_, List.getElem?_set_self (by rw [s1.ln]; exact hl), x, (dx, []), rfl, List.mem_cons_self, hx, by unfold Datf; rfl, rfl⟩
        | succ j =>
          rw [List.getElem?_set_ne (by omega)] at he
          obtain ⟨o, ho, hs⟩ := s1.sl (j + 1) e he
          exact ⟨o, by rw [List.getElem?_set_ne (by omega)]; exact ho, hs⟩
      · show (if l = x then none else H l) = none
        rw [if_pos (no i l h1).2]
    refine hE W ds c P x hT _ B (x :: B) _ H M _ s0 hM (fun B' σ' Γ' H' s' m' ⟨fs, g, pf⟩ => ?_) (fun v d H' k' r' hd' p' => p'.elim) (fun _ _ _ _ _ _ z => z.elim) (fun _ _ _ _ _ _ z => z.elim)
    obtain ⟨o, ho, l, y, rfl, hB, hy, hf, rfl⟩ := s'.sl 0 _ g
    refine q H' y.1 y.2 fs (fun a o n e => s'.k0 a o (fun z => n (List.mem_cons_of_mem _ z)) ?_) s'.dr hy (Datf.sub (fun b hb' => ?_) fs y.2 hf) pf
    · show (if a = l then none else H a) = some o
      rw [if_neg (fun z => n (by rw [z]; exact List.mem_cons_self))]
      exact e
    · rcases List.mem_cons.mp hb' with z | z
      · rw [z]
        exact hB
      · exact s'.b0 b z
end WJ
set_option Elab.async false
set_option linter.all false
set_option maxRecDepth 100000
set_option maxHeartbeats 2000000
/-! WjT: sorted of any alike data; a dict's items listed, sorted -/
namespace WJ
open PySem L2
/-- Python's order of data -/
def leD (a b : Da) : Bool := !PySem.W.dataLt b.py a.py
def sortD (ds : List Da) : List Da := ds.mergeSort leD
structure SortOk (ds : List Da) : Prop where
  pl : plains ds = true
  al : PySem.W.AllAlike (pys ds)
  so : PySem.W.Sortable (pys ds)
  dp : ∀ d ∈ pys ds, d.depth ≤ 60
theorem pys_map : ∀ ds : List Da, pys ds = ds.map Da.py
  | [] => rfl
  | d :: ds => by rw [pys, List.map_cons, pys_map ds]
theorem plains_at : ∀ {ds : List Da}, plains ds = true → ∀ d ∈ ds, d.plain = true
  | d :: ds, h, x, hx => by
    unfold plains at h
    obtain ⟨h1, h2⟩ := Bool.and_eq_true_iff.mp h
    rcases List.mem_cons.mp hx with e | hx
    · rw [e]
      exact h1
    · exact plains_at h2 x hx
section
variable {α β γ : Type} {R : α → γ → Prop}
theorem each_map {f : β → γ} : ∀ {as : List α} {bs : List β}, PySem.W.EachIs (fun a b => R a (f b)) as bs → PySem.W.EachIs R as (bs.map f)
  | _, _, .nil => .nil
  | _, _, .cons h t => .cons h (each_map t)
theorem each_memR {R : α → β → Prop} : ∀ {as : List α} {bs : List β}, PySem.W.EachIs R as bs → PySem.W.EachIs (fun a b => R a b ∧ b ∈ bs) as bs
  | _, _, .nil => .nil
  | _, _, .cons h t => .cons ⟨h, List.mem_cons_self⟩ ((each_memR t).mono fun _ _ q => ⟨q.1, List.mem_cons_of_mem _ q.2⟩)
end
section
variable {X : Cx} {pins : List (Addr × Obj)} {σ : L2.St} {H : Hp} {s : Shared} {B : List Addr}
theorem each_of (I : Inv X pins σ H s) : ∀ {ds : List Da} {xs : List V} {its : List Value}, Dats X.K B H xs ds → Vals xs its → PySem.W.EachIs (fun u d => ∃ x, RelV x u ∧ Dat X.K B H x d) its ds
  | [], _, _, h, r => by
    unfold Dats at h
    subst h
    cases r
    exact .nil
  | d :: ds, _, _, h, r => by
    unfold Dats at h
    obtain ⟨v, t, rfl, h1, h2⟩ := h
    cases r with
    | cons r1 r2 => exact .cons ⟨v, r1, h1⟩ (each_of I h2 r2)
theorem each_back {R : Value → Da → Prop} {K : PySem.W.Frag} (hR : ∀ u d, R u d → ∃ x, RelV x u ∧ Dat K B H x d) : ∀ {ds : List Da} {its : List Value}, PySem.W.EachIs R its ds → ∃ xs, Vals xs its ∧ Dats K B H xs ds
  | _, _, .nil => ⟨[], .nil, .nil⟩
  | _, _, .cons h t => by
    obtain ⟨x, r, d⟩ := hR _ _ h
    obtain ⟨xs, rs, ds⟩ := each_back hR t
    exact ⟨x :: xs, .cons r rs, .cons d ds⟩
/-- the values can be sorted, the outcome is the sorted data -/
theorem sorts_data {A : Around} {h' : Heap} {tk : Nat} {R : Value → Da → Prop} {vs : List Value} {ds : List Da} (so : SortOk ds) (hu : A.units + 64 < cLine) (e : PySem.W.EachIs (fun u d => R u d ∧ ∃ as, Reads h' u d.py as) vs ds) :
    PySem.W.SortsAt X.prog X.w A { s with heap := h', toks := tk } (PySem.W.dataKind h' (pys ds)) vs ∧ PySem.W.EachIs R (PySem.W.sortVals (PySem.W.dataKind h' (pys ds)) false vs vs) (sortD ds) := by
  have e1 : PySem.W.EachIs (fun v d => ∃ as, Reads h' v d as) vs (pys ds) := by
    rw [pys_map]
    exact each_map (e.mono fun u d q => q.2)
  refine ⟨PySem.W.SortsAt.data (s := { s with heap := h', toks := tk }) e1 so.al so.so fun d hd => by have := so.dp d hd; omega, ?_⟩
  refine PySem.W.sortVals_each (κ := PySem.W.dataKind h' (pys ds)) (fun d : Da => PySem.W.keyToks d.py) (e.mono fun u d q => q.1) ?_
  refine (each_memR e).mono fun u d q => ?_
  obtain ⟨⟨_, as, r⟩, hm⟩ := q
  exact PySem.W.dataKind_some so.al (by rw [pys_map]; exact List.mem_map.mpr ⟨d, hm, rfl⟩) r
end
section
variable {X : Cx}
/-- sorted(xs) of alike data -/
def rSortG (K : PySem.W.Frag) : List V → Hp → VK → Prop := fun vs H Q => ∃ (B : List Addr) (v : V) (ds : List Da), vs = [v] ∧ Dat K B H v (.lst ds) ∧ SortOk ds ∧ ∀ p ys, H p = none → Dats K B H ys (sortD ds) → Q (.ref p) (upd H p (.lst ys))
theorem cr_sortG (hu : X.A.units + 66 < cLine) : CallR X (.builtin "sorted") (rSortG X.K) := by
  intro pins s σ H vs us Q I r h
  obtain ⟨B, v, ds, rfl, hd, so, q⟩ := h
  unfold Dat at hd
  obtain ⟨a, xs, rfl, hs, ht⟩ := hd
  obtain ⟨its, rv, hl, hz⟩ := I.list hs.sq
  rw [Vals.ref1 r]
  have hlen := rv.length
  have e0 := each_of I ht rv
  have e1 : PySem.W.EachIs (fun u d => (∃ x, RelV x u ∧ Dat X.K B H x d) ∧ ∃ as, Reads (PySem.W.sortingHeap (PySem.W.copyHeap s.heap its) (s.heap.objs.size + 1) its) u d.py as) its ds := by
    refine (each_memR e0).mono fun u d ⟨⟨x, rx, hx⟩, hm⟩ => ?_
    refine ⟨⟨x, rx, hx⟩, ?_⟩
    obtain ⟨as, rr⟩ := Dp.reads I d.py x u (Dat.dp d x (plains_at so.pl d hm) hx) rx
    exact ⟨as, PyProof.Rows.Reads.keeps (fun b o e => PySem.W.sorting_copy_old e) rr⟩
  obtain ⟨S, eo⟩ := sorts_data (X := X) (s := s) (tk := s.toks) (A := X.A.in1.in1) so (by show X.A.units + 1 + 1 + 64 < cLine; omega) e1
  refine PySem.W.sorted_vals hl.isList S (by omega) ?_
  obtain ⟨ys, ry, hy⟩ := each_back (B := B) (H := H) (K := X.K) (fun u d q => q) eo
  obtain ⟨ep, he'⟩ := PyProof.Rows.sortedAll_at s.heap its (PySem.W.sortVals (PySem.W.dataKind (PySem.W.sortingHeap (PySem.W.copyHeap s.heap its) (s.heap.objs.size + 1) its) (pys ds)) false its its).toArray
  have hl2 : ys.length ≤ sizeLine := by
    rw [ry.length, PySem.W.sortVals_length false rfl]
    omega
  exact ⟨.ref _, upd H (s.heap.objs.size + 1) (.lst ys), I.laid (t' := s.toks) (fun _ _ => PyProof.Rows.sortedAll_old) (Nat.le_succ _) ⟨hl2, _, ep, by simpa using ry, he'⟩, rfl, q _ ys (I.hok.fresh (Nat.le_succ _)) hy⟩
/-! ### the items of a dict -/
def itemsD (es : List (Key × Da)) : List Da := es.map fun e => .tup [keyD e.1, e.2]
def tItemsV (te : TE) : TE := fun σ H Q => te σ H fun x H1 => ∃ (a : Addr) (kvs : List (Key × V)), x = .ref a ∧ Rd H1 a (.dK kvs) ∧ ∀ p, H1 p = none → Q (.ref p) (upd H1 p (L2.DX.itemsO p a))
theorem pe_itemsV {e : Expr} {te : TE} {apos cpos : Pos} (he : PE X e te) (hbase : attributeBase e "items" X.env (eval e X.env) = eval e X.env := by rfl) (hline : (apos.endLine == cpos.line) = true := by rfl) :
    PE X (.Call (.Attribute e "items" apos) [] [] cpos) (tItemsV te) := by
  refine ⟨fun pins s σ H Q I hq => ?_⟩
  refine wpAny_Call_method (T := "dict") (id := "dict.items") hbase rfl hline F.plainAttrs_dict F.slot_dict_items F.type_dict_items (thn (he.run pins s σ H _ I hq) fun u s1 ⟨x, H1, I1, rx, d, kvs, ex, hd, q⟩ => ?_)
  subst ex
  obtain rfl : u = Value.ref d := rx
  obtain ⟨hz, hs0, vs, kv, hdo⟩ := dk_rd I1.hok hd
  refine ⟨hdo.typeIs, hdo.mapOf.noDict, ?_⟩
  show wpAny _ _ (callWith cpos (.builtin "dict.items") [.ref d] [] []) _ X.xe s1
  refine method_meetsIn F.slot_dict_items F.entry_dict_items rfl (PySem.evalArgs_none ⟨rfl, hdo.typeIs, F.args_dict_items_1 _, _, meets_dict_items (mixKind X.prog X.w) d hs0, ⟨vs, hdo⟩, ?_⟩)
  have hf : H1 s1.heap.objs.size = none := I1.hok.fresh (Nat.le_refl _)
  exact ⟨.ref s1.heap.objs.size, upd H1 s1.heap.objs.size (L2.DX.itemsO s1.heap.objs.size d), I1.laid (t' := s1.toks) (fun b u e => Heap.get?_push_of_some _ e) (Nat.le_refl _) (L2.DX.itemsO_ok (Heap.get?_push_size _ rfl)), rfl, q _ hf⟩
end
theorem dat_key {K : PySem.W.Frag} {B : List Addr} {H : Hp} (k : Key) : Dat K B H (kV k) (keyD k) := by
  cases k <;> (unfold keyD Dat; rfl)
theorem dat_pair {K : PySem.W.Frag} {B : List Addr} {H : Hp} {t : Addr} {k : Key} {v : V} {d : Da} (nb : t ∉ B) (e : H t = some (.tup [kV k, v])) (h : Dat K B H v d) : Dat K B H (.ref t) (.tup [keyD k, d]) := by
  unfold Dat
  exact ⟨t, _, rfl, .of nb e, .cons (dat_key k) (.cons h .nil)⟩
theorem items_dat {K : PySem.W.Frag} {B : List Addr} {H' : Hp} : ∀ {es : List (Key × Da)} {kvs : List (Key × V)} {as : List Addr}, Datk K B H' kvs es → Paired (fun (t : Addr) (q : Key × V) => H' t = some (.tup [kV q.1, q.2])) as kvs → (∀ t ∈ as, t ∉ B) → Dats K B H' (as.map V.ref) (itemsD es)
  | [], _, _, h, p, _ => by
    unfold Datk at h
    subst h
    cases p
    exact .nil
  | (k, d) :: es, _, _, h, p, n => by
    unfold Datk at h
    obtain ⟨v, r, rfl, h1, t⟩ := h
    cases p with
    | cons p1 p2 => exact .cons (dat_pair (n _ List.mem_cons_self) p1 h1) (items_dat t p2 fun x hx => n x (List.mem_cons_of_mem _ hx))
section
variable {X : Cx}
def rListIt (K : PySem.W.Frag) : List V → Hp → VK → Prop := fun vs H Q => ∃ (p a : Addr) (B : List Addr) (es : List (Key × Da)), vs = [.ref p] ∧ H p = some (L2.DX.itemsO p a) ∧ Dat K B H (.ref a) (.dct es) ∧ (∀ b ∈ B, H b ≠ none) ∧
  ∀ H' l xs, Kp [] H H' → H l = none → H' l = some (.lst xs) → Dats K (l :: B) H' xs (itemsD es) → Q (.ref l) H'
theorem cr_listIt (hc : X.calm = true) : CallR X (.type "list") (rListIt X.K) := by
  intro pins s σ H vs us Q I r h
  obtain ⟨p, a, B, es, rfl, hp, hd, al, q⟩ := h
  rw [Vals.ref1 r]
  unfold Dat at hd
  obtain ⟨a', kvs, e0, ⟨nb, rd⟩, hk⟩ := hd
  cases e0
  have view : s.heap.IsItemsView p a := (show ObjOk X.prog X.w H s.heap p (L2.DX.itemsO p a) from I.hok p _ hp).1
  obtain ⟨hz, hs0, ws, kv, hdo⟩ := dk_rd I.hok rd
  obtain ⟨ep, hat⟩ := hdo.dictAt
  have lk : kvs.length = ws.length := Paired.length kv
  refine PySem.W.kdx_call (knd := mixKind X.prog X.w) (kvs := ws) (ep := ep) (I.ok.hd hc) view hat (by omega) fun h' tk acc c as hk' hS hl hG hacc => ?_
  obtain ⟨H', k1, k2, k3, k4, k5, k6, J⟩ := LiI.items_laid (tk := tk) I hz kv hk' hS hl hG hacc
  have kp : Kp [] H H' := fun b o _ e => k1 b o e
  have nB : s.heap.objs.size ∉ B := fun z => al _ z k2
  refine ⟨.ref _, H', J, rfl, q H' _ _ kp k2 k5 (items_dat (Datk.mono kp.all es kvs (Datk.put k2 es kvs hk)) k6 fun t ht z => ?_)⟩
  rcases List.mem_cons.mp z with z | z
  · exact k4 (by rw [← z]; exact ht)
  · exact al t z (k3 t ht)
def rSortIts (K : PySem.W.Frag) : List V → Hp → VK → Prop := fun vs H Q => ∃ (p a : Addr) (B : List Addr) (es : List (Key × Da)), vs = [.ref p] ∧ H p = some (L2.DX.itemsO p a) ∧ Dat K B H (.ref a) (.dct es) ∧ (∀ b ∈ B, H b ≠ none) ∧ SortOk (itemsD es) ∧
  ∀ H' l xs, Kp [] H H' → H l = none → H' l = some (.lst xs) → Dats K (l :: B) H' xs (sortD (itemsD es)) → Q (.ref l) H'
theorem pairs_get {prog : Program} {w : World} {κ : Type} [DecidableEq κ] {knd : PySem.KeyKind prog w κ} : ∀ {es : List DictEntry} {kvs : List (κ × Value)}, Pairs knd es kvs → ∀ {j : Nat} {e : DictEntry}, es[j]? = some e → ∃ kv, kvs[j]? = some kv ∧ knd.is kv.1 e.key = true ∧ e.val = kv.2
  | _, _, .nil, j, e, h => by cases h
  | _, _, .cons h1 h2 t, 0, e, h => by
    have q := Option.some.inj h
    subst q
    exact ⟨_, rfl, h1, h2⟩
  | _, _, .cons h1 h2 t, j + 1, e, h => pairs_get t h
theorem each_ix {α β : Type} {R : α → β → Prop} : ∀ {as : List α} {bs : List β}, as.length = bs.length → (∀ (j : Nat) a b, as[j]? = some a → bs[j]? = some b → R a b) → PySem.W.EachIs R as bs
  | [], [], _, _ => .nil
  | [], _ :: _, h, _ => by cases h
  | _ :: _, [], h, _ => by cases h
  | a :: as, b :: bs, h, q => .cons (q 0 a b rfl rfl) (each_ix (Nat.succ.inj h) fun j x y h1 h2 => q (j + 1) x y h1 h2)
theorem Datk.get {K : PySem.W.Frag} {B : List Addr} {H : Hp} : ∀ {es : List (Key × Da)} {kvs : List (Key × V)}, Datk K B H kvs es → ∀ {j : Nat} {p : Key × Da}, es[j]? = some p → ∃ v, kvs[j]? = some (p.1, v) ∧ Dat K B H v p.2
  | [], _, h, j, p, e => by cases e
  | (k, d) :: es, _, h, j, p, e => by
    unfold Datk at h
    obtain ⟨v, r, rfl, h1, t⟩ := h
    cases j with
    | zero =>
      have q := Option.some.inj e
      subst q
      exact ⟨v, rfl, h1⟩
    | succ j => exact Datk.get t e
theorem cr_sortIts (hc : X.calm = true) (hu : X.A.units + 66 < cLine) : CallR X (.builtin "sorted") (rSortIts X.K) := by
  intro pins s σ H vs us Q I r h
  obtain ⟨p, a, B, es, rfl, hp, hd, al, so, q⟩ := h
  rw [Vals.ref1 r]
  unfold Dat at hd
  obtain ⟨a', kvs, e0, ⟨nb, rd⟩, hkd⟩ := hd
  cases e0
  have view : s.heap.IsItemsView p a := (show ObjOk X.prog X.w H s.heap p (L2.DX.itemsO p a) from I.hok p _ hp).1
  obtain ⟨hz, hs0, ws, kv, o, ents, ep, ho, hx, hdat, hko, hpr, hnd⟩ := dk_rd I.hok rd
  have hh := I.ok.hd hc
  have lk : kvs.length = ws.length := Paired.length kv
  have lke : kvs.length = es.length := hkd.length
  have l2 : ents.size = ws.length := by
    have := hpr.length
    rwa [Array.length_toList] at this
  refine DT.sortedI (es := ents) (ep := ep) hh view ⟨o, ho, hx, hdat⟩ (by omega) fun h' tk as hk hlt hl hG => ?_
  have nd : as.Nodup := List.Pairwise.imp (fun h => Nat.ne_of_lt h) hG.rise
  have pr : ∀ (j : Nat) (t : Addr), as[j]? = some t → ∃ (k : Key) (v : V) (d : Da) (u1 u2 : Value), kvs[j]? = some (k, v) ∧ es[j]? = some (k, d) ∧ RelV (kV k) u1 ∧ RelV v u2 ∧ Dat X.K B H v d ∧ h'.get? t = some { cls := .type "tuple", data := .seq #[u1, u2] } := by
    intro j t hj
    obtain ⟨en, he, hg⟩ := hG.pairs j t hj
    obtain ⟨⟨k', u'⟩, hw, his, hval⟩ := pairs_get hpr (j := j) (e := en) (by rw [Array.getElem?_toList]; exact he)
    have hjl : j < es.length := by
      have h1 := (List.getElem?_eq_some_iff.mp hw).1
      omega
    obtain ⟨v, hv, hdv⟩ := Datk.get hkd (List.getElem?_eq_getElem hjl)
    obtain ⟨u, hu1, ru⟩ := kv_get kv hv
    rw [hw] at hu1
    injection hu1 with hu2
    injection hu2 with hu3 hu4
    subst hu3 hu4
    exact ⟨_, v, _, en.key, en.val, hv, List.getElem?_eq_getElem hjl, relV_key his, by rw [hval]; exact ru, hdv, hg⟩
  have hob : (h'.push { cls := .type "list", data := .seq (as.map Value.ref).toArray }).get? h'.objs.size = some (PyProof.Rows.seqObj "list" (as.map Value.ref).toArray 0) := Heap.get?_push_size _ rfl
  have kb : ∀ b o, s.heap.get? b = some o → (h'.push { cls := .type "list", data := .seq (as.map Value.ref).toArray }).get? b = some o := fun b o e => Heap.get?_push_of_some _ (hk b o e)
  have ne0 : ∀ b o, h'.get? b = some o → b ≠ h'.objs.size := fun b o e => Nat.ne_of_lt (Heap.lt_size e)
  generalize hh2 : h'.push { cls := .type "list", data := .seq (as.map Value.ref).toArray } = h2 at hob kb ⊢
  have ka : ∀ b o, h'.get? b = some o → h2.get? b = some o := fun b o e => by rw [← hh2]; exact Heap.get?_push_of_some _ e
  have kso : ∀ b o, h'.get? b = some o → (PySem.W.sortingHeap h2 h'.objs.size (as.map Value.ref)).get? b = some o := fun b o e => PySem.W.sortingHeap_old (ne0 b o e) (ka b o e)
  have las : as.length = es.length := by omega
  have eR : PySem.W.EachIs (fun u d => (∃ (j : Nat) (t : Addr) (k : Key) (v : V) (dd : Da), as[j]? = some t ∧ u = Value.ref t ∧ kvs[j]? = some (k, v) ∧ Dat X.K B H v dd ∧ d = Da.tup [keyD k, dd]) ∧ ∃ cs, Reads (PySem.W.sortingHeap h2 h'.objs.size (as.map Value.ref)) u d.py cs) (as.map Value.ref) (itemsD es) := by
    refine each_ix (by rw [List.length_map, itemsD, List.length_map]; exact las) fun j u d h1 h2' => ?_
    rw [List.getElem?_map] at h1
    cases e1 : as[j]? with
    | none =>
      rw [e1] at h1
      cases h1
    | some t =>
      rw [e1] at h1
      cases h1
      obtain ⟨k, v, dd, u1, u2, hv, he, r1, r2, hdv, hg⟩ := pr j t e1
      unfold itemsD at h2'
      rw [List.getElem?_map, he] at h2'
      cases h2'
      refine ⟨⟨j, t, k, v, dd, e1, rfl, hv, hdv, rfl⟩, ?_⟩
      have hm : Da.tup [keyD k, dd] ∈ itemsD es := List.mem_map.mpr ⟨(k, dd), List.mem_of_getElem? he, rfl⟩
      have hpl := plains_at so.pl _ hm
      have hpd : dd.plain = true := by
        unfold Da.plain plains plains plains at hpl
        obtain ⟨_, h4⟩ := Bool.and_eq_true_iff.mp hpl
        exact (Bool.and_eq_true_iff.mp h4).1
      have hpk : (keyD k).plain = true := by cases k <;> rfl
      obtain ⟨c1, q1⟩ := Dp.reads I (keyD k).py (kV k) u1 (Dat.dp (B := B) _ _ hpk (dat_key k)) r1
      obtain ⟨c2, q2⟩ := Dp.reads I dd.py v u2 (Dat.dp dd v hpd hdv) r2
      have q1' := PyProof.Rows.Reads.keeps (fun b o e => kso b o (hk b o e)) q1
      have q2' := PyProof.Rows.Reads.keeps (fun b o e => kso b o (hk b o e)) q2
      have ep : (Da.tup [keyD k, dd]).py = PyData.tuple [(keyD k).py, dd.py] := by simp only [Da.py, pys]
      rw [ep]
      exact ⟨_, Reads.tuple (kso _ _ hg) rfl rfl (ReadsAll.cons q1' (ReadsAll.cons q2' ReadsAll.nil))⟩
  obtain ⟨S, eo⟩ := sorts_data (X := X) (s := s) (tk := tk) (A := X.A.in1.in1) so (by show X.A.units + 1 + 1 + 64 < cLine; omega) eR
  refine wpAny_call_entry PyProof.Rows.slot_list_sort ⟨_, hob, rfl⟩ PyProof.Rows.entry_list_sort
    (PySem.W.list_sort_vals (s := { s with heap := h2, toks := tk }) hob S (by rw [List.length_map]; omega) ⟨.none, rfl, ?_⟩) (PyProof.Rows.args_list_sort _)
  generalize hout : PySem.W.sortVals (PySem.W.dataKind (PySem.W.sortingHeap h2 h'.objs.size (as.map Value.ref)) (pys (itemsD es))) false (as.map Value.ref) (as.map Value.ref) = out at eo ⊢
  have lout : out.length = as.length := by
    rw [← hout, PySem.W.sortVals_length false rfl, List.length_map]
  show EP X pins σ Q (.ref h'.objs.size) { s with heap := PyProof.Rows.sortedHeap h2 h'.objs.size (as.map Value.ref) out.toArray, toks := tk }
  have kF : ∀ b o, b ≠ h'.objs.size → h2.get? b = some o → (PyProof.Rows.sortedHeap h2 h'.objs.size (as.map Value.ref) out.toArray).get? b = some o := fun b o hb e => (PyProof.Rows.sortedHeap_old hb (Heap.lt_size e)).trans e
  have kS : ∀ b o, s.heap.get? b = some o → (PyProof.Rows.sortedHeap h2 h'.objs.size (as.map Value.ref) out.toArray).get? b = some o := fun b o e => kF b o (ne0 _ _ (hk b o e)) (kb b o e)
  obtain ⟨eF, heF⟩ := PyProof.Rows.sortedHeap_at (vs := as.map Value.ref) (out := out.toArray) hob
  have I1 : Inv X pins σ H { s with heap := PyProof.Rows.sortedHeap h2 h'.objs.size (as.map Value.ref) out.toArray, toks := tk } := I.kept (t' := tk) kS
  have hn0 : H h'.objs.size = none := I.hok.fresh (Nat.le_of_lt hlt)
  -- the values of the outcome
  obtain ⟨ys, ry, hys⟩ : ∃ ys : List V, Vals ys out ∧ PySem.W.EachIs (fun (x : V) d => ∃ (j : Nat) (t : Addr) (k : Key) (v : V) (dd : Da), as[j]? = some t ∧ x = V.ref t ∧ kvs[j]? = some (k, v) ∧ Dat X.K B H v dd ∧ d = Da.tup [keyD k, dd]) ys (sortD (itemsD es)) := by
    clear hout lout heF kF kS I1
    have go : ∀ {us : List Value} {ds : List Da}, PySem.W.EachIs (fun u d => ∃ (j : Nat) (t : Addr) (k : Key) (v : V) (dd : Da), as[j]? = some t ∧ u = Value.ref t ∧ kvs[j]? = some (k, v) ∧ Dat X.K B H v dd ∧ d = Da.tup [keyD k, dd]) us ds →
        ∃ ys : List V, Vals ys us ∧ PySem.W.EachIs (fun (x : V) d => ∃ (j : Nat) (t : Addr) (k : Key) (v : V) (dd : Da), as[j]? = some t ∧ x = V.ref t ∧ kvs[j]? = some (k, v) ∧ Dat X.K B H v dd ∧ d = Da.tup [keyD k, dd]) ys ds := by
      intro us ds h
      induction h with
      | nil => exact ⟨[], .nil, .nil⟩
      | cons h t ih =>
        obtain ⟨j, t, k, v, dd, h1, h2, h3, h4, h5⟩ := h
        obtain ⟨ys, r1, r2⟩ := ih
        subst h2
        exact ⟨V.ref t :: ys, .cons rfl r1, .cons ⟨j, t, k, v, dd, h1, rfl, h3, h4, h5⟩ r2⟩
    exact go eo
  have lys : ys.length ≤ sizeLine := by
    rw [ry.length, lout]
    omega
  have I2 : Inv X pins σ (upd H h'.objs.size (.lst ys)) { s with heap := PyProof.Rows.sortedHeap h2 h'.objs.size (as.map Value.ref) out.toArray, toks := tk } :=
    I1.take (h' := PyProof.Rows.sortedHeap h2 h'.objs.size (as.map Value.ref) out.toArray) (t' := tk) (fun b ob _ e => e) (I.fpOk (Nat.le_of_lt hlt) hn0) ⟨lys, out, eF, ry, heF⟩
  obtain ⟨H2, I3, g, qt⟩ := L2.DX.takeT (P := fun b xs => ∃ (j : Nat) (k : Key) (v : V), as[j]? = some b ∧ kvs[j]? = some (k, v) ∧ xs = [kV k, v]) I as _ I2 nd fun b hb => by
    obtain ⟨j, hj⟩ := List.mem_iff_getElem?.mp hb
    obtain ⟨k, v, dd, u1, u2, hv, he, r1, r2, hdv, hg⟩ := pr j b hj
    have hbl : s.heap.objs.size ≤ b := Nat.le_of_lt (hG.above b hb)
    refine ⟨hbl, ?_, [kV k, v], ⟨j, k, v, hj, hv, rfl⟩, fun H3 => ⟨by show 2 ≤ sizeLine; decide, [u1, u2], .cons r1 (.cons r2 .nil), ⟨_, kF _ _ (ne0 _ _ hg) (ka _ _ hg), rfl, 0, rfl⟩⟩⟩
    rw [upd_ne (ne0 _ _ hg)]
    exact I.hok.fresh hbl
  have gr : Kp [] H H2 := fun b o _ e => g b o (by rw [upd_ne (ne_of_none e hn0)]; exact e)
  refine ⟨.ref h'.objs.size, H2, I3, rfl, q H2 h'.objs.size ys gr hn0 (g _ _ upd_same) ?_⟩
  have newA : ∀ t ∈ as, H t = none ∧ t ≠ h'.objs.size := fun t ht => by
    refine ⟨I.hok.fresh (Nat.le_of_lt (hG.above t ht)), ?_⟩
    obtain ⟨j, hj⟩ := List.mem_iff_getElem?.mp ht
    obtain ⟨k, v, dd, u1, u2, hv, he, r1, r2, hdv, hg⟩ := pr j t hj
    exact ne0 _ _ hg
  have fin : ∀ {ys : List V} {ds : List Da}, PySem.W.EachIs (fun (x : V) d => ∃ (j : Nat) (t : Addr) (k : Key) (v : V) (dd : Da), as[j]? = some t ∧ x = V.ref t ∧ kvs[j]? = some (k, v) ∧ Dat X.K B H v dd ∧ d = Da.tup [keyD k, dd]) ys ds → Dats X.K (h'.objs.size :: B) H2 ys ds := by
    intro ys ds h
    induction h with
    | nil => exact .nil
    | cons h t ih =>
      obtain ⟨j, t, k, v, dd, h1, rfl, h3, h4, rfl⟩ := h
      have ht := List.mem_of_getElem? h1
      obtain ⟨n1, n2⟩ := newA t ht
      obtain ⟨xs, ⟨j', k', v', j1, j2, rfl⟩, hH⟩ := qt t ht
      have ej : j = j' := (List.getElem?_inj (List.getElem?_eq_some_iff.mp h1).1 nd).mp (h1.trans j1.symm)
      subst ej
      rw [h3] at j2
      cases j2
      refine .cons (dat_pair (fun z => ?_) hH (Dat.mono gr.all dd v (Dat.put hn0 dd v h4))) ih
      rcases List.mem_cons.mp z with z | z
      · exact n2 z
      · exact al t z n1
  exact fin hys
end
end WJ
set_option Elab.async false
set_option linter.all false
set_option maxRecDepth 100000
set_option maxHeartbeats 2000000
/-! WjS: len(set(xs)), xs a list or a tuple of texts -/
namespace WJ
open PySem PySem.Spec PyProof.Rows L2
/-- each text once, as first met -/
def onceS (acc : List Str) (x : Str) : List Str := if acc.any (· == x) then acc else acc ++ [x]
def once (xs : List Str) : List Str := xs.foldl onceS []
theorem onceS_any (acc : List Str) (x k : Str) : (onceS acc x).any (· == k) = (acc.any (· == k) || decide (k = x)) := by
  unfold onceS
  by_cases h : acc.any (· == x) = true
  · rw [if_pos h]
    by_cases e : k = x
    · subst e
      rw [h, Bool.true_or]
    · rw [decide_eq_false e, Bool.or_false]
  · rw [if_neg h, List.any_append, List.any_cons, List.any_nil, Bool.or_false]
    congr 1
    rw [Bool.eq_iff_iff, decide_eq_true_iff, beq_iff_eq]
    exact ⟨fun z => z.symm, fun z => z.symm⟩
theorem once_snoc (xs : List Str) (x : Str) : once (xs ++ [x]) = onceS (once xs) x := by
  unfold once
  rw [List.foldl_append]
  rfl
theorem once_any (k : Str) (xs : List Str) : (once xs).any (· == k) = xs.any (· == k) := by
  have key : ∀ (xs acc : List Str), (xs.foldl onceS acc).any (· == k) = (acc.any (· == k) || xs.any (· == k)) := fun xs => by
    induction xs with
    | nil => intro acc; simp
    | cons x xs ih =>
      intro acc
      rw [List.foldl_cons, ih, onceS_any, List.any_cons, Bool.or_assoc]
      congr 2
      rw [Bool.eq_iff_iff, decide_eq_true_iff, beq_iff_eq]
      exact ⟨fun z => z.symm, fun z => z.symm⟩
  rw [once, key]
  simp
theorem once_le (xs : List Str) : (once xs).length ≤ xs.length := by
  have key : ∀ (xs acc : List Str), (xs.foldl onceS acc).length ≤ acc.length + xs.length := fun xs => by
    induction xs with
    | nil => intro acc; simp
    | cons x xs ih =>
      intro acc
      rw [List.foldl_cons]
      have h := ih (onceS acc x)
      have h2 : (onceS acc x).length ≤ acc.length + 1 := by
        unfold onceS
        split
        · omega
        · simp
      rw [List.length_cons]
      omega
  have := key xs []
  simpa [once] using this
theorem once_nodup : ∀ {xs : List Str}, xs.Nodup → once xs = xs := fun {xs} h => by
  have key : ∀ (xs acc : List Str), (acc ++ xs).Nodup → xs.foldl onceS acc = acc ++ xs := fun xs => by
    induction xs with
    | nil => intro acc _; simp
    | cons x xs ih =>
      intro acc hn
      rw [List.foldl_cons]
      have hx : acc.any (· == x) = false := by
        rw [List.any_eq_false]
        intro y hy z
        have e : y = x := by simpa using z
        subst e
        exact (List.nodup_append.mp hn).2.2 y hy y List.mem_cons_self rfl
      have e : onceS acc x = acc ++ [x] := by
        unfold onceS
        rw [hx]
        rfl
      rw [e, ih (acc ++ [x]) (by simpa using hn)]
      simp
  have := key xs [] (by simpa using h)
  simpa [once] using this
section
variable {prog : Program} {w : World} {A : Around} {R : Result → Shared → Prop} {I : Addr} {fp wr : List Addr} {G : Array GenState → Array GenState → Prop} {n : Nat} {P : Nat → Value → Prop} {St : Nat → Shared → Prop}
/-- the set at S holds the first i texts -/
abbrev Holds (prog : Program) (w : World) (S : Addr) (xs : List Str) (h : Heap) : Prop := h.SetOf (PySem.strKind prog w) S (fun k => xs.any (· == k)) (once xs).length
theorem set_loop (W : WalksS prog w A.in1 I fp wr G n P St) (S : Addr) (hSf : S ∉ fp) (xs : List Str) (hsz : xs.length = n) (hn1 : n ≤ 1000) (hval : ∀ i v, P i v → ∃ t, v = .str (xs.getD i Str.empty) t) :
    ∀ (k i : Nat) (s : Shared), n - i = k → i ≤ n → St i s → Holds prog w S (xs.take i) s.heap → (∀ s', Moved (S :: wr) G s s' → Holds prog w S xs s'.heap → R (.ok (.ret .none)) s') →
      codeAny (model prog w) A (.builtin "set.update.loop" ⟨[.ref S, .ref I], []⟩) R s := by
  have hSw : S ∉ wr := fun z => hSf (W.sub _ z)
  have up : ∀ b ∈ wr, b ∈ S :: wr := fun b hb => List.mem_cons_of_mem _ hb
  have keepS : ∀ {ys : List Str} {s1 s2 : Shared}, Moved wr G s1 s2 → Holds prog w S ys s1.heap → Holds prog w S ys s2.heap := fun hm ⟨o, es, ep, t, ho, q⟩ => ⟨o, es, ep, t, hm.heap S _ hSw ho, q⟩
  intro k
  induction k with
  | zero =>
    intro i s hk hi hst hS hR
    have hin : i = n := by omega
    subst hin
    refine codeAny_builtin PyProof.Rows.F.entry_set_update_loop ?_
    rw [Around.under_plainId PyProof.Rows.F.plain_set_update_loop _]
    refine wpAny_bind (W.done s _ _ hst fun s' hm => wpAny_pure (hR s' (hm.mono up) ?_))
    have e := keepS hm hS
    rw [← hsz, List.take_length] at e
    exact e
  | succ k ih =>
    intro i s hk hi hst hS hR
    have hlt : i < n := by omega
    have hx : i < xs.length := by omega
    refine codeAny_builtin PyProof.Rows.F.entry_set_update_loop ?_
    rw [Around.under_plainId PyProof.Rows.F.plain_set_update_loop _]
    refine wpAny_bind (W.item i s _ _ hlt hst fun v s' hP hst' hm => ?_)
    obtain ⟨t, rfl⟩ := hval i v hP
    have hS' := keepS hm hS
    have hle := once_le (xs.take i)
    rw [List.length_take] at hle
    show wpAny _ A.in1 (holding _ (setAdd S _) >>= _) _ _ s'
    refine wpAny_bind (wpAny_holding ?_)
    unfold setAdd
    refine wpAny_holding (wpAny_bind ((PySem.strKind prog w).pyHash (k := xs.getD i Str.empty) (strKind_is _ _ _ _) ?_))
    refine wpAny_setAddHashed_of (knd := PySem.strKind prog w) (s := { s' with toks := s'.toks + 1 }) (strKind_is _ _ _ _) rfl hS' (by unfold scanBound; omega) fun h' hsb hS2 => ?_
    have ex : xs.getD i Str.empty = xs[i] := by simp [List.getD, hx]
    have et : xs.take (i + 1) = xs.take i ++ [xs[i]] := by rw [List.take_succ, List.getElem?_eq_getElem hx]; rfl
    have hSi : Holds prog w S (xs.take (i + 1)) h' := by
      refine SetOf_congr hS2 (fun k' => ?_) ?_
      · rw [ex, et, ← once_any k' (xs.take i ++ [xs[i]]), once_snoc, onceS_any, once_any]
      · rw [ex, et, once_snoc]
        unfold onceS
        rw [once_any]
        split <;> simp
    refine wpAny_pure ⟨plainId_quiet PyProof.Rows.F.plain_set_update_loop _, ih (i + 1) _ (by omega) hlt (W.frame _ s' _ _ hst' (Nat.le_succ _) fun b hb o e => ?_) hSi fun s'' hm'' hS'' => ?_⟩
    · rw [hsb.2 b (fun z : b = S => hSf (by rw [← z]; exact hb))]
      exact e
    · refine hR s'' (Moved.trans W.gtrans ((hm.mono up).then_heap (Nat.le_succ _) fun b o hb e => ?_) hm'') hS''
      rw [hsb.2 b (fun z : b = S => hb (by rw [z]; exact List.mem_cons_self))]
      exact e
end
/-- the set that is laid first -/
abbrev newSet (led : Bool) : Obj := { cls := .type "set", dict := none, data := .set #[] 0 (.fresh 0 0 led) }
section
variable {prog : Program} {w : World} {A : Around} {E : Value → Shared → Prop} {s : Shared}
set_option maxHeartbeats 3200000 in
/-- set(x): what is asked of x's walk, the new set laid -/
theorem call_setS {l : Addr} {c : String} {items : Array Value} {xs : List Str} {od : Option Addr} {nl : Nat} {osl : Array (Option Value)} {Q : Value → Shared → Prop} (hh : A.handled = none) (hol : s.heap.get? l = some { cls := .type c, dict := od, data := .seq items nl, slots := osl })
    (hc : (c = "list" ∧ True) ∨ (c = "tuple" ∧ True)) (hi : StrsAre items.toList xs) (hn1 : xs.length ≤ 1000)
    (h : ∀ (h' : Heap) (tk : Nat), Holds prog w s.heap.objs.size xs h' → (∀ b o, b < s.heap.objs.size → s.heap.get? b = some o → h'.get? b = some o) → Q (.ref s.heap.objs.size) { s with heap := h', toks := tk }) :
    wpAny (model prog w) A (call (.type "set") [.ref l]) Q E s := by
  obtain ⟨cc, tl, hmro⟩ := PySem.F.called_set.mro
  have hmade := PySem.F.called_set.made
  have hsub := PySem.F.called_set.sub
  refine wpAny_call (codeAny_of_tree ?_)
  show wpAny _ _ (callAny (.type "set") _) _ _ _
  refine wpAny_pure ⟨Code.quiet_builtin _ (by decide +kernel), codeAny_builtin PySem.F.entry_type_call ?_⟩
  rw [Around.under_plain (weight_type_call_type "set" [.ref l] []) rfl]
  have h1 := PySem.F.called_set.notType
  have h2 := PySem.F.called_set.canCreate
  have hct := PySem.F.typeCall_set_1 (.ref l)
  repeat (any_goals (first | assumption | wp_step))
  refine codeAny_mono (code_set_new_1 (.ref l) (E := E) (Q₁ := fun obj s₁ => ∃ led : Bool, obj = .ref s.heap.objs.size ∧ s₁ = { s with heap := s.heap.push (newSet led) }) fun led => ⟨led, rfl, rfl⟩) fun r s₁ hr => ?_
  cases r with
  | error e => exact hr
  | ok fl =>
    cases fl with
    | ret obj =>
      obtain ⟨led, rfl, rfl⟩ := hr
      have hS : (s.heap.push (newSet led)).get? s.heap.objs.size = some (newSet led) := Heap.get?_push_size _ rfl
      have hT : Shared.TypeIs { s with heap := s.heap.push (newSet led) } (.ref s.heap.objs.size) "set" := ⟨_, hS, rfl⟩
      have hli := PySem.F.called_set.init.lookup
      have hbi := PySem.F.called_set.init.bind (.ref s.heap.objs.size)
      repeat (any_goals (first | assumption | wp_step))
      refine codeAny_mono (codeAny_call_builtin (R := wants (fun r s₂ => r = .none ∧ ∃ h' tk, s₂ = { s with heap := h', toks := tk } ∧ Holds prog w s.heap.objs.size xs h' ∧ (∀ b o, b < s.heap.objs.size → s.heap.get? b = some o → h'.get? b = some o)) E) PySem.F.called_set.init.plain PySem.F.entry_set_init (check_set_init_1 hT ?_)) fun r₂ s₂ hr₂ => ?_
      · have hlS : l < s.heap.objs.size := Heap.lt_size hol
        have hh3 : A.in1.in1.in1.handled = none := by simp [hh]
        have hlate : ∀ b, b < s.heap.objs.size → b ≠ (s.heap.push (newSet led)).objs.size := fun b hb => by
          rw [Heap.size_push]
          exact Nat.ne_of_lt (Nat.lt_succ_of_lt hb)
        have hneI := hlate l hlS
        have hSf : s.heap.objs.size ∉ [(s.heap.push (newSet led)).objs.size, l] := by
          rw [Heap.size_push]
          simp only [List.mem_cons, List.mem_singleton, List.not_mem_nil, or_false, not_or]
          exact ⟨Nat.ne_of_lt (Nat.lt_succ_self _), Nat.ne_of_gt hlS⟩
        have hsz : xs.length = items.size := by rw [← StrsAre.len_eq hi, Array.length_toList]
        have hval : ∀ (i : Nat) (v : Value), items[i]? = some v → ∃ t, v = .str (xs.getD i Str.empty) t := fun i v hv => SS.strs_at hi i v (by rw [Array.getElem?_toList]; exact hv)
        have hol' : (s.heap.push (newSet led)).get? l = some { cls := .type c, dict := od, data := .seq items nl, slots := osl } := Heap.get?_push_of_some _ hol
        have q1 : isSubtype (.type c) (.type "set") = pure false := by
          rcases hc with ⟨rfl, _⟩ | ⟨rfl, _⟩
          · exact PySem.F.sub_list_set
          · exact PySem.F.sub_tuple_set
        have q2 : isSubtype (.type c) (.type "frozenset") = pure false := by
          rcases hc with ⟨rfl, _⟩ | ⟨rfl, _⟩
          · exact PySem.F.sub_list_frozenset
          · exact PySem.F.sub_tuple_frozenset
        have q3 : (Value.type c == Value.type "dict") = false := by rcases hc with ⟨rfl, _⟩ | ⟨rfl, _⟩ <;> decide
        unfold Builtin.«set.__init__» noKeywords Builtin.Frozenset.updateFrom
        generalize hPI : pyIter = PI
        wp_walk
        subst hPI
        rcases hc with ⟨rfl, _⟩ | ⟨rfl, _⟩
        · have hl1 : (s.heap.push (newSet led)).IsList l items := ⟨_, hol', rfl, nl, rfl⟩
          refine wpAny_pyIter_list hl1 (wpAny_bind (wpAny_runValue ?_))
          refine set_loop ((Walks.list hh3 _ l hneI items).toS) s.heap.objs.size hSf xs hsz (by omega) hval items.size 0 _ (by omega) (Nat.zero_le _) ⟨⟨_, Heap.get?_push_size _ rfl, rfl, rfl⟩, (hl1.push _)⟩ ?_ ?_
          · have hget : ((s.heap.push (newSet led)).push { cls := .type "list_iterator", data := .fields #[.ref l, .int 0 0] }).get? s.heap.objs.size = some (newSet led) := Heap.get?_push_of_some _ hS
            exact SetOf_congr ((setObjOf_fresh (knd := PySem.strKind prog w) led).setOf hget (by unfold scanBound; omega)) (fun _ => rfl) rfl
          · intro s' hm hS'
            obtain ⟨h', g', d', tk', os'⟩ := s'
            have eg : g' = s.gens := hm.gens
            have ed : d' = s.drawn := hm.drawn
            have eo : os' = s.os := hm.os
            subst eg ed eo
            refine wpAny_pure (wpAny_pure ⟨rfl, h', tk', rfl, hS', fun b o hb e => ?_⟩)
            exact hm.heap b o (by simp only [List.mem_cons, List.mem_singleton, List.not_mem_nil, or_false, not_or]; exact ⟨Nat.ne_of_lt hb, hlate b hb⟩) (Heap.get?_push_of_some _ (Heap.get?_push_of_some _ e))
        · have hl1 : (s.heap.push (newSet led)).IsTuple l items := ⟨_, hol', rfl, nl, rfl⟩
          refine wpAny_pyIter_tuple hl1 (wpAny_bind (wpAny_runValue ?_))
          refine set_loop ((Walks.tuple hh3 _ l hneI items).toS) s.heap.objs.size hSf xs hsz (by omega) hval items.size 0 _ (by omega) (Nat.zero_le _) ⟨⟨_, Heap.get?_push_size _ rfl, rfl, rfl⟩, (hl1.push _)⟩ ?_ ?_
          · have hget : ((s.heap.push (newSet led)).push { cls := .type "tuple_iterator", data := .fields #[.ref l, .int 0 0] }).get? s.heap.objs.size = some (newSet led) := Heap.get?_push_of_some _ hS
            exact SetOf_congr ((setObjOf_fresh (knd := PySem.strKind prog w) led).setOf hget (by unfold scanBound; omega)) (fun _ => rfl) rfl
          · intro s' hm hS'
            obtain ⟨h', g', d', tk', os'⟩ := s'
            have eg : g' = s.gens := hm.gens
            have ed : d' = s.drawn := hm.drawn
            have eo : os' = s.os := hm.os
            subst eg ed eo
            refine wpAny_pure (wpAny_pure ⟨rfl, h', tk', rfl, hS', fun b o hb e => ?_⟩)
            exact hm.heap b o (by simp only [List.mem_cons, List.mem_singleton, List.not_mem_nil, or_false, not_or]; exact ⟨Nat.ne_of_lt hb, hlate b hb⟩) (Heap.get?_push_of_some _ (Heap.get?_push_of_some _ e))
      · cases r₂ with
        | error e => exact hr₂
        | ok fl₂ =>
          cases fl₂ with
          | ret r =>
            obtain ⟨rfl, h', tk, rfl, hS', hk'⟩ := hr₂
            repeat (any_goals (first | assumption | wp_step))
            exact h _ _ hS' hk'
          | _ => exact hr₂.elim
    | _ => exact hr.elim
end
/-- len(set(xs)) -/
def tLenSetS (K : PySem.W.Frag) (ta : TE) : TE := fun σ H Q => ta σ H fun x H1 => ∃ l, ∃ xs : List Str, x = .ref l ∧ (SqL K H1 l (xs.map V.str) ∨ SqT K H1 l (xs.map V.str)) ∧ xs.length ≤ 1000 ∧ Q (.int (once xs).length) H1
theorem pe_lenSetS {X : Cx} {a : Expr} {ta : TE} {p p2 q pos : Pos} (K : PySem.W.Frag) (hc : X.calm = true) (hg : Gl X "len") (hm : X.mg "len" = none) (hg2 : Gl X "set") (hm2 : X.mg "set" = none) (ha : PE X a ta) (hK : X.K = K := by rfl)
    (na : starEach [a] X.env = (false, eval a X.env) :: starEach [] X.env := by rfl) : PE X (.Call (.Name "len" p) [.Call (.Name "set" p2) [a] [] q] [] pos) (tLenSetS K ta) := by
  subst hK
  refine ⟨fun pins s σ H Q I h => Call_ (ld_blt I hg hm boot_len (callWith_builtin1 (args_cons (Call_ (ld_blt I hg2 hm2 boot_set ?_)) rfl) rfl rfl))⟩
  refine callWith_type1 (args_cons (thn (ha.run pins s σ H _ I h) fun v s1 ⟨x, H1, I1, r1, q1⟩ => args_nil ?_) na) na rfl
  obtain ⟨l, xs, rfl, hq, h1, q1⟩ := q1
  cases r1
  have fin : ∀ (h' : Heap) (tk : Nat), Holds X.prog X.w s1.heap.objs.size xs h' → (∀ b o, b < s1.heap.objs.size → s1.heap.get? b = some o → h'.get? b = some o) →
      wpAny (model X.prog X.w) X.A (spliced (backTo pos (starEach [] X.env))) (fun vs s₂ => wpAny (model X.prog X.w) X.A (call (.builtin "len") (Value.ref s1.heap.objs.size :: vs)) (EP X pins σ Q) X.xe s₂) X.xe { s1 with heap := h', toks := tk } := fun h' tk hS hk => by
    refine args_nil ?_
    obtain ⟨o, es, ep, t, ho, hex, hd, _, _, _, hf, hn⟩ := hS
    have hle := once_le xs
    have I2 : Inv X pins σ H1 { s1 with heap := h', toks := tk } := I1.kept fun b o e => hk b o (Heap.lt_size e) e
    exact call_len_set ho hex hd hf (by rw [hn] <;> omega) ⟨.int (once xs).length, H1, I2.tok _, ⟨_, by rw [hn]⟩, q1⟩
  rcases hq with hq | hq
  · obtain ⟨its, r, pl, hz⟩ := I1.list hq
    obtain ⟨o, ho, hc1, n, hd1⟩ := pl.isList
    obtain ⟨oc, od, dt, sl⟩ := o
    simp only at hc1 hd1
    subst hc1 hd1
    exact call_setS (I1.ok.hd hc) ho (Or.inl ⟨rfl, trivial⟩) (by simpa using strsAre_of r) h1 fin
  · obtain ⟨its, r, ⟨o, ho, hc1, n, hd1⟩, hz⟩ := I1.tuple hq
    obtain ⟨oc, od, dt, sl⟩ := o
    simp only at hc1 hd1
    subst hc1 hd1
    exact call_setS (I1.ok.hd hc) ho (Or.inr ⟨rfl, trivial⟩) (by simpa using strsAre_of r) h1 fin
theorem ev_lenSet {K : PySem.W.Frag} {W : Wd K} {Γ : List En} {c : Nat} {ta : TE} {xs : List Str} (h : Ev W ta Γ c (fun d => d = .lst (xs.map Da.str) ∨ d = .tup (xs.map Da.str))) (hl : xs.length ≤ 1000) : Ev W (tLenSetS K ta) Γ c (· = .int (once xs).length) := fun H0 B0 B σ H M s hM Q q =>
  h H0 B0 B σ H M s hM _ fun v d H1 k r hd e => by
    rcases e with e | e
    all_goals
      subst e
      unfold Dat at hd
      obtain ⟨a, vs, rfl, h1, h2⟩ := hd
      have e := h2.strs
      subst e
    · exact ⟨a, xs, rfl, Or.inl h1.sq, hl, q _ (.int _) H1 k r (dInt.mpr rfl) rfl⟩
    · exact ⟨a, xs, rfl, Or.inr h1.sq, hl, q _ (.int _) H1 k r (dInt.mpr rfl) rfl⟩
end WJ
set_option Elab.async false
set_option linter.all false
set_option maxRecDepth 100000
set_option maxHeartbeats 2000000
/-! WjL: list(..), tuple(..), sorted(..), max, min, join, split, slices over data -/
namespace WJ
open PySem L2
section
variable {X : Cx}
theorem vals_signs {x : Str} {acc : Array Value} (h : ItemsOf (SignAt x) acc x.cps.size) : Vals (x.cps.toList.map fun c => V.str ⟨#[c]⟩) acc.toList := by
  refine vals_of_at (by simp [h.1]) fun j y u h1 h2 => ?_
  obtain ⟨c, t, e1, e2⟩ := h.2 j u (by rw [← Array.getElem?_toList]; exact h2)
  rw [List.getElem?_map, Array.getElem?_toList, e1] at h1
  cases h1
  exact ⟨t, e2⟩
theorem call_list_strR (hc : X.calm = true) : CallR X (.type "list") (fun xs H Q => ∃ x : Str, xs = [.str x] ∧ x.length ≤ sizeLine ∧ ∀ l, H l = none → Q (.ref l) (upd H l (.lst (x.cps.toList.map fun c => V.str ⟨#[c]⟩)))) := by
  intro pins s σ H xs us Q I r h
  obtain ⟨x, rfl, hl, q⟩ := h
  obtain ⟨u, rfl, rx⟩ := vals1 r
  obtain ⟨t, rfl⟩ := rx
  refine call_list_str (I.ok.hd hc) x t (fun h' tk acc' c' kp e hacc => ?_) hl
  exact ⟨.ref s.heap.objs.size, _, I.laid (t' := tk) kp (Nat.le_refl _) (show ObjOk X.prog X.w _ h' _ (.lst _) from ⟨by rw [List.length_map, Array.length_toList]; exact hl, acc'.toList, c', vals_signs hacc, by simpa using e⟩), rfl, q _ (I.hok.fresh (Nat.le_refl _))⟩
def rListS (K : PySem.W.Frag) : List V → Hp → VK → Prop := fun xs H Q => ∃ p ys, xs = [.ref p] ∧ (SqL K H p ys ∨ SqT K H p ys) ∧ ∀ l, H l = none → Q (.ref l) (upd H l (.lst ys))
def rListT : List V → Hp → VK → Prop := fun xs H Q => ∃ x : Str, xs = [.str x] ∧ x.length ≤ sizeLine ∧ ∀ l, H l = none → Q (.ref l) (upd H l (.lst (x.cps.toList.map fun c => V.str ⟨#[c]⟩)))
def rListA (K : PySem.W.Frag) : List V → Hp → VK → Prop := fun xs H Q => rListS K xs H Q ∨ rListT xs H Q ∨ rListD xs H Q
theorem o_list (K : PySem.W.Frag) (hc : X.calm = true := by rfl) (hK : X.K = K := by rfl) : CallR X (.type "list") (rListA K) := hK ▸ orC call_list_of (orC (call_list_strR hc) (call_list_dK hc))
def rTupA (K : PySem.W.Frag) : List V → Hp → VK → Prop := fun xs H Q => ∃ p ys, xs = [.ref p] ∧ ((SqL K H p ys ∧ ∀ l, H l = none → Q (.ref l) (upd H l (.tup ys))) ∨ (SqT K H p ys ∧ Q (.ref p) H))
theorem o_tuple (K : PySem.W.Frag) (hK : X.K = K := by rfl) : CallR X (.type "tuple") (rTupA K) := hK ▸ call_tuple_of
def rSortedDk : List V → Hp → VK → Prop := fun xs H Q => ∃ (a : Addr) (kvs : List (Key × V)) (ks : List Str), xs = [.ref a] ∧ Rd H a (.dK kvs) ∧ kvs.map (·.1) = ks.map Sum.inr ∧ ks.length < 64 ∧ ∀ ys p, ys.Perm ks → PyProof.Rows.sortedS ys = true → H p = none → Q (.ref p) (upd H p (.lst (ys.map V.str)))
def rSortedA (K : PySem.W.Frag) : List V → Hp → VK → Prop := fun xs H Q => rSortedS K xs H Q ∨ rSortedDk xs H Q
theorem o_sorted (K : PySem.W.Frag) (hc : X.calm = true := by rfl) (hK : X.K = K := by rfl) : CallR X (.builtin "sorted") (rSortedA K) := hK ▸ orC cr_sortedS (call_sortedD hc)
def rMaxA : List V → Hp → VK → Prop := fun xs H Q => ∃ i j, xs = [.int i, .int j] ∧ Q (.int (if j > i then j else i)) H
def rMinA : List V → Hp → VK → Prop := fun xs H Q => ∃ i j, xs = [.int i, .int j] ∧ Q (.int (if j < i then j else i)) H
theorem o_max (hc : X.calm = true := by rfl) : CallR X (.builtin "max") rMaxA := call_max2 hc
theorem o_min (hc : X.calm = true := by rfl) : CallR X (.builtin "min") rMinA := call_min2 hc
def r_join (K : PySem.W.Frag) : V → List V → Hp → VK → Prop := fun x xs H Q => ∃ a p, ∃ ys : List Str, x = .str a ∧ xs = [.ref p] ∧ (SqL K H p (ys.map V.str) ∨ SqT K H p (ys.map V.str)) ∧ (ys.map (·.length)).sum + ys.length * a.length ≤ 16777216 ∧ Q (.str (Txt.join a ys)) H
def r_split : V → List V → Hp → VK → Prop := fun x xs H Q => ∃ a b, x = .str a ∧ xs = [.str b] ∧ (b.length == 0) = false ∧ a.length + 2 ≤ sizeLine ∧ rNewStrs (Txt.split a b) H Q
theorem castK {K : PySem.W.Frag} {e : Expr} {t : PySem.W.Frag → TE} (h : PE X e (t X.K)) (hK : X.K = K := by rfl) : PE X e (t K) := hK ▸ h
end
/-! ### the sorted texts -/
def leS (x y : Str) : Bool := !PySem.Spec.ltCps y.cps.toList x.cps.toList
def srt (xs : List Str) : List Str := xs.mergeSort leS
section
variable {K : PySem.W.Frag} {W : Wd K} {Γ : List En} {c c1 c2 : Nat} {te ta tb : TE}
theorem rcF_list {d : Da} {xs : List Da} {P : List Da → Prop} (h : seqD d = some xs) (hl : xs.length ≤ 100000) (p : P xs) : RcF W (rListA K) [d] P := fun B H M vs s hd Q q => by
  unfold Dats at hd
  obtain ⟨v, r, rfl, h1, t⟩ := hd
  unfold Dats at t
  subst t
  cases d with
  | lst ys =>
    cases h
    unfold Dat at h1
    obtain ⟨a, zs, rfl, s1, t1⟩ := h1
    exact Or.inl ⟨a, zs, rfl, Or.inl s1.sq, fun l nl => q l zs _ _ nl (Kp.new nl) (Wd.new nl s.dr) upd_same (Dats.mono (Kp.new nl) _ _ (Dats.put nl _ _ t1)) p⟩
  | tup ys =>
    cases h
    unfold Dat at h1
    obtain ⟨a, zs, rfl, s1, t1⟩ := h1
    exact Or.inl ⟨a, zs, rfl, Or.inr s1.sq, fun l nl => q l zs _ _ nl (Kp.new nl) (Wd.new nl s.dr) upd_same (Dats.mono (Kp.new nl) _ _ (Dats.put nl _ _ t1)) p⟩
  | str z =>
    cases h
    have e := dStr.mp h1
    subst e
    rw [signs_len] at hl
    refine Or.inr (Or.inl ⟨z, rfl, Nat.le_trans hl (by decide), fun l nl => q l _ (signsD z) _ nl (Kp.new nl) (Wd.new nl s.dr) upd_same ?_ p⟩)
    have e1 : (z.cps.toList.map fun c => V.str ⟨#[c]⟩) = (z.cps.toList.map fun c => (⟨#[c]⟩ : Str)).map V.str := by rw [List.map_map]; rfl
    have e2 : signsD z = (z.cps.toList.map fun c => (⟨#[c]⟩ : Str)).map Da.str := by unfold signsD; rw [List.map_map]; rfl
    rw [e1, e2]
    exact Dats.ofStrs _
  | _ => cases h
theorem rc_tup {d : Da} {xs : List Da} {P : Da → Prop} (h : d = .lst xs ∨ d = .tup xs) (p : P (.tup xs)) : Rc W (rTupA K) [d] P := fun B H M vs s hd Q q => by
  unfold Dats at hd
  obtain ⟨v, r, rfl, h1, t⟩ := hd
  unfold Dats at t
  subst t
  rcases h with rfl | rfl
  · unfold Dat at h1
    obtain ⟨a, zs, rfl, s1, t1⟩ := h1
    refine ⟨a, zs, rfl, Or.inl ⟨s1.sq, fun l nl => q _ (.tup xs) _ (Kp.new nl) (Wd.new nl s.dr) ?_ p⟩⟩
    unfold Dat
    exact ⟨l, zs, rfl, .of (s.free nl) upd_same, Dats.mono (Kp.new nl) _ _ t1⟩
  · have h2 := h1
    unfold Dat at h1
    obtain ⟨a, zs, rfl, s1, t1⟩ := h1
    exact ⟨a, zs, rfl, Or.inr ⟨s1.sq, q _ (.tup xs) H Kp.refl s.dr h2 p⟩⟩
theorem rcF_sortedL {xs : List Str} {P : List Da → Prop} (hl : xs.length < 64) (p : ∀ ys : List Str, ys.Perm xs → PyProof.Rows.sortedS ys = true → P (ys.map Da.str)) : RcF W (rSortedA K) [.lst (xs.map Da.str)] P := fun B H M vs s hd Q q => by
  unfold Dats at hd
  obtain ⟨v, r, rfl, h1, t⟩ := hd
  unfold Dats at t
  subst t
  unfold Dat at h1
  obtain ⟨a, zs, rfl, s1, t1⟩ := h1
  have e := t1.strs
  subst e
  exact Or.inl ⟨a, xs, rfl, s1.sq, hl, fun ys l h1 h2 nl => q l _ (ys.map Da.str) _ nl (Kp.new nl) (Wd.new nl s.dr) upd_same (Dats.ofStrs ys) (p ys h1 h2)⟩
theorem rcF_sortedD {es : List (Key × Da)} {ks : List Str} {P : List Da → Prop} (hk : es.map (·.1) = ks.map Sum.inr) (hl : ks.length < 64) (p : ∀ ys : List Str, ys.Perm ks → PyProof.Rows.sortedS ys = true → P (ys.map Da.str)) : RcF W (rSortedA K) [.dct es] P := fun B H M vs s hd Q q => by
  unfold Dats at hd
  obtain ⟨v, r, rfl, h1, t⟩ := hd
  unfold Dats at t
  subst t
  unfold Dat at h1
  obtain ⟨a, zs, rfl, s1, t1⟩ := h1
  exact Or.inr ⟨a, zs, ks, rfl, s1.2, by rw [t1.keys]; exact hk, hl, fun ys l h1 h2 nl => q l _ (ys.map Da.str) _ nl (Kp.new nl) (Wd.new nl s.dr) upd_same (Dats.ofStrs ys) (p ys h1 h2)⟩
theorem ev_join {x : Str} {xs : List Str} (hx : Ev W ta Γ c1 (· = .str x)) (h : Ev W tb Γ c2 (fun d => d = .lst (xs.map Da.str) ∨ d = .tup (xs.map Da.str))) (hl : (xs.map (·.length)).sum + xs.length * x.length ≤ 100000) : Ev W (tM1 (r_join K) ta tb) Γ (c1 + c2) (· = .str (Txt.join x xs)) := fun H0 B0 B σ H M s hM Q q =>
  hx H0 B0 B σ H M s (by omega) _ fun v1 d1 H1 k1 r1 h1 e1 => by
    subst e1
    have e := dStr.mp h1
    subst e
    refine ⟨⟨x, rfl⟩, h H0 B0 B σ H1 _ (s.keep k1 r1) (by omega) _ fun v d H2 k2 r2 hd e => ?_⟩
    rcases e with e | e
    all_goals
      subst e
      unfold Dat at hd
      obtain ⟨a, vs, rfl, h1, h2⟩ := hd
      have e := h2.strs
      subst e
    · exact ⟨x, a, xs, rfl, rfl, Or.inl h1.sq, by omega, q _ (.str _) H2 (k1.trans k2) (by rw [← sub_sub]; exact r2) (dStr.mpr rfl) rfl⟩
    · exact ⟨x, a, xs, rfl, rfl, Or.inr h1.sq, by omega, q _ (.str _) H2 (k1.trans k2) (by rw [← sub_sub]; exact r2) (dStr.mpr rfl) rfl⟩
/-- join of texts that are not known -/
theorem ev_joinP {x : Str} {P : List Str → Prop} {n : Nat} (hx : Ev W ta Γ c1 (· = .str x)) (h : Ev W tb Γ c2 (fun d => ∃ xs : List Str, d = .lst (xs.map Da.str) ∧ P xs)) (hl : ∀ xs, P xs → (xs.map (·.length)).sum + xs.length * x.length ≤ 100000) : Ev W (tM1 (r_join K) ta tb) Γ (c1 + c2) (fun d => ∃ xs, d = .str (Txt.join x xs) ∧ P xs) := fun H0 B0 B σ H M s hM Q q =>
  hx H0 B0 B σ H M s (by omega) _ fun v1 d1 H1 k1 r1 h1 e1 => by
    subst e1
    have e := dStr.mp h1
    subst e
    refine ⟨⟨x, rfl⟩, h H0 B0 B σ H1 _ (s.keep k1 r1) (by omega) _ fun v d H2 k2 r2 hd ⟨xs, e, p⟩ => ?_⟩
    subst e
    unfold Dat at hd
    obtain ⟨a, vs, rfl, h1, h2⟩ := hd
    have e := h2.strs
    subst e
    have := hl xs p
    exact ⟨x, a, xs, rfl, rfl, Or.inl h1.sq, by omega, q _ (.str _) H2 (k1.trans k2) (by rw [← sub_sub]; exact r2) (dStr.mpr rfl) ⟨xs, rfl, p⟩⟩
theorem evF_split {x y : Str} (hx : Ev W ta Γ c1 (· = .str x)) (hy : Ev W tb Γ c2 (· = .str y)) (h0 : (y.length == 0) = false) (hl : x.length ≤ 100000) : EvF W (tM1 r_split ta tb) Γ (c1 + c2) (· = (Txt.split x y).map Da.str) := fun H0 B0 B σ H M s hM Q q =>
  hx H0 B0 B σ H M s (by omega) _ fun v1 d1 H1 k1 r1 h1 e1 => by
    subst e1
    have e := dStr.mp h1
    subst e
    refine ⟨⟨x, rfl⟩, hy H0 B0 B σ H1 _ (s.keep k1 r1) (by omega) _ fun v d H2 k2 r2 hd e2 => ?_⟩
    subst e2
    have e := dStr.mp hd
    subst e
    refine ⟨x, y, rfl, rfl, h0, Nat.le_trans (Nat.add_le_add_right hl 2) (by decide), fun l nl => ?_⟩
    exact q l _ _ _ ((k1.trans k2).backB (fun z => ((s.keep k1 r1).keep k2 r2).al l (s.fb l z) nl) nl) ((k1.trans k2).trans (Kp.new nl)) (Wd.new nl (by rw [← sub_sub]; exact r2)) upd_same (Dats.ofStrs _) rfl
end
end WJ
set_option Elab.async false
set_option linter.all false
set_option maxRecDepth 100000
set_option maxHeartbeats 2000000
/-! WjU: items, dict(x), dict comprehensions, enumerate, == of objects, over data -/
namespace WJ
open PySem L2
section
variable {X : Cx} (K : PySem.W.Frag)
theorem o_listIt (hc : X.calm = true := by rfl) (hK : X.K = K := by rfl) : CallR X (.type "list") (rListIt K) := hK ▸ cr_listIt hc
theorem o_sortIts (hu : X.A.units + 66 < cLine) (hc : X.calm = true := by rfl) (hK : X.K = K := by rfl) : CallR X (.builtin "sorted") (rSortIts K) := hK ▸ cr_sortIts hc hu
theorem o_sortG (hu : X.A.units + 66 < cLine) (hK : X.K = K := by rfl) : CallR X (.builtin "sorted") (rSortG K) := hK ▸ cr_sortG hu
end
def rDictD : List V → Hp → VK → Prop := fun xs H Q => ∃ (a : Addr) (kvs : List (Key × V)), xs = [.ref a] ∧ Rd H a (.dK kvs) ∧ ∀ p, H p = none → Q (.ref p) (upd H p (.dK kvs))
theorem o_dictD {X : Cx} : CallR X (.type "dict") rDictD := call_dictD
section
variable {K : PySem.W.Frag} {W : Wd K} {Γ : List En} {c c1 c2 : Nat} {P : Da → Prop} {te ta tv tk : TE} {tt : TT}
theorem its_go {H H1 : Hp} {B : List Addr} {p : Addr} {es : List (Key × Da)} {v : V} (np : H1 p = none) (hd : Dat K B H1 v (.dct es)) : ∃ a kvs, v = .ref a ∧ Rd H1 a (.dK kvs) ∧ Dat K B (upd H1 p (L2.DX.itemsO p a)) (.ref a) (.dct es) := by
  have hd0 := hd
  unfold Dat at hd
  obtain ⟨a, kvs, rfl, ⟨nb, rd⟩, hk⟩ := hd
  exact ⟨a, kvs, rfl, rd, Dat.mono (Kp.new np) _ _ hd0⟩
theorem evF_itsL {es : List (Key × Da)} (hW : W.Lax) (h : Ev W te Γ c (· = .dct es)) : EvF W (tCB (rListIt K) (tCons (tItemsV te) tNil)) Γ c (· = itemsD es) := fun H0 B0 B σ H M s hM Q q =>
  h H0 B0 B σ H M s hM _ fun v d H1 k r hd e => by
    subst e
    have s1 := s.keep k r
    have hd0 := hd
    unfold Dat at hd0
    obtain ⟨a, kvs, rfl, ⟨nb, rd⟩, _⟩ := hd0
    refine ⟨a, kvs, rfl, rd, fun p np => ?_⟩
    refine ⟨p, a, B, es, rfl, upd_same, Dat.mono (Kp.new np) _ _ hd, fun b hb => ?_, fun H' l xs k2 nl hl hx => ?_⟩
    · rw [upd_ne (fun z => s1.al b hb (by rw [z]; exact np))]
      exact s1.al b hb
    · have nl1 : H1 l = none := (Kp.new (B := []) np).back nl
      refine q l xs _ H' (k.backB (fun z => s1.al l (s.fb l z) nl1) nl1) (k.trans ((Kp.new np).trans k2.all)) ?_ hl hx rfl
      refine hW (fun b hb => ?_) (fun b φ e => k2 b _ (fun z => nomatch z) e) (Wd.new (o := L2.DX.itemsO p a) np r)
      cases e : upd H1 p (L2.DX.itemsO p a) b with
      | none => exact absurd e (W.alive (Wd.new (o := L2.DX.itemsO p a) np r) b hb)
      | some o => rw [k2 b o (fun z => nomatch z) e]
theorem evF_itsS {es : List (Key × Da)} (hW : W.Lax) (so : SortOk (itemsD es)) (h : Ev W te Γ c (· = .dct es)) : EvF W (tCB (rSortIts K) (tCons (tItemsV te) tNil)) Γ c (· = sortD (itemsD es)) := fun H0 B0 B σ H M s hM Q q =>
  h H0 B0 B σ H M s hM _ fun v d H1 k r hd e => by
    subst e
    have s1 := s.keep k r
    have hd0 := hd
    unfold Dat at hd0
    obtain ⟨a, kvs, rfl, ⟨nb, rd⟩, _⟩ := hd0
    refine ⟨a, kvs, rfl, rd, fun p np => ?_⟩
    refine ⟨p, a, B, es, rfl, upd_same, Dat.mono (Kp.new np) _ _ hd, fun b hb => ?_, so, fun H' l xs k2 nl hl hx => ?_⟩
    · rw [upd_ne (fun z => s1.al b hb (by rw [z]; exact np))]
      exact s1.al b hb
    · have nl1 : H1 l = none := (Kp.new (B := []) np).back nl
      refine q l xs _ H' (k.backB (fun z => s1.al l (s.fb l z) nl1) nl1) (k.trans ((Kp.new np).trans k2.all)) ?_ hl hx rfl
      refine hW (fun b hb => ?_) (fun b φ e => k2 b _ (fun z => nomatch z) e) (Wd.new (o := L2.DX.itemsO p a) np r)
      cases e : upd H1 p (L2.DX.itemsO p a) b with
      | none => exact absurd e (W.alive (Wd.new (o := L2.DX.itemsO p a) np r) b hb)
      | some o => rw [k2 b o (fun z => nomatch z) e]
theorem rcF_sortG {ds : List Da} (so : SortOk ds) : RcF W (rSortG K) [.lst ds] (· = sortD ds) := fun B H M vs s hd Q q => by
  unfold Dats at hd
  obtain ⟨v, t, rfl, hv, ht⟩ := hd
  unfold Dats at ht
  subst ht
  refine ⟨B, v, ds, rfl, hv, so, fun p ys np hy => q p ys _ _ np (Kp.new np) (Wd.new np s.dr) upd_same ?_ rfl⟩
  exact Dats.mono (Kp.new np) _ _ (Dats.put np _ _ hy)
theorem evG_dict {es : List (Key × Da)} (h : Ev W te Γ c (· = .dct es)) : EvG W (tCB rDictD (tCons te tNil)) Γ c (· = es) := fun H0 B0 B σ H M s hM Q q =>
  h H0 B0 B σ H M s hM _ fun v d H1 k r hd e => by
    subst e
    have s1 := s.keep k r
    unfold Dat at hd
    obtain ⟨a, kvs, rfl, ⟨nb, rd⟩, hk⟩ := hd
    refine ⟨a, kvs, rfl, rd, fun p np => ?_⟩
    exact q p kvs es _ (k.backB (fun z => s1.al p (s.fb p z) np) np) (k.trans (Kp.new np)) (Wd.new np r) upd_same (Datk.mono (Kp.new np) _ _ (Datk.put np _ _ hk)) rfl
/-! ### dict comprehensions -/
def Turn2 (W : Wd K) (g : TG) (tt : TT) (tk tv : TE) (vs : List Nat) (Γ : List En) (cb : Nat) (d : Da) (Ry : Key → Da → Prop) (Rn : Prop) : Prop :=
  ∃ (Γ' : List En) (Pt : Bool → Prop) (Pk : Key → Prop) (ct ck ce : Nat), Eg W g vs d (wipeE Γ vs) Γ' ∧ ct + ck + ce ≤ cb ∧ EvT W tt Γ' ct Pt ∧ (Pt true → Ev W tk Γ' ck (fun d => ∃ k, d = keyD k ∧ Pk k)) ∧ (∀ k, Pk k → Ev W tv Γ' ce (Ry k)) ∧ (Pt false → Rn)
theorem length_putD (es : List (Key × Da)) (k : Key) (d : Da) : (putD es k d).length ≤ es.length + 1 := by
  unfold putD
  split
  · rw [List.length_map]
    omega
  · rw [List.length_append]
    exact Nat.le_refl _
theorem evG_dc {wi : TI} {g : TG} {vs : List Nat} {c0 cb n : Nat} {Pi : List Da → Prop} {R : List Da → Nat → List (Key × Da) → Prop} (hi : Ei W wi Γ c0 Pi) (h0 : ∀ ds, Pi ds → R ds 0 [])
    (hs : ∀ ds i d acc, Pi ds → ds[i]? = some d → R ds i acc → Turn2 W g tt tk tv vs Γ cb d (fun k e => R ds (i + 1) (putD acc k e)) (R ds (i + 1) acc)) (hn : ∀ ds, Pi ds → ds.length ≤ n) (hz : n ≤ 100000) :
    EvG W (tDc wi g tt tk tv vs) Γ (c0 + n * cb) (fun acc => ∃ ds, Pi ds ∧ R ds ds.length acc) := fun H0 B0 B σ H M s hM Q q =>
  hi H0 B0 B σ H M s (by omega) _ fun J ds H1 k1 r1 hJ pi => by
    intro D nD
    have s1 := s.keep k1 r1
    have nDH : H D = none := k1.backB (fun z => s1.al D (s.fb D z) nD) nD
    have D0 : H0 D = none := s.k0.backB (fun z => s.al D (s.fb D z) nDH) nDH
    have DF : D ∉ W.F := fun z => s1.al D (s.fb D z) nD
    have hlen := hn ds pi
    have noOw : ∀ j, ¬ Ow (L2.wipe σ vs) (wipeE Γ vs) j D := fun j z => s1.fresh nD j (ow_wipe z)
    refine ⟨fun i m H2 => m = ds.length - i ∧ i ≤ ds.length ∧ ∃ acc xs, Sg W H0 B0 (D :: B) (L2.wipe σ vs) (wipeE Γ vs) H2 (M - c0 - i * cb) ∧ Mv B H1 (D :: B) H2 ∧ Kp W.F H1 H2 ∧ H2 D = some (.dK xs) ∧ Datk K (D :: B) H2 xs acc ∧ R ds i acc ∧ acc.length ≤ i, ⟨_, rfl, Nat.zero_le _, [], [], ?_, ?_, Kp.new nD, upd_same, Datk.nil, h0 ds pi, Nat.le_refl _⟩, ?_⟩
    · rw [Nat.zero_mul]
      exact (s1.wipe vs).bar nD (Kp.new nD) (Wd.new nD r1) (by rw [upd_same]; exact Option.some_ne_none _)
    · exact ⟨put_bar nD, Kp.new nD⟩
    · rintro i m H2 ⟨rfl, hi2, acc, xs, s2, m2, k2, hD, hacc, hR, hal⟩
      have hsrc := hJ (D :: B) H2 m2 s2.al
      by_cases hlt : i < ds.length
      · refine Or.inr ⟨(hsrc.1 i hlt).1, fun H3 => ∃ acc xs, Sg W H0 B0 (D :: B) (L2.wipe σ vs) (wipeE Γ vs) H3 (M - c0 - (i + 1) * cb) ∧ Mv B H1 (D :: B) H3 ∧ Kp W.F H1 H3 ∧ H3 D = some (.dK xs) ∧ Datk K (D :: B) H3 xs acc ∧ R ds (i + 1) acc ∧ acc.length ≤ i + 1, fun H3 h3 => ⟨ds.length - (i + 1), by omega, rfl, hlt, h3⟩, fun x H3 hy => ?_⟩
        obtain ⟨k3, n3, d, ed, hd3⟩ := (hsrc.1 i hlt).2 x H3 hy
        have st := mul_step (cb := cb) (Nat.lt_of_lt_of_le hlt hlen)
        have st2 : (i + 1) * cb = i * cb + cb := by rw [Nat.add_mul, Nat.one_mul]
        have r3 : W.Dr (M - c0 - i * cb) H3 := W.pres (fun b hb => by
          cases e : H2 b with
          | none => exact absurd e (W.alive s2.dr b hb)
          | some o => rw [k3 b o (fun z => nomatch z) e]) (fun b φ e => k3 b _ (fun z => nomatch z) e) n3 s2.dr
        have s3 := s2.keep (k3.all) r3
        obtain ⟨Γ', Pt, Pk, ct, ck, ce, hg, hce, hT, hK, hE, hN⟩ := hs ds i d acc pi ed hR
        refine hg H0 B0 (D :: B) _ H3 _ x s3 hd3 _ fun σ' s4 hw => ⟨by
          rw [hw]
          exact wipe_wipe σ vs, ?_⟩
        refine hT H0 B0 (D :: B) σ' H3 _ s4 (by omega) _ fun b H4 k4 r4 pt => ?_
        have hD4 : H4 D = some (.dK xs) := k4 D _ DF (k3 D _ (fun z => nomatch z) hD)
        have m4 : Mv B H1 (D :: B) H4 := m2.trans (Mv.of ((Kp.all k3).trans (s3.toBk.kp k4)))
        have hacc4 : Datk K (D :: B) H4 xs acc := Datk.mono ((Kp.all k3).trans (s3.toBk.kp k4)) acc xs hacc
        have hw4 : ∀ (H5 : Hp) (M5 : Nat), Kp W.F H4 H5 → W.Dr M5 H5 → Sg W H0 B0 (D :: B) (L2.wipe σ vs) (wipeE Γ vs) H5 M5 := fun H5 M5 k5 r5 => (s3.keep k4 r4).keep k5 r5
        cases b with
        | false =>
          show ∃ acc xs, _
          exact ⟨acc, xs, (hw4 H4 _ Kp.refl (W.less r4 (by omega))), m4, (k2.trans k3.all).trans k4, hD4, hacc4, hN pt, by omega⟩
        | true =>
          show tk σ' H4 _
          refine hK pt H0 B0 (D :: B) σ' H4 _ (s4.keep k4 r4) (by omega) _ fun y dy H5 k5 r5 hy5 ⟨kk, ek, pk⟩ => ?_
          subst ek
          refine hE kk pk H0 B0 (D :: B) σ' H5 _ ((s4.keep k4 r4).keep k5 r5) (by omega) _ fun z e H6 k6 r6 hz6 hR6 => ?_
          have hD6 : H6 D = some (.dK xs) := k6 D _ DF (k5 D _ DF hD4)
          have kB : Kp (D :: B) H4 H6 := (s3.keep k4 r4).toBk.kp (k5.trans k6)
          refine ⟨xs, kk, keyD_dat hy5, hD6, by rw [hacc.length]; exact Nat.lt_of_lt_of_le (show acc.length < 100000 by omega) (by decide), putD acc kk e, L2.putK xs kk z, ?_, m4.trans (Mv.of (kB.trans (Kp.mut List.mem_cons_self))), (((k2.trans k3.all).trans k4).trans (k5.trans k6)).late nD, upd_same, ?_, hR6, by have := length_putD acc kk e; omega⟩
          · exact (hw4 H6 _ (k5.trans k6) (W.less r6 (by omega))).upd0 (fun φ e => by rw [hD6] at e; cases e) (fun ps z => HO.noConfusion z) List.mem_cons_self DF D0 noOw
          · exact Datk.mono (Kp.mut List.mem_cons_self) _ _ (Datk.putK hz6 (Datk.mono kB acc xs hacc4))
      · have e : i = ds.length := by omega
        subst e
        have := mul_mono (cb := cb) hlen
        exact Or.inl ⟨hsrc.2, q D xs acc H2 nDH (k1.trans k2) (W.less s2.dr (by omega)) hD hacc ⟨ds, pi, hR⟩⟩
/-! ### enumerate -/
/-- (0, d0), (1, d1), .. -/
def enumD (ds : List Da) : List Da := ds.mapIdx fun i d => .tup [.int i, d]
theorem src_enum {B : List Addr} {H : Hp} {a : Addr} {ds : List Da} (h : Dat K B H (.ref a) (.lst ds)) : Src K B (Ite K a) (enumD ds) H := fun B' H' m al => by
  have h3 := Dat.mv m _ _ h
  unfold Dat at h3
  obtain ⟨a', xs', e, s, hd2⟩ := h3
  cases e
  have el : (enumD ds).length = ds.length := by simp [enumD]
  rw [el]
  refine ⟨fun i hi => ?_, xs', s.sq, by rw [hd2.length]; exact Nat.le_refl _⟩
  have hx : i < xs'.length := by rw [hd2.length]; exact hi
  refine ⟨⟨xs', xs'[i], s.sq, List.getElem?_eq_getElem hx⟩, fun x H2 ⟨T, y, e1, nT, e2, y2⟩ => ?_⟩
  subst e1 e2
  obtain ⟨d, e3, hd3⟩ := hd2.get (y2 xs' s.sq)
  refine ⟨Kp.new nT, Nt.upd (fun ps z => HO.noConfusion z), .tup [.int i, d], by simp [enumD, e3], ?_⟩
  unfold Dat
  exact ⟨T, _, rfl, .of (fun z => al T z nT) upd_same, .cons (by unfold Dat; rfl) (.cons (Dat.mono (Kp.new nT) _ _ hd3) .nil)⟩
theorem ei_enum {P : List Da → Prop} {ta : TA} (h : EvA W ta Γ c (fun ds => ∃ es, ds = [.lst es] ∧ P (enumD es))) : Ei W (iEnum K ta) Γ c P := fun H0 B0 B σ H M s hM R q =>
  h H0 B0 B σ H M s hM _ fun vs ds H1 k r hd ⟨es, e, p⟩ => by
    subst e
    unfold Dats at hd
    obtain ⟨v, t, rfl, hv, ht⟩ := hd
    unfold Dats at ht
    subst ht
    have hv0 := hv
    unfold Dat at hv
    obtain ⟨a, xs, rfl, hs, _⟩ := hv
    exact ⟨a, xs, rfl, hs.sq, q _ _ H1 k r (src_enum hv0) p⟩
end
/-! ### == of two objects of one class -/
def rEqO (C : Addr) (sp : Sp) (E : XK) : R2 := fun x y H Q => ∃ (a b dx dy : Addr) (fs gs : List (Str × V)), x = .ref a ∧ y = .ref b ∧ H a = some (.ins C dx fs) ∧ H b = some (.ins C dy gs) ∧ sp [.ref a, .ref b] H (fun v H' => ∃ k, v = .bl k ∧ Q (.bl k) H') E
theorem op_eqO {X : Cx} {CX : CXT} {C f : Addr} {fd : FuncData} {ps : List Str} {n : Nat} {sp : Sp} {E : XK} (F : FnOk X.prog X.w X.K X.mg X.base CX n f fd ps sp) (hs : PySem.W.findIn X.K (.ref C) "__eq__" = some (some (.ref f))) (hf : PySem.W.isFn X.K (.ref f) = true) (hb : Binds X.K fd ps []) (hx : Passes CX X E) (hr : Room n X.A) :
    OpR X (compareOp .Eq) (rEqO C sp E) := by
  intro pins s σ H x y v u Q I rx ry hq
  obtain ⟨a, b, dx, dy, fs, gs, rfl, rfl, ha, hb', hsp⟩ := hq
  show wpAny (model X.prog X.w) X.A (richCompare .Eq v u) (EP X pins σ Q) X.xe s
  cases rx
  cases ry
  obtain ⟨mA, J, _⟩ := ins_get I.hok ha
  obtain ⟨mB, J', _⟩ := ins_get I.hok hb'
  obtain ⟨od, J, _⟩ := J.look
  obtain ⟨od', J', _⟩ := J'.look
  obtain ⟨m, hF⟩ := I.fr
  refine PySem.W.cmp_K (op := .Eq) (tb := .ref C) hr.units0 hF I.ok.mod.kin J J'.type (by simp [PySem.W.notFirst]) hs hf ?_
  have hl := F.len _ _ _ _ hsp
  have r2 : Vals [V.ref a, V.ref b] [Value.ref a, Value.ref b] := .cons rfl (.cons rfl .nil)
  refine wpAny_call (codeAny_mono (F.run X.A X.stack s H ⟨[.ref a, .ref b], []⟩ [.ref a, .ref b] [.ref a, .ref b] _ E hr I.env0 (by
    have := hb s [.ref a, .ref b] I.kIn (by simpa using hl)
    simpa using this) r2 hsp) fun r s' hq => ?_)
  cases r with
  | error e => exact hx pins σ H s e s' I hq
  | ok fl =>
    cases fl with
    | ret w =>
      obtain ⟨z, H', I', rz, k, ez, ex⟩ := I.after hq
      subst ez
      cases rz
      exact ⟨.bl k, H', I', rfl, ex⟩
    | next => exact False.elim hq
    | brk => exact False.elim hq
    | cont => exact False.elim hq
theorem rv_eqO {K : PySem.W.Frag} {W : Wd K} {C : Addr} {sp : Sp} {E : XK} {fs gs : List (Str × Da)} {P : Da → Prop} (h : Fn W sp [.ins C fs, .ins C gs] 0 (fun d => ∃ k, d = .bl k ∧ P (.bl k))) : Rv W (rEqO C sp E) (.ins C fs) (.ins C gs) P := fun B H M v1 v2 s h1 h2 Q q => by
  have g1 := h1
  have g2 := h2
  unfold Dat at h1 h2
  obtain ⟨a, dx, xs, rfl, ⟨_, ha⟩, _⟩ := h1
  obtain ⟨b, dy, ys, rfl, ⟨_, hb⟩, _⟩ := h2
  refine ⟨a, b, dx, dy, xs, ys, rfl, rfl, ha, hb, ?_⟩
  refine h B H M _ s (Nat.zero_le _) (.cons g1 (.cons g2 .nil)) _ E fun v d H' k r hd ⟨kk, e, p⟩ => ?_
  subst e
  have hd0 := hd
  unfold Dat at hd
  exact ⟨kk, hd, q _ (.bl kk) H' k r (dBl.mpr rfl) p⟩
end WJ
set_option Elab.async false
set_option linter.all false
set_option maxRecDepth 100000
set_option maxHeartbeats 2000000
/-! WjV: an exception that is caught, kept at a name and looked at behind its clause -/
namespace WJ
open PySem L2 PySem.Spec PyProof.Rows
section
variable {X : Cx} {pins : List (Addr × Obj)} {σ : L2.St} {H : Hp} {s : Shared} {a : Addr} {o : HO}
/-- an object that lies there untold is told from now on -/
theorem track (I : Inv X pins σ H s) (z0 : X.s_0.heap.get? a = none) (hn : H a = none) (hL : a ≠ X.env.locals) (hC : ∀ x c, X.env.cells.lookup x = some c → c ≠ a) (hP : ∀ p ∈ X.pn ++ pins, p.1 ≠ a) (new : ObjOk X.prog X.w (upd H a o) s.heap a o) : Inv X pins σ (upd H a o) s := by
  have off : ∀ {b : Addr} {u : HO}, H b = some u → upd H a o b = some u := fun e => by rw [upd_ne (ne_of_none e hn)]; exact e
  refine ⟨I.ok, I.os, I.bare, ⟨I.base.keep, I.base.slot, fun b u e n x => ?_, I.base.there, fun b xs e => off (I.base.tups b xs e), fun b u x e => off (I.base.frzs b u x e), fun b ps e => ?_⟩, I.loc, I.cell, ?_, fun x c e => ?_, fun p hp => ?_, fun b u e => ?_, I.len⟩
  · have hb : b ≠ a := fun z => by
      rw [z, z0] at e
      cases e
    rw [upd_ne hb]
    exact I.base.free b u e n x
  · obtain ⟨m, q⟩ := I.base.tbls b ps e
    exact ⟨m, off q⟩
  · rw [upd_ne (fun z => hL z.symm)]
    exact I.free
  · rw [upd_ne (hC x c e)]
    exact I.freeC x c e
  · obtain ⟨p1, p2, p3⟩ := I.pin p hp
    exact ⟨p1, by rw [upd_ne (hP p hp)]; exact p2, p3⟩
  · by_cases hb : b = a
    · subst hb
      rw [upd_same] at e
      cases e
      exact new
    · rw [upd_ne hb] at e
      exact (I.hok b u e).stay (fun _ _ _ q => q) (fun _ q => off q) fun _ _ q => off q
end
theorem eo_ok {P : Program} {w : World} {H : Hp} {h : Heap} {a : Addr} {cls : Value} {d : Option Addr} {oe : Obj} (e : h.get? a = some oe) (z : Zc cls d oe) (f : ∃ vs, oe.data = .fields vs) : ObjOk P w H h a (EO cls d a) :=
  ⟨⟨oe, e, z, f⟩, ⟨oe, e⟩, fun _ _ ⟨q, q1, q2⟩ k => ⟨q, k q q1, q2⟩⟩
/-- 'except x as n': behind the clause the exception is told -/
def wKeep (K : PySem.W.Frag) (c : Value) (i : Nat) (ts : Addr → Value → Option Addr → TS) (Wout : WX) (D : Ends) : WX := fun cls d σ H => ∃ b, PySem.W.exmOne K cls c = some b ∧ (b = false → Wout cls d σ H) ∧
  (b = true → ∀ a, H a = none → ts a cls d ⟨fun σ' H' => D.nx (σ'.set i none) (upd H' a (EO cls d a)), fun v H' => D.rt v (upd H' a (EO cls d a)), fun σ' H' => D.bk (σ'.set i none) (upd H' a (EO cls d a)), fun σ' H' => D.ct (σ'.set i none) (upd H' a (EO cls d a))⟩ (σ.set i (some (.ref a))) H)
section
variable {X : Cx} {x n : Str} {c : Value} {i : Nat} {bd su : List Stmt} {s1 : Stmt} {np pos pos' : Pos} {tb : WX → TS} {ts : Addr → Value → Option Addr → TS} {Wout : WX}
theorem ps_try_keep (hst : X.stack = X.env :: X.outer) (hfr : X.env.frame = some X.env.locals) (hex : X.ex = []) (nd : X.N.Nodup) (at_ : X.N[i]? = some n) (lo : X.env.kindOf n = some .local) (nm : Names X x c) (out : Takes X Wout)
    (hbd : ∀ (Y : WX) (pn : List (Addr × Obj)) (xe : Value → Shared → Prop), Takes (X.tr pn xe) Y → PassesOwn (model X.prog X.w) X.A X.env xe → PSs (X.tr pn xe) bd (tb Y))
    (hsu : ∀ (a : Addr) (oe : Obj) (cls : Value) (d : Option Addr) (pn : List (Addr × Obj)), Zc cls d oe → (∃ vs, oe.data = .fields vs) → PSs (X.suite a ((a, oe) :: pn)) (s1 :: su) (ts a cls d)) :
    PS X (.Try bd [.ExceptHandler (some (.Name x np)) (some n) (s1 :: su) pos'] [] [] pos) (fun D σ H => tb (wKeep X.K c i ts Wout D) D σ H) := by
  refine ⟨fun pins s σ H D I h => ?_⟩
  have ok := I.ok
  have frm : X.A.frames = some (X.env :: X.outer) := ok.frames.trans (congrArg some hst)
  refine wpAny_Try_except (wpAny_mono ((hbd (wKeep X.K c i ts Wout D) (X.pn ++ pins) (fun e t1 => wpAny (model X.prog X.w) X.A (noteFrame e X.env) (fun _ t2 => wpAny (model X.prog X.w) X.A (setFlight e none)
    (fun _ t3 => wpAny (model X.prog X.w) X.A (handleBy e X.env [.ExceptHandler (some (.Name x np)) (some n) (s1 :: su) pos']) (SP X pins D) X.xe t3) X.xe t2) X.xe t1) (fun u t' caught => ?_) PassesOwn.looking).run [] s σ H D (I.toTry _) h) (fun f t1 fine => ?_) (fun e t1 q => q))
  · obtain ⟨a, G, tI, pins', σ', H', cls, d, rfl, J0, ground, upS, sky, na, hos, bare, b, hb1, hno, hyes⟩ := caught
    have J : Inv X pins σ' H' tI := J0.ofTry ok
    have sky' : Sky G (X.env :: X.outer) a (Zc cls d) X.env.locals t'.heap := hst ▸ sky
    have Ga : G.get? a = none := by
      rcases sky' with q | q | q
      · exact q.2.1
      · exact q.2.1
      · exact q.2.1
    show wpAny (model X.prog X.w) X.A (noteFrame (.ref a) X.env) _ _ _
    refine Sky.land Zc.steady frm hfr sky' fun g3 fly3 lift3 => ?_
    have J3 : Inv X pins σ' H' { t' with heap := g3 } := J.landed ground fly3.1 (upS.trans lift3) hos bare
    obtain ⟨e3, w3, at3, z3, f3⟩ := fly3.there
    have away : a ∉ frs (X.env :: X.outer) := fun hm => by
      obtain ⟨_, e', q', nf⟩ := fly3.2.2.1.mem hm
      rw [at3] at q'
      cases q'
      exact nf _ f3
    have aL : a ≠ X.env.locals := fun z => away (List.mem_filterMap.mpr ⟨X.env, List.mem_cons_self, by rw [hfr, z]⟩)
    have aF : a ∉ X.fs := fun hm => by
      obtain ⟨e, he, q⟩ := List.mem_filterMap.mp hm
      exact away (List.mem_filterMap.mpr ⟨e, List.mem_cons_of_mem _ he, q⟩)
    have aNew : tI.heap.get? a = none := by
      cases q : tI.heap.get? a with
      | none => rfl
      | some oo =>
        rw [ground a oo q (by rw [hst]; exact away)] at Ga
        cases Ga
    have a0 : X.s_0.heap.get? a = none := by
      cases q : X.s_0.heap.get? a with
      | none => rfl
      | some oo =>
        obtain ⟨q2, q3⟩ := J.base.there a oo q (by rw [hex]; exact List.not_mem_nil)
        rw [aNew] at q3
        cases q3
    have aP : ∀ p ∈ X.pn ++ pins, p.1 ≠ a := fun p hp z => by
      have q := (J.pin p hp).1
      rw [z, aNew] at q
      cases q
    have aC : ∀ y cc, X.env.cells.lookup y = some cc → cc ≠ a := fun y cc q z => by
      obtain ⟨v, q2⟩ := J.cell y cc q
      obtain ⟨oo, q3, _⟩ := q2
      rw [z, aNew] at q3
      cases q3
    have P3 := J3.suite at3 f3 na aL aF
    refine wpAny_handleBy_cons (codeAny_handlers_test ?_) (fun q => nomatch q)
    have ty : PySem.W.Looks (model X.prog X.w) g3 (typeOf (.ref a)) cls := fun A Q E r k q => wpAny_typeOf_ref (k _ _ at3) (z3.1.symm ▸ q)
    have look := PySem.W.exm_one (M := model X.prog X.w) J3.kIn ty hb1
    have name_ : ∀ {Q E : Value → Shared → Prop}, Q c { t' with heap := g3 } → wpAny (model X.prog X.w) (X.A.mark (some (.ref a))) (eval (.Name x np) X.env) Q E { t' with heap := g3 } := fun {Q E} q => by
      obtain ⟨gl, db, mm | ⟨mm, bv, nn⟩⟩ := nm
      · exact ld_glob (X := X.suite a ((a, e3) :: (X.pn ++ pins))) P3 gl mm q db
      · exact ld_blt (X := X.suite a ((a, e3) :: (X.pn ++ pins))) P3 gl mm bv q nn db
    refine name_ (look.here ?_)
    cases b with
    | true =>
      refine codeAny_handlers_suite_as (HandSPX.lands_againZ fly3 fun g4 fly4 lift4 => ?_)
      have J4 : Inv X pins σ' H' { t' with heap := g4 } := J.landed ground fly4.1 ((upS.trans lift3).trans lift4) hos bare
      obtain ⟨e4, w4, at4, z4, f4⟩ := fly4.there
      refine store_ok (X := X.suite a ((a, e4) :: (X.pn ++ pins))) (v := .ref a) (J4.suite at4 f4 na aL aF) nd at_ (.inl lo) rfl (fun t5 P5 => ?_) (.inr lo)
      refine wpAny_mono ((hsu a e4 cls d (X.pn ++ pins) z4 ⟨_, f4⟩).run [] t5 _ H' _ P5 (hyes rfl a na)) (fun f t6 got => ?_) (fun _ _ z => z.elim)
      have close : ∀ {τ : L2.St} {H6 : Hp} {Q : Shared → Prop}, Inv (X.suite a ((a, e4) :: (X.pn ++ pins))) [] τ H6 t6 → (∀ t7, Inv X pins (τ.set i none) (upd H6 a (EO cls d a)) t7 → Q t7) →
          wpAny (model X.prog X.w) X.A (do bindName X.env n .none; unbindBehindTheSuite X.env n pos') (fun _ t7 => Q t7) X.xe t6 := fun {τ H6 Q} P6 q => by
        obtain ⟨p1, p2, _⟩ := P6.pin (a, e4) (List.mem_append_left _ List.mem_cons_self)
        exact gone_ok (track (P6.unsuite ok) a0 p2 aL aC aP (eo_ok p1 z4 ⟨_, f4⟩)) nd at_ lo q
      cases f with
      | next =>
        obtain ⟨τ, H6, P6, q6⟩ := got
        exact close P6 fun t7 J7 => ⟨_, _, J7, q6⟩
      | brk =>
        obtain ⟨τ, H6, P6, q6⟩ := got
        exact close P6 fun t7 J7 => ⟨_, _, J7, q6⟩
      | cont =>
        obtain ⟨τ, H6, P6, q6⟩ := got
        exact close P6 fun t7 J7 => ⟨_, _, J7, q6⟩
      | ret u =>
        obtain ⟨v6, τ, H6, P6, r6, q6⟩ := got
        exact close P6 fun t7 J7 => ⟨_, _, _, J7, r6, q6⟩
    | false =>
      show wpAny _ X.A (handleBy (.ref a) X.env []) _ _ _
      refine wpAny_handleBy_nil ?_
      obtain ⟨l1, l2, l3, oe, vs, T, oT, tr, he, hz, hd, h1, hr⟩ := id fly3
      unfold PySem.passOn
      refine wpAny_bind (wpAny_field he hd h1 ?_)
      rw [if_neg (show ¬ ((Value.ref T == Value.none) = true) from by simp)]
      have go : wpAny (model X.prog X.w) X.A (setFlight (.ref a) X.env.frame) (fun _ t4 => wpAny (model X.prog X.w) X.A (throw (.ref a) : Sem Flow) (SP X pins D) X.xe t4) X.xe { t' with heap := g3 } := by
        rw [hfr]
        refine HandSPX.setFlight_upZ fly3 fun g4 fly4 lift4 => wpAny_throw (out _ _ ?_)
        exact ⟨a, G, tI, pins, σ', H', cls, d, rfl, J, ground, (upS.trans lift3).trans lift4, .inr (.inr (hst.symm ▸ fly4)), na, hos, bare, hno rfl⟩
      first
        | exact wpAny_bind (wpAny_pure (wpAny_bind go))
        | exact wpAny_bind go
  · cases f with
    | next =>
      obtain ⟨σ', H', J', q⟩ := fine
      exact wpAny_execs_nil ⟨σ', H', J'.ofTry ok, q⟩
    | brk =>
      obtain ⟨σ', H', J', q⟩ := fine
      exact ⟨σ', H', J'.ofTry ok, q⟩
    | cont =>
      obtain ⟨σ', H', J', q⟩ := fine
      exact ⟨σ', H', J'.ofTry ok, q⟩
    | ret u =>
      obtain ⟨v, σ', H', J', r, q⟩ := fine
      exact ⟨v, σ', H', J'.ofTry ok, r, q⟩
end
/-- isinstance(e, c), e a told exception without fields -/
def rIsX (K : PySem.W.Frag) : List V → Hp → VK → Prop := fun xs H Q => ∃ (a D : Addr) (c : V) (u : Value) (b : Bool), xs = [.ref a, c] ∧ ClsV c u ∧ H a = some (EO (.ref D) none a) ∧ ExcC K D ∧ PySem.W.kitOne K (.ref D) u = some b ∧ Q (.bl b) H
theorem call_isX {X : Cx} : CallR X (.builtin "isinstance") (rIsX X.K) := by
  intro pins s σ H xs us Q I r h
  obtain ⟨a, D, c, u, b, rfl, hc, ha, C, e, q⟩ := h
  obtain ⟨v1, v2, rfl, r1, r2⟩ := vals2 r
  cases r1
  have ec := hc.eq r2
  subst ec
  obtain ⟨oe, hget, hz, vs, hv⟩ := (show ObjOk X.prog X.w H s.heap a (EO (.ref D) none a) from I.hok a _ ha).1
  have J : PySem.W.InstAt s.heap a oe D none := by
    obtain ⟨oc, od, oda, osl⟩ := oe
    obtain ⟨h1, h2⟩ := hz
    dsimp only at h1 h2 hv
    subst h1 h2 hv
    exact ⟨hget, rfl, rfl, trivial⟩
  exact PySem.W.kia_one (PySem.W.handS_kitx_exc C.hg C.hk C.hs C.hd C.ha C.hn C.ht C.hm) I.kIn J e (fun z => nomatch z) fun tk => ⟨.bl b, H, I.kept (t' := tk) fun _ _ z => z, rfl, q⟩
def rIsiX (K : PySem.W.Frag) : List V → Hp → VK → Prop := fun xs H Q => rIsiA K xs H Q ∨ rIsX K xs H Q
theorem o_isiX {X : Cx} (K : PySem.W.Frag) (hK : X.K = K := by rfl) : CallR X (.builtin "isinstance") (rIsiX K) := orC (o_isi K hK) (hK ▸ call_isX)
section
variable {K : PySem.W.Frag} {W : Wd K} {P : Da → Prop}
theorem rc_isiX {ds : List Da} (h : Rc W (rIsiA K) ds P) : Rc W (rIsiX K) ds P := fun B H M vs s hd Q q => Or.inl (h B H M vs s hd Q q)
end
end WJ
set_option Elab.async false
set_option linter.all false
set_option maxRecDepth 100000
set_option maxHeartbeats 2000000
/-! WjX: what stands in the module (classes, properties, defs that raise), calls by keyword, defs that raise over data -/
namespace WJ
open PySem L2
section
variable {X : Cx}
theorem p_enum (K : PySem.W.Frag) {e : Expr} {ta : TA} {p pos tpos : Pos} {elts : List Expr} {kk : Nat} (hg : Gl X "enumerate") (hm : X.mg "enumerate" = none) (ha : PA X [e] ta) (hs : starEach [e] X.env = [(false, eval e X.env)] := by rfl) (hK : X.K = K := by rfl) :
    PI X (.Tuple elts kk tpos) (.Call (.Name "enumerate" p) [e] [] pos) (iEnum K ta) := hK ▸ pi_enum hg hm ha hs
/-- a class of the module: its __init__ keeps sp -/
structure Mkd (P : Program) (w : World) (K : PySem.W.Frag) (mg : Str → Option Value) (base : Heap) (k : Nat) (x : Str) (C : Addr) (ps : List Str) (sp : Sp) : Prop where
  ex : ∃ (f : Addr) (fd : FuncData), Mk K C f ∧ FnOk P w K mg base CX0 k f fd ps sp ∧ mg x = some (.ref C) ∧ Binds K fd ps []
theorem pe_mk {k j : Nat} {x : Str} {C : Addr} {ps : List Str} {sp : Sp} {e : Expr} {es : List Expr} {t : TA} {p pos : Pos} (h : Mkd X.prog X.w X.K X.mg X.base j x C ps sp) (hr : Room k X.A) (hj : j + 1 ≤ k) (hg : Gl X x) (ha : PA X (e :: es) t)
    (hdb : (x == ("__debug__" : Str)) = false := by decide) (he : starEach (e :: es) X.env = (false, eval e X.env) :: starEach es X.env := by rfl) (hpl : (backTo pos (starEach es X.env)).any (·.1) = false := by rfl) :
    PE X (.Call (.Name x p) (e :: es) [] pos) (tMake C sp [] E0 t) := by
  obtain ⟨f, fd, M, F, hm, hb⟩ := h.ex
  exact pe_make M F (hr.mono hj) hg hm hb .nil pass0 ha hdb he hpl
/-- a property of the class at C -/
structure Prp (P : Program) (w : World) (K : PySem.W.Frag) (mg : Str → Option Value) (base : Heap) (k : Nat) (C : Addr) (f : Str) (ps : List Str) (sp : Sp) : Prop where
  cl : Cls K C
  ex : ∃ (p g : Addr) (fd : FuncData), PropOf K C f p g ∧ FnOk P w K mg base CX0 k g fd ps sp ∧ Binds K fd ps []
theorem pe_prp {k j : Nat} {C : Addr} {f : Str} {ps : List Str} {sp : Sp} {e : Expr} {ta : TE} {pos : Pos} (h : Prp X.prog X.w X.K X.mg X.base j C f ps sp) (hr : Room k X.A) (hj : j + 1 ≤ k) (he : PE X e ta)
    (hab : attributeBase e f X.env (eval e X.env) = eval e X.env := by rfl) : PE X (.Attribute e f pos) (tProp C sp [] E0 ta) := by
  obtain ⟨p, g, fd, hp, F, hb⟩ := h.ex
  exact pe_prop he h.cl hp F (hr.mono hj) hb .nil pass0 hab
/-- the own == of the class at C -/
structure Eqo (P : Program) (w : World) (K : PySem.W.Frag) (mg : Str → Option Value) (base : Heap) (k : Nat) (C : Addr) (ps : List Str) (sp : Sp) : Prop where
  ex : ∃ (f : Addr) (fd : FuncData), PySem.W.findIn K (.ref C) "__eq__" = some (some (.ref f)) ∧ PySem.W.isFn K (.ref f) = true ∧ FnOk P w K mg base CX0 k f fd ps sp ∧ Binds K fd ps []
theorem o_eqO {k j : Nat} {C : Addr} {ps : List Str} {sp : Sp} (h : Eqo X.prog X.w X.K X.mg X.base j C ps sp) (hr : Room k X.A) (hj : j ≤ k) : OpR X (compareOp .Eq) (rEqO C sp E0) := by
  obtain ⟨f, fd, hs, hf, F, hb⟩ := h.ex
  exact op_eqO F hs hf hb pass0 (hr.mono hj)
/-- a def that may raise -/
structure FndX (P : Program) (w : World) (K : PySem.W.Frag) (mg : Str → Option Value) (base : Heap) (k : Nat) (x : Str) (ps : List Str) (sp : Sp) : Prop where
  ex : ∃ (f : Addr) (fd : FuncData), FnOk P w K mg base (L2.CX P w) k f fd ps sp ∧ mg x = some (.ref f) ∧ PySem.W.keepIn K (.ref f) = true ∧ Binds K fd ps []
theorem pe_funX {k j : Nat} {x : Str} {ps : List Str} {sp : Sp} {e : Expr} {es : List Expr} {t : TA} {p pos : Pos} (h : FndX X.prog X.w X.K X.mg X.base j x ps sp) (hr : Room k X.A) (hj : j ≤ k) (hg : Gl X x) (ha : PA X (e :: es) t)
    (hdb : (x == ("__debug__" : Str)) = false := by decide) (he : starEach (e :: es) X.env = (false, eval e X.env) :: starEach es X.env := by rfl) (hpl : (backTo pos (starEach es X.env)).any (·.1) = false := by rfl) :
    PE X (.Call (.Name x p) (e :: es) [] pos) (tCall sp [] E0 t) := by
  obtain ⟨f, fd, F, hm, hk, hb⟩ := h.ex
  exact pe_call F (hr.mono hj) hg hm hk hb .nil passL ha hdb he hpl
/-- where what it raises is let out -/
theorem pe_funS {k j : Nat} {x : Str} {ps : List Str} {sp : Sp} {e : Expr} {es : List Expr} {t : TA} {p pos : Pos} {Y : WX} (h : FndX X.prog X.w X.K X.mg X.base j x ps sp) (hr : Room k X.A) (hj : j ≤ k) (hg : Gl X x) (tk : Takes X Y) (ha : PA X (e :: es) t)
    (hdb : (x == ("__debug__" : Str)) = false := by decide) (he : starEach (e :: es) X.env = (false, eval e X.env) :: starEach es X.env := by rfl) (hpl : (backTo pos (starEach es X.env)).any (·.1) = false := by rfl) :
    PE X (.Call (.Name x p) (e :: es) [] pos) (tCallS sp (WE Y) t) := by
  obtain ⟨f, fd, F, hm, hk, hb⟩ := h.ex
  exact pe_callS F (hr.mono hj) hg hm hk hb (fun σ => passAt tk σ) ha hdb he hpl
/-- f(k = e), f of the one parameter k -/
theorem pe_kw1 {CX : CXT} {k : Nat} {f : Addr} {fd : FuncData} {x q : Str} {sp : Sp} {e : Expr} {te : TE} {p pos kpos : Pos} (F : FnOk X.prog X.w X.K X.mg X.base CX k f fd [q] sp) (hr : Room k X.A) (hg : Gl X x) (hm : X.mg x = some (.ref f)) (hk : PySem.W.keepIn X.K (.ref f) = true)
    (h0 : Binds X.K fd [q] []) (hb : ∀ (s : Shared) (u : Value), X.K.In s.heap → BindsTo s fd ⟨[], [(q, u)]⟩ [(q, u)]) (hx : Passes CX X E0) (he : PE X e te) (hdb : (x == ("__debug__" : Str)) = false := by decide) :
    PE X (.Call (.Name x p) [] [⟨some q, e, kpos⟩] pos) (tCall sp [] E0 (tCons te tNil)) := by
  refine ⟨fun pins s σ H Q I h => ?_⟩
  refine wpAny_Call_Name_kw (ld_glob I hg hm ?_ hdb)
  have hkw : PK X [⟨some q, e, kpos⟩] (tCons te tNil) := pk_cons he pk_nil
  refine PySem.W.callWith_KW0 (h₀ := X.base) I.ok.mod.kin hk (by rfl) ?_ (by rfl)
  refine thn (hkw.run pos pins s σ H _ I h) fun ws s2 ⟨zs, H2, I2, rz, q2⟩ => ⟨I2.kIn, ?_⟩
  have q2' : sp (zs ++ []) H2 Q E0 := q2
  rw [List.append_nil] at q2'
  have hl := F.len _ _ _ _ q2'
  have hb2 : KBinds X.K fd [q] [q] (fun us ws => us ++ ws) (fun vs zs => vs ++ zs) := ⟨fun s us ws KI hw => by
    match us, ws, hw with
    | [], [u], _ => exact hb s u KI
    | [u], [], _ =>
      have z := h0 s [u] KI (by simp)
      simpa using z, fun r1 r2 => Vals.append r1 r2⟩
  exact run_fnk (us := []) (vs := []) (ks := [q]) F hr hb2 hx I2 .nil rz q2'
/-- .. by the module's names -/
structure Kw1 (P : Program) (w : World) (K : PySem.W.Frag) (mg : Str → Option Value) (base : Heap) (CX : CXT) (k : Nat) (x q : Str) (sp : Sp) : Prop where
  ex : ∃ (f : Addr) (fd : FuncData), FnOk P w K mg base CX k f fd [q] sp ∧ mg x = some (.ref f) ∧ PySem.W.keepIn K (.ref f) = true ∧ Binds K fd [q] [] ∧ ∀ (s : Shared) (u : Value), K.In s.heap → BindsTo s fd ⟨[], [(q, u)]⟩ [(q, u)]
theorem pe_funK {k j : Nat} {x q : Str} {sp : Sp} {e : Expr} {te : TE} {p pos kpos : Pos} (h : Kw1 X.prog X.w X.K X.mg X.base CX0 j x q sp) (hr : Room k X.A) (hj : j ≤ k) (hg : Gl X x) (he : PE X e te) (hdb : (x == ("__debug__" : Str)) = false := by decide) :
    PE X (.Call (.Name x p) [] [⟨some q, e, kpos⟩] pos) (tCall sp [] E0 (tCons te tNil)) := by
  obtain ⟨f, fd, F, hm, hk, h0, hb⟩ := h.ex
  exact pe_kw1 F (hr.mono hj) hg hm hk h0 hb pass0 he hdb
theorem pe_funKX {k j : Nat} {x q : Str} {sp : Sp} {e : Expr} {te : TE} {p pos kpos : Pos} (h : Kw1 X.prog X.w X.K X.mg X.base (L2.CX X.prog X.w) j x q sp) (hr : Room k X.A) (hj : j ≤ k) (hg : Gl X x) (he : PE X e te) (hdb : (x == ("__debug__" : Str)) = false := by decide) :
    PE X (.Call (.Name x p) [] [⟨some q, e, kpos⟩] pos) (tCall sp [] E0 (tCons te tNil)) := by
  obtain ⟨f, fd, F, hm, hk, h0, hb⟩ := h.ex
  exact pe_kw1 F (hr.mono hj) hg hm hk h0 hb passL he hdb
end
/-! ### defs that may raise, over data -/
/-- a promise, and which arguments it raises at (an exception of the class cls, without fields) -/
def spX {K : PySem.W.Frag} (C : Ct K) (R : Wd K → List Da → Value → Prop) : Sp := fun vs H Q E => spD C vs H Q E ∨ ∃ (W : Wd K) (B : List Addr) (M : Nat) (ds : List Da) (cls : Value), R W ds cls ∧ Bk W B H M ∧ Dats K B H vs ds ∧ ∀ H', Kp W.F H H' → W.Dr M H' → E cls none H'
theorem fn_of_ctX {K : PySem.W.Frag} {C : Ct K} {R : Wd K → List Da → Value → Prop} {W : Wd K} {ds : List Da} {c : Nat} {P : Da → Prop} (h : C W ds c P) : Fn W (spX C R) ds c P := fun B H M vs s hM hd Q E q => Or.inl ⟨W, B, M, ds, c, P, h, s, hM, hd, q⟩
/-- a block that raises -/
def EsE {K : PySem.W.Frag} (W : Wd K) (t : TS) (Γ : List En) (cls : Value) (E : XK) : Prop :=
  ∀ (H0 : Hp) (B0 B : List Addr) (σ : L2.St) (H : Hp) (M : Nat) (D : Ends), Sg W H0 B0 B σ Γ H M → (∀ H', Kp W.F H0 H' → W.Dr M H' → E cls none H') → t D σ H
section
variable {K : PySem.W.Frag} {W : Wd K} {Γ : List En} {t u : TS} {tt : TT} {cls : Value} {E : XK}
theorem esE_seq (h : EsE W t Γ cls E) : EsE W (tSeq t u) Γ cls E := fun H0 B0 B σ H M D s q => h H0 B0 B σ H M _ s q
theorem esE_then (hT : EvT W tt Γ 0 (· = true)) (h : EsE W t Γ cls E) : EsE W (tIfS tt t u) Γ cls E := fun H0 B0 B σ H M D s q =>
  hT H0 B0 B σ H M s (Nat.zero_le _) _ fun b H1 k1 r1 e => by
    have e' : b = true := e
    subst e'
    show t D σ H1
    exact h H0 B0 B σ H1 M D (s.keep k1 r1) q
theorem esE_raise (C : Addr) : EsE W (fun _ σ H => (fun (_ : L2.St) (H : Hp) (Q : XK) => Q (.ref C) none H) σ H fun cls d H' => (fun cls d (_ : L2.St) H => E cls d H) cls d σ H') Γ (.ref C) E := fun H0 B0 B σ H M D s q => q H s.k0 s.dr
theorem esE_call {T : Ct K} {R : Wd K → List Da → Value → Prop} {ta : TA} {ds : List Da} (hr : R W ds cls) (ha : EvA W ta Γ 0 (· = ds)) : EsE W (tDrop (tCallS (spX T R) (WE fun cls d _ H => E cls d H) ta)) Γ cls E := fun H0 B0 B σ H M D s q =>
  ha H0 B0 B σ H M s (Nat.zero_le _) _ fun vs ds' H1 k1 r1 hd e => by
    have e' : ds' = ds := e
    subst e'
    have s1 := s.keep k1 r1
    exact Or.inr ⟨W, B, M, _, cls, hr, s1.toBk, hd, fun H' k r => q H' (s1.k0.trans k) r⟩
end
theorem fn_dataX {Pr : Program} {w : World} {K : PySem.W.Frag} {mg : Str → Option Value} {base : Heap} {x qual : Str} {params : Arguments} {body : List Stmt} {scope : Scope} {dvs : List V} {kws : List (Str × V)} {f : Addr} {fd : FuncData} {N ps : List Str} {k : Nat} {C : Ct K} {R : Wd K → List Da → Value → Prop}
    (F : FunD K x qual params body scope dvs kws f fd) (S : FnScope N ps scope) (len : ∀ W ds c P, C W ds c P → ds.length = ps.length) (lenR : ∀ W ds cls, R W ds cls → ds.length = ps.length) (hps : ps.length ≤ N.length)
    (hbody : ∀ (cdv : Value) (A : Around) (outer : List Env) (s : Shared) (H : Hp) (E : XK), Room k (A.deeper (PyProof.Rows.envOfC qual scope s.heap.objs.size f cdv)) →
      ∃ t, PSs (cxOf (L2.CX Pr w) Pr w K mg base N qual scope f cdv A outer s H E) body t ∧ (∀ W ds c P, C W ds c P → Es W t (startE N ds) c ⟨fun _ => P .non, P, fun _ => False, fun _ => False⟩) ∧ ∀ W ds cls, R W ds cls → EsE W t (startE N ds) cls E) : FnOk Pr w K mg base (L2.CX Pr w) (k + 1) f fd ps (spX C R) := by
  refine F.ok S (fun vs H Q E h => ?_) (fun cdv A outer s H vs Q E hr h => ?_)
  · rcases h with ⟨W, B, M, ds, c, P, hC, _, _, hd, _⟩ | ⟨W, B, M, ds, cls, hR, _, hd, _⟩
    · rw [hd.length]
      exact len W ds c P hC
    · rw [hd.length]
      exact lenR W ds cls hR
  · obtain ⟨t, ht, hE, hX⟩ := hbody cdv A outer s H E hr
    refine ⟨t, ht, ?_⟩
    rcases h with ⟨W, B, M, ds, c, P, hC, hb, hM, hd, q⟩ | ⟨W, B, M, ds, cls, hR, hb, hd, q⟩
    · have s0 : Sg W H B B (L2.start N vs) (startE N ds) H M := Sg.start hb hd (by rw [len W ds c P hC]; exact hps)
      exact hE W ds c P hC H B B _ H M _ s0 hM (fun B' σ' Γ' H' s' m' n' => q .non .non H' s'.k0 s'.dr (by unfold Dat; rfl) n') (fun v d H' k' r' hd' p' => q v d H' k' r' hd' p') (fun _ _ _ _ _ _ z => z.elim) (fun _ _ _ _ _ _ z => z.elim)
    · have s0 : Sg W H B B (L2.start N vs) (startE N ds) H M := Sg.start hb hd (by rw [lenR W ds cls hR]; exact hps)
      exact hX W ds cls hR H B B _ H M _ s0 q
/-- try: f(x) / except C as e: y = e, where f raises an exception of the clause: slots j of y, i of e -/
theorem es_tryKeep {K : PySem.W.Frag} {W : Wd K} {Γ : List En} {T : Ct K} {R : Wd K → List Da → Value → Prop} {ta : TA} {ds : List Da} {cls c : Value} {i j : Nat} {Wout : WX} {p : Po} (hr : R W ds cls) (ha : EvA W ta Γ 0 (· = ds)) (hij : i ≠ j) (hi : i < Γ.length)
    (hx : PySem.W.exmOne K cls c = some true) (hp : p.nx ((Γ.set j (.dat (.exc cls []))).set i .no)) : Es W (fun D σ H => tDrop (tCallS (spX T R) (WE (wKeep K c i (fun _ _ _ => tAsg (tVar i) (gName j)) Wout D)) ta) D σ H) Γ 0 p := fun H0 B0 B σ H M D s hM a b e f =>
  ha H0 B0 B σ H M s (Nat.zero_le _) _ fun vs ds' H1 k1 r1 hd e' => by
    have e2 : ds' = ds := e'
    subst e2
    have s1 := s.keep k1 r1
    refine Or.inr ⟨W, B, M, _, cls, hr, s1.toBk, hd, fun H2 k2 r2 => ?_⟩
    refine ⟨true, hx, (fun z => Bool.noConfusion z), fun _ ea na => ?_⟩
    have s2 := s1.keep k2 r2
    have hl : i < σ.length := by rw [s.ln]; exact hi
    refine ⟨.ref ea, List.getElem?_set_self hl, ?_⟩
    show D.nx (((σ.set i (some (.ref ea))).set j (some (.ref ea))).set i none) (upd H2 ea (EO cls none ea))
    have es : ((σ.set i (some (.ref ea))).set j (some (.ref ea))).set i none = (σ.set j (some (.ref ea))).set i none := by
      rw [List.set_comm _ _ hij, List.set_set]
    rw [es]
    have s3 : Sg W H0 B0 B σ Γ (upd H2 ea (EO cls none ea)) M := s2.keep (Kp.new na) (Wd.new na r2)
    have hdat : Dat K B (upd H2 ea (EO cls none ea)) (.ref ea) (.exc cls []) := by
      unfold Dat
      exact ⟨ea, none, [], rfl, ⟨s2.toBk.free na, upd_same⟩, Or.inl ⟨rfl, rfl⟩, by unfold Datf; rfl⟩
    exact a B _ _ _ ((s3.setD hdat).set (i := i) (o := none) (e := .no) rfl trivial) (Mv.of ((s.toBk.kp k1).trans ((s1.toBk.kp k2).trans (Kp.new na)))) hp
theorem rc_isE {K : PySem.W.Frag} {W : Wd K} {P : Da → Prop} {D : Addr} {x : Da} {c : V} {u : Value} {b : Bool} (hc : ∀ (B : List Addr) (H : Hp) (v : V), Dat K B H v x → v = c) (hu : ClsV c u) (C : ExcC K D) (hk : PySem.W.kitOne K (.ref D) u = some b) (p : P (.bl b)) : Rc W (rIsiX K) [.exc (.ref D) [], x] P := fun B H M vs s h Q q => by
  unfold Dats at h
  obtain ⟨v, r, rfl, h1, t1⟩ := h
  unfold Dats at t1
  obtain ⟨v2, r2, rfl, h2, t2⟩ := t1
  unfold Dats at t2
  subst t2
  have e2 := hc B H v2 h2
  subst e2
  unfold Dat at h1
  obtain ⟨a, d, xs, rfl, ⟨nb, hx⟩, ef, hf⟩ := h1
  unfold Datf at hf
  subst hf
  rcases ef with ⟨rfl, _⟩ | ⟨dx, _, z, _⟩
  · exact Or.inr ⟨a, D, v2, u, b, rfl, hu, hx, C, hk, q _ (.bl b) H Kp.refl s.dr (dBl.mpr rfl) p⟩
  · exact absurd rfl z
theorem rc_isET {K : PySem.W.Frag} {W : Wd K} {P : Da → Prop} {D : Addr} {n : String} {b : Bool} (C : ExcC K D) (hk : PySem.W.kitOne K (.ref D) (.type n) = some b) (p : P (.bl b)) : Rc W (rIsiX K) [.exc (.ref D) [], .ty n] P :=
  rc_isE (fun B H v h => by unfold Dat at h; exact h) (.ty n) C hk p
theorem rc_isEO {K : PySem.W.Frag} {W : Wd K} {P : Da → Prop} {D C' : Addr} {b : Bool} (C : ExcC K D) (hk : PySem.W.kitOne K (.ref D) (.ref C') = some b) (p : P (.bl b)) : Rc W (rIsiX K) [.exc (.ref D) [], .obj C'] P :=
  rc_isE (fun B H v h => by unfold Dat at h; exact h) (.own C') C hk p
end WJ
set_option Elab.async false
set_option linter.all false
set_option maxRecDepth 100000
set_option maxHeartbeats 4000000
/-! WkA: own exception classes whose __init__ says super().__init__(text) and keeps one field -/
namespace WJ
open PySem PySem.Spec PyProof.Rows L2
/-- what the written part says of such a class -/
structure XiC (K : PySem.W.Frag) (C : Addr) : Prop where
  oex : OexC K C
  cs : PySem.W.nsIn K cStatics "thirdparty.any" = some none
  su : PySem.W.ks_superIn K C C "__init__" = some (some (.builtin "ValueError.__init__"))
  ve : PySem.W.subIn K (.ref C) (.type "ValueError") = some true
  me : PySem.W.mroIn K C (.ref C) = some true
  ns : PySem.W.nsIn K mainGlobals "super" = some none
def spXi (C : Addr) (fld : Str) : Sp := fun vs H Q _ => ∃ (a : Addr) (v : V), vs = [.ref a, v] ∧ H a = some (exo a C none) ∧ ∀ dx, H dx = none → dx ≠ a → Q .non (upd (upd H dx (exd dx [(fld, v)])) a (exo a C (some dx)))
section
variable {prog : Program} {w : World} {A : Around} {E : Value → Shared → Prop} {h : Heap} {g : Array GenState} {d : Drawn} {t : Nat} {os : OsState} {u e C t0 : Addr}
theorem ldL {M : Model} {s : Shared} {env : Env} {m : Str → Option Value} {x : Str} {pos : Pos} {v : Value} {Q : Value → Shared → Prop} (hn : s.heap.Ns env.locals m) (hv : m x = some v) (h : Q v s) (hk : env.scope.kind = .function) (hl : env.kindOf x = some .local) (hd : (x == ("__debug__" : Str)) = false := by decide) :
    wpAny M A (eval (.Name x pos) env) Q E s := wpAny_Name (wpAny_loadName_local hk hl hn hv h) hd
/-- the bound ValueError.__init__, called -/
theorem call_mw {nm q : Str} {N : Addr} {bs bm : List Value} {hdct : Bool} {sn : List Str} {sub : List Value} {ab : Bool} {col : Option Bool} {dd : Option Addr} {k0 k1 k2 k3 k5 : Option Value} {rest : List Value} {Q : Value → Shared → Prop}
    (hC : h.get? C = some (excClassObj nm q C N bs bm hdct sn sub ab col dd k0 k1 k2 k3 k5 "ValueError.__new__")) (he : h.get? e = some (HandSPX.excO C t0)) (hu : h.get? u = some (PySem.W.kxs_mw "ValueError.__init__" e)) (hrest : rest.length ≤ sizeLine)
    (hq : ∀ h' t1, (∀ b o, b ≠ e → h.get? b = some o → h'.get? b = some o) → h'.get? e = some (HandSPX.excO C t1) → Q .none ⟨h', g, d, t, os⟩) :
    wpAny (model prog w) A (call (.ref u) rest) Q E ⟨h, g, d, t, os⟩ := by
  refine wpAny_call (codeAny_of_tree ?_)
  show wpAny _ A.in1 (callAny (.ref u) ⟨rest, []⟩) _ _ _
  simp only [callAny]
  refine wpAny_bind (wpAny_load hu ?_)
  simp only [PySem.W.kxs_mw, show (Value.type "method-wrapper" == Value.type "method" || Value.type "method-wrapper" == Value.type "builtin_function_or_method" || Value.type "method-wrapper" == Value.type "method-wrapper") = true by decide, if_true]
  refine PySem.W.KFB.if_so (by decide) ?_
  refine wpAny_bind (PySem.W.check_bound_init F.excBase_ValueError.toExcCallFacts hC he rfl ?_)
  refine wpAny_bind (wpAny_pure (wpAny_pure ?_))
  refine ⟨plainId_quiet F.excBase_ValueError.init.plain _, codeAny_builtin F.excBase_ValueError.initEntry ?_⟩
  exact PySem.W.exc_init_tree (cls := .ref C) (t0 := t0) (dv := none) (c2 := .none) (c3 := .none) (b4 := .bool false) he hrest fun h' k e1 _ => hq h' h.objs.size k e1
end
section
variable {P : Program} {w : World} {K : PySem.W.Frag} {mg : Str → Option Value} {base : Heap} {f C cda cc : Addr} {name qual fld par txt : Str} {params : Arguments} {body : List Stmt} {scope : Scope} {kV doc pm ct oc : Value} {an od : Option Addr} {osl : Array (Option Value)}
theorem fn_xi {ar : Arg} {vs : Array Value} {file : Str} {tf : Tok} {ccl cl : Value} {cdd cld : Option Addr} {ccs csl : Array (Option Value)} {p0 p1 p2 p3 p4 p5 q0 q1 q2 q3 : Pos} {kk : Nat} {pl : Nat → Sem Bool}
    (T : XiC K C) (hno : PySem.W.findIn K (.ref C) fld = some none)
    (lk : K.lookup f = some ⟨oc, od, .func (PySem.W.ksFn name qual params body scope .none kV doc pm an (.ref cda) ct cc), osl⟩) (hcd : PySem.W.codeIn K (.ref cda) qual = true)
    (hcode : K.lookup cda = some ⟨ccl, cdd, .fields vs, ccs⟩) (hvs : vs[2]? = some (.str file tf)) (hfile : ((P.main.file : Str) == file) = true) (htop : (P.main.scope.names.lookup ("super" : Str)).isSome = false)
    (hcell : K.lookup cc = some ⟨cl, cld, .cell (some (.ref C)), csl⟩) (hp : (params.posonlyargs ++ params.args).head? = some ar) (har : ar.arg = "self")
    (hbody : body = [.Expr (.Call (.Attribute (.Call (.Name "super" p0) [] [] p1) "__init__" p2) [.Constant (.str txt) kk p3] [] p4) p5, .Assign [.Attribute (.Name "self" q0) fld q1] (.Name par q2) q3])
    (hks : scope.names.lookup ("super" : Str) = some .globalImplicit) (hkc : scope.names.lookup ("__class__" : Str) = some .free) (hka : scope.names.lookup ("self" : Str) = some .local) (hkp : scope.names.lookup par = some .local) (hsp : par ≠ "self") (hdp : (par == ("__debug__" : Str)) = false)
    (hcells : ∀ x ∈ scope.names, x.2 ≠ .cell) (hco : scope.isCoroutine = false) (hgen : scope.isGenerator = false) (hk : scope.kind = .function)
    (he : ∀ L, eval (.Call (.Attribute (.Call (.Name "super" p0) [] [] p1) "__init__" p2) [.Constant (.str txt) kk p3] [] p4) (PySem.W.ksEnv qual scope L f (.ref cda) cc) = (do
      let ov ← attributeBase (.Call (.Name "super" p0) [] [] p1) "__init__" (PySem.W.ksEnv qual scope L f (.ref cda) cc) (eval (.Call (.Name "super" p0) [] [] p1) (PySem.W.ksEnv qual scope L f (.ref cda) cc))
      standAt p2.atName
      let (fn, first) ← holding [ov] (getMethod ov "__init__" (pl L))
      callWith p4 fn first (backTo p4 (starEach [.Constant (.str txt) kk p3] (PySem.W.ksEnv qual scope L f (.ref cda) cc))) []))
    (hi : ∀ L, interactive (PySem.W.ksEnv qual scope L f (.ref cda) cc) = false)
    (hs1 : ∀ L, swapsWith (.Call (.Attribute (.Call (.Name "super" p0) [] [] p1) "__init__" p2) [.Constant (.str txt) kk p3] [] p4) none p5.line (PySem.W.ksEnv qual scope L f (.ref cda) cc) = pure false)
    (hs2 : ∀ L, swapsWith (.Name par q2) (some (.Attribute (.Name "self" q0) fld q1)) q3.line (PySem.W.ksEnv qual scope L f (.ref cda) cc) = pure false) :
    FnOk P w K mg base CX0 1 f (PySem.W.ksFn name qual params body scope .none kV doc pm an (.ref cda) ct cc) ["self", par] (spXi C fld) := by
  refine ⟨fun vs H Q E h => ?_, fun A outer s H args us vs' Q E hr e0 hb r hsp' => ?_⟩
  · obtain ⟨_, _, rfl, _⟩ := h
    rfl
  obtain ⟨a, v, rfl, ea, q⟩ := hsp'
  obtain ⟨u1, u2, rfl, r1, r2⟩ := vals2 r
  obtain rfl : u1 = Value.ref a := r1
  have KX : K.In s.heap := e0.mod.kin.keeps fun b o e => (e0.bs b o e).1
  have lim : s.heap.NoLimit := e0.mod.nolimit.keeps fun b o e => (e0.bs b o e).1
  obtain ⟨t1, ho⟩ := exo_at e0.hok ea
  obtain ⟨nm, qn, N, bs, bm, sn, sub, ab, col, dd, k0, k1, k2, k3, k5, hC, hbm⟩ := T.oex.cls
  have hcl : PySem.W.clsIn K C = some { name := nm, bases := bs, mro := .ref C :: bm, ns := N, qualname := qn, hasDict := true, slotNames := sn, subclasses := sub, abstract := ab, collection := col, hasDel := false } := by unfold PySem.W.clsIn; rw [hC] <;> rfl
  obtain ⟨hp0, g, dr, t, os⟩ := s
  refine ks_codeAny_call_defAt (fd := PySem.W.ksFn name qual params body scope .none kV doc pm an (.ref cda) ct cc) (body := body) hr.depth (KX _ _ lk) rfl lim (PySem.W.codeRec_of KX hcd) rfl hb hcells (fun y hy => ?_) (fun h0 hns hk0 => ?_) hco hgen hk
  · have hm := (List.of_mem_zip hy).1
    simp only [List.mem_cons, List.not_mem_nil, or_false] at hm
    rcases hm with z | z
    · rw [z]; exact hka
    · rw [z]; exact hkp
  have X0 : K.In h0 := KX.keeps hk0
  have hself : ((([("self" : Str), par] : List Str).zip [Value.ref a, u2]).reverse.lookup ("self" : Str)) = some (.ref a) := by
    show ((par, u2) :: [("self", Value.ref a)]).lookup ("self" : Str) = _
    rw [List.lookup_cons, show (("self" : Str) == par) = false from by simpa using fun z => hsp z.symm]
    rfl
  have hpar : ((([("self" : Str), par] : List Str).zip [Value.ref a, u2]).reverse.lookup par) = some u2 := by
    show ((par, u2) :: [("self", Value.ref a)]).lookup par = _
    rw [List.lookup_cons, beq_self_eq_true]
  subst hbody
  refine ks_wpAt_execs_cons (ks_wpAt_Expr_any (ks_wpAt_MethodCall ?_ (he _)) (hi _) (hs1 _))
  have ho0 := hk0 _ _ ho
  have I0 : PySem.W.InstAt h0 a (HandSPX.excO C t1) C none := ⟨ho0, rfl, rfl, trivial⟩
  have e0n := e0.mod
  obtain ⟨mb, hblt, hboot⟩ := e0.mod.blt
  have kb : ∀ b o, base.get? b = some o → h0.get? b = some o := fun b o z => hk0 b o (e0.bs b o z).1
  obtain ⟨oD, hD1, hD2⟩ : ∃ oD, h0.get? C = some oD ∧ ∃ cd, oD.data = .cls cd := ⟨_, X0 _ _ hC, _, rfl⟩
  obtain ⟨cdD, hD2⟩ := hD2
  refine ks_wpAt_super_base (env := PySem.W.ksEnv qual scope hp0.objs.size f (.ref cda) cc) hks hkc (by decide) rfl (X0 _ _ lk) rfl hp rfl (X0 _ _ hcode) rfl hvs hfile htop ?_
  refine PySem.W.ks_loadName_global hk hks (Calls.loadGlobal_builtin (env := PySem.W.ksEnv qual scope hp0.objs.size f (.ref cda) cc) (e0.mod.glob.keeps kb) (PySem.W.mg_none_of e0.mod.kin e0.mod.glob T.ns) (hblt.keeps kb) ((hboot _ (by decide)).trans (by decide +kernel : bootBuiltins "super" = some (.type "super"))) ⟨rfl, ?_⟩)
  refine wpAny_loadName_free hk hkc rfl ⟨_, X0 _ _ hcell, rfl⟩ ?_
  rw [har]
  refine wpAny_loadName_local hk hka hns hself ?_
  refine ks_wpAny_isType_cls hD1 hD2 ⟨rfl, ?_⟩
  refine ks_wpAny_call_super hD1 hD2 ho0 rfl (fun c z => by cases z) (PySem.W.looks_mroIn X0 T.me) (fun h1 hso hk1 => ?_)
  have X1 : K.In h1 := X0.keeps hk1
  have ho1 := hk1 _ _ ho0
  have I1 : PySem.W.InstAt h1 a (HandSPX.excO C t1) C none := ⟨ho1, rfl, rfl, trivial⟩
  have hsu := T.su
  unfold PySem.W.ks_superIn at hsu
  rw [hcl] at hsu
  refine PySem.W.kxs_getMethod PySem.W.kxs_ValueError hso (PySem.W.looks_opaque X1 T.cs) (l₀ := .ref C :: bm) (fun A Q E s k q => wpAny_bind ((PySem.W.looks_clsIn X1 hcl) A _ E s k (wpAny_pure q))) rfl X1 hsu (I1.type.andThen (PySem.W.looks_subIn X1 T.ve)) (PySem.W.ks_ne X1 I1 hcl) (by decide) ?_
  have hk2 : ∀ b o, h1.get? b = some o → (h1.push (PySem.W.kxs_mw "ValueError.__init__" a)).get? b = some o := fun b o z => Heap.get?_push_of_some _ z
  refine PySem.W.kxs_callWith (i := "ValueError.__init__") (x := a) (by rfl) ?_
  show wpAny _ _ (evalArgs _ true ((false, eval (.Constant (.str txt) kk p3) _) :: []) []) _ _ _
  refine Calls.evalArgs_plain (Calls.spliced_cons (wpAny_Constant_str (Calls.spliced_nil ⟨Heap.get?_push_at rfl rfl, ?_⟩)))
  refine call_mw (hk2 _ _ (X1 _ _ hC)) (hk2 _ _ ho1) (Heap.get?_push_at rfl rfl) (by show 1 ≤ sizeLine; rw [sizeLine_eq]; omega) (fun h3 t3 hk3 ho3 => ?_)
  have lta : a < hp0.objs.size := Heap.lt_size ho
  have keep3 : ∀ b o, b ≠ a → h0.get? b = some o → h3.get? b = some o := fun b o hb z => hk3 b o hb (hk2 b o (hk1 b o z))
  have X3 : K.In h3 := fun b o z => keep3 b o (fun y => by
    rw [y] at z
    have z2 := KX _ _ z
    have z3 : hp0.get? a = _ := ho
    rw [z3] at z2
    have z4 := e0.mod.kin _ _ z
    have z5 := (e0.bs _ _ z4).2
    rw [ea] at z5
    cases z5) (X0 b o z)
  have hns3 : h3.Ns hp0.objs.size (fun y => ((([("self" : Str), par] : List Str).zip [Value.ref a, u2]).reverse.lookup y)) := hns.at fun o z => keep3 _ o (Nat.ne_of_gt lta) z
  refine ks_wpAt_execs_cons (ks_wpAt_Assign_Attr ?_ (hs2 _))
  refine wpAt_of_wpAny (ldL (env := PySem.W.ksEnv qual scope hp0.objs.size f (.ref cda) cc) hns3 hpar ?_ hk hkp hdp)
  refine ldL (env := PySem.W.ksEnv qual scope hp0.objs.size f (.ref cda) cc) hns3 hself ?_ hk hka
  refine PySem.W.set_plain X3 (ox := HandSPX.excO C t3) (od := none) ⟨ho3, rfl, rfl, trivial⟩ T.oex.sa ?_
  refine PySem.HandSPX.exc_osa X3 ho3 hcl (show PySem.HandSPX.refsVE (.ref C :: bm) = true from hbm) rfl hno (fun h5 tk5 dx hk5 dn dne hx5 hn5 => ?_)
  refine wpAt_of_wpAny (wpAny_execs_nil ?_)
  have keep5 : ∀ b o, b ≠ a → hp0.get? b = some o → h5.get? b = some o := fun b o hb z => hk5 b o hb (keep3 b o hb (hk0 b o z))
  have h03 : ∀ b o, hp0.get? b = some o → b < h3.objs.size := fun b o z => by
    by_cases hb : b = a
    · rw [hb]; exact Heap.lt_size ho3
    · exact Heap.lt_size (keep3 b o hb (hk0 b o z))
  have nd : ∀ {b : Addr} {o : Obj}, hp0.get? b = some o → b ≠ dx := fun {b o} z => Nat.ne_of_lt (Nat.lt_of_lt_of_le (h03 b o z) dn)
  have hnd : H dx = none := HOk.gone e0.hok (by
    cases z : hp0.get? dx with
    | none => rfl
    | some o => exact absurd rfl (nd z))
  have na : ∀ {b : Addr}, H b = none → b ≠ a := fun {b} n z => by
    rw [z, ea] at n
    cases n
  have Un1 : Un (frs outer) [] H (upd (upd H dx (exd dx [(fld, v)])) a (exo a C (some dx))) hp0 h5 := {
    keep := fun b o z n _ _ => keep5 b o (na n) z
    slot := fun b o z n _ _ => ⟨o.slots, keep5 b o (na n) z⟩
    free := fun b o z n _ => by rw [upd_ne (na n), upd_ne (nd z)]; exact n
    there := fun b o z _ => by
      by_cases hb : b = a
      · exact ⟨_, by rw [hb]; exact hx5⟩
      · exact ⟨o, keep5 b o hb z⟩
    tups := fun b xs z => by rw [upd_ne (at_ne ea z exo_tup), upd_ne (ne_of_none z hnd)]; exact z
    frzs := fun b o v z => by rw [upd_ne (at_ne ea z exo_frz), upd_ne (ne_of_none z hnd)]; exact z
    tbls := fun b ps z => ⟨#[], by rw [upd_ne (at_ne ea z exo_tbl), upd_ne (ne_of_none z hnd), z]; simp⟩ }
  refine ⟨.non, _, rfl, e0.bare, Un1, fun b o z => ?_, rfl, q dx hnd dne⟩
  by_cases hb : b = a
  · subst hb
    rw [upd_same] at z
    cases z
    exact exo_ok hx5
  · rw [upd_ne hb] at z
    by_cases hd : b = dx
    · subst hd
      rw [upd_same] at z
      cases z
      exact exd_ok hn5 (relO_put (fs := []) r2 fun g => True.intro)
    · rw [upd_ne hd] at z
      exact (e0.hok b o z).stay (fun c v hc y => keep5 c v (by
          rcases hc with hc | hc
          · rw [hc]
            exact hb
          · exact at_ne ea hc exo_own) y)
        (fun c hc => by rw [upd_ne (at_ne ea hc exo_own), upd_ne (ne_of_none hc hnd)]; exact hc) (fun c xs hc => by rw [upd_ne (at_ne ea hc exo_tup), upd_ne (ne_of_none hc hnd)]; exact hc)
end
end WJ
set_option Elab.async false
set_option linter.all false
set_option maxRecDepth 100000
set_option maxHeartbeats 4000000
/-! WkB: exceptions as values: made, asked for their class, their field read -/
namespace WJ
open PySem PySem.Spec PyProof.Rows L2
/-- C(e), C without own __init__ -/
def tExc1 (C : Addr) (te : TE) : TE := fun σ H Q => te σ H fun _ H1 => ∀ a, H1 a = none → Q (.ref a) (upd H1 a (EO (.ref C) none a))
/-- C(e), C's __init__ keeps e as fld -/
def tExcF (C : Addr) (fld : Str) (te : TE) : TE := fun σ H Q => te σ H fun v H1 => ∀ a dx, H1 a = none → H1 dx = none → dx ≠ a → Q (.ref a) (upd (upd H1 dx (exd dx [(fld, v)])) a (EO (.ref C) (some dx) a))
section
variable {X : Cx} {C fI : Addr} {x fld par : Str} {e : Expr} {te : TE} {p pos : Pos} {fd : FuncData}
theorem pe_x1 {bmB : List Value} {B newId initId : String} (F : ExcBaseFacts B newId initId bmB) (q : PySem.W.excIn X.K C bmB newId = true) (gC : X.mg x = some (.ref C)) (kC : PySem.W.keepIn X.K (.ref C) = true) (hg : Gl X x)
    (he : PE X e te) (hs : starEach [e] X.env = (false, eval e X.env) :: starEach [] X.env := by rfl) (hdb : (x == ("__debug__" : Str)) = false := by decide) : PE X (.Call (.Name x p) [e] [] pos) (tExc1 C te) := by
  refine ⟨fun pins s σ H Q I h => ?_⟩
  refine wpAny_Call_Name_kw (ld_glob I hg gC ?_ hdb)
  refine PySem.W.callWith_K (h₀ := X.base) I.ok.mod.kin kC ?_ hs (by rfl)
  rw [hs]
  show wpAny _ _ (spliced ((false, eval e X.env) :: backTo pos (starEach [] X.env))) _ _ s
  refine Calls.spliced_cons (thn (he.run pins s σ H _ I h) fun u s1 ⟨v, H1, I1, r1, q1⟩ => ?_)
  refine Calls.spliced_nil ⟨I1.kIn, ?_⟩
  show wpAny _ _ (call (.ref C) [u]) _ _ _
  obtain ⟨bm, N, nm, qn, bs, hdct, sn, sub, ab, col, dd, k0, k1, k2, k3, k5, mN, hC, hN, hni, T⟩ := exc_obj I1.kIn q
  refine wpAny_call_exc_subT F T hC hN hni (fun h' a hm => ?_) (by show 1 ≤ sizeLine; rw [sizeLine_eq]; omega)
  have hn : H1 a = none := I1.hok.gone hm.new
  obtain ⟨t, ht, _, _⟩ := hm.there
  exact ⟨.ref a, _, I1.laidN hm.keeps hm.new hn (eo_ok ht ⟨rfl, rfl⟩ ⟨_, rfl⟩), rfl, q1 a hn⟩
theorem pe_xF {k : Nat} (T : XiC X.K C) (iC : PySem.W.findIn X.K (.ref C) "__init__" = some (some (.ref fI))) (tI : PySem.W.typeIn X.K (.ref fI) = some (.type "function"))
    (F1 : FnOk X.prog X.w X.K X.mg X.base CX0 1 fI fd ["self", par] (spXi C fld)) (hr : Room k X.A) (hk2 : 2 ≤ k) (hb : Binds X.K fd ["self", par] []) (gC : X.mg x = some (.ref C)) (hg : Gl X x) (he : PE X e te)
    (hs : starEach [e] X.env = (false, eval e X.env) :: starEach [] X.env := by rfl) (hdb : (x == ("__debug__" : Str)) = false := by decide) : PE X (.Call (.Name x p) [e] [] pos) (tExcF C fld te) := by
  refine ⟨fun pins s σ H Q I h => ?_⟩
  obtain ⟨nm, q, N, bs, bm, sn, sub, ab, col, dd, k0, k1, k2, k3, k5, hC, hbm⟩ := T.oex.cls
  refine wpAny_Call_Name_kw (ld_glob I hg gC ?_ hdb)
  refine PySem.W.callWith_K (h₀ := X.base) I.ok.mod.kin T.oex.kC ?_ hs (by rfl)
  rw [hs]
  show wpAny _ _ (spliced ((false, eval e X.env) :: backTo pos (starEach [] X.env))) _ _ s
  refine Calls.spliced_cons (thn (he.run pins s σ H _ I h) fun u s1 ⟨v, H1, I1, r1, q1⟩ => ?_)
  refine Calls.spliced_nil ⟨I1.kIn, ?_⟩
  show wpAny _ _ (call (.ref C) [u]) _ _ _
  obtain ⟨hp, g, dr, tk, os⟩ := s1
  have hsz : hp.objs.size ≤ hp.objs.size + 1 := Nat.le_succ _
  have hn : H1 (hp.objs.size + 1) = none := I1.hok.fresh hsz
  have kk : ∀ b o, hp.get? b = some o → ((hp.push (PySem.W.kdv_tup [u])).push (PySem.HandSPX.excO C hp.objs.size)).get? b = some o := fun b o e => Heap.get?_push_of_some _ (Heap.get?_push_of_some _ e)
  have hget : ((hp.push (PySem.W.kdv_tup [u])).push (PySem.HandSPX.excO C hp.objs.size)).get? (hp.objs.size + 1) = some (PySem.HandSPX.excO C hp.objs.size) := by heap_get
  have I2 : Inv X pins σ (upd H1 (hp.objs.size + 1) (exo (hp.objs.size + 1) C none)) ⟨(hp.push (PySem.W.kdv_tup [u])).push (PySem.HandSPX.excO C hp.objs.size), g, dr, tk, os⟩ :=
    I1.laid (t' := tk) (a := hp.objs.size + 1) (o := exo (hp.objs.size + 1) C none) (h' := (hp.push (PySem.W.kdv_tup [u])).push (PySem.HandSPX.excO C hp.objs.size)) kk hsz (exo_ok hget)
  generalize ha : hp.objs.size + 1 = a at *
  have r2 : Vals [V.ref a, v] [Value.ref a, u] := .cons rfl (.cons r1 .nil)
  have hsp : spXi C fld [.ref a, v] (upd H1 a (exo a C none)) (fun y H' => y = .non ∧ ∃ dx, H1 dx = none ∧ dx ≠ a ∧ H' = upd (upd (upd H1 a (exo a C none)) dx (exd dx [(fld, v)])) a (exo a C (some dx))) (fun _ _ _ => False) :=
    ⟨a, v, rfl, upd_same, fun dx hd hne => ⟨rfl, dx, by rw [upd_ne hne] at hd; exact hd, hne, rfl⟩⟩
  have hr2 : Room 2 X.A := hr.mono hk2
  refine wpAny_call (PySem.HandSPX.call_own F.excBase_ValueError (fun Y => PySem.HandSPX.refsVE_contains Y bm hbm) (I1.kIn _ _ hC) (PySem.W.looks_findIn I1.kIn iC) (fun self => PySem.W.bind_fn I1.kIn self tI) (by show 1 ≤ sizeLine; rw [sizeLine_eq]; omega) ?_)
  rw [ha]
  refine codeAny_mono (F1.run _ X.stack _ _ ⟨[Value.ref a, u], []⟩ [Value.ref a, u] _ _ (fun _ _ _ => False) (hr2.make C [u] []) (I2.env0.make C [u] []) (hb _ [Value.ref a, u] I2.kIn rfl) r2 hsp) fun r s' hq' => ?_
  cases r with
  | error er => exact pass0 pins σ _ _ er s' I2 hq'
  | ok fl =>
    cases fl with
    | ret y =>
      obtain ⟨v3, H3, I3, rv, rfl, dx, hd, hne, rfl⟩ := I2.after hq'
      obtain ⟨t0, hoe⟩ := exo_at I3.hok (upd_same (a := a) (o := exo a C (some dx)))
      have I4 := I3.write (t' := s'.toks) (x := a) (e := a) (o := EO (.ref C) (some dx) a) (h' := s'.heap) (by rw [upd_same]; exact True.intro) (.inl rfl) (fun _ _ _ z => z) ⟨_, hoe⟩ (eo_ok hoe ⟨rfl, rfl⟩ ⟨_, rfl⟩)
      have eH : upd (upd (upd (upd H1 a (exo a C none)) dx (exd dx [(fld, v)])) a (exo a C (some dx))) a (EO (.ref C) (some dx) a) = upd (upd H1 dx (exd dx [(fld, v)])) a (EO (.ref C) (some dx) a) := by
        funext b
        by_cases h1 : b = a
        · rw [h1, upd_same, upd_same]
        · rw [upd_ne h1, upd_ne h1, upd_ne h1]
          by_cases h2 : b = dx
          · rw [h2, upd_same, upd_same]
          · rw [upd_ne h2, upd_ne h2, upd_ne h1]
      rw [eH] at I4
      refine ⟨rv, .ref a, _, I4, rfl, q1 a dx hn hd hne⟩
    | next => exact False.elim hq'
    | brk => exact False.elim hq'
    | cont => exact False.elim hq'
end
/-! ### asked for its class -/
/-- an exception told at a, of the class D: its dict, if it has one, is told too -/
def XAt (H : Hp) (a D : Addr) : Prop := ∃ d, H a = some (EO (.ref D) d a) ∧ ∀ dx, d = some dx → ∃ fs, XDt H dx fs
theorem xdt_at {P : Program} {w : World} {H : Hp} {h : Heap} {dx : Addr} {fs : List (Str × V)} (hok : HOk P w H h) (he : XDt H dx fs) : ∃ mA, h.Ns1 dx mA ∧ ∀ f, RelO (fs.lookup f) (mA f) := by
  rcases he with z | z
  · exact exd_at hok z
  · exact (show ObjOk P w H h dx (.xd fs) from hok dx _ z)
section
variable {X : Cx} {pins : List (Addr × Obj)} {σ : L2.St} {H : Hp} {s : Shared} {a D : Addr}
theorem kitx_at (I : Inv X pins σ H s) (C : ExcC X.K D) (h : XAt H a D) : ∃ P : Heap → Prop, PySem.W.KitX X.K (.ref a) (.ref D) P ∧ P s.heap := by
  obtain ⟨d, ha, hd⟩ := h
  obtain ⟨oe, hget, hz, vs, hv⟩ := (show ObjOk X.prog X.w H s.heap a (EO (.ref D) d a) from I.hok a _ ha).1
  obtain ⟨cd, hc, _⟩ := PySem.W.any_some C.hd
  have hcl : (PySem.W.clsIn X.K D).isSome = true := by rw [hc]; rfl
  obtain ⟨od, J⟩ : ∃ od, PySem.W.InstAt s.heap a oe D od := by
    obtain ⟨oc, odd, oda, osl⟩ := oe
    obtain ⟨h1, h2⟩ := hz
    dsimp only at h1 h2 hv
    subst h1 h2 hv
    cases odd with
    | none => exact ⟨none, hget, rfl, rfl, trivial⟩
    | some dx =>
      obtain ⟨fs, hdx⟩ := hd dx rfl
      obtain ⟨mA, hns, rel⟩ := xdt_at I.hok hdx
      obtain ⟨o, _, _, ho, _⟩ := hns
      exact ⟨some o, hget, rfl, rfl, ho⟩
  exact ⟨_, PySem.W.kitx_exc (ox := oe) (od := od) hcl C.hg C.hk C.hs C.ha C.hn C.ht C.hm, J⟩
end
def rIsY (K : PySem.W.Frag) : List V → Hp → VK → Prop := fun xs H Q => ∃ (a D : Addr) (c : V) (u : Value) (b : Bool), xs = [.ref a, c] ∧ ClsV c u ∧ XAt H a D ∧ ExcC K D ∧ PySem.W.kitOne K (.ref D) u = some b ∧ Q (.bl b) H
def rIsYT (K : PySem.W.Frag) : List V → Hp → VK → Prop := fun xs H Q => ∃ (a D tp : Addr) (cs : List V) (us : List Value) (b : Bool), xs = [.ref a, .ref tp] ∧ H tp = some (.tup cs) ∧ Paired ClsV cs us ∧ XAt H a D ∧ ExcC K D ∧ PySem.W.kitAny K (.ref D) us = some b ∧ Q (.bl b) H
theorem call_isY {X : Cx} : CallR X (.builtin "isinstance") (rIsY X.K) := by
  intro pins s σ H xs us Q I r h
  obtain ⟨a, D, c, u, b, rfl, hc, ha, C, e, q⟩ := h
  obtain ⟨v1, v2, rfl, r1, r2⟩ := vals2 r
  cases r1
  have ec := hc.eq r2
  subst ec
  obtain ⟨P, Z, p⟩ := kitx_at I C ha
  exact PySem.W.kia_one Z I.kIn p e (fun z => nomatch z) fun tk => ⟨.bl b, H, I.tok tk, rfl, q⟩
theorem call_isYT {X : Cx} : CallR X (.builtin "isinstance") (rIsYT X.K) := by
  intro pins s σ H xs us Q I r h
  obtain ⟨a, D, tp, cs, ws, b, rfl, hT, k, ha, C, e, q⟩ := h
  obtain ⟨u1, u2, rfl, r1, r2⟩ := vals2 r
  cases r1
  cases (show u2 = Value.ref tp from r2)
  obtain ⟨P, Z, p⟩ := kitx_at I C ha
  obtain ⟨_, its, rv, o, h1, h2, n, h3⟩ := (show ObjOk X.prog X.w H s.heap tp (.tup cs) from I.hok tp _ hT)
  have e3 := ClsV.all k rv
  subst e3
  obtain ⟨oc, od, dt, sl⟩ := o
  simp only at h2 h3
  subst h2 h3
  exact PySem.W.kia_tup Z I.kIn p h1 e (fun z => nomatch z) fun tk => ⟨.bl b, H, I.tok tk, rfl, q⟩
/-- isinstance of anything -/
def rIsiY (K : PySem.W.Frag) : List V → Hp → VK → Prop := fun xs H Q => rIsiA K xs H Q ∨ rIsY K xs H Q ∨ rIsYT K xs H Q
theorem o_isiY {X : Cx} (K : PySem.W.Frag) (hK : X.K = K := by rfl) : CallR X (.builtin "isinstance") (rIsiY K) := orC (o_isi K hK) (hK ▸ orC call_isY call_isYT)
/-! ### its field read -/
def tXfV (K : PySem.W.Frag) (f : Str) (te : TE) : TE := fun σ H Q => te σ H fun x H1 => ∃ (a C dd : Addr) (fs : List (Str × V)) (v : V), x = .ref a ∧ H1 a = some (EO (.ref C) (some dd) a) ∧ XDt H1 dd fs ∧ XfC K C ∧ PySem.W.findIn K (.ref C) f = some none ∧ fs.lookup f = some v ∧ Q v H1
theorem pe_xfV {X : Cx} {e : Expr} {te : TE} {pos : Pos} {n : Str} (he : PE X e te) (hb : attributeBase e n X.env (eval e X.env) = eval e X.env := by rfl) : PE X (.Attribute e n pos) (tXfV X.K n te) := by
  refine ⟨fun pins s σ H Q I h => ?_⟩
  refine attr_of hb (thn (he.run pins s σ H _ I h) fun u s1 hh => ?_)
  obtain ⟨x, H1, I1, rx, a, C, dd, fs, v, ex, ea, ed, T, hno, l, q⟩ := hh
  subst ex
  obtain rfl : u = Value.ref a := rx
  obtain ⟨oe, hget, hz, vs, hv⟩ := (show ObjOk X.prog X.w H1 s1.heap a (EO (.ref C) (some dd) a) from I1.hok a _ ea).1
  obtain ⟨mA, hns, hr⟩ := xdt_at I1.hok ed
  obtain ⟨od, ho, hl⟩ := lookIn_ns hns
  obtain ⟨u, hu, ru⟩ := RelO.some_of (v := v) (o := mA n) (by rw [← l]; exact hr n)
  have J : PySem.W.InstAt s1.heap a oe C (some od) := ⟨hget, hz.1, by unfold PySem.W.notCls; rw [hv] <;> rfl, by rw [hz.2]; exact ho⟩
  exact HandSPX.exc_get I1.kIn J T.ga T.gg T.exC (PySem.W.findObj_own T.hdC hno rfl (by rw [hl, hu])) (handed_of ru) ⟨v, H1, I1.tok _, ru, q⟩
end WJ
set_option Elab.async false
set_option linter.all false
set_option maxRecDepth 100000
set_option maxHeartbeats 4000000
/-! WkC: repr of data -/
namespace WJ
open PySem PySem.Spec PyProof.Rows L2
def pyK : Key → PyData
  | .inl i => .int i
  | .inr x => .str x
mutual
/-- data as the library writes it -/
def pyD : Da → PyData
  | .bl b => .bool b
  | .int i => .int i
  | .str x => .str x
  | .lst xs => .list (pyDs xs)
  | .tup xs => .tuple (pyDs xs)
  | .dct es => .dict (pyDk es)
  | _ => .none
def pyDs : List Da → List PyData
  | [] => []
  | d :: ds => pyD d :: pyDs ds
def pyDk : List (Key × Da) → List (PyData × PyData)
  | [] => []
  | (k, d) :: es => (pyK k, pyD d) :: pyDk es
end
mutual
/-- data that repr writes -/
def shwD : Da → Bool
  | .non => true
  | .bl _ => true
  | .int i => decide (i.natAbs.log2 < 1920)
  | .str _ => true
  | .lst xs => shwDs xs
  | .tup xs => shwDs xs
  | .dct es => shwDk es
  | _ => false
def shwDs : List Da → Bool
  | [] => true
  | d :: ds => shwD d && shwDs ds
def shwDk : List (Key × Da) → Bool
  | [] => true
  | (k, d) :: es => (match k with | .inl i => decide (i.natAbs.log2 < 1920) | .inr _ => true) && (shwD d && shwDk es)
end
/-- the modules' table lies in the written part -/
def SysOk (K : PySem.W.Frag) : Prop := ∃ o, K.lookup sysModules = some o ∧ o.cls = .type "dict"
theorem vals_cons {v : V} {vs : List V} {us : List Value} (h : Vals (v :: vs) us) : ∃ u r, us = u :: r ∧ RelV v u ∧ Vals vs r := by
  cases h with
  | cons a b => exact ⟨_, _, rfl, a, b⟩
theorem vals_nil {us : List Value} (h : Vals [] us) : us = [] := by
  cases h
  rfl
section
variable {X : Cx} {pins : List (Addr × Obj)} {σ : L2.St} {H : Hp} {s : Shared} {B : List Addr}
theorem not_sys (I : Inv X pins σ H s) (hS : SysOk X.K) {a : Addr} {o : Obj} (h : s.heap.get? a = some o) (hc : o.cls = .type "list") : sysModules ≠ a := fun z => by
  obtain ⟨q, h1, h2⟩ := hS
  have e := I.kIn _ _ h1
  rw [z, h] at e
  cases e
  rw [hc] at h2
  exact absurd h2 (by decide)
mutual
theorem readD (I : Inv X pins σ H s) (hS : SysOk X.K) : ∀ (d : Da) (v : V) (u : Value), Dat X.K B H v d → shwD d = true → RelV v u → ∃ as, Reads s.heap u (pyD d) as ∧ sysModules ∉ as
  | .non, v, u, h, _, r => by
    unfold Dat at h; subst h
    cases (show u = Value.none from r)
    exact ⟨[], by unfold pyD; exact .none, List.not_mem_nil⟩
  | .bl b, v, u, h, _, r => by
    unfold Dat at h; subst h
    cases (show u = Value.bool b from r)
    exact ⟨[], by unfold pyD; exact .bool b, List.not_mem_nil⟩
  | .int i, v, u, h, _, r => by
    unfold Dat at h; subst h
    obtain ⟨t, rfl⟩ := (show ∃ t, u = Value.int i t from r)
    exact ⟨[], by unfold pyD; exact .int i t, List.not_mem_nil⟩
  | .str x, v, u, h, _, r => by
    unfold Dat at h; subst h
    obtain ⟨t, rfl⟩ := (show ∃ t, u = Value.str x t from r)
    exact ⟨[], by unfold pyD; exact .str x t, List.not_mem_nil⟩
  | .lst ds, v, u, h, hs, r => by
    unfold Dat at h
    obtain ⟨a, xs, rfl, hq, hd⟩ := h
    cases (show u = Value.ref a from r)
    obtain ⟨its, rv, ⟨o, n, ho, hc, hdd, hdt⟩, _⟩ := I.list hq.sq
    obtain ⟨as, h1, h2⟩ := readDs I hS ds xs its hd (by unfold shwD at hs; exact hs) rv
    refine ⟨a :: as, by unfold pyD; exact .list ho hc hdt (by simpa using h1), fun z => ?_⟩
    rcases List.mem_cons.mp z with z | z
    · exact not_sys I hS ho hc z
    · exact h2 z
  | .tup ds, v, u, h, hs, r => by
    unfold Dat at h
    obtain ⟨a, xs, rfl, hq, hd⟩ := h
    cases (show u = Value.ref a from r)
    obtain ⟨its, rv, ⟨o, ho, hc, n, hdt⟩, _⟩ := I.tuple hq.sq
    obtain ⟨as, h1, h2⟩ := readDs I hS ds xs its hd (by unfold shwD at hs; exact hs) rv
    exact ⟨as, by unfold pyD; exact .tuple ho hc hdt (by simpa using h1), h2⟩
  | .dct es, v, u, h, hs, r => by
    unfold Dat at h
    obtain ⟨a, kvs, rfl, hq, hd⟩ := h
    cases (show u = Value.ref a from r)
    obtain ⟨_, hsy, vs, hkv, o, en, ep, ho, hex, hdt, _, hpa, _⟩ := (show ObjOk X.prog X.w H s.heap a (.dK kvs) from hq.2.ok I.hok)
    obtain ⟨as, bs, h1, h2, h3, h4⟩ := readDk I hS es kvs vs en.toList hd (by unfold shwD at hs; exact hs) hkv hpa
    refine ⟨a :: as ++ bs, by unfold pyD; exact .dict ho hex.1 hdt h1 h2, fun z => ?_⟩
    rw [List.cons_append] at z
    rcases List.mem_cons.mp z with z | z
    · rw [← z] at hsy
      simp at hsy
    · rcases List.mem_append.mp z with z | z
      · exact h3 z
      · exact h4 z
  | .ins _ _, _, _, _, hs, _ => by unfold shwD at hs; cases hs
  | .obj _, _, _, _, hs, _ => by unfold shwD at hs; cases hs
  | .ty _, _, _, _, hs, _ => by unfold shwD at hs; cases hs
  | .exc _ _, _, _, _, hs, _ => by unfold shwD at hs; cases hs
theorem readDs (I : Inv X pins σ H s) (hS : SysOk X.K) : ∀ (ds : List Da) (vs : List V) (us : List Value), Dats X.K B H vs ds → shwDs ds = true → Vals vs us → ∃ as, ReadsAll s.heap us (pyDs ds) as ∧ sysModules ∉ as
  | [], vs, us, h, _, r => by
    unfold Dats at h; subst h
    rw [vals_nil r]
    exact ⟨[], by unfold pyDs; exact .nil, List.not_mem_nil⟩
  | d :: ds, vs, us, h, hs, r => by
    unfold Dats at h
    obtain ⟨v, q, rfl, h1, h2⟩ := h
    obtain ⟨u, us', rfl, r1, r2⟩ := vals_cons r
    unfold shwDs at hs
    obtain ⟨hs1, hs2⟩ := Bool.and_eq_true_iff.mp hs
    obtain ⟨as, a1, a2⟩ := readD I hS d v u h1 hs1 r1
    obtain ⟨bs, b1, b2⟩ := readDs I hS ds q us' h2 hs2 r2
    refine ⟨as ++ bs, by unfold pyDs; exact .cons a1 b1, fun z => ?_⟩
    rcases List.mem_append.mp z with z | z
    · exact a2 z
    · exact b2 z
theorem readDk (I : Inv X pins σ H s) (hS : SysOk X.K) : ∀ (es : List (Key × Da)) (kvs : List (Key × V)) (vs : List (Key × Value)) (en : List DictEntry), Datk X.K B H kvs es → shwDk es = true → KV kvs vs → Pairs (mixKind X.prog X.w) en vs →
    ∃ as bs, ReadsAll s.heap (en.map (·.key)) ((pyDk es).map (·.1)) as ∧ ReadsAll s.heap (en.map (·.val)) ((pyDk es).map (·.2)) bs ∧ sysModules ∉ as ∧ sysModules ∉ bs
  | [], kvs, vs, en, h, _, hk, hp => by
    unfold Datk at h; subst h
    cases hk
    cases hp
    exact ⟨[], [], by unfold pyDk; exact .nil, by unfold pyDk; exact .nil, List.not_mem_nil, List.not_mem_nil⟩
  | (k, d) :: es, kvs, vs, en, h, hs, hk, hp => by
    unfold Datk at h
    obtain ⟨v, q, rfl, h1, h2⟩ := h
    unfold shwDk at hs
    obtain ⟨_, hs⟩ := Bool.and_eq_true_iff.mp hs
    obtain ⟨hs1, hs2⟩ := Bool.and_eq_true_iff.mp hs
    cases hk with
    | cons hk1 hk2 =>
      cases hp with
      | @cons e0 kv0 en0 vs0 hp1 hpv hp2 =>
        obtain ⟨e1, r1⟩ := hk1
        rw [← hpv] at r1
        obtain ⟨as, a1, a2⟩ := readD I hS d v _ h1 hs1 r1
        obtain ⟨bs, cs, b1, b2, b3, b4⟩ := readDk I hS es q _ _ h2 hs2 hk2 hp2
        have hkey : ∃ ks, Reads s.heap e0.key (pyK k) ks ∧ sysModules ∉ ks := by
          have e1' : k = _ := e1
          subst e1'
          rcases keyIs_shape (show keyIs _ e0.key = true from hp1) with ⟨i, t, e2, e3⟩ | ⟨x, t, e2, e3⟩
          · rw [e2, e3]
            exact ⟨[], .int i t, List.not_mem_nil⟩
          · rw [e2, e3]
            exact ⟨[], .str x t, List.not_mem_nil⟩
        obtain ⟨ks, k1, k2⟩ := hkey
        refine ⟨ks ++ bs, as ++ cs, ?_, ?_, fun z => ?_, fun z => ?_⟩
        · unfold pyDk
          exact .cons k1 b1
        · unfold pyDk
          exact .cons a1 b2
        · rcases List.mem_append.mp z with z | z
          · exact k2 z
          · exact b3 z
        · rcases List.mem_append.mp z with z | z
          · exact a2 z
          · exact b4 z
end
end
mutual
theorem showD : ∀ d : Da, shwD d = true → (pyD d).showable = true
  | .non, _ => by unfold pyD; rfl
  | .bl _, _ => by unfold pyD; rfl
  | .int i, h => by unfold shwD at h; unfold pyD; unfold PyData.showable; exact h
  | .str _, _ => by unfold pyD; rfl
  | .lst ds, h => by unfold shwD at h; unfold pyD; unfold PyData.showable; exact showDs ds h
  | .tup ds, h => by unfold shwD at h; unfold pyD; unfold PyData.showable; exact showDs ds h
  | .dct es, h => by unfold shwD at h; unfold pyD; unfold PyData.showable; exact showDk es h
  | .ins _ _, h => by unfold shwD at h; cases h
  | .obj _, h => by unfold shwD at h; cases h
  | .ty _, h => by unfold shwD at h; cases h
  | .exc _ _, h => by unfold shwD at h; cases h
theorem showDs : ∀ ds : List Da, shwDs ds = true → PyData.showableAll (pyDs ds) = true
  | [], _ => by unfold pyDs; rfl
  | d :: ds, h => by
    unfold shwDs at h
    obtain ⟨h1, h2⟩ := Bool.and_eq_true_iff.mp h
    unfold pyDs PyData.showableAll
    rw [showD d h1, showDs ds h2]
    rfl
theorem showDk : ∀ es : List (Key × Da), shwDk es = true → PyData.showableKv (pyDk es) = true
  | [], _ => by unfold pyDk; rfl
  | (k, d) :: es, h => by
    unfold shwDk at h
    obtain ⟨h0, h⟩ := Bool.and_eq_true_iff.mp h
    obtain ⟨h1, h2⟩ := Bool.and_eq_true_iff.mp h
    unfold pyDk PyData.showableKv
    have hk : (pyK k).showable = true := by
      cases k with
      | inl i => unfold pyK PyData.showable; exact h0
      | inr x => unfold pyK; rfl
    rw [hk, showD d h1, showDk es h2]
    rfl
end
/-- repr(x), x data -/
def rRepr (K : PySem.W.Frag) : List V → Hp → VK → Prop := fun xs H Q => ∃ (B : List Addr) (v : V) (d : Da), xs = [v] ∧ Dat K B H v d ∧ shwD d = true ∧ (pyD d).depth ≤ 100 ∧ (pyD d).shown.length ≤ 1000000 ∧ Q (.str (pyD d).shown) H
theorem o_repr {X : Cx} (K : PySem.W.Frag) (hg : X.A.guards = some []) (hu : X.A.units + 150 < cLine) (hS : SysOk K) (hK : X.K = K := by rfl) : CallR X (.builtin "repr") (rRepr K) := by
  subst hK
  intro pins s σ H xs us Q I r h
  obtain ⟨B, v, d, rfl, hd, hs, hdp, hl, q⟩ := h
  obtain ⟨u, rfl, ru⟩ := vals1 r
  obtain ⟨as, hr, hsy⟩ := readD I hS d v u hd hs ru
  have hl2 : (pyD d).shown.length ≤ sizeLine := Nat.le_trans hl (by decide)
  have done : ∀ h' (t : Tok) tk, (∀ b o, s.heap.get? b = some o → h'.get? b = some o) → EP X pins σ Q (.str (pyD d).shown t) { s with heap := h', toks := tk } := fun h' t tk k => ⟨.str _, H, I.kept (t' := tk) k, ⟨t, rfl⟩, q⟩
  cases u with
  | ref a => exact PySem.repr_of_reads' hr (showD d hs) (fun _ => hsy) hg (by omega) (fun _ _ z => z) (fun h' t tk k => done h' t tk k) hl2
  | none =>
    generalize pyD d = y at *
    cases hr
    exact PySem.P.repr_of_none (done s.heap _ _ fun _ _ z => z)
  | bool b =>
    generalize pyD d = y at *
    cases hr
    exact PySem.P.repr_of_bool (done s.heap _ _ fun _ _ z => z)
  | int i t =>
    have hs2 := showD d hs
    generalize pyD d = y at *
    cases hr
    exact PySem.P.repr_of_int (of_decide_eq_true hs2) (done s.heap _ _ fun _ _ z => z)
  | str x t =>
    generalize pyD d = y at *
    cases hr
    exact PySem.P.repr_of_str (done s.heap _ _ fun _ _ z => z) hl2
  | _ =>
    generalize pyD d = y at *
    cases hr
section
variable {K : PySem.W.Frag} {W : Wd K} {P : Da → Prop}
theorem rc_repr {d : Da} (hs : shwD d = true) (hdp : (pyD d).depth ≤ 100) (hl : (pyD d).shown.length ≤ 1000000) (p : P (.str (pyD d).shown)) : Rc W (rRepr K) [d] P := fun B H M vs s h Q q => by
  unfold Dats at h
  obtain ⟨v, r, rfl, h1, t1⟩ := h
  unfold Dats at t1
  subst t1
  exact ⟨B, v, d, rfl, h1, hs, hdp, hl, q _ _ H Kp.refl s.dr (dStr.mpr rfl) p⟩
end
end WJ
set_option Elab.async false
set_option linter.all false
set_option maxRecDepth 100000
set_option maxHeartbeats 4000000
/-! WkD: defs that are called where nothing is being shown (repr's guards are none), the law's end over them -/
namespace WJ
open PySem PySem.Spec PyProof.Rows L2
/-- a def's promise, kept where no repr is under way -/
structure FnG (P : Program) (w : World) (K : PySem.W.Frag) (mg : Str → Option Value) (base : Heap) (CX : CXT) (k : Nat) (f : Addr) (fd : FuncData) (ps : List Str) (sp : Sp) : Prop where
  len : ∀ vs H Q E, sp vs H Q E → vs.length = ps.length
  run : ∀ (A : Around) (outer : List Env) (s : Shared) (H : Hp) (args : Args) (us : List Value) (vs : List V) (Q : VK) (E : XK), Room k A → A.guards = some [] → Env0 P w K mg base A outer s H → BindsTo s fd args (ps.zip us) → Vals vs us → sp vs H Q E →
    codeAny (model P w) A (.call (.ref f) args) (CR CX outer P w H s Q E) s
theorem fnG_of {P : Program} {w : World} {K : PySem.W.Frag} {mg : Str → Option Value} {base : Heap} {CX : CXT} {k : Nat} {f : Addr} {fd : FuncData} {ps : List Str} {sp : Sp} (F : FnOk P w K mg base CX k f fd ps sp) : FnG P w K mg base CX k f fd ps sp :=
  ⟨F.len, fun A outer s H args us vs Q E hr _ => F.run A outer s H args us vs Q E hr⟩
theorem guards_deeper {A : Around} {env : Env} (h : A.guards = some []) : (A.deeper env).guards = some [] := h
section
variable {P : Program} {w : World} {K : PySem.W.Frag} {mg : Str → Option Value} {base : Heap} {x qual : Str} {params : Arguments} {body : List Stmt} {scope : Scope} {dvs : List V} {kws : List (Str × V)} {f : Addr} {fd : FuncData}
theorem okG {CX : CXT} {N ps : List Str} {k : Nat} {sp : Sp} (F : FunD K x qual params body scope dvs kws f fd) (S : FnScope N ps scope) (len : ∀ vs H Q E, sp vs H Q E → vs.length = ps.length)
    (hbody : ∀ (cdv : Value) (A : Around) (outer : List Env) (s : Shared) (H : Hp) (vs : List V) (Q : VK) (E : XK), Room k (A.deeper (envOfC qual scope s.heap.objs.size f cdv)) → (A.deeper (envOfC qual scope s.heap.objs.size f cdv)).guards = some [] → sp vs H Q E →
      ∃ t, PSs (cxOf CX P w K mg base N qual scope f cdv A outer s H E) body t ∧ t { nx := fun _ H' => Q .non H', rt := Q } (start N vs) H) : FnG P w K mg base CX (k + 1) f fd ps sp := by
  obtain ⟨oc, od, dV, kV, doc, pm, an, cdv, ct, osl, rfl, hlook, hcode, _, _⟩ := F.ex
  refine ⟨len, fun A outer s H args us vs Q E room gd env0 hbind rel hs => ?_⟩
  have hlen := len _ _ _ _ hs
  have up : ∀ b o, base.get? b = some o → s.heap.get? b = some o := fun b o z => (env0.bs b o z).1
  have KIn : K.In s.heap := env0.mod.kin.keeps up
  have noLim : s.heap.NoLimit := env0.mod.nolimit.keeps up
  refine codeAny_call_function room.depth (KIn _ _ hlook) rfl S.co S.gen rfl (PySem.W.codeRec_of KIn hcode) (hbind _ _ _ _ ?_)
  refine wpAny_newFunctionEnv_cells S.kind (fun y hy => ?_) fun env henv s1 inC => ?_
  · obtain ⟨n, u⟩ := y
    rcases S.par n (List.of_mem_zip hy).1 with z | z
    · exact Or.inl z
    · exact Or.inr ⟨z, PySem.W.cellsFrom_some _ _ _ (Or.inl z)⟩
  subst henv
  refine ⟨noLim.keeps inC.toInCall.keep, codeAny_func ?_⟩
  obtain ⟨t, der, reading⟩ := hbody cdv A outer s H vs Q E (room.deeper _) gd hs
  have inv : Inv (cxOf CX P w K mg base N qual scope f cdv A outer s H E) [] (start N vs) H s1 := inv_start S room.hd env0 hlen rel inC
  refine wpAny_mono (der.run [] s1 (start N vs) H _ inv reading) (fun flow s' ended => ?_) fun _ _ z => z
  cases flow with
  | ret u =>
    obtain ⟨v, σ', H', J, rv, q⟩ := ended
    exact ⟨v, H', J.os, J.bare, J.base, J.hok, rv, q⟩
  | next =>
    obtain ⟨σ', H', J, q⟩ := ended
    exact ⟨V.non, H', J.os, J.bare, J.base, J.hok, rfl, q⟩
  | brk =>
    obtain ⟨_, _, _, z⟩ := ended
    exact z.elim
  | cont =>
    obtain ⟨_, _, _, z⟩ := ended
    exact z.elim
end
/-! ### a call of such a def -/
section
variable {X : Cx} {CX : CXT} {k : Nat} {f : Addr} {fd : FuncData} {ps : List Str} {sp : Sp} {E : XK}
theorem run_fnG {pins : List (Addr × Obj)} {σ : L2.St} {H : Hp} {s : Shared} {Q : VK} {us : List Value} {vs : List V} (F : FnG X.prog X.w X.K X.mg X.base CX k f fd ps sp) (hr : Room k X.A) (gd : X.A.guards = some []) (hb : Binds X.K fd ps []) (hx : Passes CX X E)
    (I : Inv X pins σ H s) (r : Vals vs us) (h : sp vs H Q E) : wpAny (model X.prog X.w) X.A (call (.ref f) us) (EP X pins σ Q) X.xe s := by
  have hlen : us.length = ps.length := by rw [← r.length]; exact F.len _ _ _ _ h
  have hb2 : BindsTo s fd ⟨us, []⟩ (ps.zip us) := by
    have z := hb s us I.kIn (by rw [List.append_nil]; exact hlen)
    rwa [List.append_nil] at z
  refine wpAny_call (codeAny_mono (F.run X.A X.stack s H ⟨us, []⟩ us vs Q E hr gd I.env0 hb2 r h) fun res s' got => ?_)
  cases res with
  | error e => exact hx pins σ H s e s' I got
  | ok flow =>
    cases flow with
    | ret u => exact I.after got
    | next => exact got.elim
    | brk => exact got.elim
    | cont => exact got.elim
/-- the def called x keeps sp where nothing is shown -/
structure FndG (P : Program) (w : World) (K : PySem.W.Frag) (mg : Str → Option Value) (base : Heap) (k : Nat) (x : Str) (ps : List Str) (sp : Sp) : Prop where
  ex : ∃ (f : Addr) (fd : FuncData), FnG P w K mg base CX0 k f fd ps sp ∧ mg x = some (.ref f) ∧ PySem.W.keepIn K (.ref f) = true ∧ Binds K fd ps []
theorem pe_funG {j : Nat} {x : Str} {e : Expr} {es : List Expr} {t : TA} {p pos : Pos} (h : FndG X.prog X.w X.K X.mg X.base j x ps sp) (gd : X.A.guards = some []) (hr : Room k X.A) (hj : j ≤ k) (hg : Gl X x) (ha : PA X (e :: es) t)
    (hdb : (x == ("__debug__" : Str)) = false := by decide) (he : starEach (e :: es) X.env = (false, eval e X.env) :: starEach es X.env := by rfl) (hpl : (backTo pos (starEach es X.env)).any (·.1) = false := by rfl) :
    PE X (.Call (.Name x p) (e :: es) [] pos) (tCall sp [] E0 t) := by
  obtain ⟨f, fd, F, hm, hk, hb⟩ := h.ex
  refine ⟨fun pins s σ H Q I hq => ?_⟩
  refine wpAny_Call_Name_kw (ld_glob I hg hm ?_ hdb)
  refine PySem.W.callWith_K (h₀ := X.base) I.ok.mod.kin hk (thn (ha.run pos pins s σ H _ I hq) fun us s1 ⟨vs, H1, I1, r, q⟩ => ⟨I1.kIn, ?_⟩) he hpl
  have q' : sp (vs ++ []) H1 Q E0 := q
  rw [List.append_nil] at q'
  exact run_fnG F (hr.mono hj) gd hb pass0 I1 r q'
end
/-! ### the law's end -/
section
variable {P : Program} {w : World} {K : PySem.W.Frag} {mg mb : Str → Option Value} {CX : CXT} {k : Nat} {fa a : Addr} {fd : FuncData} {x : Str} {sp : Sp} {s1 : Shared} {vs : List Value} {ns : List Int}
/-- over an abstract heap that tells at most the script -/
theorem law_coreG (H : Hp) (hO : Only H) (hS : SqL K H a (ns.map V.int)) (hok : HOk P w H s1.heap) (hA : ∀ b, H b ≠ none → b = a) (hK : H a ≠ none → K.lookup a = none)
    (KX : K.In s1.heap) (hns : s1.heap.Ns mainGlobals mg) (hb : s1.heap.Ns builtinsNs mb) (hbb : ∀ x : Str, x ≠ "__name__" → mb x = bootBuiltins x) (hlim : s1.heap.NoLimit) (hg : s1.gens = #[])
    (ha : s1.heap.get? a = some { cls := .type "list", data := .seq vs.toArray }) (hr : Room k callerA)
    (F : ∀ base : Heap, K.In base → base.Ns mainGlobals mg → FnG P w K mg base CX k fa fd [x] sp) (hbind : ∀ (s : Shared) (u : Value), BindsTo s fd ⟨[u], []⟩ [(x, u)])
    (hsp : sp [.ref a] H (fun v _ => v = .bl true) fun _ _ _ => False) (hCX : ∀ H e s', CX [] H s1 (fun _ _ _ => False) e s' → False) :
    codeAny (model P w) callerA (.call (.ref fa) ⟨[.ref a], []⟩) (fun r s' => r = .ok (.ret (.bool true)) ∧ OldK s1.heap s'.heap ∧ s'.os = s1.os ∧ AllBare s'.gens) s1 := by
  have at_a : ∀ {b : Addr} {u : HO}, H b = some u → b = a := fun {b u} z => hA b (by rw [z]; exact Option.some_ne_none _)
  have dictOut : ∀ {b : Addr} {o : Obj} {es : Array DictEntry} {ep : Nat}, s1.heap.get? b = some o → o.data = .dict es ep → H b = none := fun {b o es ep} e d => by
    cases z : H b with
    | none => rfl
    | some u =>
      rw [at_a z, ha] at e
      cases e
      cases (show Data.seq vs.toArray _ = Data.dict es ep from d)
  have nsUp : ∀ {b : Addr} {m : Str → Option Value}, s1.heap.Ns b m → (hidT s1.heap H).Ns b m := fun {b m} z => by
    obtain ⟨o, es, ep, e, d, r⟩ := z
    exact ⟨o, es, ep, hidT_get e (dictOut e d), d, r⟩
  have KUp : K.In (hidT s1.heap H) := fun b o e => by
    refine hidT_get (KX b o e) ?_
    cases z : H b with
    | none => rfl
    | some u =>
      have eb := at_a z
      subst eb
      rw [hK (by rw [z]; exact Option.some_ne_none _)] at e
      cases e
  obtain ⟨mc, lim1, lim2⟩ := hlim
  have ground : Env0 P w K mg (hidT s1.heap H) callerA [] s1 H :=
    { frames := rfl
      mod := ⟨KUp, nsUp hns, ⟨mb, nsUp hb, hbb⟩, ⟨mc, nsUp lim1, lim2⟩⟩
      bs := fun b o e => of_hidT e
      bsz := Nat.le_of_eq (hidT_size _ _)
      funs := trivial
      frf := fun b z => nomatch (show b ∈ ([] : List Addr) from z)
      hok := hok
      bare := .of_eq hg }
  refine codeAny_mono ((F _ KUp (nsUp hns)).run callerA [] s1 H ⟨[.ref a], []⟩ [.ref a] [.ref a] _ _ hr rfl ground (hbind s1 (.ref a)) (.cons rfl .nil) hsp) fun res s' got => ?_
  cases res with
  | error e => exact (hCX H e s' got).elim
  | ok flow =>
    cases flow with
    | next => exact got.elim
    | brk => exact got.elim
    | cont => exact got.elim
    | ret u =>
      obtain ⟨v, H', same, bare, un, hok', rv, e⟩ := got
      have e2 : v = .bl true := e
      subst e2
      cases (show u = Value.bool true from rv)
      refine ⟨rfl, OldK.of_keep fun b o eb => ?_, same, bare⟩
      cases z : H b with
      | none => exact un.keep b o eb z (fun y => nomatch (show b ∈ ([] : List Addr) from y)) (fun y => nomatch y)
      | some t =>
        rcases hO b with y | ⟨ob, xs, y⟩
        · rw [z] at y
          cases y
        · obtain ⟨g1, _⟩ := hok b _ y
          obtain ⟨g2, _⟩ := hok' b _ (un.frzs b ob _ y)
          rw [eb] at g1
          cases g1
          exact g2
theorem law_callG (KX : K.In s1.heap) (hns : s1.heap.Ns mainGlobals mg) (hb : s1.heap.Ns builtinsNs mb) (hbb : ∀ x : Str, x ≠ "__name__" → mb x = bootBuiltins x) (hlim : s1.heap.NoLimit) (hg : s1.gens = #[])
    (ha : s1.heap.get? a = some { cls := .type "list", data := .seq vs.toArray }) (hi : IntsAre vs ns) (hl : ns.length ≤ sizeLine) (hr : Room k callerA)
    (F : ∀ base : Heap, K.In base → base.Ns mainGlobals mg → FnG P w K mg base CX k fa fd [x] sp) (hbind : ∀ (s : Shared) (u : Value), BindsTo s fd ⟨[u], []⟩ [(x, u)])
    (hsp : ∀ H : Hp, Only H → SqL K H a (ns.map V.int) → sp [.ref a] H (fun v _ => v = .bl true) fun _ _ _ => False) (hCX : ∀ H e s', CX [] H s1 (fun _ _ _ => False) e s' → False) :
    codeAny (model P w) callerA (.call (.ref fa) ⟨[.ref a], []⟩) (fun r s' => r = .ok (.ret (.bool true)) ∧ OldK s1.heap s'.heap ∧ s'.os = s1.os ∧ AllBare s'.gens) s1 := by
  have rel := vals_ints hi
  have len := hi.length
  cases hk : K.lookup a with
  | some o =>
    have e := KX a o hk
    rw [ha] at e
    cases e
    have hO : Only fun _ => none := fun _ => Or.inl rfl
    have hS : SqL K (fun _ => none) a (ns.map V.int) := Or.inr ⟨_, vs.toArray, _, hk, rfl, rfl, rfl, by rw [List.size_toArray, len]; exact hl, by simpa using rel⟩
    exact law_coreG (fun _ => none) hO hS (fun b u z => nomatch (show (none : Option HO) = some u from z)) (fun b z => absurd rfl z) (fun z => absurd rfl z) KX hns hb hbb hlim hg ha hr F hbind (hsp _ hO hS) hCX
  | none =>
    let T : HO := .frz { cls := .type "list", data := .seq vs.toArray } (.lst (ns.map V.int))
    let H : Hp := upd (fun _ => none) a T
    have off : ∀ b, b ≠ a → H b = none := fun b hb => by
      show upd (fun _ => none) a T b = none
      rw [upd_ne hb]
    have on : H a = some T := upd_same
    have hO : Only H := fun b => by
      by_cases hba : b = a
      · exact Or.inr ⟨_, _, by rw [hba]; exact on⟩
      · exact Or.inl (off b hba)
    have hS : SqL K H a (ns.map V.int) := Or.inl (Or.inr ⟨_, on⟩)
    refine law_coreG H hO hS (fun b u z => ?_) (fun b z => ?_) (fun _ => hk) KX hns hb hbb hlim hg ha hr F hbind (hsp _ hO hS) hCX
    · by_cases hba : b = a
      · subst hba
        rw [on] at z
        cases z
        exact ⟨ha, by rw [List.length_map]; exact hl, vs, _, rel, ha⟩
      · rw [off b hba] at z
        cases z
    · by_cases hba : b = a
      · exact hba
      · exact absurd (off b hba) z
end
/-- the law's walk from its promise: F gives the written part, the function object and the promise over every base -/
theorem walk_G {l : PySem.W.OpenLaw} {n k : Nat} {q : Program} {loose : List Str} {XP : (Str → Option Value) → Heap → Prop} {YP : World → Heap → Prop} {d : DefRec} {x : Str} (most : l.most = some n) (few : n ≤ sizeLine) (nodf : d.params.defaults = []) (room : Room k callerA)
    (F : ∀ (w : World) (mg : Str → Option Value) (fa : Addr) (h : Heap), YP w h → h.Ns mainGlobals mg → mg d.name = some (.ref fa) →
      ∃ (K : PySem.W.Frag) (fd : FuncData) (sp : Sp), K.In h ∧ (∀ (s : Shared) (u : Value), BindsTo s fd ⟨[u], []⟩ [(x, u)]) ∧
        (∀ (H : Hp) (a : Addr) (ns : List Int), ns.length ≤ n → Only H → SqL K H a (ns.map V.int) → sp [.ref a] H (fun v _ => v = .bl true) fun _ _ _ => False) ∧
        ∀ base : Heap, K.In base → base.Ns mainGlobals mg → FnG l.prog w K mg base CX0 k fa fd [x] sp) :
    PySem.W.WalkO q loose XP YP l.row.toRowW d [] (fun f vs => PySem.call f vs) := by
  refine Att.attach_call most nodf fun w s0 s1 mg mb fa o pm cd doc a vs ns G Y ho hd hcd hmg hobj hints hlen hg => ?_
  obtain ⟨K, fd, sp, KX, hbind, hsp, hF⟩ := F w mg fa _ Y G.T.g hmg
  exact law_callG KX G.T.g G.T.b G.T.builtins G.T.nolimit hg hobj hints (Nat.le_trans hlen few) room hF hbind (fun H hO hS => hsp H a ns hlen hO hS) fun _ _ _ z => z
end WJ
set_option Elab.async false
set_option linter.all false
set_option maxRecDepth 100000
set_option maxHeartbeats 2000000
/-! WjM: lists of texts compared with [], _law_shuffled -/
namespace WJ
open PySem L2
/-! ### texts as data that == reads -/
def okS (x : Str) : Bool := x.cps.all (· < 0x110000)
theorem map_eraseIdx' {α β : Type} (f : α → β) : ∀ (xs : List α) (k : Nat), (xs.map f).eraseIdx k = (xs.eraseIdx k).map f
  | [], _ => rfl
  | _ :: _, 0 => rfl
  | x :: xs, k + 1 => by
    show f x :: (xs.map f).eraseIdx k = f x :: (xs.eraseIdx k).map f
    rw [map_eraseIdx' f xs k]
theorem plains_strs : ∀ xs : List Str, plains (xs.map Da.str) = true
  | [] => by unfold plains; rfl
  | x :: xs => by
    rw [List.map_cons]
    unfold plains Da.plain
    rw [plains_strs xs]
    rfl
theorem pys_strs : ∀ xs : List Str, pys (xs.map Da.str) = xs.map PyData.str
  | [] => by unfold pys; rfl
  | x :: xs => by
    rw [List.map_cons]
    unfold pys Da.py
    rw [pys_strs xs]
    rfl
theorem can_strs : ∀ xs : List Str, xs.all okS = true → PyData.canLayAll0 (xs.map PyData.str) = true
  | [], _ => rfl
  | x :: xs, h => by
    rw [List.all_cons] at h
    obtain ⟨h1, h2⟩ := Bool.and_eq_true_iff.mp h
    show (PyData.canLay0 (PyData.str x) && PyData.canLayAll0 (xs.map PyData.str)) = true
    rw [can_strs xs h2, Bool.and_true]
    exact h1
theorem dep_strs : ∀ xs : List Str, PyData.depthAll (xs.map PyData.str) ≤ 1
  | [] => by decide
  | n :: ns => by
    have h := dep_strs ns
    rw [List.map_cons]
    unfold PyData.depthAll
    unfold PyData.depth
    omega
theorem shaped_of {d : PyData} (h1 : d.canLay0 = true) (h2 : d.depth ≤ 64) : SeqAt.shaped d = true := by
  unfold SeqAt.shaped
  rw [h1, decide_eq_true h2]
  rfl
theorem shaped_strs {xs : List Str} (h : xs.all okS = true) : SeqAt.shaped (Da.lst (xs.map Da.str)).py = true := by
  unfold Da.py
  rw [pys_strs]
  have h2 := dep_strs xs
  refine shaped_of (by unfold PyData.canLay0; exact can_strs xs h) ?_
  unfold PyData.depth
  omega
theorem plain_strs {xs : List Str} : (Da.lst (xs.map Da.str)).plain = true := by
  unfold Da.plain
  exact plains_strs xs
theorem eqvAll_strs : ∀ xs ys : List Str, PyData.eqvAll (xs.map PyData.str) (ys.map PyData.str) = decide (xs = ys)
  | [], [] => rfl
  | [], _ :: _ => rfl
  | _ :: _, [] => rfl
  | x :: xs, y :: ys => by
    show (PyData.eqv (PyData.str x) (PyData.str y) && PyData.eqvAll (xs.map PyData.str) (ys.map PyData.str)) = _
    rw [eqvAll_strs xs ys]
    show ((x == y) && decide (xs = ys)) = decide (x :: xs = y :: ys)
    rw [Bool.eq_iff_iff]
    simp
theorem eqv_strs (xs ys : List Str) : PyData.eqv (Da.lst (xs.map Da.str)).py (Da.lst (ys.map Da.str)).py = decide (xs = ys) := by
  unfold Da.py
  rw [pys_strs, pys_strs]
  exact eqvAll_strs xs ys
section
variable {K : PySem.W.Frag} {W : Wd K} {Γ : List En} {c c1 c2 : Nat} {te ta tb ti : TE} {p : Po}
theorem rv_neS {xs ys : List Str} (h1 : xs.all okS = true) (h2 : ys.all okS = true) : Rv W (rNeA K) (.lst (xs.map Da.str)) (.lst (ys.map Da.str)) (· = .bl (!decide (xs = ys))) :=
  rv_neP plain_strs plain_strs (shaped_strs h1) (shaped_strs h2) (by rw [eqv_strs])
theorem rv_eqS {xs ys : List Str} (h1 : xs.all okS = true) (h2 : ys.all okS = true) : Rv W (rEqA K) (.lst (xs.map Da.str)) (.lst (ys.map Da.str)) (· = .bl (decide (xs = ys))) :=
  rv_eqP plain_strs plain_strs (shaped_strs h1) (shaped_strs h2) (by rw [eqv_strs])
theorem ev_nil : Ev W (tLst tNil) Γ 0 (· = .lst (([] : List Str).map Da.str)) := (evF_lst ea_nil (fun ds e => by rw [e]; decide)).ev'
theorem evF_nil : EvF W (tLst tNil) Γ 0 (· = []) := evF_lst ea_nil (fun ds e => by rw [e]; decide)
/-- f.append(l.pop(i)), both lists the body's own -/
theorem es_popApp {f l : Nat} {fs ls : List Da} (hf : Γ[f]? = some (.own fs)) (hl : Γ[l]? = some (.own ls)) (hne : f ≠ l) (hi : Ev W ti Γ c (fun d => ∃ k : Int, d = .int k ∧ 0 ≤ k ∧ k < (ls.length : Int))) (h1 : fs.length < 100000) (h2 : ls.length ≤ 100000)
    (hp : ∀ (k : Nat) (d : Da), ls[k]? = some d → p.nx ((Γ.set l (.own (ls.eraseIdx k))).set f (.own (fs ++ [d])))) :
    Es W (tDrop (tBM K "list" rAppend (tVar f) (tCons (tBM K "list" rPopAt (tVar l) (tCons ti tNil)) tNil))) Γ c p := fun H0 B0 B σ H M D s hM a b e g => by
  obtain ⟨o, ho, lf, xf, rfl, hBf, hxf, hdf⟩ := s.sl f _ hf
  obtain ⟨o, ho2, ll, xl, rfl, hBl, hxl, hdl⟩ := s.sl l _ hl
  have hOf : Ow σ Γ f lf := ⟨⟨_, hf, rfl⟩, ho⟩
  have hOl : Ow σ Γ l ll := ⟨⟨_, hl, rfl⟩, ho2⟩
  have hll : ll ≠ lf := fun z => hne (s.ow f l lf hOf (by rw [← z]; exact hOl))
  refine ⟨.ref lf, ho, Or.inl ⟨rfl, xf, Or.inl (Or.inl hxf)⟩, .ref ll, ho2, Or.inl ⟨rfl, xl, Or.inl (Or.inl hxl)⟩, ?_⟩
  refine hi H0 B0 B σ H M s hM _ fun v d H1 k r hv ⟨i, ei, hi0, hi1⟩ => ?_
  subst ei
  have ev := dInt.mp hv
  subst ev
  have s1 := s.keep k r
  have hxl1 : H1 ll = some (.lst xl) := k ll _ (s.outF hOl) hxl
  have hxf1 : H1 lf = some (.lst xf) := k lf _ (s.outF hOf) hxf
  have hlen := hdl.length
  have hkx : i.toNat < xl.length := by omega
  refine ⟨ll, xl, i, i.toNat, xl[i.toNat], rfl, rfl, hxl1, by omega, by omega, seqIndex_of hi0 (by omega), List.getElem?_eq_getElem hkx, ?_⟩
  have hdl1 : Dats K B H1 xl ls := Dats.mono (s.toBk.kp k) ls xl hdl
  have hdf1 : Dats K B H1 xf fs := Dats.mono (s.toBk.kp k) fs xf hdf
  obtain ⟨d, ed, hd⟩ := hdl1.get (List.getElem?_eq_getElem hkx)
  have s2 : Sg W H0 B0 B σ (Γ.set l (.own (ls.eraseIdx i.toNat))) (upd H1 ll (.lst (xl.eraseIdx i.toNat))) (M - c) :=
    s1.change hl rfl ho2 (e' := .own (ls.eraseIdx i.toNat)) rfl ⟨ll, _, rfl, hBl, upd_same, Dats.mono (Kp.mut hBl) _ _ (Dats.eraseIdx i.toNat hdl1)⟩
  have hf2 : (Γ.set l (.own (ls.eraseIdx i.toNat)))[f]? = some (.own fs) := by
    rw [List.getElem?_set_ne (fun z => hne z.symm)]
    exact hf
  have hxf2 : upd H1 ll (.lst (xl.eraseIdx i.toNat)) lf = some (.lst xf) := by
    rw [upd_ne (fun z => hll z.symm)]
    exact hxf1
  refine ⟨lf, xf, _, rfl, rfl, hxf2, by rw [hdf.length]; exact Nat.lt_of_lt_of_le h1 (by decide), ?_⟩
  refine a B σ _ _ (s2.change hf2 rfl ho (e' := .own (fs ++ [d])) rfl ⟨lf, _, rfl, hBf, upd_same, Dats.mono ((Kp.mut hBl).trans (Kp.mut hBf)) _ _ (hdf1.append (Dats.one hd))⟩) (Mv.of ((s.toBk.kp k).trans ((Kp.mut hBl).trans (Kp.mut hBf)))) (hp _ d ed)
theorem eraseIdx_perm {α : Type} : ∀ {xs : List α} {k : Nat} {x : α}, xs[k]? = some x → (x :: xs.eraseIdx k).Perm xs
  | [], k, x, h => by cases h
  | y :: ys, 0, x, h => by
    cases h
    exact .refl _
  | y :: ys, k + 1, x, h => by
    have h2 : ys[k]? = some x := by simpa using h
    exact (List.Perm.swap y x _).trans (.cons y (eraseIdx_perm h2))
def t__law_shuffled (K : PySem.W.Frag) (sp__law_next : Sp) : TS :=
  (tSeq (tPar 2 3 (tCons (tCB (rListA K) (tCons (tVar 1) tNil)) (tCons (tLst tNil) tNil)))
    (tSeq (tWhile (tTest (tOp (rNeA K) (tVar 2) (tLst tNil)))
    (tDrop (tBM K "list" rAppend (tVar 3) (tCons (tBM K "list" rPopAt (tVar 2) (tCons (tCall sp__law_next [] E0 (tCons (tVar 0) (tCons (tCB (rLenA K) (tCons (tVar 2) tNil)) tNil))) tNil)) tNil))))
    (tRet (tVar 3))))
theorem es_shuffled {q : Addr} {sp : Sp} {xs : List Str} (hN : NextOk W q sp) (hl : xs.length ≤ 1000) (ho : xs.all okS = true) (hp : ∀ ys : List Str, ys.Perm xs → p.rt (.lst (ys.map Da.str))) :
    Es W (t__law_shuffled K sp) [.dat (.obj q), .dat (.lst (xs.map Da.str)), .no, .no] (xs.length + 1) p := by
  have okp : ∀ ls : List Str, (∀ x ∈ ls, x ∈ xs) → ls.all okS = true := fun ls h => List.all_eq_true.mpr fun x hx => List.all_eq_true.mp ho x (h x hx)
  refine Es.weak (c := 0 + 0 + ((xs.length + 1) * (0 + 0 + (0 + (0 + 0 + 0) + 1)) + 0)) ?_ (by omega)
  refine es_seqE (Γ' := [.dat (.obj q), .dat (.lst (xs.map Da.str)), .own (xs.map Da.str), .own []]) (es_parE (P1 := fun e => e = .own (xs.map Da.str)) (P2 := fun e => e = .own []) ?_ ?_ ?_) ?_
  · have h := (evF_cb (K := K) (W := W) (Γ := [.dat (.obj q), .dat (.lst (xs.map Da.str)), .no, .no]) (ea_cons2 (ev_var (i := 1) rfl) ea_nil) (fun ds e => by rw [e]; exact rcF_list (P := (· = xs.map Da.str)) (d := .lst (xs.map Da.str)) rfl (by simpa using Nat.le_trans hl (by decide)) rfl)).e
    exact fun H0 B0 B σ H M s hM Q k => h H0 B0 B σ H M s hM Q fun v e H' k1 k2 k3 ⟨d, k4, k5⟩ => k v e H' k1 k2 k3 (by rw [k4, k5])
  · have h := (evF_nil (K := K) (W := W) (Γ := [.dat (.obj q), .dat (.lst (xs.map Da.str)), .no, .no])).e
    exact fun H0 B0 B σ H M s hM Q k => h H0 B0 B σ H M s hM Q fun v e H' k1 k2 k3 ⟨d, k4, k5⟩ => k v e H' k1 k2 k3 (by rw [k4, k5])
  · rintro e1 e2 rfl rfl
    rfl
  refine es_seq (N := fun Γ1 => ∃ fs : List Str, fs.Perm xs ∧ Γ1 = [.dat (.obj q), .dat (.lst (xs.map Da.str)), .own [], .own (fs.map Da.str)]) (es_while (m0 := xs.length) (I := fun m Γ1 => ∃ ls fs : List Str, ls.length = m ∧ (fs ++ ls).Perm xs ∧ Γ1 = [.dat (.obj q), .dat (.lst (xs.map Da.str)), .own (ls.map Da.str), .own (fs.map Da.str)]) ⟨xs, [], rfl, .refl _, rfl⟩ ?_) ?_
  · rintro m Γ1 hm ⟨ls, fs, rfl, hperm, rfl⟩
    have hls : ∀ x ∈ ls, x ∈ xs := fun x hx => hperm.subset (List.mem_append_right _ hx)
    refine ⟨fun b => b = !decide (ls = []), et_own (i := 2) rfl (et_testB (ev_op2 (ev_var rfl) ev_nil (rv_neS (okp ls hls) rfl))), fun hb => ?_, fun hb => ?_⟩
    · have hlen : 0 < ls.length := List.length_pos_iff.mpr fun z => by rw [z] at hb; cases hb
      have hpl := hperm.length_eq
      rw [List.length_append] at hpl
      refine es_popApp (f := 3) (l := 2) rfl rfl (by decide) (ev_own (i := 2) rfl (ev_callE (ea_cons2 (ev_var rfl) (ea_cons2 (ev_cbE (ea_cons2 (ev_var rfl) ea_nil) (rc_lenL rfl)) ea_nil)) (hN _ _ (by simpa using hlen) (by simp; omega) (fun k a b => ⟨k, rfl, a, b⟩))) (fun d ⟨k, z, _⟩ => by rw [z]; rfl)) (by rw [List.length_map]; omega) (by rw [List.length_map]; omega) (fun k d hd => ?_)
      rw [List.getElem?_map] at hd
      cases e : ls[k]? with
      | none =>
        rw [e] at hd
        cases hd
      | some x =>
        rw [e] at hd
        cases hd
        have hk : k < ls.length := (List.getElem?_eq_some_iff.mp e).1
        refine ⟨(ls.eraseIdx k).length, by rw [List.length_eraseIdx, if_pos hk]; omega, ls.eraseIdx k, fs ++ [x], rfl, ?_, by simp [map_eraseIdx']⟩
        rw [List.append_assoc]
        exact (List.Perm.append_left fs (eraseIdx_perm e)).trans hperm
    · have e : ls = [] := by
        by_cases z : ls = []
        · exact z
        · rw [decide_eq_false z] at hb
          cases hb
      subst e
      rw [List.append_nil] at hperm
      exact ⟨fs, hperm, rfl⟩
  · rintro Γ1 ⟨fs, hperm, rfl⟩
    exact es_freeze (i := 3) rfl (es_retE (ev_var rfl) (hp fs hperm))
end
end WJ
set_option Elab.async false
set_option linter.all false
set_option maxRecDepth 100000
set_option maxHeartbeats 2000000
/-! WkE: the source of draws with digits, great ones, lumps and a turn; _law_next over it -/
namespace WJ
open PySem L2
def kv1 (n : Int) (g l : Addr) (t : Int) : List (Key × V) := [(Sum.inr "digits", .int n), (Sum.inr "great", .ref g), (Sum.inr "lumps", .ref l), (Sum.inr "turn", .int t)]
theorem k1_dg : ¬ (Sum.inr "digits" : Key) = (Sum.inr "great" : Key) := by decide +kernel
theorem k1_dl : ¬ (Sum.inr "digits" : Key) = (Sum.inr "lumps" : Key) := by decide +kernel
theorem k1_gl : ¬ (Sum.inr "great" : Key) = (Sum.inr "lumps" : Key) := by decide +kernel
theorem k1_gt : ¬ (Sum.inr "great" : Key) = (Sum.inr "turn" : Key) := by decide +kernel
theorem k1_lt : ¬ (Sum.inr "lumps" : Key) = (Sum.inr "turn" : Key) := by decide +kernel
theorem k1_gd : ¬ (Sum.inr "great" : Key) = (Sum.inr "digits" : Key) := by decide +kernel
theorem k1_ld : ¬ (Sum.inr "lumps" : Key) = (Sum.inr "digits" : Key) := by decide +kernel
theorem k1_td : ¬ (Sum.inr "turn" : Key) = (Sum.inr "digits" : Key) := by decide +kernel
section
variable {g l : Addr} {n m t u : Int}
theorem kv1_d : valV (kv1 n g l t) (Sum.inr "digits") = some (.int n) := valV_pos rfl
theorem kv1_g : valV (kv1 n g l t) (Sum.inr "great") = some (.ref g) := by
  unfold kv1
  rw [valV_neg k1_dg, valV_pos rfl]
theorem kv1_l : valV (kv1 n g l t) (Sum.inr "lumps") = some (.ref l) := by
  unfold kv1
  rw [valV_neg k1_dl, valV_neg k1_gl, valV_pos rfl]
theorem kv1_t : valV (kv1 n g l t) (Sum.inr "turn") = some (.int t) := by
  unfold kv1
  rw [valV_neg k_dt, valV_neg k1_gt, valV_neg k1_lt, valV_pos rfl]
theorem kv1_putT : putK (kv1 n g l t) (Sum.inr "turn") (.int u) = kv1 n g l u := by
  unfold putK
  rw [valV_any, kv1_t, if_pos (show (some (V.int t)).isSome = true from rfl)]
  unfold kv1
  rw [List.map_cons, List.map_cons, List.map_cons, List.map_cons, if_neg k_dt, if_neg k1_gt, if_neg k1_lt, if_pos rfl]
  rfl
theorem kv1_putD : putK (kv1 n g l t) (Sum.inr "digits") (.int m) = kv1 m g l t := by
  unfold putK
  rw [valV_any, kv1_d, if_pos (show (some (V.int n)).isSome = true from rfl)]
  unfold kv1
  rw [List.map_cons, List.map_cons, List.map_cons, List.map_cons, if_pos rfl, if_neg k1_gd, if_neg k1_ld, if_neg k1_td]
  rfl
end
structure Dr1 (p g l : Addr) (M : Nat) (H : Hp) : Prop where
  ex : ∃ (gs ls : List Int) (n t : Int), H p = some (.dK (kv1 n g l t)) ∧ H g = some (.lst (gs.map V.int)) ∧ H l = some (.lst (ls.map V.int)) ∧ 0 ≤ n ∧ (∀ d ∈ gs, 0 ≤ d) ∧ (∀ c ∈ ls, 0 ≤ c) ∧ ls.length ≤ 1000 ∧ 0 ≤ t ∧ t + M ≤ 68719476736 ∧ g ≠ l
def DW1 (K : PySem.W.Frag) (p g l : Addr) : Wd K where
  F := [p, g, l]
  Dr := Dr1 p g l
  pres := fun {M H H'} h _ _ ⟨gs, ls, n, t, e1, e2, e3, r⟩ => ⟨gs, ls, n, t, (h p (by simp)).trans e1, (h g (by simp)).trans e2, (h l (by simp)).trans e3, r⟩
  alive := fun {M H} ⟨gs, ls, n, t, e1, e2, e3, r⟩ b hb => by
    simp only [List.mem_cons, List.not_mem_nil, or_false] at hb
    rcases hb with rfl | rfl | rfl
    · rw [e1]; exact Option.some_ne_none _
    · rw [e2]; exact Option.some_ne_none _
    · rw [e3]; exact Option.some_ne_none _
  less := fun {M N H} ⟨gs, ls, n, t, e1, e2, e3, h1, h2, h3, h4, h5, h6, h7⟩ hn => ⟨gs, ls, n, t, e1, e2, e3, h1, h2, h3, h4, h5, by omega, h7⟩
def t_n1mix (K : PySem.W.Frag) : TS :=
    (tSeq (sDAug (tVar 0) (tC (.str "turn")) (tC (.int 1)) rAdd)
    (tSeq (tAsg (tOp (rIxA K) (tVar 0) (tC (.str "turn"))) (gName 3))
    (tSeq (tAsg (tC (.int 0)) (gName 4))
    (tSeq (tIfS (tTest (tOp (rNeA K) (tOp (rIxA K) (tVar 0) (tC (.str "lumps"))) (tLst tNil)))
    (tAsg (tOp (rIxA K) (tOp (rIxA K) (tVar 0) (tC (.str "lumps"))) (tOp (rI (fun _ j => 0 < j) fun i j => .int (i % j)) (tCB (rIntA) (tCons (tVar 3) tNil)) (tCB (rLenA K) (tCons (tOp (rIxA K) (tVar 0) (tC (.str "lumps"))) tNil)))) (gName 4))
    tNext)
    (tSeq (tAsg (tOp (rI (fun _ j => 0 < j) fun i j => .int (i % j)) (tCB (rIntA) (tCons (tOp (rI CPow fun i j => .int (i ^ j.toNat)) (tOp (rAddA K) (tOp (rI (fun _ j => 0 < j) fun i j => .int (i % j)) (tCB (rIntA) (tCons (tVar 4) tNil)) (tC (.int 2147483629))) (tOp (rI CMulW fun i j => .int (i * j)) (tC (.int 40009)) (tVar 3))) (tC (.int 3))) tNil)) (tC (.int 2147483647))) (gName 5))
    (tRet (tOp (rI (fun _ j => 0 < j) fun i j => .int (i % j)) (tCB (rIntA) (tCons (tOp (rI CDivW fun i j => .int (i / j)) (tOp (rI (fun _ j => 0 < j) fun i j => .int (i % j)) (tCB (rIntA) (tCons (tOp (rI CPow fun i j => .int (i ^ j.toNat)) (tOp (rAddA K) (tVar 5) (tOp (rI CMulW fun i j => .int (i * j)) (tC (.int 104729)) (tVar 3))) (tC (.int 5))) tNil)) (tC (.int 2147483629))) (tC (.int 11))) tNil)) (tVar 1))))))))
def t_n1dig (K : PySem.W.Frag) : TS :=
    (tIfS (tTest (tOp (rI0 fun i j => .bl (decide (j < i))) (tOp (rIxA K) (tVar 0) (tC (.str "digits"))) (tC (.int 0))))
    (tSeq (tAsg (tOp (rI (fun _ j => 0 < j) fun i j => .int (i % j)) (tCB (rIntA) (tCons (tOp (rIxA K) (tVar 0) (tC (.str "digits"))) tNil)) (tVar 1)) (gName 2))
    (tSeq (sDPut (tVar 0) (tC (.str "digits")) (tOp (rI CDivW fun i j => .int (i / j)) (tOp (rIxA K) (tVar 0) (tC (.str "digits"))) (tVar 1)))
    (tRet (tVar 2))))
    tNext)
def t_next1 (K : PySem.W.Frag) : TS :=
  tSeq (tWhile (tAnd (tTest (tOp (rEqA K) (tOp (rIxA K) (tVar 0) (tC (.str "digits"))) (tC (.int 0)))) (tTest (tOp (rNeA K) (tOp (rIxA K) (tVar 0) (tC (.str "great"))) (tLst tNil))))
    (sDPut (tVar 0) (tC (.str "digits")) (tBM K "list" rPopAt (tOp (rIxA K) (tVar 0) (tC (.str "great"))) (tCons (tC (.int 0)) tNil))))
    (tSeq (t_n1dig K) (t_n1mix K))
theorem six {σ : L2.St} (h : σ.length = 6) : ∃ a b c d e f, σ = [a, b, c, d, e, f] := by
  match σ, h with
  | [a, b, c, d, e, f], _ => exact ⟨a, b, c, d, e, f, rfl⟩
structure D1 (p g l : Addr) (gs ls : List Int) (n t : Int) (H : Hp) : Prop where
  hp : H p = some (.dK (kv1 n g l t))
  hg : H g = some (.lst (gs.map V.int))
  hl : H l = some (.lst (ls.map V.int))
section
variable {p g l q : Addr} {gs gs' ls : List Int} {n m t u : Int} {H : Hp} {o : HO}
theorem D1.new (h : D1 p g l gs ls n t H) (nq : H q = none) : D1 p g l gs ls n t (upd H q o) :=
  ⟨by rw [upd_ne (ne_of_none h.hp nq)]; exact h.hp, by rw [upd_ne (ne_of_none h.hg nq)]; exact h.hg, by rw [upd_ne (ne_of_none h.hl nq)]; exact h.hl⟩
theorem D1.ngp (h : D1 p g l gs ls n t H) : g ≠ p := ne_of h.hg h.hp (fun z => nomatch z)
theorem D1.nlp (h : D1 p g l gs ls n t H) : l ≠ p := ne_of h.hl h.hp (fun z => nomatch z)
theorem D1.greats (h : D1 p g l gs ls n t H) (e : g ≠ l) : D1 p g l gs' ls n t (upd H g (.lst (gs'.map V.int))) :=
  ⟨by rw [upd_ne h.ngp.symm]; exact h.hp, upd_same, by rw [upd_ne e.symm]; exact h.hl⟩
theorem D1.put (h : D1 p g l gs ls n t H) : D1 p g l gs ls m u (upd H p (.dK (kv1 m g l u))) :=
  ⟨upd_same, by rw [upd_ne h.ngp]; exact h.hg, by rw [upd_ne h.nlp]; exact h.hl⟩
end
section
variable {K : PySem.W.Frag} {p g l : Addr} {n k t : Int} {gs ls : List Int} {H : Hp} {D : Ends} {s2 s3 s4 s5 : Option V}
/-- the last two rows, from the lump c and the turn t -/
theorem n1end {c : Int} (h1 : D1 p g l gs ls n t H) (hk0 : 0 < k) (ht0 : 0 ≤ t) (ht : t < 137438953472)
    (hD : ∀ i, 0 ≤ i → i < k → D.rt (.int i) H) :
    (tSeq (tAsg (tOp (rI (fun _ j => 0 < j) fun i j => .int (i % j)) (tCB (rIntA) (tCons (tOp (rI CPow fun i j => .int (i ^ j.toNat)) (tOp (rAddA K) (tOp (rI (fun _ j => 0 < j) fun i j => .int (i % j)) (tCB (rIntA) (tCons (tVar 4) tNil)) (tC (.int 2147483629))) (tOp (rI CMulW fun i j => .int (i * j)) (tC (.int 40009)) (tVar 3))) (tC (.int 3))) tNil)) (tC (.int 2147483647))) (gName 5))
    (tRet (tOp (rI (fun _ j => 0 < j) fun i j => .int (i % j)) (tCB (rIntA) (tCons (tOp (rI CDivW fun i j => .int (i / j)) (tOp (rI (fun _ j => 0 < j) fun i j => .int (i % j)) (tCB (rIntA) (tCons (tOp (rI CPow fun i j => .int (i ^ j.toNat)) (tOp (rAddA K) (tVar 5) (tOp (rI CMulW fun i j => .int (i * j)) (tC (.int 104729)) (tVar 3))) (tC (.int 5))) tNil)) (tC (.int 2147483629))) (tC (.int 11))) tNil)) (tVar 1)))) D [some (.ref p), some (.int k), s2, some (.int t), some (.int c), s5] H := by
  have hc2 := mod_b (a := c) (n := 2147483629) (by decide)
  refine ⟨_, rfl, Or.inl ⟨c, rfl, c, 2147483629, rfl, rfl, (by show (0 : Int) < 2147483629; decide), _, rfl, 40009, t, rfl, rfl, ?_, Or.inl ⟨_, _, rfl, rfl, _, 3, rfl, rfl, cpow3 (by omega) (by omega), Or.inl ⟨_, rfl, _, 2147483647, rfl, rfl, (by show (0 : Int) < 2147483647; decide), ?_⟩⟩⟩⟩
  · show Nat.log2 _ + Nat.log2 _ < 1000000
    have := log2_small (x := t) (by omega) (by omega)
    have e : (40009 : Int).natAbs.log2 = 15 := by decide +kernel
    omega
  generalize hm : (c % 2147483629 + 40009 * t) ^ (3 : Int).toNat % 2147483647 = m
  have hm2 : 0 ≤ m ∧ m < 2147483647 := by rw [← hm]; exact mod_b (by decide)
  refine ⟨_, rfl, _, rfl, 104729, t, rfl, rfl, ?_, Or.inl ⟨_, _, rfl, rfl, _, 5, rfl, rfl, cpow5 (by omega) (by omega), Or.inl ⟨_, rfl, _, 2147483629, rfl, rfl, (by show (0 : Int) < 2147483629; decide), _, 11, rfl, rfl, ⟨by decide, by decide +kernel⟩, Or.inl ⟨_, rfl, _, rfl, _, k, rfl, rfl, hk0, ?_⟩⟩⟩⟩
  · show Nat.log2 _ + Nat.log2 _ < 1000000
    have := log2_small (x := t) (by omega) (by omega)
    have e : (104729 : Int).natAbs.log2 = 16 := by decide +kernel
    omega
  exact hD _ (mod_b hk0).1 (mod_b hk0).2
theorem n1mix (h : D1 p g l gs ls n t H) (hk0 : 0 < k) (hll : ls.length ≤ 1000) (ht0 : 0 ≤ t) (ht : t < 68719476736)
    (hD : ∀ i H', D1 p g l gs ls n (t + 1) H' → Kp [p] H H' → Nt H H' → 0 ≤ i → i < k → D.rt (.int i) H') : t_n1mix K D [some (.ref p), some (.int k), s2, s3, s4, s5] H := by
  refine ⟨_, rfl, p, _, rfl, Or.inl ⟨_, Sum.inr "turn", Or.inl h.hp, rfl, kv1_t.symm⟩, t, 1, rfl, rfl, _, Or.inl ⟨_, Sum.inr "turn", h.hp, rfl, (by show 4 < sizeLine; decide), rfl⟩, ?_⟩
  rw [kv1_putT]
  have h1 : D1 p g l gs ls n (t + 1) (upd H p (.dK (kv1 n g l (t + 1)))) := h.put
  have k1 : Kp [p] H (upd H p (.dK (kv1 n g l (t + 1)))) := Kp.mut (by simp)
  have n1 : Nt H (upd H p (.dK (kv1 n g l (t + 1)))) := Nt.upd fun ps z => HO.noConfusion z
  generalize upd H p (.dK (kv1 n g l (t + 1))) = H1 at h1 k1 n1 ⊢
  refine rd_at rfl h1.hp kv1_t ?_
  refine ne_nil (ns := ls) (fun Q q => rd_at rfl h1.hp kv1_l q) h1.hl fun q nq => ?_
  have h2 : D1 p g l gs ls n (t + 1) (upd H1 q (.lst [])) := h1.new nq
  have k2 : Kp [p] H (upd H1 q (.lst [])) := k1.trans (Kp.new nq)
  have n2 : Nt H (upd H1 q (.lst [])) := n1.trans (Nt.upd fun ps z => HO.noConfusion z)
  generalize upd H1 q (.lst []) = H2 at h2 k2 n2 ⊢
  cases hls : ls with
  | nil =>
    subst hls
    exact n1end (c := 0) h2 hk0 (by omega) (by omega) (fun i a b => hD i H2 h2 k2 n2 a b)
  | cons c0 r =>
    rw [← hls]
    have hpos : 0 < ls.length := by rw [hls]; exact Nat.zero_lt_succ _
    have e0 : (!ls.isEmpty) = true := by rw [hls]; rfl
    rw [e0]
    refine iteT ?_
    refine rd_at rfl h2.hp kv1_l ⟨_, rfl, Or.inl ⟨_, rfl, rd_at rfl h2.hp kv1_l (Or.inl ⟨_, (ls.map V.int).length, rfl, Or.inl ⟨_, Or.inl (Or.inl h2.hl), rfl⟩, ?_⟩)⟩⟩
    rw [List.length_map]
    refine ⟨t + 1, (ls.length : Int), rfl, rfl, by omega, ?_⟩
    have hb := mod_b (a := t + 1) (n := (ls.length : Int)) (by omega)
    have hi : ((t + 1) % (ls.length : Int)).toNat < ls.length := by omega
    refine Or.inl (Or.inl ⟨l, _, _, _, rfl, rfl, Or.inl (Or.inl h2.hl), atI_nat' hb.1 (lst_get hi), ?_⟩)
    exact n1end h2 hk0 (by omega) (by omega) (fun i a b => hD i H2 h2 k2 n2 a b)
theorem n1dig (h : D1 p g l gs ls n t H) (hn0 : 0 ≤ n) (hk0 : 0 < k) (hk : k < 2 ^ 62)
    (hD : ∀ i m H', D1 p g l gs ls m t H' → 0 ≤ m → Kp [p] H H' → Nt H H' → 0 ≤ i → i < k → D.rt (.int i) H')
    (hN : D.nx [some (.ref p), some (.int k), s2, s3, s4, s5] H) : t_n1dig K D [some (.ref p), some (.int k), s2, s3, s4, s5] H := by
  refine rd_at rfl h.hp kv1_d ⟨n, 0, rfl, rfl, _, rfl, ?_⟩
  by_cases hp : 0 < n
  · rw [decide_eq_true hp]
    refine iteT ?_
    refine rd_at rfl h.hp kv1_d (Or.inl ⟨n, rfl, _, rfl, n, k, rfl, rfl, hk0, ?_⟩)
    refine rd_at rfl h.hp kv1_d ⟨_, rfl, n, k, rfl, rfl, ⟨hk0, Nat.lt_trans (log2_small (by omega) hk) (by decide)⟩, ?_⟩
    refine ⟨_, rfl, p, _, rfl, Or.inl ⟨_, Sum.inr "digits", h.hp, rfl, (by show 4 < sizeLine; decide), rfl⟩, ?_⟩
    rw [kv1_putD]
    exact ⟨_, rfl, hD _ (n / k) _ h.put (Int.ediv_nonneg hn0 (by omega)) (Kp.mut (by simp)) (Nt.upd fun ps z => HO.noConfusion z) (mod_b hk0).1 (mod_b hk0).2⟩
  · rw [decide_eq_false hp]
    exact hN
end
theorem next1_core {K : PySem.W.Frag} {p g l : Addr} {k : Int} {M : Nat} {H : Hp} {D : Ends} {s2 s3 s4 s5 : Option V} (hk0 : 0 < k) (hk : k < 2 ^ 62) (dr : Dr1 p g l M H) (hM : 1 ≤ M) (b : ∀ i H', Kp [p, g, l] H H' → Nt H H' → Dr1 p g l (M - 1) H' → 0 ≤ i → i < k → D.rt (.int i) H') :
    t_next1 K D [some (.ref p), some (.int k), s2, s3, s4, s5] H := by
  obtain ⟨gs, ls, n, t, hp, hg, hl, hn0, hgs, hls, hll, ht0, htM, hgl⟩ := dr
  have rest : ∀ gs1 n1 H1, D1 p g l gs1 ls n1 t H1 → (∀ d ∈ gs1, 0 ≤ d) → 0 ≤ n1 → Kp [p, g, l] H H1 → Nt H H1 → tSeq (t_n1dig K) (t_n1mix K) D [some (.ref p), some (.int k), s2, s3, s4, s5] H1 := fun gs1 n1 H1 h1 hd1 hn1 k1 w1 => by
    refine n1dig h1 hn1 hk0 hk (fun i m H' h' hm k' w' hi0 hi1 => ?_) ?_
    · exact b i H' (k1.trans (k'.more (by simp))) (w1.trans w') ⟨gs1, ls, m, t, h'.hp, h'.hg, h'.hl, hm, hd1, hls, hll, ht0, by omega, hgl⟩ hi0 hi1
    · refine n1mix h1 hk0 hll ht0 (by omega) (fun i H2 h2 k2 w2 hi0 hi1 => ?_)
      exact b i H2 (k1.trans (k2.more (by simp))) (w1.trans w2) ⟨gs1, ls, n1, t + 1, h2.hp, h2.hg, h2.hl, hn1, hd1, hls, hll, by omega, by omega, hgl⟩ hi0 hi1
  refine ⟨fun m σ' H' => σ' = [some (.ref p), some (.int k), s2, s3, s4, s5] ∧ ∃ gs' n', m = gs'.length ∧ D1 p g l gs' ls n' t H' ∧ (∀ d ∈ gs', 0 ≤ d) ∧ 0 ≤ n' ∧ Kp [p, g, l] H H' ∧ Nt H H', ⟨gs.length, rfl, gs, n, rfl, ⟨hp, hg, hl⟩, hgs, hn0, Kp.refl, Nt.refl⟩, ?_⟩
  rintro m σ' H1 ⟨rfl, gs1, n1, rfl, h1, hd1, hn1, k1, w1⟩
  refine rd_at rfl h1.hp kv1_d (Or.inl ⟨rfl, _, rfl, ?_⟩)
  by_cases hz : n1 = 0
  · rw [hz, show decide (V.int 0 = V.int 0) = true from decide_eq_true rfl]
    rw [hz] at h1
    refine ne_nil (ns := gs1) (fun Q q => rd_at rfl h1.hp kv1_g q) h1.hg fun q nq => ?_
    have h2 : D1 p g l gs1 ls 0 t (upd H1 q (.lst [])) := h1.new nq
    have k2 : Kp [p, g, l] H (upd H1 q (.lst [])) := k1.trans (Kp.new nq)
    have w2 : Nt H (upd H1 q (.lst [])) := w1.trans (Nt.upd fun ps z => HO.noConfusion z)
    generalize upd H1 q (.lst []) = H2 at h2 k2 w2 ⊢
    cases gs1 with
    | nil => exact rest [] 0 H2 h2 hd1 (Int.le_refl _) k2 w2
    | cons d r =>
      show ∃ N, _
      refine ⟨fun σ' H' => ∃ m', m' < (d :: r).length ∧ σ' = [some (.ref p), some (.int k), s2, s3, s4, s5] ∧ ∃ gs' n', m' = gs'.length ∧ D1 p g l gs' ls n' t H' ∧ (∀ d ∈ gs', 0 ≤ d) ∧ 0 ≤ n' ∧ Kp [p, g, l] H H' ∧ Nt H H', fun σ' H' z => z, ?_⟩
      refine rd_at rfl h2.hp kv1_g ⟨Or.inl ⟨rfl, _, Or.inl (Or.inl h2.hg)⟩, g, _, 0, 0, .int d, rfl, rfl, h2.hg, by decide, by decide, (by rw [seqIndex_of (by decide) (by simp)]; rfl), rfl, ?_⟩
      have h3 : D1 p g l r ls 0 t (upd H2 g (.lst (r.map V.int))) := h2.greats hgl
      refine ⟨_, rfl, p, _, rfl, Or.inl ⟨_, Sum.inr "digits", h3.hp, rfl, (by show 4 < sizeLine; decide), rfl⟩, ?_⟩
      rw [kv1_putD]
      exact ⟨r.length, by simp, rfl, r, d, rfl, h3.put, fun x hx => hd1 x (List.mem_cons_of_mem _ hx), hd1 d List.mem_cons_self, (k2.trans (Kp.mut (by simp))).trans (Kp.mut (by simp)), (w2.trans (Nt.upd fun ps z => HO.noConfusion z)).trans (Nt.upd fun ps z => HO.noConfusion z)⟩
  · rw [show decide (V.int n1 = V.int 0) = false from decide_eq_false (fun z => hz (by cases z; rfl))]
    exact rest gs1 n1 H1 h1 hd1 hn1 k1 w1
theorem es_next1 {K : PySem.W.Frag} {p g l : Addr} {k : Int} (hk0 : 0 < k) (hk : k < 2 ^ 62) : Es (DW1 K p g l) (t_next1 K) [.dat (.obj p), .dat (.int k), .no, .no, .no, .no] 1 ⟨fun _ => False, fun d => ∃ i, d = .int i ∧ 0 ≤ i ∧ i < k, fun _ => False, fun _ => False⟩ := by
  intro H0 B0 B σ H M D s hM a b e f
  obtain ⟨o0, e0, v0, rfl, d0⟩ := s.sl 0 _ rfl
  obtain ⟨o1, e1, v1, rfl, d1⟩ := s.sl 1 _ rfl
  unfold Dat at d0 d1
  subst d0 d1
  obtain ⟨s0, s1, s2, s3, s4, s5, rfl⟩ := six s.ln
  cases e0
  cases e1
  exact next1_core hk0 hk s.dr hM fun i H' k' _ dr hi0 hi1 => b _ (.int i) H' (s.k0.trans k') dr (dInt.mpr rfl) ⟨i, rfl, hi0, hi1⟩
end WJ
set_option Elab.async false
set_option linter.all false
set_option maxRecDepth 100000
set_option maxHeartbeats 2000000
/-! WjY: THE sorted list of texts, of things by a text of theirs -/
namespace WJ
open PySem L2
/-- a is not behind b -/
def leT (a b : Str) : Bool := !decide (b.cps.toList < a.cps.toList)
theorem leT_total (a b : Str) : (leT a b || leT b a) = true := by
  unfold leT
  by_cases h : b.cps.toList < a.cps.toList
  · have : ¬ a.cps.toList < b.cps.toList := fun z => List.lt_irrefl _ (List.lt_trans z h)
    simp [h, this]
  · simp [h]
theorem leT_trans {a b c : Str} (h1 : leT a b = true) (h2 : leT b c = true) : leT a c = true := by
  unfold leT at *
  simp only [Bool.not_eq_true', decide_eq_false_iff_not] at *
  exact List.not_lt.mpr (List.le_trans (List.not_lt.mp h1) (List.not_lt.mp h2))
theorem leT_anti {a b : Str} (h1 : leT a b = true) (h2 : leT b a = true) : a = b := by
  unfold leT at *
  simp only [Bool.not_eq_true', decide_eq_false_iff_not] at *
  have e : a.cps.toList = b.cps.toList := List.le_antisymm (List.not_lt.mp h1) (List.not_lt.mp h2)
  have e2 : a.cps = b.cps := by
    have := congrArg List.toArray e
    simpa using this
  cases a
  cases b
  cases e2
  rfl
section
variable {α : Type} (f : α → Str)
/-- sorted by f -/
def sortBy (xs : List α) : List α := xs.mergeSort fun a b => leT (f a) (f b)
theorem sortBy_perm (xs : List α) : (sortBy f xs).Perm xs := List.mergeSort_perm _ _
theorem sortBy_sorted (xs : List α) : (sortBy f xs).Pairwise fun a b => leT (f a) (f b) = true :=
  List.pairwise_mergeSort (le := fun a b => leT (f a) (f b)) (fun a b c h1 h2 => leT_trans h1 h2) (fun a b => leT_total (f a) (f b)) xs
variable {f}
theorem sorted_one {xs ys : List α} (hp : ys.Perm xs) (hs : ys.Pairwise fun a b => leT (f a) (f b) = true) (hi : ∀ a ∈ xs, ∀ b ∈ xs, f a = f b → a = b) : ys = sortBy f xs := by
  refine List.Perm.eq_of_pairwise (le := fun a b => leT (f a) (f b) = true) (fun a b ha hb h1 h2 => ?_) hs (sortBy_sorted f xs) (hp.trans (sortBy_perm f xs).symm)
  exact hi a (hp.mem_iff.mp ha) b ((sortBy_perm f xs).mem_iff.mp hb) (leT_anti h1 h2)
theorem sortBy_eq {xs ys : List α} (hp : ys.Perm xs) (hi : ∀ a ∈ xs, ∀ b ∈ xs, f a = f b → a = b) : sortBy f ys = sortBy f xs :=
  sorted_one ((sortBy_perm f ys).trans hp) (sortBy_sorted f ys) hi
end
def sortT (xs : List Str) : List Str := sortBy (fun x => x) xs
theorem sortT_perm (xs : List Str) : (sortT xs).Perm xs := sortBy_perm _ xs
theorem sortT_eq {xs ys : List Str} (hp : ys.Perm xs) : sortT ys = sortT xs := sortBy_eq hp fun _ _ _ _ e => e
theorem rising_pair : ∀ (x : Str) (xs : List Str), PyProof.Rows.risingS x xs = true → (x :: xs).Pairwise fun a b => leT a b = true
  | x, [], _ => List.pairwise_singleton _ _
  | x, y :: r, h => by
    obtain ⟨h1, h2⟩ := Bool.and_eq_true_iff.mp (show (!PySem.Spec.ltCps y.cps.toList x.cps.toList && PyProof.Rows.risingS y r) = true from h)
    have h3 := rising_pair y r h2
    have h4 : leT x y = true := by
      unfold leT
      rw [← PyProof.Rows.ltCps_eq]
      exact h1
    refine List.pairwise_cons.mpr ⟨fun z hz => ?_, h3⟩
    rcases List.mem_cons.mp hz with e | e
    · rw [e]
      exact h4
    · exact leT_trans h4 ((List.pairwise_cons.mp h3).1 z e)
theorem sorted_is {xs ys : List Str} (hp : ys.Perm xs) (hs : PyProof.Rows.sortedS ys = true) : ys = sortT xs := by
  refine sorted_one (f := fun x => x) hp ?_ fun _ _ _ _ e => e
  cases ys with
  | nil => exact List.Pairwise.nil
  | cons y r => exact rising_pair y r hs
theorem sortBy_map {α : Type} (f : α → Str) (xs : List α) : (sortBy f xs).map f = sortT (xs.map f) := by
  refine sorted_one (f := fun x => x) ((sortBy_perm f xs).map f) ?_ fun _ _ _ _ e => e
  rw [List.pairwise_map]
  exact sortBy_sorted f xs
section
variable {K : PySem.W.Frag} {W : Wd K}
theorem rcF_sortT {xs : List Str} (hl : xs.length < 64) : RcF W (rSortedA K) [.lst (xs.map Da.str)] (· = (sortT xs).map Da.str) := rcF_sortedL hl fun ys h1 h2 => by rw [sorted_is h1 h2]
theorem rcF_sortTD {es : List (Key × Da)} {ks : List Str} (hk : es.map (·.1) = ks.map Sum.inr) (hl : ks.length < 64) : RcF W (rSortedA K) [.dct es] (· = (sortT ks).map Da.str) := rcF_sortedD hk hl fun ys h1 h2 => by rw [sorted_is h1 h2]
end
end WJ
set_option Elab.async false
set_option linter.all false
set_option maxRecDepth 100000
set_option maxHeartbeats 2000000
/-! WjN: comprehensions of drawn things, slices, drawn words -/
namespace WJ
open PySem L2 TL
section
variable {K : PySem.W.Frag} {W : Wd K} {Γ : List En} {c c0 c1 c2 cb n : Nat} {te ta tb ti : TE} {wi : TI} {i : Nat}
/-- a comprehension without a test whose elements all are P -/
theorem evF_each {Pi : List Da → Prop} {P : Da → Prop} (hi : Ei W wi Γ c0 Pi) (he : ∀ ds d, Pi ds → d ∈ ds → Ev W te ((wipeE Γ [i]).set i (.dat d)) cb P) (hn : ∀ ds, Pi ds → ds.length ≤ n) (hz : n ≤ 100000) :
    EvF W (tLc wi (gName i) tYes te [i]) Γ (c0 + n * cb) (fun acc => ∃ ds, Pi ds ∧ acc.length = ds.length ∧ ∀ x ∈ acc, P x) := by
  refine (evF_lc (n := n) (R := fun ds j acc => acc.length = j ∧ ∀ x ∈ acc, P x) hi (fun ds h => ⟨rfl, fun x z => nomatch z⟩) (fun ds j d acc h hj ha => ?_) hn hz).weak (Nat.le_refl _) (fun acc ⟨ds, h1, h2⟩ => ⟨ds, h1, h2⟩)
  refine ⟨_, fun b => b = true, 0, cb, eg_name, by omega, et_yes rfl, fun _ => (he ds d h (List.mem_of_getElem? hj)).imp fun e q => ⟨by simp [ha.1], fun x hx => ?_⟩, fun z => by cases z⟩
  rcases List.mem_append.mp hx with z | z
  · exact ha.2 x z
  · rw [List.mem_singleton.mp z]
    exact q
/-! slices -/
def EvO (W : Wd K) (to : TO) (Γ : List En) (c : Nat) (P : Option Int → Prop) : Prop :=
  ∀ (H0 : Hp) (B0 B : List Addr) (σ : L2.St) (H : Hp) (M : Nat), Sg W H0 B0 B σ Γ H M → c ≤ M → ∀ Q : Option Int → Hp → Prop, (∀ o H', Kp W.F H H' → W.Dr (M - c) H' → P o → Q o H') → to σ H Q
theorem eo_none : EvO W tNoPart Γ 0 (· = none) := fun H0 B0 B σ H M s _ Q q => q none H Kp.refl s.dr rfl
theorem eo_some {P : Int → Prop} (h : Ev W ti Γ c (fun d => ∃ k, d = .int k ∧ P k)) : EvO W (tPart ti) Γ c (fun o => ∃ k, o = some k ∧ P k) := fun H0 B0 B σ H M s hM Q q =>
  h H0 B0 B σ H M s hM _ fun v d H1 k r hd ⟨i, e, p⟩ => by
    subst e
    exact ⟨i, dInt.mp hd, q (some i) H1 k r ⟨i, rfl, p⟩⟩
theorem eo_int {k : Int} (h : Ev W ti Γ c (· = .int k)) : EvO W (tPart ti) Γ c (· = some k) := fun H0 B0 B σ H M s hM Q q =>
  h H0 B0 B σ H M s hM _ fun v d H1 k1 r hd e => by
    subst e
    exact ⟨k, dInt.mp hd, q (some k) H1 k1 r rfl⟩
def cutD (xs : List Da) (lo hi : Option Int) : List Da := (xs.drop (HT.sIx xs.length 0 lo)).take (HT.sIx xs.length xs.length hi - HT.sIx xs.length 0 lo)
theorem evF_slL {Pd : List Da → Prop} {Pl Ph : Option Int → Prop} {tl th : TO} (h : Ev W te Γ c0 (fun d => ∃ ds, d = .lst ds ∧ Pd ds)) (h1 : EvO W tl Γ c1 Pl) (h2 : EvO W th Γ c2 Ph) :
    EvF W (tSl (rSlA K) te tl th) Γ (c0 + c1 + c2) (fun es => ∃ ds lo hi, Pd ds ∧ Pl lo ∧ Ph hi ∧ es = cutD ds lo hi) := fun H0 B0 B σ H M s hM Q q =>
  h H0 B0 B σ H M s (by omega) _ fun v d H1 k1 r1 hd ⟨ds, e, pd⟩ => h1 H0 B0 B σ H1 _ (s.keep k1 r1) (by omega) _ fun lo H2 k2 r2 p2 => h2 H0 B0 B σ H2 _ ((s.keep k1 r1).keep k2 r2) (by omega) _ fun hi H3 k3 r3 p3 => by
    subst e
    have s3 := ((s.keep k1 r1).keep k2 r2).keep k3 r3
    have hd3 := Dat.mono (((s.keep k1 r1).toBk.kp k2).trans (((s.keep k1 r1).keep k2 r2).toBk.kp k3)) _ _ hd
    unfold Dat at hd3
    obtain ⟨a, xs, rfl, sl, t⟩ := hd3
    refine Or.inl ⟨a, xs, rfl, sl.sq, fun l nl => ?_⟩
    have e1 : cutV xs lo hi = (xs.drop (HT.sIx ds.length 0 lo)).take (HT.sIx ds.length ds.length hi - HT.sIx ds.length 0 lo) := by unfold cutV; rw [t.length]
    refine q l (cutV xs lo hi) (cutD ds lo hi) _ (((k1.trans k2).trans k3).backB (fun z => s3.al l (s.fb l z) nl) nl) (((k1.trans k2).trans k3).trans (Kp.new nl)) (Wd.new nl (W.less r3 (by omega))) upd_same ?_ ⟨ds, lo, hi, pd, p2, p3, rfl⟩
    rw [e1]
    exact Dats.mono (Kp.new nl) _ _ (Dats.put nl _ _ (Dats.take _ (Dats.drop _ t)))
theorem ev_slS {x : Str} {Pl Ph : Option Int → Prop} {tl th : TO} (h : Ev W te Γ c0 (· = .str x)) (h1 : EvO W tl Γ c1 Pl) (h2 : EvO W th Γ c2 Ph) (hl : x.length ≤ 100000) :
    Ev W (tSl (rSlA K) te tl th) Γ (c0 + c1 + c2) (fun d => ∃ lo hi, Pl lo ∧ Ph hi ∧ d = .str (cutS x lo hi)) := fun H0 B0 B σ H M s hM Q q =>
  h H0 B0 B σ H M s (by omega) _ fun v d H1 k1 r1 hd e => h1 H0 B0 B σ H1 _ (s.keep k1 r1) (by omega) _ fun lo H2 k2 r2 p2 => h2 H0 B0 B σ H2 _ ((s.keep k1 r1).keep k2 r2) (by omega) _ fun hi H3 k3 r3 p3 => by
    subst e
    exact Or.inr (Or.inl ⟨x, dStr.mp hd, Nat.le_trans hl (by decide), q _ (.str _) H3 ((k1.trans k2).trans k3) (W.less r3 (by omega)) (dStr.mpr rfl) ⟨lo, hi, p2, p3, rfl⟩⟩)
/-! letters and words -/
def abc : Str := "abcdefghijklmnopqrstuvwxyz"
def letterC (c : Nat) : Bool := decide (c ∈ abc.cps.toList)
/-- a text of n letters, lo ≤ n ≤ hi -/
def lettersS (lo hi : Nat) (x : Str) : Bool := decide (lo ≤ x.length) && decide (x.length ≤ hi) && x.cps.toList.all letterC
def isName (x : Str) : Bool := lettersS 1 6 x
theorem letter_lt {c : Nat} (h : letterC c = true) : 97 ≤ c ∧ c ≤ 122 := by
  have h2 : c ∈ abc.cps.toList := of_decide_eq_true h
  have e : abc.cps.toList = [97, 98, 99, 100, 101, 102, 103, 104, 105, 106, 107, 108, 109, 110, 111, 112, 113, 114, 115, 116, 117, 118, 119, 120, 121, 122] := by decide +kernel
  rw [e] at h2
  simp only [List.mem_cons, List.not_mem_nil, or_false] at h2
  omega
theorem name_ok {x : Str} {lo hi : Nat} (h : lettersS lo hi x = true) : okS x = true := by
  unfold lettersS at h
  obtain ⟨_, h2⟩ := Bool.and_eq_true_iff.mp h
  unfold okS
  rw [← Array.all_toList, List.all_eq_true]
  intro c hc
  have := letter_lt (List.all_eq_true.mp h2 c hc)
  exact decide_eq_true (by omega)
theorem name_len {x : Str} {lo hi : Nat} (h : lettersS lo hi x = true) : lo ≤ x.length ∧ x.length ≤ hi := by
  unfold lettersS at h
  obtain ⟨h1, _⟩ := Bool.and_eq_true_iff.mp h
  obtain ⟨h1, h2⟩ := Bool.and_eq_true_iff.mp h1
  exact ⟨of_decide_eq_true h1, of_decide_eq_true h2⟩
/-- signs put together -/
def signs (cs : List Nat) : List Str := cs.map fun c => ⟨#[c]⟩
theorem join_signs : ∀ cs : List Nat, Txt.join "" (signs cs) = ⟨cs.toArray⟩ := fun cs => by
  rw [join_eq]
  have h : tl (Str.join "" (signs cs)) = cs := by
    rw [tl_join]
    have e : tl ("" : Str) = [] := by decide +kernel
    rw [e]
    have key : ∀ cs : List Nat, joinL [] ((signs cs).map tl) = cs := fun cs => by
      induction cs with
      | nil => rfl
      | cons c cs ih =>
        cases cs with
        | nil => rfl
        | cons d ds =>
          show [c] ++ ([] ++ joinL [] ((signs (d :: ds)).map tl)) = c :: d :: ds
          rw [ih]
          rfl
    exact key cs
  have e2 : Str.join "" (signs cs) = ⟨(tl (Str.join "" (signs cs))).toArray⟩ := (mk_tl _).symm
  rw [e2, h]
theorem signs_sum (cs : List Nat) : ((signs cs).map (·.length)).sum = cs.length := by
  induction cs with
  | nil => rfl
  | cons c cs ih =>
    show (⟨#[c]⟩ : Str).length + ((signs cs).map (·.length)).sum = cs.length + 1
    rw [ih]
    show 1 + cs.length = _
    omega
/-- ''.join([pick(draw, letters) for k in range(1 + next(draw, m))]) : a text of letters -/
theorem ev_word {q : Addr} {spN spP : Sp} {dv pv k : Nat} {letters : Str} {m : Nat} (hN : NextOk W q spN) (hP : PickOk W q spP) (hd : Γ[dv]? = some (.dat (.obj q))) (hp : Γ[pv]? = some (.dat (.str letters))) (hk1 : dv ≠ k) (hk2 : pv ≠ k)
    (hl : letters.cps.toList.all letterC = true) (hl0 : letters.length ≠ 0) (hl1 : letters.length ≤ 1000) (hm0 : 0 < m) (hm : m ≤ 20) :
    Ev W (tM1 (r_join K) (tC (.str "")) (tLc (iRng1 (tCons (tOp (rAddA K) (tC (.int 1)) (tCall spN [] E0 (tCons (tVar dv) (tCons (tC (.int (m : Int))) tNil)))) tNil)) (gName k) tYes (tCall spP [] E0 (tCons (tVar dv) (tCons (tVar pv) tNil))) [k])) Γ (1 + m) (fun d => ∃ x, d = .str x ∧ lettersS 1 m x = true) := by
  have hsig : signsD letters = (letters.cps.toList.map fun c => Da.str ⟨#[c]⟩) := rfl
  have hcomp := evF_each (K := K) (W := W) (Γ := Γ) (i := k) (n := m) (cb := 1) (c0 := 0 + (0 + (0 + 0) + 1) + 0) (te := tCall spP [] E0 (tCons (tVar dv) (tCons (tVar pv) tNil))) (P := fun d => ∃ c, d = .str ⟨#[c]⟩ ∧ letterC c = true) (Pi := fun ds => ∃ j : Nat, j < m ∧ ds = rngD 0 (j + 1))
    (ei_rng1 (c := 0 + (0 + (0 + 0) + 1) + 0) (ea_cons (ev_op ev_int (ev_callE (E := E0) (ea_cons2 (ev_var hd) (ea_cons2 ev_int ea_nil)) (hN m (fun d => ∃ j : Int, d = .int j ∧ 0 ≤ j ∧ j < m) (by omega) (by omega) (fun j a b => ⟨j, rfl, a, b⟩))) (P := fun d => ∃ j : Nat, j < m ∧ d = .int (1 + j)) (fun d1 d2 e1 ⟨j, e2, h1, h2⟩ => by
      subst e1 e2
      exact rv_addI ⟨j.toNat, by omega, by rw [Int.toNat_of_nonneg h1]⟩)) ea_nil (fun d ds ⟨j, h1, h2⟩ e => by
      subst h2 e
      exact ⟨1 + (j : Int), rfl, ⟨by omega, by omega⟩, j, h1, by rw [show (1 + (j : Int)).toNat = j + 1 by omega]⟩)))
    (fun ds d ⟨j, h1, h2⟩ hd2 => by
      refine ev_callE (c1 := 0 + (0 + 0)) (c2 := 1) (ea_cons2 (ev_var ?_) (ea_cons2 (ev_var ?_) ea_nil)) (hP (.str letters) (signsD letters) _ rfl (fun z => hl0 ?_) ?_ ?_)
      · show ((Γ.set k .no).set k (.dat d))[dv]? = _
        rw [List.getElem?_set_ne hk1.symm, List.getElem?_set_ne hk1.symm]
        exact hd
      · show ((Γ.set k .no).set k (.dat d))[pv]? = _
        rw [List.getElem?_set_ne hk2.symm, List.getElem?_set_ne hk2.symm]
        exact hp
      · rw [← signs_len, z]; rfl
      · rw [signs_len]; omega
      · intro x hx
        rw [hsig] at hx
        obtain ⟨c, hc, rfl⟩ := List.mem_map.mp hx
        exact ⟨c, rfl, List.all_eq_true.mp hl c hc⟩)
    (fun ds ⟨j, h1, h2⟩ => by rw [h2, rngD_len]; omega) (by omega)
  have hj := ev_joinP (K := K) (W := W) (Γ := Γ) (x := "") (n := m) (P := fun xs => ∃ cs : List Nat, xs = signs cs ∧ 1 ≤ cs.length ∧ cs.length ≤ m ∧ cs.all letterC = true) ev_str (hcomp.ev.imp fun d ⟨acc, e, ds, ⟨j, h1, h2⟩, h3, h4⟩ => by
      have key : ∀ acc : List Da, (∀ x ∈ acc, ∃ c, x = Da.str ⟨#[c]⟩ ∧ letterC c = true) → ∃ cs : List Nat, acc = (signs cs).map Da.str ∧ cs.all letterC = true := fun acc => by
        induction acc with
        | nil => exact fun _ => ⟨[], rfl, rfl⟩
        | cons a acc ih =>
          intro h
          obtain ⟨c, e, hc⟩ := h a List.mem_cons_self
          obtain ⟨cs, e2, h2⟩ := ih fun x hx => h x (List.mem_cons_of_mem _ hx)
          refine ⟨c :: cs, ?_, by rw [List.all_cons, hc, h2]; rfl⟩
          rw [e, e2]
          rfl
      obtain ⟨cs, e1, e2⟩ := key acc h4
      have hlen : cs.length = j + 1 := by
        have e3 : acc.length = cs.length := by rw [e1, List.length_map]; simp [signs]
        rw [← e3, h3, h2, rngD_len]
      exact ⟨signs cs, by rw [e, e1], cs, rfl, by omega, by omega, e2⟩) (fun xs ⟨cs, e, h1, h2, _⟩ => by
      rw [e, signs_sum]
      have e4 : ("" : Str).length = 0 := by decide +kernel
      rw [e4]
      omega)
  refine hj.weak (by omega) fun d ⟨xs, e, cs, e1, h1, h2, h3⟩ => ⟨_, e, ?_⟩
  rw [e1, join_signs]
  unfold lettersS
  have el : (⟨cs.toArray⟩ : Str).length = cs.length := by simp [Str.length]
  rw [el, decide_eq_true h1, decide_eq_true h2]
  simpa using h3
end
end WJ
set_option Elab.async false
set_option linter.all false
set_option maxRecDepth 100000
set_option maxHeartbeats 2000000
/-! WjZ: texts of lines, lines of words -/
namespace WJ
open PySem L2 TL
/-- lines, each with its end -/
def textOf (ls : List Str) : Str := Txt.join "" (ls.map fun l => l ++ "\n")
theorem tl_empty : tl ("" : Str) = [] := by decide +kernel
theorem tl_nl : tl ("\n" : Str) = [10] := by decide +kernel
theorem tl_sp : tl (" " : Str) = [32] := by decide +kernel
theorem joinL_nil : ∀ ps : List (List Nat), joinL [] ps = ps.flatten
  | [] => rfl
  | [p] => by simp [joinL]
  | p :: q :: r => by
    rw [joinL, joinL_nil (q :: r)]
    simp
theorem joinL_end (s : Nat) : ∀ ls : List (List Nat), joinL [s] (ls ++ [[]]) = (ls.map fun l => l ++ [s]).flatten
  | [] => rfl
  | [l] => by simp [joinL]
  | l :: m :: r => by
    show l ++ ([s] ++ joinL [s] (m :: r ++ [[]])) = _
    rw [joinL_end s (m :: r)]
    simp
theorem tl_text (ls : List Str) : tl (textOf ls) = ((ls.map tl).map fun l => l ++ [10]).flatten := by
  unfold textOf
  rw [join_eq, tl_join, tl_empty, joinL_nil, List.map_map, List.map_map]
  congr 1
  refine List.map_congr_left fun l _ => ?_
  show tl (l ++ "\n") = tl l ++ [10]
  rw [tl_append, tl_nl]
theorem text_join (ls : List Str) : textOf ls = Txt.join "\n" (ls ++ [("" : Str)]) := by
  refine ext_tl ?_
  rw [tl_text, join_eq, tl_join, tl_nl, List.map_append]
  show _ = joinL [10] (ls.map tl ++ [tl ""])
  rw [tl_empty, joinL_end]
/-- the read-back of lines -/
theorem split_text {ls : List Str} (h : ∀ l ∈ ls, 10 ∉ tl l) : Txt.split (textOf ls) "\n" = ls ++ [("" : Str)] := by
  rw [text_join]
  refine split_join (s := 10) (S := []) tl_nl (by decide +kernel) (by simp) fun q hq => ?_
  rcases List.mem_append.mp hq with z | z
  · exact h q z
  · rw [List.mem_singleton.mp z, tl_empty]
    exact List.not_mem_nil
/-- the read-back of words -/
theorem split_words {ws : List Str} (h0 : ws ≠ []) (h : ∀ w ∈ ws, 32 ∉ tl w) : Txt.split (Txt.join " " ws) " " = ws :=
  split_join (s := 32) (S := []) tl_sp (by decide +kernel) h0 h
theorem join_cons {y x z : Str} {r : List Str} : Txt.join y (x :: z :: r) = x ++ y ++ Txt.join y (z :: r) := by
  rw [join_eq, join_eq]
  rfl
theorem join_one {y x : Str} : Txt.join y [x] = x := by
  rw [join_eq]
  rfl
theorem mem_joinL {c : Nat} {S : List Nat} (hS : c ∉ S) : ∀ {ps : List (List Nat)}, (∀ p ∈ ps, c ∉ p) → c ∉ joinL S ps
  | [], _ => List.not_mem_nil
  | [p], h => h p List.mem_cons_self
  | p :: q :: r, h => fun z => by
    rw [joinL] at z
    rcases List.mem_append.mp z with z | z
    · exact h p List.mem_cons_self z
    · rcases List.mem_append.mp z with z | z
      · exact hS z
      · exact mem_joinL hS (fun x hx => h x (List.mem_cons_of_mem _ hx)) z
theorem no_nl {ws : List Str} (h : ∀ w ∈ ws, 10 ∉ tl w) : 10 ∉ tl (Txt.join " " ws) := by
  rw [join_eq, tl_join, tl_sp]
  refine mem_joinL (by decide) fun q hq => ?_
  obtain ⟨w, hw, rfl⟩ := List.mem_map.mp hq
  exact h w hw
theorem join_len (y : Str) (ws : List Str) : (Txt.join y ws).length ≤ (ws.map (·.length)).sum + ws.length * y.length := by
  rw [join_eq]
  exact StrLaws.join_length_le y ws
theorem sum_le {α : Type} {f : α → Nat} {b : Nat} : ∀ {xs : List α}, (∀ x ∈ xs, f x ≤ b) → (xs.map f).sum ≤ xs.length * b
  | [], _ => Nat.zero_le _
  | x :: xs, h => by
    have h1 := h x List.mem_cons_self
    have h2 := sum_le fun y hy => h y (List.mem_cons_of_mem _ hy)
    rw [List.map_cons, List.sum_cons, List.length_cons, Nat.add_mul]
    omega
/-- words of a row: few, short -/
structure Row (ws : List Str) : Prop where
  ne : ws ≠ []
  few : ws.length ≤ 5
  short : ∀ w ∈ ws, w.length ≤ 20
  sp : ∀ w ∈ ws, 32 ∉ tl w
  nl : ∀ w ∈ ws, 10 ∉ tl w
theorem len_sp : (" " : Str).length = 1 := by decide +kernel
theorem len_nl : ("\n" : Str).length = 1 := by decide +kernel
theorem len_emp : ("" : Str).length = 0 := by decide +kernel
theorem Row.sum {ws : List Str} (h : Row ws) : (ws.map (·.length)).sum + ws.length * (" " : Str).length ≤ 200 := by
  have h1 := sum_le (f := fun w : Str => w.length) (b := 20) h.short
  have h2 := h.few
  rw [len_sp]
  have h3 : ws.length * 20 ≤ 5 * 20 := Nat.mul_le_mul_right 20 h2
  omega
theorem Row.len {ws : List Str} (h : Row ws) : (Txt.join " " ws).length ≤ 200 := Nat.le_trans (join_len _ _) h.sum
theorem letter_no {c : Nat} {x : Str} (h : x.cps.toList.all letterC = true) (hc : c < 97) : c ∉ tl x := fun z => by
  have := (letter_lt (List.all_eq_true.mp h c z)).1
  omega
theorem name_no {c : Nat} {x : Str} (h : isName x = true) (hc : c < 97) : c ∉ tl x := by
  unfold isName lettersS at h
  exact letter_no (Bool.and_eq_true_iff.mp h).2 hc
section
variable {K : PySem.W.Frag} {W : Wd K} {Γ : List En}
/-- ''.join([l + '\n' for l in xs]) -/
theorem ev_text {wi : TI} {ls : List Str} {i c0 n : Nat} (hi : Ei W wi Γ c0 (· = ls.map Da.str)) (hl : ∀ l ∈ ls, l.length ≤ 200) (hn : ls.length ≤ n) (hz : n ≤ 100) (hi0 : i < Γ.length) :
    Ev W (tM1 (r_join K) (tC (.str "")) (tLc wi (gName i) tYes (tOp (rAddA K) (tVar i) (tC (.str "\n"))) [i])) Γ c0 (· = .str (textOf ls)) := by
  have hm := evF_map (K := K) (W := W) (Γ := Γ) (Γ' := []) (i := i) (n := n) (c0 := c0) (cb := 0) (wi := wi) (te := tOp (rAddA K) (tVar i) (tC (.str "\n"))) (ds := ls.map Da.str) (f := fun d => match d with | .str x => .str (x ++ "\n") | _ => .non) hi (fun d hd => by
    obtain ⟨l, hl1, rfl⟩ := List.mem_map.mp hd
    have := hl l hl1
    refine ev_addS (c1 := 0) (c2 := 0) (ev_var (d := .str l) ?_) ev_str (by rw [len_nl]; omega)
    show ((Γ.set i .no).set i (.dat (.str l)))[i]? = _
    rw [List.getElem?_set_self (by rw [List.length_set]; exact hi0)]) (by rw [List.length_map]; exact hn) (by omega)
  have e : ((ls.map Da.str).map fun d => match d with | .str x => Da.str (x ++ "\n") | _ => .non) = (ls.map fun l : Str => l ++ "\n").map Da.str := by
    rw [List.map_map, List.map_map]
    rfl
  rw [e] at hm
  refine (ev_join (x := "") (xs := ls.map fun l => l ++ "\n") ev_str (hm.ev'.imp fun d q => Or.inl q) ?_).weak (by omega) (fun d q => q)
  rw [len_emp, Nat.mul_zero, Nat.add_zero, List.map_map]
  have := sum_le (f := (fun l : Str => l.length) ∘ fun l => l ++ "\n") (b := 201) (xs := ls) fun l h => by
    show (l ++ "\n").length ≤ 201
    rw [Str.length_append, len_nl]
    have := hl l h
    omega
  have h3 : ls.length * 201 ≤ 100 * 201 := Nat.mul_le_mul_right 201 (by omega)
  omega
end
end WJ
set_option Elab.async false
set_option linter.all false
set_option maxRecDepth 100000
set_option maxHeartbeats 4000000
/-! WkF: exceptions as data, list(range(n)), any data shuffled -/
namespace WJ
open PySem L2
section
variable {K : PySem.W.Frag} {W : Wd K} {Γ : List En} {c c1 c2 : Nat} {te ta tb : TE} {P : Da → Prop} {p : Po}
theorem ev_exc1 {C : Addr} (h : Ev W te Γ c P) : Ev W (tExc1 C te) Γ c (· = .exc (.ref C) []) := fun H0 B0 B σ H M s hM Q q =>
  h H0 B0 B σ H M s hM _ fun v d H1 k r hd _ => fun a na => by
    have s1 := s.keep k r
    refine q _ _ _ (k.trans (Kp.new na)) (Wd.new na r) ?_ rfl
    unfold Dat
    exact ⟨a, none, [], rfl, ⟨s1.toBk.free na, upd_same⟩, Or.inl ⟨rfl, rfl⟩, by unfold Datf; rfl⟩
theorem ev_excF {C : Addr} {fld : Str} {d : Da} (h : Ev W te Γ c (· = d)) : Ev W (tExcF C fld te) Γ c (· = .exc (.ref C) [(fld, d)]) := fun H0 B0 B σ H M s hM Q q =>
  h H0 B0 B σ H M s hM _ fun v d' H1 k r hd e => fun a dx na nd hne => by
    have e' : d' = d := e
    subst e'
    have s1 := s.keep k r
    have k2 : ∀ {F : List Addr}, Kp F H1 (upd (upd H1 dx (exd dx [(fld, v)])) a (EO (.ref C) (some dx) a)) := (Kp.new nd).trans (Kp.new (by rw [upd_ne (fun z => hne z.symm)]; exact na))
    refine q _ _ _ (k.trans k2) (W.pres (fun b hb => ?_) (fun b φ e => k2 (F := []) b _ (fun z => nomatch z) e) (fun b ps e => Nt.upd (fun ps z => HO.noConfusion z) b ps (Nt.upd (fun ps z => HO.noConfusion z) b ps e)) r) ?_ rfl
    · cases z : H1 b with
      | none => exact absurd z (W.alive r b hb)
      | some o => rw [k2 (F := []) b o (fun z => nomatch z) z]
    · unfold Dat
      refine ⟨a, some dx, [(fld, v)], rfl, ⟨s1.toBk.free na, upd_same⟩, Or.inr ⟨dx, rfl, List.cons_ne_nil _ _, s1.toBk.free nd, Or.inl (by rw [upd_ne hne, upd_same])⟩, ?_⟩
      unfold Datf
      refine ⟨v, [], rfl, Dat.mono k2 _ v hd, ?_⟩
      unfold Datf
      rfl
/-! asked -/
theorem exc_at {B : List Addr} {H : Hp} {v : V} {D : Addr} {fs : List (Str × Da)} (h : Dat K B H v (.exc (.ref D) fs)) : ∃ a, v = .ref a ∧ XAt H a D := by
  unfold Dat at h
  obtain ⟨a, d, xs, rfl, ⟨_, hx⟩, ef, _⟩ := h
  refine ⟨a, rfl, d, hx, fun dx e => ?_⟩
  rcases ef with ⟨z, _⟩ | ⟨dy, z, _, _, hd⟩
  · rw [z] at e
    cases e
  · rw [z] at e
    cases e
    exact ⟨xs, hd⟩
theorem rc_isY {D : Addr} {fs : List (Str × Da)} {x : Da} {cv : V} {u : Value} {b : Bool} (hc : ∀ (B : List Addr) (H : Hp) (v : V), Dat K B H v x → v = cv) (hu : ClsV cv u) (C : ExcC K D) (hk : PySem.W.kitOne K (.ref D) u = some b) (q : P (.bl b)) : Rc W (rIsiY K) [.exc (.ref D) fs, x] P := fun B H M vs s h Q k => by
  unfold Dats at h
  obtain ⟨v, r, rfl, h1, t1⟩ := h
  unfold Dats at t1
  obtain ⟨v2, r2, rfl, h2, t2⟩ := t1
  unfold Dats at t2
  subst t2
  have e2 := hc B H v2 h2
  subst e2
  obtain ⟨a, rfl, ha⟩ := exc_at h1
  exact Or.inr (Or.inl ⟨a, D, v2, u, b, rfl, hu, ha, C, hk, k _ (.bl b) H Kp.refl s.dr (dBl.mpr rfl) q⟩)
theorem rc_isYO {D C' : Addr} {fs : List (Str × Da)} {b : Bool} (C : ExcC K D) (hk : PySem.W.kitOne K (.ref D) (.ref C') = some b) (q : P (.bl b)) : Rc W (rIsiY K) [.exc (.ref D) fs, .obj C'] P :=
  rc_isY (fun B H v h => by unfold Dat at h; exact h) (.own C') C hk q
theorem rc_isYT {D : Addr} {fs : List (Str × Da)} {n : String} {b : Bool} (C : ExcC K D) (hk : PySem.W.kitOne K (.ref D) (.type n) = some b) (q : P (.bl b)) : Rc W (rIsiY K) [.exc (.ref D) fs, .ty n] P :=
  rc_isY (fun B H v h => by unfold Dat at h; exact h) (.ty n) C hk q
theorem rc_isYA {ds : List Da} (h : Rc W (rIsiA K) ds P) : Rc W (rIsiY K) ds P := fun B H M vs s hd Q q => Or.inl (h B H M vs s hd Q q)
/-- a tuple of own classes as it is written -/
def tClss (cs : List Addr) : TA := cs.foldr (fun C t => tCons (tC (.ref C)) t) tNil
theorem clss_run {σ : L2.St} {H : Hp} : ∀ (cs : List Addr) (Q : List V → Hp → Prop), Q (cs.map V.ref) H → tClss cs σ H Q
  | [], Q, q => q
  | C :: cs, Q, q => by
    show tClss cs σ H fun ws H2 => Q (V.ref C :: ws) H2
    exact clss_run cs _ q
theorem clss_cls : ∀ cs : List Addr, Paired ClsV (cs.map V.ref) (cs.map Value.ref)
  | [] => .nil
  | C :: cs => .cons (.own C) (clss_cls cs)
theorem kitAny_of {D : Addr} : ∀ {cs : List (Addr × Bool)}, (∀ x ∈ cs, PySem.W.kitOne K (.ref D) (.ref x.1) = some x.2) → PySem.W.kitAny K (.ref D) ((cs.map (·.1)).map Value.ref) = some (cs.any (·.2))
  | [], _ => rfl
  | x :: cs, h => by
    have h1 := h x List.mem_cons_self
    have h2 := kitAny_of (cs := cs) fun y hy => h y (List.mem_cons_of_mem _ hy)
    rw [List.map_cons, List.map_cons, List.any_cons]
    refine kitAny_cons h1 (fun z => ?_) (fun z => by rw [z]; rfl)
    rw [z, h2]
    rfl
theorem ev_isYs {D : Addr} {fs : List (Str × Da)} (cs : List (Addr × Bool)) (hl : cs.length ≤ 100) (h : Ev W te Γ c (· = .exc (.ref D) fs)) (C : ExcC K D) (hk : ∀ x ∈ cs, PySem.W.kitOne K (.ref D) (.ref x.1) = some x.2) :
    Ev W (tCB (rIsiY K) (tCons te (tCons (tTup (tClss (cs.map (·.1)))) tNil))) Γ c (· = .bl (cs.any (·.2))) := fun H0 B0 B σ H M s hM Q q =>
  h H0 B0 B σ H M s hM _ fun v d H1 k r hd e => by
    have e' : d = .exc (.ref D) fs := e
    subst e'
    refine clss_run (cs.map (·.1)) _ ?_
    refine ⟨by rw [List.length_map, List.length_map]; exact Nat.le_trans hl (by decide), fun tp np => ?_⟩
    have hd2 : Dat K B (upd H1 tp (.tup ((cs.map (·.1)).map V.ref))) v (.exc (.ref D) fs) := Dat.mono (Kp.new np) _ v hd
    obtain ⟨a, rfl, ha⟩ := exc_at hd2
    exact Or.inr (Or.inr ⟨a, D, tp, _, _, _, rfl, upd_same, clss_cls (cs.map (·.1)), ha, C, kitAny_of hk, q _ (.bl _) _ (k.trans (Kp.new np)) (Wd.new np r) (dBl.mpr rfl) rfl⟩)
/-! its field -/
theorem ev_xf {C : Addr} {fs : List (Str × Da)} {f : Str} {d : Da} (T : XfC K C) (hno : PySem.W.findIn K (.ref C) f = some none) (h : Ev W te Γ c (· = .exc (.ref C) fs)) (hl : fs.lookup f = some d) : Ev W (tXfV K f te) Γ c (· = d) := fun H0 B0 B σ H M s hM Q q =>
  h H0 B0 B σ H M s hM _ fun v d' H1 k r hd e => by
    have e' : d' = .exc (.ref C) fs := e
    subst e'
    unfold Dat at hd
    obtain ⟨a, dd, xs, rfl, ⟨_, hx⟩, ef, hf⟩ := hd
    rcases ef with ⟨_, z⟩ | ⟨dx, z, _, _, hdx⟩
    · subst z
      cases fs with
      | nil => cases hl
      | cons y ys =>
        obtain ⟨fy, dy⟩ := y
        unfold Datf at hf
        obtain ⟨_, _, z, _⟩ := hf
        cases z
    · subst z
      obtain ⟨w, hw, hwd⟩ := Datf.look hf hl
      exact ⟨a, C, dx, xs, w, rfl, hx, hdx, T, hno, hw, q w d H1 k r hwd rfl⟩
/-! list(range(n)) -/
theorem dats_rg {B : List Addr} {H : Hp} (n : Int) : Dats K B H (rgV 0 n) (rngD 0 n.toNat) := by
  unfold rgV rngD
  rw [Int.sub_zero]
  have key : ∀ l : List Nat, Dats K B H (l.map fun i => V.int (0 + (i : Nat))) (l.map fun (i : Nat) => Da.int (0 + (i : Int))) := fun l => by
    induction l with
    | nil => exact .nil
    | cons x l ih => exact .cons (dInt.mpr rfl) ih
  exact key _
theorem evF_listRg {n : Int} (h : Ev W te Γ c (· = .int n)) (h0 : 0 ≤ n) (h1 : n ≤ 100000) : EvF W (tLstRg (tRg1 te)) Γ c (· = rngD 0 n.toNat) := fun H0 B0 B σ H M s hM Q q =>
  h H0 B0 B σ H M s hM _ fun v d H1 k r hd e => by
    have e' : d = .int n := e
    subst e'
    refine ⟨n, dInt.mp hd, RgOk.of_le (Int.le_refl _) (by omega) (by omega) h0, fun l nl => ?_⟩
    refine q l _ (rngD 0 n.toNat) _ ((k.backB (fun z => (s.keep k r).al l (s.fb l z) nl) nl)) (k.trans (Kp.new nl)) (Wd.new nl r) upd_same (dats_rg n) rfl
/-! costs named at the end -/
theorem es_sq {t u : TS} {Γ' : List En} (c1 c2 : Nat) (hc : c1 + c2 ≤ c) (h1 : Es W t Γ c1 { p with nx := (· = Γ') }) (h2 : Es W u Γ' c2 p) : Es W (tSeq t u) Γ c p := (es_seqE h1 h2).weak hc
theorem es_sqP {t u : TS} {N : List En → Prop} (c1 c2 : Nat) (hc : c1 + c2 ≤ c) (h1 : Es W t Γ c1 { p with nx := N }) (h2 : ∀ Γ', N Γ' → Es W u Γ' c2 p) : Es W (tSeq t u) Γ c p := (es_seq h1 h2).weak hc
theorem es_asgW {i : Nat} {Q : Da → Prop} (c1 : Nat) (hc : c1 ≤ c) (h : Ev W te Γ c1 Q) (hp : ∀ d, Q d → p.nx (Γ.set i (.dat d))) : Es W (tAsg te (gName i)) Γ c p := (es_asg h hp).weak hc
theorem es_ifW {t u : TS} {tt : TT} {b : Bool} (c1 c2 : Nat) (hc : c1 + c2 ≤ c) (h : EvT W tt Γ c1 (· = b)) (h1 : b = true → Es W t Γ c2 p) (h2 : b = false → Es W u Γ c2 p) : Es W (tIfS tt t u) Γ c p := (es_ifB h h1 h2).weak hc
theorem ev_neg {i : Int} (h : Ev W te Γ c (· = .int i)) : Ev W (tUn (rU fun i => .int (-i)) te) Γ c (· = .int (-i)) := fun H0 B0 B σ H M s hM Q q =>
  h H0 B0 B σ H M s hM _ fun v d H1 k r hd e => by
    have e' : d = .int i := e
    subst e'
    exact ⟨i, dInt.mp hd, q _ _ H1 k r (dInt.mpr rfl) rfl⟩
/-! any data against [] -/
theorem eqv_nilL (ds : List Da) : PyData.eqv (Da.lst ds).py (Da.lst []).py = ds.isEmpty := by
  unfold Da.py
  cases ds with
  | nil => unfold pys; rfl
  | cons d ds => unfold pys; rfl
theorem shaped_nil : SeqAt.shaped (Da.lst []).py = true := by
  unfold Da.py pys
  rfl
theorem plain_nil : (Da.lst []).plain = true := by
  unfold Da.plain plains
  rfl
theorem ev_nilD : Ev W (tLst tNil) Γ 0 (· = .lst []) := (evF_lst ea_nil (fun ds e => by rw [e]; decide)).ev'
/-- lists of data that == reads -/
def okL (ds : List Da) : Prop := (Da.lst ds).plain = true ∧ SeqAt.shaped (Da.lst ds).py = true
theorem es_shuffledD {q : Addr} {sp : Sp} {ds : List Da} (hN : NextOk W q sp) (hl : ds.length ≤ 1000) (ho : ∀ ls : List Da, (∀ x ∈ ls, x ∈ ds) → okL ls) (hp : ∀ ys : List Da, ys.Perm ds → p.rt (.lst ys)) :
    Es W (t__law_shuffled K sp) [.dat (.obj q), .dat (.lst ds), .no, .no] (ds.length + 1) p := by
  refine Es.weak (c := 0 + 0 + ((ds.length + 1) * (0 + 0 + (0 + (0 + 0 + 0) + 1)) + 0)) ?_ (by omega)
  refine es_seqE (Γ' := [.dat (.obj q), .dat (.lst ds), .own ds, .own []]) (es_parE (P1 := fun e => e = .own ds) (P2 := fun e => e = .own []) ?_ ?_ ?_) ?_
  · have h := (evF_cb (K := K) (W := W) (Γ := [.dat (.obj q), .dat (.lst ds), .no, .no]) (ea_cons2 (ev_var (i := 1) rfl) ea_nil) (fun es e => by rw [e]; exact rcF_list (P := (· = ds)) (d := .lst ds) rfl (Nat.le_trans hl (by decide)) rfl)).e
    exact fun H0 B0 B σ H M s hM Q k => h H0 B0 B σ H M s hM Q fun v e H' k1 k2 k3 ⟨d, k4, k5⟩ => k v e H' k1 k2 k3 (by rw [k4, k5])
  · have h := (evF_nil (K := K) (W := W) (Γ := [.dat (.obj q), .dat (.lst ds), .no, .no])).e
    exact fun H0 B0 B σ H M s hM Q k => h H0 B0 B σ H M s hM Q fun v e H' k1 k2 k3 ⟨d, k4, k5⟩ => k v e H' k1 k2 k3 (by rw [k4, k5])
  · rintro e1 e2 rfl rfl
    rfl
  refine es_seq (N := fun Γ1 => ∃ fs : List Da, fs.Perm ds ∧ Γ1 = [.dat (.obj q), .dat (.lst ds), .own [], .own fs]) (es_while (m0 := ds.length) (I := fun m Γ1 => ∃ ls fs : List Da, ls.length = m ∧ (fs ++ ls).Perm ds ∧ Γ1 = [.dat (.obj q), .dat (.lst ds), .own ls, .own fs]) ⟨ds, [], rfl, .refl _, rfl⟩ ?_) ?_
  · rintro m Γ1 hm ⟨ls, fs, rfl, hperm, rfl⟩
    have hls := ho ls fun x hx => hperm.subset (List.mem_append_right _ hx)
    refine ⟨fun b => b = !ls.isEmpty, et_own (i := 2) rfl (et_testB (ev_op2 (ev_var rfl) ev_nilD (rv_neP hls.1 plain_nil hls.2 shaped_nil (by rw [eqv_nilL])))), fun hb => ?_, fun hb => ?_⟩
    · have hlen : 0 < ls.length := List.length_pos_iff.mpr fun z => by rw [z] at hb; cases hb
      have hpl := hperm.length_eq
      rw [List.length_append] at hpl
      refine es_popApp (f := 3) (l := 2) rfl rfl (by decide) (ev_own (i := 2) rfl (ev_callE (ea_cons2 (ev_var rfl) (ea_cons2 (ev_cbE (ea_cons2 (ev_var rfl) ea_nil) (rc_lenL rfl)) ea_nil)) (hN _ _ (by simpa using hlen) (by omega) (fun k a b => ⟨k, rfl, a, b⟩))) (fun d ⟨k, z, _⟩ => by rw [z]; rfl)) (by omega) (by omega) (fun k d e => ?_)
      have hk : k < ls.length := (List.getElem?_eq_some_iff.mp e).1
      refine ⟨(ls.eraseIdx k).length, by rw [List.length_eraseIdx, if_pos hk]; omega, ls.eraseIdx k, fs ++ [d], rfl, ?_, rfl⟩
      rw [List.append_assoc]
      exact (List.Perm.append_left fs (eraseIdx_perm e)).trans hperm
    · have e : ls = [] := by
        cases ls with
        | nil => rfl
        | cons x r => cases hb
      subst e
      rw [List.append_nil] at hperm
      exact ⟨fs, hperm, rfl⟩
  · rintro Γ1 ⟨fs, hperm, rfl⟩
    exact es_freeze (i := 3) rfl (es_retE (ev_var rfl) (hp fs hperm))
end
/-! lists of ints -/
theorem plains_ints : ∀ ns : List Int, plains (ns.map Da.int) = true
  | [] => by unfold plains; rfl
  | n :: ns => by
    rw [List.map_cons]
    unfold plains Da.plain
    rw [plains_ints ns]
    rfl
theorem pys_ints : ∀ ns : List Int, pys (ns.map Da.int) = ns.map PyData.int
  | [] => by unfold pys; rfl
  | n :: ns => by
    rw [List.map_cons]
    unfold pys Da.py
    rw [pys_ints ns]
    rfl
theorem okL_ints (ns : List Int) : okL (ns.map Da.int) := by
  refine ⟨by unfold Da.plain; exact plains_ints ns, ?_⟩
  unfold Da.py
  rw [pys_ints]
  exact shaped_ints ns
theorem eqvAll_ints : ∀ xs ys : List Int, PyData.eqvAll (xs.map PyData.int) (ys.map PyData.int) = decide (xs = ys)
  | [], [] => rfl
  | [], _ :: _ => rfl
  | _ :: _, [] => rfl
  | x :: xs, y :: ys => by
    show (PyData.eqv (PyData.int x) (PyData.int y) && PyData.eqvAll (xs.map PyData.int) (ys.map PyData.int)) = _
    rw [eqvAll_ints xs ys]
    show ((x == y) && decide (xs = ys)) = decide (x :: xs = y :: ys)
    rw [Bool.eq_iff_iff]
    simp
theorem eqv_ints (xs ys : List Int) : PyData.eqv (Da.lst (xs.map Da.int)).py (Da.lst (ys.map Da.int)).py = decide (xs = ys) := by
  unfold Da.py
  rw [pys_ints, pys_ints]
  exact eqvAll_ints xs ys
theorem rngD_ints (n : Nat) : rngD 0 n = ((List.range n).map fun (i : Nat) => (i : Int)).map Da.int := by
  unfold rngD
  rw [List.map_map]
  refine List.map_congr_left fun i _ => ?_
  show Da.int (0 + (i : Int)) = Da.int (i : Int)
  rw [Int.zero_add]
/-! ### own exceptions by the module's names -/
section
open PySem.Spec PyProof.Rows
variable {X : Cx}
structure MkF (P : Program) (w : World) (K : PySem.W.Frag) (mg : Str → Option Value) (base : Heap) (x : Str) (C : Addr) (fld : Str) : Prop where
  ex : ∃ (fI : Addr) (fd : FuncData) (par : Str), XiC K C ∧ PySem.W.findIn K (.ref C) "__init__" = some (some (.ref fI)) ∧ PySem.W.typeIn K (.ref fI) = some (.type "function") ∧ FnOk P w K mg base CX0 1 fI fd ["self", par] (spXi C fld) ∧ Binds K fd ["self", par] [] ∧ mg x = some (.ref C)
theorem pe_mkF {k : Nat} {x : Str} {C : Addr} {fld : Str} {e : Expr} {te : TE} {p pos : Pos} (h : MkF X.prog X.w X.K X.mg X.base x C fld) (hr : Room k X.A) (hk : 2 ≤ k) (hg : Gl X x) (he : PE X e te)
    (hs : starEach [e] X.env = (false, eval e X.env) :: starEach [] X.env := by rfl) (hdb : (x == ("__debug__" : Str)) = false := by decide) : PE X (.Call (.Name x p) [e] [] pos) (tExcF C fld te) := by
  obtain ⟨fI, fd, par, T, iC, tI, F, hb, gC⟩ := h.ex
  exact pe_xF T iC tI F hr hk hb gC hg he hs hdb
structure Mk1 (K : PySem.W.Frag) (mg : Str → Option Value) (x : Str) (C : Addr) : Prop where
  q : PySem.W.excIn K C He.veBase "ValueError.__new__" = true
  g : mg x = some (.ref C)
  k : PySem.W.keepIn K (.ref C) = true
theorem pe_mk1 {x : Str} {C : Addr} {e : Expr} {te : TE} {p pos : Pos} (h : Mk1 X.K X.mg x C) (hg : Gl X x) (he : PE X e te)
    (hs : starEach [e] X.env = (false, eval e X.env) :: starEach [] X.env := by rfl) (hdb : (x == ("__debug__" : Str)) = false := by decide) : PE X (.Call (.Name x p) [e] [] pos) (tExc1 C te) :=
  pe_x1 PySem.F.excBase_ValueError h.q h.g h.k hg he hs hdb
end
end WJ
set_option Elab.async false
set_option linter.all false
set_option maxRecDepth 100000
set_option maxHeartbeats 4000000
/-! WkX: blocks that may raise, with the exception's fields; defs that raise; try that keeps -/
namespace WJ
open PySem L2
/-- the dict d of an exception that is under way holds the fields fs -/
def XD (K : PySem.W.Frag) (B : List Addr) (H : Hp) (d : Option Addr) (fs : List (Str × Da)) : Prop := (d = none ∧ fs = []) ∨ ∃ dx xs, d = some dx ∧ dx ∉ B ∧ H dx = some (.xd xs) ∧ xs ≠ [] ∧ Datf K B H xs fs
theorem XD.sub {K : PySem.W.Frag} {B C : List Addr} {H : Hp} {d : Option Addr} {fs : List (Str × Da)} (s : ∀ b ∈ C, b ∈ B) (h : XD K B H d fs) : XD K C H d fs := by
  rcases h with h | ⟨dx, xs, h1, h2, h3, h4, h5⟩
  · exact Or.inl h
  · exact Or.inr ⟨dx, xs, h1, fun z => h2 (s dx z), h3, h4, Datf.sub s fs xs h5⟩
section
variable {K : PySem.W.Frag}
def EsX (W : Wd K) (t : TS) (Γ : List En) (c : Nat) (p : Po) (E : XK) (X : Value → List (Str × Da) → Prop) : Prop :=
  ∀ (H0 : Hp) (B0 B : List Addr) (σ : L2.St) (H : Hp) (M : Nat) (D : Ends), Sg W H0 B0 B σ Γ H M → c ≤ M →
    (∀ B' σ' Γ' H', Sg W H0 B0 B' σ' Γ' H' (M - c) → Mv B H B' H' → p.nx Γ' → D.nx σ' H') →
    (∀ v d H', Kp W.F H0 H' → W.Dr (M - c) H' → Dat K B0 H' v d → p.rt d → D.rt v H') →
    (∀ B' σ' Γ' H', Sg W H0 B0 B' σ' Γ' H' (M - c) → Mv B H B' H' → p.bk Γ' → D.bk σ' H') →
    (∀ B' σ' Γ' H', Sg W H0 B0 B' σ' Γ' H' (M - c) → Mv B H B' H' → p.ct Γ' → D.ct σ' H') →
    (∀ cls fs d H', Kp W.F H0 H' → W.Dr (M - c) H' → XD K B0 H' d fs → X cls fs → E cls d H') → t D σ H
end
section
variable {K : PySem.W.Frag} {W : Wd K} {Γ : List En} {c c1 c2 c' : Nat} {P : Da → Prop} {te ta tb : TE} {tt : TT} {t u : TS} {p : Po} {E : XK} {X : Value → List (Str × Da) → Prop}
theorem Es.x (h : Es W t Γ c p) : EsX W t Γ c p E X := fun H0 B0 B σ H M D s hM a b e f _ => h H0 B0 B σ H M D s hM a b e f
theorem EsX.weak (h : EsX W t Γ c p E X) (hc : c ≤ c') : EsX W t Γ c' p E X := fun H0 B0 B σ H M D s hM a b e f x =>
  h H0 B0 B σ H M D s (Nat.le_trans hc hM) (fun B' σ' Γ' H' s' => a B' σ' Γ' H' (s'.less (by omega))) (fun v d H' k r => b v d H' k (W.less r (by omega))) (fun B' σ' Γ' H' s' => e B' σ' Γ' H' (s'.less (by omega))) (fun B' σ' Γ' H' s' => f B' σ' Γ' H' (s'.less (by omega))) (fun cls fs d H' k r => x cls fs d H' k (W.less r (by omega)))
theorem esX_seq {N : List En → Prop} (c1 c2 : Nat) (hc : c1 + c2 ≤ c) (h1 : EsX W t Γ c1 { p with nx := N } E X) (h2 : ∀ Γ', N Γ' → EsX W u Γ' c2 p E X) : EsX W (tSeq t u) Γ c p E X := EsX.weak (c := c1 + c2) (fun H0 B0 B σ H M D s hM a b e f x =>
  h1 H0 B0 B σ H M { D with nx := u D } s (by omega)
    (fun B1 σ1 Γ1 H1 s1 m1 n1 => h2 Γ1 n1 H0 B0 B1 σ1 H1 _ D s1 (by omega) (fun B' σ' Γ' H' s' m' => a B' σ' Γ' H' (by rw [← sub_sub]; exact s') (m1.trans m')) (fun v d H' k r => b v d H' k (by rw [← sub_sub]; exact r))
      (fun B' σ' Γ' H' s' m' => e B' σ' Γ' H' (by rw [← sub_sub]; exact s') (m1.trans m')) (fun B' σ' Γ' H' s' m' => f B' σ' Γ' H' (by rw [← sub_sub]; exact s') (m1.trans m')) (fun cls fs d H' k r => x cls fs d H' k (by rw [← sub_sub]; exact r)))
    (fun v d H' k r => b v d H' k (W.less r (by omega))) (fun B' σ' Γ' H' s' => e B' σ' Γ' H' (s'.less (by omega))) (fun B' σ' Γ' H' s' => f B' σ' Γ' H' (s'.less (by omega))) (fun cls fs d H' k r => x cls fs d H' k (W.less r (by omega)))) hc
theorem esX_sqE {Γ' : List En} (c1 c2 : Nat) (hc : c1 + c2 ≤ c) (h1 : EsX W t Γ c1 { p with nx := (· = Γ') } E X) (h2 : EsX W u Γ' c2 p E X) : EsX W (tSeq t u) Γ c p E X := esX_seq c1 c2 hc h1 fun _ e => by rw [e]; exact h2
theorem esX_if {b : Bool} (c1 c2 : Nat) (hc : c1 + c2 ≤ c) (h : EvT W tt Γ c1 (· = b)) (h1 : b = true → EsX W t Γ c2 p E X) (h2 : b = false → EsX W u Γ c2 p E X) : EsX W (tIfS tt t u) Γ c p E X := EsX.weak (c := c1 + c2) (fun H0 B0 B σ H M D s hM a b' e f x =>
  h H0 B0 B σ H M s (by omega) _ fun bb H1 k1 r1 p1 => by
    have m1 : Mv B H B H1 := Mv.of (s.toBk.kp k1)
    have p2 : bb = b := p1
    subst p2
    cases bb with
    | true =>
      show t D σ H1
      exact h1 rfl H0 B0 B σ H1 _ D (s.keep k1 r1) (by omega) (fun B' σ' Γ' H' s' m' => a B' σ' Γ' H' (by rw [← sub_sub]; exact s') (m1.trans m')) (fun v d H' k r => b' v d H' k (by rw [← sub_sub]; exact r))
        (fun B' σ' Γ' H' s' m' => e B' σ' Γ' H' (by rw [← sub_sub]; exact s') (m1.trans m')) (fun B' σ' Γ' H' s' m' => f B' σ' Γ' H' (by rw [← sub_sub]; exact s') (m1.trans m')) (fun cls fs d H' k r => x cls fs d H' k (by rw [← sub_sub]; exact r))
    | false =>
      show u D σ H1
      exact h2 rfl H0 B0 B σ H1 _ D (s.keep k1 r1) (by omega) (fun B' σ' Γ' H' s' m' => a B' σ' Γ' H' (by rw [← sub_sub]; exact s') (m1.trans m')) (fun v d H' k r => b' v d H' k (by rw [← sub_sub]; exact r))
        (fun B' σ' Γ' H' s' m' => e B' σ' Γ' H' (by rw [← sub_sub]; exact s') (m1.trans m')) (fun B' σ' Γ' H' s' m' => f B' σ' Γ' H' (by rw [← sub_sub]; exact s') (m1.trans m')) (fun cls fs d H' k r => x cls fs d H' k (by rw [← sub_sub]; exact r))) hc
theorem esX_freeze {i : Nat} {ds : List Da} (hi : Γ[i]? = some (.own ds)) (h : EsX W t (Γ.set i (.dat (.lst ds))) c p E X) : EsX W t Γ c p E X := fun H0 B0 B σ H M D s hM a b e f x => by
  obtain ⟨B', s', hb⟩ : ∃ B', Sg W H0 B0 B' σ (Γ.set i (.dat (.lst ds))) H M ∧ ∀ x ∈ B', x ∈ B := s.freezeS hi
  have m : Mv B H B' H := Mv.sub Mv.refl hb
  exact h H0 B0 B' σ H M D s' hM (fun B1 σ1 Γ1 H1 s1 m1 => a B1 σ1 Γ1 H1 s1 (m.trans m1)) b (fun B1 σ1 Γ1 H1 s1 m1 => e B1 σ1 Γ1 H1 s1 (m.trans m1)) (fun B1 σ1 Γ1 H1 s1 m1 => f B1 σ1 Γ1 H1 s1 (m.trans m1)) x
theorem esX_freezeD {i : Nat} {ds : List (Key × Da)} (hi : Γ[i]? = some (.ownD ds)) (h : EsX W t (Γ.set i (.dat (.dct ds))) c p E X) : EsX W t Γ c p E X := fun H0 B0 B σ H M D s hM a b e f x => by
  obtain ⟨B', s', hb⟩ : ∃ B', Sg W H0 B0 B' σ (Γ.set i (.dat (.dct ds))) H M ∧ ∀ x ∈ B', x ∈ B := s.freezeDS hi
  have m : Mv B H B' H := Mv.sub Mv.refl hb
  exact h H0 B0 B' σ H M D s' hM (fun B1 σ1 Γ1 H1 s1 m1 => a B1 σ1 Γ1 H1 s1 (m.trans m1)) b (fun B1 σ1 Γ1 H1 s1 m1 => e B1 σ1 Γ1 H1 s1 (m.trans m1)) (fun B1 σ1 Γ1 H1 s1 m1 => f B1 σ1 Γ1 H1 s1 (m.trans m1)) x
theorem esX_for {wi : TI} {g : TG} {vs : List Nat} {c0 cb n : Nat} {Pi : List Da → Prop} (I : List Da → Nat → List En → Prop) (hi : Ei W wi Γ c0 Pi) (h0 : ∀ ds, Pi ds → I ds 0 Γ)
    (hs : ∀ ds i d Γ1, Pi ds → ds[i]? = some d → I ds i Γ1 → ∃ Γ2, Eg W g vs d Γ1 Γ2 ∧ EsX W t Γ2 cb ⟨I ds (i + 1), p.rt, p.nx, I ds (i + 1)⟩ E X) (hd : ∀ ds Γ1, Pi ds → I ds ds.length Γ1 → p.nx Γ1) (hn : ∀ ds, Pi ds → ds.length ≤ n) :
    EsX W (tFor wi g t) Γ (c0 + n * cb) p E X := fun H0 B0 B σ H M D s hM a b e f x =>
  hi H0 B0 B σ H M s (by omega) _ fun J ds H1 k1 r1 hJ pi => by
    have hlen := hn ds pi
    have s1 := s.keep k1 r1
    have m1 : Mv B H B H1 := Mv.of (s.toBk.kp k1)
    have hall := mul_mono (cb := cb) hlen
    refine ⟨fun i m σ2 H2 => m = ds.length - i ∧ i ≤ ds.length ∧ ∃ B2 Γ2, Sg W H0 B0 B2 σ2 Γ2 H2 (M - c0 - i * cb) ∧ Mv B H1 B2 H2 ∧ I ds i Γ2, ⟨_, rfl, Nat.zero_le _, B, Γ, by rw [Nat.zero_mul]; exact s1, Mv.refl, h0 ds pi⟩, ?_⟩
    rintro i m σ2 H2 ⟨rfl, hi2, B2, Γ2, s2, m2, hI⟩
    have hsrc := hJ B2 H2 m2 s2.al
    by_cases hlt : i < ds.length
    · refine Or.inr ⟨(hsrc.1 i hlt).1, fun σ3 H3 => ∃ B2 Γ2, Sg W H0 B0 B2 σ3 Γ2 H3 (M - c0 - (i + 1) * cb) ∧ Mv B H1 B2 H3 ∧ I ds (i + 1) Γ2, fun σ3 H3 h3 => ⟨ds.length - (i + 1), by omega, rfl, hlt, h3⟩, fun y H3 hy => ?_⟩
      obtain ⟨k3, n3, d, ed, hd3⟩ := (hsrc.1 i hlt).2 y H3 hy
      have st := mul_step (cb := cb) (Nat.lt_of_lt_of_le hlt hlen)
      have st2 : (i + 1) * cb = i * cb + cb := by rw [Nat.add_mul, Nat.one_mul]
      have r3 : W.Dr (M - c0 - i * cb) H3 := W.pres (fun b hb => by
        cases e : H2 b with
        | none => exact absurd e (W.alive s2.dr b hb)
        | some o => rw [k3 b o (fun z => nomatch z) e]) (fun b φ e => k3 b _ (fun z => nomatch z) e) n3 s2.dr
      have s3 := s2.keep (k3.all) r3
      have m3 : Mv B H1 B2 H3 := m2.trans (Mv.of k3.all)
      obtain ⟨Γ3, hg, hb⟩ := hs ds i d Γ2 pi ed hI
      refine hg H0 B0 B2 σ2 H3 _ y s3 hd3 _ fun σ3 s4 _ => ?_
      exact hb H0 B0 B2 σ3 H3 _ _ s4 (by omega) (fun B5 σ5 Γ5 H5 s5 m5 n5 => ⟨B5, Γ5, s5.less (by omega), m3.trans m5, n5⟩) (fun v d H5 k5 r5 => b v d H5 k5 (W.less r5 (by omega)))
        (fun B5 σ5 Γ5 H5 s5 m5 n5 => a B5 σ5 Γ5 H5 (s5.less (by omega)) ((m1.trans m3).trans m5) n5) (fun B5 σ5 Γ5 H5 s5 m5 n5 => ⟨B5, Γ5, s5.less (by omega), m3.trans m5, n5⟩) (fun cls fs d H' k r => x cls fs d H' k (W.less r (by omega)))
    · have e : i = ds.length := by omega
      subst e
      exact Or.inl ⟨hsrc.2, a B2 σ2 Γ2 H2 (s2.less (by omega)) (m1.trans m2) (hd ds Γ2 pi hI)⟩
/-! ### raising -/
/-- raise C(e), C keeps e as fld -/
def tRzF (C : Addr) (fld : Str) (te : TE) : L2.St → Hp → XK → Prop := fun σ H Q => te σ H fun v H1 => ∀ dx, H1 dx = none → Q (.ref C) (some dx) (upd H1 dx (.xd [(fld, v)]))
/-- raise C(e), C without own __init__ -/
def tRz1 (C : Addr) : L2.St → Hp → XK → Prop := fun _ H Q => Q (.ref C) none H
def tRaise (E : XK) (mk : L2.St → Hp → XK → Prop) : TS := fun _ σ H => mk σ H fun cls d H' => E cls d H'
theorem esX_raiseF {C : Addr} {fld : Str} {d : Da} (h : Ev W te Γ 0 (· = d)) (hx : X (.ref C) [(fld, d)]) : EsX W (tRaise E (tRzF C fld te)) Γ 0 p E X := fun H0 B0 B σ H M D s hM a b e f x =>
  h H0 B0 B σ H M s (Nat.zero_le _) _ fun v d' H1 k r hd e' => fun dx nd => by
    have e2 : d' = d := e'
    subst e2
    have s1 := s.keep k r
    refine x _ _ _ _ (s1.k0.trans (Kp.new nd)) (Wd.new nd r) (Or.inr ⟨dx, [(fld, v)], rfl, fun z => s1.toBk.free nd (s.b0 dx z), upd_same, List.cons_ne_nil _ _, ?_⟩) hx
    unfold Datf
    refine ⟨v, [], rfl, Dat.sub s.b0 _ v (Dat.mono (Kp.new nd) _ v hd), ?_⟩
    unfold Datf
    rfl
theorem esX_raise1 {C : Addr} (hx : X (.ref C) []) : EsX W (tRaise E (tRz1 C)) Γ 0 p E X := fun H0 B0 B σ H M D s hM a b e f x => x _ _ none H s.k0 s.dr (Or.inl ⟨rfl, rfl⟩) hx
/-! ### defs that raise -/
def spY (C : Ct K) (R : Wd K → List Da → Value → List (Str × Da) → Prop) : Sp := fun vs H Q E => spD C vs H Q E ∨ ∃ (W : Wd K) (B : List Addr) (M : Nat) (ds : List Da) (cls : Value) (fs : List (Str × Da)), R W ds cls fs ∧ Bk W B H M ∧ Dats K B H vs ds ∧ ∀ d H', Kp W.F H H' → W.Dr M H' → XD K B H' d fs → E cls d H'
theorem fn_of_ctY {C : Ct K} {R : Wd K → List Da → Value → List (Str × Da) → Prop} {ds : List Da} (h : C W ds c P) : Fn W (spY C R) ds c P := fun B H M vs s hM hd Q E q => Or.inl ⟨W, B, M, ds, c, P, h, s, hM, hd, q⟩
/-- a call let out: it raises -/
theorem esX_callR {C : Ct K} {R : Wd K → List Da → Value → List (Str × Da) → Prop} {ta : TA} {ds : List Da} {cls : Value} {fs : List (Str × Da)} {g : VK → TS} (hr : R W ds cls fs) (ha : EvA W ta Γ 0 (· = ds)) (hx : X cls fs) :
    EsX W (tDrop (tCallS (spY C R) (WE fun cls d _ H => E cls d H) ta)) Γ 0 p E X := fun H0 B0 B σ H M D s hM a b e f x =>
  ha H0 B0 B σ H M s (Nat.zero_le _) _ fun vs ds' H1 k1 r1 hd e' => by
    have e2 : ds' = ds := e'
    subst e2
    have s1 := s.keep k1 r1
    exact Or.inr ⟨W, B, M, _, cls, fs, hr, s1.toBk, hd, fun d H' k r xd => x cls fs d H' (s1.k0.trans k) r (xd.sub s.b0) hx⟩
/-- a call let out: it hands back -/
theorem ev_callS {sp : Sp} {ta : TA} {ds : List Da} {WW : WX} (h : EvA W ta Γ c1 (· = ds)) (hs : Fn W sp ds c2 P) : Ev W (tCallS sp (WE WW) ta) Γ (c1 + c2) P := fun H0 B0 B σ H M s hM Q q =>
  h H0 B0 B σ H M s (by omega) _ fun vs ds' H1 k1 r1 hd e => by
    have e2 : ds' = ds := e
    subst e2
    exact hs B H1 _ vs (s.keep k1 r1).toBk (by omega) hd Q _ fun v d H2 k2 r2 hd2 p2 => q v d H2 (k1.trans k2) (by rw [← sub_sub]; exact r2) hd2 p2
/-! ### try that keeps -/
/-- try: y = f(x) / except C as e: z = e; f hands back -/
theorem es_tryOk {sp : Sp} {ta : TA} {ds : List Da} {cc : Value} {i j z : Nat} {Wout : WX} {ts : Addr → Value → Option Addr → TS} (h : EvA W ta Γ c1 (· = ds)) (hs : Fn W sp ds c2 P) (hp : ∀ d, P d → p.nx (Γ.set j (.dat d))) :
    Es W (fun D σ H => tAsg (tCallS sp (WE (wKeep K cc i ts Wout D)) ta) (gName j) D σ H) Γ (c1 + c2) p := fun H0 B0 B σ H M D s hM a b e f => es_asg (ev_callS h hs) hp H0 B0 B σ H M D s hM a b e f
/-- .. f raises an exception of the clause -/
theorem es_tryRz {T : Ct K} {R : Wd K → List Da → Value → List (Str × Da) → Prop} {ta : TA} {ds : List Da} {cls cc : Value} {fs : List (Str × Da)} {i j z : Nat} {Wout : WX} (hr : R W ds cls fs) (ha : EvA W ta Γ 0 (· = ds)) (hiz : i ≠ z) (hi : i < Γ.length)
    (hx : PySem.W.exmOne K cls cc = some true) (hp : p.nx ((Γ.set z (.dat (.exc cls fs))).set i .no)) : Es W (fun D σ H => tAsg (tCallS (spY T R) (WE (wKeep K cc i (fun _ _ _ => tAsg (tVar i) (gName z)) Wout D)) ta) (gName j) D σ H) Γ 0 p := fun H0 B0 B σ H M D s hM a b e f =>
  ha H0 B0 B σ H M s (Nat.zero_le _) _ fun vs ds' H1 k1 r1 hd e' => by
    have e2 : ds' = ds := e'
    subst e2
    have s1 := s.keep k1 r1
    refine Or.inr ⟨W, B, M, _, cls, fs, hr, s1.toBk, hd, fun d H2 k2 r2 xd => ?_⟩
    refine ⟨true, hx, (fun z => Bool.noConfusion z), fun _ ea na => ?_⟩
    have s2 := s1.keep k2 r2
    have hl : i < σ.length := by rw [s.ln]; exact hi
    refine ⟨.ref ea, List.getElem?_set_self hl, ?_⟩
    show D.nx (((σ.set i (some (.ref ea))).set z (some (.ref ea))).set i none) (upd H2 ea (EO cls d ea))
    have es : ((σ.set i (some (.ref ea))).set z (some (.ref ea))).set i none = (σ.set z (some (.ref ea))).set i none := by
      rw [List.set_comm _ _ hiz, List.set_set]
    rw [es]
    have s3 : Sg W H0 B0 B σ Γ (upd H2 ea (EO cls d ea)) M := s2.keep (Kp.new na) (Wd.new na r2)
    have hdat : Dat K B (upd H2 ea (EO cls d ea)) (.ref ea) (.exc cls fs) := by
      unfold Dat
      rcases xd with ⟨rfl, rfl⟩ | ⟨dx, xs, rfl, h2, h3, h4, h5⟩
      · exact ⟨ea, none, [], rfl, ⟨s2.toBk.free na, upd_same⟩, Or.inl ⟨rfl, rfl⟩, by unfold Datf; rfl⟩
      · exact ⟨ea, some dx, xs, rfl, ⟨s2.toBk.free na, upd_same⟩, Or.inr ⟨dx, rfl, h4, h2, Or.inr (by rw [upd_ne (ne_of_none h3 na)]; exact h3)⟩, Datf.mono (Kp.new na) fs xs h5⟩
    exact a B _ _ _ ((s3.setD hdat).set (i := i) (o := none) (e := .no) rfl trivial) (Mv.of ((s.toBk.kp k1).trans ((s1.toBk.kp k2).trans (Kp.new na)))) hp
end
theorem fn_dataY {Pr : Program} {w : World} {K : PySem.W.Frag} {mg : Str → Option Value} {base : Heap} {x qual : Str} {params : Arguments} {body : List Stmt} {scope : Scope} {dvs : List V} {kws : List (Str × V)} {f : Addr} {fd : FuncData} {N ps : List Str} {k : Nat} {C : Ct K} {R : Wd K → List Da → Value → List (Str × Da) → Prop}
    (F : FunD K x qual params body scope dvs kws f fd) (S : FnScope N ps scope) (len : ∀ W ds c P, C W ds c P → ds.length = ps.length) (lenR : ∀ W ds cls fs, R W ds cls fs → ds.length = ps.length) (hps : ps.length ≤ N.length)
    (hbody : ∀ (cdv : Value) (A : Around) (outer : List Env) (s : Shared) (H : Hp) (E : XK), Room k (A.deeper (PyProof.Rows.envOfC qual scope s.heap.objs.size f cdv)) →
      ∃ t, PSs (cxOf (L2.CX Pr w) Pr w K mg base N qual scope f cdv A outer s H E) body t ∧ (∀ W ds c P, C W ds c P → EsX W t (startE N ds) c ⟨fun _ => P .non, P, fun _ => False, fun _ => False⟩ E (fun _ _ => False)) ∧
        ∀ W ds cls fs, R W ds cls fs → EsX W t (startE N ds) 0 ⟨fun _ => False, fun _ => False, fun _ => False, fun _ => False⟩ E (fun c g => c = cls ∧ g = fs)) : FnOk Pr w K mg base (L2.CX Pr w) (k + 1) f fd ps (spY C R) := by
  refine F.ok S (fun vs H Q E h => ?_) (fun cdv A outer s H vs Q E hr h => ?_)
  · rcases h with ⟨W, B, M, ds, c, P, hC, _, _, hd, _⟩ | ⟨W, B, M, ds, cls, fs, hR, _, hd, _⟩
    · rw [hd.length]
      exact len W ds c P hC
    · rw [hd.length]
      exact lenR W ds cls fs hR
  · obtain ⟨t, ht, hE, hX⟩ := hbody cdv A outer s H E hr
    refine ⟨t, ht, ?_⟩
    rcases h with ⟨W, B, M, ds, c, P, hC, hb, hM, hd, q⟩ | ⟨W, B, M, ds, cls, fs, hR, hb, hd, q⟩
    · have s0 : Sg W H B B (L2.start N vs) (startE N ds) H M := Sg.start hb hd (by rw [len W ds c P hC]; exact hps)
      exact hE W ds c P hC H B B _ H M _ s0 hM (fun B' σ' Γ' H' s' m' n' => q .non .non H' s'.k0 s'.dr (by unfold Dat; rfl) n') (fun v d H' k' r' hd' p' => q v d H' k' r' hd' p') (fun _ _ _ _ _ _ z => z.elim) (fun _ _ _ _ _ _ z => z.elim) (fun _ _ _ _ _ _ _ z => z.elim)
    · have s0 : Sg W H B B (L2.start N vs) (startE N ds) H M := Sg.start hb hd (by rw [lenR W ds cls fs hR]; exact hps)
      exact hX W ds cls fs hR H B B _ H M _ s0 (Nat.zero_le _) (fun _ _ _ _ _ _ z => z.elim) (fun _ _ _ _ _ _ z => z.elim) (fun _ _ _ _ _ _ z => z.elim) (fun _ _ _ _ _ _ z => z.elim) (fun cls' fs' d H' k' r' xd ⟨e1, e2⟩ => by
        subst e1 e2
        exact q d H' k' r' xd)
/-! ### the rules for raise -/
section
open PySem.Spec PyProof.Rows
variable {X : Cx}
theorem pmk_rz1 {x : Str} {C : Addr} {p pos : Pos} {z : Str} {kk : Nat} {p3 : Pos} (h : Mk1 X.K X.mg x C) (hs : PySem.W.subIn X.K (.ref C) (.type "BaseException") = some true) (ht : PySem.W.typeIn X.K (.ref C) = some (.type "type")) (hg : Gl X x) (hdb : (x == ("__debug__" : Str)) = false := by decide) :
    PMk X (.Call (.Name x p) [.Constant (.str z) kk p3] [] pos) (tRz1 C) := pmk_own PySem.F.excBase_ValueError h.q h.g h.k (raises_own hs ht) hg hdb
/-- te, and whatever follows from it -/
def tMono (te : TE) : TE := fun σ H Q => ∃ Q1 : VK, te σ H Q1 ∧ ∀ v H1, Q1 v H1 → Q v H1
theorem pe_mono {e : Expr} {te : TE} (he : PE X e te) : PE X e (tMono te) := ⟨fun pins s σ H Q I ⟨Q1, h1, hm⟩ => wpAny_mono (he.run pins s σ H Q1 I h1) (fun u s1 ⟨v, H1, I1, r, q⟩ => ⟨v, H1, I1, r, hm v H1 q⟩) fun _ _ z => z⟩
theorem pmk_rzF {k : Nat} {x : Str} {C : Addr} {fld : Str} {e : Expr} {te : TE} {p pos : Pos} (h : MkF X.prog X.w X.K X.mg X.base x C fld) (hr : Room k X.A) (hk : 2 ≤ k) (hg : Gl X x) (he : PE X e te)
    (hs : starEach [e] X.env = (false, eval e X.env) :: starEach [] X.env := by rfl) (hdb : (x == ("__debug__" : Str)) = false := by decide) : PMk X (.Call (.Name x p) [e] [] pos) (tRzF C fld te) := by
  obtain ⟨fI, fd, par, T, iC, tI, F, hb, gC⟩ := h.ex
  have base := pmk_oex (p := p) (pos := pos) (dvs := []) T.oex iC tI F (hr.mono hk) hb .nil pass0 hg gC (pa_cons (pe_mono he) pa_nil hs) hdb hs (by rfl)
  intro pins s σ H Q I q
  refine base pins s σ H Q I ⟨_, q, fun v H1 q1 => ⟨by show 1 ≤ 1000; decide, fun a na => ⟨a, v, rfl, upd_same, fun dx nd hne => ?_⟩⟩⟩
  rw [upd_ne hne] at nd
  refine ⟨rfl, dx, [(fld, v)], upd_same, by rw [upd_ne hne, upd_same], nd, ?_⟩
  have eH : upd (del (upd (upd (upd H1 a (exo a C none)) dx (exd dx [(fld, v)])) a (exo a C (some dx))) a) dx (.xd [(fld, v)]) = upd H1 dx (.xd [(fld, v)]) := by
    funext b
    by_cases h1 : b = dx
    · rw [h1, upd_same, upd_same]
    · rw [upd_ne h1, upd_ne h1]
      by_cases h2 : b = a
      · rw [h2, del_same, na]
      · rw [del_ne h2, upd_ne h2, upd_ne h1, upd_ne h2]
  rw [eH]
  exact q1 dx nd
end
end WJ
set_option Elab.async false
set_option linter.all false
set_option maxRecDepth 100000
set_option maxHeartbeats 4000000
/-! WkY: more operations on lists: times, backwards, set, pop, insert, three at once, four out of a list; text times 0 or 1 -/
namespace WJ
open PySem L2
section
open PySem.Spec PyProof.Rows
variable {X : Cx}
/-- a text times 0 or 1 -/
def rMulS : R2 := fun x y H Q => ∃ a k, x = .str a ∧ y = .int k ∧ (k = 0 ∨ k = 1) ∧ Q (.str (if k = 1 then a else "")) H
theorem op_mulS : OpR X (binaryOp .Mult) rMulS := by
  intro pins s σ H x y v u Q I rx ry h
  obtain ⟨a, k, rfl, rfl, hk, q⟩ := h
  obtain ⟨t, rfl⟩ := rx
  obtain ⟨t2, rfl⟩ := ry
  rcases hk with rfl | rfl
  · exact P.mul_str_none (by decide) (by decide) ⟨.str "", H, I.tok _, ⟨_, rfl⟩, q⟩
  · refine P.mul_str (by decide) (fun _ h => absurd h (by simp)) (fun _ h => absurd h (by simp)) ?_
    rw [if_neg (by decide), if_pos (by simp)]
    exact ⟨.str a, H, I, ⟨_, rfl⟩, q⟩
/-- xs.insert(i, y), i not below 0 -/
def rIns : V → List V → Hp → VK → Prop := fun x vs H Q => ∃ (l : Addr) (xs : List V) (i : Int) (y : V), x = .ref l ∧ vs = [.int i, y] ∧ H l = some (.lst xs) ∧ xs.length < sizeLine ∧ 0 ≤ i ∧ i < 2 ^ 63 ∧ Q .non (upd H l (.lst (xs.take i.toNat ++ [y] ++ xs.drop i.toNat)))
theorem m_insert : MtR X "list.insert" rIns := mt_insert
theorem p_unl (K : PySem.W.Frag) {es : List Expr} {k : Nat} {t : TGs} {n : Nat} {pos : Pos} (h : PGs X es t) (hc : X.calm = true := by rfl) (hK : X.K = K := by rfl)
    (hn : (assignEach es X.env).length = n := by rfl) (hst : (assignEach es X.env).findIdx? (·.1) = none := by rfl) : PG X (.Tuple es k pos) (gUnl K n t) := hK ▸ pg_unl hc h hn hst
theorem p_revL (K : PySem.W.Frag) {e : Expr} {te : TE} {k : Nat} {p1 p2 p3 pos : Pos} (he : PE X e te) (hK : X.K = K := by rfl) : PE X (.Subscript e (.Slice none none (some (.UnaryOp .USub (.Constant (.int 1) k p1) p2)) p3) pos) (tRevL K te) := hK ▸ pe_revL he
end
section
variable {K : PySem.W.Frag} {W : Wd K} {Γ : List En} {c c1 c2 c3 c' : Nat} {P : Da → Prop} {te t1 t2 t3 ta tb ti : TE} {p : Po}
theorem Dats.set {B : List Addr} {H : Hp} {v : V} {d : Da} (hv : Dat K B H v d) : ∀ {ds : List Da} {vs : List V} (n : Nat), Dats K B H vs ds → Dats K B H (vs.set n v) (ds.set n d)
  | [], _, n, h => by
    unfold Dats at h
    subst h
    exact .nil
  | e :: ds, _, n, h => by
    unfold Dats at h
    obtain ⟨w, r, rfl, h1, t⟩ := h
    cases n with
    | zero => exact .cons hv t
    | succ n => exact .cons h1 (Dats.set hv n t)
theorem Dats.rev {B : List Addr} {H : Hp} : ∀ {ds : List Da} {vs : List V}, Dats K B H vs ds → Dats K B H vs.reverse ds.reverse
  | [], _, h => by
    unfold Dats at h
    subst h
    exact .nil
  | e :: ds, _, h => by
    unfold Dats at h
    obtain ⟨w, r, rfl, h1, t⟩ := h
    rw [List.reverse_cons, List.reverse_cons]
    exact (Dats.rev t).append (.one h1)
theorem rv_mulS {a : Str} {k : Int} (hk : k = 0 ∨ k = 1) : Rv W rMulS (.str a) (.int k) (· = .str (if k = 1 then a else "")) := fun B H M v1 v2 s h1 h2 Q q => by
  rw [dStr.mp h1, dInt.mp h2]
  exact ⟨a, k, rfl, rfl, hk, q _ _ H Kp.refl s.dr (dStr.mpr rfl) rfl⟩
/-- [a, ..] * 2 -/
theorem evF_twice {P : List Da → Prop} (h : EvF W ta Γ c P) (hl : ∀ ds, P ds → ds.length ≤ 1000) : EvF W (tOp rRep ta (tC (.int 2))) Γ c (fun es => ∃ ds, P ds ∧ es = ds ++ ds) := fun H0 B0 B σ H M s hM Q q =>
  h H0 B0 B σ H M s hM _ fun l xs ds H1 n k r e hd p1 => by
    have hlen := hd.length
    have hz := hl ds p1
    refine ⟨l, 2, xs, rfl, rfl, e, by decide, by decide, Nat.le_trans (show xs.length * 2 ≤ 2000 by omega) (by decide), fun l2 n2 => ?_⟩
    have el : (List.replicate (2 : Int).toNat xs).flatten = xs ++ xs := by
      show (List.replicate 2 xs).flatten = xs ++ xs
      simp [List.replicate]
    rw [el]
    have n0 : H l2 = none := k.backB (fun z => (s.keep k r).al l2 (s.fb l2 z) n2) n2
    have hd2 : Dats K (l2 :: B) H1 xs ds := Dats.put n2 _ _ (Dats.sub (fun b hb => List.mem_cons_of_mem _ hb) ds xs hd)
    exact q l2 _ (ds ++ ds) _ n0 (k.trans (Kp.new n2)) (Wd.new n2 r) upd_same (Dats.mono (Kp.new n2) _ _ (hd2.append hd2)) ⟨ds, p1, rfl⟩
/-- xs[::-1] -/
theorem evF_rev {Pd : List Da → Prop} (h : Ev W te Γ c (fun d => ∃ ds, d = .lst ds ∧ Pd ds)) : EvF W (tRevL K te) Γ c (fun es => ∃ ds, Pd ds ∧ es = ds.reverse) := fun H0 B0 B σ H M s hM Q q =>
  h H0 B0 B σ H M s hM _ fun v d H1 k1 r1 hd ⟨ds, e, pd⟩ => by
    subst e
    have s1 := s.keep k1 r1
    unfold Dat at hd
    obtain ⟨a, xs, rfl, sl, t⟩ := hd
    refine ⟨a, xs, rfl, sl.sq, fun l nl => ?_⟩
    exact q l _ _ _ (k1.backB (fun z => s1.al l (s.fb l z) nl) nl) (k1.trans (Kp.new nl)) (Wd.new nl r1) upd_same (Dats.mono (Kp.new nl) _ _ (Dats.put nl _ _ (Dats.rev t))) ⟨ds, pd, rfl⟩
theorem newE' {H0 H H' : Hp} {B0 B : List Addr} {v : V} {e : En} (k : Kp W.F H H') (h : NewE K B H v e H') :
    ∃ B', ∀ σ Γ M M', Sg W H0 B0 B σ Γ H M → W.Dr M' H' → Sg W H0 B0 B' σ Γ H' M' ∧ Mv B H B' H' ∧ ∀ i, Sg W H0 B0 B' (σ.set i (some v)) (Γ.set i e) H' M' := by
  cases e with
  | no => exact ⟨B, fun σ Γ M M' s d => ⟨s.keep k d, Mv.of (s.toBk.kp k), fun i => (s.keep k d).set rfl trivial⟩⟩
  | dat x => exact ⟨B, fun σ Γ M M' s d => ⟨s.keep k d, Mv.of (s.toBk.kp k), fun i => (s.keep k d).setD h⟩⟩
  | own ds =>
    obtain ⟨l, xs, rfl, n, hl, hd⟩ := h
    refine ⟨l :: B, fun σ Γ M M' s d => ?_⟩
    have s2 := s.bar n k d (by rw [hl]; exact Option.some_ne_none _)
    have n0 : H0 l = none := s.k0.backB (fun z => W.alive s.dr l z n) n
    exact ⟨s2, ⟨put_bar n, s.toBk.kp k⟩, fun i => s2.setOwnB (fun j => s.fresh n j) n0 rfl ⟨l, xs, rfl, List.mem_cons_self, hl, hd⟩⟩
  | ownD ds =>
    obtain ⟨l, xs, rfl, n, hl, hd⟩ := h
    refine ⟨l :: B, fun σ Γ M M' s d => ?_⟩
    have s2 := s.bar n k d (by rw [hl]; exact Option.some_ne_none _)
    have n0 : H0 l = none := s.k0.backB (fun z => W.alive s.dr l z n) n
    exact ⟨s2, ⟨put_bar n, s.toBk.kp k⟩, fun i => s2.setOwnB (fun j => s.fresh n j) n0 rfl ⟨l, xs, rfl, List.mem_cons_self, hl, hd⟩⟩
  | ownI aI CI ds =>
    obtain ⟨l, xs, rfl, n, hl, hd⟩ := h
    refine ⟨l :: B, fun σ Γ M M' s d => ?_⟩
    have s2 := s.bar n k d (by rw [hl]; exact Option.some_ne_none _)
    have n0 : H0 l = none := s.k0.backB (fun z => W.alive s.dr l z n) n
    exact ⟨s2, ⟨put_bar n, s.toBk.kp k⟩, fun i => s2.setOwnB (fun j => s.fresh n j) n0 rfl ⟨l, xs, rfl, List.mem_cons_self, hl, hd⟩⟩
/-- a, b, c = e1, e2, e3, of whatever kinds -/
theorem es_par3E {i j l : Nat} {P1 P2 P3 : En → Prop} (h1 : EvE W t1 Γ c1 P1) (h2 : EvE W t2 Γ c2 P2) (h3 : EvE W t3 Γ c3 P3) (hp : ∀ e1 e2 e3, P1 e1 → P2 e2 → P3 e3 → p.nx (((Γ.set i e1).set j e2).set l e3)) : Es W (tPar3 i j l (tCons t1 (tCons t2 (tCons t3 tNil)))) Γ (c1 + (c2 + c3)) p := fun H0 B0 B σ H M D s hM a b e f =>
  h1 H0 B0 B σ H M s (by omega) _ fun v1 e1 H1 k1 r1 n1 p1 => by
    obtain ⟨B1, g1⟩ := newE' (H0 := H0) (B0 := B0) k1 n1
    obtain ⟨s1, m1, f1⟩ := g1 _ _ _ _ s r1
    refine h2 H0 B0 B1 σ H1 _ s1 (by omega) _ fun v2 e2 H2 k2 r2 n2 p2 => ?_
    obtain ⟨B2, g2⟩ := newE' (H0 := H0) (B0 := B0) k2 n2
    obtain ⟨s2, m2, _⟩ := g2 _ _ _ _ s1 r2
    obtain ⟨_, _, f2⟩ := g2 _ _ _ _ (f1 i) r2
    refine h3 H0 B0 B2 σ H2 _ s2 (by omega) _ fun v3 e3 H3 k3 r3 n3 p3 => ?_
    obtain ⟨B3, g3⟩ := newE' (H0 := H0) (B0 := B0) k3 n3
    obtain ⟨_, m3, f3⟩ := g3 _ _ _ _ (f2 j) r3
    exact ⟨v1, v2, v3, rfl, a B3 _ _ H3 ((f3 l).less (by omega)) ((m1.trans m2).trans m3) (hp e1 e2 e3 p1 p2 p3)⟩
/-- xs[i] = v, xs the body's own -/
theorem es_setL {i : Nat} {ds : List Da} {k : Nat} (hi : Γ[i]? = some (.own ds)) (h : Ev W te Γ c P) (hj : Ev W ti Γ 0 (· = .int (k : Nat))) (hk : k < ds.length) (hp : ∀ d, P d → p.nx (Γ.set i (.own (ds.set k d)))) : Es W (tAsg te (gSub (tVar i) ti rSetL)) Γ c p := fun H0 B0 B σ H M D s hM a b e f => by
  obtain ⟨o, ho, l, xs, rfl, hB, hx, hd⟩ := s.sl i _ hi
  have hO : Ow σ Γ i l := ⟨⟨_, hi, rfl⟩, ho⟩
  refine h H0 B0 B σ H M s hM _ fun v d H1 k1 r1 hv q => ?_
  have s1 := s.keep k1 r1
  refine ⟨.ref l, ho, ?_⟩
  refine hj H0 B0 B σ H1 _ s1 (Nat.zero_le _) _ fun jv jd H2 k2 r2 hjd ej => ?_
  subst ej
  rw [dInt.mp hjd]
  have s2 := s1.keep k2 r2
  have k12 := k1.trans k2
  have hx2 : H2 l = some (.lst xs) := k12 l _ (s.outF hO) hx
  have hlen := hd.length
  refine ⟨l, xs, k, k, rfl, rfl, hx2, ?_, ?_⟩
  · unfold ixN
    rw [if_pos (by omega), if_pos (by omega)]
    rfl
  · exact a B σ _ _ (s2.change hi rfl ho (e' := .own (ds.set k d)) rfl ⟨l, _, rfl, hB, upd_same, Dats.mono (Kp.mut hB) _ _ (Dats.set (Dat.mono (s1.toBk.kp k2) _ _ hv) k (Dats.mono (s.toBk.kp k12) ds xs hd))⟩) (Mv.of ((s.toBk.kp k12).trans (Kp.mut hB))) (hp d q)
/-- xs.pop(i), xs the body's own -/
theorem es_popAt {i : Nat} {ds : List Da} {k : Nat} (hi : Γ[i]? = some (.own ds)) (hj : Ev W ti Γ 0 (· = .int (k : Nat))) (hk : k < ds.length) (hl : ds.length ≤ 100000) (hp : p.nx (Γ.set i (.own (ds.eraseIdx k)))) : Es W (tDrop (tBM K "list" rPopAt (tVar i) (tCons ti tNil))) Γ 0 p := fun H0 B0 B σ H M D s hM a b e f => by
  obtain ⟨o, ho, l, xs, rfl, hB, hx, hd⟩ := s.sl i _ hi
  have hO : Ow σ Γ i l := ⟨⟨_, hi, rfl⟩, ho⟩
  refine ⟨.ref l, ho, Or.inl ⟨rfl, xs, Or.inl (Or.inl hx)⟩, ?_⟩
  refine hj H0 B0 B σ H _ s (Nat.zero_le _) _ fun jv jd H2 k2 r2 hjd ej => ?_
  subst ej
  rw [dInt.mp hjd]
  have s2 := s.keep k2 r2
  have hx2 : H2 l = some (.lst xs) := k2 l _ (s.outF hO) hx
  have hlen := hd.length
  have hkx : k < xs.length := by omega
  refine ⟨l, xs, k, k, xs[k], rfl, rfl, hx2, by omega, by omega, seqIndex_of (by omega) (by omega), List.getElem?_eq_getElem hkx, ?_⟩
  exact a B σ _ _ (s2.change hi rfl ho (e' := .own (ds.eraseIdx k)) rfl ⟨l, _, rfl, hB, upd_same, Dats.mono (Kp.mut hB) _ _ (Dats.eraseIdx k (Dats.mono (s.toBk.kp k2) ds xs hd))⟩) (Mv.of ((s.toBk.kp k2).trans (Kp.mut hB))) hp
/-- xs.insert(i, v), xs the body's own -/
theorem es_insert {i : Nat} {ds : List Da} {k : Nat} (hi : Γ[i]? = some (.own ds)) (hj : Ev W ti Γ 0 (· = .int (k : Nat))) (h : Ev W te Γ c P) (hk : k ≤ 100000) (hl : ds.length < 100000) (hp : ∀ d, P d → p.nx (Γ.set i (.own (ds.take k ++ [d] ++ ds.drop k)))) : Es W (tDrop (tBM K "list" rIns (tVar i) (tCons ti (tCons te tNil)))) Γ c p := fun H0 B0 B σ H M D s hM a b e f => by
  obtain ⟨o, ho, l, xs, rfl, hB, hx, hd⟩ := s.sl i _ hi
  have hO : Ow σ Γ i l := ⟨⟨_, hi, rfl⟩, ho⟩
  refine ⟨.ref l, ho, Or.inl ⟨rfl, xs, Or.inl (Or.inl hx)⟩, ?_⟩
  refine hj H0 B0 B σ H _ s (Nat.zero_le _) _ fun jv jd H1 k1 r1 hjd ej => ?_
  subst ej
  rw [dInt.mp hjd]
  have s1 := s.keep k1 r1
  refine h H0 B0 B σ H1 _ s1 (by omega) _ fun v d H2 k2 r2 hv q => ?_
  have s2 := s1.keep k2 r2
  have k12 := k1.trans k2
  have hx2 : H2 l = some (.lst xs) := k12 l _ (s.outF hO) hx
  have hlen := hd.length
  have hd2 := Dats.mono (s.toBk.kp k12) ds xs hd
  refine ⟨l, xs, k, v, rfl, rfl, hx2, Nat.lt_of_lt_of_le (show xs.length < 100000 by omega) (by decide), by omega, by omega, ?_⟩
  have ek : ((k : Nat) : Int).toNat = k := rfl
  rw [ek]
  exact a B σ _ _ ((s2.less (by omega)).change hi rfl ho (e' := .own (ds.take k ++ [d] ++ ds.drop k)) rfl ⟨l, _, rfl, hB, upd_same, Dats.mono (Kp.mut hB) _ _ ((((Dats.take k hd2).append (.one hv))).append (Dats.drop k hd2))⟩) (Mv.of ((s.toBk.kp k12).trans (Kp.mut hB))) (hp d q)
/-- a, b, c, d = a list of four -/
theorem eg_unl4 {i j k l : Nat} {d1 d2 d3 d4 : Da} : Eg W (gUnl K 4 (gCons (gName i) (gCons (gName j) (gCons (gName k) (gCons (gName l) gNil))))) [i, j, k, l] (.lst [d1, d2, d3, d4]) Γ ((((Γ.set i (.dat d1)).set j (.dat d2)).set k (.dat d3)).set l (.dat d4)) := fun H0 B0 B σ H M v s hd Q q => by
  unfold Dat at hd
  obtain ⟨a, xs, rfl, hs, hx⟩ := hd
  unfold Dats at hx
  obtain ⟨v1, t, rfl, h1, hx⟩ := hx
  unfold Dats at hx
  obtain ⟨v2, t2, rfl, h2, hx⟩ := hx
  unfold Dats at hx
  obtain ⟨v3, t3, rfl, h3, hx⟩ := hx
  unfold Dats at hx
  obtain ⟨v4, t4, rfl, h4, hx⟩ := hx
  unfold Dats at hx
  subst hx
  refine ⟨a, _, rfl, hs.sq, rfl, v1, _, rfl, v2, _, rfl, v3, _, rfl, v4, _, rfl, rfl, ?_⟩
  refine q _ ((((s.setD h1).setD h2).setD h3).setD h4) ?_
  rw [wipe_set _ _ (by simp), wipe_set _ _ (by simp), wipe_set _ _ (by simp), wipe_set _ _ (by simp)]
end
end WJ
set_option Elab.async false
set_option linter.all false
set_option maxRecDepth 100000
set_option maxHeartbeats 4000000
/-! WkL: a lambda without parameters handed to a def that keeps what it raises -/
namespace WJ
open PySem PySem.Spec PyProof.Rows L2 LamX
section
variable {X : Cx} {pins : List (Addr × Obj)} {σ : L2.St} {H : Hp} {s : Shared}
/-- x(), in the def that got the lambda; what it raises is let out at that def's very names -/
theorem pe_actS {CXg : CXT} {Eg : XK} {Ng : List Str} {qg : Str} {sg : Scope} {g f c' : Addr} {cdg pm ctv : Value} {params : Arguments} {body : Expr} {scope : Scope} {k i : Nat} {a : Str} {pn : List (Addr × Obj)} {xe : Value → Shared → Prop} {W : WX} {t : XK → TE} {p1 p2 : Pos}
    (I : Inv X pins σ H s) (L : LamS X.env.scope scope) (hf : s.heap.get? f = some (PySem.W.kla_obj "<lambda>" (X.env.qual ++ "<lambda>") params body scope (cloFrom X.env.cells scope.names []) pm c' ctv)) (hfn : H f = none) (hfr : f ∉ frs X.stack)
    (hbind : bindArgs (PySem.W.kla_fn "<lambda>" (X.env.qual ++ "<lambda>") params body scope (cloFrom X.env.cells scope.names []) pm (.ref c') ctv) ⟨[], []⟩ = pure [])
    (tk : Takes ((cxOf CXg X.prog X.w X.K X.mg X.base Ng qg sg g cdg X.A X.stack s H Eg).tr pn xe) W) (hr : Room (k + 1) (X.A.deeper (envOfC qg sg s.heap.objs.size g cdg)))
    (hbody : ∀ (A : Around) (outer : List Env) (s : Shared) (H : Hp) (E : XK), Room k (A.deeper (lamEnv X scope s.heap.objs.size f c')) → PE (lamCx X A outer s H E scope f c') body (t E))
    (hN : Ng[i]? = some a) (hv : Vis sg a) (hd : (a == ("__debug__" : Str)) = false := by decide) (hcd : (a == ("__classdict__" : Str)) = false := by decide) :
    PE ((cxOf CXg X.prog X.w X.K X.mg X.base Ng qg sg g cdg X.A X.stack s H Eg).tr pn xe) (.Call (.Name a p1) [] [] p2)
      (fun σZ HZ Q => σZ[i]? = some (some (.ref f)) ∧ HZ c' = some (CodeO c' (X.env.qual ++ "<lambda>")) ∧ t (WE W σZ) σ HZ Q) := by
  refine ⟨fun pinsZ sZ σZ HZ Q IZ h => ?_⟩
  obtain ⟨hs, hc, ht⟩ := h
  refine wpAny_Call_Name_kw (thn ((pe_var (pos := p1) (i := i) hN hv hd hcd).run pinsZ sZ σZ HZ (fun v H1 => v = .ref f ∧ H1 = HZ) IZ ⟨.ref f, hs, rfl, rfl⟩) fun u s1 ⟨v, H1, I1, r1, ev, eH⟩ => ?_)
  subst ev eH
  obtain rfl : u = Value.ref f := r1
  have of1 := I1.base.keep f _ hf hfn hfr (fun z => nomatch (show f ∈ ([] : List Addr) from z))
  refine PySem.W.callWith_F0 ⟨_, _, _, _, of1⟩ ?_
  obtain ⟨⟨oc, vs, tt, hoc, hdc, hvc⟩, _, _⟩ := I1.hok c' _ hc
  have rc : codeAny (model X.prog X.w) (X.A.deeper (envOfC qg sg s.heap.objs.size g cdg)) (.call (.ref f) ⟨[], []⟩) (CR (L2.CX X.prog X.w) (envOfC qg sg s.heap.objs.size g cdg :: X.stack) X.prog X.w H1 s1 Q (WE W σZ)) s1 := by
    refine PySem.W.kla_callFunE hr.depth of1 rfl L.co L.gen rfl ⟨c', oc, vs, tt, rfl, hoc, hdc, hvc⟩ ?_
    rw [hbind]
    refine wpAny_pure (wpAny_newFunctionEnv (fun y hy => (L.own y hy).2) (fun y hy => absurd hy (by simp)) (fun h₁ hns hsb => ⟨I1.nolimit.fresh _ hsb, ?_⟩) L.kind)
    show codeAny _ _ (.expr body (lamEnv X scope s1.heap.objs.size f c')) _ _
    have J : Inv (lamCx X (X.A.deeper (envOfC qg sg s.heap.objs.size g cdg)) (envOfC qg sg s.heap.objs.size g cdg :: X.stack) s1 H1 (WE W σZ) scope f c') [] σ H1 { s1 with heap := h₁, toks := s1.toks + ([] : List (Str × Value)).length } :=
      lam_start2 I L I1.env0 hr.hd I1.base hns fun b o e => hsb.extBut b o (Nat.ne_of_lt (Heap.lt_size e)) (Heap.get?_push_of_some _ e)
    refine PySem.W.kla_codeExpr (wpAny_mono ((hbody _ _ s1 H1 (WE W σZ) (hr.deeper _)).run [] _ _ H1 Q J ht) (fun v s' ⟨w', H', J', rv, q⟩ => ⟨w', H', J'.os, J'.bare, J'.base, J'.hok, rv, q⟩) fun e s' hq => hq)
  refine wpAny_call (codeAny_mono rc fun r s' hq => ?_)
  cases r with
  | error e => exact passAt tk σZ pinsZ H1 s1 e s' I1 hq
  | ok fl =>
    cases fl with
    | ret u => exact I1.after hq
    | next => exact False.elim hq
    | brk => exact False.elim hq
    | cont => exact False.elim hq
end
section
variable {X : Cx} {pins : List (Addr × Obj)} {σ : L2.St} {H : Hp} {s : Shared}
/-- a lambda is made: at most its maker's table is written, at most its code object is new -/
theorem lam_makeP {T : List (Addr × Str)} {c P : Addr} {params : Arguments} {body : Expr} {scope : Scope} {pos : Pos} {E : Value → Shared → Prop} {Q : Value → Shared → Prop} (I : Inv X pins σ H s) (TB : TabB X.base X.mg c P) (hcode : X.env.code = .ref c)
    (hm : (P, X.env.qual ++ "<lambda>") ∈ T) (hu : ∀ p ∈ T, p.1 = P → p.2 = X.env.qual ++ "<lambda>") (hT : Tabs T H) (hdef : defaultsOf params X.env = ([], [])) (hfree : ∀ y ∈ scope.names, y.2 = .free → ∃ c, X.env.cells.lookup y.1 = some c)
    (h : ∀ (f c' : Addr) (pm ctv : Value) (H1 : Hp) (s' : Shared), Inv X pins σ H1 s' → Kp [P] H H1 → Tabs T H1 →
      s'.heap.get? f = some (PySem.W.kla_obj "<lambda>" (X.env.qual ++ "<lambda>") params body scope (cloFrom X.env.cells scope.names []) pm c' ctv) → H1 f = none → f ∉ frs X.stack → H1 c' = some (CodeO c' (X.env.qual ++ "<lambda>")) → Q (.ref f) s') :
    wpAny (model X.prog X.w) X.A (eval (.Lambda params body scope pos) X.env) Q E s := by
  obtain ⟨ps, hP, ht, ha⟩ := hT _ hm
  have hP' : s.heap.get? P = some { cls := .none, data := .fields ps } := I.hok P _ hP
  have far : ∀ f, s.heap.objs.size ≤ f → f ∉ frs X.stack := fun f hf z => by
    rcases List.mem_cons.mp (I.stkSub _ z) with e | e
    · have h1 := I.lt
      rw [← e] at h1
      exact Nat.lt_irrefl _ (Nat.lt_of_lt_of_le h1 hf)
    · exact I.nofs hf e
  refine PySem.W.kla_eval hdef ?_
  cases hc : codeAmong pos ps.toList with
  | some cv =>
    obtain ⟨c', rfl, hco⟩ := ha pos cv hc
    refine PySem.W.kla_makeFunctionHit (mg := X.mg) (c := c) (P := P) (ps := ps) (closure_ok hfree) I.ok.glob (I.mod.glob.keeps I.bk) hcode (TB.code.keeps I.bk) hP' ht hc (TB.bm.keeps I.bk) fun ctv h' tk hx hsz => ?_
    exact h h'.objs.size c' _ ctv H _ (I.kept fun b o e => Heap.get?_push_of_some _ (hx b o e)) Kp.refl hT (Heap.get?_push_size _ rfl) (I.hok.fresh hsz) (far _ hsz) hco
  | none =>
    refine PySem.W.kla_makeFunction (mg := X.mg) (c := c) (P := P) (ps := ps) (closure_ok hfree) I.ok.glob (I.mod.glob.keeps I.bk) hcode (TB.code.keeps I.bk) hP' ht hc TB.gP (TB.bm.keeps I.bk) fun c' ctv h' tk hx hge hlt hrec htb => ?_
    obtain ⟨c2, oc, vs, t, e2, hoc, hd, hv⟩ := hrec
    cases e2
    have hsz : s.heap.objs.size ≤ h'.objs.size := Nat.le_trans hge (Nat.le_of_lt hlt)
    have nC : H c' = none := I.hok.fresh hge
    have I1 := inv_table (t' := tk) (more := #[rawInt pos.line, rawInt pos.col, .ref c']) (h' := h'.push (PySem.W.kla_obj "<lambda>" (X.env.qual ++ "<lambda>") params body scope (cloFrom X.env.cells scope.names []) ((X.mg "__name__").getD .none) c' ctv)) I hP
      (fun b o hb e => Heap.get?_push_of_some _ (hx b o hb e)) (Heap.get?_push_of_some _ htb) hge ⟨oc, vs, t, Heap.get?_push_of_some _ hoc, hd, hv⟩
    have kp : Kp [P] H (upd (upd H P (.tbl (ps ++ #[rawInt pos.line, rawInt pos.col, .ref c']))) c' (CodeO c' (X.env.qual ++ "<lambda>"))) := fun b o nb e => by
      rw [upd_ne (ne_of_none e nC), upd_ne (fun z => nb (by rw [z]; exact List.mem_singleton_self P))]
      exact e
    have nP : ∀ {c0 : Addr} {q : Str}, H c0 = some (CodeO c0 q) → c0 ∉ [P] := fun {c0 q} e z => by
      rw [List.mem_singleton.mp z, hP] at e
      exact codeO_ne ps (Option.some.inj e).symm
    have eL : (ps ++ #[rawInt pos.line, rawInt pos.col, .ref c']).toList = ps.toList ++ [rawInt pos.line, rawInt pos.col, .ref c'] := by simp
    refine h h'.objs.size c' _ ctv _ _ I1 kp (fun p hp => ?_) (Heap.get?_push_size _ rfl) ?_ (far _ hsz) upd_same
    · obtain ⟨ps', a1, a2, a3⟩ := hT p hp
      by_cases hb : p.1 = P
      · rw [hu p hp hb, hb]
        refine ⟨_, by rw [upd_ne (ne_of_none hP nC), upd_same], by rw [eL]; exact PySem.TriplesOk_snoc _ _ _ _ ht, fun p' cv hcv => ?_⟩
        rw [eL] at hcv
        rcases among_app _ ht hcv with z | z
        · obtain ⟨c0, e1, e2⟩ := ha p' cv z
          exact ⟨c0, e1, kp _ _ (nP e2) e2⟩
        · exact ⟨c', z, upd_same⟩
      · refine ⟨ps', kp _ _ (fun z => hb (List.mem_singleton.mp z)) a1, a2, fun p' cv hcv => ?_⟩
        obtain ⟨c0, e1, e2⟩ := a3 p' cv hcv
        exact ⟨c0, e1, kp _ _ (nP e2) e2⟩
    · rw [upd_ne (Nat.ne_of_gt hlt), upd_ne (Nat.ne_of_gt (Nat.lt_of_lt_of_le (Heap.lt_size hP') hsz))]
      exact I.hok.fresh hsz
end
/-- f(lambda: ..): TT is what f makes of the lambda's reading t -/
def tLamP (T : List (Addr × Str)) (P : Addr) (TT : (XK → Hp → VK → Prop) → Hp → VK → Prop) (t : XK → TE) : TE := fun σ H Q => Tabs T H ∧ ∀ H1, Kp [P] H H1 → Tabs T H1 → TT (fun E H' Q' => t E σ H' Q') H1 Q
/-- as GivesTo; the lambda's reading is told where what it raises goes, at the def's very names -/
def GivesS (X : Cx) (Ng : List Str) (x : Str) (sg : Scope) (g : Addr) (cdg : Value) (bg : List Stmt) (a : Str) (q : Str) (TT : (XK → Hp → VK → Prop) → Hp → VK → Prop) : Prop :=
  ∀ (k : Nat) (f c' : Addr) (s : Shared) (H : Hp) (Q : VK) (tl : XK → Hp → VK → Prop), Room k ((cxOf C8.CX0 X.prog X.w X.K X.mg X.base Ng x sg g cdg X.A X.stack s H C8.E0).nox).A → True →
    (∀ (W : WX) (pn : List (Addr × Obj)) (xe : Value → Shared → Prop) (p1 p2 : Pos), Takes ((cxOf C8.CX0 X.prog X.w X.K X.mg X.base Ng x sg g cdg X.A X.stack s H C8.E0).tr pn xe) W →
      PE ((cxOf C8.CX0 X.prog X.w X.K X.mg X.base Ng x sg g cdg X.A X.stack s H C8.E0).tr pn xe) (.Call (.Name a p1) [] [] p2) (fun σZ HZ Q => σZ[0]? = some (some (.ref f)) ∧ HZ c' = some (CodeO c' q) ∧ tl (WE W σZ) HZ Q)) →
    H c' = some (CodeO c' q) → TT tl H Q →
    ∃ t, PSs (cxOf C8.CX0 X.prog X.w X.K X.mg X.base Ng x sg g cdg X.A X.stack s H C8.E0).nox bg t ∧ t { nx := fun _ H' => Q .non H', rt := Q } (L2.start Ng [.ref f]) H
section
variable {X : Cx}
/-- x(lambda: body) -/
theorem pe_lamS {T : List (Addr × Str)} {TT : (XK → Hp → VK → Prop) → Hp → VK → Prop} {x a : Str} {g c P : Addr} {k : Nat} {pg : Arguments} {bg : List Stmt} {sg : Scope} {dV kV doc pm cdv ct oc : Value} {an od : Option Addr} {osl : Array (Option Value)} {Ng : List Str}
    {params : Arguments} {body : Expr} {scope : Scope} {t : XK → TE} {p lpos pos : Pos} (hg : Gl X x) (hm : X.mg x = some (.ref g)) (hk : PySem.W.keepIn X.K (.ref g) = true)
    (lk : X.K.lookup g = some ⟨oc, od, .func (PySem.W.fnOf x x pg bg sg dV kV doc pm an cdv ct), osl⟩) (hcg : PySem.W.codeIn X.K cdv x = true) (hb : L2.Binds X.K (PySem.W.fnOf x x pg bg sg dV kV doc pm an cdv ct) [a] []) (Sg : FnScope Ng [a] sg) (hNg : Ng[0]? = some a) (hva : Vis sg a)
    (hG : GivesS X Ng x sg g cdv bg a (X.env.qual ++ "<lambda>") TT)
    (TB : TabB X.base X.mg c P) (hcode : X.env.code = .ref c) (hmT : (P, X.env.qual ++ "<lambda>") ∈ T) (hu : ∀ p ∈ T, p.1 = P → p.2 = X.env.qual ++ "<lambda>") (hr : Room (k + 2) X.A) (L : LamS X.env.scope scope) (hdef : defaultsOf params X.env = ([], []))
    (hbind : ∀ (q : Str) (cl : List (Str × Addr)) (pm cv ctv : Value), bindArgs (PySem.W.kla_fn "<lambda>" q params body scope cl pm cv ctv) ⟨[], []⟩ = pure [])
    (hbody : ∀ (A : Around) (outer : List Env) (s : Shared) (H : Hp) (E : XK) (f c' : Addr), Room k (A.deeper (lamEnv X scope s.heap.objs.size f c')) → PE (lamCx X A outer s H E scope f c') body (t E))
    (hdb : (x == ("__debug__" : Str)) = false := by decide) (hd : (a == ("__debug__" : Str)) = false := by decide) (hcd : (a == ("__classdict__" : Str)) = false := by decide) :
    PE X (.Call (.Name x p) [.Lambda params body scope lpos] [] pos) (tLamP T P TT t) := by
  refine ⟨fun pins s σ H Q I ⟨hT, h⟩ => ?_⟩
  refine wpAny_Call_Name_kw (ld_glob I hg hm ?_ hdb)
  refine PySem.W.callWith_K (h₀ := X.base) I.ok.mod.kin hk ?_ (by rfl) (by rfl)
  show wpAny _ _ (spliced ((false, eval (.Lambda params body scope lpos) X.env) :: backTo pos (starEach [] X.env))) _ _ s
  refine Calls.spliced_cons (lam_makeP I TB hcode hmT hu hT hdef (L.has I.ok) fun f c' pm' ctv H1 s' I1 eN T1 hf hfn hfr hco => ?_)
  refine Calls.spliced_nil ⟨I1.kIn, ?_⟩
  have rc : codeAny (model X.prog X.w) X.A (.call (.ref g) ⟨[.ref f], []⟩) (CR C8.CX0 X.stack X.prog X.w H1 s' Q C8.E0) s' := by
    refine run_ofS (N := Ng) (ps := [a]) (us := [.ref f]) (vs := [.ref f]) lk hcg Sg hr I1.env0 (hb s' [.ref f] I1.kIn rfl) (.cons rfl .nil) rfl fun hr' => ?_
    obtain ⟨t', ht', hq'⟩ := hG _ f c' s' H1 Q (fun E H' Q' => t E σ H' Q') hr' trivial (fun W pn xe p1 p2 tk => pe_actS (i := 0) I1 L hf hfn hfr (hbind _ _ _ _ _) tk hr' (fun A outer s H E hr2 => hbody A outer s H E f c' hr2) hNg hva hd hcd) hco (h H1 eN T1)
    exact ⟨t', ht'.nox, hq'⟩
  refine wpAny_call (codeAny_mono rc fun r s2 hq => ?_)
  cases r with
  | error e => exact (show False from hq).elim
  | ok fl =>
    cases fl with
    | ret u => exact I1.after hq
    | next => exact False.elim hq
    | brk => exact False.elim hq
    | cont => exact False.elim hq
end
end WJ
set_option Elab.async false
set_option linter.all false
set_option maxRecDepth 100000
set_option maxHeartbeats 4000000
/-! WkG: the source of draws of the first kind, its contracts -/
namespace WJ
open PySem L2
/-- the world in which nothing changes -/
def W0 (K : PySem.W.Frag) : Wd K where
  F := []
  Dr := fun _ _ => True
  pres := fun _ _ _ _ => trivial
  alive := fun _ _ h => nomatch h
  less := fun _ _ => trivial
def spSrc1 (K : PySem.W.Frag) : Sp := fun vs H Q _ => ∃ (a : Addr) (ns : List Int), vs = [.ref a] ∧ SqL K H a (ns.map V.int) ∧ ns.length ≤ 63 ∧ ∀ p g l H', Kp [] H H' → H p = none → H g = none → H l = none → (DW1 K p g l).Dr 100000 H' → Q (.ref p) H'
def spLawS (K : PySem.W.Frag) : Sp := fun vs H Q _ => ∃ (a : Addr) (ns : List Int), vs = [.ref a] ∧ SqL K H a (ns.map V.int) ∧ ns.length ≤ 63 ∧ ∀ H', Q (.bl true) H'
theorem dats_ints {K : PySem.W.Frag} {B : List Addr} {H : Hp} : ∀ {xs : List Int} {vs : List V}, Dats K B H vs (xs.map Da.int) → vs = xs.map V.int
  | [], _, h => by
    unfold Dats at h
    exact h
  | x :: xs, vs, h => by
    have h2 : Dats K B H vs (Da.int x :: xs.map Da.int) := h
    unfold Dats at h2
    obtain ⟨v, r, rfl, s, t⟩ := h2
    unfold Dat at s
    rw [s, dats_ints t]
    rfl
theorem ints_dats {K : PySem.W.Frag} {B : List Addr} {H : Hp} : ∀ xs : List Int, Dats K B H (xs.map V.int) (xs.map Da.int)
  | [] => .nil
  | x :: xs => .cons (by unfold Dat; rfl) (ints_dats xs)
theorem script_dat {K : PySem.W.Frag} {B : List Addr} {H : Hp} {a : Addr} {ns : List Int} (h : SqL K H a (ns.map V.int)) (hB : ∀ b ∈ B, ∀ u, ¬ Rd H b u) : Dat K B H (.ref a) (.lst (ns.map Da.int)) := by
  unfold Dat
  refine ⟨a, _, rfl, ?_, ints_dats ns⟩
  rcases h with h | h
  · exact Or.inl ⟨fun z => hB a z _ h, h⟩
  · exact Or.inr (Or.inr h)
section
variable {K : PySem.W.Frag} {W : Wd K} {Γ : List En}
def absI (i : Int) : Int := if i < 0 then -i else i
theorem absI_nonneg (i : Int) : 0 ≤ absI i := by
  unfold absI
  split <;> omega
theorem rc_abs {i : Int} : Rc W rAbs [.int i] (· = .int (absI i)) := fun B H M vs s h Q q => by
  unfold Dats at h
  obtain ⟨v, r, rfl, h1, t1⟩ := h
  unfold Dats at t1
  subst t1
  unfold Dat at h1
  subst h1
  exact ⟨i, rfl, q _ _ H Kp.refl s.dr (dInt.mpr rfl) rfl⟩
theorem rc_int {i : Int} : Rc W rIntA [.int i] (· = .int i) := fun B H M vs s h Q q => by
  unfold Dats at h
  obtain ⟨v, r, rfl, h1, t1⟩ := h
  unfold Dats at t1
  subst t1
  unfold Dat at h1
  subst h1
  exact Or.inl ⟨i, rfl, q _ _ H Kp.refl s.dr (dInt.mpr rfl) rfl⟩
def big : Int := 10 ^ (18 : Int).toNat
theorem ev_big : Ev W (tOp (rI CPow fun i j => .int (i ^ j.toNat)) (tC (.int 10)) (tC (.int 18))) Γ 0 (· = .int big) :=
  ev_int3 (c1 := 0) (c2 := 0) (i := 10) (j := 18) ev_int ev_int ⟨by decide, by decide, by decide⟩ (fun _ _ => by unfold Dat; rfl)
def digF : Da → Da
  | .int n => .int (absI n / big)
  | _ => .non
def digT : Da → Bool
  | .int n => decide (big ≤ absI n)
  | _ => false
def lumF : Da → Da
  | .int n => .int (absI n % big)
  | _ => .non
def digs (ns : List Int) : List Int := (ns.filter fun n => decide (big ≤ absI n)).map fun n => absI n / big
def lums (ns : List Int) : List Int := ns.map fun n => absI n % big
theorem digs_eq (ns : List Int) : ((ns.map Da.int).filter digT).map digF = (digs ns).map Da.int := by
  unfold digs
  rw [List.filter_map, List.map_map, List.map_map]
  rfl
theorem lums_eq (ns : List Int) : (ns.map Da.int).map lumF = (lums ns).map Da.int := by
  unfold lums
  rw [List.map_map, List.map_map]
  rfl
theorem evF_digs {ns : List Int} {x : En} (hl : ns.length ≤ 63) : EvF W (tLc (iList K (tVar 0)) (gName 2) (tTest (tOp (rI0 fun i j => .bl (decide (j ≤ i))) (tCB (rAbs) (tCons (tVar 2) tNil)) (tOp (rI CPow fun i j => .int (i ^ j.toNat)) (tC (.int 10)) (tC (.int 18))))) (tOp (rI CDivW fun i j => .int (i / j)) (tCB (rAbs) (tCons (tVar 2) tNil)) (tOp (rI CPow fun i j => .int (i ^ j.toNat)) (tC (.int 10)) (tC (.int 18)))) [2]) [.dat (.lst (ns.map Da.int)), x, .no] 0 (· = (digs ns).map Da.int) := by
  rw [← digs_eq]
  refine (evF_filter (c0 := 0) (ct := 0) (ce := 0) (n := 63) (ds := ns.map Da.int) (t := digT) (f := digF) (ei_list ((ev_var rfl).imp fun d e => ⟨_, e, rfl⟩)) (fun d hd => ?_) (fun d hd _ => ?_) (by rw [List.length_map]; exact hl) (by decide)).weak (by decide) (fun _ e => e)
  · obtain ⟨n, _, rfl⟩ := List.mem_map.mp hd
    exact et_testB (ev_int2 (c1 := 0) (c2 := 0) (ev_cbE (ea_cons2 (c1 := 0) (c2 := 0) (ev_var rfl) ea_nil) rc_abs) ev_big (fun _ _ => by unfold Dat; rfl))
  · obtain ⟨n, _, rfl⟩ := List.mem_map.mp hd
    exact ev_int3 (c1 := 0) (c2 := 0) (ev_cbE (ea_cons2 (c1 := 0) (c2 := 0) (ev_var rfl) ea_nil) rc_abs) ev_big ⟨by decide, by decide +kernel⟩ (fun _ _ => by unfold Dat; rfl)
theorem evF_lums {ns : List Int} {x : En} (hl : ns.length ≤ 63) : EvF W (tLc (iList K (tVar 0)) (gName 2) tYes (tOp (rI (fun _ j => 0 < j) fun i j => .int (i % j)) (tCB (rIntA) (tCons (tCB (rAbs) (tCons (tVar 2) tNil)) tNil)) (tOp (rI CPow fun i j => .int (i ^ j.toNat)) (tC (.int 10)) (tC (.int 18)))) [2]) [.dat (.lst (ns.map Da.int)), x, .no] 0 (· = (lums ns).map Da.int) := by
  rw [← lums_eq]
  exact evF_map (K := K) (W := W) (Γ := [.dat (.lst (ns.map Da.int)), x, .no]) (Γ' := []) (i := 2) (n := 63) (c0 := 0) (cb := 0) (wi := iList K (tVar 0)) (te := tOp (rI (fun _ j => 0 < j) fun i j => .int (i % j)) (tCB (rIntA) (tCons (tCB (rAbs) (tCons (tVar 2) tNil)) tNil)) (tOp (rI CPow fun i j => .int (i ^ j.toNat)) (tC (.int 10)) (tC (.int 18)))) (ds := ns.map Da.int) (f := lumF) (ei_list ((ev_var rfl).imp fun d e => ⟨_, e, rfl⟩)) (fun d hd => by
    obtain ⟨n, _, rfl⟩ := List.mem_map.mp hd
    exact ev_int3 (c1 := 0) (c2 := 0) (ev_cbE (ea_cons2 (c1 := 0) (c2 := 0) (ev_cbE (ea_cons2 (c1 := 0) (c2 := 0) (ev_var rfl) ea_nil) rc_abs) ea_nil) rc_int) ev_big (by decide) (fun _ _ => by unfold Dat; rfl)) (by rw [List.length_map]; exact hl) (by decide)
theorem tC_run {v : V} {σ : L2.St} {H : Hp} {Q : VK} (h : Q v H) : tC v σ H Q := h
theorem merge1 (g l : Addr) : mergeK [] (kv1 0 g l 0) = kv1 0 g l 0 := by
  have h1 := k1_dg
  have h2 := k1_dl
  have h3 : ¬ (Sum.inr "digits" : Key) = (Sum.inr "turn" : Key) := k_dt
  have h4 := k1_gl
  have h5 := k1_gt
  have h6 := k1_lt
  simp [mergeK, kv1, L2.putK, h1, h2, h3, h4, h5, h6]
def t_begun (K : PySem.W.Frag) : TS :=
  (tSeq (tAsg (tLc (iList K (tVar 0)) (gName 2) (tTest (tOp (rI0 fun i j => .bl (decide (j ≤ i))) (tCB (rAbs) (tCons (tVar 2) tNil)) (tOp (rI CPow fun i j => .int (i ^ j.toNat)) (tC (.int 10)) (tC (.int 18))))) (tOp (rI CDivW fun i j => .int (i / j)) (tCB (rAbs) (tCons (tVar 2) tNil)) (tOp (rI CPow fun i j => .int (i ^ j.toNat)) (tC (.int 10)) (tC (.int 18)))) [2]) (gName 1))
    (tRet (tDisp [((tC (.str "digits")), (tC (.int 0))), ((tC (.str "great")), (tVar 1)), ((tC (.str "lumps")), (tLc (iList K (tVar 0)) (gName 2) tYes (tOp (rI (fun _ j => 0 < j) fun i j => .int (i % j)) (tCB (rIntA) (tCons (tCB (rAbs) (tCons (tVar 2) tNil)) tNil)) (tOp (rI CPow fun i j => .int (i ^ j.toNat)) (tC (.int 10)) (tC (.int 18)))) [2])), ((tC (.str "turn")), (tC (.int 0)))])))
theorem begun_run {N : List Str} (hN : N.length = 3) {D : Ends} {vs : List V} {H : Hp} {Q : VK} {E : XK} (hD : D.rt = Q) (h : spSrc1 K vs H Q E) : t_begun K D (L2.start N vs) H := by
  obtain ⟨n0, n1, n2, rfl⟩ : ∃ a b c, N = [a, b, c] := by
    match N, hN with
    | [a, b, c], _ => exact ⟨a, b, c, rfl⟩
  obtain ⟨a, ns, rfl, hS, hl, q⟩ := h
  subst hD
  have s0 : Sg (W0 K) H [] [] (L2.start [n0, n1, n2] [.ref a]) (startE [n0, n1, n2] [.lst (ns.map Da.int)]) H 0 := Sg.start ⟨trivial, fun b hb => hb, fun b hb => nomatch hb⟩ (.cons (script_dat hS fun b hb => nomatch hb) .nil) (by show 1 ≤ 3; decide)
  unfold t_begun tSeq tAsg
  refine evF_digs (W := W0 K) hl H [] [] _ H 0 s0 (Nat.le_refl _) _ fun g xs ds H1 ng k1 r1 hg hds e => ?_
  subst e
  have eg := dats_ints hds
  subst eg
  have s1 : Sg (W0 K) H [] [g] ((L2.start [n0, n1, n2] [.ref a]).set 1 (some (.ref g))) ((startE [n0, n1, n2] [.lst (ns.map Da.int)]).set 1 (.own ((digs ns).map Da.int))) H1 0 := s0.setOwn ng k1 trivial rfl ⟨g, _, rfl, List.mem_cons_self, hg, hds⟩ (by rw [hg]; exact Option.some_ne_none _)
  intro p np
  have s2 : Sg (W0 K) H [] (p :: [g]) ((L2.start [n0, n1, n2] [.ref a]).set 1 (some (.ref g))) ((startE [n0, n1, n2] [.lst (ns.map Da.int)]).set 1 (.own ((digs ns).map Da.int))) (upd H1 p (.dK [])) 0 := s1.bar np (Kp.new np) trivial (by rw [upd_same]; exact Option.some_ne_none _)
  refine ⟨.ref g, rfl, ?_⟩
  dsimp only
  unfold tPairs
  refine tC_run ?_
  dsimp only
  refine evF_lums (W := W0 K) hl H [] (p :: [g]) _ (upd H1 p (.dK [])) 0 s2 (Nat.le_refl _) _ fun l ys es H2 nl k2 r2 hl2 hes e2 => ?_
  subst e2
  have el := dats_ints hes
  subst el
  have lp : l ≠ p := fun z => by
    rw [z, upd_same] at nl
    cases nl
  have nl1 : H1 l = none := by rw [upd_ne lp] at nl; exact nl
  have gp : g ≠ p := fun z => by rw [z, np] at hg; cases hg
  have gl : g ≠ l := fun z => by rw [z, nl1] at hg; cases hg
  have hp2 : H2 p = some (.dK []) := k2 p _ (fun z => nomatch z) upd_same
  have hg2 : H2 g = some (.lst ((digs ns).map V.int)) := k2 g _ (fun z => nomatch z) (by rw [upd_ne gp]; exact hg)
  refine ⟨hp2, kv1 0 g l 0, rfl, (by show 4 ≤ 15; decide), ?_⟩
  rw [merge1]
  refine q p g l _ (fun b o _ e => ?_) (Kp.back k1 np) ng (Kp.back k1 nl1) ⟨digs ns, lums ns, 0, 0, upd_same, by rw [upd_ne gp]; exact hg2, by rw [upd_ne lp]; exact hl2, by decide, ?_, ?_, ?_, by decide, by decide, gl⟩
  · have e1 := k1 b o (fun z => nomatch z) e
    have bp : b ≠ p := fun z => by rw [z, np] at e1; cases e1
    rw [upd_ne bp]
    exact k2 b o (fun z => nomatch z) (by rw [upd_ne bp]; exact e1)
  · intro d hd
    unfold digs at hd
    obtain ⟨n, _, rfl⟩ := List.mem_map.mp hd
    exact Int.ediv_nonneg (absI_nonneg n) (by decide)
  · intro c hc
    unfold lums at hc
    obtain ⟨n, _, rfl⟩ := List.mem_map.mp hc
    exact Int.emod_nonneg (absI n) (by decide)
  · unfold lums
    rw [List.length_map]
    omega
end
/-! ### contracts of the draws -/
def nextC1 (K : PySem.W.Frag) : Ct K := fun W ds c P => ∃ (p g l : Addr) (n : Int), W = DW1 K p g l ∧ 0 < n ∧ n < 2 ^ 62 ∧ ds = [.obj p, .int n] ∧ c = 1 ∧ ∀ k, 0 ≤ k → k < n → P (.int k)
def pickC1 (K : PySem.W.Frag) : Ct K := fun W ds c P => ∃ (p g l : Addr) (d : Da) (xs : List Da), W = DW1 K p g l ∧ seqD d = some xs ∧ xs ≠ [] ∧ xs.length ≤ 100000 ∧ ds = [.obj p, d] ∧ c = 1 ∧ ∀ x ∈ xs, P x
theorem next_ok1 {K : PySem.W.Frag} {p g l : Addr} : NextOk (DW1 K p g l) p (spD (nextC1 K)) := fun n P h1 h2 h3 => fn_of_ct ⟨p, g, l, n, rfl, h1, h2, rfl, rfl, h3⟩
theorem pick_ok1 {K : PySem.W.Frag} {p g l : Addr} : PickOk (DW1 K p g l) p (spD (pickC1 K)) := fun d xs P h1 h2 h3 h4 => fn_of_ct ⟨p, g, l, d, xs, rfl, h1, h2, h3, rfl, rfl, h4⟩
def shufC1 (K : PySem.W.Frag) : Ct K := fun W ds c P => ∃ (p g l : Addr) (xs : List Da), W = DW1 K p g l ∧ xs.length ≤ 1000 ∧ (∀ ls : List Da, (∀ x ∈ ls, x ∈ xs) → okL ls) ∧ ds = [.obj p, .lst xs] ∧ c = xs.length + 1 ∧ ∀ ys : List Da, ys.Perm xs → P (.lst ys)
theorem es_next1' {K : PySem.W.Frag} {W : Wd K} {ds : List Da} {c : Nat} {P : Da → Prop} (h : nextC1 K W ds c P) : ∃ p n, ds = [.obj p, .int n] ∧ Es W (t_next1 K) [.dat (.obj p), .dat (.int n), .no, .no, .no, .no] c ⟨fun _ => P .non, P, fun _ => False, fun _ => False⟩ := by
  obtain ⟨p, g, l, n, rfl, h1, h2, rfl, rfl, hp⟩ := h
  refine ⟨p, n, rfl, ?_⟩
  have h := es_next1 (K := K) (p := p) (g := g) (l := l) h1 h2
  exact fun H0 B0 B σ H M D s hM a b e f => h H0 B0 B σ H M D s hM (fun _ _ _ _ _ _ z => z.elim) (fun v d H' k r hd ⟨i, e1, e2, e3⟩ => b v d H' k r hd (by rw [e1]; exact hp i e2 e3)) (fun _ _ _ _ _ _ z => z.elim) (fun _ _ _ _ _ _ z => z.elim)
end WJ
set_option Elab.async false
set_option linter.all false
set_option maxRecDepth 100000
set_option maxHeartbeats 4000000
/-! WkM: worlds with tables of code objects; a lambda over data -/
namespace WJ
open PySem L2 LamX
/-- a world, and tables of code objects beside it -/
def WT {K : PySem.W.Frag} (W : Wd K) (T : List (Addr × Str)) : Wd K where
  F := W.F ++ T.map (·.1)
  Dr := fun M H => W.Dr M H ∧ Tabs T H
  pres := fun h1 h2 h3 ⟨d, t⟩ => ⟨W.pres (fun b hb => h1 b (List.mem_append_left _ hb)) h2 h3 d, fun p hp => by
    obtain ⟨ps, e1, e2, e3⟩ := t p hp
    refine ⟨ps, (h1 p.1 (List.mem_append_right _ (List.mem_map.mpr ⟨p, hp, rfl⟩))).trans e1, e2, fun pos cv hc => ?_⟩
    obtain ⟨c, e4, e5⟩ := e3 pos cv hc
    exact ⟨c, e4, h2 c _ e5⟩⟩
  alive := fun ⟨d, t⟩ b hb => by
    rcases List.mem_append.mp hb with z | z
    · exact W.alive d b z
    · obtain ⟨p, hp, rfl⟩ := List.mem_map.mp z
      obtain ⟨ps, e1, _⟩ := t p hp
      rw [e1]
      exact Option.some_ne_none _
  less := fun ⟨d, t⟩ hn => ⟨W.less d hn, t⟩
/-- the places of W hold neither tables nor what is known by a truth alone -/
def Wd.Low {K : PySem.W.Frag} (W : Wd K) : Prop := ∀ {M : Nat} {H : Hp}, W.Dr M H → ∀ b ∈ W.F, ∀ o, H b = some o → (∀ ps, o ≠ .tbl ps) ∧ ∀ φ, o ≠ .ext φ
theorem low1 {K : PySem.W.Frag} {p g l : Addr} : (DW1 K p g l).Low := fun {M H} ⟨gs, ls, n, t, e1, e2, e3, _⟩ b hb o e => by
  have hb2 : b ∈ [p, g, l] := hb
  simp only [List.mem_cons, List.not_mem_nil, or_false] at hb2
  rcases hb2 with rfl | rfl | rfl
  · rw [e1] at e; cases e; exact ⟨fun ps z => HO.noConfusion z, fun φ z => HO.noConfusion z⟩
  · rw [e2] at e; cases e; exact ⟨fun ps z => HO.noConfusion z, fun φ z => HO.noConfusion z⟩
  · rw [e3] at e; cases e; exact ⟨fun ps z => HO.noConfusion z, fun φ z => HO.noConfusion z⟩
theorem lax1 {K : PySem.W.Frag} {p g l : Addr} : (DW1 K p g l).Lax := fun {M H H'} h _ ⟨gs, ls, n, t, e1, e2, e3, r⟩ => ⟨gs, ls, n, t, (h p (by show p ∈ [p, g, l]; simp)).trans e1, (h g (by show g ∈ [p, g, l]; simp)).trans e2, (h l (by show l ∈ [p, g, l]; simp)).trans e3, r⟩
section
variable {K : PySem.W.Frag} {W : Wd K} {T : List (Addr × Str)} {Γ : List En} {c : Nat} {P : Da → Prop}
theorem Tabs.kp {H H' : Hp} {M : Nat} (hW : W.Low) (d : W.Dr M H) (t : Tabs T H) (k : Kp W.F H H') : Tabs T H' := fun p hp => by
  obtain ⟨ps, e1, e2, e3⟩ := t p hp
  refine ⟨ps, k _ _ (fun z => (hW d _ z _ e1).1 ps rfl) e1, e2, fun pos cv hc => ?_⟩
  obtain ⟨c, e4, e5⟩ := e3 pos cv hc
  exact ⟨c, e4, k _ _ (fun z => (hW d _ z _ e5).2 _ rfl) e5⟩
/-- what a def promises in W it promises beside tables, too -/
theorem fn_lift {sp : Sp} {ds : List Da} (hW : W.Low) (h : Fn W sp ds c P) : Fn (WT W T) sp ds c P := fun B H M vs s hM hd Q E q =>
  h B H M vs ⟨s.dr.1, fun b hb => s.fb b (List.mem_append_left _ hb), s.al⟩ hM hd Q E fun v d H' k r hd' p => q v d H' (k.more fun b hb => List.mem_append_left _ hb) ⟨r, Tabs.kp hW s.dr.1 s.dr.2 k⟩ hd' p
theorem next_lift {q : Addr} {sp : Sp} (hW : W.Low) (h : NextOk W q sp) : NextOk (WT W T) q sp := fun n P h1 h2 h3 => fn_lift hW (h n P h1 h2 h3)
theorem pick_lift {q : Addr} {sp : Sp} (hW : W.Low) (h : PickOk W q sp) : PickOk (WT W T) q sp := fun d xs P h1 h2 h3 h4 => fn_lift hW (h d xs P h1 h2 h3 h4)
/-- f(lambda: ..) over data -/
theorem ev_lam {Pt : Addr} {TT : (XK → Hp → VK → Prop) → Hp → VK → Prop} {t : XK → TE} (hL : W.Lax) (hW : W.Low) (hP : Pt ∈ T.map (·.1))
    (h : ∀ (H0 : Hp) (B0 B : List Addr) (σ : L2.St) (H : Hp) (M : Nat), Sg (WT W T) H0 B0 B σ Γ H M → c ≤ M → ∀ Q : VK, (∀ v d H', Kp (WT W T).F H H' → (WT W T).Dr (M - c) H' → Dat K B H' v d → P d → Q v H') → TT (fun E H' Q' => t E σ H' Q') H Q) :
    Ev (WT W T) (tLamP T Pt TT t) Γ c P := fun H0 B0 B σ H M s hM Q q => ⟨s.dr.2, fun H1 k t1 => by
  have kF : Kp (WT W T).F H H1 := k.more fun b hb => by
    rw [List.mem_singleton.mp hb]
    exact List.mem_append_right _ hP
  have notP : ∀ b ∈ W.F, b ∉ [Pt] := fun b hb z => by
    obtain ⟨p, hp, e⟩ := List.mem_map.mp hP
    obtain ⟨ps, e1, _⟩ := s.dr.2 p hp
    rw [List.mem_singleton.mp z, ← e] at hb
    exact (hW s.dr.1 _ hb _ e1).1 ps rfl
  have d1 : (WT W T).Dr M H1 := ⟨hL (fun b hb => by
    cases e : H b with
    | none => exact absurd e (W.alive s.dr.1 b hb)
    | some o => exact k b o (notP b hb) e) (fun b φ e => k b _ (fun z => by
    obtain ⟨p, hp, e2⟩ := List.mem_map.mp hP
    obtain ⟨ps, e1, _⟩ := s.dr.2 p hp
    rw [List.mem_singleton.mp z, ← e2, e1] at e
    cases e) e) s.dr.1, t1⟩
  exact h H0 B0 B σ H1 M (s.keep kF d1) hM Q fun v d H' k' r hd p => q v d H' (kF.trans k') r hd p⟩
end
end WJ
set_option Elab.async false
set_option linter.all false
set_option maxRecDepth 100000
set_option maxHeartbeats 4000000
/-! WkN: the def that got a lambda: try: y = a() / except C as e: z = e -/
namespace WJ
open PySem L2 LamX
/-- a(): what the def reads when it calls the lambda f -/
def tAct (f c' : Addr) (q : Str) (tl : XK → Hp → VK → Prop) (Y : WX) : TE := fun σ H Q => σ[0]? = some (some (.ref f)) ∧ H c' = some (CodeO c' q) ∧ tl (WE Y σ) H Q
/-- s0; try: y = a() / except C as e: z = e; rest (slots j, i, z) -/
def tKeep (K : PySem.W.Frag) (cc : Value) (f c' : Addr) (q : Str) (i j z : Nat) (S0 rest : TS) (tl : XK → Hp → VK → Prop) : TS :=
  tSeq S0 (tSeq (fun D σ H => tAsg (tAct f c' q tl (wKeep K cc i (fun _ _ _ => tAsg (tVar i) (gName z)) (fun _ _ _ _ => False) D)) (gName j) D σ H) rest)
section
variable {K : PySem.W.Frag} {W : Wd K} {B : List Addr} {H : Hp} {M cl cr : Nat} {f c' : Addr} {q : Str} {tl : XK → Hp → VK → Prop} {cc : Value} {i j z : Nat} {S0 rest : TS} {Γ0 Γ1 : List En} {σ0 : L2.St} {p : Da → Prop} {Q : VK}
/-- the lambda hands back data P -/
def LmV (W : Wd K) (B : List Addr) (H : Hp) (tl : XK → Hp → VK → Prop) (cl : Nat) (P : Da → Prop) : Prop :=
  ∀ (B' : List Addr) (H' : Hp) (M' : Nat), Mv B H B' H' → Bk W B' H' M' → cl ≤ M' → ∀ (E : XK) (Q : VK), (∀ v d H2, Kp W.F H' H2 → W.Dr (M' - cl) H2 → Dat K B' H2 v d → P d → Q v H2) → tl E H' Q
/-- the lambda raises cls with the fields fs -/
def LmX (W : Wd K) (B : List Addr) (H : Hp) (tl : XK → Hp → VK → Prop) (cls : Value) (fs : List (Str × Da)) : Prop :=
  ∀ (B' : List Addr) (H' : Hp) (M' : Nat), Mv B H B' H' → Bk W B' H' M' → ∀ (E : XK) (Q : VK), (∀ d H2, Kp W.F H' H2 → W.Dr M' H2 → XD K B' H2 d fs → E cls d H2) → tl E H' Q
theorem keepV {P : Da → Prop} (s0 : Sg W H B B σ0 Γ0 H M) (hc : H c' = some (CodeO c' q)) (ncF : c' ∉ W.F) (hS : Es W S0 Γ0 0 ⟨(· = Γ1), fun _ => False, fun _ => False, fun _ => False⟩) (g0 : Γ1[0]? = some (.dat (.obj f)))
    (hl : LmV W B H tl cl P) (hr : ∀ d, P d → Es W rest (Γ1.set j (.dat d)) cr ⟨fun _ => False, p, fun _ => False, fun _ => False⟩) (hM : cl + cr ≤ M)
    (hQ : ∀ v d H', Kp W.F H H' → W.Dr (M - (cl + cr)) H' → Dat K B H' v d → p d → Q v H') : tKeep K cc f c' q i j z S0 rest tl { nx := fun _ H' => Q .non H', rt := Q } σ0 H := by
  refine hS H B B σ0 H M _ s0 (Nat.zero_le _) (fun B1 σ1 Γ' H1 s1 m1 e => ?_) (fun _ _ _ _ _ _ w => w.elim) (fun _ _ _ _ _ _ w => w.elim) (fun _ _ _ _ _ _ w => w.elim)
  have e2 : Γ' = Γ1 := e
  subst e2
  obtain ⟨o, ho, v0, rfl, hd0⟩ := s1.sl 0 _ g0
  unfold Dat at hd0
  subst hd0
  refine ⟨ho, s1.k0 c' _ ncF hc, ?_⟩
  refine hl B1 H1 _ m1 s1.toBk (by omega) _ _ fun v d H2 k2 r2 hd2 p2 => ?_
  refine hr d p2 H B B1 _ H2 _ _ ((s1.keep k2 r2).setD hd2) (by omega) (fun _ _ _ _ _ _ w => w.elim) (fun v' d' H' k' r' hd' p' => hQ v' d' H' k' (W.less r' (by omega)) hd' p') (fun _ _ _ _ _ _ w => w.elim) (fun _ _ _ _ _ _ w => w.elim)
theorem keepX {cls : Value} {fs : List (Str × Da)} (s0 : Sg W H B B σ0 Γ0 H M) (hc : H c' = some (CodeO c' q)) (ncF : c' ∉ W.F) (hS : Es W S0 Γ0 0 ⟨(· = Γ1), fun _ => False, fun _ => False, fun _ => False⟩) (g0 : Γ1[0]? = some (.dat (.obj f)))
    (hl : LmX W B H tl cls fs) (hiz : i ≠ z) (hi : i < Γ1.length) (hx : PySem.W.exmOne K cls cc = some true) (hr : Es W rest ((Γ1.set z (.dat (.exc cls fs))).set i .no) cr ⟨fun _ => False, p, fun _ => False, fun _ => False⟩) (hM : cr ≤ M)
    (hQ : ∀ v d H', Kp W.F H H' → W.Dr (M - cr) H' → Dat K B H' v d → p d → Q v H') : tKeep K cc f c' q i j z S0 rest tl { nx := fun _ H' => Q .non H', rt := Q } σ0 H := by
  refine hS H B B σ0 H M _ s0 (Nat.zero_le _) (fun B1 σ1 Γ' H1 s1 m1 e => ?_) (fun _ _ _ _ _ _ w => w.elim) (fun _ _ _ _ _ _ w => w.elim) (fun _ _ _ _ _ _ w => w.elim)
  have e2 : Γ' = Γ1 := e
  subst e2
  obtain ⟨o, ho, v0, rfl, hd0⟩ := s1.sl 0 _ g0
  unfold Dat at hd0
  subst hd0
  refine ⟨ho, s1.k0 c' _ ncF hc, ?_⟩
  refine hl B1 H1 _ m1 s1.toBk _ _ fun d H2 k2 r2 xd => ?_
  refine ⟨true, hx, (fun w => Bool.noConfusion w), fun _ ea na => ?_⟩
  have s2 := s1.keep k2 r2
  have hlen : i < σ1.length := by rw [s1.ln]; exact hi
  refine ⟨.ref ea, List.getElem?_set_self hlen, ?_⟩
  show rest _ (((σ1.set i (some (.ref ea))).set z (some (.ref ea))).set i none) (upd H2 ea (EO cls d ea))
  have es : ((σ1.set i (some (.ref ea))).set z (some (.ref ea))).set i none = (σ1.set z (some (.ref ea))).set i none := by
    rw [List.set_comm _ _ hiz, List.set_set]
  rw [es]
  have s3 : Sg W H B B1 σ1 Γ' (upd H2 ea (EO cls d ea)) (M - 0) := s2.keep (Kp.new na) (Wd.new na r2)
  have hdat : Dat K B1 (upd H2 ea (EO cls d ea)) (.ref ea) (.exc cls fs) := by
    unfold Dat
    rcases xd with ⟨rfl, rfl⟩ | ⟨dx, xs, rfl, h2, h3, h4, h5⟩
    · exact ⟨ea, none, [], rfl, ⟨s2.toBk.free na, upd_same⟩, Or.inl ⟨rfl, rfl⟩, by unfold Datf; rfl⟩
    · exact ⟨ea, some dx, xs, rfl, ⟨s2.toBk.free na, upd_same⟩, Or.inr ⟨dx, rfl, h4, h2, Or.inr (by rw [upd_ne (ne_of_none h3 na)]; exact h3)⟩, Datf.mono (Kp.new na) fs xs h5⟩
  exact hr H B B1 _ _ _ _ ((s3.setD hdat).set (i := i) (o := none) (e := .no) rfl trivial) (by omega) (fun _ _ _ _ _ _ w => w.elim) (fun v' d' H' k' r' hd' p' => hQ v' d' H' k' (W.less r' (by omega)) hd' p') (fun _ _ _ _ _ _ w => w.elim) (fun _ _ _ _ _ _ w => w.elim)
/-! ### lambda: f(x, y), x and y names of the maker -/
/-- the lambda's reading -/
def tLm2 (sp : Sp) (i1 i2 : Nat) : XK → TE := fun E => tCallS sp (WE fun cls d _ H => E cls d H) (tCons (tVar i1) (tCons (tVar i2) tNil))
theorem lam2V {H0 : Hp} {B0 : List Addr} {σ : L2.St} {Γ : List En} {sp : Sp} {i1 i2 : Nat} {d1 d2 : Da} {P : Da → Prop} (s : Sg W H0 B0 B σ Γ H M) (g1 : Γ[i1]? = some (.dat d1)) (g2 : Γ[i2]? = some (.dat d2)) (h : Fn W sp [d1, d2] cl P) : LmV W B H (fun E H' Q' => tLm2 sp i1 i2 E σ H' Q') cl P := fun B' H' M' m b hM E Q q => by
  obtain ⟨o1, h1, v1, rfl, e1⟩ := s.sl i1 _ g1
  obtain ⟨o2, h2, v2, rfl, e2⟩ := s.sl i2 _ g2
  exact ⟨v1, h1, v2, h2, h B' H' M' [v1, v2] b hM (.cons (Dat.mv m _ _ e1) (.cons (Dat.mv m _ _ e2) .nil)) Q _ q⟩
theorem lam2X {H0 : Hp} {B0 : List Addr} {σ : L2.St} {Γ : List En} {C : Ct K} {R : Wd K → List Da → Value → List (Str × Da) → Prop} {i1 i2 : Nat} {d1 d2 : Da} {cls : Value} {fs : List (Str × Da)} (s : Sg W H0 B0 B σ Γ H M) (g1 : Γ[i1]? = some (.dat d1)) (g2 : Γ[i2]? = some (.dat d2)) (h : R W [d1, d2] cls fs) : LmX W B H (fun E H' Q' => tLm2 (spY C R) i1 i2 E σ H' Q') cls fs := fun B' H' M' m b E Q q => by
  obtain ⟨o1, h1, v1, rfl, e1⟩ := s.sl i1 _ g1
  obtain ⟨o2, h2, v2, rfl, e2⟩ := s.sl i2 _ g2
  exact ⟨v1, h1, v2, h2, Or.inr ⟨W, B', M', _, cls, fs, h, b, .cons (Dat.mv m _ _ e1) (.cons (Dat.mv m _ _ e2) .nil), q⟩⟩
end
/-- what the def makes of a lambda's reading -/
def TKeep (K : PySem.W.Frag) (cc : Value) (q : Str) (Ng : List Str) (i j z : Nat) (S0 rest : TS) : (XK → Hp → VK → Prop) → Hp → VK → Prop := fun tl H Q => ∀ f c', H c' = some (CodeO c' q) → tKeep K cc f c' q i j z S0 rest tl { nx := fun _ H' => Q .non H', rt := Q } (L2.start Ng [.ref f]) H
section
variable {K : PySem.W.Frag} {W : Wd K} {T : List (Addr × Str)} {Γ : List En} {cl cr : Nat} {q : Str} {cc : Value} {Ng : List Str} {i j z i1 i2 : Nat} {S0 rest : TS} {Pt : Addr} {p : Da → Prop}
theorem not_F {M : Nat} {H : Hp} {c' : Addr} (hW : W.Low) (d : (WT W T).Dr M H) (hc : H c' = some (CodeO c' q)) : c' ∉ (WT W T).F := fun w => by
  rcases List.mem_append.mp w with w | w
  · exact (hW d.1 _ w _ hc).2 _ rfl
  · obtain ⟨t, ht, rfl⟩ := List.mem_map.mp w
    obtain ⟨ps, e1, _⟩ := d.2 t ht
    rw [hc] at e1
    exact codeO_ne ps (Option.some.inj e1)
theorem ev_lamV {sp : Sp} {d1 d2 : Da} {P : Da → Prop} {Γ1 : Addr → List En} (hL : W.Lax) (hW : W.Low) (hP : Pt ∈ T.map (·.1)) (hN : 1 ≤ Ng.length) (g1 : Γ[i1]? = some (.dat d1)) (g2 : Γ[i2]? = some (.dat d2)) (h : Fn (WT W T) sp [d1, d2] cl P)
    (hS : ∀ f, Es (WT W T) S0 (startE Ng [.obj f]) 0 ⟨(· = Γ1 f), fun _ => False, fun _ => False, fun _ => False⟩) (g0 : ∀ f, (Γ1 f)[0]? = some (.dat (.obj f))) (hr : ∀ f d, P d → Es (WT W T) rest ((Γ1 f).set j (.dat d)) cr ⟨fun _ => False, p, fun _ => False, fun _ => False⟩) :
    Ev (WT W T) (tLamP T Pt (TKeep K cc q Ng i j z S0 rest) (tLm2 sp i1 i2)) Γ (cl + cr) p :=
  ev_lam hL hW hP fun H0 B0 B σ H M s hM Q k f c' hc => keepV (Sg.start s.toBk (.one (by unfold Dat; rfl)) hN) hc (not_F hW s.dr hc) (hS f) (g0 f) (lam2V s g1 g2 h) (hr f) hM k
theorem ev_lamX {C : Ct K} {R : Wd K → List Da → Value → List (Str × Da) → Prop} {d1 d2 : Da} {cls : Value} {fs : List (Str × Da)} {Γ1 : Addr → List En} (hL : W.Lax) (hW : W.Low) (hP : Pt ∈ T.map (·.1)) (hN : 1 ≤ Ng.length) (g1 : Γ[i1]? = some (.dat d1)) (g2 : Γ[i2]? = some (.dat d2)) (h : R (WT W T) [d1, d2] cls fs)
    (hS : ∀ f, Es (WT W T) S0 (startE Ng [.obj f]) 0 ⟨(· = Γ1 f), fun _ => False, fun _ => False, fun _ => False⟩) (g0 : ∀ f, (Γ1 f)[0]? = some (.dat (.obj f))) (hiz : i ≠ z) (hi : ∀ f, i < (Γ1 f).length) (hx : PySem.W.exmOne K cls cc = some true)
    (hr : ∀ f, Es (WT W T) rest (((Γ1 f).set z (.dat (.exc cls fs))).set i .no) cr ⟨fun _ => False, p, fun _ => False, fun _ => False⟩) :
    Ev (WT W T) (tLamP T Pt (TKeep K cc q Ng i j z S0 rest) (tLm2 (spY C R) i1 i2)) Γ cr p :=
  ev_lam hL hW hP fun H0 B0 B σ H M s hM Q k f c' hc => keepX (Sg.start s.toBk (.one (by unfold Dat; rfl)) hN) hc (not_F hW s.dr hc) (hS f) (g0 f) (lam2X s g1 g2 h) hiz (hi f) hx (hr f) hM k
end
end WJ
set_option Elab.async false
set_option linter.all false
set_option maxRecDepth 100000
set_option maxHeartbeats 4000000
/-! WkT: defs that make lambdas and say repr: their code object is told, nothing is being shown -/
namespace WJ
open PySem PySem.Spec PyProof.Rows L2
section
variable {P : Program} {w : World} {K : PySem.W.Frag} {mg : Str → Option Value} {base : Heap} {x qual : Str} {params : Arguments} {body : List Stmt} {scope : Scope} {dvs : List V} {kws : List (Str × V)} {f : Addr} {fd : FuncData}
theorem okGC {CX : CXT} {N ps : List Str} {k : Nat} {sp : Sp} (F : FunD K x qual params body scope dvs kws f fd) (S : FnScope N ps scope) (len : ∀ vs H Q E, sp vs H Q E → vs.length = ps.length)
    (hbody : ∀ (A : Around) (outer : List Env) (s : Shared) (H : Hp) (vs : List V) (Q : VK) (E : XK), Room k (A.deeper (envOfC qual scope s.heap.objs.size f fd.code)) → (A.deeper (envOfC qual scope s.heap.objs.size f fd.code)).guards = some [] → sp vs H Q E →
      ∃ t, PSs (cxOf CX P w K mg base N qual scope f fd.code A outer s H E) body t ∧ t { nx := fun _ H' => Q .non H', rt := Q } (start N vs) H) : FnG P w K mg base CX (k + 1) f fd ps sp := by
  obtain ⟨oc, od, dV, kV, doc, pm, an, cdv, ct, osl, rfl, hlook, hcode, _, _⟩ := F.ex
  refine ⟨len, fun A outer s H args us vs Q E room gd env0 hbind rel hs => ?_⟩
  have hlen := len _ _ _ _ hs
  have up : ∀ b o, base.get? b = some o → s.heap.get? b = some o := fun b o z => (env0.bs b o z).1
  have KIn : K.In s.heap := env0.mod.kin.keeps up
  have noLim : s.heap.NoLimit := env0.mod.nolimit.keeps up
  refine codeAny_call_function room.depth (KIn _ _ hlook) rfl S.co S.gen rfl (PySem.W.codeRec_of KIn hcode) (hbind _ _ _ _ ?_)
  refine wpAny_newFunctionEnv_cells S.kind (fun y hy => ?_) fun env henv s1 inC => ?_
  · obtain ⟨n, u⟩ := y
    rcases S.par n (List.of_mem_zip hy).1 with z | z
    · exact Or.inl z
    · exact Or.inr ⟨z, PySem.W.cellsFrom_some _ _ _ (Or.inl z)⟩
  subst henv
  refine ⟨noLim.keeps inC.toInCall.keep, codeAny_func ?_⟩
  obtain ⟨t, der, reading⟩ := hbody A outer s H vs Q E (room.deeper _) gd hs
  have inv : Inv (cxOf CX P w K mg base N qual scope f cdv A outer s H E) [] (start N vs) H s1 := inv_start S room.hd env0 hlen rel inC
  refine wpAny_mono (der.run [] s1 (start N vs) H _ inv reading) (fun flow s' ended => ?_) fun _ _ z => z
  cases flow with
  | ret u =>
    obtain ⟨v, σ', H', J, rv, q⟩ := ended
    exact ⟨v, H', J.os, J.bare, J.base, J.hok, rv, q⟩
  | next =>
    obtain ⟨σ', H', J, q⟩ := ended
    exact ⟨V.non, H', J.os, J.bare, J.base, J.hok, rfl, q⟩
  | brk =>
    obtain ⟨_, _, _, z⟩ := ended
    exact z.elim
  | cont =>
    obtain ⟨_, _, _, z⟩ := ended
    exact z.elim
end
/-- as fn_data -/
theorem fn_dataG {Pr : Program} {w : World} {K : PySem.W.Frag} {mg : Str → Option Value} {base : Heap} {x qual : Str} {params : Arguments} {body : List Stmt} {scope : Scope} {dvs : List V} {kws : List (Str × V)} {f : Addr} {fd : FuncData} {N ps : List Str} {k : Nat} {C : Ct K}
    (F : FunD K x qual params body scope dvs kws f fd) (S : FnScope N ps scope) (len : ∀ W ds c P, C W ds c P → ds.length = ps.length) (hps : ps.length ≤ N.length)
    (hbody : ∀ (A : Around) (outer : List Env) (s : Shared) (H : Hp) (E : XK), Room k (A.deeper (envOfC qual scope s.heap.objs.size f fd.code)) → (A.deeper (envOfC qual scope s.heap.objs.size f fd.code)).guards = some [] →
      ∃ t, PSs (cxOf CX0 Pr w K mg base N qual scope f fd.code A outer s H E) body t ∧ ∀ W ds c P, C W ds c P → Es W t (startE N ds) c ⟨fun _ => P .non, P, fun _ => False, fun _ => False⟩) : FnG Pr w K mg base CX0 (k + 1) f fd ps (spD C) := by
  refine okGC F S (fun vs H Q E h => ?_) (fun A outer s H vs Q E hr gd h => ?_)
  · obtain ⟨W, B, M, ds, c, P, hC, _, _, hd, _⟩ := h
    rw [hd.length]
    exact len W ds c P hC
  · obtain ⟨W, B, M, ds, c, P, hC, hb, hM, hd, q⟩ := h
    obtain ⟨t, ht, hE⟩ := hbody A outer s H E hr gd
    refine ⟨t, ht, ?_⟩
    have s0 : Sg W H B B (L2.start N vs) (startE N ds) H M := Sg.start hb hd (by rw [len W ds c P hC]; exact hps)
    exact hE W ds c P hC H B B _ H M _ s0 hM (fun B' σ' Γ' H' s' m' n' => q .non .non H' s'.k0 s'.dr (by unfold Dat; rfl) n') (fun v d H' k' r' hd' p' => q v d H' k' r' hd' p') (fun _ _ _ _ _ _ z => z.elim) (fun _ _ _ _ _ _ z => z.elim)
/-- a def's code object -/
theorem code_of {K : PySem.W.Frag} {x qual : Str} {params : Arguments} {body : List Stmt} {scope : Scope} {dvs : List V} {kws : List (Str × V)} {fd : FuncData} {p : He.Defn} (F : FunD K x qual params body scope dvs kws (He.fAd K p) fd) : fd.code = .ref (He.codeOf K p) := by
  obtain ⟨oc, od, dV, kV, doc, pm, an, cdv, ct, osl, rfl, hlook, hcode, _, _⟩ := F.ex
  obtain ⟨c, rfl⟩ := He.codeIn_ref hcode
  have e := He.codeOf_eq (p := p) hlook rfl
  rw [e]
theorem script_datT {K : PySem.W.Frag} {B : List Addr} {H : Hp} {a : Addr} {ns : List Int} (h : SqL K H a (ns.map V.int)) (hB : ∀ b ∈ B, ∀ xs, ¬ Rd H b (.lst xs)) : Dat K B H (.ref a) (.lst (ns.map Da.int)) := by
  unfold Dat
  refine ⟨a, _, rfl, ?_, ints_dats ns⟩
  rcases h with h | h
  · exact Or.inl ⟨fun z => hB a z _ h, h⟩
  · exact Or.inr (Or.inr h)
end WJ
set_option Elab.async false
set_option linter.all false
set_option maxRecDepth 100000
set_option maxHeartbeats 4000000
/-! WkQ: startswith, endswith, upper, replace of literals, over data -/
namespace WJ
open PySem L2 CwR
def r_startswith : V → List V → Hp → VK → Prop := fun x xs H Q => ∃ a b, x = .str a ∧ xs = [.str b] ∧ Q (.bl (Txt.startswith a b)) H
def r_endswith : V → List V → Hp → VK → Prop := fun x xs H Q => ∃ a b, x = .str a ∧ xs = [.str b] ∧ Q (.bl (Txt.endswith a b)) H
def r_upper : V → List V → Hp → VK → Prop := fun x xs H Q => ∃ a, x = .str a ∧ xs = [] ∧ a.length ≤ 5592405 ∧ Q (.str (Txt.upper a)) H
/-- a list or a tuple is walked -/
def iSeq (K : PySem.W.Frag) (tl : TE) : TI := fun σ H R => iList K tl σ H R ∨ iTup K tl σ H R
theorem p_seq (K : PySem.W.Frag) {X : Cx} {tg l : Expr} {tl : TE} (hl : PE X l tl) (hK : X.K = K := by rfl) : PI X tg l (iSeq K tl) :=
  ⟨fun pins s σ H R I h => h.elim (fun h => (p_list K hl hK).run pins s σ H R I h) (fun h => (p_tup K hl hK).run pins s σ H R I h)⟩
section
variable {K : PySem.W.Frag} {W : Wd K} {Γ : List En} {c c1 c2 : Nat} {ta tb : TE} {x y : Str}
theorem ei_seq {P : List Da → Prop} {tl : TE} {ds : List Da} (h : Ev W tl Γ c (fun d => d = .lst ds) ∨ Ev W tl Γ c (fun d => d = .tup ds)) (p : P ds) : Ei W (iSeq K tl) Γ c P := fun H0 B0 B σ H M s hM R q => by
  rcases h with h | h
  · exact Or.inl (ei_list (P := P) (h.imp fun d e => ⟨ds, e, p⟩) H0 B0 B σ H M s hM R q)
  · exact Or.inr (ei_tup (P := P) (h.imp fun d e => ⟨ds, e, p⟩) H0 B0 B σ H M s hM R q)
theorem ev_starts (hx : Ev W ta Γ c1 (· = .str x)) (hy : Ev W tb Γ c2 (· = .str y)) : Ev W (tM1 r_startswith ta tb) Γ (c1 + c2) (· = .bl (Txt.startswith x y)) := fun H0 B0 B σ H M s hM Q q =>
  hx H0 B0 B σ H M s (by omega) _ fun v d H1 k1 r1 hd e => by
    subst e
    refine ⟨⟨x, dStr.mp hd⟩, ?_⟩
    refine hy H0 B0 B σ H1 _ (s.keep k1 r1) (by omega) _ fun v2 d2 H2 k2 r2 hd2 e2 => ?_
    subst e2
    exact ⟨x, y, dStr.mp hd, by rw [dStr.mp hd2], q _ _ H2 (k1.trans k2) (W.less r2 (by omega)) (dBl.mpr rfl) rfl⟩
theorem ev_ends (hx : Ev W ta Γ c1 (· = .str x)) (hy : Ev W tb Γ c2 (· = .str y)) : Ev W (tM1 r_endswith ta tb) Γ (c1 + c2) (· = .bl (Txt.endswith x y)) := fun H0 B0 B σ H M s hM Q q =>
  hx H0 B0 B σ H M s (by omega) _ fun v d H1 k1 r1 hd e => by
    subst e
    refine ⟨⟨x, dStr.mp hd⟩, ?_⟩
    refine hy H0 B0 B σ H1 _ (s.keep k1 r1) (by omega) _ fun v2 d2 H2 k2 r2 hd2 e2 => ?_
    subst e2
    exact ⟨x, y, dStr.mp hd, by rw [dStr.mp hd2], q _ _ H2 (k1.trans k2) (W.less r2 (by omega)) (dBl.mpr rfl) rfl⟩
theorem ev_upper (hx : Ev W ta Γ c (· = .str x)) (hl : x.length ≤ 100000) : Ev W (tM0 r_upper ta) Γ c (· = .str (Txt.upper x)) := fun H0 B0 B σ H M s hM Q q =>
  hx H0 B0 B σ H M s hM _ fun v d H1 k1 r1 hd e => by
    subst e
    exact ⟨⟨x, dStr.mp hd⟩, x, dStr.mp hd, rfl, by omega, q _ _ H1 k1 r1 (dStr.mpr rfl) rfl⟩
theorem ev_replC {y z : Str} (hx : Ev W ta Γ c (· = .str x)) (hl : x.length + (x.length + 1) * z.length ≤ 16777216) : Ev W (tReplC ta y z) Γ c (· = .str (Txt.replace x y z)) := fun H0 B0 B σ H M s hM Q q =>
  hx H0 B0 B σ H M s hM _ fun v d H1 k1 r1 hd e => by
    subst e
    exact ⟨x, dStr.mp hd, hl, q _ _ H1 k1 r1 (dStr.mpr rfl) rfl⟩
end
end WJ
set_option Elab.async false
set_option linter.all false
set_option maxRecDepth 100000
set_option maxHeartbeats 4000000
/-! WkS: what repr writes is short; lists of data against []; xs[i] = v with a drawn i; a written dict of one pair; lists whose items all are P -/
namespace WJ
open PySem L2 TL
theorem okS_iff {x : Str} : okS x = true ↔ ∀ c ∈ tl x, c < 0x110000 := by
  unfold okS
  rw [← Array.all_toList, List.all_eq_true]
  exact ⟨fun h c hc => of_decide_eq_true (h c hc), fun h c hc => decide_eq_true (h c hc)⟩
theorem okS_app {x y : Str} (h1 : okS x = true) (h2 : okS y = true) : okS (x ++ y) = true := by
  rw [okS_iff, tl_append]
  intro c hc
  rcases List.mem_append.mp hc with z | z
  · exact okS_iff.mp h1 c z
  · exact okS_iff.mp h2 c z
theorem okS_cut {x : Str} (lo hi : Option Int) (h : okS x = true) : okS (cutS x lo hi) = true := by
  rw [okS_iff]
  intro c hc
  exact okS_iff.mp h c (List.mem_of_mem_drop (List.mem_of_mem_take hc))
theorem cut_le (x : Str) (lo hi : Option Int) : (cutS x lo hi).length ≤ x.length := by
  rw [len_tl, len_tl]
  show ((x.cps.toList.drop _).take _).length ≤ (tl x).length
  rw [List.length_take, List.length_drop]
  show min _ ((tl x).length - _) ≤ _
  omega
theorem shAll (ds : List Da) : PyData.shownAll (pyDs ds) = ds.map fun d => (pyD d).shown := by
  induction ds with
  | nil => unfold pyDs; rfl
  | cons d ds ih =>
    unfold pyDs PyData.shownAll
    rw [ih]
    rfl
theorem sumB {ds : List Da} {b : Nat} (h : ∀ d ∈ ds, (pyD d).shown.length ≤ b) : ((ds.map fun d => (pyD d).shown).map (·.length)).sum ≤ ds.length * b := by
  induction ds with
  | nil => exact Nat.zero_le _
  | cons d ds ih =>
    have h1 := h d List.mem_cons_self
    have h2 := ih fun x hx => h x (List.mem_cons_of_mem _ hx)
    rw [List.map_cons, List.map_cons, List.sum_cons, List.length_cons, Nat.add_mul, Nat.one_mul]
    omega
theorem shL {ds : List Da} {b : Nat} (h : ∀ d ∈ ds, (pyD d).shown.length ≤ b) : (pyD (.lst ds)).shown.length ≤ ds.length * b + 2 * ds.length + 3 := by
  unfold pyD PyData.shown
  rw [shAll]
  have h1 := listText_len_le (ds.map fun d => (pyD d).shown)
  have h2 := sumB h
  rw [List.length_map] at h1
  omega
theorem shT {ds : List Da} {b : Nat} (h : ∀ d ∈ ds, (pyD d).shown.length ≤ b) : (pyD (.tup ds)).shown.length ≤ ds.length * b + 2 * ds.length + 3 := by
  unfold pyD PyData.shown
  rw [shAll]
  have h1 := tupleText_len_le (ds.map fun d => (pyD d).shown)
  have h2 := sumB h
  rw [List.length_map] at h1
  omega
theorem dpA {ds : List Da} {b : Nat} (h : ∀ d ∈ ds, (pyD d).depth ≤ b) : PyData.depthAll (pyDs ds) ≤ b := by
  induction ds with
  | nil => unfold pyDs PyData.depthAll; omega
  | cons d ds ih =>
    unfold pyDs PyData.depthAll
    have h1 := h d List.mem_cons_self
    have h2 := ih fun x hx => h x (List.mem_cons_of_mem _ hx)
    omega
theorem dpL {ds : List Da} {b : Nat} (h : ∀ d ∈ ds, (pyD d).depth ≤ b) : (pyD (.lst ds)).depth ≤ b + 1 := by
  unfold pyD PyData.depth
  have := dpA h
  omega
theorem dpT {ds : List Da} {b : Nat} (h : ∀ d ∈ ds, (pyD d).depth ≤ b) : (pyD (.tup ds)).depth ≤ b + 1 := by
  unfold pyD PyData.depth
  have := dpA h
  omega
theorem shwA {ds : List Da} (h : ∀ d ∈ ds, shwD d = true) : shwDs ds = true := by
  induction ds with
  | nil => rfl
  | cons d ds ih =>
    unfold shwDs
    rw [h d List.mem_cons_self, ih fun x hx => h x (List.mem_cons_of_mem _ hx)]
    rfl
/-- data that repr can write, in few signs -/
structure Sm (b dp : Nat) (d : Da) : Prop where
  s : shwD d = true
  t : (pyD d).depth ≤ dp
  l : (pyD d).shown.length ≤ b
theorem Sm.str {x : Str} {n : Nat} (h : x.length ≤ n) (ho : okS x = true) : Sm (10 * n + 2) 1 (.str x) := by
  refine ⟨rfl, ?_, ?_⟩
  · unfold pyD PyData.depth
    omega
  · unfold pyD PyData.shown
    have := StrLaws.reprText_len x (fun c hc => Nat.lt_of_lt_of_le (okS_iff.mp ho c hc) (by decide))
    omega
theorem Sm.lst {ds : List Da} {b dp n : Nat} (h : ∀ d ∈ ds, Sm b dp d) (hn : ds.length ≤ n) : Sm (n * b + 2 * n + 3) (dp + 1) (.lst ds) := by
  refine ⟨by unfold shwD; exact shwA fun d hd => (h d hd).s, dpL fun d hd => (h d hd).t, Nat.le_trans (shL fun d hd => (h d hd).l) ?_⟩
  have := Nat.mul_le_mul_right b hn
  omega
theorem Sm.tup {ds : List Da} {b dp n : Nat} (h : ∀ d ∈ ds, Sm b dp d) (hn : ds.length ≤ n) : Sm (n * b + 2 * n + 3) (dp + 1) (.tup ds) := by
  refine ⟨by unfold shwD; exact shwA fun d hd => (h d hd).s, dpT fun d hd => (h d hd).t, Nat.le_trans (shT fun d hd => (h d hd).l) ?_⟩
  have := Nat.mul_le_mul_right b hn
  omega
theorem Sm.mono {d : Da} {b dp b' dp' : Nat} (h : Sm b dp d) (h1 : b ≤ b') (h2 : dp ≤ dp') : Sm b' dp' d := ⟨h.s, Nat.le_trans h.t h2, Nat.le_trans h.l h1⟩
/-- data that == reads, flat enough -/
structure Cmp (d : Da) : Prop where
  p : d.plain = true
  c : d.py.canLay0 = true
  d : d.py.depth ≤ 10
theorem Cmp.str {x : Str} (ho : okS x = true) : Cmp (.str x) := by
  refine ⟨by unfold Da.plain; rfl, ?_, by unfold Da.py PyData.depth; decide⟩
  unfold Da.py PyData.canLay0
  exact ho
theorem cmp_plains {ds : List Da} (h : ∀ d ∈ ds, Cmp d) : plains ds = true := by
  induction ds with
  | nil => unfold plains; rfl
  | cons d ds ih =>
    unfold plains
    rw [(h d List.mem_cons_self).p, ih fun x hx => h x (List.mem_cons_of_mem _ hx)]
    rfl
theorem cmp_lays {ds : List Da} (h : ∀ d ∈ ds, Cmp d) : PyData.canLayAll0 (pys ds) = true := by
  induction ds with
  | nil => unfold pys PyData.canLayAll0; rfl
  | cons d ds ih =>
    unfold pys PyData.canLayAll0
    rw [(h d List.mem_cons_self).c, ih fun x hx => h x (List.mem_cons_of_mem _ hx)]
    rfl
theorem cmp_deps {ds : List Da} (h : ∀ d ∈ ds, Cmp d) : PyData.depthAll (pys ds) ≤ 10 := by
  induction ds with
  | nil => unfold pys PyData.depthAll; decide
  | cons d ds ih =>
    unfold pys PyData.depthAll
    have h1 := (h d List.mem_cons_self).d
    have h2 := ih fun x hx => h x (List.mem_cons_of_mem _ hx)
    omega
theorem okL_all {ds : List Da} (h : ∀ d ∈ ds, Cmp d) : okL ds := by
  refine ⟨by unfold Da.plain; exact cmp_plains h, ?_⟩
  unfold Da.py
  refine shaped_of (by unfold PyData.canLay0; exact cmp_lays h) ?_
  unfold PyData.depth
  have := cmp_deps h
  omega
section
variable {K : PySem.W.Frag} {W : Wd K} {Γ : List En} {c c1 c2 : Nat} {te ti ta : TE} {P : Da → Prop} {p : Po}
/-- xs[i] = v, xs the body's own, i drawn -/
theorem es_setLX {i : Nat} {ds : List Da} (hi : Γ[i]? = some (.own ds)) (h : Ev W te Γ c1 P) (hj : Ev W ti Γ c2 (fun d => ∃ k : Nat, d = .int (k : Nat) ∧ k < ds.length)) (hp : ∀ d k, P d → p.nx (Γ.set i (.own (ds.set k d)))) : Es W (tAsg te (gSub (tVar i) ti rSetL)) Γ (c1 + c2) p := fun H0 B0 B σ H M D s hM a b e f => by
  obtain ⟨o, ho, l, xs, rfl, hB, hx, hd⟩ := s.sl i _ hi
  have hO : Ow σ Γ i l := ⟨⟨_, hi, rfl⟩, ho⟩
  refine h H0 B0 B σ H M s (by omega) _ fun v d H1 k1 r1 hv q => ?_
  have s1 := s.keep k1 r1
  refine ⟨.ref l, ho, ?_⟩
  refine hj H0 B0 B σ H1 _ s1 (by omega) _ fun jv jd H2 k2 r2 hjd ⟨k, ej, hk⟩ => ?_
  subst ej
  rw [dInt.mp hjd]
  have s2 := s1.keep k2 r2
  have k12 := k1.trans k2
  have hx2 : H2 l = some (.lst xs) := k12 l _ (s.outF hO) hx
  have hlen := hd.length
  refine ⟨l, xs, k, k, rfl, rfl, hx2, ?_, ?_⟩
  · unfold ixN
    rw [if_pos (by omega), if_pos (by omega)]
    rfl
  · exact a B σ _ _ ((s2.less (by omega)).change hi rfl ho (e' := .own (ds.set k d)) rfl ⟨l, _, rfl, hB, upd_same, Dats.mono (Kp.mut hB) _ _ (Dats.set (Dat.mono (s1.toBk.kp k2) _ _ hv) k (Dats.mono (s.toBk.kp k12) ds xs hd))⟩) (Mv.of ((s.toBk.kp k12).trans (Kp.mut hB))) (hp d k q)
/-- a written dict of one pair -/
theorem evG_disp1 {x : Str} {i : Int} : EvG W (tDisp [((tC (.str x)), (tC (.int i)))]) Γ 0 (· = [(Sum.inr x, .int i)]) := fun H0 B0 B σ H M s _ Q q => fun a na => by
  refine ⟨upd_same, [(Sum.inr x, .int i)], rfl, (by show 1 ≤ 15; decide), ?_⟩
  rw [upd_upd]
  exact q a _ _ _ na (Kp.new na) (Wd.new na s.dr) upd_same (by unfold Datk; exact ⟨.int i, [], rfl, dInt.mpr rfl, by unfold Datk; rfl⟩) rfl
/-- items that all are P -/
theorem ea_allN : EvA W tNil Γ 0 (fun ds => ds.length = 0 ∧ ∀ d ∈ ds, P d) := fun H0 B0 B σ H M s hM Q q => ea_nil (W := W) H0 B0 B σ H M s hM Q fun vs ds H' k r hd e => q vs ds H' k r hd (by
  have e2 : ds = [] := e
  rw [e2]
  exact ⟨rfl, fun d hd => nomatch hd⟩)
theorem ea_allC {tr : TA} {n : Nat} (h : Ev W ta Γ c1 P) (hr : EvA W tr Γ c2 (fun ds => ds.length = n ∧ ∀ d ∈ ds, P d)) : EvA W (tCons ta tr) Γ (c1 + c2) (fun ds => ds.length = n + 1 ∧ ∀ d ∈ ds, P d) :=
  ea_cons h hr fun d ds p1 ⟨p2, p3⟩ => ⟨by rw [List.length_cons, p2], fun e he => by
    rcases List.mem_cons.mp he with z | z
    · rw [z]
      exact p1
    · exact p3 e z⟩
end
end WJ
set_option Elab.async false
set_option linter.all false
set_option maxRecDepth 100000
set_option maxHeartbeats 4000000
/-! WkU: comprehensions of two fors, xs[::k], x in a list of data, keywords, lambdas of other calls, worlds of draws 2 with tables -/
namespace WJ
open PySem PySem.Spec PyProof.Rows L2 LamX
section
variable {K : PySem.W.Frag} {W : Wd K} {Γ : List En} {c c1 c2 : Nat} {te ta tb ti : TE} {P : Da → Prop} {p : Po}
/-- [f(d, e) for d in ds for e in es d] -/
theorem evF_lc2 {wi wi1 : TI} {i j n m : Nat} {ds : List Da} {es : Da → List Da} {f : Da → Da → Da} (hi : Ei W wi Γ 0 (· = ds)) (hij : i ≠ j) (hi1 : ∀ d ∈ ds, Ei W wi1 ((wipeE Γ [i, j]).set i (.dat d)) 0 (· = es d))
    (he : ∀ d ∈ ds, ∀ e ∈ es d, Ev W te ((wipeE ((wipeE Γ [i, j]).set i (.dat d)) [j]).set j (.dat e)) 0 (· = f d e)) (hm : ∀ d ∈ ds, (es d).length ≤ m) (hz : ds.length * m ≤ 90000) :
    EvF W (tLc2 wi (gName i) tYes wi1 (gName j) tYes te [i, j] [j]) Γ 0 (· = ds.flatMap fun d => (es d).map (f d)) := fun H0 B0 B σ H M s hM Q q =>
  hi H0 B0 B σ H M s (Nat.zero_le _) _ fun J ds' H1 k1 r1 hJ pi => by
    have pi2 : ds' = ds := pi
    subst pi2
    intro D nD
    have s1 := s.keep k1 r1
    have nDH : H D = none := k1.backB (fun z => s1.al D (s.fb D z) nD) nD
    have D0 : H0 D = none := s.k0.backB (fun z => s.al D (s.fb D z) nDH) nDH
    have DF : D ∉ W.F := fun z => s1.al D (s.fb D z) nD
    have noOw : ∀ j', ¬ Ow (L2.wipe σ [i, j]) (wipeE Γ [i, j]) j' D := fun j' z => s1.fresh nD j' (ow_wipe z)
    have alln : ∀ a, a ≤ ds'.length → ((ds'.take a).flatMap fun d => (es d).map (f d)).length ≤ a * m := fun a => by
      induction a with
      | zero => intro _; simp
      | succ a ih =>
        intro ha
        have hlt : a < ds'.length := ha
        rw [List.take_succ, List.getElem?_eq_getElem hlt, List.flatMap_append, List.length_append]
        have h1 := ih (Nat.le_of_lt hlt)
        have h2 := hm ds'[a] (List.getElem_mem hlt)
        have h3 : ((some ds'[a]).toList.flatMap fun d => (es d).map (f d)).length = (es ds'[a]).length := by simp
        rw [h3, Nat.add_mul, Nat.one_mul]
        omega
    refine ⟨fun a b H2 => b = ds'.length - a ∧ a ≤ ds'.length ∧ ∃ xs, Sg W H0 B0 (D :: B) (L2.wipe σ [i, j]) (wipeE Γ [i, j]) H2 M ∧ Mv B H1 (D :: B) H2 ∧ Kp W.F H1 H2 ∧ H2 D = some (.lst xs) ∧ Dats K (D :: B) H2 xs ((ds'.take a).flatMap fun d => (es d).map (f d)), ⟨_, rfl, Nat.zero_le _, [], (s1.wipe [i, j]).bar nD (Kp.new nD) (Wd.new nD r1) (by rw [upd_same]; exact Option.some_ne_none _), ⟨put_bar nD, Kp.new nD⟩, Kp.new nD, upd_same, Dats.nil⟩, ?_⟩
    rintro a b H2 ⟨rfl, ha2, xs, s2, m2, k2, hD, hacc⟩
    have hsrc := hJ (D :: B) H2 m2 s2.al
    by_cases hlt : a < ds'.length
    · refine Or.inr ⟨(hsrc.1 a hlt).1, fun H3 => ∃ xs, Sg W H0 B0 (D :: B) (L2.wipe σ [i, j]) (wipeE Γ [i, j]) H3 M ∧ Mv B H1 (D :: B) H3 ∧ Kp W.F H1 H3 ∧ H3 D = some (.lst xs) ∧ Dats K (D :: B) H3 xs ((ds'.take (a + 1)).flatMap fun d => (es d).map (f d)), fun H3 h3 => ⟨ds'.length - (a + 1), by omega, rfl, hlt, h3⟩, fun x H3 hy => ?_⟩
      obtain ⟨k3, n3, d, ed, hd3⟩ := (hsrc.1 a hlt).2 x H3 hy
      have hdm : d ∈ ds' := List.mem_of_getElem? ed
      have r3 : W.Dr M H3 := W.pres (fun b hb => by
        cases e : H2 b with
        | none => exact absurd e (W.alive s2.dr b hb)
        | some o => rw [k3 b o (fun z => nomatch z) e]) (fun b φ e => k3 b _ (fun z => nomatch z) e) n3 s2.dr
      have s3 := s2.keep (k3.all) r3
      have m3 : Mv B H1 (D :: B) H3 := m2.trans (Mv.of (Kp.all k3))
      have hD3 : H3 D = some (.lst xs) := k3 D _ (fun z => nomatch z) hD
      have hacc3 := Dats.mono (Kp.all k3) _ _ hacc
      have s4 : Sg W H0 B0 (D :: B) ((L2.wipe σ [i, j]).set i (some x)) ((wipeE Γ [i, j]).set i (.dat d)) H3 M := s3.setD hd3
      show L2.wipe ((L2.wipe σ [i, j]).set i (some x)) [i, j] = L2.wipe σ [i, j] ∧ wi1 ((L2.wipe σ [i, j]).set i (some x)) H3 _
      refine ⟨by rw [wipe_set _ _ (by simp), wipe_wipe], ?_⟩
      refine hi1 d hdm H0 B0 (D :: B) _ H3 _ s4 (Nat.zero_le _) _ fun J1 es' H4 k4 r4 hJ1 pe => ?_
      have pe2 : es' = es d := pe
      subst pe2
      have s5 := s4.keep k4 r4
      have hD4 : H4 D = some (.lst xs) := k4 D _ DF hD3
      have kB4 : Kp (D :: B) H3 H4 := s3.toBk.kp k4
      have k14 : Kp W.F H1 H4 := (k2.trans k3.all).trans k4
      have hlen := alln a (Nat.le_of_lt hlt)
      have hlm := hm d hdm
      have hmul := Nat.mul_le_mul_right m (show a + 1 ≤ ds'.length from hlt)
      rw [Nat.add_mul, Nat.one_mul] at hmul
      refine ⟨fun u v H5 => v = (es d).length - u ∧ u ≤ (es d).length ∧ ∃ ys, Sg W H0 B0 (D :: B) ((L2.wipe σ [i, j]).set i (some x)) ((wipeE Γ [i, j]).set i (.dat d)) H5 M ∧ Mv (D :: B) H4 (D :: B) H5 ∧ Kp W.F H1 H5 ∧ H5 D = some (.lst ys) ∧ Dats K (D :: B) H5 ys (((ds'.take a).flatMap fun d => (es d).map (f d)) ++ ((es d).take u).map (f d)), ⟨_, rfl, Nat.zero_le _, xs, s5, Mv.refl, k14, hD4, by rw [List.take_zero, List.map_nil, List.append_nil]; exact Dats.mono kB4 _ _ hacc3⟩, ?_⟩
      rintro u v H5 ⟨rfl, hu2, ys, s6, m6, k6, hD5, hacc5⟩
      have hsrc1 := hJ1 (D :: B) H5 m6 s6.al
      by_cases hul : u < (es d).length
      · refine Or.inr ⟨(hsrc1.1 u hul).1, fun H6 => ∃ ys, Sg W H0 B0 (D :: B) ((L2.wipe σ [i, j]).set i (some x)) ((wipeE Γ [i, j]).set i (.dat d)) H6 M ∧ Mv (D :: B) H4 (D :: B) H6 ∧ Kp W.F H1 H6 ∧ H6 D = some (.lst ys) ∧ Dats K (D :: B) H6 ys (((ds'.take a).flatMap fun d => (es d).map (f d)) ++ ((es d).take (u + 1)).map (f d)), fun H6 h6 => ⟨(es d).length - (u + 1), by omega, rfl, hul, h6⟩, fun y H6 hyy => ?_⟩
        obtain ⟨k7, n7, e, ee, hd7⟩ := (hsrc1.1 u hul).2 y H6 hyy
        have hem : e ∈ es d := List.mem_of_getElem? ee
        have r7 : W.Dr M H6 := W.pres (fun b hb => by
          cases e : H5 b with
          | none => exact absurd e (W.alive s6.dr b hb)
          | some o => rw [k7 b o (fun z => nomatch z) e]) (fun b φ e => k7 b _ (fun z => nomatch z) e) n7 s6.dr
        have s7 := s6.keep (k7.all) r7
        have s8 := (s7.wipe [j]).setD (i := j) hd7
        show L2.wipe ((L2.wipe ((L2.wipe σ [i, j]).set i (some x)) [j]).set j (some y)) [j] = L2.wipe ((L2.wipe σ [i, j]).set i (some x)) [j] ∧ te ((L2.wipe ((L2.wipe σ [i, j]).set i (some x)) [j]).set j (some y)) H6 _
        refine ⟨by rw [wipe_set _ _ (by simp), wipe_wipe], ?_⟩
        refine he d hdm e hem H0 B0 (D :: B) _ H6 _ s8 (Nat.zero_le _) _ fun z fe H7 k8 r8 hz8 pf => ?_
        have pf2 : fe = f d e := pf
        subst pf2
        have hD6 : H6 D = some (.lst ys) := k7 D _ (fun z => nomatch z) hD5
        have hD7 : H7 D = some (.lst ys) := k8 D _ DF hD6
        have kB8 : Kp (D :: B) H6 H7 := s7.toBk.kp k8
        have kB := (Kp.all k7).trans kB8
        have hylen : ys.length = _ := hacc5.length
        have hys : ys.length < 100000 := by
          rw [hylen, List.length_append, List.length_map, List.length_take]
          omega
        have noOw2 : ∀ j', ¬ Ow ((L2.wipe σ [i, j]).set i (some x)) ((wipeE Γ [i, j]).set i (.dat d)) j' D := fun j' ⟨⟨en, h1, h2⟩, h3⟩ => by
          by_cases hji : j' = i
          · subst hji
            by_cases hil : j' < (wipeE Γ [j', j]).length
            · rw [List.getElem?_set_self hil] at h1
              cases h1
              cases h2
            · rw [List.getElem?_eq_none (by rw [List.length_set]; omega)] at h1
              cases h1
          · rw [List.getElem?_set_ne (fun z => hji z.symm)] at h1 h3
            exact noOw j' ⟨⟨en, h1, h2⟩, h3⟩
        refine ⟨ys, hD7, Nat.lt_of_lt_of_le hys (by decide), ys ++ [z], ?_, m6.trans (Mv.of (kB.trans (Kp.mut List.mem_cons_self))), ((k6.trans k7.all).trans k8).late nD, upd_same, ?_⟩
        · exact ((s7.keep k8 r8)).upd0 (fun φ e => by rw [hD7] at e; cases e) (fun ps z => HO.noConfusion z) List.mem_cons_self DF D0 noOw2
        · rw [List.take_succ, ee, List.map_append, ← List.append_assoc]
          exact Dats.mono (Kp.mut List.mem_cons_self) _ _ ((Dats.mono kB _ _ hacc5).append (Dats.one hz8))
      · have e : u = (es d).length := by omega
        subst e
        rw [List.take_length] at hacc5
        refine Or.inl ⟨hsrc1.2, ys, ?_, m3.trans ((Mv.of kB4).trans m6), k6, hD5, ?_⟩
        · have s9 := s6.wipe [i]
          have e1 : L2.wipe ((L2.wipe σ [i, j]).set i (some x)) [i] = L2.wipe σ [i, j] := by
            show (((L2.wipe σ [j]).set i none).set i (some x)).set i none = (L2.wipe σ [j]).set i none
            rw [List.set_set, List.set_set]
          have e2 : wipeE ((wipeE Γ [i, j]).set i (.dat d)) [i] = wipeE Γ [i, j] := by
            show (((wipeE Γ [j]).set i .no).set i (.dat d)).set i .no = (wipeE Γ [j]).set i .no
            rw [List.set_set, List.set_set]
          rw [e1, e2] at s9
          exact s9
        · rw [List.take_succ, ed, List.flatMap_append]
          simpa using hacc5
    · have e : a = ds'.length := by omega
      subst e
      rw [List.take_length] at hacc
      exact Or.inl ⟨hsrc.2, q D xs _ H2 nDH (k1.trans k2) (W.less s2.dr (by omega)) hD hacc rfl⟩
end
end WJ
set_option Elab.async false
set_option linter.all false
set_option maxRecDepth 100000
set_option maxHeartbeats 4000000
/-! WkV: xs[::k], x in a list of data, count and index, keywords, lambdas of other calls, draws 2 with tables -/
namespace WJ
open PySem PySem.Spec PyProof.Rows L2 LamX
/-! ### xs[::k], k is 1 or -1 -/
section
variable {X : Cx}
def tStepL (K : PySem.W.Frag) (te ti : TE) : TE := fun σ H Q => te σ H fun x H1 => ∃ a, x = .ref a ∧ tPart ti σ H1 fun o H2 => ∃ xs, SqL K H2 a xs ∧ ((o = some 1 ∧ ∀ p, H2 p = none → Q (.ref p) (upd H2 p (.lst xs))) ∨ (o = some (-1) ∧ ∀ p, H2 p = none → Q (.ref p) (upd H2 p (.lst xs.reverse))))
theorem p_stepL (K : PySem.W.Frag) {e ei : Expr} {te ti : TE} {p3 pos : Pos} (he : PE X e te) (hi : PE X ei ti) (hK : X.K = K := by rfl) : PE X (.Subscript e (.Slice none none (some ei) p3) pos) (tStepL K te ti) := by
  subst hK
  refine ⟨fun pins s σ H Q I h => ?_⟩
  refine Subscript_ (thn (he.run pins s σ H _ I h) fun v s1 ⟨x, H1, I1, r1, q1⟩ => ?_)
  obtain ⟨a, ex, q1⟩ := q1
  subst ex
  cases r1
  refine wpAny_Slice (thn (po_none.run pins s1 σ H1 (fun o H2 => o = none ∧ H2 = H1) I1 ⟨rfl, rfl⟩) fun vl s2 ⟨l, H2, I2, pl, el, e2⟩ => ?_)
  subst el e2
  refine thn (po_none.run pins s2 σ H2 (fun o H3 => o = none ∧ H3 = H2) I2 ⟨rfl, rfl⟩) fun vu s3 ⟨u, H3, I3, pu, eu, e3⟩ => ?_
  subst eu e3
  refine thn ((po_some hi).run pins s3 σ H3 _ I3 q1) fun vs s4 ⟨o, H4, I4, ps, xs, hx, hq⟩ => ?_
  have I5 : Inv X pins σ H4 { s4 with heap := s4.heap.push { cls := .type "slice", data := .fields #[vl, vu, vs] } } := I4.kept (t' := s4.toks) fun b ob q => Heap.get?_push_of_some _ q
  obtain ⟨its, r, ht, hz⟩ := I5.list hx
  have hlen := r.length
  rcases hq with ⟨eo, q⟩ | ⟨eo, q⟩
  · subst eo
    show wpAny (model X.prog X.w) X.A (subscriptTail e (.Slice none none (some ei) p3) (.ref a) (.ref s4.heap.objs.size)) (EP X pins σ Q) X.xe { s4 with heap := s4.heap.push { cls := .type "slice", data := .fields #[vl, vu, vs] } }
    refine tail_any (ops := [.ref a, .ref s4.heap.objs.size]) ht.isList.typeIs (PySem.slot_list_getitem.lookup) ?_ (by with_unfolding_all rfl)
    refine wpAny_getItem_list_slice ht.isList (Heap.IsSliceOf.new _ vl vu vs) pl pu ps (by decide) ?_ (by rw [List.size_toArray]; omega)
    have e1 : slicePick its.toArray none none (some 1) = its.toArray := slicePick_all its.toArray
    rw [e1]
    exact ⟨.ref _, _, I5.laid (t' := s4.toks) (o := .lst xs) (fun b ob q => Heap.get?_push_of_some _ q) (Nat.le_refl _) ⟨hz, _, 0, r, Heap.get?_push_size _ rfl⟩, rfl, q _ (I5.hok.fresh (Nat.le_refl _))⟩
  · subst eo
    show wpAny (model X.prog X.w) X.A (subscriptTail e (.Slice none none (some ei) p3) (.ref a) (.ref s4.heap.objs.size)) (EP X pins σ Q) X.xe { s4 with heap := s4.heap.push { cls := .type "slice", data := .fields #[vl, vu, vs] } }
    refine tail_any (ops := [.ref a, .ref s4.heap.objs.size]) ht.isList.typeIs (PySem.slot_list_getitem.lookup) ?_ (by with_unfolding_all rfl)
    refine wpAny_getItem_list_slice ht.isList (Heap.IsSliceOf.new _ vl vu vs) pl pu ps (by decide) ?_ (by rw [List.size_toArray]; omega)
    rw [PySem.W.krv_pick]
    exact ⟨.ref _, _, I5.laid (t' := s4.toks) (o := .lst xs.reverse) (fun b ob q => Heap.get?_push_of_some _ q) (Nat.le_refl _) ⟨by rw [List.length_reverse]; exact hz, _, 0, r.reverse, Heap.get?_push_size _ rfl⟩, rfl, q _ (I5.hok.fresh (Nat.le_refl _))⟩
/-! ### x in a list of data -/
theorem o_inD (K : PySem.W.Frag) (hu : X.A.units + 65 < cLine) (hK : X.K = K := by rfl) : OpR X (compareOp .In) (rInD K) := hK ▸ op_inD hu
theorem o_notInD (K : PySem.W.Frag) (hu : X.A.units + 65 < cLine) (hK : X.K = K := by rfl) : OpR X (compareOp .NotIn) (rNotInD K) := hK ▸ op_notInD hu
/-! ### list.count, list.index of flat items -/
def rCntF (K : PySem.W.Frag) : V → List V → Hp → VK → Prop := fun x xs H Q => ∃ (a : Addr) (ys : List V) (y : V), x = V.ref a ∧ xs = [y] ∧ SqL K H a ys ∧ flatV y = true ∧ ys.all flatV = true ∧ Q (.int ((ys.countP fun z => eqV z y) : Nat)) H
theorem count_U {y : V} : ∀ {ys : List V} {its : List Value}, Vals ys its → ys.all flatV = true → its.countP (eqU y) = ys.countP fun z => eqV z y
  | _, _, .nil, _ => rfl
  | z :: ys, u :: its, .cons r t, f => by
    rw [List.all_cons, Bool.and_eq_true] at f
    rw [List.countP_cons, List.countP_cons, count_U t f.2, eqU_of r f.1]
theorem mt_countF (K : PySem.W.Frag) (hK : X.K = K := by rfl) : MtR X "list.count" (rCntF K) := by
  subst hK
  intro pins s σ H x xs v us Q I rx rxs h
  obtain ⟨a, ys, y, rfl, rfl, hs, fy, fys, q⟩ := h
  cases rx
  cases rxs with
  | cons ry rt =>
    rename_i uy ut
    cases rt
    obtain ⟨its, rv, ⟨⟨cls, dd, data, sl⟩, n, ho, hc, hdn, hd⟩, hlen⟩ := I.list hs
    simp only at hc hd
    subst hc hd
    refine call_meets PySem.F.slot_list_count ⟨_, ho, rfl⟩ PySem.F.entry_list_count (PySem.F.args_list_count_2 _ _)
      (SeqAt.list_countAt a its.toArray n dd sl uy (eqU y)) ⟨ho, fun u' hu' => mem_eqAt ry fy rv fys u' (by simpa using hu'), ?_⟩
    refine ⟨.int ((ys.countP fun z => eqV z y) : Nat), H, I.tok _, ⟨s.toks, ?_⟩, q⟩
    show Value.int ((its.toArray.toList.countP (eqU y) : Nat) : Int) s.toks = _
    rw [List.toList_toArray, count_U rv fys]
theorem mt_indexF (K : PySem.W.Frag) (hK : X.K = K := by rfl) : MtR X "list.index" (rIndex K) := hK ▸ mt_index
/-! ### keywords -/
def tKw1 (sp : Sp) (E : XK) (t : TE) : TE := fun σ H Q => t σ H fun v H1 => sp [v] H1 Q E
/-- f(b = t1, a = t2), f of a, b -/
def tKw2 (sp : Sp) (E : XK) (t1 t2 : TE) : TE := fun σ H Q => t1 σ H fun v1 H1 => t2 σ H1 fun v2 H2 => sp [v2, v1] H2 Q E
theorem pe_kw1E {CX : CXT} {k : Nat} {f : Addr} {fd : FuncData} {x q : Str} {sp : Sp} {E : XK} {e : Expr} {te : TE} {p pos kpos : Pos} (F : FnOk X.prog X.w X.K X.mg X.base CX k f fd [q] sp) (hr : Room k X.A) (hg : Gl X x) (hm : X.mg x = some (.ref f)) (hk : PySem.W.keepIn X.K (.ref f) = true)
    (hb : ∀ (s : Shared) (u : Value), X.K.In s.heap → BindsTo s fd ⟨[], [(q, u)]⟩ [(q, u)]) (hx : Passes CX X E) (he : PE X e te) (hdb : (x == ("__debug__" : Str)) = false := by decide) :
    PE X (.Call (.Name x p) [] [⟨some q, e, kpos⟩] pos) (tKw1 sp E te) := by
  refine ⟨fun pins s σ H Q I h => ?_⟩
  refine wpAny_Call_Name_kw (ld_glob I hg hm ?_ hdb)
  have hkw : PK X [⟨some q, e, kpos⟩] (tCons te tNil) := pk_cons he pk_nil
  refine PySem.W.callWith_KW0 (h₀ := X.base) I.ok.mod.kin hk (by rfl) ?_ (by rfl)
  refine thn (hkw.run pos pins s σ H (fun zs H2 => sp zs H2 Q E) I h) fun ws s2 ⟨zs, H2, I2, rz, q2⟩ => ⟨I2.kIn, ?_⟩
  have hb2 : KBn X.K fd [q] 0 [q] (fun us ws => ws) (fun vs zs => zs) := ⟨fun s us ws KI hu hw => by
    match us, ws, hu, hw with
    | [], [u], _, _ => exact hb s u KI, fun r1 r2 => r2⟩
  have hl := F.len _ _ _ _ q2
  exact run_fnN (us := []) (vs := []) (ks := [q]) F hr hb2 hx I2 .nil rz rfl hl q2
theorem pe_kw2E {CX : CXT} {k : Nat} {f : Addr} {fd : FuncData} {x q1 q2 : Str} {sp : Sp} {E : XK} {e1 e2 : Expr} {t1 t2 : TE} {p pos k1 k2 : Pos} (F : FnOk X.prog X.w X.K X.mg X.base CX k f fd [q2, q1] sp) (hr : Room k X.A) (hg : Gl X x) (hm : X.mg x = some (.ref f)) (hk : PySem.W.keepIn X.K (.ref f) = true)
    (hb : ∀ (s : Shared) (u1 u2 : Value), X.K.In s.heap → BindsTo s fd ⟨[], [(q1, u1), (q2, u2)]⟩ [(q2, u2), (q1, u1)]) (hx : Passes CX X E) (h1 : PE X e1 t1) (h2 : PE X e2 t2) (hdb : (x == ("__debug__" : Str)) = false := by decide) :
    PE X (.Call (.Name x p) [] [⟨some q1, e1, k1⟩, ⟨some q2, e2, k2⟩] pos) (tKw2 sp E t1 t2) := by
  refine ⟨fun pins s σ H Q I h => ?_⟩
  refine wpAny_Call_Name_kw (ld_glob I hg hm ?_ hdb)
  have hkw : PK X [⟨some q1, e1, k1⟩, ⟨some q2, e2, k2⟩] (tCons t1 (tCons t2 tNil)) := pk_cons h1 (pk_cons h2 pk_nil)
  refine PySem.W.callWith_KW0 (h₀ := X.base) I.ok.mod.kin hk (by rfl) ?_ (by rfl)
  refine thn (hkw.run pos pins s σ H (fun zs H2 => sp zs.reverse H2 Q E) I h) fun ws s2 ⟨zs, H2, I2, rz, q2'⟩ => ⟨I2.kIn, ?_⟩
  have hb2 : KBn X.K fd [q2, q1] 0 [q1, q2] (fun us ws => ws.reverse) (fun vs zs => zs.reverse) := ⟨fun s us ws KI hu hw => by
    match us, ws, hu, hw with
    | [], [u1, u2], _, _ => exact hb s u1 u2 KI, fun r1 r2 => r2.reverse⟩
  have hl := F.len _ _ _ _ q2'
  exact run_fnN (us := []) (vs := []) (ks := [q1, q2]) F hr hb2 hx I2 .nil rz rfl (by rw [List.length_reverse] at hl; exact hl) q2'
theorem passE {E : XK} (tk : Takes X (fun cls d _ H => E cls d H)) : Passes (L2.CX X.prog X.w) X E := fun pins σ H s e s' I h => passAt tk σ pins H s e s' I h
end
/-- the def called x takes its one name, its two names in the other order, as keywords -/
structure KwX1 (P : Program) (w : World) (K : PySem.W.Frag) (mg : Str → Option Value) (base : Heap) (CX : CXT) (k : Nat) (x q : Str) (sp : Sp) : Prop where
  ex : ∃ (f : Addr) (fd : FuncData), FnOk P w K mg base CX k f fd [q] sp ∧ mg x = some (.ref f) ∧ PySem.W.keepIn K (.ref f) = true ∧ ∀ (s : Shared) (u : Value), K.In s.heap → BindsTo s fd ⟨[], [(q, u)]⟩ [(q, u)]
structure KwX2 (P : Program) (w : World) (K : PySem.W.Frag) (mg : Str → Option Value) (base : Heap) (CX : CXT) (k : Nat) (x q1 q2 : Str) (sp : Sp) : Prop where
  ex : ∃ (f : Addr) (fd : FuncData), FnOk P w K mg base CX k f fd [q2, q1] sp ∧ mg x = some (.ref f) ∧ PySem.W.keepIn K (.ref f) = true ∧ ∀ (s : Shared) (u1 u2 : Value), K.In s.heap → BindsTo s fd ⟨[], [(q1, u1), (q2, u2)]⟩ [(q2, u2), (q1, u1)]
section
variable {X : Cx}
theorem pe_kwX1 {k j : Nat} {x q : Str} {sp : Sp} {E : XK} {e : Expr} {te : TE} {p pos kpos : Pos} (h : KwX1 X.prog X.w X.K X.mg X.base (L2.CX X.prog X.w) j x q sp) (hr : Room k X.A) (hj : j ≤ k) (hg : Gl X x) (tk : Takes X (fun cls d _ H => E cls d H)) (he : PE X e te) (hdb : (x == ("__debug__" : Str)) = false := by decide) :
    PE X (.Call (.Name x p) [] [⟨some q, e, kpos⟩] pos) (tKw1 sp E te) := by
  obtain ⟨f, fd, F, hm, hk, hb⟩ := h.ex
  exact pe_kw1E F (hr.mono hj) hg hm hk hb (passE tk) he hdb
theorem pe_kwX2 {k j : Nat} {x q1 q2 : Str} {sp : Sp} {E : XK} {e1 e2 : Expr} {t1 t2 : TE} {p pos k1 k2 : Pos} (h : KwX2 X.prog X.w X.K X.mg X.base (L2.CX X.prog X.w) j x q1 q2 sp) (hr : Room k X.A) (hj : j ≤ k) (hg : Gl X x) (tk : Takes X (fun cls d _ H => E cls d H)) (h1 : PE X e1 t1) (h2 : PE X e2 t2) (hdb : (x == ("__debug__" : Str)) = false := by decide) :
    PE X (.Call (.Name x p) [] [⟨some q1, e1, k1⟩, ⟨some q2, e2, k2⟩] pos) (tKw2 sp E t1 t2) := by
  obtain ⟨f, fd, F, hm, hk, hb⟩ := h.ex
  exact pe_kw2E F (hr.mono hj) hg hm hk hb (passE tk) h1 h2 hdb
/-- .. where nothing is raised -/
theorem pe_kwL1 {k j : Nat} {x q : Str} {sp : Sp} {e : Expr} {te : TE} {p pos kpos : Pos} (h : KwX1 X.prog X.w X.K X.mg X.base (L2.CX X.prog X.w) j x q sp) (hr : Room k X.A) (hj : j ≤ k) (hg : Gl X x) (he : PE X e te) (hdb : (x == ("__debug__" : Str)) = false := by decide) :
    PE X (.Call (.Name x p) [] [⟨some q, e, kpos⟩] pos) (tKw1 sp E0 te) := by
  obtain ⟨f, fd, F, hm, hk, hb⟩ := h.ex
  exact pe_kw1E F (hr.mono hj) hg hm hk hb passL he hdb
theorem pe_kwL2 {k j : Nat} {x q1 q2 : Str} {sp : Sp} {e1 e2 : Expr} {t1 t2 : TE} {p pos k1 k2 : Pos} (h : KwX2 X.prog X.w X.K X.mg X.base (L2.CX X.prog X.w) j x q1 q2 sp) (hr : Room k X.A) (hj : j ≤ k) (hg : Gl X x) (h1 : PE X e1 t1) (h2 : PE X e2 t2) (hdb : (x == ("__debug__" : Str)) = false := by decide) :
    PE X (.Call (.Name x p) [] [⟨some q1, e1, k1⟩, ⟨some q2, e2, k2⟩] pos) (tKw2 sp E0 t1 t2) := by
  obtain ⟨f, fd, F, hm, hk, hb⟩ := h.ex
  exact pe_kw2E F (hr.mono hj) hg hm hk hb passL h1 h2 hdb
end
/-! ### the same over data -/
section
variable {K : PySem.W.Frag} {W : Wd K} {Γ : List En} {c c1 c2 : Nat} {te ti ta tb : TE} {P : Da → Prop}
theorem evF_step {ds : List Da} {k : Int} (hk : k = 1 ∨ k = -1) (h : Ev W te Γ c1 (· = .lst ds)) (hi : Ev W ti Γ c2 (· = .int k)) : EvF W (tStepL K te ti) Γ (c1 + c2) (· = if k = 1 then ds else ds.reverse) := fun H0 B0 B σ H M s hM Q q =>
  h H0 B0 B σ H M s (by omega) _ fun v d H1 k1 r1 hd e => by
    subst e
    have s1 := s.keep k1 r1
    unfold Dat at hd
    obtain ⟨a, xs, rfl, sl, t⟩ := hd
    refine ⟨a, rfl, ?_⟩
    refine hi H0 B0 B σ H1 _ s1 (by omega) _ fun v2 d2 H2 k2 r2 hd2 e2 => ?_
    subst e2
    have s2 := s1.keep k2 r2
    have hd1 : Dat K B H2 (.ref a) (.lst ds) := Dat.mono (s1.toBk.kp k2) _ _ (by unfold Dat; exact ⟨a, xs, rfl, sl, t⟩)
    unfold Dat at hd1
    obtain ⟨a', xs', e3, sl', t'⟩ := hd1
    cases e3
    refine ⟨k, dInt.mp hd2, xs', sl'.sq, ?_⟩
    rcases hk with rfl | rfl
    · refine Or.inl ⟨rfl, fun l nl => ?_⟩
      exact q l _ _ _ ((k1.trans k2).backB (fun z => s2.al l (s.fb l z) nl) nl) ((k1.trans k2).trans (Kp.new nl)) (W.less (Wd.new nl r2) (by omega)) upd_same (Dats.mono (Kp.new nl) _ _ (Dats.put nl _ _ t')) (by rw [if_pos rfl])
    · refine Or.inr ⟨rfl, fun l nl => ?_⟩
      exact q l _ _ _ ((k1.trans k2).backB (fun z => s2.al l (s.fb l z) nl) nl) ((k1.trans k2).trans (Kp.new nl)) (W.less (Wd.new nl r2) (by omega)) upd_same (Dats.mono (Kp.new nl) _ _ (Dats.put nl _ _ (Dats.rev t'))) (by rw [if_neg (by decide)])
theorem rv_inDp {d : Da} {ds : List Da} (p1 : d.plain = true) (p2 : (Da.lst ds).plain = true) (s1 : SeqAt.shaped d.py = true) (s2 : SeqAt.shaped (Da.lst ds).py = true) (q : P (.bl (ds.any fun z => PyData.eqv z.py d.py))) : Rv W (rInD K) d (.lst ds) P :=
  rv_now (fun B H v1 v2 Q h1 h2 k => by
    have h3 := Dat.dp (.lst ds) v2 p2 h2
    unfold Da.py at h3 s2
    refine ⟨d.py, pys ds, Dat.dp d v1 p1 h1, h3, s1, s2, k _ (dBl.mpr ?_)⟩
    rw [pys_map, List.any_map]
    rfl) q
theorem ev_countF {ds : List Da} {ys : List V} {d : Da} {y : V} (h : Ev W te Γ c1 (· = .lst ds)) (hi : Ev W ti Γ c2 (· = d)) (e1 : flats ds = some ys) (e2 : d.flatv = some y) (f1 : ys.all flatV = true) (f2 : flatV y = true) : Ev W (tBM K "list" (rCntF K) te (tCons ti tNil)) Γ (c1 + c2) (· = .int ((ys.countP fun z => eqV z y) : Nat)) := fun H0 B0 B σ H M s hM Q q =>
  h H0 B0 B σ H M s (by omega) _ fun v d' H1 k1 r1 hd e => by
    subst e
    have s1 := s.keep k1 r1
    have hd0 := hd
    unfold Dat at hd
    obtain ⟨a, xs, rfl, sl, t⟩ := hd
    refine ⟨Or.inl ⟨rfl, xs, sl.sq⟩, ?_⟩
    refine hi H0 B0 B σ H1 _ s1 (by omega) _ fun v2 d2 H2 k2 r2 hd2 e3 => ?_
    subst e3
    have hd1 : Dat K B H2 (.ref a) (.lst ds) := Dat.mono (s1.toBk.kp k2) _ _ hd0
    unfold Dat at hd1
    obtain ⟨a', xs', e4, sl', t'⟩ := hd1
    cases e4
    have e5 : xs' = ys := (flats_dat t' e1).1
    have e6 : v2 = y := flatv_dat hd2 e2
    subst e5 e6
    exact ⟨a, xs', v2, rfl, rfl, sl'.sq, f2, f1, q _ _ H2 (k1.trans k2) (W.less r2 (by omega)) (dInt.mpr rfl) rfl⟩
theorem ev_indexF {ds : List Da} {ys : List V} {d : Da} {y : V} {j : Nat} {z : V} (h : Ev W te Γ c1 (· = .lst ds)) (hi : Ev W ti Γ c2 (· = d)) (e1 : flats ds = some ys) (e2 : d.flatv = some y) (f1 : ys.all flatV = true) (f2 : flatV y = true) (hj : ys[j]? = some z) (hz : eqV z y = true) (hno : ∀ (m : Nat) (z' : V), m < j → ys[m]? = some z' → eqV z' y = false) : Ev W (tBM K "list" (rIndex K) te (tCons ti tNil)) Γ (c1 + c2) (· = .int (j : Nat)) := fun H0 B0 B σ H M s hM Q q =>
  h H0 B0 B σ H M s (by omega) _ fun v d' H1 k1 r1 hd e => by
    subst e
    have s1 := s.keep k1 r1
    have hd0 := hd
    unfold Dat at hd
    obtain ⟨a, xs, rfl, sl, t⟩ := hd
    refine ⟨Or.inl ⟨rfl, xs, sl.sq⟩, ?_⟩
    refine hi H0 B0 B σ H1 _ s1 (by omega) _ fun v2 d2 H2 k2 r2 hd2 e3 => ?_
    subst e3
    have hd1 : Dat K B H2 (.ref a) (.lst ds) := Dat.mono (s1.toBk.kp k2) _ _ hd0
    unfold Dat at hd1
    obtain ⟨a', xs', e4, sl', t'⟩ := hd1
    cases e4
    have e5 : xs' = ys := (flats_dat t' e1).1
    have e6 : v2 = y := flatv_dat hd2 e2
    subst e5 e6
    exact ⟨a, xs', v2, j, z, rfl, rfl, sl'.sq, f2, f1, hj, hz, hno, q _ _ H2 (k1.trans k2) (W.less r2 (by omega)) (dInt.mpr rfl) rfl⟩
end
/-! ### lambdas of other calls; a def that only keeps what they raise -/
section
variable {K : PySem.W.Frag} {W : Wd K} {B : List Addr} {H : Hp} {M cl cr : Nat} {f c' : Addr} {q : Str} {tl : XK → Hp → VK → Prop} {cc : Value} {i j z : Nat} {S0 rest : TS} {Γ0 Γ1 : List En} {σ0 : L2.St} {p : Da → Prop} {Q : VK}
def tKeepD (K : PySem.W.Frag) (cc : Value) (f c' : Addr) (q : Str) (i z : Nat) (S0 rest : TS) (tl : XK → Hp → VK → Prop) : TS :=
  tSeq S0 (tSeq (fun D σ H => tDrop (tAct f c' q tl (wKeep K cc i (fun _ _ _ => tAsg (tVar i) (gName z)) (fun _ _ _ _ => False) D)) D σ H) rest)
theorem keepVD {P : Da → Prop} (s0 : Sg W H B B σ0 Γ0 H M) (hc : H c' = some (CodeO c' q)) (ncF : c' ∉ W.F) (hS : Es W S0 Γ0 0 ⟨(· = Γ1), fun _ => False, fun _ => False, fun _ => False⟩) (g0 : Γ1[0]? = some (.dat (.obj f)))
    (hl : LmV W B H tl cl P) (hr : Es W rest Γ1 cr ⟨fun _ => False, p, fun _ => False, fun _ => False⟩) (hM : cl + cr ≤ M)
    (hQ : ∀ v d H', Kp W.F H H' → W.Dr (M - (cl + cr)) H' → Dat K B H' v d → p d → Q v H') : tKeepD K cc f c' q i z S0 rest tl { nx := fun _ H' => Q .non H', rt := Q } σ0 H := by
  refine hS H B B σ0 H M _ s0 (Nat.zero_le _) (fun B1 σ1 Γ' H1 s1 m1 e => ?_) (fun _ _ _ _ _ _ w => w.elim) (fun _ _ _ _ _ _ w => w.elim) (fun _ _ _ _ _ _ w => w.elim)
  have e2 : Γ' = Γ1 := e
  subst e2
  obtain ⟨o, ho, v0, rfl, hd0⟩ := s1.sl 0 _ g0
  unfold Dat at hd0
  subst hd0
  refine ⟨ho, s1.k0 c' _ ncF hc, ?_⟩
  refine hl B1 H1 _ m1 s1.toBk (by omega) _ _ fun v d H2 k2 r2 hd2 p2 => ?_
  exact hr H B B1 _ H2 _ _ (s1.keep k2 r2) (by omega) (fun _ _ _ _ _ _ w => w.elim) (fun v' d' H' k' r' hd' p' => hQ v' d' H' k' (W.less r' (by omega)) hd' p') (fun _ _ _ _ _ _ w => w.elim) (fun _ _ _ _ _ _ w => w.elim)
theorem keepXD {cls : Value} {fs : List (Str × Da)} (s0 : Sg W H B B σ0 Γ0 H M) (hc : H c' = some (CodeO c' q)) (ncF : c' ∉ W.F) (hS : Es W S0 Γ0 0 ⟨(· = Γ1), fun _ => False, fun _ => False, fun _ => False⟩) (g0 : Γ1[0]? = some (.dat (.obj f)))
    (hl : LmX W B H tl cls fs) (hiz : i ≠ z) (hi : i < Γ1.length) (hx : PySem.W.exmOne K cls cc = some true) (hr : Es W rest ((Γ1.set z (.dat (.exc cls fs))).set i .no) cr ⟨fun _ => False, p, fun _ => False, fun _ => False⟩) (hM : cr ≤ M)
    (hQ : ∀ v d H', Kp W.F H H' → W.Dr (M - cr) H' → Dat K B H' v d → p d → Q v H') : tKeepD K cc f c' q i z S0 rest tl { nx := fun _ H' => Q .non H', rt := Q } σ0 H := by
  refine hS H B B σ0 H M _ s0 (Nat.zero_le _) (fun B1 σ1 Γ' H1 s1 m1 e => ?_) (fun _ _ _ _ _ _ w => w.elim) (fun _ _ _ _ _ _ w => w.elim) (fun _ _ _ _ _ _ w => w.elim)
  have e2 : Γ' = Γ1 := e
  subst e2
  obtain ⟨o, ho, v0, rfl, hd0⟩ := s1.sl 0 _ g0
  unfold Dat at hd0
  subst hd0
  refine ⟨ho, s1.k0 c' _ ncF hc, ?_⟩
  refine hl B1 H1 _ m1 s1.toBk _ _ fun d H2 k2 r2 xd => ?_
  refine ⟨true, hx, (fun w => Bool.noConfusion w), fun _ ea na => ?_⟩
  have s2 := s1.keep k2 r2
  have hlen : i < σ1.length := by rw [s1.ln]; exact hi
  refine ⟨.ref ea, List.getElem?_set_self hlen, ?_⟩
  show rest _ (((σ1.set i (some (.ref ea))).set z (some (.ref ea))).set i none) (upd H2 ea (EO cls d ea))
  have es : ((σ1.set i (some (.ref ea))).set z (some (.ref ea))).set i none = (σ1.set z (some (.ref ea))).set i none := by
    rw [List.set_comm _ _ hiz, List.set_set]
  rw [es]
  have s3 : Sg W H B B1 σ1 Γ' (upd H2 ea (EO cls d ea)) (M - 0) := s2.keep (Kp.new na) (Wd.new na r2)
  have hdat : Dat K B1 (upd H2 ea (EO cls d ea)) (.ref ea) (.exc cls fs) := by
    unfold Dat
    rcases xd with ⟨rfl, rfl⟩ | ⟨dx, xs, rfl, h2, h3, h4, h5⟩
    · exact ⟨ea, none, [], rfl, ⟨s2.toBk.free na, upd_same⟩, Or.inl ⟨rfl, rfl⟩, by unfold Datf; rfl⟩
    · exact ⟨ea, some dx, xs, rfl, ⟨s2.toBk.free na, upd_same⟩, Or.inr ⟨dx, rfl, h4, h2, Or.inr (by rw [upd_ne (ne_of_none h3 na)]; exact h3)⟩, Datf.mono (Kp.new na) fs xs h5⟩
  exact hr H B B1 _ _ _ _ ((s3.setD hdat).set (i := i) (o := none) (e := .no) rfl trivial) (by omega) (fun _ _ _ _ _ _ w => w.elim) (fun v' d' H' k' r' hd' p' => hQ v' d' H' k' (W.less r' (by omega)) hd' p') (fun _ _ _ _ _ _ w => w.elim) (fun _ _ _ _ _ _ w => w.elim)
def TKeepD (K : PySem.W.Frag) (cc : Value) (q : Str) (Ng : List Str) (i z : Nat) (S0 rest : TS) : (XK → Hp → VK → Prop) → Hp → VK → Prop := fun tl H Q => ∀ f c', H c' = some (CodeO c' q) → tKeepD K cc f c' q i z S0 rest tl { nx := fun _ H' => Q .non H', rt := Q } (L2.start Ng [.ref f]) H
/-- lambda: f(x) -/
def tLm1 (sp : Sp) (i : Nat) : XK → TE := fun E => tCallS sp (WE fun cls d _ H => E cls d H) (tCons (tVar i) tNil)
/-- lambda: f(k = x) -/
def tLmK1 (sp : Sp) (i : Nat) : XK → TE := fun E => tKw1 sp E (tVar i)
/-- lambda: f(b = x, a = y) -/
def tLmK2 (sp : Sp) (i1 i2 : Nat) : XK → TE := fun E => tKw2 sp E (tVar i1) (tVar i2)
/-- what a lambda does, wherever the maker's names stand so -/
def LamV (W : Wd K) (Γ : List En) (t : XK → TE) (cl : Nat) (P : Da → Prop) : Prop := ∀ (H0 : Hp) (B0 B : List Addr) (σ : L2.St) (H : Hp) (M : Nat), Sg W H0 B0 B σ Γ H M → LmV W B H (fun E H' Q' => t E σ H' Q') cl P
def LamXx (W : Wd K) (Γ : List En) (t : XK → TE) (cls : Value) (fs : List (Str × Da)) : Prop := ∀ (H0 : Hp) (B0 B : List Addr) (σ : L2.St) (H : Hp) (M : Nat), Sg W H0 B0 B σ Γ H M → LmX W B H (fun E H' Q' => t E σ H' Q') cls fs
variable {Γ : List En} {i1 i2 : Nat}
theorem lamX_2 {C : Ct K} {R : Wd K → List Da → Value → List (Str × Da) → Prop} {d1 d2 : Da} {cls : Value} {fs : List (Str × Da)} (g1 : Γ[i1]? = some (.dat d1)) (g2 : Γ[i2]? = some (.dat d2)) (h : R W [d1, d2] cls fs) : LamXx W Γ (tLm2 (spY C R) i1 i2) cls fs := fun H0 B0 B σ H M s => lam2X s g1 g2 h
theorem lamX_1 {C : Ct K} {R : Wd K → List Da → Value → List (Str × Da) → Prop} {d1 : Da} {cls : Value} {fs : List (Str × Da)} (g1 : Γ[i1]? = some (.dat d1)) (h : R W [d1] cls fs) : LamXx W Γ (tLm1 (spY C R) i1) cls fs := fun H0 B0 B σ H M s B' H' M' m b E Q q => by
  obtain ⟨o1, h1, v1, rfl, e1⟩ := s.sl i1 _ g1
  exact ⟨v1, h1, Or.inr ⟨W, B', M', _, cls, fs, h, b, .cons (Dat.mv m _ _ e1) .nil, q⟩⟩
theorem lamX_K1 {C : Ct K} {R : Wd K → List Da → Value → List (Str × Da) → Prop} {d1 : Da} {cls : Value} {fs : List (Str × Da)} (g1 : Γ[i1]? = some (.dat d1)) (h : R W [d1] cls fs) : LamXx W Γ (tLmK1 (spY C R) i1) cls fs := fun H0 B0 B σ H M s B' H' M' m b E Q q => by
  obtain ⟨o1, h1, v1, rfl, e1⟩ := s.sl i1 _ g1
  exact ⟨v1, h1, Or.inr ⟨W, B', M', _, cls, fs, h, b, .cons (Dat.mv m _ _ e1) .nil, q⟩⟩
theorem lamX_K2 {C : Ct K} {R : Wd K → List Da → Value → List (Str × Da) → Prop} {d1 d2 : Da} {cls : Value} {fs : List (Str × Da)} (g1 : Γ[i1]? = some (.dat d1)) (g2 : Γ[i2]? = some (.dat d2)) (h : R W [d2, d1] cls fs) : LamXx W Γ (tLmK2 (spY C R) i1 i2) cls fs := fun H0 B0 B σ H M s B' H' M' m b E Q q => by
  obtain ⟨o1, h1, v1, rfl, e1⟩ := s.sl i1 _ g1
  obtain ⟨o2, h2, v2, rfl, e2⟩ := s.sl i2 _ g2
  exact ⟨v1, h1, v2, h2, Or.inr ⟨W, B', M', _, cls, fs, h, b, .cons (Dat.mv m _ _ e2) (.cons (Dat.mv m _ _ e1) .nil), q⟩⟩
end
section
variable {K : PySem.W.Frag} {W : Wd K} {T : List (Addr × Str)} {Γ : List En} {cl cr : Nat} {q : Str} {cc : Value} {Ng : List Str} {i j z : Nat} {S0 rest : TS} {Pt : Addr} {p : Da → Prop}
theorem ev_lamXD {t : XK → TE} {cls : Value} {fs : List (Str × Da)} {Γ1 : Addr → List En} (hL : W.Lax) (hW : W.Low) (hP : Pt ∈ T.map (·.1)) (hN : 1 ≤ Ng.length) (h : LamXx (WT W T) Γ t cls fs)
    (hS : ∀ f, Es (WT W T) S0 (startE Ng [.obj f]) 0 ⟨(· = Γ1 f), fun _ => False, fun _ => False, fun _ => False⟩) (g0 : ∀ f, (Γ1 f)[0]? = some (.dat (.obj f))) (hiz : i ≠ z) (hi : ∀ f, i < (Γ1 f).length) (hx : PySem.W.exmOne K cls cc = some true)
    (hr : ∀ f, Es (WT W T) rest (((Γ1 f).set z (.dat (.exc cls fs))).set i .no) cr ⟨fun _ => False, p, fun _ => False, fun _ => False⟩) :
    Ev (WT W T) (tLamP T Pt (TKeepD K cc q Ng i z S0 rest) t) Γ cr p :=
  ev_lam hL hW hP fun H0 B0 B σ H M s hM Q k f c' hc => keepXD (Sg.start s.toBk (.one (by unfold Dat; rfl)) hN) hc (not_F hW s.dr hc) (hS f) (g0 f) (h H0 B0 B σ H M s) hiz (hi f) hx (hr f) hM k
theorem low2 {p g l : Addr} : (DW2 K p g l).Low := fun {M H} ⟨ds, cs, t, e1, e2, e3, _⟩ b hb o e => by
  have hb2 : b ∈ [p, g, l] := hb
  simp only [List.mem_cons, List.not_mem_nil, or_false] at hb2
  rcases hb2 with rfl | rfl | rfl
  · rw [e1] at e; cases e; exact ⟨fun ps z => HO.noConfusion z, fun φ z => HO.noConfusion z⟩
  · rw [e2] at e; cases e; exact ⟨fun ps z => HO.noConfusion z, fun φ z => HO.noConfusion z⟩
  · rw [e3] at e; cases e; exact ⟨fun ps z => HO.noConfusion z, fun φ z => HO.noConfusion z⟩
theorem lax2 {p g l : Addr} : (DW2 K p g l).Lax := fun {M H H'} h _ ⟨ds, cs, t, e1, e2, e3, r⟩ => ⟨ds, cs, t, (h p (by show p ∈ [p, g, l]; simp)).trans e1, (h g (by show g ∈ [p, g, l]; simp)).trans e2, (h l (by show l ∈ [p, g, l]; simp)).trans e3, r⟩
end
end WJ
set_option Elab.async false
set_option linter.all false
set_option maxRecDepth 100000
set_option maxHeartbeats 4000000
/-! WkW: defs that hand back a new list (the caller may change it) -/
namespace WJ
open PySem L2 LamX
/-- a def's promise: a new list of P -/
def CtF (K : PySem.W.Frag) : Type := Wd K → List Da → Nat → (List Da → Prop) → Prop
def spF {K : PySem.W.Frag} (C : CtF K) : Sp := fun vs H Q _ => ∃ (W : Wd K) (B : List Addr) (M : Nat) (ds : List Da) (c : Nat) (P : List Da → Prop), C W ds c P ∧ Bk W B H M ∧ c ≤ M ∧ Dats K B H vs ds ∧
  ∀ l xs es H', H l = none → Kp W.F H H' → W.Dr (M - c) H' → H' l = some (.lst xs) → Dats K (l :: B) H' xs es → P es → Q (.ref l) H'
def spYF {K : PySem.W.Frag} (C : CtF K) (R : Wd K → List Da → Value → List (Str × Da) → Prop) : Sp := fun vs H Q E => spF C vs H Q E ∨ ∃ (W : Wd K) (B : List Addr) (M : Nat) (ds : List Da) (cls : Value) (fs : List (Str × Da)), R W ds cls fs ∧ Bk W B H M ∧ Dats K B H vs ds ∧ ∀ d H', Kp W.F H H' → W.Dr M H' → XD K B H' d fs → E cls d H'
/-- .. over data -/
def FnF {K : PySem.W.Frag} (W : Wd K) (sp : Sp) (ds : List Da) (c : Nat) (P : List Da → Prop) : Prop := ∀ (B : List Addr) (H : Hp) (M : Nat) (vs : List V), Bk W B H M → c ≤ M → Dats K B H vs ds → ∀ (Q : VK) (E : XK),
  (∀ l xs es H', H l = none → Kp W.F H H' → W.Dr (M - c) H' → H' l = some (.lst xs) → Dats K (l :: B) H' xs es → P es → Q (.ref l) H') → sp vs H Q E
section
variable {K : PySem.W.Frag} {W : Wd K} {Γ : List En} {c c1 c2 c' : Nat} {te t1 t2 : TE} {P : List Da → Prop} {t u : TS} {E : XK} {X : Value → List (Str × Da) → Prop}
theorem fnF_of {C : CtF K} {ds : List Da} (h : C W ds c P) : FnF W (spF C) ds c P := fun B H M vs s hM hd Q E q => ⟨W, B, M, ds, c, P, h, s, hM, hd, q⟩
theorem fnF_ofY {C : CtF K} {R : Wd K → List Da → Value → List (Str × Da) → Prop} {ds : List Da} (h : C W ds c P) : FnF W (spYF C R) ds c P := fun B H M vs s hM hd Q E q => Or.inl ⟨W, B, M, ds, c, P, h, s, hM, hd, q⟩
theorem evF_callF {sp : Sp} {ta : TA} {ds : List Da} {E : XK} (h : EvA W ta Γ c1 (· = ds)) (hs : FnF W sp ds c2 P) : EvF W (tCall sp [] E ta) Γ (c1 + c2) P := fun H0 B0 B σ H M s hM Q q =>
  h H0 B0 B σ H M s (by omega) _ fun vs es H1 k1 r1 hd e => by
    have e2 : es = ds := e
    subst e2
    have s1 := s.keep k1 r1
    show sp (vs ++ []) H1 Q E
    rw [List.append_nil]
    exact hs B H1 _ vs s1.toBk (by omega) hd Q E fun l xs fs H2 n k2 r2 hl hd2 p => q l xs fs H2 (k1.backB (fun z => s1.al l (s.fb l z) n) n) (k1.trans k2) (W.less r2 (by omega)) hl hd2 p
theorem evF_kw1 {sp : Sp} {d : Da} (h : Ev W te Γ c1 (· = d)) (hs : FnF W sp [d] c2 P) : EvF W (tKw1 sp E te) Γ (c1 + c2) P := fun H0 B0 B σ H M s hM Q q =>
  h H0 B0 B σ H M s (by omega) _ fun v e H1 k1 r1 hd e1 => by
    have e2 : e = d := e1
    subst e2
    have s1 := s.keep k1 r1
    exact hs B H1 _ [v] s1.toBk (by omega) (.cons hd .nil) Q E fun l xs fs H2 n k2 r2 hl hd2 p => q l xs fs H2 (k1.backB (fun z => s1.al l (s.fb l z) n) n) (k1.trans k2) (W.less r2 (by omega)) hl hd2 p
theorem evF_kw2 {sp : Sp} {d1 d2 : Da} (h1 : Ev W t1 Γ 0 (· = d1)) (h2 : Ev W t2 Γ 0 (· = d2)) (hs : FnF W sp [d2, d1] c P) : EvF W (tKw2 sp E t1 t2) Γ c P := fun H0 B0 B σ H M s hM Q q =>
  h1 H0 B0 B σ H M s (Nat.zero_le _) _ fun v e H1 k1 r1 hd e1 => by
    have e2 : e = d1 := e1
    subst e2
    have s1 := s.keep k1 r1
    refine h2 H0 B0 B σ H1 _ s1 (Nat.zero_le _) _ fun v2 e' H2 k2 r2 hd2 e3 => ?_
    have e4 : e' = d2 := e3
    subst e4
    have s2 := s1.keep k2 r2
    exact hs B H2 _ [v2, v] s2.toBk (by omega) (.cons hd2 (.cons (Dat.mono (s1.toBk.kp k2) _ _ hd) .nil)) Q E fun l xs fs H3 n k3 r3 hl hd3 p => q l xs fs H3 ((k1.trans k2).backB (fun z => s2.al l (s.fb l z) n) n) ((k1.trans k2).trans k3) (W.less r3 (by omega)) hl hd3 p
/-- a block that ends by handing back a new list of P, or raises -/
def EsXF (W : Wd K) (t : TS) (Γ : List En) (c : Nat) (P : List Da → Prop) (E : XK) (X : Value → List (Str × Da) → Prop) : Prop :=
  ∀ (H0 : Hp) (B0 B : List Addr) (σ : L2.St) (H : Hp) (M : Nat) (D : Ends), Sg W H0 B0 B σ Γ H M → c ≤ M →
    (∀ l xs es H', H0 l = none → Kp W.F H0 H' → W.Dr (M - c) H' → H' l = some (.lst xs) → Dats K (l :: B0) H' xs es → P es → D.rt (.ref l) H') →
    (∀ cls fs d H', Kp W.F H0 H' → W.Dr (M - c) H' → XD K B0 H' d fs → X cls fs → E cls d H') → t D σ H
theorem esXF_ret (h : EvF W te Γ c P) : EsXF W (tRet te) Γ c P E X := fun H0 B0 B σ H M D s hM q _ =>
  h H0 B0 B σ H M s hM _ fun l xs ds H' n k r hl hd p => q l xs ds H' (s.k0.backB (fun z => s.al l (s.fb l z) n) n) (s.k0.trans k) r hl (Dats.sub (fun b hb => by
    rcases List.mem_cons.mp hb with z | z
    · rw [z]
      exact List.mem_cons_self
    · exact List.mem_cons_of_mem _ (s.b0 b z)) ds xs hd) p
theorem esXF_seq {N : List En → Prop} (c1 c2 : Nat) (hc : c1 + c2 ≤ c) (h1 : EsX W t Γ c1 ⟨N, fun _ => False, fun _ => False, fun _ => False⟩ E X) (h2 : ∀ Γ', N Γ' → EsXF W u Γ' c2 P E X) : EsXF W (tSeq t u) Γ c P E X := fun H0 B0 B σ H M D s hM q x =>
  h1 H0 B0 B σ H M _ s (by omega) (fun B' σ' Γ' H' s' m' n => h2 Γ' n H0 B0 B' σ' H' _ D s' (by omega) (fun l xs es H2 a b e => q l xs es H2 a b (W.less e (by omega))) (fun cls fs d H2 a b => x cls fs d H2 a (W.less b (by omega)))) (fun _ _ _ _ _ _ z => z.elim) (fun _ _ _ _ _ _ z => z.elim) (fun _ _ _ _ _ _ z => z.elim) (fun cls fs d H2 a b => x cls fs d H2 a (W.less b (by omega)))
end
theorem fn_dataF {Pr : Program} {w : World} {K : PySem.W.Frag} {mg : Str → Option Value} {base : Heap} {x qual : Str} {params : Arguments} {body : List Stmt} {scope : Scope} {dvs : List V} {kws : List (Str × V)} {f : Addr} {fd : FuncData} {N ps : List Str} {k : Nat} {C : CtF K}
    (F : FunD K x qual params body scope dvs kws f fd) (S : FnScope N ps scope) (len : ∀ W ds c P, C W ds c P → ds.length = ps.length) (hps : ps.length ≤ N.length)
    (hbody : ∀ (cdv : Value) (A : Around) (outer : List Env) (s : Shared) (H : Hp) (E : XK), Room k (A.deeper (PyProof.Rows.envOfC qual scope s.heap.objs.size f cdv)) →
      ∃ t, PSs (cxOf CX0 Pr w K mg base N qual scope f cdv A outer s H E) body t ∧ ∀ W ds c P, C W ds c P → EsXF W t (startE N ds) c P E (fun _ _ => False)) : FnOk Pr w K mg base CX0 (k + 1) f fd ps (spF C) := by
  refine F.ok S (fun vs H Q E h => ?_) (fun cdv A outer s H vs Q E hr h => ?_)
  · obtain ⟨W, B, M, ds, c, P, hC, _, _, hd, _⟩ := h
    rw [hd.length]
    exact len W ds c P hC
  · obtain ⟨W, B, M, ds, c, P, hC, hb, hM, hd, q⟩ := h
    obtain ⟨t, ht, hE⟩ := hbody cdv A outer s H E hr
    refine ⟨t, ht, ?_⟩
    have s0 : Sg W H B B (L2.start N vs) (startE N ds) H M := Sg.start hb hd (by rw [len W ds c P hC]; exact hps)
    exact hE W ds c P hC H B B _ H M _ s0 hM q (fun _ _ _ _ _ _ _ z => z.elim)
theorem fn_dataYF {Pr : Program} {w : World} {K : PySem.W.Frag} {mg : Str → Option Value} {base : Heap} {x qual : Str} {params : Arguments} {body : List Stmt} {scope : Scope} {dvs : List V} {kws : List (Str × V)} {f : Addr} {fd : FuncData} {N ps : List Str} {k : Nat} {C : CtF K} {R : Wd K → List Da → Value → List (Str × Da) → Prop}
    (F : FunD K x qual params body scope dvs kws f fd) (S : FnScope N ps scope) (len : ∀ W ds c P, C W ds c P → ds.length = ps.length) (lenR : ∀ W ds cls fs, R W ds cls fs → ds.length = ps.length) (hps : ps.length ≤ N.length)
    (hbody : ∀ (cdv : Value) (A : Around) (outer : List Env) (s : Shared) (H : Hp) (E : XK), Room k (A.deeper (PyProof.Rows.envOfC qual scope s.heap.objs.size f cdv)) →
      ∃ t, PSs (cxOf (L2.CX Pr w) Pr w K mg base N qual scope f cdv A outer s H E) body t ∧ (∀ W ds c P, C W ds c P → EsXF W t (startE N ds) c P E (fun _ _ => False)) ∧
        ∀ W ds cls fs, R W ds cls fs → EsX W t (startE N ds) 0 ⟨fun _ => False, fun _ => False, fun _ => False, fun _ => False⟩ E (fun c g => c = cls ∧ g = fs)) : FnOk Pr w K mg base (L2.CX Pr w) (k + 1) f fd ps (spYF C R) := by
  refine F.ok S (fun vs H Q E h => ?_) (fun cdv A outer s H vs Q E hr h => ?_)
  · rcases h with ⟨W, B, M, ds, c, P, hC, _, _, hd, _⟩ | ⟨W, B, M, ds, cls, fs, hR, _, hd, _⟩
    · rw [hd.length]
      exact len W ds c P hC
    · rw [hd.length]
      exact lenR W ds cls fs hR
  · obtain ⟨t, ht, hE, hX⟩ := hbody cdv A outer s H E hr
    refine ⟨t, ht, ?_⟩
    rcases h with ⟨W, B, M, ds, c, P, hC, hb, hM, hd, q⟩ | ⟨W, B, M, ds, cls, fs, hR, hb, hd, q⟩
    · have s0 : Sg W H B B (L2.start N vs) (startE N ds) H M := Sg.start hb hd (by rw [len W ds c P hC]; exact hps)
      exact hE W ds c P hC H B B _ H M _ s0 hM q (fun _ _ _ _ _ _ _ z => z.elim)
    · have s0 : Sg W H B B (L2.start N vs) (startE N ds) H M := Sg.start hb hd (by rw [lenR W ds cls fs hR]; exact hps)
      exact hX W ds cls fs hR H B B _ H M _ s0 (Nat.zero_le _) (fun _ _ _ _ _ _ z => z.elim) (fun _ _ _ _ _ _ z => z.elim) (fun _ _ _ _ _ _ z => z.elim) (fun _ _ _ _ _ _ z => z.elim) (fun c g d H' k r xd ⟨e1, e2⟩ => by
        subst e1 e2
        exact q d H' k r xd)
section
variable {K : PySem.W.Frag} {W : Wd K} {Γ : List En} {i1 i2 : Nat} {P : Da → Prop}
theorem lamXF_2 {C : CtF K} {R : Wd K → List Da → Value → List (Str × Da) → Prop} {d1 d2 : Da} {cls : Value} {fs : List (Str × Da)} (g1 : Γ[i1]? = some (.dat d1)) (g2 : Γ[i2]? = some (.dat d2)) (h : R W [d1, d2] cls fs) : LamXx W Γ (tLm2 (spYF C R) i1 i2) cls fs := fun H0 B0 B σ H M s B' H' M' m b E Q q => by
  obtain ⟨o1, h1, v1, rfl, e1⟩ := s.sl i1 _ g1
  obtain ⟨o2, h2, v2, rfl, e2⟩ := s.sl i2 _ g2
  exact ⟨v1, h1, v2, h2, Or.inr ⟨W, B', M', _, cls, fs, h, b, .cons (Dat.mv m _ _ e1) (.cons (Dat.mv m _ _ e2) .nil), q⟩⟩
theorem lamXF_1 {C : CtF K} {R : Wd K → List Da → Value → List (Str × Da) → Prop} {d1 : Da} {cls : Value} {fs : List (Str × Da)} (g1 : Γ[i1]? = some (.dat d1)) (h : R W [d1] cls fs) : LamXx W Γ (tLm1 (spYF C R) i1) cls fs := fun H0 B0 B σ H M s B' H' M' m b E Q q => by
  obtain ⟨o1, h1, v1, rfl, e1⟩ := s.sl i1 _ g1
  exact ⟨v1, h1, Or.inr ⟨W, B', M', _, cls, fs, h, b, .cons (Dat.mv m _ _ e1) .nil, q⟩⟩
theorem lamXF_K1 {C : CtF K} {R : Wd K → List Da → Value → List (Str × Da) → Prop} {d1 : Da} {cls : Value} {fs : List (Str × Da)} (g1 : Γ[i1]? = some (.dat d1)) (h : R W [d1] cls fs) : LamXx W Γ (tLmK1 (spYF C R) i1) cls fs := fun H0 B0 B σ H M s B' H' M' m b E Q q => by
  obtain ⟨o1, h1, v1, rfl, e1⟩ := s.sl i1 _ g1
  exact ⟨v1, h1, Or.inr ⟨W, B', M', _, cls, fs, h, b, .cons (Dat.mv m _ _ e1) .nil, q⟩⟩
theorem lamXF_K2 {C : CtF K} {R : Wd K → List Da → Value → List (Str × Da) → Prop} {d1 d2 : Da} {cls : Value} {fs : List (Str × Da)} (g1 : Γ[i1]? = some (.dat d1)) (g2 : Γ[i2]? = some (.dat d2)) (h : R W [d2, d1] cls fs) : LamXx W Γ (tLmK2 (spYF C R) i1 i2) cls fs := fun H0 B0 B σ H M s B' H' M' m b E Q q => by
  obtain ⟨o1, h1, v1, rfl, e1⟩ := s.sl i1 _ g1
  obtain ⟨o2, h2, v2, rfl, e2⟩ := s.sl i2 _ g2
  exact ⟨v1, h1, v2, h2, Or.inr ⟨W, B', M', _, cls, fs, h, b, .cons (Dat.mv m _ _ e2) (.cons (Dat.mv m _ _ e1) .nil), q⟩⟩
/-- isinstance(x, a type), x an own instance -/
theorem rc_isiI {C : Addr} {fs : List (Str × Da)} {n : String} {b : Bool} (O : C8.InsC K C) (hk : PySem.W.kitOne K (.ref C) (.type n) = some b) (p : P (.bl b)) : Rc W (rIsiA K) [.ins C fs, .ty n] P := fun B H M vs s h Q q => by
  unfold Dats at h
  obtain ⟨v, r, rfl, h1, t1⟩ := h
  unfold Dats at t1
  obtain ⟨v2, r2, rfl, h2, t2⟩ := t1
  unfold Dats at t2
  subst t2
  unfold Dat at h1 h2
  obtain ⟨a, dx, xs, rfl, ⟨nb, hx⟩, t⟩ := h1
  subst h2
  exact Or.inl ⟨.ref a, .ty n, .ref C, .type n, b, rfl, .ty n, .base (.ins hx O.cl O.ha O.hn O.htk O.hm), hk, q _ (.bl b) H Kp.refl s.dr (dBl.mpr rfl) p⟩
end
end WJ
set_option Elab.async false
set_option linter.all false
set_option maxRecDepth 100000
set_option maxHeartbeats 4000000
/-! A23: schemas over data (as for laws k75, k76) -/
namespace P23
open PySem L2 TL WJ
def t_is_name (K : PySem.W.Frag) : TS :=
  (tRet (tAndV (tCB (rIsiA K) (tCons (tVar 0) (tCons (tC (.ty "str")) tNil))) (tAndV (tChain (rI0 fun i j => .bl (decide (i ≤ j))) (rI0 fun i j => .bl (decide (i ≤ j))) (tC (.int 1)) (tCB (rLenA K) (tCons (tVar 0) tNil)) (tC (.int 6))) (tCB (rAll K) (tCons (tLc (iStr (tVar 0)) (gName 1) tYes (tOp (rInA K false) (tVar 1) (tC (.str "abcdefghijklmnopqrstuvwxyz"))) [1]) tNil)))))
def t_are_tables (K : PySem.W.Frag) (sp_is_name : Sp) : TS :=
  (tSeq (tIfS (tOr (tNot (tB (tCB (rIsiA K) (tCons (tVar 0) (tCons (tTup (tCons (tC (.ty "list")) (tCons (tC (.ty "tuple")) tNil))) tNil))))) (tNot (tTest (tChain (rI0 fun i j => .bl (decide (i ≤ j))) (rI0 fun i j => .bl (decide (i ≤ j))) (tC (.int 1)) (tCB (rLenA K) (tCons (tVar 0) tNil)) (tC (.int 5))))))
    (tRet (tC (.bl false)))
    tNext)
    (tRet (tAndV (tCB (rAll K) (tCons (tLc (iList K (tVar 0)) (gName 1) tYes (tCall sp_is_name [] E0 (tCons (tVar 1) tNil)) [1]) tNil)) (tOp (rEqA K) (tLenSetS K (tVar 0)) (tCB (rLenA K) (tCons (tVar 0) tNil))))))
def t_is_reference (K : PySem.W.Frag) : TS :=
  (tSeq (tIfS (tOr (tNot (tB (tCB (rIsiA K) (tCons (tVar 0) (tCons (tC (.ty "tuple")) tNil))))) (tOr (tTest (tOp (rNeA K) (tCB (rLenA K) (tCons (tVar 0) tNil)) (tC (.int 3)))) (tNot (tB (tCB (rAll K) (tCons (tLc (iTup K (tVar 0)) (gName 2) tYes (tCB (rIsiA K) (tCons (tVar 2) (tCons (tC (.ty "str")) tNil))) [2]) tNil))))))
    (tRet (tC (.bl false)))
    tNext)
    (tRet (tAndV (tOp (rInA K false) (tOp (rIxA K) (tVar 0) (tC (.int 0))) (tVar 1)) (tAndV (tOp (rInA K false) (tOp (rIxA K) (tVar 0) (tC (.int 1))) (tVar 1)) (tOp (rInA K false) (tOp (rIxA K) (tVar 0) (tC (.int 2))) (tC (.ref (He.ga K "KINDS"))))))))
def t_are_references (K : PySem.W.Frag) (sp_is_name : Sp) (sp_is_reference : Sp) : TS :=
  (tSeq (tIfS (tOr (tNot (tB (tCB (rIsiA K) (tCons (tVar 0) (tCons (tC (.ty "dict")) tNil))))) (tTest (tOp (rI0 fun i j => .bl (decide (j < i))) (tCB (rLenA K) (tCons (tVar 0) tNil)) (tC (.int 6)))))
    (tRet (tC (.bl false)))
    tNext)
    (tRet (tCB (rAll K) (tCons (tLockO (tLc (iKeys (tVar 0)) (gName 2) tYes (tAndV (tCall sp_is_name [] E0 (tCons (tVar 2) tNil)) (tCall sp_is_reference [] E0 (tCons (tOp (rIxA K) (tVar 0) (tVar 2)) (tCons (tVar 1) tNil)))) [2])) tNil))))
def t_Schema___init__ (K : PySem.W.Frag) (sp_are_references : Sp) (sp_are_tables : Sp) : TS :=
  (tSeq (tIfS (tOr (tNot (tB (tCall sp_are_tables [] E0 (tCons (tVar 1) tNil)))) (tNot (tB (tCall sp_are_references [] E0 (tCons (tVar 2) (tCons (tVar 1) tNil))))))
    tNever
    tNext)
    (tSeq (sFld K (tVar 0) (tCB (rTupA K) (tCons (tCB (rSortedA K) (tCons (tVar 1) tNil)) tNil)) "own_tables")
    (sFld K (tVar 0) (tDc (iList K (tCB (rSortedA K) (tCons (tVar 2) tNil))) (gName 3) tYes (tVar 3) (tOp (rIxA K) (tVar 2) (tVar 3)) [3]) "own_references")))
def t_Schema_tables (K : PySem.W.Frag) : TS :=
  (tRet (tFld K (tVar 0) "own_tables"))
def t_Schema_references (K : PySem.W.Frag) : TS :=
  (tRet (tCB (rDictD) (tCons (tFld K (tVar 0) "own_references") tNil)))
section
variable {K : PySem.W.Frag} {W : Wd K} {Γ : List En} {p : Po}
theorem inV_strs (x : Str) (tk : List Str) : inV (.str x) (tk.map V.str) = decide (x ∈ tk) := by
  unfold inV
  rw [List.any_map, Bool.eq_iff_iff, List.any_eq_true, decide_eq_true_iff]
  constructor
  · rintro ⟨y, hy, e⟩
    have e2 : (y == x) = true := e
    rw [← eq_of_beq e2]
    exact hy
  · intro h
    exact ⟨x, h, by show (x == x) = true; exact beq_self_eq_true x⟩
theorem flats_strs : ∀ tk : List Str, flats (tk.map Da.str) = some (tk.map V.str)
  | [] => rfl
  | x :: tk => by
    rw [List.map_cons]
    unfold flats
    rw [flats_strs tk]
    rfl
/-- the names that are taken: a list of them, or the keys of a dict -/
def Taken (d : Da) (tk : List Str) : Prop := d = .lst (tk.map Da.str) ∨ ∃ es : List (Key × Da), d = .dct es ∧ es.map (·.1) = tk.map Sum.inr
theorem val_keys {es : List (Key × Da)} {k : Key} : (valD es k).isSome = (es.map fun q : Key × Da => q.1).any fun q => decide (q = k) := by
  unfold valD
  rw [Option.isSome_map, List.isSome_find?, List.any_map]
  rfl
theorem any_inr (tk : List Str) (x : Str) : ((tk.map Sum.inr : List Key).any fun q => decide (q = Sum.inr x)) = decide (x ∈ tk) := by
  rw [List.any_map, Bool.eq_iff_iff, List.any_eq_true, decide_eq_true_iff]
  constructor
  · rintro ⟨y, hy, e⟩
    have e2 := of_decide_eq_true e
    cases e2
    exact hy
  · exact fun hx => ⟨x, hx, decide_eq_true rfl⟩
theorem rv_in_tk {neg : Bool} {x : Str} {d : Da} {tk : List Str} (h : Taken d tk) : Rv W (rInA K neg) (.str x) d (· = .bl (if neg then !decide (x ∈ tk) else decide (x ∈ tk))) := by
  rcases h with rfl | ⟨es, rfl, hk⟩
  · exact rv_inL (w := .str x) rfl (flats_strs tk) (by rw [inV_strs])
  · refine rv_inD (k := Sum.inr x) ?_
    have e : (valD es (Sum.inr x)).isSome = decide (x ∈ tk) := by
      rw [val_keys]
      have hk2 : (es.map fun q : Key × Da => q.1) = tk.map Sum.inr := hk
      rw [hk2, any_inr]
    rw [e]
theorem strs_of {P : Str → Prop} : ∀ {acc : List Da}, (∀ x ∈ acc, ∃ y, x = Da.str y ∧ P y) → ∃ xs : List Str, acc = xs.map Da.str ∧ ∀ x ∈ xs, P x
  | [], _ => ⟨[], rfl, fun _ z => nomatch z⟩
  | a :: acc, h => by
    obtain ⟨y, e, hy⟩ := h a List.mem_cons_self
    obtain ⟨xs, e2, h2⟩ := strs_of fun x hx => h x (List.mem_cons_of_mem _ hx)
    refine ⟨y :: xs, by rw [e, e2]; rfl, fun x hx => ?_⟩
    rcases List.mem_cons.mp hx with z | z
    · rw [z]; exact hy
    · exact h2 x z
theorem cutD_strs (xs : List Str) (lo hi : Option Int) : ∃ ys : List Str, cutD (xs.map Da.str) lo hi = ys.map Da.str ∧ (∀ y ∈ ys, y ∈ xs) ∧ ys.length ≤ xs.length := by
  unfold cutD
  rw [List.length_map]
  refine ⟨(xs.drop (HT.sIx xs.length 0 lo)).take (HT.sIx xs.length xs.length hi - HT.sIx xs.length 0 lo), by rw [List.map_take, List.map_drop], fun y hy => List.mem_of_mem_drop (List.mem_of_mem_take hy), ?_⟩
  rw [List.length_take, List.length_drop]
  omega
/-- a reference: its name, from, to, kind -/
abbrev Rf := Str × Str × Str × Str
def endsD (r : Rf) : Da := .tup [.str r.2.1, .str r.2.2.1, .str r.2.2.2]
def refD (r : Rf) : Key × Da := (Sum.inr r.1, endsD r)
def refsD (rs : List Rf) : List (Key × Da) := rs.map refD
/-- tables and references of a schema -/
structure Parts (ts : List Str) (rs : List Rf) : Prop where
  tn : ts.all isName = true
  td : ts.Nodup
  t1 : 1 ≤ ts.length
  t5 : ts.length ≤ 5
  rn : (rs.map (·.1)).all isName = true
  rd : (rs.map (·.1)).Nodup
  r6 : rs.length ≤ 6
  re : ∀ r ∈ rs, r.2.1 ∈ ts ∧ r.2.2.1 ∈ ts ∧ (r.2.2.2 = "many" ∨ r.2.2.2 = "single")
theorem refs_keys (rs : List Rf) : (refsD rs).map (·.1) = (rs.map (·.1)).map Sum.inr := by
  unfold refsD
  rw [List.map_map, List.map_map]
  rfl
theorem put_new {es : List (Key × Da)} {k : Key} {d : Da} (h : (es.any fun kv => decide (kv.1 = k)) = false) : putD es k d = es ++ [(k, d)] := by
  unfold putD
  rw [h]
  rfl
theorem refs_new {rs : List Rf} {x : Str} (h : x ∉ rs.map (·.1)) : ((refsD rs).any fun kv => decide (kv.1 = (Sum.inr x : Key))) = false := by
  rw [List.any_eq_false]
  intro kv hkv z
  unfold refsD at hkv
  obtain ⟨r, hr, rfl⟩ := List.mem_map.mp hkv
  have e : (Sum.inr r.1 : Key) = Sum.inr x := of_decide_eq_true z
  cases e
  exact h (List.mem_map.mpr ⟨r, hr, rfl⟩)
end
section
variable {K : PySem.W.Frag} {W : Wd K} {Γ : List En} {p : Po}
/-! ### names -/
def signB : Da → Da
  | .str x => .bl (letterC (x.cps.getD 0 0))
  | _ => .bl false
theorem signs_B (x : Str) : (signsD x).map signB = (x.cps.toList.map letterC).map Da.bl := by
  unfold signsD
  rw [List.map_map, List.map_map]
  rfl
theorem all_id {α : Type} (f : α → Bool) (l : List α) : (l.map f).all id = l.all f := by
  rw [List.all_map]
  rfl
theorem es_is_name {x : Str} (hl : x.length ≤ 100000) (hp : p.rt (.bl (isName x))) : Es W (t_is_name K) [.dat (.str x), .no] 0 p := by
  have e0 : isName x = (true && ((decide (1 ≤ (x.length : Int)) && decide ((x.length : Int) ≤ 6)) && x.cps.toList.all letterC)) := by
    unfold isName lettersS
    rw [Bool.true_and]
    congr 1
    congr 1
    · exact decide_eq_decide.mpr (by omega)
    · exact decide_eq_decide.mpr (by omega)
  rw [e0] at hp
  refine es_ret (c := 0) (P := (· = .bl (true && ((decide (1 ≤ (x.length : Int)) && decide ((x.length : Int) ≤ 6)) && x.cps.toList.all letterC)))) ?_ (fun d e => by rw [e]; exact hp)
  refine ev_andB (c1 := 0) (c2 := 0) (ev_cbE (ea_cons2 (c1 := 0) (c2 := 0) (ev_var rfl) (ea_cons2 (c1 := 0) (c2 := 0) ev_ty ea_nil)) (rc_isi (t := "str") rfl rfl rfl)) (fun _ => ?_)
  refine ev_andB (c1 := 0) (c2 := 0) (ev_chainB (c1 := 0) (c2 := 0) (c3 := 0) ev_int (ev_cbE (ea_cons2 (c1 := 0) (c2 := 0) (ev_var rfl) ea_nil) (rc_lenS (by omega) rfl)) ev_int rv_I0B (fun _ => rv_I0B)) (fun z => ?_)
  have h6 : x.length ≤ 6 := by
    have z2 : decide ((x.length : Int) ≤ 6) = true := (Bool.and_eq_true_iff.mp z).2
    have := of_decide_eq_true z2
    omega
  have hall := evF_map (K := K) (W := W) (Γ := [.dat (.str x), .no]) (Γ' := []) (i := 1) (n := 6) (c0 := 0) (cb := 0) (wi := iStr (tVar 0)) (te := tOp (rInA K false) (tVar 1) (tC (.str "abcdefghijklmnopqrstuvwxyz"))) (ds := signsD x) (f := signB) (ei_str ((ev_var rfl).imp fun d e => ⟨x, e, rfl⟩)) (fun d hd => by
    obtain ⟨c, hc, rfl⟩ := List.mem_map.mp hd
    exact ev_op2 (c1 := 0) (c2 := 0) (ev_var rfl) ev_str (rv_inS (z := abc) rfl)) (by rw [signs_len]; exact h6) (by decide)
  rw [signs_B] at hall
  exact ev_cbE (ea_cons2 (c1 := 0) (c2 := 0) hall.ev' ea_nil) (rc_all (by rw [all_id]))
def IsNameOk (W : Wd K) (sp : Sp) : Prop := ∀ x : Str, x.length ≤ 100000 → Fn W sp [.str x] 0 (· = .bl (isName x))
/-! ### tables -/
def nameB : Da → Da
  | .str x => .bl (isName x)
  | _ => .bl false
theorem names_B (xs : List Str) : (xs.map Da.str).map nameB = (xs.map isName).map Da.bl := by
  rw [List.map_map, List.map_map]
  rfl
theorem once_go : ∀ (xs acc : List Str), (acc ++ xs).Nodup → xs.foldl onceS acc = acc ++ xs
  | [], acc, _ => by rw [List.append_nil]; rfl
  | x :: xs, acc, h => by
    have hx : acc.any (· == x) = false := by
      rw [List.any_eq_false]
      intro y hy z
      have e : y = x := eq_of_beq z
      subst e
      exact (List.nodup_append.mp h).2.2 y hy y List.mem_cons_self rfl
    have e1 : onceS acc x = acc ++ [x] := by
      unfold onceS
      rw [hx]
      rfl
    rw [List.foldl_cons, e1, once_go xs (acc ++ [x]) (by rw [List.append_assoc]; exact h), List.append_assoc]
    rfl
theorem once_nodup {xs : List Str} (h : xs.Nodup) : (once xs).length = xs.length := by
  unfold once
  rw [once_go xs [] (by simpa using h)]
  rfl
/-- of tables as they should be -/
theorem es_are_tables {sp : Sp} {ts : List Str} (hN : IsNameOk W sp) (h1 : 1 ≤ ts.length) (h5 : ts.length ≤ 5) (hn : ts.all isName = true) (hd : ts.Nodup) (hp : p.rt (.bl true)) : Es W (t_are_tables K sp) [.dat (.lst (ts.map Da.str)), .no] 0 p := by
  refine es_seqE (c1 := 0) (c2 := 0) (Γ' := [.dat (.lst (ts.map Da.str)), .no]) (es_ifB (c1 := 0) (c2 := 0) (b := false) ?_ (fun z => by cases z) (fun _ => es_next rfl)) ?_
  · refine (et_orB (c1 := 0) (c2 := 0) (a := false) (b := false) ((et_notB (a := true) (et_BB (ev_isi2 (P := (· = .bl true)) (Px := (· = .lst (ts.map Da.str))) (ev_var rfl) (fun d e => ⟨"list", true, false, by rw [e]; rfl, rfl, rfl, rfl⟩))))) (fun _ => (et_notB (a := true) (et_testB ?_))))
    refine (ev_chainB (c1 := 0) (c2 := 0) (c3 := 0) (a := true) (b := true) ev_int (ev_cbE (ea_cons2 (c1 := 0) (c2 := 0) (ev_var rfl) ea_nil) (rc_lenL rfl)) ev_int ?_ (fun _ => ?_))
    · rw [List.length_map]
      have := rv_I0B (K := K) (W := W) (q := fun i j => decide (i ≤ j)) (i := 1) (j := ts.length)
      rw [decide_eq_true (by omega)] at this
      exact this
    · rw [List.length_map]
      have := rv_I0B (K := K) (W := W) (q := fun i j => decide (i ≤ j)) (i := ts.length) (j := 5)
      rw [decide_eq_true (by omega)] at this
      exact this
  · refine es_ret (c := 0) (P := (· = .bl (true && true))) ?_ (fun d e => by rw [e]; exact hp)
    refine ev_andB (c1 := 0) (c2 := 0) ?_ (fun _ => ?_)
    · have hall := evF_map (K := K) (W := W) (Γ := [.dat (.lst (ts.map Da.str)), .no]) (Γ' := []) (i := 1) (n := 5) (c0 := 0) (cb := 0) (wi := iList K (tVar 0)) (te := tCall sp [] E0 (tCons (tVar 1) tNil)) (ds := ts.map Da.str) (f := nameB) (ei_list ((ev_var rfl).imp fun d e => ⟨_, e, rfl⟩)) (fun d hd => by
        obtain ⟨x, hx, rfl⟩ := List.mem_map.mp hd
        have hx6 := (name_len (List.all_eq_true.mp hn x hx)).2
        exact ev_callE (c1 := 0) (c2 := 0) (ea_cons2 (c1 := 0) (c2 := 0) (ev_var rfl) ea_nil) (hN x (by omega))) (by rw [List.length_map]; exact h5) (by decide)
      rw [names_B] at hall
      exact ev_cbE (ea_cons2 (c1 := 0) (c2 := 0) hall.ev' ea_nil) (rc_all (by rw [all_id, hn]))
    · refine (ev_op2 (c1 := 0) (c2 := 0) (ev_lenSet (xs := ts) ((ev_var rfl).imp fun d e => Or.inl e) (by omega)) (ev_cbE (ea_cons2 (c1 := 0) (c2 := 0) (ev_var rfl) ea_nil) (rc_lenL rfl)) ?_)
      rw [once_nodup hd, List.length_map]
      exact rv_eqF (w1 := .int ts.length) (w2 := .int ts.length) rfl rfl rfl (by rw [decide_eq_true rfl])
def TablesOk (W : Wd K) (sp : Sp) : Prop := ∀ ts : List Str, 1 ≤ ts.length → ts.length ≤ 5 → ts.all isName = true → ts.Nodup → Fn W sp [.lst (ts.map Da.str)] 0 (· = .bl true)
end
section
variable {K : PySem.W.Frag} {W : Wd K} {Γ : List En} {p : Po}
/-! ### references -/
def kindsD : Da := .tup [.str "many", .str "single"]
/-- the tuple of the kinds, as the module has written it -/
def KindsOk (K : PySem.W.Frag) (a : Addr) : Prop := SqT K (fun _ => none) a [.str "many", .str "single"]
theorem ev_kinds {a : Addr} (h : KindsOk K a) : Ev W (tC (.ref a)) Γ 0 (· = kindsD) := ev_c fun B H => by
  unfold kindsD Dat
  exact ⟨a, _, rfl, Or.inr h, .cons (by unfold Dat; rfl) (.cons (by unfold Dat; rfl) .nil)⟩
theorem rv_in_kinds {neg : Bool} {k : Str} : Rv W (rInA K neg) (.str k) kindsD (· = .bl (if neg then !decide (k = "many" ∨ k = "single") else decide (k = "many" ∨ k = "single"))) := by
  refine rv_inT (w := .str k) (ws := [.str "many", .str "single"]) rfl rfl ?_
  have e : inV (.str k) [.str "many", .str "single"] = decide (k = "many" ∨ k = "single") := by
    have := inV_strs k ["many", "single"]
    rw [show (["many", "single"] : List Str).map V.str = [.str "many", .str "single"] from rfl] at this
    rw [this]
    exact decide_eq_decide.mpr (by simp)
  rw [e]
theorem rv_in_ts {x : Str} {ts : List Str} : Rv W (rInA K false) (.str x) (.lst (ts.map Da.str)) (· = .bl (decide (x ∈ ts))) := (rv_in_tk (neg := false) (Or.inl rfl))
theorem es_is_reference {ts : List Str} {a b k : Str} (hK : KindsOk K (He.ga K "KINDS")) (ha : a ∈ ts) (hb : b ∈ ts) (hk : k = "many" ∨ k = "single") (hp : p.rt (.bl true)) :
    Es W (t_is_reference K) [.dat (.tup [.str a, .str b, .str k]), .dat (.lst (ts.map Da.str)), .no] 0 p := by
  refine es_seqE (c1 := 0) (c2 := 0) (Γ' := [.dat (.tup [.str a, .str b, .str k]), .dat (.lst (ts.map Da.str)), .no]) (es_ifB (c1 := 0) (c2 := 0) (b := false) ?_ (fun z => by cases z) (fun _ => es_next rfl)) ?_
  · refine (et_orB (c1 := 0) (c2 := 0) (a := false) (b := false) ((et_notB (a := true) (et_BB (ev_cbE (ea_cons2 (c1 := 0) (c2 := 0) (ev_var rfl) (ea_cons2 (c1 := 0) (c2 := 0) ev_ty ea_nil)) (rc_isi (t := "tuple") rfl rfl rfl))))) (fun _ => ?_))
    refine (et_orB (c1 := 0) (c2 := 0) (a := false) (b := false) (et_testB (ev_op2 (c1 := 0) (c2 := 0) (ev_cbE (ea_cons2 (c1 := 0) (c2 := 0) (ev_var rfl) ea_nil) (rc_lenT rfl)) ev_int (rv_neF (w1 := .int 3) (w2 := .int 3) rfl rfl rfl (by rw [decide_eq_true rfl]; rfl)))) (fun _ => et_notB (a := true) (et_BB ?_)))
    have hall := evF_map (K := K) (W := W) (Γ := [.dat (.tup [.str a, .str b, .str k]), .dat (.lst (ts.map Da.str)), .no]) (Γ' := []) (i := 2) (n := 3) (c0 := 0) (cb := 0) (wi := iTup K (tVar 0)) (te := tCB (rIsiA K) (tCons (tVar 2) (tCons (tC (.ty "str")) tNil))) (ds := [.str a, .str b, .str k]) (f := fun _ => .bl true) (ei_tup ((ev_var rfl).imp fun d e => ⟨_, e, rfl⟩)) (fun d hd => by
      have : ∃ x, d = .str x := by
        simp only [List.mem_cons, List.not_mem_nil, or_false] at hd
        rcases hd with e | e | e <;> exact ⟨_, e⟩
      obtain ⟨x, rfl⟩ := this
      exact ev_cbE (ea_cons2 (c1 := 0) (c2 := 0) (ev_var rfl) (ea_cons2 (c1 := 0) (c2 := 0) ev_ty ea_nil)) (rc_isi (t := "str") rfl rfl rfl)) (Nat.le_refl _) (by decide)
    exact ev_cbE (ea_cons2 (c1 := 0) (c2 := 0) hall.ev' ea_nil) (rc_all (bs := [true, true, true]) rfl)
  · refine es_ret (c := 0) (P := (· = .bl (true && (true && true)))) ?_ (fun d e => by rw [e]; exact hp)
    refine ev_andB (c1 := 0) (c2 := 0) ((ev_op2 (c1 := 0) (c2 := 0) (ev_op2 (c1 := 0) (c2 := 0) (ev_var rfl) ev_int (rv_ixT (d := .str a) rfl rfl)) (ev_var rfl) rv_in_ts).imp fun d e => by rw [e, decide_eq_true ha]) (fun _ => ?_)
    refine ev_andB (c1 := 0) (c2 := 0) ((ev_op2 (c1 := 0) (c2 := 0) (ev_op2 (c1 := 0) (c2 := 0) (ev_var rfl) ev_int (rv_ixT (d := .str b) rfl rfl)) (ev_var rfl) rv_in_ts).imp fun d e => by rw [e, decide_eq_true hb]) (fun _ => ?_)
    exact (ev_op2 (c1 := 0) (c2 := 0) (ev_op2 (c1 := 0) (c2 := 0) (ev_var rfl) ev_int (rv_ixT (d := .str k) rfl rfl)) (ev_kinds hK) (rv_in_kinds (neg := false))).imp fun d e => by rw [e, if_neg Bool.false_ne_true, decide_eq_true hk]
def IsRefOk (W : Wd K) (sp : Sp) : Prop := ∀ (ts : List Str) (a b k : Str), a ∈ ts → b ∈ ts → (k = "many" ∨ k = "single") → Fn W sp [.tup [.str a, .str b, .str k], .lst (ts.map Da.str)] 0 (· = .bl true)
theorem val_ref {rs : List Rf} (hd : (rs.map (·.1)).Nodup) {r : Rf} (hr : r ∈ rs) : valD (refsD rs) (Sum.inr r.1) = some (endsD r) := by
  induction rs with
  | nil => cases hr
  | cons q rs ih =>
    rw [List.map_cons, List.nodup_cons] at hd
    unfold refsD valD
    rw [List.map_cons, List.find?_cons]
    by_cases e : q = r
    · subst e
      simp [refD]
    · have hr2 : r ∈ rs := by
        rcases List.mem_cons.mp hr with z | z
        · exact absurd z.symm e
        · exact z
      have ne : ¬ ((refD q).1 = (Sum.inr r.1 : Key)) := fun z => by
        have z2 : (Sum.inr q.1 : Key) = Sum.inr r.1 := z
        exact hd.1 (List.mem_map.mpr ⟨r, hr2, (Sum.inr.inj z2).symm⟩)
      rw [decide_eq_false ne]
      exact ih hd.2 hr2
theorem es_are_references {spN spR : Sp} {ts : List Str} {rs : List Rf} (hN : IsNameOk W spN) (hR : IsRefOk W spR) (hP : Parts ts rs) (hp : p.rt (.bl true)) :
    Es W (t_are_references K spN spR) [.dat (.dct (refsD rs)), .dat (.lst (ts.map Da.str)), .no] 0 p := by
  have hlen : (refsD rs).length = rs.length := by unfold refsD; rw [List.length_map]
  refine es_seqE (c1 := 0) (c2 := 0) (Γ' := [.dat (.dct (refsD rs)), .dat (.lst (ts.map Da.str)), .no]) (es_ifB (c1 := 0) (c2 := 0) (b := false) ?_ (fun z => by cases z) (fun _ => es_next rfl)) ?_
  · refine (et_orB (c1 := 0) (c2 := 0) (a := false) (b := false) ((et_notB (a := true) (et_BB (ev_cbE (ea_cons2 (c1 := 0) (c2 := 0) (ev_var rfl) (ea_cons2 (c1 := 0) (c2 := 0) ev_ty ea_nil)) (rc_isi (t := "dict") rfl rfl rfl))))) (fun _ => et_testB ?_))
    refine (ev_op2 (c1 := 0) (c2 := 0) (ev_cbE (ea_cons2 (c1 := 0) (c2 := 0) (ev_var rfl) ea_nil) (rc_lenD rfl)) ev_int ?_)
    rw [hlen]
    have := rv_I0B (K := K) (W := W) (q := fun i j => decide (j < i)) (i := rs.length) (j := 6)
    rw [decide_eq_false (by have := hP.r6; omega)] at this
    exact this
  · refine es_ret (c := 0) (P := (· = .bl true)) ?_ (fun d e => by rw [e]; exact hp)
    have hall := evF_lcK (K := K) (W := W) (Γ := [.dat (.dct (refsD rs)), .dat (.lst (ts.map Da.str)), .no]) (g := gName 2) (vs := [2]) (tt := tYes) (te := tAndV (tCall spN [] E0 (tCons (tVar 2) tNil)) (tCall spR [] E0 (tCons (tOp (rIxA K) (tVar 0) (tVar 2)) (tCons (tVar 1) tNil)))) (cb := 0) (n := 6) (i := 0) (es := refsD rs) (R := fun j acc => acc = (List.replicate j true).map Da.bl) rfl rfl (fun j k acc hk ha => ?_) (by rw [hlen]; exact hP.r6) (by decide)
    · refine ev_cbE (ea_cons2 (c1 := 0) (c2 := 0) (hall.ev'.imp fun d e => e) ea_nil) (rc_all ?_)
      simp
    · rw [refs_keys, List.getElem?_map, List.getElem?_map] at hk
      cases hr : rs[j]? with
      | none =>
        rw [hr] at hk
        cases hk
      | some r =>
        rw [hr] at hk
        cases hk
        have hm := List.mem_of_getElem? hr
        have hnm : isName r.1 = true := List.all_eq_true.mp hP.rn r.1 (List.mem_map.mpr ⟨r, hm, rfl⟩)
        have hn6 := (name_len hnm).2
        obtain ⟨h1, h2, h3⟩ := hP.re r hm
        refine ⟨_, (· = true), 0, 0, eg_name, by omega, et_yes rfl, fun _ => ?_, fun z => by cases z⟩
        refine Ev.imp (P := (· = .bl (true && true))) ?_ (fun d e => by
          rw [e, ha, List.replicate_succ', List.map_append]
          rfl)
        refine ev_andB (c1 := 0) (c2 := 0) ((ev_callE (c1 := 0) (c2 := 0) (ea_cons2 (c1 := 0) (c2 := 0) (ev_var (d := .str r.1) rfl) ea_nil) (hN r.1 (by omega))).imp fun d e => by rw [e, hnm]) (fun _ => ?_)
        exact ev_callE (c1 := 0) (c2 := 0) (ea_cons2 (c1 := 0) (c2 := 0) (ev_op2 (c1 := 0) (c2 := 0) (ev_var rfl) (ev_var (d := .str r.1) rfl) (rv_ixD (k := Sum.inr r.1) (val_ref hP.rd hm) rfl)) (ea_cons2 (c1 := 0) (c2 := 0) (ev_var rfl) ea_nil)) (hR ts _ _ _ h1 h2 h3)
def RefsOk (W : Wd K) (sp : Sp) : Prop := ∀ (ts : List Str) (rs : List Rf), Parts ts rs → Fn W sp [.dct (refsD rs), .lst (ts.map Da.str)] 0 (· = .bl true)
end
section
variable {K : PySem.W.Frag} {W : Wd K} {Γ : List En} {p : Po}
/-! ### a schema -/
def sortR (rs : List Rf) : List Rf := sortBy (fun r => r.1) rs
theorem sortR_perm (rs : List Rf) : (sortR rs).Perm rs := sortBy_perm _ rs
theorem sortR_map (rs : List Rf) : (sortR rs).map (fun r => r.1) = sortT (rs.map fun r => r.1) := sortBy_map _ rs
def schF (ts : List Str) (rs : List Rf) : List (Str × Da) := [("own_tables", .tup ((sortT ts).map Da.str)), ("own_references", .dct (refsD (sortR rs)))]
theorem Parts.perm {ts ts' : List Str} {rs rs' : List Rf} (h : Parts ts rs) (ht : ts'.Perm ts) (hr : rs'.Perm rs) : Parts ts' rs' := by
  refine ⟨?_, ht.nodup_iff.mpr h.td, by rw [ht.length_eq]; exact h.t1, by rw [ht.length_eq]; exact h.t5, ?_, (hr.map _).nodup_iff.mpr h.rd, by rw [hr.length_eq]; exact h.r6, fun r hm => ?_⟩
  · exact List.all_eq_true.mpr fun x hx => List.all_eq_true.mp h.tn x (ht.mem_iff.mp hx)
  · exact List.all_eq_true.mpr fun x hx => List.all_eq_true.mp h.rn x ((hr.map _).mem_iff.mp hx)
  · obtain ⟨h1, h2, h3⟩ := h.re r (hr.mem_iff.mp hm)
    exact ⟨ht.mem_iff.mpr h1, ht.mem_iff.mpr h2, h3⟩
theorem key_inj {rs : List Rf} (hd : (rs.map fun r => r.1).Nodup) : ∀ a ∈ rs, ∀ b ∈ rs, a.1 = b.1 → a = b := by
  induction rs with
  | nil => intro a ha; cases ha
  | cons q rs ih =>
    rw [List.map_cons, List.nodup_cons] at hd
    intro a ha b hb e
    rcases List.mem_cons.mp ha with z | z <;> rcases List.mem_cons.mp hb with z' | z'
    · rw [z, z']
    · exact absurd (List.mem_map.mpr ⟨b, z', by rw [← e, z]⟩) hd.1
    · exact absurd (List.mem_map.mpr ⟨a, z, by rw [e, z']⟩) hd.1
    · exact ih hd.2 a z b z' e
theorem sortR_eq {rs rs' : List Rf} (hd : (rs.map fun r => r.1).Nodup) (hp : rs'.Perm rs) : sortR rs' = sortR rs := sortBy_eq hp (key_inj hd)
theorem not_before {rs : List Rf} (hd : (rs.map fun r => r.1).Nodup) {j : Nat} {r : Rf} (h : rs[j]? = some r) : r.1 ∉ (rs.take j).map fun r => r.1 := fun z => by
  obtain ⟨q, hq, e⟩ := List.mem_map.mp z
  obtain ⟨i, hi⟩ := List.mem_iff_getElem?.mp hq
  have hij : i < j := by
    have := (List.getElem?_eq_some_iff.mp hi).1
    rw [List.length_take] at this
    omega
  rw [List.getElem?_take_of_lt hij] at hi
  have h1 : (rs.map fun r => r.1)[i]? = some r.1 := by rw [List.getElem?_map, hi]; exact congrArg some e
  have h2 : (rs.map fun r => r.1)[j]? = some r.1 := by rw [List.getElem?_map, h]; rfl
  have hil : i < (rs.map fun r => r.1).length := (List.getElem?_eq_some_iff.mp h1).1
  exact absurd ((List.getElem?_inj hil hd).mp (h1.trans h2.symm)) (by omega)
theorem es_init {spR spT : Sp} {C aI : Addr} {ts : List Str} {rs : List Rf} (cl : Cls K C) (n1 : NoAttr K C "own_tables") (n2 : NoAttr K C "own_references") (hT : TablesOk W spT) (hR : RefsOk W spR) (hP : Parts ts rs)
    (hp : p.nx [.ownI aI C (schF ts rs), .dat (.lst (ts.map Da.str)), .dat (.dct (refsD rs)), .no]) : Es W (t_Schema___init__ K spR spT) [.ownI aI C [], .dat (.lst (ts.map Da.str)), .dat (.dct (refsD rs)), .no] 0 p := by
  refine es_seqE (c1 := 0) (c2 := 0) (Γ' := [.ownI aI C [], .dat (.lst (ts.map Da.str)), .dat (.dct (refsD rs)), .no]) (es_ifB (c1 := 0) (c2 := 0) (b := false) ?_ (fun z => by cases z) (fun _ => es_next rfl)) ?_
  · exact et_orB (c1 := 0) (c2 := 0) (a := false) (b := false) (et_notB (a := true) (et_BB (ev_callE (c1 := 0) (c2 := 0) (ea_cons2 (c1 := 0) (c2 := 0) (ev_var rfl) ea_nil) (hT ts hP.t1 hP.t5 hP.tn hP.td))))
      (fun _ => et_notB (a := true) (et_BB (ev_callE (c1 := 0) (c2 := 0) (ea_cons2 (c1 := 0) (c2 := 0) (ev_var rfl) (ea_cons2 (c1 := 0) (c2 := 0) (ev_var rfl) ea_nil)) (hR ts rs hP))))
  refine es_seqE (c1 := 0) (c2 := 0) (Γ' := [.ownI aI C [("own_tables", .tup ((sortT ts).map Da.str))], .dat (.lst (ts.map Da.str)), .dat (.dct (refsD rs)), .no])
    (es_fld (i := 0) (fs := []) (P := (· = .tup ((sortT ts).map Da.str))) cl n1 rfl ?_ (by decide) (fun d e => by rw [e]; rfl)) ?_
  · exact ev_cbE (ea_cons2 (c1 := 0) (c2 := 0) (evF_cb (ea_cons2 (c1 := 0) (c2 := 0) (ev_var rfl) ea_nil) (fun ds e => by rw [e]; exact rcF_sortT (by have := hP.t5; omega))).ev' ea_nil) (rc_tup (Or.inl rfl) rfl)
  have hS : (((sortR rs).map fun r => r.1).map Da.str) = (sortT (rs.map fun r => r.1)).map Da.str := by rw [sortR_map]
  have hPs := hP.perm (List.Perm.refl ts) (sortR_perm rs)
  have hds := evG_dc (K := K) (W := W) (Γ := [.ownI aI C [("own_tables", .tup ((sortT ts).map Da.str))], .dat (.lst (ts.map Da.str)), .dat (.dct (refsD rs)), .no]) (wi := iList K (tCB (rSortedA K) (tCons (tVar 2) tNil))) (g := gName 3) (vs := [3]) (tt := tYes) (tk := tVar 3) (tv := tOp (rIxA K) (tVar 2) (tVar 3)) (c0 := 0) (cb := 0) (n := 6)
    (Pi := fun ds => ds = ((sortR rs).map fun r => r.1).map Da.str) (R := fun _ j acc => acc = refsD ((sortR rs).take j))
    (ei_list ((evF_cb (ea_cons2 (c1 := 0) (c2 := 0) (ev_var rfl) ea_nil) (fun ds e => by rw [e]; exact rcF_sortTD (refs_keys rs) (by rw [List.length_map]; have := hP.r6; omega))).ev'.imp fun d e => ⟨_, e, hS.symm⟩)) (fun ds _ => rfl) (fun ds j d acc e hj ha => by
      rw [e, List.getElem?_map, List.getElem?_map] at hj
      cases hr : (sortR rs)[j]? with
      | none =>
        rw [hr] at hj
        cases hj
      | some r =>
        rw [hr] at hj
        cases hj
        have hm := List.mem_of_getElem? hr
        refine ⟨_, (· = true), (· = Sum.inr r.1), 0, 0, 0, eg_name, by omega, et_yes rfl, fun _ => (ev_var (d := .str r.1) rfl).imp fun d e => ⟨Sum.inr r.1, e, rfl⟩, fun k ek => ?_, fun z => by cases z⟩
        rw [ek]
        refine (ev_op2 (c1 := 0) (c2 := 0) (P := (· = endsD r)) (ev_var rfl) (ev_var (d := .str r.1) rfl) (rv_ixD (k := Sum.inr r.1) (val_ref hP.rd ((sortR_perm rs).mem_iff.mp hm)) rfl)).imp fun d e => ?_
        rw [e, ha]
        show putD (refsD ((sortR rs).take j)) (Sum.inr r.1) (endsD r) = refsD ((sortR rs).take (j + 1))
        rw [put_new (refs_new (not_before hPs.rd hr)), List.take_succ, hr]
        unfold refsD
        rw [List.map_append]
        rfl) (fun ds e => by rw [e, List.length_map, List.length_map, (sortR_perm rs).length_eq]; exact hP.r6) (by decide)
  refine es_fld (i := 0) (fs := [("own_tables", .tup ((sortT ts).map Da.str))]) (P := (· = .dct (refsD (sortR rs)))) cl n2 rfl ?_ (by simp) (fun d e => by rw [e]; exact hp)
  refine hds.ev.weak (by decide) fun d ⟨acc, e1, ds, e2, e3⟩ => ?_
  rw [e1, e3, e2, List.length_map, List.length_map, List.take_length]
def initT (K : PySem.W.Frag) : CtI K := fun W ds c P => ∃ ts rs, Parts ts rs ∧ ds = [.lst (ts.map Da.str), .dct (refsD rs)] ∧ c = 0 ∧ P (schF ts rs)
theorem es_tables {C : Addr} {ts : List Str} {rs : List Rf} (cl : Cls K C) (n1 : NoAttr K C "own_tables") (hp : p.rt (.tup ((sortT ts).map Da.str))) : Es W (t_Schema_tables K) [.dat (.ins C (schF ts rs))] 0 p :=
  es_retE (ev_fldE cl n1 (ev_var rfl) rfl) hp
theorem es_references {C : Addr} {ts : List Str} {rs : List Rf} (cl : Cls K C) (n2 : NoAttr K C "own_references") (hp : p.rt (.dct (refsD (sortR rs)))) : Es W (t_Schema_references K) [.dat (.ins C (schF ts rs))] 0 p :=
  es_ret (evG_dict (ev_fldE cl n2 (ev_var rfl) rfl)).ev (fun d ⟨es, e1, e2⟩ => by rw [e1, e2]; exact hp)
def TabsOk (W : Wd K) (C : Addr) (sp : Sp) : Prop := ∀ ts rs, Fn W sp [.ins C (schF ts rs)] 0 (· = .tup ((sortT ts).map Da.str))
def RefdOk (W : Wd K) (C : Addr) (sp : Sp) : Prop := ∀ ts rs, Fn W sp [.ins C (schF ts rs)] 0 (· = .dct (refsD (sortR rs)))
end
section
variable {K : PySem.W.Frag} {W : Wd K} {Γ : List En} {p : Po}
/-! ### == of two schemas -/
theorem shaped_tup {xs : List Str} (h : xs.all okS = true) : SeqAt.shaped (Da.tup (xs.map Da.str)).py = true := by
  have e : (Da.tup (xs.map Da.str)).py = .tuple (xs.map PyData.str) := by
    rw [Da.py, pys_strs]
  rw [e]
  refine shaped_of ?_ ?_
  · rw [PyData.canLay0]
    exact can_strs xs h
  · rw [PyData.depth]
    have := dep_strs xs
    omega
theorem plain_tup {xs : List Str} : (Da.tup (xs.map Da.str)).plain = true := by
  unfold Da.plain
  exact plains_strs xs
theorem eqv_tup (xs ys : List Str) : PyData.eqv (Da.tup (xs.map Da.str)).py (Da.tup (ys.map Da.str)).py = decide (xs = ys) := by
  have e : ∀ zs : List Str, (Da.tup (zs.map Da.str)).py = .tuple (zs.map PyData.str) := fun zs => by rw [Da.py, pys_strs]
  rw [e, e, PyData.eqv]
  exact eqvAll_strs xs ys
theorem ends_tup (r : Rf) : endsD r = .tup ([r.2.1, r.2.2.1, r.2.2.2].map Da.str) := rfl
theorem kind_okS {k : Str} (h : k = "many" ∨ k = "single") : okS k = true := by
  rcases h with rfl | rfl <;> decide +kernel
theorem Parts.ends {ts : List Str} {rs : List Rf} (h : Parts ts rs) {r : Rf} (hr : r ∈ rs) : [r.2.1, r.2.2.1, r.2.2.2].all okS = true := by
  obtain ⟨h1, h2, h3⟩ := h.re r hr
  simp only [List.all_cons, List.all_nil, Bool.and_true, Bool.and_eq_true]
  exact ⟨name_ok (List.all_eq_true.mp h.tn _ h1), name_ok (List.all_eq_true.mp h.tn _ h2), kind_okS h3⟩
theorem refs_ok {ts : List Str} {rs : List Rf} (h : Parts ts rs) : okK (refsD rs) = true := by
  unfold okK refsD
  rw [List.all_map, List.all_eq_true]
  intro r hr
  show ((endsD r).plain && SeqAt.shaped (endsD r).py) = true
  rw [ends_tup, plain_tup, shaped_tup (h.ends hr)]
  rfl
theorem refs_eq {ts : List Str} {rs : List Rf} (h : Parts ts rs) : eqvK (refsD rs) (refsD rs) = true := by
  unfold eqvK
  rw [Bool.and_eq_true]
  refine ⟨by simp, ?_⟩
  rw [List.all_eq_true]
  intro q hq
  obtain ⟨r, hr, rfl⟩ := List.mem_map.mp (show q ∈ rs.map refD from hq)
  have e : valD (refsD rs) (refD r).1 = some (endsD r) := val_ref h.rd hr
  rw [e]
  show PyData.eqv (endsD r).py (endsD r).py = true
  rw [ends_tup, eqv_tup, decide_eq_true rfl]
theorem sorted_all {ts : List Str} {P : Str → Bool} (h : ts.all P = true) : (sortT ts).all P = true := List.all_eq_true.mpr fun x hx => List.all_eq_true.mp h x ((sortT_perm ts).mem_iff.mp hx)
theorem names_okS {ts : List Str} (h : ts.all isName = true) : ts.all okS = true := List.all_eq_true.mpr fun x hx => name_ok (List.all_eq_true.mp h x hx)
theorem cut_last (xs : List Da) (d : Da) : cutD (xs ++ [d]) none (some (-1)) = xs := by
  show ((xs ++ [d]).drop 0).take ((-1 + ((xs ++ [d]).length : Int)).toNat - 0) = xs
  have e : (-1 + ((xs ++ [d]).length : Int)).toNat = xs.length := by
    rw [List.length_append, List.length_singleton]
    omega
  rw [e, Nat.sub_zero, List.drop_zero, List.take_left']
  rfl
theorem at_last (xs : List Da) (d : Da) : atI (xs ++ [d]) (-1) = some d := by
  unfold atI ixN
  rw [if_neg (by decide), if_pos (by rw [List.length_append, List.length_singleton]; omega)]
  have e : (-1 + ((xs ++ [d]).length : Int)).toNat = xs.length := by
    rw [List.length_append, List.length_singleton]
    omega
  rw [e]
  simp
theorem ev_w {i : Nat} {ws : List Str} {j : Nat} {w : Str} (hi : Γ[i]? = some (.dat (.lst (ws.map Da.str)))) (hw : ws[j]? = some w) : Ev W (tOp (rIxA K) (tVar i) (tC (.int (j : Nat)))) Γ 0 (· = .str w) := by
  refine ev_op2 (c1 := 0) (c2 := 0) (ev_var hi) ev_int (rv_ixL (atI_of (by omega) ?_) rfl)
  rw [Int.toNat_natCast, List.getElem?_map, hw]
  rfl
theorem ev_lenW {i : Nat} {ws : List Str} (hi : Γ[i]? = some (.dat (.lst (ws.map Da.str)))) : Ev W (tCB (rLenA K) (tCons (tVar i) tNil)) Γ 0 (· = .int ws.length) := by
  refine ev_cbE (ea_cons2 (c1 := 0) (c2 := 0) (ev_var hi) ea_nil) (rc_lenL ?_)
  rw [List.length_map]
theorem et_neI {ta tb : TE} {i j : Int} {c1 c2 : Nat} (ha : Ev W ta Γ c1 (· = .int i)) (hb : Ev W tb Γ c2 (· = .int j)) : EvT W (tTest (tOp (rNeA K) ta tb)) Γ (c1 + c2) (· = !decide (i = j)) :=
  et_testB (ev_op2 ha hb (rv_neF (w1 := .int i) (w2 := .int j) rfl rfl rfl (by congr 2; exact decide_eq_decide.mpr ⟨fun e => by injection e, fun e => by rw [e]⟩)))
theorem et_neS {ta tb : TE} {x y : Str} {c1 c2 : Nat} (ha : Ev W ta Γ c1 (· = .str x)) (hb : Ev W tb Γ c2 (· = .str y)) : EvT W (tTest (tOp (rNeA K) ta tb)) Γ (c1 + c2) (· = !decide (x = y)) :=
  et_testB (ev_op2 ha hb (rv_neF (w1 := .str x) (w2 := .str y) rfl rfl rfl (by congr 2; exact decide_eq_decide.mpr ⟨fun e => by injection e, fun e => by rw [e]⟩)))
theorem enum_get {ds : List Da} {i : Nat} {d : Da} (h : (enumD ds)[i]? = some d) : ∃ e, ds[i]? = some e ∧ d = .tup [.int i, e] := by
  unfold enumD at h
  rw [List.getElem?_mapIdx] at h
  cases e : ds[i]? with
  | none =>
    rw [e] at h
    cases h
  | some x =>
    rw [e] at h
    cases h
    exact ⟨x, rfl, rfl⟩
theorem enum_len (ds : List Da) : (enumD ds).length = ds.length := by simp [enumD]
def itemR (r : Rf) : Da := .tup [.str r.1, endsD r]
theorem items_refs (rs : List Rf) : itemsD (refsD rs) = rs.map itemR := by
  unfold itemsD refsD
  rw [List.map_map]
  rfl
theorem itemR_py (r : Rf) : (itemR r).py = .tuple [.str r.1, .tuple [.str r.2.1, .str r.2.2.1, .str r.2.2.2]] := by
  unfold itemR endsD
  simp only [Da.py, pys]
theorem leD_item {a b : Rf} (h : a.1 = b.1 → a = b) : leT a.1 b.1 = leD (itemR a) (itemR b) := by
  unfold leT leD
  rw [itemR_py, itemR_py, PySem.W.dataLt_tuple]
  by_cases e : a.1 = b.1
  · have e2 := h e
    subst e2
    rw [PyProof.Rows.lex_irrefl, decide_eq_false (List.lt_irrefl _)]
  · rw [PySem.W.dataLt_all_no (x := .str b.1) (y := .str a.1) rfl ?_, PySem.W.dataLt_str]
    show (PyData.eqv (.str b.1) (.str a.1)) = false
    have : (b.1 == a.1) = false := by
      rw [beq_eq_false_iff_ne]
      exact fun z => e z.symm
    simpa [PyData.eqv] using this
theorem items_sorted {ts : List Str} {rs : List Rf} (hP : Parts ts rs) : sortD (itemsD (refsD rs)) = itemsD (refsD (sortR rs)) := by
  rw [items_refs, items_refs]
  unfold sortD sortR sortBy
  exact (PySem.W.sort_maps itemR fun a ha b hb => leD_item (fun e => key_inj hP.rd a ha b hb e)).symm
theorem items_ok (rs : List Rf) : SortOk (itemsD (refsD rs)) := by
  have hp : pys (itemsD (refsD rs)) = rs.map fun r => (itemR r).py := by
    rw [pys_map, items_refs, List.map_map]
    rfl
  refine ⟨?_, ?_, ?_, ?_⟩
  · rw [items_refs]
    induction rs with
    | nil => rfl
    | cons r rs ih =>
      rw [List.map_cons]
      unfold plains
      rw [ih (by rw [pys_map, items_refs, List.map_map]; rfl)]
      rfl
  · rw [hp]
    intro d hd d' hd'
    obtain ⟨r, _, rfl⟩ := List.mem_map.mp hd
    obtain ⟨r', _, rfl⟩ := List.mem_map.mp hd'
    rw [itemR_py, itemR_py]
    rfl
  · rw [hp]
    refine Or.inl fun d hd => ?_
    obtain ⟨r, _, rfl⟩ := List.mem_map.mp hd
    exact ⟨_, _, itemR_py r⟩
  · rw [hp]
    intro d hd
    obtain ⟨r, _, rfl⟩ := List.mem_map.mp hd
    rw [itemR_py]
    simp [PyData.depth, PyData.depthAll]
end
end P23
set_option Elab.async false
set_option linter.all false
set_option maxRecDepth 100000
set_option maxHeartbeats 2000000
/-! WkZ4: list(zip(xs, ys)), two lists of one length -/
namespace WJ
open PySem PySem.Spec PyProof.Rows L2
/-- H with new objects -/
def over (N H : Hp) : Hp := fun b => match N b with
  | some o => some o
  | none => H b
theorem over_new {N H : Hp} {b : Addr} {o : HO} (h : N b = some o) : over N H b = some o := by unfold over; rw [h]
theorem over_old {N H : Hp} {b : Addr} (h : N b = none) : over N H b = H b := by unfold over; rw [h]
theorem inv_many {X : Cx} {pins : List (Addr × Obj)} {σ : L2.St} {H : Hp} {s : Shared} {h' : Heap} {tk : Nat} (I : Inv X pins σ H s) (hk : ∀ b o, s.heap.get? b = some o → h'.get? b = some o) (N : Hp) (hN : ∀ b o, N b = some o → s.heap.objs.size ≤ b ∧ ObjOk X.prog X.w (over N H) h' b o) :
    Inv X pins σ (over N H) { s with heap := h', toks := tk } := by
  have new : ∀ b o, N b = some o → H b = none := fun b o e => I.hok.fresh (hN b o e).1
  have kp : ∀ b u, H b = some u → over N H b = some u := fun b u e => by
    cases q : N b with
    | none => rw [over_old q]; exact e
    | some o => rw [new b o q] at e; cases e
  have low : ∀ b o, s.heap.get? b = some o → N b = none := fun b o e => by
    cases q : N b with
    | none => rfl
    | some o' => exact absurd (Heap.lt_size e) (Nat.not_lt.mpr (hN b o' q).1)
  refine I.call' (ch := []) rfl ⟨fun b o q _ _ _ => hk b o q, fun b o q _ _ _ => ⟨o.slots, hk b o q⟩, fun b o q n _ => ?_, fun b o q _ => ⟨o, hk b o q⟩, fun b xs q => kp b _ q, fun b o u q => kp b _ q, fun b ps q => ⟨#[], by rw [kp b _ q]; simp⟩⟩ (fun b u q => ?_) I.bare fun b z => by simp at z
  · rw [over_old (low b o q)]
    exact n
  · cases e : N b with
    | some o =>
      rw [over_new e] at q
      cases q
      exact (hN b _ e).2
    | none =>
      rw [over_old e] at q
      exact (I.hok b u q).stay (fun d v _ y => hk d v y) (fun d y => kp d _ y) fun d xs y => kp d _ y
/-- the zip z behind i turns, its tuple still out if there was one -/
structure ZAt (h : Heap) (z TI TO i1 i2 l1 l2 S : Addr) (xs ys : Array Value) (i : Nat) : Prop where
  ti : IsPair h TI (.ref i1) (.ref i2)
  a1 : h.IsListIter i1 l1 i
  a2 : h.IsListIter i2 l2 i
  b1 : h.IsList l1 xs
  b2 : h.IsList l2 ys
  st : (IsZip h z TI TO .none ∧ ∃ a b, IsPair h TO a b) ∨ ∃ T f oT, IsZipHeld h z TI TO T f ∧ h.get? T = some oT ∧ S < T
/-- the tuples that came so far -/
structure Came (h : Heap) (S : Addr) (xs ys : Array Value) (as : List Addr) : Prop where
  rise : as.Pairwise (· < ·)
  above : ∀ a ∈ as, S < a
  at_ : ∀ (j : Nat) (a : Addr), as[j]? = some a → ∃ x y, xs[j]? = some x ∧ ys[j]? = some y ∧ IsPair h a x y
section
variable {prog : Program} {w : World} {A : Around} {R : Result → Shared → Prop} {s : Shared} {z TI TO i1 i2 l1 l2 S : Addr} {xs ys : Array Value}
theorem zl_loop (hh : A.handled = none) (D : ZipApart z TI TO i1 i2 l1 l2) (sz : z < S) (sTI : TI < S) (sTO : TO < S) (s1 : i1 < S) (s2 : i2 < S) (sl1 : l1 < S) (sl2 : l2 < S) (hxy : xs.size = ys.size) (hn : xs.size ≤ sizeLine) (res : Value) {lo : Nat} {h₁ : Heap} (hlo : ∀ b o, h₁.get? b = some o → b ≠ S ∧ b ≠ z ∧ b ≠ TO ∧ b ≠ i1 ∧ b ≠ i2)
    (hR : ∀ h' acc c as, (∀ b o, h₁.get? b = some o → h'.get? b = some o) → h'.get? S = some { cls := .type "list", dict := none, data := .seq acc c, slots := #[] } → as.length = xs.size → Came h' S xs ys as → acc.toList = as.map Value.ref → R (.ok (.ret res)) { s with heap := h' }) :
    ∀ (k i : Nat) (h : Heap) (c : Nat) (acc : Array Value) (as : List Addr), xs.size - i = k → i ≤ xs.size → ZAt h z TI TO i1 i2 l1 l2 S xs ys i → (∀ b o, h₁.get? b = some o → h.get? b = some o) →
      h.get? S = some { cls := .type "list", dict := none, data := .seq acc c, slots := #[] } → acc.toList = as.map Value.ref → as.length = i → Came h S xs ys as → codeAny (model prog w) A (.builtin "list.extend.loop" ⟨[.ref S, .ref z, res], []⟩) R { s with heap := h } := by
  have ne : ∀ {c : Addr}, c < S → c ≠ S := fun h => Nat.ne_of_lt h
  intro k
  induction k with
  | zero =>
    intro i h c acc as hk hi st hkp hS hacc hal G
    have hin : i = xs.size := by omega
    refine codeAny_builtin PySem.F.entry_extend_loop ?_
    rw [Around.under_plainId PySem.F.plain_extend_loop _]
    show wpAny _ A.in1 (pyNext (.ref z) >>= _) _ _ _
    have fin : ∀ h', (∀ c o, c ≠ z → c ≠ TO → c ≠ i1 → c ≠ i2 → h.get? c = some o → h'.get? c = some o) → R (.ok (.ret res)) { s with heap := h' } := fun h' e => by
      refine hR h' acc c as (fun b o q => ?_) (e S _ (ne sz).symm (ne sTO).symm (ne s1).symm (ne s2).symm hS) (by omega) ⟨G.rise, G.above, fun j a hj => ?_⟩ hacc
      · obtain ⟨n1, n2, n3, n4, n5⟩ := hlo b o q
        exact e b o n2 n3 n4 n5 (hkp b o q)
      · obtain ⟨x, y, f1, f2, f3⟩ := G.at_ j a hj
        have ha := G.above a (List.mem_of_getElem? hj)
        exact ⟨x, y, f1, f2, e a _ (Nat.ne_of_gt (Nat.lt_trans sz ha)) (Nat.ne_of_gt (Nat.lt_trans sTO ha)) (Nat.ne_of_gt (Nat.lt_trans s1 ha)) (Nat.ne_of_gt (Nat.lt_trans s2 ha)) f3⟩
    rcases st.st with ⟨hz, a, b, hTO⟩ | ⟨T, f, oT, hz, hT, hST⟩
    · refine wpAny_bind (wpAny_pyNext_zip_end (s := { s with heap := h }) (A := A.in1) hh D hz st.ti hTO st.a1 st.a2 st.b1 st.b2 (.inl (Array.getElem?_eq_none (by omega))) fun h' e => ?_)
      exact wpAny_pure (fin h' e)
    · refine wpAny_bind (wpAny_pyNext_zip_end_held (s := { s with heap := h }) (A := A.in1) hh D hz hT st.ti st.a1 st.a2 st.b1 st.b2 (.inl (Array.getElem?_eq_none (by omega))) fun h' e => ?_)
      exact wpAny_pure (fin h' fun c o n1 _ n3 n4 => e c o n1 n3 n4)
  | succ k ih =>
    intro i h c acc as hk hi st hkp hS hacc hal G
    have hlt : i < xs.size := by omega
    have ex := Array.getElem?_eq_getElem hlt
    have ey := Array.getElem?_eq_getElem (xs := ys) (i := i) (by omega)
    have hsz : acc.size = i := by rw [← Array.length_toList, hacc, List.length_map, hal]
    have hSl : S < h.objs.size := Heap.lt_size hS
    refine codeAny_builtin PySem.F.entry_extend_loop ?_
    rw [Around.under_plainId PySem.F.plain_extend_loop _]
    show wpAny _ A.in1 (pyNext (.ref z) >>= _) _ _ _
    -- one more tuple
    have more : ∀ h', ((IsZip h' z TI TO .none ∧ ∃ a b, IsPair h' TO a b) ∨ ∃ T f oT, IsZipHeld h' z TI TO T f ∧ h'.get? T = some oT ∧ S < T) → h'.IsListIter i1 l1 (i + 1) → h'.IsListIter i2 l2 (i + 1) → IsPair h' h.objs.size xs[i] ys[i] → (∀ c o, c ≠ z → c ≠ TO → c ≠ i1 → c ≠ i2 → h.get? c = some o → h'.get? c = some o) →
        wpAny (model prog w) A.in1 (updateSeq S (·.push (Value.ref h.objs.size)) >>= fun _ => again (.builtin "list.extend.loop" ⟨[.ref S, .ref z, res], []⟩))
          (fun fin s' => match fin with | .done f => R (.ok f) s' | .again c' => c'.quiet = true ∧ codeAny (model prog w) A c' R s') (fun e s' => R (.error e) s') { s with heap := h' } := fun h' hz h1 h2 hp e => by
      have hS' := e S _ (ne sz).symm (ne sTO).symm (ne s1).symm (ne s2).symm hS
      have up : ∀ b o, b ≠ S → h'.get? b = some o → (h'.update S (Obj.mapSeq (·.push (Value.ref h.objs.size)))).get? b = some o := fun b o hb q => (Heap.get?_update_other _ _ (Ne.symm hb)).trans q
      refine wpAny_bind ?_
      refine wpAny_updateSeq hS' rfl (wpAny_pure ⟨plainId_quiet PySem.F.plain_extend_loop _, ih (i + 1) _ _ (acc.push (Value.ref h.objs.size)) (as ++ [h.objs.size]) (by omega) hlt ⟨?_, ?_, ?_, ?_, ?_, ?_⟩ (fun b o q => ?_) (Heap.get?_update_self _ hS' rfl) (by rw [Array.toList_push, hacc, List.map_append]; rfl) (by rw [List.length_append, hal]; rfl) ⟨?_, ?_, ?_⟩⟩) (by rw [hsz]; omega) (by show (acc.push (Value.ref h.objs.size)).size ≤ sizeLine + 1; rw [Array.size_push, hsz]; omega)
      · exact up TI _ (ne sTI) (e TI _ D.TIz D.TITO D.TIi1 D.TIi2 st.ti)
      · exact h1.at fun o q => up i1 o (ne s1) q
      · exact h2.at fun o q => up i2 o (ne s2) q
      · exact st.b1.at fun o q => up l1 o (ne sl1) (e l1 o D.l1z D.l1TO D.l1i1 D.l1i2 q)
      · exact st.b2.at fun o q => up l2 o (ne sl2) (e l2 o D.l2z D.l2TO D.l2i1 D.l2i2 q)
      · rcases hz with ⟨hz, a, b, hTO⟩ | ⟨T, f, oT, hz, hT, hST⟩
        · exact .inl ⟨up z _ (ne sz) hz, a, b, up TO _ (ne sTO) hTO⟩
        · exact .inr ⟨T, f, oT, up z _ (ne sz) hz, up T _ (Nat.ne_of_gt hST) hT, hST⟩
      · obtain ⟨n1, n2, n3, n4, n5⟩ := hlo b o q
        exact up b o n1 (e b o n2 n3 n4 n5 (hkp b o q))
      · refine List.pairwise_append.mpr ⟨G.rise, List.pairwise_singleton _ _, fun a ha b hb => ?_⟩
        rw [List.mem_singleton.mp hb]
        obtain ⟨j, hj⟩ := List.mem_iff_getElem?.mp ha
        obtain ⟨_, _, _, _, q⟩ := G.at_ j a hj
        exact Heap.lt_size q
      · intro a ha
        rcases List.mem_append.mp ha with ha | ha
        · exact G.above a ha
        · rw [List.mem_singleton.mp ha]
          exact hSl
      · intro j b hj
        rcases Nat.lt_trichotomy j as.length with q | q | q
        · rw [List.getElem?_append_left q] at hj
          obtain ⟨x, y, f1, f2, f3⟩ := G.at_ j b hj
          have hb := G.above b (List.mem_of_getElem? hj)
          exact ⟨x, y, f1, f2, up b _ (Nat.ne_of_gt hb) (e b _ (Nat.ne_of_gt (Nat.lt_trans sz hb)) (Nat.ne_of_gt (Nat.lt_trans sTO hb)) (Nat.ne_of_gt (Nat.lt_trans s1 hb)) (Nat.ne_of_gt (Nat.lt_trans s2 hb)) f3)⟩
        · subst q
          have hb : h.objs.size = b := by simpa using hj
          subst hb
          exact ⟨_, _, by rw [hal]; exact ex, by rw [hal]; exact ey, up _ _ (Nat.ne_of_gt hSl) hp⟩
        · rw [List.getElem?_eq_none (by rw [List.length_append, List.length_singleton]; omega)] at hj
          cases hj
    rcases st.st with ⟨hz, a, b, hTO⟩ | ⟨T, f, oT, hz, hT, hST⟩
    · refine wpAny_bind (wpAny_pyNext_zip_item (s := { s with heap := h }) D hz st.ti hTO st.a1 st.a2 st.b1 st.b2 ex ey fun h' g1 g2 g3 g4 g5 g6 g7 => ?_)
      exact more h' (.inr ⟨h.objs.size, false, _, g1, g5, hSl⟩) g3 g4 g5 g7
    · refine wpAny_bind (wpAny_pyNext_zip_item_held (s := { s with heap := h }) D hz hT st.ti st.a1 st.a2 st.b1 st.b2 ex ey fun h' g1 g3 g4 g5 g6 g7 => ?_)
      have hT' : h'.get? T = some oT := g7 T _ (Nat.ne_of_gt (Nat.lt_trans sz hST)) (Nat.ne_of_gt (Nat.lt_trans s1 hST)) (Nat.ne_of_gt (Nat.lt_trans s2 hST)) hT
      exact more h' (.inr ⟨T, true, oT, g1, hT', hST⟩) g3 g4 g5 fun c o n1 _ n3 n4 => g7 c o n1 n3 n4
end
end WJ
set_option Elab.async false
set_option linter.all false
set_option maxRecDepth 100000
set_option maxHeartbeats 2000000
/-! WkZ5: list(zip(xs, ys)), the call -/
namespace WJ
open PySem PySem.Spec PyProof.Rows L2
theorem zip_nolen : typeLookup (.type "zip") "__len__" = pure none := am_miss_of_fast (by decide +kernel)
theorem zip_nohint : typeLookup (.type "zip") "__length_hint__" = pure none := am_miss_of_fast (by decide +kernel)
section
variable {prog : Program} {w : World} {A : Around} {E : Value → Shared → Prop} {s : Shared} {z TI TO i1 i2 l1 l2 : Addr} {xs ys : Array Value}
theorem ZAt.up {h h' : Heap} {S S' : Addr} {i : Nat} (st : ZAt h z TI TO i1 i2 l1 l2 S xs ys i) (h0 : i = 0) (hz : IsZip h z TI TO .none ∧ ∃ a b, IsPair h TO a b) (k : ∀ b o, b < S → h.get? b = some o → h'.get? b = some o) (sz : z < S) (sTI : TI < S) (sTO : TO < S) (s1 : i1 < S) (s2 : i2 < S) (sl1 : l1 < S) (sl2 : l2 < S) : ZAt h' z TI TO i1 i2 l1 l2 S' xs ys i := by
  obtain ⟨hz, a, b, hTO⟩ := hz
  exact ⟨k TI _ sTI st.ti, st.a1.at fun o q => k i1 o s1 q, st.a2.at fun o q => k i2 o s2 q, st.b1.at fun o q => k l1 o sl1 q, st.b2.at fun o q => k l2 o sl2 q, .inl ⟨k z _ sz hz, a, b, k TO _ sTO hTO⟩⟩
theorem zl_call {h₀ : Heap} {Q : Value → Shared → Prop} (hh : A.handled = none) (D : ZipApart z TI TO i1 i2 l1 l2) (hz : IsZip s.heap z TI TO .none) {a b : Value} (hTO : IsPair s.heap TO a b) (hTI : IsPair s.heap TI (.ref i1) (.ref i2)) (a1 : s.heap.IsListIter i1 l1 0) (a2 : s.heap.IsListIter i2 l2 0) (b1 : s.heap.IsList l1 xs) (b2 : s.heap.IsList l2 ys)
    (hxy : xs.size = ys.size) (hn : xs.size ≤ sizeLine) (h0 : ∀ b o, h₀.get? b = some o → s.heap.get? b = some o ∧ b ≠ z ∧ b ≠ TO ∧ b ≠ i1 ∧ b ≠ i2)
    (q : ∀ h' acc c as, (∀ b o, h₀.get? b = some o → h'.get? b = some o) → h'.get? s.heap.objs.size = some { cls := .type "list", dict := none, data := .seq acc c, slots := #[] } → as.length = xs.size → Came h' s.heap.objs.size xs ys as → acc.toList = as.map Value.ref → Q (.ref s.heap.objs.size) { s with heap := h' }) :
    wpAny (model prog w) A (call (.type "list") [.ref z]) Q E s := by
  have sz : z < s.heap.objs.size := Heap.lt_size hz
  have sTI : TI < s.heap.objs.size := Heap.lt_size hTI
  have sTO : TO < s.heap.objs.size := Heap.lt_size hTO
  have s1 : i1 < s.heap.objs.size := let ⟨_, e, _⟩ := a1; Heap.lt_size e
  have s2 : i2 < s.heap.objs.size := let ⟨_, e, _⟩ := a2; Heap.lt_size e
  have sl1 : l1 < s.heap.objs.size := let ⟨_, e, _⟩ := b1; Heap.lt_size e
  have sl2 : l2 < s.heap.objs.size := let ⟨_, e, _⟩ := b2; Heap.lt_size e
  have st0 : ZAt s.heap z TI TO i1 i2 l1 l2 s.heap.objs.size xs ys 0 := ⟨hTI, a1, a2, b1, b2, .inl ⟨hz, a, b, hTO⟩⟩
  refine callType_codes (Q₁ := fun obj s₁ => obj = .ref s.heap.objs.size ∧ s₁ = { s with heap := s.heap.push { cls := .type "list", data := .seq #[] } }) PySem.F.called_list (PySem.F.typeCall_list_1 _) PySem.F.entry_list_init
    (code_list_new _ ⟨rfl, rfl⟩) fun obj s₁ h₁ => ?_
  obtain ⟨rfl, rfl⟩ := h₁
  have hS : (s.heap.push { cls := .type "list", data := .seq #[] }).get? s.heap.objs.size = some { cls := .type "list", data := .seq #[] } := Heap.get?_push_size _ rfl
  refine ⟨⟨_, hS, rfl⟩, PySem.F.args_list_init_2 _ _, ?_⟩
  generalize hS0 : s.heap.objs.size = S at hS sz sTI sTO s1 s2 sl1 sl2 st0 q ⊢
  have keep0 : ∀ b o, b < S → s.heap.get? b = some o → (s.heap.push { cls := .type "list", data := .seq #[] }).get? b = some o := fun b o _ e => Heap.get?_push_of_some _ e
  generalize s.heap.push { cls := .type "list", data := .seq #[] } = g0 at hS keep0 ⊢
  show wpAny _ _ (do let old ← Builtin.List.listItems (.ref S); Builtin.List.listUpdate (.ref S) (fun _ => #[]); letGo old.toList.reverse; Builtin.List.listExtendWith (.ref S) (.ref z) .none) _ _ _
  refine wpAny_bind ?_
  unfold Builtin.List.listItems
  refine wpAny_bind (wpAny_seqItems hS rfl (wpAny_pure ?_))
  show wpAny _ _ (updateSeq S (fun _ => #[]) >>= fun _ => letGo (#[] : Array Value).toList.reverse >>= fun _ => Builtin.List.listExtendWith (.ref S) (.ref z) .none) _ _ _
  refine wpAny_bind (wpAny_updateSeq hS rfl ?_)
  have hS1 := Heap.get?_update_self (Obj.mapSeq (fun _ => (#[] : Array Value))) hS rfl
  have keep1 : ∀ b o, b < S → s.heap.get? b = some o → (g0.update S (Obj.mapSeq (fun _ => (#[] : Array Value)))).get? b = some o := fun b o hb e => (Heap.get?_update_other _ _ (Nat.ne_of_gt hb)).trans (keep0 b o hb e)
  refine wpAny_bind (wpAny_letGo ?_)
  generalize g0.update S (Obj.mapSeq (fun _ => (#[] : Array Value))) = g1 at hS1 keep1 ⊢
  have hT : Shared.TypeIs { s with heap := g1 } (.ref z) "zip" := ⟨_, keep1 z _ sz hz, rfl⟩
  unfold Builtin.List.listExtendWith
  refine wpAny_bind (wpAny_typeOf hT ?_)
  have c1 : Builtin.List.listSameRef (.ref S) (.ref z) = false := by simp [Builtin.List.listSameRef, Nat.ne_of_gt sz]
  have c2 : (Value.type "zip" == Value.type "list") = false := by decide
  have c3 : (Value.type "zip" == Value.type "tuple") = false := by decide
  simp only [c1, c2, c3, Bool.or_false, Bool.false_eq_true, if_false]
  refine wpAny_bind (wpAny_pyIter_zip (keep1 z _ sz hz) ?_)
  refine wpAny_bind (wpAny_holding ?_)
  unfold Builtin.List.listLengthHint
  refine wpAny_bind (wpAny_specialOf hT zip_nolen ?_)
  show wpAny _ _ (specialOf (Value.ref z) (Str.ofString "__length_hint__") >>= _) _ _ _
  refine wpAny_bind (wpAny_specialOf hT zip_nohint ?_)
  refine wpAny_pure ?_
  show wpAny _ _ (rule "list.extend.makes-room" >>= fun _ => Builtin.List.listTouch (.ref S) >>= fun _ => again (.builtin "list.extend.loop" ⟨[.ref S, .ref z, .none], []⟩)) _ _ _
  refine wpAny_bind (wpAny_rule ?_)
  refine wpAny_bind ?_
  show wpAny _ _ (updateSeq S (·.push .none) >>= fun _ => updateSeq S (·.pop)) _ _ _
  refine wpAny_bind (wpAny_updateSeq hS1 rfl ?_)
  have hS2 := Heap.get?_update_self (Obj.mapSeq (·.push Value.none)) hS1 rfl
  refine wpAny_updateSeq (hz := by seq_fits) hS2 rfl ?_
  have hS3 := Heap.get?_update_self (Obj.mapSeq (·.pop)) hS2 rfl
  have keep3 : ∀ b o, b < S → s.heap.get? b = some o → ((g1.update S (Obj.mapSeq (·.push Value.none))).update S (Obj.mapSeq (·.pop))).get? b = some o := fun b o hb e => (Heap.get?_update_other _ _ (Nat.ne_of_gt hb)).trans ((Heap.get?_update_other _ _ (Nat.ne_of_gt hb)).trans (keep1 b o hb e))
  have lt0 : ∀ b o, h₀.get? b = some o → b < S := fun b o e => by rw [← hS0]; exact Heap.lt_size (h0 b o e).1
  refine wpAny_pure ⟨plainId_quiet PySem.F.plain_extend_loop _, ?_⟩
  exact zl_loop (A := A.in1) (R := wants (fun r s₂ => r = .none ∧ Q (.ref S) s₂) E) (s := s) (h₁ := h₀) (lo := 0) hh D sz sTI sTO s1 s2 sl1 sl2 hxy hn .none (fun b o e => ⟨Nat.ne_of_lt (lt0 b o e), (h0 b o e).2⟩) (fun h' acc c as e1 e2 e3 e4 e5 => ⟨rfl, q h' acc c as e1 e2 e3 e4 e5⟩) xs.size 0 _ _ #[] [] (Nat.sub_zero _) (Nat.zero_le _)
    (st0.up rfl ⟨hz, a, b, hTO⟩ keep3 sz sTI sTO s1 s2 sl1 sl2) (fun b o e => keep3 b o (lt0 b o e) (h0 b o e).1) hS3 rfl rfl ⟨List.Pairwise.nil, (fun _ ha => nomatch ha), (fun j a hj => by simp at hj)⟩
end
/-- list(zip(e, e2)) -/
def tLstZip (K : PySem.W.Frag) (ta : TA) : TE := fun σ H Q => ta σ H fun vs H1 => ∃ (a b : Addr) (xs ys : List V), vs = [.ref a, .ref b] ∧ SqL K H1 a xs ∧ SqL K H1 b ys ∧ xs.length = ys.length ∧ ∀ (H' : Hp) (l : Addr) (as : List Addr), (∀ b o, H1 b = some o → H' b = some o) → H1 l = none → H' l = some (.lst (as.map V.ref)) → as.length = xs.length → (∀ t ∈ as, H1 t = none) → l ∉ as →
  (∀ (j : Nat) t x y, as[j]? = some t → xs[j]? = some x → ys[j]? = some y → H' t = some (.tup [x, y])) → Q (.ref l) H'
theorem pe_lstZip {X : Cx} {e e2 : Expr} {ta : TA} {p p2 pos q : Pos} (K : PySem.W.Frag) (hc : X.calm = true) (hg0 : Gl X "list") (hm0 : X.mg "list" = none) (hg : Gl X "zip") (hm : X.mg "zip" = none) (ha : PA X [e, e2] ta) (hK : X.K = K := by rfl)
    (hs : starEach [e, e2] X.env = (false, eval e X.env) :: starEach [e2] X.env := by rfl) (hpl : (backTo q (starEach [e2] X.env)).any (·.1) = false := by rfl)
    (na : starEach [.Call (.Name "zip" p2) [e, e2] [] q] X.env = (false, eval (.Call (.Name "zip" p2) [e, e2] [] q) X.env) :: starEach [] X.env := by rfl) :
    PE X (.Call (.Name "list" p) [.Call (.Name "zip" p2) [e, e2] [] q] [] pos) (tLstZip K ta) := by
  subst hK
  refine ⟨fun pins s σ H Q I h => Call_ (ld_blt I hg0 hm0 PyProof.Rows.boot_list (PyProof.Rows.callWith_type1 (args_cons (Call_ (ld_blt I hg hm PyProof.Rows.boot_zip (PyProof.Rows.callWith_type1 (thn (ha.run q pins s σ H _ I h) fun us s1 ⟨vs, H1, I1, r1, q1⟩ => ?_) hs hpl))) na) na rfl))⟩
  obtain ⟨a, b, xs, ys, ex, hqx, hqy, hl, qq⟩ := q1
  subst ex
  cases r1 with
  | cons r rr =>
    cases rr with
    | cons r' rr =>
      cases rr
      cases r
      cases r'
      obtain ⟨its, rv, p1, hz1⟩ := I1.list hqx
      obtain ⟨its2, rv2, p2, hz2⟩ := I1.list hqy
      have la : a < s1.heap.objs.size := p1.lt
      have lb : b < s1.heap.objs.size := p2.lt
      have e1 := rv.length
      have e2 := rv2.length
      refine call_zip_2 p1.isList p2.isList fun h' hz hTI hTO h1 h2 hsz hk => args_nil ?_
      refine zl_call (s := { s1 with heap := h' }) (h₀ := s1.heap) (I1.ok.hd hc) (PySem.W.ktu_apart s1.heap.objs.size a b la lb) hz hTO hTI h1 h2 (p1.isList.at fun o q => hk a o q) (p2.isList.at fun o q => hk b o q) (by simp only [List.size_toArray]; omega) (by simp only [List.size_toArray]; omega) (fun c o e => ⟨hk c o e, ?_⟩) fun h2 acc c as k2 hS hal G hacc => ?_
      · have hlt := Heap.lt_size e
        exact ⟨Nat.ne_of_lt (Nat.lt_of_lt_of_le hlt (Nat.le_add_right _ _)), Nat.ne_of_lt (Nat.lt_of_lt_of_le hlt (Nat.le_add_right _ _)), Nat.ne_of_lt hlt, Nat.ne_of_lt (Nat.lt_of_lt_of_le hlt (Nat.le_add_right _ _))⟩
      · have hS0 : (s1.heap.objs.size + 5 : Nat) = h'.objs.size := hsz.symm
        have nd : as.Nodup := List.Pairwise.imp (fun {a b} (h : a < b) => Nat.ne_of_lt h) G.rise
        have hab : ∀ t ∈ as, s1.heap.objs.size + 5 < t := fun t ht => by rw [hS0]; exact G.above t ht
        have hSn : h'.objs.size ∉ as := fun z => Nat.lt_irrefl _ (G.above _ z)
        have hal2 : as.length = xs.length := by rw [hal, List.size_toArray]; exact e1.symm
        let N : Hp := fun b => if b = h'.objs.size then some (.lst (as.map V.ref)) else match as.idxOf? b with
          | some j => match xs[j]?, ys[j]? with
            | some x, some y => some (.tup [x, y])
            | _, _ => none
          | none => none
        have NS : N h'.objs.size = some (.lst (as.map V.ref)) := if_pos rfl
        have NT : ∀ (j : Nat) t x y, as[j]? = some t → xs[j]? = some x → ys[j]? = some y → N t = some (.tup [x, y]) := fun j t x y f1 f2 f3 => by
          have ht : t ≠ h'.objs.size := fun z => hSn (by rw [← z]; exact List.mem_of_getElem? f1)
          have hi : as.idxOf? t = some j := by
            rw [List.idxOf?_eq_some_iff]
            have hj := (List.getElem?_eq_some_iff.mp f1).1
            refine ⟨hj, (List.getElem?_eq_some_iff.mp f1).2, fun m hm e => ?_⟩
            have hm2 : as[m]? = some t := by rw [List.getElem?_eq_getElem (by omega)]; exact congrArg some e
            exact absurd ((List.getElem?_inj (by omega) nd).mp (hm2.trans f1.symm)) (by omega)
          show (if t = h'.objs.size then _ else _) = _
          rw [if_neg ht, hi]
          simp only [f2, f3]
        have Ninv : ∀ b o, N b = some o → (b = h'.objs.size ∧ o = .lst (as.map V.ref)) ∨ ∃ (j : Nat) (x y : V), as[j]? = some b ∧ xs[j]? = some x ∧ ys[j]? = some y ∧ o = .tup [x, y] := fun b o e => by
          have e' : (if b = h'.objs.size then some (.lst (as.map V.ref)) else match as.idxOf? b with
            | some j => match xs[j]?, ys[j]? with
              | some x, some y => some (HO.tup [x, y])
              | _, _ => none
            | none => none) = some o := e
          by_cases hb : b = h'.objs.size
          · rw [if_pos hb] at e'
            exact Or.inl ⟨hb, (Option.some.inj e').symm⟩
          · rw [if_neg hb] at e'
            right
            cases hi : as.idxOf? b with
            | none => rw [hi] at e'; cases e'
            | some j =>
              rw [hi] at e'
              obtain ⟨hj, hjb, _⟩ := List.idxOf?_eq_some_iff.mp hi
              have f1 : as[j]? = some b := by rw [List.getElem?_eq_getElem hj, hjb]
              obtain ⟨x, fx⟩ : ∃ x, xs[j]? = some x := ⟨_, List.getElem?_eq_getElem (by omega)⟩
              obtain ⟨y, fy⟩ : ∃ y, ys[j]? = some y := ⟨_, List.getElem?_eq_getElem (by omega)⟩
              simp only [fx, fy] at e'
              exact ⟨j, x, y, f1, fx, fy, (Option.some.inj e').symm⟩
        have J : Inv X pins σ (over N H1) { s1 with heap := h2, toks := s1.toks } := inv_many I1 k2 N fun b o e => by
          rcases Ninv b o e with ⟨rfl, rfl⟩ | ⟨j, x, y, f1, f2, f3, rfl⟩
          · refine ⟨by omega, by rw [List.length_map]; omega, acc.toList, c, by rw [hacc]; exact LiI.vals_refs as, ?_⟩
            rw [Array.toArray_toList]
            exact hS
          · obtain ⟨u, g1, g2⟩ := rv.get f2
            obtain ⟨u', g3, g4⟩ := rv2.get f3
            obtain ⟨x', y', m1, m2, m3⟩ := G.at_ j b f1
            have n1 : x' = u := by
              have : its[j]? = some x' := by simpa using m1
              rw [g1] at this
              exact (Option.some.inj this).symm
            have n2 : y' = u' := by
              have : its2[j]? = some y' := by simpa using m2
              rw [g3] at this
              exact (Option.some.inj this).symm
            subst n1 n2
            exact ⟨by have := hab b (List.mem_of_getElem? f1); omega, by show 2 ≤ sizeLine; decide, [x', y'], .cons g2 (.cons g4 .nil), ⟨_, m3, rfl, _, rfl⟩⟩
        refine ⟨.ref _, over N H1, J, rfl, qq (over N H1) h'.objs.size as (fun b o e => ?_) (I1.hok.fresh (by omega)) (over_new NS) hal2 (fun t ht => I1.hok.fresh (by have := hab t ht; omega)) hSn fun j t x y f1 f2 f3 => over_new (NT j t x y f1 f2 f3)⟩
        cases hN : N b with
        | none => rw [over_old hN]; exact e
        | some o' =>
          exfalso
          have hlow : s1.heap.objs.size ≤ b := by
            rcases Ninv b o' hN with ⟨rfl, _⟩ | ⟨j, _, _, f1, _⟩
            · omega
            · have := hab b (List.mem_of_getElem? f1); omega
          rw [I1.hok.fresh hlow] at e
          cases e
end WJ
set_option Elab.async false
set_option linter.all false
set_option maxRecDepth 100000
set_option maxHeartbeats 2000000
/-! WkZ: len(set(xs)), xs a list or a tuple of tuples of texts -/
namespace WJ
open PySem PySem.Spec PyProof.Rows L2
/-- the hash of a tuple of texts -/
abbrev hT (P : Program) (w : World) (k : List Str) : Int := tupleKeyHash (PySem.strKind P w) k
/-- the tuple at a has the texts k -/
abbrev TupK (P : Program) (w : World) (h : Heap) (k : List Str) (a : Addr) : Prop := IsTupleKey (PySem.strKind P w) h k a
section
variable {P : Program} {w : World} {A : Around} {E : Value → Shared → Prop} {s : Shared}
theorem str_items {k : List Str} {vs : List Value} (h : ItemsAre (PySem.strKind P w) k vs) : ∀ v ∈ vs, ∃ x t, v = Value.str x t := by
  induction h with
  | nil => intro v hv; cases hv
  | @cons x v ks vs h1 _ ih =>
    intro u hu
    rcases List.mem_cons.mp hu with rfl | hu
    · cases u <;> first | exact ⟨_, _, rfl⟩ | (exact absurd h1 (by simp [PySem.strKind, Value.isStrOf]))
    · exact ih u hu
theorem noClass {k : List Str} {b : Addr} {Q : Bool → Shared → Prop} (hk : TupK P w s.heap k b) (q : Q false s) : wpAny (model P w) A (ofAClassStatement 8 (.ref b)) Q E s := by
  have hT := hk.typeIs
  obtain ⟨o, items, n, ho, _, hd, hi⟩ := hk
  unfold ofAClassStatement
  refine wpAny_bind (wpAny_typeOf hT ?_)
  dsimp only
  rw [if_pos (show (("tuple" : String) == "tuple") = true by decide)]
  refine wpAny_bind (wpAny_pure ?_)
  simp only [Bool.not_true, Bool.false_eq_true, if_false]
  refine wpAny_bind (wpAny_seqItems ho hd ?_)
  dsimp only
  refine wpAny_bind ?_
  rw [← Array.forIn_toList]
  refine wpAny_forIn_list _ (fun rest r s' => r.1 = none ∧ s' = s ∧ ∀ v ∈ rest, ∃ x t, v = Value.str x t) _ ?_ ?_ _ _ ⟨rfl, rfl, str_items hi⟩
  · rintro v rest r s' ⟨_, rfl, all⟩
    obtain ⟨x, t, rfl⟩ := all v List.mem_cons_self
    rw [show ofAClassStatement 7 (.str x t) = pure false from rfl]
    refine wpAny_bind (wpAny_pure ?_)
    simp only [Bool.false_eq_true, if_false]
    exact wpAny_pure ⟨rfl, rfl, fun u hu => all u (List.mem_cons_of_mem _ hu)⟩
  · rintro ⟨r1, r2⟩ s' ⟨hr, rfl, _⟩
    simp only at hr
    subst hr
    exact wpAny_pure q
theorem byVal {k : List Str} {b : Addr} {Q : Bool → Shared → Prop} (hk : TupK P w s.heap k b) (q : ∀ v, Q v s) : wpAny (model P w) A (hashByValue 8 (.ref b)) Q E s := by
  have hT := hk.typeIs
  obtain ⟨o, items, n, ho, _, hd, hi⟩ := hk
  unfold hashByValue
  refine wpAny_bind (wpAny_specialOf hT F.slot_tuple_hash.lookup ?_)
  dsimp only
  refine wpAny_bind (wpAny_seqItems ho hd ?_)
  refine wpAny_bind ?_
  show wpAny _ _ (forIn items _ _) _ _ s
  rw [← Array.forIn_toList]
  refine wpAny_forIn_list _ (fun rest r s' => r.1 = none ∧ s' = s ∧ ∀ v ∈ rest, ∃ x t, v = Value.str x t) _ ?_ ?_ _ _ ⟨rfl, rfl, str_items hi⟩
  · rintro v rest r s' ⟨_, rfl, all⟩
    obtain ⟨x, t, rfl⟩ := all v List.mem_cons_self
    rw [show hashByValue 7 (.str x t) = pure false from rfl]
    refine wpAny_bind (wpAny_pure ?_)
    simp only [Bool.not_false, if_true]
    exact wpAny_pure (wpAny_pure (q false))
  · rintro ⟨r1, r2⟩ s' ⟨hr, rfl, _⟩
    simp only at hr
    subst hr
    exact wpAny_pure (q true)
/-- a search among tuples of texts shows nothing -/
theorem unseen {k : List Str} {b : Addr} {Q : Bool → Shared → Prop} (hk : TupK P w s.heap k b) {ys : List Value} (hy : ∀ y ∈ ys, ∃ k' c, y = Value.ref c ∧ TupK P w s.heap k' c) (q : Q false s) : wpAny (model P w) A (searchCouldBeSeen (.ref b) ys) Q E s := by
  unfold searchCouldBeSeen
  refine wpAny_bind ?_
  refine wpAny_forIn_list _ (fun rest r s' => r.1 = none ∧ s' = s ∧ ∀ y ∈ rest, ∃ k' c, y = Value.ref c ∧ TupK P w s.heap k' c) _ ?_ ?_ _ _ ⟨rfl, rfl, hy⟩
  · rintro v rest r s' ⟨_, rfl, all⟩
    obtain ⟨k', c, rfl, hc⟩ := all v List.mem_cons_self
    have all' : ∀ y ∈ rest, ∃ k' c, y = Value.ref c ∧ TupK P w s'.heap k' c := fun u hu => all u (List.mem_cons_of_mem _ hu)
    dsimp only
    split
    · exact wpAny_pure ⟨rfl, rfl, all'⟩
    · refine wpAny_bind (wpAny_eqIsQuiet_tuple hk ?_)
      simp only [Bool.not_true, Bool.false_eq_true, if_false]
      refine wpAny_bind (wpAny_eqIsQuiet_tuple hc ?_)
      simp only [Bool.not_true, Bool.false_eq_true, if_false]
      refine wpAny_bind (noClass hk ?_)
      simp only [Bool.false_eq_true, if_false]
      refine wpAny_bind (noClass hc ?_)
      simp only [Bool.false_eq_true, if_false]
      exact wpAny_pure ⟨rfl, rfl, all'⟩
  · rintro ⟨r1, r2⟩ s' ⟨hr, rfl, _⟩
    simp only at hr
    subst hr
    exact wpAny_pure q
/-- the set at a holds the tuples of L -/
structure SetU (P : Program) (w : World) (h : Heap) (a : Addr) (L : List (Addr × List Str)) (es : Array (Int × Value)) (ep : Nat) (t : SetTable) : Prop where
  ob : ∃ o, h.get? a = some o ∧ o.ExactSet ∧ o.data = .set es ep t
  rows : es.toList = L.map fun p => (hT P w p.2, Value.ref p.1)
  tab : TabOk t (L.map fun p => hT P w p.2)
  nd : (L.map (·.2)).Nodup
  tup : ∀ p ∈ L, TupK P w h p.2 p.1
  room : L.length * 5 < t.mask * 3
variable {a : Addr} {L : List (Addr × List Str)} {es : Array (Int × Value)} {ep : Nat} {t : SetTable}
theorem SetU.size (R : SetU P w s.heap a L es ep t) : es.size = L.length := by
  rw [← Array.length_toList, R.rows, List.length_map]
theorem SetU.psize (R : SetU P w s.heap a L es ep t) : t.place.size = L.length := by
  rw [R.tab.sz, List.length_map]
theorem SetU.fits (R : SetU P w s.heap a L es ep t) : t.fits es.size = true := by
  have h1 := R.psize
  have h2 := R.size
  have h3 := R.room
  unfold SetTable.fits SetTable.fill
  rw [R.tab.dm, Bool.and_eq_true, beq_iff_eq, decide_eq_true_eq]
  show t.place.size = es.size ∧ t.place.size + 0 ≤ t.mask
  omega
theorem SetU.at (R : SetU P w s.heap a L es ep t) {i : Nat} {p : Addr × List Str} (h : L[i]? = some p) : es[i]? = some (hT P w p.2, Value.ref p.1) := by
  rw [← Array.getElem?_toList, R.rows, List.getElem?_map, h]
  rfl
theorem SetU.odd (R : SetU P w s.heap a L es ep t) : ¬ t.gaveWay = true := by
  unfold SetTable.gaveWay
  rw [mask_odd R.tab.mok]
  decide
/-- where the way of k stands behind c steps -/
abbrev pr (m : Nat) (h : Int) (c : Nat) : SetTable.Probe := nth m (runAt m (SetTable.bits h % (m + 1)) (SetTable.bits h)) c
theorem pr_add (m : Nat) (h : Int) (c q : Nat) : nth m (pr m h c) q = pr m h (c + q) := (nth_add m c _ q).symm
theorem pr_clean (m : Nat) (h : Int) (c : Nat) : (pr m h c).dummy = none := by
  have key : ∀ (n : Nat) (p : SetTable.Probe), p.dummy = none → (nth m p n).dummy = none := fun n => by
    induction n with
    | zero => exact fun p h => h
    | succ n ih =>
      intro p h
      refine ih (adv m p) ?_
      unfold adv
      split <;> exact h
  exact key c _ rfl
/-- the search, none of the first c slots on the way having the key -/
theorem seek (R : SetU P w s.heap a L es ep t) {x : Addr} {k : List Str} (hx : TupK P w s.heap k x) (hu : A.units < cLine) {N : Nat} (hN : N < 10 * SetTable.turns t.mask) (hE : way t.mask (hT P w k) N ∉ t.place.toList)
    (hF : ∀ c, c < N → way t.mask (hT P w k) c ∈ t.place.toList) {Q : SetFound → Shared → Prop} (q1 : k ∈ L.map (·.2) → Q (.there none) s) (q2 : k ∉ L.map (·.2) → Q (.free (way t.mask (hT P w k) N) false) s) :
    ∀ (f c : Nat) (st : Option SetTable.Probe), st.getD (t.probeStart (hT P w k)) = pr t.mask (hT P w k) c → c ≤ N → N - c < f → (∀ (c' i : Nat) (p : Addr × List Str), c' < c → t.place.toList[i]? = some (way t.mask (hT P w k) c') → L[i]? = some p → p.2 ≠ k) →
      wpAny (model P w) A (setSearchFrom a (.ref x) (hT P w k) true f st) Q E s := by
  intro f
  induction f with
  | zero => exact fun c st _ _ hf => absurd hf (Nat.not_lt_zero _)
  | succ f ih =>
    intro c st hst hc hf hpast
    obtain ⟨o, ho, hex, hd⟩ := R.ob
    have hps := R.psize
    rw [setSearchFrom_succ]
    refine wpAny_bind (wpAny_setState_of ho hd R.fits ?_)
    dsimp only
    refine wp_if_neg R.odd ?_
    try refine wpAny_bind (wpAny_pure ?_)
    have hw : ∀ q, (nth t.mask (pr t.mask (hT P w k) c) q).j = way t.mask (hT P w k) (c + q) := fun q => congrArg SetTable.Probe.j (pr_add _ _ c q)
    have hash : ∀ (i : Nat) p, L[i]? = some p → (fun i => (es[i]?.map (·.1)).getD 0) i = hT P w p.2 := fun i p hp => by
      show (es[i]?.map (·.1)).getD 0 = _
      rw [R.at hp]
      rfl
    rcases go_spec t R.tab.ris R.tab.dm (fun i => (es[i]?.map (·.1)).getD 0) (hT P w k) (10 * SetTable.turns t.mask) (N - c) (pr t.mask (hT P w k) c) (pr_clean _ _ _) (by omega) (fun q hq => by rw [hw]; exact hF _ (by omega)) (by rw [hw, show c + (N - c) = N by omega]; exact hE) with ⟨q, i, hq, hi, _, hno, hgo⟩ | ⟨hno, hgo⟩
    · rw [hw] at hi
      have hgo2 : t.probe (fun i => (es[i]?.map (·.1)).getD 0) (hT P w k) (st.getD (t.probeStart (hT P w k))) = some (.candidate (way t.mask (hT P w k) (c + q)) i (pr t.mask (hT P w k) (c + (q + 1)))) := by
        rw [hst, ← hw, ← pr_add]
        exact hgo
      rw [hgo2]
      dsimp only
      have hil : i < L.length := by
        have h1 : i < t.place.toList.length := (List.getElem?_eq_some_iff.mp hi).1
        rw [Array.length_toList] at h1
        omega
      obtain ⟨p, hp⟩ : ∃ p, L[i]? = some p := ⟨_, List.getElem?_eq_getElem hil⟩
      have hpm : p ∈ L := List.mem_of_getElem? hp
      have rest : wpAny (model P w) A (searchRest a (.ref x) (hT P w k) true f es t (way t.mask (hT P w k) (c + q)) i (pr t.mask (hT P w k) (c + (q + 1)))) Q E s := by
        unfold searchRest
        rw [R.at hp]
        dsimp only
        refine wpAny_bind (wpAny_holding (wpAny_eqBool_tuple hu (R.tup p hpm) hx ?_))
        refine wpAny_bind (wpAny_setState_of ho hd R.fits ?_)
        dsimp only
        by_cases hk : p.2 = k
        · refine wp_if_pos (by simp [hk]) (wpAny_pure (q1 (List.mem_map.mpr ⟨p, hpm, hk⟩)))
        · refine wp_if_neg (by simp [hk]) ?_
          try refine wpAny_bind (wpAny_pure ?_)
          rw [sameMem]
          dsimp only
          have hsl : t.slot (way t.mask (hT P w k) (c + q)) = .live i := slot_live R.tab.ris hi
          simp only [if_true, hsl, R.at hp]
          refine wpAny_bind (wpAny_isSame_ref_self (wpAny_bind (wpAny_pure ?_)))
          simp only [if_true]
          refine wp_if_neg (by simp [hk]) ?_
          refine ih (c + (q + 1)) _ rfl (by omega) (by omega) fun c' i' p' hc' hi' hp' => ?_
          rcases Nat.lt_trichotomy c' (c + q) with z | z | z
          · rcases Nat.lt_or_ge c' c with y | y
            · exact hpast c' i' p' y hi' hp'
            · intro e
              refine hno (c' - c) i' (by omega) (by rw [hw, show c + (c' - c) = c' by omega]; exact hi') ?_
              rw [← e]
              exact hash i' p' hp'
          · rw [z] at hi'
            have h1 := slot_live R.tab.ris hi'
            rw [hsl] at h1
            injection h1 with h1
            rw [← h1, hp] at hp'
            cases hp'
            exact hk
          · omega
      by_cases hl : t.led = true
      · refine wp_if_neg (by simp [hl]) ?_
        try refine wpAny_bind (wpAny_pure ?_)
        exact rest
      · refine wp_if_pos (by simp [hl]) ?_
        refine wpAny_bind (unseen hx (fun y hy => ?_) ?_)
        · obtain ⟨e, he, rfl⟩ := List.mem_map.mp hy
          have he1 : e ∈ es.toList := by
            have := Array.mem_filter.mp (Array.mem_toList_iff.mp he)
            exact Array.mem_toList_iff.mpr this.1
          rw [R.rows] at he1
          obtain ⟨p2, hp2, rfl⟩ := List.mem_map.mp he1
          exact ⟨p2.2, p2.1, rfl, R.tup p2 hp2⟩
        · refine wp_if_neg (by decide) ?_
          try refine wpAny_bind (wpAny_pure ?_)
          exact rest
    · have hgo2 : t.probe (fun i => (es[i]?.map (·.1)).getD 0) (hT P w k) (st.getD (t.probeStart (hT P w k))) = some (.empty (way t.mask (hT P w k) N) none) := by
        have e : way t.mask (hT P w k) N = (nth t.mask (pr t.mask (hT P w k) c) (N - c)).j := by rw [hw, show c + (N - c) = N by omega]
        rw [hst, e]
        exact hgo
      rw [hgo2]
      dsimp only
      refine wpAny_pure (q2 fun hm => ?_)
      obtain ⟨p, hpm, hk⟩ := List.mem_map.mp hm
      obtain ⟨i, hi⟩ := List.mem_iff_getElem?.mp hpm
      have hh : (L.map fun p => hT P w p.2)[i]? = some (hT P w k) := by rw [List.getElem?_map, hi, ← hk]; rfl
      have hil : i < t.place.toList.length := by
        have h1 : i < L.length := (List.getElem?_eq_some_iff.mp hi).1
        rw [Array.length_toList]
        omega
      obtain ⟨c', h1, h2⟩ := R.tab.before hE hh (List.getElem?_eq_getElem hil)
      have hj : t.place.toList[i]? = some (way t.mask (hT P w k) c') := by rw [h2]; exact List.getElem?_eq_getElem hil
      rcases Nat.lt_or_ge c' c with y | y
      · exact hpast c' i p y hj hi hk
      · refine hno (c' - c) i (by omega) (by rw [hw, show c + (c' - c) = c' by omega]; exact hj) ?_
        rw [← hk]
        exact hash i p hi
theorem found (R : SetU P w s.heap a L es ep t) {x : Addr} {k : List Str} (hx : TupK P w s.heap k x) (hu : A.units < cLine) {Q : SetFound → Shared → Prop} (q1 : k ∈ L.map (·.2) → Q (.there none) s)
    (q2 : ∀ N, k ∉ L.map (·.2) → way t.mask (hT P w k) N ∉ t.place.toList → (∀ c, c < N → way t.mask (hT P w k) c ∈ t.place.toList) → Q (.free (way t.mask (hT P w k) N) false) s) :
    wpAny (model P w) A (setSearch a (.ref x) (hT P w k) true) Q E s := by
  have h1 := R.room
  obtain ⟨N, h2, h3, h4⟩ := R.tab.first (by rw [List.length_map]; omega) (hT P w k)
  have h5 : N < 100000 := by
    have : 10 * SetTable.turns t.mask ≤ 1420 := by
      unfold SetTable.turns
      rcases R.tab.mok with e | e | e <;> omega
    omega
  unfold setSearch
  exact seek R hx hu h2 h3 h4 q1 (fun hn => q2 N hn h3 h4) 100000 0 none rfl (Nat.zero_le _) (by omega) (fun c' _ _ z => absurd z (Nat.not_lt_zero _))
end
end WJ
set_option Elab.async false
set_option linter.all false
set_option maxRecDepth 100000
set_option maxHeartbeats 2000000
/-! WkZ2: adding to such a set -/
namespace WJ
open PySem PySem.Spec PyProof.Rows L2
theorem TupK.same {P : Program} {w : World} {h h' : Heap} {k : List Str} {a b : Addr} {o : Obj} {es : Array (Int × Value)} {ep : Nat} {t : SetTable} (hb : TupK P w h k b) (ho : h.get? a = some o) (hd : o.data = .set es ep t) (hs : Heap.SameBut a h h') : TupK P w h' k b := by
  obtain ⟨o2, items, n, h1, h2, h3, h4⟩ := hb
  refine ⟨o2, items, n, (hs.2 b fun z => ?_).trans h1, h2, h3, h4⟩
  rw [z, ho] at h1
  cases h1
  rw [hd] at h3
  cases h3
theorem TupK.kept {P : Program} {w : World} {h h' : Heap} {k : List Str} {b : Addr} (hb : TupK P w h k b) (hk : ∀ c o, h.get? c = some o → h'.get? c = some o) : TupK P w h' k b := by
  obtain ⟨o, items, n, h1, r⟩ := hb
  exact ⟨o, items, n, hk b o h1, r⟩
theorem range_all {α : Type} (L : List α) : (List.range L.length).filterMap (fun i => L[i]?) = L := by
  have key : ∀ n, n ≤ L.length → (List.range n).filterMap (fun i => L[i]?) = L.take n := fun n => by
    induction n with
    | zero => exact fun _ => rfl
    | succ n ih =>
      intro hn
      rw [List.range_succ, List.filterMap_append, ih (by omega), List.take_succ, List.getElem?_eq_getElem (by omega)]
      rw [List.filterMap_cons_some (List.getElem?_eq_getElem (by omega))]
      rfl
  rw [key _ (Nat.le_refl _), List.take_length]
section
variable {P : Program} {w : World} {A : Around} {E : Value → Shared → Prop} {s : Shared} {a : Addr} {L : List (Addr × List Str)} {es : Array (Int × Value)} {ep : Nat} {t : SetTable}
abbrev rowU (P : Program) (w : World) (p : Addr × List Str) : Int × Value := (hT P w p.2, Value.ref p.1)
theorem ent_map (hr : es.toList = L.map (rowU P w)) (i : Nat) : es[i]? = (L[i]?).map (rowU P w) := by
  rw [← Array.getElem?_toList, hr, List.getElem?_map]
theorem anew {o : Obj} (ho : s.heap.get? a = some o) (hex : o.ExactSet) (hd : o.data = .set es ep t) (hr : es.toList = L.map (rowU P w)) (hsz : t.place.size = L.length) (hdm : t.dummies = #[]) (hfl : L.length ≤ t.mask) (nd : (L.map (·.2)).Nodup) (tup : ∀ p ∈ L, TupK P w s.heap p.2 p.1)
    {wanted M : Nat} (hw : SetTable.sizeAbove wanted - 1 = M) (hM : MaskOk M) (hw2 : SetTable.sizeAbove wanted ≤ 128) (hn : L.length * 5 < M * 3) (h64 : L.length ≤ 64) {Q : Unit → Shared → Prop}
    (q : ∀ h' L' es' ep' t', Heap.SameBut a s.heap h' → SetU P w h' a L' es' ep' t' → L'.Perm L → Q () { s with heap := h' }) : wpAny (model P w) A (setRelay a wanted) Q E s := by
  have hes : es.size = L.length := by rw [← Array.length_toList, hr, List.length_map]
  have hfits : t.fits es.size = true := by
    unfold SetTable.fits SetTable.fill
    rw [hdm, Bool.and_eq_true, beq_iff_eq, decide_eq_true_eq]
    show t.place.size = es.size ∧ t.place.size + 0 ≤ t.mask
    omega
  obtain ⟨t', order, e, hp, T, em, _, _, _⟩ := relaid_ok t (hs := es.map (·.1)) (wanted := wanted) hw hM (by rw [Array.size_map]; omega)
  rw [Array.size_map, hes] at hp
  have hlt : ∀ i ∈ order.toList, i < L.length := fun i hi => List.mem_range.mp (hp.mem_iff.mp hi)
  have r1 : (order.filterMap (es[·]?)).toList = (order.toList.filterMap fun i => L[i]?).map (rowU P w) := by
    rw [Array.toList_filterMap, List.map_filterMap]
    congr 1
    funext i
    exact ent_map hr i
  have r2 : (order.toList.filterMap fun i => L[i]?).Perm L := by
    have h := hp.filterMap fun i => L[i]?
    rw [range_all] at h
    exact h
  have r3 : ((order.toList.filterMap fun i => L[i]?).map fun p => hT P w p.2) = order.toList.map fun i => (es.map (·.1)).getD i 0 := by
    have key : ∀ l : List Nat, (∀ i ∈ l, i < L.length) → ((l.filterMap fun i => L[i]?).map fun p => hT P w p.2) = l.map fun i => (es.map (·.1)).getD i 0 := fun l => by
      induction l with
      | nil => exact fun _ => rfl
      | cons i l ih =>
        intro hl
        have hi := hl i List.mem_cons_self
        rw [List.filterMap_cons_some (List.getElem?_eq_getElem hi), List.map_cons, List.map_cons, ih fun j hj => hl j (List.mem_cons_of_mem _ hj)]
        have e5 : (es.map (·.1))[i]? = some (hT P w (L[i]).2) := by rw [Array.getElem?_map, ent_map hr, List.getElem?_eq_getElem hi]; rfl
        simp [Array.getD_eq_getD_getElem?, e5]
    exact key _ hlt
  rw [← r3] at T
  have hlen := r2.length_eq
  have hs2 : (order.filterMap (es[·]?)).size = es.size := by rw [← Array.length_toList, r1, List.length_map, hlen, hes]
  generalize order.toList.filterMap (fun i => L[i]?) = L2 at r1 r2 T hlen
  rw [setRelay_eq]
  refine wpAny_bind (wpAny_setState_of ho hd hfits ?_)
  dsimp only
  refine wp_if_neg (by rw [sizeLine_eq]; omega) ?_
  try refine wpAny_bind (wpAny_pure ?_)
  rw [e]
  dsimp only
  refine wpAny_bind ?_
  refine wp_if_neg (by rw [hs2]; simp) ?_
  try refine wpAny_bind (wpAny_pure ?_)
  refine wpAny_pure ?_
  dsimp only
  refine wpAny_storeSet_of ho hd ?_ (by rw [hs2, hes, sizeLine_eq]; omega)
  have sb : Heap.SameBut a s.heap (s.heap.update a (Obj.putSet (order.filterMap (es[·]?)) t')) := Heap.SameBut.update ..
  exact q _ L2 (order.filterMap (es[·]?)) (ep + 1) t' sb ⟨⟨_, store_at ho hd, ⟨hex.1, hex.2.1, hex.2.2⟩, rfl⟩, r1, T, (r2.map (·.2)).nodup_iff.mpr nd, fun p hpm => (tup p (r2.mem_iff.mp hpm)).same ho hd sb, by rw [hlen, em]; exact hn⟩ r2
theorem added (R : SetU P w s.heap a L es ep t) {x : Addr} {k : List Str} (hx : TupK P w s.heap k x) (hu : A.units < cLine) (h64 : L.length + 1 < 64) {Q : Bool → Shared → Prop}
    (q : ∀ b h' L' es' ep' t', Heap.SameBut a s.heap h' → SetU P w h' a L' es' ep' t' → (k ∈ L.map (·.2) → L' = L) → (k ∉ L.map (·.2) → L'.Perm ((x, k) :: L)) → Q b { s with heap := h' }) :
    wpAny (model P w) A (setAddHashed a (.ref x) (hT P w k)) Q E s := by
  obtain ⟨o, ho, hex, hd⟩ := R.ob
  have hes := R.size
  have hroom := R.room
  unfold setAddHashed
  refine wpAny_holding ?_
  rw [show (100000 : Nat) = 99999 + 1 from rfl, setAddHashedIn_succ]
  refine wpAny_bind (wpAny_setState_of ho hd R.fits ?_)
  dsimp only
  refine wp_if_neg (by simp [byScan, Value.scannable]) ?_
  try refine wpAny_bind (wpAny_pure ?_)
  refine wpAny_bind (found R hx hu (fun hm => ?_) fun N hm hE hF => ?_)
  · dsimp only
    exact wpAny_pure (q false s.heap L es ep t (Heap.SameBut.refl a s.heap) R (fun _ => rfl) fun z => absurd hm z)
  · dsimp only
    refine wpAny_bind (wpAny_setState_of ho hd R.fits ?_)
    dsimp only
    obtain ⟨g1, g2, g3, g4, g5, g6, g7, g8, g9⟩ := R.tab.put hE hF
    generalize hpt : t.put (way t.mask (hT P w k) N) = pt at g1 g3 g4 g5 g6 g7 g8 g9 ⊢
    obtain ⟨t1, p⟩ := pt
    dsimp only at g1 g3 g4 g5 g6 g7 g8 g9 ⊢
    subst g1
    generalize hpp : SetTable.below t.place (way t.mask (hT P w k) N) = p at g2 g3 ⊢
    have pm : (L.take p ++ (x, k) :: L.drop p).Perm ((x, k) :: L) := put_perm L p (x, k)
    have hin : (SetTable.insertAt es p (hT P w k, Value.ref x)).toList = (L.take p ++ (x, k) :: L.drop p).map (rowU P w) := by
      rw [SetTable.toList_insertAt, R.rows, List.map_append, List.map_cons, List.map_take, List.map_drop]
    have hhs : (L.take p ++ (x, k) :: L.drop p).map (fun p => hT P w p.2) = (L.map fun p => hT P w p.2).take p ++ hT P w k :: (L.map fun p => hT P w p.2).drop p := by
      rw [List.map_append, List.map_cons, List.map_take, List.map_drop]
    rw [← hhs] at g3
    rw [List.length_map] at g9
    have hlen : (L.take p ++ (x, k) :: L.drop p).length = L.length + 1 := pm.length_eq
    generalize L.take p ++ (x, k) :: L.drop p = L1 at pm hin g3 hlen
    generalize SetTable.insertAt es p (hT P w k, Value.ref x) = es1 at hin ⊢
    have hes1 : es1.size = L.length + 1 := by rw [← Array.length_toList, hin, List.length_map, hlen]
    have nd1 : (L1.map (·.2)).Nodup := by
      refine (pm.map (·.2)).nodup_iff.mpr ?_
      rw [List.map_cons]
      exact List.nodup_cons.mpr ⟨hm, R.nd⟩
    have fin : ∀ t2 : SetTable, TabOk t2 (L1.map fun p => hT P w p.2) → t2.mask = t1.mask → t2.fill = t1.fill →
        wpAny (model P w) A (do
          storeSet a es1 t2
          if (!false && t2.tooFull) = true then setRelay a (SetTable.grown (es.size + 1))
          return true) Q E s := fun t2 T2 m2 f2 => by
      have hps : t2.place.size = L1.length := by rw [T2.sz, List.length_map]
      refine wpAny_bind (wpAny_storeSet_of ho hd ?_ (by rw [hes1, sizeLine_eq]; omega))
      have sb : Heap.SameBut a s.heap (s.heap.update a (Obj.putSet es1 t2)) := Heap.SameBut.update ..
      have ho1 := store_at (es' := es1) (t' := t2) ho hd
      generalize s.heap.update a (Obj.putSet es1 t2) = h1 at sb ho1 ⊢
      have tup1 : ∀ p ∈ L1, TupK P w h1 p.2 p.1 := fun p hp => by
        rcases List.mem_cons.mp (pm.mem_iff.mp hp) with rfl | hp
        · exact hx.same ho hd sb
        · exact (R.tup p hp).same ho hd sb
      by_cases hf : t2.tooFull = true
      · have hfull : (L.length + 1) * 5 ≥ t.mask * 3 := by
          have h := hf
          unfold SetTable.tooFull at h
          rw [decide_eq_true_eq, f2, g9, m2, g4] at h
          exact h
        have two : (t.mask = 7 ∧ L.length = 4) ∨ (t.mask = 31 ∧ L.length = 18) := by
          rcases R.tab.mok with e | e | e
          · exact Or.inl ⟨e, by rw [e] at hfull hroom; omega⟩
          · exact Or.inr ⟨e, by rw [e] at hfull hroom; omega⟩
          · rw [e] at hfull
            omega
        have go : ∀ M, SetTable.sizeAbove (SetTable.grown (L.length + 1)) - 1 = M → MaskOk M → SetTable.sizeAbove (SetTable.grown (L.length + 1)) ≤ 128 → (L.length + 1) * 5 < M * 3 →
            wpAny (model P w) A (setRelay a (SetTable.grown (es.size + 1))) (fun _ s' => wpAny (model P w) A (pure true) Q E s') E { s with heap := h1 } := fun M z1 z2 z3 z4 => by
          rw [hes]
          refine anew (s := { s with heap := h1 }) ho1 ⟨hex.1, hex.2.1, hex.2.2⟩ rfl hin hps T2.dm (by rw [hlen, m2, g4]; omega) nd1 tup1 z1 z2 z3 (by rw [hlen]; exact z4) (by rw [hlen]; omega) ?_
          intro h2 L2 es2 ep2 t3 sb2 R2 pm2
          exact wpAny_pure (q true h2 L2 es2 ep2 t3 (sb.trans sb2) R2 (fun z => absurd z hm) fun _ => pm2.trans pm)
        refine wp_if_pos (by simp [hf]) (wpAny_bind ?_)
        rcases two with ⟨_, e2⟩ | ⟨_, e2⟩
        · exact go 31 (by rw [e2, size_20]) (.inr (.inl rfl)) (by rw [e2, size_20]; decide) (by omega)
        · exact go 127 (by rw [e2, size_76]) (.inr (.inr rfl)) (by rw [e2, size_76]; decide) (by omega)
      · refine wp_if_neg (by simp [hf]) ?_
        try refine wpAny_bind (wpAny_pure ?_)
        refine wpAny_pure (q true h1 L1 es1 (ep + 1) t2 sb ⟨⟨_, ho1, ⟨hex.1, hex.2.1, hex.2.2⟩, rfl⟩, hin, T2, nd1, tup1, ?_⟩ (fun z => absurd z hm) fun _ => pm)
        have h := hf
        unfold SetTable.tooFull at h
        rw [decide_eq_true_eq, f2, g9, m2, g4] at h
        rw [hlen, m2, g4]
        omega
    have byv : ∀ b : Bool, wpAny (model P w) A (do
          let t := if b = true then t1 else { t1 with plain := false }
          storeSet a es1 t
          if (!false && t.tooFull) = true then setRelay a (SetTable.grown (es.size + 1))
          return true) Q E s := fun b => by
      cases b with
      | true => exact fin t1 g3 rfl rfl
      | false => exact fin { t1 with plain := false } ⟨g3.ris, g3.dm, g3.sz, g3.mok, g3.bd, g3.reach⟩ rfl rfl
    by_cases hp : t1.plain = true
    · first
        | (refine wpAny_bind ?_; refine wp_if_pos hp ?_; refine byVal hx fun b => ?_; exact byv b)
        | (refine wp_if_pos hp (wpAny_bind (byVal hx fun b => ?_)); exact byv b)
    · first
        | (refine wpAny_bind ?_; refine wp_if_neg hp ?_; refine wpAny_pure ?_; exact byv true)
        | (refine wp_if_neg hp (wpAny_bind (wpAny_pure ?_)); exact byv true)
end
end WJ
set_option Elab.async false
set_option linter.all false
set_option maxRecDepth 100000
set_option maxHeartbeats 2000000
/-! WkZ3: set(xs), len of it -/
namespace WJ
open PySem PySem.Spec PyProof.Rows L2
/-- what the set has got of the first i tuples -/
structure GotU (ks : List (Addr × List Str)) (i : Nat) (L : List (Addr × List Str)) : Prop where
  sub : ∀ p ∈ L, p ∈ ks
  all : ∀ k, k ∈ L.map (·.2) ↔ k ∈ (ks.take i).map (·.2)
  len : L.length ≤ i
theorem GotU.next {ks L L' : List (Addr × List Str)} {i : Nat} {p : Addr × List Str} (g : GotU ks i L) (hp : ks[i]? = some p) (h1 : p.2 ∈ L.map (·.2) → L' = L) (h2 : p.2 ∉ L.map (·.2) → L'.Perm (p :: L)) : GotU ks (i + 1) L' := by
  have et : (ks.take (i + 1)).map (·.2) = (ks.take i).map (·.2) ++ [p.2] := by
    rw [List.take_succ, hp, List.map_append]
    rfl
  by_cases hm : p.2 ∈ L.map (·.2)
  · rw [h1 hm]
    refine ⟨g.sub, fun k => ?_, Nat.le_succ_of_le g.len⟩
    rw [et, List.mem_append, List.mem_singleton, ← g.all k]
    exact ⟨Or.inl, fun z => z.elim id fun e => by rw [e]; exact hm⟩
  · have pm := h2 hm
    refine ⟨fun q hq => ?_, fun k => ?_, ?_⟩
    · rcases List.mem_cons.mp (pm.mem_iff.mp hq) with rfl | z
      · exact List.mem_of_getElem? hp
      · exact g.sub q z
    · rw [(pm.map (·.2)).mem_iff, List.map_cons, List.mem_cons, et, List.mem_append, List.mem_singleton, ← g.all k]
      exact Or.comm
    · rw [pm.length_eq, List.length_cons]
      exact Nat.succ_le_succ g.len
section
variable {P : Program} {w : World} {A : Around} {E : Value → Shared → Prop} {s : Shared}
theorem SetU.kept {h h' : Heap} {a : Addr} {L : List (Addr × List Str)} {es : Array (Int × Value)} {ep : Nat} {t : SetTable} (R : SetU P w h a L es ep t) (ha : ∀ o, h.get? a = some o → h'.get? a = some o) (ht : ∀ p ∈ L, TupK P w h' p.2 p.1) : SetU P w h' a L es ep t := by
  obtain ⟨o, ho, r⟩ := R.ob
  exact ⟨⟨o, ha o ho, r⟩, R.rows, R.tab, R.nd, ht, R.room⟩
theorem setU_new {h : Heap} {a : Addr} {led : Bool} (ho : h.get? a = some (newSet led)) : SetU P w h a [] #[] 0 (.fresh 0 0 led) where
  ob := ⟨_, ho, ⟨rfl, rfl, rfl⟩, rfl⟩
  rows := rfl
  tab := ⟨List.Pairwise.nil, rfl, rfl, .inl rfl, fun x hx => (by cases hx), fun i h j hi => (by simp at hi)⟩
  nd := List.nodup_nil
  tup := fun p hp => (by cases hp)
  room := by
    show 0 * 5 < 7 * 3
    decide
theorem setU_loop {I : Addr} {fp wr : List Addr} {G : Array GenState → Array GenState → Prop} {n : Nat} {Pv : Nat → Value → Prop} {St : Nat → Shared → Prop} {R : Result → Shared → Prop}
    (W : WalksS P w A.in1 I fp wr G n Pv St) (S : Addr) (hSf : S ∉ fp) (ks : List (Addr × List Str)) (hn : ks.length = n) (h64 : n < 64) (hval : ∀ i v, Pv i v → ∃ p, ks[i]? = some p ∧ v = .ref p.1)
    (h0 : Heap) (hk : ∀ p ∈ ks, TupK P w h0 p.2 p.1) (hS0 : h0.get? S = none) (hw0 : ∀ b ∈ wr, h0.get? b = none) (hu : A.in1.units < cLine) :
    ∀ (k i : Nat) (s : Shared), n - i = k → i ≤ n → St i s → (∀ b o, h0.get? b = some o → s.heap.get? b = some o) → (∃ L es ep t, SetU P w s.heap S L es ep t ∧ GotU ks i L) →
      (∀ s' L es ep t, Moved (S :: wr) G s s' → SetU P w s'.heap S L es ep t → GotU ks n L → (∀ b o, h0.get? b = some o → s'.heap.get? b = some o) → R (.ok (.ret .none)) s') →
      codeAny (model P w) A (.builtin "set.update.loop" ⟨[.ref S, .ref I], []⟩) R s := by
  have hSw : S ∉ wr := fun z => hSf (W.sub _ z)
  have up : ∀ b ∈ wr, b ∈ S :: wr := fun b hb => List.mem_cons_of_mem _ hb
  have keep : ∀ {s s' : Shared}, Moved wr G s s' → (∀ b o, h0.get? b = some o → s.heap.get? b = some o) → ∀ b o, h0.get? b = some o → s'.heap.get? b = some o := fun hm hkp b o e => hm.heap b o (fun hb => by rw [hw0 b hb] at e; cases e) (hkp b o e)
  intro k
  induction k with
  | zero =>
    intro i s hk' hi hst hkp ⟨L, es, ep, t, hS, g⟩ hR
    have hin : i = n := by omega
    subst hin
    refine codeAny_builtin PyProof.Rows.F.entry_set_update_loop ?_
    rw [Around.under_plainId PyProof.Rows.F.plain_set_update_loop _]
    refine wpAny_bind (W.done s _ _ hst fun s' hm => ?_)
    have hkp' := keep hm hkp
    exact wpAny_pure (hR s' L es ep t (hm.mono up) (hS.kept (fun o e => hm.heap S o hSw e) fun p hp => (hk p (g.sub p hp)).kept hkp') g hkp')
  | succ k ih =>
    intro i s hk' hi hst hkp ⟨L, es, ep, t, hS, g⟩ hR
    have hlt : i < n := by omega
    refine codeAny_builtin PyProof.Rows.F.entry_set_update_loop ?_
    rw [Around.under_plainId PyProof.Rows.F.plain_set_update_loop _]
    refine wpAny_bind (W.item i s _ _ hlt hst fun v s' hP hst' hm => ?_)
    obtain ⟨p, hp, rfl⟩ := hval i v hP
    have hkp' := keep hm hkp
    have hS' : SetU P w s'.heap S L es ep t := hS.kept (fun o e => hm.heap S o hSw e) fun q hq => (hk q (g.sub q hq)).kept hkp'
    have hx : TupK P w s'.heap p.2 p.1 := (hk p (List.mem_of_getElem? hp)).kept hkp'
    show wpAny _ A.in1 (holding _ (setAdd S _) >>= _) _ _ s'
    refine wpAny_bind (wpAny_holding ?_)
    unfold setAdd
    refine wpAny_holding (wpAny_bind (wpAny_pyHash_tuple hu hx ?_))
    refine added (s := { s' with toks := s'.toks + (p.2.length + 1) }) hS' hx hu (by have := g.len; omega) fun b h' L' es' ep' t' hsb hS2 c1 c2 => ?_
    have hkp2 : ∀ b o, h0.get? b = some o → h'.get? b = some o := fun b o e => (hsb.2 b (fun z => by rw [z, hS0] at e; cases e)).trans (hkp' b o e)
    refine wpAny_pure ⟨plainId_quiet PyProof.Rows.F.plain_set_update_loop _, ih (i + 1) _ (by omega) hlt (W.frame _ s' _ _ hst' (Nat.le_add_right _ _) fun b hb o e => ?_) hkp2 ⟨L', es', ep', t', hS2, g.next hp c1 c2⟩ fun s'' L2 es2 ep2 t2 hm'' hS'' g'' hkp'' => ?_⟩
    · rw [hsb.2 b (fun z : b = S => hSf (by rw [← z]; exact hb))]
      exact e
    · refine hR s'' L2 es2 ep2 t2 (Moved.trans W.gtrans ((hm.mono up).then_heap (Nat.le_add_right _ _) fun b o hb e => ?_) hm'') hS'' g'' hkp''
      rw [hsb.2 b (fun z : b = S => hb (by rw [z]; exact List.mem_cons_self))]
      exact e
set_option maxHeartbeats 3200000 in
theorem call_setU {l : Addr} {c : String} {items : Array Value} (ks : List (Addr × List Str)) {od : Option Addr} {nl : Nat} {osl : Array (Option Value)} {Q : Value → Shared → Prop} (hh : A.handled = none) (hol : s.heap.get? l = some { cls := .type c, dict := od, data := .seq items nl, slots := osl })
    (hc : c = "list" ∨ c = "tuple") (hi : items.toList = ks.map fun p => Value.ref p.1) (hk : ∀ p ∈ ks, TupK P w s.heap p.2 p.1) (h64 : ks.length < 64) (hu : A.units + 3 < cLine)
    (h : ∀ (h' : Heap) (tk : Nat) L es ep t, SetU P w h' s.heap.objs.size L es ep t → GotU ks ks.length L → (∀ b o, s.heap.get? b = some o → h'.get? b = some o) → Q (.ref s.heap.objs.size) { s with heap := h', toks := tk }) :
    wpAny (model P w) A (call (.type "set") [.ref l]) Q E s := by
  have hisz : ks.length = items.size := by rw [← Array.length_toList, hi, List.length_map]
  obtain ⟨cc, tl, hmro⟩ := PySem.F.called_set.mro
  have hmade := PySem.F.called_set.made
  have hsub := PySem.F.called_set.sub
  refine wpAny_call (codeAny_of_tree ?_)
  show wpAny _ _ (callAny (.type "set") _) _ _ _
  refine wpAny_pure ⟨Code.quiet_builtin _ (by decide +kernel), codeAny_builtin PySem.F.entry_type_call ?_⟩
  rw [Around.under_plain (weight_type_call_type "set" [.ref l] []) rfl]
  have h1 := PySem.F.called_set.notType
  have h2 := PySem.F.called_set.canCreate
  have hct := PySem.F.typeCall_set_1 (.ref l)
  repeat (any_goals (first | assumption | wp_step))
  refine codeAny_mono (code_set_new_1 (.ref l) (E := E) (Q₁ := fun obj s₁ => ∃ led : Bool, obj = .ref s.heap.objs.size ∧ s₁ = { s with heap := s.heap.push (newSet led) }) fun led => ⟨led, rfl, rfl⟩) fun r s₁ hr => ?_
  cases r with
  | error e => exact hr
  | ok fl =>
    cases fl with
    | ret obj =>
      obtain ⟨led, rfl, rfl⟩ := hr
      have hS : (s.heap.push (newSet led)).get? s.heap.objs.size = some (newSet led) := Heap.get?_push_size _ rfl
      have hT : Shared.TypeIs { s with heap := s.heap.push (newSet led) } (.ref s.heap.objs.size) "set" := ⟨_, hS, rfl⟩
      have hli := PySem.F.called_set.init.lookup
      have hbi := PySem.F.called_set.init.bind (.ref s.heap.objs.size)
      repeat (any_goals (first | assumption | wp_step))
      refine codeAny_mono (codeAny_call_builtin (R := wants (fun r s₂ => r = .none ∧ ∃ h' tk L es ep t, s₂ = { s with heap := h', toks := tk } ∧ SetU P w h' s.heap.objs.size L es ep t ∧ GotU ks ks.length L ∧ (∀ b o, s.heap.get? b = some o → h'.get? b = some o)) E) PySem.F.called_set.init.plain PySem.F.entry_set_init (check_set_init_1 hT ?_)) fun r₂ s₂ hr₂ => ?_
      · have hlS : l < s.heap.objs.size := Heap.lt_size hol
        have hh3 : A.in1.in1.in1.handled = none := by simp [hh]
        have hneI : l ≠ (s.heap.push (newSet led)).objs.size := by
          rw [Heap.size_push]
          exact Nat.ne_of_lt (Nat.lt_succ_of_lt hlS)
        have hSf : s.heap.objs.size ∉ [(s.heap.push (newSet led)).objs.size, l] := by
          rw [Heap.size_push]
          simp only [List.mem_cons, List.mem_singleton, List.not_mem_nil, or_false, not_or]
          exact ⟨Nat.ne_of_lt (Nat.lt_succ_self _), Nat.ne_of_gt hlS⟩
        have hval : ∀ (i : Nat) (v : Value), items[i]? = some v → ∃ p, ks[i]? = some p ∧ v = .ref p.1 := fun i v hv => by
          have z : items.toList[i]? = some v := by rw [Array.getElem?_toList]; exact hv
          rw [hi, List.getElem?_map] at z
          cases hq : ks[i]? with
          | none => rw [hq] at z; cases z
          | some p =>
            rw [hq] at z
            exact ⟨p, rfl, (Option.some.inj z).symm⟩
        have none_of : ∀ b, s.heap.objs.size ≤ b → s.heap.get? b = none := fun b hb => by
          cases q : s.heap.get? b with
          | none => rfl
          | some o => exact absurd (Nat.lt_of_lt_of_le (Heap.lt_size q) hb) (Nat.lt_irrefl _)
        have hol' : (s.heap.push (newSet led)).get? l = some { cls := .type c, dict := od, data := .seq items nl, slots := osl } := Heap.get?_push_of_some _ hol
        have q1 : isSubtype (.type c) (.type "set") = pure false := by
          rcases hc with rfl | rfl
          · exact PySem.F.sub_list_set
          · exact PySem.F.sub_tuple_set
        have q2 : isSubtype (.type c) (.type "frozenset") = pure false := by
          rcases hc with rfl | rfl
          · exact PySem.F.sub_list_frozenset
          · exact PySem.F.sub_tuple_frozenset
        have q3 : (Value.type c == Value.type "dict") = false := by rcases hc with rfl | rfl <;> decide
        have hw0 : ∀ b ∈ [(s.heap.push (newSet led)).objs.size], s.heap.get? b = none := fun b hb => none_of b (by rw [List.mem_singleton.mp hb, Heap.size_push]; exact Nat.le_succ _)
        unfold Builtin.«set.__init__» noKeywords Builtin.Frozenset.updateFrom
        generalize hPI : pyIter = PI
        wp_walk
        subst hPI
        rcases hc with rfl | rfl
        · have hl1 : (s.heap.push (newSet led)).IsList l items := ⟨_, hol', rfl, nl, rfl⟩
          refine wpAny_pyIter_list hl1 (wpAny_bind (wpAny_runValue ?_))
          refine setU_loop ((Walks.list hh3 _ l hneI items).toS) s.heap.objs.size hSf ks hisz (by omega) hval s.heap hk (none_of _ (Nat.le_refl _)) hw0 hu items.size 0 _ (by omega) (Nat.zero_le _) ⟨⟨_, Heap.get?_push_size _ rfl, rfl, rfl⟩, (hl1.push _)⟩ (fun b o e => Heap.get?_push_of_some _ (Heap.get?_push_of_some _ e)) ?_ ?_
          · have hget : ((s.heap.push (newSet led)).push { cls := .type "list_iterator", data := .fields #[.ref l, .int 0 0] }).get? s.heap.objs.size = some (newSet led) := Heap.get?_push_of_some _ hS
            exact ⟨[], #[], 0, _, setU_new hget, (fun p hp => nomatch hp), (fun k => Iff.rfl), Nat.le_refl _⟩
          · intro s' L es ep t hm hS' g' hkp
            obtain ⟨h', g2, d', tk', os'⟩ := s'
            have eg : g2 = s.gens := hm.gens
            have ed : d' = s.drawn := hm.drawn
            have eo : os' = s.os := hm.os
            subst eg ed eo
            exact wpAny_pure (wpAny_pure ⟨rfl, h', tk', L, es, ep, t, rfl, hS', hisz ▸ g', hkp⟩)
        · have hl1 : (s.heap.push (newSet led)).IsTuple l items := ⟨_, hol', rfl, nl, rfl⟩
          refine wpAny_pyIter_tuple hl1 (wpAny_bind (wpAny_runValue ?_))
          refine setU_loop ((Walks.tuple hh3 _ l hneI items).toS) s.heap.objs.size hSf ks hisz (by omega) hval s.heap hk (none_of _ (Nat.le_refl _)) hw0 hu items.size 0 _ (by omega) (Nat.zero_le _) ⟨⟨_, Heap.get?_push_size _ rfl, rfl, rfl⟩, (hl1.push _)⟩ (fun b o e => Heap.get?_push_of_some _ (Heap.get?_push_of_some _ e)) ?_ ?_
          · have hget : ((s.heap.push (newSet led)).push { cls := .type "tuple_iterator", data := .fields #[.ref l, .int 0 0] }).get? s.heap.objs.size = some (newSet led) := Heap.get?_push_of_some _ hS
            exact ⟨[], #[], 0, _, setU_new hget, (fun p hp => nomatch hp), (fun k => Iff.rfl), Nat.le_refl _⟩
          · intro s' L es ep t hm hS' g' hkp
            obtain ⟨h', g2, d', tk', os'⟩ := s'
            have eg : g2 = s.gens := hm.gens
            have ed : d' = s.drawn := hm.drawn
            have eo : os' = s.os := hm.os
            subst eg ed eo
            exact wpAny_pure (wpAny_pure ⟨rfl, h', tk', L, es, ep, t, rfl, hS', hisz ▸ g', hkp⟩)
      · cases r₂ with
        | error e => exact hr₂
        | ok fl₂ =>
          cases fl₂ with
          | ret r =>
            obtain ⟨rfl, h', tk, L, es, ep, t, rfl, hS', g', hk'⟩ := hr₂
            repeat (any_goals (first | assumption | wp_step))
            exact h _ _ _ _ _ _ hS' g' hk'
          | _ => exact hr₂.elim
    | _ => exact hr.elim
end
/-- how many different ones -/
def Diff (ks : List (List Str)) (n : Nat) : Prop := ∃ l : List (List Str), l.Nodup ∧ (∀ k, k ∈ l ↔ k ∈ ks) ∧ l.length = n
theorem nodup_le {α : Type} [DecidableEq α] : ∀ {l D : List α}, l.Nodup → (∀ x ∈ l, x ∈ D) → l.length ≤ D.length
  | [], _, _, _ => Nat.zero_le _
  | x :: l, D, hn, hs => by
    have hx := hs x List.mem_cons_self
    obtain ⟨h1, h2⟩ := List.nodup_cons.mp hn
    have := nodup_le (D := D.erase x) h2 fun y hy => (List.mem_erase_of_ne fun e => h1 (by rw [← e]; exact hy)).mpr (hs y (List.mem_cons_of_mem _ hy))
    rw [List.length_erase_of_mem hx] at this
    have hp : 0 < D.length := List.length_pos_of_mem hx
    rw [List.length_cons]
    omega
theorem twice_of {α : Type} [DecidableEq α] : ∀ {l : List α}, ¬ l.Nodup → ∃ a x b, l = a ++ x :: b ∧ x ∈ b
  | [], h => absurd List.nodup_nil h
  | x :: l, h => by
    by_cases hx : x ∈ l
    · exact ⟨[], x, l, rfl, hx⟩
    · obtain ⟨a, y, b, e, hy⟩ := twice_of (l := l) fun z => h (List.nodup_cons.mpr ⟨hx, z⟩)
      exact ⟨x :: a, y, b, by rw [e]; rfl, hy⟩
theorem Diff.eq_iff {ks : List (List Str)} {n : Nat} (h : Diff ks n) : n < ks.length ↔ ¬ ks.Nodup := by
  obtain ⟨l, h1, h2, rfl⟩ := h
  constructor
  · intro hlt hn
    have := nodup_le hn fun k hk => (h2 k).mpr hk
    omega
  · intro hn
    obtain ⟨a, x, b, e, hx⟩ := twice_of hn
    have := nodup_le (D := a ++ b) h1 fun k hk => by
      have h3 := (h2 k).mp hk
      rw [e] at h3
      rcases List.mem_append.mp h3 with z | z
      · exact List.mem_append_left _ z
      · rcases List.mem_cons.mp z with rfl | z
        · exact List.mem_append_right _ hx
        · exact List.mem_append_right _ z
    rw [e]
    rw [List.length_append] at this
    rw [List.length_append, List.length_cons]
    omega
theorem tupK_of {X : Cx} {pins : List (Addr × Obj)} {σ : L2.St} {H : Hp} {s : Shared} {b : Addr} {k : List Str} (I : Inv X pins σ H s) (h : SqT X.K H b (k.map V.str)) : TupK X.prog X.w s.heap k b := by
  obtain ⟨its, r, ⟨o, ho, hc, n, hd⟩, _⟩ := I.tuple h
  have key : ∀ {k : List Str} {us : List Value}, Vals (k.map V.str) us → ItemsAre (PySem.strKind X.prog X.w) k us := fun {k} => by
    induction k with
    | nil =>
      intro us r
      cases r
      exact .nil
    | cons x k ih =>
      intro us r
      cases r with
      | cons r1 r2 =>
        obtain ⟨t, rfl⟩ := r1
        exact .cons (strKind_is _ _ _ _) (ih r2)
  exact ⟨o, its.toArray, n, ho, hc, hd, by simpa using key r⟩
theorem refsU : ∀ {ks : List (Addr × List Str)} {us : List Value}, Vals (ks.map fun p => V.ref p.1) us → us = ks.map fun p => Value.ref p.1
  | [], _, .nil => rfl
  | p :: ks, _, .cons r t => by
    cases r
    rw [refsU t]
    rfl
/-- len(set(xs)), xs a list or a tuple of tuples of texts -/
def tLenSetU (K : PySem.W.Frag) (ta : TE) : TE := fun σ H Q => ta σ H fun x H1 => ∃ (l : Addr) (ks : List (Addr × List Str)), x = .ref l ∧ (SqL K H1 l (ks.map fun p => V.ref p.1) ∨ SqT K H1 l (ks.map fun p => V.ref p.1)) ∧ (∀ p ∈ ks, SqT K H1 p.1 (p.2.map V.str)) ∧ ks.length < 64 ∧ ∀ n, Diff (ks.map (·.2)) n → Q (.int n) H1
theorem pe_lenSetU {X : Cx} {a : Expr} {ta : TE} {p p2 q pos : Pos} (K : PySem.W.Frag) (hu : X.A.units + 64 < cLine) (hc : X.calm = true) (hg : Gl X "len") (hm : X.mg "len" = none) (hg2 : Gl X "set") (hm2 : X.mg "set" = none) (ha : PE X a ta) (hK : X.K = K := by rfl)
    (na : starEach [a] X.env = (false, eval a X.env) :: starEach [] X.env := by rfl) : PE X (.Call (.Name "len" p) [.Call (.Name "set" p2) [a] [] q] [] pos) (tLenSetU K ta) := by
  subst hK
  refine ⟨fun pins s σ H Q I h => Call_ (ld_blt I hg hm boot_len (callWith_builtin1 (args_cons (Call_ (ld_blt I hg2 hm2 boot_set ?_)) rfl) rfl rfl))⟩
  refine callWith_type1 (args_cons (thn (ha.run pins s σ H _ I h) fun v s1 ⟨x, H1, I1, r1, q1⟩ => args_nil ?_) na) na rfl
  obtain ⟨l, ks, rfl, hq, hk, h64, q1⟩ := q1
  cases r1
  have fin : ∀ (h' : Heap) (tk : Nat) L es ep t, SetU X.prog X.w h' s1.heap.objs.size L es ep t → GotU ks ks.length L → (∀ b o, s1.heap.get? b = some o → h'.get? b = some o) →
      wpAny (model X.prog X.w) X.A (spliced (backTo pos (starEach [] X.env))) (fun vs s₂ => wpAny (model X.prog X.w) X.A (call (.builtin "len") (Value.ref s1.heap.objs.size :: vs)) (EP X pins σ Q) X.xe s₂) X.xe { s1 with heap := h', toks := tk } := fun h' tk L es ep t R g hkp => by
    refine args_nil ?_
    obtain ⟨o, ho, hex, hd⟩ := R.ob
    have hes : es.size = L.length := SetU.size (s := { s1 with heap := h', toks := tk }) R
    have hf : t.fits es.size = true := SetU.fits (s := { s1 with heap := h', toks := tk }) R
    have hle := g.len
    have I2 : Inv X pins σ H1 { s1 with heap := h', toks := tk } := I1.kept fun b o e => hkp b o e
    have hq2 := q1 L.length ⟨L.map (·.2), R.nd, fun k => by rw [g.all k, List.take_length], List.length_map ..⟩
    exact call_len_set ho hex hd hf (by omega) ⟨.int L.length, H1, I2.tok _, ⟨_, by rw [hes]⟩, hq2⟩
  rcases hq with hq | hq
  · obtain ⟨its, r, pl, hz⟩ := I1.list hq
    obtain ⟨o, ho, hc1, n, hd1⟩ := pl.isList
    obtain ⟨oc, od, dt, sl⟩ := o
    simp only at hc1 hd1
    subst hc1 hd1
    exact call_setU ks (I1.ok.hd hc) ho (Or.inl rfl) (by simpa using refsU r) (fun p hp => tupK_of I1 (hk p hp)) h64 (by omega) fin
  · obtain ⟨its, r, ⟨o, ho, hc1, n, hd1⟩, hz⟩ := I1.tuple hq
    obtain ⟨oc, od, dt, sl⟩ := o
    simp only at hc1 hd1
    subst hc1 hd1
    exact call_setU ks (I1.ok.hd hc) ho (Or.inr rfl) (by simpa using refsU r) (fun p hp => tupK_of I1 (hk p hp)) h64 (by omega) fin
/-- .. over data -/
theorem ev_lenSetU {K : PySem.W.Frag} {W : Wd K} {Γ : List En} {c : Nat} {ta : TE} {kss : List (List Str)} (h : Ev W ta Γ c (fun d => d = .lst (kss.map fun k => .tup (k.map Da.str)) ∨ d = .tup (kss.map fun k => .tup (k.map Da.str)))) (hl : kss.length < 64) : Ev W (tLenSetU K ta) Γ c (fun d => ∃ n, Diff kss n ∧ d = .int n) := fun H0 B0 B σ H M s hM Q q =>
  h H0 B0 B σ H M s hM _ fun v d H1 k r hd e => by
    have key : ∀ (kss : List (List Str)) (vs : List V), Dats K B H1 vs (kss.map fun k => .tup (k.map Da.str)) → ∃ ks : List (Addr × List Str), vs = ks.map (fun p => V.ref p.1) ∧ ks.map (·.2) = kss ∧ ∀ p ∈ ks, SqT K H1 p.1 (p.2.map V.str) := fun kss => by
      induction kss with
      | nil =>
        intro vs hv
        unfold List.map Dats at hv
        subst hv
        exact ⟨[], rfl, rfl, fun p hp => nomatch hp⟩
      | cons k0 kss ih =>
        intro vs hv
        rw [List.map_cons] at hv
        unfold Dats at hv
        obtain ⟨v0, r0, rfl, h1, h2⟩ := hv
        obtain ⟨ks, rfl, e2, e3⟩ := ih _ h2
        unfold Dat at h1
        obtain ⟨a, us, rfl, g1, g2⟩ := h1
        have e := g2.strs
        subst e
        refine ⟨(a, k0) :: ks, rfl, by rw [List.map_cons, e2], fun p hp => ?_⟩
        rcases List.mem_cons.mp hp with rfl | z
        · exact g1.sq
        · exact e3 p z
    rcases e with e | e
    all_goals
      subst e
      unfold Dat at hd
      obtain ⟨a, vs, rfl, h1, h2⟩ := hd
      obtain ⟨ks, rfl, e2, e3⟩ := key kss vs h2
      have hl2 : ks.length < 64 := by rw [← e2, List.length_map] at hl; exact hl
    · exact ⟨a, ks, rfl, Or.inl h1.sq, e3, hl2, fun n hn => q _ (.int _) H1 k r (dInt.mpr rfl) ⟨n, by rw [← e2]; exact hn, rfl⟩⟩
    · exact ⟨a, ks, rfl, Or.inr h1.sq, e3, hl2, fun n hn => q _ (.int _) H1 k r (dInt.mpr rfl) ⟨n, by rw [← e2]; exact hn, rfl⟩⟩
end WJ
set_option Elab.async false
set_option linter.all false
set_option maxRecDepth 100000
set_option maxHeartbeats 2000000
/-! WkZ6: a tuple of two dicts is not among pairs of texts; index of data; the rules over data -/
namespace WJ
open PySem PySem.Spec PyProof.Rows L2
section
open PySem.SeqAt
theorem dict_declines (l : Addr) (es : Array DictEntry) (n : Nat) (dd : Option Addr) (sl : Array (Option Value)) (b : Str) (u : Tok) :
    Meets (Builtin.«dict.__eq__» ⟨[.ref l, .str b u], []⟩) (fun _ R s => s.heap.get? l = some { cls := .type "dict", dict := dd, data := .dict es n, slots := sl } ∧ R (.ok (.ret .notImplemented)) s) :=
  .of_wp fun prog w A R s h => by
    obtain ⟨hp, g, d, tk, os⟩ := s
    obtain ⟨hl, h⟩ := h
    have f1 := PySem.F.sub_str_dict
    wp_walk
    exact ⟨_, rfl, h⟩
theorem str_declines (b : Str) (u : Tok) (l : Addr) (es : Array DictEntry) (n : Nat) (dd : Option Addr) (sl : Array (Option Value)) :
    Meets (Builtin.«str.__eq__» ⟨[.str b u, .ref l], []⟩) (fun _ R s => s.heap.get? l = some { cls := .type "dict", dict := dd, data := .dict es n, slots := sl } ∧ R (.ok (.ret .notImplemented)) s) :=
  .of_wp fun prog w A R s h => by
    obtain ⟨hp, g, d, tk, os⟩ := s
    obtain ⟨hl, h⟩ := h
    wp_walk using wpAny_load hl
    exact ⟨_, rfl, h⟩
theorem str_dict {A : Around} {s : Shared} {l : Addr} {es : Array DictEntry} {n : Nat} {dd : Option Addr} {sl : Array (Option Value)} (b : Str) (u : Tok) (ho : s.heap.get? l = some { cls := .type "dict", dict := dd, data := .dict es n, slots := sl }) (hu : A.units < cLine) : EqAt A s (.str b u) (.ref l) false := fun prog w E Q h => by
  unfold eqBool
  refine wpAny_holding ?_
  refine wpAny_ite_split (fun hab => absurd (eq_of_beq hab) nofun) (fun _ => ?_)
  refine wpAny_bind ?_
  exact rc_eq_decline_or (k := false) (typeIs_str s b u) ⟨_, ho, rfl⟩ (by decide) PySem.F.sub_dict_str PySem.F.slot_str_eq PySem.F.slot_dict_eq_refl
    (fun _ hq => call_meets PySem.F.slot_str_eq (typeIs_str s b u) PySem.F.entry_str_eq (PySem.F.args_str_eq_2 _ _) (str_declines b u l es n dd sl) ⟨ho, hq⟩)
    (fun _ hq => call_meets PySem.F.slot_dict_eq_refl ⟨_, ho, rfl⟩ PySem.F.entry_dict_eq (PySem.F.args_dict_eq_2 _ _) (dict_declines l es n dd sl b u) ⟨ho, hq⟩)
    (fun _ hq => wpAny_of_eq (rfl : isSame (.str b u) (.ref l) = pure false) hq) (.inr hu) (wpAny_truthy_bool h)
end
/-- a tuple of two dicts, looked for among pairs of texts -/
def rInTd (K : PySem.W.Frag) (neg : Bool) : R2 := fun x y H Q => ∃ (t l d1 d2 : Addr) (k1 k2 : List (Key × V)) (ps : List (Addr × Str × Str)), x = .ref t ∧ y = .ref l ∧ SqT K H t [.ref d1, .ref d2] ∧ Rd H d1 (.dK k1) ∧ Rd H d2 (.dK k2) ∧ SqL K H l (ps.map fun p => V.ref p.1) ∧ (∀ p ∈ ps, SqT K H p.1 [.str p.2.1, .str p.2.2]) ∧ Q (.bl neg) H
section
variable {X : Cx}
theorem among {pins : List (Addr × Obj)} {s : Shared} {σ : L2.St} {H : Hp} (I : Inv X pins σ H s) {A : Around} (hu : A.units + 2 < cLine) {t l d1 d2 : Addr} {k1 k2 : List (Key × V)} {ps : List (Addr × Str × Str)} (ht : SqT X.K H t [.ref d1, .ref d2]) (h1 : Rd H d1 (.dK k1)) (h2 : Rd H d2 (.dK k2)) (hl : SqL X.K H l (ps.map fun p => V.ref p.1)) (hp : ∀ p ∈ ps, SqT X.K H p.1 [.str p.2.1, .str p.2.2]) :
    ∃ items : Array Value, s.heap.IsList l items ∧ ∀ y, y ∈ items → SeqAt.EqAt A.in1 s y (.ref t) false := by
  obtain ⟨its, rv, pl, hz⟩ := I.list hl
  refine ⟨its.toArray, pl.isList, fun y hy => ?_⟩
  have hy1 : y ∈ its := by simpa using hy
  obtain ⟨i, hi⟩ := List.mem_iff_getElem?.mp hy1
  have hil : i < (ps.map fun p => V.ref p.1).length := by rw [rv.length]; exact (List.getElem?_eq_some_iff.mp hi).1
  obtain ⟨u, e1, e2⟩ := rv.get (List.getElem?_eq_getElem hil)
  rw [hi] at e1
  cases e1
  rw [List.length_map] at hil
  rw [List.getElem_map] at e2
  cases e2
  have hpm := hp ps[i] (List.getElem_mem hil)
  obtain ⟨a1, r1, q1, _⟩ := I.tuple hpm
  obtain ⟨a2, r2, q2, _⟩ := I.tuple ht
  obtain ⟨u1, u2, rfl, ⟨t1, rfl⟩, ⟨t2, rfl⟩⟩ := r1.two
  obtain ⟨w1, w2, rfl, z1, z2⟩ := r2.two
  cases z1
  cases z2
  have dk : ∀ {d : Addr} {k : List (Key × V)}, Rd H d (.dK k) → ∃ o es n, s.heap.get? d = some o ∧ o.cls = .type "dict" ∧ o.data = .dict es n := fun {d k} h => by
    obtain ⟨_, _, vs, _, hdo⟩ := dk_rd I.hok h
    obtain ⟨o, es, n, e1, e2, e3, _⟩ := hdo
    exact ⟨o, es, n, e1, e2.1, e3⟩
  obtain ⟨⟨c1, dd1, da1, sl1⟩, es1, n1, g1, g2, g3⟩ := dk h1
  obtain ⟨⟨c2, dd2, da2, sl2⟩, es2, n2, m1, m2, m3⟩ := dk h2
  simp only at g2 g3 m2 m3
  subst g2 g3 m2 m3
  have hne : ps[i].1 ≠ t := fun z => by
    have hpm2 := hpm
    rw [z] at hpm2
    obtain ⟨b1, s1, p1, _⟩ := I.tuple hpm2
    obtain ⟨o1, f1, _, m, f2⟩ := p1
    obtain ⟨o2, f3, _, m', f4⟩ := q2
    rw [f1] at f3
    cases f3
    rw [f2] at f4
    injection f4 with f5 _
    have : b1 = [Value.ref d1, Value.ref d2] := by simpa using congrArg Array.toList f5
    subst this
    obtain ⟨v1, v2, ev, ⟨tt, rfl⟩, _⟩ := s1.two
    cases ev
  have hE := SeqAt.EqAt.of_refs (A := A.in1) hne (SeqAt.RcAt.tuples (e := fun _ => false) q1 q2 (by show A.units + 1 < cLine; omega) fun j j1 j2 => by
    have : j = 0 ∨ j = 1 := by
      have : j < 2 := by simpa using j1
      omega
    rcases this with rfl | rfl
    · exact str_dict _ _ g1 (by show A.units + 1 + 1 < cLine; omega)
    · exact str_dict _ _ m1 (by show A.units + 1 + 1 < cLine; omega))
  exact hE
/-- x in l, x not in l, data or a tuple of two dicts -/
def rInX (K : PySem.W.Frag) : R2 := fun x y H Q => rInD K x y H Q ∨ rInTd K false x y H Q
def rNotInX (K : PySem.W.Frag) : R2 := fun x y H Q => rNotInD K x y H Q ∨ rInTd K true x y H Q
theorem o_inX (K : PySem.W.Frag) (hu : X.A.units + 65 < cLine) (hK : X.K = K := by rfl) : OpR X (compareOp .In) (rInX K) := orO (o_inD K hu hK) (by
  subst hK
  intro pins s σ H x y v u Q I rx ry h
  obtain ⟨t, l, d1, d2, k1, k2, ps, rfl, rfl, h1, h2, h3, h4, h5, q⟩ := h
  cases rx
  cases ry
  obtain ⟨items, g1, g2⟩ := among I (A := X.A) (by omega) h1 h2 h3 h4 h5
  exact SeqAt.in_listAt (fun _ => false) g1 g2 (by rw [show items.any (fun _ => false) = false by simp]; exact ⟨.bl false, H, I, rfl, q⟩))
theorem o_notInX (K : PySem.W.Frag) (hu : X.A.units + 65 < cLine) (hK : X.K = K := by rfl) : OpR X (compareOp .NotIn) (rNotInX K) := orO (o_notInD K hu hK) (by
  subst hK
  intro pins s σ H x y v u Q I rx ry h
  obtain ⟨t, l, d1, d2, k1, k2, ps, rfl, rfl, h1, h2, h3, h4, h5, q⟩ := h
  cases rx
  cases ry
  obtain ⟨items, g1, g2⟩ := among I (A := X.A) (by omega) h1 h2 h3 h4 h5
  exact SeqAt.notIn_listAt (fun _ => false) g1 g2 (by rw [show items.any (fun _ => false) = false by simp]; exact ⟨.bl true, H, I, rfl, q⟩))
end
end WJ
set_option Elab.async false
set_option linter.all false
set_option maxRecDepth 100000
set_option maxHeartbeats 2000000
/-! WkZ7: the rules over data -/
namespace WJ
open PySem PySem.Spec PyProof.Rows L2
section
variable {K : PySem.W.Frag} {W : Wd K} {Γ : List En} {c c1 c2 c3 : Nat} {te ti td ty tx ta tb : TE} {P : Da → Prop} {p : Po}
/-! ### in -/
theorem rv_inXp {d : Da} {ds : List Da} (h : Rv W (rInD K) d (.lst ds) P) : Rv W (rInX K) d (.lst ds) P := fun B H M v1 v2 s h1 h2 Q q => Or.inl (h B H M v1 v2 s h1 h2 Q q)
theorem rv_notInDp {d : Da} {ds : List Da} (p1 : d.plain = true) (p2 : (Da.lst ds).plain = true) (s1 : SeqAt.shaped d.py = true) (s2 : SeqAt.shaped (Da.lst ds).py = true) (q : P (.bl (!ds.any fun z => PyData.eqv z.py d.py))) : Rv W (rNotInX K) d (.lst ds) P :=
  rv_now (fun B H v1 v2 Q h1 h2 k => by
    have h3 := Dat.dp (.lst ds) v2 p2 h2
    unfold Da.py at h3 s2
    refine Or.inl ⟨d.py, pys ds, Dat.dp d v1 p1 h1, h3, s1, s2, k _ (dBl.mpr ?_)⟩
    rw [pys_map, List.any_map]
    rfl) q
theorem td_parts {B : List Addr} {H : Hp} {v1 v2 : V} {e1 e2 : List (Key × Da)} {ps : List (Str × Str)} (h1 : Dat K B H v1 (.tup [.dct e1, .dct e2])) (h2 : Dat K B H v2 (.lst (ps.map fun p => .tup [.str p.1, .str p.2]))) {neg : Bool} {Q : VK} (q : Q (.bl neg) H) : rInTd K neg v1 v2 H Q := by
  unfold Dat at h1 h2
  obtain ⟨t, xs, rfl, st, hx⟩ := h1
  obtain ⟨l, ys, rfl, sl, hy⟩ := h2
  unfold Dats at hx
  obtain ⟨w1, r1, rfl, g1, hx⟩ := hx
  unfold Dats at hx
  obtain ⟨w2, r2, rfl, g2, hx⟩ := hx
  unfold Dats at hx
  subst hx
  unfold Dat at g1 g2
  obtain ⟨d1, k1, rfl, ⟨_, m1⟩, _⟩ := g1
  obtain ⟨d2, k2, rfl, ⟨_, m2⟩, _⟩ := g2
  have key : ∀ (ps : List (Str × Str)) (ys : List V), Dats K B H ys (ps.map fun p => .tup [.str p.1, .str p.2]) → ∃ qs : List (Addr × Str × Str), ys = qs.map (fun p => V.ref p.1) ∧ ∀ p ∈ qs, SqT K H p.1 [.str p.2.1, .str p.2.2] := fun ps => by
    induction ps with
    | nil =>
      intro ys h
      unfold List.map Dats at h
      subst h
      exact ⟨[], rfl, fun p hp => nomatch hp⟩
    | cons p0 ps ih =>
      intro ys h
      rw [List.map_cons] at h
      unfold Dats at h
      obtain ⟨v0, r0, rfl, f1, f2⟩ := h
      obtain ⟨qs, rfl, e3⟩ := ih _ f2
      unfold Dat at f1
      obtain ⟨a, us, rfl, n1, n2⟩ := f1
      have e : us = ([p0.1, p0.2] : List Str).map V.str := Dats.strs (xs := [p0.1, p0.2]) n2
      subst e
      refine ⟨(a, p0) :: qs, rfl, fun p hp => ?_⟩
      rcases List.mem_cons.mp hp with rfl | z
      · exact n1.sq
      · exact e3 p z
  obtain ⟨qs, rfl, e3⟩ := key ps ys hy
  exact ⟨t, l, d1, d2, k1, k2, qs, rfl, rfl, st.sq, m1, m2, sl.sq, e3, q⟩
theorem rv_inTd {e1 e2 : List (Key × Da)} {ps : List (Str × Str)} (q : P (.bl false)) : Rv W (rInX K) (.tup [.dct e1, .dct e2]) (.lst (ps.map fun p => .tup [.str p.1, .str p.2])) P := fun B H M v1 v2 s h1 h2 Q k =>
  Or.inr (td_parts h1 h2 (k _ _ H Kp.refl s.dr (dBl.mpr rfl) q))
theorem rv_notInTd {e1 e2 : List (Key × Da)} {ps : List (Str × Str)} (q : P (.bl true)) : Rv W (rNotInX K) (.tup [.dct e1, .dct e2]) (.lst (ps.map fun p => .tup [.str p.1, .str p.2])) P := fun B H M v1 v2 s h1 h2 Q k =>
  Or.inr (td_parts h1 h2 (k _ _ H Kp.refl s.dr (dBl.mpr rfl) q))
/-! ### xs.index(x) -/
theorem ev_indexD {ds : List Da} {d z : Da} {j : Nat} (h : Ev W te Γ c1 (· = .lst ds)) (hi : Ev W ti Γ c2 (· = d)) (p1 : (Da.lst ds).plain = true) (p2 : d.plain = true) (s1 : SeqAt.shaped (Da.lst ds).py = true) (s2 : SeqAt.shaped d.py = true) (hj : ds[j]? = some z) (hz : PyData.eqv z.py d.py = true) (hno : ∀ (m : Nat) z', m < j → ds[m]? = some z' → PyData.eqv z'.py d.py = false) :
    Ev W (tBM K "list" (rIndexD K) te (tCons ti tNil)) Γ (c1 + c2) (· = .int (j : Nat)) := fun H0 B0 B σ H M s hM Q q =>
  h H0 B0 B σ H M s (by omega) _ fun v d' H1 k1 r1 hd e => by
    subst e
    have s1' := s.keep k1 r1
    have hd0 := hd
    unfold Dat at hd
    obtain ⟨a, xs, rfl, sl, t⟩ := hd
    refine ⟨Or.inl ⟨rfl, xs, sl.sq⟩, ?_⟩
    refine hi H0 B0 B σ H1 _ s1' (by omega) _ fun v2 d2 H2 k2 r2 hd2 e3 => ?_
    subst e3
    have hd1 : Dat K B H2 (.ref a) (.lst ds) := Dat.mono (s1'.toBk.kp k2) _ _ hd0
    have hdp := Dat.dp (.lst ds) (.ref a) p1 hd1
    unfold Da.py at hdp s1
    refine ⟨a, v2, d2.py, pys ds, j, z.py, rfl, rfl, hdp, Dat.dp d2 v2 p2 hd2, s1, s2, ?_, hz, fun m z' hm hz' => ?_, q _ _ H2 (k1.trans k2) (W.less r2 (by omega)) (dInt.mpr rfl) rfl⟩
    · rw [pys_map, List.getElem?_map, hj]
      rfl
    · rw [pys_map, List.getElem?_map] at hz'
      cases hm' : ds[m]? with
      | none => rw [hm'] at hz'; cases hz'
      | some w =>
        rw [hm'] at hz'
        cases hz'
        exact hno m w hm hm'
/-! ### zip -/
def zipD (ds es : List Da) : List Da := (ds.zip es).map fun p => .tup [p.1, p.2]
theorem zipD_get {ds es : List Da} {i : Nat} {d e : Da} (h1 : ds[i]? = some d) (h2 : es[i]? = some e) : (zipD ds es)[i]? = some (.tup [d, e]) := by
  unfold zipD
  rw [List.getElem?_map, (List.getElem?_zip_eq_some (z := (d, e))).mpr ⟨h1, h2⟩]
  rfl
theorem zipD_len {ds es : List Da} (h : ds.length = es.length) : (zipD ds es).length = ds.length := by
  unfold zipD
  rw [List.length_map, List.length_zip, h, Nat.min_self]
theorem src_zip {B : List Addr} {H : Hp} {a b : Addr} {ds es : List Da} (hl : ds.length = es.length) (h : Dat K B H (.ref a) (.lst ds)) (h' : Dat K B H (.ref b) (.lst es)) : Src K B (Itz K a b) (zipD ds es) H := fun B' H' m al => by
  have h3 := Dat.mv m _ _ h
  have h4 := Dat.mv m _ _ h'
  unfold Dat at h3 h4
  obtain ⟨a', xs, e, s, hd⟩ := h3
  cases e
  obtain ⟨b', ys, e, s', hd'⟩ := h4
  cases e
  have l1 := hd.length
  have l2 := hd'.length
  rw [zipD_len hl]
  refine ⟨fun i hi => ?_, xs, ys, s.sq, s'.sq, Or.inl (by omega)⟩
  refine ⟨⟨xs, ys, xs[i]'(by omega), ys[i]'(by omega), s.sq, s'.sq, List.getElem?_eq_getElem _, List.getElem?_eq_getElem _⟩, fun x H2 ⟨T, x1, y1, e1, nT, e2, g1, g2⟩ => ?_⟩
  subst e1 e2
  obtain ⟨d, f1, f2⟩ := hd.get (g1 xs s.sq)
  obtain ⟨d', f3, f4⟩ := hd'.get (g2 ys s'.sq)
  refine ⟨Kp.new nT, Nt.upd (fun ps z => HO.noConfusion z), .tup [d, d'], zipD_get f1 f3, ?_⟩
  unfold Dat
  exact ⟨T, _, rfl, .of (fun z => al T z nT) upd_same, .cons (Dat.mono (Kp.new nT) _ _ f2) (.cons (Dat.mono (Kp.new nT) _ _ f4) .nil)⟩
theorem two_lists {B : List Addr} {H : Hp} {vs : List V} {ds es : List Da} (h : Dats K B H vs [.lst ds, .lst es]) : ∃ a b, vs = [.ref a, .ref b] ∧ Dat K B H (.ref a) (.lst ds) ∧ Dat K B H (.ref b) (.lst es) := by
  unfold Dats at h
  obtain ⟨v, r, rfl, h1, h⟩ := h
  unfold Dats at h
  obtain ⟨v', r', rfl, h2, h⟩ := h
  unfold Dats at h
  subst h
  have g1 := h1
  have g2 := h2
  unfold Dat at g1 g2
  obtain ⟨a, _, rfl, _⟩ := g1
  obtain ⟨b, _, rfl, _⟩ := g2
  exact ⟨a, b, rfl, h1, h2⟩
theorem ei_zip {tA : TA} {ds es : List Da} (hl : ds.length = es.length) (h : EvA W tA Γ c (· = [.lst ds, .lst es])) : Ei W (iZip K tA) Γ c (· = zipD ds es) := fun H0 B0 B σ H M s hM R q =>
  h H0 B0 B σ H M s hM _ fun vs ds' H1 k r hd e => by
    subst e
    obtain ⟨a, b, rfl, h1, h2⟩ := two_lists hd
    have g1 := h1
    have g2 := h2
    unfold Dat at g1 g2
    obtain ⟨_, xs, e, s1, _⟩ := g1
    cases e
    obtain ⟨_, ys, e, s2, _⟩ := g2
    cases e
    exact ⟨a, b, xs, ys, rfl, s1.sq, s2.sq, q _ _ H1 k r (src_zip hl h1 h2) rfl⟩
theorem evF_lstZip {tA : TA} {ds es : List Da} (hW : W.Lax) (hl : ds.length = es.length) (h : EvA W tA Γ c (· = [.lst ds, .lst es])) : EvF W (tLstZip K tA) Γ c (· = zipD ds es) := fun H0 B0 B σ H M s hM Q q =>
  h H0 B0 B σ H M s hM _ fun vs ds' H1 k r hd e => by
    subst e
    have s1 := s.keep k r
    obtain ⟨a, b, rfl, h1, h2⟩ := two_lists hd
    have g1 := h1
    have g2 := h2
    unfold Dat at g1 g2
    obtain ⟨_, xs, e, sx, tx⟩ := g1
    cases e
    obtain ⟨_, ys, e, sy, ty⟩ := g2
    cases e
    have l1 := tx.length
    have l2 := ty.length
    refine ⟨a, b, xs, ys, rfl, sx.sq, sy.sq, by omega, fun H' l as k2 nl hL hal new hla at_ => ?_⟩
    have kp : ∀ C, Kp C H1 H' := fun C b o _ e => k2 b o e
    refine q l (as.map V.ref) _ H' (k.backB (fun z => s1.al l (s.fb l z) nl) nl) (k.trans (kp _)) ?_ hL ?_ rfl
    · refine hW (fun b hb => ?_) (fun b φ e => k2 b _ e) r
      cases e : H1 b with
      | none => exact absurd e (W.alive r b hb)
      | some o => rw [k2 b o e]
    · have key : ∀ (n : Nat) (as : List Addr) (ds es : List Da) (xs ys : List V), as.length = xs.length → xs.length = ds.length → ds.length = es.length → Dats K B H1 xs ds → Dats K B H1 ys es → (∀ t ∈ as, H1 t = none) → l ∉ as → (∀ (j : Nat) t x y, as[j]? = some t → xs[j]? = some x → ys[j]? = some y → H' t = some (.tup [x, y])) → as.length ≤ n → Dats K (l :: B) H' (as.map V.ref) (zipD ds es) := fun n => by
        induction n with
        | zero =>
          intro as ds es xs ys e1 e2 e3 h1 h2 _ _ _ hn
          have : as = [] := List.length_eq_zero_iff.mp (by omega)
          subst this
          have : ds = [] := List.length_eq_zero_iff.mp (by rw [← e2, ← e1]; rfl)
          subst this
          exact .nil
        | succ n ih =>
          intro as ds es xs ys e1 e2 e3 h1 h2 hnew hla hat hn
          match as, xs, ds, es, e1, e2, e3, h1, h2, hnew, hla, hat, hn with
          | [], [], [], [], _, _, _, _, _, _, _, _, _ => exact .nil
          | t :: as, x :: xs, d :: ds, e0 :: es, e1, e2, e3, h1, h2, hnew, hla, hat, hn =>
            unfold Dats at h1 h2
            obtain ⟨x', xs', ex, hx1, hx2⟩ := h1
            cases ex
            obtain ⟨y', ys', rfl, hy1, hy2⟩ := h2
            have ht := hat 0 t x y' rfl rfl rfl
            have ntB : t ∉ l :: B := fun z => by
              rcases List.mem_cons.mp z with rfl | z
              · exact hla List.mem_cons_self
              · exact s1.al t z (hnew t List.mem_cons_self)
            have up : ∀ {v : V} {d : Da}, Dat K B H1 v d → Dat K (l :: B) H' v d := fun {v d} h => Dat.mono (kp _) _ _ (Dat.put nl _ _ h)
            refine .cons ?_ (ih as ds es xs ys' (by simpa using e1) (by simpa using e2) (by simpa using e3) hx2 hy2 (fun t' h' => hnew t' (List.mem_cons_of_mem _ h')) (fun z => hla (List.mem_cons_of_mem _ z)) (fun j t' x'' y'' q1 q2 q3 => hat (j + 1) t' x'' y'' q1 q2 q3) (by simpa using hn))
            show Dat K (l :: B) H' (.ref t) (.tup [d, e0])
            unfold Dat
            exact ⟨t, _, rfl, .of ntB ht, .cons (up hx1) (.cons (up hy1) .nil)⟩
      exact key _ as ds es xs ys hal (by omega) hl tx ty new hla at_ (Nat.le_refl _)
end
end WJ
set_option Elab.async false
set_option linter.all false
set_option maxRecDepth 100000
set_option maxHeartbeats 2000000
/-! WkZ8: two items exchanged; d.get(k, x); dict(pairs); is not; a dict of two pairs -/
namespace WJ
open PySem PySem.Spec PyProof.Rows L2
def rDictP (K : PySem.W.Frag) : List V → Hp → VK → Prop := fun xs H Q => ∃ (a : Addr) (ps : List Addr) (kvs : List (Key × V)), xs = [.ref a] ∧ SqL K H a (ps.map V.ref) ∧ Paired (fun p kv => SqT K H p [kV kv.1, kv.2]) ps kvs ∧ ∀ p, H p = none → Q (.ref p) (upd H p (.dK (mergeK [] kvs)))
theorem o_dictP {X : Cx} (K : PySem.W.Frag) (hc : X.calm = true := by rfl) (hK : X.K = K := by rfl) : CallR X (.type "dict") (rDictP K) := hK ▸ call_dictP hc
theorem m2_by {X : Cx} {o : Expr} {m : Str} {apos : Pos} {e f : Expr} {cpos : Pos} (h1 : attributeBase o m X.env (eval o X.env) = eval o X.env) (h2 : ((backTo cpos (starEach [e, f] X.env)).all (fun x => !x.1) && (backToKw cpos (keywordEach [] X.env)).all (fun x => x.1.isSome) && decide (([e, f] : List Expr).length + ([] : List Keyword).length + (if ([] : List Keyword).isEmpty then 0 else 1) < 30)) = true) (h3 : (apos.endLine == cpos.line) = true) (h4 : backTo cpos (starEach [e, f] X.env) = [(false, eval e X.env), (false, eval f X.env)]) : M2 X o m apos e f cpos := ⟨h1, h2, h3, h4⟩
section
variable {K : PySem.W.Frag} {W : Wd K} {Γ : List En} {c c1 c2 c3 : Nat} {te ti td ty tx ta tb : TE} {P : Da → Prop} {p : Po}
theorem rv_notB {a b : Bool} : Rv W rNotB (.bl a) (.bl b) (· = .bl (!decide (a = b))) := fun B H M v1 v2 s h1 h2 Q q =>
  ⟨a, b, dBl.mp h1, dBl.mp h2, q _ _ H Kp.refl s.dr (dBl.mpr rfl) rfl⟩
/-- d.get(k, x) -/
theorem ev_dget2 {es : List (Key × Da)} {k : Key} {z : Da} (h : Ev W td Γ c1 (· = .dct es)) (hk : Ev W ty Γ c2 (· = keyD k)) (hx : Ev W tx Γ c3 (· = z)) : Ev W (tDGet2 td ty tx) Γ (c1 + (c2 + c3)) (· = (valD es k).getD z) := fun H0 B0 B σ H M s hM Q q =>
  h H0 B0 B σ H M s (by omega) _ fun v d H1 k1 r1 hd e => by
    subst e
    have s1 := s.keep k1 r1
    have hd0 := hd
    unfold Dat at hd
    obtain ⟨a, xs, rfl, ⟨nb, rd⟩, _⟩ := hd
    refine ⟨a, rfl, Or.inl ⟨xs, rd⟩, ?_⟩
    refine hk H0 B0 B σ H1 _ s1 (by omega) _ fun v2 d2 H2 k2 r2 hd2 e2 => ?_
    subst e2
    have s2 := s1.keep k2 r2
    refine hx H0 B0 B σ H2 _ s2 (by omega) _ fun v3 d3 H3 k3 r3 hd3 e3 => ?_
    subst e3
    have k13 : Kp B H1 H3 := (s1.toBk.kp k2).trans (s2.toBk.kp k3)
    have hd1 := Dat.mono k13 _ _ hd0
    unfold Dat at hd1
    obtain ⟨a', xs', e, ⟨_, rd'⟩, t'⟩ := hd1
    cases e
    have kd : v2 = kV k := keyD_dat hd2
    rcases t'.val k with ⟨z1, z2⟩ | ⟨v, d', z1, z2, hv⟩
    · refine ⟨none, Or.inl ⟨xs', k, rd', kd, z2.symm⟩, q _ d3 H3 ((k1.trans k2).trans k3) (W.less r3 (by omega)) hd3 ?_⟩
      rw [z1]
      rfl
    · refine ⟨some v, Or.inl ⟨xs', k, rd', kd, z2.symm⟩, q _ d' H3 ((k1.trans k2).trans k3) (W.less r3 (by omega)) hv ?_⟩
      rw [z1]
      rfl
/-- dict([(k, v)]) -/
theorem rc_dictP1 {x : Str} {d : Da} (q0 : P (.dct [(Sum.inr x, d)])) : Rc W (rDictP K) [.lst [.tup [.str x, d]]] P := fun B H M vs s h Q q => by
  unfold Dats at h
  obtain ⟨v, r, rfl, h1, h⟩ := h
  unfold Dats at h
  subst h
  unfold Dat at h1
  obtain ⟨a, xs, rfl, s1, t1⟩ := h1
  unfold Dats at t1
  obtain ⟨v1, r1, rfl, h2, t1⟩ := t1
  unfold Dats at t1
  subst t1
  unfold Dat at h2
  obtain ⟨b, ys, rfl, s2, t2⟩ := h2
  unfold Dats at t2
  obtain ⟨w1, r2, rfl, g1, t2⟩ := t2
  unfold Dats at t2
  obtain ⟨w2, r3, rfl, g2, t2⟩ := t2
  unfold Dats at t2
  subst t2
  have e1 : w1 = .str x := dStr.mp g1
  subst e1
  refine ⟨a, [b], [(Sum.inr x, w2)], rfl, s1.sq, .cons s2.sq .nil, fun p np => ?_⟩
  have hm : mergeK [] [((Sum.inr x : Key), w2)] = [(Sum.inr x, w2)] := rfl
  rw [hm]
  have npB : p ∉ B := fun z => s.al p z np
  refine q _ (.dct [(Sum.inr x, d)]) _ (Kp.new np) (Wd.new np s.dr) ?_ q0
  unfold Dat
  exact ⟨p, _, rfl, ⟨npB, Or.inl upd_same⟩, by unfold Datk; exact ⟨w2, [], rfl, Dat.mono (Kp.new np) _ _ g2, by unfold Datk; rfl⟩⟩
theorem evG_disp2 {x y a b : Str} (hxy : x ≠ y) : EvG W (tDisp [((tC (.str x)), (tC (.str a))), ((tC (.str y)), (tC (.str b)))]) Γ 0 (· = [(Sum.inr x, .str a), (Sum.inr y, .str b)]) := fun H0 B0 B σ H M s _ Q q => fun l na => by
  refine ⟨upd_same, [(Sum.inr x, .str a), (Sum.inr y, .str b)], rfl, (by show 2 ≤ 15; decide), ?_⟩
  rw [upd_upd]
  have hm : mergeK [] [((Sum.inr x : Key), V.str a), (Sum.inr y, .str b)] = [(Sum.inr x, .str a), (Sum.inr y, .str b)] := by
    have h1 : ¬ (Sum.inr x : Key) = (Sum.inr y : Key) := fun z => hxy (Sum.inr.inj z)
    simp [mergeK, L2.putK, h1]
  rw [hm]
  exact q l _ _ _ na (Kp.new na) (Wd.new na s.dr) upd_same (by unfold Datk; exact ⟨.str a, _, rfl, dStr.mpr rfl, by unfold Datk; exact ⟨.str b, [], rfl, dStr.mpr rfl, by unfold Datk; rfl⟩⟩) rfl
/-- xs[i], xs[j] = d, e: xs the body's own -/
theorem es_put2 {i : Nat} {ds : List Da} {k m : Nat} {t1 t2 : TE} {d e : Da} (hi : Γ[i]? = some (.own ds)) (h : Ev W te Γ c (· = .tup [d, e])) (hk : Ev W t1 Γ 0 (· = .int (k : Nat))) (hm : Ev W t2 (Γ.set i (.own (ds.set k d))) 0 (· = .int (m : Nat))) (lk : k < ds.length) (lm : m < ds.length) (hp : p.nx (Γ.set i (.own ((ds.set k d).set m e)))) :
    Es W (tAsg te (gTup K 2 (gCons (gSub (tVar i) t1 rSetL) (gCons (gSub (tVar i) t2 rSetL) gNil)))) Γ c p := fun H0 B0 B σ H M D s hM a b e0 f => by
  obtain ⟨o, ho, l, xs, rfl, hB, hx, hd⟩ := s.sl i _ hi
  have hO : Ow σ Γ i l := ⟨⟨_, hi, rfl⟩, ho⟩
  refine h H0 B0 B σ H M s hM _ fun v d' H1 k1 r1 hv q => ?_
  subst q
  have s1 := s.keep k1 r1
  unfold Dat at hv
  obtain ⟨t, us, rfl, st, hu⟩ := hv
  have hul := hu.length
  unfold Dats at hu
  obtain ⟨v1, ur, rfl, g1, hu⟩ := hu
  unfold Dats at hu
  obtain ⟨v2, ur2, rfl, g2, hu⟩ := hu
  unfold Dats at hu
  subst hu
  refine ⟨t, _, rfl, st.sq, rfl, v1, _, rfl, .ref l, ho, ?_⟩
  refine hk H0 B0 B σ H1 _ s1 (Nat.zero_le _) _ fun jv jd H2 k2 r2 hjd ej => ?_
  subst ej
  rw [dInt.mp hjd]
  have s2 := s1.keep k2 r2
  have k12 := k1.trans k2
  have hx2 : H2 l = some (.lst xs) := k12 l _ (s.outF hO) hx
  have hlen := hd.length
  refine ⟨l, xs, k, k, rfl, rfl, hx2, ?_, ?_⟩
  · unfold ixN
    rw [if_pos (by omega), if_pos (by omega)]
    rfl
  · have s3 := s2.change hi rfl ho (e' := .own (ds.set k d)) rfl ⟨l, _, rfl, hB, upd_same, Dats.mono (Kp.mut hB) _ _ (Dats.set (Dat.mono (s1.toBk.kp k2) _ _ g1) k (Dats.mono (s.toBk.kp k12) ds xs hd))⟩
    have hi3 : (Γ.set i (.own (ds.set k d)))[i]? = some (.own (ds.set k d)) := by
      rw [List.getElem?_set_self (List.getElem?_eq_some_iff.mp hi).1]
    obtain ⟨o3, ho3, l3, xs3, e3, hB3, hx3, hd3⟩ := s3.sl i _ hi3
    rw [ho] at ho3
    cases ho3
    cases e3
    rw [upd_same] at hx3
    cases hx3
    refine ⟨v2, _, rfl, .ref l, ho, ?_⟩
    have hO3 : Ow σ (Γ.set i (.own (ds.set k d))) i l := ⟨⟨_, hi3, rfl⟩, ho⟩
    refine hm H0 B0 B σ _ _ s3 (Nat.zero_le _) _ fun jv jd H4 k4 r4 hjd ej => ?_
    subst ej
    rw [dInt.mp hjd]
    have s4 := s3.keep k4 r4
    have hx4 : H4 l = some (.lst (xs.set k v1)) := k4 l _ (s3.outF hO3) upd_same
    refine ⟨l, xs.set k v1, m, m, rfl, rfl, hx4, ?_, rfl, ?_⟩
    · unfold ixN
      rw [List.length_set, if_pos (by omega), if_pos (by omega)]
      rfl
    · have g4 : Dat K B H4 v2 e := Dat.mono ((s1.toBk.kp k2).trans ((Kp.mut hB).trans (s3.toBk.kp k4))) _ _ g2
      have s5 := s4.change hi3 rfl ho (e' := .own ((ds.set k d).set m e)) rfl ⟨l, _, rfl, hB, upd_same, Dats.mono (Kp.mut hB) _ _ (Dats.set g4 m (Dats.mono (s3.toBk.kp k4) _ _ hd3))⟩
      rw [List.set_set] at s5
      exact a B σ _ _ s5 (Mv.of ((((s.toBk.kp k12).trans (Kp.mut hB)).trans (s3.toBk.kp k4)).trans (Kp.mut hB))) hp
end
end WJ
set_option Elab.async false
set_option linter.all false
set_option maxRecDepth 100000
set_option maxHeartbeats 4000000
/-! B23: steps over data -/
namespace P23
open PySem L2 TL WJ LamX
def t_steps_of (K : PySem.W.Frag) (sp_Schema_references : Sp) : TS :=
  (tRet (tLc2 (iList K (tCB (rSortedA K) (tCons (tProp (He.ga K "Schema") sp_Schema_references [] E0 (tVar 0)) tNil))) (gName 1) tYes (iTup K (tTup (tCons (tC (.str "back")) (tCons (tC (.str "forth")) tNil)))) (gName 2) tYes (tTup (tCons (tVar 1) (tCons (tVar 2) tNil))) [1, 2] [2]))
def t_is_step (K : PySem.W.Frag) (sp_steps_of : Sp) : TS :=
  (tRet (tAndV (tCB (rIsiA K) (tCons (tVar 1) (tCons (tC (.ty "tuple")) tNil))) (tOp (rInX K) (tVar 1) (tCall sp_steps_of [] E0 (tCons (tVar 0) tNil)))))
def t_ends_of (K : PySem.W.Frag) (sp_Schema_references : Sp) : TS :=
  (tSeq (tAsg (tOp (rIxA K) (tProp (He.ga K "Schema") sp_Schema_references [] E0 (tVar 0)) (tOp (rIxA K) (tVar 1) (tC (.int 0)))) (gTup K 3 (gCons (gName 2) (gCons (gName 3) (gCons (gName 4) gNil)))))
    (tRet (tIf (tTest (tOp (rEqA K) (tOp (rIxA K) (tVar 1) (tC (.int 1))) (tC (.str "forth")))) (tTup (tCons (tVar 2) (tCons (tVar 3) tNil))) (tTup (tCons (tVar 3) (tCons (tVar 2) tNil))))))
def t_is_many (K : PySem.W.Frag) (sp_Schema_references : Sp) : TS :=
  (tRet (tOp (rEqA K) (tOp (rIxA K) (tOp (rIxA K) (tProp (He.ga K "Schema") sp_Schema_references [] E0 (tVar 0)) (tVar 1)) (tC (.int 2))) (tC (.str "many"))))
def t_may_follow (K : PySem.W.Frag) (sp_ends_of : Sp) (sp_is_many : Sp) : TS :=
  (tSeq (tIfS (tTest (tOp (rNeA K) (tOp (rIxA K) (tCall sp_ends_of [] E0 (tCons (tVar 0) (tCons (tVar 1) tNil))) (tC (.int 1))) (tOp (rIxA K) (tCall sp_ends_of [] E0 (tCons (tVar 0) (tCons (tVar 2) tNil))) (tC (.int 0)))))
    (tRet (tC (.bl false)))
    tNext)
    (tSeq (tIfS (tOr (tTest (tOp (rNeA K) (tOp (rIxA K) (tVar 1) (tC (.int 0))) (tOp (rIxA K) (tVar 2) (tC (.int 0))))) (tTest (tOp (rEqA K) (tOp (rIxA K) (tVar 1) (tC (.int 1))) (tOp (rIxA K) (tVar 2) (tC (.int 1))))))
    (tRet (tC (.bl true)))
    tNext)
    (tRet (tAndV (tOp (rEqA K) (tOp (rIxA K) (tVar 1) (tC (.int 1))) (tC (.str "forth"))) (tCall sp_is_many [] E0 (tCons (tVar 0) (tCons (tOp (rIxA K) (tVar 1) (tC (.int 0))) tNil)))))))
def t_need_schema (K : PySem.W.Frag) (E : XK) : TS :=
  (tIfS (tNot (tB (tCB (rIsiA K) (tCons (tVar 0) (tCons (tC (.ref (He.ga K "Schema"))) tNil)))))
    (tRaise E (tRz1 (He.ga K "NoSchema")))
    tNext)
def wayS (b : Bool) : Str := if b then "forth" else "back"
/-- a step: a reference and its direction -/
abbrev St2 := Rf × Bool
def stD (s : St2) : Da := .tup [.str s.1.1, .str (wayS s.2)]
def everyR (rs : List Rf) : List St2 := (sortR rs).flatMap fun r => [(r, false), (r, true)]
theorem way_forth (b : Bool) : decide (wayS b = "forth") = b := by cases b <;> decide +kernel
theorem way_back (b : Bool) : decide (wayS b = "back") = !b := by cases b <;> decide +kernel
theorem way_eq (a b : Bool) : decide (wayS a = wayS b) = (a == b) := by cases a <;> cases b <;> decide +kernel
theorem every_mem {rs : List Rf} {s : St2} (h : s ∈ everyR rs) : s.1 ∈ rs := by
  unfold everyR at h
  obtain ⟨r, hr, hs⟩ := List.mem_flatMap.mp h
  simp only [List.mem_cons, List.not_mem_nil, or_false] at hs
  rcases hs with rfl | rfl
  · exact (sortR_perm rs).mem_iff.mp hr
  · exact (sortR_perm rs).mem_iff.mp hr
theorem two_flat (f : Da → Da → Da) (hf : ∀ x y : Str, f (.str x) (.str y) = .tup [.str x, .str y]) : ∀ l : List Rf, (((l.map fun r => r.1).map Da.str).flatMap fun d => ([.str "back", .str "forth"] : List Da).map (f d)) = (l.flatMap fun r => [((r, false) : St2), (r, true)]).map stD
  | [] => rfl
  | r :: l => by
    rw [List.map_cons, List.map_cons, List.flatMap_cons, List.flatMap_cons, List.map_append, two_flat f hf l]
    show [f (.str r.1) (.str "back"), f (.str r.1) (.str "forth")] ++ _ = _
    rw [hf, hf]
    rfl
theorem flat_len : ∀ l : List Rf, (l.flatMap fun r => [((r, false) : St2), (r, true)]).length = 2 * l.length
  | [] => rfl
  | r :: l => by
    rw [List.flatMap_cons, List.length_append, flat_len l, List.length_cons]
    show 2 + 2 * l.length = 2 * (l.length + 1)
    omega
theorem every_len (rs : List Rf) : (everyR rs).length = 2 * rs.length := by
  unfold everyR
  rw [flat_len, (sortR_perm rs).length_eq]
/-- ends of a step -/
def e1 (s : St2) : Str := if s.2 then s.1.2.1 else s.1.2.2.1
def e2 (s : St2) : Str := if s.2 then s.1.2.2.1 else s.1.2.1
/-- whether the second may follow the first -/
def mayB (a b : St2) : Bool := decide (e2 a = e1 b) && ((!decide (a.1.1 = b.1.1) || a.2 == b.2) || (a.2 && decide (a.1.2.2.2 = "many")))
def folR (rs : List Rf) (s : St2) : List St2 := (everyR rs).filter fun o => mayB s o
theorem fil_map (q : St2 → Bool) (qD : Da → Bool) (l : List St2) (h : ∀ s ∈ l, qD (stD s) = q s) : (((l.map stD).filter qD).map fun d => d) = (l.filter q).map stD := by
  rw [List.map_id', List.filter_map]
  congr 1
  exact List.filter_congr fun s hs => h s hs
/-- whether a tuple is one of the steps -/
def inSt (rs : List Rf) (d : Da) : Bool := (everyR rs).any fun s => PyData.eqv (stD s).py d.py
structure Odd (rs : List Rf) (d : Da) : Prop where
  p : d.plain = true
  s : SeqAt.shaped d.py = true
  n : inSt rs d = false
section
variable {K : PySem.W.Frag} {W : Wd K} {Γ : List En} {p : Po} {C : Addr} {c c1 c2 : Nat} {ta tb te : TE}
theorem ev_eqS {x y : Str} (ha : Ev W ta Γ c1 (· = .str x)) (hb : Ev W tb Γ c2 (· = .str y)) : Ev W (tOp (rEqA K) ta tb) Γ (c1 + c2) (· = .bl (decide (x = y))) :=
  ev_op2 ha hb (rv_eqF (w1 := .str x) (w2 := .str y) rfl rfl rfl (by congr 1; exact decide_eq_decide.mpr ⟨fun e => by injection e, fun e => by rw [e]⟩))
theorem et_eqS {x y : Str} (ha : Ev W ta Γ c1 (· = .str x)) (hb : Ev W tb Γ c2 (· = .str y)) : EvT W (tTest (tOp (rEqA K) ta tb)) Γ (c1 + c2) (· = decide (x = y)) := et_testB (ev_eqS ha hb)
theorem ev_at0 {s : St2} {i : Nat} (hi : Γ[i]? = some (.dat (stD s))) : Ev W (tOp (rIxA K) (tVar i) (tC (.int 0))) Γ 0 (· = .str s.1.1) := ev_op2 (c1 := 0) (c2 := 0) (ev_var hi) ev_int (rv_ixT (ds := [.str s.1.1, .str (wayS s.2)]) rfl rfl)
theorem ev_at1 {s : St2} {i : Nat} (hi : Γ[i]? = some (.dat (stD s))) : Ev W (tOp (rIxA K) (tVar i) (tC (.int 1))) Γ 0 (· = .str (wayS s.2)) := ev_op2 (c1 := 0) (c2 := 0) (ev_var hi) ev_int (rv_ixT (ds := [.str s.1.1, .str (wayS s.2)]) rfl rfl)
theorem esXF_steps_of {sp : Sp} {ts : List Str} {rs : List Rf} {E : XK} {X : Value → List (Str × Da) → Prop} (hR : RefdOk W (He.ga K "Schema") sp) (h6 : rs.length ≤ 6) : EsXF W (t_steps_of K sp) [.dat (.ins (He.ga K "Schema") (schF ts rs)), .no, .no] 0 (· = (everyR rs).map stD) E X := by
  refine esXF_ret ?_
  have hk : (refsD (sortR rs)).map (·.1) = ((sortR rs).map fun r => r.1).map Sum.inr := refs_keys (sortR rs)
  have hl : ((sortR rs).map fun r => r.1).length < 64 := by rw [List.length_map, (sortR_perm rs).length_eq]; omega
  have hs : sortT ((sortR rs).map fun r => r.1) = (sortR rs).map fun r => r.1 := by
    rw [sortR_map]
    exact sortT_eq (sortT_perm _)
  have h := evF_lc2 (K := K) (W := W) (Γ := [.dat (.ins (He.ga K "Schema") (schF ts rs)), .no, .no]) (i := 1) (j := 2) (n := 0) (m := 2) (wi := iList K (tCB (rSortedA K) (tCons (tProp (He.ga K "Schema") sp [] E0 (tVar 0)) tNil))) (wi1 := iTup K (tTup (tCons (tC (.str "back")) (tCons (tC (.str "forth")) tNil)))) (te := tTup (tCons (tVar 1) (tCons (tVar 2) tNil)))
    (ds := ((sortR rs).map fun r => r.1).map Da.str) (es := fun _ => [.str "back", .str "forth"]) (f := fun d e => .tup [d, e])
    (ei_list ((evF_cb (c := 0) (ea_cons2 (c1 := 0) (c2 := 0) (ev_propE (c1 := 0) (c2 := 0) (ev_var rfl) (hR ts rs)) ea_nil) (fun ds e => by rw [e]; exact rcF_sortTD hk hl)).ev'.imp fun d e => ⟨_, e, by rw [hs]⟩)) (by decide)
    (fun d _ => ei_tup ((ev_tup (c := 0) (P := (· = [.str "back", .str "forth"])) (ea_cons2 (c1 := 0) (c2 := 0) ev_str (ea_cons2 (c1 := 0) (c2 := 0) ev_str ea_nil)) (fun ds e => by rw [e]; decide)).imp fun d ⟨ds, e1, e2⟩ => ⟨ds, e1, e2⟩))
    (fun d _ e _ => (ev_tup (c := 0) (P := (· = [d, e])) (ea_cons2 (c1 := 0) (c2 := 0) (ev_var rfl) (ea_cons2 (c1 := 0) (c2 := 0) (ev_var rfl) ea_nil)) (fun ds e => by rw [e]; simp)).imp fun x ⟨ds, e1, e2⟩ => by rw [e1, e2]) (fun d _ => by decide) (by rw [List.length_map, List.length_map, (sortR_perm rs).length_eq]; omega)
  rw [two_flat _ (fun x y => rfl)] at h
  exact h
def StepsOfOk (W : Wd K) (sp : Sp) : Prop := ∀ (ts : List Str) (rs : List Rf), rs.length ≤ 6 → FnF W sp [.ins (He.ga K "Schema") (schF ts rs)] 0 (· = (everyR rs).map stD)
theorem es_ends_of {sp : Sp} {ts : List Str} {rs : List Rf} {s : St2} (hR : RefdOk W (He.ga K "Schema") sp) (hd : (rs.map fun r => r.1).Nodup) (hs : s.1 ∈ rs) (hp : p.rt (.tup [.str (e1 s), .str (e2 s)])) : Es W (t_ends_of K sp) [.dat (.ins (He.ga K "Schema") (schF ts rs)), .dat (stD s), .no, .no, .no] 0 p := by
  have hd2 : ((sortR rs).map fun r => r.1).Nodup := ((sortR_perm rs).map _).nodup_iff.mpr hd
  have hv := val_ref hd2 ((sortR_perm rs).mem_iff.mpr hs)
  refine es_sq (Γ' := [.dat (.ins (He.ga K "Schema") (schF ts rs)), .dat (stD s), .dat (.str s.1.2.1), .dat (.str s.1.2.2.1), .dat (.str s.1.2.2.2)]) 0 0 (Nat.le_refl _) (es_asgG (c := 0) (vs := [2, 3, 4]) (P := (· = endsD s.1)) (ev_op2 (c1 := 0) (c2 := 0) (ev_propE (c1 := 0) (c2 := 0) (ev_var rfl) (hR ts rs)) (ev_at0 rfl) (rv_ixD (k := Sum.inr s.1.1) hv rfl)) (fun d e => ⟨_, by rw [e]; exact eg_three, rfl⟩)) ?_
  refine es_retE (d := .tup [.str (e1 s), .str (e2 s)]) (ev_if (c1 := 0) (c2 := 0) (Pt := (· = s.2)) ((et_eqS (c1 := 0) (c2 := 0) (ev_at1 rfl) ev_str).weak (Nat.le_refl _) fun b e => by rw [e, way_forth]) (fun h => ?_) (fun h => ?_)) hp
  · unfold e1 e2
    rw [← h]
    exact (ev_tup (c := 0) (P := (· = [.str s.1.2.1, .str s.1.2.2.1])) (ea_cons2 (c1 := 0) (c2 := 0) (ev_var rfl) (ea_cons2 (c1 := 0) (c2 := 0) (ev_var rfl) ea_nil)) (fun ds e => by rw [e]; simp)).imp fun x ⟨ds, e1, e2⟩ => by rw [e1, e2]; rfl
  · unfold e1 e2
    rw [← h]
    exact (ev_tup (c := 0) (P := (· = [.str s.1.2.2.1, .str s.1.2.1])) (ea_cons2 (c1 := 0) (c2 := 0) (ev_var rfl) (ea_cons2 (c1 := 0) (c2 := 0) (ev_var rfl) ea_nil)) (fun ds e => by rw [e]; simp)).imp fun x ⟨ds, e1, e2⟩ => by rw [e1, e2]; rfl
def EndsOk (W : Wd K) (sp : Sp) : Prop := ∀ (ts : List Str) (rs : List Rf) (s : St2), (rs.map fun r => r.1).Nodup → s.1 ∈ rs → Fn W sp [.ins (He.ga K "Schema") (schF ts rs), stD s] 0 (· = .tup [.str (e1 s), .str (e2 s)])
theorem es_is_many {sp : Sp} {ts : List Str} {rs : List Rf} {r : Rf} (hR : RefdOk W (He.ga K "Schema") sp) (hd : (rs.map fun r => r.1).Nodup) (hs : r ∈ rs) (hp : p.rt (.bl (decide (r.2.2.2 = "many")))) : Es W (t_is_many K sp) [.dat (.ins (He.ga K "Schema") (schF ts rs)), .dat (.str r.1)] 0 p := by
  have hd2 : ((sortR rs).map fun r => r.1).Nodup := ((sortR_perm rs).map _).nodup_iff.mpr hd
  have hv := val_ref hd2 ((sortR_perm rs).mem_iff.mpr hs)
  exact es_retE (ev_eqS (c1 := 0) (c2 := 0) (ev_op2 (c1 := 0) (c2 := 0) (ev_op2 (c1 := 0) (c2 := 0) (ev_propE (c1 := 0) (c2 := 0) (ev_var rfl) (hR ts rs)) (ev_var rfl) (rv_ixD (k := Sum.inr r.1) (P := (· = endsD r)) hv rfl)) ev_int (rv_ixT (ds := [.str r.2.1, .str r.2.2.1, .str r.2.2.2]) rfl rfl)) ev_str) hp
def ManyOk (W : Wd K) (sp : Sp) : Prop := ∀ (ts : List Str) (rs : List Rf) (r : Rf), (rs.map fun r => r.1).Nodup → r ∈ rs → Fn W sp [.ins (He.ga K "Schema") (schF ts rs), .str r.1] 0 (· = .bl (decide (r.2.2.2 = "many")))
theorem es_may {spE spM : Sp} {ts : List Str} {rs : List Rf} {a b : St2} (hE : EndsOk W spE) (hM : ManyOk W spM) (hd : (rs.map fun r => r.1).Nodup) (ha : a.1 ∈ rs) (hb : b.1 ∈ rs) (hp : p.rt (.bl (mayB a b))) : Es W (t_may_follow K spE spM) [.dat (.ins (He.ga K "Schema") (schF ts rs)), .dat (stD a), .dat (stD b)] 0 p := by
  have hne := et_neS (K := K) (W := W) (Γ := [.dat (.ins (He.ga K "Schema") (schF ts rs)), .dat (stD a), .dat (stD b)]) (c1 := 0) (c2 := 0) (ta := tOp (rIxA K) (tCall spE [] E0 (tCons (tVar 0) (tCons (tVar 1) tNil))) (tC (.int 1))) (tb := tOp (rIxA K) (tCall spE [] E0 (tCons (tVar 0) (tCons (tVar 2) tNil))) (tC (.int 0))) (x := e2 a) (y := e1 b)
    (ev_op2 (c1 := 0) (c2 := 0) (ev_callE (c1 := 0) (c2 := 0) (ea_cons2 (c1 := 0) (c2 := 0) (ev_var rfl) (ea_cons2 (c1 := 0) (c2 := 0) (ev_var rfl) ea_nil)) (hE ts rs a hd ha)) ev_int (rv_ixT rfl rfl))
    (ev_op2 (c1 := 0) (c2 := 0) (ev_callE (c1 := 0) (c2 := 0) (ea_cons2 (c1 := 0) (c2 := 0) (ev_var rfl) (ea_cons2 (c1 := 0) (c2 := 0) (ev_var rfl) ea_nil)) (hE ts rs b hd hb)) ev_int (rv_ixT rfl rfl))
  refine es_sqP (N := fun Γ1 => e2 a = e1 b ∧ Γ1 = [.dat (.ins (He.ga K "Schema") (schF ts rs)), .dat (stD a), .dat (stD b)]) 0 0 (Nat.le_refl _) (es_ifW (b := !decide (e2 a = e1 b)) 0 0 (Nat.le_refl _) hne (fun h => es_retE ev_bl ?_) (fun h => es_next ⟨by simpa using h, rfl⟩)) ?_
  · have h2 : decide (e2 a = e1 b) = false := by simpa using h
    unfold mayB at hp
    rw [h2] at hp
    exact hp
  rintro Γ1 ⟨h1, rfl⟩
  have hm : mayB a b = ((!decide (a.1.1 = b.1.1) || a.2 == b.2) || (a.2 && decide (a.1.2.2.2 = "many"))) := by
    unfold mayB
    rw [decide_eq_true h1, Bool.true_and]
  rw [hm] at hp
  refine es_sqP (N := fun Γ1 => (!decide (a.1.1 = b.1.1) || a.2 == b.2) = false ∧ Γ1 = [.dat (.ins (He.ga K "Schema") (schF ts rs)), .dat (stD a), .dat (stD b)]) 0 0 (Nat.le_refl _) (es_ifW (b := (!decide (a.1.1 = b.1.1) || decide (wayS a.2 = wayS b.2))) 0 0 (Nat.le_refl _) (et_orB (c1 := 0) (c2 := 0) (et_neS (c1 := 0) (c2 := 0) (ev_at0 rfl) (ev_at0 rfl)) (fun _ => et_eqS (c1 := 0) (c2 := 0) (ev_at1 rfl) (ev_at1 rfl))) (fun h => es_retE ev_bl ?_) (fun h => es_next ⟨by rw [way_eq] at h; exact h, rfl⟩)) ?_
  · rw [way_eq] at h
    rw [h] at hp
    exact hp
  rintro Γ1 ⟨h2, rfl⟩
  rw [h2, Bool.false_or] at hp
  refine es_retE (d := .bl (a.2 && decide (a.1.2.2.2 = "many"))) (ev_andB (c1 := 0) (c2 := 0) ((ev_eqS (c1 := 0) (c2 := 0) (ev_at1 rfl) ev_str).imp fun d e => by rw [e, way_forth]) (fun _ => ev_callE (c1 := 0) (c2 := 0) (ea_cons2 (c1 := 0) (c2 := 0) (ev_var rfl) (ea_cons2 (c1 := 0) (c2 := 0) (ev_at0 rfl) ea_nil)) (hM ts rs a.1 hd ha))) hp
def MayOk (W : Wd K) (sp : Sp) : Prop := ∀ (ts : List Str) (rs : List Rf) (a b : St2), (rs.map fun r => r.1).Nodup → a.1 ∈ rs → b.1 ∈ rs → Fn W sp [.ins (He.ga K "Schema") (schF ts rs), stD a, stD b] 0 (· = .bl (mayB a b))
/-- mayB, of data -/
noncomputable def mayD (rs : List Rf) (s : St2) (d : Da) : Bool := by
  classical
  exact if h : ∃ o, o ∈ everyR rs ∧ d = stD o then mayB s (Classical.choose h) else false
theorem way_inj {a b : Bool} (h : wayS a = wayS b) : a = b := by
  have := way_eq a b
  rw [decide_eq_true h] at this
  exact eq_of_beq this.symm
theorem stD_inj {rs : List Rf} (hd : (rs.map fun r => r.1).Nodup) {a b : St2} (ha : a.1 ∈ rs) (hb : b.1 ∈ rs) (h : stD a = stD b) : a = b := by
  unfold stD at h
  injection h with h
  injection h with h1 h2
  injection h2 with h2 _
  injection h1 with h1
  injection h2 with h2
  exact Prod.ext (key_inj hd a.1 ha b.1 hb h1) (way_inj h2)
theorem mayD_eq {rs : List Rf} {s o : St2} (hd : (rs.map fun r => r.1).Nodup) (ho : o ∈ everyR rs) : mayD rs s (stD o) = mayB s o := by
  unfold mayD
  have h : ∃ o', o' ∈ everyR rs ∧ stD o = stD o' := ⟨o, ho, rfl⟩
  rw [dif_pos h]
  have e := Classical.choose_spec h
  exact congrArg (mayB s) (stD_inj hd (every_mem ho) (every_mem e.1) e.2).symm
end
end P23
set_option Elab.async false
set_option linter.all false
set_option maxRecDepth 100000
set_option maxHeartbeats 4000000
/-! C23: what is no step, no schema; the law's own look at steps -/
namespace P23
open PySem L2 TL WJ LamX
def t__law_every (K : PySem.W.Frag) : TS :=
  (tSeq (tAsg (tLst tNil) (gName 1))
    (tSeq (tFor (iList K (tCB (rSortedA K) (tCons (tVar 0) tNil))) (gName 2)
    (tAsg (tOp (rAddA K) (tVar 1) (tLst (tCons (tTup (tCons (tVar 2) (tCons (tC (.str "back")) tNil))) (tCons (tTup (tCons (tVar 2) (tCons (tC (.str "forth")) tNil))) tNil)))) (gName 1)))
    (tRet (tVar 1))))
def t__law_ends (K : PySem.W.Frag) : TS :=
  (tSeq (tAsg (tOp (rIxA K) (tVar 0) (tOp (rIxA K) (tVar 1) (tC (.int 0)))) (gTup K 3 (gCons (gName 2) (gCons (gName 3) (gCons (gName 4) gNil)))))
    (tRet (tOp (rIxA K) (tLst (tCons (tTup (tCons (tVar 2) (tCons (tVar 3) tNil))) (tCons (tTup (tCons (tVar 3) (tCons (tVar 2) tNil))) tNil))) (tCB (rIntA) (tCons (tOp (rEqA K) (tOp (rIxA K) (tVar 1) (tC (.int 1))) (tC (.str "back"))) tNil)))))
def t__law_may (K : PySem.W.Frag) (sp__law_ends : Sp) : TS :=
  (tSeq (tIfS (tTest (tOp (rNeA K) (tOp (rIxA K) (tCall sp__law_ends [] E0 (tCons (tVar 0) (tCons (tVar 1) tNil))) (tC (.int 1))) (tOp (rIxA K) (tCall sp__law_ends [] E0 (tCons (tVar 0) (tCons (tVar 2) tNil))) (tC (.int 0)))))
    (tRet (tC (.bl false)))
    tNext)
    (tSeq (tAsg (tIf (tTest (tOp (rEqA K) (tOp (rIxA K) (tVar 1) (tC (.int 1))) (tC (.str "forth")))) (tTup (tCons (tC (.int 0)) (tCons (tOp (rIxA K) (tVar 1) (tC (.int 0))) (tCons (tC (.int 1)) tNil)))) (tTup (tCons (tC (.int 1)) (tCons (tOp (rIxA K) (tVar 1) (tC (.int 0))) (tCons (tC (.int 0)) tNil))))) (gName 3))
    (tSeq (tAsg (tIf (tTest (tOp (rEqA K) (tOp (rIxA K) (tVar 2) (tC (.int 1))) (tC (.str "forth")))) (tTup (tCons (tC (.int 1)) (tCons (tOp (rIxA K) (tVar 2) (tC (.int 0))) (tCons (tC (.int 2)) tNil)))) (tTup (tCons (tC (.int 2)) (tCons (tOp (rIxA K) (tVar 2) (tC (.int 0))) (tCons (tC (.int 1)) tNil))))) (gName 4))
    (tRet (tAndV (tOp (rNeA K) (tSl (rSlA K) (tVar 3) tNoPart (tPart (tC (.int 2)))) (tSl (rSlA K) (tVar 4) tNoPart (tPart (tC (.int 2))))) (tOrV (tOp (rNeA K) (tSl (rSlA K) (tVar 3) (tPart (tC (.int 1))) tNoPart) (tSl (rSlA K) (tVar 4) (tPart (tC (.int 1))) tNoPart)) (tOp (rEqA K) (tOp (rIxA K) (tOp (rIxA K) (tVar 0) (tOp (rIxA K) (tVar 1) (tC (.int 0)))) (tC (.int 2))) (tC (.str "many")))))))))
/-- a step in a list of data -/
theorem st_cmp {s : St2} (h : okS s.1.1 = true) : Cmp (stD s) := by
  have hw : okS (wayS s.2) = true := by cases s.2 <;> decide +kernel
  refine ⟨by unfold stD Da.plain plains; rfl, ?_, ?_⟩
  · unfold stD Da.py pys PyData.canLay0 PyData.canLayAll0
    have h2 : (Da.str s.1.1).py.canLay0 = true := (Cmp.str h).c
    have h3 : PyData.canLayAll0 (pys [Da.str (wayS s.2)]) = true := cmp_lays fun d hd => by rw [List.mem_singleton.mp hd]; exact Cmp.str hw
    rw [h2, h3]
    rfl
  · have h3 : PyData.depthAll (pys [Da.str s.1.1, Da.str (wayS s.2)]) ≤ 0 := by
      unfold pys Da.py pys Da.py pys PyData.depthAll PyData.depthAll PyData.depthAll PyData.depth
      decide
    unfold stD Da.py PyData.depth
    omega
/-- a value that is asked whether it is a step -/
def ThingOk (K : PySem.W.Frag) (d : Da) : Prop := (∃ t, d.kind = some t ∧ kitB t "tuple" = some false) ∨ (∃ ts rs, d = .ins (He.ga K "Schema") (schF ts rs)) ∨ (∃ xs, d = .tup xs ∧ d.plain = true ∧ SeqAt.shaped d.py = true) ∨ (∃ e1 e2, d = .tup [.dct e1, .dct e2])
def isStepB (rs : List Rf) : Da → Bool
  | .tup xs => inSt rs (.tup xs)
  | _ => false
theorem st_pairs (l : List St2) : l.map stD = (l.map fun s => (s.1.1, wayS s.2)).map fun p => .tup [.str p.1, .str p.2] := by
  rw [List.map_map]
  rfl
theorem td_no (rs : List Rf) (e1 e2 : List (Key × Da)) : isStepB rs (.tup [.dct e1, .dct e2]) = false := by
  show inSt rs (.tup [.dct e1, .dct e2]) = false
  unfold inSt
  rw [List.any_eq_false]
  intro s _ z
  have h : (Da.tup [.dct e1, .dct e2]).py = .tuple [.none, .none] := by
    unfold Da.py pys Da.py pys Da.py pys
    rfl
  rw [h] at z
  unfold stD Da.py pys Da.py at z
  exact Bool.noConfusion z
def kindL2 : List String := ["NoneType", "int", "bool", "str", "dict", "list", "tuple"]
structure SchF (K : PySem.W.Frag) : Prop where
  i : C8.InsC K (He.ga K "Schema")
  t : PySem.W.kitOne K (.ref (He.ga K "Schema")) (.type "tuple") = some false
  n : ∀ t ∈ kindL2, PySem.W.kitOne K (.type t) (.ref (He.ga K "Schema")) = some false
/-- no schema -/
def NoSch (d : Da) : Prop := ∃ t, d.kind = some t ∧ t ∈ kindL2
theorem sub2 {α : Type} {a b : α} (xs : List α) : xs.length = xs.length := rfl
section
variable {K : PySem.W.Frag} {W : Wd K} {Γ : List En} {p : Po} {C : Addr} {c c1 c2 : Nat} {ta tb te : TE} {E : XK} {X : Value → List (Str × Da) → Prop}
theorem not_tup {d : Da} {t : String} (hk : d.kind = some t) (hb : kitB t "tuple" = some false) (rs : List Rf) : isStepB rs d = false := by
  cases d with
  | tup xs =>
    cases hk
    exact absurd hb (by decide +kernel)
  | _ => rfl
theorem es_is_step {sp : Sp} {ts : List Str} {rs : List Rf} {d : Da} (F : SchF K) (hS : StepsOfOk W sp) (h6 : rs.length ≤ 6) (ho : ∀ r ∈ rs, okS r.1 = true) (hd : ThingOk K d) (hp : p.rt (.bl (isStepB rs d))) : Es W (t_is_step K sp) [.dat (.ins (He.ga K "Schema") (schF ts rs)), .dat d] 0 p := by
  rcases hd with ⟨t, hk, hb⟩ | ⟨ts', rs', rfl⟩ | ⟨xs, rfl, h1, h2⟩ | ⟨x1, x2, rfl⟩
  · rw [not_tup hk hb] at hp
    exact es_retE (d := .bl (false && false)) (ev_andB (c1 := 0) (c2 := 0) (ev_cbE (ea_cons2 (c1 := 0) (c2 := 0) (ev_var rfl) (ea_cons2 (c1 := 0) (c2 := 0) ev_ty ea_nil)) (rc_isi hk hb rfl)) (fun z => by cases z)) hp
  · exact es_retE (d := .bl (false && false)) (ev_andB (c1 := 0) (c2 := 0) (ev_cbE (ea_cons2 (c1 := 0) (c2 := 0) (ev_var rfl) (ea_cons2 (c1 := 0) (c2 := 0) ev_ty ea_nil)) (rc_isiI F.i F.t rfl)) (fun z => by cases z)) hp
  · have hL := okL_all (ds := (everyR rs).map stD) fun e he => by
      obtain ⟨s, hs, rfl⟩ := List.mem_map.mp he
      exact st_cmp (ho _ (every_mem hs))
    refine es_retE (d := .bl (true && inSt rs (.tup xs))) (ev_andB (c1 := 0) (c2 := 0) (ev_cbE (ea_cons2 (c1 := 0) (c2 := 0) (ev_var rfl) (ea_cons2 (c1 := 0) (c2 := 0) ev_ty ea_nil)) (rc_isi (t := "tuple") rfl rfl rfl)) (fun _ => ?_)) hp
    exact ev_op2 (c1 := 0) (c2 := 0) (ev_var rfl) (evF_callF (c1 := 0) (c2 := 0) (ea_cons2 (c1 := 0) (c2 := 0) (ev_var rfl) ea_nil) (hS ts rs h6)).ev' (rv_inXp (rv_inDp h1 hL.1 h2 hL.2 (by rw [List.any_map]; rfl)))
  · rw [show isStepB rs (.tup [.dct x1, .dct x2]) = false from td_no rs x1 x2] at hp
    refine es_retE (d := .bl (true && false)) (ev_andB (c1 := 0) (c2 := 0) (ev_cbE (ea_cons2 (c1 := 0) (c2 := 0) (ev_var rfl) (ea_cons2 (c1 := 0) (c2 := 0) ev_ty ea_nil)) (rc_isi (t := "tuple") rfl rfl rfl)) (fun _ => ?_)) hp
    refine ev_op2 (c1 := 0) (c2 := 0) (ev_var rfl) (evF_callF (c1 := 0) (c2 := 0) (ea_cons2 (c1 := 0) (c2 := 0) (ev_var rfl) ea_nil) (hS ts rs h6)).ev' ?_
    rw [st_pairs]
    exact rv_inTd rfl
def IsStepOk (W : Wd K) (sp : Sp) : Prop := ∀ (ts : List Str) (rs : List Rf) (d : Da), rs.length ≤ 6 → (∀ r ∈ rs, okS r.1 = true) → ThingOk K d → Fn W sp [.ins (He.ga K "Schema") (schF ts rs), d] 0 (· = .bl (isStepB rs d))
theorem step_is {rs : List Rf} {s : St2} (h : s ∈ everyR rs) : isStepB rs (stD s) = true := by
  show inSt rs (stD s) = true
  unfold inSt
  rw [List.any_eq_true]
  refine ⟨s, h, ?_⟩
  unfold stD Da.py pys Da.py pys Da.py pys
  show (PyData.eqv (.str s.1.1) (.str s.1.1) && (PyData.eqv (.str (wayS s.2)) (.str (wayS s.2)) && true)) = true
  show ((s.1.1 == s.1.1) && ((wayS s.2 == wayS s.2) && true)) = true
  rw [beq_self_eq_true, beq_self_eq_true]
  rfl
/-! need_schema -/
def needC (K : PySem.W.Frag) : Ct K := fun _ ds c P => ∃ ts rs, ds = [.ins (He.ga K "Schema") (schF ts rs)] ∧ c = 0 ∧ P .non
def needR (K : PySem.W.Frag) : Wd K → List Da → Value → List (Str × Da) → Prop := fun _ ds cls fs => cls = .ref (He.ga K "NoSchema") ∧ fs = [] ∧ ∃ d, NoSch d ∧ ds = [d]
theorem es_need {ts : List Str} {rs : List Rf} (F : SchF K) (hp : p.nx [.dat (.ins (He.ga K "Schema") (schF ts rs))]) : EsX W (t_need_schema K E) [.dat (.ins (He.ga K "Schema") (schF ts rs))] 0 p E X :=
  esX_if (b := !true) 0 0 (Nat.le_refl _) (et_notB (et_BB (ev_cbE (ea_cons2 (c1 := 0) (c2 := 0) (ev_var rfl) (ea_cons2 (c1 := 0) (c2 := 0) ev_obj ea_nil)) (rc_isiO F.i rfl)))) (fun z => by cases z) (fun _ => Es.x (es_next hp))
theorem es_needX {d : Da} (F : SchF K) (hd : NoSch d) (hx : X (.ref (He.ga K "NoSchema")) []) : EsX W (t_need_schema K E) [.dat d] 0 p E X := by
  obtain ⟨t, hk, ht⟩ := hd
  exact esX_if (b := !false) 0 0 (Nat.le_refl _) (et_notB (et_BB (ev_cbE (ea_cons2 (c1 := 0) (c2 := 0) (ev_var rfl) (ea_cons2 (c1 := 0) (c2 := 0) ev_obj ea_nil)) (rc_isiN hk (F.n t ht) rfl)))) (fun _ => esX_raise1 hx) (fun z => by cases z)
theorem es_needcall {ts : List Str} {rs : List Rf} {i : Nat} (hi : Γ[i]? = some (.dat (.ins (He.ga K "Schema") (schF ts rs)))) (hp : p.nx Γ) : EsX W (tDrop (tCallS (spY (needC K) (needR K)) (WE fun cls d _ H => E cls d H) (tCons (tVar i) tNil))) Γ 0 p E X :=
  Es.x (es_drop (c := 0) (P := fun _ => True) (ev_callS (c1 := 0) (c2 := 0) (ea_cons2 (c1 := 0) (c2 := 0) (ev_var hi) ea_nil) (fn_of_ctY ⟨ts, rs, rfl, rfl, trivial⟩)) hp)
theorem st_thing {s : St2} (h : okS s.1.1 = true) : ThingOk K (stD s) := by
  have hc := st_cmp h
  exact Or.inr (Or.inr (Or.inl ⟨_, rfl, hc.p, shaped_of hc.c (Nat.le_trans hc.d (by decide))⟩))
theorem ev_slT {ds : List Da} {lo hi : Option Int} {tl th : TO} (h : Ev W te Γ 0 (· = .tup ds)) (h1 : EvO W tl Γ 0 (· = lo)) (h2 : EvO W th Γ 0 (· = hi)) (hn : ¬ (HT.sIx ds.length 0 lo = 0 ∧ HT.sIx ds.length ds.length hi = ds.length)) :
    Ev W (tSl (rSlA K) te tl th) Γ 0 (· = .tup (cutD ds lo hi)) := fun H0 B0 B σ H M s hM Q q =>
  h H0 B0 B σ H M s (Nat.zero_le _) _ fun v d H1 k1 r1 hd e => h1 H0 B0 B σ H1 _ (s.keep k1 r1) (Nat.zero_le _) _ fun lo' H2 k2 r2 p2 => h2 H0 B0 B σ H2 _ ((s.keep k1 r1).keep k2 r2) (Nat.zero_le _) _ fun hi' H3 k3 r3 p3 => by
    have p2' : lo' = lo := p2
    have p3' : hi' = hi := p3
    subst e p2' p3'
    have s3 := ((s.keep k1 r1).keep k2 r2).keep k3 r3
    have hd3 := Dat.mono (((s.keep k1 r1).toBk.kp k2).trans (((s.keep k1 r1).keep k2 r2).toBk.kp k3)) _ _ hd
    unfold Dat at hd3
    obtain ⟨a, xs, rfl, sl, t⟩ := hd3
    have hl := t.length
    refine Or.inr (Or.inr ⟨a, xs, rfl, sl.sq, by rw [hl]; exact hn, fun l nl => ?_⟩)
    have e1 : cutV xs lo' hi' = (xs.drop (HT.sIx ds.length 0 lo')).take (HT.sIx ds.length ds.length hi' - HT.sIx ds.length 0 lo') := by unfold cutV; rw [t.length]
    refine q (.ref l) (.tup (cutD ds lo' hi')) _ (((k1.trans k2).trans k3).trans (Kp.new nl)) (Wd.new nl (W.less r3 (by omega))) ?_ rfl
    unfold Dat
    refine ⟨l, _, rfl, Or.inl ⟨fun z => s3.al l z nl, Or.inl upd_same⟩, ?_⟩
    rw [e1]
    exact Dats.mono (Kp.new nl) _ _ (Dats.take _ (Dats.drop _ t))
theorem es_law_ends {rs : List Rf} {s : St2} (hd : (rs.map fun r => r.1).Nodup) (hs : s.1 ∈ rs) (hp : p.rt (.tup [.str (e1 s), .str (e2 s)])) : Es W (t__law_ends K) [.dat (.dct (refsD rs)), .dat (stD s), .no, .no, .no] 0 p := by
  have hv := val_ref hd hs
  refine es_sq (Γ' := [.dat (.dct (refsD rs)), .dat (stD s), .dat (.str s.1.2.1), .dat (.str s.1.2.2.1), .dat (.str s.1.2.2.2)]) 0 0 (Nat.le_refl _) (es_asgG (c := 0) (vs := [2, 3, 4]) (P := (· = endsD s.1)) (ev_op2 (c1 := 0) (c2 := 0) (ev_var rfl) (ev_at0 rfl) (rv_ixD (k := Sum.inr s.1.1) hv rfl)) (fun d e => ⟨_, by rw [e]; exact eg_three, rfl⟩)) ?_
  have ht : ∀ (x y : Str) (i j : Nat), [En.dat (.dct (refsD rs)), .dat (stD s), .dat (.str s.1.2.1), .dat (.str s.1.2.2.1), .dat (.str s.1.2.2.2)][i]? = some (.dat (.str x)) → [En.dat (.dct (refsD rs)), .dat (stD s), .dat (.str s.1.2.1), .dat (.str s.1.2.2.1), .dat (.str s.1.2.2.2)][j]? = some (.dat (.str y)) →
      Ev W (tTup (tCons (tVar i) (tCons (tVar j) tNil))) [.dat (.dct (refsD rs)), .dat (stD s), .dat (.str s.1.2.1), .dat (.str s.1.2.2.1), .dat (.str s.1.2.2.2)] 0 (· = .tup [.str x, .str y]) := fun x y i j h1 h2 =>
    (ev_tup (c := 0) (P := (· = [.str x, .str y])) (ea_cons2 (c1 := 0) (c2 := 0) (ev_var h1) (ea_cons2 (c1 := 0) (c2 := 0) (ev_var h2) ea_nil)) (fun ds e => by rw [e]; simp)).imp fun x ⟨ds, e1, e2⟩ => by rw [e1, e2]
  refine es_retE (d := .tup [.str (e1 s), .str (e2 s)]) (ev_op2 (c1 := 0) (c2 := 0) (d1 := .lst [.tup [.str s.1.2.1, .str s.1.2.2.1], .tup [.str s.1.2.2.1, .str s.1.2.1]]) (d2 := .int (if !s.2 then 1 else 0)) (evF_lst (c := 0) (ea_cons2 (c1 := 0) (c2 := 0) (ht _ _ 2 3 rfl rfl) (ea_cons2 (c1 := 0) (c2 := 0) (ht _ _ 3 2 rfl rfl) ea_nil)) (fun ds e => by rw [e]; simp)).ev' ?_ (rv_ixL ?_ rfl)) hp
  · refine ev_cbE (ea_cons2 (c1 := 0) (c2 := 0) (d := .bl (!s.2)) ((ev_eqS (c1 := 0) (c2 := 0) (ev_at1 rfl) ev_str).imp fun d e => by rw [e, way_back]) ea_nil) ?_
    intro B H M vs st h Q q
    unfold Dats at h
    obtain ⟨v, r, rfl, h1, t1⟩ := h
    unfold Dats at t1
    subst t1
    unfold Dat at h1
    subst h1
    exact Or.inr ⟨!s.2, rfl, q _ _ H Kp.refl st.dr (dInt.mpr rfl) rfl⟩
  · unfold e1 e2
    cases s.2 <;> rfl
def LEndsOk (W : Wd K) (sp : Sp) : Prop := ∀ (rs : List Rf) (s : St2), (rs.map fun r => r.1).Nodup → s.1 ∈ rs → Fn W sp [.dct (refsD rs), stD s] 0 (· = .tup [.str (e1 s), .str (e2 s)])
/-- a pair of a number and a text, either way -/
theorem eqv_is (i j : Int) (x y : Str) : PyData.eqv (Da.tup [.int i, .str x]).py (Da.tup [.int j, .str y]).py = (decide (i = j) && decide (x = y)) := by
  unfold Da.py pys Da.py pys Da.py pys
  show ((i == j) && ((x == y) && true)) = _
  rw [Bool.and_true]
  congr 1
theorem eqv_si (i j : Int) (x y : Str) : PyData.eqv (Da.tup [.str x, .int i]).py (Da.tup [.str y, .int j]).py = (decide (x = y) && decide (i = j)) := by
  unfold Da.py pys Da.py pys Da.py pys
  show ((x == y) && ((i == j) && true)) = _
  rw [Bool.and_true]
  congr 1
theorem shp_is {i : Int} {x : Str} (h : okS x = true) : SeqAt.shaped (Da.tup [.int i, .str x]).py = true := by
  have h2 : (Da.str x).py.canLay0 = true := (Cmp.str h).c
  refine shaped_of ?_ ?_
  · unfold Da.py pys PyData.canLay0 PyData.canLayAll0
    show ((Da.int i).py.canLay0 && PyData.canLayAll0 (pys [Da.str x])) = true
    rw [cmp_lays fun d hd => by rw [List.mem_singleton.mp hd]; exact Cmp.str h]
    rfl
  · unfold Da.py pys Da.py pys Da.py pys PyData.depth PyData.depthAll PyData.depthAll PyData.depthAll PyData.depth
    decide
theorem shp_si {i : Int} {x : Str} (h : okS x = true) : SeqAt.shaped (Da.tup [.str x, .int i]).py = true := by
  have h2 : (Da.str x).py.canLay0 = true := (Cmp.str h).c
  refine shaped_of ?_ ?_
  · unfold Da.py pys PyData.canLay0 PyData.canLayAll0
    rw [h2]
    rfl
  · unfold Da.py pys Da.py pys Da.py pys PyData.depth PyData.depthAll PyData.depthAll PyData.depthAll PyData.depth
    decide
theorem plain_is {i : Int} {x : Str} : (Da.tup [.int i, .str x]).plain = true := by unfold Da.plain plains Da.plain plains Da.plain plains; rfl
theorem plain_si {i : Int} {x : Str} : (Da.tup [.str x, .int i]).plain = true := by unfold Da.plain plains Da.plain plains Da.plain plains; rfl
theorem may_law (a b : St2) : mayB a b = (decide (e2 a = e1 b) && (!(decide ((if a.2 then (0 : Int) else 1) = (if b.2 then 1 else 2)) && decide (a.1.1 = b.1.1)) && (!(decide (a.1.1 = b.1.1) && decide ((if a.2 then (1 : Int) else 0) = (if b.2 then 2 else 1))) || decide (a.1.2.2.2 = "many")))) := by
  unfold mayB
  congr 1
  cases a.2 <;> cases b.2 <;> cases decide (a.1.1 = b.1.1) <;> simp
theorem es_law_may {sp : Sp} {rs : List Rf} {a b : St2} (hE : LEndsOk W sp) (hd : (rs.map fun r => r.1).Nodup) (ho : ∀ r ∈ rs, okS r.1 = true) (ha : a.1 ∈ rs) (hb : b.1 ∈ rs) (hp : p.rt (.bl (mayB a b))) : Es W (t__law_may K sp) [.dat (.dct (refsD rs)), .dat (stD a), .dat (stD b), .no, .no] 0 p := by
  have hne := et_neS (K := K) (W := W) (Γ := [.dat (.dct (refsD rs)), .dat (stD a), .dat (stD b), .no, .no]) (c1 := 0) (c2 := 0) (ta := tOp (rIxA K) (tCall sp [] E0 (tCons (tVar 0) (tCons (tVar 1) tNil))) (tC (.int 1))) (tb := tOp (rIxA K) (tCall sp [] E0 (tCons (tVar 0) (tCons (tVar 2) tNil))) (tC (.int 0))) (x := e2 a) (y := e1 b)
    (ev_op2 (c1 := 0) (c2 := 0) (ev_callE (c1 := 0) (c2 := 0) (ea_cons2 (c1 := 0) (c2 := 0) (ev_var rfl) (ea_cons2 (c1 := 0) (c2 := 0) (ev_var rfl) ea_nil)) (hE rs a hd ha)) ev_int (rv_ixT rfl rfl))
    (ev_op2 (c1 := 0) (c2 := 0) (ev_callE (c1 := 0) (c2 := 0) (ea_cons2 (c1 := 0) (c2 := 0) (ev_var rfl) (ea_cons2 (c1 := 0) (c2 := 0) (ev_var rfl) ea_nil)) (hE rs b hd hb)) ev_int (rv_ixT rfl rfl))
  rw [may_law] at hp
  refine es_sqP (N := fun Γ1 => e2 a = e1 b ∧ Γ1 = [.dat (.dct (refsD rs)), .dat (stD a), .dat (stD b), .no, .no]) 0 0 (Nat.le_refl _) (es_ifW (b := !decide (e2 a = e1 b)) 0 0 (Nat.le_refl _) hne (fun h => es_retE ev_bl ?_) (fun h => es_next ⟨by simpa using h, rfl⟩)) ?_
  · have h2 : decide (e2 a = e1 b) = false := by simpa using h
    rw [h2] at hp
    exact hp
  rintro Γ1 ⟨h1, rfl⟩
  rw [decide_eq_true h1, Bool.true_and] at hp
  have htp : ∀ {Γ' : List En} {k i j : Int} {s : St2} {n : Nat}, Γ'[n]? = some (.dat (stD s)) → Ev W (tTup (tCons (tC (.int i)) (tCons (tOp (rIxA K) (tVar n) (tC (.int 0))) (tCons (tC (.int j)) tNil)))) Γ' 0 (· = .tup [.int i, .str s.1.1, .int j]) := fun {Γ' k i j s n} hn =>
    (ev_tup (c := 0) (P := (· = [.int i, .str s.1.1, .int j])) (ea_cons2 (c1 := 0) (c2 := 0) ev_int (ea_cons2 (c1 := 0) (c2 := 0) (ev_at0 hn) (ea_cons2 (c1 := 0) (c2 := 0) ev_int ea_nil))) (fun ds e => by rw [e]; simp)).imp fun x ⟨ds, e1, e2⟩ => by rw [e1, e2]
  refine es_sq (Γ' := [.dat (.dct (refsD rs)), .dat (stD a), .dat (stD b), .dat (.tup [.int (if a.2 then 0 else 1), .str a.1.1, .int (if a.2 then 1 else 0)]), .no]) 0 0 (Nat.le_refl _) (es_asgE (ev_if (c1 := 0) (c2 := 0) (Pt := (· = a.2)) ((et_eqS (c1 := 0) (c2 := 0) (ev_at1 rfl) ev_str).weak (Nat.le_refl _) fun b e => by rw [e, way_forth]) (fun h => by rw [← h]; exact htp (k := 0) rfl) (fun h => by rw [← h]; exact htp (k := 0) rfl)) rfl) ?_
  refine es_sq (Γ' := [.dat (.dct (refsD rs)), .dat (stD a), .dat (stD b), .dat (.tup [.int (if a.2 then 0 else 1), .str a.1.1, .int (if a.2 then 1 else 0)]), .dat (.tup [.int (if b.2 then 1 else 2), .str b.1.1, .int (if b.2 then 2 else 1)])]) 0 0 (Nat.le_refl _) (es_asgE (ev_if (c1 := 0) (c2 := 0) (Pt := (· = b.2)) ((et_eqS (c1 := 0) (c2 := 0) (ev_at1 rfl) ev_str).weak (Nat.le_refl _) fun b e => by rw [e, way_forth]) (fun h => by rw [← h]; exact htp (k := 0) rfl) (fun h => by rw [← h]; exact htp (k := 0) rfl)) rfl) ?_
  have oa := ho _ ha
  have ob := ho _ hb
  have s2 : ∀ {Γ' : List En} {n : Nat} {i j : Int} {x : Str}, Γ'[n]? = some (.dat (.tup [.int i, .str x, .int j])) → Ev W (tSl (rSlA K) (tVar n) tNoPart (tPart (tC (.int 2)))) Γ' 0 (· = .tup [.int i, .str x]) := fun {Γ' n i j x} h => ev_slT (ds := [.int i, .str x, .int j]) (lo := none) (hi := some 2) (ev_var h) eo_none (eo_int ev_int) (by show ¬ (HT.sIx 3 0 none = 0 ∧ HT.sIx 3 3 (some 2) = 3); decide)
  have s1 : ∀ {Γ' : List En} {n : Nat} {i j : Int} {x : Str}, Γ'[n]? = some (.dat (.tup [.int i, .str x, .int j])) → Ev W (tSl (rSlA K) (tVar n) (tPart (tC (.int 1))) tNoPart) Γ' 0 (· = .tup [.str x, .int j]) := fun {Γ' n i j x} h => ev_slT (ds := [.int i, .str x, .int j]) (lo := some 1) (hi := none) (ev_var h) (eo_int ev_int) eo_none (by show ¬ (HT.sIx 3 0 (some 1) = 0 ∧ HT.sIx 3 3 none = 3); decide)
  refine es_retE (ev_andB (c1 := 0) (c2 := 0) (ev_op2 (c1 := 0) (c2 := 0) (s2 rfl) (s2 rfl) (rv_neP plain_is plain_is (shp_is oa) (shp_is ob) (by rw [eqv_is]))) (fun _ => ev_orB (c1 := 0) (c2 := 0) (ev_op2 (c1 := 0) (c2 := 0) (s1 rfl) (s1 rfl) (rv_neP plain_si plain_si (shp_si oa) (shp_si ob) (by rw [eqv_si]))) (fun _ => ?_))) hp
  exact ev_eqS (c1 := 0) (c2 := 0) (ev_op2 (c1 := 0) (c2 := 0) (ev_op2 (c1 := 0) (c2 := 0) (ev_var rfl) (ev_at0 rfl) (rv_ixD (k := Sum.inr a.1.1) (P := (· = endsD a.1)) (val_ref hd ha) rfl)) ev_int (rv_ixT (ds := [.str a.1.2.1, .str a.1.2.2.1, .str a.1.2.2.2]) rfl rfl)) ev_str
def LMayOk (W : Wd K) (sp : Sp) : Prop := ∀ (rs : List Rf) (a b : St2), (rs.map fun r => r.1).Nodup → (∀ r ∈ rs, okS r.1 = true) → a.1 ∈ rs → b.1 ∈ rs → Fn W sp [.dct (refsD rs), stD a, stD b] 0 (· = .bl (mayB a b))
theorem es_every {rs : List Rf} (h6 : rs.length ≤ 7) (hp : p.rt (.lst ((everyR rs).map stD))) : Es W (t__law_every K) [.dat (.dct (refsD rs)), .no, .no] 0 p := by
  refine es_sq (Γ' := [.dat (.dct (refsD rs)), .own [], .no]) 0 0 (Nat.le_refl _) (es_asgFE evF_nil rfl) ?_
  have hl : (sortR rs).length ≤ 7 := by rw [(sortR_perm rs).length_eq]; exact h6
  refine es_sqP (N := fun Γ1 => ∃ a, Γ1 = [.dat (.dct (refsD rs)), .own ((everyR rs).map stD), a]) 0 0 (Nat.le_refl _) ((es_for (vs := [2]) (n := 7) (c0 := 0) (cb := 0) (Pi := fun ds => ds = ((sortR rs).map fun r => r.1).map Da.str) (fun _ i Γ1 => ∃ a, Γ1 = [.dat (.dct (refsD rs)), .own ((((sortR rs).take i).flatMap fun r => [((r, false) : St2), (r, true)]).map stD), a]) ?_ ?_ ?_ ?_ ?_).weak (by omega)) ?_
  · exact ei_list ((evF_cb (c := 0) (ea_cons2 (c1 := 0) (c2 := 0) (ev_var rfl) ea_nil) (fun ds e => by rw [e]; exact rcF_sortTD (refs_keys rs) (by rw [List.length_map]; omega))).ev'.imp fun d e => ⟨_, e, by rw [sortR_map]⟩)
  · rintro ds rfl
    exact ⟨.no, rfl⟩
  · rintro ds i d Γ1 rfl hd ⟨a, rfl⟩
    rw [List.getElem?_map, List.getElem?_map] at hd
    cases hr : (sortR rs)[i]? with
    | none =>
      rw [hr] at hd
      cases hd
    | some r =>
      rw [hr] at hd
      cases hd
      refine ⟨_, eg_name, es_freeze (i := 1) rfl ?_⟩
      have ht : ∀ {Γ' : List En} (w : Bool), Γ'[2]? = some (.dat (.str r.1)) → Ev W (tTup (tCons (tVar 2) (tCons (tC (.str (wayS w))) tNil))) Γ' 0 (· = stD (r, w)) := fun {Γ'} w h => (ev_tup (c := 0) (P := (· = [.str r.1, .str (wayS w)])) (ea_cons2 (c1 := 0) (c2 := 0) (ev_var h) (ea_cons2 (c1 := 0) (c2 := 0) ev_str ea_nil)) (fun ds e => by rw [e]; simp)).imp fun x ⟨ds, e1, e2⟩ => by rw [e1, e2]; rfl
      refine es_asgFE (ds := (((sortR rs).take i).flatMap fun r => [((r, false) : St2), (r, true)]).map stD ++ [stD (r, false), stD (r, true)]) (evF_addL (c1 := 0) (c2 := 0) (ev_var rfl) (evF_lst (c := 0) (ea_cons2 (c1 := 0) (c2 := 0) (ht false rfl) (ea_cons2 (c1 := 0) (c2 := 0) (ht true rfl) ea_nil)) (fun ds e => by rw [e]; simp)).ev' ?_) ⟨.dat (.str r.1), ?_⟩
      · rw [List.length_map, flat_len, List.length_take]
        show _ + 2 ≤ _
        omega
      · rw [List.take_succ, hr, List.flatMap_append, List.map_append]
        rfl
  · rintro ds Γ1 rfl ⟨a, rfl⟩
    refine ⟨a, ?_⟩
    rw [List.length_map, List.length_map, List.take_length]
    rfl
  · rintro ds rfl
    rw [List.length_map, List.length_map]
    exact hl
  rintro Γ1 ⟨a, rfl⟩
  exact es_freeze (i := 1) rfl (es_retE (ev_var rfl) hp)
def EveryOk (W : Wd K) (sp : Sp) : Prop := ∀ rs : List Rf, rs.length ≤ 7 → Fn W sp [.dct (refsD rs)] 0 (· = .lst ((everyR rs).map stD))
end
end P23
set_option Elab.async false
set_option linter.all false
set_option maxRecDepth 100000
set_option maxHeartbeats 4000000
/-! D23: _law_parts over data -/
namespace P23
open PySem L2 TL WJ LamX
def t__law_parts (K : PySem.W.Frag) (sp__law_next : Sp) (sp__law_pick : Sp) (sp__law_shuffled : Sp) : TS :=
  (tSeq (tAsg (tLst (tCons (tC (.str "a")) (tCons (tC (.str "b")) (tCons (tC (.str "man")) (tCons (tC (.str "book")) (tCons (tC (.str "forth")) (tCons (tC (.str "back")) (tCons (tC (.str "zzzzzz")) tNil)))))))) (gName 2))
    (tSeq (tPar 3 4 (tCons (tSl (rSlA K) (tCall sp__law_shuffled [] E0 (tCons (tVar 0) (tCons (tVar 2) tNil))) tNoPart (tPart (tOp (rAddA K) (tC (.int 1)) (tCall sp__law_next [] E0 (tCons (tVar 0) (tCons (tVar 1) tNil)))))) (tCons tDNewK tNil)))
    (tSeq (tPar 5 6 (tCons (tCall sp__law_shuffled [] E0 (tCons (tVar 0) (tCons (tLst (tCons (tC (.str "r")) (tCons (tC (.str "s")) (tCons (tC (.str "by")) (tCons (tC (.str "a")) (tCons (tC (.str "forth")) (tCons (tC (.str "what")) (tCons (tC (.str "y")) tNil)))))))) tNil))) (tCons (tCall sp__law_next [] E0 (tCons (tVar 0) (tCons (tC (.int 4)) tNil))) tNil)))
    (tSeq (tIfS (tTest (tOp (rEqA K) (tVar 6) (tC (.int 0))))
    (tSeq (tFor (iList K (tSl (rSlA K) (tVar 5) tNoPart (tPart (tCall sp__law_next [] E0 (tCons (tVar 0) (tCons (tC (.int 7)) tNil)))))) (gName 7)
    (tSeq (tAsg (tCall sp__law_pick [] E0 (tCons (tVar 0) (tCons (tLst (tCons (tC (.str "many")) (tCons (tC (.str "single")) tNil))) tNil))) (gName 8))
    (sDPut (tVar 4) (tVar 7) (tTup (tCons (tCall sp__law_pick [] E0 (tCons (tVar 0) (tCons (tVar 3) tNil))) (tCons (tCall sp__law_pick [] E0 (tCons (tVar 0) (tCons (tVar 3) tNil))) (tCons (tVar 8) tNil)))))))
    (tRet (tTup (tCons (tVar 3) (tCons (tVar 4) tNil)))))
    tNext)
    (tSeq (tFor (iRng2 (tCons (tC (.int 1)) (tCons (tCB (rLenA K) (tCons (tVar 3) tNil)) tNil))) (gName 9)
    (tSeq (tAsg (tLst (tCons (tOp (rIxA K) (tVar 3) (tVar 9)) (tCons (tCall sp__law_pick [] E0 (tCons (tVar 0) (tCons (tSl (rSlA K) (tVar 3) tNoPart (tPart (tVar 9))) tNil))) tNil))) (gName 10))
    (tSeq (tIfS (tAnd (tTest (tOp (rI0 fun i j => .bl (decide (j < i))) (tVar 6) (tC (.int 1)))) (tTest (tOp (rEqA K) (tCall sp__law_next [] E0 (tCons (tVar 0) (tCons (tC (.int 3)) tNil))) (tC (.int 0)))))
    (tAsg (tRevL K (tVar 10)) (gName 10))
    tNext)
    (tSeq (tAsg (tCall sp__law_pick [] E0 (tCons (tVar 0) (tCons (tStepL K (tLst (tCons (tC (.str "many")) (tCons (tC (.str "many")) (tCons (tC (.str "many")) (tCons (tC (.str "single")) tNil))))) (tOp (rIxA K) (tLst (tCons (tC (.int 1)) (tCons (tC (.int 1)) (tCons (tUn (rU fun i => .int (-i)) (tC (.int 1))) (tCons (tC (.int 1)) tNil))))) (tVar 6))) tNil))) (gName 8))
    (tIfS (tTest (tOp (rI0 fun i j => .bl (decide (j < i))) (tCall sp__law_next [] E0 (tCons (tVar 0) (tCons (tC (.int 8)) tNil))) (tC (.int 0))))
    (sDPut (tVar 4) (tOp (rIxA K) (tVar 5) (tVar 9)) (tTup (tCons (tOp (rIxA K) (tVar 10) (tC (.int 0))) (tCons (tOp (rIxA K) (tVar 10) (tC (.int 1))) (tCons (tVar 8) tNil)))))
    tNext)))))
    (tRet (tTup (tCons (tVar 3) (tCons (tVar 4) tNil)))))))))
def tabL : List Str := ["a", "b", "man", "book", "forth", "back", "zzzzzz"]
def labL : List Str := ["r", "s", "by", "a", "forth", "what", "y"]
theorem tab_ok : tabL.all isName = true ∧ tabL.Nodup ∧ tabL.all okS = true := by decide +kernel
theorem lab_ok : labL.all isName = true ∧ labL.Nodup ∧ labL.all okS = true := by decide +kernel
theorem put_ref {rs : List Rf} {r : Rf} (h : r.1 ∉ rs.map (·.1)) : putD (refsD rs) (Sum.inr r.1) (endsD r) = refsD (rs ++ [r]) := by
  rw [put_new (refs_new h)]
  unfold refsD
  rw [List.map_append]
  rfl
theorem names_all {xs ys : List Str} (h : ys.all isName = true) (hs : ∀ x ∈ xs, x ∈ ys) : xs.all isName = true := List.all_eq_true.mpr fun x hx => List.all_eq_true.mp h x (hs x hx)
theorem Rf.ok {ts : List Str} {rs : List Rf} (h : Parts ts rs) : ∀ r ∈ rs, okS r.1 = true := fun r hr => name_ok (List.all_eq_true.mp h.rn _ (List.mem_map.mpr ⟨r, hr, rfl⟩))
section
variable {K : PySem.W.Frag} {W : Wd K} {Γ : List En} {p : Po} {c c1 c2 : Nat} {ta tb te : TE}
def ShufOk (W : Wd K) (q : Addr) (sp : Sp) : Prop := ∀ (xs : List Str) (P : Da → Prop), xs.length ≤ 11 → xs.all okS = true → (∀ ys : List Str, ys.Perm xs → P (.lst (ys.map Da.str))) → Fn W sp [.obj q, .lst (xs.map Da.str)] 12 P
abbrev GP (q : Addr) (nm tb rf lb sh e7 e8 e9 e10 : En) : List En := [.dat (.obj q), .dat (.int 5), nm, tb, rf, lb, sh, e7, e8, e9, e10]
theorem ea_lits : ∀ xs : List Str, EvA W (xs.foldr (fun x t => tCons (tC (.str x)) t) tNil) Γ 0 (· = xs.map Da.str)
  | [] => ea_nil
  | x :: xs => ea_cons2 (c1 := 0) (c2 := 0) ev_str (ea_lits xs)
theorem ev_pickT {q : Addr} {spP : Sp} {ts : List Str} {P : Da → Prop} (hP : PickOk W q spP) (h0 : Γ[0]? = some (.dat (.obj q))) (h : Ev W te Γ c (fun d => ∃ xs : List Str, d = .lst (xs.map Da.str) ∧ xs ≠ [] ∧ xs.length ≤ 100 ∧ ∀ x ∈ xs, P (.str x))) : Ev W (tCall spP [] E0 (tCons (tVar 0) (tCons te tNil))) Γ (c + 1) P :=
  (ev_call (c1 := 0 + (c + 0)) (c2 := 1) (Pa := fun ds => ∃ xs : List Str, ds = [.obj q, .lst (xs.map Da.str)] ∧ xs ≠ [] ∧ xs.length ≤ 100 ∧ ∀ x ∈ xs, P (.str x)) (ea_cons (P2 := fun ds => ∃ xs : List Str, ds = [.lst (xs.map Da.str)] ∧ xs ≠ [] ∧ xs.length ≤ 100 ∧ ∀ x ∈ xs, P (.str x)) (ev_var h0) (ea_cons h ea_nil fun d ds ⟨xs, e1, g⟩ e2 => ⟨xs, by rw [e1, e2], g⟩) fun d ds e1 ⟨xs, e2, g⟩ => ⟨xs, by rw [e1, e2], g⟩)
    fun ds ⟨xs, e, g1, g2, g3⟩ => by
      rw [e]
      exact hP (.lst (xs.map Da.str)) (xs.map Da.str) P rfl (by simpa using g1) (by rw [List.length_map]; omega) fun d hd => by
        obtain ⟨x, hx, rfl⟩ := List.mem_map.mp hd
        exact g3 x hx).weak (by omega) fun d e => e
theorem es_parts {q : Addr} {spN spP spS : Sp} (hN : NextOk W q spN) (hP : PickOk W q spP) (hS : ShufOk W q spS) (hp : ∀ ts rs, Parts ts rs → (∀ r ∈ rs, r.1 ∈ labL) → p.rt (.tup [.lst (ts.map Da.str), .dct (refsD rs)])) :
    Es W (t__law_parts K spN spP spS) (GP q .no .no .no .no .no .no .no .no .no) 62 p := by
  refine es_sq (Γ' := GP q (.own (tabL.map Da.str)) .no .no .no .no .no .no .no .no) 0 62 (by decide) (es_asgFE (evF_lst (c := 0) (ea_lits tabL) (fun ds e => by rw [e]; decide)) rfl) ?_
  refine es_freeze (i := 2) rfl ?_
  show Es W _ (GP q (.dat (.lst (tabL.map Da.str))) .no .no .no .no .no .no .no .no) _ _
  refine es_sqP (N := fun Γ1 => ∃ ts : List Str, (ts.Nodup ∧ 1 ≤ ts.length ∧ ts.length ≤ 5 ∧ ∀ t ∈ ts, t ∈ tabL) ∧ Γ1 = GP q (.dat (.lst (tabL.map Da.str))) (.own (ts.map Da.str)) (.ownD []) .no .no .no .no .no .no) 13 49 (by decide) (es_parE (c1 := 13) (c2 := 0) (P1 := fun e => ∃ d, e = .own d ∧ ∃ ts : List Str, (ts.Nodup ∧ 1 ≤ ts.length ∧ ts.length ≤ 5 ∧ ∀ t ∈ ts, t ∈ tabL) ∧ d = ts.map Da.str) (P2 := fun e => ∃ d, e = .ownD d ∧ d = []) (EvF.e ?_) (EvG.e evG_new) (fun e1 e2 ⟨d1, h1, ts, g1, g2⟩ ⟨d2, h2, g3⟩ => ⟨ts, g1, by subst h1 g2 h2 g3; rfl⟩)) ?_
  · have hsh : Ev W (tCall spS [] E0 (tCons (tVar 0) (tCons (tVar 2) tNil))) (GP q (.dat (.lst (tabL.map Da.str))) .no .no .no .no .no .no .no .no) 12 (fun d => ∃ ds, d = .lst ds ∧ ∃ ys : List Str, ys.Perm tabL ∧ ds = ys.map Da.str) :=
      ev_callE (c1 := 0) (c2 := 12) (ea_cons2 (c1 := 0) (c2 := 0) (ev_var rfl) (ea_cons2 (c1 := 0) (c2 := 0) (ev_var rfl) ea_nil)) (hS tabL _ (by decide) tab_ok.2.2 (fun ys hp => ⟨_, rfl, ys, hp, rfl⟩))
    have hn : Ev W (tOp (rAddA K) (tC (.int 1)) (tCall spN [] E0 (tCons (tVar 0) (tCons (tVar 1) tNil)))) (GP q (.dat (.lst (tabL.map Da.str))) .no .no .no .no .no .no .no .no) 1 (fun d => ∃ k, d = .int k ∧ (1 ≤ k ∧ k ≤ 5)) :=
      (ev_op (c1 := 0) (c2 := 1) (P1 := (· = .int 1)) (P2 := fun d => ∃ k : Int, d = .int k ∧ 0 ≤ k ∧ k < 5) ev_int (ev_callE (c1 := 0) (c2 := 1) (ea_cons2 (c1 := 0) (c2 := 0) (ev_var rfl) (ea_cons2 (c1 := 0) (c2 := 0) (ev_var rfl) ea_nil)) (hN 5 _ (by decide) (by decide) (fun k a b => ⟨k, rfl, a, b⟩))) (fun d1 d2 e1 ⟨k, e2, h1, h2⟩ => by
        subst e1 e2
        exact rv_addI ⟨_, rfl, by omega, by omega⟩)).weak (by decide) fun d e => e
    refine (evF_slL (c0 := 12) (c1 := 0) (c2 := 1) hsh eo_none (eo_some hn)).weak (by decide) (fun es ⟨ds, lo, hi, ⟨ys, hperm, e1⟩, e2, ⟨k, e3, hk⟩, e4⟩ => ?_)
    have hlen : ys.length = 7 := hperm.length_eq
    have hcut : cutD (ys.map Da.str) none (some k) = (ys.take k.toNat).map Da.str := by
      unfold cutD
      rw [List.length_map, hlen]
      have h1 : HT.sIx 7 0 none = 0 := rfl
      have h2 : HT.sIx 7 7 (some k) = k.toNat := by
        show (if k < 0 then _ else min k.toNat 7) = k.toNat
        rw [if_neg (by omega)]
        omega
      rw [h1, h2, List.drop_zero, Nat.sub_zero, List.map_take]
    refine ⟨ys.take k.toNat, ⟨List.Nodup.sublist (List.take_sublist _ _) (hperm.nodup_iff.mpr tab_ok.2.1), ?_, ?_, fun t ht => hperm.mem_iff.mp (List.mem_of_mem_take ht)⟩, by rw [e4, e1, e2, e3, hcut]⟩
    · rw [List.length_take, hlen]
      omega
    · rw [List.length_take, hlen]
      omega
  rintro Γ1 ⟨ts, ⟨htd, ht1, ht5, htm⟩, rfl⟩
  refine es_freeze (i := 3) rfl ?_
  show Es W _ (GP q (.dat (.lst (tabL.map Da.str))) (.dat (.lst (ts.map Da.str))) (.ownD []) .no .no .no .no .no .no) _ _
  have htne : ts ≠ [] := fun z => by rw [z] at ht1; exact absurd ht1 (by decide)
  refine es_sqP (N := fun Γ1 => ∃ (ys : List Str) (sh : Int), (ys.Perm labL ∧ 0 ≤ sh ∧ sh < 4) ∧ Γ1 = GP q (.dat (.lst (tabL.map Da.str))) (.dat (.lst (ts.map Da.str))) (.ownD []) (.dat (.lst (ys.map Da.str))) (.dat (.int sh)) .no .no .no .no) 13 36 (by decide) (es_parE (c1 := 12) (c2 := 1) (P1 := fun e => ∃ d, e = .dat d ∧ ∃ ys : List Str, ys.Perm labL ∧ d = .lst (ys.map Da.str)) (P2 := fun e => ∃ d, e = .dat d ∧ ∃ sh : Int, (0 ≤ sh ∧ sh < 4) ∧ d = .int sh) (Ev.e ?_) (Ev.e ?_) (fun e1 e2 ⟨d1, h1, ys, g1, g2⟩ ⟨d2, h2, sh, g3, g4⟩ => ⟨ys, sh, ⟨g1, g3⟩, by subst h1 g2 h2 g4; rfl⟩)) ?_
  · exact ev_callE (c1 := 0) (c2 := 12) (ea_cons2 (c1 := 0) (c2 := 0) (ev_var rfl) (ea_cons2 (c1 := 0) (c2 := 0) (evF_lst (c := 0) (ea_lits labL) (fun ds e => by rw [e]; decide)).ev' ea_nil)) (hS labL _ (by decide) lab_ok.2.2 (fun ys hp => ⟨ys, hp, rfl⟩))
  · exact ev_callE (c1 := 0) (c2 := 1) (ea_cons2 (c1 := 0) (c2 := 0) (ev_var rfl) (ea_cons2 (c1 := 0) (c2 := 0) ev_int ea_nil)) (hN 4 _ (by decide) (by decide) (fun k a b => ⟨k, ⟨a, b⟩, rfl⟩))
  rintro Γ1 ⟨ys, sh, ⟨hperm, hs0, hs4⟩, rfl⟩
  have hylen : ys.length = 7 := hperm.length_eq
  have hynd : ys.Nodup := hperm.nodup_iff.mpr lab_ok.2.1
  have hpickT : ∀ {Γ' : List En}, Γ'[0]? = some (.dat (.obj q)) → Γ'[3]? = some (.dat (.lst (ts.map Da.str))) → Ev W (tCall spP [] E0 (tCons (tVar 0) (tCons (tVar 3) tNil))) Γ' 1 (fun d => ∃ t, d = .str t ∧ t ∈ ts) := fun {Γ'} g0 g3 =>
    ev_pickT (ts := ts) (c := 0) hP g0 ((ev_var g3).imp fun d e => ⟨ts, e, htne, by omega, fun x hx => ⟨x, rfl, hx⟩⟩)
  refine es_sqP (N := fun Γ1 => sh ≠ 0 ∧ Γ1 = GP q (.dat (.lst (tabL.map Da.str))) (.dat (.lst (ts.map Da.str))) (.ownD []) (.dat (.lst (ys.map Da.str))) (.dat (.int sh)) .no .no .no .no) 19 17 (by decide) (es_ifW (b := decide (sh = 0)) 0 19 (by decide) (et_testB (ev_op2 (c1 := 0) (c2 := 0) (ev_var rfl) ev_int (rv_eqF (w1 := .int sh) (w2 := .int 0) rfl rfl rfl (by congr 1; exact decide_eq_decide.mpr ⟨fun e => by injection e, fun e => by rw [e]⟩)))) (fun _ => ?_) (fun h => Es.weak (c := 0) (es_next ⟨of_decide_eq_false h, rfl⟩) (by decide))) ?_
  · refine es_sqP (N := fun Γ1 => ∃ (rs : List Rf) (e7 e8 : En), (Parts ts rs ∧ ∀ r ∈ rs, r.1 ∈ labL) ∧ Γ1 = GP q (.dat (.lst (tabL.map Da.str))) (.dat (.lst (ts.map Da.str))) (.ownD (refsD rs)) (.dat (.lst (ys.map Da.str))) (.dat (.int sh)) e7 e8 .no .no) 19 0 (by decide)
      ((es_for (vs := [7]) (n := 6) (c0 := 1) (cb := 3) (Pi := fun ds => ∃ ls : List Str, ds = ls.map Da.str ∧ ls.Nodup ∧ ls.length ≤ 6 ∧ ∀ l ∈ ls, l ∈ labL) (fun ds i Γ1 => ∃ (rs : List Rf) (e7 e8 : En), ((rs.map fun r => r.1).map Da.str = ds.take i ∧ ∀ r ∈ rs, r.2.1 ∈ ts ∧ r.2.2.1 ∈ ts ∧ (r.2.2.2 = "many" ∨ r.2.2.2 = "single")) ∧ Γ1 = GP q (.dat (.lst (tabL.map Da.str))) (.dat (.lst (ts.map Da.str))) (.ownD (refsD rs)) (.dat (.lst (ys.map Da.str))) (.dat (.int sh)) e7 e8 .no .no) ?_ ?_ ?_ ?_ ?_).weak (by decide)) ?_
    · refine ei_list ((evF_slL (c0 := 0) (c1 := 0) (c2 := 1) (Pd := (· = ys.map Da.str)) ((ev_var rfl).imp fun d e => ⟨_, e, rfl⟩) eo_none (eo_some (P := fun k => 0 ≤ k ∧ k < 7) (ev_callE (c1 := 0) (c2 := 1) (ea_cons2 (c1 := 0) (c2 := 0) (ev_var rfl) (ea_cons2 (c1 := 0) (c2 := 0) ev_int ea_nil)) (hN 7 _ (by decide) (by decide) (fun k a b => ⟨k, rfl, a, b⟩))))).ev.weak (by decide) fun d ⟨es, e0, ds, lo, hi, e1, e2, ⟨k, e3, hk⟩, e4⟩ => ⟨es, e0, ys.take k.toNat, ?_, List.Nodup.sublist (List.take_sublist _ _) hynd, ?_, fun l hl => hperm.mem_iff.mp (List.mem_of_mem_take hl)⟩)
      · rw [e4, e1, e2, e3]
        unfold cutD
        rw [List.length_map, hylen]
        have h1 : HT.sIx 7 0 none = 0 := rfl
        have h2 : HT.sIx 7 7 (some k) = k.toNat := by
          show (if k < 0 then _ else min k.toNat 7) = k.toNat
          rw [if_neg (by omega)]
          omega
        rw [h1, h2, List.drop_zero, Nat.sub_zero, List.map_take]
      · rw [List.length_take]
        omega
    · rintro ds _
      exact ⟨[], .no, .no, ⟨rfl, fun r hr => nomatch hr⟩, rfl⟩
    · rintro ds i d Γ1 ⟨ls, rfl, hnd, hl6, hlab⟩ hd ⟨rs, e7, e8, ⟨hk, hrs⟩, rfl⟩
      rw [List.getElem?_map] at hd
      obtain ⟨la, hla, rfl⟩ : ∃ la, ls[i]? = some la ∧ d = .str la := by
        cases z : ls[i]? with
        | none => rw [z] at hd; cases hd
        | some la =>
          rw [z] at hd
          cases hd
          exact ⟨la, rfl, rfl⟩
      have hk2 : (rs.map fun r => r.1) = ls.take i := by
        rw [← List.map_take] at hk
        exact List.map_inj_right (f := Da.str) (fun a b h => by injection h) |>.mp hk
      have hnew : la ∉ rs.map (·.1) := by
        show la ∉ rs.map fun r => r.1
        rw [hk2]
        intro z
        obtain ⟨j, hj⟩ := List.mem_iff_getElem?.mp z
        have hij : j < i := by
          have := (List.getElem?_eq_some_iff.mp hj).1
          rw [List.length_take] at this
          omega
        rw [List.getElem?_take_of_lt hij] at hj
        exact absurd ((List.getElem?_inj (List.getElem?_eq_some_iff.mp hj).1 hnd).mp (hj.trans hla.symm)) (by omega)
      have hrl : rs.length ≤ 6 := by
        have := congrArg List.length hk2
        rw [List.length_map, List.length_take] at this
        omega
      refine ⟨_, eg_name, ?_⟩
      show Es W _ (GP q (.dat (.lst (tabL.map Da.str))) (.dat (.lst (ts.map Da.str))) (.ownD (refsD rs)) (.dat (.lst (ys.map Da.str))) (.dat (.int sh)) (.dat (.str la)) e8 .no .no) 3 _
      refine es_sqP (N := fun Γ1 => ∃ kd : Str, (kd = "many" ∨ kd = "single") ∧ Γ1 = GP q (.dat (.lst (tabL.map Da.str))) (.dat (.lst (ts.map Da.str))) (.ownD (refsD rs)) (.dat (.lst (ys.map Da.str))) (.dat (.int sh)) (.dat (.str la)) (.dat (.str kd)) .no .no) 1 2 (by decide) (es_asgW (Q := fun d => ∃ kd : Str, (kd = "many" ∨ kd = "single") ∧ d = .str kd) 1 (by decide) (ev_pickT (ts := ts) (c := 0) hP rfl ((evF_lst (c := 0) (ea_lits ["many", "single"]) (fun ds e => by rw [e]; decide)).ev'.imp fun d e => ⟨["many", "single"], e, by decide, by decide, fun x hx => ⟨x, by simpa using hx, rfl⟩⟩)) (fun d ⟨kd, h, e⟩ => ⟨kd, h, by rw [e]; rfl⟩)) ?_
      rintro Γ1 ⟨kd, hkd, rfl⟩
      refine (es_dput (i := 4) (c1 := 2) (c2 := 0) (es := refsD rs) rfl (P := fun d => ∃ a b : Str, a ∈ ts ∧ b ∈ ts ∧ d = .tup [.str a, .str b, .str kd]) (Pk := (· = Sum.inr la)) ?_ ((ev_var (d := .str la) rfl).imp fun d e => ⟨Sum.inr la, e, rfl⟩) (by unfold refsD; rw [List.length_map]; omega) (fun d k e1 e2 => ?_)).weak (by decide)
      · exact (ev_tup (c := 2) (P := fun ds => ∃ a b : Str, a ∈ ts ∧ b ∈ ts ∧ ds = [.str a, .str b, .str kd]) (ea_cons (c1 := 1) (c2 := 1) (hpickT rfl rfl) (ea_cons (c1 := 1) (c2 := 0) (P := fun ds => ∃ b : Str, b ∈ ts ∧ ds = [.str b, .str kd]) (hpickT rfl rfl) (ea_cons2 (c1 := 0) (c2 := 0) (ev_var rfl) ea_nil) (fun d ds ⟨b, e1, hb⟩ e2 => ⟨b, hb, by rw [e1, e2]⟩)) (fun d ds ⟨a, e1, ha⟩ ⟨b, hb, e2⟩ => ⟨a, b, ha, hb, by rw [e1, e2]⟩)) (fun ds ⟨a, b, _, _, e⟩ => by rw [e]; simp)).imp fun d ⟨ds, e1, a, b, ha, hb, e2⟩ => ⟨a, b, ha, hb, by rw [e1, e2]⟩
      · obtain ⟨a, b, ha, hb, rfl⟩ := e1
        refine ⟨rs ++ [(la, a, b, kd)], .dat (.str la), .dat (.str kd), ⟨?_, fun r hr => ?_⟩, ?_⟩
        · rw [List.map_append, List.map_append, hk, List.take_succ, List.getElem?_map, hla]
          rfl
        · rcases List.mem_append.mp hr with z | z
          · exact hrs r z
          · rw [List.mem_singleton.mp z]
            exact ⟨ha, hb, hkd⟩
        · rw [e2, show (Da.tup [.str a, .str b, .str kd]) = endsD (la, a, b, kd) from rfl, show (Sum.inr la : Key) = Sum.inr (la, a, b, kd).1 from rfl, put_ref hnew]
          rfl
    · rintro ds Γ1 ⟨ls, rfl, hnd, hl6, hlab⟩ ⟨rs, e7, e8, ⟨hk, hrs⟩, rfl⟩
      rw [List.length_map] at hk
      have hk2 : (rs.map fun r => r.1) = ls := by
        rw [← List.map_take, List.take_length] at hk
        exact List.map_inj_right (f := Da.str) (fun a b h => by injection h) |>.mp hk
      have hrl : rs.length = ls.length := by
        have := congrArg List.length hk2
        rw [List.length_map] at this
        exact this
      exact ⟨rs, e7, e8, ⟨⟨names_all tab_ok.1 htm, htd, ht1, ht5, names_all lab_ok.1 (fun x hx => hlab x (by rw [← hk2]; exact hx)), by show (rs.map fun r => r.1).Nodup; rw [hk2]; exact hnd, by omega, hrs⟩, fun r hr => hlab _ (by rw [← hk2]; exact List.mem_map.mpr ⟨r, hr, rfl⟩)⟩, rfl⟩
    · rintro ds ⟨ls, rfl, _, hl, _⟩
      rw [List.length_map]
      exact hl
    rintro Γ1 ⟨rs, e7, e8, hPt, rfl⟩
    refine es_freezeD (i := 4) rfl ?_
    exact es_ret (c := 0) (ev_tup (P := (· = [.lst (ts.map Da.str), .dct (refsD rs)])) (ea_cons2 (c1 := 0) (c2 := 0) (ev_var rfl) (ea_cons2 (c1 := 0) (c2 := 0) (ev_var rfl) ea_nil)) (fun ds e => by rw [e]; simp)) (fun d ⟨ds, e1, e2⟩ => by rw [e1, e2]; exact hp ts rs hPt.1 hPt.2)
  rintro Γ1 ⟨hsh, rfl⟩
  refine es_sqP (N := fun Γ1 => ∃ (rs : List Rf) (e8 e9 e10 : En), (Parts ts rs ∧ ∀ r ∈ rs, r.1 ∈ labL) ∧ Γ1 = GP q (.dat (.lst (tabL.map Da.str))) (.dat (.lst (ts.map Da.str))) (.ownD (refsD rs)) (.dat (.lst (ys.map Da.str))) (.dat (.int sh)) .no e8 e9 e10) 16 0 (by decide)
    ((es_for (vs := [9]) (n := 4) (c0 := 0) (cb := 4) (Pi := fun ds => ds = rngD 1 (ts.length - 1)) (fun _ i Γ1 => ∃ (rs : List Rf) (e8 e9 e10 : En), ((rs.map fun r => r.1).Nodup ∧ (∀ l ∈ rs.map fun r => r.1, l ∈ ys.take (1 + i)) ∧ rs.length ≤ i ∧ ∀ r ∈ rs, r.2.1 ∈ ts ∧ r.2.2.1 ∈ ts ∧ (r.2.2.2 = "many" ∨ r.2.2.2 = "single")) ∧ Γ1 = GP q (.dat (.lst (tabL.map Da.str))) (.dat (.lst (ts.map Da.str))) (.ownD (refsD rs)) (.dat (.lst (ys.map Da.str))) (.dat (.int sh)) .no e8 e9 e10) ?_ ?_ ?_ ?_ ?_).weak (by decide)) ?_
  · exact ei_rng2 (c := 0) (ea_cons (c1 := 0) (c2 := 0) ev_int (ea_cons2 (c1 := 0) (c2 := 0) (ev_cbE (ea_cons2 (c1 := 0) (c2 := 0) (ev_var rfl) ea_nil) (rc_lenL rfl)) ea_nil) (fun d ds e1 e2 => ⟨1, ((ts.map Da.str).length : Nat), by rw [e1, e2], ⟨by decide, by decide, by omega, by rw [List.length_map]; omega⟩, by rw [List.length_map]; congr 1; omega⟩))
  · rintro ds rfl
    exact ⟨[], .no, .no, .no, ⟨List.nodup_nil, (fun l hl => nomatch hl), Nat.le_refl _, (fun r hr => nomatch hr)⟩, rfl⟩
  · rintro ds i d Γ1 rfl hd ⟨rs, e8, e9, e10, ⟨hnd, hsub, hle, hrs⟩, rfl⟩
    have hi : i < ts.length - 1 := by
      have := (List.getElem?_eq_some_iff.mp hd).1
      rw [rngD_len] at this
      exact this
    rw [rngD_get hi] at hd
    cases hd
    have hkt : 1 + i < ts.length := by omega
    refine ⟨_, eg_name, ?_⟩
    show Es W _ (GP q (.dat (.lst (tabL.map Da.str))) (.dat (.lst (ts.map Da.str))) (.ownD (refsD rs)) (.dat (.lst (ys.map Da.str))) (.dat (.int sh)) .no e8 (.dat (.int (1 + (i : Nat)))) e10) 4 _
    refine es_sqP (N := fun Γ1 => ∃ a b : Str, (a ∈ ts ∧ b ∈ ts) ∧ Γ1 = GP q (.dat (.lst (tabL.map Da.str))) (.dat (.lst (ts.map Da.str))) (.ownD (refsD rs)) (.dat (.lst (ys.map Da.str))) (.dat (.int sh)) .no e8 (.dat (.int (1 + (i : Nat)))) (.own [.str a, .str b])) 1 3 (by decide) (es_asgF (P := fun ds => ∃ a b : Str, (a ∈ ts ∧ b ∈ ts) ∧ ds = [.str a, .str b]) (evF_lst (c := 1) (ea_cons (c1 := 0) (c2 := 1) (P1 := fun d => ∃ a : Str, a ∈ ts ∧ d = .str a) (P2 := fun ds => ∃ b : Str, b ∈ ts ∧ ds = [.str b]) ?_ (ea_cons (c1 := 1) (c2 := 0) (P1 := fun d => ∃ b : Str, d = .str b ∧ b ∈ ts) ?_ ea_nil (fun d ds ⟨b, e1, hb⟩ e2 => ⟨b, hb, by rw [e1, e2]⟩)) (fun d ds ⟨a, ha, e1⟩ ⟨b, hb, e2⟩ => ⟨a, b, ⟨ha, hb⟩, by rw [e1, e2]⟩)) (fun ds ⟨a, b, _, e⟩ => by rw [e]; simp)) (fun ds ⟨a, b, h, e⟩ => ⟨a, b, h, by rw [e]; rfl⟩)) ?_
    · have hg : (ts.map Da.str)[1 + i]? = some (.str ts[1 + i]) := by rw [List.getElem?_map, List.getElem?_eq_getElem hkt]; rfl
      exact (ev_op2 (c1 := 0) (c2 := 0) (P := (· = .str ts[1 + i])) (ev_var rfl) (ev_var rfl) (rv_ixL (d := .str ts[1 + i]) (atI_of (by omega) (by rw [show ((1 : Int) + (i : Nat)).toNat = 1 + i by omega]; exact hg)) rfl)).imp fun d e => ⟨_, List.getElem_mem hkt, e⟩
    · refine ev_pickT (ts := ts) (c := 0) hP rfl ((evF_slL (c0 := 0) (c1 := 0) (c2 := 0) (Pd := (· = ts.map Da.str)) ((ev_var rfl).imp fun d e => ⟨_, e, rfl⟩) eo_none (eo_int (ev_var rfl))).ev.imp fun d ⟨es, e0, ds, lo, hi', e1, e2, e3, e4⟩ => ⟨ts.take (1 + i), ?_, ?_, ?_, fun x hx => ⟨x, rfl, List.mem_of_mem_take hx⟩⟩)
      · rw [e0, e4, e1, e2, e3]
        unfold cutD
        have h1 : HT.sIx (ts.map Da.str).length 0 none = 0 := rfl
        have h2 : HT.sIx (ts.map Da.str).length (ts.map Da.str).length (some (1 + (i : Nat))) = 1 + i := by
          have hz : HT.sIx (ts.map Da.str).length (ts.map Da.str).length (some ((1 + i : Nat) : Int)) = min (1 + i) (ts.map Da.str).length := by
            unfold HT.sIx
            simp only []
            rw [if_neg (by omega)]
            rfl
          have he : (1 + (i : Nat) : Int) = ((1 + i : Nat) : Int) := by omega
          rw [he, hz, List.length_map]
          omega
        rw [h1, h2, List.drop_zero, Nat.sub_zero, List.map_take]
      · intro z
        have hz := congrArg List.length z
        rw [List.length_take, List.length_nil] at hz
        omega
      · rw [List.length_take]
        omega
    rintro Γ1 ⟨a0, b0, ⟨ha0, hb0⟩, rfl⟩
    refine es_sqP (N := fun Γ1 => ∃ a b : Str, (a ∈ ts ∧ b ∈ ts) ∧ Γ1 = GP q (.dat (.lst (tabL.map Da.str))) (.dat (.lst (ts.map Da.str))) (.ownD (refsD rs)) (.dat (.lst (ys.map Da.str))) (.dat (.int sh)) .no e8 (.dat (.int (1 + (i : Nat)))) (.own [.str a, .str b])) 1 2 (by decide) (es_if (c1 := 1) (c2 := 0) (Pt := fun _ => True) ?_ (fun _ => ?_) (fun _ => es_next ⟨a0, b0, ⟨ha0, hb0⟩, rfl⟩)) ?_
    · refine et_and (c1 := 0) (c2 := 1) (Pa := fun _ => True) ((et_testB (ev_op2 (c1 := 0) (c2 := 0) (ev_var rfl) ev_int (rv_I0B (q := fun i j => decide (j < i))))).weak (Nat.le_refl _) fun _ _ => trivial) (fun _ => ?_) (fun _ => trivial)
      exact et_test ((ev_op (c1 := 1) (c2 := 0) (P1 := fun d => ∃ k : Int, d = .int k) (P2 := (· = .int 0)) (ev_callE (c1 := 0) (c2 := 1) (ea_cons2 (c1 := 0) (c2 := 0) (ev_var rfl) (ea_cons2 (c1 := 0) (c2 := 0) ev_int ea_nil)) (hN 3 _ (by decide) (by decide) (fun k _ _ => ⟨k, rfl⟩))) ev_int (fun d1 d2 ⟨k, e1⟩ e2 => by
        subst e1 e2
        exact rv_eqF (w1 := .int k) (w2 := .int 0) rfl rfl rfl ⟨_, rfl, trivial⟩)))
    · refine es_freeze (i := 10) rfl (es_asgF (P := (· = [.str b0, .str a0])) ((evF_rev (c := 0) (Pd := (· = [.str a0, .str b0])) ((ev_var rfl).imp fun d e => ⟨_, e, rfl⟩)).weak (Nat.le_refl _) fun es ⟨ds, e1, e2⟩ => by rw [e2, e1]; rfl) (fun ds e => ⟨b0, a0, ⟨hb0, ha0⟩, by rw [e]; rfl⟩))
    rintro Γ1 ⟨a, b, ⟨ha, hb⟩, rfl⟩
    refine es_freeze (i := 10) rfl ?_
    show Es W _ (GP q (.dat (.lst (tabL.map Da.str))) (.dat (.lst (ts.map Da.str))) (.ownD (refsD rs)) (.dat (.lst (ys.map Da.str))) (.dat (.int sh)) .no e8 (.dat (.int (1 + (i : Nat)))) (.dat (.lst [.str a, .str b]))) 2 _
    refine es_sqP (N := fun Γ1 => ∃ kd : Str, (kd = "many" ∨ kd = "single") ∧ Γ1 = GP q (.dat (.lst (tabL.map Da.str))) (.dat (.lst (ts.map Da.str))) (.ownD (refsD rs)) (.dat (.lst (ys.map Da.str))) (.dat (.int sh)) .no (.dat (.str kd)) (.dat (.int (1 + (i : Nat)))) (.dat (.lst [.str a, .str b]))) 1 1 (by decide) (es_asgW (Q := fun d => ∃ kd : Str, (kd = "many" ∨ kd = "single") ∧ d = .str kd) 1 (by decide) ?_ (fun d ⟨kd, h, e⟩ => ⟨kd, h, by rw [e]; rfl⟩)) ?_
    · have hst : ∃ k : Int, (k = 1 ∨ k = -1) ∧ atI [Da.int 1, .int 1, .int (-1), .int 1] sh = some (.int k) := by
        have : sh = 1 ∨ sh = 2 ∨ sh = 3 := by omega
        rcases this with rfl | rfl | rfl
        · exact ⟨1, Or.inl rfl, rfl⟩
        · exact ⟨-1, Or.inr rfl, rfl⟩
        · exact ⟨1, Or.inl rfl, rfl⟩
      obtain ⟨k, hk, hat⟩ := hst
      refine ev_pickT (ts := ts) (c := 0) hP rfl ((evF_step (c1 := 0) (c2 := 0) (ds := (["many", "many", "many", "single"] : List Str).map Da.str) hk (evF_lst (c := 0) (ea_lits ["many", "many", "many", "single"]) (fun ds e => by rw [e]; decide)).ev' (ev_op2 (c1 := 0) (c2 := 0) (evF_lst (c := 0) (ea_cons2 (c1 := 0) (c2 := 0) ev_int (ea_cons2 (c1 := 0) (c2 := 0) ev_int (ea_cons2 (c1 := 0) (c2 := 0) (ev_neg ev_int) (ea_cons2 (c1 := 0) (c2 := 0) ev_int ea_nil)))) (fun ds e => by rw [e]; simp)).ev' (ev_var rfl) (rv_ixL hat rfl))).ev'.imp fun d e => ?_)
      have hml : ∀ x ∈ (["many", "many", "many", "single"] : List Str), x = "many" ∨ x = "single" := fun x hx => by
        simp only [List.mem_cons, List.not_mem_nil, or_false] at hx
        rcases hx with h | h | h | h
        · exact Or.inl h
        · exact Or.inl h
        · exact Or.inl h
        · exact Or.inr h
      rcases hk with rfl | rfl
      · exact ⟨["many", "many", "many", "single"], by rw [e, if_pos rfl], by decide, by decide, fun x hx => ⟨x, hml x hx, rfl⟩⟩
      · exact ⟨(["many", "many", "many", "single"] : List Str).reverse, by rw [e, if_neg (by decide), List.map_reverse], by decide, by decide, fun x hx => ⟨x, hml x (List.mem_reverse.mp hx), rfl⟩⟩
    rintro Γ1 ⟨kd, hkd, rfl⟩
    have hyl : 1 + i < ys.length := by omega
    have hyg : ys[1 + i]? = some ys[1 + i] := List.getElem?_eq_getElem hyl
    generalize hla : ys[1 + i] = la at hyg
    have htake : ys.take (1 + (i + 1)) = ys.take (1 + i) ++ [la] := by
      rw [show 1 + (i + 1) = (1 + i) + 1 by omega, List.take_succ, hyg]
      rfl
    have hnew : la ∉ rs.map (·.1) := fun z => by
      have z2 := hsub la z
      obtain ⟨j, hj⟩ := List.mem_iff_getElem?.mp z2
      have hij : j < 1 + i := by
        have := (List.getElem?_eq_some_iff.mp hj).1
        rw [List.length_take] at this
        omega
      rw [List.getElem?_take_of_lt hij] at hj
      exact absurd ((List.getElem?_inj (List.getElem?_eq_some_iff.mp hj).1 hynd).mp (hj.trans hyg.symm)) (by omega)
    refine es_if (c1 := 1) (c2 := 0) (Pt := fun _ => True) ?_ (fun _ => ?_) (fun _ => es_next ⟨rs, _, _, _, ⟨hnd, fun l hl => by rw [htake]; exact List.mem_append_left _ (hsub l hl), by omega, hrs⟩, rfl⟩)
    · exact et_test ((ev_op (c1 := 1) (c2 := 0) (P1 := fun d => ∃ k : Int, d = .int k) (P2 := (· = .int 0)) (ev_callE (c1 := 0) (c2 := 1) (ea_cons2 (c1 := 0) (c2 := 0) (ev_var rfl) (ea_cons2 (c1 := 0) (c2 := 0) ev_int ea_nil)) (hN 8 _ (by decide) (by decide) (fun k _ _ => ⟨k, rfl⟩))) ev_int (fun d1 d2 ⟨k, e1⟩ e2 => by
        subst e1 e2
        exact rv_I0 (gd := fun i j => .bl (decide (j < i))) (fun _ _ => dBl.mpr rfl) ⟨_, rfl, trivial⟩)))
    · have hlg : (ys.map Da.str)[1 + i]? = some (.str la) := by rw [List.getElem?_map, hyg]; rfl
      refine (es_dput (i := 4) (c1 := 0) (c2 := 0) (es := refsD rs) rfl (P := (· = .tup [.str a, .str b, .str kd])) (Pk := (· = Sum.inr la)) ?_ ((ev_op2 (c1 := 0) (c2 := 0) (P := (· = .str la)) (ev_var rfl) (ev_var rfl) (rv_ixL (d := .str la) (atI_of (by omega) (by rw [show ((1 : Int) + (i : Nat)).toNat = 1 + i by omega]; exact hlg)) rfl)).imp fun d e => ⟨Sum.inr la, e, rfl⟩) (by unfold refsD; rw [List.length_map]; omega) (fun d k e1 e2 => ?_)).weak (by decide)
      · exact (ev_tup (c := 0) (P := (· = [.str a, .str b, .str kd])) (ea_cons2 (c1 := 0) (c2 := 0) (ev_op2 (c1 := 0) (c2 := 0) (ev_var rfl) ev_int (rv_ixL rfl rfl)) (ea_cons2 (c1 := 0) (c2 := 0) (ev_op2 (c1 := 0) (c2 := 0) (ev_var rfl) ev_int (rv_ixL rfl rfl)) (ea_cons2 (c1 := 0) (c2 := 0) (ev_var rfl) ea_nil))) (fun ds e => by rw [e]; simp)).imp fun d ⟨ds, e1, e2⟩ => by rw [e1, e2]
      · subst e1
        refine ⟨rs ++ [(la, a, b, kd)], .dat (.str kd), .dat (.int (1 + (i : Nat))), .dat (.lst [.str a, .str b]), ⟨?_, fun l hl => ?_, ?_, fun r hr => ?_⟩, ?_⟩
        · rw [List.map_append]
          refine List.nodup_append.mpr ⟨hnd, by simp, ?_⟩
          intro x hx y hy
          have : y = la := by simpa using hy
          rw [this]
          exact fun z => hnew (by rw [← z]; exact hx)
        · rw [htake]
          rw [List.map_append] at hl
          rcases List.mem_append.mp hl with z | z
          · exact List.mem_append_left _ (hsub l z)
          · exact List.mem_append_right _ z
        · rw [List.length_append, List.length_singleton]
          omega
        · rcases List.mem_append.mp hr with z | z
          · exact hrs r z
          · rw [List.mem_singleton.mp z]
            exact ⟨ha, hb, hkd⟩
        · rw [e2, show (Da.tup [.str a, .str b, .str kd]) = endsD (la, a, b, kd) from rfl, show (Sum.inr la : Key) = Sum.inr (la, a, b, kd).1 from rfl, put_ref hnew]
          rfl
  · rintro ds Γ1 rfl ⟨rs, e8, e9, e10, ⟨hnd, hsub, hle, hrs⟩, rfl⟩
    rw [rngD_len] at hle
    exact ⟨rs, e8, e9, e10, ⟨⟨names_all tab_ok.1 htm, htd, ht1, ht5, names_all lab_ok.1 (fun x hx => hperm.mem_iff.mp (List.mem_of_mem_take (hsub x hx))), hnd, by omega, hrs⟩, fun r hr => hperm.mem_iff.mp (List.mem_of_mem_take (hsub _ (List.mem_map.mpr ⟨r, hr, rfl⟩)))⟩, rfl⟩
  · rintro ds rfl
    rw [rngD_len]
    omega
  rintro Γ1 ⟨rs, e8, e9, e10, hPt, rfl⟩
  refine es_freezeD (i := 4) rfl ?_
  exact es_ret (c := 0) (ev_tup (P := (· = [.lst (ts.map Da.str), .dct (refsD rs)])) (ea_cons2 (c1 := 0) (c2 := 0) (ev_var rfl) (ea_cons2 (c1 := 0) (c2 := 0) (ev_var rfl) ea_nil)) (fun ds e => by rw [e]; simp)) (fun d ⟨ds, e1, e2⟩ => by rw [e1, e2]; exact hp ts rs hPt.1 hPt.2)
end
end P23
set_option Elab.async false
set_option linter.all false
set_option maxRecDepth 100000
set_option maxHeartbeats 4000000
/-! E23: is_ring -/
namespace P23
open PySem L2 TL WJ LamX
def t_is_ring (K : PySem.W.Frag) (sp_is_step : Sp) (sp_may_follow : Sp) (sp_need_schema : Sp) (E : XK) : TS :=
  (tSeq (tDrop (tCallS sp_need_schema (WE fun cls d _ H => E cls d H) (tCons (tVar 0) tNil)))
    (tSeq (tIfS (tOr (tNot (tB (tCB (rIsiA K) (tCons (tVar 1) (tCons (tTup (tCons (tC (.ty "list")) (tCons (tC (.ty "tuple")) tNil))) tNil))))) (tOr (tTest (tOp (rEqA K) (tCB (rLenA K) (tCons (tVar 1) tNil)) (tC (.int 0)))) (tNot (tB (tCB (rAll K) (tCons (tLc (iSeq K (tVar 1)) (gName 3) tYes (tCall sp_is_step [] E0 (tCons (tVar 0) (tCons (tVar 3) tNil))) [3]) tNil))))))
    (tRet (tC (.bl false)))
    tNext)
    (tSeq (tAsg (tCB (rListA K) (tCons (tVar 1) tNil)) (gName 2))
    (tSeq (tIfS (tB (tCB (rAny K) (tCons (tLc (iEnum K (tCons (tVar 2) tNil)) (gTup K 2 (gCons (gName 4) (gCons (gName 3) gNil))) tYes (tOp (rInX K) (tVar 3) (tSl (rSlA K) (tVar 2) tNoPart (tPart (tVar 4)))) [4, 3]) tNil)))
    (tRet (tC (.bl false)))
    tNext)
    (tRet (tCB (rAll K) (tCons (tLc (iZip K (tCons (tVar 2) (tCons (tOp (rAddA K) (tSl (rSlA K) (tVar 2) (tPart (tC (.int 1))) tNoPart) (tSl (rSlA K) (tVar 2) tNoPart (tPart (tC (.int 1))))) tNil))) (gTup K 2 (gCons (gName 5) (gCons (gName 6) gNil))) tYes (tCall sp_may_follow [] E0 (tCons (tVar 0) (tCons (tVar 5) (tCons (tVar 6) tNil)))) [5, 6]) tNil)))))))
section
variable {K : PySem.W.Frag} {W : Wd K} {Γ : List En} {c c0 c1 c2 : Nat} {te ti ta tb : TE} {tt : TT}
/-- a comprehension over items of any kind -/
theorem evF_mapX {α : Type} {wi : TI} {g : TG} {vs : List Nat} {cb n : Nat} {as : List α} {it out : α → Da} (hi : Ei W wi Γ c0 (· = as.map it)) (he : ∀ a ∈ as, ∃ Γ', Eg W g vs (it a) (wipeE Γ vs) Γ' ∧ Ev W te Γ' cb (· = out a)) (hn : as.length ≤ n) (hz : n ≤ 100000) :
    EvF W (tLc wi g tYes te vs) Γ (c0 + n * cb) (· = as.map out) := by
  refine (evF_lc (n := n) (R := fun _ j acc => acc = (as.take j).map out) hi (fun ds h => by simp) (fun ds' j d acc h hj ha => ?_) (fun ds' h => by rw [h, List.length_map]; exact hn) hz).weak (Nat.le_refl _) (fun acc ⟨ds', h1, h2⟩ => by rw [h2, h1, List.length_map, List.take_length])
  subst h
  rw [List.getElem?_map] at hj
  cases ea : as[j]? with
  | none => rw [ea] at hj; cases hj
  | some a =>
    rw [ea] at hj
    cases hj
    obtain ⟨Γ', h1, h2⟩ := he a (List.mem_of_getElem? ea)
    refine ⟨Γ', fun b => b = true, 0, cb, h1, by omega, et_yes rfl, fun _ => h2.imp fun e q => ?_, fun z => by cases z⟩
    rw [ha, q, List.take_succ, ea, List.map_append]
    rfl
theorem evF_filX {α : Type} {wi : TI} {g : TG} {vs : List Nat} {ct ce n : Nat} {as : List α} {it out : α → Da} {t : α → Bool} (hi : Ei W wi Γ c0 (· = as.map it)) (he : ∀ a ∈ as, ∃ Γ', Eg W g vs (it a) (wipeE Γ vs) Γ' ∧ EvT W tt Γ' ct (· = t a) ∧ Ev W te Γ' ce (· = out a)) (hn : as.length ≤ n) (hz : n ≤ 100000) :
    EvF W (tLc wi g tt te vs) Γ (c0 + n * (ct + ce)) (· = (as.filter t).map out) := by
  refine (evF_lc (n := n) (R := fun _ j acc => acc = ((as.take j).filter t).map out) hi (fun ds h => by simp) (fun ds' j d acc h hj ha => ?_) (fun ds' h => by rw [h, List.length_map]; exact hn) hz).weak (Nat.le_refl _) (fun acc ⟨ds', h1, h2⟩ => by rw [h2, h1, List.length_map, List.take_length])
  subst h
  rw [List.getElem?_map] at hj
  cases ea : as[j]? with
  | none => rw [ea] at hj; cases hj
  | some a =>
    rw [ea] at hj
    cases hj
    obtain ⟨Γ', h1, h2, h3⟩ := he a (List.mem_of_getElem? ea)
    refine ⟨Γ', fun b => b = t a, ct, ce, h1, Nat.le_refl _, h2, fun z => h3.imp fun e q => ?_, fun z => ?_⟩
    · rw [ha, q, List.take_succ, ea]
      simp [List.filter_append, ← z]
    · rw [ha, List.take_succ, ea]
      simp [List.filter_append, ← z]
/-- xs[:k], xs[k:] -/
theorem evF_to {ds : List Da} {k : Nat} (h : Ev W te Γ c1 (· = .lst ds)) (hi : Ev W ti Γ c2 (· = .int (k : Nat))) : EvF W (tSl (rSlA K) te tNoPart (tPart ti)) Γ (c1 + 0 + c2) (· = ds.take k) :=
  (evF_slL (Pd := (· = ds)) (h.imp fun d e => ⟨_, e, rfl⟩) eo_none (eo_int hi)).weak (Nat.le_refl _) fun es ⟨xs, lo, hi, e1, e2, e3, e4⟩ => by
    rw [e4, e1, e2, e3]
    unfold cutD
    rw [HT.sIx_none, HT.sIx_nat, List.drop_zero, Nat.sub_zero]
    by_cases hk : k ≤ ds.length
    · rw [Nat.min_eq_left hk]
    · rw [Nat.min_eq_right (by omega), List.take_length, List.take_of_length_le (by omega)]
theorem evF_from {ds : List Da} {k : Nat} (h : Ev W te Γ c1 (· = .lst ds)) (hi : Ev W ti Γ c2 (· = .int (k : Nat))) : EvF W (tSl (rSlA K) te (tPart ti) tNoPart) Γ (c1 + c2 + 0) (· = ds.drop k) :=
  (evF_slL (Pd := (· = ds)) (h.imp fun d e => ⟨_, e, rfl⟩) (eo_int hi) eo_none).weak (Nat.le_refl _) fun es ⟨xs, lo, hi, e1, e2, e3, e4⟩ => by
    rw [e4, e1, e2, e3]
    unfold cutD
    rw [HT.sIx_none, HT.sIx_nat]
    by_cases hk : k ≤ ds.length
    · rw [Nat.min_eq_left hk]
      exact List.take_of_length_le (by rw [List.length_drop]; exact Nat.le_refl _)
    · rw [Nat.min_eq_right (by omega), Nat.sub_self, List.take_zero, List.drop_eq_nil_of_le (by omega)]
end
/-! ### what is a ring -/
def kS (s : St2) : Str × Str := (s.1.1, wayS s.2)
theorem eqv_kS (a b : St2) : PyData.eqv (stD a).py (stD b).py = decide (kS a = kS b) := by
  have h : ∀ s : St2, (stD s).py = .tuple [.str s.1.1, .str (wayS s.2)] := fun s => by
    unfold stD Da.py pys Da.py pys Da.py pys
    rfl
  rw [h, h]
  show ((a.1.1 == b.1.1) && ((wayS a.2 == wayS b.2) && true)) = decide (kS a = kS b)
  unfold kS
  rw [Bool.eq_iff_iff]
  simp
theorem py_strI {y : Da} {n : Str} (h : y.py = .str n) : y = .str n := by
  cases y <;> (unfold Da.py at h) <;> first | (injection h with h; rw [h]) | (exact PyData.noConfusion h)
theorem eqv_strI {n : Str} {y : PyData} (h : PyData.eqv (.str n) y = true) : y = .str n := by
  cases y <;> first | (have h2 : (n == _) = true := h; rw [eq_of_beq h2]) | (exact Bool.noConfusion h)
theorem step_of {rs : List Rf} {x : Da} (h : isStepB rs x = true) : ∃ s ∈ everyR rs, x = stD s := by
  cases x with
  | tup xs =>
    have h2 : inSt rs (.tup xs) = true := h
    unfold inSt at h2
    obtain ⟨s, hs, he⟩ := List.any_eq_true.mp h2
    refine ⟨s, hs, ?_⟩
    have hp : (stD s).py = .tuple [.str s.1.1, .str (wayS s.2)] := by
      unfold stD Da.py pys Da.py pys Da.py pys
      rfl
    rw [hp] at he
    unfold Da.py at he
    match xs, he with
    | [], he => unfold pys at he; exact Bool.noConfusion he
    | [y], he =>
      unfold pys pys at he
      have h3 : (PyData.eqv (.str s.1.1) y.py && false) = true := he
      rw [Bool.and_false] at h3
      cases h3
    | [y, z], he =>
      unfold pys pys pys at he
      have h3 : (PyData.eqv (.str s.1.1) y.py && (PyData.eqv (.str (wayS s.2)) z.py && true)) = true := he
      rw [Bool.and_true, Bool.and_eq_true] at h3
      rw [py_strI (eqv_strI h3.1), py_strI (eqv_strI h3.2)]
      rfl
    | y :: z :: u :: r, he =>
      unfold pys pys pys at he
      have h3 : (PyData.eqv (.str s.1.1) y.py && (PyData.eqv (.str (wayS s.2)) z.py && false)) = true := he
      rw [Bool.and_false, Bool.and_false] at h3
      cases h3
  | _ => exact Bool.noConfusion h
theorem steps_all {rs : List Rf} : ∀ {xs : List Da}, (∀ x ∈ xs, isStepB rs x = true) → ∃ l : List St2, xs = l.map stD ∧ ∀ s ∈ l, s ∈ everyR rs
  | [], _ => ⟨[], rfl, fun s hs => nomatch hs⟩
  | x :: xs, h => by
    obtain ⟨s, hs, rfl⟩ := step_of (h x List.mem_cons_self)
    obtain ⟨l, rfl, hl⟩ := steps_all (xs := xs) fun y hy => h y (List.mem_cons_of_mem _ hy)
    refine ⟨s :: l, rfl, fun t ht => ?_⟩
    rcases List.mem_cons.mp ht with rfl | z
    · exact hs
    · exact hl t z
theorem map_stD_inj {rs : List Rf} (hd : (rs.map fun r => r.1).Nodup) : ∀ {l l' : List St2}, (∀ s ∈ l, s ∈ everyR rs) → (∀ s ∈ l', s ∈ everyR rs) → l.map stD = l'.map stD → l = l'
  | [], [], _, _, _ => rfl
  | [], _ :: _, _, _, h => by cases h
  | _ :: _, [], _, _, h => by cases h
  | a :: l, b :: l', h1, h2, h => by
    rw [List.map_cons, List.map_cons] at h
    injection h with h3 h4
    rw [stD_inj hd (every_mem (h1 a List.mem_cons_self)) (every_mem (h2 b List.mem_cons_self)) h3, map_stD_inj hd (fun s hs => h1 s (List.mem_cons_of_mem _ hs)) (fun s hs => h2 s (List.mem_cons_of_mem _ hs)) h4]
def turn (l : List St2) : List St2 := l.drop 1 ++ l.take 1
theorem turn_len (l : List St2) : l.length = (turn l).length := by
  unfold turn
  rw [List.length_append, List.length_drop, List.length_take]
  omega
theorem turn_mem {l : List St2} {s : St2} (h : s ∈ turn l) : s ∈ l := by
  unfold turn at h
  rcases List.mem_append.mp h with z | z
  · exact List.mem_of_mem_drop z
  · exact List.mem_of_mem_take z
def okRing (l : List St2) : Bool := decide (l.map kS).Nodup && (l.zip (turn l)).all fun p => mayB p.1 p.2
def RingP (rs : List Rf) (d : Da) : Prop := ∃ l : List St2, (d = .lst (l.map stD) ∨ d = .tup (l.map stD)) ∧ l ≠ [] ∧ (∀ s ∈ l, s ∈ everyR rs) ∧ okRing l = true
noncomputable def ringB (rs : List Rf) (d : Da) : Bool := @decide (RingP rs d) (Classical.propDecidable _)
theorem ringB_no {rs : List Rf} {d : Da} (h : ¬ RingP rs d) : ringB rs d = false := @decide_eq_false _ (Classical.propDecidable _) h
theorem ring_kind {rs : List Rf} {d : Da} {t : String} (hk : d.kind = some t) (h1 : kitB t "list" = some false) (h2 : kitB t "tuple" = some false) : ringB rs d = false := ringB_no fun ⟨l, e, _⟩ => by
  rcases e with rfl | rfl
  · cases hk
    exact absurd h1 (by decide +kernel)
  · cases hk
    exact absurd h2 (by decide +kernel)
theorem ring_seq {rs : List Rf} {xs : List Da} {d : Da} (hd : d = .lst xs ∨ d = .tup xs) (h : xs = [] ∨ ∃ x ∈ xs, isStepB rs x = false) : ringB rs d = false := ringB_no fun ⟨l, e, hn, hs, _⟩ => by
  have ex : xs = l.map stD := by
    rcases hd with rfl | rfl <;> rcases e with e | e <;> first | (injection e) | (cases e)
  rcases h with h | ⟨x, hx, hb⟩
  · rw [h] at ex
    exact hn (List.map_eq_nil_iff.mp ex.symm)
  · rw [ex] at hx
    obtain ⟨s, hsl, rfl⟩ := List.mem_map.mp hx
    rw [step_is (hs s hsl)] at hb
    cases hb
theorem ring_steps {rs : List Rf} {l : List St2} {d : Da} (hr : (rs.map fun r => r.1).Nodup) (hd : d = .lst (l.map stD) ∨ d = .tup (l.map stD)) (hn : l ≠ []) (hs : ∀ s ∈ l, s ∈ everyR rs) : ringB rs d = okRing l := by
  cases ho : okRing l with
  | true => exact @decide_eq_true _ (Classical.propDecidable _) ⟨l, hd, hn, hs, ho⟩
  | false =>
    refine ringB_no fun ⟨l', e, _, hs', ho'⟩ => ?_
    have ex : l.map stD = l'.map stD := by
      rcases hd with rfl | rfl <;> rcases e with e | e <;> first | (injection e) | (cases e)
    rw [map_stD_inj hr hs hs' ex, ho'] at ho
    cases ho
/-- a value that is judged -/
def RingV (K : PySem.W.Frag) (d : Da) : Prop := (∃ t, d.kind = some t ∧ kitB t "list" = some false ∧ kitB t "tuple" = some false) ∨ ∃ xs, (d = .lst xs ∨ d = .tup xs) ∧ xs.length ≤ 30 ∧ ∀ x ∈ xs, ThingOk K x
def inTake (l : List St2) (k : Nat) : Bool := match l[k]? with
  | some s => (l.take k).any fun t => decide (kS t = kS s)
  | none => false
theorem take_nodup (l : List St2) : ((List.range l.length).map (inTake l)).any id = !decide (l.map kS).Nodup := by
  rw [List.any_map, Bool.eq_iff_iff, List.any_eq_true, Bool.not_eq_true', decide_eq_false_iff_not]
  constructor
  · rintro ⟨k, hk, h⟩ hn
    have h2 : inTake l k = true := h
    unfold inTake at h2
    have hkl := List.mem_range.mp hk
    rw [List.getElem?_eq_getElem hkl] at h2
    obtain ⟨t, ht, he⟩ := List.any_eq_true.mp h2
    obtain ⟨i, hi⟩ := List.mem_iff_getElem?.mp ht
    have hik : i < k := by
      have := (List.getElem?_eq_some_iff.mp hi).1
      rw [List.length_take] at this
      omega
    rw [List.getElem?_take_of_lt hik] at hi
    have h1 : (l.map kS)[i]? = some (kS t) := by rw [List.getElem?_map, hi]; rfl
    have h3 : (l.map kS)[k]? = some (kS l[k]) := by rw [List.getElem?_map, List.getElem?_eq_getElem hkl]; rfl
    rw [of_decide_eq_true he] at h1
    exact absurd ((List.getElem?_inj (List.getElem?_eq_some_iff.mp h1).1 hn).mp (h1.trans h3.symm)) (by omega)
  · intro hn
    obtain ⟨a, x, b, e, hx⟩ := twice_of hn
    obtain ⟨j, hj⟩ := List.mem_iff_getElem?.mp hx
    have hlen : (l.map kS).length = a.length + 1 + b.length := by rw [e, List.length_append, List.length_cons]; omega
    rw [List.length_map] at hlen
    have hjb := (List.getElem?_eq_some_iff.mp hj).1
    have hk : a.length + 1 + j < l.length := by omega
    have ha : a.length < l.length := by omega
    have e1 : (l.map kS)[a.length]? = some x := by rw [e, List.getElem?_append_right (Nat.le_refl _), Nat.sub_self]; rfl
    have e2 : (l.map kS)[a.length + 1 + j]? = some x := by
      rw [e, List.getElem?_append_right (by omega), show a.length + 1 + j - a.length = j + 1 by omega, List.getElem?_cons_succ]
      exact hj
    rw [List.getElem?_map, List.getElem?_eq_getElem ha] at e1
    rw [List.getElem?_map, List.getElem?_eq_getElem hk] at e2
    refine ⟨a.length + 1 + j, List.mem_range.mpr hk, ?_⟩
    show inTake l (a.length + 1 + j) = true
    unfold inTake
    rw [List.getElem?_eq_getElem hk]
    refine List.any_eq_true.mpr ⟨l[a.length], ?_, ?_⟩
    · refine List.mem_of_getElem? (i := a.length) ?_
      rw [List.getElem?_take_of_lt (by omega), List.getElem?_eq_getElem ha]
    · exact decide_eq_true ((Option.some.inj e1).trans (Option.some.inj e2).symm)
end P23
set_option Elab.async false
set_option linter.all false
set_option maxRecDepth 100000
set_option maxHeartbeats 4000000
/-! F23: is_ring, _law_is_ring over data -/
namespace P23
open PySem L2 TL WJ LamX
section
variable {K : PySem.W.Frag} {W : Wd K} {Γ : List En} {p : Po} {c c1 c2 : Nat} {ta tb te : TE} {E : XK} {X : Value → List (Str × Da) → Prop}
theorem et_eqI {i j : Int} (ha : Ev W ta Γ c1 (· = .int i)) (hb : Ev W tb Γ c2 (· = .int j)) : EvT W (tTest (tOp (rEqA K) ta tb)) Γ (c1 + c2) (· = decide (i = j)) :=
  et_testB (ev_op2 ha hb (rv_eqF (w1 := .int i) (w2 := .int j) rfl rfl rfl (by congr 1; exact decide_eq_decide.mpr ⟨fun e => by injection e, fun e => by rw [e]⟩)))
theorem seq_of {d : Da} {xs : List Da} (h : d = .lst xs ∨ d = .tup xs) : seqD d = some xs := by
  rcases h with rfl | rfl <;> rfl
theorem ev_seqi {d : Da} {xs : List Da} {i : Nat} (hd : d = .lst xs ∨ d = .tup xs) (hi : Γ[i]? = some (.dat d)) : Ev W (tCB (rIsiA K) (tCons (tVar i) (tCons (tTup (tCons (tC (.ty "list")) (tCons (tC (.ty "tuple")) tNil))) tNil))) Γ 0 (· = .bl true) :=
  ev_isi2 (Px := (· = d)) (ev_var hi) (fun x e => by
    rw [e]
    rcases hd with rfl | rfl
    · exact ⟨"list", true, false, rfl, rfl, rfl, rfl⟩
    · exact ⟨"tuple", false, true, rfl, rfl, rfl, rfl⟩)
theorem ev_lens {d : Da} {xs : List Da} {i : Nat} (hd : d = .lst xs ∨ d = .tup xs) (hl : xs.length ≤ 30) (hi : Γ[i]? = some (.dat d)) : Ev W (tCB (rLenA K) (tCons (tVar i) tNil)) Γ 0 (· = .int xs.length) :=
  ev_cbE (ea_cons2 (c1 := 0) (c2 := 0) (ev_var hi) ea_nil) (rc_len (seq_of hd) (by omega) rfl)
theorem et_noseq {d : Da} {i : Nat} {t : String} {tu : TT} (hk : d.kind = some t) (h1 : kitB t "list" = some false) (h2 : kitB t "tuple" = some false) (hi : Γ[i]? = some (.dat d)) : EvT W (tOr (tNot (tB (tCB (rIsiA K) (tCons (tVar i) (tCons (tTup (tCons (tC (.ty "list")) (tCons (tC (.ty "tuple")) tNil))) tNil))))) tu) Γ 0 (· = true) :=
  et_or (c1 := 0) (c2 := 0) (Pa := (· = true)) (et_notB (a := false) (et_BB (ev_isi2 (Px := (· = d)) (ev_var hi) (fun x e => by rw [e]; exact ⟨t, false, false, hk, h1, h2, rfl⟩)))) (fun z => by cases z) (fun _ => rfl)
theorem steps_cmp {rs : List Rf} {l : List St2} (ho : ∀ r ∈ rs, okS r.1 = true) (hs : ∀ s ∈ l, s ∈ everyR rs) : okL (l.map stD) := okL_all fun d hd => by
  obtain ⟨s, hsl, rfl⟩ := List.mem_map.mp hd
  exact st_cmp (ho _ (every_mem (hs s hsl)))
theorem zip_steps (l l' : List St2) : zipD (l.map stD) (l'.map stD) = (l.zip l').map fun p => .tup [stD p.1, stD p.2] := by
  unfold zipD
  rw [List.zip_map, List.map_map]
  rfl
theorem enum_steps (l : List St2) : enumD (l.map stD) = (List.range l.length).map fun k => .tup [.int (k : Nat), ((l[k]?).map stD).getD .non] := by
  refine List.ext_getElem? fun i => ?_
  unfold enumD
  rw [List.getElem?_mapIdx, List.getElem?_map, List.getElem?_map]
  by_cases hi : i < l.length
  · rw [List.getElem?_eq_getElem hi, List.getElem?_range hi]
    simp [List.getElem?_eq_getElem hi]
  · rw [List.getElem?_eq_none (by omega), List.getElem?_eq_none (by rw [List.length_range]; omega)]
    rfl
/-- xs[1:] + xs[:1] -/
theorem evF_turn {l : List St2} {i : Nat} (hl : l.length ≤ 30) (hi : Γ[i]? = some (.dat (.lst (l.map stD)))) : EvF W (tOp (rAddA K) (tSl (rSlA K) (tVar i) (tPart (tC (.int 1))) tNoPart) (tSl (rSlA K) (tVar i) tNoPart (tPart (tC (.int 1))))) Γ 0 (· = (turn l).map stD) := by
  have h := evF_addL (W := W) (Γ := Γ) (c1 := 0) (c2 := 0) (evF_from (c1 := 0) (c2 := 0) (k := 1) (ev_var hi) ev_int).ev' (evF_to (c1 := 0) (c2 := 0) (k := 1) (ev_var hi) ev_int).ev' (by rw [List.length_drop, List.length_take, List.length_map]; omega)
  refine h.weak (Nat.le_refl _) fun ds e => ?_
  rw [e]
  unfold turn
  rw [List.map_append, List.map_drop, List.map_take]
abbrev GI (s d : Da) (e2 : En) : List En := [.dat s, .dat d, e2, .no, .no, .no, .no]
theorem esX_is_ring {spI spM : Sp} {ts : List Str} {rs : List Rf} {d : Da} (hI : IsStepOk W spI) (hM : MayOk W spM) (hr : (rs.map fun r => r.1).Nodup) (h6 : rs.length ≤ 6) (ho : ∀ r ∈ rs, okS r.1 = true) (hv : RingV K d) (hp : p.rt (.bl (ringB rs d))) :
    EsX W (t_is_ring K spI spM (spY (needC K) (needR K)) E) (GI (.ins (He.ga K "Schema") (schF ts rs)) d .no) 0 p E X := by
  refine esX_seq (N := (· = GI (.ins (He.ga K "Schema") (schF ts rs)) d .no)) 0 0 (Nat.le_refl _) (es_needcall rfl rfl) (fun Γ' e => ?_)
  rw [e]
  refine Es.x ?_
  rcases hv with ⟨t, hk, h1, h2⟩ | ⟨xs, hx, hl, ht⟩
  · rw [ring_kind hk h1 h2] at hp
    exact es_sqP (N := fun _ => False) 0 0 (Nat.le_refl _) (es_ifW (b := true) 0 0 (Nat.le_refl _) (et_noseq hk h1 h2 rfl) (fun _ => es_retE ev_bl hp) (fun z => by cases z)) (fun _ z => z.elim)
  have hall : Ev W (tCB (rAll K) (tCons (tLc (iSeq K (tVar 1)) (gName 3) tYes (tCall spI [] E0 (tCons (tVar 0) (tCons (tVar 3) tNil))) [3]) tNil)) (GI (.ins (He.ga K "Schema") (schF ts rs)) d .no) 0 (· = .bl ((xs.map (isStepB rs)).all id)) := by
    have hm := evF_mapX (W := W) (Γ := GI (.ins (He.ga K "Schema") (schF ts rs)) d .no) (c0 := 0) (cb := 0) (n := 30) (wi := iSeq K (tVar 1)) (g := gName 3) (vs := [3]) (te := tCall spI [] E0 (tCons (tVar 0) (tCons (tVar 3) tNil))) (as := xs) (it := fun x => x) (out := fun x => .bl (isStepB rs x))
      (ei_seq (P := (· = xs.map fun x => x)) (by
        rcases hx with rfl | rfl
        · exact Or.inl (ev_var rfl)
        · exact Or.inr (ev_var rfl)) (by rw [List.map_id']))
      (fun x hxm => ⟨_, eg_name, ev_callE (c1 := 0) (c2 := 0) (ea_cons2 (c1 := 0) (c2 := 0) (ev_var rfl) (ea_cons2 (c1 := 0) (c2 := 0) (ev_var rfl) ea_nil)) (hI ts rs x h6 ho (ht x hxm))⟩) hl (by decide)
    refine (ev_cb (c := 0) (Pa := (· = [.lst ((xs.map (isStepB rs)).map Da.bl)])) (ea_cons2 (c1 := 0) (c2 := 0) ((hm.weak (by decide) fun ds e => e).ev.imp fun d ⟨ds, e1, e2⟩ => ?_) ea_nil) (fun ds e => by rw [e]; exact rc_all rfl))
    rw [e1, e2, List.map_map]
    rfl
  have htest := et_orB (c1 := 0) (c2 := 0) (W := W) (Γ := GI (.ins (He.ga K "Schema") (schF ts rs)) d .no) (et_notB (et_BB (ev_seqi hx (i := 1) rfl))) (fun _ => et_orB (c1 := 0) (c2 := 0) (et_eqI (j := 0) (c1 := 0) (c2 := 0) (ev_lens hx hl (i := 1) rfl) ev_int) (fun _ => et_notB (et_BB hall)))
  refine es_sqP (N := fun Γ1 => (xs ≠ [] ∧ ∀ x ∈ xs, isStepB rs x = true) ∧ Γ1 = GI (.ins (He.ga K "Schema") (schF ts rs)) d .no) 0 0 (Nat.le_refl _) (es_ifW 0 0 (Nat.le_refl _) htest (fun z => ?_) (fun z => es_next ?_)) ?_
  · have hno : xs = [] ∨ ∃ x ∈ xs, isStepB rs x = false := by
      by_cases h0 : xs = []
      · exact Or.inl h0
      · right
        have h1 : ¬ ((xs.length : Int) = 0) := fun z => h0 (List.length_eq_zero_iff.mp (by omega))
        rw [decide_eq_false h1] at z
        have h2 : (xs.map (isStepB rs)).all id = false := by simpa using z
        obtain ⟨b, hb, hb2⟩ := List.all_eq_false.mp h2
        obtain ⟨x, hxm, rfl⟩ := List.mem_map.mp hb
        exact ⟨x, hxm, by simpa using hb2⟩
    rw [ring_seq hx hno] at hp
    exact es_retE ev_bl hp
  · rw [Bool.or_eq_false_iff, Bool.or_eq_false_iff] at z
    obtain ⟨_, z2, z3⟩ := z
    refine ⟨⟨fun h0 => ?_, fun x hxm => ?_⟩, rfl⟩
    · rw [h0] at z2
      exact absurd z2 (by decide)
    · have h2 : (xs.map (isStepB rs)).all id = true := by simpa using z3
      exact List.all_eq_true.mp h2 _ (List.mem_map.mpr ⟨x, hxm, rfl⟩)
  rintro Γ1 ⟨⟨hne, hst⟩, rfl⟩
  obtain ⟨l, rfl, hs⟩ := steps_all hst
  rw [List.length_map] at hl
  have hln : l ≠ [] := fun z => hne (by rw [z]; rfl)
  rw [ring_steps hr hx hln hs] at hp
  refine es_sq (Γ' := GI (.ins (He.ga K "Schema") (schF ts rs)) d (.own (l.map stD))) 0 0 (Nat.le_refl _) (es_asgFE (evF_cb (c := 0) (ea_cons2 (c1 := 0) (c2 := 0) (ev_var rfl) ea_nil) (fun ds e => by rw [e]; exact rcF_list (seq_of hx) (by rw [List.length_map]; omega) rfl)) rfl) ?_
  refine es_freeze (i := 2) rfl ?_
  show Es W _ (GI (.ins (He.ga K "Schema") (schF ts rs)) d (.dat (.lst (l.map stD)))) 0 p
  have hany : Ev W (tCB (rAny K) (tCons (tLc (iEnum K (tCons (tVar 2) tNil)) (gTup K 2 (gCons (gName 4) (gCons (gName 3) gNil))) tYes (tOp (rInX K) (tVar 3) (tSl (rSlA K) (tVar 2) tNoPart (tPart (tVar 4)))) [4, 3]) tNil)) (GI (.ins (He.ga K "Schema") (schF ts rs)) d (.dat (.lst (l.map stD)))) 0 (· = .bl (!decide (l.map kS).Nodup)) := by
    have hm := evF_mapX (W := W) (Γ := GI (.ins (He.ga K "Schema") (schF ts rs)) d (.dat (.lst (l.map stD)))) (c0 := 0) (cb := 0) (n := 30) (wi := iEnum K (tCons (tVar 2) tNil)) (g := gTup K 2 (gCons (gName 4) (gCons (gName 3) gNil))) (vs := [4, 3]) (te := tOp (rInX K) (tVar 3) (tSl (rSlA K) (tVar 2) tNoPart (tPart (tVar 4)))) (as := List.range l.length) (it := fun k => .tup [.int (k : Nat), ((l[k]?).map stD).getD .non]) (out := fun k => .bl (inTake l k))
      (ei_enum (c := 0) (ea_cons (c1 := 0) (c2 := 0) (P1 := (· = .lst (l.map stD))) (ev_var rfl) ea_nil (fun d ds e1 e2 => ⟨_, by rw [e1, e2], enum_steps l⟩)))
      (fun k hk => by
        have hkl := List.mem_range.mp hk
        refine ⟨_, eg_pair, ?_⟩
        have hL1 := steps_cmp (l := l.take k) ho (fun s hsm => hs s (List.mem_of_mem_take hsm))
        have hc := st_cmp (ho _ (every_mem (hs l[k] (List.getElem_mem hkl))))
        have hg : ((l[k]?).map stD).getD .non = stD l[k] := by rw [List.getElem?_eq_getElem hkl]; rfl
        rw [hg]
        refine ev_op2 (c1 := 0) (c2 := 0) (ev_var rfl) ((evF_to (c1 := 0) (c2 := 0) (k := k) (ds := l.map stD) (ev_var rfl) (ev_var rfl)).ev'.imp fun d e => by rw [e, ← List.map_take]) (rv_inXp (rv_inDp hc.p hL1.1 (shaped_of hc.c (Nat.le_trans hc.d (by decide))) hL1.2 ?_))
        congr 1
        unfold inTake
        rw [List.getElem?_eq_getElem hkl, List.any_map]
        congr 1
        funext t
        exact eqv_kS t l[k])
      (by rw [List.length_range]; exact hl) (by decide)
    refine (ev_cb (c := 0) (Pa := (· = [.lst (((List.range l.length).map (inTake l)).map Da.bl)])) (ea_cons2 (c1 := 0) (c2 := 0) ((hm.weak (by decide) fun ds e => e).ev.imp fun d ⟨ds, e1, e2⟩ => ?_) ea_nil) (fun ds e => by rw [e]; exact rc_any (by rw [take_nodup])))
    rw [e1, e2, List.map_map]
    rfl
  refine es_sqP (N := fun Γ1 => (l.map kS).Nodup ∧ Γ1 = GI (.ins (He.ga K "Schema") (schF ts rs)) d (.dat (.lst (l.map stD)))) 0 0 (Nat.le_refl _) (es_ifW 0 0 (Nat.le_refl _) (et_BB hany) (fun z => ?_) (fun z => es_next ⟨by simpa using z, rfl⟩)) ?_
  · have h2 : decide (l.map kS).Nodup = false := by simpa using z
    unfold okRing at hp
    rw [h2, Bool.false_and] at hp
    exact es_retE ev_bl hp
  rintro Γ1 ⟨hnd, rfl⟩
  unfold okRing at hp
  rw [decide_eq_true hnd, Bool.true_and] at hp
  have hm := evF_mapX (W := W) (Γ := GI (.ins (He.ga K "Schema") (schF ts rs)) d (.dat (.lst (l.map stD)))) (c0 := 0) (cb := 0) (n := 30) (wi := iZip K (tCons (tVar 2) (tCons (tOp (rAddA K) (tSl (rSlA K) (tVar 2) (tPart (tC (.int 1))) tNoPart) (tSl (rSlA K) (tVar 2) tNoPart (tPart (tC (.int 1))))) tNil))) (g := gTup K 2 (gCons (gName 5) (gCons (gName 6) gNil))) (vs := [5, 6]) (te := tCall spM [] E0 (tCons (tVar 0) (tCons (tVar 5) (tCons (tVar 6) tNil)))) (as := l.zip (turn l)) (it := fun p => .tup [stD p.1, stD p.2]) (out := fun p => .bl (mayB p.1 p.2))
    (by
      rw [← zip_steps]
      exact ei_zip (c := 0) (by rw [List.length_map, List.length_map]; exact turn_len l) (ea_cons2 (c1 := 0) (c2 := 0) (ev_var rfl) (ea_cons2 (c1 := 0) (c2 := 0) (evF_turn hl rfl).ev' ea_nil)))
    (fun q hq => by
      obtain ⟨h1, h2⟩ := List.of_mem_zip hq
      exact ⟨_, eg_pair, ev_callE (c1 := 0) (c2 := 0) (ea_cons2 (c1 := 0) (c2 := 0) (ev_var rfl) (ea_cons2 (c1 := 0) (c2 := 0) (ev_var rfl) (ea_cons2 (c1 := 0) (c2 := 0) (ev_var rfl) ea_nil))) (hM ts rs q.1 q.2 hr (every_mem (hs _ h1)) (every_mem (hs _ (turn_mem h2))))⟩)
    (by rw [List.length_zip, ← turn_len, Nat.min_self]; exact hl) (by decide)
  refine es_retE (d := .bl (((l.zip (turn l)).map fun q => mayB q.1 q.2).all id)) (ev_cb (c := 0) (Pa := (· = [.lst (((l.zip (turn l)).map fun q => mayB q.1 q.2).map Da.bl)])) (ea_cons2 (c1 := 0) (c2 := 0) ((hm.weak (by decide) fun ds e => e).ev.imp fun d ⟨ds, e1, e2⟩ => ?_) ea_nil) (fun ds e => by rw [e]; exact rc_all rfl)) ?_
  · rw [e1, e2, List.map_map]
    rfl
  · rw [List.all_map]
    exact hp
def IsRingOk (W : Wd K) (sp : Sp) : Prop := ∀ (ts : List Str) (rs : List Rf) (d : Da), (rs.map fun r => r.1).Nodup → rs.length ≤ 6 → (∀ r ∈ rs, okS r.1 = true) → RingV K d → Fn W sp [.ins (He.ga K "Schema") (schF ts rs), d] 0 (· = .bl (ringB rs d))
end
end P23
set_option Elab.async false
set_option linter.all false
set_option maxRecDepth 100000
set_option maxHeartbeats 2000000
/-! WkZ9: xs == [], xs != [], whatever the list holds -/
namespace WJ
open PySem PySem.Spec PyProof.Rows L2
def rE0 (K : PySem.W.Frag) (neg : Bool) : R2 := fun x y H Q => ∃ (a b : Addr) (xs : List V), x = .ref a ∧ y = .ref b ∧ SqL K H a xs ∧ SqL K H b [] ∧ Q (.bl (if neg then !xs.isEmpty else xs.isEmpty)) H
def rEqZ (K : PySem.W.Frag) : R2 := fun x y H Q => rEqA K x y H Q ∨ rE0 K false x y H Q
def rNeZ (K : PySem.W.Frag) : R2 := fun x y H Q => rNeA K x y H Q ∨ rE0 K true x y H Q
section
variable {X : Cx}
theorem o_eqZ (K : PySem.W.Frag) (hu : X.A.units + 64 < cLine) (hK : X.K = K := by rfl) : OpR X (compareOp .Eq) (rEqZ K) := orO (o_eq K hu hK) (by
  subst hK
  intro pins s σ H x y v u Q I rx ry h
  obtain ⟨a, b, xs, rfl, rfl, h1, h2, q⟩ := h
  cases rx
  cases ry
  obtain ⟨i1, r1, p1, _⟩ := I.list h1
  obtain ⟨i2, r2, p2, _⟩ := I.list h2
  have e2 : i2 = [] := r2.zero
  subst e2
  have hl := r1.length
  show wpAny (model X.prog X.w) X.A (richCompare .Eq _ _) (EP X pins σ Q) X.xe s
  cases xs with
  | nil =>
    have e1 : i1 = [] := r1.zero
    subst e1
    refine SeqAt.RcAt.lists (e := fun _ => true) p1.isList p2.isList rfl (by omega) (fun j j1 _ => absurd j1 (Nat.not_lt_zero _)) X.prog X.w X.xe _ ?_
    exact ⟨.bl true, H, I, rfl, q⟩
  | cons x xs =>
    refine SeqAt.RcAt.lists_lengths p1.isList p2.isList (by
      have : i1.length ≠ 0 := by rw [← hl, List.length_cons]; omega
      simp only [List.size_toArray, List.length_nil, bne_iff_ne]
      exact this) (by omega) X.prog X.w X.xe _ ?_
    exact ⟨.bl false, H, I, rfl, q⟩)
theorem o_neZ (K : PySem.W.Frag) (hu : X.A.units + 64 < cLine) (hK : X.K = K := by rfl) : OpR X (compareOp .NotEq) (rNeZ K) := orO (o_ne K hu hK) (by
  subst hK
  intro pins s σ H x y v u Q I rx ry h
  obtain ⟨a, b, xs, rfl, rfl, h1, h2, q⟩ := h
  cases rx
  cases ry
  obtain ⟨i1, r1, p1, _⟩ := I.list h1
  obtain ⟨i2, r2, p2, _⟩ := I.list h2
  have e2 : i2 = [] := r2.zero
  subst e2
  have hl := r1.length
  show wpAny (model X.prog X.w) X.A (richCompare .NotEq _ _) (EP X pins σ Q) X.xe s
  cases xs with
  | nil =>
    have e1 : i1 = [] := r1.zero
    subst e1
    refine SeqAt.RcNeAt.lists (e := fun _ => true) p1.isList p2.isList rfl (by omega) (fun j j1 _ => absurd j1 (Nat.not_lt_zero _)) X.prog X.w X.xe _ ?_
    exact ⟨.bl false, H, I, rfl, q⟩
  | cons x xs =>
    refine SeqAt.RcNeAt.lists_lengths p1.isList p2.isList (by
      have : i1.length ≠ 0 := by rw [← hl, List.length_cons]; omega
      simp only [List.size_toArray, List.length_nil, bne_iff_ne]
      exact this) (by omega) X.prog X.w X.xe _ ?_
    exact ⟨.bl true, H, I, rfl, q⟩)
end
section
variable {K : PySem.W.Frag} {W : Wd K} {P : Da → Prop}
theorem e0_parts {B : List Addr} {H : Hp} {v1 v2 : V} {ds : List Da} (h1 : Dat K B H v1 (.lst ds)) (h2 : Dat K B H v2 (.lst [])) {neg : Bool} {Q : VK} (q : Q (.bl (if neg then !ds.isEmpty else ds.isEmpty)) H) : rE0 K neg v1 v2 H Q := by
  unfold Dat at h1 h2
  obtain ⟨a, xs, rfl, s1, t1⟩ := h1
  obtain ⟨b, ys, rfl, s2, t2⟩ := h2
  unfold Dats at t2
  subst t2
  have hl := t1.length
  have he : xs.isEmpty = ds.isEmpty := by
    cases xs <;> cases ds <;> first | rfl | (rw [List.length_cons] at hl; cases hl)
  refine ⟨a, b, xs, rfl, rfl, s1.sq, s2.sq, ?_⟩
  rw [he]
  exact q
theorem rv_eqZ {ds : List Da} : Rv W (rEqZ K) (.lst ds) (.lst []) (· = .bl ds.isEmpty) := fun B H M v1 v2 s h1 h2 Q k => Or.inr (e0_parts (neg := false) h1 h2 (k _ _ H Kp.refl s.dr (dBl.mpr rfl) rfl))
theorem rv_neZ {ds : List Da} : Rv W (rNeZ K) (.lst ds) (.lst []) (· = .bl (!ds.isEmpty)) := fun B H M v1 v2 s h1 h2 Q k => Or.inr (e0_parts (neg := true) h1 h2 (k _ _ H Kp.refl s.dr (dBl.mpr rfl) rfl))
end
end WJ
set_option Elab.async false
set_option linter.all false
set_option maxRecDepth 100000
set_option maxHeartbeats 4000000
/-! G23: _law_is_ring, _law_ring over data -/
namespace P23
open PySem L2 TL WJ LamX
def t__law_is_ring (K : PySem.W.Frag) (sp__law_every : Sp) (sp__law_may : Sp) : TS :=
  (tSeq (tAsg (tCall sp__law_every [] E0 (tCons (tVar 0) tNil)) (gName 2))
    (tSeq (tIfS (tOr (tNot (tB (tCB (rIsiA K) (tCons (tVar 1) (tCons (tTup (tCons (tC (.ty "list")) (tCons (tC (.ty "tuple")) tNil))) tNil))))) (tTest (tOp (rEqA K) (tCB (rLenA K) (tCons (tVar 1) tNil)) (tC (.int 0)))))
    (tRet (tC (.bl false)))
    tNext)
    (tSeq (tFor (iSeq K (tVar 1)) (gName 3)
    (tIfS (tOr (tNot (tB (tCB (rIsiA K) (tCons (tVar 3) (tCons (tC (.ty "tuple")) tNil))))) (tTest (tOp (rNotInX K) (tVar 3) (tVar 2))))
    (tRet (tC (.bl false)))
    tNext))
    (tSeq (tIfS (tTest (tOp (rI0 fun i j => .bl (decide (i < j))) (tLenSetU K (tVar 1)) (tCB (rLenA K) (tCons (tVar 1) tNil))))
    (tRet (tC (.bl false)))
    tNext)
    (tSeq (tAsg (tCB (rListA K) (tCons (tVar 1) tNil)) (gName 4))
    (tSeq (tAsg (tLstZip K (tCons (tVar 4) (tCons (tOp (rAddA K) (tSl (rSlA K) (tVar 4) (tPart (tC (.int 1))) tNoPart) (tSl (rSlA K) (tVar 4) tNoPart (tPart (tC (.int 1))))) tNil))) (gName 5))
    (tRet (tOp (rEqZ K) (tLc (iList K (tVar 5)) (gName 6) (tNot (tB (tCall sp__law_may [] E0 (tCons (tVar 0) (tCons (tOp (rIxA K) (tVar 6) (tC (.int 0))) (tCons (tOp (rIxA K) (tVar 6) (tC (.int 1))) tNil)))))) (tVar 6) [6]) (tLst tNil)))))))))
def t__law_ring (K : PySem.W.Frag) (sp__law_every : Sp) (sp__law_may : Sp) (sp__law_pick : Sp) : TS :=
  (tSeq (tPar 2 3 (tCons (tLst tNil) (tCons (tCall sp__law_every [] E0 (tCons (tVar 1) tNil)) tNil)))
    (tSeq (tAsg (tCall sp__law_pick [] E0 (tCons (tVar 0) (tCons (tVar 3) tNil))) (gName 4))
    (tSeq (tWhile (tTest (tOp (rNotInX K) (tVar 4) (tVar 2)))
    (tSeq (tDrop (tBM K "list" rAppend (tVar 2) (tCons (tVar 4) tNil)))
    (tSeq (tAsg (tLc (iList K (tVar 3)) (gName 6) (tB (tCall sp__law_may [] E0 (tCons (tVar 1) (tCons (tVar 4) (tCons (tVar 6) tNil))))) (tVar 6) [6]) (gName 5))
    (tSeq (tIfS (tTest (tOp (rEqZ K) (tVar 5) (tLst tNil)))
    (tRet (tLst tNil))
    tNext)
    (tAsg (tCall sp__law_pick [] E0 (tCons (tVar 0) (tCons (tVar 5) tNil))) (gName 4))))))
    (tRet (tSl (rSlA K) (tVar 2) (tPart (tBM K "list" (rIndexD K) (tVar 2) (tCons (tVar 4) tNil))) tNoPart)))))
theorem kss_nodup (l : List St2) : (l.map fun s => [s.1.1, wayS s.2]).Nodup ↔ (l.map kS).Nodup := by
  have e : (l.map fun s => [s.1.1, wayS s.2]) = (l.map kS).map fun q => [q.1, q.2] := by
    rw [List.map_map]
    rfl
  rw [e]
  constructor
  · exact fun h => List.Pairwise.of_map _ (fun a b hne z => hne (by rw [z])) h
  · intro h
    refine List.pairwise_map.mpr (List.Pairwise.imp (fun {a b} hne z => hne ?_) h)
    injection z with z1 z2
    injection z2 with z2 _
    exact Prod.ext z1 z2
theorem kss_data (l : List St2) : l.map stD = (l.map fun s => [s.1.1, wayS s.2]).map fun k => .tup (k.map Da.str) := by
  rw [List.map_map]
  rfl
section
variable {K : PySem.W.Frag} {W : Wd K} {Γ : List En} {p : Po} {c c1 c2 : Nat} {ta tb te : TE}
abbrev GJ (rf d : Da) (e2 e3 e4 e5 : En) : List En := [.dat rf, .dat d, e2, e3, e4, e5, .no]
theorem es_lring {spE spM : Sp} {rs : List Rf} {d : Da} (F : SchF K) (hW : W.Lax) (hE : EveryOk W spE) (hM : LMayOk W spM) (hr : (rs.map fun r => r.1).Nodup) (h6 : rs.length ≤ 6) (ho : ∀ r ∈ rs, okS r.1 = true) (hv : RingV K d) (hp : p.rt (.bl (ringB rs d))) :
    Es W (t__law_is_ring K spE spM) (GJ (.dct (refsD rs)) d .no .no .no .no) 0 p := by
  refine es_sq (Γ' := GJ (.dct (refsD rs)) d (.dat (.lst ((everyR rs).map stD))) .no .no .no) 0 0 (Nat.le_refl _) (es_asgE (ev_callE (c1 := 0) (c2 := 0) (ea_cons2 (c1 := 0) (c2 := 0) (ev_var rfl) ea_nil) (hE rs (by omega))) rfl) ?_
  rcases hv with ⟨t, hk, h1, h2⟩ | ⟨xs, hx, hl, ht⟩
  · rw [ring_kind hk h1 h2] at hp
    exact es_sqP (N := fun _ => False) 0 0 (Nat.le_refl _) (es_ifW (b := true) 0 0 (Nat.le_refl _) (et_noseq hk h1 h2 rfl) (fun _ => es_retE ev_bl hp) (fun z => by cases z)) (fun _ z => z.elim)
  have htest := et_orB (c1 := 0) (c2 := 0) (W := W) (Γ := GJ (.dct (refsD rs)) d (.dat (.lst ((everyR rs).map stD))) .no .no .no) (et_notB (et_BB (ev_seqi hx (i := 1) rfl))) (fun _ => et_eqI (j := 0) (c1 := 0) (c2 := 0) (ev_lens hx hl (i := 1) rfl) ev_int)
  refine es_sqP (N := fun Γ1 => xs ≠ [] ∧ Γ1 = GJ (.dct (refsD rs)) d (.dat (.lst ((everyR rs).map stD))) .no .no .no) 0 0 (Nat.le_refl _) (es_ifW 0 0 (Nat.le_refl _) htest (fun z => ?_) (fun z => es_next ?_)) ?_
  · have h0 : xs = [] := by
      have : (xs.length : Int) = 0 := by simpa using z
      exact List.length_eq_zero_iff.mp (by omega)
    rw [ring_seq hx (Or.inl h0)] at hp
    exact es_retE ev_bl hp
  · refine ⟨fun h0 => ?_, rfl⟩
    rw [h0] at z
    exact absurd z (by decide)
  rintro Γ1 ⟨hne, rfl⟩
  have hLe := steps_cmp (l := everyR rs) ho (fun s hs => hs)
  refine es_sqP (N := fun Γ1 => (∀ x ∈ xs, isStepB rs x = true) ∧ ∃ e3, Γ1 = GJ (.dct (refsD rs)) d (.dat (.lst ((everyR rs).map stD))) e3 .no .no) 0 0 (Nat.le_refl _)
    ((es_for (vs := [3]) (n := 30) (c0 := 0) (cb := 0) (Pi := fun ds => ds = xs) (I := fun ds i Γ1 => (∀ x ∈ ds.take i, isStepB rs x = true) ∧ ∃ e3, Γ1 = GJ (.dct (refsD rs)) d (.dat (.lst ((everyR rs).map stD))) e3 .no .no) ?_ ?_ ?_ ?_ ?_).weak (by decide)) ?_
  · exact ei_seq (by
      rcases hx with rfl | rfl
      · exact Or.inl (ev_var rfl)
      · exact Or.inr (ev_var rfl)) rfl
  · rintro ds rfl
    exact ⟨fun x hxm => by simp at hxm, _, rfl⟩
  · rintro ds i x Γ1 rfl hxi ⟨hpre, e3, rfl⟩
    have hxm := List.mem_of_getElem? hxi
    refine ⟨_, eg_name, ?_⟩
    show Es W _ (GJ (.dct (refsD rs)) d (.dat (.lst ((everyR rs).map stD))) (.dat x) .no .no) 0 _
    have bad : isStepB rs x = false → p.rt (.bl false) := fun hb => by
      rw [ring_seq hx (Or.inr ⟨x, hxm, hb⟩)] at hp
      exact hp
    have good : isStepB rs x = true → ∀ y ∈ ds.take (i + 1), isStepB rs y = true := fun hb y hy => by
      rw [List.take_succ, hxi] at hy
      rcases List.mem_append.mp hy with z | z
      · exact hpre y z
      · have : y = x := by simpa using z
        rw [this]
        exact hb
    rcases ht x hxm with ⟨t, hk, hb⟩ | ⟨ts', rs', rfl⟩ | ⟨ys, rfl, h1, h2⟩ | ⟨x1, x2, rfl⟩
    · exact es_ifW (b := true) 0 0 (Nat.le_refl _) (et_or (c1 := 0) (c2 := 0) (Pa := (· = true)) (et_notB (a := false) (et_BB (ev_cbE (ea_cons2 (c1 := 0) (c2 := 0) (ev_var rfl) (ea_cons2 (c1 := 0) (c2 := 0) ev_ty ea_nil)) (rc_isi hk hb rfl)))) (fun z => by cases z) (fun _ => rfl)) (fun _ => es_retE ev_bl (bad (not_tup hk hb rs))) (fun z => by cases z)
    · exact es_ifW (b := true) 0 0 (Nat.le_refl _) (et_or (c1 := 0) (c2 := 0) (Pa := (· = true)) (et_notB (a := false) (et_BB (ev_cbE (ea_cons2 (c1 := 0) (c2 := 0) (ev_var rfl) (ea_cons2 (c1 := 0) (c2 := 0) ev_ty ea_nil)) (rc_isiI F.i F.t rfl)))) (fun z => by cases z) (fun _ => rfl)) (fun _ => es_retE ev_bl (bad rfl)) (fun z => by cases z)
    · refine es_ifW (b := (!true || !inSt rs (.tup ys))) 0 0 (Nat.le_refl _) (et_orB (c1 := 0) (c2 := 0) (et_notB (et_BB (ev_cbE (ea_cons2 (c1 := 0) (c2 := 0) (ev_var rfl) (ea_cons2 (c1 := 0) (c2 := 0) ev_ty ea_nil)) (rc_isi (t := "tuple") rfl rfl rfl)))) (fun _ => et_testB (ev_op2 (c1 := 0) (c2 := 0) (ev_var rfl) (ev_var rfl) (rv_notInDp h1 hLe.1 h2 hLe.2 (by rw [List.any_map]; rfl))))) (fun z => es_retE ev_bl (bad ?_)) (fun z => es_next ⟨good ?_, _, rfl⟩)
      · show inSt rs (.tup ys) = false
        simpa using z
      · show inSt rs (.tup ys) = true
        simpa using z
    · refine es_ifW (b := (!true || true)) 0 0 (Nat.le_refl _) (et_orB (c1 := 0) (c2 := 0) (et_notB (et_BB (ev_cbE (ea_cons2 (c1 := 0) (c2 := 0) (ev_var rfl) (ea_cons2 (c1 := 0) (c2 := 0) ev_ty ea_nil)) (rc_isi (t := "tuple") rfl rfl rfl)))) (fun _ => et_testB (ev_op2 (c1 := 0) (c2 := 0) (ev_var rfl) ((ev_var (d := .lst ((everyR rs).map stD)) rfl).imp fun d e => by rw [e, st_pairs]) (rv_notInTd rfl)))) (fun _ => es_retE ev_bl (bad (td_no rs x1 x2))) (fun z => by cases z)
  · rintro ds Γ1 rfl ⟨hall, e3, rfl⟩
    rw [List.take_length] at hall
    exact ⟨hall, e3, rfl⟩
  · rintro ds rfl
    exact hl
  rintro Γ1 ⟨hst, e3, rfl⟩
  obtain ⟨l, rfl, hs⟩ := steps_all hst
  rw [List.length_map] at hl
  have hln : l ≠ [] := fun z => hne (by rw [z]; rfl)
  rw [ring_steps hr hx hln hs] at hp
  have hlen : Ev W (tLenSetU K (tVar 1)) (GJ (.dct (refsD rs)) d (.dat (.lst ((everyR rs).map stD))) e3 .no .no) 0 (fun x => ∃ n, Diff (l.map fun s => [s.1.1, wayS s.2]) n ∧ x = .int n) := ev_lenSetU (c := 0) ((ev_var rfl).imp fun x e => by
    rw [e, ← kss_data]
    exact hx) (by rw [List.length_map]; omega)
  refine es_sqP (N := fun Γ1 => (l.map kS).Nodup ∧ Γ1 = GJ (.dct (refsD rs)) d (.dat (.lst ((everyR rs).map stD))) e3 .no .no) 0 0 (Nat.le_refl _) (es_if (c1 := 0) (c2 := 0) (Pt := fun b => ∃ n, Diff (l.map fun s => [s.1.1, wayS s.2]) n ∧ b = decide ((n : Int) < (l.map stD).length)) (et_test ((ev_op (c1 := 0) (c2 := 0) (P1 := fun x => ∃ n, Diff (l.map fun s => [s.1.1, wayS s.2]) n ∧ x = .int n) (P2 := (· = .int (l.map stD).length)) hlen (ev_lens hx (by rw [List.length_map]; exact hl) rfl) (fun d1 d2 ⟨n, h1, e1⟩ e2 => by
    subst e1 e2
    exact rv_I0 (gd := fun i j => .bl (decide (i < j))) (fun _ _ => dBl.mpr rfl) ⟨_, rfl, n, h1, rfl⟩)))) (fun ⟨n, hn, hb⟩ => ?_) (fun ⟨n, hn, hb⟩ => es_next ⟨?_, rfl⟩)) ?_
  · have h1 : n < (l.map fun s => [s.1.1, wayS s.2]).length := by
      have := of_decide_eq_true hb.symm
      rw [List.length_map] at this ⊢
      omega
    have h2 : decide (l.map kS).Nodup = false := decide_eq_false fun z => (hn.eq_iff.mp h1) ((kss_nodup l).mpr z)
    unfold okRing at hp
    rw [h2, Bool.false_and] at hp
    exact es_retE ev_bl hp
  · have h1 : ¬ n < (l.map fun s => [s.1.1, wayS s.2]).length := fun z => by
      have := of_decide_eq_false hb.symm
      rw [List.length_map] at this z
      omega
    exact (kss_nodup l).mp (Classical.not_not.mp fun z => h1 (hn.eq_iff.mpr z))
  rintro Γ1 ⟨hnd, rfl⟩
  unfold okRing at hp
  rw [decide_eq_true hnd, Bool.true_and] at hp
  refine es_sq (Γ' := GJ (.dct (refsD rs)) d (.dat (.lst ((everyR rs).map stD))) e3 (.own (l.map stD)) .no) 0 0 (Nat.le_refl _) (es_asgFE (evF_cb (c := 0) (ea_cons2 (c1 := 0) (c2 := 0) (ev_var rfl) ea_nil) (fun ds e => by rw [e]; exact rcF_list (seq_of hx) (by rw [List.length_map]; omega) rfl)) rfl) ?_
  refine es_freeze (i := 4) rfl ?_
  show Es W _ (GJ (.dct (refsD rs)) d (.dat (.lst ((everyR rs).map stD))) e3 (.dat (.lst (l.map stD))) .no) 0 p
  refine es_sq (Γ' := GJ (.dct (refsD rs)) d (.dat (.lst ((everyR rs).map stD))) e3 (.dat (.lst (l.map stD))) (.own ((l.zip (turn l)).map fun q => .tup [stD q.1, stD q.2]))) 0 0 (Nat.le_refl _) (es_asgFE (by
    rw [← zip_steps]
    exact evF_lstZip (c := 0) hW (by rw [List.length_map, List.length_map]; exact turn_len l) (ea_cons2 (c1 := 0) (c2 := 0) (ev_var rfl) (ea_cons2 (c1 := 0) (c2 := 0) (evF_turn hl rfl).ev' ea_nil))) rfl) ?_
  refine es_freeze (i := 5) rfl ?_
  show Es W _ (GJ (.dct (refsD rs)) d (.dat (.lst ((everyR rs).map stD))) e3 (.dat (.lst (l.map stD))) (.dat (.lst ((l.zip (turn l)).map fun q => .tup [stD q.1, stD q.2])))) 0 p
  have hf := evF_filX (W := W) (Γ := GJ (.dct (refsD rs)) d (.dat (.lst ((everyR rs).map stD))) e3 (.dat (.lst (l.map stD))) (.dat (.lst ((l.zip (turn l)).map fun q => .tup [stD q.1, stD q.2])))) (c0 := 0) (ct := 0) (ce := 0) (n := 30) (wi := iList K (tVar 5)) (g := gName 6) (vs := [6]) (tt := tNot (tB (tCall spM [] E0 (tCons (tVar 0) (tCons (tOp (rIxA K) (tVar 6) (tC (.int 0))) (tCons (tOp (rIxA K) (tVar 6) (tC (.int 1))) tNil)))))) (te := tVar 6) (as := l.zip (turn l)) (it := fun q => .tup [stD q.1, stD q.2]) (out := fun q => .tup [stD q.1, stD q.2]) (t := fun q => !mayB q.1 q.2)
    (ei_list ((ev_var rfl).imp fun d e => ⟨_, e, rfl⟩))
    (fun q hq => by
      obtain ⟨h1, h2⟩ := List.of_mem_zip hq
      refine ⟨_, eg_name, et_notB (et_BB (ev_callE (c1 := 0) (c2 := 0) (ea_cons2 (c1 := 0) (c2 := 0) (ev_var rfl) (ea_cons2 (c1 := 0) (c2 := 0) (ev_op2 (c1 := 0) (c2 := 0) (ev_var rfl) ev_int (rv_ixT (d := stD q.1) rfl rfl)) (ea_cons2 (c1 := 0) (c2 := 0) (ev_op2 (c1 := 0) (c2 := 0) (ev_var rfl) ev_int (rv_ixT (d := stD q.2) rfl rfl)) ea_nil))) (hM rs q.1 q.2 hr ho (every_mem (hs _ h1)) (every_mem (hs _ (turn_mem h2)))))), ev_var rfl⟩)
    (by rw [List.length_zip, ← turn_len, Nat.min_self]; exact hl) (by decide)
  refine es_retE (d := .bl (((l.zip (turn l)).filter fun q => !mayB q.1 q.2).map fun q => Da.tup [stD q.1, stD q.2]).isEmpty) (ev_op2 (c1 := 0) (c2 := 0) (hf.weak (by decide) fun ds e => e).ev' ev_nilD rv_eqZ) ?_
  have he : (((l.zip (turn l)).filter fun q => !mayB q.1 q.2).map fun q => Da.tup [stD q.1, stD q.2]).isEmpty = (l.zip (turn l)).all fun q => mayB q.1 q.2 := by
    rw [Bool.eq_iff_iff, List.isEmpty_iff, List.map_eq_nil_iff, List.filter_eq_nil_iff, List.all_eq_true]
    exact ⟨fun h q hq => by simpa using h q hq, fun h q hq => by simpa using h q hq⟩
  rw [he]
  exact hp
def LRingOk (W : Wd K) (sp : Sp) : Prop := ∀ (rs : List Rf) (d : Da), (rs.map fun r => r.1).Nodup → rs.length ≤ 6 → (∀ r ∈ rs, okS r.1 = true) → RingV K d → Fn W sp [.dct (refsD rs), d] 0 (· = .bl (ringB rs d))
end
end P23
set_option Elab.async false
set_option linter.all false
set_option maxRecDepth 100000
set_option maxHeartbeats 4000000
/-! I23: _law_ring over data -/
namespace P23
open PySem L2 TL WJ LamX
theorem every_ne {rs : List Rf} (h : rs ≠ []) : everyR rs ≠ [] := fun z => by
  have := every_len rs
  rw [z, List.length_nil] at this
  exact h (List.length_eq_zero_iff.mp (by omega))
theorem keys_le {rs : List Rf} {l : List St2} (h6 : rs.length ≤ 6) (hn : (l.map kS).Nodup) (hs : ∀ s ∈ l, s ∈ everyR rs) : l.length ≤ 12 := by
  have h := nodup_le (D := (everyR rs).map kS) hn fun k hk => by
    obtain ⟨s, hsl, rfl⟩ := List.mem_map.mp hk
    exact List.mem_map.mpr ⟨s, hs s hsl, rfl⟩
  rw [List.length_map, List.length_map, every_len] at h
  omega
/-- the first place of a step in a path -/
theorem first_at {l : List St2} {s : St2} (h : (l.any fun t => decide (kS t = kS s)) = true) : ∃ (j : Nat) (t : St2), l[j]? = some t ∧ kS t = kS s ∧ ∀ (m : Nat) (t' : St2), m < j → l[m]? = some t' → kS t' ≠ kS s := by
  induction l with
  | nil => cases h
  | cons a l ih =>
    by_cases ha : kS a = kS s
    · exact ⟨0, a, rfl, ha, fun m t' hm => absurd hm (Nat.not_lt_zero _)⟩
    · rw [List.any_cons, decide_eq_false ha, Bool.false_or] at h
      obtain ⟨j, t, h1, h2, h3⟩ := ih h
      refine ⟨j + 1, t, h1, h2, fun m t' hm hm2 => ?_⟩
      cases m with
      | zero =>
        cases hm2
        exact ha
      | succ m => exact h3 m t' (by omega) hm2
section
variable {K : PySem.W.Frag} {W : Wd K} {Γ : List En} {p : Po} {c c1 c2 : Nat} {ta tb te : TE}
abbrev GK (q : Addr) (rf : Da) (e2 e3 e4 e5 : En) : List En := [.dat (.obj q), .dat rf, e2, e3, e4, e5, .no]
theorem es_lwalk {q : Addr} {spE spM spP : Sp} {rs : List Rf} (hE : EveryOk W spE) (hM : LMayOk W spM) (hP : PickOk W q spP) (hr : (rs.map fun r => r.1).Nodup) (h0 : rs ≠ []) (h6 : rs.length ≤ 6) (ho : ∀ r ∈ rs, okS r.1 = true) (hp : ∀ l : List St2, (∀ s ∈ l, s ∈ everyR rs) → l.length ≤ 12 → p.rt (.lst (l.map stD))) :
    Es W (t__law_ring K spE spM spP) (GK q (.dct (refsD rs)) .no .no .no .no) 14 p := by
  have hel := every_len rs
  refine es_sq (Γ' := GK q (.dct (refsD rs)) (.own []) (.dat (.lst ((everyR rs).map stD))) .no .no) 0 14 (by decide) (es_parE (c1 := 0) (c2 := 0) evF_nil.e (Ev.e (ev_callE (c1 := 0) (c2 := 0) (ea_cons2 (c1 := 0) (c2 := 0) (ev_var rfl) ea_nil) (hE rs (by omega)))) (by rintro e1 e2 ⟨d1, rfl, rfl⟩ ⟨d2, rfl, rfl⟩; rfl)) ?_
  refine es_sqP (N := fun Γ1 => ∃ s ∈ everyR rs, Γ1 = GK q (.dct (refsD rs)) (.own []) (.dat (.lst ((everyR rs).map stD))) (.dat (stD s)) .no) 1 13 (by decide) (es_asgW (Q := fun d => ∃ s ∈ everyR rs, d = stD s) 1 (by decide) (ev_callE (c1 := 0) (c2 := 1) (ea_cons2 (c1 := 0) (c2 := 0) (ev_var rfl) (ea_cons2 (c1 := 0) (c2 := 0) (ev_var rfl) ea_nil)) (hP _ ((everyR rs).map stD) _ rfl (fun z => every_ne h0 (List.map_eq_nil_iff.mp z)) (by rw [List.length_map]; omega) (fun x hx => by
      obtain ⟨s, hs, rfl⟩ := List.mem_map.mp hx
      exact ⟨s, hs, rfl⟩))) (fun d ⟨s, hs, e⟩ => ⟨s, hs, by rw [e]; rfl⟩)) ?_
  rintro Γ1 ⟨s0, hs0, rfl⟩
  refine es_sqP (N := fun Γ1 => ∃ (l : List St2) (s : St2) (e5 : En), (∀ t ∈ l, t ∈ everyR rs) ∧ s ∈ everyR rs ∧ l.length ≤ 12 ∧ (l.any fun t => decide (kS t = kS s)) = true ∧ Γ1 = GK q (.dct (refsD rs)) (.own (l.map stD)) (.dat (.lst ((everyR rs).map stD))) (.dat (stD s)) e5) 13 0 (by decide)
    (es_while (m0 := 12) (ct := 0) (cb := 1) (fun m Γ1 => ∃ (l : List St2) (s : St2) (e5 : En), m = 12 - l.length ∧ (l.map kS).Nodup ∧ (∀ t ∈ l, t ∈ everyR rs) ∧ s ∈ everyR rs ∧ Γ1 = GK q (.dct (refsD rs)) (.own (l.map stD)) (.dat (.lst ((everyR rs).map stD))) (.dat (stD s)) e5) ⟨[], s0, .no, rfl, List.nodup_nil, (fun t ht => nomatch ht), hs0, rfl⟩ ?_) ?_
  · rintro m Γ1 hm ⟨l, s, e5, rfl, hnd, hs, hse, rfl⟩
    have hL := steps_cmp ho hs
    have hc := st_cmp (ho _ (every_mem hse))
    have hlen := keys_le h6 hnd hs
    refine ⟨(· = !(l.any fun t => decide (kS t = kS s))), et_own (i := 2) rfl (et_testB (ev_op2 (c1 := 0) (c2 := 0) (ev_var rfl) (ev_var rfl) (rv_notInDp hc.p hL.1 (shaped_of hc.c (Nat.le_trans hc.d (by decide))) hL.2 ?_))), fun hb => ?_, fun hb => ⟨l, s, e5, hs, hse, hlen, by simpa using hb, rfl⟩⟩
    · rw [List.any_map]
      have : (fun t => PyData.eqv (stD t).py (stD s).py) = fun t => decide (kS t = kS s) := funext fun t => eqv_kS t s
      show (Da.bl (!l.any fun t => PyData.eqv (stD t).py (stD s).py)) = _
      rw [this]
    · have hnot : kS s ∉ l.map kS := fun z => by
        obtain ⟨t, ht, e⟩ := List.mem_map.mp z
        have h1 : (l.any fun t => decide (kS t = kS s)) = false := by simpa using hb
        have h2 := List.any_eq_false.mp h1 t ht
        rw [decide_eq_true e] at h2
        exact h2 rfl
      have hnd2 : ((l ++ [s]).map kS).Nodup := by
        rw [List.map_append]
        refine List.nodup_append.mpr ⟨hnd, by simp, fun a ha b hb' z => ?_⟩
        have : b = kS s := by simpa using hb'
        rw [this] at z
        exact hnot (by rw [← z]; exact ha)
      have hs2 : ∀ t ∈ l ++ [s], t ∈ everyR rs := fun t ht => by
        rcases List.mem_append.mp ht with z | z
        · exact hs t z
        · rw [List.mem_singleton.mp z]
          exact hse
      have hlen2 := keys_le h6 hnd2 hs2
      rw [List.length_append, List.length_singleton] at hlen2
      refine es_sq (Γ' := GK q (.dct (refsD rs)) (.own ((l ++ [s]).map stD)) (.dat (.lst ((everyR rs).map stD))) (.dat (stD s)) e5) 0 1 (by decide) (es_append (ds := l.map stD) rfl (ev_var rfl) (by rw [List.length_map]; omega) (fun d e => by rw [e, List.map_append]; rfl)) ?_
      have hf := evF_filX (W := W) (Γ := GK q (.dct (refsD rs)) (.own ((l ++ [s]).map stD)) (.dat (.lst ((everyR rs).map stD))) (.dat (stD s)) e5) (c0 := 0) (ct := 0) (ce := 0) (n := 12) (wi := iList K (tVar 3)) (g := gName 6) (vs := [6]) (tt := tB (tCall spM [] E0 (tCons (tVar 1) (tCons (tVar 4) (tCons (tVar 6) tNil))))) (te := tVar 6) (as := everyR rs) (it := stD) (out := stD) (t := fun o => mayB s o)
        (ei_list ((ev_var rfl).imp fun d e => ⟨_, e, rfl⟩))
        (fun o hom => ⟨_, eg_name, et_BB (ev_callE (c1 := 0) (c2 := 0) (ea_cons2 (c1 := 0) (c2 := 0) (ev_var rfl) (ea_cons2 (c1 := 0) (c2 := 0) (ev_var rfl) (ea_cons2 (c1 := 0) (c2 := 0) (ev_var rfl) ea_nil))) (hM rs s o hr ho (every_mem hse) (every_mem hom))), ev_var rfl⟩) (by omega) (by decide)
      refine es_sq (Γ' := GK q (.dct (refsD rs)) (.own ((l ++ [s]).map stD)) (.dat (.lst ((everyR rs).map stD))) (.dat (stD s)) (.own ((folR rs s).map stD))) 0 1 (by decide) (es_asgFE (hf.weak (by decide) fun ds e => e) rfl) ?_
      refine es_freeze (i := 5) rfl ?_
      show Es W _ (GK q (.dct (refsD rs)) (.own ((l ++ [s]).map stD)) (.dat (.lst ((everyR rs).map stD))) (.dat (stD s)) (.dat (.lst ((folR rs s).map stD)))) 1 _
      refine es_sqP (N := fun Γ1 => folR rs s ≠ [] ∧ Γ1 = GK q (.dct (refsD rs)) (.own ((l ++ [s]).map stD)) (.dat (.lst ((everyR rs).map stD))) (.dat (stD s)) (.dat (.lst ((folR rs s).map stD)))) 0 1 (by decide) (es_ifW (b := ((folR rs s).map stD).isEmpty) 0 0 (by decide) (et_testB (ev_op2 (c1 := 0) (c2 := 0) (ev_var rfl) ev_nilD rv_eqZ)) (fun _ => es_retE ev_nilD (hp [] (fun t ht => nomatch ht) (by decide))) (fun z => es_next ⟨fun z2 => ?_, rfl⟩)) ?_
      · rw [z2] at z
        cases z
      rintro Γ1 ⟨hne, rfl⟩
      refine es_asgW (Q := fun d => ∃ t ∈ everyR rs, d = stD t) 1 (by decide) (ev_callE (c1 := 0) (c2 := 1) (ea_cons2 (c1 := 0) (c2 := 0) (ev_var rfl) (ea_cons2 (c1 := 0) (c2 := 0) (ev_var rfl) ea_nil)) (hP _ ((folR rs s).map stD) _ rfl (fun z => hne (List.map_eq_nil_iff.mp z)) (by rw [List.length_map]; exact Nat.le_trans (List.length_filter_le _ _) (by omega)) (fun x hx => by
        obtain ⟨t, ht, rfl⟩ := List.mem_map.mp hx
        exact ⟨t, (List.mem_filter.mp ht).1, rfl⟩))) (fun d ⟨t, ht, e⟩ => ⟨12 - (l ++ [s]).length, ?_, l ++ [s], t, .dat (.lst ((folR rs s).map stD)), rfl, hnd2, hs2, ht, by rw [e]; rfl⟩)
      rw [List.length_append, List.length_singleton]
      omega
  rintro Γ1 ⟨l, s, e5, hs, hse, hlen, hin, rfl⟩
  obtain ⟨j, t, hj, hk, hno⟩ := first_at hin
  have hL := steps_cmp ho hs
  have hc := st_cmp (ho _ (every_mem hse))
  refine es_freeze (i := 2) rfl ?_
  show Es W _ (GK q (.dct (refsD rs)) (.dat (.lst (l.map stD))) (.dat (.lst ((everyR rs).map stD))) (.dat (stD s)) e5) 0 p
  have hix : Ev W (tBM K "list" (rIndexD K) (tVar 2) (tCons (tVar 4) tNil)) (GK q (.dct (refsD rs)) (.dat (.lst (l.map stD))) (.dat (.lst ((everyR rs).map stD))) (.dat (stD s)) e5) 0 (· = .int (j : Nat)) :=
    ev_indexD (c1 := 0) (c2 := 0) (ds := l.map stD) (d := stD s) (z := stD t) (ev_var rfl) (ev_var rfl) hL.1 hc.p hL.2 (shaped_of hc.c (Nat.le_trans hc.d (by decide))) (by rw [List.getElem?_map, hj]; rfl) (by rw [eqv_kS]; exact decide_eq_true hk) (fun m z' hm hz' => by
      rw [List.getElem?_map] at hz'
      cases hm' : l[m]? with
      | none => rw [hm'] at hz'; cases hz'
      | some t' =>
        rw [hm'] at hz'
        cases hz'
        rw [eqv_kS]
        exact decide_eq_false (hno m t' hm hm'))
  refine es_retE (d := .lst ((l.map stD).drop j)) (evF_from (c1 := 0) (c2 := 0) (k := j) (ev_var rfl) hix).ev' ?_
  rw [← List.map_drop]
  exact hp (l.drop j) (fun t' ht' => hs t' (List.mem_of_mem_drop ht')) (by rw [List.length_drop]; omega)
end
end P23
set_option Elab.async false
set_option linter.all false
set_option maxRecDepth 100000
set_option maxHeartbeats 4000000
/-! J23: what _law_bent may give -/
namespace P23
open PySem L2 TL WJ LamX
def pD (q : Str × Str) : Da := .tup [.str q.1, .str q.2]
def PP (q : Str × Str) : Prop := q.1 ∈ ("none" : Str) :: labL ∧ (q.2 = "forth" ∨ q.2 = "back")
theorem pp_ok {q : Str × Str} (h : PP q) : okS q.1 = true ∧ okS q.2 = true ∧ q.1.length ≤ 6 ∧ q.2.length ≤ 6 := by
  have h1 : ((("none" : Str) :: labL).all fun x => okS x && decide (x.length ≤ 6)) = true := by decide +kernel
  have h2 := List.all_eq_true.mp h1 q.1 h.1
  rw [Bool.and_eq_true, decide_eq_true_eq] at h2
  have h3 : okS q.2 = true ∧ q.2.length ≤ 6 := by rcases h.2 with e | e <;> (rw [e]; decide +kernel)
  exact ⟨h2.1, h3.1, h2.2, h3.2⟩
theorem pp_step {rs : List Rf} {s : St2} (hlab : ∀ r ∈ rs, r.1 ∈ labL) (h : s ∈ everyR rs) : PP (kS s) := ⟨List.mem_cons_of_mem _ (hlab _ (every_mem h)), by unfold kS; cases s.2 <;> first | exact Or.inl rfl | exact Or.inr rfl⟩
theorem pp_none : PP ("none", "back") := ⟨List.mem_cons_self, Or.inr rfl⟩
section
variable {K : PySem.W.Frag}
theorem thing_tup {xs : List Da} (h : ∀ d ∈ xs, Cmp d) : ThingOk K (.tup xs) := by
  refine Or.inr (Or.inr (Or.inl ⟨xs, rfl, by unfold Da.plain; exact cmp_plains h, ?_⟩))
  unfold Da.py
  refine shaped_of (by unfold PyData.canLay0; exact cmp_lays h) ?_
  unfold PyData.depth
  have := cmp_deps h
  omega
/-- an item of a value -/
structure Ele (K : PySem.W.Frag) (d : Da) : Prop where
  t : ThingOk K d
  m : Sm 3000 4 d
/-- a value that _law_bent gives -/
structure BentV (K : PySem.W.Frag) (d : Da) : Prop where
  v : RingV K d
  m : Sm 100000 6 d
theorem bent_list {xs : List Da} (hl : xs.length ≤ 30) (h : ∀ x ∈ xs, Ele K x) : BentV K (.lst xs) := ⟨Or.inr ⟨xs, Or.inl rfl, hl, fun x hx => (h x hx).t⟩, (Sm.lst (b := 3000) (dp := 4) (fun d hd => (h d hd).m) hl).mono (by decide) (by decide)⟩
theorem bent_tup {xs : List Da} (hl : xs.length ≤ 30) (h : ∀ x ∈ xs, Ele K x) : BentV K (.tup xs) := ⟨Or.inr ⟨xs, Or.inr rfl, hl, fun x hx => (h x hx).t⟩, (Sm.tup (b := 3000) (dp := 4) (fun d hd => (h d hd).m) hl).mono (by decide) (by decide)⟩
theorem bent_kind {d : Da} (t : String) (hk : d.kind = some t) (h1 : kitB t "list" = some false) (h2 : kitB t "tuple" = some false) (hs : Sm 100000 6 d) : BentV K d := ⟨Or.inl ⟨t, hk, h1, h2⟩, hs⟩
theorem ele_kind {d : Da} (t : String) (hk : d.kind = some t) (h2 : kitB t "tuple" = some false) (hs : Sm 3000 4 d) : Ele K d := ⟨Or.inl ⟨t, hk, h2⟩, hs⟩
theorem sm_pair {q : Str × Str} (h : PP q) : Sm 131 2 (pD q) := by
  obtain ⟨h1, h2, h3, h4⟩ := pp_ok h
  refine (Sm.tup (b := 62) (dp := 1) (n := 2) (ds := [.str q.1, .str q.2]) (fun d hd => ?_) (Nat.le_refl _)).mono (by decide) (by decide)
  simp only [List.mem_cons, List.not_mem_nil, or_false] at hd
  rcases hd with rfl | rfl
  · exact Sm.str (n := 6) h3 h1
  · exact Sm.str (n := 6) h4 h2
theorem mem2' {P : Da → Prop} {a b : Da} (h1 : P a) (h2 : P b) : ∀ d ∈ [a, b], P d := fun d hd => by
  simp only [List.mem_cons, List.not_mem_nil, or_false] at hd
  rcases hd with rfl | rfl
  · exact h1
  · exact h2
theorem mem1' {P : Da → Prop} {a : Da} (h1 : P a) : ∀ d ∈ [a], P d := fun d hd => by rw [List.mem_singleton.mp hd]; exact h1
theorem ele_pair {q : Str × Str} (h : PP q) : Ele K (pD q) := by
  obtain ⟨h1, h2, h3, h4⟩ := pp_ok h
  exact ⟨thing_tup (mem2' (Cmp.str h1) (Cmp.str h2)), (sm_pair h).mono (by decide) (by decide)⟩
theorem ele_all {qs : List (Str × Str)} (h : ∀ q ∈ qs, PP q) : ∀ x ∈ qs.map pD, Ele K x := fun x hx => by
  obtain ⟨q, hq, rfl⟩ := List.mem_map.mp hx
  exact ele_pair (h q hq)
theorem ele_str {x : Str} (h1 : okS x = true) (h2 : x.length ≤ 6) : Ele K (.str x) := ele_kind "str" rfl (by decide +kernel) ((Sm.str (n := 6) h2 h1).mono (by decide) (by decide))
theorem sm_non : Sm 10 1 .non := ⟨rfl, by decide +kernel, by decide +kernel⟩
theorem sm_nil : Sm 10 1 (.lst []) := ⟨by decide +kernel, by decide +kernel, by decide +kernel⟩
theorem sm_dnil : Sm 10 1 (.dct []) := ⟨by decide +kernel, by decide +kernel, by decide +kernel⟩
theorem sm_tnil : Sm 10 1 (.tup []) := ⟨by decide +kernel, by decide +kernel, by decide +kernel⟩
theorem sm_dpair {q : Str × Str} (h : PP q) : Sm 1000 4 (.dct [(Sum.inr q.1, .str q.2)]) := by
  have h1 : ((("none" : Str) :: labL).all fun x => (["forth", "back"] : List Str).all fun y => shwD (.dct [(Sum.inr x, .str y)]) && (decide ((pyD (.dct [(Sum.inr x, .str y)])).depth ≤ 4) && decide ((pyD (.dct [(Sum.inr x, .str y)])).shown.length ≤ 1000))) = true := by decide +kernel
  have h2 := List.all_eq_true.mp (List.all_eq_true.mp h1 q.1 h.1) q.2 (by rcases h.2 with e | e <;> rw [e] <;> simp)
  rw [Bool.and_eq_true, Bool.and_eq_true, decide_eq_true_eq, decide_eq_true_eq] at h2
  exact ⟨h2.1, h2.2.1, h2.2.2⟩
theorem cmp_nil : Cmp (.lst []) := ⟨by decide +kernel, by decide +kernel, by decide +kernel⟩
def flipS (x : Str) : Str := if x = "forth" then "back" else "forth"
theorem pp_flip {q : Str × Str} (h : PP q) : PP (q.1, flipS q.2) := ⟨h.1, by
  rcases h.2 with e | e
  · right
    show flipS q.2 = _
    rw [e]
    rfl
  · left
    show flipS q.2 = _
    rw [e]
    rfl⟩
theorem flip_get {q : Str × Str} (h : PP q) : (valD [((Sum.inr ("forth" : Str) : Key), Da.str "back"), (Sum.inr ("back" : Str), .str "forth")] (Sum.inr q.2)).getD (.str "") = .str (flipS q.2) := by
  rcases h.2 with e | e
  · rw [e]
    rfl
  · rw [e]
    rfl
end
section
variable {K : PySem.W.Frag} {W : Wd K} {Γ : List En} {p : Po} {c c1 c2 : Nat} {ti te : TE}
/-- xs[k], xs the body's own -/
theorem ev_ixO {i k : Nat} {ds : List Da} {d : Da} (hi : Γ[i]? = some (.own ds)) (hj : Ev W ti Γ c (· = .int (k : Nat))) (hk : ds[k]? = some d) : Ev W (tOp (rIxA K) (tVar i) ti) Γ c (· = d) := fun H0 B0 B σ H M s hM Q q => by
  obtain ⟨o, ho, l, xs, rfl, hB, hx, hd⟩ := s.sl i _ hi
  have hO : Ow σ Γ i l := ⟨⟨_, hi, rfl⟩, ho⟩
  refine ⟨.ref l, ho, ?_⟩
  refine hj H0 B0 B σ H M s hM _ fun jv jd H2 k2 r2 hjd ej => ?_
  subst ej
  rw [dInt.mp hjd]
  have s2 := s.keep k2 r2
  have hx2 : H2 l = some (.lst xs) := k2 l _ (s.outF hO) hx
  have hd2 := Dats.mono (s.toBk.kp k2) _ _ hd
  obtain ⟨v, e, hv⟩ := atI_dats hd2 (atI_of (i := (k : Nat)) (by omega) (by rw [Int.toNat_natCast]; exact hk))
  exact Or.inl (Or.inl ⟨l, xs, k, v, rfl, rfl, Or.inl (Or.inl hx2), e, q v d H2 k2 r2 hv rfl⟩)
/-- if way == j -/
theorem es_way {j w : Int} {t u : TS} (hw : Γ[5]? = some (.dat (.int w))) (h1 : ∀ N : List En → Prop, w = j → Es W t Γ 0 { p with nx := N }) (h2 : w ≠ j → Es W u Γ c p) : Es W (tSeq (tIfS (tTest (tOp (rEqA K) (tVar 5) (tC (.int j)))) t tNext) u) Γ c p :=
  es_sqP (N := fun Γ1 => w ≠ j ∧ Γ1 = Γ) 0 c (by omega) (es_ifW (b := decide (w = j)) 0 0 (Nat.le_refl _) (et_eqI (c1 := 0) (c2 := 0) (ev_var hw) ev_int) (fun z => h1 _ (of_decide_eq_true z)) (fun z => es_next ⟨of_decide_eq_false z, rfl⟩)) (fun Γ1 ⟨h, e⟩ => by rw [e]; exact h2 h)
end
end P23
set_option Elab.async false
set_option linter.all false
set_option maxRecDepth 100000
set_option maxHeartbeats 4000000
/-! K23: _law_bent over data -/
namespace P23
open PySem L2 TL WJ LamX
def t__law_bent (K : PySem.W.Frag) (sp__law_every : Sp) (sp__law_next : Sp) (sp__law_pick : Sp) : TS :=
  (tSeq (tPar3 3 4 5 (tCons (tCall sp__law_next [] E0 (tCons (tVar 0) (tCons (tCB (rLenA K) (tCons (tVar 2) tNil)) tNil))) (tCons (tCall sp__law_next [] E0 (tCons (tVar 0) (tCons (tCB (rLenA K) (tCons (tVar 2) tNil)) tNil))) (tCons (tCall sp__law_next [] E0 (tCons (tVar 0) (tCons (tC (.int 12)) tNil))) tNil))))
    (tSeq (tAsg (tCall sp__law_pick [] E0 (tCons (tVar 0) (tCons (tOp (rAddA K) (tCall sp__law_every [] E0 (tCons (tVar 1) tNil)) (tLst (tCons (tTup (tCons (tC (.str "none")) (tCons (tC (.str "back")) tNil))) tNil))) tNil))) (gName 6))
    (tSeq (tAsg (tDisp [((tC (.str "forth")), (tC (.str "back"))), ((tC (.str "back")), (tC (.str "forth")))]) (gName 7))
    (tSeq (tIfS (tTest (tOp (rEqA K) (tVar 5) (tC (.int 0))))
    (tRet (tOp (rAddA K) (tSl (rSlA K) (tVar 2) (tPart (tVar 3)) tNoPart) (tSl (rSlA K) (tVar 2) tNoPart (tPart (tVar 3)))))
    tNext)
    (tSeq (tIfS (tTest (tOp (rEqA K) (tVar 5) (tC (.int 1))))
    (tRet (tLc (iList K (tRevL K (tVar 2))) (gTup K 2 (gCons (gName 10) (gCons (gName 11) gNil))) tYes (tTup (tCons (tVar 10) (tCons (tDGet2 (tVar 7) (tVar 11) (tC (.str ""))) tNil))) [10, 11]))
    tNext)
    (tSeq (tIfS (tTest (tOp (rEqA K) (tVar 5) (tC (.int 2))))
    (tRet (tOp (rAddA K) (tSl (rSlA K) (tVar 2) tNoPart (tPart (tVar 3))) (tSl (rSlA K) (tVar 2) (tPart (tOp (rAddA K) (tVar 3) (tC (.int 1)))) tNoPart)))
    tNext)
    (tSeq (tIfS (tTest (tOp (rEqA K) (tVar 5) (tC (.int 3))))
    (tRet (tOp (rAddA K) (tOp (rAddA K) (tSl (rSlA K) (tVar 2) tNoPart (tPart (tVar 3))) (tLst (tCons (tOp (rIxA K) (tVar 2) (tVar 4)) tNil))) (tSl (rSlA K) (tVar 2) (tPart (tVar 3)) tNoPart)))
    tNext)
    (tSeq (tIfS (tTest (tOp (rEqA K) (tVar 5) (tC (.int 4))))
    (tSeq (tAsg (tCB (rListA K) (tCons (tVar 2) tNil)) (gName 8))
    (tSeq (tAsg (tTup (tCons (tOp (rIxA K) (tVar 8) (tVar 4)) (tCons (tOp (rIxA K) (tVar 8) (tVar 3)) tNil))) (gTup K 2 (gCons (gSub (tVar 8) (tVar 3) rSetL) (gCons (gSub (tVar 8) (tVar 4) rSetL) gNil))))
    (tRet (tVar 8))))
    tNext)
    (tSeq (tIfS (tTest (tOp (rEqA K) (tVar 5) (tC (.int 5))))
    (tRet (tOp (rAddA K) (tOp (rAddA K) (tSl (rSlA K) (tVar 2) tNoPart (tPart (tVar 3))) (tLst (tCons (tVar 6) tNil))) (tSl (rSlA K) (tVar 2) (tPart (tOp (rAddA K) (tVar 3) (tC (.int 1)))) tNoPart)))
    tNext)
    (tSeq (tIfS (tTest (tOp (rEqA K) (tVar 5) (tC (.int 6))))
    (tRet (tOp (rAddA K) (tVar 2) (tVar 2)))
    tNext)
    (tSeq (tIfS (tTest (tOp (rEqA K) (tVar 5) (tC (.int 7))))
    (tRet (tOp (rAddA K) (tOp (rAddA K) (tSl (rSlA K) (tVar 2) tNoPart (tPart (tVar 3))) (tLst (tCons (tCB (rListA K) (tCons (tOp (rIxA K) (tVar 2) (tVar 3)) tNil)) tNil))) (tSl (rSlA K) (tVar 2) (tPart (tOp (rAddA K) (tVar 3) (tC (.int 1)))) tNoPart)))
    tNext)
    (tSeq (tIfS (tTest (tOp (rEqA K) (tVar 5) (tC (.int 8))))
    (tRet (tCB (rTupA K) (tCons (tVar 2) tNil)))
    tNext)
    (tSeq (tIfS (tTest (tOp (rEqA K) (tVar 5) (tC (.int 9))))
    (tRet (tRevL K (tVar 2)))
    tNext)
    (tSeq (tIfS (tTest (tOp (rEqA K) (tVar 5) (tC (.int 10))))
    (tRet (tOp (rAddA K) (tOp (rAddA K) (tSl (rSlA K) (tVar 2) tNoPart (tPart (tVar 3))) (tLst (tCons (tVar 6) tNil))) (tSl (rSlA K) (tVar 2) (tPart (tVar 3)) tNoPart)))
    tNext)
    (tSeq (tAsg (tLst (tCons (tC .non) (tCons (tC (.int 5)) (tCons (tC (.bl true)) (tCons (tC (.str "forth")) (tCons tDNewK (tCons (tOp (rIxA K) (tVar 2) (tC (.int 0))) (tCons (tLst (tCons (tOp (rIxA K) (tOp (rIxA K) (tVar 2) (tC (.int 0))) (tC (.int 0))) tNil)) (tCons (tLst (tCons (tC .non) tNil)) (tCons (tLst (tCons (tTup tNil) tNil)) (tCons (tLst (tCons (tVar 2) tNil)) (tCons (tTup (tCons (tVar 2) tNil)) (tCons (tCB (rDictP K) (tCons (tLst (tCons (tOp (rIxA K) (tVar 2) (tC (.int 0))) tNil)) tNil)) tNil))))))))))))) (gName 9))
    (tRet (tCall sp__law_pick [] E0 (tCons (tVar 0) (tCons (tOp (rAddA K) (tVar 9) (tLst (tCons (tLst (tCons (tTup (tCons (tLst tNil) (tCons (tC (.str "back")) tNil))) tNil)) (tCons (tLst (tCons (tTup (tCons (tOp (rIxA K) (tOp (rIxA K) (tVar 2) (tC (.int 0))) (tC (.int 0))) (tCons (tLst tNil) tNil))) tNil)) (tCons (tLst (tCons (tTup (tCons tDNewK (tCons tDNewK tNil))) tNil)) tNil))))) tNil)))))))))))))))))))
section
variable {K : PySem.W.Frag} {W : Wd K} {Γ : List En} {p : Po} {c c1 c2 : Nat} {ti te : TE}
theorem evF_all {ta : TA} {n : Nat} {P : Da → Prop} (h : EvA W ta Γ c (fun ds => ds.length = n ∧ ∀ d ∈ ds, P d)) (hn : n ≤ 100000) : EvF W (tLst ta) Γ c (fun ds => ds.length = n ∧ ∀ d ∈ ds, P d) := evF_lst h fun ds ⟨e, _⟩ => by rw [e]; exact hn
theorem ev_pickL {q : Addr} {spP : Sp} {dv : Nat} {P : Da → Prop} (hP : PickOk W q spP) (hd : Γ[dv]? = some (.dat (.obj q))) (h : Ev W te Γ c (fun d => ∃ es, d = .lst es ∧ (0 < es.length ∧ es.length ≤ 1000 ∧ ∀ e ∈ es, P e))) : Ev W (tCall spP [] E0 (tCons (tVar dv) (tCons te tNil))) Γ (c + 1) P :=
  (ev_call (c1 := 0 + (c + 0)) (c2 := 1) (Pa := fun ds => ∃ es, ds = [.obj q, .lst es] ∧ (0 < es.length ∧ es.length ≤ 1000 ∧ ∀ e ∈ es, P e)) (ea_cons (P2 := fun ds => ∃ es, ds = [.lst es] ∧ (0 < es.length ∧ es.length ≤ 1000 ∧ ∀ e ∈ es, P e)) (ev_var hd) (ea_cons h ea_nil fun d ds ⟨es, e1, g⟩ e2 => ⟨es, by rw [e1, e2], g⟩) fun d ds e1 ⟨es, e2, g⟩ => ⟨es, by rw [e1, e2], g⟩)
    fun ds ⟨es, e, g1, g2, g3⟩ => by
      rw [e]
      exact hP (.lst es) es P rfl (fun z => by rw [z] at g1; exact absurd g1 (by decide)) (Nat.le_trans g2 (by decide)) g3).weak (by omega) fun d e => e
theorem evF_pk {n : Nat} {P : Da → Prop} (h : EvF W te Γ c (fun ds => ds.length = n ∧ ∀ d ∈ ds, P d)) (h0 : 0 < n) (hn : n ≤ 1000) : Ev W te Γ c (fun d => ∃ es, d = .lst es ∧ (0 < es.length ∧ es.length ≤ 1000 ∧ ∀ e ∈ es, P e)) :=
  h.ev.imp fun d ⟨ds, e, e2, g⟩ => ⟨ds, e, by omega, by omega, g⟩
theorem Ev.eq {d : Da} {P : Da → Prop} (h : Ev W te Γ c (· = d)) (hp : P d) : Ev W te Γ c P := h.imp fun x e => by rw [e]; exact hp
abbrev GB (q : Addr) (rf pa : Da) (e3 e4 e5 e6 e7 e8 e9 : En) : List En := [.dat (.obj q), .dat rf, .dat pa, e3, e4, e5, e6, e7, e8, e9, .no, .no]
abbrev othD : List (Key × Da) := [(Sum.inr "forth", .str "back"), (Sum.inr "back", .str "forth")]
theorem ev_succ {i k : Nat} (hi : Γ[i]? = some (.dat (.int (k : Nat)))) : Ev W (tOp (rAddA K) (tVar i) (tC (.int 1))) Γ 0 (· = .int ((k + 1 : Nat) : Nat)) := (ev_addI (c1 := 0) (c2 := 0) (ev_var hi) ev_int).imp fun d e => by rw [e]; rfl
theorem ev_one {te : TE} {d : Da} (h : Ev W te Γ 0 (· = d)) : Ev W (tLst (tCons te tNil)) Γ 0 (· = .lst [d]) := (evF_lst (c := 0) (ea_cons2 (c1 := 0) (c2 := 0) h ea_nil) (fun ds e => by rw [e]; simp)).ev'
theorem ev_t1 {t1 : TE} {x : Da} (h1 : Ev W t1 Γ 0 (· = x)) : Ev W (tTup (tCons t1 tNil)) Γ 0 (· = .tup [x]) := (ev_tup (c := 0) (P := (· = [x])) (ea_cons2 (c1 := 0) (c2 := 0) h1 ea_nil) (fun ds e => by rw [e]; simp)).imp fun d ⟨ds, e1, e2⟩ => by rw [e1, e2]
theorem ev_t2' {t1 t2 : TE} {x y : Da} (h1 : Ev W t1 Γ 0 (· = x)) (h2 : Ev W t2 Γ 0 (· = y)) : Ev W (tTup (tCons t1 (tCons t2 tNil))) Γ 0 (· = .tup [x, y]) := (ev_tup (c := 0) (P := (· = [x, y])) (ea_cons2 (c1 := 0) (c2 := 0) h1 (ea_cons2 (c1 := 0) (c2 := 0) h2 ea_nil)) (fun ds e => by rw [e]; simp)).imp fun d ⟨ds, e1, e2⟩ => by rw [e1, e2]
theorem ev_cat {t1 t2 : TE} {xs ys : List Da} (h1 : Ev W t1 Γ 0 (· = .lst xs)) (h2 : Ev W t2 Γ 0 (· = .lst ys)) (hl : xs.length + ys.length ≤ 100000) : Ev W (tOp (rAddA K) t1 t2) Γ 0 (· = .lst (xs ++ ys)) := (evF_addL (c1 := 0) (c2 := 0) h1 h2 hl).ev'
theorem ev_To {i j k : Nat} {xs : List Da} (hi : Γ[i]? = some (.dat (.lst xs))) (hj : Γ[j]? = some (.dat (.int (k : Nat)))) : Ev W (tSl (rSlA K) (tVar i) tNoPart (tPart (tVar j))) Γ 0 (· = .lst (xs.take k)) := (evF_to (c1 := 0) (c2 := 0) (ev_var hi) (ev_var hj)).ev'
theorem ev_From {i : Nat} {t : TE} {k : Nat} {xs : List Da} (hi : Γ[i]? = some (.dat (.lst xs))) (hj : Ev W t Γ 0 (· = .int (k : Nat))) : Ev W (tSl (rSlA K) (tVar i) (tPart t) tNoPart) Γ 0 (· = .lst (xs.drop k)) := (evF_from (c1 := 0) (c2 := 0) (ev_var hi) hj).ev'
theorem ev_at {i j k : Nat} {xs : List Da} {d : Da} (hi : Γ[i]? = some (.dat (.lst xs))) (hj : Γ[j]? = some (.dat (.int (k : Nat)))) (hk : xs[k]? = some d) : Ev W (tOp (rIxA K) (tVar i) (tVar j)) Γ 0 (· = d) := ev_op2 (c1 := 0) (c2 := 0) (ev_var hi) (ev_var hj) (rv_ixL (atI_of (i := (k : Nat)) (by omega) (by rw [Int.toNat_natCast]; exact hk)) rfl)
theorem ele_take {xs : List Da} {k : Nat} (h : ∀ x ∈ xs, Ele K x) : ∀ x ∈ xs.take k, Ele K x := fun x hx => h x (List.mem_of_mem_take hx)
theorem ele_drop {xs : List Da} {k : Nat} (h : ∀ x ∈ xs, Ele K x) : ∀ x ∈ xs.drop k, Ele K x := fun x hx => h x (List.mem_of_mem_drop hx)
theorem ele_app {xs ys : List Da} (h1 : ∀ x ∈ xs, Ele K x) (h2 : ∀ x ∈ ys, Ele K x) : ∀ x ∈ xs ++ ys, Ele K x := fun x hx => by
  rcases List.mem_append.mp hx with z | z
  · exact h1 x z
  · exact h2 x z
theorem es_bent {q : Addr} {spE spN spP : Sp} {rs : List Rf} {ps : List (Str × Str)} (hE : EveryOk W spE) (hN : NextOk W q spN) (hP : PickOk W q spP) (h6 : rs.length ≤ 6) (hlab : ∀ r ∈ rs, r.1 ∈ labL) (hn : ps ≠ []) (hl : ps.length ≤ 12) (hpp : ∀ x ∈ ps, PP x) (hp : ∀ d, BentV K d → p.rt d) :
    Es W (t__law_bent K spE spN spP) (GB q (.dct (refsD rs)) (.lst (ps.map pD)) .no .no .no .no .no .no .no) 5 p := by
  have hel := every_len rs
  have hpos : 0 < ps.length := List.length_pos_iff.mpr hn
  have hml : (ps.map pD).length = ps.length := List.length_map ..
  have nx : ∀ Γ : List En, Γ[0]? = some (.dat (.obj q)) → Γ[2]? = some (.dat (.lst (ps.map pD))) → Ev W (tCall spN [] E0 (tCons (tVar 0) (tCons (tCB (rLenA K) (tCons (tVar 2) tNil)) tNil))) Γ 1 (fun d => ∃ k : Nat, k < ps.length ∧ d = .int (k : Nat)) := fun Γ h0 h2 =>
    ev_callE (c1 := 0) (c2 := 1) (ea_cons2 (c1 := 0) (c2 := 0) (ev_var h0) (ea_cons2 (c1 := 0) (c2 := 0) (ev_cbE (c := 0) (P := (· = .int ps.length)) (ea_cons2 (c1 := 0) (c2 := 0) (ev_var h2) ea_nil) (rc_lenL (by rw [hml]))) ea_nil)) (hN ps.length _ (by omega) (by omega) (fun k h1 h2 => ⟨k.toNat, by omega, by congr 1; omega⟩))
  refine es_sqP (N := fun Γ1 => ∃ (k m : Nat) (w : Int), (k < ps.length ∧ m < ps.length) ∧ Γ1 = GB q (.dct (refsD rs)) (.lst (ps.map pD)) (.dat (.int (k : Nat))) (.dat (.int (m : Nat))) (.dat (.int w)) .no .no .no .no) 3 2 (by decide)
    (es_par3E (c1 := 1) (c2 := 1) (c3 := 1) (P1 := fun e => ∃ d, e = .dat d ∧ ∃ k : Nat, k < ps.length ∧ d = .int (k : Nat)) (P2 := fun e => ∃ d, e = .dat d ∧ ∃ k : Nat, k < ps.length ∧ d = .int (k : Nat)) (P3 := fun e => ∃ d, e = .dat d ∧ ∃ w : Int, d = .int w) (Ev.e (nx _ rfl rfl)) (Ev.e (nx _ rfl rfl)) (Ev.e (ev_callE (c1 := 0) (c2 := 1) (ea_cons2 (c1 := 0) (c2 := 0) (ev_var rfl) (ea_cons2 (c1 := 0) (c2 := 0) ev_int ea_nil)) (hN 12 _ (by decide) (by decide) (fun k _ _ => ⟨k, rfl⟩))))
      (by
        rintro e1 e2 e3 ⟨d1, rfl, k, hk, rfl⟩ ⟨d2, rfl, m, hm, rfl⟩ ⟨d3, rfl, w, rfl⟩
        exact ⟨k, m, w, ⟨hk, hm⟩, rfl⟩)) ?_
  rintro Γ1 ⟨k, m, w, ⟨hk, hm⟩, rfl⟩
  refine es_sqP (N := fun Γ1 => ∃ x : Str × Str, PP x ∧ Γ1 = GB q (.dct (refsD rs)) (.lst (ps.map pD)) (.dat (.int (k : Nat))) (.dat (.int (m : Nat))) (.dat (.int w)) (.dat (pD x)) .no .no .no) 1 1 (by decide) (es_asgW (Q := fun d => ∃ x, PP x ∧ d = pD x) 1 (by decide) (ev_callE (c1 := 0) (c2 := 1) (ea_cons2 (c1 := 0) (c2 := 0) (ev_var rfl) (ea_cons2 (c1 := 0) (c2 := 0) (ev_cat (ev_callE (c1 := 0) (c2 := 0) (ea_cons2 (c1 := 0) (c2 := 0) (ev_var rfl) ea_nil) (hE rs (by omega))) (ev_one (ev_t2' ev_str ev_str)) (by rw [List.length_map, List.length_singleton]; omega)) ea_nil)) (hP _ _ _ rfl (by simp) (by rw [List.length_append, List.length_map, List.length_singleton]; omega) (fun x hx => by
      rcases List.mem_append.mp hx with z | z
      · obtain ⟨s, hs, rfl⟩ := List.mem_map.mp z
        exact ⟨kS s, pp_step hlab hs, rfl⟩
      · rw [List.mem_singleton.mp z]
        exact ⟨("none", "back"), pp_none, rfl⟩))) (fun d ⟨x, hx, e⟩ => ⟨x, hx, by rw [e]; rfl⟩)) ?_
  rintro Γ1 ⟨x0, hx0, rfl⟩
  refine es_sq (Γ' := GB q (.dct (refsD rs)) (.lst (ps.map pD)) (.dat (.int (k : Nat))) (.dat (.int (m : Nat))) (.dat (.int w)) (.dat (pD x0)) (.ownD othD) .no .no) 0 1 (by decide) (es_asgD (evG_disp2 (by decide +kernel)) (fun ds e => by rw [e]; rfl)) ?_
  refine es_freezeD (i := 7) rfl ?_
  show Es W _ (GB q (.dct (refsD rs)) (.lst (ps.map pD)) (.dat (.int (k : Nat))) (.dat (.int (m : Nat))) (.dat (.int w)) (.dat (pD x0)) (.dat (.dct othD)) .no .no) 1 p
  have hel1 : ∀ x ∈ ps.map pD, Ele K x := ele_all hpp
  have el0 : ∀ x ∈ [pD x0], Ele K x := mem1' (ele_pair hx0)
  obtain ⟨qm, hqm⟩ : ∃ z, ps[m]? = some z := ⟨_, List.getElem?_eq_getElem hm⟩
  obtain ⟨qk, hqk⟩ : ∃ z, ps[k]? = some z := ⟨_, List.getElem?_eq_getElem hk⟩
  have hPm := hpp qm (List.mem_of_getElem? hqm)
  have hPk := hpp qk (List.mem_of_getElem? hqk)
  have gm : (ps.map pD)[m]? = some (pD qm) := by rw [List.getElem?_map, hqm]; rfl
  have gk : (ps.map pD)[k]? = some (pD qk) := by rw [List.getElem?_map, hqk]; rfl
  have dt : ((ps.map pD).take k).length ≤ 12 := by rw [List.length_take, hml]; omega
  have dd : ∀ j, ((ps.map pD).drop j).length ≤ 12 := fun j => by rw [List.length_drop, hml]; omega
  have fin : ∀ xs : List Da, xs.length ≤ 30 → (∀ x ∈ xs, Ele K x) → p.rt (.lst xs) := fun xs h1 h2 => hp _ (bent_list h1 h2)
  refine es_way rfl (fun N _ => es_retE (ev_cat (ev_From rfl (ev_var rfl)) (ev_To rfl rfl) ?_) (fin _ ?_ (ele_app (ele_drop hel1) (ele_take hel1)))) (fun _ => ?_)
  · have := dd k; omega
  · rw [List.length_append]; have := dd k; omega
  refine es_way rfl (fun N _ => ?_) (fun _ => ?_)
  · have hm1 := evF_mapX (W := W) (Γ := GB q (.dct (refsD rs)) (.lst (ps.map pD)) (.dat (.int (k : Nat))) (.dat (.int (m : Nat))) (.dat (.int w)) (.dat (pD x0)) (.dat (.dct othD)) .no .no) (c0 := 0) (cb := 0) (n := 12) (wi := iList K (tRevL K (tVar 2))) (g := gTup K 2 (gCons (gName 10) (gCons (gName 11) gNil))) (vs := [10, 11]) (te := tTup (tCons (tVar 10) (tCons (tDGet2 (tVar 7) (tVar 11) (tC (.str ""))) tNil))) (as := ps.reverse) (it := pD) (out := fun z => pD (z.1, flipS z.2))
      (ei_list ((evF_rev (c := 0) (Pd := (· = ps.map pD)) ((ev_var rfl).imp fun d e => ⟨_, e, rfl⟩)).ev.imp fun d ⟨es, e1, ds, e2, e3⟩ => ⟨_, e1, by rw [e3, e2, List.map_reverse]⟩))
      (fun z hz => ⟨_, eg_pair, (ev_t2' (ev_var rfl) (ev_dget2 (c1 := 0) (c2 := 0) (c3 := 0) (es := othD) (k := Sum.inr z.2) (z := .str "") (ev_var rfl) (ev_var rfl) ev_str)).imp fun d e => by rw [e, flip_get (hpp z (List.mem_reverse.mp hz))]; rfl⟩) (by rw [List.length_reverse]; exact hl) (by decide)
    refine es_retE (hm1.weak (by decide) fun ds e => e).ev' (fin _ (by rw [List.length_map, List.length_reverse]; omega) fun x hx => ?_)
    obtain ⟨z, hz, rfl⟩ := List.mem_map.mp hx
    exact ele_pair (pp_flip (hpp z (List.mem_reverse.mp hz)))
  refine es_way rfl (fun N _ => es_retE (ev_cat (ev_To rfl rfl) (ev_From rfl (ev_succ rfl)) ?_) (fin _ ?_ (ele_app (ele_take hel1) (ele_drop hel1)))) (fun _ => ?_)
  · have := dd (k + 1); omega
  · rw [List.length_append]; have := dd (k + 1); omega
  refine es_way rfl (fun N _ => es_retE (ev_cat (ev_cat (ev_To rfl rfl) (ev_one (ev_at rfl rfl gm)) ?_) (ev_From rfl (ev_var rfl)) ?_) (fin _ ?_ (ele_app (ele_app (ele_take hel1) (mem1' (ele_pair hPm))) (ele_drop hel1)))) (fun _ => ?_)
  · rw [List.length_singleton]; omega
  · rw [List.length_append, List.length_singleton]; have := dd k; omega
  · rw [List.length_append, List.length_append, List.length_singleton]; have := dd k; omega
  refine es_way rfl (fun N _ => ?_) (fun _ => ?_)
  · refine es_sq (Γ' := GB q (.dct (refsD rs)) (.lst (ps.map pD)) (.dat (.int (k : Nat))) (.dat (.int (m : Nat))) (.dat (.int w)) (.dat (pD x0)) (.dat (.dct othD)) (.own (ps.map pD)) .no) 0 0 (Nat.le_refl _) (es_asgFE (evF_cb (c := 0) (ea_cons2 (c1 := 0) (c2 := 0) (ev_var rfl) ea_nil) (fun ds e => by rw [e]; exact rcF_list rfl (by rw [hml]; omega) rfl)) rfl) ?_
    refine es_sq (Γ' := GB q (.dct (refsD rs)) (.lst (ps.map pD)) (.dat (.int (k : Nat))) (.dat (.int (m : Nat))) (.dat (.int w)) (.dat (pD x0)) (.dat (.dct othD)) (.own (((ps.map pD).set k (pD qm)).set m (pD qk))) .no) 0 0 (Nat.le_refl _) (es_put2 (i := 8) (ds := ps.map pD) (k := k) (m := m) (d := pD qm) (e := pD qk) rfl (ev_t2' (ev_ixO (i := 8) (k := m) rfl (ev_var rfl) gm) (ev_ixO (i := 8) (k := k) rfl (ev_var rfl) gk)) (ev_var rfl) (ev_var rfl) (by rw [hml]; exact hk) (by rw [hml]; exact hm) rfl) ?_
    refine es_freeze (i := 8) rfl ?_
    refine es_retE (ev_var rfl) (fin _ (by rw [List.length_set, List.length_set, hml]; omega) fun x hx => ?_)
    rcases List.mem_or_eq_of_mem_set hx with z | z
    · rcases List.mem_or_eq_of_mem_set z with z2 | z2
      · exact hel1 x z2
      · rw [z2]
        exact ele_pair hPm
    · rw [z]
      exact ele_pair hPk
  refine es_way rfl (fun N _ => es_retE (ev_cat (ev_cat (ev_To rfl rfl) (ev_one (ev_var rfl)) ?_) (ev_From rfl (ev_succ rfl)) ?_) (fin _ ?_ (ele_app (ele_app (ele_take hel1) el0) (ele_drop hel1)))) (fun _ => ?_)
  · rw [List.length_singleton]; omega
  · rw [List.length_append, List.length_singleton]; have := dd (k + 1); omega
  · rw [List.length_append, List.length_append, List.length_singleton]; have := dd (k + 1); omega
  refine es_way rfl (fun N _ => es_retE (ev_cat (ev_var rfl) (ev_var rfl) (by rw [hml]; omega)) (fin _ (by rw [List.length_append, hml]; omega) (ele_app hel1 hel1))) (fun _ => ?_)
  refine es_way rfl (fun N _ => ?_) (fun _ => ?_)
  · have hin : Ev W (tCB (rListA K) (tCons (tOp (rIxA K) (tVar 2) (tVar 3)) tNil)) (GB q (.dct (refsD rs)) (.lst (ps.map pD)) (.dat (.int (k : Nat))) (.dat (.int (m : Nat))) (.dat (.int w)) (.dat (pD x0)) (.dat (.dct othD)) .no .no) 0 (· = .lst [.str qk.1, .str qk.2]) := (evF_cb (c := 0) (ea_cons2 (c1 := 0) (c2 := 0) (ev_at rfl rfl gk) ea_nil) (fun ds e => by rw [e]; exact rcF_list (d := pD qk) (xs := [.str qk.1, .str qk.2]) rfl (by simp) rfl)).ev'
    obtain ⟨o1, o2, o3, o4⟩ := pp_ok hPk
    have hm2 : Ele K (.lst [.str qk.1, .str qk.2]) := ele_kind "list" rfl (by decide +kernel) ((Sm.lst (b := 62) (dp := 1) (n := 2) (mem2' (Sm.str (n := 6) o3 o1) (Sm.str (n := 6) o4 o2)) (Nat.le_refl _)).mono (by decide) (by decide))
    refine es_retE (ev_cat (ev_cat (ev_To rfl rfl) (ev_one hin) ?_) (ev_From rfl (ev_succ rfl)) ?_) (fin _ ?_ (ele_app (ele_app (ele_take hel1) (mem1' hm2)) (ele_drop hel1)))
    · rw [List.length_singleton]; omega
    · rw [List.length_append, List.length_singleton]; have := dd (k + 1); omega
    · rw [List.length_append, List.length_append, List.length_singleton]; have := dd (k + 1); omega
  refine es_way rfl (fun N _ => es_retE (d := .tup (ps.map pD)) (ev_cbE (ea_cons2 (c1 := 0) (c2 := 0) (ev_var rfl) ea_nil) (rc_tup (Or.inl rfl) rfl)) (hp _ (bent_tup (by rw [hml]; omega) hel1))) (fun _ => ?_)
  refine es_way rfl (fun N _ => es_retE (d := .lst (ps.map pD).reverse) ((evF_rev (c := 0) (Pd := (· = ps.map pD)) ((ev_var rfl).imp fun d e => ⟨_, e, rfl⟩)).ev.imp fun d ⟨es, e1, ds, e2, e3⟩ => by rw [e1, e3, e2]) (fin _ (by rw [List.length_reverse, hml]; omega) fun x hx => hel1 x (List.mem_reverse.mp hx))) (fun _ => ?_)
  refine es_way rfl (fun N _ => es_retE (ev_cat (ev_cat (ev_To rfl rfl) (ev_one (ev_var rfl)) ?_) (ev_From rfl (ev_var rfl)) ?_) (fin _ ?_ (ele_app (ele_app (ele_take hel1) el0) (ele_drop hel1)))) (fun _ => ?_)
  · rw [List.length_singleton]; omega
  · rw [List.length_append, List.length_singleton]; have := dd k; omega
  · rw [List.length_append, List.length_append, List.length_singleton]; have := dd k; omega
  obtain ⟨qz, hqz⟩ : ∃ z, ps[0]? = some z := ⟨_, List.getElem?_eq_getElem hpos⟩
  have hPz := hpp qz (List.mem_of_getElem? hqz)
  obtain ⟨o1, o2, o3, o4⟩ := pp_ok hPz
  have gz : (ps.map pD)[0]? = some (pD qz) := by rw [List.getElem?_map, hqz]; rfl
  have hz0 : ∀ Γ : List En, Γ[2]? = some (.dat (.lst (ps.map pD))) → Ev W (tOp (rIxA K) (tVar 2) (tC (.int 0))) Γ 0 (· = pD qz) := fun Γ h => ev_op2 (c1 := 0) (c2 := 0) (ev_var h) ev_int (rv_ixL (atI_of (i := 0) (by decide) gz) rfl)
  have hz1 : ∀ Γ : List En, Γ[2]? = some (.dat (.lst (ps.map pD))) → Ev W (tOp (rIxA K) (tOp (rIxA K) (tVar 2) (tC (.int 0))) (tC (.int 0))) Γ 0 (· = .str qz.1) := fun Γ h => ev_op2 (c1 := 0) (c2 := 0) (hz0 Γ h) ev_int (rv_ixT (ds := [.str qz.1, .str qz.2]) (d := .str qz.1) rfl rfl)
  have smP : Sm 2000 3 (.lst (ps.map pD)) := (Sm.lst (b := 131) (dp := 2) (n := 12) (fun d hd => by
    obtain ⟨z, hz, rfl⟩ := List.mem_map.mp hd
    exact sm_pair (hpp z hz)) (by rw [hml]; exact hl)).mono (by decide) (by decide)
  have dnew : ∀ Γ : List En, Ev W tDNewK Γ 0 (· = .dct []) := fun Γ => evG_new.ev.imp fun d ⟨ds, e1, e2⟩ => by rw [e1, e2]
  refine es_sqP (N := fun Γ1 => ∃ ds : List Da, (ds.length = 12 ∧ ∀ d ∈ ds, BentV K d) ∧ Γ1 = GB q (.dct (refsD rs)) (.lst (ps.map pD)) (.dat (.int (k : Nat))) (.dat (.int (m : Nat))) (.dat (.int w)) (.dat (pD x0)) (.dat (.dct othD)) .no (.own ds)) 0 1 (by decide) (es_asgF (P := fun ds => ds.length = 12 ∧ ∀ d ∈ ds, BentV K d) (evF_all (n := 12) (c := 0) ?_ (by decide)) (fun ds h => ⟨ds, h, rfl⟩)) ?_
  · refine ea_allC (c1 := 0) (c2 := 0) (Ev.eq ev_non (bent_kind "NoneType" rfl (by decide +kernel) (by decide +kernel) (sm_non.mono (by decide) (by decide)))) (ea_allC (c1 := 0) (c2 := 0) (Ev.eq ev_int (bent_kind "int" rfl (by decide +kernel) (by decide +kernel) ⟨by decide +kernel, by decide +kernel, by decide +kernel⟩)) (ea_allC (c1 := 0) (c2 := 0) (Ev.eq ev_bl (bent_kind "bool" rfl (by decide +kernel) (by decide +kernel) ⟨by decide +kernel, by decide +kernel, by decide +kernel⟩)) (ea_allC (c1 := 0) (c2 := 0) (Ev.eq ev_str (bent_kind "str" rfl (by decide +kernel) (by decide +kernel) ⟨by decide +kernel, by decide +kernel, by decide +kernel⟩)) (ea_allC (c1 := 0) (c2 := 0) (Ev.eq (dnew _) (bent_kind "dict" rfl (by decide +kernel) (by decide +kernel) (sm_dnil.mono (by decide) (by decide))))
      (ea_allC (c1 := 0) (c2 := 0) (Ev.eq (hz0 _ rfl) (bent_tup (xs := [.str qz.1, .str qz.2]) (by simp) (mem2' (ele_str o1 o3) (ele_str o2 o4))))
      (ea_allC (c1 := 0) (c2 := 0) (Ev.eq (ev_one (hz1 _ rfl)) (bent_list (by simp) (mem1' (ele_str o1 o3))))
      (ea_allC (c1 := 0) (c2 := 0) (Ev.eq (ev_one ev_non) (bent_list (by simp) (mem1' (ele_kind "NoneType" rfl (by decide +kernel) (sm_non.mono (by decide) (by decide))))))
      (ea_allC (c1 := 0) (c2 := 0) (Ev.eq (ev_one ((ev_tup (c := 0) (P := (· = [])) ea_nil (fun ds e => by rw [e]; decide)).imp fun d ⟨ds, e1, e2⟩ => by rw [e1, e2])) (bent_list (by simp) (mem1' ⟨thing_tup (xs := []) (fun d hd => by simp at hd), sm_tnil.mono (by decide) (by decide)⟩)))
      (ea_allC (c1 := 0) (c2 := 0) (Ev.eq (ev_one (ev_var rfl)) (bent_list (by simp) (mem1' (ele_kind "list" rfl (by decide +kernel) (smP.mono (by decide) (by decide))))))
      (ea_allC (c1 := 0) (c2 := 0) (Ev.eq (ev_t1 (ev_var rfl)) (bent_tup (by simp) (mem1' (ele_kind "list" rfl (by decide +kernel) (smP.mono (by decide) (by decide))))))
      (ea_allC (c1 := 0) (c2 := 0) (Ev.eq (ev_cbE (c := 0) (P := (· = .dct [(Sum.inr qz.1, .str qz.2)])) (ea_cons2 (c1 := 0) (c2 := 0) (ev_one (hz0 _ rfl)) ea_nil) (rc_dictP1 rfl)) (bent_kind "dict" rfl (by decide +kernel) (by decide +kernel) ((sm_dpair hPz).mono (by decide) (by decide)))) ea_allN)))))))))))
  rintro Γ1 ⟨d12, ⟨hn12, hd12⟩, rfl⟩
  refine es_freeze (i := 9) rfl ?_
  show Es W _ (GB q (.dct (refsD rs)) (.lst (ps.map pD)) (.dat (.int (k : Nat))) (.dat (.int (m : Nat))) (.dat (.int w)) (.dat (pD x0)) (.dat (.dct othD)) .no (.dat (.lst d12))) 1 p
  refine es_ret (c := 1) (P := BentV K) (ev_pickL (c := 0) hP rfl ((evF_op (c1 := 0) (c2 := 0) (P1 := (· = .lst d12)) (P2 := fun d => ∃ es, d = .lst es ∧ (es.length = 3 ∧ ∀ d ∈ es, BentV K d)) (P := fun es => 0 < es.length ∧ es.length ≤ 1000 ∧ ∀ e ∈ es, BentV K e) (ev_var rfl) (evF_all (n := 3) (c := 0) ?_ (by decide)).ev (fun d1 d2 e1 ⟨es, e2, g1, g2⟩ => ?_)).ev)) (fun d h => hp d h)
  · refine ea_allC (c1 := 0) (c2 := 0) (Ev.eq (ev_one (ev_t2' ev_nilD ev_str)) (bent_list (by simp) (mem1' ⟨thing_tup (mem2' cmp_nil (Cmp.str (by decide +kernel))), (Sm.tup (b := 62) (dp := 1) (n := 2) (mem2' (sm_nil.mono (by decide) (by decide)) (Sm.str (n := 6) (by decide +kernel) (by decide +kernel))) (Nat.le_refl _)).mono (by decide) (by decide)⟩)))
      (ea_allC (c1 := 0) (c2 := 0) (Ev.eq (ev_one (ev_t2' (hz1 _ rfl) ev_nilD)) (bent_list (by simp) (mem1' ⟨thing_tup (mem2' (Cmp.str o1) cmp_nil), (Sm.tup (b := 62) (dp := 1) (n := 2) (mem2' (Sm.str (n := 6) o3 o1) (sm_nil.mono (by decide) (by decide))) (Nat.le_refl _)).mono (by decide) (by decide)⟩)))
      (ea_allC (c1 := 0) (c2 := 0) (Ev.eq (ev_one (ev_t2' (dnew _) (dnew _))) (bent_list (by simp) (mem1' ⟨Or.inr (Or.inr (Or.inr ⟨[], [], rfl⟩)), (Sm.tup (b := 62) (dp := 1) (n := 2) (mem2' (sm_dnil.mono (by decide) (by decide)) (sm_dnil.mono (by decide) (by decide))) (Nat.le_refl _)).mono (by decide) (by decide)⟩))) ea_allN))
  · subst e1 e2
    refine rvF_addL (by omega) ⟨by rw [List.length_append]; omega, by rw [List.length_append]; omega, fun d hd => ?_⟩
    rcases List.mem_append.mp hd with z | z
    · exact hd12 d z
    · exact g2 d z
end
end P23
set_option Elab.async false
set_option linter.all false
set_option maxRecDepth 100000
set_option maxHeartbeats 4000000
/-! L23: the law's body over data -/
namespace P23
open PySem L2 TL WJ LamX
def t_law_1 (K : PySem.W.Frag) (sp_Schema : Sp) (sp__law_bent : Sp) (sp__law_every : Sp) (sp__law_is_ring : Sp) (sp__law_next : Sp) (sp__law_parts : Sp) (sp__law_pick : Sp) (sp__law_ring : Sp) (sp_is_ring : Sp) : TS :=
  (tSeq (tFor (iRng1 (tCons (tCB (rMaxA) (tCons (tC (.int 1)) (tCons (tCB (rMinA) (tCons (tC (.int 4)) (tCons (tCB (rLenA K) (tCons (tVar 0) tNil)) tNil))) tNil))) tNil)) (gName 2)
    (tSeq (tAsg (tCall sp__law_parts [] E0 (tCons (tVar 1) (tCons (tC (.int 5)) tNil))) (gTup K 2 (gCons (gName 3) (gCons (gName 4) gNil))))
    (tSeq (tAsg (tMake (He.ga K "Schema") sp_Schema [] E0 (tCons (tVar 3) (tCons (tVar 4) tNil))) (gName 5))
    (tSeq (tIfS (tOr (tTest (tOp rNotB (tCall sp_is_ring [] E0 (tCons (tVar 5) (tCons (tLst tNil) tNil))) (tC (.bl false)))) (tTest (tOp rNotB (tCall sp_is_ring [] E0 (tCons (tVar 5) (tCons (tTup tNil) tNil))) (tC (.bl false)))))
    (tRet (tC (.bl false)))
    tNext)
    (tSeq (tAsg (tIf (tTest (tOp (rEqB K) (tVar 4) tDNewK)) (tLst (tCons (tTup (tCons (tC (.str "r")) (tCons (tC (.str "forth")) tNil))) tNil)) (tCall sp__law_ring [] E0 (tCons (tVar 1) (tCons (tVar 4) tNil)))) (gName 6))
    (tSeq (tIfS (tTest (tOp (rEqZ K) (tVar 6) (tLst tNil)))
    (tAsg (tLc (iRng1 (tCons (tOp (rAddA K) (tC (.int 1)) (tCall sp__law_next [] E0 (tCons (tVar 1) (tCons (tC (.int 3)) tNil)))) tNil)) (gName 11) tYes (tCall sp__law_pick [] E0 (tCons (tVar 1) (tCons (tCall sp__law_every [] E0 (tCons (tVar 4) tNil)) tNil))) [11]) (gName 6))
    tNext)
    (tFor (iRng1 (tCons (tC (.int 6)) tNil)) (gName 7)
    (tSeq (tAsg (tIf (tTest (tOp (rEqA K) (tVar 7) (tC (.int 0)))) (tVar 6) (tCall sp__law_bent [] E0 (tCons (tVar 1) (tCons (tVar 4) (tCons (tVar 6) tNil))))) (gName 8))
    (tSeq (tIfS (tAnd (tTest (tOp (rI0 fun i j => .bl (decide (j < i))) (tVar 7) (tC (.int 3)))) (tAnd (tB (tCB (rIsiA K) (tCons (tVar 8) (tCons (tC (.ty "list")) tNil)))) (tAnd (tTest (tOp (rNeZ K) (tVar 8) (tLst tNil))) (tB (tCall sp__law_is_ring [] E0 (tCons (tVar 4) (tCons (tVar 8) tNil)))))))
    (tAsg (tCall sp__law_bent [] E0 (tCons (tVar 1) (tCons (tVar 4) (tCons (tVar 8) tNil)))) (gName 8))
    tNext)
    (tSeq (tPar 9 10 (tCons (tCB (rRepr K) (tCons (tVar 8) tNil)) (tCons (tCB (rRepr K) (tCons (tCall sp__law_is_ring [] E0 (tCons (tVar 4) (tCons (tVar 8) tNil))) tNil)) tNil)))
    (tSeq (tIfS (tOr (tTest (tOp (rNeA K) (tCB (rRepr K) (tCons (tCall sp_is_ring [] E0 (tCons (tVar 5) (tCons (tVar 8) tNil))) tNil)) (tVar 10))) (tTest (tOp (rNeA K) (tCB (rRepr K) (tCons (tKw2 sp_is_ring E0 (tVar 8) (tVar 5)) tNil)) (tVar 10))))
    (tRet (tC (.bl false)))
    tNext)
    (tIfS (tTest (tOp (rNeA K) (tCB (rRepr K) (tCons (tVar 8) tNil)) (tVar 9)))
    (tRet (tC (.bl false)))
    tNext))))))))))))
    (tRet (tC (.bl true))))
theorem eqvK_nil (rs : List Rf) : eqvK (refsD rs) [] = rs.isEmpty := by
  cases rs <;> simp [eqvK, refsD]
theorem st_pD (l : List St2) : l.map stD = (l.map kS).map pD := by
  rw [List.map_map]
  rfl
section
variable {K : PySem.W.Frag} {W : Wd K} {Γ : List En} {p : Po} {t1 t2 : TE} {c : Nat}
theorem ev_kw2 {sp : Sp} {E : XK} {P : Da → Prop} {d1 d2 : Da} (h1 : Ev W t1 Γ 0 (· = d1)) (h2 : Ev W t2 Γ 0 (· = d2)) (hs : Fn W sp [d2, d1] c P) : Ev W (tKw2 sp E t1 t2) Γ c P := fun H0 B0 B σ H M s hM Q q =>
  h1 H0 B0 B σ H M s (Nat.zero_le _) _ fun v e H1 k1 r1 hd e1 => by
    have e2 : e = d1 := e1
    subst e2
    have s1 := s.keep k1 r1
    refine h2 H0 B0 B σ H1 _ s1 (Nat.zero_le _) _ fun v2 e' H2 k2 r2 hd2 e3 => ?_
    have e4 : e' = d2 := e3
    subst e4
    have s2 := s1.keep k2 r2
    exact hs B H2 _ [v2, v] s2.toBk (by omega) (.cons hd2 (.cons (Dat.mono (s1.toBk.kp k2) _ _ hd) .nil)) Q E fun v3 d3 H3 k3 r3 hd3 p => q v3 d3 H3 ((k1.trans k2).trans k3) (W.less r3 (by omega)) hd3 p
theorem ev_repr {te : TE} {d : Da} {b dp c : Nat} (h : Ev W te Γ c (· = d)) (hs : Sm b dp d) (hb : b ≤ 1000000) (hdp : dp ≤ 100) : Ev W (tCB (rRepr K) (tCons te tNil)) Γ c (· = .str (pyD d).shown) :=
  (ev_cbE (c := c + 0) (P := (· = .str (pyD d).shown)) (ea_cons2 (c1 := c) (c2 := 0) h ea_nil) (rc_repr hs.s (Nat.le_trans hs.t hdp) (Nat.le_trans hs.l hb) rfl)).weak (by omega) fun d e => e
theorem two_ints {i j : Int} {B : List Addr} {H : Hp} {vs : List V} (h : Dats K B H vs [.int i, .int j]) : vs = [.int i, .int j] := by
  unfold Dats at h
  obtain ⟨v, r, rfl, h1, t1⟩ := h
  unfold Dats at t1
  obtain ⟨v2, r2, rfl, h2, t2⟩ := t1
  unfold Dats at t2
  unfold Dat at h1 h2
  rw [t2, h1, h2]
theorem rc_max {i j : Int} : Rc W rMaxA [.int i, .int j] (· = .int (if j > i then j else i)) := fun B H M vs s h Q q =>
  ⟨i, j, two_ints h, q _ _ H Kp.refl s.dr (dInt.mpr rfl) rfl⟩
theorem rc_min {i j : Int} : Rc W rMinA [.int i, .int j] (· = .int (if j < i then j else i)) := fun B H M vs s h Q q =>
  ⟨i, j, two_ints h, q _ _ H Kp.refl s.dr (dInt.mpr rfl) rfl⟩
theorem sm_bl (b : Bool) : Sm 10 1 (.bl b) := by
  cases b <;> exact ⟨by decide +kernel, by decide +kernel, by decide +kernel⟩
/-- a path that may be bent -/
def PathOk (ps : List (Str × Str)) : Prop := ps ≠ [] ∧ ps.length ≤ 12 ∧ ∀ x ∈ ps, PP x
structure LawOk (W : Wd K) (q : Addr) (spB spE spL spN spA spP spR spI : Sp) : Prop where
  be : ∀ (rs : List Rf) (ps : List (Str × Str)) (P : Da → Prop), rs.length ≤ 6 → (∀ r ∈ rs, r.1 ∈ labL) → PathOk ps → (∀ d, BentV K d → P d) → Fn W spB [.obj q, .dct (refsD rs), .lst (ps.map pD)] 5 P
  ev : EveryOk W spE
  li : LRingOk W spL
  nx : NextOk W q spN
  pa : ∀ P : Da → Prop, (∀ ts rs, Parts ts rs → (∀ r ∈ rs, r.1 ∈ labL) → P (.tup [.lst (ts.map Da.str), .dct (refsD rs)])) → Fn W spA [.obj q, .int 5] 62 P
  pk : PickOk W q spP
  ri : ∀ (rs : List Rf) (P : Da → Prop), (rs.map fun r => r.1).Nodup → rs ≠ [] → rs.length ≤ 6 → (∀ r ∈ rs, okS r.1 = true) → (∀ l : List St2, (∀ s ∈ l, s ∈ everyR rs) → l.length ≤ 12 → P (.lst (l.map stD))) → Fn W spR [.obj q, .dct (refsD rs)] 14 P
  ir : IsRingOk W spI
abbrev GW (d : Da) (q : Addr) (e2 e3 e4 e5 e6 e7 e8 e9 e10 : En) : List En := [.dat d, .dat (.obj q), e2, e3, e4, e5, e6, e7, e8, e9, e10, .no]
variable {q : Addr} {spB spE spL spN spA spP spR spIr : Sp}
theorem es_law_1 (O : LawOk W q spB spE spL spN spA spP spR spIr) {ns : List Int} (hl : ns.length ≤ 63) (hp : p.rt (.bl true)) :
    Es W (t_law_1 K (spI (He.ga K "Schema") (initT K)) spB spE spL spN spA spP spR spIr) (GW (.lst (ns.map Da.int)) q .no .no .no .no .no .no .no .no .no) 600 p := by
  refine es_sqP (N := fun Γ1 => ∃ e2 e3 e4 e5 e6 e7 e8 e9 e10 : En, Γ1 = GW (.lst (ns.map Da.int)) q e2 e3 e4 e5 e6 e7 e8 e9 e10) 600 0 (by decide)
    ((es_for (vs := [2]) (n := 4) (c0 := 0) (cb := 150) (Pi := fun ds => ∃ m : Nat, m ≤ 4 ∧ ds = rngD 0 m) (I := fun _ _ Γ1 => ∃ e2 e3 e4 e5 e6 e7 e8 e9 e10 : En, Γ1 = GW (.lst (ns.map Da.int)) q e2 e3 e4 e5 e6 e7 e8 e9 e10) ?_ ?_ ?_ ?_ ?_).weak (by decide)) ?_
  · refine ei_rng1 (c := 0) (ea_cons (c1 := 0) (c2 := 0) (P1 := fun d => ∃ m : Int, d = .int m ∧ 1 ≤ m ∧ m ≤ 4) ?_ ea_nil (fun d ds ⟨m, e1, h1, h2⟩ e2 => ⟨m, by rw [e1, e2], ⟨by omega, by omega⟩, m.toNat, by omega, rfl⟩))
    refine (ev_cbE (ea_cons2 (c1 := 0) (c2 := 0) ev_int (ea_cons2 (c1 := 0) (c2 := 0) (ev_cbE (ea_cons2 (c1 := 0) (c2 := 0) ev_int (ea_cons2 (c1 := 0) (c2 := 0) (ev_cbE (ea_cons2 (c1 := 0) (c2 := 0) (ev_var rfl) ea_nil) (rc_lenL rfl)) ea_nil)) rc_min) ea_nil)) rc_max).imp fun d e => ⟨_, e, ?_, ?_⟩
    · split <;> omega
    · split
      · split <;> omega
      · omega
  · rintro ds ⟨m, h, rfl⟩
    exact ⟨.no, .no, .no, .no, .no, .no, .no, .no, .no, rfl⟩
  · rintro ds i d Γ1 _ hd ⟨e2, e3, e4, e5, e6, e7, e8, e9, e10, rfl⟩
    refine ⟨_, eg_name, ?_⟩
    show Es W _ (GW (.lst (ns.map Da.int)) q (.dat d) e3 e4 e5 e6 e7 e8 e9 e10) 150 _
    refine es_sqP (N := fun Γ1 => ∃ (ts : List Str) (rs : List Rf), (Parts ts rs ∧ ∀ r ∈ rs, r.1 ∈ labL) ∧ Γ1 = GW (.lst (ns.map Da.int)) q (.dat d) (.dat (.lst (ts.map Da.str))) (.dat (.dct (refsD rs))) e5 e6 e7 e8 e9 e10) 62 88 (by decide) (es_asgG (c := 62) (vs := [3, 4]) (P := fun d => ∃ ts rs, (Parts ts rs ∧ ∀ r ∈ rs, r.1 ∈ labL) ∧ d = .tup [.lst (ts.map Da.str), .dct (refsD rs)]) (ev_callE (c1 := 0) (c2 := 62) (ea_cons2 (c1 := 0) (c2 := 0) (ev_var rfl) (ea_cons2 (c1 := 0) (c2 := 0) ev_int ea_nil)) (O.pa _ fun ts rs h1 h2 => ⟨ts, rs, ⟨h1, h2⟩, rfl⟩)) (fun d ⟨ts, rs, h, e⟩ => ⟨_, by rw [e]; exact eg_pair, ts, rs, h, rfl⟩)) ?_
    rintro Γ1 ⟨ts, rs, ⟨hP, hlab⟩, rfl⟩
    have h6 := hP.r6
    have hok := Rf.ok hP
    have hrd : (rs.map fun r => r.1).Nodup := hP.rd
    have hel := every_len rs
    refine es_sq (Γ' := GW (.lst (ns.map Da.int)) q (.dat d) (.dat (.lst (ts.map Da.str))) (.dat (.dct (refsD rs))) (.dat (.ins (He.ga K "Schema") (schF ts rs))) e6 e7 e8 e9 e10) 0 88 (by decide) (es_asgE ((ev_make (c1 := 0) (c2 := 0) (Pa := (· = [.lst (ts.map Da.str), .dct (refsD rs)])) (Pf := (· = schF ts rs)) (ea_cons2 (c1 := 0) (c2 := 0) (ev_var rfl) (ea_cons2 (c1 := 0) (c2 := 0) (ev_var rfl) ea_nil)) (fun ds e => ⟨ts, rs, hP, e, rfl, rfl⟩)).imp fun d ⟨fs, e1, e2⟩ => by rw [e1, e2]) rfl) ?_
    have hnv : ∀ x : Da, (x = .lst [] ∨ x = .tup []) → RingV K x := fun x h => Or.inr ⟨[], h, by decide, fun y hy => nomatch hy⟩
    refine es_sq (Γ' := GW (.lst (ns.map Da.int)) q (.dat d) (.dat (.lst (ts.map Da.str))) (.dat (.dct (refsD rs))) (.dat (.ins (He.ga K "Schema") (schF ts rs))) e6 e7 e8 e9 e10) 0 88 (by decide) (es_ifW (b := (!decide (false = false) || !decide (false = false))) 0 0 (by decide) (et_orB (c1 := 0) (c2 := 0) (et_testB (ev_op2 (c1 := 0) (c2 := 0) ((ev_callE (c1 := 0) (c2 := 0) (ea_cons2 (c1 := 0) (c2 := 0) (ev_var rfl) (ea_cons2 (c1 := 0) (c2 := 0) ev_nilD ea_nil)) (O.ir ts rs (.lst []) hrd h6 hok (hnv _ (Or.inl rfl)))).imp fun d e => by rw [e, ring_seq (xs := []) (Or.inl rfl) (Or.inl rfl)]) ev_bl rv_notB)) (fun _ => et_testB (ev_op2 (c1 := 0) (c2 := 0) ((ev_callE (c1 := 0) (c2 := 0) (ea_cons2 (c1 := 0) (c2 := 0) (ev_var rfl) (ea_cons2 (c1 := 0) (c2 := 0) ((ev_tup (c := 0) (P := (· = [])) ea_nil (fun ds e => by rw [e]; decide)).imp fun d ⟨ds, e1, e2⟩ => by rw [e1, e2]) ea_nil)) (O.ir ts rs (.tup []) hrd h6 hok (hnv _ (Or.inr rfl)))).imp fun d e => by rw [e, ring_seq (xs := []) (Or.inr rfl) (Or.inl rfl)]) ev_bl rv_notB))) (fun z => by simp at z) (fun _ => es_next rfl)) ?_
    -- the path
    refine es_sqP (N := fun Γ1 => ∃ ps : List (Str × Str), (ps.length ≤ 12 ∧ (∀ x ∈ ps, PP x) ∧ (rs = [] → ps ≠ [])) ∧ Γ1 = GW (.lst (ns.map Da.int)) q (.dat d) (.dat (.lst (ts.map Da.str))) (.dat (.dct (refsD rs))) (.dat (.ins (He.ga K "Schema") (schF ts rs))) (.dat (.lst (ps.map pD))) e7 e8 e9 e10) 14 74 (by decide) (es_asgW (Q := fun x => ∃ ps : List (Str × Str), (ps.length ≤ 12 ∧ (∀ x ∈ ps, PP x) ∧ (rs = [] → ps ≠ [])) ∧ x = .lst (ps.map pD)) 14 (by decide) (ev_if (c1 := 0) (c2 := 14) (Pt := (· = rs.isEmpty)) (et_testB (ev_op2 (c1 := 0) (c2 := 0) (d2 := .dct []) (ev_var rfl) (evG_new.ev.imp fun d ⟨es, e1, e2⟩ => by rw [e1, e2]) (rv_eqK (refs_ok hP) rfl (by rw [eqvK_nil])))) (fun h => ?_) (fun h => ?_)) (fun x ⟨ps, h, e⟩ => ⟨ps, h, by rw [e]; rfl⟩)) ?_
    · refine ((ev_one (ev_t2' ev_str ev_str)).imp fun x e => ⟨[("r", "forth")], ⟨by decide, fun y hy => ?_, fun _ z => by cases z⟩, e⟩).weak (Nat.zero_le _) fun x h => h
      rw [List.mem_singleton.mp hy]
      exact ⟨by decide +kernel, Or.inl rfl⟩
    · have hne : rs ≠ [] := fun z => by rw [z] at h; cases h
      refine ev_callE (c1 := 0) (c2 := 14) (ea_cons2 (c1 := 0) (c2 := 0) (ev_var rfl) (ea_cons2 (c1 := 0) (c2 := 0) (ev_var rfl) ea_nil)) (O.ri rs _ hrd hne h6 hok (fun l hs hl => ⟨l.map kS, ⟨by rw [List.length_map]; exact hl, fun x hx => ?_, fun z => absurd z hne⟩, by rw [st_pD]⟩))
      obtain ⟨s, hsl, rfl⟩ := List.mem_map.mp hx
      exact pp_step hlab (hs s hsl)
    rintro Γ1 ⟨ps0, ⟨hp1, hp2, hp3⟩, rfl⟩
    refine es_sqP (N := fun Γ1 => ∃ ps : List (Str × Str), PathOk ps ∧ Γ1 = GW (.lst (ns.map Da.int)) q (.dat d) (.dat (.lst (ts.map Da.str))) (.dat (.dct (refsD rs))) (.dat (.ins (He.ga K "Schema") (schF ts rs))) (.dat (.lst (ps.map pD))) e7 e8 e9 e10) 4 70 (by decide) (es_ifW (b := (ps0.map pD).isEmpty) 0 4 (by decide) (et_testB (ev_op2 (c1 := 0) (c2 := 0) (ev_var rfl) ev_nilD rv_eqZ)) (fun h => ?_) (fun h => Es.weak (es_next (⟨ps0, ⟨fun z => by (rw [z] at h; exact Bool.noConfusion h), hp1, hp2⟩, rfl⟩ : ∃ ps : List (Str × Str), PathOk ps ∧ GW (.lst (ns.map Da.int)) q (.dat d) (.dat (.lst (ts.map Da.str))) (.dat (.dct (refsD rs))) (.dat (.ins (He.ga K "Schema") (schF ts rs))) (.dat (.lst (ps0.map pD))) e7 e8 e9 e10 = GW (.lst (ns.map Da.int)) q (.dat d) (.dat (.lst (ts.map Da.str))) (.dat (.dct (refsD rs))) (.dat (.ins (He.ga K "Schema") (schF ts rs))) (.dat (.lst (ps.map pD))) e7 e8 e9 e10)) (Nat.zero_le _))) ?_
    · have h0 : ps0 = [] := List.map_eq_nil_iff.mp (List.isEmpty_iff.mp h)
      have hne : rs ≠ [] := fun z => hp3 z h0
      refine es_asgW (Q := fun x => ∃ ps : List (Str × Str), PathOk ps ∧ x = .lst (ps.map pD)) 4 (by decide) ?_ (fun x ⟨ps, h, e⟩ => ⟨ps, h, by rw [e]; rfl⟩)
      have hlc := evF_lc (W := W) (K := K) (Γ := GW (.lst (ns.map Da.int)) q (.dat d) (.dat (.lst (ts.map Da.str))) (.dat (.dct (refsD rs))) (.dat (.ins (He.ga K "Schema") (schF ts rs))) (.dat (.lst (ps0.map pD))) e7 e8 e9 e10) (wi := iRng1 (tCons (tOp (rAddA K) (tC (.int 1)) (tCall spN [] E0 (tCons (tVar 1) (tCons (tC (.int 3)) tNil)))) tNil)) (g := gName 11) (vs := [11]) (tt := tYes) (te := tCall spP [] E0 (tCons (tVar 1) (tCons (tCall spE [] E0 (tCons (tVar 4) tNil)) tNil))) (c0 := 1) (cb := 1) (n := 3) (Pi := fun ds => ∃ m : Nat, 1 ≤ m ∧ m ≤ 3 ∧ ds = rngD 0 m) (R := fun _ j acc => ∃ ps : List (Str × Str), ps.length = j ∧ (∀ x ∈ ps, PP x) ∧ acc = ps.map pD)
        (ei_rng1 (c := 1) (ea_cons (c1 := 1) (c2 := 0) (P1 := fun x => ∃ m : Int, x = .int m ∧ 1 ≤ m ∧ m ≤ 3) (ev_op (c1 := 0) (c2 := 1) (P1 := (· = .int 1)) (P2 := fun x => ∃ k : Int, x = .int k ∧ 0 ≤ k ∧ k < 3) ev_int (ev_callE (c1 := 0) (c2 := 1) (ea_cons2 (c1 := 0) (c2 := 0) (ev_var rfl) (ea_cons2 (c1 := 0) (c2 := 0) ev_int ea_nil)) (O.nx 3 _ (by decide) (by decide) (fun k h1 h2 => ⟨k, rfl, h1, h2⟩))) (fun d1 d2 e1 ⟨k, e2, h1, h2⟩ => by
          subst e1 e2
          exact rv_addI ⟨_, rfl, by omega, by omega⟩)) ea_nil (fun x xs ⟨m, e1, h1, h2⟩ e2 => ⟨m, by rw [e1, e2], ⟨by omega, by omega⟩, m.toNat, by omega, by omega, rfl⟩)))
        (fun ds _ => ⟨[], rfl, (fun x hx => nomatch hx), rfl⟩)
        (fun ds j x acc hds hj ⟨ps, g1, g2, g3⟩ => ⟨_, fun b => b = true, 0, 1, eg_name, by decide, et_yes rfl, fun _ => ev_callE (c1 := 0) (c2 := 1) (ea_cons2 (c1 := 0) (c2 := 0) (ev_var rfl) (ea_cons2 (c1 := 0) (c2 := 0) (ev_callE (c1 := 0) (c2 := 0) (ea_cons2 (c1 := 0) (c2 := 0) (ev_var rfl) ea_nil) (O.ev rs (by omega))) ea_nil)) (O.pk _ ((everyR rs).map stD) _ rfl (fun z => every_ne hne (List.map_eq_nil_iff.mp z)) (by rw [List.length_map]; omega) (fun y hy => by
          obtain ⟨s, hs, rfl⟩ := List.mem_map.mp hy
          refine ⟨ps ++ [kS s], by rw [List.length_append, g1]; rfl, fun z hz => ?_, by rw [g3, List.map_append]; rfl⟩
          rcases List.mem_append.mp hz with u | u
          · exact g2 z u
          · rw [List.mem_singleton.mp u]
            exact pp_step hlab hs)), fun z => by cases z⟩)
        (fun ds ⟨m, _, h2, e⟩ => by rw [e, rngD_len]; exact h2) (by decide)
      refine (hlc.ev.imp fun x ⟨es, e1, ds, ⟨m, m1, m2, e2⟩, ps, g1, g2, g3⟩ => ⟨ps, ⟨fun z => ?_, ?_, g2⟩, by rw [e1, g3]⟩).weak (by decide) fun x h => h
      · rw [z, e2, rngD_len] at g1
        rw [List.length_nil] at g1
        omega
      · rw [g1, e2, rngD_len]
        omega
    rintro Γ1 ⟨ps, hPa, rfl⟩
    have hbp : BentV K (.lst (ps.map pD)) := bent_list (by rw [List.length_map]; have := hPa.2.1; omega) (ele_all hPa.2.2)
    refine ((es_for (vs := [7]) (n := 6) (c0 := 0) (cb := 10) (Pi := fun ds => ds = rngD 0 6) (I := fun _ _ Γ1 => ∃ e7 e8 e9 e10 : En, Γ1 = GW (.lst (ns.map Da.int)) q (.dat d) (.dat (.lst (ts.map Da.str))) (.dat (.dct (refsD rs))) (.dat (.ins (He.ga K "Schema") (schF ts rs))) (.dat (.lst (ps.map pD))) e7 e8 e9 e10) ?_ ?_ ?_ ?_ ?_).weak (by decide))
    · exact ei_rng1 (c := 0) (ea_cons2 (c1 := 0) (c2 := 0) ev_int ea_nil |>.weak (Nat.le_refl _) fun ds e => ⟨6, e, by decide, rfl⟩)
    · rintro ds rfl
      exact ⟨_, _, _, _, rfl⟩
    · rintro ds i2 d2 Γ1 rfl hd2 ⟨e7, e8, e9, e10, rfl⟩
      have hi2 : i2 < 6 := by
        have := (List.getElem?_eq_some_iff.mp hd2).1
        rw [rngD_len] at this
        exact this
      rw [rngD_get hi2] at hd2
      cases hd2
      refine ⟨_, eg_name, ?_⟩
      show Es W _ (GW (.lst (ns.map Da.int)) q (.dat d) (.dat (.lst (ts.map Da.str))) (.dat (.dct (refsD rs))) (.dat (.ins (He.ga K "Schema") (schF ts rs))) (.dat (.lst (ps.map pD))) (.dat (.int (0 + (i2 : Nat)))) e8 e9 e10) 10 _
      refine es_sqP (N := fun Γ1 => ∃ v : Da, BentV K v ∧ Γ1 = GW (.lst (ns.map Da.int)) q (.dat d) (.dat (.lst (ts.map Da.str))) (.dat (.dct (refsD rs))) (.dat (.ins (He.ga K "Schema") (schF ts rs))) (.dat (.lst (ps.map pD))) (.dat (.int (0 + (i2 : Nat)))) (.dat v) e9 e10) 5 5 (by decide) (es_asgW (Q := BentV K) 5 (by decide) (ev_if (c1 := 0) (c2 := 5) (Pt := fun _ => True) ((et_eqI (c1 := 0) (c2 := 0) (ev_var rfl) ev_int).weak (Nat.le_refl _) fun _ _ => trivial) (fun _ => ((ev_var rfl).imp fun x e => by rw [e]; exact hbp).weak (Nat.zero_le _) fun x h => h) (fun _ => ev_callE (c1 := 0) (c2 := 5) (ea_cons2 (c1 := 0) (c2 := 0) (ev_var rfl) (ea_cons2 (c1 := 0) (c2 := 0) (ev_var rfl) (ea_cons2 (c1 := 0) (c2 := 0) (ev_var rfl) ea_nil))) (O.be rs ps _ h6 hlab hPa fun d h => h))) (fun x h => ⟨x, h, rfl⟩)) ?_
      rintro Γ1 ⟨v, hv, rfl⟩
      refine es_sqP (N := fun Γ1 => ∃ v : Da, BentV K v ∧ Γ1 = GW (.lst (ns.map Da.int)) q (.dat d) (.dat (.lst (ts.map Da.str))) (.dat (.dct (refsD rs))) (.dat (.ins (He.ga K "Schema") (schF ts rs))) (.dat (.lst (ps.map pD))) (.dat (.int (0 + (i2 : Nat)))) (.dat v) e9 e10) 5 0 (by decide) (es_if (c1 := 0) (c2 := 5) (Pt := fun b => b = true → ∃ ps' : List (Str × Str), PathOk ps' ∧ v = .lst (ps'.map pD)) ?_ (fun h => ?_) (fun _ => ?_)) ?_
      · refine et_and (c1 := 0) (c2 := 0) (Pa := fun _ => True) ((et_testB (ev_op2 (c1 := 0) (c2 := 0) (ev_var rfl) ev_int (rv_I0B (q := fun i j => decide (j < i))))).weak (Nat.le_refl _) fun _ _ => trivial) (fun _ => ?_) (fun _ z => by cases z)
        have no : ∀ {t : String} {tu : TT}, v.kind = some t → kitB t "list" = some false → EvT W (tAnd (tB (tCB (rIsiA K) (tCons (tVar 8) (tCons (tC (.ty "list")) tNil)))) tu) (GW (.lst (ns.map Da.int)) q (.dat d) (.dat (.lst (ts.map Da.str))) (.dat (.dct (refsD rs))) (.dat (.ins (He.ga K "Schema") (schF ts rs))) (.dat (.lst (ps.map pD))) (.dat (.int (0 + (i2 : Nat)))) (.dat v) e9 e10) 0 (fun b => b = true → ∃ ps' : List (Str × Str), PathOk ps' ∧ v = .lst (ps'.map pD)) := fun {t tu} hk h1 => et_and (c1 := 0) (c2 := 0) (Pa := (· = false)) (et_BB (ev_cbE (ea_cons2 (c1 := 0) (c2 := 0) (ev_var rfl) (ea_cons2 (c1 := 0) (c2 := 0) ev_ty ea_nil)) (rc_isi hk h1 rfl))) (fun z => by cases z) (fun _ z => by cases z)
        rcases hv.v with ⟨t, hk, h1, _⟩ | ⟨xs, rfl | rfl, hxl, hxt⟩
        · exact no hk h1
        · refine et_and (c1 := 0) (c2 := 0) (Pa := fun _ => True) ((et_BB (ev_cbE (ea_cons2 (c1 := 0) (c2 := 0) (ev_var rfl) (ea_cons2 (c1 := 0) (c2 := 0) ev_ty ea_nil)) (rc_isi (t := "list") rfl rfl rfl))).weak (Nat.le_refl _) fun _ _ => trivial) (fun _ => ?_) (fun _ z => by cases z)
          refine et_and (c1 := 0) (c2 := 0) (Pa := fun _ => True) ((et_testB (ev_op2 (c1 := 0) (c2 := 0) (ev_var rfl) ev_nilD rv_neZ)).weak (Nat.le_refl _) fun _ _ => trivial) (fun _ => ?_) (fun _ z => by cases z)
          refine (et_BB (ev_callE (c1 := 0) (c2 := 0) (ea_cons2 (c1 := 0) (c2 := 0) (ev_var rfl) (ea_cons2 (c1 := 0) (c2 := 0) (ev_var rfl) ea_nil)) (O.li rs (.lst xs) hrd h6 hok hv.v))).weak (Nat.le_refl _) fun b e hb => ?_
          rw [hb] at e
          obtain ⟨l, hll, hln, hls, hlo⟩ := @of_decide_eq_true _ (Classical.propDecidable _) e.symm
          have hxs : xs = l.map stD := by rcases hll with z | z <;> first | (injection z) | (cases z)
          unfold okRing at hlo
          rw [Bool.and_eq_true] at hlo
          refine ⟨l.map kS, ⟨fun z => hln (List.map_eq_nil_iff.mp z), by rw [List.length_map]; exact keys_le h6 (of_decide_eq_true hlo.1) hls, fun x hx => ?_⟩, by rw [hxs, st_pD]⟩
          obtain ⟨s, hsl, rfl⟩ := List.mem_map.mp hx
          exact pp_step hlab (hls s hsl)
        · exact no (t := "tuple") rfl (by decide +kernel)
      · obtain ⟨ps', hP', rfl⟩ := h rfl
        exact es_asgW (Q := BentV K) 5 (by decide) (ev_callE (c1 := 0) (c2 := 5) (ea_cons2 (c1 := 0) (c2 := 0) (ev_var rfl) (ea_cons2 (c1 := 0) (c2 := 0) (ev_var rfl) (ea_cons2 (c1 := 0) (c2 := 0) (ev_var rfl) ea_nil))) (O.be rs ps' _ h6 hlab hP' fun d h => h)) (fun x h => ⟨x, h, rfl⟩)
      · exact Es.weak (es_next ⟨v, hv, rfl⟩) (Nat.zero_le _)
      rintro Γ1 ⟨u, hu, rfl⟩
      refine es_sq (Γ' := GW (.lst (ns.map Da.int)) q (.dat d) (.dat (.lst (ts.map Da.str))) (.dat (.dct (refsD rs))) (.dat (.ins (He.ga K "Schema") (schF ts rs))) (.dat (.lst (ps.map pD))) (.dat (.int (0 + (i2 : Nat)))) (.dat u) (.dat (.str (pyD u).shown)) (.dat (.str (pyD (.bl (ringB rs u))).shown))) 0 0 (by decide) (es_parE (c1 := 0) (c2 := 0) (P1 := fun e => ∃ d, e = .dat d ∧ d = .str (pyD u).shown) (P2 := fun e => ∃ d, e = .dat d ∧ d = .str (pyD (.bl (ringB rs u))).shown) (Ev.e (ev_repr (ev_var rfl) hu.m (by decide) (by decide))) (Ev.e (ev_repr (ev_callE (c1 := 0) (c2 := 0) (ea_cons2 (c1 := 0) (c2 := 0) (ev_var rfl) (ea_cons2 (c1 := 0) (c2 := 0) (ev_var rfl) ea_nil)) (O.li rs u hrd h6 hok hu.v)) (sm_bl _) (by decide) (by decide))) (fun e1 e2 ⟨d1, h1, g1⟩ ⟨d2, h2, g2⟩ => by subst h1 g1 h2 g2; rfl)) ?_
      have hIr := O.ir ts rs u hrd h6 hok hu.v
      refine es_sq (Γ' := GW (.lst (ns.map Da.int)) q (.dat d) (.dat (.lst (ts.map Da.str))) (.dat (.dct (refsD rs))) (.dat (.ins (He.ga K "Schema") (schF ts rs))) (.dat (.lst (ps.map pD))) (.dat (.int (0 + (i2 : Nat)))) (.dat u) (.dat (.str (pyD u).shown)) (.dat (.str (pyD (.bl (ringB rs u))).shown))) 0 0 (by decide) (es_ifW (b := (!decide ((pyD (.bl (ringB rs u))).shown = (pyD (.bl (ringB rs u))).shown) || !decide ((pyD (.bl (ringB rs u))).shown = (pyD (.bl (ringB rs u))).shown))) 0 0 (by decide) (et_orB (c1 := 0) (c2 := 0) (et_neS (c1 := 0) (c2 := 0) (ev_repr (ev_callE (c1 := 0) (c2 := 0) (ea_cons2 (c1 := 0) (c2 := 0) (ev_var rfl) (ea_cons2 (c1 := 0) (c2 := 0) (ev_var rfl) ea_nil)) hIr) (sm_bl _) (by decide) (by decide)) (ev_var rfl)) (fun _ => et_neS (c1 := 0) (c2 := 0) (ev_repr (ev_kw2 (ev_var rfl) (ev_var rfl) hIr) (sm_bl _) (by decide) (by decide)) (ev_var rfl))) (fun z => by rw [decide_eq_true rfl] at z; cases z) (fun _ => es_next rfl)) ?_
      exact es_ifW (b := !decide ((pyD u).shown = (pyD u).shown)) 0 0 (by decide) (et_neS (c1 := 0) (c2 := 0) (ev_repr (ev_var rfl) hu.m (by decide) (by decide)) (ev_var rfl)) (fun z => by rw [decide_eq_true rfl] at z; cases z) (fun _ => es_next ⟨_, _, _, _, rfl⟩)
    · rintro ds Γ1 rfl ⟨e7, e8, e9, e10, rfl⟩
      exact ⟨_, _, _, _, _, _, _, _, _, rfl⟩
    · rintro ds rfl
      rw [rngD_len]
      exact Nat.le_refl _
  · rintro ds Γ1 _ h
    exact h
  · rintro ds ⟨m, h, rfl⟩
    rw [rngD_len]
    exact h
  rintro Γ1 ⟨e2, e3, e4, e5, e6, e7, e8, e9, e10, rfl⟩
  exact es_retE ev_bl hp
end
end P23
set_option Elab.async false
set_option linter.all false
set_option maxRecDepth 100000
set_option maxHeartbeats 4000000
/-! M23: each def of the program keeps its promise -/
namespace M23
open PySem L2 TL WJ LamX
open P23
def top (i : Nat) : Stmt := PySem.Challenge.pw_wordjoins_k23_rings_judged.main.body.getD i (.Pass ⟨0, 0, 0, 0⟩)
abbrev FnP (K : PySem.W.Frag) (x : Str) (st : Stmt) (f : Addr) (fd : FuncData) : Prop := FunD K x x (defArgs st) (defBody st) (defScope st) [] [] f fd
abbrev FnM (K : PySem.W.Frag) (x q : Str) (st : Stmt) (f : Addr) (fd : FuncData) : Prop := FunD K x q (defArgs st) (defBody st) (defScope st) [] [] f fd
structure Glb (K : PySem.W.Frag) (mg : Str → Option Value) : Prop where
  KINDS : mg "KINDS" = some (.ref (He.ga K "KINDS"))
  LETTERS : ∃ t, mg "LETTERS" = some (.str "abcdefghijklmnopqrstuvwxyz" t)
  MOST_LETTERS : ∃ t, mg "MOST_LETTERS" = some (.int 6 t)
  MOST_REFERENCES : ∃ t, mg "MOST_REFERENCES" = some (.int 6 t)
  MOST_TABLES : ∃ t, mg "MOST_TABLES" = some (.int 5 t)
  Schema : mg "Schema" = some (.ref (He.ga K "Schema"))
  all : mg "all" = none
  any : mg "any" = none
  dict : mg "dict" = none
  enumerate : mg "enumerate" = none
  isinstance : mg "isinstance" = none
  len : mg "len" = none
  list : mg "list" = none
  set : mg "set" = none
  sorted : mg "sorted" = none
  str : mg "str" = none
  tuple : mg "tuple" = none
  zip : mg "zip" = none
structure Mxs (Pr : Program) (w : World) (K : PySem.W.Frag) (mg : Str → Option Value) (base : Heap) : Prop where
  NoSchema : Mk1 K mg "NoSchema" (He.ga K "NoSchema")
theorem hu64_of {A : Around} {k : Nat} (hr : Room k A) : A.units + 64 < cLine := hr.units
theorem hu65_of {A : Around} {k : Nat} (hr : Room k A) : A.units + 65 < cLine := by have := hr.un; omega
theorem hu150_of {A : Around} {k : Nat} (hr : Room k A) : A.units + 150 < cLine := by have := hr.un; omega
def X1 (K : PySem.W.Frag) (x : Str) : Prop := PySem.W.subIn K (.ref (He.ga K x)) (.type "BaseException") = some true ∧ PySem.W.typeIn K (.ref (He.ga K x)) = some (.type "type")
section
variable {Pr : Program} {w : World} {K : PySem.W.Frag} {mg : Str → Option Value} {base : Heap} {f : Addr} {fd : FuncData}
abbrev s_is_name : Stmt := top 10
abbrev n_is_name : List Str := ["thing", "sign"]
theorem sc_is_name : FnScope n_is_name ["thing"] (defScope s_is_name) := ⟨rfl, rfl, rfl, by decide +kernel, rfl, by decide +kernel, by decide +kernel⟩
def isNameC (K : PySem.W.Frag) : Ct K := fun _ ds c P => ∃ x : Str, x.length ≤ 100000 ∧ ds = [.str x] ∧ c = 0 ∧ P (.bl (isName x))
theorem ok_is_name (G : Glb K mg) (F : FnP K "is_name" s_is_name f fd) : FnOk Pr w K mg base CX0 1 f fd ["thing"] (spD (isNameC K)) := by
  refine fn_data (k := 0) F sc_is_name (fun W ds c P h => ?_) (by decide) (fun cdv A outer s H E hr => ?_)
  · obtain ⟨x, _, rfl, _⟩ := h; rfl
  have hu := hu_of hr
  refine ⟨_, PSs.nox (pss_one (ps_ret (pe_and (pe_callB (o_isi K) (by rfl) G.isinstance (by decide +kernel) (pa_cons (pv 0) (pa_cons (pe_type (n := "str") (by rfl) G.str (by decide +kernel)) pa_nil))) (pe_and (pe_chain op_le op_le pe_int (pe_callB (o_len K) (by rfl) G.len (by decide +kernel) (pa_cons (pv 0) pa_nil)) (pe_globI (by rfl) G.MOST_LETTERS)) (pe_one (pe_callB (o_all K) (by rfl) G.all (by decide +kernel) (pa_cons (pe_lc (own := [("sign", 1)]) (g := gName 1) (tt := tYes) rfl sc_is_name.nd (pi_str (pv 0)) (blkOk_by (N := ["thing", "sign"]) (sc := defScope s_is_name) (by decide +kernel)) (fun _ _ _ _ _ => (pg_name (i := 1) sc_is_name.nd rfl (by first | exact Or.inl rfl | exact Or.inr rfl))) (fun _ _ _ _ _ => pts_nil) (fun _ _ _ _ _ => (pe_cmpR (o_in K hu) (pv 1) (pe_globS (by rfl) G.LETTERS) (by rfl)))) pa_nil))))))), ?_⟩
  rintro W ds c P ⟨x, hl, rfl, rfl, hp⟩
  exact es_is_name hl hp
abbrev s_are_tables : Stmt := top 11
abbrev n_are_tables : List Str := ["thing", "table"]
theorem sc_are_tables : FnScope n_are_tables ["thing"] (defScope s_are_tables) := ⟨rfl, rfl, rfl, by decide +kernel, rfl, by decide +kernel, by decide +kernel⟩
def tablesC (K : PySem.W.Frag) : Ct K := fun _ ds c P => ∃ ts : List Str, 1 ≤ ts.length ∧ ts.length ≤ 5 ∧ ts.all isName = true ∧ ts.Nodup ∧ ds = [.lst (ts.map Da.str)] ∧ c = 0 ∧ P (.bl true)
theorem ok_are_tables (G : Glb K mg) (F_is_name : Fnd Pr w K mg base 1 "is_name" ["thing"] (spD (isNameC K))) (F : FnP K "are_tables" s_are_tables f fd) : FnOk Pr w K mg base CX0 2 f fd ["thing"] (spD (tablesC K)) := by
  refine fn_data (k := 1) F sc_are_tables (fun W ds c P h => ?_) (by decide) (fun cdv A outer s H E hr => ?_)
  · obtain ⟨x, _, _, _, _, rfl, _⟩ := h; rfl
  have hu := hu_of hr
  have hu64 := hu64_of hr
  refine ⟨_, PSs.nox (pss_cons (ps_if (PW.pt (pw_or (pt_not (pt_val (pe_callB (o_isi K) (by rfl) G.isinstance (by decide +kernel) (pa_cons (pv 0) (pa_cons (pe_tup (pa_cons (pe_type (n := "list") (by rfl) G.list (by decide +kernel)) (pa_cons (pe_type (n := "tuple") (by rfl) G.tuple (by decide +kernel)) pa_nil))) pa_nil))))) (pw_or1 (pt_not (pt_chain op_le op_le pe_int (pe_callB (o_len K) (by rfl) G.len (by decide +kernel) (pa_cons (pv 0) pa_nil)) (pe_globI (by rfl) G.MOST_TABLES))))))
      (pss_one (ps_ret pe_bl))
      pss_nil)
      (pss_one (ps_ret (pe_and (pe_callB (o_all K) (by rfl) G.all (by decide +kernel) (pa_cons (pe_lc (own := [("table", 1)]) (g := gName 1) (tt := tYes) rfl sc_are_tables.nd (p_list K (pv 0)) (blkOk_by (N := ["thing", "table"]) (sc := defScope s_are_tables) (by decide +kernel)) (fun _ _ _ _ _ => (pg_name (i := 1) sc_are_tables.nd rfl (by first | exact Or.inl rfl | exact Or.inr rfl))) (fun _ _ _ _ _ => pts_nil) (fun _ _ _ _ _ => (pe_fun F_is_name hr (by decide) (by rfl) (pa_cons (pv 1) pa_nil)))) pa_nil)) (pe_one (pe_cmpR (o_eq K hu64) (pe_lenSetS K (by rfl) (by rfl) G.len (by rfl) G.set (pv 0)) (pe_callB (o_len K) (by rfl) G.len (by decide +kernel) (pa_cons (pv 0) pa_nil)) (nomark _))))))), ?_⟩
  rintro W ds c P ⟨ts, h1, h2, h3, h4, rfl, rfl, hp⟩
  exact es_are_tables (fun x hx => fn_of_ct ⟨x, hx, rfl, rfl, rfl⟩) h1 h2 h3 h4 hp
abbrev s_is_reference : Stmt := top 12
abbrev n_is_reference : List Str := ["thing", "tables", "part"]
theorem sc_is_reference : FnScope n_is_reference ["thing", "tables"] (defScope s_is_reference) := ⟨rfl, rfl, rfl, by decide +kernel, rfl, by decide +kernel, by decide +kernel⟩
def isRefC (K : PySem.W.Frag) : Ct K := fun _ ds c P => ∃ (ts : List Str) (a b k : Str), a ∈ ts ∧ b ∈ ts ∧ (k = "many" ∨ k = "single") ∧ ds = [.tup [.str a, .str b, .str k], .lst (ts.map Da.str)] ∧ c = 0 ∧ P (.bl true)
theorem ok_is_reference (hK : KindsOk K (He.ga K "KINDS")) (G : Glb K mg) (F : FnP K "is_reference" s_is_reference f fd) : FnOk Pr w K mg base CX0 1 f fd ["thing", "tables"] (spD (isRefC K)) := by
  refine fn_data (k := 0) F sc_is_reference (fun W ds c P h => ?_) (by decide) (fun cdv A outer s H E hr => ?_)
  · obtain ⟨_, _, _, _, _, _, _, rfl, _⟩ := h; rfl
  have hu := hu_of hr
  have hu64 := hu64_of hr
  refine ⟨_, PSs.nox (pss_cons (ps_if (PW.pt (pw_or (pt_not (pt_val (pe_callB (o_isi K) (by rfl) G.isinstance (by decide +kernel) (pa_cons (pv 0) (pa_cons (pe_type (n := "tuple") (by rfl) G.tuple (by decide +kernel)) pa_nil))))) (pw_or (pt_cmpR (o_ne K hu64) (pe_callB (o_len K) (by rfl) G.len (by decide +kernel) (pa_cons (pv 0) pa_nil)) pe_int (nomark _)) (pw_or1 (pt_not (pt_val (pe_callB (o_all K) (by rfl) G.all (by decide +kernel) (pa_cons (pe_lc (own := [("part", 2)]) (g := gName 2) (tt := tYes) rfl sc_is_reference.nd (p_tup K (pv 0)) (blkOk_by (N := ["thing", "tables", "part"]) (sc := defScope s_is_reference) (by decide +kernel)) (fun _ _ _ _ _ => (pg_name (i := 2) sc_is_reference.nd rfl (by first | exact Or.inl rfl | exact Or.inr rfl))) (fun _ _ _ _ _ => pts_nil) (fun _ _ _ _ _ => (pe_callB (o_isi K) (by rfl) G.isinstance (by decide +kernel) (pa_cons (pv 2) (pa_cons (pe_type (n := "str") (by rfl) G.str (by decide +kernel)) pa_nil))))) pa_nil))))))))
      (pss_one (ps_ret pe_bl))
      pss_nil)
      (pss_one (ps_ret (pe_and (pe_cmpR (o_in K hu) (pe_ix (o_ix K hu) (pv 0) pe_int (fun _ _ => rfl)) (pv 1) (by rfl)) (pe_and (pe_cmpR (o_in K hu) (pe_ix (o_ix K hu) (pv 0) pe_int (fun _ _ => rfl)) (pv 1) (by rfl)) (pe_one (pe_cmpR (o_in K hu) (pe_ix (o_ix K hu) (pv 0) pe_int (fun _ _ => rfl)) (pe_globR (by rfl) G.KINDS) (by rfl)))))))), ?_⟩
  rintro W ds c P ⟨ts, a, b, k, h1, h2, h3, rfl, rfl, hp⟩
  exact es_is_reference hK h1 h2 h3 hp
abbrev s_are_references : Stmt := top 13
abbrev n_are_references : List Str := ["thing", "tables", "name"]
theorem sc_are_references : FnScope n_are_references ["thing", "tables"] (defScope s_are_references) := ⟨rfl, rfl, rfl, by decide +kernel, rfl, by decide +kernel, by decide +kernel⟩
def refsC (K : PySem.W.Frag) : Ct K := fun _ ds c P => ∃ (ts : List Str) (rs : List Rf), Parts ts rs ∧ ds = [.dct (refsD rs), .lst (ts.map Da.str)] ∧ c = 0 ∧ P (.bl true)
theorem ok_are_references (G : Glb K mg) (F_is_name : Fnd Pr w K mg base 1 "is_name" ["thing"] (spD (isNameC K))) (F_is_reference : Fnd Pr w K mg base 1 "is_reference" ["thing", "tables"] (spD (isRefC K))) (F : FnP K "are_references" s_are_references f fd) : FnOk Pr w K mg base CX0 2 f fd ["thing", "tables"] (spD (refsC K)) := by
  refine fn_data (k := 1) F sc_are_references (fun W ds c P h => ?_) (by decide) (fun cdv A outer s H E hr => ?_)
  · obtain ⟨_, _, _, rfl, _⟩ := h; rfl
  have hu := hu_of hr
  have hu64 := hu64_of hr
  refine ⟨_, PSs.nox (pss_cons (ps_if (PW.pt (pw_or (pt_not (pt_val (pe_callB (o_isi K) (by rfl) G.isinstance (by decide +kernel) (pa_cons (pv 0) (pa_cons (pe_type (n := "dict") (by rfl) G.dict (by decide +kernel)) pa_nil))))) (pw_or1 (pt_cmpR op_gt (pe_callB (o_len K) (by rfl) G.len (by decide +kernel) (pa_cons (pv 0) pa_nil)) (pe_globI (by rfl) G.MOST_REFERENCES) (nomark _)))))
      (pss_one (ps_ret pe_bl))
      pss_nil)
      (pss_one (ps_ret (pe_callB (o_all K) (by rfl) G.all (by decide +kernel) (pa_cons (pe_lockO (pe_lc (own := [("name", 2)]) (g := gName 2) (tt := tYes) rfl sc_are_references.nd (pi_keys (pv 0)) (blkOk_by (N := ["thing", "tables", "name"]) (sc := defScope s_are_references) (by decide +kernel)) (fun _ _ _ _ _ => (pg_name (i := 2) sc_are_references.nd rfl (by first | exact Or.inl rfl | exact Or.inr rfl))) (fun _ _ _ _ _ => pts_nil) (fun _ _ _ _ _ => (pe_and (pe_fun F_is_name hr (by decide) (by rfl) (pa_cons (pv 2) pa_nil)) (pe_one (pe_fun F_is_reference hr (by decide) (by rfl) (pa_cons (pe_ix (o_ix K hu) (pv 0) (pv 2) (fun _ _ => rfl)) (pa_cons (pv 1) pa_nil)))))))) pa_nil))))), ?_⟩
  rintro W ds c P ⟨ts, rs, h1, rfl, rfl, hp⟩
  exact es_are_references (fun x hx => fn_of_ct ⟨x, hx, rfl, rfl, rfl⟩) (fun ts a b k h1 h2 h3 => fn_of_ct ⟨ts, a, b, k, h1, h2, h3, rfl, rfl, rfl⟩) h1 hp
abbrev s_Schema___init__ : Stmt := inClass (top 14) 0
abbrev n_Schema___init__ : List Str := ["self", "tables", "references", "name"]
theorem sc_Schema___init__ : FnScope n_Schema___init__ ["self", "tables", "references"] (defScope s_Schema___init__) := ⟨rfl, rfl, rfl, by decide +kernel, rfl, by decide +kernel, by decide +kernel⟩
theorem ok_init (cl : Cls K (He.ga K "Schema")) (n1 : NoAttr K (He.ga K "Schema") "own_tables") (n2 : NoAttr K (He.ga K "Schema") "own_references") (G : Glb K mg) (F_are_tables : Fnd Pr w K mg base 2 "are_tables" ["thing"] (spD (tablesC K))) (F_are_references : Fnd Pr w K mg base 2 "are_references" ["thing", "tables"] (spD (refsC K))) (F : FnM K "__init__" "Schema.__init__" s_Schema___init__ f fd) :
    FnOk Pr w K mg base CX0 3 f fd ["self", "tables", "references"] (spI (He.ga K "Schema") (initT K)) := by
  refine fn_init (k := 2) F sc_Schema___init__ (fun W ds c P h => ?_) (by decide) (fun cdv A outer s H E hr => ?_)
  · obtain ⟨_, _, _, rfl, _⟩ := h; rfl
  have hu := hu_of hr
  have hu64 := hu64_of hr
  refine ⟨_, PSs.nox (pss_cons (ps_if (PW.pt (pw_or (pt_not (pt_val (pe_fun F_are_tables hr (by decide) (by rfl) (pa_cons (pv 1) pa_nil)))) (pw_or1 (pt_not (pt_val (pe_fun F_are_references hr (by decide) (by rfl) (pa_cons (pv 2) (pa_cons (pv 1) pa_nil))))))))
      (pss_one ps_never)
      pss_nil)
      (pss_cons (ps_fld (pv 0) (pe_callTy (o_tuple K) (by rfl) G.tuple (by decide +kernel) (pa_cons (pe_callB (o_sorted K) (by rfl) G.sorted (by decide +kernel) (pa_cons (pv 1) pa_nil)) pa_nil)) rfl)
      (pss_one (ps_fld (pv 0) (pe_dc (own := [("name", 3)]) (g := gName 3) (tt := tYes) rfl sc_Schema___init__.nd (p_list K (pe_callB (o_sorted K) (by rfl) G.sorted (by decide +kernel) (pa_cons (pv 2) pa_nil))) (blkOk_by (N := ["self", "tables", "references", "name"]) (sc := defScope s_Schema___init__) (by decide +kernel)) (fun _ _ _ _ _ => (pg_name (i := 3) sc_Schema___init__.nd rfl (by first | exact Or.inl rfl | exact Or.inr rfl))) (fun _ _ _ _ _ => pts_nil) (fun _ _ _ _ _ => (pv 3)) (fun _ _ _ _ _ => (pe_ix (o_ix K hu) (pv 2) (pv 3) (fun _ _ => rfl)))) rfl)))), ?_⟩
  rintro W ds c P aI ⟨ts, rs, h1, rfl, rfl, hp⟩
  exact es_init cl n1 n2 (fun ts a b c d => fn_of_ct ⟨ts, a, b, c, d, rfl, rfl, rfl⟩) (fun ts rs h => fn_of_ct ⟨ts, rs, h, rfl, rfl, rfl⟩) h1 ⟨_, rfl, hp⟩
abbrev s_Schema_references : Stmt := inClass (top 14) 2
abbrev n_Schema_references : List Str := ["self"]
theorem sc_Schema_references : FnScope n_Schema_references ["self"] (defScope s_Schema_references) := ⟨rfl, rfl, rfl, by decide +kernel, rfl, by decide +kernel, by decide +kernel⟩
def refdC (K : PySem.W.Frag) : Ct K := fun _ ds c P => ∃ ts rs, ds = [.ins (He.ga K "Schema") (schF ts rs)] ∧ c = 0 ∧ P (.dct (refsD (sortR rs)))
theorem ok_references (cl : Cls K (He.ga K "Schema")) (n2 : NoAttr K (He.ga K "Schema") "own_references") (G : Glb K mg) (F : FnM K "references" "Schema.references" s_Schema_references f fd) : FnOk Pr w K mg base CX0 1 f fd ["self"] (spD (refdC K)) := by
  refine fn_data (k := 0) F sc_Schema_references (fun W ds c P h => ?_) (by decide) (fun cdv A outer s H E hr => ?_)
  · obtain ⟨_, _, rfl, _⟩ := h; rfl
  refine ⟨_, PSs.nox (pss_one (ps_ret (pe_callTy (o_dictD) (by rfl) G.dict (by decide +kernel) (pa_cons (pe_fld (pv 0) rfl) pa_nil)))), ?_⟩
  rintro W ds c P ⟨ts, rs, rfl, rfl, hp⟩
  exact es_references cl n2 hp
abbrev PRf (Pr : Program) (w : World) (K : PySem.W.Frag) (mg : Str → Option Value) (base : Heap) : Prop := Prp Pr w K mg base 1 (He.ga K "Schema") "references" ["self"] (spD (refdC K))
theorem refd_ok {W : Wd K} : RefdOk W (He.ga K "Schema") (spD (refdC K)) := fun ts rs => fn_of_ct ⟨ts, rs, rfl, rfl, rfl⟩
abbrev s_steps_of : Stmt := top 17
abbrev n_steps_of : List Str := ["schema", "reference", "way"]
theorem sc_steps_of : FnScope n_steps_of ["schema"] (defScope s_steps_of) := ⟨rfl, rfl, rfl, by decide +kernel, rfl, by decide +kernel, by decide +kernel⟩
def stepsC (K : PySem.W.Frag) : CtF K := fun _ ds c P => ∃ (ts : List Str) (rs : List Rf), rs.length ≤ 6 ∧ ds = [.ins (He.ga K "Schema") (schF ts rs)] ∧ c = 0 ∧ P ((everyR rs).map stD)
theorem stepsOf_ok {W : Wd K} : StepsOfOk W (spF (stepsC K)) := fun ts rs h => fnF_of ⟨ts, rs, h, rfl, rfl, rfl⟩
theorem ok_steps_of (G : Glb K mg) (P_Schema_references : PRf Pr w K mg base) (F : FnP K "steps_of" s_steps_of f fd) : FnOk Pr w K mg base CX0 3 f fd ["schema"] (spF (stepsC K)) := by
  refine fn_dataF (k := 2) F sc_steps_of (fun W ds c P h => ?_) (by decide) (fun cdv A outer s H E hr => ?_)
  · obtain ⟨_, _, _, rfl, _⟩ := h; rfl
  have hu := hu_of hr
  have hu64 := hu64_of hr
  refine ⟨_, PSs.nox (pss_one (ps_ret (pe_lc2 (own := [("reference", 1), ("way", 2)]) (vs1 := [2]) (g := gName 1) (g1 := gName 2) (tt := tYes) (tt1 := tYes) rfl sc_steps_of.nd (p_list K (pe_callB (o_sorted K) (by rfl) G.sorted (by decide +kernel) (pa_cons (pe_prp P_Schema_references hr (by decide) (pv 0)) pa_nil))) (blkOk_by (N := ["schema", "reference", "way"]) (sc := defScope s_steps_of) (by decide +kernel)) (by decide) (fun _ _ _ _ _ => (pg_name (i := 1) sc_steps_of.nd rfl (by first | exact Or.inl rfl | exact Or.inr rfl))) (fun _ _ _ _ _ => pts_nil) (fun _ _ _ _ _ => (p_tup K (pe_tup (pa_cons pe_str (pa_cons pe_str pa_nil))))) (fun _ _ _ _ _ => (pg_name (i := 2) sc_steps_of.nd rfl (by first | exact Or.inl rfl | exact Or.inr rfl))) (fun _ _ _ _ _ => pts_nil) (fun _ _ _ _ _ => (pe_tup (pa_cons (pv 1) (pa_cons (pv 2) pa_nil))))))), ?_⟩
  rintro W ds c P ⟨ts, rs, h6, rfl, rfl, hp⟩
  have h := esXF_steps_of (K := K) (W := W) (ts := ts) (E := E) (X := fun _ _ => False) refd_ok h6
  exact fun H0 B0 B σ H M D s hM q x => h H0 B0 B σ H M D s hM (fun l xs es H' a b e g i j => q l xs es H' a b e g i (by rw [show es = _ from j]; exact hp)) x
abbrev s_ends_of : Stmt := top 19
abbrev n_ends_of : List Str := ["schema", "step", "source", "target", "kind"]
theorem sc_ends_of : FnScope n_ends_of ["schema", "step"] (defScope s_ends_of) := ⟨rfl, rfl, rfl, by decide +kernel, rfl, by decide +kernel, by decide +kernel⟩
def endsC (K : PySem.W.Frag) : Ct K := fun _ ds c P => ∃ (ts : List Str) (rs : List Rf) (s : St2), (rs.map fun r => r.1).Nodup ∧ s.1 ∈ rs ∧ ds = [.ins (He.ga K "Schema") (schF ts rs), stD s] ∧ c = 0 ∧ P (.tup [.str (e1 s), .str (e2 s)])
theorem ends_ok {W : Wd K} : EndsOk W (spD (endsC K)) := fun ts rs s h1 h2 => fn_of_ct ⟨ts, rs, s, h1, h2, rfl, rfl, rfl⟩
theorem ok_ends_of (G : Glb K mg) (P_Schema_references : PRf Pr w K mg base) (F : FnP K "ends_of" s_ends_of f fd) : FnOk Pr w K mg base CX0 3 f fd ["schema", "step"] (spD (endsC K)) := by
  refine fn_data (k := 2) F sc_ends_of (fun W ds c P h => ?_) (by decide) (fun cdv A outer s H E hr => ?_)
  · obtain ⟨_, _, _, _, _, rfl, _⟩ := h; rfl
  have hu := hu_of hr
  have hu64 := hu64_of hr
  refine ⟨_, PSs.nox (pss_cons (ps_asg (pe_ix (o_ix K hu) (pe_prp P_Schema_references hr (by decide) (pv 0)) (pe_ix (o_ix K hu) (pv 1) pe_int (fun _ _ => rfl)) (fun _ _ => rfl)) (p_tupT K (e2 := .Name "" ⟨0, 0, 0, 0⟩) (pg_tup rfl (pgs_cons (pg_name (i := 2) sc_ends_of.nd rfl (by first | exact Or.inl rfl | exact Or.inr rfl)) (pgs_cons (pg_name (i := 3) sc_ends_of.nd rfl (by first | exact Or.inl rfl | exact Or.inr rfl)) (pgs_cons (pg_name (i := 4) sc_ends_of.nd rfl (by first | exact Or.inl rfl | exact Or.inr rfl)) pgs_nil))))))
      (pss_one (ps_ret (pe_ifExp (pt_cmpR (o_eq K hu64) (pe_ix (o_ix K hu) (pv 1) pe_int (fun _ _ => rfl)) pe_str (nomark _)) (pe_tup (pa_cons (pv 2) (pa_cons (pv 3) pa_nil))) (pe_tup (pa_cons (pv 3) (pa_cons (pv 2) pa_nil))))))), ?_⟩
  rintro W ds c P ⟨ts, rs, s, h1, h2, rfl, rfl, hp⟩
  exact es_ends_of refd_ok h1 h2 hp
abbrev s_is_many : Stmt := top 20
abbrev n_is_many : List Str := ["schema", "reference"]
theorem sc_is_many : FnScope n_is_many ["schema", "reference"] (defScope s_is_many) := ⟨rfl, rfl, rfl, by decide +kernel, rfl, by decide +kernel, by decide +kernel⟩
def manyC (K : PySem.W.Frag) : Ct K := fun _ ds c P => ∃ (ts : List Str) (rs : List Rf) (r : Rf), (rs.map fun r => r.1).Nodup ∧ r ∈ rs ∧ ds = [.ins (He.ga K "Schema") (schF ts rs), .str r.1] ∧ c = 0 ∧ P (.bl (decide (r.2.2.2 = "many")))
theorem many_ok {W : Wd K} : ManyOk W (spD (manyC K)) := fun ts rs r h1 h2 => fn_of_ct ⟨ts, rs, r, h1, h2, rfl, rfl, rfl⟩
theorem ok_is_many (G : Glb K mg) (P_Schema_references : PRf Pr w K mg base) (F : FnP K "is_many" s_is_many f fd) : FnOk Pr w K mg base CX0 3 f fd ["schema", "reference"] (spD (manyC K)) := by
  refine fn_data (k := 2) F sc_is_many (fun W ds c P h => ?_) (by decide) (fun cdv A outer s H E hr => ?_)
  · obtain ⟨_, _, _, _, _, rfl, _⟩ := h; rfl
  have hu := hu_of hr
  have hu64 := hu64_of hr
  refine ⟨_, PSs.nox (pss_one (ps_ret (pe_cmpR (o_eq K hu64) (pe_ix (o_ix K hu) (pe_ix (o_ix K hu) (pe_prp P_Schema_references hr (by decide) (pv 0)) (pv 1) (fun _ _ => rfl)) pe_int (fun _ _ => rfl)) pe_str (nomark _)))), ?_⟩
  rintro W ds c P ⟨ts, rs, r, h1, h2, rfl, rfl, hp⟩
  exact es_is_many refd_ok h1 h2 hp
abbrev s_may_follow : Stmt := top 21
abbrev n_may_follow : List Str := ["schema", "first", "second"]
theorem sc_may_follow : FnScope n_may_follow ["schema", "first", "second"] (defScope s_may_follow) := ⟨rfl, rfl, rfl, by decide +kernel, rfl, by decide +kernel, by decide +kernel⟩
def mayC (K : PySem.W.Frag) : Ct K := fun _ ds c P => ∃ (ts : List Str) (rs : List Rf) (a b : St2), (rs.map fun r => r.1).Nodup ∧ a.1 ∈ rs ∧ b.1 ∈ rs ∧ ds = [.ins (He.ga K "Schema") (schF ts rs), stD a, stD b] ∧ c = 0 ∧ P (.bl (mayB a b))
theorem may_ok {W : Wd K} : MayOk W (spD (mayC K)) := fun ts rs a b h1 h2 h3 => fn_of_ct ⟨ts, rs, a, b, h1, h2, h3, rfl, rfl, rfl⟩
theorem ok_may_follow (G : Glb K mg) (F_ends_of : Fnd Pr w K mg base 3 "ends_of" ["schema", "step"] (spD (endsC K))) (F_is_many : Fnd Pr w K mg base 3 "is_many" ["schema", "reference"] (spD (manyC K))) (F : FnP K "may_follow" s_may_follow f fd) : FnOk Pr w K mg base CX0 4 f fd ["schema", "first", "second"] (spD (mayC K)) := by
  refine fn_data (k := 3) F sc_may_follow (fun W ds c P h => ?_) (by decide) (fun cdv A outer s H E hr => ?_)
  · obtain ⟨_, _, _, _, _, _, _, rfl, _⟩ := h; rfl
  have hu := hu_of hr
  have hu64 := hu64_of hr
  refine ⟨_, PSs.nox (pss_cons (ps_if (pt_cmpR (o_ne K hu64) (pe_ix (o_ix K hu) (pe_fun F_ends_of hr (by decide) (by rfl) (pa_cons (pv 0) (pa_cons (pv 1) pa_nil))) pe_int (fun _ _ => rfl)) (pe_ix (o_ix K hu) (pe_fun F_ends_of hr (by decide) (by rfl) (pa_cons (pv 0) (pa_cons (pv 2) pa_nil))) pe_int (fun _ _ => rfl)) (nomark _))
      (pss_one (ps_ret pe_bl))
      pss_nil)
      (pss_cons (ps_if (PW.pt (pw_or (pt_cmpR (o_ne K hu64) (pe_ix (o_ix K hu) (pv 1) pe_int (fun _ _ => rfl)) (pe_ix (o_ix K hu) (pv 2) pe_int (fun _ _ => rfl)) (nomark _)) (pw_or1 (pt_cmpR (o_eq K hu64) (pe_ix (o_ix K hu) (pv 1) pe_int (fun _ _ => rfl)) (pe_ix (o_ix K hu) (pv 2) pe_int (fun _ _ => rfl)) (nomark _)))))
      (pss_one (ps_ret pe_bl))
      pss_nil)
      (pss_one (ps_ret (pe_and (pe_cmpR (o_eq K hu64) (pe_ix (o_ix K hu) (pv 1) pe_int (fun _ _ => rfl)) pe_str (nomark _)) (pe_one (pe_fun F_is_many hr (by decide) (by rfl) (pa_cons (pv 0) (pa_cons (pe_ix (o_ix K hu) (pv 1) pe_int (fun _ _ => rfl)) pa_nil))))))))), ?_⟩
  rintro W ds c P ⟨ts, rs, a, b, h1, h2, h3, rfl, rfl, hp⟩
  exact es_may ends_ok many_ok h1 h2 h3 hp
abbrev s_is_step : Stmt := top 18
abbrev n_is_step : List Str := ["schema", "thing"]
theorem sc_is_step : FnScope n_is_step ["schema", "thing"] (defScope s_is_step) := ⟨rfl, rfl, rfl, by decide +kernel, rfl, by decide +kernel, by decide +kernel⟩
def isStepC (K : PySem.W.Frag) : Ct K := fun _ ds c P => ∃ (ts : List Str) (rs : List Rf) (d : Da), rs.length ≤ 6 ∧ (∀ r ∈ rs, okS r.1 = true) ∧ ThingOk K d ∧ ds = [.ins (He.ga K "Schema") (schF ts rs), d] ∧ c = 0 ∧ P (.bl (isStepB rs d))
theorem isStep_ok {W : Wd K} : IsStepOk W (spD (isStepC K)) := fun ts rs d h1 h2 h3 => fn_of_ct ⟨ts, rs, d, h1, h2, h3, rfl, rfl, rfl⟩
theorem ok_is_step (SF : SchF K) (G : Glb K mg) (F_steps_of : Fnd Pr w K mg base 3 "steps_of" ["schema"] (spF (stepsC K))) (F : FnP K "is_step" s_is_step f fd) : FnOk Pr w K mg base CX0 4 f fd ["schema", "thing"] (spD (isStepC K)) := by
  refine fn_data (k := 3) F sc_is_step (fun W ds c P h => ?_) (by decide) (fun cdv A outer s H E hr => ?_)
  · obtain ⟨_, _, _, _, _, _, rfl, _⟩ := h; rfl
  have hu := hu_of hr
  have hu64 := hu64_of hr
  have hu65 := hu65_of hr
  refine ⟨_, PSs.nox (pss_one (ps_ret (pe_and (pe_callB (o_isi K) (by rfl) G.isinstance (by decide +kernel) (pa_cons (pv 1) (pa_cons (pe_type (n := "tuple") (by rfl) G.tuple (by decide +kernel)) pa_nil))) (pe_one (pe_cmpR (o_inX K hu65) (pv 1) (pe_fun F_steps_of hr (by decide) (by rfl) (pa_cons (pv 0) pa_nil)) (by rfl)))))), ?_⟩
  rintro W ds c P ⟨ts, rs, d, h1, h2, h3, rfl, rfl, hp⟩
  exact es_is_step SF stepsOf_ok h1 h2 h3 hp
abbrev s_need_schema : Stmt := top 15
abbrev n_need_schema : List Str := ["thing"]
theorem sc_need_schema : FnScope n_need_schema ["thing"] (defScope s_need_schema) := ⟨rfl, rfl, rfl, by decide +kernel, rfl, by decide +kernel, by decide +kernel⟩
theorem ok_need_schema (SF : SchF K) (X1_NoSchema : X1 K "NoSchema") (MX : Mxs Pr w K mg base) (G : Glb K mg) (F : FnP K "need_schema" s_need_schema f fd) : FnOk Pr w K mg base (L2.CX Pr w) 1 f fd ["thing"] (spY (needC K) (needR K)) := by
  refine fn_dataY (k := 0) F sc_need_schema (fun W ds c P h => ?_) (fun W ds cls fs h => ?_) (by decide) (fun cdv A outer s H E hr => ?_)
  · obtain ⟨_, _, rfl, _⟩ := h; rfl
  · obtain ⟨_, _, _, _, rfl⟩ := h; rfl
  have hu := hu_of hr
  have hu64 := hu64_of hr
  refine ⟨_, (pss_one (ps_if (pt_not (pt_val (pe_callB (o_isi K) (by rfl) G.isinstance (by decide +kernel) (pa_cons (pv 0) (pa_cons (pe_globR (by rfl) G.Schema) pa_nil)))))
      (pss_one (ps_raise rfl (takes_of rfl rfl rfl rfl) (pmk_rz1 MX.NoSchema X1_NoSchema.1 X1_NoSchema.2 (by rfl))))
      pss_nil)), ?_⟩
  refine ⟨?_, ?_⟩
  · rintro W ds c P ⟨ts, rs, rfl, rfl, hp⟩
    exact es_need SF hp
  · rintro W ds cls fs ⟨rfl, rfl, d, hd, rfl⟩
    exact es_needX SF hd ⟨rfl, rfl⟩

abbrev s_is_ring : Stmt := top 22
abbrev n_is_ring : List Str := ["schema", "thing", "some", "step", "k", "first", "second"]
theorem sc_is_ring : FnScope n_is_ring ["schema", "thing"] (defScope s_is_ring) := ⟨rfl, rfl, rfl, by decide +kernel, rfl, by decide +kernel, by decide +kernel⟩
def ringC (K : PySem.W.Frag) : Ct K := fun _ ds c P => ∃ (ts : List Str) (rs : List Rf) (d : Da), (rs.map fun r => r.1).Nodup ∧ rs.length ≤ 6 ∧ (∀ r ∈ rs, okS r.1 = true) ∧ RingV K d ∧ ds = [.ins (He.ga K "Schema") (schF ts rs), d] ∧ c = 0 ∧ P (.bl (ringB rs d))
def ringR (K : PySem.W.Frag) : Wd K → List Da → Value → List (Str × Da) → Prop := fun _ _ _ _ => False
theorem isRing_ok {W : Wd K} : IsRingOk W (spY (ringC K) (ringR K)) := fun ts rs d h1 h2 h3 h4 => fn_of_ctY ⟨ts, rs, d, h1, h2, h3, h4, rfl, rfl, rfl⟩
theorem ok_is_ring (G : Glb K mg) (FX_need_schema : FndX Pr w K mg base 1 "need_schema" ["thing"] (spY (needC K) (needR K))) (F_is_step : Fnd Pr w K mg base 4 "is_step" ["schema", "thing"] (spD (isStepC K))) (F_may_follow : Fnd Pr w K mg base 4 "may_follow" ["schema", "first", "second"] (spD (mayC K))) (F : FnP K "is_ring" s_is_ring f fd) : FnOk Pr w K mg base (L2.CX Pr w) 5 f fd ["schema", "thing"] (spY (ringC K) (ringR K)) := by
  refine fn_dataY (k := 4) F sc_is_ring (fun W ds c P h => ?_) (fun W ds cls fs h => h.elim) (by decide) (fun cdv A outer s H E hr => ?_)
  · obtain ⟨_, _, _, _, _, _, _, rfl, _⟩ := h; rfl
  have hu := hu_of hr
  have hu64 := hu64_of hr
  have hu65 := hu65_of hr
  refine ⟨_, (pss_cons (ps_expr (pe_funS FX_need_schema hr (by decide) (by rfl) (takes_of rfl rfl rfl rfl) (pa_cons (pv 0) pa_nil)))
      (pss_cons (ps_if (PW.pt (pw_or (pt_not (pt_val (pe_callB (o_isi K) (by rfl) G.isinstance (by decide +kernel) (pa_cons (pv 1) (pa_cons (pe_tup (pa_cons (pe_type (n := "list") (by rfl) G.list (by decide +kernel)) (pa_cons (pe_type (n := "tuple") (by rfl) G.tuple (by decide +kernel)) pa_nil))) pa_nil))))) (pw_or (pt_cmpR (o_eq K hu64) (pe_callB (o_len K) (by rfl) G.len (by decide +kernel) (pa_cons (pv 1) pa_nil)) pe_int (nomark _)) (pw_or1 (pt_not (pt_val (pe_callB (o_all K) (by rfl) G.all (by decide +kernel) (pa_cons (pe_lc (own := [("step", 3)]) (g := gName 3) (tt := tYes) rfl sc_is_ring.nd (p_seq K (pv 1)) (blkOk_by (N := ["schema", "thing", "some", "step", "k", "first", "second"]) (sc := defScope s_is_ring) (by decide +kernel)) (fun _ _ _ _ _ => (pg_name (i := 3) sc_is_ring.nd rfl (by first | exact Or.inl rfl | exact Or.inr rfl))) (fun _ _ _ _ _ => pts_nil) (fun _ _ _ _ _ => (pe_fun F_is_step hr (by decide) (by rfl) (pa_cons (pv 0) (pa_cons (pv 3) pa_nil))))) pa_nil))))))))
      (pss_one (ps_ret pe_bl))
      pss_nil)
      (pss_cons (ps_set (i := 2) sc_is_ring.nd rfl (by first | exact Or.inl rfl | exact Or.inr rfl) (pe_callTy (o_list K) (by rfl) G.list (by decide +kernel) (pa_cons (pv 1) pa_nil)))
      (pss_cons (ps_if (pt_val (pe_callB (o_any K) (by rfl) G.any (by decide +kernel) (pa_cons (pe_lc (own := [("k", 4), ("step", 3)]) (g := gTup K 2 (gCons (gName 4) (gCons (gName 3) (gNil)))) (tt := tYes) rfl sc_is_ring.nd (p_enum K (by rfl) G.enumerate (pa_cons (pv 2) pa_nil)) (blkOk_by (N := ["schema", "thing", "some", "step", "k", "first", "second"]) (sc := defScope s_is_ring) (by decide +kernel)) (fun _ _ _ _ _ => (p_tupT K (e2 := .Name "" ⟨0, 0, 0, 0⟩) (pg_tup rfl (pgs_cons (pg_name (i := 4) sc_is_ring.nd rfl (by first | exact Or.inl rfl | exact Or.inr rfl)) (pgs_cons (pg_name (i := 3) sc_is_ring.nd rfl (by first | exact Or.inl rfl | exact Or.inr rfl)) pgs_nil))))) (fun _ _ _ _ _ => pts_nil) (fun _ _ _ _ _ => (pe_cmpR (o_inX K hu65) (pv 3) (pe_slice (o_sl K) (pv 2) po_none (po_some (pv 4))) (by rfl)))) pa_nil)))
      (pss_one (ps_ret pe_bl))
      pss_nil)
      (pss_one (ps_ret (pe_callB (o_all K) (by rfl) G.all (by decide +kernel) (pa_cons (pe_lc (own := [("first", 5), ("second", 6)]) (g := gTup K 2 (gCons (gName 5) (gCons (gName 6) (gNil)))) (tt := tYes) rfl sc_is_ring.nd (pi_zip (by rfl) G.zip (pa_cons (pv 2) (pa_cons (pe_op (o_add K) (pe_slice (o_sl K) (pv 2) (po_some pe_int) po_none) (pe_slice (o_sl K) (pv 2) po_none (po_some pe_int))) pa_nil))) (blkOk_by (N := ["schema", "thing", "some", "step", "k", "first", "second"]) (sc := defScope s_is_ring) (by decide +kernel)) (fun _ _ _ _ _ => (p_tupT K (e2 := .Name "" ⟨0, 0, 0, 0⟩) (pg_tup rfl (pgs_cons (pg_name (i := 5) sc_is_ring.nd rfl (by first | exact Or.inl rfl | exact Or.inr rfl)) (pgs_cons (pg_name (i := 6) sc_is_ring.nd rfl (by first | exact Or.inl rfl | exact Or.inr rfl)) pgs_nil))))) (fun _ _ _ _ _ => pts_nil) (fun _ _ _ _ _ => (pe_fun F_may_follow hr (by decide) (by rfl) (pa_cons (pv 0) (pa_cons (pv 5) (pa_cons (pv 6) pa_nil)))))) pa_nil)))))))), ?_⟩
  refine ⟨?_, ?_⟩
  · rintro W ds c P ⟨ts, rs, d, h1, h2, h3, h4, rfl, rfl, hp⟩
    exact esX_is_ring isStep_ok may_ok h1 h2 h3 h4 hp
  · rintro W ds cls fs h
    exact h.elim
end
end M23
set_option Elab.async false
set_option linter.all false
set_option maxRecDepth 100000
set_option maxHeartbeats 4000000
/-! N23: each def of the law keeps its promise -/
namespace N23
open PySem L2 TL WJ LamX
open P23 M23
structure Glb (K : PySem.W.Frag) (mg : Str → Option Value) : Prop where
  abs : mg "abs" = none
  dict : mg "dict" = none
  int : mg "int" = none
  isinstance : mg "isinstance" = none
  len : mg "len" = none
  list : mg "list" = none
  max : mg "max" = none
  min : mg "min" = none
  range : mg "range" = none
  repr : mg "repr" = none
  set : mg "set" = none
  sorted : mg "sorted" = none
  tuple : mg "tuple" = none
  zip : mg "zip" = none
section
variable {Pr : Program} {w : World} {K : PySem.W.Frag} {mg : Str → Option Value} {base : Heap} {f : Addr} {fd : FuncData} {W : Wd K} {Γ : List En}
def spSrc2 (K : PySem.W.Frag) : Sp := fun vs H Q _ => ∃ (a : Addr) (ns : List Int), vs = [.ref a] ∧ SqL K H a (ns.map V.int) ∧ ns.length ≤ 63 ∧ ∀ p g l H', Kp [] H H' → H p = none → H g = none → H l = none → (DW2 K p g l).Dr 100000 H' → Q (.ref p) H'
def celF : Da → Da
  | .int n => .int (absI n % 2147483629)
  | _ => .non
def cels (ns : List Int) : List Int := (ns.map fun n => absI n % 2147483629) ++ [(ns.length : Int)]
theorem cels_eq (ns : List Int) : (ns.map Da.int).map celF ++ [.int (ns.length : Int)] = (cels ns).map Da.int := by
  unfold cels
  rw [List.map_append, List.map_map, List.map_map]
  rfl
theorem evF_cels {ns : List Int} {x : En} (hl : ns.length ≤ 63) : EvF W (tOp (rAddA K) (tLc (iList K (tVar 0)) (gName 2) tYes (tOp (rI (fun _ j => 0 < j) fun i j => .int (i % j)) (tCB (rIntA) (tCons (tCB (rAbs) (tCons (tVar 2) tNil)) tNil)) (tC (.int 2147483629))) [2]) (tLst (tCons (tCB (rLenA K) (tCons (tVar 0) tNil)) tNil))) [.dat (.lst (ns.map Da.int)), x, .no] 0 (· = (cels ns).map Da.int) := by
  rw [← cels_eq]
  have hm := evF_map (K := K) (W := W) (Γ := [.dat (.lst (ns.map Da.int)), x, .no]) (Γ' := []) (i := 2) (n := 63) (c0 := 0) (cb := 0) (wi := iList K (tVar 0)) (te := tOp (rI (fun _ j => 0 < j) fun i j => .int (i % j)) (tCB (rIntA) (tCons (tCB (rAbs) (tCons (tVar 2) tNil)) tNil)) (tC (.int 2147483629))) (ds := ns.map Da.int) (f := celF) (ei_list ((ev_var rfl).imp fun d e => ⟨_, e, rfl⟩)) (fun d hd => by
    obtain ⟨n, _, rfl⟩ := List.mem_map.mp hd
    exact ev_int3 (c1 := 0) (c2 := 0) (ev_cbE (ea_cons2 (c1 := 0) (c2 := 0) (ev_cbE (ea_cons2 (c1 := 0) (c2 := 0) (ev_var rfl) ea_nil) rc_abs) ea_nil) rc_int) ev_int (by show (0 : Int) < 2147483629; decide) (fun _ _ => by unfold Dat; rfl)) (by rw [List.length_map]; exact hl) (by decide)
  refine evF_addL (c1 := 0) (c2 := 0) hm.ev' (evF_lst (P := (· = [.int (ns.length : Int)])) (ea_cons2 (c1 := 0) (c2 := 0) (ev_cbE (ea_cons2 (c1 := 0) (c2 := 0) (ev_var rfl) ea_nil) (rc_lenL (by rw [List.length_map]))) ea_nil) (fun ds e => by rw [e]; simp)).ev' ?_
  rw [List.length_map, List.length_map, List.length_singleton]
  omega
theorem merge2 (g l : Addr) : mergeK [] (kv2 g l 0) = kv2 g l 0 := by
  have h1 : ¬ (Sum.inr "digits" : Key) = (Sum.inr "cells" : Key) := k_dc
  have h2 : ¬ (Sum.inr "digits" : Key) = (Sum.inr "turn" : Key) := k_dt
  have h3 : ¬ (Sum.inr "cells" : Key) = (Sum.inr "turn" : Key) := k_ct
  simp [mergeK, kv2, L2.putK, h1, h2, h3]
abbrev s__law_source : Stmt := top 24
abbrev n__law_source : List Str := ["_law_script", "_law_digits", "_law_cell"]
theorem sc__law_source : FnScope n__law_source ["_law_script"] (defScope s__law_source) := ⟨rfl, rfl, rfl, by decide +kernel, rfl, by decide +kernel, by decide +kernel⟩
theorem ok_source (G : Glb K mg) (F : FnP K "_law_source" s__law_source f fd) : FnOk Pr w K mg base CX0 1 f fd ["_law_script"] (spSrc2 K) := by
  refine F.ok sc__law_source (fun vs H Q E h => ?_) (fun cdv A outer s H vs Q E hr h => ?_)
  · obtain ⟨a, ns, rfl, _⟩ := h; rfl
  have hu := hu_of hr
  have hu64 := hu64_of hr
  refine ⟨_, PSs.nox (pss_cons (ps_setLc (i := 1) (own := [("_law_cell", 2)]) (g := gName 2)  rfl sc__law_source.nd rfl rfl (sw_true rfl rfl rfl (by decide +kernel)) (p_list K (pv 0)) (blkOk_by (N := ["_law_script", "_law_digits", "_law_cell"]) (sc := defScope s__law_source) (by decide +kernel)) (fun _ _ _ _ _ => (pg_name (i := 2) sc__law_source.nd rfl (by first | exact Or.inl rfl | exact Or.inr rfl))) (fun _ _ _ _ _ => (pts_one (pt_cmpR op_ge (pe_callB (o_abs) (by rfl) G.abs (by decide +kernel) (pa_cons (pv 2) pa_nil)) (pe_op op_pow pe_int pe_int) (nomark _)))) (fun _ _ _ _ _ => (pe_op op_fdivW (pe_callB (o_abs) (by rfl) G.abs (by decide +kernel) (pa_cons (pv 2) pa_nil)) (pe_op op_pow pe_int pe_int))))
      (pss_one (ps_ret (pe_disp (pps_cons pe_str (pv 1) (pps_cons pe_str (pe_op (o_add K) (pe_lc (own := [("_law_cell", 2)]) (g := gName 2) (tt := tYes) rfl sc__law_source.nd (p_list K (pv 0)) (blkOk_by (N := ["_law_script", "_law_digits", "_law_cell"]) (sc := defScope s__law_source) (by decide +kernel)) (fun _ _ _ _ _ => (pg_name (i := 2) sc__law_source.nd rfl (by first | exact Or.inl rfl | exact Or.inr rfl))) (fun _ _ _ _ _ => pts_nil) (fun _ _ _ _ _ => (pe_op op_mod (pe_callTy (o_int) (by rfl) G.int (by decide +kernel) (pa_cons (pe_callB (o_abs) (by rfl) G.abs (by decide +kernel) (pa_cons (pv 2) pa_nil)) pa_nil)) pe_int))) (pe_lst (pa_cons (pe_callB (o_len K) (by rfl) G.len (by decide +kernel) (pa_cons (pv 0) pa_nil)) pa_nil))) (pps_cons pe_str pe_int pps_nil))) (by rfl) (by rfl) (fun z => by cases z) (by decide))))), ?_⟩
  obtain ⟨a, ns, rfl, hS, hl, q⟩ := h
  have s0 : Sg (W0 K) H [] [] (L2.start n__law_source [.ref a]) (startE n__law_source [.lst (ns.map Da.int)]) H 0 := Sg.start ⟨trivial, fun b hb => hb, fun b hb => nomatch hb⟩ (.cons (script_dat hS fun b hb => nomatch hb) .nil) (by show 1 ≤ 3; decide)
  unfold tSeq tAsg
  refine evF_digs (W := W0 K) hl H [] [] _ H 0 s0 (Nat.le_refl _) _ fun g xs ds H1 ng k1 r1 hg hds e => ?_
  subst e
  have eg := WJ.dats_ints hds
  subst eg
  have s1 : Sg (W0 K) H [] [g] ((L2.start n__law_source [.ref a]).set 1 (some (.ref g))) ((startE n__law_source [.lst (ns.map Da.int)]).set 1 (.own ((digs ns).map Da.int))) H1 0 := s0.setOwn ng k1 trivial rfl ⟨g, _, rfl, List.mem_cons_self, hg, hds⟩ (by rw [hg]; exact Option.some_ne_none _)
  intro p np
  have s2 : Sg (W0 K) H [] (p :: [g]) ((L2.start n__law_source [.ref a]).set 1 (some (.ref g))) ((startE n__law_source [.lst (ns.map Da.int)]).set 1 (.own ((digs ns).map Da.int))) (upd H1 p (.dK [])) 0 := s1.bar np (Kp.new np) trivial (by rw [upd_same]; exact Option.some_ne_none _)
  refine ⟨.ref g, rfl, ?_⟩
  refine evF_cels (W := W0 K) hl H [] (p :: [g]) _ (upd H1 p (.dK [])) 0 s2 (Nat.le_refl _) _ fun l ys es H2 nl k2 r2 hl2 hes e2 => ?_
  subst e2
  have el := WJ.dats_ints hes
  subst el
  have lp : l ≠ p := fun z => by
    rw [z, upd_same] at nl
    cases nl
  have nl1 : H1 l = none := by rw [upd_ne lp] at nl; exact nl
  have gp : g ≠ p := fun z => by rw [z, np] at hg; cases hg
  have gl : g ≠ l := fun z => by rw [z, nl1] at hg; cases hg
  have hp2 : H2 p = some (.dK []) := k2 p _ (fun z => nomatch z) upd_same
  have hg2 : H2 g = some (.lst ((digs ns).map V.int)) := k2 g _ (fun z => nomatch z) (by rw [upd_ne gp]; exact hg)
  refine ⟨hp2, kv2 g l 0, rfl, (by show 3 ≤ 15; decide), ?_⟩
  rw [merge2]
  refine q p g l _ (fun b o _ e => ?_) (Kp.back k1 np) ng (Kp.back k1 nl1) ⟨digs ns, cels ns, 0, upd_same, by rw [upd_ne gp]; exact hg2, by rw [upd_ne lp]; exact hl2, ?_, ?_, ?_, ?_, by decide, by decide, gl⟩
  · have e1 := k1 b o (fun z => nomatch z) e
    have bp : b ≠ p := fun z => by rw [z, np] at e1; cases e1
    rw [upd_ne bp]
    exact k2 b o (fun z => nomatch z) (by rw [upd_ne bp]; exact e1)
  · intro d hd
    unfold digs at hd
    obtain ⟨n, _, rfl⟩ := List.mem_map.mp hd
    exact Int.ediv_nonneg (absI_nonneg n) (by decide)
  · intro c hc
    unfold cels at hc
    rcases List.mem_append.mp hc with z | z
    · obtain ⟨n, _, rfl⟩ := List.mem_map.mp z
      have h1 := Int.emod_nonneg (absI n) (show (2147483629 : Int) ≠ 0 by decide)
      have h2 := Int.emod_lt_of_pos (absI n) (show (0 : Int) < 2147483629 by decide)
      omega
    · rw [List.mem_singleton.mp z]
      omega
  · unfold cels
    simp
  · unfold cels
    rw [List.length_append, List.length_map, List.length_singleton]
    omega
abbrev s__law_next : Stmt := top 25
abbrev n__law_next : List Str := ["_law_draw", "_law_size", "_law_found", "_law_cell", "_law_mixed"]
theorem sc__law_next : FnScope n__law_next ["_law_draw", "_law_size"] (defScope s__law_next) := ⟨rfl, rfl, rfl, by decide +kernel, rfl, by decide +kernel, by decide +kernel⟩
def nextC (K : PySem.W.Frag) : Ct K := fun W ds c P => ∃ (p g l : Addr) (n : Int), W = DW2 K p g l ∧ 0 < n ∧ n < 2 ^ 62 ∧ ds = [.obj p, .int n] ∧ c = 1 ∧ ∀ k, 0 ≤ k → k < n → P (.int k)
theorem ok_next (G : Glb K mg) (F : FnP K "_law_next" s__law_next f fd) : FnOk Pr w K mg base CX0 1 f fd ["_law_draw", "_law_size"] (spD (nextC K)) := by
  refine fn_data (k := 0) F sc__law_next (fun W ds c P h => ?_) (by decide) (fun cdv A outer s H E hr => ?_)
  · obtain ⟨_, _, _, _, _, _, _, rfl, _⟩ := h; rfl
  have hu := hu_of hr
  have hu64 := hu64_of hr
  refine ⟨_, PSs.nox (pss_cons (ps_while PassesOwn.never (PW.pt (pw_and (pt_cmpR (o_ne K hu64) (pe_ix (o_ix K hu) (pv 0) pe_str (fun _ _ => rfl)) (pe_lst pa_nil) (nomark _)) (pw_and1 (pt_cmpR (o_eq K hu64) (pe_ix (o_ix K hu) (pe_ix (o_ix K hu) (pv 0) pe_str (fun _ _ => rfl)) pe_int (fun _ _ => rfl)) pe_int (nomark _)))))
      (pss_one (ps_expr (pe_bm PySem.F.plainAttrs_list PySem.F.slot_list_pop PySem.F.type_list_pop mt_popAt (pe_ix (o_ix K hu) (pv 0) pe_str (fun _ _ => rfl)) (pa_cons pe_int pa_nil)))))
      (pss_cons (ps_if (pt_cmpR (o_ne K hu64) (pe_ix (o_ix K hu) (pv 0) pe_str (fun _ _ => rfl)) (pe_lst pa_nil) (nomark _))
      (pss_cons (ps_set (i := 2) sc__law_next.nd rfl (by first | exact Or.inl rfl | exact Or.inr rfl) (pe_op op_mod (pe_callTy (o_int) (by rfl) G.int (by decide +kernel) (pa_cons (pe_ix (o_ix K hu) (pe_ix (o_ix K hu) (pv 0) pe_str (fun _ _ => rfl)) pe_int (fun _ _ => rfl)) pa_nil)) (pv 1)))
      (pss_cons (ps_asg (pe_op op_fdivW (pe_ix (o_ix K hu) (pe_ix (o_ix K hu) (pv 0) pe_str (fun _ _ => rfl)) pe_int (fun _ _ => rfl)) (pv 1)) (pg_sub (pe_ix (o_ix K hu) (pv 0) pe_str (fun _ _ => rfl)) pe_int set_list))
      (pss_one (ps_ret (pv 2)))))
      pss_nil)
      (pss_cons (ps_daug hu (pv 0) pe_str pe_int in_add (fun _ _ _ => rfl))
      (pss_cons (ps_set (i := 3) sc__law_next.nd rfl (by first | exact Or.inl rfl | exact Or.inr rfl) (pe_ix (o_ix K hu) (pe_ix (o_ix K hu) (pv 0) pe_str (fun _ _ => rfl)) (pe_op op_mod (pe_callTy (o_int) (by rfl) G.int (by decide +kernel) (pa_cons (pe_ix (o_ix K hu) (pv 0) pe_str (fun _ _ => rfl)) pa_nil)) (pe_callB (o_len K) (by rfl) G.len (by decide +kernel) (pa_cons (pe_ix (o_ix K hu) (pv 0) pe_str (fun _ _ => rfl)) pa_nil))) (fun _ _ => rfl)))
      (pss_cons (ps_set (i := 4) sc__law_next.nd rfl (by first | exact Or.inl rfl | exact Or.inr rfl) (pe_op op_mod (pe_callTy (o_int) (by rfl) G.int (by decide +kernel) (pa_cons (pe_op op_pow (pe_op (o_add K) (pv 3) (pe_op op_mulW pe_int (pe_ix (o_ix K hu) (pv 0) pe_str (fun _ _ => rfl)))) pe_int) pa_nil)) pe_int))
      (pss_one (ps_ret (pe_op op_mod (pe_callTy (o_int) (by rfl) G.int (by decide +kernel) (pa_cons (pe_op op_fdivW (pe_op op_mod (pe_callTy (o_int) (by rfl) G.int (by decide +kernel) (pa_cons (pe_op op_pow (pe_op (o_add K) (pv 4) (pe_op op_mulW pe_int (pe_ix (o_ix K hu) (pv 0) pe_str (fun _ _ => rfl)))) pe_int) pa_nil)) pe_int) pe_int) pa_nil)) (pv 1))))))))), ?_⟩
  rintro W ds c P ⟨p, g, l, n, rfl, h1, h2, rfl, rfl, hp⟩
  have h := es_next2 (K := K) (p := p) (g := g) (l := l) h1 h2
  exact fun H0 B0 B σ H M D s hM a b e f => h H0 B0 B σ H M D s hM (fun _ _ _ _ _ _ z => z.elim) (fun v d H' k r hd ⟨i, e1, e2, e3⟩ => b v d H' k r hd (by rw [e1]; exact hp i e2 e3)) (fun _ _ _ _ _ _ z => z.elim) (fun _ _ _ _ _ _ z => z.elim)
theorem next_ok {p g l : Addr} : NextOk (DW2 K p g l) p (spD (nextC K)) := fun n P h1 h2 h3 => fn_of_ct ⟨p, g, l, n, rfl, h1, h2, rfl, rfl, h3⟩
abbrev s__law_pick : Stmt := top 26
abbrev n__law_pick : List Str := ["_law_draw", "_law_some"]
theorem sc__law_pick : FnScope n__law_pick ["_law_draw", "_law_some"] (defScope s__law_pick) := ⟨rfl, rfl, rfl, by decide +kernel, rfl, by decide +kernel, by decide +kernel⟩
def pickC (K : PySem.W.Frag) : Ct K := fun W ds c P => ∃ (p g l : Addr) (d : Da) (xs : List Da), W = DW2 K p g l ∧ seqD d = some xs ∧ xs ≠ [] ∧ xs.length ≤ 100000 ∧ ds = [.obj p, d] ∧ c = 1 ∧ ∀ x ∈ xs, P x
theorem ok_pick (G : Glb K mg) (F__law_next : Fnd Pr w K mg base 1 "_law_next" ["_law_draw", "_law_size"] (spD (nextC K))) (F : FnP K "_law_pick" s__law_pick f fd) : FnOk Pr w K mg base CX0 2 f fd ["_law_draw", "_law_some"] (spD (pickC K)) := by
  refine fn_data (k := 1) F sc__law_pick (fun W ds c P h => ?_) (by decide) (fun cdv A outer s H E hr => ?_)
  · obtain ⟨_, _, _, _, _, _, _, _, _, rfl, _⟩ := h; rfl
  have hu := hu_of hr
  refine ⟨_, PSs.nox (pss_one (ps_ret (pe_ix (o_ix K hu) (pv 1) (pe_fun F__law_next hr (by decide) (by rfl) (pa_cons (pv 0) (pa_cons (pe_callB (o_len K) (by rfl) G.len (by decide +kernel) (pa_cons (pv 1) pa_nil)) pa_nil))) (fun _ _ => rfl)))), ?_⟩
  rintro W ds c P ⟨p, g, l, d, xs, rfl, h1, h2, h3, rfl, rfl, hp⟩
  exact es_pick next_ok h1 h2 h3 hp
theorem pick_ok {p g l : Addr} : PickOk (DW2 K p g l) p (spD (pickC K)) := fun d xs P h1 h2 h3 h4 => fn_of_ct ⟨p, g, l, d, xs, rfl, h1, h2, h3, rfl, rfl, h4⟩
abbrev s__law_shuffled : Stmt := top 27
abbrev n__law_shuffled : List Str := ["_law_draw", "_law_some", "_law_left", "_law_found"]
theorem sc__law_shuffled : FnScope n__law_shuffled ["_law_draw", "_law_some"] (defScope s__law_shuffled) := ⟨rfl, rfl, rfl, by decide +kernel, rfl, by decide +kernel, by decide +kernel⟩
def shufC (K : PySem.W.Frag) : Ct K := fun W ds c P => ∃ (p g l : Addr) (xs : List Str), W = DW2 K p g l ∧ xs.length ≤ 11 ∧ xs.all okS = true ∧ ds = [.obj p, .lst (xs.map Da.str)] ∧ c = 12 ∧ ∀ ys : List Str, ys.Perm xs → P (.lst (ys.map Da.str))
theorem ok_shuffled (G : Glb K mg) (F__law_next : Fnd Pr w K mg base 1 "_law_next" ["_law_draw", "_law_size"] (spD (nextC K))) (F : FnP K "_law_shuffled" s__law_shuffled f fd) : FnOk Pr w K mg base CX0 2 f fd ["_law_draw", "_law_some"] (spD (shufC K)) := by
  refine fn_data (k := 1) F sc__law_shuffled (fun W ds c P h => ?_) (by decide) (fun cdv A outer s H E hr => ?_)
  · obtain ⟨_, _, _, _, _, _, _, rfl, _⟩ := h; rfl
  have hu := hu_of hr
  have hu64 := hu64_of hr
  refine ⟨_, PSs.nox (pss_cons (ps_par (i := 2) (j := 3) (by rfl) sc__law_shuffled.nd rfl rfl (by decide) rfl rfl (pa_cons (pe_callTy (o_list K) (by rfl) G.list (by decide +kernel) (pa_cons (pv 1) pa_nil)) (pa_cons (pe_lst pa_nil) pa_nil)) (by rfl))
      (pss_cons (ps_while PassesOwn.never (pt_cmpR (o_ne K hu64) (pv 2) (pe_lst pa_nil) (nomark _))
      (pss_one (ps_expr (pe_bm PySem.F.plainAttrs_list PySem.F.slot_list_append PySem.F.type_list_append mt_append (pv 3) (pa_cons (pe_bm PySem.F.plainAttrs_list PySem.F.slot_list_pop PySem.F.type_list_pop mt_popAt (pv 2) (pa_cons (pe_fun F__law_next hr (by decide) (by rfl) (pa_cons (pv 0) (pa_cons (pe_callB (o_len K) (by rfl) G.len (by decide +kernel) (pa_cons (pv 2) pa_nil)) pa_nil))) pa_nil)) pa_nil)))))
      (pss_one (ps_ret (pv 3))))), ?_⟩
  rintro W ds c P ⟨p, g, l, xs, rfl, h1, h2, rfl, rfl, hp⟩
  exact (es_shuffled next_ok (by omega) h2 hp).weak (by omega)
theorem shuf_ok {p g l : Addr} : ShufOk (DW2 K p g l) p (spD (shufC K)) := fun xs P h1 h2 h3 => fn_of_ct ⟨p, g, l, xs, rfl, h1, h2, rfl, rfl, h3⟩
abbrev s__law_parts : Stmt := top 28
abbrev n__law_parts : List Str := ["_law_draw", "_law_most", "_law_names", "_law_tables", "_law_references", "_law_labels", "_law_shape", "_law_label", "_law_kind", "_law_k", "_law_ends_here"]
theorem sc__law_parts : FnScope n__law_parts ["_law_draw", "_law_most"] (defScope s__law_parts) := ⟨rfl, rfl, rfl, by decide +kernel, rfl, by decide +kernel, by decide +kernel⟩
def partsC (K : PySem.W.Frag) : Ct K := fun W ds c P => ∃ (p g l : Addr), W = DW2 K p g l ∧ ds = [.obj p, .int 5] ∧ c = 62 ∧ ∀ ts rs, Parts ts rs → (∀ r ∈ rs, r.1 ∈ labL) → P (.tup [.lst (ts.map Da.str), .dct (refsD rs)])
theorem ok_parts (G : Glb K mg) (F__law_next : Fnd Pr w K mg base 1 "_law_next" ["_law_draw", "_law_size"] (spD (nextC K))) (F__law_pick : Fnd Pr w K mg base 2 "_law_pick" ["_law_draw", "_law_some"] (spD (pickC K))) (F__law_shuffled : Fnd Pr w K mg base 2 "_law_shuffled" ["_law_draw", "_law_some"] (spD (shufC K))) (F : FnP K "_law_parts" s__law_parts f fd) : FnOk Pr w K mg base CX0 3 f fd ["_law_draw", "_law_most"] (spD (partsC K)) := by
  refine fn_data (k := 2) F sc__law_parts (fun W ds c P h => ?_) (by decide) (fun cdv A outer s H E hr => ?_)
  · obtain ⟨_, _, _, _, rfl, _⟩ := h; rfl
  have hu := hu_of hr
  have hu64 := hu64_of hr
  refine ⟨_, PSs.nox (pss_cons (ps_set (i := 2) sc__law_parts.nd rfl (by first | exact Or.inl rfl | exact Or.inr rfl) (pe_lst (pa_cons pe_str (pa_cons pe_str (pa_cons pe_str (pa_cons pe_str (pa_cons pe_str (pa_cons pe_str (pa_cons pe_str pa_nil)))))))))
      (pss_cons (ps_par (i := 3) (j := 4) (by rfl) sc__law_parts.nd rfl rfl (by decide) rfl rfl (pa_cons (pe_slice (o_sl K) (pe_fun F__law_shuffled hr (by decide) (by rfl) (pa_cons (pv 0) (pa_cons (pv 2) pa_nil))) po_none (po_some (pe_op (o_add K) pe_int (pe_fun F__law_next hr (by decide) (by rfl) (pa_cons (pv 0) (pa_cons (pv 1) pa_nil)))))) (pa_cons pe_dnewK pa_nil)) (by rfl))
      (pss_cons (ps_par (i := 5) (j := 6) (by rfl) sc__law_parts.nd rfl rfl (by decide) rfl rfl (pa_cons (pe_fun F__law_shuffled hr (by decide) (by rfl) (pa_cons (pv 0) (pa_cons (pe_lst (pa_cons pe_str (pa_cons pe_str (pa_cons pe_str (pa_cons pe_str (pa_cons pe_str (pa_cons pe_str (pa_cons pe_str pa_nil)))))))) pa_nil))) (pa_cons (pe_fun F__law_next hr (by decide) (by rfl) (pa_cons (pv 0) (pa_cons pe_int pa_nil))) pa_nil)) (by rfl))
      (pss_cons (ps_if (pt_cmpR (o_eq K hu64) (pv 6) pe_int (nomark _))
      (pss_cons (ps_for PassesOwn.never rfl (p_list K (pe_slice (o_sl K) (pv 5) po_none (po_some (pe_fun F__law_next hr (by decide) (by rfl) (pa_cons (pv 0) (pa_cons pe_int pa_nil)))))) (pg_name (i := 7) sc__law_parts.nd rfl (by first | exact Or.inl rfl | exact Or.inr rfl))
      (pss_cons (ps_set (i := 8) sc__law_parts.nd rfl (by first | exact Or.inl rfl | exact Or.inr rfl) (pe_fun F__law_pick hr (by decide) (by rfl) (pa_cons (pv 0) (pa_cons (pe_lst (pa_cons pe_str (pa_cons pe_str pa_nil))) pa_nil))))
      (pss_one (ps_dput hu (pv 4) (pv 7) (pe_tup (pa_cons (pe_fun F__law_pick hr (by decide) (by rfl) (pa_cons (pv 0) (pa_cons (pv 3) pa_nil))) (pa_cons (pe_fun F__law_pick hr (by decide) (by rfl) (pa_cons (pv 0) (pa_cons (pv 3) pa_nil))) (pa_cons (pv 8) pa_nil)))) rfl))))
      (pss_one (ps_ret (pe_tup (pa_cons (pv 3) (pa_cons (pv 4) pa_nil))))))
      pss_nil)
      (pss_cons (ps_for PassesOwn.never rfl (pi_range2 (by rfl) G.range (pa_cons pe_int (pa_cons (pe_callB (o_len K) (by rfl) G.len (by decide +kernel) (pa_cons (pv 3) pa_nil)) pa_nil))) (pg_name (i := 9) sc__law_parts.nd rfl (by first | exact Or.inl rfl | exact Or.inr rfl))
      (pss_cons (ps_set (i := 10) sc__law_parts.nd rfl (by first | exact Or.inl rfl | exact Or.inr rfl) (pe_lst (pa_cons (pe_ix (o_ix K hu) (pv 3) (pv 9) (fun _ _ => rfl)) (pa_cons (pe_fun F__law_pick hr (by decide) (by rfl) (pa_cons (pv 0) (pa_cons (pe_slice (o_sl K) (pv 3) po_none (po_some (pv 9))) pa_nil))) pa_nil))))
      (pss_cons (ps_if (PW.pt (pw_and (pt_cmpR op_gt (pv 6) pe_int (nomark _)) (pw_and1 (pt_cmpR (o_eq K hu64) (pe_fun F__law_next hr (by decide) (by rfl) (pa_cons (pv 0) (pa_cons pe_int pa_nil))) pe_int (nomark _)))))
      (pss_one (ps_set (i := 10) sc__law_parts.nd rfl (by first | exact Or.inl rfl | exact Or.inr rfl) (p_revL K (pv 10))))
      pss_nil)
      (pss_cons (ps_set (i := 8) sc__law_parts.nd rfl (by first | exact Or.inl rfl | exact Or.inr rfl) (pe_fun F__law_pick hr (by decide) (by rfl) (pa_cons (pv 0) (pa_cons (p_stepL K (pe_lst (pa_cons pe_str (pa_cons pe_str (pa_cons pe_str (pa_cons pe_str pa_nil))))) (pe_ix (o_ix K hu) (pe_lst (pa_cons pe_int (pa_cons pe_int (pa_cons (pe_un un_neg pe_int) (pa_cons pe_int pa_nil))))) (pv 6) (fun _ _ => rfl))) pa_nil))))
      (pss_one (ps_if (pt_cmpR op_gt (pe_fun F__law_next hr (by decide) (by rfl) (pa_cons (pv 0) (pa_cons pe_int pa_nil))) pe_int (nomark _))
      (pss_one (ps_dput hu (pv 4) (pe_ix (o_ix K hu) (pv 5) (pv 9) (fun _ _ => rfl)) (pe_tup (pa_cons (pe_ix (o_ix K hu) (pv 10) pe_int (fun _ _ => rfl)) (pa_cons (pe_ix (o_ix K hu) (pv 10) pe_int (fun _ _ => rfl)) (pa_cons (pv 8) pa_nil)))) rfl))
      pss_nil))))))
      (pss_one (ps_ret (pe_tup (pa_cons (pv 3) (pa_cons (pv 4) pa_nil)))))))))), ?_⟩
  rintro W ds c P ⟨p, g, l, rfl, rfl, rfl, hp⟩
  exact es_parts next_ok pick_ok shuf_ok hp
abbrev s__law_every : Stmt := top 29
abbrev n__law_every : List Str := ["_law_references", "_law_found", "_law_label"]
theorem sc__law_every : FnScope n__law_every ["_law_references"] (defScope s__law_every) := ⟨rfl, rfl, rfl, by decide +kernel, rfl, by decide +kernel, by decide +kernel⟩
def everyC (K : PySem.W.Frag) : Ct K := fun _ ds c P => ∃ rs : List Rf, rs.length ≤ 7 ∧ ds = [.dct (refsD rs)] ∧ c = 0 ∧ P (.lst ((everyR rs).map stD))
theorem every_ok {W : Wd K} : EveryOk W (spD (everyC K)) := fun rs h => fn_of_ct ⟨rs, h, rfl, rfl, rfl⟩
theorem ok_every (G : Glb K mg) (F : FnP K "_law_every" s__law_every f fd) : FnOk Pr w K mg base CX0 1 f fd ["_law_references"] (spD (everyC K)) := by
  refine fn_data (k := 0) F sc__law_every (fun W ds c P h => ?_) (by decide) (fun cdv A outer s H E hr => ?_)
  · obtain ⟨_, _, rfl, _⟩ := h; rfl
  have hu := hu_of hr
  have hu64 := hu64_of hr
  refine ⟨_, PSs.nox (pss_cons (ps_set (i := 1) sc__law_every.nd rfl (by first | exact Or.inl rfl | exact Or.inr rfl) (pe_lst pa_nil))
      (pss_cons (ps_for PassesOwn.never rfl (p_list K (pe_callB (o_sorted K) (by rfl) G.sorted (by decide +kernel) (pa_cons (pv 0) pa_nil))) (pg_name (i := 2) sc__law_every.nd rfl (by first | exact Or.inl rfl | exact Or.inr rfl))
      (pss_one (ps_set (i := 1) sc__law_every.nd rfl (by first | exact Or.inl rfl | exact Or.inr rfl) (pe_op (o_add K) (pv 1) (pe_lst (pa_cons (pe_tup (pa_cons (pv 2) (pa_cons pe_str pa_nil))) (pa_cons (pe_tup (pa_cons (pv 2) (pa_cons pe_str pa_nil))) pa_nil)))))))
      (pss_one (ps_ret (pv 1))))), ?_⟩
  rintro W ds c P ⟨rs, h, rfl, rfl, hp⟩
  exact es_every h hp
abbrev s__law_ends : Stmt := top 30
abbrev n__law_ends : List Str := ["_law_references", "_law_step", "_law_source_here", "_law_target", "_law_kind"]
theorem sc__law_ends : FnScope n__law_ends ["_law_references", "_law_step"] (defScope s__law_ends) := ⟨rfl, rfl, rfl, by decide +kernel, rfl, by decide +kernel, by decide +kernel⟩
def lendsC (K : PySem.W.Frag) : Ct K := fun _ ds c P => ∃ (rs : List Rf) (s : St2), (rs.map fun r => r.1).Nodup ∧ s.1 ∈ rs ∧ ds = [.dct (refsD rs), stD s] ∧ c = 0 ∧ P (.tup [.str (e1 s), .str (e2 s)])
theorem lends_ok {W : Wd K} : LEndsOk W (spD (lendsC K)) := fun rs s h1 h2 => fn_of_ct ⟨rs, s, h1, h2, rfl, rfl, rfl⟩
theorem ok_law_ends (G : Glb K mg) (F : FnP K "_law_ends" s__law_ends f fd) : FnOk Pr w K mg base CX0 1 f fd ["_law_references", "_law_step"] (spD (lendsC K)) := by
  refine fn_data (k := 0) F sc__law_ends (fun W ds c P h => ?_) (by decide) (fun cdv A outer s H E hr => ?_)
  · obtain ⟨_, _, _, _, rfl, _⟩ := h; rfl
  have hu := hu_of hr
  have hu64 := hu64_of hr
  refine ⟨_, PSs.nox (pss_cons (ps_asg (pe_ix (o_ix K hu) (pv 0) (pe_ix (o_ix K hu) (pv 1) pe_int (fun _ _ => rfl)) (fun _ _ => rfl)) (p_tupT K (e2 := .Name "" ⟨0, 0, 0, 0⟩) (pg_tup rfl (pgs_cons (pg_name (i := 2) sc__law_ends.nd rfl (by first | exact Or.inl rfl | exact Or.inr rfl)) (pgs_cons (pg_name (i := 3) sc__law_ends.nd rfl (by first | exact Or.inl rfl | exact Or.inr rfl)) (pgs_cons (pg_name (i := 4) sc__law_ends.nd rfl (by first | exact Or.inl rfl | exact Or.inr rfl)) pgs_nil))))))
      (pss_one (ps_ret (pe_ix (o_ix K hu) (pe_lst (pa_cons (pe_tup (pa_cons (pv 2) (pa_cons (pv 3) pa_nil))) (pa_cons (pe_tup (pa_cons (pv 3) (pa_cons (pv 2) pa_nil))) pa_nil))) (pe_callTy (o_int) (by rfl) G.int (by decide +kernel) (pa_cons (pe_cmpR (o_eq K hu64) (pe_ix (o_ix K hu) (pv 1) pe_int (fun _ _ => rfl)) pe_str (nomark _)) pa_nil)) (fun _ _ => rfl))))), ?_⟩
  rintro W ds c P ⟨rs, s, h1, h2, rfl, rfl, hp⟩
  exact es_law_ends h1 h2 hp
abbrev s__law_may : Stmt := top 31
abbrev n__law_may : List Str := ["_law_references", "_law_first", "_law_second", "_law_one", "_law_two"]
theorem sc__law_may : FnScope n__law_may ["_law_references", "_law_first", "_law_second"] (defScope s__law_may) := ⟨rfl, rfl, rfl, by decide +kernel, rfl, by decide +kernel, by decide +kernel⟩
def lmayC (K : PySem.W.Frag) : Ct K := fun _ ds c P => ∃ (rs : List Rf) (a b : St2), (rs.map fun r => r.1).Nodup ∧ (∀ r ∈ rs, okS r.1 = true) ∧ a.1 ∈ rs ∧ b.1 ∈ rs ∧ ds = [.dct (refsD rs), stD a, stD b] ∧ c = 0 ∧ P (.bl (mayB a b))
theorem lmay_ok {W : Wd K} : LMayOk W (spD (lmayC K)) := fun rs a b h1 h2 h3 h4 => fn_of_ct ⟨rs, a, b, h1, h2, h3, h4, rfl, rfl, rfl⟩
theorem ok_law_may (G : Glb K mg) (F__law_ends : Fnd Pr w K mg base 1 "_law_ends" ["_law_references", "_law_step"] (spD (lendsC K))) (F : FnP K "_law_may" s__law_may f fd) : FnOk Pr w K mg base CX0 2 f fd ["_law_references", "_law_first", "_law_second"] (spD (lmayC K)) := by
  refine fn_data (k := 1) F sc__law_may (fun W ds c P h => ?_) (by decide) (fun cdv A outer s H E hr => ?_)
  · obtain ⟨_, _, _, _, _, _, _, rfl, _⟩ := h; rfl
  have hu := hu_of hr
  have hu64 := hu64_of hr
  have hu65 := hu65_of hr
  refine ⟨_, PSs.nox (pss_cons (ps_if (pt_cmpR (o_ne K hu64) (pe_ix (o_ix K hu) (pe_fun F__law_ends hr (by decide) (by rfl) (pa_cons (pv 0) (pa_cons (pv 1) pa_nil))) pe_int (fun _ _ => rfl)) (pe_ix (o_ix K hu) (pe_fun F__law_ends hr (by decide) (by rfl) (pa_cons (pv 0) (pa_cons (pv 2) pa_nil))) pe_int (fun _ _ => rfl)) (nomark _))
      (pss_one (ps_ret pe_bl))
      pss_nil)
      (pss_cons (ps_set (i := 3) sc__law_may.nd rfl (by first | exact Or.inl rfl | exact Or.inr rfl) (pe_ifExp (pt_cmpR (o_eq K hu64) (pe_ix (o_ix K hu) (pv 1) pe_int (fun _ _ => rfl)) pe_str (nomark _)) (pe_tup (pa_cons pe_int (pa_cons (pe_ix (o_ix K hu) (pv 1) pe_int (fun _ _ => rfl)) (pa_cons pe_int pa_nil)))) (pe_tup (pa_cons pe_int (pa_cons (pe_ix (o_ix K hu) (pv 1) pe_int (fun _ _ => rfl)) (pa_cons pe_int pa_nil))))))
      (pss_cons (ps_set (i := 4) sc__law_may.nd rfl (by first | exact Or.inl rfl | exact Or.inr rfl) (pe_ifExp (pt_cmpR (o_eq K hu64) (pe_ix (o_ix K hu) (pv 2) pe_int (fun _ _ => rfl)) pe_str (nomark _)) (pe_tup (pa_cons pe_int (pa_cons (pe_ix (o_ix K hu) (pv 2) pe_int (fun _ _ => rfl)) (pa_cons pe_int pa_nil)))) (pe_tup (pa_cons pe_int (pa_cons (pe_ix (o_ix K hu) (pv 2) pe_int (fun _ _ => rfl)) (pa_cons pe_int pa_nil))))))
      (pss_one (ps_ret (pe_and (pe_cmpR (o_ne K hu64) (pe_slice (o_sl K) (pv 3) po_none (po_some pe_int)) (pe_slice (o_sl K) (pv 4) po_none (po_some pe_int)) (nomark _)) (pe_one (pe_or (pe_cmpR (o_ne K hu64) (pe_slice (o_sl K) (pv 3) (po_some pe_int) po_none) (pe_slice (o_sl K) (pv 4) (po_some pe_int) po_none) (nomark _)) (pe_one (pe_cmpR (o_eq K hu64) (pe_ix (o_ix K hu) (pe_ix (o_ix K hu) (pv 0) (pe_ix (o_ix K hu) (pv 1) pe_int (fun _ _ => rfl)) (fun _ _ => rfl)) pe_int (fun _ _ => rfl)) pe_str (nomark _))))))))))), ?_⟩
  rintro W ds c P ⟨rs, a, b, h1, h2, h3, h4, rfl, rfl, hp⟩
  exact es_law_may lends_ok h1 h2 h3 h4 hp
abbrev s__law_ring : Stmt := top 32
abbrev n__law_ring : List Str := ["_law_draw", "_law_references", "_law_path", "_law_every_here", "_law_step", "_law_behind", "_law_other"]
theorem sc__law_ring : FnScope n__law_ring ["_law_draw", "_law_references"] (defScope s__law_ring) := ⟨rfl, rfl, rfl, by decide +kernel, rfl, by decide +kernel, by decide +kernel⟩
def lwalkC (K : PySem.W.Frag) : Ct K := fun W ds c P => ∃ (p g l : Addr) (rs : List Rf), W = DW2 K p g l ∧ (rs.map fun r => r.1).Nodup ∧ rs ≠ [] ∧ rs.length ≤ 6 ∧ (∀ r ∈ rs, okS r.1 = true) ∧ ds = [.obj p, .dct (refsD rs)] ∧ c = 14 ∧ ∀ l : List St2, (∀ s ∈ l, s ∈ everyR rs) → l.length ≤ 12 → P (.lst (l.map stD))
theorem ok_law_ring (G : Glb K mg) (F__law_every : Fnd Pr w K mg base 1 "_law_every" ["_law_references"] (spD (everyC K))) (F__law_may : Fnd Pr w K mg base 2 "_law_may" ["_law_references", "_law_first", "_law_second"] (spD (lmayC K))) (F__law_pick : Fnd Pr w K mg base 2 "_law_pick" ["_law_draw", "_law_some"] (spD (pickC K))) (F : FnP K "_law_ring" s__law_ring f fd) : FnOk Pr w K mg base CX0 3 f fd ["_law_draw", "_law_references"] (spD (lwalkC K)) := by
  refine fn_data (k := 2) F sc__law_ring (fun W ds c P h => ?_) (by decide) (fun cdv A outer s H E hr => ?_)
  · obtain ⟨_, _, _, _, _, _, _, _, _, rfl, _⟩ := h; rfl
  have hu := hu_of hr
  have hu64 := hu64_of hr
  have hu65 := hu65_of hr
  refine ⟨_, PSs.nox (pss_cons (ps_par (i := 2) (j := 3) (by rfl) sc__law_ring.nd rfl rfl (by decide) rfl rfl (pa_cons (pe_lst pa_nil) (pa_cons (pe_fun F__law_every hr (by decide) (by rfl) (pa_cons (pv 1) pa_nil)) pa_nil)) (by rfl))
      (pss_cons (ps_set (i := 4) sc__law_ring.nd rfl (by first | exact Or.inl rfl | exact Or.inr rfl) (pe_fun F__law_pick hr (by decide) (by rfl) (pa_cons (pv 0) (pa_cons (pv 3) pa_nil))))
      (pss_cons (ps_while PassesOwn.never (pt_cmpR (o_notInX K hu65) (pv 4) (pv 2) (by rfl))
      (pss_cons (ps_expr (pe_bm PySem.F.plainAttrs_list PySem.F.slot_list_append PySem.F.type_list_append mt_append (pv 2) (pa_cons (pv 4) pa_nil)))
      (pss_cons (ps_setLc (i := 5) (own := [("_law_other", 6)]) (g := gName 6)  rfl sc__law_ring.nd rfl rfl (sw_true rfl rfl rfl (by decide +kernel)) (p_list K (pv 3)) (blkOk_by (N := ["_law_draw", "_law_references", "_law_path", "_law_every_here", "_law_step", "_law_behind", "_law_other"]) (sc := defScope s__law_ring) (by decide +kernel)) (fun _ _ _ _ _ => (pg_name (i := 6) sc__law_ring.nd rfl (by first | exact Or.inl rfl | exact Or.inr rfl))) (fun _ _ _ _ _ => (pts_one (pt_val (pe_fun F__law_may hr (by decide) (by rfl) (pa_cons (pv 1) (pa_cons (pv 4) (pa_cons (pv 6) pa_nil))))))) (fun _ _ _ _ _ => (pv 6)))
      (pss_cons (ps_if (pt_cmpR (o_eqZ K hu64) (pv 5) (pe_lst pa_nil) (nomark _))
      (pss_one (ps_ret (pe_lst pa_nil)))
      pss_nil)
      (pss_one (ps_set (i := 4) sc__law_ring.nd rfl (by first | exact Or.inl rfl | exact Or.inr rfl) (pe_fun F__law_pick hr (by decide) (by rfl) (pa_cons (pv 0) (pa_cons (pv 5) pa_nil)))))))))
      (pss_one (ps_ret (pe_slice (o_sl K) (pv 2) (po_some (pe_bm PySem.F.plainAttrs_list PySem.F.slot_list_index PySem.F.type_list_index (mt_indexD hu65) (pv 2) (pa_cons (pv 4) pa_nil))) po_none)))))), ?_⟩
  rintro W ds c P ⟨p, g, l, rs, rfl, h1, h2, h3, h4, rfl, rfl, hp⟩
  exact es_lwalk every_ok lmay_ok pick_ok h1 h2 h3 h4 hp
abbrev s__law_is_ring : Stmt := top 33
abbrev n__law_is_ring : List Str := ["_law_references", "_law_value", "_law_every_here", "_law_step", "_law_some", "_law_pairs", "_law_pair"]
theorem sc__law_is_ring : FnScope n__law_is_ring ["_law_references", "_law_value"] (defScope s__law_is_ring) := ⟨rfl, rfl, rfl, by decide +kernel, rfl, by decide +kernel, by decide +kernel⟩
def lringC (K : PySem.W.Frag) : Ct K := fun W ds c P => ∃ (rs : List Rf) (d : Da), W.Lax ∧ (rs.map fun r => r.1).Nodup ∧ rs.length ≤ 6 ∧ (∀ r ∈ rs, okS r.1 = true) ∧ RingV K d ∧ ds = [.dct (refsD rs), d] ∧ c = 0 ∧ P (.bl (ringB rs d))
theorem lring_ok {W : Wd K} (hW : W.Lax) : LRingOk W (spD (lringC K)) := fun rs d h1 h2 h3 h4 => fn_of_ct ⟨rs, d, hW, h1, h2, h3, h4, rfl, rfl, rfl⟩
theorem ok_law_is_ring (SF : SchF K) (G : Glb K mg) (F__law_every : Fnd Pr w K mg base 1 "_law_every" ["_law_references"] (spD (everyC K))) (F__law_may : Fnd Pr w K mg base 2 "_law_may" ["_law_references", "_law_first", "_law_second"] (spD (lmayC K))) (F : FnP K "_law_is_ring" s__law_is_ring f fd) : FnOk Pr w K mg base CX0 3 f fd ["_law_references", "_law_value"] (spD (lringC K)) := by
  refine fn_data (k := 2) F sc__law_is_ring (fun W ds c P h => ?_) (by decide) (fun cdv A outer s H E hr => ?_)
  · obtain ⟨_, _, _, _, _, _, _, rfl, _⟩ := h; rfl
  have hu := hu_of hr
  have hu64 := hu64_of hr
  have hu65 := hu65_of hr
  refine ⟨_, PSs.nox (pss_cons (ps_set (i := 2) sc__law_is_ring.nd rfl (by first | exact Or.inl rfl | exact Or.inr rfl) (pe_fun F__law_every hr (by decide) (by rfl) (pa_cons (pv 0) pa_nil)))
      (pss_cons (ps_if (PW.pt (pw_or (pt_not (pt_val (pe_callB (o_isi K) (by rfl) G.isinstance (by decide +kernel) (pa_cons (pv 1) (pa_cons (pe_tup (pa_cons (pe_type (n := "list") (by rfl) G.list (by decide +kernel)) (pa_cons (pe_type (n := "tuple") (by rfl) G.tuple (by decide +kernel)) pa_nil))) pa_nil))))) (pw_or1 (pt_cmpR (o_eq K hu64) (pe_callB (o_len K) (by rfl) G.len (by decide +kernel) (pa_cons (pv 1) pa_nil)) pe_int (nomark _)))))
      (pss_one (ps_ret pe_bl))
      pss_nil)
      (pss_cons (ps_for PassesOwn.never rfl (p_seq K (pv 1)) (pg_name (i := 3) sc__law_is_ring.nd rfl (by first | exact Or.inl rfl | exact Or.inr rfl))
      (pss_one (ps_if (PW.pt (pw_or (pt_not (pt_val (pe_callB (o_isi K) (by rfl) G.isinstance (by decide +kernel) (pa_cons (pv 3) (pa_cons (pe_type (n := "tuple") (by rfl) G.tuple (by decide +kernel)) pa_nil))))) (pw_or1 (pt_cmpR (o_notInX K hu65) (pv 3) (pv 2) (by rfl)))))
      (pss_one (ps_ret pe_bl))
      pss_nil)))
      (pss_cons (ps_if (pt_cmpR op_lt (pe_lenSetU K hu64 (by rfl) (by rfl) G.len (by rfl) G.set (pv 1)) (pe_callB (o_len K) (by rfl) G.len (by decide +kernel) (pa_cons (pv 1) pa_nil)) (nomark _))
      (pss_one (ps_ret pe_bl))
      pss_nil)
      (pss_cons (ps_set (i := 4) sc__law_is_ring.nd rfl (by first | exact Or.inl rfl | exact Or.inr rfl) (pe_callTy (o_list K) (by rfl) G.list (by decide +kernel) (pa_cons (pv 1) pa_nil)))
      (pss_cons (ps_set (i := 5) sc__law_is_ring.nd rfl (by first | exact Or.inl rfl | exact Or.inr rfl) (pe_lstZip K (by rfl) (by rfl) G.list (by rfl) G.zip (pa_cons (pv 4) (pa_cons (pe_op (o_add K) (pe_slice (o_sl K) (pv 4) (po_some pe_int) po_none) (pe_slice (o_sl K) (pv 4) po_none (po_some pe_int))) pa_nil))))
      (pss_one (ps_ret (pe_cmpR (o_eqZ K hu64) (pe_lc (own := [("_law_pair", 6)]) (g := gName 6)  rfl sc__law_is_ring.nd (p_list K (pv 5)) (blkOk_by (N := ["_law_references", "_law_value", "_law_every_here", "_law_step", "_law_some", "_law_pairs", "_law_pair"]) (sc := defScope s__law_is_ring) (by decide +kernel)) (fun _ _ _ _ _ => (pg_name (i := 6) sc__law_is_ring.nd rfl (by first | exact Or.inl rfl | exact Or.inr rfl))) (fun _ _ _ _ _ => (pts_one (pt_not (pt_val (pe_fun F__law_may hr (by decide) (by rfl) (pa_cons (pv 0) (pa_cons (pe_ix (o_ix K hu) (pv 6) pe_int (fun _ _ => rfl)) (pa_cons (pe_ix (o_ix K hu) (pv 6) pe_int (fun _ _ => rfl)) pa_nil)))))))) (fun _ _ _ _ _ => (pv 6))) (pe_lst pa_nil) (nomark _)))))))))), ?_⟩
  rintro W ds c P ⟨rs, d, hW, h1, h2, h3, h4, rfl, rfl, hp⟩
  exact es_lring SF hW every_ok lmay_ok h1 h2 h3 h4 hp
abbrev s__law_bent : Stmt := top 34
abbrev n__law_bent : List Str := ["_law_draw", "_law_references", "_law_path", "_law_at", "_law_to", "_law_way", "_law_step", "_law_other", "_law_found", "_law_strange", "_law_label", "_law_turn"]
theorem sc__law_bent : FnScope n__law_bent ["_law_draw", "_law_references", "_law_path"] (defScope s__law_bent) := ⟨rfl, rfl, rfl, by decide +kernel, rfl, by decide +kernel, by decide +kernel⟩
def bentC (K : PySem.W.Frag) : Ct K := fun W ds c P => ∃ (p g l : Addr) (rs : List Rf) (ps : List (Str × Str)), W = DW2 K p g l ∧ rs.length ≤ 6 ∧ (∀ r ∈ rs, r.1 ∈ labL) ∧ PathOk ps ∧ ds = [.obj p, .dct (refsD rs), .lst (ps.map pD)] ∧ c = 5 ∧ ∀ d, BentV K d → P d
theorem ok_bent (G : Glb K mg) (F__law_every : Fnd Pr w K mg base 1 "_law_every" ["_law_references"] (spD (everyC K))) (F__law_next : Fnd Pr w K mg base 1 "_law_next" ["_law_draw", "_law_size"] (spD (nextC K))) (F__law_pick : Fnd Pr w K mg base 2 "_law_pick" ["_law_draw", "_law_some"] (spD (pickC K))) (F : FnP K "_law_bent" s__law_bent f fd) : FnOk Pr w K mg base CX0 3 f fd ["_law_draw", "_law_references", "_law_path"] (spD (bentC K)) := by
  refine fn_data (k := 2) F sc__law_bent (fun W ds c P h => ?_) (by decide) (fun cdv A outer s H E hr => ?_)
  · obtain ⟨_, _, _, _, _, _, _, _, _, rfl, _⟩ := h; rfl
  have hu := hu_of hr
  have hu64 := hu64_of hr
  refine ⟨_, PSs.nox (pss_cons (ps_par3 (i := 3) (j := 4) (l := 5) (by rfl) sc__law_bent.nd rfl rfl rfl (by decide) (by decide) (by decide) rfl rfl rfl (pa_cons (pe_fun F__law_next hr (by decide) (by rfl) (pa_cons (pv 0) (pa_cons (pe_callB (o_len K) (by rfl) G.len (by decide +kernel) (pa_cons (pv 2) pa_nil)) pa_nil))) (pa_cons (pe_fun F__law_next hr (by decide) (by rfl) (pa_cons (pv 0) (pa_cons (pe_callB (o_len K) (by rfl) G.len (by decide +kernel) (pa_cons (pv 2) pa_nil)) pa_nil))) (pa_cons (pe_fun F__law_next hr (by decide) (by rfl) (pa_cons (pv 0) (pa_cons pe_int pa_nil))) pa_nil))) (by rfl))
      (pss_cons (ps_set (i := 6) sc__law_bent.nd rfl (by first | exact Or.inl rfl | exact Or.inr rfl) (pe_fun F__law_pick hr (by decide) (by rfl) (pa_cons (pv 0) (pa_cons (pe_op (o_add K) (pe_fun F__law_every hr (by decide) (by rfl) (pa_cons (pv 1) pa_nil)) (pe_lst (pa_cons (pe_tup (pa_cons pe_str (pa_cons pe_str pa_nil))) pa_nil))) pa_nil))))
      (pss_cons (ps_set (i := 7) sc__law_bent.nd rfl (by first | exact Or.inl rfl | exact Or.inr rfl) (pe_disp (pps_cons pe_str pe_str (pps_cons pe_str pe_str pps_nil)) (by rfl) (by rfl) (fun z => by cases z) (by decide)))
      (pss_cons (ps_if (pt_cmpR (o_eq K hu64) (pv 5) pe_int (nomark _))
      (pss_one (ps_ret (pe_op (o_add K) (pe_slice (o_sl K) (pv 2) (po_some (pv 3)) po_none) (pe_slice (o_sl K) (pv 2) po_none (po_some (pv 3))))))
      pss_nil)
      (pss_cons (ps_if (pt_cmpR (o_eq K hu64) (pv 5) pe_int (nomark _))
      (pss_one (ps_ret (pe_lc (own := [("_law_label", 10), ("_law_turn", 11)]) (g := gTup K 2 (gCons (gName 10) (gCons (gName 11) (gNil)))) (tt := tYes) rfl sc__law_bent.nd (p_list K (p_revL K (pv 2))) (blkOk_by (N := ["_law_draw", "_law_references", "_law_path", "_law_at", "_law_to", "_law_way", "_law_step", "_law_other", "_law_found", "_law_strange", "_law_label", "_law_turn"]) (sc := defScope s__law_bent) (by decide +kernel)) (fun _ _ _ _ _ => (p_tupT K (e2 := .Name "" ⟨0, 0, 0, 0⟩) (pg_tup rfl (pgs_cons (pg_name (i := 10) sc__law_bent.nd rfl (by first | exact Or.inl rfl | exact Or.inr rfl)) (pgs_cons (pg_name (i := 11) sc__law_bent.nd rfl (by first | exact Or.inl rfl | exact Or.inr rfl)) pgs_nil))))) (fun _ _ _ _ _ => pts_nil) (fun _ _ _ _ _ => (pe_tup (pa_cons (pv 10) (pa_cons (pe_dget2 hu (pv 7) (pv 11) pe_str (m2_by (by rfl) (by rfl) (by rfl) (by rfl))) pa_nil)))))))
      pss_nil)
      (pss_cons (ps_if (pt_cmpR (o_eq K hu64) (pv 5) pe_int (nomark _))
      (pss_one (ps_ret (pe_op (o_add K) (pe_slice (o_sl K) (pv 2) po_none (po_some (pv 3))) (pe_slice (o_sl K) (pv 2) (po_some (pe_op (o_add K) (pv 3) pe_int)) po_none))))
      pss_nil)
      (pss_cons (ps_if (pt_cmpR (o_eq K hu64) (pv 5) pe_int (nomark _))
      (pss_one (ps_ret (pe_op (o_add K) (pe_op (o_add K) (pe_slice (o_sl K) (pv 2) po_none (po_some (pv 3))) (pe_lst (pa_cons (pe_ix (o_ix K hu) (pv 2) (pv 4) (fun _ _ => rfl)) pa_nil))) (pe_slice (o_sl K) (pv 2) (po_some (pv 3)) po_none))))
      pss_nil)
      (pss_cons (ps_if (pt_cmpR (o_eq K hu64) (pv 5) pe_int (nomark _))
      (pss_cons (ps_set (i := 8) sc__law_bent.nd rfl (by first | exact Or.inl rfl | exact Or.inr rfl) (pe_callTy (o_list K) (by rfl) G.list (by decide +kernel) (pa_cons (pv 2) pa_nil)))
      (pss_cons (ps_asg (pe_tup (pa_cons (pe_ix (o_ix K hu) (pv 8) (pv 4) (fun _ _ => rfl)) (pa_cons (pe_ix (o_ix K hu) (pv 8) (pv 3) (fun _ _ => rfl)) pa_nil))) (p_tupT K (e2 := .Name "" ⟨0, 0, 0, 0⟩) (pg_tup rfl (pgs_cons (pg_sub (pv 8) (pv 3) set_list) (pgs_cons (pg_sub (pv 8) (pv 4) set_list) pgs_nil)))))
      (pss_one (ps_ret (pv 8)))))
      pss_nil)
      (pss_cons (ps_if (pt_cmpR (o_eq K hu64) (pv 5) pe_int (nomark _))
      (pss_one (ps_ret (pe_op (o_add K) (pe_op (o_add K) (pe_slice (o_sl K) (pv 2) po_none (po_some (pv 3))) (pe_lst (pa_cons (pv 6) pa_nil))) (pe_slice (o_sl K) (pv 2) (po_some (pe_op (o_add K) (pv 3) pe_int)) po_none))))
      pss_nil)
      (pss_cons (ps_if (pt_cmpR (o_eq K hu64) (pv 5) pe_int (nomark _))
      (pss_one (ps_ret (pe_op (o_add K) (pv 2) (pv 2))))
      pss_nil)
      (pss_cons (ps_if (pt_cmpR (o_eq K hu64) (pv 5) pe_int (nomark _))
      (pss_one (ps_ret (pe_op (o_add K) (pe_op (o_add K) (pe_slice (o_sl K) (pv 2) po_none (po_some (pv 3))) (pe_lst (pa_cons (pe_callTy (o_list K) (by rfl) G.list (by decide +kernel) (pa_cons (pe_ix (o_ix K hu) (pv 2) (pv 3) (fun _ _ => rfl)) pa_nil)) pa_nil))) (pe_slice (o_sl K) (pv 2) (po_some (pe_op (o_add K) (pv 3) pe_int)) po_none))))
      pss_nil)
      (pss_cons (ps_if (pt_cmpR (o_eq K hu64) (pv 5) pe_int (nomark _))
      (pss_one (ps_ret (pe_callTy (o_tuple K) (by rfl) G.tuple (by decide +kernel) (pa_cons (pv 2) pa_nil))))
      pss_nil)
      (pss_cons (ps_if (pt_cmpR (o_eq K hu64) (pv 5) pe_int (nomark _))
      (pss_one (ps_ret (p_revL K (pv 2))))
      pss_nil)
      (pss_cons (ps_if (pt_cmpR (o_eq K hu64) (pv 5) pe_int (nomark _))
      (pss_one (ps_ret (pe_op (o_add K) (pe_op (o_add K) (pe_slice (o_sl K) (pv 2) po_none (po_some (pv 3))) (pe_lst (pa_cons (pv 6) pa_nil))) (pe_slice (o_sl K) (pv 2) (po_some (pv 3)) po_none))))
      pss_nil)
      (pss_cons (ps_set (i := 9) sc__law_bent.nd rfl (by first | exact Or.inl rfl | exact Or.inr rfl) (pe_lst (pa_cons pe_non (pa_cons pe_int (pa_cons pe_bl (pa_cons pe_str (pa_cons pe_dnewK (pa_cons (pe_ix (o_ix K hu) (pv 2) pe_int (fun _ _ => rfl)) (pa_cons (pe_lst (pa_cons (pe_ix (o_ix K hu) (pe_ix (o_ix K hu) (pv 2) pe_int (fun _ _ => rfl)) pe_int (fun _ _ => rfl)) pa_nil)) (pa_cons (pe_lst (pa_cons pe_non pa_nil)) (pa_cons (pe_lst (pa_cons (pe_tup pa_nil) pa_nil)) (pa_cons (pe_lst (pa_cons (pv 2) pa_nil)) (pa_cons (pe_tup (pa_cons (pv 2) pa_nil)) (pa_cons (pe_callTy (o_dictP K) (by rfl) G.dict (by decide +kernel) (pa_cons (pe_lst (pa_cons (pe_ix (o_ix K hu) (pv 2) pe_int (fun _ _ => rfl)) pa_nil)) pa_nil)) pa_nil))))))))))))))
      (pss_one (ps_ret (pe_fun F__law_pick hr (by decide) (by rfl) (pa_cons (pv 0) (pa_cons (pe_op (o_add K) (pv 9) (pe_lst (pa_cons (pe_lst (pa_cons (pe_tup (pa_cons (pe_lst pa_nil) (pa_cons pe_str pa_nil))) pa_nil)) (pa_cons (pe_lst (pa_cons (pe_tup (pa_cons (pe_ix (o_ix K hu) (pe_ix (o_ix K hu) (pv 2) pe_int (fun _ _ => rfl)) pe_int (fun _ _ => rfl)) (pa_cons (pe_lst pa_nil) pa_nil))) pa_nil)) (pa_cons (pe_lst (pa_cons (pe_tup (pa_cons pe_dnewK (pa_cons pe_dnewK pa_nil))) pa_nil)) pa_nil))))) pa_nil)))))))))))))))))))), ?_⟩
  rintro W ds c P ⟨p, g, l, rs, ps, rfl, h1, h2, h3, rfl, rfl, hp⟩
  exact es_bent every_ok next_ok pick_ok h1 h2 h3.1 h3.2.1 h3.2.2 hp
abbrev s_law : Stmt := top 35
abbrev n_law : List Str := ["_law_script", "_law_draw", "_law_turn", "_law_tables", "_law_references", "_law_plan", "_law_path", "_law_time", "_law_value", "_law_held", "_law_due", "_law_k"]
theorem sc_law : FnScope n_law ["_law_script"] (defScope s_law) := ⟨rfl, rfl, rfl, by decide +kernel, rfl, by decide +kernel, by decide +kernel⟩
theorem ok_law (hS : SysOk K) (G : Glb K mg) (M_Schema : Mkd Pr w K mg base 3 "Schema" (He.ga K "Schema") ["self", "tables", "references"] (spI (He.ga K "Schema") (initT K))) (F__law_source : Fnd Pr w K mg base 1 "_law_source" ["_law_script"] (spSrc2 K)) (F__law_parts : Fnd Pr w K mg base 3 "_law_parts" ["_law_draw", "_law_most"] (spD (partsC K))) (F__law_every : Fnd Pr w K mg base 1 "_law_every" ["_law_references"] (spD (everyC K)))
    (F__law_next : Fnd Pr w K mg base 1 "_law_next" ["_law_draw", "_law_size"] (spD (nextC K))) (F__law_pick : Fnd Pr w K mg base 2 "_law_pick" ["_law_draw", "_law_some"] (spD (pickC K))) (F__law_ring : Fnd Pr w K mg base 3 "_law_ring" ["_law_draw", "_law_references"] (spD (lwalkC K))) (F__law_is_ring : Fnd Pr w K mg base 3 "_law_is_ring" ["_law_references", "_law_value"] (spD (lringC K))) (F__law_bent : Fnd Pr w K mg base 3 "_law_bent" ["_law_draw", "_law_references", "_law_path"] (spD (bentC K)))
    (FX_is_ring : FndX Pr w K mg base 5 "is_ring" ["schema", "thing"] (spY (ringC K) (ringR K))) (KW_is_ring : KwX2 Pr w K mg base (L2.CX Pr w) 5 "is_ring" "thing" "schema" (spY (ringC K) (ringR K)))
    (F : FnP K "law" s_law f fd) : FnG Pr w K mg base CX0 7 f fd ["_law_script"] (spLawS K) := by
  refine okG (k := 6) F sc_law (fun vs H Q E h => ?_) (fun cdv A outer s H vs Q E hr gd h => ?_)
  · obtain ⟨a, ns, rfl, _⟩ := h; rfl
  have hu := hu_of hr
  have hu64 := hu64_of hr
  have hu65 := hu65_of hr
  have hu150 := hu150_of hr
  refine ⟨_, PSs.nox (pss_cons (ps_set (i := 1) sc_law.nd rfl (by first | exact Or.inl rfl | exact Or.inr rfl) (pe_fun F__law_source hr (by decide) (by rfl) (pa_cons (pv 0) pa_nil)))
      (pss_cons (ps_for PassesOwn.never rfl (pi_range1 (by rfl) G.range (pa_cons (pe_callB (o_max) (by rfl) G.max (by decide +kernel) (pa_cons pe_int (pa_cons (pe_callB (o_min) (by rfl) G.min (by decide +kernel) (pa_cons pe_int (pa_cons (pe_callB (o_len K) (by rfl) G.len (by decide +kernel) (pa_cons (pv 0) pa_nil)) pa_nil))) pa_nil))) pa_nil)) (pg_name (i := 2) sc_law.nd rfl (by first | exact Or.inl rfl | exact Or.inr rfl))
      (pss_cons (ps_asg (pe_fun F__law_parts hr (by decide) (by rfl) (pa_cons (pv 1) (pa_cons pe_int pa_nil))) (p_tupT K (e2 := .Name "" ⟨0, 0, 0, 0⟩) (pg_tup rfl (pgs_cons (pg_name (i := 3) sc_law.nd rfl (by first | exact Or.inl rfl | exact Or.inr rfl)) (pgs_cons (pg_name (i := 4) sc_law.nd rfl (by first | exact Or.inl rfl | exact Or.inr rfl)) pgs_nil)))))
      (pss_cons (ps_set (i := 5) sc_law.nd rfl (by first | exact Or.inl rfl | exact Or.inr rfl) (pe_mk M_Schema hr (by decide) (by rfl) (pa_cons (pv 3) (pa_cons (pv 4) pa_nil))))
      (pss_cons (ps_if (PW.pt (pw_or (pt_cmpR op_notBl (pe_funX FX_is_ring hr (by decide) (by rfl) (pa_cons (pv 5) (pa_cons (pe_lst pa_nil) pa_nil))) pe_bl (nomark _)) (pw_or1 (pt_cmpR op_notBl (pe_funX FX_is_ring hr (by decide) (by rfl) (pa_cons (pv 5) (pa_cons (pe_tup pa_nil) pa_nil))) pe_bl (nomark _)))))
      (pss_one (ps_ret pe_bl))
      pss_nil)
      (pss_cons (ps_set (i := 6) sc_law.nd rfl (by first | exact Or.inl rfl | exact Or.inr rfl) (pe_ifExp (pt_cmpR (o_eqB K hu65) (pv 4) pe_dnewK (nomark _)) (pe_lst (pa_cons (pe_tup (pa_cons pe_str (pa_cons pe_str pa_nil))) pa_nil)) (pe_fun F__law_ring hr (by decide) (by rfl) (pa_cons (pv 1) (pa_cons (pv 4) pa_nil)))))
      (pss_cons (ps_if (pt_cmpR (o_eqZ K hu64) (pv 6) (pe_lst pa_nil) (nomark _))
      (pss_one (ps_setLc (i := 6) (own := [("_law_k", 11)]) (g := gName 11) (tt := tYes) rfl sc_law.nd rfl rfl (sw_true rfl rfl rfl (by decide +kernel)) (pi_range1 (by rfl) G.range (pa_cons (pe_op (o_add K) pe_int (pe_fun F__law_next hr (by decide) (by rfl) (pa_cons (pv 1) (pa_cons pe_int pa_nil)))) pa_nil)) (blkOk_by (N := ["_law_script", "_law_draw", "_law_turn", "_law_tables", "_law_references", "_law_plan", "_law_path", "_law_time", "_law_value", "_law_held", "_law_due", "_law_k"]) (sc := defScope s_law) (by decide +kernel)) (fun _ _ _ _ _ => (pg_name (i := 11) sc_law.nd rfl (by first | exact Or.inl rfl | exact Or.inr rfl))) (fun _ _ _ _ _ => pts_nil) (fun _ _ _ _ _ => (pe_fun F__law_pick hr (by decide) (by rfl) (pa_cons (pv 1) (pa_cons (pe_fun F__law_every hr (by decide) (by rfl) (pa_cons (pv 4) pa_nil)) pa_nil))))))
      pss_nil)
      (pss_one (ps_for PassesOwn.never rfl (pi_range1 (by rfl) G.range (pa_cons pe_int pa_nil)) (pg_name (i := 7) sc_law.nd rfl (by first | exact Or.inl rfl | exact Or.inr rfl))
      (pss_cons (ps_set (i := 8) sc_law.nd rfl (by first | exact Or.inl rfl | exact Or.inr rfl) (pe_ifExp (pt_cmpR (o_eq K hu64) (pv 7) pe_int (nomark _)) (pv 6) (pe_fun F__law_bent hr (by decide) (by rfl) (pa_cons (pv 1) (pa_cons (pv 4) (pa_cons (pv 6) pa_nil))))))
      (pss_cons (ps_if (PW.pt (pw_and (pt_cmpR op_gt (pv 7) pe_int (nomark _)) (pw_and (pt_val (pe_callB (o_isi K) (by rfl) G.isinstance (by decide +kernel) (pa_cons (pv 8) (pa_cons (pe_type (n := "list") (by rfl) G.list (by decide +kernel)) pa_nil)))) (pw_and (pt_cmpR (o_neZ K hu64) (pv 8) (pe_lst pa_nil) (nomark _)) (pw_and1 (pt_val (pe_fun F__law_is_ring hr (by decide) (by rfl) (pa_cons (pv 4) (pa_cons (pv 8) pa_nil)))))))))
      (pss_one (ps_set (i := 8) sc_law.nd rfl (by first | exact Or.inl rfl | exact Or.inr rfl) (pe_fun F__law_bent hr (by decide) (by rfl) (pa_cons (pv 1) (pa_cons (pv 4) (pa_cons (pv 8) pa_nil))))))
      pss_nil)
      (pss_cons (ps_par (i := 9) (j := 10) (by rfl) sc_law.nd rfl rfl (by decide) rfl rfl (pa_cons (pe_callB (o_repr K gd hu150 hS) (by rfl) G.repr (by decide +kernel) (pa_cons (pv 8) pa_nil)) (pa_cons (pe_callB (o_repr K gd hu150 hS) (by rfl) G.repr (by decide +kernel) (pa_cons (pe_fun F__law_is_ring hr (by decide) (by rfl) (pa_cons (pv 4) (pa_cons (pv 8) pa_nil))) pa_nil)) pa_nil)) (by rfl))
      (pss_cons (ps_if (PW.pt (pw_or (pt_cmpR (o_ne K hu64) (pe_callB (o_repr K gd hu150 hS) (by rfl) G.repr (by decide +kernel) (pa_cons (pe_funX FX_is_ring hr (by decide) (by rfl) (pa_cons (pv 5) (pa_cons (pv 8) pa_nil))) pa_nil)) (pv 10) (nomark _)) (pw_or1 (pt_cmpR (o_ne K hu64) (pe_callB (o_repr K gd hu150 hS) (by rfl) G.repr (by decide +kernel) (pa_cons (pe_kwL2 KW_is_ring hr (by decide) (by rfl) (pv 8) (pv 5)) pa_nil)) (pv 10) (nomark _)))))
      (pss_one (ps_ret pe_bl))
      pss_nil)
      (pss_one (ps_if (pt_cmpR (o_ne K hu64) (pe_callB (o_repr K gd hu150 hS) (by rfl) G.repr (by decide +kernel) (pa_cons (pv 8) pa_nil)) (pv 9) (nomark _))
      (pss_one (ps_ret pe_bl))
      pss_nil))))))))))))))
      (pss_one (ps_ret pe_bl)))), ?_⟩
  obtain ⟨a, ns, rfl, hSq, hl, q⟩ := h
  refine ⟨.ref a, rfl, a, ns, rfl, hSq, hl, fun p g l H' k np ng nl dr => ?_⟩
  have hB : ∀ b ∈ [p, g, l], ∀ u, ¬ Rd H b u := fun b hb u r => by
    have e : H b = none := by
      simp only [List.mem_cons, List.not_mem_nil, or_false] at hb
      rcases hb with rfl | rfl | rfl
      · exact np
      · exact ng
      · exact nl
    rcases r with r | ⟨o, r⟩ <;> (rw [e] at r; cases r)
  have hd : Dat K [p, g, l] H' (.ref a) (.lst (ns.map Da.int)) := Dat.mono k.all _ _ (script_dat hSq hB)
  have s0 : Sg (DW2 K p g l) H' [p, g, l] [p, g, l] (L2.start n_law [.ref a, .ref p]) (startE n_law [.lst (ns.map Da.int), .obj p]) H' 100000 := Sg.start ⟨dr, fun b hb => hb, fun b hb => (DW2 K p g l).alive dr b hb⟩ (.cons hd (.cons (by unfold Dat; rfl) .nil)) (by show 2 ≤ 12; decide)
  have O : LawOk (DW2 K p g l) p (spD (bentC K)) (spD (everyC K)) (spD (lringC K)) (spD (nextC K)) (spD (partsC K)) (spD (pickC K)) (spD (lwalkC K)) (spY (ringC K) (ringR K)) :=
    { be := fun rs ps P h1 h2 h3 h4 => fn_of_ct ⟨p, g, l, rs, ps, rfl, h1, h2, h3, rfl, rfl, h4⟩
      ev := every_ok
      li := lring_ok lax2
      nx := next_ok
      pa := fun P h => fn_of_ct ⟨p, g, l, rfl, rfl, rfl, h⟩
      pk := pick_ok
      ri := fun rs P h1 h2 h3 h4 h5 => fn_of_ct ⟨p, g, l, rs, rfl, h1, h2, h3, h4, rfl, rfl, h5⟩
      ir := isRing_ok }
  exact es_law_1 (p := ⟨fun _ => False, (· = .bl true), fun _ => False, fun _ => False⟩) O hl rfl H' [p, g, l] [p, g, l] _ H' 100000 _ s0 (by decide) (fun _ _ _ _ _ _ z => z.elim) (fun v d H2 k2 r2 hd2 e => by
    have e2 : d = .bl true := e
    subst e2
    unfold Dat at hd2
    rw [hd2]
    exact q H2) (fun _ _ _ _ _ _ z => z.elim) (fun _ _ _ _ _ _ z => z.elim)
end
end N23
set_option Elab.async false
set_option linter.all false
set_option maxRecDepth 100000
set_option maxHeartbeats 2000000
/-! WjR: the head's Hook: defs by paths (a getter of a property, too), facts by Bools -/
namespace WJ
open PySem PySem.Spec PyProof.Rows L2
/-- where a def stands: a module's name, a class's method, a property's getter -/
inductive At where
  | g (x : Str) | m (C x : Str) | p (C x : Str)
def prpA (K : PySem.W.Frag) (C : Addr) (f : Str) : Addr := match PySem.W.recIn K (He.ma K C f) "property" with
  | some (.ref g :: _) => g
  | _ => 0
def At.ad (K : PySem.W.Frag) : At → Addr
  | .g x => He.ga K x
  | .m C x => He.ma K (He.ga K C) x
  | .p C x => prpA K (He.ga K C) x
structure DefA where
  at_ : At
  name : Str
  qual : Str
  params : Arguments
  body : List Stmt
  scope : Scope
def fnA (K : PySem.W.Frag) (a : Addr) : He.FnW := match K.lookup a with
  | some ⟨_, _, .func fd, _⟩ => some (fd.name, fd.qualname, fd.params, fd.body, fd.scope, fd.globals, fd.closure, fd.builtins)
  | _ => none
def DefA.val (d : DefA) : He.FnW := some (d.name, d.qual, d.params, .stmts d.body, d.scope, mainGlobals, [], builtinsNs)
def DefA.ok (K : PySem.W.Frag) (d : DefA) : Bool := PySem.W.keepIn K (.ref (d.at_.ad K)) && (match K.lookup (d.at_.ad K) with
  | some ⟨_, _, .func fd, _⟩ => PySem.W.codeIn K fd.code d.qual && He.dflB K fd.defaults []
  | _ => false)
theorem DefA.funD {K : PySem.W.Frag} {d : DefA} (e : fnA K (d.at_.ad K) = d.val) (c : d.ok K = true) : ∃ fd, FunD K d.name d.qual d.params d.body d.scope [] [] (d.at_.ad K) fd := by
  obtain ⟨kp, c2⟩ := He.ba c
  unfold fnA at e
  cases q : K.lookup (d.at_.ad K) with
  | none =>
    rw [q] at c2
    cases c2
  | some o =>
    obtain ⟨oc, od, dt, osl⟩ := o
    rw [q] at c2 e
    cases dt with
    | func fd =>
      obtain ⟨n1, n2, n3, n4, n5, n6, n7, n8, n9, n10, n11, n12, n13, n14, n15⟩ := fd
      have e2 : (some (n1, n2, n3, n4, n5, n6, n7, n15) : He.FnW) = some (d.name, d.qual, d.params, .stmts d.body, d.scope, mainGlobals, [], builtinsNs) := e
      simp only [Option.some.injEq, Prod.mk.injEq] at e2
      obtain ⟨h1, h2, h3, h4, h5, h6, h7, h8⟩ := e2
      subst h1 h2 h3 h4 h5 h6 h7 h8
      have c3 : (PySem.W.codeIn K n13 d.qual && He.dflB K n8 []) = true := c2
      obtain ⟨k1, k2⟩ := He.ba c3
      exact ⟨_, ⟨oc, od, n8, n9, n10, n11, n12, n13, n14, osl, rfl, q, k1, He.dflB_ok k2, Or.inl rfl⟩, kp⟩
    | _ => cases c2
abbrev AlA : Type := Bool × List He.FnW
def obsA (fa : List He.Fa) (fn : List DefA) (ex : PySem.W.Frag → Bool) (K : PySem.W.Frag) : AlA := ((fa.all fun f => f.ok K) && ((fn.all fun d => d.ok K) && ex K), fn.map fun d => fnA K (d.at_.ad K))
def valA (fn : List DefA) : AlA := (true, fn.map DefA.val)
def SaysA (fa : List He.Fa) (fn : List DefA) (ex : PySem.W.Frag → Bool) (K : PySem.W.Frag) : Prop := obsA fa fn ex K = valA fn
def obsAG (n : Nat) (fa : List He.Fa) (fn : List DefA) (ex : PySem.W.Frag → Bool) (g : Addr → Option Obj) : AlA := obsA fa fn ex (He.frT g (He.asD g n))
def hookA (n : Nat) (fa : List He.Fa) (fn : List DefA) (ex : PySem.W.Frag → Bool) : PySem.W.Hook where
  α := AlA
  obs := fun s => obsAG n fa fn ex s.heap.get?
  val := fun _ => valA fn
  says := fun _ h => ∃ K : PySem.W.Frag, K.In h ∧ SaysA fa fn ex K
  of := fun _ _ e => ⟨_, He.frT_in, e⟩
  keeps := fun _ _ _ ⟨K, hK, c⟩ k => ⟨K, PySem.W.Frag.In.keeps hK k, c⟩
theorem obsAG_eq {n : Nat} {fa : List He.Fa} {fn : List DefA} {ex : PySem.W.Frag → Bool} {g : Addr → Option Obj} {s : Shared} (h : ∀ a, g a = s.heap.get? a) : obsAG n fa fn ex g = (hookA n fa fn ex).obs s := by
  have e : g = s.heap.get? := funext h
  rw [e] <;> rfl
section
variable {fa : List He.Fa} {fn : List DefA} {ex : PySem.W.Frag → Bool} {K : PySem.W.Frag}
theorem SaysA.parts (c : SaysA fa fn ex K) : (fa.all fun f => f.ok K) = true ∧ (fn.all fun d => d.ok K) = true ∧ ex K = true := by
  obtain ⟨h1, h2⟩ := He.ba (show ((fa.all fun f => f.ok K) && ((fn.all fun d => d.ok K) && ex K)) = true from congrArg (fun z : AlA => z.1) c)
  obtain ⟨h3, h4⟩ := He.ba h2
  exact ⟨h1, h3, h4⟩
theorem SaysA.fact (c : SaysA fa fn ex K) (i : Nat) {f : He.Fa} (h : fa[i]? = some f := by rfl) : f.ok K = true :=
  List.all_eq_true.mp c.parts.1 f (List.mem_of_getElem? h)
theorem SaysA.def_ (c : SaysA fa fn ex K) (i : Nat) {d : DefA} (h : fn[i]? = some d := by rfl) : ∃ fd, FunD K d.name d.qual d.params d.body d.scope [] [] (d.at_.ad K) fd := by
  have e : fn.map (fun d => fnA K (d.at_.ad K)) = fn.map DefA.val := congrArg (fun z : AlA => z.2) c
  have e2 : (fn.map fun d => fnA K (d.at_.ad K))[i]? = (fn.map DefA.val)[i]? := by rw [e]
  rw [List.getElem?_map, List.getElem?_map, h] at e2
  exact DefA.funD (Option.some.inj e2) (List.all_eq_true.mp c.parts.2.1 d (List.mem_of_getElem? h))
end
/-! ### facts by Bools -/
def prpB (K : PySem.W.Frag) (x f : Str) : Bool := He.eqO (PySem.W.findIn K (.ref (He.ga K x)) f) (some (some (.ref (He.ma K (He.ga K x) f)))) && (He.eqO (PySem.W.specialIn K (.ref (He.ma K (He.ga K x) f)) "__get__") (some (some (.builtin "property.__get__"))) &&
  (decide (PySem.W.takesIn K (.ref (He.ma K (He.ga K x) f)) = some true) && (match PySem.W.recIn K (He.ma K (He.ga K x) f) "property" with
    | some (.ref g :: _) => decide (g = prpA K (He.ga K x) f)
    | _ => false)))
theorem prpB_ok {K : PySem.W.Frag} {x f : Str} (h : prpB K x f = true) : PropOf K (He.ga K x) f (He.ma K (He.ga K x) f) (prpA K (He.ga K x) f) := by
  obtain ⟨h1, h⟩ := He.ba h
  obtain ⟨h2, h⟩ := He.ba h
  obtain ⟨h3, h⟩ := He.ba h
  refine ⟨He.eqO_ok h1, He.eqO_ok h2, of_decide_eq_true h3, ?_⟩
  cases e : PySem.W.recIn K (He.ma K (He.ga K x) f) "property" with
  | none => rw [e] at h; cases h
  | some l =>
    rw [e] at h
    cases l with
    | nil => cases h
    | cons v r =>
      cases v with
      | ref g => exact ⟨r, by rw [of_decide_eq_true h]⟩
      | _ => cases h
def insB (K : PySem.W.Frag) (x : Str) : Bool := (He.Fa.cls x).ok K && (He.eqO (PySem.W.findIn K (.ref (He.ga K x)) "__class__") (some (some (.builtin "object.__class__"))) && (He.eqO (PySem.W.specialIn K (.builtin "object.__class__") "__get__") (some (some (.builtin "getset_descriptor.__get__"))) &&
  (decide (PySem.W.takesIn K (.builtin "object.__class__") = some true) && (decide (PySem.W.mroIn K (He.ga K x) (.type "object") = some true) && decide (PySem.W.kitOne K (.ref (He.ga K x)) (.ref (He.ga K x)) = some true)))))
theorem insB_ok {K : PySem.W.Frag} {x : Str} (h : insB K x = true) : C8.InsC K (He.ga K x) := by
  obtain ⟨h1, h⟩ := He.ba h
  obtain ⟨h2, h⟩ := He.ba h
  obtain ⟨h3, h⟩ := He.ba h
  obtain ⟨h4, h⟩ := He.ba h
  obtain ⟨h5, h6⟩ := He.ba h
  exact ⟨He.cls_ok h1, He.eqO_ok h2, He.eqO_ok h3, of_decide_eq_true h4, of_decide_eq_true h5, of_decide_eq_true h6⟩
def excB (K : PySem.W.Frag) (x : Str) : Bool := He.eqO (PySem.W.findIn K (.ref (He.ga K x)) "__getattribute__") (some (some (.builtin "BaseException.__getattribute__"))) && (He.eqO (PySem.W.findIn K (.ref (He.ga K x)) "__getattr__") (some none) && (decide (PySem.W.subIn K (.ref (He.ga K x)) (.type "BaseException") = some true) &&
  (PySem.W.hasDictIn K (He.ga K x) && (He.eqO (PySem.W.findIn K (.ref (He.ga K x)) "__class__") (some (some (.builtin "object.__class__"))) && (He.eqO (PySem.W.specialIn K (.builtin "object.__class__") "__get__") (some (some (.builtin "getset_descriptor.__get__"))) &&
  (decide (PySem.W.takesIn K (.builtin "object.__class__") = some true) && decide (PySem.W.mroIn K (He.ga K x) (.type "object") = some true)))))))
theorem excB_ok {K : PySem.W.Frag} {x : Str} (h : excB K x = true) : ExcC K (He.ga K x) := by
  obtain ⟨h1, h⟩ := He.ba h
  obtain ⟨h2, h⟩ := He.ba h
  obtain ⟨h3, h⟩ := He.ba h
  obtain ⟨h4, h⟩ := He.ba h
  obtain ⟨h5, h⟩ := He.ba h
  obtain ⟨h6, h⟩ := He.ba h
  obtain ⟨h7, h8⟩ := He.ba h
  exact ⟨He.eqO_ok h1, He.eqO_ok h2, of_decide_eq_true h3, h4, He.eqO_ok h5, He.eqO_ok h6, of_decide_eq_true h7, of_decide_eq_true h8⟩
def kitB (K : PySem.W.Frag) (a b : Value) (r : Bool) : Bool := decide (PySem.W.kitOne K a b = some r)
theorem kitB_ok {K : PySem.W.Frag} {a b : Value} {r : Bool} (h : kitB K a b r = true) : PySem.W.kitOne K a b = some r := of_decide_eq_true h
def ownEqB (K : PySem.W.Frag) (x : Str) : Bool := He.eqO (PySem.W.findIn K (.ref (He.ga K x)) "__eq__") (some (some (.ref (He.ma K (He.ga K x) "__eq__")))) && PySem.W.isFn K (.ref (He.ma K (He.ga K x) "__eq__"))
theorem ownEqB_ok {K : PySem.W.Frag} {x : Str} (h : ownEqB K x = true) : PySem.W.findIn K (.ref (He.ga K x)) "__eq__" = some (some (.ref (He.ma K (He.ga K x) "__eq__"))) ∧ PySem.W.isFn K (.ref (He.ma K (He.ga K x) "__eq__")) = true := by
  obtain ⟨h1, h2⟩ := He.ba h
  exact ⟨He.eqO_ok h1, h2⟩
/-- one Bool of many -/
theorem all_of {α : Type} {p : α → Bool} {l : List α} (h : l.all p = true) (i : Nat) {x : α} (e : l[i]? = some x := by rfl) : p x = true := List.all_eq_true.mp h x (List.mem_of_getElem? e)
end WJ
set_option Elab.async false
set_option linter.all false
set_option maxRecDepth 100000
set_option maxHeartbeats 2000000
/-! WkH: the head's Hook once more: defs with the cell of their class too, what the modules' table and the statics say -/
namespace WJ
open PySem PySem.Spec PyProof.Rows L2
def asK (g : Addr → Option Obj) (n : Nat) : List Addr := He.asD g n ++ [cStatics, sysModules]
structure DefC where
  at_ : At
  name : Str
  qual : Str
  params : Arguments
  body : List Stmt
  scope : Scope
  cl : List Str := []
abbrev FnK : Type := Option (Str × Str × Arguments × FuncBody × Scope × Addr × List Str × Addr)
def fnK (K : PySem.W.Frag) (a : Addr) : FnK := match K.lookup a with
  | some ⟨_, _, .func fd, _⟩ => some (fd.name, fd.qualname, fd.params, fd.body, fd.scope, fd.globals, fd.closure.map (·.1), fd.builtins)
  | _ => none
def DefC.val (d : DefC) : FnK := some (d.name, d.qual, d.params, .stmts d.body, d.scope, mainGlobals, d.cl, builtinsNs)
def DefC.ok (K : PySem.W.Frag) (d : DefC) : Bool := PySem.W.keepIn K (.ref (d.at_.ad K)) && (match K.lookup (d.at_.ad K) with
  | some ⟨_, _, .func fd, _⟩ => PySem.W.codeIn K fd.code d.qual && He.dflB K fd.defaults []
  | _ => false)
/-- the def as it stands, whatever its closure -/
theorem DefC.ex {K : PySem.W.Frag} {d : DefC} (e : fnK K (d.at_.ad K) = d.val) (c : d.ok K = true) : ∃ (oc : Value) (od : Option Addr) (osl : Array (Option Value)) (kV doc pm : Value) (an : Option Addr) (cdv ct : Value) (cl : List (Str × Addr)), cl.map (·.1) = d.cl ∧
    K.lookup (d.at_.ad K) = some ⟨oc, od, .func (PySem.W.fnX d.name d.qual d.params d.body d.scope cl .none kV doc pm an cdv ct), osl⟩ ∧ PySem.W.codeIn K cdv d.qual = true ∧ PySem.W.keepIn K (.ref (d.at_.ad K)) = true := by
  obtain ⟨kp, c2⟩ := He.ba c
  unfold fnK at e
  cases q : K.lookup (d.at_.ad K) with
  | none =>
    rw [q] at c2
    cases c2
  | some o =>
    obtain ⟨oc, od, dt, osl⟩ := o
    rw [q] at c2 e
    cases dt with
    | func fd =>
      obtain ⟨n1, n2, n3, n4, n5, n6, n7, n8, n9, n10, n11, n12, n13, n14, n15⟩ := fd
      have e2 : (some (n1, n2, n3, n4, n5, n6, n7.map (·.1), n15) : FnK) = some (d.name, d.qual, d.params, .stmts d.body, d.scope, mainGlobals, d.cl, builtinsNs) := e
      simp only [Option.some.injEq, Prod.mk.injEq] at e2
      obtain ⟨h1, h2, h3, h4, h5, h6, h7, h8⟩ := e2
      subst h1 h2 h3 h4 h5 h6 h8
      have c3 : (PySem.W.codeIn K n13 d.qual && He.dflB K n8 []) = true := c2
      obtain ⟨k1, k2⟩ := He.ba c3
      have hd : n8 = .none := by
        rcases He.dflB_ok k2 with ⟨_, z⟩ | ⟨z, _⟩
        · exact z
        · exact absurd rfl z
      subst hd
      exact ⟨oc, od, osl, n9, n10, n11, n12, n13, n14, n7, h7, rfl, k1, kp⟩
    | _ => cases c2
theorem DefC.funD {K : PySem.W.Frag} {d : DefC} (hc : d.cl = []) (e : fnK K (d.at_.ad K) = d.val) (c : d.ok K = true) : ∃ fd, FunD K d.name d.qual d.params d.body d.scope [] [] (d.at_.ad K) fd := by
  obtain ⟨oc, od, osl, kV, doc, pm, an, cdv, ct, cl, h1, h2, h3, h4⟩ := DefC.ex e c
  rw [hc] at h1
  have h5 : cl = [] := List.map_eq_nil_iff.mp h1
  subst h5
  exact ⟨_, ⟨oc, od, .none, kV, doc, pm, an, cdv, ct, osl, rfl, h2, h3, Or.inl ⟨rfl, rfl⟩, Or.inl rfl⟩, h4⟩
abbrev AlK : Type := Bool × List FnK
def obsK (fa : List He.Fa) (fn : List DefC) (ex : PySem.W.Frag → Bool) (K : PySem.W.Frag) : AlK := ((fa.all fun f => f.ok K) && ((fn.all fun d => d.ok K) && ex K), fn.map fun d => fnK K (d.at_.ad K))
def valK (fn : List DefC) : AlK := (true, fn.map DefC.val)
def SaysK (fa : List He.Fa) (fn : List DefC) (ex : PySem.W.Frag → Bool) (K : PySem.W.Frag) : Prop := obsK fa fn ex K = valK fn
def obsKG (n : Nat) (fa : List He.Fa) (fn : List DefC) (ex : PySem.W.Frag → Bool) (g : Addr → Option Obj) : AlK := obsK fa fn ex (He.frT g (asK g n))
def hookK (n : Nat) (fa : List He.Fa) (fn : List DefC) (ex : PySem.W.Frag → Bool) : PySem.W.Hook where
  α := AlK
  obs := fun s => obsKG n fa fn ex s.heap.get?
  val := fun _ => valK fn
  says := fun _ h => ∃ K : PySem.W.Frag, K.In h ∧ SaysK fa fn ex K
  of := fun _ _ e => ⟨_, He.frT_in, e⟩
  keeps := fun _ _ _ ⟨K, hK, c⟩ k => ⟨K, PySem.W.Frag.In.keeps hK k, c⟩
theorem obsKG_eq {n : Nat} {fa : List He.Fa} {fn : List DefC} {ex : PySem.W.Frag → Bool} {g : Addr → Option Obj} {s : Shared} (h : ∀ a, g a = s.heap.get? a) : obsKG n fa fn ex g = (hookK n fa fn ex).obs s := by
  have e : g = s.heap.get? := funext h
  rw [e] <;> rfl
section
variable {fa : List He.Fa} {fn : List DefC} {ex : PySem.W.Frag → Bool} {K : PySem.W.Frag}
theorem SaysK.parts (c : SaysK fa fn ex K) : (fa.all fun f => f.ok K) = true ∧ (fn.all fun d => d.ok K) = true ∧ ex K = true := by
  obtain ⟨h1, h2⟩ := He.ba (show ((fa.all fun f => f.ok K) && ((fn.all fun d => d.ok K) && ex K)) = true from congrArg (fun z : AlK => z.1) c)
  obtain ⟨h3, h4⟩ := He.ba h2
  exact ⟨h1, h3, h4⟩
theorem SaysK.fact (c : SaysK fa fn ex K) (i : Nat) {f : He.Fa} (h : fa[i]? = some f := by rfl) : f.ok K = true :=
  List.all_eq_true.mp c.parts.1 f (List.mem_of_getElem? h)
theorem SaysK.raw (c : SaysK fa fn ex K) (i : Nat) {d : DefC} (h : fn[i]? = some d) : fnK K (d.at_.ad K) = d.val ∧ d.ok K = true := by
  have e : fn.map (fun d => fnK K (d.at_.ad K)) = fn.map DefC.val := congrArg (fun z : AlK => z.2) c
  have e2 : (fn.map fun d => fnK K (d.at_.ad K))[i]? = (fn.map DefC.val)[i]? := by rw [e]
  rw [List.getElem?_map, List.getElem?_map, h] at e2
  exact ⟨Option.some.inj e2, List.all_eq_true.mp c.parts.2.1 d (List.mem_of_getElem? h)⟩
theorem SaysK.def_ (c : SaysK fa fn ex K) (i : Nat) {d : DefC} (h : fn[i]? = some d := by rfl) (hc : d.cl = [] := by rfl) : ∃ fd, FunD K d.name d.qual d.params d.body d.scope [] [] (d.at_.ad K) fd :=
  DefC.funD hc (c.raw i h).1 (c.raw i h).2
end
/-! ### own exceptions with __init__ -/
/-- the def's code has the file fl, its cell the class at C -/
def cellB (K : PySem.W.Frag) (C f : Addr) (fl : Str) : Bool := match K.lookup f with
  | some ⟨_, _, .func fd, _⟩ => (match fd.code with
    | .ref c => (match K.lookup c with
      | some ⟨_, _, .fields vs, _⟩ => (match (vs[2]? : Option Value) with
        | some (Value.str file _) => fl == file
        | _ => false)
      | _ => false)
    | _ => false) && (match fd.closure with
    | [(_, cc)] => (match K.lookup cc with
      | some ⟨_, _, .cell (some (.ref D)), _⟩ => decide (D = C)
      | _ => false)
    | _ => false)
  | _ => false
theorem cellB_ok {K : PySem.W.Frag} {C f : Addr} {fl : Str} {oc : Value} {od : Option Addr} {fd : FuncData} {osl : Array (Option Value)} (lk : K.lookup f = some ⟨oc, od, .func fd, osl⟩) (h : cellB K C f fl = true) :
    (∃ cda ccl cdd vs ccs file tf, fd.code = .ref cda ∧ K.lookup cda = some ⟨ccl, cdd, .fields vs, ccs⟩ ∧ vs[2]? = some (.str file tf) ∧ (fl == file) = true) ∧ ∃ y cc cl cld csl, fd.closure = [(y, cc)] ∧ K.lookup cc = some ⟨cl, cld, .cell (some (.ref C)), csl⟩ := by
  unfold cellB at h
  rw [lk] at h
  obtain ⟨h1, h2⟩ := He.ba h
  constructor
  · cases e : fd.code with
    | ref c =>
      rw [e] at h1
      cases q : K.lookup c with
      | none => simp only [q] at h1; cases h1
      | some o =>
        obtain ⟨o1, o2, o3, o4⟩ := o
        simp only [q] at h1
        cases o3 with
        | fields vs =>
          cases z : vs[2]? with
          | none => simp only [z] at h1; cases h1
          | some v =>
            simp only [z] at h1
            cases v with
            | str file tf => exact ⟨c, o1, o2, vs, o4, file, tf, rfl, q, z, h1⟩
            | _ => cases h1
        | _ => cases h1
    | _ => rw [e] at h1; cases h1
  · cases e : fd.closure with
    | nil => rw [e] at h2; cases h2
    | cons a r =>
      obtain ⟨y, cc⟩ := a
      cases r with
      | cons b r => rw [e] at h2; cases h2
      | nil =>
        rw [e] at h2
        cases q : K.lookup cc with
        | none => simp only [q] at h2; cases h2
        | some o =>
          obtain ⟨o1, o2, o3, o4⟩ := o
          simp only [q] at h2
          cases o3 with
          | cell v =>
            cases v with
            | none => cases h2
            | some w =>
              cases w with
              | ref D =>
                have eD : D = C := of_decide_eq_true h2
                subst eD
                exact ⟨y, cc, o1, o2, o4, rfl, q⟩
              | _ => cases h2
          | _ => cases h2
def oexB (K : PySem.W.Frag) (C : Addr) : Bool := (match K.lookup C with
  | some ⟨.type t, _, .cls cd, sl⟩ => decide (t = "type") && (match cd.mro, sl.toList with
    | .ref C' :: bm, [_, _, _, _, some (.builtin n), _] => decide (C' = C) && (decide (n = "ValueError.__new__") && (!cd.hasDel && (cd.hasDict && HandSPX.refsVE bm)))
    | _, _ => false)
  | _ => false) && (He.eqO (PySem.W.findIn K (.ref C) "__setattr__") (some (some (.builtin "object.__setattr__"))) && (decide (PySem.W.subIn K (.ref C) (.type "BaseException") = some true) && (decide (PySem.W.typeIn K (.ref C) = some (.type "type")) && PySem.W.keepIn K (.ref C))))
theorem oexB_ok {K : PySem.W.Frag} {C : Addr} (h : oexB K C = true) : OexC K C := by
  obtain ⟨h1, h⟩ := He.ba h
  obtain ⟨h2, h⟩ := He.ba h
  obtain ⟨h3, h⟩ := He.ba h
  obtain ⟨h4, h5⟩ := He.ba h
  refine ⟨?_, He.eqO_ok h2, of_decide_eq_true h3, of_decide_eq_true h4, h5⟩
  cases q : K.lookup C with
  | none => rw [q] at h1; cases h1
  | some o =>
    obtain ⟨oc, od, dt, sl⟩ := o
    rw [q] at h1
    cases oc with
    | type t =>
      cases dt with
      | cls cd =>
        obtain ⟨g1, g2⟩ := He.ba h1
        have et : t = "type" := of_decide_eq_true g1
        subst et
        obtain ⟨nm, bs, mro, ns, qn, hd, sn, sub, ab, col, del⟩ := cd
        cases mro with
        | nil => cases g2
        | cons m0 bm =>
          cases m0 with
          | ref C' =>
            obtain ⟨l⟩ := sl
            match l, g2 with
            | [k0, k1, k2, k3, some (.builtin n), k5], g2 =>
              obtain ⟨a1, a2⟩ := He.ba g2
              obtain ⟨a3, a4⟩ := He.ba a2
              obtain ⟨a5, a6⟩ := He.ba a4
              obtain ⟨a7, a8⟩ := He.ba a6
              have e1 : C' = C := of_decide_eq_true a1
              have e2 : n = "ValueError.__new__" := of_decide_eq_true a3
              have e3 : hd = true := a7
              have e4 : del = false := by
                cases del with
                | false => rfl
                | true => cases a5
              subst e1 e2 e3 e4
              exact ⟨nm, qn, ns, bs, bm, sn, sub, ab, col, od, k0, k1, k2, k3, k5, rfl, a8⟩
          | _ => cases g2
      | _ => cases h1
    | _ => cases dt <;> cases h1
def xicB (K : PySem.W.Frag) (C : Addr) : Bool := oexB K C && (He.eqO (PySem.W.nsIn K cStatics "thirdparty.any") (some none) && (He.eqO (PySem.W.ks_superIn K C C "__init__") (some (some (.builtin "ValueError.__init__"))) && (decide (PySem.W.subIn K (.ref C) (.type "ValueError") = some true) &&
  (decide (PySem.W.mroIn K C (.ref C) = some true) && He.eqO (PySem.W.nsIn K mainGlobals "super") (some none)))))
theorem xicB_ok {K : PySem.W.Frag} {C : Addr} (h : xicB K C = true) : XiC K C := by
  obtain ⟨h1, h⟩ := He.ba h
  obtain ⟨h2, h⟩ := He.ba h
  obtain ⟨h3, h⟩ := He.ba h
  obtain ⟨h4, h⟩ := He.ba h
  obtain ⟨h5, h6⟩ := He.ba h
  exact ⟨oexB_ok h1, He.eqO_ok h2, He.eqO_ok h3, of_decide_eq_true h4, of_decide_eq_true h5, He.eqO_ok h6⟩
/-- all that is asked of an own exception class with __init__ -/
def mkfB (K : PySem.W.Frag) (x fld fl : Str) : Bool := xicB K (He.ga K x) && (He.eqO (PySem.W.findIn K (.ref (He.ga K x)) fld) (some none) && (cellB K (He.ga K x) (He.ma K (He.ga K x) "__init__") fl && (He.eqO (PySem.W.findIn K (.ref (He.ga K x)) "__init__") (some (some (.ref (He.ma K (He.ga K x) "__init__")))) &&
  decide (PySem.W.typeIn K (.ref (He.ma K (He.ga K x) "__init__")) = some (.type "function")))))
theorem mkF_of {P : Program} {w : World} {K : PySem.W.Frag} {mg : Str → Option Value} {base : Heap} {x fld par txt : Str} {d : DefC} {ar : Arg} {p0 p1 p2 p3 p4 p5 q0 q1 q2 q3 : Pos} {kk : Nat} {pl : Addr → Addr → Addr → Addr → Sem Bool}
    (gC : mg x = some (.ref (He.ga K x))) (h : mkfB K x fld P.main.file = true) (hd : d.at_ = .m x "__init__") (e : fnK K (d.at_.ad K) = d.val) (c : d.ok K = true) (hcl : d.cl = [("__class__" : Str)]) (htop : (P.main.scope.names.lookup ("super" : Str)).isSome = false)
    (hp : (d.params.posonlyargs ++ d.params.args).head? = some ar) (har : ar.arg = "self")
    (hbody : d.body = [.Expr (.Call (.Attribute (.Call (.Name "super" p0) [] [] p1) "__init__" p2) [.Constant (.str txt) kk p3] [] p4) p5, .Assign [.Attribute (.Name "self" q0) fld q1] (.Name par q2) q3])
    (hks : d.scope.names.lookup ("super" : Str) = some .globalImplicit) (hkc : d.scope.names.lookup ("__class__" : Str) = some .free) (hka : d.scope.names.lookup ("self" : Str) = some .local) (hkp : d.scope.names.lookup par = some .local) (hsp : par ≠ "self") (hdp : (par == ("__debug__" : Str)) = false)
    (hcells : ∀ x ∈ d.scope.names, x.2 ≠ .cell) (hco : d.scope.isCoroutine = false) (hgen : d.scope.isGenerator = false) (hk : d.scope.kind = .function)
    (he : ∀ (L f : Addr) (cda cc : Addr), eval (.Call (.Attribute (.Call (.Name "super" p0) [] [] p1) "__init__" p2) [.Constant (.str txt) kk p3] [] p4) (PySem.W.ksEnv d.qual d.scope L f (.ref cda) cc) = (do
      let ov ← attributeBase (.Call (.Name "super" p0) [] [] p1) "__init__" (PySem.W.ksEnv d.qual d.scope L f (.ref cda) cc) (eval (.Call (.Name "super" p0) [] [] p1) (PySem.W.ksEnv d.qual d.scope L f (.ref cda) cc))
      standAt p2.atName
      let (fn, first) ← holding [ov] (getMethod ov "__init__" (pl f cda cc L))
      callWith p4 fn first (backTo p4 (starEach [.Constant (.str txt) kk p3] (PySem.W.ksEnv d.qual d.scope L f (.ref cda) cc))) []))
    (hi : ∀ (L f cda cc : Addr), interactive (PySem.W.ksEnv d.qual d.scope L f (.ref cda) cc) = false)
    (hs1 : ∀ (L f cda cc : Addr), swapsWith (.Call (.Attribute (.Call (.Name "super" p0) [] [] p1) "__init__" p2) [.Constant (.str txt) kk p3] [] p4) none p5.line (PySem.W.ksEnv d.qual d.scope L f (.ref cda) cc) = pure false)
    (hs2 : ∀ (L f cda cc : Addr), swapsWith (.Name par q2) (some (.Attribute (.Name "self" q0) fld q1)) q3.line (PySem.W.ksEnv d.qual d.scope L f (.ref cda) cc) = pure false)
    (hbi : ∀ (kV doc pm : Value) (an : Option Addr) (cdv ct : Value) (cc : Addr) (us : List Value), us.length = 2 → bindArgs (PySem.W.ksFn d.name d.qual d.params d.body d.scope .none kV doc pm an cdv ct cc) ⟨us, []⟩ = pure (([("self" : Str), par] : List Str).zip us)) : MkF P w K mg base x (He.ga K x) fld := by
  obtain ⟨h1, h⟩ := He.ba h
  obtain ⟨h2, h⟩ := He.ba h
  obtain ⟨h3, h⟩ := He.ba h
  obtain ⟨h4, h5⟩ := He.ba h
  have ead : d.at_.ad K = He.ma K (He.ga K x) "__init__" := by rw [hd]; rfl
  obtain ⟨oc, od, osl, kV, doc, pm, an, cdv, ct, cl, g1, g2, g3, g4⟩ := DefC.ex e c
  rw [ead] at g2
  obtain ⟨⟨cda, ccl, cdd, vs, ccs, file, tf, r1, r2, r3, r4⟩, y, cc, cl1, cld, csl, t1, t2⟩ := cellB_ok g2 h3
  have r1' : cdv = .ref cda := r1
  have t1' : cl = [(y, cc)] := t1
  subst r1' t1'
  rw [hcl] at g1
  have ey : y = "__class__" := by
    have z : [y] = [("__class__" : Str)] := g1
    injection z
  subst ey
  exact ⟨_, _, par, xicB_ok h1, He.eqO_ok h4, of_decide_eq_true h5, fn_xi (pl := fun L => pl _ _ _ L) (xicB_ok h1) (He.eqO_ok h2) g2 g3 r2 r3 r4 htop t2 hp har hbody hks hkc hka hkp hsp hdp hcells hco hgen hk (fun L => he L _ _ _) (fun L => hi L _ _ _) (fun L => hs1 L _ _ _) (fun L => hs2 L _ _ _), .all (fun us hl => hbi kV doc pm an _ ct cc us hl), gC⟩
/-- all that is asked of an own exception class, as a value -/
def xcB (K : PySem.W.Frag) (C : Addr) : Bool := He.eqO (PySem.W.findIn K (.ref C) "__getattribute__") (some (some (.builtin "BaseException.__getattribute__"))) && (He.eqO (PySem.W.findIn K (.ref C) "__getattr__") (some none) && (decide (PySem.W.subIn K (.ref C) (.type "BaseException") = some true) &&
  (PySem.W.hasDictIn K C && (He.eqO (PySem.W.findIn K (.ref C) "__class__") (some (some (.builtin "object.__class__"))) && (He.eqO (PySem.W.specialIn K (.builtin "object.__class__") "__get__") (some (some (.builtin "getset_descriptor.__get__"))) &&
  (decide (PySem.W.takesIn K (.builtin "object.__class__") = some true) && decide (PySem.W.mroIn K C (.type "object") = some true)))))))
theorem xcB_ok {K : PySem.W.Frag} {C : Addr} (h : xcB K C = true) : ExcC K C ∧ XfC K C := by
  obtain ⟨h1, h⟩ := He.ba h
  obtain ⟨h2, h⟩ := He.ba h
  obtain ⟨h3, h⟩ := He.ba h
  obtain ⟨h4, h⟩ := He.ba h
  obtain ⟨h5, h⟩ := He.ba h
  obtain ⟨h6, h⟩ := He.ba h
  obtain ⟨h7, h8⟩ := He.ba h
  exact ⟨⟨He.eqO_ok h1, He.eqO_ok h2, of_decide_eq_true h3, h4, He.eqO_ok h5, He.eqO_ok h6, of_decide_eq_true h7, of_decide_eq_true h8⟩, ⟨He.eqO_ok h1, He.eqO_ok h2, of_decide_eq_true h3, h4⟩⟩
def sysB (K : PySem.W.Frag) : Bool := match K.lookup sysModules with
  | some ⟨.type t, _, _, _⟩ => decide (t = "dict")
  | _ => false
theorem sysB_ok {K : PySem.W.Frag} (h : sysB K = true) : SysOk K := by
  unfold sysB at h
  cases q : K.lookup sysModules with
  | none => rw [q] at h; cases h
  | some o =>
    obtain ⟨oc, od, dt, sl⟩ := o
    rw [q] at h
    cases oc with
    | type t => exact ⟨_, q, congrArg Value.type (of_decide_eq_true h)⟩
    | _ => cases h
/-! ### calls by the module's names, from the head -/
section
variable {Pr : Program} {w : World} {K : PySem.W.Frag} {mg : Str → Option Value} {base : Heap} {x y qual : Str} {params : Arguments} {body : List Stmt} {scope : Scope} {f : Addr} {fd : FuncData} {ps : List Str} {sp : Sp} {k : Nat}
theorem fnd_of (F : FunD K x qual params body scope [] [] f fd) (hm : mg y = some (.ref f)) (hok : FnOk Pr w K mg base CX0 k f fd ps sp) (hb : Binds K fd ps []) : Fnd Pr w K mg base k y ps sp := ⟨⟨f, fd, hok, hm, F.kp, hb⟩⟩
theorem fndX_of (F : FunD K x qual params body scope [] [] f fd) (hm : mg y = some (.ref f)) (hok : FnOk Pr w K mg base (L2.CX Pr w) k f fd ps sp) (hb : Binds K fd ps []) : FndX Pr w K mg base k y ps sp := ⟨⟨f, fd, hok, hm, F.kp, hb⟩⟩
theorem fndG_of (F : FunD K x qual params body scope [] [] f fd) (hm : mg y = some (.ref f)) (hok : FnG Pr w K mg base CX0 k f fd ps sp) (hb : Binds K fd ps []) : FndG Pr w K mg base k y ps sp := ⟨⟨f, fd, hok, hm, F.kp, hb⟩⟩
end
end WJ
set_option Elab.async false
set_option linter.all false
/-! WkK: a def takes its names as keywords (for heads) -/
namespace WJ
open PySem PySem.Spec PyProof.Rows L2
section
variable {K : PySem.W.Frag} {x qual : Str} {params : Arguments} {body : List Stmt} {scope : Scope} {f : Addr} {fd : FuncData}
theorem kws_of (F : FunD K x qual params body scope [] [] f fd) {s : Shared} {ar : List Value} {kw : List (Str × Value)} {l : List (Str × Value)} (h : ∀ (kV doc pm : Value) (an : Option Addr) (cdv ct : Value), bindArgs (PySem.W.fnOf x qual params body scope .none kV doc pm an cdv ct) ⟨ar, kw⟩ = pure l) : BindsTo s fd ⟨ar, kw⟩ l := by
  obtain ⟨oc, od, dV, kV, doc, pm, an, cdv, ct, osl, rfl, lk, hcd, hD, hK⟩ := F.ex
  rcases hD with ⟨_, rfl⟩ | ⟨e, _⟩
  · exact .of_eq (h kV doc pm an cdv ct)
  · exact absurd rfl e
end
end WJ
set_option Elab.async false
set_option linter.all false
set_option maxRecDepth 100000
set_option maxHeartbeats 0
/-! H23: the head, the end -/
namespace H23
open PySem PySem.Spec PyProof.Rows L2 WJ LamX
open P23 M23 N23
abbrev PP : Program := PySem.Challenge.pw_wordjoins_k23_rings_judged
def d_is_name : DefC := ⟨.g "is_name", "is_name", "is_name", defArgs (top 10), defBody (top 10), defScope (top 10), []⟩
def d_are_tables : DefC := ⟨.g "are_tables", "are_tables", "are_tables", defArgs (top 11), defBody (top 11), defScope (top 11), []⟩
def d_is_reference : DefC := ⟨.g "is_reference", "is_reference", "is_reference", defArgs (top 12), defBody (top 12), defScope (top 12), []⟩
def d_are_references : DefC := ⟨.g "are_references", "are_references", "are_references", defArgs (top 13), defBody (top 13), defScope (top 13), []⟩
def d_Schema___init__ : DefC := ⟨.m "Schema" "__init__", "__init__", "Schema.__init__", defArgs (inClass (top 14) 0), defBody (inClass (top 14) 0), defScope (inClass (top 14) 0), []⟩
def d_Schema_references : DefC := ⟨.p "Schema" "references", "references", "Schema.references", defArgs (inClass (top 14) 2), defBody (inClass (top 14) 2), defScope (inClass (top 14) 2), []⟩
def d_steps_of : DefC := ⟨.g "steps_of", "steps_of", "steps_of", defArgs (top 17), defBody (top 17), defScope (top 17), []⟩
def d_ends_of : DefC := ⟨.g "ends_of", "ends_of", "ends_of", defArgs (top 19), defBody (top 19), defScope (top 19), []⟩
def d_is_many : DefC := ⟨.g "is_many", "is_many", "is_many", defArgs (top 20), defBody (top 20), defScope (top 20), []⟩
def d_may_follow : DefC := ⟨.g "may_follow", "may_follow", "may_follow", defArgs (top 21), defBody (top 21), defScope (top 21), []⟩
def d_is_step : DefC := ⟨.g "is_step", "is_step", "is_step", defArgs (top 18), defBody (top 18), defScope (top 18), []⟩
def d_need_schema : DefC := ⟨.g "need_schema", "need_schema", "need_schema", defArgs (top 15), defBody (top 15), defScope (top 15), []⟩
def d_is_ring : DefC := ⟨.g "is_ring", "is_ring", "is_ring", defArgs (top 22), defBody (top 22), defScope (top 22), []⟩
def d__law_source : DefC := ⟨.g "_law_source", "_law_source", "_law_source", defArgs (top 24), defBody (top 24), defScope (top 24), []⟩
def d__law_next : DefC := ⟨.g "_law_next", "_law_next", "_law_next", defArgs (top 25), defBody (top 25), defScope (top 25), []⟩
def d__law_pick : DefC := ⟨.g "_law_pick", "_law_pick", "_law_pick", defArgs (top 26), defBody (top 26), defScope (top 26), []⟩
def d__law_shuffled : DefC := ⟨.g "_law_shuffled", "_law_shuffled", "_law_shuffled", defArgs (top 27), defBody (top 27), defScope (top 27), []⟩
def d__law_parts : DefC := ⟨.g "_law_parts", "_law_parts", "_law_parts", defArgs (top 28), defBody (top 28), defScope (top 28), []⟩
def d__law_every : DefC := ⟨.g "_law_every", "_law_every", "_law_every", defArgs (top 29), defBody (top 29), defScope (top 29), []⟩
def d__law_ends : DefC := ⟨.g "_law_ends", "_law_ends", "_law_ends", defArgs (top 30), defBody (top 30), defScope (top 30), []⟩
def d__law_may : DefC := ⟨.g "_law_may", "_law_may", "_law_may", defArgs (top 31), defBody (top 31), defScope (top 31), []⟩
def d__law_ring : DefC := ⟨.g "_law_ring", "_law_ring", "_law_ring", defArgs (top 32), defBody (top 32), defScope (top 32), []⟩
def d__law_is_ring : DefC := ⟨.g "_law_is_ring", "_law_is_ring", "_law_is_ring", defArgs (top 33), defBody (top 33), defScope (top 33), []⟩
def d__law_bent : DefC := ⟨.g "_law_bent", "_law_bent", "_law_bent", defArgs (top 34), defBody (top 34), defScope (top 34), []⟩
def d_law : DefC := ⟨.g "law", "law", "law", defArgs (top 35), defBody (top 35), defScope (top 35), []⟩
def fn : List DefC := [d_is_name, d_are_tables, d_is_reference, d_are_references, d_Schema___init__, d_Schema_references, d_steps_of, d_ends_of, d_is_many, d_may_follow, d_is_step, d_need_schema, d_is_ring, d__law_source, d__law_next, d__law_pick, d__law_shuffled, d__law_parts, d__law_every, d__law_ends, d__law_may, d__law_ring, d__law_is_ring, d__law_bent, d_law]
def fa : List He.Fa := [.glo "law", .glo "KINDS", .str "LETTERS" "abcdefghijklmnopqrstuvwxyz", .int "MOST_LETTERS" 6, .int "MOST_REFERENCES" 6, .int "MOST_TABLES" 5, .glo "Schema", .free "all", .free "any", .free "dict", .free "enumerate", .free "isinstance", .free "len", .free "list", .free "set", .free "sorted", .free "str", .free "tuple", .free "zip", .free "abs", .free "int", .free "max", .free "min", .free "range", .free "repr", .exc "NoSchema", .glo "NoSchema", .noat "Schema" "own_tables", .noat "Schema" "own_references", .glo "is_name", .glo "are_tables", .glo "is_reference", .glo "are_references", .mkr "Schema", .glo "steps_of", .glo "ends_of", .glo "is_many", .glo "may_follow", .glo "is_step", .glo "need_schema", .glo "is_ring", .glo "_law_source", .glo "_law_next", .glo "_law_pick", .glo "_law_shuffled", .glo "_law_parts", .glo "_law_every", .glo "_law_ends", .glo "_law_may", .glo "_law_ring", .glo "_law_is_ring", .glo "_law_bent"]
def ex : PySem.W.Frag → Bool := fun K => (sysB K) && ((insB K "Schema") && ((He.tupB K "KINDS" [.str "many", .str "single"]) && ((kitB K (.ref (He.ga K "Schema")) (.type "tuple") false) && ((kindL2.all fun n => kitB K (.type n) (.ref (He.ga K "Schema")) false) && ((prpB K "Schema" "references"))))))
theorem hex_0 {K : PySem.W.Frag} (c : SaysK fa fn ex K) : (sysB K) = true := by
  have h := c.parts.2.2
  exact (He.ba h).1
theorem hex_1 {K : PySem.W.Frag} (c : SaysK fa fn ex K) : (insB K "Schema") = true := by
  have h := c.parts.2.2
  replace h := (He.ba h).2
  exact (He.ba h).1
theorem hex_2 {K : PySem.W.Frag} (c : SaysK fa fn ex K) : (He.tupB K "KINDS" [.str "many", .str "single"]) = true := by
  have h := c.parts.2.2
  replace h := (He.ba h).2
  replace h := (He.ba h).2
  exact (He.ba h).1
theorem hex_3 {K : PySem.W.Frag} (c : SaysK fa fn ex K) : (kitB K (.ref (He.ga K "Schema")) (.type "tuple") false) = true := by
  have h := c.parts.2.2
  replace h := (He.ba h).2
  replace h := (He.ba h).2
  replace h := (He.ba h).2
  exact (He.ba h).1
theorem hex_4 {K : PySem.W.Frag} (c : SaysK fa fn ex K) : (kindL2.all fun n => kitB K (.type n) (.ref (He.ga K "Schema")) false) = true := by
  have h := c.parts.2.2
  replace h := (He.ba h).2
  replace h := (He.ba h).2
  replace h := (He.ba h).2
  replace h := (He.ba h).2
  exact (He.ba h).1
theorem hex_5 {K : PySem.W.Frag} (c : SaysK fa fn ex K) : (prpB K "Schema" "references") = true := by
  have h := c.parts.2.2
  replace h := (He.ba h).2
  replace h := (He.ba h).2
  replace h := (He.ba h).2
  replace h := (He.ba h).2
  replace h := (He.ba h).2
  exact h
abbrev R : PySem.W.OpenRow := PySem.W.OpenLaw.row PySem.Challenge.rw_wordjoins_k23_rings_judged
abbrev hk : PySem.W.Hook := hookK 6 fa fn ex
def ob (s : PySem.W.SharedT) : AlK := obsKG 6 fa fn ex (HandSHeadRun.getT s)
theorem ob_eq (s : PySem.W.SharedT) : ob s = hk.obs s.abs := obsKG_eq (HandSHeadRun.getT_eq s)
def loose : List PySem.Str := ((["_wall", "__name__", "JoinError", "NoSchema", "LETTERS", "MOST_LETTERS", "MOST_TABLES", "MOST_REFERENCES", "KINDS", "is_name", "are_tables", "is_reference", "are_references", "Schema", "need_schema", "steps_of", "is_step", "ends_of", "is_many", "may_follow"] : List PySem.Str) ++ (["is_ring", "_law_source", "_law_next", "_law_pick", "_law_shuffled", "_law_parts", "_law_every", "_law_ends", "_law_may", "_law_ring", "_law_is_ring", "_law_bent"] : List PySem.Str))
theorem run (w : World) : HandSHeadRun.RunEq R (PySem.W.view R.prog [35]) hk ob 12000 loose w := by
  intro os
  kernel_rfl
theorem facts {w : World} {K : PySem.W.Frag} {h : Heap} {mg : Str → Option Value} {f : Addr} (X : K.In h) (G : h.Ns mainGlobals mg) (hfa : mg ("law" : Str) = some (.ref f)) (c : SaysK fa fn ex K) :
    ∃ fd : FuncData, (∀ (s : Shared) (v : Value), BindsTo s fd ⟨[v], []⟩ [("_law_script", v)]) ∧ ∀ base : Heap, K.In base → base.Ns mainGlobals mg → FnG PP w K mg base CX0 7 f fd ["_law_script"] (spLawS K) := by
  obtain ⟨fd_is_name, D_is_name⟩ := c.def_ 0 (d := d_is_name) rfl
  obtain ⟨fd_are_tables, D_are_tables⟩ := c.def_ 1 (d := d_are_tables) rfl
  obtain ⟨fd_is_reference, D_is_reference⟩ := c.def_ 2 (d := d_is_reference) rfl
  obtain ⟨fd_are_references, D_are_references⟩ := c.def_ 3 (d := d_are_references) rfl
  obtain ⟨fd_Schema___init__, D_Schema___init__⟩ := c.def_ 4 (d := d_Schema___init__) rfl
  obtain ⟨fd_Schema_references, D_Schema_references⟩ := c.def_ 5 (d := d_Schema_references) rfl
  obtain ⟨fd_steps_of, D_steps_of⟩ := c.def_ 6 (d := d_steps_of) rfl
  obtain ⟨fd_ends_of, D_ends_of⟩ := c.def_ 7 (d := d_ends_of) rfl
  obtain ⟨fd_is_many, D_is_many⟩ := c.def_ 8 (d := d_is_many) rfl
  obtain ⟨fd_may_follow, D_may_follow⟩ := c.def_ 9 (d := d_may_follow) rfl
  obtain ⟨fd_is_step, D_is_step⟩ := c.def_ 10 (d := d_is_step) rfl
  obtain ⟨fd_need_schema, D_need_schema⟩ := c.def_ 11 (d := d_need_schema) rfl
  obtain ⟨fd_is_ring, D_is_ring⟩ := c.def_ 12 (d := d_is_ring) rfl
  obtain ⟨fd__law_source, D__law_source⟩ := c.def_ 13 (d := d__law_source) rfl
  obtain ⟨fd__law_next, D__law_next⟩ := c.def_ 14 (d := d__law_next) rfl
  obtain ⟨fd__law_pick, D__law_pick⟩ := c.def_ 15 (d := d__law_pick) rfl
  obtain ⟨fd__law_shuffled, D__law_shuffled⟩ := c.def_ 16 (d := d__law_shuffled) rfl
  obtain ⟨fd__law_parts, D__law_parts⟩ := c.def_ 17 (d := d__law_parts) rfl
  obtain ⟨fd__law_every, D__law_every⟩ := c.def_ 18 (d := d__law_every) rfl
  obtain ⟨fd__law_ends, D__law_ends⟩ := c.def_ 19 (d := d__law_ends) rfl
  obtain ⟨fd__law_may, D__law_may⟩ := c.def_ 20 (d := d__law_may) rfl
  obtain ⟨fd__law_ring, D__law_ring⟩ := c.def_ 21 (d := d__law_ring) rfl
  obtain ⟨fd__law_is_ring, D__law_is_ring⟩ := c.def_ 22 (d := d__law_is_ring) rfl
  obtain ⟨fd__law_bent, D__law_bent⟩ := c.def_ 23 (d := d__law_bent) rfl
  obtain ⟨fd_law, D_law⟩ := c.def_ 24 (d := d_law) rfl
  have e := hfa.symm.trans (He.glo_ok X G (c.fact 0 (f := .glo "law") rfl))
  cases e
  have b := FunD.bindsA (ps := ["_law_script"]) D_law fun _ _ _ _ _ _ us hl => match us, hl with | [_], _ => rfl
  refine ⟨fd_law, fun s v => b s [v] rfl, fun base _ _ => ?_⟩
  have GM : M23.Glb K mg := ⟨(He.glo_ok X G (c.fact 1 (f := .glo "KINDS") rfl)), (He.str_ok X G (c.fact 2 (f := .str "LETTERS" "abcdefghijklmnopqrstuvwxyz") rfl)), (He.int_ok X G (c.fact 3 (f := .int "MOST_LETTERS" 6) rfl)), (He.int_ok X G (c.fact 4 (f := .int "MOST_REFERENCES" 6) rfl)), (He.int_ok X G (c.fact 5 (f := .int "MOST_TABLES" 5) rfl)), (He.glo_ok X G (c.fact 6 (f := .glo "Schema") rfl)), (He.free_ok X G (c.fact 7 (f := .free "all") rfl)), (He.free_ok X G (c.fact 8 (f := .free "any") rfl)), (He.free_ok X G (c.fact 9 (f := .free "dict") rfl)), (He.free_ok X G (c.fact 10 (f := .free "enumerate") rfl)), (He.free_ok X G (c.fact 11 (f := .free "isinstance") rfl)), (He.free_ok X G (c.fact 12 (f := .free "len") rfl)), (He.free_ok X G (c.fact 13 (f := .free "list") rfl)), (He.free_ok X G (c.fact 14 (f := .free "set") rfl)), (He.free_ok X G (c.fact 15 (f := .free "sorted") rfl)), (He.free_ok X G (c.fact 16 (f := .free "str") rfl)), (He.free_ok X G (c.fact 17 (f := .free "tuple") rfl)), (He.free_ok X G (c.fact 18 (f := .free "zip") rfl))⟩
  have GN : N23.Glb K mg := ⟨(He.free_ok X G (c.fact 19 (f := .free "abs") rfl)), (He.free_ok X G (c.fact 9 (f := .free "dict") rfl)), (He.free_ok X G (c.fact 20 (f := .free "int") rfl)), (He.free_ok X G (c.fact 11 (f := .free "isinstance") rfl)), (He.free_ok X G (c.fact 12 (f := .free "len") rfl)), (He.free_ok X G (c.fact 13 (f := .free "list") rfl)), (He.free_ok X G (c.fact 21 (f := .free "max") rfl)), (He.free_ok X G (c.fact 22 (f := .free "min") rfl)), (He.free_ok X G (c.fact 23 (f := .free "range") rfl)), (He.free_ok X G (c.fact 24 (f := .free "repr") rfl)), (He.free_ok X G (c.fact 14 (f := .free "set") rfl)), (He.free_ok X G (c.fact 15 (f := .free "sorted") rfl)), (He.free_ok X G (c.fact 17 (f := .free "tuple") rfl)), (He.free_ok X G (c.fact 18 (f := .free "zip") rfl))⟩
  have MX : M23.Mxs PP w K mg base := ⟨⟨(He.exc_ok (c.fact 25 (f := .exc "NoSchema") rfl)).1, (He.glo_ok X G (c.fact 26 (f := .glo "NoSchema") rfl)), (He.exc_ok (c.fact 25 (f := .exc "NoSchema") rfl)).2.1⟩⟩
  have hS : SysOk K := sysB_ok (hex_0 c)
  have cl : C8.InsC K (He.ga K "Schema") := insB_ok (hex_1 c)
  have n1 : NoAttr K (He.ga K "Schema") "own_tables" := (He.noat_ok (c.fact 27 (f := .noat "Schema" "own_tables") rfl))
  have n2 : NoAttr K (He.ga K "Schema") "own_references" := (He.noat_ok (c.fact 28 (f := .noat "Schema" "own_references") rfl))
  have k1 : KindsOk K (He.ga K "KINDS") := He.tupB_ok (hex_2 c) _
  have SF : SchF K := ⟨cl, kitB_ok (hex_3 c), fun n hn => kitB_ok (List.all_eq_true.mp (hex_4 c) n hn)⟩
  have X1S : M23.X1 K "NoSchema" := ⟨(He.exc_ok (c.fact 25 (f := .exc "NoSchema") rfl)).2.2.1, (He.exc_ok (c.fact 25 (f := .exc "NoSchema") rfl)).2.2.2⟩
  have F_is_name : Fnd PP w K mg base 1 "is_name" ["thing"] _ := fnd_of D_is_name (He.glo_ok X G (c.fact 29 (f := .glo "is_name") rfl)) (ok_is_name GM D_is_name) (D_is_name.bindsN fun _ _ _ _ _ _ us hl => match us, hl with | [_], _ => rfl)
  have F_are_tables : Fnd PP w K mg base 2 "are_tables" ["thing"] _ := fnd_of D_are_tables (He.glo_ok X G (c.fact 30 (f := .glo "are_tables") rfl)) (ok_are_tables GM F_is_name D_are_tables) (D_are_tables.bindsN fun _ _ _ _ _ _ us hl => match us, hl with | [_], _ => rfl)
  have F_is_reference : Fnd PP w K mg base 1 "is_reference" ["thing", "tables"] _ := fnd_of D_is_reference (He.glo_ok X G (c.fact 31 (f := .glo "is_reference") rfl)) (ok_is_reference k1 GM D_is_reference) (D_is_reference.bindsN fun _ _ _ _ _ _ us hl => match us, hl with | [_, _], _ => rfl)
  have F_are_references : Fnd PP w K mg base 2 "are_references" ["thing", "tables"] _ := fnd_of D_are_references (He.glo_ok X G (c.fact 32 (f := .glo "are_references") rfl)) (ok_are_references GM F_is_name F_is_reference D_are_references) (D_are_references.bindsN fun _ _ _ _ _ _ us hl => match us, hl with | [_, _], _ => rfl)
  have M_Schema : Mkd PP w K mg base 3 "Schema" (He.ga K "Schema") ["self", "tables", "references"] _ := ⟨⟨_, _, (He.mkr_ok (c.fact 33 (f := .mkr "Schema") rfl)), ok_init cl.cl n1 n2 GM F_are_tables F_are_references D_Schema___init__, (He.glo_ok X G (c.fact 6 (f := .glo "Schema") rfl)), D_Schema___init__.bindsN fun _ _ _ _ _ _ us hl => match us, hl with | [_, _, _], _ => rfl⟩⟩
  have P_Schema_references : Prp PP w K mg base 1 (He.ga K "Schema") "references" ["self"] _ := ⟨cl.cl, _, _, _, prpB_ok (hex_5 c), ok_references cl.cl n2 GM D_Schema_references, D_Schema_references.bindsN fun _ _ _ _ _ _ us hl => match us, hl with | [_], _ => rfl⟩
  have F_steps_of : Fnd PP w K mg base 3 "steps_of" ["schema"] _ := fnd_of D_steps_of (He.glo_ok X G (c.fact 34 (f := .glo "steps_of") rfl)) (ok_steps_of GM P_Schema_references D_steps_of) (D_steps_of.bindsN fun _ _ _ _ _ _ us hl => match us, hl with | [_], _ => rfl)
  have F_ends_of : Fnd PP w K mg base 3 "ends_of" ["schema", "step"] _ := fnd_of D_ends_of (He.glo_ok X G (c.fact 35 (f := .glo "ends_of") rfl)) (ok_ends_of GM P_Schema_references D_ends_of) (D_ends_of.bindsN fun _ _ _ _ _ _ us hl => match us, hl with | [_, _], _ => rfl)
  have F_is_many : Fnd PP w K mg base 3 "is_many" ["schema", "reference"] _ := fnd_of D_is_many (He.glo_ok X G (c.fact 36 (f := .glo "is_many") rfl)) (ok_is_many GM P_Schema_references D_is_many) (D_is_many.bindsN fun _ _ _ _ _ _ us hl => match us, hl with | [_, _], _ => rfl)
  have F_may_follow : Fnd PP w K mg base 4 "may_follow" ["schema", "first", "second"] _ := fnd_of D_may_follow (He.glo_ok X G (c.fact 37 (f := .glo "may_follow") rfl)) (ok_may_follow GM F_ends_of F_is_many D_may_follow) (D_may_follow.bindsN fun _ _ _ _ _ _ us hl => match us, hl with | [_, _, _], _ => rfl)
  have F_is_step : Fnd PP w K mg base 4 "is_step" ["schema", "thing"] _ := fnd_of D_is_step (He.glo_ok X G (c.fact 38 (f := .glo "is_step") rfl)) (ok_is_step SF GM F_steps_of D_is_step) (D_is_step.bindsN fun _ _ _ _ _ _ us hl => match us, hl with | [_, _], _ => rfl)
  have O_need_schema := ok_need_schema (Pr := PP) (w := w) (base := base) SF X1S MX GM D_need_schema
  have FX_need_schema : FndX PP w K mg base 1 "need_schema" ["thing"] _ := fndX_of D_need_schema (He.glo_ok X G (c.fact 39 (f := .glo "need_schema") rfl)) O_need_schema (D_need_schema.bindsN fun _ _ _ _ _ _ us hl => match us, hl with | [_], _ => rfl)
  have O_is_ring := ok_is_ring (Pr := PP) (w := w) (base := base) GM FX_need_schema F_is_step F_may_follow D_is_ring
  have FX_is_ring : FndX PP w K mg base 5 "is_ring" ["schema", "thing"] _ := fndX_of D_is_ring (He.glo_ok X G (c.fact 40 (f := .glo "is_ring") rfl)) O_is_ring (D_is_ring.bindsN fun _ _ _ _ _ _ us hl => match us, hl with | [_, _], _ => rfl)
  have KW_is_ring : KwX2 PP w K mg base (L2.CX PP w) 5 "is_ring" "thing" "schema" _ := ⟨⟨_, _, O_is_ring, (He.glo_ok X G (c.fact 40 (f := .glo "is_ring") rfl)), D_is_ring.kp, fun s u1 u2 _ => kws_of D_is_ring fun _ _ _ _ _ _ => rfl⟩⟩
  have F__law_source : Fnd PP w K mg base 1 "_law_source" ["_law_script"] _ := fnd_of D__law_source (He.glo_ok X G (c.fact 41 (f := .glo "_law_source") rfl)) (ok_source GN D__law_source) (D__law_source.bindsN fun _ _ _ _ _ _ us hl => match us, hl with | [_], _ => rfl)
  have F__law_next : Fnd PP w K mg base 1 "_law_next" ["_law_draw", "_law_size"] _ := fnd_of D__law_next (He.glo_ok X G (c.fact 42 (f := .glo "_law_next") rfl)) (ok_next GN D__law_next) (D__law_next.bindsN fun _ _ _ _ _ _ us hl => match us, hl with | [_, _], _ => rfl)
  have F__law_pick : Fnd PP w K mg base 2 "_law_pick" ["_law_draw", "_law_some"] _ := fnd_of D__law_pick (He.glo_ok X G (c.fact 43 (f := .glo "_law_pick") rfl)) (ok_pick GN F__law_next D__law_pick) (D__law_pick.bindsN fun _ _ _ _ _ _ us hl => match us, hl with | [_, _], _ => rfl)
  have F__law_shuffled : Fnd PP w K mg base 2 "_law_shuffled" ["_law_draw", "_law_some"] _ := fnd_of D__law_shuffled (He.glo_ok X G (c.fact 44 (f := .glo "_law_shuffled") rfl)) (ok_shuffled GN F__law_next D__law_shuffled) (D__law_shuffled.bindsN fun _ _ _ _ _ _ us hl => match us, hl with | [_, _], _ => rfl)
  have F__law_parts : Fnd PP w K mg base 3 "_law_parts" ["_law_draw", "_law_most"] _ := fnd_of D__law_parts (He.glo_ok X G (c.fact 45 (f := .glo "_law_parts") rfl)) (ok_parts GN F__law_next F__law_pick F__law_shuffled D__law_parts) (D__law_parts.bindsN fun _ _ _ _ _ _ us hl => match us, hl with | [_, _], _ => rfl)
  have F__law_every : Fnd PP w K mg base 1 "_law_every" ["_law_references"] _ := fnd_of D__law_every (He.glo_ok X G (c.fact 46 (f := .glo "_law_every") rfl)) (ok_every GN D__law_every) (D__law_every.bindsN fun _ _ _ _ _ _ us hl => match us, hl with | [_], _ => rfl)
  have F__law_ends : Fnd PP w K mg base 1 "_law_ends" ["_law_references", "_law_step"] _ := fnd_of D__law_ends (He.glo_ok X G (c.fact 47 (f := .glo "_law_ends") rfl)) (ok_law_ends GN D__law_ends) (D__law_ends.bindsN fun _ _ _ _ _ _ us hl => match us, hl with | [_, _], _ => rfl)
  have F__law_may : Fnd PP w K mg base 2 "_law_may" ["_law_references", "_law_first", "_law_second"] _ := fnd_of D__law_may (He.glo_ok X G (c.fact 48 (f := .glo "_law_may") rfl)) (ok_law_may GN F__law_ends D__law_may) (D__law_may.bindsN fun _ _ _ _ _ _ us hl => match us, hl with | [_, _, _], _ => rfl)
  have F__law_ring : Fnd PP w K mg base 3 "_law_ring" ["_law_draw", "_law_references"] _ := fnd_of D__law_ring (He.glo_ok X G (c.fact 49 (f := .glo "_law_ring") rfl)) (ok_law_ring GN F__law_every F__law_may F__law_pick D__law_ring) (D__law_ring.bindsN fun _ _ _ _ _ _ us hl => match us, hl with | [_, _], _ => rfl)
  have F__law_is_ring : Fnd PP w K mg base 3 "_law_is_ring" ["_law_references", "_law_value"] _ := fnd_of D__law_is_ring (He.glo_ok X G (c.fact 50 (f := .glo "_law_is_ring") rfl)) (ok_law_is_ring SF GN F__law_every F__law_may D__law_is_ring) (D__law_is_ring.bindsN fun _ _ _ _ _ _ us hl => match us, hl with | [_, _], _ => rfl)
  have F__law_bent : Fnd PP w K mg base 3 "_law_bent" ["_law_draw", "_law_references", "_law_path"] _ := fnd_of D__law_bent (He.glo_ok X G (c.fact 51 (f := .glo "_law_bent") rfl)) (ok_bent GN F__law_every F__law_next F__law_pick D__law_bent) (D__law_bent.bindsN fun _ _ _ _ _ _ us hl => match us, hl with | [_, _, _], _ => rfl)
  exact ok_law hS GN M_Schema F__law_source F__law_parts F__law_every F__law_next F__law_pick F__law_ring F__law_is_ring F__law_bent FX_is_ring KW_is_ring D_law
end H23
open PySem PySem.W PySem.Calls PyProof.Rows
theorem PySem.Challenge.cw_wordjoins_k23_rings_judged_holds : PySem.Challenge.rw_wordjoins_k23_rings_judged.Holds := by
  w_on; o_law
  refine HandSHeadRun.head_any (r := OpenLaw.row PySem.Challenge.rw_wordjoins_k23_rings_judged) (q := view (OpenLaw.row PySem.Challenge.rw_wordjoins_k23_rings_judged).prog [35]) (H := H23.hk) (ob := H23.ob) (M := 12000) (loose := H23.loose) (d := HandSHeadRun.topDef (OpenLaw.row PySem.Challenge.rw_wordjoins_k23_rings_judged).prog 35) (kwd := []) H23.ob_eq
    (by kernel_rfl) (fun s => by kernel_rfl) H23.run (by kernel_rfl) (by kernel_rfl) (by kernel_rfl) (by rfl) (by first | assumption | decide +kernel) (by decide +kernel) ⟨rfl, rfl, rfl, rfl, rfl, by decide +kernel⟩ ?hw ?hc
  case hw => w_witness2
  case hc =>
    refine WJ.walk_G (l := PySem.Challenge.rw_wordjoins_k23_rings_judged) (n := 63) (k := 7) (x := "_law_script") rfl (by decide) (by kernel_rfl) ⟨rfl, by decide, by decide⟩ ?F
    intro w mg fa h Y G hmg0
    obtain ⟨K, KX, c⟩ := Y
    have hmg : mg ("law" : PySem.Str) = some (.ref fa) := by
      have e : (HandSHeadRun.topDef (OpenLaw.row PySem.Challenge.rw_wordjoins_k23_rings_judged).prog 35).name = ("law" : PySem.Str) := by kernel_rfl
      rw [← e]
      exact hmg0
    obtain ⟨fd, hb, hF⟩ := H23.facts (w := w) KX G hmg c
    exact ⟨K, fd, WJ.spLawS K, KX, hb, fun H a ns hl _ hS => ⟨a, ns, rfl, hS, hl, fun _ => rfl⟩, hF⟩
