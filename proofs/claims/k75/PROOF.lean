import PyProof.Rows.All
import Wide.All
import OpenK.AllK
import Wide.FinOn
import HandS.ForMost
import HandS.ExcInit
import HandS.Defaults
import HandS.IsInst
import HandS.Wide
import HandS.Flow
import HandS.Strs
import PyProof.ListStr
import HandS.More
import HandS.Conv
import HandS.Iter
import HandS.DictEq
import HandS.Codes
import HandS.Property
import HandS.DictComp
import HandS.ListItems
import HandS.DictTup
import KE.SortCalls
import HandS.Exc
import HandS.ExcOwn
import HandS.ExcIs
import HandS.WordsExc
import HandS.HeadHook1
import HandS.Head0
import HandS.Head1
import HandS.Head2
import HandS.HeadEnd
import HandS.HeadHook2
import HandS.HeadHook3
import HandS.HeadHook4
import PySem.Challenge.RW_wordjoins_k75_schemas_written
set_option Elab.async false
set_option linter.all false
set_option maxRecDepth 100000
set_option maxHeartbeats 2000000
/-! WjA: data read off the abstract heap, heaps kept outside a list of places, expressions by the data they give -/
namespace WJ
open PySem L2

/-- all but the places of B is kept -/
def Kp (B : List Addr) (H H' : Hp) : Prop := ∀ a o, a ∉ B → H a = some o → H' a = some o
section
variable {B C : List Addr} {H H1 H2 : Hp} {a : Addr} {o : HO}
theorem Kp.refl : Kp B H H := fun _ _ _ h => h
theorem Kp.trans (k : Kp B H H1) (k' : Kp B H1 H2) : Kp B H H2 := fun a o n h => k' a o n (k a o n h)
theorem Kp.more (k : Kp C H H1) (s : ∀ b ∈ C, b ∈ B) : Kp B H H1 := fun a o n h => k a o (fun z => n (s a z)) h
theorem Kp.all (k : Kp [] H H1) : Kp B H H1 := k.more (fun _ z => nomatch z)
theorem Kp.new (h : H a = none) : Kp B H (upd H a o) := fun b u _ e => by
  rw [upd_ne (ne_of_none e h)]
  exact e
theorem Kp.mut (h : a ∈ B) : Kp B H (upd H a o) := fun b u n e => by
  rw [upd_ne (fun z => n (by rw [z]; exact h))]
  exact e
/-- an object that the first heap did not know may change -/
theorem Kp.late (k : Kp B H H1) (h : H a = none) : Kp B H (upd H1 a o) := fun b u n e => by
  rw [upd_ne (ne_of_none e h)]
  exact k b u n e
theorem Kp.back (k : Kp [] H H1) (h : H1 a = none) : H a = none := by
  cases e : H a with
  | none => rfl
  | some u =>
    rw [k a u (fun z => nomatch z) e] at h
    cases h
theorem Kp.backB (k : Kp B H H1) (n : a ∉ B) (h : H1 a = none) : H a = none := by
  cases e : H a with
  | none => rfl
  | some u =>
    rw [k a u n e] at h
    cases h
theorem Kp.rd {u : HO} (k : Kp B H H1) (n : a ∉ B) (h : Rd H a u) : Rd H1 a u := by
  rcases h with h | ⟨o, h⟩
  · exact Or.inl (k a _ n h)
  · exact Or.inr ⟨o, k a _ n h⟩
end

/-- what may be locked meanwhile -/
def still : HO → Bool
  | .dK _ => false
  | .frz _ _ => false
  | _ => true
def seen : HO → Bool
  | .dK _ => true
  | .tup _ => true
  | .lst _ => true
  | _ => false
/-- kept, but that a dict may be locked or unlocked -/
structure Kq (B : List Addr) (H H' : Hp) : Prop where
  rd : ∀ a u, a ∉ B → seen u = true → Rd H a u → Rd H' a u
  ex : ∀ a o, a ∉ B → still o = true → H a = some o → H' a = some o
theorem Kp.q {B : List Addr} {H H1 : Hp} (k : Kp B H H1) : Kq B H H1 := ⟨fun a u n _ h => k.rd n h, fun a o n _ h => k a o n h⟩
theorem Kq.lock {B : List Addr} {H : Hp} {a : Addr} {kvs : List (Key × V)} (od : Obj) (h : H a = some (.dK kvs)) : Kq B H (upd H a (.frz od (.dK kvs))) := by
  refine ⟨fun b u n _ r => ?_, fun b o n t e => ?_⟩
  · by_cases hb : b = a
    · subst hb
      rcases r with r | ⟨ob, r⟩
      · rw [h] at r
        cases r
        exact Or.inr ⟨od, upd_same⟩
      · rw [h] at r
        cases r
    · unfold Rd
      rw [upd_ne hb]
      exact r
  · by_cases hb : b = a
    · subst hb
      rw [h] at e
      cases e
      cases t
    · rw [upd_ne hb]
      exact e
theorem Kq.unlock {B : List Addr} {H : Hp} {a : Addr} {kvs : List (Key × V)} {od : Obj} (h : H a = some (.frz od (.dK kvs))) : Kq B H (upd H a (.dK kvs)) := by
  refine ⟨fun b u n sn r => ?_, fun b o n t e => ?_⟩
  · by_cases hb : b = a
    · subst hb
      rcases r with r | ⟨ob, r⟩
      · rw [h] at r
        cases r
        cases sn
      · rw [h] at r
        cases r
        exact Or.inl upd_same
    · unfold Rd
      rw [upd_ne hb]
      exact r
  · by_cases hb : b = a
    · subst hb
      rw [h] at e
      cases e
      cases t
    · rw [upd_ne hb]
      exact e
/-- data: what a value stands for, as a tree; obj a: the object at a itself -/
inductive Da where
  | non | bl (b : Bool) | int (i : Int) | str (x : Str) | lst (xs : List Da) | tup (xs : List Da) | dct (kvs : List (Key × Da)) | ins (C : Addr) (fs : List (Str × Da)) | obj (a : Addr) | ty (n : String) | exc (cls : Value) (fs : List (Str × Da))
/-- an exception that was caught, at a -/
def EO (cls : Value) (d : Option Addr) (a : Addr) : HO := .ext fun h => ∃ oe : Obj, h.get? a = some oe ∧ Zc cls d oe ∧ ∃ vs, oe.data = .fields vs
/-- its fields -/
def EF (B : List Addr) (H : Hp) (d : Option Addr) (xs : List (Str × V)) : Prop := (d = none ∧ xs = []) ∨ ∃ dx, d = some dx ∧ xs ≠ [] ∧ dx ∉ B ∧ H dx = some (exd dx xs)

/-- a list, a tuple read at a: tracked and out of B, or written in the module -/
def SLb (K : PySem.W.Frag) (B : List Addr) (H : Hp) (a : Addr) (xs : List V) : Prop := (a ∉ B ∧ Rd H a (.lst xs)) ∨ SqL K (fun _ => none) a xs
def STb (K : PySem.W.Frag) (B : List Addr) (H : Hp) (a : Addr) (xs : List V) : Prop := (a ∉ B ∧ Rd H a (.tup xs)) ∨ SqT K (fun _ => none) a xs
theorem rd_none {a : Addr} {u : HO} (h : Rd (fun _ => none) a u) : False := by
  rcases h with h | ⟨o, h⟩ <;> cases h
section
variable {K : PySem.W.Frag} {B C : List Addr} {H H1 : Hp} {a : Addr} {xs : List V}
theorem SLb.sq (h : SLb K B H a xs) : SqL K H a xs := by
  rcases h with h | h | h
  · exact Or.inl h.2
  · exact (rd_none h).elim
  · exact Or.inr h
theorem STb.sq (h : STb K B H a xs) : SqT K H a xs := by
  rcases h with h | h | h
  · exact Or.inl h.2
  · exact (rd_none h).elim
  · exact Or.inr h
theorem SLb.mono (k : Kp B H H1) (h : SLb K B H a xs) : SLb K B H1 a xs := by
  rcases h with h | h
  · exact Or.inl ⟨h.1, k.rd h.1 h.2⟩
  · exact Or.inr h
theorem STb.mono (k : Kp B H H1) (h : STb K B H a xs) : STb K B H1 a xs := by
  rcases h with h | h
  · exact Or.inl ⟨h.1, k.rd h.1 h.2⟩
  · exact Or.inr h
theorem SLb.monoq (k : Kq B H H1) (h : SLb K B H a xs) : SLb K B H1 a xs := by
  rcases h with h | h
  · exact Or.inl ⟨h.1, k.rd _ _ h.1 rfl h.2⟩
  · exact Or.inr h
theorem STb.monoq (k : Kq B H H1) (h : STb K B H a xs) : STb K B H1 a xs := by
  rcases h with h | h
  · exact Or.inl ⟨h.1, k.rd _ _ h.1 rfl h.2⟩
  · exact Or.inr h
theorem SLb.of (n : a ∉ B) (h : H a = some (.lst xs)) : SLb K B H a xs := Or.inl ⟨n, Or.inl h⟩
theorem STb.of (n : a ∉ B) (h : H a = some (.tup xs)) : STb K B H a xs := Or.inl ⟨n, Or.inl h⟩
end

mutual
/-- the value v stands for the data d; all places lie out of B -/
def Dat (K : PySem.W.Frag) (B : List Addr) (H : Hp) : V → Da → Prop
  | v, .non => v = .non
  | v, .bl b => v = .bl b
  | v, .int i => v = .int i
  | v, .str x => v = .str x
  | v, .lst ds => ∃ a xs, v = .ref a ∧ SLb K B H a xs ∧ Dats K B H xs ds
  | v, .tup ds => ∃ a xs, v = .ref a ∧ STb K B H a xs ∧ Dats K B H xs ds
  | v, .dct es => ∃ a kvs, v = .ref a ∧ (a ∉ B ∧ Rd H a (.dK kvs)) ∧ Datk K B H kvs es
  | v, .ins C fs => ∃ a dx xs, v = .ref a ∧ (a ∉ B ∧ H a = some (.ins C dx xs)) ∧ Datf K B H xs fs
  | v, .obj a => v = .ref a
  | v, .ty n => v = .ty n
  | v, .exc cls fs => ∃ a d xs, v = .ref a ∧ (a ∉ B ∧ H a = some (EO cls d a)) ∧ EF B H d xs ∧ Datf K B H xs fs
def Dats (K : PySem.W.Frag) (B : List Addr) (H : Hp) : List V → List Da → Prop
  | vs, [] => vs = []
  | vs, d :: ds => ∃ v r, vs = v :: r ∧ Dat K B H v d ∧ Dats K B H r ds
def Datk (K : PySem.W.Frag) (B : List Addr) (H : Hp) : List (Key × V) → List (Key × Da) → Prop
  | vs, [] => vs = []
  | vs, (k, d) :: ds => ∃ v r, vs = (k, v) :: r ∧ Dat K B H v d ∧ Datk K B H r ds
def Datf (K : PySem.W.Frag) (B : List Addr) (H : Hp) : List (Str × V) → List (Str × Da) → Prop
  | vs, [] => vs = []
  | vs, (k, d) :: ds => ∃ v r, vs = (k, v) :: r ∧ Dat K B H v d ∧ Datf K B H r ds
end

section
variable {K : PySem.W.Frag} {B C : List Addr} {H H1 : Hp}
mutual
theorem Dat.monoq (k : Kq B H H1) : ∀ (d : Da) (v : V), Dat K B H v d → Dat K B H1 v d
  | .non, _, h => by unfold Dat at h ⊢; exact h
  | .bl _, _, h => by unfold Dat at h ⊢; exact h
  | .int _, _, h => by unfold Dat at h ⊢; exact h
  | .str _, _, h => by unfold Dat at h ⊢; exact h
  | .lst ds, _, h => by
    unfold Dat at h ⊢
    obtain ⟨a, xs, e, s, t⟩ := h
    exact ⟨a, xs, e, s.monoq k, Dats.monoq k ds xs t⟩
  | .tup ds, _, h => by
    unfold Dat at h ⊢
    obtain ⟨a, xs, e, s, t⟩ := h
    exact ⟨a, xs, e, s.monoq k, Dats.monoq k ds xs t⟩
  | .dct es, _, h => by
    unfold Dat at h ⊢
    obtain ⟨a, xs, e, s, t⟩ := h
    exact ⟨a, xs, e, ⟨s.1, k.rd _ _ s.1 rfl s.2⟩, Datk.monoq k es xs t⟩
  | .ins C fs, _, h => by
    unfold Dat at h ⊢
    obtain ⟨a, dx, xs, e, s, t⟩ := h
    exact ⟨a, dx, xs, e, ⟨s.1, k.ex a _ s.1 rfl s.2⟩, Datf.monoq k fs xs t⟩
  | .obj _, _, h => by unfold Dat at h ⊢; exact h
  | .ty _, _, h => by unfold Dat at h ⊢; exact h
  | .exc cls fs, _, h => by
    unfold Dat at h ⊢
    obtain ⟨a, d, xs, e, s, f, t⟩ := h
    refine ⟨a, d, xs, e, ⟨s.1, k.ex a _ s.1 rfl s.2⟩, ?_, Datf.monoq k fs xs t⟩
    rcases f with f | ⟨dx, f1, f0, f2, f3⟩
    · exact Or.inl f
    · exact Or.inr ⟨dx, f1, f0, f2, k.ex dx _ f2 rfl f3⟩
theorem Dats.monoq (k : Kq B H H1) : ∀ (ds : List Da) (vs : List V), Dats K B H vs ds → Dats K B H1 vs ds
  | [], _, h => by unfold Dats at h ⊢; exact h
  | d :: ds, _, h => by
    unfold Dats at h ⊢
    obtain ⟨v, r, e, s, t⟩ := h
    exact ⟨v, r, e, Dat.monoq k d v s, Dats.monoq k ds r t⟩
theorem Datk.monoq (k : Kq B H H1) : ∀ (ds : List (Key × Da)) (vs : List (Key × V)), Datk K B H vs ds → Datk K B H1 vs ds
  | [], _, h => by unfold Datk at h ⊢; exact h
  | (q, d) :: ds, _, h => by
    unfold Datk at h ⊢
    obtain ⟨v, r, e, s, t⟩ := h
    exact ⟨v, r, e, Dat.monoq k d v s, Datk.monoq k ds r t⟩
theorem Datf.monoq (k : Kq B H H1) : ∀ (ds : List (Str × Da)) (vs : List (Str × V)), Datf K B H vs ds → Datf K B H1 vs ds
  | [], _, h => by unfold Datf at h ⊢; exact h
  | (q, d) :: ds, _, h => by
    unfold Datf at h ⊢
    obtain ⟨v, r, e, s, t⟩ := h
    exact ⟨v, r, e, Dat.monoq k d v s, Datf.monoq k ds r t⟩
end
theorem Dat.mono (k : Kp B H H1) (d : Da) (v : V) (h : Dat K B H v d) : Dat K B H1 v d := Dat.monoq k.q d v h
theorem Dats.mono (k : Kp B H H1) (ds : List Da) (vs : List V) (h : Dats K B H vs ds) : Dats K B H1 vs ds := Dats.monoq k.q ds vs h
theorem Datk.mono (k : Kp B H H1) (ds : List (Key × Da)) (vs : List (Key × V)) (h : Datk K B H vs ds) : Datk K B H1 vs ds := Datk.monoq k.q ds vs h
theorem Datf.mono (k : Kp B H H1) (ds : List (Str × Da)) (vs : List (Str × V)) (h : Datf K B H vs ds) : Datf K B H1 vs ds := Datf.monoq k.q ds vs h
/-- data that stands lies apart from what is new -/
theorem bar_out {u : HO} {a : Addr} (n : ∀ b ∈ C, b ∈ B ∨ H b = none) (h : a ∉ B) (r : Rd H a u) : a ∉ C := fun z => by
  rcases n a z with q | q
  · exact h q
  · rcases r with r | ⟨o, r⟩ <;> (rw [q] at r; cases r)
theorem SLb.bar {a : Addr} {xs : List V} (n : ∀ b ∈ C, b ∈ B ∨ H b = none) (h : SLb K B H a xs) : SLb K C H a xs := by
  rcases h with h | h
  · exact Or.inl ⟨bar_out n h.1 h.2, h.2⟩
  · exact Or.inr h
theorem STb.bar {a : Addr} {xs : List V} (n : ∀ b ∈ C, b ∈ B ∨ H b = none) (h : STb K B H a xs) : STb K C H a xs := by
  rcases h with h | h
  · exact Or.inl ⟨bar_out n h.1 h.2, h.2⟩
  · exact Or.inr h
mutual
theorem Dat.bar (n : ∀ b ∈ C, b ∈ B ∨ H b = none) : ∀ (d : Da) (v : V), Dat K B H v d → Dat K C H v d
  | .non, _, h => by unfold Dat at h ⊢; exact h
  | .bl _, _, h => by unfold Dat at h ⊢; exact h
  | .int _, _, h => by unfold Dat at h ⊢; exact h
  | .str _, _, h => by unfold Dat at h ⊢; exact h
  | .lst ds, _, h => by
    unfold Dat at h ⊢
    obtain ⟨a, xs, e, s, t⟩ := h
    exact ⟨a, xs, e, s.bar n, Dats.bar n ds xs t⟩
  | .tup ds, _, h => by
    unfold Dat at h ⊢
    obtain ⟨a, xs, e, s, t⟩ := h
    exact ⟨a, xs, e, s.bar n, Dats.bar n ds xs t⟩
  | .dct es, _, h => by
    unfold Dat at h ⊢
    obtain ⟨a, xs, e, s, t⟩ := h
    exact ⟨a, xs, e, ⟨bar_out n s.1 s.2, s.2⟩, Datk.bar n es xs t⟩
  | .ins C fs, _, h => by
    unfold Dat at h ⊢
    obtain ⟨a, dx, xs, e, s, t⟩ := h
    exact ⟨a, dx, xs, e, ⟨bar_out n s.1 (Or.inl s.2), s.2⟩, Datf.bar n fs xs t⟩
  | .obj _, _, h => by unfold Dat at h ⊢; exact h
  | .ty _, _, h => by unfold Dat at h ⊢; exact h
  | .exc cls fs, _, h => by
    unfold Dat at h ⊢
    obtain ⟨a, d, xs, e, s, f, t⟩ := h
    refine ⟨a, d, xs, e, ⟨bar_out n s.1 (Or.inl s.2), s.2⟩, ?_, Datf.bar n fs xs t⟩
    rcases f with f | ⟨dx, f1, f0, f2, f3⟩
    · exact Or.inl f
    · exact Or.inr ⟨dx, f1, f0, bar_out n f2 (Or.inl f3), f3⟩
theorem Dats.bar (n : ∀ b ∈ C, b ∈ B ∨ H b = none) : ∀ (ds : List Da) (vs : List V), Dats K B H vs ds → Dats K C H vs ds
  | [], _, h => by unfold Dats at h ⊢; exact h
  | d :: ds, _, h => by
    unfold Dats at h ⊢
    obtain ⟨v, r, e, s, t⟩ := h
    exact ⟨v, r, e, Dat.bar n d v s, Dats.bar n ds r t⟩
theorem Datk.bar (n : ∀ b ∈ C, b ∈ B ∨ H b = none) : ∀ (ds : List (Key × Da)) (vs : List (Key × V)), Datk K B H vs ds → Datk K C H vs ds
  | [], _, h => by unfold Datk at h ⊢; exact h
  | (q, d) :: ds, _, h => by
    unfold Datk at h ⊢
    obtain ⟨v, r, e, s, t⟩ := h
    exact ⟨v, r, e, Dat.bar n d v s, Datk.bar n ds r t⟩
theorem Datf.bar (n : ∀ b ∈ C, b ∈ B ∨ H b = none) : ∀ (ds : List (Str × Da)) (vs : List (Str × V)), Datf K B H vs ds → Datf K C H vs ds
  | [], _, h => by unfold Datf at h ⊢; exact h
  | (q, d) :: ds, _, h => by
    unfold Datf at h ⊢
    obtain ⟨v, r, e, s, t⟩ := h
    exact ⟨v, r, e, Dat.bar n d v s, Datf.bar n ds r t⟩
end
theorem put_bar {l : Addr} (n : H l = none) : ∀ b ∈ l :: B, b ∈ B ∨ H b = none := fun b hb => by
  rcases List.mem_cons.mp hb with z | z
  · exact Or.inr (by rw [z]; exact n)
  · exact Or.inl z
theorem sub_bar (s : ∀ b ∈ C, b ∈ B) : ∀ b ∈ C, b ∈ B ∨ H b = none := fun b hb => Or.inl (s b hb)
theorem Dat.put {l : Addr} (n : H l = none) (d : Da) (v : V) (h : Dat K B H v d) : Dat K (l :: B) H v d := Dat.bar (put_bar n) d v h
theorem Dats.put {l : Addr} (n : H l = none) (d : List Da) (v : List V) (h : Dats K B H v d) : Dats K (l :: B) H v d := Dats.bar (put_bar n) d v h
theorem Datk.put {l : Addr} (n : H l = none) (d : List (Key × Da)) (v : List (Key × V)) (h : Datk K B H v d) : Datk K (l :: B) H v d := Datk.bar (put_bar n) d v h
theorem Datf.put {l : Addr} (n : H l = none) (d : List (Str × Da)) (v : List (Str × V)) (h : Datf K B H v d) : Datf K (l :: B) H v d := Datf.bar (put_bar n) d v h
theorem Datf.sub (s : ∀ b ∈ C, b ∈ B) (d : List (Str × Da)) (v : List (Str × V)) (h : Datf K B H v d) : Datf K C H v d := Datf.bar (sub_bar s) d v h
theorem Dat.sub (s : ∀ b ∈ C, b ∈ B) (d : Da) (v : V) (h : Dat K B H v d) : Dat K C H v d := Dat.bar (sub_bar s) d v h
theorem Dats.sub (s : ∀ b ∈ C, b ∈ B) (d : List Da) (v : List V) (h : Dats K B H v d) : Dats K C H v d := Dats.bar (sub_bar s) d v h
theorem Datk.sub (s : ∀ b ∈ C, b ∈ B) (d : List (Key × Da)) (v : List (Key × V)) (h : Datk K B H v d) : Datk K C H v d := Datk.bar (sub_bar s) d v h
end

/-- from (B, H) to (B', H'): what changed lies in B, what is newly barred was new -/
structure Mv (B : List Addr) (H : Hp) (B' : List Addr) (H' : Hp) : Prop where
  bar : ∀ b ∈ B', b ∈ B ∨ H b = none
  kp : Kp B H H'
section
variable {K : PySem.W.Frag} {B B' B2 : List Addr} {H H' H2 : Hp}
theorem Mv.refl : Mv B H B H := ⟨fun _ h => Or.inl h, Kp.refl⟩
theorem Mv.of (k : Kp B H H') : Mv B H B H' := ⟨fun _ h => Or.inl h, k⟩
theorem Mv.trans (m : Mv B H B' H') (n : Mv B' H' B2 H2) : Mv B H B2 H2 := by
  refine ⟨fun b hb => ?_, fun a o na e => ?_⟩
  · rcases n.bar b hb with q | q
    · exact m.bar b q
    · by_cases hB : b ∈ B
      · exact Or.inl hB
      · exact Or.inr (m.kp.backB hB q)
  · refine n.kp a o (fun z => ?_) (m.kp a o na e)
    rcases m.bar a z with q | q
    · exact na q
    · rw [e] at q
      cases q
theorem Mv.sub (m : Mv B H B' H') (s : ∀ b ∈ B2, b ∈ B') : Mv B H B2 H' := ⟨fun b hb => m.bar b (s b hb), m.kp⟩
theorem Mv.both (m : Mv B H B' H') : ∀ b ∈ B ++ B', b ∈ B ∨ H b = none := fun b hb => by
  rcases List.mem_append.mp hb with q | q
  · exact Or.inl q
  · exact m.bar b q
theorem Dat.mv (m : Mv B H B' H') (d : Da) (v : V) (h : Dat K B H v d) : Dat K B' H' v d :=
  Dat.sub (fun b hb => List.mem_append_right B hb) d v (Dat.mono (m.kp.more fun b hb => List.mem_append_left B' hb) d v (Dat.bar m.both d v h))
theorem Dats.mv (m : Mv B H B' H') (d : List Da) (v : List V) (h : Dats K B H v d) : Dats K B' H' v d :=
  Dats.sub (fun b hb => List.mem_append_right B hb) d v (Dats.mono (m.kp.more fun b hb => List.mem_append_left B' hb) d v (Dats.bar m.both d v h))
theorem Datk.mv (m : Mv B H B' H') (d : List (Key × Da)) (v : List (Key × V)) (h : Datk K B H v d) : Datk K B' H' v d :=
  Datk.sub (fun b hb => List.mem_append_right B hb) d v (Datk.mono (m.kp.more fun b hb => List.mem_append_left B' hb) d v (Datk.bar m.both d v h))
end

/-! ### lists of data -/
section
variable {K : PySem.W.Frag} {B : List Addr} {H : Hp}
theorem Dats.length : ∀ {ds : List Da} {vs : List V}, Dats K B H vs ds → vs.length = ds.length
  | [], _, h => by
    unfold Dats at h
    rw [h]; rfl
  | d :: ds, _, h => by
    unfold Dats at h
    obtain ⟨v, r, rfl, _, t⟩ := h
    rw [List.length_cons, List.length_cons, Dats.length t]
theorem Dats.nil : Dats K B H [] [] := by unfold Dats; rfl
theorem Dats.cons {v : V} {vs : List V} {d : Da} {ds : List Da} (h : Dat K B H v d) (t : Dats K B H vs ds) : Dats K B H (v :: vs) (d :: ds) := by
  unfold Dats
  exact ⟨v, vs, rfl, h, t⟩
theorem Dats.one {v : V} {d : Da} (h : Dat K B H v d) : Dats K B H [v] [d] := .cons h .nil
theorem Dats.append : ∀ {ds : List Da} {vs ws : List V} {es : List Da}, Dats K B H vs ds → Dats K B H ws es → Dats K B H (vs ++ ws) (ds ++ es)
  | [], _, _, _, h, h' => by
    unfold Dats at h
    rw [h]; exact h'
  | d :: ds, _, _, _, h, h' => by
    unfold Dats at h
    obtain ⟨v, r, rfl, s, t⟩ := h
    exact .cons s (Dats.append t h')
theorem Dats.get : ∀ {ds : List Da} {vs : List V} {i : Nat} {v : V}, Dats K B H vs ds → vs[i]? = some v → ∃ d, ds[i]? = some d ∧ Dat K B H v d
  | [], _, i, v, h, e => by
    unfold Dats at h
    rw [h] at e
    cases e
  | d :: ds, _, i, v, h, e => by
    unfold Dats at h
    obtain ⟨w, r, rfl, s, t⟩ := h
    cases i with
    | zero =>
      cases e
      exact ⟨d, rfl, s⟩
    | succ i =>
      obtain ⟨d', e', s'⟩ := Dats.get (i := i) t (by simpa using e)
      exact ⟨d', by simpa using e', s'⟩
theorem Dats.get' : ∀ {ds : List Da} {vs : List V} {i : Nat} {d : Da}, Dats K B H vs ds → ds[i]? = some d → ∃ v, vs[i]? = some v ∧ Dat K B H v d := fun {ds vs i d} h e => by
  have hl : i < vs.length := by
    rw [h.length]
    exact (List.getElem?_eq_some_iff.mp e).1
  obtain ⟨d', e', s⟩ := h.get (List.getElem?_eq_getElem hl)
  rw [e] at e'
  cases e'
  exact ⟨_, List.getElem?_eq_getElem hl, s⟩
theorem Dats.drop : ∀ {ds : List Da} {vs : List V} (n : Nat), Dats K B H vs ds → Dats K B H (vs.drop n) (ds.drop n)
  | ds, vs, 0, h => by simpa using h
  | [], _, n + 1, h => by
    unfold Dats at h
    rw [h]
    simpa using Dats.nil
  | d :: ds, _, n + 1, h => by
    unfold Dats at h
    obtain ⟨w, r, rfl, s, t⟩ := h
    simpa using Dats.drop n t
theorem Dats.take : ∀ {ds : List Da} {vs : List V} (n : Nat), Dats K B H vs ds → Dats K B H (vs.take n) (ds.take n)
  | ds, vs, 0, h => by simpa using Dats.nil
  | [], _, n + 1, h => by
    unfold Dats at h
    rw [h]
    simpa using Dats.nil
  | d :: ds, _, n + 1, h => by
    unfold Dats at h
    obtain ⟨w, r, rfl, s, t⟩ := h
    simpa using Dats.cons s (Dats.take n t)
theorem Dats.eraseIdx : ∀ {ds : List Da} {vs : List V} (n : Nat), Dats K B H vs ds → Dats K B H (vs.eraseIdx n) (ds.eraseIdx n)
  | [], _, n, h => by
    unfold Dats at h
    rw [h]
    simpa using Dats.nil
  | d :: ds, _, 0, h => by
    unfold Dats at h
    obtain ⟨w, r, rfl, s, t⟩ := h
    simpa using t
  | d :: ds, _, n + 1, h => by
    unfold Dats at h
    obtain ⟨w, r, rfl, s, t⟩ := h
    simpa using Dats.cons s (Dats.eraseIdx n t)
theorem Dats.strs : ∀ {xs : List Str} {vs : List V}, Dats K B H vs (xs.map Da.str) → vs = xs.map V.str
  | [], _, h => by
    unfold Dats at h
    exact h
  | x :: xs, vs, h => by
    have h2 : Dats K B H vs (Da.str x :: xs.map Da.str) := h
    unfold Dats at h2
    obtain ⟨v, r, rfl, s, t⟩ := h2
    unfold Dat at s
    rw [s, Dats.strs t]; rfl
theorem Dats.ofStrs : ∀ (xs : List Str), Dats K B H (xs.map V.str) (xs.map Da.str)
  | [] => .nil
  | x :: xs => .cons (by unfold Dat; rfl) (Dats.ofStrs xs)
theorem Dats.ints : ∀ {xs : List Int} {vs : List V}, Dats K B H vs (xs.map Da.int) → vs = xs.map V.int
  | [], _, h => by
    unfold Dats at h
    exact h
  | x :: xs, vs, h => by
    have h2 : Dats K B H vs (Da.int x :: xs.map Da.int) := h
    unfold Dats at h2
    obtain ⟨v, r, rfl, s, t⟩ := h2
    unfold Dat at s
    rw [s, Dats.ints t]; rfl
theorem Dats.ofInts : ∀ (xs : List Int), Dats K B H (xs.map V.int) (xs.map Da.int)
  | [] => .nil
  | x :: xs => .cons (by unfold Dat; rfl) (Dats.ofInts xs)
theorem Dats.bls : ∀ {xs : List Bool} {vs : List V}, Dats K B H vs (xs.map Da.bl) → vs = xs.map V.bl
  | [], _, h => by
    unfold Dats at h
    exact h
  | x :: xs, vs, h => by
    have h2 : Dats K B H vs (Da.bl x :: xs.map Da.bl) := h
    unfold Dats at h2
    obtain ⟨v, r, rfl, s, t⟩ := h2
    unfold Dat at s
    rw [s, Dats.bls t]; rfl
end
end WJ
set_option Elab.async false
set_option linter.all false
set_option maxRecDepth 100000
set_option maxHeartbeats 2000000
/-! WjB: a body's names as data (En), expressions (Ev, EvF, EvT, EvA) and statements (Es) over them -/
namespace WJ
open PySem L2

/-- a world: the places F that calls may change, what holds of them (Dr, with a budget) -/
structure Wd (K : PySem.W.Frag) where
  F : List Addr
  Dr : Nat → Hp → Prop
  pres : ∀ {M : Nat} {H H' : Hp}, (∀ b ∈ F, H' b = H b) → Dr M H → Dr M H'
  alive : ∀ {M : Nat} {H : Hp}, Dr M H → ∀ b ∈ F, H b ≠ none
  less : ∀ {M N : Nat} {H : Hp}, Dr M H → N ≤ M → Dr N H

/-- what stands at a call: the barred places B hold F and are alive -/
structure Bk {K : PySem.W.Frag} (W : Wd K) (B : List Addr) (H : Hp) (M : Nat) : Prop where
  dr : W.Dr M H
  fb : ∀ b ∈ W.F, b ∈ B
  al : ∀ b ∈ B, H b ≠ none

section
variable {K : PySem.W.Frag} {W : Wd K} {B B0 : List Addr} {H H0 H' : Hp} {M M' : Nat}
theorem Wd.new {a : Addr} {o : HO} (h : H a = none) (d : W.Dr M H) : W.Dr M (upd H a o) :=
  W.pres (fun b hb => upd_ne fun e => W.alive d b hb (by rw [e]; exact h)) d
theorem Wd.out {a : Addr} {o : HO} (h : a ∉ W.F) (d : W.Dr M H) : W.Dr M (upd H a o) :=
  W.pres (fun b hb => upd_ne fun e => h (by rw [← e]; exact hb)) d
theorem Bk.keep (s : Bk W B H M) (k : Kp W.F H H') (d : W.Dr M' H') : Bk W B H' M' := by
  refine ⟨d, s.fb, fun b hb => ?_⟩
  by_cases hf : b ∈ W.F
  · exact W.alive d b hf
  · cases e : H b with
    | none => exact absurd e (s.al b hb)
    | some o =>
      rw [k b o hf e]
      exact Option.some_ne_none o
theorem Bk.kp (s : Bk W B H M) (k : Kp W.F H H') : Kp B H H' := k.more s.fb
theorem Bk.free (s : Bk W B H M) {a : Addr} (h : H a = none) : a ∉ B := fun z => s.al a z h
end

/-- what a name holds: nothing said, data, a list or a dict of the body's own (nobody else knows it) -/
inductive En where
  | no | dat (d : Da) | own (ds : List Da) | ownD (es : List (Key × Da)) | ownI (a C : Addr) (fs : List (Str × Da))
def En.isOwn : En → Bool
  | .own _ => true
  | .ownD _ => true
  | .ownI _ _ _ => true
  | _ => false
def Sl (K : PySem.W.Frag) (B : List Addr) (H : Hp) (o : Option V) : En → Prop
  | .no => True
  | .dat d => ∃ v, o = some v ∧ Dat K B H v d
  | .own ds => ∃ l xs, o = some (.ref l) ∧ l ∈ B ∧ H l = some (.lst xs) ∧ Dats K B H xs ds
  | .ownD es => ∃ l kvs, o = some (.ref l) ∧ l ∈ B ∧ H l = some (.dK kvs) ∧ Datk K B H kvs es
  | .ownI a C fs => ∃ (l : Addr) (x : Addr × List (Str × V)), o = some (.ref l) ∧ l ∈ B ∧ H l = some (.ins C x.1 x.2) ∧ (Datf K B H x.2 fs ∧ l = a)
/-- slot i holds the body's own thing at l -/
def Ow (σ : St) (Γ : List En) (i : Nat) (l : Addr) : Prop := (∃ e, Γ[i]? = some e ∧ e.isOwn = true) ∧ σ[i]? = some (some (.ref l))

structure Sg {K : PySem.W.Frag} (W : Wd K) (H0 : Hp) (B0 B : List Addr) (σ : St) (Γ : List En) (H : Hp) (M : Nat) : Prop extends Bk W B H M where
  k0 : Kp W.F H0 H
  b0 : ∀ b ∈ B0, b ∈ B
  a0 : ∀ b ∈ B0, H0 b ≠ none
  f0 : ∀ b ∈ W.F, b ∈ B0
  ln : σ.length = Γ.length
  sl : ∀ (i : Nat) (e : En), Γ[i]? = some e → ∃ o, σ[i]? = some o ∧ Sl K B H o e
  ow : ∀ (i j : Nat) (l : Addr), Ow σ Γ i l → Ow σ Γ j l → i = j
  on : ∀ (i : Nat) (l : Addr), Ow σ Γ i l → H0 l = none

section
variable {K : PySem.W.Frag} {W : Wd K} {B B0 : List Addr} {H H0 H' : Hp} {M M' : Nat} {σ : St} {Γ : List En}
theorem Sl.mono {o : Option V} {e : En} (k : Kp B H H') (ok : ∀ l, e.isOwn = true → o = some (.ref l) → H' l = H l) (h : Sl K B H o e) : Sl K B H' o e := by
  cases e with
  | no => exact trivial
  | dat d =>
    obtain ⟨v, e, h⟩ := h
    exact ⟨v, e, Dat.mono k d v h⟩
  | own ds =>
    obtain ⟨l, xs, e, hl, hx, h⟩ := h
    exact ⟨l, xs, e, hl, (ok l rfl e).trans hx, Dats.mono k ds xs h⟩
  | ownD ds =>
    obtain ⟨l, xs, e, hl, hx, h⟩ := h
    exact ⟨l, xs, e, hl, (ok l rfl e).trans hx, Datk.mono k ds xs h⟩
  | ownI aI CI ds =>
    obtain ⟨l, xs, e, hl, hx, h⟩ := h
    exact ⟨l, xs, e, hl, (ok l rfl e).trans hx, ⟨Datf.mono k ds xs.2 h.1, h.2⟩⟩
theorem Sg.outF (s : Sg W H0 B0 B σ Γ H M) {i : Nat} {l : Addr} (h : Ow σ Γ i l) : l ∉ W.F := fun z => s.a0 l (s.f0 l z) (s.on i l h)
theorem Sg.keep (s : Sg W H0 B0 B σ Γ H M) (k : Kp W.F H H') (d : W.Dr M' H') : Sg W H0 B0 B σ Γ H' M' := by
  refine ⟨s.toBk.keep k d, s.k0.trans k, s.b0, s.a0, s.f0, s.ln, fun i e hi => ?_, s.ow, s.on⟩
  obtain ⟨o, ho, hs⟩ := s.sl i e hi
  refine ⟨o, ho, hs.mono (s.toBk.kp k) fun l he e2 => ?_⟩
  have hO : Ow σ Γ i l := ⟨⟨e, hi, he⟩, by rw [ho, e2]⟩
  cases e with
  | no => cases he
  | dat d => cases he
  | own ds =>
    obtain ⟨l', xs, e3, _, hx, _⟩ := hs
    rw [e2] at e3
    cases e3
    rw [hx, k l _ (s.outF hO) hx]
  | ownD ds =>
    obtain ⟨l', xs, e3, _, hx, _⟩ := hs
    rw [e2] at e3
    cases e3
    rw [hx, k l _ (s.outF hO) hx]
  | ownI aI CI ds =>
    obtain ⟨l', xs, e3, _, hx, _⟩ := hs
    rw [e2] at e3
    cases e3
    rw [hx, k l _ (s.outF hO) hx]
theorem Sg.less (s : Sg W H0 B0 B σ Γ H M) (h : M' ≤ M) : Sg W H0 B0 B σ Γ H M' := s.keep Kp.refl (W.less s.dr h)
/-- a name takes data (or is forgotten) -/
theorem Sg.set (s : Sg W H0 B0 B σ Γ H M) {i : Nat} {o : Option V} {e : En} (he : e.isOwn = false) (h : Sl K B H o e) : Sg W H0 B0 B (σ.set i o) (Γ.set i e) H M := by
  have own : ∀ j l, Ow (σ.set i o) (Γ.set i e) j l → Ow σ Γ j l := fun j l ⟨⟨e', g, t⟩, q⟩ => by
    by_cases hj : i = j
    · subst hj
      by_cases hl : i < Γ.length
      · rw [List.getElem?_set_self hl] at g
        cases g
        rw [he] at t
        cases t
      · rw [List.getElem?_eq_none (by simpa using hl)] at g
        cases g
    · rw [List.getElem?_set_ne hj] at g q
      exact ⟨⟨e', g, t⟩, q⟩
  refine ⟨s.toBk, s.k0, s.b0, s.a0, s.f0, by rw [List.length_set, List.length_set, s.ln], fun j e' hj => ?_, fun a b l ha hb => s.ow a b l (own a l ha) (own b l hb), fun a l ha => s.on a l (own a l ha)⟩
  by_cases hij : i = j
  · subst hij
    have hl : i < Γ.length := by
      have := (List.getElem?_eq_some_iff.mp hj).1
      simpa using this
    rw [List.getElem?_set_self hl] at hj
    cases hj
    exact ⟨o, List.getElem?_set_self (by rw [s.ln]; exact hl), h⟩
  · rw [List.getElem?_set_ne hij] at hj
    obtain ⟨o', ho, hs⟩ := s.sl j e' hj
    exact ⟨o', by rw [List.getElem?_set_ne hij]; exact ho, hs⟩
theorem Sl.put {l : Addr} {o : Option V} {e : En} (n : H l = none) (h : Sl K B H o e) : Sl K (l :: B) H o e := by
  cases e with
  | no => exact trivial
  | dat d =>
    obtain ⟨v, e, h⟩ := h
    exact ⟨v, e, Dat.put n d v h⟩
  | own ds =>
    obtain ⟨l', xs, e, hl, hx, h⟩ := h
    exact ⟨l', xs, e, List.mem_cons_of_mem _ hl, hx, Dats.put n ds xs h⟩
  | ownD ds =>
    obtain ⟨l', xs, e, hl, hx, h⟩ := h
    exact ⟨l', xs, e, List.mem_cons_of_mem _ hl, hx, Datk.put n ds xs h⟩
  | ownI aI CI ds =>
    obtain ⟨l', xs, e, hl, hx, h⟩ := h
    exact ⟨l', xs, e, List.mem_cons_of_mem _ hl, hx, ⟨Datf.put n ds xs.2 h.1, h.2⟩⟩
/-- a new thing of the body's own comes to a name: l was new at H, what it holds lies in H' -/
theorem Sg.setOwn (s : Sg W H0 B0 B σ Γ H M) {i : Nat} {l : Addr} {e : En} (n : H l = none) (k : Kp W.F H H') (d : W.Dr M' H') (he : e.isOwn = true) (h : Sl K (l :: B) H' (some (.ref l)) e) (hl' : H' l ≠ none) :
    Sg W H0 B0 (l :: B) (σ.set i (some (.ref l))) (Γ.set i e) H' M' := by
  have s2 := s.keep k d
  have n0 : H0 l = none := s.k0.backB (fun z => W.alive s.dr l z n) n
  have old : ∀ j e' o, Γ[j]? = some e' → σ[j]? = some o → Sl K B H' o e' → Sl K (l :: B) H' o e' := fun j e' o g q hs => by
    obtain ⟨o2, q2, h2⟩ := s.sl j e' g
    rw [q] at q2
    cases q2
    have h3 := h2.put n
    refine h3.mono (k.more fun b hb => List.mem_cons_of_mem _ (s.fb b hb)) fun l' t e2 => ?_
    cases e' with
    | no => cases t
    | dat d => cases t
    | own ds =>
      obtain ⟨l1, x1, e3, _, hx1, _⟩ := h2
      obtain ⟨l2, x2, e4, _, hx2, _⟩ := hs
      rw [e2] at e3 e4
      cases e3
      cases e4
      rw [hx1, k _ _ (s.outF (i := j) ⟨⟨_, g, rfl⟩, by rw [q, e2]⟩) hx1]
    | ownD ds =>
      obtain ⟨l1, x1, e3, _, hx1, _⟩ := h2
      obtain ⟨l2, x2, e4, _, hx2, _⟩ := hs
      rw [e2] at e3 e4
      cases e3
      cases e4
      rw [hx1, k _ _ (s.outF (i := j) ⟨⟨_, g, rfl⟩, by rw [q, e2]⟩) hx1]
    | ownI aI CI ds =>
      obtain ⟨l1, x1, e3, _, hx1, _⟩ := h2
      obtain ⟨l2, x2, e4, _, hx2, _⟩ := hs
      rw [e2] at e3 e4
      cases e3
      cases e4
      rw [hx1, k _ _ (s.outF (i := j) ⟨⟨_, g, rfl⟩, by rw [q, e2]⟩) hx1]
  have new : ∀ j, Ow σ Γ j l → False := fun j ⟨⟨e', g, t⟩, q⟩ => by
    obtain ⟨o2, q2, h2⟩ := s.sl j e' g
    rw [q] at q2
    cases q2
    cases e' with
    | no => cases t
    | dat d => cases t
    | own ds =>
      obtain ⟨l1, x1, e3, hb, _⟩ := h2
      cases e3
      exact s.al _ hb n
    | ownD ds =>
      obtain ⟨l1, x1, e3, hb, _⟩ := h2
      cases e3
      exact s.al _ hb n
    | ownI aI CI ds =>
      obtain ⟨l1, x1, e3, hb, _⟩ := h2
      cases e3
      exact s.al _ hb n
  have own : ∀ j l', Ow (σ.set i (some (.ref l))) (Γ.set i e) j l' → (j = i ∧ l' = l) ∨ (j ≠ i ∧ Ow σ Γ j l') := fun j l' ⟨⟨e', g, t⟩, q⟩ => by
    by_cases hj : i = j
    · subst hj
      by_cases hl : i < Γ.length
      · rw [List.getElem?_set_self (by rw [s.ln]; exact hl)] at q
        cases q
        exact .inl ⟨rfl, rfl⟩
      · rw [List.getElem?_eq_none (by simpa using hl)] at g
        cases g
    · rw [List.getElem?_set_ne hj] at g q
      exact .inr ⟨fun z => hj z.symm, ⟨e', g, t⟩, q⟩
  refine ⟨⟨d, fun b hb => List.mem_cons_of_mem _ (s.fb b hb), fun b hb => ?_⟩, s2.k0, fun b hb => List.mem_cons_of_mem _ (s.b0 b hb), s.a0, s.f0, by rw [List.length_set, List.length_set, s.ln], fun j e' hj => ?_, fun a b l' ha hb => ?_, fun a l' ha => ?_⟩
  · rcases List.mem_cons.mp hb with z | z
    · rw [z]
      exact hl'
    · exact s2.al b z
  · by_cases hij : i = j
    · subst hij
      have hl : i < Γ.length := by
        have := (List.getElem?_eq_some_iff.mp hj).1
        simpa using this
      rw [List.getElem?_set_self hl] at hj
      cases hj
      exact ⟨_, List.getElem?_set_self (by rw [s.ln]; exact hl), h⟩
    · rw [List.getElem?_set_ne hij] at hj
      obtain ⟨o', ho, hs⟩ := s2.sl j e' hj
      exact ⟨o', by rw [List.getElem?_set_ne hij]; exact ho, old j e' o' hj ho hs⟩
  · rcases own a l' ha with ⟨ea, el⟩ | ⟨na, wa⟩ <;> rcases own b l' hb with ⟨eb, el2⟩ | ⟨nb, wb⟩
    · rw [ea, eb]
    · rw [el] at wb
      exact (new b wb).elim
    · rw [el2] at wa
      exact (new a wa).elim
    · exact s.ow a b l' wa wb
  · rcases own a l' ha with ⟨ea, el⟩ | ⟨na, wa⟩
    · rw [el]
      exact n0
    · exact s.on a l' wa
/-- the body's own thing changes -/
theorem Sg.change (s : Sg W H0 B0 B σ Γ H M) {i : Nat} {l : Addr} {e e' : En} {o : HO} (hi : Γ[i]? = some e) (he : e.isOwn = true) (hs : σ[i]? = some (some (.ref l))) (he' : e'.isOwn = true)
    (h : Sl K B (upd H l o) (some (.ref l)) e') : Sg W H0 B0 B σ (Γ.set i e') (upd H l o) M := by
  have hO : Ow σ Γ i l := ⟨⟨e, hi, he⟩, hs⟩
  have hB : l ∈ B := by
    obtain ⟨o', q, z⟩ := s.sl i e hi
    rw [hs] at q
    cases q
    cases e with
    | no => cases he
    | dat d => cases he
    | own ds => obtain ⟨l1, _, e3, hb, _⟩ := z; cases e3; exact hb
    | ownD ds => obtain ⟨l1, _, e3, hb, _⟩ := z; cases e3; exact hb
    | ownI aI CI ds => obtain ⟨l1, _, e3, hb, _⟩ := z; cases e3; exact hb
  have hlt : i < Γ.length := (List.getElem?_eq_some_iff.mp hi).1
  have own : ∀ j l', Ow σ (Γ.set i e') j l' → Ow σ Γ j l' := fun j l' ⟨⟨e1, g, t⟩, q⟩ => by
    by_cases hj : i = j
    · subst hj
      exact ⟨⟨e, hi, he⟩, q⟩
    · rw [List.getElem?_set_ne hj] at g
      exact ⟨⟨e1, g, t⟩, q⟩
  refine ⟨⟨Wd.out (s.outF hO) s.dr, s.fb, fun b hb => ?_⟩, s.k0.late (s.on i l hO), s.b0, s.a0, s.f0, by rw [List.length_set, s.ln], fun j e1 hj => ?_, fun a b l' ha hb => s.ow a b l' (own a l' ha) (own b l' hb), fun a l' ha => s.on a l' (own a l' ha)⟩
  · by_cases hbl : b = l
    · rw [hbl, upd_same]
      exact Option.some_ne_none _
    · rw [upd_ne hbl]
      exact s.al b hb
  · by_cases hij : i = j
    · subst hij
      rw [List.getElem?_set_self hlt] at hj
      cases hj
      exact ⟨_, hs, h⟩
    · rw [List.getElem?_set_ne hij] at hj
      obtain ⟨o', ho, hs'⟩ := s.sl j e1 hj
      refine ⟨o', ho, hs'.mono (Kp.mut hB) fun l' t e2 => ?_⟩
      have hne : l' ≠ l := fun z => hij (s.ow i j l hO (by rw [← z]; exact ⟨⟨e1, hj, t⟩, by rw [ho, e2]⟩))
      rw [upd_ne hne]
/-- the body's own list is from now on data -/
theorem Sg.freezeS (s : Sg W H0 B0 B σ Γ H M) {i : Nat} {ds : List Da} (hi : Γ[i]? = some (.own ds)) : ∃ B', Sg W H0 B0 B' σ (Γ.set i (.dat (.lst ds))) H M ∧ ∀ x ∈ B', x ∈ B := by
  obtain ⟨o, ho, l, xs, rfl, hB, hx, hd⟩ := s.sl i _ hi
  have hO : Ow σ Γ i l := ⟨⟨_, hi, rfl⟩, ho⟩
  have hlt : i < Γ.length := (List.getElem?_eq_some_iff.mp hi).1
  have own : ∀ j l', Ow σ (Γ.set i (.dat (.lst ds))) j l' → i ≠ j ∧ Ow σ Γ j l' := fun j l' ⟨⟨e1, g, t⟩, q⟩ => by
    by_cases hj : i = j
    · subst hj
      rw [List.getElem?_set_self hlt] at g
      cases g
      cases t
    · rw [List.getElem?_set_ne hj] at g
      exact ⟨hj, ⟨e1, g, t⟩, q⟩
  have hsub : ∀ b ∈ B.filter (fun b => decide (b ≠ l)), b ∈ B := fun b hb => (List.mem_filter.mp hb).1
  have hmem : ∀ b ∈ B, b ≠ l → b ∈ B.filter (fun b => decide (b ≠ l)) := fun b hb hn => List.mem_filter.mpr ⟨hb, decide_eq_true hn⟩
  have hn : l ∉ B.filter (fun b => decide (b ≠ l)) := fun z => of_decide_eq_true (List.mem_filter.mp z).2 rfl
  refine ⟨B.filter (fun b => decide (b ≠ l)), ⟨⟨s.dr, fun b hb => hmem b (s.fb b hb) fun z => s.outF hO (by rw [← z]; exact hb), fun b hb => s.al b (hsub b hb)⟩, s.k0, fun b hb => hmem b (s.b0 b hb) fun z => s.a0 b hb (by rw [z]; exact s.on i l hO), s.a0, s.f0, by rw [List.length_set, s.ln], fun j e1 hj => ?_, fun a b l' ha hb => s.ow a b l' (own a l' ha).2 (own b l' hb).2, fun a l' ha => s.on a l' (own a l' ha).2⟩, hsub⟩
  by_cases hij : i = j
  · subst hij
    rw [List.getElem?_set_self hlt] at hj
    cases hj
    refine ⟨_, ho, .ref l, rfl, ?_⟩
    unfold Dat
    exact ⟨l, xs, rfl, .of hn hx, Dats.sub hsub ds xs hd⟩
  · rw [List.getElem?_set_ne hij] at hj
    obtain ⟨o', ho', hs'⟩ := s.sl j e1 hj
    refine ⟨o', ho', ?_⟩
    cases e1 with
    | no => exact trivial
    | dat d =>
      obtain ⟨v, e, h⟩ := hs'
      exact ⟨v, e, Dat.sub hsub d v h⟩
    | own es =>
      obtain ⟨l', x', e, hl, hx', h⟩ := hs'
      refine ⟨l', x', e, hmem l' hl fun z => hij (s.ow i j l hO ⟨⟨_, hj, rfl⟩, by rw [ho', e, z]⟩), hx', Dats.sub hsub es x' h⟩
    | ownD es =>
      obtain ⟨l', x', e, hl, hx', h⟩ := hs'
      refine ⟨l', x', e, hmem l' hl fun z => hij (s.ow i j l hO ⟨⟨_, hj, rfl⟩, by rw [ho', e, z]⟩), hx', Datk.sub hsub es x' h⟩
    | ownI aI CI es =>
      obtain ⟨l', x', e, hl, hx', h⟩ := hs'
      refine ⟨l', x', e, hmem l' hl fun z => hij (s.ow i j l hO ⟨⟨_, hj, rfl⟩, by rw [ho', e, z]⟩), hx', ⟨Datf.sub hsub es x'.2 h.1, h.2⟩⟩
theorem Sg.freezeDS (s : Sg W H0 B0 B σ Γ H M) {i : Nat} {ds : List (Key × Da)} (hi : Γ[i]? = some (.ownD ds)) : ∃ B', Sg W H0 B0 B' σ (Γ.set i (.dat (.dct ds))) H M ∧ ∀ x ∈ B', x ∈ B := by
  obtain ⟨o, ho, l, xs, rfl, hB, hx, hd⟩ := s.sl i _ hi
  have hO : Ow σ Γ i l := ⟨⟨_, hi, rfl⟩, ho⟩
  have hlt : i < Γ.length := (List.getElem?_eq_some_iff.mp hi).1
  have own : ∀ j l', Ow σ (Γ.set i (.dat (.dct ds))) j l' → i ≠ j ∧ Ow σ Γ j l' := fun j l' ⟨⟨e1, g, t⟩, q⟩ => by
    by_cases hj : i = j
    · subst hj
      rw [List.getElem?_set_self hlt] at g
      cases g
      cases t
    · rw [List.getElem?_set_ne hj] at g
      exact ⟨hj, ⟨e1, g, t⟩, q⟩
  have hsub : ∀ b ∈ B.filter (fun b => decide (b ≠ l)), b ∈ B := fun b hb => (List.mem_filter.mp hb).1
  have hmem : ∀ b ∈ B, b ≠ l → b ∈ B.filter (fun b => decide (b ≠ l)) := fun b hb hn => List.mem_filter.mpr ⟨hb, decide_eq_true hn⟩
  have hn : l ∉ B.filter (fun b => decide (b ≠ l)) := fun z => of_decide_eq_true (List.mem_filter.mp z).2 rfl
  refine ⟨B.filter (fun b => decide (b ≠ l)), ⟨⟨s.dr, fun b hb => hmem b (s.fb b hb) fun z => s.outF hO (by rw [← z]; exact hb), fun b hb => s.al b (hsub b hb)⟩, s.k0, fun b hb => hmem b (s.b0 b hb) fun z => s.a0 b hb (by rw [z]; exact s.on i l hO), s.a0, s.f0, by rw [List.length_set, s.ln], fun j e1 hj => ?_, fun a b l' ha hb => s.ow a b l' (own a l' ha).2 (own b l' hb).2, fun a l' ha => s.on a l' (own a l' ha).2⟩, hsub⟩
  by_cases hij : i = j
  · subst hij
    rw [List.getElem?_set_self hlt] at hj
    cases hj
    refine ⟨_, ho, .ref l, rfl, ?_⟩
    unfold Dat
    exact ⟨l, xs, rfl, ⟨hn, Or.inl hx⟩, Datk.sub hsub ds xs hd⟩
  · rw [List.getElem?_set_ne hij] at hj
    obtain ⟨o', ho', hs'⟩ := s.sl j e1 hj
    refine ⟨o', ho', ?_⟩
    cases e1 with
    | no => exact trivial
    | dat d =>
      obtain ⟨v, e, h⟩ := hs'
      exact ⟨v, e, Dat.sub hsub d v h⟩
    | own es =>
      obtain ⟨l', x', e, hl, hx', h⟩ := hs'
      refine ⟨l', x', e, hmem l' hl fun z => hij (s.ow i j l hO ⟨⟨_, hj, rfl⟩, by rw [ho', e, z]⟩), hx', Dats.sub hsub es x' h⟩
    | ownD es =>
      obtain ⟨l', x', e, hl, hx', h⟩ := hs'
      refine ⟨l', x', e, hmem l' hl fun z => hij (s.ow i j l hO ⟨⟨_, hj, rfl⟩, by rw [ho', e, z]⟩), hx', Datk.sub hsub es x' h⟩
    | ownI aI CI es =>
      obtain ⟨l', x', e, hl, hx', h⟩ := hs'
      refine ⟨l', x', e, hmem l' hl fun z => hij (s.ow i j l hO ⟨⟨_, hj, rfl⟩, by rw [ho', e, z]⟩), hx', ⟨Datf.sub hsub es x'.2 h.1, h.2⟩⟩
theorem Sg.freezeIS (s : Sg W H0 B0 B σ Γ H M) {i : Nat} {aI CI : Addr} {ds : List (Str × Da)} (hi : Γ[i]? = some (.ownI aI CI ds)) : ∃ B', Sg W H0 B0 B' σ (Γ.set i (.dat (.ins CI ds))) H M ∧ ∀ x ∈ B', x ∈ B := by
  obtain ⟨o, ho, l, xs, rfl, hB, hx, hd, _⟩ := s.sl i _ hi
  have hO : Ow σ Γ i l := ⟨⟨_, hi, rfl⟩, ho⟩
  have hlt : i < Γ.length := (List.getElem?_eq_some_iff.mp hi).1
  have own : ∀ j l', Ow σ (Γ.set i (.dat (.ins CI ds))) j l' → i ≠ j ∧ Ow σ Γ j l' := fun j l' ⟨⟨e1, g, t⟩, q⟩ => by
    by_cases hj : i = j
    · subst hj
      rw [List.getElem?_set_self hlt] at g
      cases g
      cases t
    · rw [List.getElem?_set_ne hj] at g
      exact ⟨hj, ⟨e1, g, t⟩, q⟩
  have hsub : ∀ b ∈ B.filter (fun b => decide (b ≠ l)), b ∈ B := fun b hb => (List.mem_filter.mp hb).1
  have hmem : ∀ b ∈ B, b ≠ l → b ∈ B.filter (fun b => decide (b ≠ l)) := fun b hb hn => List.mem_filter.mpr ⟨hb, decide_eq_true hn⟩
  have hn : l ∉ B.filter (fun b => decide (b ≠ l)) := fun z => of_decide_eq_true (List.mem_filter.mp z).2 rfl
  refine ⟨B.filter (fun b => decide (b ≠ l)), ⟨⟨s.dr, fun b hb => hmem b (s.fb b hb) fun z => s.outF hO (by rw [← z]; exact hb), fun b hb => s.al b (hsub b hb)⟩, s.k0, fun b hb => hmem b (s.b0 b hb) fun z => s.a0 b hb (by rw [z]; exact s.on i l hO), s.a0, s.f0, by rw [List.length_set, s.ln], fun j e1 hj => ?_, fun a b l' ha hb => s.ow a b l' (own a l' ha).2 (own b l' hb).2, fun a l' ha => s.on a l' (own a l' ha).2⟩, hsub⟩
  by_cases hij : i = j
  · subst hij
    rw [List.getElem?_set_self hlt] at hj
    cases hj
    refine ⟨_, ho, .ref l, rfl, ?_⟩
    unfold Dat
    exact ⟨l, xs.1, xs.2, rfl, ⟨hn, hx⟩, Datf.sub hsub ds xs.2 hd⟩
  · rw [List.getElem?_set_ne hij] at hj
    obtain ⟨o', ho', hs'⟩ := s.sl j e1 hj
    refine ⟨o', ho', ?_⟩
    cases e1 with
    | no => exact trivial
    | dat d =>
      obtain ⟨v, e, h⟩ := hs'
      exact ⟨v, e, Dat.sub hsub d v h⟩
    | own es =>
      obtain ⟨l', x', e, hl, hx', h⟩ := hs'
      refine ⟨l', x', e, hmem l' hl fun z => hij (s.ow i j l hO ⟨⟨_, hj, rfl⟩, by rw [ho', e, z]⟩), hx', Dats.sub hsub es x' h⟩
    | ownD es =>
      obtain ⟨l', x', e, hl, hx', h⟩ := hs'
      refine ⟨l', x', e, hmem l' hl fun z => hij (s.ow i j l hO ⟨⟨_, hj, rfl⟩, by rw [ho', e, z]⟩), hx', Datk.sub hsub es x' h⟩
    | ownI aI CI es =>
      obtain ⟨l', x', e, hl, hx', h⟩ := hs'
      refine ⟨l', x', e, hmem l' hl fun z => hij (s.ow i j l hO ⟨⟨_, hj, rfl⟩, by rw [ho', e, z]⟩), hx', ⟨Datf.sub hsub es x'.2 h.1, h.2⟩⟩
theorem Sg.freeze (s : Sg W H0 B0 B σ Γ H M) {i : Nat} {ds : List Da} (hi : Γ[i]? = some (.own ds)) : ∃ B', Sg W H0 B0 B' σ (Γ.set i (.dat (.lst ds))) H M := let ⟨B', s', _⟩ := s.freezeS hi; ⟨B', s'⟩
theorem Sg.freezeD (s : Sg W H0 B0 B σ Γ H M) {i : Nat} {ds : List (Key × Da)} (hi : Γ[i]? = some (.ownD ds)) : ∃ B', Sg W H0 B0 B' σ (Γ.set i (.dat (.dct ds))) H M := let ⟨B', s', _⟩ := s.freezeDS hi; ⟨B', s'⟩
end
end WJ
set_option Elab.async false
set_option linter.all false
set_option maxRecDepth 100000
set_option maxHeartbeats 2000000
/-! WjC: judgements over data: expressions, tests, arguments, what is walked, statements; their rules -/
namespace WJ
open PySem L2
section
variable {K : PySem.W.Frag}
/-- te gives data d with P d, at the cost c -/
def Ev (W : Wd K) (te : TE) (Γ : List En) (c : Nat) (P : Da → Prop) : Prop :=
  ∀ (H0 : Hp) (B0 B : List Addr) (σ : L2.St) (H : Hp) (M : Nat), Sg W H0 B0 B σ Γ H M → c ≤ M → ∀ Q : VK, (∀ v d H', Kp W.F H H' → W.Dr (M - c) H' → Dat K B H' v d → P d → Q v H') → te σ H Q
/-- te gives a new list -/
def EvF (W : Wd K) (te : TE) (Γ : List En) (c : Nat) (P : List Da → Prop) : Prop :=
  ∀ (H0 : Hp) (B0 B : List Addr) (σ : L2.St) (H : Hp) (M : Nat), Sg W H0 B0 B σ Γ H M → c ≤ M → ∀ Q : VK, (∀ l xs ds H', H l = none → Kp W.F H H' → W.Dr (M - c) H' → H' l = some (.lst xs) → Dats K (l :: B) H' xs ds → P ds → Q (.ref l) H') → te σ H Q
/-- te gives a new dict -/
def EvG (W : Wd K) (te : TE) (Γ : List En) (c : Nat) (P : List (Key × Da) → Prop) : Prop :=
  ∀ (H0 : Hp) (B0 B : List Addr) (σ : L2.St) (H : Hp) (M : Nat), Sg W H0 B0 B σ Γ H M → c ≤ M → ∀ Q : VK, (∀ l xs ds H', H l = none → Kp W.F H H' → W.Dr (M - c) H' → H' l = some (.dK xs) → Datk K (l :: B) H' xs ds → P ds → Q (.ref l) H') → te σ H Q
def EvT (W : Wd K) (tt : TT) (Γ : List En) (c : Nat) (P : Bool → Prop) : Prop :=
  ∀ (H0 : Hp) (B0 B : List Addr) (σ : L2.St) (H : Hp) (M : Nat), Sg W H0 B0 B σ Γ H M → c ≤ M → ∀ Q : Bool → Hp → Prop, (∀ b H', Kp W.F H H' → W.Dr (M - c) H' → P b → Q b H') → tt σ H Q
def EvA (W : Wd K) (ta : TA) (Γ : List En) (c : Nat) (P : List Da → Prop) : Prop :=
  ∀ (H0 : Hp) (B0 B : List Addr) (σ : L2.St) (H : Hp) (M : Nat), Sg W H0 B0 B σ Γ H M → c ≤ M → ∀ Q : List V → Hp → Prop, (∀ vs ds H', Kp W.F H H' → W.Dr (M - c) H' → Dats K B H' vs ds → P ds → Q vs H') → ta σ H Q
/-- two values by an operation; a list of values by a call -/
def Rv (W : Wd K) (r : R2) (d1 d2 : Da) (P : Da → Prop) : Prop :=
  ∀ (B : List Addr) (H : Hp) (M : Nat) (v1 v2 : V), Bk W B H M → Dat K B H v1 d1 → Dat K B H v2 d2 → ∀ Q : VK, (∀ v d H', Kp W.F H H' → W.Dr M H' → Dat K B H' v d → P d → Q v H') → r v1 v2 H Q
def RvF (W : Wd K) (r : R2) (d1 d2 : Da) (P : List Da → Prop) : Prop :=
  ∀ (B : List Addr) (H : Hp) (M : Nat) (v1 v2 : V), Bk W B H M → Dat K B H v1 d1 → Dat K B H v2 d2 → ∀ Q : VK, (∀ l xs ds H', H l = none → Kp W.F H H' → W.Dr M H' → H' l = some (.lst xs) → Dats K (l :: B) H' xs ds → P ds → Q (.ref l) H') → r v1 v2 H Q
def Rc (W : Wd K) (r : List V → Hp → VK → Prop) (ds : List Da) (P : Da → Prop) : Prop :=
  ∀ (B : List Addr) (H : Hp) (M : Nat) (vs : List V), Bk W B H M → Dats K B H vs ds → ∀ Q : VK, (∀ v d H', Kp W.F H H' → W.Dr M H' → Dat K B H' v d → P d → Q v H') → r vs H Q
def RcF (W : Wd K) (r : List V → Hp → VK → Prop) (ds : List Da) (P : List Da → Prop) : Prop :=
  ∀ (B : List Addr) (H : Hp) (M : Nat) (vs : List V), Bk W B H M → Dats K B H vs ds → ∀ Q : VK, (∀ l xs ds H', H l = none → Kp W.F H H' → W.Dr M H' → H' l = some (.lst xs) → Dats K (l :: B) H' xs ds → P ds → Q (.ref l) H') → r vs H Q
/-- a def's promise over data -/
def Fn (W : Wd K) (sp : Sp) (ds : List Da) (c : Nat) (P : Da → Prop) : Prop :=
  ∀ (B : List Addr) (H : Hp) (M : Nat) (vs : List V), Bk W B H M → c ≤ M → Dats K B H vs ds → ∀ (Q : VK) (E : XK), (∀ v d H', Kp W.F H H' → W.Dr (M - c) H' → Dat K B H' v d → P d → Q v H') → sp vs H Q E
/-- what is walked stands for the items ds, whatever becomes of the rest -/
def Src (K : PySem.W.Frag) (B : List Addr) (J : It) (ds : List Da) (H : Hp) : Prop :=
  ∀ (B' : List Addr) (H' : Hp), Mv B H B' H' → (∀ b ∈ B', H' b ≠ none) → (∀ i, i < ds.length → J.go i H' ∧ ∀ x H2, J.yld i H' x H2 → Kp [] H' H2 ∧ ∃ d, ds[i]? = some d ∧ Dat K B' H2 x d) ∧ J.stop ds.length H'
def Ei (W : Wd K) (wi : TI) (Γ : List En) (c : Nat) (P : List Da → Prop) : Prop :=
  ∀ (H0 : Hp) (B0 B : List Addr) (σ : L2.St) (H : Hp) (M : Nat), Sg W H0 B0 B σ Γ H M → c ≤ M → ∀ R : It → Hp → Prop, (∀ J ds H', Kp W.F H H' → W.Dr (M - c) H' → Src K B J ds H' → P ds → R J H') → wi σ H R
end

section
variable {K : PySem.W.Frag} {W : Wd K} {Γ : List En} {c c1 c2 c' : Nat} {P P' P1 P2 : Da → Prop} {te ta tb tc : TE} {tt tu : TT} {r r' : R2}
theorem Ev.weak (h : Ev W te Γ c P) (hc : c ≤ c') (hp : ∀ d, P d → P' d) : Ev W te Γ c' P' := fun H0 B0 B σ H M s hM Q q =>
  h H0 B0 B σ H M s (Nat.le_trans hc hM) Q fun v d H' k r hd p => q v d H' k (W.less r (by omega)) hd (hp d p)
theorem Ev.imp (h : Ev W te Γ c P) (hp : ∀ d, P d → P' d) : Ev W te Γ c P' := h.weak (Nat.le_refl _) hp
theorem EvF.weak {P P' : List Da → Prop} (h : EvF W te Γ c P) (hc : c ≤ c') (hp : ∀ d, P d → P' d) : EvF W te Γ c' P' := fun H0 B0 B σ H M s hM Q q =>
  h H0 B0 B σ H M s (Nat.le_trans hc hM) Q fun l xs ds H' n k r e hd p => q l xs ds H' n k (W.less r (by omega)) e hd (hp ds p)
theorem EvT.weak {P P' : Bool → Prop} (h : EvT W tt Γ c P) (hc : c ≤ c') (hp : ∀ d, P d → P' d) : EvT W tt Γ c' P' := fun H0 B0 B σ H M s hM Q q =>
  h H0 B0 B σ H M s (Nat.le_trans hc hM) Q fun b H' k r p => q b H' k (W.less r (by omega)) (hp b p)
theorem EvA.weak {ta : TA} {P P' : List Da → Prop} (h : EvA W ta Γ c P) (hc : c ≤ c') (hp : ∀ d, P d → P' d) : EvA W ta Γ c' P' := fun H0 B0 B σ H M s hM Q q =>
  h H0 B0 B σ H M s (Nat.le_trans hc hM) Q fun b ds H' k r hd p => q b ds H' k (W.less r (by omega)) hd (hp ds p)
theorem sub_le {M c c' : Nat} (h : c + c' ≤ M) : c' ≤ M - c := by omega
theorem sub_sub {M c c' : Nat} : M - c - c' = M - (c + c') := by omega

theorem ev_var {i : Nat} {d : Da} (h : Γ[i]? = some (.dat d)) : Ev W (tVar i) Γ 0 (· = d) := fun H0 B0 B σ H M s _ Q q => by
  obtain ⟨o, ho, v, rfl, hd⟩ := s.sl i _ h
  exact ⟨v, ho, q v d H Kp.refl s.dr hd rfl⟩
theorem ev_c {v : V} {d : Da} (h : ∀ (B : List Addr) (H : Hp), Dat K B H v d) : Ev W (tC v) Γ 0 (· = d) := fun H0 B0 B σ H M s _ Q q => q v d H Kp.refl s.dr (h B H) rfl
theorem ev_int {i : Int} : Ev W (tC (.int i)) Γ 0 (· = .int i) := ev_c fun _ _ => by unfold Dat; rfl
theorem ev_str {x : Str} : Ev W (tC (.str x)) Γ 0 (· = .str x) := ev_c fun _ _ => by unfold Dat; rfl
theorem ev_bl {b : Bool} : Ev W (tC (.bl b)) Γ 0 (· = .bl b) := ev_c fun _ _ => by unfold Dat; rfl
theorem ev_non : Ev W (tC .non) Γ 0 (· = .non) := ev_c fun _ _ => by unfold Dat; rfl
/-- a new list is data -/
theorem EvF.ev {P : List Da → Prop} (h : EvF W te Γ c P) : Ev W te Γ c (fun d => ∃ ds, d = .lst ds ∧ P ds) := fun H0 B0 B σ H M s hM Q q =>
  h H0 B0 B σ H M s hM Q fun l xs ds H' n k r e hd p => q _ (.lst ds) H' k r (by
    unfold Dat
    exact ⟨l, xs, rfl, .of (s.toBk.free n) e, Dats.sub (fun b hb => List.mem_cons_of_mem _ hb) ds xs hd⟩) ⟨ds, rfl, p⟩
theorem EvF.ev' {ds : List Da} (h : EvF W te Γ c (· = ds)) : Ev W te Γ c (· = .lst ds) := h.ev.imp fun d ⟨e, h1, h2⟩ => by rw [h1, h2]
theorem EvG.ev {P : List (Key × Da) → Prop} (h : EvG W te Γ c P) : Ev W te Γ c (fun d => ∃ ds, d = .dct ds ∧ P ds) := fun H0 B0 B σ H M s hM Q q =>
  h H0 B0 B σ H M s hM Q fun l xs ds H' n k r e hd p => q _ (.dct ds) H' k r (by
    unfold Dat
    exact ⟨l, xs, rfl, ⟨s.toBk.free n, Or.inl e⟩, Datk.sub (fun b hb => List.mem_cons_of_mem _ hb) ds xs hd⟩) ⟨ds, rfl, p⟩

theorem ev_op (ha : Ev W ta Γ c1 P1) (hb : Ev W tb Γ c2 P2) (hr : ∀ d1 d2, P1 d1 → P2 d2 → Rv W r d1 d2 P) : Ev W (tOp r ta tb) Γ (c1 + c2) P := fun H0 B0 B σ H M s hM Q q =>
  ha H0 B0 B σ H M s (by omega) _ fun v1 d1 H1 k1 r1 h1 p1 => hb H0 B0 B σ H1 _ (s.keep k1 r1) (by omega) _ fun v2 d2 H2 k2 r2 h2 p2 =>
    hr d1 d2 p1 p2 B H2 _ v1 v2 ((s.keep k1 r1).keep k2 r2).toBk (Dat.mono ((s.keep k1 r1).toBk.kp k2) d1 v1 h1) h2 Q fun v d H3 k3 r3 h3 p3 => q v d H3 ((k1.trans k2).trans k3) (by rw [← sub_sub]; exact r3) h3 p3
theorem evF_op {P : List Da → Prop} (ha : Ev W ta Γ c1 P1) (hb : Ev W tb Γ c2 P2) (hr : ∀ d1 d2, P1 d1 → P2 d2 → RvF W r d1 d2 P) : EvF W (tOp r ta tb) Γ (c1 + c2) P := fun H0 B0 B σ H M s hM Q q =>
  ha H0 B0 B σ H M s (by omega) _ fun v1 d1 H1 k1 r1 h1 p1 => hb H0 B0 B σ H1 _ (s.keep k1 r1) (by omega) _ fun v2 d2 H2 k2 r2 h2 p2 =>
    hr d1 d2 p1 p2 B H2 _ v1 v2 ((s.keep k1 r1).keep k2 r2).toBk (Dat.mono ((s.keep k1 r1).toBk.kp k2) d1 v1 h1) h2 Q fun l xs ds H3 n k3 r3 e h3 p3 =>
      q l xs ds H3 ((k1.trans k2).backB (fun z => ((s.keep k1 r1).keep k2 r2).al l (s.fb l z) n) n) ((k1.trans k2).trans k3) (by rw [← sub_sub]; exact r3) e h3 p3
/-- both known -/
theorem ev_op2 {d1 d2 : Da} (ha : Ev W ta Γ c1 (· = d1)) (hb : Ev W tb Γ c2 (· = d2)) (hr : Rv W r d1 d2 P) : Ev W (tOp r ta tb) Γ (c1 + c2) P := ev_op ha hb fun _ _ e1 e2 => by rw [e1, e2]; exact hr
theorem evF_op2 {d1 d2 : Da} {P : List Da → Prop} (ha : Ev W ta Γ c1 (· = d1)) (hb : Ev W tb Γ c2 (· = d2)) (hr : RvF W r d1 d2 P) : EvF W (tOp r ta tb) Γ (c1 + c2) P := evF_op ha hb fun _ _ e1 e2 => by rw [e1, e2]; exact hr

theorem ev_and {Pa : Bool → Prop} (ha : Ev W ta Γ c1 (fun d => ∃ a, d = .bl a ∧ Pa a)) (hb : Pa true → Ev W tb Γ c2 P) (hf : Pa false → P (.bl false)) : Ev W (tAndV ta tb) Γ (c1 + c2) P := fun H0 B0 B σ H M s hM Q q =>
  ha H0 B0 B σ H M s (by omega) _ fun v1 d1 H1 k1 r1 h1 ⟨a, e, p1⟩ => by
    subst e
    unfold Dat at h1
    refine ⟨a, h1, ?_⟩
    cases a with
    | true =>
      show tb σ H1 Q
      exact hb p1 H0 B0 B σ H1 _ (s.keep k1 r1) (by omega) Q fun v d H2 k2 r2 h2 p2 => q v d H2 (k1.trans k2) (by rw [← sub_sub]; exact r2) h2 p2
    | false =>
      show Q (.bl false) H1
      exact q _ (.bl false) H1 k1 (W.less r1 (by omega)) (by unfold Dat; rfl) (hf p1)
theorem ev_or {Pa : Bool → Prop} (ha : Ev W ta Γ c1 (fun d => ∃ a, d = .bl a ∧ Pa a)) (hb : Pa false → Ev W tb Γ c2 P) (hf : Pa true → P (.bl true)) : Ev W (tOrV ta tb) Γ (c1 + c2) P := fun H0 B0 B σ H M s hM Q q =>
  ha H0 B0 B σ H M s (by omega) _ fun v1 d1 H1 k1 r1 h1 ⟨a, e, p1⟩ => by
    subst e
    unfold Dat at h1
    refine ⟨a, h1, ?_⟩
    cases a with
    | false =>
      show tb σ H1 Q
      exact hb p1 H0 B0 B σ H1 _ (s.keep k1 r1) (by omega) Q fun v d H2 k2 r2 h2 p2 => q v d H2 (k1.trans k2) (by rw [← sub_sub]; exact r2) h2 p2
    | true =>
      show Q (.bl true) H1
      exact q _ (.bl true) H1 k1 (W.less r1 (by omega)) (by unfold Dat; rfl) (hf p1)
theorem ev_not {Pa : Bool → Prop} (ha : Ev W ta Γ c (fun d => ∃ a, d = .bl a ∧ Pa a)) : Ev W (tNotV ta) Γ c (fun d => ∃ a, d = .bl (!a) ∧ Pa a) := fun H0 B0 B σ H M s hM Q q =>
  ha H0 B0 B σ H M s hM _ fun v1 d1 H1 k1 r1 h1 ⟨a, e, p1⟩ => by
    subst e
    unfold Dat at h1
    exact ⟨a, h1, q _ (.bl (!a)) H1 k1 r1 (by unfold Dat; rfl) ⟨a, rfl, p1⟩⟩
theorem ev_if {Pt : Bool → Prop} (ht : EvT W tt Γ c1 Pt) (h1 : Pt true → Ev W ta Γ c2 P) (h2 : Pt false → Ev W tb Γ c2 P) : Ev W (tIf tt ta tb) Γ (c1 + c2) P := fun H0 B0 B σ H M s hM Q q =>
  ht H0 B0 B σ H M s (by omega) _ fun b H1 k1 r1 p1 => by
    cases b with
    | true =>
      show ta σ H1 Q
      exact h1 p1 H0 B0 B σ H1 _ (s.keep k1 r1) (by omega) Q fun v d H2 k2 r2 h2 p2 => q v d H2 (k1.trans k2) (by rw [← sub_sub]; exact r2) h2 p2
    | false =>
      show tb σ H1 Q
      exact h2 p1 H0 B0 B σ H1 _ (s.keep k1 r1) (by omega) Q fun v d H2 k2 r2 h2 p2 => q v d H2 (k1.trans k2) (by rw [← sub_sub]; exact r2) h2 p2
theorem ev_chain (ha : Ev W ta Γ c1 P1) (hb : Ev W tb Γ c2 P2) {c3 : Nat} {P3 : Da → Prop} (hc : Ev W tc Γ c3 P3) {Pk : Da → Da → Bool → Prop}
    (hr : ∀ d1 d2, P1 d1 → P2 d2 → Rv W r d1 d2 (fun d => ∃ k, d = .bl k ∧ Pk d1 d2 k)) (hf : ∀ d1 d2, P1 d1 → P2 d2 → Pk d1 d2 false → P (.bl false)) (hr' : ∀ d1 d2 d3, P1 d1 → P2 d2 → P3 d3 → Pk d1 d2 true → Rv W r' d2 d3 P) :
    Ev W (tChain r r' ta tb tc) Γ (c1 + c2 + c3) P := fun H0 B0 B σ H M s hM Q q =>
  ha H0 B0 B σ H M s (by omega) _ fun v1 d1 H1 k1 r1 h1 p1 => hb H0 B0 B σ H1 _ (s.keep k1 r1) (by omega) _ fun v2 d2 H2 k2 r2 h2 p2 =>
    hr d1 d2 p1 p2 B H2 _ v1 v2 ((s.keep k1 r1).keep k2 r2).toBk (Dat.mono ((s.keep k1 r1).toBk.kp k2) d1 v1 h1) h2 _ fun v d H3 k3 r3 h3 ⟨k, e, p3⟩ => by
      subst e
      unfold Dat at h3
      refine ⟨k, h3, ?_⟩
      have s3 := ((s.keep k1 r1).keep k2 r2).keep k3 r3
      cases k with
      | false =>
        show Q (.bl false) H3
        exact q _ (.bl false) H3 ((k1.trans k2).trans k3) (W.less r3 (by omega)) (by unfold Dat; rfl) (hf d1 d2 p1 p2 p3)
      | true =>
        show tc σ H3 _
        refine hc H0 B0 B σ H3 _ s3 (by omega) _ fun v4 d4 H4 k4 r4 h4 p4 => ?_
        exact hr' d1 d2 d4 p1 p2 p4 p3 B H4 _ v2 v4 (s3.keep k4 r4).toBk (Dat.mono (((s.keep k1 r1).keep k2 r2).toBk.kp k3 |>.trans (s3.toBk.kp k4)) d2 v2 h2) h4 Q fun v5 d5 H5 k5 r5 h5 p5 =>
          q v5 d5 H5 ((((k1.trans k2).trans k3).trans k4).trans k5) (W.less r5 (by omega)) h5 p5
/-! tests -/
theorem et_test {P : Bool → Prop} (h : Ev W te Γ c (fun d => ∃ b, d = .bl b ∧ P b)) : EvT W (tTest te) Γ c P := fun H0 B0 B σ H M s hM Q q =>
  h H0 B0 B σ H M s hM _ fun v d H1 k r hd ⟨b, e, p⟩ => by
    subst e
    unfold Dat at hd
    exact ⟨b, hd, q b H1 k r p⟩
theorem et_B {P : Bool → Prop} (h : Ev W te Γ c (fun d => ∃ b, d = .bl b ∧ P b)) : EvT W (tB te) Γ c P := fun H0 B0 B σ H M s hM Q q =>
  h H0 B0 B σ H M s hM _ fun v d H1 k r hd ⟨b, e, p⟩ => by
    subst e
    unfold Dat at hd
    exact ⟨b, hd, q b H1 k r p⟩
theorem et_and {Pa P : Bool → Prop} (h1 : EvT W tt Γ c1 Pa) (h2 : Pa true → EvT W tu Γ c2 P) (hf : Pa false → P false) : EvT W (tAnd tt tu) Γ (c1 + c2) P := fun H0 B0 B σ H M s hM Q q =>
  h1 H0 B0 B σ H M s (by omega) _ fun b H1 k1 r1 p1 => by
    cases b with
    | true =>
      show tu σ H1 Q
      exact h2 p1 H0 B0 B σ H1 _ (s.keep k1 r1) (by omega) Q fun v H2 k2 r2 p2 => q v H2 (k1.trans k2) (by rw [← sub_sub]; exact r2) p2
    | false =>
      show Q false H1
      exact q _ H1 k1 (W.less r1 (by omega)) (hf p1)
theorem et_or {Pa P : Bool → Prop} (h1 : EvT W tt Γ c1 Pa) (h2 : Pa false → EvT W tu Γ c2 P) (hf : Pa true → P true) : EvT W (tOr tt tu) Γ (c1 + c2) P := fun H0 B0 B σ H M s hM Q q =>
  h1 H0 B0 B σ H M s (by omega) _ fun b H1 k1 r1 p1 => by
    cases b with
    | false =>
      show tu σ H1 Q
      exact h2 p1 H0 B0 B σ H1 _ (s.keep k1 r1) (by omega) Q fun v H2 k2 r2 p2 => q v H2 (k1.trans k2) (by rw [← sub_sub]; exact r2) p2
    | true =>
      show Q true H1
      exact q _ H1 k1 (W.less r1 (by omega)) (hf p1)
theorem et_not {P : Bool → Prop} (h : EvT W tt Γ c (fun b => P (!b))) : EvT W (tNot tt) Γ c P := fun H0 B0 B σ H M s hM Q q =>
  h H0 B0 B σ H M s hM _ fun b H1 k r p => q _ H1 k r p
theorem et_yes {P : Bool → Prop} (h : P true) : EvT W tYes Γ 0 P := fun H0 B0 B σ H M s hM Q q => q true H Kp.refl s.dr h
/-! arguments, displays, calls -/
theorem ea_nil : EvA W tNil Γ 0 (· = []) := fun H0 B0 B σ H M s _ Q q => q [] [] H Kp.refl s.dr Dats.nil rfl
theorem ea_cons {tr : TA} {P1 : Da → Prop} {P2 P : List Da → Prop} (h : Ev W ta Γ c1 P1) (hr : EvA W tr Γ c2 P2) (hp : ∀ d ds, P1 d → P2 ds → P (d :: ds)) : EvA W (tCons ta tr) Γ (c1 + c2) P := fun H0 B0 B σ H M s hM Q q =>
  h H0 B0 B σ H M s (by omega) _ fun v1 d1 H1 k1 r1 h1 p1 => hr H0 B0 B σ H1 _ (s.keep k1 r1) (by omega) _ fun vs ds H2 k2 r2 h2 p2 =>
    q _ _ H2 (k1.trans k2) (by rw [← sub_sub]; exact r2) (.cons (Dat.mono ((s.keep k1 r1).toBk.kp k2) d1 v1 h1) h2) (hp d1 ds p1 p2)
theorem ea_cons2 {tr : TA} {d : Da} {ds : List Da} (h : Ev W ta Γ c1 (· = d)) (hr : EvA W tr Γ c2 (· = ds)) : EvA W (tCons ta tr) Γ (c1 + c2) (· = d :: ds) := ea_cons h hr fun _ _ e1 e2 => by rw [e1, e2]
theorem ev_tup {ta : TA} {P : List Da → Prop} (h : EvA W ta Γ c P) (hl : ∀ ds, P ds → ds.length ≤ 100000) : Ev W (tTup ta) Γ c (fun d => ∃ ds, d = .tup ds ∧ P ds) := fun H0 B0 B σ H M s hM Q q =>
  h H0 B0 B σ H M s hM _ fun vs ds H1 k r hd p => ⟨by rw [hd.length]; exact Nat.le_trans (hl ds p) (by decide), fun a na => q _ (.tup ds) _ (k.trans (Kp.new na)) (Wd.new na r) (by
    unfold Dat
    exact ⟨a, vs, rfl, .of ((s.keep k r).toBk.free na) upd_same, Dats.mono (Kp.new na) ds vs hd⟩) ⟨ds, rfl, p⟩⟩
theorem evF_lst {ta : TA} {P : List Da → Prop} (h : EvA W ta Γ c P) (hl : ∀ ds, P ds → ds.length ≤ 100000) : EvF W (tLst ta) Γ c P := fun H0 B0 B σ H M s hM Q q =>
  h H0 B0 B σ H M s hM _ fun vs ds H1 k r hd p => ⟨by rw [hd.length]; exact Nat.le_trans (hl ds p) (by decide), fun a na => q a vs ds _ (k.backB (fun z => (s.keep k r).al a (s.fb a z) na) na) (k.trans (Kp.new na)) (Wd.new na r) upd_same
    (Dats.mono (Kp.new na) ds vs (Dats.put na ds vs hd)) p⟩
theorem evG_new : EvG W tDNewK Γ 0 (· = []) := fun H0 B0 B σ H M s _ Q q => fun a na => q a [] [] _ na (Kp.new na) (Wd.new na s.dr) upd_same (by unfold Datk; rfl) rfl
theorem ev_cb {rc : List V → Hp → VK → Prop} {ta : TA} {Pa : List Da → Prop} (h : EvA W ta Γ c Pa) (hr : ∀ ds, Pa ds → Rc W rc ds P) : Ev W (tCB rc ta) Γ c P := fun H0 B0 B σ H M s hM Q q =>
  h H0 B0 B σ H M s hM _ fun vs ds H1 k r hd p => hr ds p B H1 _ vs (s.keep k r).toBk hd Q fun v d H2 k2 r2 h2 p2 => q v d H2 (k.trans k2) r2 h2 p2
theorem evF_cb {rc : List V → Hp → VK → Prop} {ta : TA} {Pa P : List Da → Prop} (h : EvA W ta Γ c Pa) (hr : ∀ ds, Pa ds → RcF W rc ds P) : EvF W (tCB rc ta) Γ c P := fun H0 B0 B σ H M s hM Q q =>
  h H0 B0 B σ H M s hM _ fun vs ds H1 k r hd p => hr ds p B H1 _ vs (s.keep k r).toBk hd Q fun l xs ds H2 n k2 r2 e h2 p2 =>
    q l xs ds H2 (k.backB (fun z => (s.keep k r).al l (s.fb l z) n) n) (k.trans k2) r2 e h2 p2
theorem ev_call {sp : Sp} {E : XK} {ta : TA} {Pa : List Da → Prop} (h : EvA W ta Γ c1 Pa) (hs : ∀ ds, Pa ds → Fn W sp ds c2 P) : Ev W (tCall sp [] E ta) Γ (c1 + c2) P := fun H0 B0 B σ H M s hM Q q =>
  h H0 B0 B σ H M s (by omega) _ fun vs ds H1 k r hd p => by
    show sp (vs ++ []) H1 Q E
    rw [List.append_nil]
    exact hs ds p B H1 _ vs (s.keep k r).toBk (by omega) hd Q E fun v d H2 k2 r2 h2 p2 => q v d H2 (k.trans k2) (by rw [← sub_sub]; exact r2) h2 p2
/-- data without places -/
def Da.flat : Da → Bool
  | .lst _ => false
  | .tup _ => false
  | .dct _ => false
  | .ins _ _ => false
  | .exc _ _ => false
  | _ => true
theorem flat_dat {B B' : List Addr} {H H' : Hp} {v : V} {d : Da} (f : d.flat = true) (h : Dat K B H v d) : Dat K B' H' v d := by
  cases d <;> first | (unfold Dat at h ⊢; exact h) | cases f
/-- a list of the body's own, looked at -/
theorem ev_own {i : Nat} {ds : List Da} (hi : Γ[i]? = some (.own ds)) (h : Ev W te (Γ.set i (.dat (.lst ds))) c P) (hf : ∀ d, P d → d.flat = true) : Ev W te Γ c P := fun H0 B0 B σ H M s hM Q q => by
  obtain ⟨B', s'⟩ := s.freeze hi
  exact h H0 B0 B' σ H M s' hM Q fun v d H' k r hd p => q v d H' k r (flat_dat (hf d p) hd) p
theorem ev_ownD {i : Nat} {ds : List (Key × Da)} (hi : Γ[i]? = some (.ownD ds)) (h : Ev W te (Γ.set i (.dat (.dct ds))) c P) (hf : ∀ d, P d → d.flat = true) : Ev W te Γ c P := fun H0 B0 B σ H M s hM Q q => by
  obtain ⟨B', s'⟩ := s.freezeD hi
  exact h H0 B0 B' σ H M s' hM Q fun v d H' k r hd p => q v d H' k r (flat_dat (hf d p) hd) p
theorem et_own {i : Nat} {ds : List Da} {P : Bool → Prop} (hi : Γ[i]? = some (.own ds)) (h : EvT W tt (Γ.set i (.dat (.lst ds))) c P) : EvT W tt Γ c P := fun H0 B0 B σ H M s hM Q q => by
  obtain ⟨B', s'⟩ := s.freeze hi
  exact h H0 B0 B' σ H M s' hM Q fun b H' k r p => q b H' k r p
theorem et_ownD {i : Nat} {ds : List (Key × Da)} {P : Bool → Prop} (hi : Γ[i]? = some (.ownD ds)) (h : EvT W tt (Γ.set i (.dat (.dct ds))) c P) : EvT W tt Γ c P := fun H0 B0 B σ H M s hM Q q => by
  obtain ⟨B', s'⟩ := s.freezeD hi
  exact h H0 B0 B' σ H M s' hM Q fun b H' k r p => q b H' k r p
end
end WJ
set_option Elab.async false
set_option linter.all false
set_option maxRecDepth 100000
set_option maxHeartbeats 2000000
/-! WjD: what is walked, targets, comprehensions, statements, loops, a def's promise over data -/
namespace WJ
open PySem L2
section
variable {K : PySem.W.Frag} {W : Wd K} {B B0 : List Addr} {H H0 H' : Hp} {M M' : Nat} {σ : L2.St} {Γ : List En}
/-- a new place is barred -/
theorem Sg.bar (s : Sg W H0 B0 B σ Γ H M) {l : Addr} (n : H l = none) (k : Kp W.F H H') (d : W.Dr M' H') (hl' : H' l ≠ none) : Sg W H0 B0 (l :: B) σ Γ H' M' := by
  have s2 := s.keep k d
  refine ⟨⟨d, fun b hb => List.mem_cons_of_mem _ (s.fb b hb), fun b hb => ?_⟩, s2.k0, fun b hb => List.mem_cons_of_mem _ (s.b0 b hb), s.a0, s.f0, s.ln, fun j e' hj => ?_, s.ow, s.on⟩
  · rcases List.mem_cons.mp hb with z | z
    · rw [z]
      exact hl'
    · exact s2.al b z
  · obtain ⟨o2, q2, h2⟩ := s.sl j e' hj
    refine ⟨o2, q2, (h2.put n).mono (k.more fun b hb => List.mem_cons_of_mem _ (s.fb b hb)) fun l' t e2 => ?_⟩
    cases e' with
    | no => cases t
    | dat d => cases t
    | own ds =>
      obtain ⟨l1, x1, e3, _, hx1, _⟩ := h2
      rw [e2] at e3
      cases e3
      rw [hx1, k _ _ (s.outF (i := j) ⟨⟨_, hj, rfl⟩, by rw [q2, e2]⟩) hx1]
    | ownD ds =>
      obtain ⟨l1, x1, e3, _, hx1, _⟩ := h2
      rw [e2] at e3
      cases e3
      rw [hx1, k _ _ (s.outF (i := j) ⟨⟨_, hj, rfl⟩, by rw [q2, e2]⟩) hx1]
    | ownI aI CI ds =>
      obtain ⟨l1, x1, e3, _, hx1, _⟩ := h2
      rw [e2] at e3
      cases e3
      rw [hx1, k _ _ (s.outF (i := j) ⟨⟨_, hj, rfl⟩, by rw [q2, e2]⟩) hx1]
/-- a barred place that is nobody's changes -/
theorem Sg.upd0 (s : Sg W H0 B0 B σ Γ H M) {l : Addr} {o : HO} (hB : l ∈ B) (hF : l ∉ W.F) (h0 : H0 l = none) (hn : ∀ j, ¬ Ow σ Γ j l) : Sg W H0 B0 B σ Γ (upd H l o) M := by
  refine ⟨⟨Wd.out hF s.dr, s.fb, fun b hb => ?_⟩, s.k0.late h0, s.b0, s.a0, s.f0, s.ln, fun j e1 hj => ?_, s.ow, s.on⟩
  · by_cases hbl : b = l
    · rw [hbl, upd_same]
      exact Option.some_ne_none _
    · rw [upd_ne hbl]
      exact s.al b hb
  · obtain ⟨o', ho, hs'⟩ := s.sl j e1 hj
    refine ⟨o', ho, hs'.mono (Kp.mut hB) fun l' t e2 => ?_⟩
    have hne : l' ≠ l := fun z => hn j (by rw [← z]; exact ⟨⟨e1, hj, t⟩, by rw [ho, e2]⟩)
    rw [upd_ne hne]
def wipeE (Γ : List En) : List Nat → List En
  | [] => Γ
  | v :: vs => (wipeE Γ vs).set v .no
theorem Sg.wipe (s : Sg W H0 B0 B σ Γ H M) : ∀ vs : List Nat, Sg W H0 B0 B (L2.wipe σ vs) (wipeE Γ vs) H M
  | [] => s
  | v :: vs => (Sg.wipe s vs).set rfl trivial
theorem Sg.fresh (s : Sg W H0 B0 B σ Γ H M) {l : Addr} (n : H l = none) (j : Nat) : ¬ Ow σ Γ j l := fun ⟨⟨e', g, t⟩, q⟩ => by
  obtain ⟨o2, q2, h2⟩ := s.sl j e' g
  rw [q] at q2
  cases q2
  cases e' with
  | no => cases t
  | dat d => cases t
  | own ds =>
    obtain ⟨l1, x1, e3, hb, _⟩ := h2
    cases e3
    exact s.al _ hb n
  | ownD ds =>
    obtain ⟨l1, x1, e3, hb, _⟩ := h2
    cases e3
    exact s.al _ hb n
  | ownI aI CI ds =>
    obtain ⟨l1, x1, e3, hb, _⟩ := h2
    cases e3
    exact s.al _ hb n
theorem ow_wipe : ∀ {vs : List Nat} {j : Nat} {l : Addr}, Ow (L2.wipe σ vs) (wipeE Γ vs) j l → Ow σ Γ j l
  | [], _, _, h => h
  | v :: vs, j, l, ⟨⟨e, g, t⟩, q⟩ => by
    have g2 : ((wipeE Γ vs).set v .no)[j]? = some e := g
    have q2 : ((L2.wipe σ vs).set v none)[j]? = some (some (.ref l)) := q
    by_cases hj : v = j
    · subst hj
      by_cases hl : v < (wipeE Γ vs).length
      · rw [List.getElem?_set_self hl] at g2
        cases g2
        cases t
      · rw [List.getElem?_eq_none (by simpa using hl)] at g2
        cases g2
    · rw [List.getElem?_set_ne hj] at g2 q2
      exact ow_wipe ⟨⟨e, g2, t⟩, q2⟩
end

theorem Sg.setD {K : PySem.W.Frag} {W : Wd K} {B B0 : List Addr} {H H0 : Hp} {M : Nat} {σ : L2.St} {Γ : List En} (s : Sg W H0 B0 B σ Γ H M) {i : Nat} {v : V} {d : Da} (h : Dat K B H v d) : Sg W H0 B0 B (σ.set i (some v)) (Γ.set i (.dat d)) H M := s.set (e := .dat d) rfl ⟨v, rfl, h⟩
theorem set_wipe_comm {σ : L2.St} (i : Nat) : ∀ vs : List Nat, (L2.wipe σ vs).set i none = L2.wipe (σ.set i none) vs
  | [] => rfl
  | v :: vs => by
    show ((L2.wipe σ vs).set v none).set i none = (L2.wipe (σ.set i none) vs).set v none
    by_cases h : v = i
    · rw [h, List.set_set, ← set_wipe_comm i vs, List.set_set]
    · rw [List.set_comm _ _ h, set_wipe_comm i vs]
theorem wipe_wipe (σ : L2.St) : ∀ vs : List Nat, L2.wipe (L2.wipe σ vs) vs = L2.wipe σ vs
  | [] => rfl
  | v :: vs => by
    show (L2.wipe ((L2.wipe σ vs).set v none) vs).set v none = (L2.wipe σ vs).set v none
    rw [← set_wipe_comm v vs, List.set_set, wipe_wipe σ vs]
/-! ### what is walked -/
section
variable {K : PySem.W.Frag} {W : Wd K} {Γ : List En} {c c1 c2 c' : Nat} {te ta tb tc tl : TE} {tt tu : TT}
theorem src_list {B : List Addr} {H : Hp} {a : Addr} {ds : List Da} (h : Dat K B H (.ref a) (.lst ds)) : Src K B (Itl K a) ds H := fun B' H' m al => by
  have h3 := Dat.mv m _ _ h
  unfold Dat at h3
  obtain ⟨a', xs', e, s, hd2⟩ := h3
  cases e
  refine ⟨fun i hi => ?_, xs', s.sq, by rw [hd2.length]; exact Nat.le_refl _⟩
  have hx : i < xs'.length := by rw [hd2.length]; exact hi
  refine ⟨⟨xs', xs'[i], s.sq, List.getElem?_eq_getElem hx⟩, fun x H2 ⟨e1, y⟩ => ?_⟩
  subst e1
  obtain ⟨d, e3, hd3⟩ := hd2.get (y xs' s.sq)
  exact ⟨Kp.refl, d, e3, hd3⟩
theorem src_tup {B : List Addr} {H : Hp} {a : Addr} {ds : List Da} (h : Dat K B H (.ref a) (.tup ds)) : Src K B (Itt K a) ds H := fun B' H' m al => by
  have h3 := Dat.mv m _ _ h
  unfold Dat at h3
  obtain ⟨a', xs', e, s, hd2⟩ := h3
  cases e
  refine ⟨fun i hi => ?_, xs', s.sq, by rw [hd2.length]; exact Nat.le_refl _⟩
  have hx : i < xs'.length := by rw [hd2.length]; exact hi
  refine ⟨⟨xs', xs'[i], s.sq, List.getElem?_eq_getElem hx⟩, fun x H2 ⟨e1, y⟩ => ?_⟩
  subst e1
  obtain ⟨d, e3, hd3⟩ := hd2.get (y xs' s.sq)
  exact ⟨Kp.refl, d, e3, hd3⟩
/-- lo, lo + 1, .. as data -/
def rngD (lo : Int) (n : Nat) : List Da := (List.range n).map fun (i : Nat) => Da.int (lo + (i : Int))
theorem rngD_len {lo : Int} {n : Nat} : (rngD lo n).length = n := by simp [rngD]
theorem rngD_get {lo : Int} {n i : Nat} (h : i < n) : (rngD lo n)[i]? = some (.int (lo + i)) := by simp [rngD, h]
theorem src_rng {B : List Addr} {H : Hp} {lo : Int} {n : Nat} : Src K B (Itr lo n) (rngD lo n) H := fun B' H' m al => by
  refine ⟨fun i hi => ?_, by rw [rngD_len]; exact Nat.le_refl _⟩
  rw [rngD_len] at hi
  refine ⟨hi, fun x H2 ⟨e1, y⟩ => ?_⟩
  subst e1 y
  exact ⟨Kp.refl, _, rngD_get hi, by unfold Dat; rfl⟩
/-- the signs of a text -/
def signsD (x : Str) : List Da := x.cps.toList.map fun c => Da.str ⟨#[c]⟩
theorem src_str {B : List Addr} {H : Hp} {x : Str} : Src K B (Its x) (signsD x) H := fun B' H' m al => by
  have el : (signsD x).length = x.cps.size := by simp [signsD]
  refine ⟨fun i hi => ?_, by rw [el]; exact Nat.le_refl _⟩
  rw [el] at hi
  refine ⟨hi, fun v H2 ⟨e1, c, e2, e3⟩ => ?_⟩
  subst e1 e3
  refine ⟨Kp.refl, .str ⟨#[c]⟩, ?_, by unfold Dat; rfl⟩
  unfold signsD
  rw [List.getElem?_map, Array.getElem?_toList, e2]
  rfl
theorem ei_list {P : List Da → Prop} (h : Ev W tl Γ c (fun d => ∃ ds, d = .lst ds ∧ P ds)) : Ei W (iList K tl) Γ c P := fun H0 B0 B σ H M s hM R q =>
  h H0 B0 B σ H M s hM _ fun v d H1 k r hd ⟨ds, e, p⟩ => by
    subst e
    have hd0 := hd
    unfold Dat at hd
    obtain ⟨a, xs, rfl, hs, _⟩ := hd
    exact ⟨a, rfl, ⟨xs, hs.sq⟩, q _ ds H1 k r (src_list hd0) p⟩
theorem ei_tup {P : List Da → Prop} (h : Ev W tl Γ c (fun d => ∃ ds, d = .tup ds ∧ P ds)) : Ei W (iTup K tl) Γ c P := fun H0 B0 B σ H M s hM R q =>
  h H0 B0 B σ H M s hM _ fun v d H1 k r hd ⟨ds, e, p⟩ => by
    subst e
    have hd0 := hd
    unfold Dat at hd
    obtain ⟨a, xs, rfl, hs, _⟩ := hd
    exact ⟨a, rfl, ⟨xs, hs.sq⟩, q _ ds H1 k r (src_tup hd0) p⟩
theorem ei_str {P : List Da → Prop} (h : Ev W tl Γ c (fun d => ∃ x, d = .str x ∧ P (signsD x))) : Ei W (iStr tl) Γ c P := fun H0 B0 B σ H M s hM R q =>
  h H0 B0 B σ H M s hM _ fun v d H1 k r hd ⟨x, e, p⟩ => by
    subst e
    unfold Dat at hd
    exact ⟨x, hd, q _ _ H1 k r src_str p⟩
theorem ei_rng1 {P : List Da → Prop} {ta : TA} (h : EvA W ta Γ c (fun ds => ∃ n : Int, ds = [.int n] ∧ (-(2 ^ 62) ≤ n ∧ n < 2 ^ 62) ∧ P (rngD 0 n.toNat))) : Ei W (iRng1 ta) Γ c P := fun H0 B0 B σ H M s hM R q =>
  h H0 B0 B σ H M s hM _ fun vs ds H1 k r hd ⟨n, e, hn, p⟩ => by
    subst e
    unfold Dats at hd
    obtain ⟨v, t, rfl, hv, ht⟩ := hd
    unfold Dat at hv
    unfold Dats at ht
    subst hv ht
    exact ⟨n, rfl, hn.1, hn.2, q _ _ H1 k r src_rng p⟩
theorem ei_rng2 {P : List Da → Prop} {ta : TA} (h : EvA W ta Γ c (fun ds => ∃ m n : Int, ds = [.int m, .int n] ∧ (-(2 ^ 62) ≤ m ∧ m < 2 ^ 62 ∧ -(2 ^ 62) ≤ n ∧ n < 2 ^ 62) ∧ P (rngD m (n - m).toNat))) : Ei W (iRng2 ta) Γ c P := fun H0 B0 B σ H M s hM R q =>
  h H0 B0 B σ H M s hM _ fun vs ds H1 k r hd ⟨m, n, e, hn, p⟩ => by
    subst e
    unfold Dats at hd
    obtain ⟨v, t, rfl, hv, ht⟩ := hd
    unfold Dats at ht
    obtain ⟨v2, t2, rfl, hv2, ht2⟩ := ht
    unfold Dat at hv hv2
    unfold Dats at ht2
    subst hv hv2 ht2
    exact ⟨m, n, rfl, hn, q _ _ H1 k r src_rng p⟩
theorem Ei.weak {wi : TI} {P P' : List Da → Prop} (h : Ei W wi Γ c P) (hp : ∀ ds, P ds → P' ds) : Ei W wi Γ c P' := fun H0 B0 B σ H M s hM R q =>
  h H0 B0 B σ H M s hM R fun J ds H' k r hs p => q J ds H' k r hs (hp ds p)

/-! ### targets -/
def Eg (W : Wd K) (g : TG) (vs : List Nat) (d : Da) (Γ Γ' : List En) : Prop :=
  ∀ (H0 : Hp) (B0 B : List Addr) (σ : L2.St) (H : Hp) (M : Nat) (v : V), Sg W H0 B0 B σ Γ H M → Dat K B H v d → ∀ Q : L2.St → Hp → Prop, (∀ σ', Sg W H0 B0 B σ' Γ' H M → L2.wipe σ' vs = L2.wipe σ vs → Q σ' H) → g v σ H Q
theorem eg_name {i : Nat} {d : Da} : Eg W (gName i) [i] d Γ (Γ.set i (.dat d)) := fun H0 B0 B σ H M v s hd Q q =>
  q _ (s.set rfl ⟨v, rfl, hd⟩) (by show (σ.set i (some v)).set i none = σ.set i none; rw [List.set_set])
theorem wipe_set {σ : L2.St} {o : Option V} : ∀ (vs : List Nat) (i : Nat), i ∈ vs → L2.wipe (σ.set i o) vs = L2.wipe σ vs
  | [], _, h => nomatch h
  | v :: vs, i, h => by
    show (L2.wipe (σ.set i o) vs).set v none = (L2.wipe σ vs).set v none
    by_cases hi : i ∈ vs
    · rw [wipe_set vs i hi]
    · have e : i = v := by
        rcases List.mem_cons.mp h with z | z
        · exact z
        · exact absurd z hi
      subst e
      have sw : ∀ ws : List Nat, i ∉ ws → L2.wipe (σ.set i o) ws = (L2.wipe σ ws).set i o := fun ws hw => by
        induction ws with
        | nil => rfl
        | cons w ws ih =>
          show (L2.wipe (σ.set i o) ws).set w none = ((L2.wipe σ ws).set w none).set i o
          rw [ih (fun z => hw (List.mem_cons_of_mem _ z)), List.set_comm _ _ (fun z => hw (by rw [z]; exact List.mem_cons_self))]
      rw [sw vs hi, List.set_set]
theorem eg_pair {i j : Nat} {d1 d2 : Da} : Eg W (gTup K 2 (gCons (gName i) (gCons (gName j) gNil))) [i, j] (.tup [d1, d2]) Γ ((Γ.set i (.dat d1)).set j (.dat d2)) := fun H0 B0 B σ H M v s hd Q q => by
  unfold Dat at hd
  obtain ⟨a, xs, rfl, hs, hx⟩ := hd
  have hl := hx.length
  unfold Dats at hx
  obtain ⟨v1, t, rfl, h1, hx⟩ := hx
  unfold Dats at hx
  obtain ⟨v2, t2, rfl, h2, hx⟩ := hx
  unfold Dats at hx
  subst hx
  refine ⟨a, _, rfl, hs.sq, rfl, v1, _, rfl, v2, _, rfl, rfl, ?_⟩
  refine q _ ((s.setD h1).setD h2) ?_
  rw [wipe_set _ _ (by simp), wipe_set _ _ (by simp)]
theorem eg_three {i j k : Nat} {d1 d2 d3 : Da} : Eg W (gTup K 3 (gCons (gName i) (gCons (gName j) (gCons (gName k) gNil)))) [i, j, k] (.tup [d1, d2, d3]) Γ (((Γ.set i (.dat d1)).set j (.dat d2)).set k (.dat d3)) := fun H0 B0 B σ H M v s hd Q q => by
  unfold Dat at hd
  obtain ⟨a, xs, rfl, hs, hx⟩ := hd
  have hl := hx.length
  unfold Dats at hx
  obtain ⟨v1, t, rfl, h1, hx⟩ := hx
  unfold Dats at hx
  obtain ⟨v2, t2, rfl, h2, hx⟩ := hx
  unfold Dats at hx
  obtain ⟨v3, t3, rfl, h3, hx⟩ := hx
  unfold Dats at hx
  subst hx
  refine ⟨a, _, rfl, hs.sq, rfl, v1, _, rfl, v2, _, rfl, v3, _, rfl, rfl, ?_⟩
  refine q _ (((s.setD h1).setD h2).setD h3) ?_
  rw [wipe_set _ _ (by simp), wipe_set _ _ (by simp), wipe_set _ _ (by simp)]

/-! ### comprehensions -/
theorem mul_step {i n cb : Nat} (h : i < n) : i * cb + cb ≤ n * cb := by
  have := Nat.mul_le_mul_right cb (show i + 1 ≤ n from h)
  rw [Nat.add_mul, Nat.one_mul] at this
  exact this
theorem mul_mono {i n cb : Nat} (h : i ≤ n) : i * cb ≤ n * cb := Nat.mul_le_mul_right cb h
/-- one turn of a comprehension: the items ds, the i-th one d, acc so far -/
def Turn1 (W : Wd K) (g : TG) (tt : TT) (te : TE) (vs : List Nat) (Γ : List En) (cb : Nat) (d : Da) (Ry : Da → Prop) (Rn : Prop) : Prop :=
  ∃ (Γ' : List En) (Pt : Bool → Prop) (ct ce : Nat), Eg W g vs d (wipeE Γ vs) Γ' ∧ ct + ce ≤ cb ∧ EvT W tt Γ' ct Pt ∧ (Pt true → Ev W te Γ' ce Ry) ∧ (Pt false → Rn)
/-- a comprehension once its source stands -/
theorem lc_run {g : TG} {vs : List Nat} {c0 cb n : Nat} {Pi : List Da → Prop} {R : List Da → Nat → List Da → Prop} (h0 : ∀ ds, Pi ds → R ds 0 [])
    (hs : ∀ ds i d acc, Pi ds → ds[i]? = some d → R ds i acc → Turn1 W g tt te vs Γ cb d (fun e => R ds (i + 1) (acc ++ [e])) (R ds (i + 1) acc)) (hn : ∀ ds, Pi ds → ds.length ≤ n) (hz : n ≤ 100000)
    (H0 : Hp) (B0 B : List Addr) (σ : L2.St) (H : Hp) (M : Nat) (s : Sg W H0 B0 B σ Γ H M) (hM : c0 + n * cb ≤ M) (Q : VK) (q : ∀ l xs ds H', H l = none → Kp W.F H H' → W.Dr (M - (c0 + n * cb)) H' → H' l = some (.lst xs) → Dats K (l :: B) H' xs ds → (∃ es, Pi es ∧ R es es.length ds) → Q (.ref l) H')
    (J : It) (ds : List Da) (H1 : Hp) (k1 : Kp W.F H H1) (r1 : W.Dr (M - c0) H1) (hJ : Src K B J ds H1) (pi : Pi ds) : tLc (fun _ H R => R J H) g tt te vs σ H1 Q := by
    intro D nD
    have s1 := s.keep k1 r1
    have nDH : H D = none := k1.backB (fun z => s1.al D (s.fb D z) nD) nD
    have D0 : H0 D = none := s.k0.backB (fun z => s.al D (s.fb D z) nDH) nDH
    have DF : D ∉ W.F := fun z => s1.al D (s.fb D z) nD
    have hlen := hn ds pi
    have noOw : ∀ j, ¬ Ow (L2.wipe σ vs) (wipeE Γ vs) j D := fun j z => s1.fresh nD j (ow_wipe z)
    refine ⟨fun i m H2 => m = ds.length - i ∧ i ≤ ds.length ∧ ∃ acc xs, Sg W H0 B0 (D :: B) (L2.wipe σ vs) (wipeE Γ vs) H2 (M - c0 - i * cb) ∧ Mv B H1 (D :: B) H2 ∧ Kp W.F H1 H2 ∧ H2 D = some (.lst xs) ∧ Dats K (D :: B) H2 xs acc ∧ R ds i acc ∧ acc.length ≤ i, ⟨_, rfl, Nat.zero_le _, [], [], ?_, ?_, Kp.new nD, upd_same, Dats.nil, h0 ds pi, Nat.le_refl _⟩, ?_⟩
    · rw [Nat.zero_mul]
      exact (s1.wipe vs).bar nD (Kp.new nD) (Wd.new nD r1) (by rw [upd_same]; exact Option.some_ne_none _)
    · exact ⟨put_bar nD, Kp.new nD⟩
    · rintro i m H2 ⟨rfl, hi2, acc, xs, s2, m2, k2, hD, hacc, hR, hal⟩
      have hsrc := hJ (D :: B) H2 m2 s2.al
      by_cases hlt : i < ds.length
      · refine Or.inr ⟨(hsrc.1 i hlt).1, fun H3 => ∃ acc xs, Sg W H0 B0 (D :: B) (L2.wipe σ vs) (wipeE Γ vs) H3 (M - c0 - (i + 1) * cb) ∧ Mv B H1 (D :: B) H3 ∧ Kp W.F H1 H3 ∧ H3 D = some (.lst xs) ∧ Dats K (D :: B) H3 xs acc ∧ R ds (i + 1) acc ∧ acc.length ≤ i + 1, fun H3 h3 => ⟨ds.length - (i + 1), by omega, rfl, hlt, h3⟩, fun x H3 hy => ?_⟩
        obtain ⟨k3, d, ed, hd3⟩ := (hsrc.1 i hlt).2 x H3 hy
        have st := mul_step (cb := cb) (Nat.lt_of_lt_of_le hlt hlen)
        have st2 : (i + 1) * cb = i * cb + cb := by rw [Nat.add_mul, Nat.one_mul]
        have r3 : W.Dr (M - c0 - i * cb) H3 := W.pres (fun b hb => by
          cases e : H2 b with
          | none => exact absurd e (W.alive s2.dr b hb)
          | some o => rw [k3 b o (fun z => nomatch z) e]) s2.dr
        have s3 := s2.keep (k3.all) r3
        obtain ⟨Γ', Pt, ct, ce, hg, hce, hT, hE, hN⟩ := hs ds i d acc pi ed hR
        refine hg H0 B0 (D :: B) _ H3 _ x s3 hd3 _ fun σ' s4 hw => ⟨by
          rw [hw]
          have hww : ∀ us : List Nat, L2.wipe (L2.wipe σ vs) us = L2.wipe (L2.wipe σ vs) us := fun _ => rfl
          exact wipe_wipe σ vs, ?_⟩
        refine hT H0 B0 (D :: B) σ' H3 _ s4 (by omega) _ fun b H4 k4 r4 pt => ?_
        have hD4 : H4 D = some (.lst xs) := k4 D _ DF (k3 D _ (fun z => nomatch z) hD)
        have m4 : Mv B H1 (D :: B) H4 := m2.trans (Mv.of ((Kp.all k3).trans (s3.toBk.kp k4)))
        have hacc4 : Dats K (D :: B) H4 xs acc := Dats.mono ((Kp.all k3).trans (s3.toBk.kp k4)) acc xs hacc
        have hw4 : ∀ (H5 : Hp) (M5 : Nat), Kp W.F H4 H5 → W.Dr M5 H5 → Sg W H0 B0 (D :: B) (L2.wipe σ vs) (wipeE Γ vs) H5 M5 := fun H5 M5 k5 r5 => (s3.keep k4 r4).keep k5 r5
        cases b with
        | false =>
          show ∃ acc xs, _
          exact ⟨acc, xs, (hw4 H4 _ Kp.refl (W.less r4 (by omega))), m4, (k2.trans k3.all).trans k4, hD4, hacc4, hN pt, by omega⟩
        | true =>
          show te σ' H4 _
          refine hE pt H0 B0 (D :: B) σ' H4 _ (s4.keep k4 r4) (by omega) _ fun y e H5 k5 r5 hy5 hR5 => ?_
          have hD5 : H5 D = some (.lst xs) := k5 D _ DF hD4
          have kB : Kp (D :: B) H4 H5 := (s3.keep k4 r4).toBk.kp k5
          refine ⟨xs, hD5, by rw [hacc.length]; exact Nat.lt_of_lt_of_le (show acc.length < 100000 by omega) (by decide), acc ++ [e], xs ++ [y], ?_, m4.trans (Mv.of (kB.trans (Kp.mut List.mem_cons_self))), (((k2.trans k3.all).trans k4).trans k5).late nD, upd_same, ?_, hR5, by rw [List.length_append]; simpa using hal⟩
          · exact (hw4 H5 _ k5 (W.less r5 (by omega))).upd0 List.mem_cons_self DF D0 noOw
          · exact Dats.mono (Kp.mut List.mem_cons_self) _ _ ((Dats.mono kB acc xs hacc4).append (Dats.one hy5))
      · have e : i = ds.length := by omega
        subst e
        have := mul_mono (cb := cb) hlen
        exact Or.inl ⟨hsrc.2, q D xs acc H2 nDH (k1.trans k2) (W.less s2.dr (by omega)) hD hacc ⟨ds, pi, hR⟩⟩
theorem evF_lc {wi : TI} {g : TG} {vs : List Nat} {c0 cb n : Nat} {Pi : List Da → Prop} {R : List Da → Nat → List Da → Prop} (hi : Ei W wi Γ c0 Pi) (h0 : ∀ ds, Pi ds → R ds 0 [])
    (hs : ∀ ds i d acc, Pi ds → ds[i]? = some d → R ds i acc → Turn1 W g tt te vs Γ cb d (fun e => R ds (i + 1) (acc ++ [e])) (R ds (i + 1) acc)) (hn : ∀ ds, Pi ds → ds.length ≤ n) (hz : n ≤ 100000) :
    EvF W (tLc wi g tt te vs) Γ (c0 + n * cb) (fun acc => ∃ ds, Pi ds ∧ R ds ds.length acc) := fun H0 B0 B σ H M s hM Q q =>
  hi H0 B0 B σ H M s (by omega) _ fun J ds H1 k1 r1 hJ pi => lc_run h0 hs hn hz H0 B0 B σ H M s hM Q q J ds H1 k1 r1 hJ pi
end
end WJ
set_option Elab.async false
set_option linter.all false
set_option maxRecDepth 100000
set_option maxHeartbeats 2000000
/-! WjE: statements over data, loops, a def's promise over data -/
namespace WJ
open PySem L2
/-- how a block may end: it goes on, hands back, breaks, continues -/
structure Po where
  nx : List En → Prop
  rt : Da → Prop
  bk : List En → Prop := fun _ => False
  ct : List En → Prop := fun _ => False
section
variable {K : PySem.W.Frag}
def Es (W : Wd K) (t : TS) (Γ : List En) (c : Nat) (p : Po) : Prop :=
  ∀ (H0 : Hp) (B0 B : List Addr) (σ : L2.St) (H : Hp) (M : Nat) (D : Ends), Sg W H0 B0 B σ Γ H M → c ≤ M →
    (∀ B' σ' Γ' H', Sg W H0 B0 B' σ' Γ' H' (M - c) → Mv B H B' H' → p.nx Γ' → D.nx σ' H') →
    (∀ v d H', Kp W.F H0 H' → W.Dr (M - c) H' → Dat K B0 H' v d → p.rt d → D.rt v H') →
    (∀ B' σ' Γ' H', Sg W H0 B0 B' σ' Γ' H' (M - c) → Mv B H B' H' → p.bk Γ' → D.bk σ' H') →
    (∀ B' σ' Γ' H', Sg W H0 B0 B' σ' Γ' H' (M - c) → Mv B H B' H' → p.ct Γ' → D.ct σ' H') → t D σ H
end
section
variable {K : PySem.W.Frag} {W : Wd K} {Γ : List En} {c c1 c2 c' : Nat} {P : Da → Prop} {te ta tb : TE} {tt : TT} {t u : TS} {p : Po}
theorem Es.weak (h : Es W t Γ c p) (hc : c ≤ c') : Es W t Γ c' p := fun H0 B0 B σ H M D s hM a b e f =>
  h H0 B0 B σ H M D s (Nat.le_trans hc hM) (fun B' σ' Γ' H' s' => a B' σ' Γ' H' (s'.less (by omega))) (fun v d H' k r => b v d H' k (W.less r (by omega))) (fun B' σ' Γ' H' s' => e B' σ' Γ' H' (s'.less (by omega))) (fun B' σ' Γ' H' s' => f B' σ' Γ' H' (s'.less (by omega)))
theorem es_seq {N : List En → Prop} (h1 : Es W t Γ c1 { p with nx := N }) (h2 : ∀ Γ', N Γ' → Es W u Γ' c2 p) : Es W (tSeq t u) Γ (c1 + c2) p := fun H0 B0 B σ H M D s hM a b e f =>
  h1 H0 B0 B σ H M { D with nx := u D } s (by omega)
    (fun B1 σ1 Γ1 H1 s1 m1 n1 => h2 Γ1 n1 H0 B0 B1 σ1 H1 _ D s1 (by omega) (fun B' σ' Γ' H' s' m' => a B' σ' Γ' H' (by rw [← sub_sub]; exact s') (m1.trans m')) (fun v d H' k r => b v d H' k (by rw [← sub_sub]; exact r))
      (fun B' σ' Γ' H' s' m' => e B' σ' Γ' H' (by rw [← sub_sub]; exact s') (m1.trans m')) (fun B' σ' Γ' H' s' m' => f B' σ' Γ' H' (by rw [← sub_sub]; exact s') (m1.trans m')))
    (fun v d H' k r => b v d H' k (W.less r (by omega))) (fun B' σ' Γ' H' s' => e B' σ' Γ' H' (s'.less (by omega))) (fun B' σ' Γ' H' s' => f B' σ' Γ' H' (s'.less (by omega)))
theorem es_next (h : p.nx Γ) : Es W tNext Γ 0 p := fun H0 B0 B σ H M D s hM a b e f => a B σ Γ H s Mv.refl h
theorem es_break (h : p.bk Γ) : Es W tBreak Γ 0 p := fun H0 B0 B σ H M D s hM a b e f => e B σ Γ H s Mv.refl h
theorem es_cont (h : p.ct Γ) : Es W tCont Γ 0 p := fun H0 B0 B σ H M D s hM a b e f => f B σ Γ H s Mv.refl h
theorem es_ret (h : Ev W te Γ c P) (hp : ∀ d, P d → p.rt d) : Es W (tRet te) Γ c p := fun H0 B0 B σ H M D s hM a b e f =>
  h H0 B0 B σ H M s hM _ fun v d H' k r hd q => b v d H' (s.k0.trans k) r (Dat.sub s.b0 d v hd) (hp d q)
theorem es_retN (h : p.rt .non) : Es W tRetN Γ 0 p := fun H0 B0 B σ H M D s hM a b e f => b _ .non H s.k0 s.dr (by unfold Dat; rfl) h
theorem es_drop (h : Ev W te Γ c P) (hp : p.nx Γ) : Es W (tDrop te) Γ c p := fun H0 B0 B σ H M D s hM a b e f =>
  h H0 B0 B σ H M s hM _ fun v d H' k r hd q => a B σ Γ H' (s.keep k r) (Mv.of (s.toBk.kp k)) hp
theorem es_asg {i : Nat} (h : Ev W te Γ c P) (hp : ∀ d, P d → p.nx (Γ.set i (.dat d))) : Es W (tAsg te (gName i)) Γ c p := fun H0 B0 B σ H M D s hM a b e f =>
  h H0 B0 B σ H M s hM _ fun v d H' k r hd q => a B _ _ H' ((s.keep k r).setD hd) (Mv.of (s.toBk.kp k)) (hp d q)
theorem es_asgG {g : TG} {vs : List Nat} (h : Ev W te Γ c P) (hg : ∀ d, P d → ∃ Γ', Eg W g vs d Γ Γ' ∧ p.nx Γ') : Es W (tAsg te g) Γ c p := fun H0 B0 B σ H M D s hM a b e f =>
  h H0 B0 B σ H M s hM _ fun v d H' k r hd q => by
    obtain ⟨Γ', h1, h2⟩ := hg d q
    exact h1 H0 B0 B σ H' _ v (s.keep k r) hd _ fun σ' s' _ => a B σ' Γ' H' s' (Mv.of (s.toBk.kp k)) h2
theorem es_asgF {i : Nat} {P : List Da → Prop} (h : EvF W te Γ c P) (hp : ∀ ds, P ds → p.nx (Γ.set i (.own ds))) : Es W (tAsg te (gName i)) Γ c p := fun H0 B0 B σ H M D s hM a b e f =>
  h H0 B0 B σ H M s hM _ fun l xs ds H' n k r hl hd q => a (l :: B) _ _ H' (s.setOwn n k r rfl (show Sl K (l :: B) H' (some (.ref l)) (.own ds) from ⟨l, xs, rfl, List.mem_cons_self, hl, hd⟩) (by rw [hl]; exact Option.some_ne_none _)) ⟨put_bar n, s.toBk.kp k⟩ (hp ds q)
theorem es_asgD {i : Nat} {P : List (Key × Da) → Prop} (h : EvG W te Γ c P) (hp : ∀ ds, P ds → p.nx (Γ.set i (.ownD ds))) : Es W (tAsg te (gName i)) Γ c p := fun H0 B0 B σ H M D s hM a b e f =>
  h H0 B0 B σ H M s hM _ fun l xs ds H' n k r hl hd q => a (l :: B) _ _ H' (s.setOwn n k r rfl (show Sl K (l :: B) H' (some (.ref l)) (.ownD ds) from ⟨l, xs, rfl, List.mem_cons_self, hl, hd⟩) (by rw [hl]; exact Option.some_ne_none _)) ⟨put_bar n, s.toBk.kp k⟩ (hp ds q)
theorem es_freeze {i : Nat} {ds : List Da} (hi : Γ[i]? = some (.own ds)) (h : Es W t (Γ.set i (.dat (.lst ds))) c p) : Es W t Γ c p := fun H0 B0 B σ H M D s hM a b e f => by
  have q := s.freeze hi
  obtain ⟨B', s', hb⟩ : ∃ B', Sg W H0 B0 B' σ (Γ.set i (.dat (.lst ds))) H M ∧ ∀ x ∈ B', x ∈ B := s.freezeS hi
  have m : Mv B H B' H := Mv.sub Mv.refl hb
  exact h H0 B0 B' σ H M D s' hM (fun B1 σ1 Γ1 H1 s1 m1 => a B1 σ1 Γ1 H1 s1 (m.trans m1)) b (fun B1 σ1 Γ1 H1 s1 m1 => e B1 σ1 Γ1 H1 s1 (m.trans m1)) (fun B1 σ1 Γ1 H1 s1 m1 => f B1 σ1 Γ1 H1 s1 (m.trans m1))
theorem es_freezeD {i : Nat} {ds : List (Key × Da)} (hi : Γ[i]? = some (.ownD ds)) (h : Es W t (Γ.set i (.dat (.dct ds))) c p) : Es W t Γ c p := fun H0 B0 B σ H M D s hM a b e f => by
  obtain ⟨B', s', hb⟩ : ∃ B', Sg W H0 B0 B' σ (Γ.set i (.dat (.dct ds))) H M ∧ ∀ x ∈ B', x ∈ B := s.freezeDS hi
  have m : Mv B H B' H := Mv.sub Mv.refl hb
  exact h H0 B0 B' σ H M D s' hM (fun B1 σ1 Γ1 H1 s1 m1 => a B1 σ1 Γ1 H1 s1 (m.trans m1)) b (fun B1 σ1 Γ1 H1 s1 m1 => e B1 σ1 Γ1 H1 s1 (m.trans m1)) (fun B1 σ1 Γ1 H1 s1 m1 => f B1 σ1 Γ1 H1 s1 (m.trans m1))
theorem es_freezeI {i : Nat} {aI CI : Addr} {ds : List (Str × Da)} (hi : Γ[i]? = some (.ownI aI CI ds)) (h : Es W t (Γ.set i (.dat (.ins CI ds))) c p) : Es W t Γ c p := fun H0 B0 B σ H M D s hM a b e f => by
  obtain ⟨B', s', hb⟩ : ∃ B', Sg W H0 B0 B' σ (Γ.set i (.dat (.ins CI ds))) H M ∧ ∀ x ∈ B', x ∈ B := s.freezeIS hi
  have m : Mv B H B' H := Mv.sub Mv.refl hb
  exact h H0 B0 B' σ H M D s' hM (fun B1 σ1 Γ1 H1 s1 m1 => a B1 σ1 Γ1 H1 s1 (m.trans m1)) b (fun B1 σ1 Γ1 H1 s1 m1 => e B1 σ1 Γ1 H1 s1 (m.trans m1)) (fun B1 σ1 Γ1 H1 s1 m1 => f B1 σ1 Γ1 H1 s1 (m.trans m1))
theorem es_if {Pt : Bool → Prop} (h : EvT W tt Γ c1 Pt) (h1 : Pt true → Es W t Γ c2 p) (h2 : Pt false → Es W u Γ c2 p) : Es W (tIfS tt t u) Γ (c1 + c2) p := fun H0 B0 B σ H M D s hM a b e f =>
  h H0 B0 B σ H M s (by omega) _ fun bb H1 k1 r1 p1 => by
    have m1 : Mv B H B H1 := Mv.of (s.toBk.kp k1)
    cases bb with
    | true =>
      show t D σ H1
      exact h1 p1 H0 B0 B σ H1 _ D (s.keep k1 r1) (by omega) (fun B' σ' Γ' H' s' m' => a B' σ' Γ' H' (by rw [← sub_sub]; exact s') (m1.trans m')) (fun v d H' k r => b v d H' k (by rw [← sub_sub]; exact r))
        (fun B' σ' Γ' H' s' m' => e B' σ' Γ' H' (by rw [← sub_sub]; exact s') (m1.trans m')) (fun B' σ' Γ' H' s' m' => f B' σ' Γ' H' (by rw [← sub_sub]; exact s') (m1.trans m'))
    | false =>
      show u D σ H1
      exact h2 p1 H0 B0 B σ H1 _ D (s.keep k1 r1) (by omega) (fun B' σ' Γ' H' s' m' => a B' σ' Γ' H' (by rw [← sub_sub]; exact s') (m1.trans m')) (fun v d H' k r => b v d H' k (by rw [← sub_sub]; exact r))
        (fun B' σ' Γ' H' s' m' => e B' σ' Γ' H' (by rw [← sub_sub]; exact s') (m1.trans m')) (fun B' σ' Γ' H' s' m' => f B' σ' Γ' H' (by rw [← sub_sub]; exact s') (m1.trans m'))
/-- a, b = e1, e2 -/
theorem es_par {i j : Nat} {ta : TA} {P : List Da → Prop} (h : EvA W ta Γ c P) (hp : ∀ ds, P ds → ∃ d1 d2, ds = [d1, d2] ∧ p.nx ((Γ.set i (.dat d1)).set j (.dat d2))) : Es W (tPar i j ta) Γ c p := fun H0 B0 B σ H M D s hM a b e f =>
  h H0 B0 B σ H M s hM _ fun vs ds H' k r hd q => by
    obtain ⟨d1, d2, rfl, hn⟩ := hp ds q
    unfold Dats at hd
    obtain ⟨v1, t, rfl, h1, hx⟩ := hd
    unfold Dats at hx
    obtain ⟨v2, t2, rfl, h2, hx⟩ := hx
    unfold Dats at hx
    subst hx
    exact ⟨v1, v2, rfl, a B _ _ H' (((s.keep k r).setD h1).setD h2) (Mv.of (s.toBk.kp k)) hn⟩
/-! ### the body's own lists and dicts -/
theorem es_append {i : Nat} {ds : List Da} (hi : Γ[i]? = some (.own ds)) (h : Ev W te Γ c P) (hl : ds.length < 100000) (hp : ∀ d, P d → p.nx (Γ.set i (.own (ds ++ [d])))) : Es W (tDrop (tBM K "list" rAppend (tVar i) (tCons te tNil))) Γ c p := fun H0 B0 B σ H M D s hM a b e f => by
  obtain ⟨o, ho, l, xs, rfl, hB, hx, hd⟩ := s.sl i _ hi
  have hO : Ow σ Γ i l := ⟨⟨_, hi, rfl⟩, ho⟩
  refine ⟨.ref l, ho, Or.inl ⟨rfl, xs, Or.inl (Or.inl hx)⟩, ?_⟩
  refine h H0 B0 B σ H M s hM _ fun v d H1 k r hv q => ?_
  have hx1 : H1 l = some (.lst xs) := k l _ (s.outF hO) hx
  have s1 := s.keep k r
  refine ⟨l, xs, v, rfl, rfl, hx1, by rw [hd.length]; exact Nat.lt_of_lt_of_le hl (by decide), ?_⟩
  refine a B σ _ _ (s1.change hi rfl ho (e' := .own (ds ++ [d])) rfl ⟨l, xs ++ [v], rfl, hB, upd_same, Dats.mono (Kp.mut hB) _ _ ((Dats.mono (s.toBk.kp k) ds xs hd).append (Dats.one hv))⟩) (Mv.of ((s.toBk.kp k).trans (Kp.mut hB))) (hp d q)
def putD (es : List (Key × Da)) (k : Key) (d : Da) : List (Key × Da) := if es.any (fun kv => decide (kv.1 = k)) then es.map (fun kv => if kv.1 = k then (kv.1, d) else kv) else es ++ [(k, d)]
theorem Datk.keys {B : List Addr} {H : Hp} : ∀ {es : List (Key × Da)} {kvs : List (Key × V)}, Datk K B H kvs es → kvs.map (·.1) = es.map (·.1)
  | [], _, h => by
    unfold Datk at h
    rw [h]; rfl
  | (k, d) :: es, _, h => by
    unfold Datk at h
    obtain ⟨v, r, rfl, _, t⟩ := h
    rw [List.map_cons, List.map_cons, Datk.keys t]
theorem Datk.cons {B : List Addr} {H : Hp} {k : Key} {v : V} {d : Da} {kvs : List (Key × V)} {es : List (Key × Da)} (h : Dat K B H v d) (t : Datk K B H kvs es) : Datk K B H ((k, v) :: kvs) ((k, d) :: es) := by
  unfold Datk
  exact ⟨v, kvs, rfl, h, t⟩
theorem Datk.nil {B : List Addr} {H : Hp} : Datk K B H [] [] := by unfold Datk; rfl
theorem Datk.snoc {B : List Addr} {H : Hp} {k : Key} {v : V} {d : Da} (hv : Dat K B H v d) : ∀ {es : List (Key × Da)} {kvs : List (Key × V)}, Datk K B H kvs es → Datk K B H (kvs ++ [(k, v)]) (es ++ [(k, d)])
  | [], _, h => by
    unfold Datk at h
    rw [h]
    exact .cons hv .nil
  | (q, e) :: es, _, h => by
    unfold Datk at h
    obtain ⟨w, r, rfl, h1, t⟩ := h
    exact .cons h1 (Datk.snoc hv t)
theorem Datk.length {B : List Addr} {H : Hp} {es : List (Key × Da)} {kvs : List (Key × V)} (h : Datk K B H kvs es) : kvs.length = es.length := by
  have := congrArg List.length h.keys
  simpa using this
end
end WJ
set_option Elab.async false
set_option linter.all false
set_option maxRecDepth 100000
set_option maxHeartbeats 2000000
/-! WjF: dicts of the body's own, loops, a def's promise over data -/
namespace WJ
open PySem L2
section
variable {K : PySem.W.Frag} {W : Wd K} {Γ : List En} {c c1 c2 c3 c' : Nat} {P : Da → Prop} {te ta tb td ty tv : TE} {tt : TT} {t u : TS} {p : Po}
/-- what a dict of data holds -/
def valD (es : List (Key × Da)) (k : Key) : Option Da := (es.find? fun kv => decide (kv.1 = k)).map (·.2)
theorem Datk.val {B : List Addr} {H : Hp} (k : Key) : ∀ {es : List (Key × Da)} {kvs : List (Key × V)}, Datk K B H kvs es → (valD es k = none ∧ valV kvs k = none) ∨ ∃ v d, valD es k = some d ∧ valV kvs k = some v ∧ Dat K B H v d
  | [], _, h => by
    unfold Datk at h
    rw [h]
    exact Or.inl ⟨rfl, rfl⟩
  | (q, e) :: es, _, h => by
    unfold Datk at h
    obtain ⟨w, r, rfl, h1, t⟩ := h
    by_cases hq : q = k
    · refine Or.inr ⟨w, e, ?_, valV_pos hq, h1⟩
      simp [valD, List.find?_cons, hq]
    · have e1 : valD ((q, e) :: es) k = valD es k := by simp [valD, List.find?_cons, hq]
      rw [e1, valV_neg hq]
      exact Datk.val k t
theorem Datk.any {B : List Addr} {H : Hp} (k : Key) {es : List (Key × Da)} {kvs : List (Key × V)} (h : Datk K B H kvs es) : (kvs.any fun kv => decide (kv.1 = k)) = es.any fun kv => decide (kv.1 = k) := by
  have e := h.keys
  have e1 : (kvs.any fun kv => decide (kv.1 = k)) = (kvs.map (·.1)).any fun q => decide (q = k) := by simp [List.any_map]; rfl
  have e2 : (es.any fun kv => decide (kv.1 = k)) = (es.map (·.1)).any fun q => decide (q = k) := by simp [List.any_map]; rfl
  rw [e1, e2, e]
theorem Datk.over {B : List Addr} {H : Hp} {k : Key} {v : V} {d : Da} (hv : Dat K B H v d) : ∀ {es : List (Key × Da)} {kvs : List (Key × V)}, Datk K B H kvs es →
    Datk K B H (kvs.map fun kv => if kv.1 = k then (kv.1, v) else kv) (es.map fun kv => if kv.1 = k then (kv.1, d) else kv)
  | [], _, h => by
    unfold Datk at h
    rw [h]
    exact .nil
  | (q, e) :: es, _, h => by
    unfold Datk at h
    obtain ⟨w, r, rfl, h1, t⟩ := h
    rw [List.map_cons, List.map_cons]
    by_cases hq : q = k
    · rw [if_pos hq, if_pos hq]
      exact .cons hv (Datk.over hv t)
    · rw [if_neg hq, if_neg hq]
      exact .cons h1 (Datk.over hv t)
theorem Datk.putK {B : List Addr} {H : Hp} {k : Key} {v : V} {d : Da} {es : List (Key × Da)} {kvs : List (Key × V)} (hv : Dat K B H v d) (h : Datk K B H kvs es) : Datk K B H (L2.putK kvs k v) (putD es k d) := by
  unfold L2.putK putD
  rw [h.any k]
  by_cases q : (es.any fun kv => decide (kv.1 = k)) = true
  · rw [if_pos q, if_pos q]
    exact h.over hv
  · rw [if_neg q, if_neg q]
    exact h.snoc hv
/-- a key as data -/
def keyD : Key → Da
  | .inl i => .int i
  | .inr x => .str x
theorem keyD_dat {B : List Addr} {H : Hp} {v : V} {k : Key} (h : Dat K B H v (keyD k)) : v = kV k := by
  cases k <;> (unfold keyD Dat at h; exact h)
/-- d[k] = e, d the body's own -/
theorem es_dput {i : Nat} {es : List (Key × Da)} {Pk : Key → Prop} (hi : Γ[i]? = some (.ownD es)) (hv : Ev W tv Γ c1 P) (hk : Ev W ty Γ c2 (fun d => ∃ k, d = keyD k ∧ Pk k)) (hl : es.length < 100000)
    (hp : ∀ d k, P d → Pk k → p.nx (Γ.set i (.ownD (putD es k d)))) : Es W (sDPut (tVar i) ty tv) Γ (c1 + c2) p := fun H0 B0 B σ H M D s hM a b e f => by
  obtain ⟨o, ho, l, xs, rfl, hB, hx, hd⟩ := s.sl i _ hi
  have hO : Ow σ Γ i l := ⟨⟨_, hi, rfl⟩, ho⟩
  refine hv H0 B0 B σ H M s (by omega) _ fun v d H1 k1 r1 hv1 q1 => ⟨.ref l, ho, ?_⟩
  refine hk H0 B0 B σ H1 _ (s.keep k1 r1) (by omega) _ fun y dy H2 k2 r2 hy ⟨k, e1, pk⟩ => ?_
  subst e1
  have k12 := k1.trans k2
  have hx2 : H2 l = some (.dK xs) := k12 l _ (s.outF hO) hx
  have s2 := (s.keep k1 r1).keep k2 r2
  refine ⟨l, _, rfl, (keyD_dat hy) ▸ DPut.k hx2 (by rw [hd.length]; exact Nat.lt_of_lt_of_le hl (by decide)), ?_⟩
  have hd2 : Datk K B H2 xs es := Datk.mono (s.toBk.kp k12) es xs hd
  have hv2 : Dat K B H2 v d := Dat.mono ((s.keep k1 r1).toBk.kp k2) d v hv1
  refine a B σ _ _ ((s2.change hi rfl ho (e' := .ownD (putD es k d)) rfl ⟨l, _, rfl, hB, upd_same, Datk.mono (Kp.mut hB) _ _ (Datk.putK hv2 hd2)⟩).less (by omega)) (Mv.of ((s.toBk.kp k12).trans (Kp.mut hB))) (hp d k q1 pk)
/-! ### loops -/
theorem es_for {wi : TI} {g : TG} {vs : List Nat} {c0 cb n : Nat} {Pi : List Da → Prop} (I : List Da → Nat → List En → Prop) (hi : Ei W wi Γ c0 Pi) (h0 : ∀ ds, Pi ds → I ds 0 Γ)
    (hs : ∀ ds i d Γ1, Pi ds → ds[i]? = some d → I ds i Γ1 → ∃ Γ2, Eg W g vs d Γ1 Γ2 ∧ Es W t Γ2 cb ⟨I ds (i + 1), p.rt, p.nx, I ds (i + 1)⟩) (hd : ∀ ds Γ1, Pi ds → I ds ds.length Γ1 → p.nx Γ1) (hn : ∀ ds, Pi ds → ds.length ≤ n) :
    Es W (tFor wi g t) Γ (c0 + n * cb) p := fun H0 B0 B σ H M D s hM a b e f =>
  hi H0 B0 B σ H M s (by omega) _ fun J ds H1 k1 r1 hJ pi => by
    have hlen := hn ds pi
    have s1 := s.keep k1 r1
    have m1 : Mv B H B H1 := Mv.of (s.toBk.kp k1)
    have hall := mul_mono (cb := cb) hlen
    refine ⟨fun i m σ2 H2 => m = ds.length - i ∧ i ≤ ds.length ∧ ∃ B2 Γ2, Sg W H0 B0 B2 σ2 Γ2 H2 (M - c0 - i * cb) ∧ Mv B H1 B2 H2 ∧ I ds i Γ2, ⟨_, rfl, Nat.zero_le _, B, Γ, by rw [Nat.zero_mul]; exact s1, Mv.refl, h0 ds pi⟩, ?_⟩
    rintro i m σ2 H2 ⟨rfl, hi2, B2, Γ2, s2, m2, hI⟩
    have hsrc := hJ B2 H2 m2 s2.al
    by_cases hlt : i < ds.length
    · refine Or.inr ⟨(hsrc.1 i hlt).1, fun σ3 H3 => ∃ B2 Γ2, Sg W H0 B0 B2 σ3 Γ2 H3 (M - c0 - (i + 1) * cb) ∧ Mv B H1 B2 H3 ∧ I ds (i + 1) Γ2, fun σ3 H3 h3 => ⟨ds.length - (i + 1), by omega, rfl, hlt, h3⟩, fun x H3 hy => ?_⟩
      obtain ⟨k3, d, ed, hd3⟩ := (hsrc.1 i hlt).2 x H3 hy
      have st := mul_step (cb := cb) (Nat.lt_of_lt_of_le hlt hlen)
      have st2 : (i + 1) * cb = i * cb + cb := by rw [Nat.add_mul, Nat.one_mul]
      have r3 : W.Dr (M - c0 - i * cb) H3 := W.pres (fun b hb => by
        cases e : H2 b with
        | none => exact absurd e (W.alive s2.dr b hb)
        | some o => rw [k3 b o (fun z => nomatch z) e]) s2.dr
      have s3 := s2.keep (k3.all) r3
      have m3 : Mv B H1 B2 H3 := m2.trans (Mv.of k3.all)
      obtain ⟨Γ3, hg, hb⟩ := hs ds i d Γ2 pi ed hI
      refine hg H0 B0 B2 σ2 H3 _ x s3 hd3 _ fun σ3 s4 _ => ?_
      exact hb H0 B0 B2 σ3 H3 _ _ s4 (by omega) (fun B5 σ5 Γ5 H5 s5 m5 n5 => ⟨B5, Γ5, s5.less (by omega), m3.trans m5, n5⟩) (fun v d H5 k5 r5 => b v d H5 k5 (W.less r5 (by omega)))
        (fun B5 σ5 Γ5 H5 s5 m5 n5 => a B5 σ5 Γ5 H5 (s5.less (by omega)) ((m1.trans m3).trans m5) n5) (fun B5 σ5 Γ5 H5 s5 m5 n5 => ⟨B5, Γ5, s5.less (by omega), m3.trans m5, n5⟩)
    · have e : i = ds.length := by omega
      subst e
      exact Or.inl ⟨hsrc.2, a B2 σ2 Γ2 H2 (s2.less (by omega)) (m1.trans m2) (hd ds Γ2 pi hI)⟩
theorem es_while {ct cb m0 : Nat} (I : Nat → List En → Prop) (h0 : I m0 Γ)
    (hs : ∀ m Γ1, m ≤ m0 → I m Γ1 → ∃ Pt, EvT W tt Γ1 ct Pt ∧ (Pt true → Es W t Γ1 cb ⟨fun Γ2 => ∃ m', m' < m ∧ I m' Γ2, p.rt, p.nx, fun Γ2 => ∃ m', m' < m ∧ I m' Γ2⟩) ∧ (Pt false → p.nx Γ1)) :
    Es W (tWhile tt t) Γ ((m0 + 1) * (ct + cb)) p := fun H0 B0 B σ H M D s hM a b e f => by
  have e0 : (m0 + 1) * (ct + cb) = m0 * (ct + cb) + (ct + cb) := by rw [Nat.add_mul, Nat.one_mul]
  have key : ∀ m, m ≤ m0 → (m0 - m) * (ct + cb) + (ct + cb) ≤ M := fun m hm => by
    have := mul_mono (cb := ct + cb) (show m0 - m ≤ m0 by omega)
    omega
  refine ⟨fun m σ2 H2 => m ≤ m0 ∧ ∃ B2 Γ2, Sg W H0 B0 B2 σ2 Γ2 H2 (M - (m0 - m) * (ct + cb)) ∧ Mv B H B2 H2 ∧ I m Γ2, ⟨m0, Nat.le_refl _, B, Γ, by rw [Nat.sub_self, Nat.zero_mul]; exact s, Mv.refl, h0⟩, ?_⟩
  rintro m σ2 H2 ⟨hm, B2, Γ2, s2, m2, hI⟩
  obtain ⟨Pt, hT, h1, h2⟩ := hs m Γ2 hm hI
  have hk := key m hm
  have top : (m0 - m) * (ct + cb) + (ct + cb) ≤ (m0 + 1) * (ct + cb) := by
    have := mul_step (cb := ct + cb) (show m0 - m < m0 + 1 by omega)
    exact this
  refine hT H0 B0 B2 σ2 H2 _ s2 (by omega) _ fun bb H3 k3 r3 pt => ?_
  have s3 := s2.keep k3 r3
  have m3 : Mv B H B2 H3 := m2.trans (Mv.of (s2.toBk.kp k3))
  cases bb with
  | false =>
    show D.nx σ2 H3
    exact a B2 σ2 Γ2 H3 (s3.less (by omega)) m3 (h2 pt)
  | true =>
    show ∃ N, _
    have back : ∀ m', m' < m → (m0 - m) * (ct + cb) + (ct + cb) ≤ (m0 - m') * (ct + cb) := fun m' hm' => by
      have := mul_step (cb := ct + cb) (show m0 - m < m0 - m' by omega)
      exact this
    refine ⟨fun σ4 H4 => ∃ m', m' < m ∧ (m' ≤ m0 ∧ ∃ B2 Γ2, Sg W H0 B0 B2 σ4 Γ2 H4 (M - (m0 - m') * (ct + cb)) ∧ Mv B H B2 H4 ∧ I m' Γ2), fun σ4 H4 ⟨m', l, z⟩ => ⟨m', l, z⟩, ?_⟩
    exact h1 pt H0 B0 B2 σ2 H3 _ _ s3 (by omega) (fun B5 σ5 Γ5 H5 s5 m5 ⟨m', l, i5⟩ => ⟨m', l, by omega, B5, Γ5, s5.less (by have := back m' l; omega), m3.trans m5, i5⟩) (fun v d H5 k5 r5 => b v d H5 k5 (W.less r5 (by omega)))
      (fun B5 σ5 Γ5 H5 s5 m5 n5 => a B5 σ5 Γ5 H5 (s5.less (by omega)) (m3.trans m5) n5) (fun B5 σ5 Γ5 H5 s5 m5 ⟨m', l, i5⟩ => ⟨m', l, by omega, B5, Γ5, s5.less (by have := back m' l; omega), m3.trans m5, i5⟩)
end
/-! ### a def's promise over data -/
/-- what is promised: in which world, of which arguments, at what cost, of which result -/
abbrev Ct (K : PySem.W.Frag) := Wd K → List Da → Nat → (Da → Prop) → Prop
def spD {K : PySem.W.Frag} (C : Ct K) : Sp := fun vs H Q _ => ∃ (W : Wd K) (B : List Addr) (M : Nat) (ds : List Da) (c : Nat) (P : Da → Prop), C W ds c P ∧ Bk W B H M ∧ c ≤ M ∧ Dats K B H vs ds ∧
  ∀ v d H', Kp W.F H H' → W.Dr (M - c) H' → Dat K B H' v d → P d → Q v H'
theorem fn_of_ct {K : PySem.W.Frag} {C : Ct K} {W : Wd K} {ds : List Da} {c : Nat} {P : Da → Prop} (h : C W ds c P) : Fn W (spD C) ds c P := fun B H M vs s hM hd Q E q => ⟨W, B, M, ds, c, P, h, s, hM, hd, q⟩
/-- the names at the entry -/
def startE (N : List Str) (ds : List Da) : List En := ds.map En.dat ++ List.replicate (N.length - ds.length) .no
section
variable {K : PySem.W.Frag} {W : Wd K} {B : List Addr} {H : Hp} {M : Nat}
theorem startE_own {N : List Str} {ds : List Da} {i : Nat} {e : En} (h : (startE N ds)[i]? = some e) : e.isOwn = false := by
  have h2 := List.mem_of_getElem? h
  unfold startE at h2
  rcases List.mem_append.mp h2 with z | z
  · obtain ⟨d, _, rfl⟩ := List.mem_map.mp z
    rfl
  · rw [(List.mem_replicate.mp z).2]; rfl
theorem Sg.start {N : List Str} {ds : List Da} {vs : List V} (s : Bk W B H M) (hd : Dats K B H vs ds) (hn : ds.length ≤ N.length) : Sg W H B B (L2.start N vs) (startE N ds) H M := by
  have hl := hd.length
  refine ⟨s, Kp.refl, fun _ h => h, s.al, s.fb, ?_, fun i e he => ?_, fun i j l ⟨⟨e, g, t⟩, _⟩ => ?_, fun i l ⟨⟨e, g, t⟩, _⟩ => ?_⟩
  · unfold L2.start startE
    rw [List.length_append, List.length_append, List.length_map, List.length_map, List.length_replicate, List.length_replicate, hl]
  · unfold startE at he
    unfold L2.start
    by_cases hi : i < ds.length
    · rw [List.getElem?_append_left (by simpa using hi), List.getElem?_map] at he
      cases ed : ds[i]? with
      | none =>
        rw [ed] at he
        cases he
      | some d =>
        rw [ed] at he
        cases he
        obtain ⟨v, ev, hv⟩ := hd.get' ed
        refine ⟨some v, ?_, v, rfl, hv⟩
        rw [List.getElem?_append_left (by simpa [hl] using hi), List.getElem?_map, ev]
        rfl
    · rw [List.getElem?_append_right (by simpa using hi)] at he
      have hm := List.mem_of_getElem? he
      have e1 := (List.mem_replicate.mp hm).2
      subst e1
      have hlt := (List.getElem?_eq_some_iff.mp he).1
      rw [List.length_replicate, List.length_map] at hlt
      refine ⟨none, ?_, trivial⟩
      rw [List.getElem?_append_right (by simpa [hl] using hi), List.length_map, List.getElem?_replicate, if_pos (by rw [hl]; omega)]
  · rw [startE_own g] at t
    cases t
  · rw [startE_own g] at t
    cases t
end
/-- THE RULE of a def over data -/
theorem fn_data {Pr : Program} {w : World} {K : PySem.W.Frag} {mg : Str → Option Value} {base : Heap} {x qual : Str} {params : Arguments} {body : List Stmt} {scope : Scope} {dvs : List V} {kws : List (Str × V)} {f : Addr} {fd : FuncData} {N ps : List Str} {k : Nat} {C : Ct K}
    (F : FunD K x qual params body scope dvs kws f fd) (S : FnScope N ps scope) (len : ∀ W ds c P, C W ds c P → ds.length = ps.length) (hps : ps.length ≤ N.length)
    (hbody : ∀ (cdv : Value) (A : Around) (outer : List Env) (s : Shared) (H : Hp) (E : XK), Room k (A.deeper (PyProof.Rows.envOfC qual scope s.heap.objs.size f cdv)) →
      ∃ t, PSs (cxOf CX0 Pr w K mg base N qual scope f cdv A outer s H E) body t ∧ ∀ W ds c P, C W ds c P → Es W t (startE N ds) c ⟨fun _ => P .non, P, fun _ => False, fun _ => False⟩) : FnOk Pr w K mg base CX0 (k + 1) f fd ps (spD C) := by
  refine F.ok S (fun vs H Q E h => ?_) (fun cdv A outer s H vs Q E hr h => ?_)
  · obtain ⟨W, B, M, ds, c, P, hC, _, _, hd, _⟩ := h
    rw [hd.length]
    exact len W ds c P hC
  · obtain ⟨W, B, M, ds, c, P, hC, hb, hM, hd, q⟩ := h
    obtain ⟨t, ht, hE⟩ := hbody cdv A outer s H E hr
    refine ⟨t, ht, ?_⟩
    have s0 : Sg W H B B (L2.start N vs) (startE N ds) H M := Sg.start hb hd (by rw [len W ds c P hC]; exact hps)
    exact hE W ds c P hC H B B _ H M _ s0 hM (fun B' σ' Γ' H' s' m' n' => q .non .non H' s'.k0 s'.dr (by unfold Dat; rfl) n') (fun v d H' k' r' hd' p' => q v d H' k' r' hd' p') (fun _ _ _ _ _ _ z => z.elim) (fun _ _ _ _ _ _ z => z.elim)
end WJ
set_option Elab.async false
set_option linter.all false
set_option maxRecDepth 100000
set_option maxHeartbeats 2000000
/-! WjG: rules for values of any kind (a join of the layer's own), and what they give over data -/
namespace WJ
open PySem L2
section
variable {X : Cx}
theorem orO {f : Value → Value → Sem Value} {r r' : R2} (h : OpR X f r) (h' : OpR X f r') : OpR X f (fun x y H Q => r x y H Q ∨ r' x y H Q) := by
  intro pins s σ H x y v u Q I rx ry q
  rcases q with q | q
  · exact h pins s σ H x y v u Q I rx ry q
  · exact h' pins s σ H x y v u Q I rx ry q
theorem orC {f : Value} {r r' : List V → Hp → VK → Prop} (h : CallR X f r) (h' : CallR X f r') : CallR X f (fun xs H Q => r xs H Q ∨ r' xs H Q) := by
  intro pins s σ H xs us Q I rs q
  rcases q with q | q
  · exact h pins s σ H xs us Q I rs q
  · exact h' pins s σ H xs us Q I rs q
theorem orS {r r' : V → Option Int → Option Int → Hp → VK → Prop} (h : SlR X r) (h' : SlR X r') : SlR X (fun x a b H Q => r x a b H Q ∨ r' x a b H Q) := by
  intro pins s σ H x v vl vu lo hi sl Q I rx hs pl pu q
  rcases q with q | q
  · exact h pins s σ H x v vl vu lo hi sl Q I rx hs pl pu q
  · exact h' pins s σ H x v vl vu lo hi sl Q I rx hs pl pu q
/-! + -/
def rAddI : R2 := rI0 fun i j => .int (i + j)
def rAddS : R2 := fun x y H Q => ∃ i j, x = .str i ∧ y = .str j ∧ i.length + j.length ≤ sizeLine ∧ Q (.str (i ++ j)) H
/-- two lists, tracked or written -/
def rCatL (K : PySem.W.Frag) : R2 := fun x y H Q => ∃ (l b : Addr) (xs zs : List V), x = .ref l ∧ y = .ref b ∧ SqL K H l xs ∧ SqL K H b zs ∧ xs.length + zs.length ≤ sizeLine ∧ ∀ p, H p = none → Q (.ref p) (upd H p (.lst (xs ++ zs)))
theorem op_catL : OpR X (binaryOp .Add) (rCatL X.K) := by
  intro pins s σ H x y v u Q I rx ry h
  obtain ⟨l, b, xs, zs, rfl, rfl, h1, h2, hz, q⟩ := h
  cases rx
  cases ry
  obtain ⟨i1, r1, p1, _⟩ := I.list h1
  obtain ⟨i2, r2, p2, _⟩ := I.list h2
  have l1 := r1.length
  have l2 := r2.length
  obtain ⟨⟨c1, d1, t1, s1⟩, o1, e1, n1, z1⟩ := id p1.isList
  obtain ⟨⟨c2, d2, t2, s2⟩, o2, e2, n2, z2⟩ := id p2.isList
  simp only at e1 z1 e2 z2
  subst e1 z1 e2 z2
  refine PySem.concat_meets ⟨_, o1, rfl⟩ ⟨_, o2, rfl⟩ PySem.noFill_list_add PySem.seq_list_add PySem.F.slot_list_add PySem.F.entry_list_add (PySem.F.args_list_add_2 _ _) (PyProof.Rows.list_addW l b i1.toArray i2.toArray n1 n2 d1 d2 s1 s2 (by rw [List.size_toArray, List.size_toArray]; omega)) ⟨o1, o2, ?_⟩
  rw [show i1.toArray ++ i2.toArray = (i1 ++ i2).toArray by simp]
  exact ⟨.ref _, _, I.lnew (t' := s.toks) (r1.append r2) (by rw [List.length_append]; omega), rfl, q _ I.fresh⟩
def rAddA (K : PySem.W.Frag) : R2 := fun x y H Q => rAddI x y H Q ∨ rAddS x y H Q ∨ rCatL K x y H Q ∨ rCatT K x y H Q
theorem op_addA : OpR X (binaryOp .Add) (rAddA X.K) := orO op_add (orO op_add_str (orO op_catL op_catT))
/-! a[b] -/
def rIxD : R2 := fun x y H Q => ∃ a v, x = .ref a ∧ DGet H a y (some v) ∧ Q v H
theorem ix_dict (hu : X.A.units + 1 < cLine) : IxR X rIxD := by
  intro value slice pins s σ H x y v u Q I rx ry h hs
  obtain ⟨a, z, rfl, g, q⟩ := h
  obtain rfl : v = Value.ref a := rx
  exact PyProof.Rows.tail_any (dict_typeIs I g) PySem.F.slot_dict_getitem.lookup (d_getItem hu I g ry fun w' s3 I3 rw' => ⟨z, H, I3, rw', q⟩) hs
def rIxA (K : PySem.W.Frag) : R2 := fun x y H Q => rIx K x y H Q ∨ rIxD x y H Q
theorem ix_any (hu : X.A.units + 1 < cLine) : IxR X (rIxA X.K) := ix_seq.or (ix_dict hu)
/-! in -/
def rInDt (neg : Bool) : R2 := fun y x H Q => ∃ a o, x = .ref a ∧ DGet H a y o ∧ Q (.bl (if neg then !o.isSome else o.isSome)) H
theorem op_in_dict (hu : X.A.units + 1 < cLine) : OpR X (compareOp .In) (rInDt false) := by
  intro pins s σ H y x v u Q I ry rx h
  obtain ⟨a, o, rfl, g, q⟩ := h
  obtain rfl : u = Value.ref a := rx
  exact d_in hu I g ry fun s3 I3 => ⟨.bl o.isSome, H, I3, rfl, q⟩
theorem op_notin_dict (hu : X.A.units + 1 < cLine) : OpR X (compareOp .NotIn) (rInDt true) := by
  intro pins s σ H y x v u Q I ry rx h
  obtain ⟨a, o, rfl, g, q⟩ := h
  obtain rfl : u = Value.ref a := rx
  exact d_notIn hu I g ry fun s3 I3 => ⟨.bl (!o.isSome), H, I3, rfl, q⟩
def rInSg (neg : Bool) : R2 := fun x y H Q => ∃ (c : Nat) (z : Str), x = .str ⟨#[c]⟩ ∧ y = .str z ∧ Q (.bl (if neg then !decide (c ∈ z.cps.toList) else decide (c ∈ z.cps.toList))) H
def rInA (K : PySem.W.Frag) (neg : Bool) : R2 := fun x y H Q => rIn K neg x y H Q ∨ rInDt neg x y H Q ∨ rInSg neg x y H Q
theorem op_inA (hu : X.A.units + 1 < cLine) : OpR X (compareOp .In) (rInA X.K false) := orO op_in_seq (orO (op_in_dict hu) op_in_sign)
theorem op_notinA (hu : X.A.units + 1 < cLine) : OpR X (compareOp .NotIn) (rInA X.K true) := orO op_notIn_seq (orO (op_notin_dict hu) op_notIn_sign)
/-! ==, != -/
def rEqA (K : PySem.W.Frag) : R2 := fun x y H Q => rEq x y H Q ∨ rEqD K x y H Q
def rNeA (K : PySem.W.Frag) : R2 := fun x y H Q => rNe x y H Q ∨ rNeD K x y H Q
theorem op_eqA (hu : X.A.units + 64 < cLine) : OpR X (compareOp .Eq) (rEqA X.K) := orO op_eq (op_eqD hu)
theorem op_neA (hu : X.A.units + 64 < cLine) : OpR X (compareOp .NotEq) (rNeA X.K) := orO op_ne (op_neD hu)
/-! len, isinstance, slices -/
theorem call_lenR : CallR X (.builtin "len") (fun xs H Q => ∃ a kvs, xs = [V.ref a] ∧ Rd H a (.dK kvs) ∧ Q (.int kvs.length) H) := by
  intro pins s σ H xs us Q I r h
  obtain ⟨a, kvs, rfl, ha, q⟩ := h
  obtain ⟨u, rfl, ru⟩ := vals1 r
  cases ru
  exact d_len I ha fun t s' I' => ⟨.int kvs.length, H, I', ⟨t, rfl⟩, q⟩
def rLenA (K : PySem.W.Frag) : List V → Hp → VK → Prop := fun xs H Q => (∃ x n, xs = [x] ∧ LenV K x H n ∧ Q (.int n) H) ∨ ∃ a kvs, xs = [V.ref a] ∧ Rd H a (.dK kvs) ∧ Q (.int kvs.length) H
theorem call_lenA : CallR X (.builtin "len") (rLenA X.K) := orC call_len call_lenR
def rIsiA (K : PySem.W.Frag) : List V → Hp → VK → Prop := fun xs H Q => rIsi K xs H Q ∨ rIsiT K xs H Q
theorem call_isiA : CallR X (.builtin "isinstance") (rIsiA X.K) := orC call_isi call_isiT
def rSlA (K : PySem.W.Frag) : V → Option Int → Option Int → Hp → VK → Prop := fun x a b H Q => rSlL K x a b H Q ∨ rSlS x a b H Q ∨ rSlT K x a b H Q
theorem sl_any : SlR X (rSlA X.K) := orS sl_list (orS sl_str sl_tup)
/-! the same with the written part named -/
variable (K : PySem.W.Frag)
theorem o_add (hK : X.K = K := by rfl) : OpR X (binaryOp .Add) (rAddA K) := hK ▸ op_addA
theorem o_ix (hu : X.A.units + 1 < cLine) (hK : X.K = K := by rfl) : IxR X (rIxA K) := hK ▸ ix_any hu
theorem o_in (hu : X.A.units + 1 < cLine) (hK : X.K = K := by rfl) : OpR X (compareOp .In) (rInA K false) := hK ▸ op_inA hu
theorem o_notin (hu : X.A.units + 1 < cLine) (hK : X.K = K := by rfl) : OpR X (compareOp .NotIn) (rInA K true) := hK ▸ op_notinA hu
theorem o_eq (hu : X.A.units + 64 < cLine) (hK : X.K = K := by rfl) : OpR X (compareOp .Eq) (rEqA K) := hK ▸ op_eqA hu
theorem o_ne (hu : X.A.units + 64 < cLine) (hK : X.K = K := by rfl) : OpR X (compareOp .NotEq) (rNeA K) := hK ▸ op_neA hu
theorem o_len (hK : X.K = K := by rfl) : CallR X (.builtin "len") (rLenA K) := hK ▸ call_lenA
theorem o_isi (hK : X.K = K := by rfl) : CallR X (.builtin "isinstance") (rIsiA K) := hK ▸ call_isiA
theorem o_sl (hK : X.K = K := by rfl) : SlR X (rSlA K) := hK ▸ sl_any
theorem o_all (hc : X.calm = true := by rfl) (hK : X.K = K := by rfl) : CallR X (.builtin "all") (rAll K) := hK ▸ cr_all hc
theorem o_any (hc : X.calm = true := by rfl) (hK : X.K = K := by rfl) : CallR X (.builtin "any") (rAny K) := hK ▸ cr_any hc
theorem p_list {tg l : Expr} {tl : TE} (hl : PE X l tl) (hK : X.K = K := by rfl) : PI X tg l (iList K tl) := hK ▸ pi_list hl
theorem p_tup {tg l : Expr} {tl : TE} (hl : PE X l tl) (hK : X.K = K := by rfl) : PI X tg l (iTup K tl) := hK ▸ pi_tup hl
theorem p_tupT {n : Nat} {es : List Expr} {e2 : Expr} {x1} {pos : Pos} {t : TGs} (h : PG X (.Tuple es x1 pos) (gTup X.K n t)) (hK : X.K = K := by rfl) : PG X (.Tuple es x1 pos) (gTup K n t) := hK ▸ h
end
end WJ
set_option Elab.async false
set_option linter.all false
set_option maxRecDepth 100000
set_option maxHeartbeats 2000000
/-! WjH: the operators over data -/
namespace WJ
open PySem L2
section
variable {K : PySem.W.Frag} {W : Wd K} {P : Da → Prop}
theorem rv_now {r : R2} {d1 d2 d : Da} (h : ∀ (B : List Addr) (H : Hp) (v1 v2 : V) (Q : VK), Dat K B H v1 d1 → Dat K B H v2 d2 → (∀ v, Dat K B H v d → Q v H) → r v1 v2 H Q) (p : P d) : Rv W r d1 d2 P := fun B H M v1 v2 s h1 h2 Q q =>
  h B H v1 v2 Q h1 h2 fun v hv => q v d H Kp.refl s.dr hv p
theorem dInt {B : List Addr} {H : Hp} {v : V} {i : Int} : Dat K B H v (.int i) ↔ v = .int i := by unfold Dat; exact Iff.rfl
theorem dStr {B : List Addr} {H : Hp} {v : V} {i : Str} : Dat K B H v (.str i) ↔ v = .str i := by unfold Dat; exact Iff.rfl
theorem dBl {B : List Addr} {H : Hp} {v : V} {i : Bool} : Dat K B H v (.bl i) ↔ v = .bl i := by unfold Dat; exact Iff.rfl
theorem dNon {B : List Addr} {H : Hp} {v : V} : Dat K B H v .non ↔ v = .non := by unfold Dat; exact Iff.rfl
/-- two ints -/
theorem rv_I0 {g : Int → Int → V} {gd : Int → Int → Da} {i j : Int} (hg : ∀ (B : List Addr) (H : Hp), Dat K B H (g i j) (gd i j)) (p : P (gd i j)) : Rv W (rI0 g) (.int i) (.int j) P :=
  rv_now (fun B H v1 v2 Q h1 h2 q => ⟨i, j, dInt.mp h1, dInt.mp h2, q _ (hg B H)⟩) p
theorem rv_I {C : Int → Int → Prop} {g : Int → Int → V} {gd : Int → Int → Da} {i j : Int} (hc : C i j) (hg : ∀ (B : List Addr) (H : Hp), Dat K B H (g i j) (gd i j)) (p : P (gd i j)) : Rv W (rI C g) (.int i) (.int j) P :=
  rv_now (fun B H v1 v2 Q h1 h2 q => ⟨i, j, dInt.mp h1, dInt.mp h2, hc, q _ (hg B H)⟩) p
theorem rv_addI {i j : Int} (p : P (.int (i + j))) : Rv W (rAddA K) (.int i) (.int j) P :=
  rv_now (fun B H v1 v2 Q h1 h2 q => Or.inl ⟨i, j, dInt.mp h1, dInt.mp h2, q _ (dInt.mpr rfl)⟩) p
theorem rv_addS {i j : Str} (hl : i.length + j.length ≤ 100000) (p : P (.str (i ++ j))) : Rv W (rAddA K) (.str i) (.str j) P :=
  rv_now (fun B H v1 v2 Q h1 h2 q => Or.inr (Or.inl ⟨i, j, dStr.mp h1, dStr.mp h2, Nat.le_trans hl (by decide), q _ (dStr.mpr rfl)⟩)) p
theorem rvF_addL {as bs : List Da} {P : List Da → Prop} (hl : as.length + bs.length ≤ 100000) (p : P (as ++ bs)) : RvF W (rAddA K) (.lst as) (.lst bs) P := fun B H M v1 v2 s h1 h2 Q q => by
  unfold Dat at h1 h2
  obtain ⟨a, xs, rfl, s1, t1⟩ := h1
  obtain ⟨b, ys, rfl, s2, t2⟩ := h2
  refine Or.inr (Or.inr (Or.inl ⟨a, b, xs, ys, rfl, rfl, s1.sq, s2.sq, by rw [t1.length, t2.length]; exact Nat.le_trans hl (by decide), fun l nl => ?_⟩))
  exact q l (xs ++ ys) (as ++ bs) _ nl (Kp.new nl) (Wd.new nl s.dr) upd_same (Dats.mono (Kp.new nl) _ _ (Dats.put nl _ _ (t1.append t2))) p
theorem rv_addT {as bs : List Da} (ha : as ≠ []) (hb : bs ≠ []) (hl : as.length + bs.length ≤ 100000) (p : P (.tup (as ++ bs))) : Rv W (rAddA K) (.tup as) (.tup bs) P := fun B H M v1 v2 s h1 h2 Q q => by
  unfold Dat at h1 h2
  obtain ⟨a, xs, rfl, s1, t1⟩ := h1
  obtain ⟨b, ys, rfl, s2, t2⟩ := h2
  have ea : xs ≠ [] := fun z => ha (List.length_eq_zero_iff.mp (by rw [← t1.length, z]; rfl))
  have eb : ys ≠ [] := fun z => hb (List.length_eq_zero_iff.mp (by rw [← t2.length, z]; rfl))
  refine Or.inr (Or.inr (Or.inr ⟨a, b, xs, ys, rfl, rfl, s1.sq, s2.sq, ea, by rw [t1.length, t2.length]; exact Nat.le_trans hl (by decide), fun z => absurd z eb, fun _ l nl => ?_⟩))
  refine q (.ref l) (.tup (as ++ bs)) _ (Kp.new nl) (Wd.new nl s.dr) ?_ p
  unfold Dat
  exact ⟨l, _, rfl, .of (s.free nl) upd_same, Dats.mono (Kp.new nl) _ _ (t1.append t2)⟩
/-! an item -/
theorem ixN_lt {n : Nat} {i : Int} {j : Nat} (h : ixN n i = some j) : j < n := by
  unfold ixN at h
  split at h
  · split at h
    · cases h
      omega
    · cases h
  · split at h
    · cases h
      omega
    · cases h
theorem atI_dats {B : List Addr} {H : Hp} {ds : List Da} {xs : List V} {i : Int} {d : Da} (t : Dats K B H xs ds) (h : atI ds i = some d) : ∃ v, atI xs i = some v ∧ Dat K B H v d := by
  unfold atI at h ⊢
  rw [t.length]
  cases e : ixN ds.length i with
  | none =>
    rw [e] at h
    cases h
  | some j =>
    rw [e] at h
    exact t.get' h
theorem rv_ixL {ds : List Da} {i : Int} {d : Da} (h : atI ds i = some d) (p : P d) : Rv W (rIxA K) (.lst ds) (.int i) P :=
  rv_now (fun B H v1 v2 Q h1 h2 q => by
    unfold Dat at h1
    obtain ⟨a, xs, rfl, s1, t1⟩ := h1
    obtain ⟨v, e, hv⟩ := atI_dats t1 h
    exact Or.inl (Or.inl ⟨a, xs, i, v, rfl, dInt.mp h2, s1.sq, e, q v hv⟩)) p
theorem rv_ixT {ds : List Da} {i : Int} {d : Da} (h : atI ds i = some d) (p : P d) : Rv W (rIxA K) (.tup ds) (.int i) P :=
  rv_now (fun B H v1 v2 Q h1 h2 q => by
    unfold Dat at h1
    obtain ⟨a, xs, rfl, s1, t1⟩ := h1
    obtain ⟨v, e, hv⟩ := atI_dats t1 h
    exact Or.inl (Or.inr (Or.inl ⟨a, xs, i, v, rfl, dInt.mp h2, s1.sq, e, q v hv⟩))) p
theorem rv_ixS {z : Str} {i : Int} {c : Nat} (hz : z.length ≤ 100000) (h : atI z.cps.toList i = some c) (p : P (.str ⟨#[c]⟩)) : Rv W (rIxA K) (.str z) (.int i) P :=
  rv_now (fun B H v1 v2 Q h1 h2 q => Or.inl (Or.inr (Or.inr ⟨z, i, c, dStr.mp h1, dInt.mp h2, Nat.le_trans hz (by decide), h, q _ (dStr.mpr rfl)⟩))) p
theorem rv_ixD {es : List (Key × Da)} {k : Key} {d : Da} (h : valD es k = some d) (p : P d) : Rv W (rIxA K) (.dct es) (keyD k) P :=
  rv_now (fun B H v1 v2 Q h1 h2 q => by
    unfold Dat at h1
    obtain ⟨a, xs, rfl, s1, t1⟩ := h1
    rcases t1.val k with ⟨z, _⟩ | ⟨v, d', e1, e2, hv⟩
    · rw [h] at z
      cases z
    · rw [h] at e1
      cases e1
      exact Or.inr ⟨a, v, rfl, Or.inl ⟨xs, k, s1.2, keyD_dat h2, e2.symm⟩, q v hv⟩) p
/-! in -/
/-- data that == tells apart by itself, as a value -/
def Da.flatv : Da → Option V
  | .non => some .non
  | .bl b => some (.bl b)
  | .int i => some (.int i)
  | .str x => some (.str x)
  | _ => none
theorem flatv_dat {B : List Addr} {H : Hp} {v w : V} {d : Da} (h : Dat K B H v d) (e : d.flatv = some w) : v = w := by
  cases d <;> first | (unfold Dat at h; cases e; exact h) | cases e
theorem flatv_flat {w : V} {d : Da} (e : d.flatv = some w) : flatV w = true := by
  cases d <;> first | (cases e; rfl) | cases e
/-- all items are flat -/
def flats : List Da → Option (List V)
  | [] => some []
  | d :: ds => match d.flatv, flats ds with
    | some v, some vs => some (v :: vs)
    | _, _ => none
theorem flats_dat {B : List Addr} {H : Hp} : ∀ {ds : List Da} {vs ws : List V}, Dats K B H vs ds → flats ds = some ws → vs = ws ∧ ws.all flatV = true
  | [], _, _, h, e => by
    unfold Dats at h
    cases e
    exact ⟨h, rfl⟩
  | d :: ds, _, ws, h, e => by
    unfold Dats at h
    obtain ⟨v, r, rfl, h1, t⟩ := h
    unfold flats at e
    cases e1 : d.flatv with
    | none => simp [e1] at e
    | some w =>
      cases e2 : flats ds with
      | none => simp [e1, e2] at e
      | some rs =>
        simp [e1, e2] at e
        subst e
        obtain ⟨q1, q2⟩ := flats_dat t e2
        rw [q1, flatv_dat h1 e1]
        exact ⟨rfl, by rw [List.all_cons, flatv_flat e1, q2]; rfl⟩
theorem rv_inL {neg : Bool} {d : Da} {ds : List Da} {w : V} {ws : List V} (e1 : d.flatv = some w) (e2 : flats ds = some ws) (p : P (.bl (if neg then !inV w ws else inV w ws))) : Rv W (rInA K neg) d (.lst ds) P :=
  rv_now (fun B H v1 v2 Q h1 h2 q => by
    unfold Dat at h2
    obtain ⟨a, xs, rfl, s1, t1⟩ := h2
    obtain ⟨q1, q2⟩ := flats_dat t1 e2
    subst q1
    have e3 := flatv_dat h1 e1
    subst e3
    exact Or.inl ⟨a, xs, rfl, Or.inl s1.sq, flatv_flat e1, q2, q _ (dBl.mpr rfl)⟩) p
theorem rv_inT {neg : Bool} {d : Da} {ds : List Da} {w : V} {ws : List V} (e1 : d.flatv = some w) (e2 : flats ds = some ws) (p : P (.bl (if neg then !inV w ws else inV w ws))) : Rv W (rInA K neg) d (.tup ds) P :=
  rv_now (fun B H v1 v2 Q h1 h2 q => by
    unfold Dat at h2
    obtain ⟨a, xs, rfl, s1, t1⟩ := h2
    obtain ⟨q1, q2⟩ := flats_dat t1 e2
    subst q1
    have e3 := flatv_dat h1 e1
    subst e3
    exact Or.inl ⟨a, xs, rfl, Or.inr s1.sq, flatv_flat e1, q2, q _ (dBl.mpr rfl)⟩) p
theorem rv_inD {neg : Bool} {es : List (Key × Da)} {k : Key} (p : P (.bl (if neg then !(valD es k).isSome else (valD es k).isSome))) : Rv W (rInA K neg) (keyD k) (.dct es) P :=
  rv_now (fun B H v1 v2 Q h1 h2 q => by
    unfold Dat at h2
    obtain ⟨a, xs, rfl, s1, t1⟩ := h2
    have e : (valV xs k).isSome = (valD es k).isSome := by
      rcases t1.val k with ⟨z1, z2⟩ | ⟨v, d', z1, z2, hv⟩ <;> rw [z1, z2] <;> rfl
    refine Or.inr (Or.inl ⟨a, valV xs k, rfl, Or.inl ⟨xs, k, s1.2, keyD_dat h1, rfl⟩, ?_⟩)
    rw [e]
    exact q _ (dBl.mpr rfl)) p
theorem rv_inS {neg : Bool} {c : Nat} {z : Str} (p : P (.bl (if neg then !decide (c ∈ z.cps.toList) else decide (c ∈ z.cps.toList)))) : Rv W (rInA K neg) (.str ⟨#[c]⟩) (.str z) P :=
  rv_now (fun B H v1 v2 Q h1 h2 q => Or.inr (Or.inr ⟨c, z, dStr.mp h1, dStr.mp h2, q _ (dBl.mpr rfl)⟩)) p
/-! ==, != of flat things -/
theorem rv_eqF {d1 d2 : Da} {w1 w2 : V} (e1 : d1.flatv = some w1) (e2 : d2.flatv = some w2) (hs : scal w1 w2 = true) (p : P (.bl (decide (w1 = w2)))) : Rv W (rEqA K) d1 d2 P :=
  rv_now (fun B H v1 v2 Q h1 h2 q => by
    have q1 := flatv_dat h1 e1
    have q2 := flatv_dat h2 e2
    subst q1 q2
    exact Or.inl ⟨hs, q _ (dBl.mpr rfl)⟩) p
theorem rv_neF {d1 d2 : Da} {w1 w2 : V} (e1 : d1.flatv = some w1) (e2 : d2.flatv = some w2) (hs : scal w1 w2 = true) (p : P (.bl (!decide (w1 = w2)))) : Rv W (rNeA K) d1 d2 P :=
  rv_now (fun B H v1 v2 Q h1 h2 q => by
    have q1 := flatv_dat h1 e1
    have q2 := flatv_dat h2 e2
    subst q1 q2
    exact Or.inl ⟨hs, q _ (dBl.mpr rfl)⟩) p
/-! ==, != of nested lists and tuples -/
mutual
def Da.py : Da → PyData
  | .non => .none
  | .bl b => .bool b
  | .int i => .int i
  | .str x => .str x
  | .lst xs => .list (pys xs)
  | .tup xs => .tuple (pys xs)
  | _ => .none
def pys : List Da → List PyData
  | [] => []
  | d :: ds => d.py :: pys ds
end
mutual
/-- flat things, lists and tuples of them -/
def Da.plain : Da → Bool
  | .non => true
  | .bl _ => true
  | .int _ => true
  | .str _ => true
  | .lst xs => plains xs
  | .tup xs => plains xs
  | _ => false
def plains : List Da → Bool
  | [] => true
  | d :: ds => d.plain && plains ds
end
mutual
theorem Dat.dp {B : List Addr} {H : Hp} : ∀ (d : Da) (v : V), d.plain = true → Dat K B H v d → Dp K H v d.py
  | .non, v, _, h => by
    unfold Dat at h
    subst h
    exact .non
  | .bl b, v, _, h => by
    unfold Dat at h
    subst h
    exact .bl b
  | .int b, v, _, h => by
    unfold Dat at h
    subst h
    exact .int b
  | .str b, v, _, h => by
    unfold Dat at h
    subst h
    exact .str b
  | .lst xs, v, p, h => by
    unfold Dat at h
    obtain ⟨a, vs, rfl, s, t⟩ := h
    unfold Da.plain at p
    unfold Da.py
    exact .lst s.sq (Dats.dp xs vs p t)
  | .tup xs, v, p, h => by
    unfold Dat at h
    obtain ⟨a, vs, rfl, s, t⟩ := h
    unfold Da.plain at p
    unfold Da.py
    exact .tup s.sq (Dats.dp xs vs p t)
  | .dct _, _, p, _ => by unfold Da.plain at p; cases p
  | .ins _ _, _, p, _ => by unfold Da.plain at p; cases p
  | .obj _, _, p, _ => by unfold Da.plain at p; cases p
  | .ty _, _, p, _ => by unfold Da.plain at p; cases p
  | .exc _ _, _, p, _ => by unfold Da.plain at p; cases p
theorem Dats.dp {B : List Addr} {H : Hp} : ∀ (ds : List Da) (vs : List V), plains ds = true → Dats K B H vs ds → DpAll K H vs (pys ds)
  | [], vs, _, h => by
    unfold Dats at h
    subst h
    unfold pys
    exact .nil
  | d :: ds, vs, p, h => by
    unfold Dats at h
    obtain ⟨v, r, rfl, h1, t⟩ := h
    unfold plains at p
    obtain ⟨p1, p2⟩ := Bool.and_eq_true_iff.mp p
    unfold pys
    exact .cons (Dat.dp d v p1 h1) (Dats.dp ds r p2 t)
end
theorem rv_eqP {d1 d2 : Da} (p1 : d1.plain = true) (p2 : d2.plain = true) (s1 : SeqAt.shaped d1.py = true) (s2 : SeqAt.shaped d2.py = true) (p : P (.bl (PyData.eqv d1.py d2.py))) : Rv W (rEqA K) d1 d2 P :=
  rv_now (fun B H v1 v2 Q h1 h2 q => Or.inr ⟨_, _, Dat.dp d1 v1 p1 h1, Dat.dp d2 v2 p2 h2, s1, s2, q _ (dBl.mpr rfl)⟩) p
theorem rv_neP {d1 d2 : Da} (p1 : d1.plain = true) (p2 : d2.plain = true) (s1 : SeqAt.shaped d1.py = true) (s2 : SeqAt.shaped d2.py = true) (p : P (.bl (!PyData.eqv d1.py d2.py))) : Rv W (rNeA K) d1 d2 P :=
  rv_now (fun B H v1 v2 Q h1 h2 q => Or.inr ⟨_, _, Dat.dp d1 v1 p1 h1, Dat.dp d2 v2 p2 h2, s1, s2, q _ (dBl.mpr rfl)⟩) p
/-! len, isinstance -/
theorem rc_lenS {x : Str} (hl : x.length ≤ 100000) (p : P (.int x.length)) : Rc W (rLenA K) [.str x] P := fun B H M vs s h Q q => by
  unfold Dats at h
  obtain ⟨v, r, rfl, h1, t⟩ := h
  unfold Dats at t
  subst t
  exact Or.inl ⟨v, x.length, rfl, by rw [dStr.mp h1]; exact ⟨Nat.le_trans hl (by decide), rfl⟩, q _ (.int x.length) H Kp.refl s.dr (dInt.mpr rfl) p⟩
theorem rc_lenL {ds : List Da} (p : P (.int ds.length)) : Rc W (rLenA K) [.lst ds] P := fun B H M vs s h Q q => by
  unfold Dats at h
  obtain ⟨v, r, rfl, h1, t⟩ := h
  unfold Dats at t
  subst t
  unfold Dat at h1
  obtain ⟨a, xs, rfl, s1, t1⟩ := h1
  exact Or.inl ⟨_, xs.length, rfl, Or.inl ⟨xs, s1.sq, rfl⟩, by rw [t1.length]; exact q _ (.int ds.length) H Kp.refl s.dr (dInt.mpr rfl) p⟩
theorem rc_lenT {ds : List Da} (p : P (.int ds.length)) : Rc W (rLenA K) [.tup ds] P := fun B H M vs s h Q q => by
  unfold Dats at h
  obtain ⟨v, r, rfl, h1, t⟩ := h
  unfold Dats at t
  subst t
  unfold Dat at h1
  obtain ⟨a, xs, rfl, s1, t1⟩ := h1
  exact Or.inl ⟨_, xs.length, rfl, Or.inr ⟨xs, s1.sq, rfl⟩, by rw [t1.length]; exact q _ (.int ds.length) H Kp.refl s.dr (dInt.mpr rfl) p⟩
theorem rc_lenD {es : List (Key × Da)} (p : P (.int es.length)) : Rc W (rLenA K) [.dct es] P := fun B H M vs s h Q q => by
  unfold Dats at h
  obtain ⟨v, r, rfl, h1, t⟩ := h
  unfold Dats at t
  subst t
  unfold Dat at h1
  obtain ⟨a, xs, rfl, s1, t1⟩ := h1
  exact Or.inr ⟨a, xs, rfl, s1.2, by rw [t1.length]; exact q _ (.int es.length) H Kp.refl s.dr (dInt.mpr rfl) p⟩
end
end WJ
set_option Elab.async false
set_option linter.all false
set_option maxRecDepth 100000
set_option maxHeartbeats 2000000
/-! WjI: names of the module, defs by their names, kinds of data, all, any -/
namespace WJ
open PySem L2
section
variable {X : Cx}
theorem pe_globI {x : Str} {i : Int} {pos : Pos} (hg : Gl X x) (h : ∃ t, X.mg x = some (.int i t)) (hd : (x == ("__debug__" : Str)) = false := by decide) : PE X (.Name x pos) (tC (.int i)) := by
  obtain ⟨t, e⟩ := h
  exact pe_glob hg e ⟨t, rfl⟩ hd
theorem pe_globS {x z : Str} {pos : Pos} (hg : Gl X x) (h : ∃ t, X.mg x = some (.str z t)) (hd : (x == ("__debug__" : Str)) = false := by decide) : PE X (.Name x pos) (tC (.str z)) := by
  obtain ⟨t, e⟩ := h
  exact pe_glob hg e ⟨t, rfl⟩ hd
theorem pe_globR {x : Str} {a : Addr} {pos : Pos} (hg : Gl X x) (h : X.mg x = some (.ref a)) (hd : (x == ("__debug__" : Str)) = false := by decide) : PE X (.Name x pos) (tC (.ref a)) := pe_glob hg h rfl hd
theorem pe_type {x : Str} {n : String} {pos : Pos} (hg : Gl X x) (hm : X.mg x = none) (hv : bootBuiltins x = some (.type n)) (hn : x ≠ "__name__" := by decide) (hd : (x == ("__debug__" : Str)) = false := by decide) : PE X (.Name x pos) (tC (.ty n)) := pe_bltn hg hm hv rfl hn hd
/-- the def called x keeps the promise sp -/
structure Fnd (P : Program) (w : World) (K : PySem.W.Frag) (mg : Str → Option Value) (base : Heap) (k : Nat) (x : Str) (ps : List Str) (sp : Sp) : Prop where
  ex : ∃ (f : Addr) (fd : FuncData), FnOk P w K mg base CX0 k f fd ps sp ∧ mg x = some (.ref f) ∧ PySem.W.keepIn K (.ref f) = true ∧ Binds K fd ps []
theorem pe_fun {k j : Nat} {x : Str} {ps : List Str} {sp : Sp} {e : Expr} {es : List Expr} {t : TA} {p pos : Pos} (h : Fnd X.prog X.w X.K X.mg X.base j x ps sp) (hr : Room k X.A) (hj : j ≤ k) (hg : Gl X x) (ha : PA X (e :: es) t)
    (hdb : (x == ("__debug__" : Str)) = false := by decide) (he : starEach (e :: es) X.env = (false, eval e X.env) :: starEach es X.env := by rfl) (hpl : (backTo pos (starEach es X.env)).any (·.1) = false := by rfl) :
    PE X (.Call (.Name x p) (e :: es) [] pos) (tCall sp [] E0 t) := by
  obtain ⟨f, fd, F, hm, hk, hb⟩ := h.ex
  exact pe_call F (hr.mono hj) hg hm hk hb .nil pass0 ha hdb he hpl
end
section
variable {K : PySem.W.Frag} {W : Wd K} {P : Da → Prop}
theorem ev_ty {Γ : List En} {n : String} : Ev W (tC (.ty n)) Γ 0 (· = .ty n) := ev_c fun _ _ => by unfold Dat; rfl
/-- the kind of a thing -/
def Da.kind : Da → Option String
  | .non => some "NoneType"
  | .bl _ => some "bool"
  | .int _ => some "int"
  | .str _ => some "str"
  | .lst _ => some "list"
  | .tup _ => some "tuple"
  | .dct _ => some "dict"
  | _ => none
theorem kind_ty {B : List Addr} {H : Hp} {v : V} {d : Da} {n : String} (h : Dat K B H v d) (e : d.kind = some n) : TyX K H v (.type n) := by
  cases d with
  | non => cases e; unfold Dat at h; subst h; exact .base .non
  | bl b => cases e; unfold Dat at h; subst h; exact .base (.bl b)
  | int b => cases e; unfold Dat at h; subst h; exact .base (.int b)
  | str b => cases e; unfold Dat at h; subst h; exact .base (.str b)
  | lst b =>
    cases e
    unfold Dat at h
    obtain ⟨a, xs, rfl, s, _⟩ := h
    rcases s with ⟨_, s | ⟨o, s⟩⟩ | s | ⟨o, its, n, s, c, _⟩
    · exact .base (.lst s)
    · exact .base (.frz s)
    · exact (rd_none s).elim
    · exact .kList s c
  | tup b =>
    cases e
    unfold Dat at h
    obtain ⟨a, xs, rfl, s, _⟩ := h
    rcases s with ⟨_, s | ⟨o, s⟩⟩ | s | ⟨o, its, n, s, c, _⟩
    · exact .base (.tup s)
    · exact .fTuple s
    · exact (rd_none s).elim
    · exact .kTuple s c
  | dct b =>
    cases e
    unfold Dat at h
    obtain ⟨a, xs, rfl, ⟨_, s | ⟨o, s⟩⟩, _⟩ := h
    · exact .base (.dK s)
    · exact .fDict s
  | ins C fs => cases e
  | obj a => cases e
  | ty m => cases e
  | exc c fs => cases e
theorem rc_isi {d : Da} {t n : String} {b : Bool} (e : d.kind = some t) (hb : kitB t n = some b) (p : P (.bl b)) : Rc W (rIsiA K) [d, .ty n] P := fun B H M vs s h Q q => by
  unfold Dats at h
  obtain ⟨v, r, rfl, h1, t1⟩ := h
  unfold Dats at t1
  obtain ⟨v2, r2, rfl, h2, t2⟩ := t1
  unfold Dats at t2
  subst t2
  unfold Dat at h2
  subst h2
  exact Or.inl ⟨v, .ty n, .type t, .type n, b, rfl, .ty n, kind_ty h1 e, kit_ty hb, q _ (.bl b) H Kp.refl s.dr (dBl.mpr rfl) p⟩
/-- isinstance(x, (T1, T2)) -/
theorem ev_isi2 {Γ : List En} {tx : TE} {c : Nat} {n1 n2 : String} {Px : Da → Prop} (h : Ev W tx Γ c Px) (hk : ∀ d, Px d → ∃ t b1 b2, d.kind = some t ∧ kitB t n1 = some b1 ∧ kitB t n2 = some b2 ∧ P (.bl (b1 || b2))) :
    Ev W (tCB (rIsiA K) (tCons tx (tCons (tTup (tCons (tC (.ty n1)) (tCons (tC (.ty n2)) tNil))) tNil))) Γ c P := fun H0 B0 B σ H M s hM Q q =>
  h H0 B0 B σ H M s hM _ fun v d H1 k r hd pd => by
    obtain ⟨t, b1, b2, e, h1, h2, p⟩ := hk d pd
    refine ⟨by show 2 ≤ sizeLine; decide, fun tp np => ?_⟩
    have hk : PySem.W.kitAny K (.type t) [.type n1, .type n2] = some (b1 || b2) := by
      refine kitAny_cons (kit_ty h1) (fun z => ?_) (fun z => by rw [z]; rfl)
      refine kitAny_cons (kit_ty h2) (fun z2 => ?_) (fun z2 => by rw [z, z2]; rfl)
      rw [z, z2]
      rfl
    have hd2 : Dat K B (upd H1 tp (.tup [.ty n1, .ty n2])) v d := Dat.mono (Kp.new np) d v hd
    exact Or.inr ⟨v, tp, _, .type t, [.type n1, .type n2], b1 || b2, rfl, upd_same, .cons (.ty n1) (.cons (.ty n2) .nil), kind_ty hd2 e, hk, q _ (.bl (b1 || b2)) _ (k.trans (Kp.new np)) (Wd.new np r) (dBl.mpr rfl) p⟩
theorem rc_all {bs : List Bool} (p : P (.bl (bs.all id))) : Rc W (rAll K) [.lst (bs.map Da.bl)] P := fun B H M vs s h Q q => by
  unfold Dats at h
  obtain ⟨v, r, rfl, h1, t1⟩ := h
  unfold Dats at t1
  subst t1
  unfold Dat at h1
  obtain ⟨a, xs, rfl, s1, t1⟩ := h1
  have e := t1.bls
  subst e
  exact ⟨a, bs, rfl, s1.sq, q _ (.bl (bs.all id)) H Kp.refl s.dr (dBl.mpr rfl) p⟩
theorem rc_any {bs : List Bool} (p : P (.bl (bs.any id))) : Rc W (rAny K) [.lst (bs.map Da.bl)] P := fun B H M vs s h Q q => by
  unfold Dats at h
  obtain ⟨v, r, rfl, h1, t1⟩ := h
  unfold Dats at t1
  subst t1
  unfold Dat at h1
  obtain ⟨a, xs, rfl, s1, t1⟩ := h1
  have e := t1.bls
  subst e
  exact ⟨a, bs, rfl, s1.sq, q _ (.bl (bs.any id)) H Kp.refl s.dr (dBl.mpr rfl) p⟩
/-- a comprehension of a function, without a test -/
theorem evF_map {Γ Γ' : List En} {wi : TI} {i : Nat} {te : TE} {c0 cb n : Nat} {ds : List Da} {f : Da → Da} (hi : Ei W wi Γ c0 (· = ds)) (he : ∀ d ∈ ds, Ev W te ((wipeE Γ [i]).set i (.dat d)) cb (· = f d)) (hn : ds.length ≤ n) (hz : n ≤ 100000) :
    EvF W (tLc wi (gName i) tYes te [i]) Γ (c0 + n * cb) (· = ds.map f) := by
  refine (evF_lc (n := n) (R := fun ds j acc => acc = (ds.take j).map f) hi (fun ds h => by simp) (fun ds' j d acc h hj ha => ?_) (fun ds' h => by rw [h]; exact hn) hz).weak (Nat.le_refl _) (fun acc ⟨ds', h1, h2⟩ => by rw [h2, h1, List.take_length])
  subst h
  refine ⟨_, fun b => b = true, 0, cb, eg_name, by omega, et_yes rfl, fun _ => (he d (List.mem_of_getElem? hj)).imp fun e q => ?_, fun z => by cases z⟩
  rw [ha, q, List.take_succ, hj]
  simp
/-- a comprehension of a function with a test -/
theorem evF_filter {Γ : List En} {wi : TI} {i : Nat} {te : TE} {tt : TT} {c0 ct ce n : Nat} {ds : List Da} {f : Da → Da} {t : Da → Bool} (hi : Ei W wi Γ c0 (· = ds)) (ht : ∀ d ∈ ds, EvT W tt ((wipeE Γ [i]).set i (.dat d)) ct (· = t d))
    (he : ∀ d ∈ ds, t d = true → Ev W te ((wipeE Γ [i]).set i (.dat d)) ce (· = f d)) (hn : ds.length ≤ n) (hz : n ≤ 100000) :
    EvF W (tLc wi (gName i) tt te [i]) Γ (c0 + n * (ct + ce)) (· = (ds.filter t).map f) := by
  refine (evF_lc (n := n) (R := fun ds j acc => acc = ((ds.take j).filter t).map f) hi (fun ds h => by simp) (fun ds' j d acc h hj ha => ?_) (fun ds' h => by rw [h]; exact hn) hz).weak (Nat.le_refl _) (fun acc ⟨ds', h1, h2⟩ => by rw [h2, h1, List.take_length])
  subst h
  have hd := List.mem_of_getElem? hj
  refine ⟨_, fun b => b = t d, ct, ce, eg_name, Nat.le_refl _, ht d hd, fun z => (he d hd z.symm).imp fun e q => ?_, fun z => ?_⟩
  · rw [ha, q, List.take_succ, hj]
    simp [List.filter_append, ← z]
  · rw [ha, List.take_succ, hj]
    simp [List.filter_append, ← z]
end
end WJ
set_option Elab.async false
set_option linter.all false
set_option maxRecDepth 100000
set_option maxHeartbeats 2000000
/-! WjJ: the source of draws with a list of digits, cells and a turn; _law_next, _law_pick over it -/
namespace WJ
open PySem L2
def rIntA : List V → Hp → VK → Prop := fun xs H Q => (∃ i, xs = [.int i] ∧ Q (.int i) H) ∨ ∃ k, xs = [.bl k] ∧ Q (.int (if k then 1 else 0)) H
theorem o_int {X : Cx} : CallR X (.type "int") rIntA := call_int1
def rAbs : List V → Hp → VK → Prop := fun xs H Q => ∃ i, xs = [.int i] ∧ Q (.int (if i < 0 then -i else i)) H
theorem o_abs {X : Cx} : CallR X (.builtin "abs") rAbs := call_abs
/-- a list of ints as data that == reads -/
theorem dp_ints {K : PySem.W.Frag} {H : Hp} : ∀ ns : List Int, DpAll K H (ns.map V.int) (ns.map PyData.int)
  | [] => .nil
  | n :: ns => .cons (.int n) (dp_ints ns)
theorem can_ints : ∀ ns : List Int, PyData.canLayAll0 (ns.map PyData.int) = true
  | [] => rfl
  | n :: ns => by
    show (PyData.canLay0 (PyData.int n) && PyData.canLayAll0 (ns.map PyData.int)) = true
    rw [can_ints ns]
    rfl
theorem dep_ints : ∀ ns : List Int, PyData.depthAll (ns.map PyData.int) ≤ 1
  | [] => by decide
  | n :: ns => by
    have h := dep_ints ns
    rw [List.map_cons]
    unfold PyData.depthAll
    unfold PyData.depth
    omega
theorem shaped_ints (ns : List Int) : SeqAt.shaped (.list (ns.map PyData.int)) = true := by
  unfold SeqAt.shaped
  have h := dep_ints ns
  have e : PyData.canLay0 (.list (ns.map PyData.int)) = true := by
    unfold PyData.canLay0
    exact can_ints ns
  have e2 : PyData.depth (.list (ns.map PyData.int)) ≤ 64 := by
    unfold PyData.depth
    omega
  rw [e, decide_eq_true e2]
  rfl
theorem eqv_nil (ns : List Int) : PyData.eqv (.list (ns.map PyData.int)) (.list []) = ns.isEmpty := by
  cases ns with
  | nil => rfl
  | cons n ns => rfl
section
variable {K : PySem.W.Frag} {σ : L2.St} {H : Hp}
/-- d[x] of a dict that stands -/
theorem rd_at {p : Addr} {kvs : List (Key × V)} {x : Str} {v : V} {Q : VK} (hσ : σ[0]? = some (some (.ref p))) (hp : H p = some (.dK kvs)) (hv : valV kvs (Sum.inr x) = some v) (h : Q v H) : tOp (rIxA K) (tVar 0) (tC (.str x)) σ H Q :=
  ⟨_, hσ, Or.inr ⟨p, v, rfl, Or.inl ⟨kvs, Sum.inr x, Or.inl hp, rfl, hv.symm⟩, h⟩⟩
/-- xs != [] -/
theorem ne_nil {g : Addr} {ns : List Int} {te : TE} {Q : Bool → Hp → Prop} (he : ∀ Q : VK, Q (.ref g) H → te σ H Q) (hg : H g = some (.lst (ns.map V.int))) (h : ∀ q, H q = none → Q (!ns.isEmpty) (upd H q (.lst []))) : tTest (tOp (rNeA K) te (tLst tNil)) σ H Q := by
  refine he _ ⟨by decide, fun q nq => ?_⟩
  have hg2 : upd H q (.lst []) g = some (.lst (ns.map V.int)) := by
    rw [upd_ne (ne_of_none hg nq)]
    exact hg
  refine Or.inr ⟨.list (ns.map PyData.int), .list [], .lst (Or.inl (Or.inl hg2)) (dp_ints ns), .lst (Or.inl (Or.inl upd_same)) .nil, shaped_ints ns, shaped_ints [], ?_⟩
  rw [eqv_nil]
  exact ⟨_, rfl, h q nq⟩
end
/-! ### the second kind of source -/
def kv2 (g l : Addr) (t : Int) : List (Key × V) := [(Sum.inr "digits", .ref g), (Sum.inr "cells", .ref l), (Sum.inr "turn", .int t)]
theorem k_dc : ¬ (Sum.inr "digits" : Key) = (Sum.inr "cells" : Key) := by decide +kernel
theorem k_dt : ¬ (Sum.inr "digits" : Key) = (Sum.inr "turn" : Key) := by decide +kernel
theorem k_ct : ¬ (Sum.inr "cells" : Key) = (Sum.inr "turn" : Key) := by decide +kernel
theorem kv2_d {g l : Addr} {t : Int} : valV (kv2 g l t) (Sum.inr "digits") = some (.ref g) := valV_pos rfl
theorem kv2_c {g l : Addr} {t : Int} : valV (kv2 g l t) (Sum.inr "cells") = some (.ref l) := by
  unfold kv2
  rw [valV_neg k_dc, valV_pos rfl]
theorem kv2_t {g l : Addr} {t : Int} : valV (kv2 g l t) (Sum.inr "turn") = some (.int t) := by
  unfold kv2
  rw [valV_neg k_dt, valV_neg k_ct, valV_pos rfl]
theorem kv2_put {g l : Addr} {t u : Int} : putK (kv2 g l t) (Sum.inr "turn") (.int u) = kv2 g l u := by
  unfold putK
  rw [valV_any, kv2_t, if_pos (show (some (V.int t)).isSome = true from rfl)]
  unfold kv2
  rw [List.map_cons, List.map_cons, List.map_cons, if_neg k_dt, if_neg k_ct, if_pos rfl]
  rfl
/-- what holds of the source: the budget M bounds the turns to come -/
structure Dr2 (p g l : Addr) (M : Nat) (H : Hp) : Prop where
  ex : ∃ (ds cs : List Int) (t : Int), H p = some (.dK (kv2 g l t)) ∧ H g = some (.lst (ds.map V.int)) ∧ H l = some (.lst (cs.map V.int)) ∧ (∀ d ∈ ds, 0 ≤ d) ∧ (∀ c ∈ cs, 0 ≤ c ∧ c < 2147483648) ∧ cs ≠ [] ∧ cs.length ≤ 1000 ∧ 0 ≤ t ∧ t + M ≤ 68719476736 ∧ g ≠ l
def DW2 (K : PySem.W.Frag) (p g l : Addr) : Wd K where
  F := [p, g, l]
  Dr := Dr2 p g l
  pres := fun {M H H'} h ⟨ds, cs, t, e1, e2, e3, r⟩ => ⟨ds, cs, t, (h p (by simp)).trans e1, (h g (by simp)).trans e2, (h l (by simp)).trans e3, r⟩
  alive := fun {M H} ⟨ds, cs, t, e1, e2, e3, r⟩ b hb => by
    simp only [List.mem_cons, List.not_mem_nil, or_false] at hb
    rcases hb with rfl | rfl | rfl
    · rw [e1]; exact Option.some_ne_none _
    · rw [e2]; exact Option.some_ne_none _
    · rw [e3]; exact Option.some_ne_none _
  less := fun {M N H} ⟨ds, cs, t, e1, e2, e3, h1, h2, h3, h4, h5, h6, h7⟩ hn => ⟨ds, cs, t, e1, e2, e3, h1, h2, h3, h4, h5, by omega, h7⟩
def t_n2mix (K : PySem.W.Frag) : TS :=
  (tSeq (sDAug (tVar 0) (tC (.str "turn")) (tC (.int 1)) rAdd)
    (tSeq (tAsg (tOp (rIxA K) (tOp (rIxA K) (tVar 0) (tC (.str "cells"))) (tOp (rI (fun _ j => 0 < j) fun i j => .int (i % j)) (tCB (rIntA) (tCons (tOp (rIxA K) (tVar 0) (tC (.str "turn"))) tNil)) (tCB (rLenA K) (tCons (tOp (rIxA K) (tVar 0) (tC (.str "cells"))) tNil)))) (gName 3))
    (tSeq (tAsg (tOp (rI (fun _ j => 0 < j) fun i j => .int (i % j)) (tCB (rIntA) (tCons (tOp (rI CPow fun i j => .int (i ^ j.toNat)) (tOp (rAddA K) (tVar 3) (tOp (rI CMulW fun i j => .int (i * j)) (tC (.int 15485863)) (tOp (rIxA K) (tVar 0) (tC (.str "turn"))))) (tC (.int 3))) tNil)) (tC (.int 2147483647))) (gName 4))
    (tRet (tOp (rI (fun _ j => 0 < j) fun i j => .int (i % j)) (tCB (rIntA) (tCons (tOp (rI CDivW fun i j => .int (i / j)) (tOp (rI (fun _ j => 0 < j) fun i j => .int (i % j)) (tCB (rIntA) (tCons (tOp (rI CPow fun i j => .int (i ^ j.toNat)) (tOp (rAddA K) (tVar 4) (tOp (rI CMulW fun i j => .int (i * j)) (tC (.int 32452843)) (tOp (rIxA K) (tVar 0) (tC (.str "turn"))))) (tC (.int 5))) tNil)) (tC (.int 2147483579))) (tC (.int 13))) tNil)) (tVar 1))))))
def t_n2dig (K : PySem.W.Frag) : TS :=
  (tIfS (tTest (tOp (rNeA K) (tOp (rIxA K) (tVar 0) (tC (.str "digits"))) (tLst tNil)))
    (tSeq (tAsg (tOp (rI (fun _ j => 0 < j) fun i j => .int (i % j)) (tCB (rIntA) (tCons (tOp (rIxA K) (tOp (rIxA K) (tVar 0) (tC (.str "digits"))) (tC (.int 0))) tNil)) (tVar 1)) (gName 2))
    (tSeq (tAsg (tOp (rI CDivW fun i j => .int (i / j)) (tOp (rIxA K) (tOp (rIxA K) (tVar 0) (tC (.str "digits"))) (tC (.int 0))) (tVar 1)) (gSub (tOp (rIxA K) (tVar 0) (tC (.str "digits"))) (tC (.int 0)) rSetL))
    (tRet (tVar 2))))
    tNext)
def t_next2 (K : PySem.W.Frag) : TS :=
  tSeq (tWhile (tAnd (tTest (tOp (rNeA K) (tOp (rIxA K) (tVar 0) (tC (.str "digits"))) (tLst tNil))) (tTest (tOp (rEqA K) (tOp (rIxA K) (tOp (rIxA K) (tVar 0) (tC (.str "digits"))) (tC (.int 0))) (tC (.int 0)))))
    (tDrop (tBM K "list" rPopAt (tOp (rIxA K) (tVar 0) (tC (.str "digits"))) (tCons (tC (.int 0)) tNil))))
    (tSeq (t_n2dig K) (t_n2mix K))
theorem cpow3 {x : Int} (h0 : 0 ≤ x) (h1 : x < 2 ^ 63) : CPow x 3 := ⟨by decide, by decide, by omega⟩
theorem cpow5 {x : Int} (h0 : 0 ≤ x) (h1 : x < 2 ^ 63) : CPow x 5 := ⟨by decide, by decide, by omega⟩
theorem log2_small {x : Int} (h0 : 0 ≤ x) (h1 : x < 2 ^ 62) : x.natAbs.log2 < 63 := by
  have := PySem.Flt.log2_lt_of (n := x.natAbs) (k := 63) (by decide) (by omega)
  exact this
theorem mod_b {a n : Int} (h : 0 < n) : 0 ≤ a % n ∧ a % n < n := ⟨Int.emod_nonneg a (by omega), Int.emod_lt_of_pos a h⟩
theorem lst_get {ns : List Int} {i : Nat} (h : i < ns.length) : (ns.map V.int)[i]? = some (V.int (ns[i])) := by
  rw [List.getElem?_map, List.getElem?_eq_getElem h]
  rfl
theorem atI_cons {v : V} {vs : List V} : atI (v :: vs) 0 = some v := by
  unfold atI ixN
  rw [List.length_cons, if_pos (by decide), if_pos (by omega)]
  rfl
theorem atI_nat' {vs : List V} {i : Int} {v : V} (h0 : 0 ≤ i) (h : vs[i.toNat]? = some v) : atI vs i = some v := by
  have hl : i.toNat < vs.length := (List.getElem?_eq_some_iff.mp h).1
  unfold atI ixN
  rw [if_pos h0, if_pos (by omega)]
  exact h
theorem five {σ : L2.St} (h : σ.length = 5) : ∃ a b c d e, σ = [a, b, c, d, e] := by
  match σ, h with
  | [a, b, c, d, e], _ => exact ⟨a, b, c, d, e, rfl⟩
/-- the source as it stands, in pieces -/
structure D2 (p g l : Addr) (ds cs : List Int) (t : Int) (H : Hp) : Prop where
  hp : H p = some (.dK (kv2 g l t))
  hg : H g = some (.lst (ds.map V.int))
  hl : H l = some (.lst (cs.map V.int))
theorem D2.new {p g l q : Addr} {ds cs : List Int} {t : Int} {H : Hp} {u : HO} (h : D2 p g l ds cs t H) (nq : H q = none) : D2 p g l ds cs t (upd H q u) :=
  ⟨by rw [upd_ne (ne_of_none h.hp nq)]; exact h.hp, by rw [upd_ne (ne_of_none h.hg nq)]; exact h.hg, by rw [upd_ne (ne_of_none h.hl nq)]; exact h.hl⟩
theorem D2.ngp {p g l : Addr} {ds cs : List Int} {t : Int} {H : Hp} (h : D2 p g l ds cs t H) : g ≠ p := ne_of h.hg h.hp (fun z => nomatch z)
theorem D2.nlp {p g l : Addr} {ds cs : List Int} {t : Int} {H : Hp} (h : D2 p g l ds cs t H) : l ≠ p := ne_of h.hl h.hp (fun z => nomatch z)
theorem D2.digs {p g l : Addr} {ds ds' cs : List Int} {t : Int} {H : Hp} (h : D2 p g l ds cs t H) (n : g ≠ l) : D2 p g l ds' cs t (upd H g (.lst (ds'.map V.int))) :=
  ⟨by rw [upd_ne h.ngp.symm]; exact h.hp, upd_same, by rw [upd_ne n.symm]; exact h.hl⟩
theorem D2.turn {p g l : Addr} {ds cs : List Int} {t u : Int} {H : Hp} (h : D2 p g l ds cs t H) : D2 p g l ds cs u (upd H p (.dK (kv2 g l u))) :=
  ⟨upd_same, by rw [upd_ne h.ngp]; exact h.hg, by rw [upd_ne h.nlp]; exact h.hl⟩
section
variable {K : PySem.W.Frag} {p g l : Addr} {n t : Int} {ds cs : List Int} {H : Hp} {D : Ends} {s2 s3 s4 : Option V}
/-- behind the digits: a turn more, a cell, mixed -/
theorem n2mix (h : D2 p g l ds cs t H) (hn0 : 0 < n) (hcs : ∀ c ∈ cs, 0 ≤ c ∧ c < 2147483648) (hc0 : cs ≠ []) (hcl : cs.length ≤ 1000) (ht0 : 0 ≤ t) (ht : t < 68719476736)
    (hD : ∀ k H', D2 p g l ds cs (t + 1) H' → Kp [p] H H' → 0 ≤ k → k < n → D.rt (.int k) H') : t_n2mix K D [some (.ref p), some (.int n), s2, s3, s4] H := by
  -- turn += 1
  refine ⟨_, rfl, p, _, rfl, Or.inl ⟨_, Sum.inr "turn", Or.inl h.hp, rfl, kv2_t.symm⟩, t, 1, rfl, rfl, _, Or.inl ⟨_, Sum.inr "turn", h.hp, rfl, (by show 3 < sizeLine; decide), rfl⟩, ?_⟩
  rw [kv2_put]
  have h1 : D2 p g l ds cs (t + 1) (upd H p (.dK (kv2 g l (t + 1)))) := h.turn
  have k1 : Kp [p] H (upd H p (.dK (kv2 g l (t + 1)))) := Kp.mut (by simp)
  generalize upd H p (.dK (kv2 g l (t + 1))) = H1 at h1 k1 ⊢
  -- the cell
  refine rd_at rfl h1.hp kv2_c (rd_at rfl h1.hp kv2_t (Or.inl ⟨_, rfl, rd_at rfl h1.hp kv2_c (Or.inl ⟨_, (cs.map V.int).length, rfl, Or.inl ⟨_, Or.inl (Or.inl h1.hl), rfl⟩, ?_⟩)⟩))
  have hcp : 0 < cs.length := List.length_pos_iff.mpr hc0
  rw [List.length_map]
  refine ⟨t + 1, (cs.length : Int), rfl, rfl, by omega, ?_⟩
  have hb := mod_b (a := t + 1) (n := (cs.length : Int)) (by omega)
  have hi : ((t + 1) % (cs.length : Int)).toNat < cs.length := by omega
  refine Or.inl (Or.inl ⟨l, _, _, _, rfl, rfl, Or.inl (Or.inl h1.hl), atI_nat' hb.1 (lst_get hi), ?_⟩)
  generalize hc : cs[((t + 1) % (cs.length : Int)).toNat] = c
  have hc2 : 0 ≤ c ∧ c < 2147483648 := hcs c (by rw [← hc]; exact List.getElem_mem hi)
  -- mixed
  refine ⟨_, rfl, rd_at rfl h1.hp kv2_t ⟨15485863, t + 1, rfl, rfl, ?_, Or.inl ⟨_, _, rfl, rfl, _, 3, rfl, rfl, cpow3 (by omega) (by omega), Or.inl ⟨_, rfl, _, 2147483647, rfl, rfl, (by show (0 : Int) < 2147483647; decide), ?_⟩⟩⟩⟩
  · show Nat.log2 _ + Nat.log2 _ < 1000000
    have := log2_small (x := t + 1) (by omega) (by omega)
    have e : (15485863 : Int).natAbs.log2 = 23 := by decide +kernel
    omega
  generalize hm : (c + 15485863 * (t + 1)) ^ (3 : Int).toNat % 2147483647 = m
  have hm2 : 0 ≤ m ∧ m < 2147483647 := by rw [← hm]; exact mod_b (by decide)
  refine ⟨_, rfl, rd_at rfl h1.hp kv2_t ⟨32452843, t + 1, rfl, rfl, ?_, Or.inl ⟨_, _, rfl, rfl, _, 5, rfl, rfl, cpow5 (by omega) (by omega), Or.inl ⟨_, rfl, _, 2147483579, rfl, rfl, (by show (0 : Int) < 2147483579; decide), _, 13, rfl, rfl, ⟨by decide, by decide +kernel⟩, Or.inl ⟨_, rfl, _, rfl, _, n, rfl, rfl, hn0, ?_⟩⟩⟩⟩⟩
  · show Nat.log2 _ + Nat.log2 _ < 1000000
    have := log2_small (x := t + 1) (by omega) (by omega)
    have e : (32452843 : Int).natAbs.log2 = 24 := by decide +kernel
    omega
  exact hD _ _ h1 k1 (mod_b hn0).1 (mod_b hn0).2
theorem n2dig (h : D2 p g l ds cs t H) (hgl : g ≠ l) (hn0 : 0 < n) (hn : n < 2 ^ 62) (hds : ∀ d ∈ ds, 0 ≤ d)
    (hD : ∀ k ds' H', D2 p g l ds' cs t H' → (∀ d ∈ ds', 0 ≤ d) → Kp [g] H H' → 0 ≤ k → k < n → D.rt (.int k) H')
    (hN : ∀ H', D2 p g l ds cs t H' → Kp [] H H' → D.nx [some (.ref p), some (.int n), s2, s3, s4] H') : t_n2dig K D [some (.ref p), some (.int n), s2, s3, s4] H := by
  refine ne_nil (ns := ds) (fun Q q => rd_at rfl h.hp kv2_d q) h.hg fun q nq => ?_
  have h1 : D2 p g l ds cs t (upd H q (.lst [])) := h.new nq
  have k1 : Kp [] H (upd H q (.lst [])) := Kp.new nq
  generalize upd H q (.lst []) = H1 at h1 k1 ⊢
  cases ds with
  | nil => exact hN H1 h1 k1
  | cons d r =>
    refine iteT ?_
    refine rd_at rfl h1.hp kv2_d (Or.inl (Or.inl ⟨g, _, 0, .int d, rfl, rfl, Or.inl (Or.inl h1.hg), atI_cons, Or.inl ⟨d, rfl, _, rfl, d, n, rfl, rfl, hn0, ?_⟩⟩))
    refine rd_at rfl h1.hp kv2_d (Or.inl (Or.inl ⟨g, _, 0, .int d, rfl, rfl, Or.inl (Or.inl h1.hg), atI_cons, _, rfl, d, n, rfl, rfl, ⟨hn0, Nat.lt_trans (log2_small (by omega) hn) (by decide)⟩, ?_⟩))
    refine rd_at rfl h1.hp kv2_d ⟨g, _, 0, 0, rfl, rfl, h1.hg, (by rw [List.map_cons, List.length_cons]; unfold ixN; rw [if_pos (by decide), if_pos (by omega)]; rfl), _, rfl, ?_⟩
    have hb := mod_b (a := d) hn0
    have hd := hds d List.mem_cons_self
    have e : ((d :: r).map V.int).set 0 (.int (d / n)) = ((d / n) :: r).map V.int := rfl
    rw [e]
    refine hD _ ((d / n) :: r) _ (h1.digs hgl) (fun x hx => ?_) (k1.all.trans (Kp.mut (by simp))) hb.1 hb.2
    rcases List.mem_cons.mp hx with z | z
    · rw [z]
      exact Int.ediv_nonneg hd (by omega)
    · exact hds x (List.mem_cons_of_mem _ z)
end
theorem es_next2 {K : PySem.W.Frag} {p g l : Addr} {n : Int} (hn0 : 0 < n) (hn : n < 2 ^ 62) : Es (DW2 K p g l) (t_next2 K) [.dat (.obj p), .dat (.int n), .no, .no, .no] 1 ⟨fun _ => False, fun d => ∃ k, d = .int k ∧ 0 ≤ k ∧ k < n, fun _ => False, fun _ => False⟩ := by
  intro H0 B0 B σ H M D s hM a b e f
  obtain ⟨o0, e0, v0, rfl, d0⟩ := s.sl 0 _ rfl
  obtain ⟨o1, e1, v1, rfl, d1⟩ := s.sl 1 _ rfl
  unfold Dat at d0 d1
  subst d0 d1
  obtain ⟨s0, s1, s2, s3, s4, rfl⟩ := five s.ln
  cases e0
  cases e1
  obtain ⟨ds, cs, t, hp, hg, hl, hds, hcs, hc0, hcl, ht0, htM, hgl⟩ := s.dr
  have k0 := s.k0
  -- what is left behind the while
  have rest : ∀ ds1 H1, D2 p g l ds1 cs t H1 → (∀ d ∈ ds1, 0 ≤ d) → Kp [p, g, l] H0 H1 → tSeq (t_n2dig K) (t_n2mix K) D [some (.ref p), some (.int n), s2, s3, s4] H1 := fun ds1 H1 h1 hd1 k1 => by
    refine n2dig h1 hgl hn0 hn hd1 (fun k ds' H' h' hd' k' hk0 hk1 => ?_) (fun H' h' k' => ?_)
    · exact b _ (.int k) H' (k1.trans (k'.more (by simp))) ⟨ds', cs, t, h'.hp, h'.hg, h'.hl, hd', hcs, hc0, hcl, ht0, by omega, hgl⟩ (dInt.mpr rfl) ⟨k, rfl, hk0, hk1⟩
    · refine n2mix h' hn0 hcs hc0 hcl ht0 (by omega) (fun k H2 h2 k2 hk0 hk1 => ?_)
      exact b _ (.int k) H2 ((k1.trans k'.all).trans (k2.more (by simp))) ⟨ds1, cs, t + 1, h2.hp, h2.hg, h2.hl, hd1, hcs, hc0, hcl, by omega, by omega, hgl⟩ (dInt.mpr rfl) ⟨k, rfl, hk0, hk1⟩
  refine ⟨fun m σ' H' => σ' = [some (.ref p), some (.int n), s2, s3, s4] ∧ ∃ ds', m = ds'.length ∧ D2 p g l ds' cs t H' ∧ (∀ d ∈ ds', 0 ≤ d) ∧ Kp [p, g, l] H0 H', ⟨ds.length, rfl, ds, rfl, ⟨hp, hg, hl⟩, hds, k0⟩, ?_⟩
  rintro m σ' H1 ⟨rfl, ds1, rfl, h1, hd1, k1⟩
  refine ne_nil (ns := ds1) (fun Q q => rd_at rfl h1.hp kv2_d q) h1.hg fun q nq => ?_
  have h2 : D2 p g l ds1 cs t (upd H1 q (.lst [])) := h1.new nq
  have k2 : Kp [p, g, l] H0 (upd H1 q (.lst [])) := k1.trans (Kp.new nq)
  generalize upd H1 q (.lst []) = H2 at h2 k2 ⊢
  cases ds1 with
  | nil => exact rest [] H2 h2 hd1 k2
  | cons d r =>
    refine rd_at rfl h2.hp kv2_d (Or.inl (Or.inl ⟨g, _, 0, .int d, rfl, rfl, Or.inl (Or.inl h2.hg), atI_cons, Or.inl ⟨rfl, _, rfl, ?_⟩⟩))
    by_cases hd : d = 0
    · subst hd
      show ∃ N, _
      refine ⟨fun σ' H' => ∃ m', m' < (0 :: r).length ∧ σ' = [some (.ref p), some (.int n), s2, s3, s4] ∧ ∃ ds', m' = ds'.length ∧ D2 p g l ds' cs t H' ∧ (∀ d ∈ ds', 0 ≤ d) ∧ Kp [p, g, l] H0 H', fun σ' H' z => z, ?_⟩
      refine rd_at rfl h2.hp kv2_d ⟨Or.inl ⟨rfl, _, Or.inl (Or.inl h2.hg)⟩, g, _, 0, 0, .int 0, rfl, rfl, h2.hg, by decide, by decide, (by rw [seqIndex_of (by decide) (by simp)]; rfl), rfl, r.length, by simp, rfl, r, rfl, ?_, fun x hx => hd1 x (List.mem_cons_of_mem _ hx), k2.trans (Kp.mut (by simp))⟩
      exact h2.digs hgl
    · rw [show decide (V.int d = V.int 0) = false from decide_eq_false (fun z => hd (by cases z; rfl))]
      exact rest (d :: r) H2 h2 hd1 k2
end WJ
set_option Elab.async false
set_option linter.all false
set_option maxRecDepth 100000
set_option maxHeartbeats 2000000
/-! WjK: what comes to a name, of whatever kind; pairs of names; sequences of any kind; _law_pick, _law_shuffled -/
namespace WJ
open PySem L2
section
variable {K : PySem.W.Frag} {W : Wd K} {B B0 : List Addr} {H H0 H' : Hp} {M M' : Nat} {σ : L2.St} {Γ : List En}
/-- a barred place that is nobody's comes to a name -/
theorem Sg.setOwnB (s : Sg W H0 B0 B σ Γ H M) {i : Nat} {l : Addr} {e : En} (hl : ∀ j, ¬ Ow σ Γ j l) (h0 : H0 l = none) (he : e.isOwn = true) (h : Sl K B H (some (.ref l)) e) : Sg W H0 B0 B (σ.set i (some (.ref l))) (Γ.set i e) H M := by
  have own : ∀ j l', Ow (σ.set i (some (.ref l))) (Γ.set i e) j l' → (j = i ∧ l' = l) ∨ (j ≠ i ∧ Ow σ Γ j l') := fun j l' ⟨⟨e', g, t⟩, q⟩ => by
    by_cases hj : i = j
    · subst hj
      by_cases hl : i < Γ.length
      · rw [List.getElem?_set_self (by rw [s.ln]; exact hl)] at q
        cases q
        exact .inl ⟨rfl, rfl⟩
      · rw [List.getElem?_eq_none (by simpa using hl)] at g
        cases g
    · rw [List.getElem?_set_ne hj] at g q
      exact .inr ⟨fun z => hj z.symm, ⟨e', g, t⟩, q⟩
  refine ⟨s.toBk, s.k0, s.b0, s.a0, s.f0, by rw [List.length_set, List.length_set, s.ln], fun j e' hj => ?_, fun a b l' ha hb => ?_, fun a l' ha => ?_⟩
  · by_cases hij : i = j
    · subst hij
      have hl : i < Γ.length := by
        have := (List.getElem?_eq_some_iff.mp hj).1
        simpa using this
      rw [List.getElem?_set_self hl] at hj
      cases hj
      exact ⟨_, List.getElem?_set_self (by rw [s.ln]; exact hl), h⟩
    · rw [List.getElem?_set_ne hij] at hj
      obtain ⟨o', ho, hs⟩ := s.sl j e' hj
      exact ⟨o', by rw [List.getElem?_set_ne hij]; exact ho, hs⟩
  · rcases own a l' ha with ⟨ea, el⟩ | ⟨na, wa⟩ <;> rcases own b l' hb with ⟨eb, el2⟩ | ⟨nb, wb⟩
    · rw [ea, eb]
    · rw [el] at wb
      exact (hl b wb).elim
    · rw [el2] at wa
      exact (hl a wa).elim
    · exact s.ow a b l' wa wb
  · rcases own a l' ha with ⟨ea, el⟩ | ⟨na, wa⟩
    · rw [el]
      exact h0
    · exact s.on a l' wa
/-- v is what e says, made between H and H' -/
def NewE (K : PySem.W.Frag) (B : List Addr) (H : Hp) (v : V) (e : En) (H' : Hp) : Prop :=
  match e with
  | .no => True
  | .dat d => Dat K B H' v d
  | .own ds => ∃ l xs, v = .ref l ∧ H l = none ∧ H' l = some (.lst xs) ∧ Dats K (l :: B) H' xs ds
  | .ownD ds => ∃ l xs, v = .ref l ∧ H l = none ∧ H' l = some (.dK xs) ∧ Datk K (l :: B) H' xs ds
  | .ownI a C fs => ∃ (l : Addr) (x : Addr × List (Str × V)), v = .ref l ∧ H l = none ∧ H' l = some (.ins C x.1 x.2) ∧ (Datf K (l :: B) H' x.2 fs ∧ l = a)
/-- the new thing barred, not yet at a name: then at its name -/
theorem Sg.newE (s : Sg W H0 B0 B σ Γ H M) {v : V} {e : En} (k : Kp W.F H H') (d : W.Dr M' H') (h : NewE K B H v e H') :
    ∃ B', Sg W H0 B0 B' σ Γ H' M' ∧ Mv B H B' H' ∧ ∀ i, Sg W H0 B0 B' (σ.set i (some v)) (Γ.set i e) H' M' := by
  cases e with
  | no => exact ⟨B, s.keep k d, Mv.of (s.toBk.kp k), fun i => (s.keep k d).set rfl trivial⟩
  | dat x => exact ⟨B, s.keep k d, Mv.of (s.toBk.kp k), fun i => (s.keep k d).setD h⟩
  | own ds =>
    obtain ⟨l, xs, rfl, n, hl, hd⟩ := h
    have s2 := s.bar n k d (by rw [hl]; exact Option.some_ne_none _)
    have n0 : H0 l = none := s.k0.backB (fun z => W.alive s.dr l z n) n
    exact ⟨l :: B, s2, ⟨put_bar n, s.toBk.kp k⟩, fun i => s2.setOwnB (fun j => s.fresh n j) n0 rfl ⟨l, xs, rfl, List.mem_cons_self, hl, hd⟩⟩
  | ownD ds =>
    obtain ⟨l, xs, rfl, n, hl, hd⟩ := h
    have s2 := s.bar n k d (by rw [hl]; exact Option.some_ne_none _)
    have n0 : H0 l = none := s.k0.backB (fun z => W.alive s.dr l z n) n
    exact ⟨l :: B, s2, ⟨put_bar n, s.toBk.kp k⟩, fun i => s2.setOwnB (fun j => s.fresh n j) n0 rfl ⟨l, xs, rfl, List.mem_cons_self, hl, hd⟩⟩
  | ownI aI CI ds =>
    obtain ⟨l, xs, rfl, n, hl, hd⟩ := h
    have s2 := s.bar n k d (by rw [hl]; exact Option.some_ne_none _)
    have n0 : H0 l = none := s.k0.backB (fun z => W.alive s.dr l z n) n
    exact ⟨l :: B, s2, ⟨put_bar n, s.toBk.kp k⟩, fun i => s2.setOwnB (fun j => s.fresh n j) n0 rfl ⟨l, xs, rfl, List.mem_cons_self, hl, hd⟩⟩
end
section
variable {K : PySem.W.Frag} {W : Wd K} {Γ : List En} {c c1 c2 c' : Nat} {te t1 t2 ta tb tc : TE} {tt : TT} {p : Po} {r : R2}
/-- te gives something that e says, P e -/
def EvE (W : Wd K) (te : TE) (Γ : List En) (c : Nat) (P : En → Prop) : Prop :=
  ∀ (H0 : Hp) (B0 B : List Addr) (σ : L2.St) (H : Hp) (M : Nat), Sg W H0 B0 B σ Γ H M → c ≤ M → ∀ Q : VK, (∀ v e H', Kp W.F H H' → W.Dr (M - c) H' → NewE K B H v e H' → P e → Q v H') → te σ H Q
theorem Ev.e {P : Da → Prop} (h : Ev W te Γ c P) : EvE W te Γ c (fun e => ∃ d, e = .dat d ∧ P d) := fun H0 B0 B σ H M s hM Q q =>
  h H0 B0 B σ H M s hM Q fun v d H' k r hd p => q v (.dat d) H' k r hd ⟨d, rfl, p⟩
theorem EvF.e {P : List Da → Prop} (h : EvF W te Γ c P) : EvE W te Γ c (fun e => ∃ d, e = .own d ∧ P d) := fun H0 B0 B σ H M s hM Q q =>
  h H0 B0 B σ H M s hM Q fun l xs ds H' n k r hl hd p => q _ (.own ds) H' k r ⟨l, xs, rfl, n, hl, hd⟩ ⟨ds, rfl, p⟩
theorem EvG.e {P : List (Key × Da) → Prop} (h : EvG W te Γ c P) : EvE W te Γ c (fun e => ∃ d, e = .ownD d ∧ P d) := fun H0 B0 B σ H M s hM Q q =>
  h H0 B0 B σ H M s hM Q fun l xs ds H' n k r hl hd p => q _ (.ownD ds) H' k r ⟨l, xs, rfl, n, hl, hd⟩ ⟨ds, rfl, p⟩
/-- a, b = e1, e2, of whatever kinds -/
theorem es_parE {i j : Nat} {P1 P2 : En → Prop} (h1 : EvE W t1 Γ c1 P1) (h2 : EvE W t2 Γ c2 P2) (hp : ∀ e1 e2, P1 e1 → P2 e2 → p.nx ((Γ.set i e1).set j e2)) : Es W (tPar i j (tCons t1 (tCons t2 tNil))) Γ (c1 + c2) p := fun H0 B0 B σ H M D s hM a b e f =>
  h1 H0 B0 B σ H M s (by omega) _ fun v1 e1 H1 k1 r1 n1 p1 => by
    obtain ⟨B1, s1, m1, f1⟩ := s.newE k1 r1 n1
    refine h2 H0 B0 B1 σ H1 _ s1 (by omega) _ fun v2 e2 H2 k2 r2 n2 p2 => ?_
    obtain ⟨B2, s2, m2, f2⟩ := (f1 i).newE k2 r2 n2
    exact ⟨v1, v2, rfl, a B2 _ _ H2 ((f2 j).less (by omega)) (m1.trans m2) (hp e1 e2 p1 p2)⟩
/-! known values -/
theorem ev_cbE {rc : List V → Hp → VK → Prop} {ta : TA} {ds : List Da} {P : Da → Prop} (h : EvA W ta Γ c (· = ds)) (hr : Rc W rc ds P) : Ev W (tCB rc ta) Γ c P := ev_cb h fun _ e => by rw [e]; exact hr
theorem ev_callE {sp : Sp} {E : XK} {ta : TA} {ds : List Da} {P : Da → Prop} (h : EvA W ta Γ c1 (· = ds)) (hs : Fn W sp ds c2 P) : Ev W (tCall sp [] E ta) Γ (c1 + c2) P := ev_call h fun _ e => by rw [e]; exact hs
theorem ev_andB {a b : Bool} (ha : Ev W ta Γ c1 (· = .bl a)) (hb : a = true → Ev W tb Γ c2 (· = .bl b)) : Ev W (tAndV ta tb) Γ (c1 + c2) (· = .bl (a && b)) :=
  ev_and (Pa := (· = a)) (ha.imp fun d e => ⟨a, e, rfl⟩) (fun e => (hb e.symm).imp fun d q => by rw [q, ← e]; rfl) (fun e => by rw [← e]; rfl)
theorem ev_orB {a b : Bool} (ha : Ev W ta Γ c1 (· = .bl a)) (hb : a = false → Ev W tb Γ c2 (· = .bl b)) : Ev W (tOrV ta tb) Γ (c1 + c2) (· = .bl (a || b)) :=
  ev_or (Pa := (· = a)) (ha.imp fun d e => ⟨a, e, rfl⟩) (fun e => (hb e.symm).imp fun d q => by rw [q, ← e]; rfl) (fun e => by rw [← e]; rfl)
theorem ev_notB {a : Bool} (ha : Ev W ta Γ c (· = .bl a)) : Ev W (tNotV ta) Γ c (· = .bl (!a)) :=
  (ev_not (Pa := (· = a)) (ha.imp fun d e => ⟨a, e, rfl⟩)).imp fun d ⟨b, e, q⟩ => by rw [e, q]
theorem et_testB {b : Bool} (h : Ev W te Γ c (· = .bl b)) : EvT W (tTest te) Γ c (· = b) := et_test (h.imp fun d e => ⟨b, e, rfl⟩)
theorem et_BB {b : Bool} (h : Ev W te Γ c (· = .bl b)) : EvT W (tB te) Γ c (· = b) := et_B (h.imp fun d e => ⟨b, e, rfl⟩)
theorem et_andB {tu : TT} {a b : Bool} (h1 : EvT W tt Γ c1 (· = a)) (h2 : a = true → EvT W tu Γ c2 (· = b)) : EvT W (tAnd tt tu) Γ (c1 + c2) (· = (a && b)) :=
  et_and h1 (fun e => (h2 e.symm).weak (Nat.le_refl _) fun d q => by rw [q, ← e]; rfl) (fun e => by rw [← e]; rfl)
theorem et_orB {tu : TT} {a b : Bool} (h1 : EvT W tt Γ c1 (· = a)) (h2 : a = false → EvT W tu Γ c2 (· = b)) : EvT W (tOr tt tu) Γ (c1 + c2) (· = (a || b)) :=
  et_or h1 (fun e => (h2 e.symm).weak (Nat.le_refl _) fun d q => by rw [q, ← e]; rfl) (fun e => by rw [← e]; rfl)
theorem et_notB {a : Bool} (h : EvT W tt Γ c (· = a)) : EvT W (tNot tt) Γ c (· = !a) := et_not (h.weak (Nat.le_refl _) fun b e => by rw [e])
theorem es_retE {d : Da} (h : Ev W te Γ c (· = d)) (hp : p.rt d) : Es W (tRet te) Γ c p := es_ret h fun _ e => by rw [e]; exact hp
theorem es_asgE {i : Nat} {d : Da} (h : Ev W te Γ c (· = d)) (hp : p.nx (Γ.set i (.dat d))) : Es W (tAsg te (gName i)) Γ c p := es_asg h fun _ e => by rw [e]; exact hp
theorem es_asgFE {i : Nat} {ds : List Da} (h : EvF W te Γ c (· = ds)) (hp : p.nx (Γ.set i (.own ds))) : Es W (tAsg te (gName i)) Γ c p := es_asgF h fun _ e => by rw [e]; exact hp
/-- if, the answer known -/
theorem es_ifB {t u : TS} {b : Bool} (h : EvT W tt Γ c1 (· = b)) (h1 : b = true → Es W t Γ c2 p) (h2 : b = false → Es W u Γ c2 p) : Es W (tIfS tt t u) Γ (c1 + c2) p := es_if h (fun e => h1 e.symm) (fun e => h2 e.symm)
/-- the next statement's names are known -/
theorem es_seqE {t u : TS} {Γ' : List En} (h1 : Es W t Γ c1 { p with nx := (· = Γ') }) (h2 : Es W u Γ' c2 p) : Es W (tSeq t u) Γ (c1 + c2) p := es_seq h1 fun _ e => by rw [e]; exact h2
/-! ints -/
theorem ev_int2 {g : Int → Int → V} {i j : Int} {d : Da} (ha : Ev W ta Γ c1 (· = .int i)) (hb : Ev W tb Γ c2 (· = .int j)) (hg : ∀ (B : List Addr) (H : Hp), Dat K B H (g i j) d) : Ev W (tOp (rI0 g) ta tb) Γ (c1 + c2) (· = d) := ev_op2 ha hb (rv_I0 (gd := fun _ _ => d) hg rfl)
theorem ev_int3 {C : Int → Int → Prop} {g : Int → Int → V} {i j : Int} {d : Da} (ha : Ev W ta Γ c1 (· = .int i)) (hb : Ev W tb Γ c2 (· = .int j)) (hc : C i j) (hg : ∀ (B : List Addr) (H : Hp), Dat K B H (g i j) d) : Ev W (tOp (rI C g) ta tb) Γ (c1 + c2) (· = d) := ev_op2 ha hb (rv_I (gd := fun _ _ => d) hc hg rfl)
theorem ev_addI {i j : Int} (ha : Ev W ta Γ c1 (· = .int i)) (hb : Ev W tb Γ c2 (· = .int j)) : Ev W (tOp (rAddA K) ta tb) Γ (c1 + c2) (· = .int (i + j)) := ev_op2 ha hb (rv_addI rfl)
theorem ev_addS {x y : Str} (ha : Ev W ta Γ c1 (· = .str x)) (hb : Ev W tb Γ c2 (· = .str y)) (hl : x.length + y.length ≤ 100000) : Ev W (tOp (rAddA K) ta tb) Γ (c1 + c2) (· = .str (x ++ y)) := ev_op2 ha hb (rv_addS hl rfl)
theorem evF_addL {xs ys : List Da} (ha : Ev W ta Γ c1 (· = .lst xs)) (hb : Ev W tb Γ c2 (· = .lst ys)) (hl : xs.length + ys.length ≤ 100000) : EvF W (tOp (rAddA K) ta tb) Γ (c1 + c2) (· = xs ++ ys) := evF_op2 ha hb (rvF_addL hl rfl)
theorem ev_chainB {r r' : R2} {d1 d2 d3 : Da} {c3 : Nat} {a b : Bool} (ha : Ev W ta Γ c1 (· = d1)) (hb : Ev W tb Γ c2 (· = d2)) (hc : Ev W tc Γ c3 (· = d3)) (h1 : Rv W r d1 d2 (· = .bl a)) (h2 : a = true → Rv W r' d2 d3 (· = .bl b)) :
    Ev W (tChain r r' ta tb tc) Γ (c1 + c2 + c3) (· = .bl (a && b)) :=
  ev_chain ha hb hc (Pk := fun _ _ k => k = a) (fun _ _ e1 e2 => by
    rw [e1, e2]
    exact fun B H M v1 v2 s hd1 hd2 Q q => h1 B H M v1 v2 s hd1 hd2 Q fun v d H' k r hd e => q v d H' k r hd ⟨a, e, rfl⟩) (fun _ _ _ _ e => by rw [← e]; rfl) (fun _ _ _ _ e2 e3 e => by
    rw [e2, e3]
    exact fun B H M v1 v2 s hd1 hd2 Q q => h2 e.symm B H M v1 v2 s hd1 hd2 Q fun v d H' k r hd e' => q v d H' k r hd (by rw [e', ← e]; rfl))
theorem rv_I0B {q : Int → Int → Bool} {i j : Int} : Rv W (rI0 fun i j => .bl (q i j)) (.int i) (.int j) (· = .bl (q i j)) := rv_I0 (gd := fun i j => .bl (q i j)) (fun _ _ => dBl.mpr rfl) rfl
/-! sequences of any kind -/
def seqD : Da → Option (List Da)
  | .lst xs => some xs
  | .tup xs => some xs
  | .str z => some (signsD z)
  | _ => none
theorem signs_len {z : Str} : (signsD z).length = z.length := by simp [signsD, Str.length]
theorem rc_len {d : Da} {xs : List Da} {P : Da → Prop} (h : seqD d = some xs) (hl : xs.length ≤ 100000) (p : P (.int xs.length)) : Rc W (rLenA K) [d] P := by
  cases d with
  | lst ys => cases h; exact rc_lenL p
  | tup ys => cases h; exact rc_lenT p
  | str z =>
    cases h
    rw [signs_len] at hl p
    exact rc_lenS hl p
  | _ => cases h
theorem atI_of {α : Type} {xs : List α} {i : Int} {x : α} (h0 : 0 ≤ i) (h : xs[i.toNat]? = some x) : atI xs i = some x := by
  have hl : i.toNat < xs.length := (List.getElem?_eq_some_iff.mp h).1
  unfold atI ixN
  rw [if_pos h0, if_pos (by omega)]
  exact h
theorem rv_ix {d : Da} {xs : List Da} {i : Int} {x : Da} {P : Da → Prop} (h : seqD d = some xs) (hl : xs.length ≤ 100000) (h0 : 0 ≤ i) (hx : xs[i.toNat]? = some x) (p : P x) : Rv W (rIxA K) d (.int i) P := by
  cases d with
  | lst ys => cases h; exact rv_ixL (atI_of h0 hx) p
  | tup ys => cases h; exact rv_ixT (atI_of h0 hx) p
  | str z =>
    cases h
    rw [signs_len] at hl
    unfold signsD at hx
    rw [List.getElem?_map] at hx
    cases e : z.cps.toList[i.toNat]? with
    | none =>
      rw [e] at hx
      cases hx
    | some c =>
      rw [e] at hx
      cases hx
      exact rv_ixS hl (atI_of h0 e) p
  | _ => cases h
/-- the source of draws at q is drawn from by sp -/
def NextOk (W : Wd K) (q : Addr) (sp : Sp) : Prop := ∀ (n : Int) (P : Da → Prop), 0 < n → n < 2 ^ 62 → (∀ k, 0 ≤ k → k < n → P (.int k)) → Fn W sp [.obj q, .int n] 1 P
def PickOk (W : Wd K) (q : Addr) (sp : Sp) : Prop := ∀ (d : Da) (xs : List Da) (P : Da → Prop), seqD d = some xs → xs ≠ [] → xs.length ≤ 100000 → (∀ x ∈ xs, P x) → Fn W sp [.obj q, d] 1 P
def t__law_pick (K : PySem.W.Frag) (sp__law_next : Sp) : TS :=
  (tRet (tOp (rIxA K) (tVar 1) (tCall sp__law_next [] E0 (tCons (tVar 0) (tCons (tCB (rLenA K) (tCons (tVar 1) tNil)) tNil)))))
theorem es_pick {q : Addr} {sp : Sp} {d : Da} {xs : List Da} (hN : NextOk W q sp) (hs : seqD d = some xs) (h0 : xs ≠ []) (hl : xs.length ≤ 100000) (hp : ∀ x ∈ xs, p.rt x) : Es W (t__law_pick K sp) [.dat (.obj q), .dat d] 1 p := by
  have hpos : 0 < xs.length := List.length_pos_iff.mpr h0
  refine es_ret (P := fun x => x ∈ xs) (c := 0 + (0 + (0 + 0 + 0) + 1)) (ev_op (ev_var rfl) (ev_callE (ea_cons2 (ev_var rfl) (ea_cons2 (ev_cbE (ea_cons2 (ev_var rfl) ea_nil) (rc_len hs hl rfl)) ea_nil)) (hN _ (fun e => ∃ k, e = .int k ∧ 0 ≤ k ∧ k < (xs.length : Int)) (by omega) (by omega) (fun k a b => ⟨k, rfl, a, b⟩))) (fun d1 d2 e1 ⟨k, e2, h1, h2⟩ => ?_)) hp
  subst e1 e2
  have hk : k.toNat < xs.length := by omega
  exact rv_ix hs hl h1 (List.getElem?_eq_getElem hk) (List.getElem_mem hk)
end
end WJ
set_option Elab.async false
set_option linter.all false
set_option maxRecDepth 100000
set_option maxHeartbeats 2000000
/-! WjS: len(set(xs)), xs a list or a tuple of texts -/
namespace WJ
open PySem PySem.Spec PyProof.Rows L2
/-- each text once, as first met -/
def onceS (acc : List Str) (x : Str) : List Str := if acc.any (· == x) then acc else acc ++ [x]
def once (xs : List Str) : List Str := xs.foldl onceS []
theorem onceS_any (acc : List Str) (x k : Str) : (onceS acc x).any (· == k) = (acc.any (· == k) || decide (k = x)) := by
  unfold onceS
  by_cases h : acc.any (· == x) = true
  · rw [if_pos h]
    by_cases e : k = x
    · subst e
      rw [h, Bool.true_or]
    · rw [decide_eq_false e, Bool.or_false]
  · rw [if_neg h, List.any_append, List.any_cons, List.any_nil, Bool.or_false]
    congr 1
    rw [Bool.eq_iff_iff, decide_eq_true_iff, beq_iff_eq]
    exact ⟨fun z => z.symm, fun z => z.symm⟩
theorem once_snoc (xs : List Str) (x : Str) : once (xs ++ [x]) = onceS (once xs) x := by
  unfold once
  rw [List.foldl_append]
  rfl
theorem once_any (k : Str) (xs : List Str) : (once xs).any (· == k) = xs.any (· == k) := by
  have key : ∀ (xs acc : List Str), (xs.foldl onceS acc).any (· == k) = (acc.any (· == k) || xs.any (· == k)) := fun xs => by
    induction xs with
    | nil => intro acc; simp
    | cons x xs ih =>
      intro acc
      rw [List.foldl_cons, ih, onceS_any, List.any_cons, Bool.or_assoc]
      congr 2
      rw [Bool.eq_iff_iff, decide_eq_true_iff, beq_iff_eq]
      exact ⟨fun z => z.symm, fun z => z.symm⟩
  rw [once, key]
  simp
theorem once_le (xs : List Str) : (once xs).length ≤ xs.length := by
  have key : ∀ (xs acc : List Str), (xs.foldl onceS acc).length ≤ acc.length + xs.length := fun xs => by
    induction xs with
    | nil => intro acc; simp
    | cons x xs ih =>
      intro acc
      rw [List.foldl_cons]
      have h := ih (onceS acc x)
      have h2 : (onceS acc x).length ≤ acc.length + 1 := by
        unfold onceS
        split
        · omega
        · simp
      rw [List.length_cons]
      omega
  have := key xs []
  simpa [once] using this
theorem once_nodup : ∀ {xs : List Str}, xs.Nodup → once xs = xs := fun {xs} h => by
  have key : ∀ (xs acc : List Str), (acc ++ xs).Nodup → xs.foldl onceS acc = acc ++ xs := fun xs => by
    induction xs with
    | nil => intro acc _; simp
    | cons x xs ih =>
      intro acc hn
      rw [List.foldl_cons]
      have hx : acc.any (· == x) = false := by
        rw [List.any_eq_false]
        intro y hy z
        have e : y = x := by simpa using z
        subst e
        exact (List.nodup_append.mp hn).2.2 y hy y List.mem_cons_self rfl
      have e : onceS acc x = acc ++ [x] := by
        unfold onceS
        rw [hx]
        rfl
      rw [e, ih (acc ++ [x]) (by simpa using hn)]
      simp
  have := key xs [] (by simpa using h)
  simpa [once] using this
section
variable {prog : Program} {w : World} {A : Around} {R : Result → Shared → Prop} {I : Addr} {fp wr : List Addr} {G : Array GenState → Array GenState → Prop} {n : Nat} {P : Nat → Value → Prop} {St : Nat → Shared → Prop}
/-- the set at S holds the first i texts -/
abbrev Holds (prog : Program) (w : World) (S : Addr) (xs : List Str) (h : Heap) : Prop := h.SetOf (PySem.strKind prog w) S (fun k => xs.any (· == k)) (once xs).length
theorem set_loop (W : WalksS prog w A.in1 I fp wr G n P St) (S : Addr) (hSf : S ∉ fp) (xs : List Str) (hsz : xs.length = n) (hn1 : n ≤ 1000) (hval : ∀ i v, P i v → ∃ t, v = .str (xs.getD i Str.empty) t) :
    ∀ (k i : Nat) (s : Shared), n - i = k → i ≤ n → St i s → Holds prog w S (xs.take i) s.heap → (∀ s', Moved (S :: wr) G s s' → Holds prog w S xs s'.heap → R (.ok (.ret .none)) s') →
      codeAny (model prog w) A (.builtin "set.update.loop" ⟨[.ref S, .ref I], []⟩) R s := by
  have hSw : S ∉ wr := fun z => hSf (W.sub _ z)
  have up : ∀ b ∈ wr, b ∈ S :: wr := fun b hb => List.mem_cons_of_mem _ hb
  have keepS : ∀ {ys : List Str} {s1 s2 : Shared}, Moved wr G s1 s2 → Holds prog w S ys s1.heap → Holds prog w S ys s2.heap := fun hm ⟨o, es, ep, t, ho, q⟩ => ⟨o, es, ep, t, hm.heap S _ hSw ho, q⟩
  intro k
  induction k with
  | zero =>
    intro i s hk hi hst hS hR
    have hin : i = n := by omega
    subst hin
    refine codeAny_builtin PyProof.Rows.F.entry_set_update_loop ?_
    rw [Around.under_plainId PyProof.Rows.F.plain_set_update_loop _]
    refine wpAny_bind (W.done s _ _ hst fun s' hm => wpAny_pure (hR s' (hm.mono up) ?_))
    have e := keepS hm hS
    rw [← hsz, List.take_length] at e
    exact e
  | succ k ih =>
    intro i s hk hi hst hS hR
    have hlt : i < n := by omega
    have hx : i < xs.length := by omega
    refine codeAny_builtin PyProof.Rows.F.entry_set_update_loop ?_
    rw [Around.under_plainId PyProof.Rows.F.plain_set_update_loop _]
    refine wpAny_bind (W.item i s _ _ hlt hst fun v s' hP hst' hm => ?_)
    obtain ⟨t, rfl⟩ := hval i v hP
    have hS' := keepS hm hS
    have hle := once_le (xs.take i)
    rw [List.length_take] at hle
    show wpAny _ A.in1 (holding _ (setAdd S _) >>= _) _ _ s'
    refine wpAny_bind (wpAny_holding ?_)
    unfold setAdd
    refine wpAny_holding (wpAny_bind ((PySem.strKind prog w).pyHash (k := xs.getD i Str.empty) (strKind_is _ _ _ _) ?_))
    refine wpAny_setAddHashed_of (knd := PySem.strKind prog w) (s := { s' with toks := s'.toks + 1 }) (strKind_is _ _ _ _) rfl hS' (by unfold scanBound; omega) fun h' hsb hS2 => ?_
    have ex : xs.getD i Str.empty = xs[i] := by simp [List.getD, hx]
    have et : xs.take (i + 1) = xs.take i ++ [xs[i]] := by rw [List.take_succ, List.getElem?_eq_getElem hx]; rfl
    have hSi : Holds prog w S (xs.take (i + 1)) h' := by
      refine SetOf_congr hS2 (fun k' => ?_) ?_
      · rw [ex, et, ← once_any k' (xs.take i ++ [xs[i]]), once_snoc, onceS_any, once_any]
      · rw [ex, et, once_snoc]
        unfold onceS
        rw [once_any]
        split <;> simp
    refine wpAny_pure ⟨plainId_quiet PyProof.Rows.F.plain_set_update_loop _, ih (i + 1) _ (by omega) hlt (W.frame _ s' _ _ hst' (Nat.le_succ _) fun b hb o e => ?_) hSi fun s'' hm'' hS'' => ?_⟩
    · rw [hsb.2 b (fun z : b = S => hSf (by rw [← z]; exact hb))]
      exact e
    · refine hR s'' (Moved.trans W.gtrans ((hm.mono up).then_heap (Nat.le_succ _) fun b o hb e => ?_) hm'') hS''
      rw [hsb.2 b (fun z : b = S => hb (by rw [z]; exact List.mem_cons_self))]
      exact e
end
/-- the set that is laid first -/
abbrev newSet (led : Bool) : Obj := { cls := .type "set", dict := none, data := .set #[] 0 (.fresh 0 0 led) }
section
variable {prog : Program} {w : World} {A : Around} {E : Value → Shared → Prop} {s : Shared}
set_option maxHeartbeats 3200000 in
/-- set(x): what is asked of x's walk, the new set laid -/
theorem call_setS {l : Addr} {c : String} {items : Array Value} {xs : List Str} {od : Option Addr} {nl : Nat} {osl : Array (Option Value)} {Q : Value → Shared → Prop} (hh : A.handled = none) (hol : s.heap.get? l = some { cls := .type c, dict := od, data := .seq items nl, slots := osl })
    (hc : (c = "list" ∧ True) ∨ (c = "tuple" ∧ True)) (hi : StrsAre items.toList xs) (hn1 : xs.length ≤ 1000)
    (h : ∀ (h' : Heap) (tk : Nat), Holds prog w s.heap.objs.size xs h' → (∀ b o, b < s.heap.objs.size → s.heap.get? b = some o → h'.get? b = some o) → Q (.ref s.heap.objs.size) { s with heap := h', toks := tk }) :
    wpAny (model prog w) A (call (.type "set") [.ref l]) Q E s := by
  obtain ⟨cc, tl, hmro⟩ := PySem.F.called_set.mro
  have hmade := PySem.F.called_set.made
  have hsub := PySem.F.called_set.sub
  refine wpAny_call (codeAny_of_tree ?_)
  show wpAny _ _ (callAny (.type "set") _) _ _ _
  refine wpAny_pure ⟨Code.quiet_builtin _ (by decide +kernel), codeAny_builtin PySem.F.entry_type_call ?_⟩
  rw [Around.under_plain (weight_type_call_type "set" [.ref l] []) rfl]
  have h1 := PySem.F.called_set.notType
  have h2 := PySem.F.called_set.canCreate
  have hct := PySem.F.typeCall_set_1 (.ref l)
  repeat (any_goals (first | assumption | wp_step))
  refine codeAny_mono (code_set_new_1 (.ref l) (E := E) (Q₁ := fun obj s₁ => ∃ led : Bool, obj = .ref s.heap.objs.size ∧ s₁ = { s with heap := s.heap.push (newSet led) }) fun led => ⟨led, rfl, rfl⟩) fun r s₁ hr => ?_
  cases r with
  | error e => exact hr
  | ok fl =>
    cases fl with
    | ret obj =>
      obtain ⟨led, rfl, rfl⟩ := hr
      have hS : (s.heap.push (newSet led)).get? s.heap.objs.size = some (newSet led) := Heap.get?_push_size _ rfl
      have hT : Shared.TypeIs { s with heap := s.heap.push (newSet led) } (.ref s.heap.objs.size) "set" := ⟨_, hS, rfl⟩
      have hli := PySem.F.called_set.init.lookup
      have hbi := PySem.F.called_set.init.bind (.ref s.heap.objs.size)
      repeat (any_goals (first | assumption | wp_step))
      refine codeAny_mono (codeAny_call_builtin (R := wants (fun r s₂ => r = .none ∧ ∃ h' tk, s₂ = { s with heap := h', toks := tk } ∧ Holds prog w s.heap.objs.size xs h' ∧ (∀ b o, b < s.heap.objs.size → s.heap.get? b = some o → h'.get? b = some o)) E) PySem.F.called_set.init.plain PySem.F.entry_set_init (check_set_init_1 hT ?_)) fun r₂ s₂ hr₂ => ?_
      · have hlS : l < s.heap.objs.size := Heap.lt_size hol
        have hh3 : A.in1.in1.in1.handled = none := by simp [hh]
        have hlate : ∀ b, b < s.heap.objs.size → b ≠ (s.heap.push (newSet led)).objs.size := fun b hb => by
          rw [Heap.size_push]
          exact Nat.ne_of_lt (Nat.lt_succ_of_lt hb)
        have hneI := hlate l hlS
        have hSf : s.heap.objs.size ∉ [(s.heap.push (newSet led)).objs.size, l] := by
          rw [Heap.size_push]
          simp only [List.mem_cons, List.mem_singleton, List.not_mem_nil, or_false, not_or]
          exact ⟨Nat.ne_of_lt (Nat.lt_succ_self _), Nat.ne_of_gt hlS⟩
        have hsz : xs.length = items.size := by rw [← StrsAre.len_eq hi, Array.length_toList]
        have hval : ∀ (i : Nat) (v : Value), items[i]? = some v → ∃ t, v = .str (xs.getD i Str.empty) t := fun i v hv => SS.strs_at hi i v (by rw [Array.getElem?_toList]; exact hv)
        have hol' : (s.heap.push (newSet led)).get? l = some { cls := .type c, dict := od, data := .seq items nl, slots := osl } := Heap.get?_push_of_some _ hol
        have q1 : isSubtype (.type c) (.type "set") = pure false := by
          rcases hc with ⟨rfl, _⟩ | ⟨rfl, _⟩
          · exact PySem.F.sub_list_set
          · exact PySem.F.sub_tuple_set
        have q2 : isSubtype (.type c) (.type "frozenset") = pure false := by
          rcases hc with ⟨rfl, _⟩ | ⟨rfl, _⟩
          · exact PySem.F.sub_list_frozenset
          · exact PySem.F.sub_tuple_frozenset
        have q3 : (Value.type c == Value.type "dict") = false := by rcases hc with ⟨rfl, _⟩ | ⟨rfl, _⟩ <;> decide
        unfold Builtin.«set.__init__» noKeywords Builtin.Frozenset.updateFrom
        generalize hPI : pyIter = PI
        wp_walk
        subst hPI
        rcases hc with ⟨rfl, _⟩ | ⟨rfl, _⟩
        · have hl1 : (s.heap.push (newSet led)).IsList l items := ⟨_, hol', rfl, nl, rfl⟩
          refine wpAny_pyIter_list hl1 (wpAny_bind (wpAny_runValue ?_))
          refine set_loop ((Walks.list hh3 _ l hneI items).toS) s.heap.objs.size hSf xs hsz (by omega) hval items.size 0 _ (by omega) (Nat.zero_le _) ⟨⟨_, Heap.get?_push_size _ rfl, rfl, rfl⟩, (hl1.push _)⟩ ?_ ?_
          · have hget : ((s.heap.push (newSet led)).push { cls := .type "list_iterator", data := .fields #[.ref l, .int 0 0] }).get? s.heap.objs.size = some (newSet led) := Heap.get?_push_of_some _ hS
            exact SetOf_congr ((setObjOf_fresh (knd := PySem.strKind prog w) led).setOf hget (by unfold scanBound; omega)) (fun _ => rfl) rfl
          · intro s' hm hS'
            obtain ⟨h', g', d', tk', os'⟩ := s'
            have eg : g' = s.gens := hm.gens
            have ed : d' = s.drawn := hm.drawn
            have eo : os' = s.os := hm.os
            subst eg ed eo
            refine wpAny_pure (wpAny_pure ⟨rfl, h', tk', rfl, hS', fun b o hb e => ?_⟩)
            exact hm.heap b o (by simp only [List.mem_cons, List.mem_singleton, List.not_mem_nil, or_false, not_or]; exact ⟨Nat.ne_of_lt hb, hlate b hb⟩) (Heap.get?_push_of_some _ (Heap.get?_push_of_some _ e))
        · have hl1 : (s.heap.push (newSet led)).IsTuple l items := ⟨_, hol', rfl, nl, rfl⟩
          refine wpAny_pyIter_tuple hl1 (wpAny_bind (wpAny_runValue ?_))
          refine set_loop ((Walks.tuple hh3 _ l hneI items).toS) s.heap.objs.size hSf xs hsz (by omega) hval items.size 0 _ (by omega) (Nat.zero_le _) ⟨⟨_, Heap.get?_push_size _ rfl, rfl, rfl⟩, (hl1.push _)⟩ ?_ ?_
          · have hget : ((s.heap.push (newSet led)).push { cls := .type "tuple_iterator", data := .fields #[.ref l, .int 0 0] }).get? s.heap.objs.size = some (newSet led) := Heap.get?_push_of_some _ hS
            exact SetOf_congr ((setObjOf_fresh (knd := PySem.strKind prog w) led).setOf hget (by unfold scanBound; omega)) (fun _ => rfl) rfl
          · intro s' hm hS'
            obtain ⟨h', g', d', tk', os'⟩ := s'
            have eg : g' = s.gens := hm.gens
            have ed : d' = s.drawn := hm.drawn
            have eo : os' = s.os := hm.os
            subst eg ed eo
            refine wpAny_pure (wpAny_pure ⟨rfl, h', tk', rfl, hS', fun b o hb e => ?_⟩)
            exact hm.heap b o (by simp only [List.mem_cons, List.mem_singleton, List.not_mem_nil, or_false, not_or]; exact ⟨Nat.ne_of_lt hb, hlate b hb⟩) (Heap.get?_push_of_some _ (Heap.get?_push_of_some _ e))
      · cases r₂ with
        | error e => exact hr₂
        | ok fl₂ =>
          cases fl₂ with
          | ret r =>
            obtain ⟨rfl, h', tk, rfl, hS', hk'⟩ := hr₂
            repeat (any_goals (first | assumption | wp_step))
            exact h _ _ hS' hk'
          | _ => exact hr₂.elim
    | _ => exact hr.elim
end
/-- len(set(xs)) -/
def tLenSetS (K : PySem.W.Frag) (ta : TE) : TE := fun σ H Q => ta σ H fun x H1 => ∃ l, ∃ xs : List Str, x = .ref l ∧ (SqL K H1 l (xs.map V.str) ∨ SqT K H1 l (xs.map V.str)) ∧ xs.length ≤ 1000 ∧ Q (.int (once xs).length) H1
theorem pe_lenSetS {X : Cx} {a : Expr} {ta : TE} {p p2 q pos : Pos} (K : PySem.W.Frag) (hc : X.calm = true) (hg : Gl X "len") (hm : X.mg "len" = none) (hg2 : Gl X "set") (hm2 : X.mg "set" = none) (ha : PE X a ta) (hK : X.K = K := by rfl)
    (na : starEach [a] X.env = (false, eval a X.env) :: starEach [] X.env := by rfl) : PE X (.Call (.Name "len" p) [.Call (.Name "set" p2) [a] [] q] [] pos) (tLenSetS K ta) := by
  subst hK
  refine ⟨fun pins s σ H Q I h => Call_ (ld_blt I hg hm boot_len (callWith_builtin1 (args_cons (Call_ (ld_blt I hg2 hm2 boot_set ?_)) rfl) rfl rfl))⟩
  refine callWith_type1 (args_cons (thn (ha.run pins s σ H _ I h) fun v s1 ⟨x, H1, I1, r1, q1⟩ => args_nil ?_) na) na rfl
  obtain ⟨l, xs, rfl, hq, h1, q1⟩ := q1
  cases r1
  have fin : ∀ (h' : Heap) (tk : Nat), Holds X.prog X.w s1.heap.objs.size xs h' → (∀ b o, b < s1.heap.objs.size → s1.heap.get? b = some o → h'.get? b = some o) →
      wpAny (model X.prog X.w) X.A (spliced (backTo pos (starEach [] X.env))) (fun vs s₂ => wpAny (model X.prog X.w) X.A (call (.builtin "len") (Value.ref s1.heap.objs.size :: vs)) (EP X pins σ Q) X.xe s₂) X.xe { s1 with heap := h', toks := tk } := fun h' tk hS hk => by
    refine args_nil ?_
    obtain ⟨o, es, ep, t, ho, hex, hd, _, _, _, hf, hn⟩ := hS
    have hle := once_le xs
    have I2 : Inv X pins σ H1 { s1 with heap := h', toks := tk } := I1.kept fun b o e => hk b o (Heap.lt_size e) e
    exact call_len_set ho hex hd hf (by rw [hn] <;> omega) ⟨.int (once xs).length, H1, I2.tok _, ⟨_, by rw [hn]⟩, q1⟩
  rcases hq with hq | hq
  · obtain ⟨its, r, pl, hz⟩ := I1.list hq
    obtain ⟨o, ho, hc1, n, hd1⟩ := pl.isList
    obtain ⟨oc, od, dt, sl⟩ := o
    simp only at hc1 hd1
    subst hc1 hd1
    exact call_setS (I1.ok.hd hc) ho (Or.inl ⟨rfl, trivial⟩) (by simpa using strsAre_of r) h1 fin
  · obtain ⟨its, r, ⟨o, ho, hc1, n, hd1⟩, hz⟩ := I1.tuple hq
    obtain ⟨oc, od, dt, sl⟩ := o
    simp only at hc1 hd1
    subst hc1 hd1
    exact call_setS (I1.ok.hd hc) ho (Or.inr ⟨rfl, trivial⟩) (by simpa using strsAre_of r) h1 fin
theorem ev_lenSet {K : PySem.W.Frag} {W : Wd K} {Γ : List En} {c : Nat} {ta : TE} {xs : List Str} (h : Ev W ta Γ c (fun d => d = .lst (xs.map Da.str) ∨ d = .tup (xs.map Da.str))) (hl : xs.length ≤ 1000) : Ev W (tLenSetS K ta) Γ c (· = .int (once xs).length) := fun H0 B0 B σ H M s hM Q q =>
  h H0 B0 B σ H M s hM _ fun v d H1 k r hd e => by
    rcases e with e | e
    all_goals
      subst e
      unfold Dat at hd
      obtain ⟨a, vs, rfl, h1, h2⟩ := hd
      have e := h2.strs
      subst e
    · exact ⟨a, xs, rfl, Or.inl h1.sq, hl, q _ (.int _) H1 k r (dInt.mpr rfl) rfl⟩
    · exact ⟨a, xs, rfl, Or.inr h1.sq, hl, q _ (.int _) H1 k r (dInt.mpr rfl) rfl⟩
end WJ
set_option Elab.async false
set_option linter.all false
set_option maxRecDepth 100000
set_option maxHeartbeats 2000000
/-! WjL: list(..), tuple(..), sorted(..), max, min, join, split, slices over data -/
namespace WJ
open PySem L2
section
variable {X : Cx}
theorem vals_signs {x : Str} {acc : Array Value} (h : ItemsOf (SignAt x) acc x.cps.size) : Vals (x.cps.toList.map fun c => V.str ⟨#[c]⟩) acc.toList := by
  refine vals_of_at (by simp [h.1]) fun j y u h1 h2 => ?_
  obtain ⟨c, t, e1, e2⟩ := h.2 j u (by rw [← Array.getElem?_toList]; exact h2)
  rw [List.getElem?_map, Array.getElem?_toList, e1] at h1
  cases h1
  exact ⟨t, e2⟩
theorem call_list_strR (hc : X.calm = true) : CallR X (.type "list") (fun xs H Q => ∃ x : Str, xs = [.str x] ∧ x.length ≤ sizeLine ∧ ∀ l, H l = none → Q (.ref l) (upd H l (.lst (x.cps.toList.map fun c => V.str ⟨#[c]⟩)))) := by
  intro pins s σ H xs us Q I r h
  obtain ⟨x, rfl, hl, q⟩ := h
  obtain ⟨u, rfl, rx⟩ := vals1 r
  obtain ⟨t, rfl⟩ := rx
  refine call_list_str (I.ok.hd hc) x t (fun h' tk acc' c' kp e hacc => ?_) hl
  exact ⟨.ref s.heap.objs.size, _, I.laid (t' := tk) kp (Nat.le_refl _) (show ObjOk X.prog X.w _ h' _ (.lst _) from ⟨by rw [List.length_map, Array.length_toList]; exact hl, acc'.toList, c', vals_signs hacc, by simpa using e⟩), rfl, q _ (I.hok.fresh (Nat.le_refl _))⟩
def rListS (K : PySem.W.Frag) : List V → Hp → VK → Prop := fun xs H Q => ∃ p ys, xs = [.ref p] ∧ (SqL K H p ys ∨ SqT K H p ys) ∧ ∀ l, H l = none → Q (.ref l) (upd H l (.lst ys))
def rListT : List V → Hp → VK → Prop := fun xs H Q => ∃ x : Str, xs = [.str x] ∧ x.length ≤ sizeLine ∧ ∀ l, H l = none → Q (.ref l) (upd H l (.lst (x.cps.toList.map fun c => V.str ⟨#[c]⟩)))
def rListA (K : PySem.W.Frag) : List V → Hp → VK → Prop := fun xs H Q => rListS K xs H Q ∨ rListT xs H Q ∨ rListD xs H Q
theorem o_list (K : PySem.W.Frag) (hc : X.calm = true := by rfl) (hK : X.K = K := by rfl) : CallR X (.type "list") (rListA K) := hK ▸ orC call_list_of (orC (call_list_strR hc) (call_list_dK hc))
def rTupA (K : PySem.W.Frag) : List V → Hp → VK → Prop := fun xs H Q => ∃ p ys, xs = [.ref p] ∧ ((SqL K H p ys ∧ ∀ l, H l = none → Q (.ref l) (upd H l (.tup ys))) ∨ (SqT K H p ys ∧ Q (.ref p) H))
theorem o_tuple (K : PySem.W.Frag) (hK : X.K = K := by rfl) : CallR X (.type "tuple") (rTupA K) := hK ▸ call_tuple_of
def rSortedDk : List V → Hp → VK → Prop := fun xs H Q => ∃ (a : Addr) (kvs : List (Key × V)) (ks : List Str), xs = [.ref a] ∧ Rd H a (.dK kvs) ∧ kvs.map (·.1) = ks.map Sum.inr ∧ ks.length < 64 ∧ ∀ ys p, ys.Perm ks → PyProof.Rows.sortedS ys = true → H p = none → Q (.ref p) (upd H p (.lst (ys.map V.str)))
def rSortedA (K : PySem.W.Frag) : List V → Hp → VK → Prop := fun xs H Q => rSortedS K xs H Q ∨ rSortedDk xs H Q
theorem o_sorted (K : PySem.W.Frag) (hc : X.calm = true := by rfl) (hK : X.K = K := by rfl) : CallR X (.builtin "sorted") (rSortedA K) := hK ▸ orC cr_sortedS (call_sortedD hc)
def rMaxA : List V → Hp → VK → Prop := fun xs H Q => ∃ i j, xs = [.int i, .int j] ∧ Q (.int (if j > i then j else i)) H
def rMinA : List V → Hp → VK → Prop := fun xs H Q => ∃ i j, xs = [.int i, .int j] ∧ Q (.int (if j < i then j else i)) H
theorem o_max (hc : X.calm = true := by rfl) : CallR X (.builtin "max") rMaxA := call_max2 hc
theorem o_min (hc : X.calm = true := by rfl) : CallR X (.builtin "min") rMinA := call_min2 hc
def r_join (K : PySem.W.Frag) : V → List V → Hp → VK → Prop := fun x xs H Q => ∃ a p, ∃ ys : List Str, x = .str a ∧ xs = [.ref p] ∧ (SqL K H p (ys.map V.str) ∨ SqT K H p (ys.map V.str)) ∧ (ys.map (·.length)).sum + ys.length * a.length ≤ 16777216 ∧ Q (.str (Txt.join a ys)) H
def r_split : V → List V → Hp → VK → Prop := fun x xs H Q => ∃ a b, x = .str a ∧ xs = [.str b] ∧ (b.length == 0) = false ∧ a.length + 2 ≤ sizeLine ∧ rNewStrs (Txt.split a b) H Q
theorem castK {K : PySem.W.Frag} {e : Expr} {t : PySem.W.Frag → TE} (h : PE X e (t X.K)) (hK : X.K = K := by rfl) : PE X e (t K) := hK ▸ h
end
/-! ### the sorted texts -/
def leS (x y : Str) : Bool := !PySem.Spec.ltCps y.cps.toList x.cps.toList
def srt (xs : List Str) : List Str := xs.mergeSort leS
section
variable {K : PySem.W.Frag} {W : Wd K} {Γ : List En} {c c1 c2 : Nat} {te ta tb : TE}
theorem rcF_list {d : Da} {xs : List Da} {P : List Da → Prop} (h : seqD d = some xs) (hl : xs.length ≤ 100000) (p : P xs) : RcF W (rListA K) [d] P := fun B H M vs s hd Q q => by
  unfold Dats at hd
  obtain ⟨v, r, rfl, h1, t⟩ := hd
  unfold Dats at t
  subst t
  cases d with
  | lst ys =>
    cases h
    unfold Dat at h1
    obtain ⟨a, zs, rfl, s1, t1⟩ := h1
    exact Or.inl ⟨a, zs, rfl, Or.inl s1.sq, fun l nl => q l zs _ _ nl (Kp.new nl) (Wd.new nl s.dr) upd_same (Dats.mono (Kp.new nl) _ _ (Dats.put nl _ _ t1)) p⟩
  | tup ys =>
    cases h
    unfold Dat at h1
    obtain ⟨a, zs, rfl, s1, t1⟩ := h1
    exact Or.inl ⟨a, zs, rfl, Or.inr s1.sq, fun l nl => q l zs _ _ nl (Kp.new nl) (Wd.new nl s.dr) upd_same (Dats.mono (Kp.new nl) _ _ (Dats.put nl _ _ t1)) p⟩
  | str z =>
    cases h
    have e := dStr.mp h1
    subst e
    rw [signs_len] at hl
    refine Or.inr (Or.inl ⟨z, rfl, Nat.le_trans hl (by decide), fun l nl => q l _ (signsD z) _ nl (Kp.new nl) (Wd.new nl s.dr) upd_same ?_ p⟩)
    have e1 : (z.cps.toList.map fun c => V.str ⟨#[c]⟩) = (z.cps.toList.map fun c => (⟨#[c]⟩ : Str)).map V.str := by rw [List.map_map]; rfl
    have e2 : signsD z = (z.cps.toList.map fun c => (⟨#[c]⟩ : Str)).map Da.str := by unfold signsD; rw [List.map_map]; rfl
    rw [e1, e2]
    exact Dats.ofStrs _
  | _ => cases h
theorem rc_tup {d : Da} {xs : List Da} {P : Da → Prop} (h : d = .lst xs ∨ d = .tup xs) (p : P (.tup xs)) : Rc W (rTupA K) [d] P := fun B H M vs s hd Q q => by
  unfold Dats at hd
  obtain ⟨v, r, rfl, h1, t⟩ := hd
  unfold Dats at t
  subst t
  rcases h with rfl | rfl
  · unfold Dat at h1
    obtain ⟨a, zs, rfl, s1, t1⟩ := h1
    refine ⟨a, zs, rfl, Or.inl ⟨s1.sq, fun l nl => q _ (.tup xs) _ (Kp.new nl) (Wd.new nl s.dr) ?_ p⟩⟩
    unfold Dat
    exact ⟨l, zs, rfl, .of (s.free nl) upd_same, Dats.mono (Kp.new nl) _ _ t1⟩
  · have h2 := h1
    unfold Dat at h1
    obtain ⟨a, zs, rfl, s1, t1⟩ := h1
    exact ⟨a, zs, rfl, Or.inr ⟨s1.sq, q _ (.tup xs) H Kp.refl s.dr h2 p⟩⟩
theorem rcF_sortedL {xs : List Str} {P : List Da → Prop} (hl : xs.length < 64) (p : ∀ ys : List Str, ys.Perm xs → PyProof.Rows.sortedS ys = true → P (ys.map Da.str)) : RcF W (rSortedA K) [.lst (xs.map Da.str)] P := fun B H M vs s hd Q q => by
  unfold Dats at hd
  obtain ⟨v, r, rfl, h1, t⟩ := hd
  unfold Dats at t
  subst t
  unfold Dat at h1
  obtain ⟨a, zs, rfl, s1, t1⟩ := h1
  have e := t1.strs
  subst e
  exact Or.inl ⟨a, xs, rfl, s1.sq, hl, fun ys l h1 h2 nl => q l _ (ys.map Da.str) _ nl (Kp.new nl) (Wd.new nl s.dr) upd_same (Dats.ofStrs ys) (p ys h1 h2)⟩
theorem rcF_sortedD {es : List (Key × Da)} {ks : List Str} {P : List Da → Prop} (hk : es.map (·.1) = ks.map Sum.inr) (hl : ks.length < 64) (p : ∀ ys : List Str, ys.Perm ks → PyProof.Rows.sortedS ys = true → P (ys.map Da.str)) : RcF W (rSortedA K) [.dct es] P := fun B H M vs s hd Q q => by
  unfold Dats at hd
  obtain ⟨v, r, rfl, h1, t⟩ := hd
  unfold Dats at t
  subst t
  unfold Dat at h1
  obtain ⟨a, zs, rfl, s1, t1⟩ := h1
  exact Or.inr ⟨a, zs, ks, rfl, s1.2, by rw [t1.keys]; exact hk, hl, fun ys l h1 h2 nl => q l _ (ys.map Da.str) _ nl (Kp.new nl) (Wd.new nl s.dr) upd_same (Dats.ofStrs ys) (p ys h1 h2)⟩
theorem ev_join {x : Str} {xs : List Str} (hx : Ev W ta Γ c1 (· = .str x)) (h : Ev W tb Γ c2 (fun d => d = .lst (xs.map Da.str) ∨ d = .tup (xs.map Da.str))) (hl : (xs.map (·.length)).sum + xs.length * x.length ≤ 100000) : Ev W (tM1 (r_join K) ta tb) Γ (c1 + c2) (· = .str (Txt.join x xs)) := fun H0 B0 B σ H M s hM Q q =>
  hx H0 B0 B σ H M s (by omega) _ fun v1 d1 H1 k1 r1 h1 e1 => by
    subst e1
    have e := dStr.mp h1
    subst e
    refine ⟨⟨x, rfl⟩, h H0 B0 B σ H1 _ (s.keep k1 r1) (by omega) _ fun v d H2 k2 r2 hd e => ?_⟩
    rcases e with e | e
    all_goals
      subst e
      unfold Dat at hd
      obtain ⟨a, vs, rfl, h1, h2⟩ := hd
      have e := h2.strs
      subst e
    · exact ⟨x, a, xs, rfl, rfl, Or.inl h1.sq, by omega, q _ (.str _) H2 (k1.trans k2) (by rw [← sub_sub]; exact r2) (dStr.mpr rfl) rfl⟩
    · exact ⟨x, a, xs, rfl, rfl, Or.inr h1.sq, by omega, q _ (.str _) H2 (k1.trans k2) (by rw [← sub_sub]; exact r2) (dStr.mpr rfl) rfl⟩
/-- join of texts that are not known -/
theorem ev_joinP {x : Str} {P : List Str → Prop} {n : Nat} (hx : Ev W ta Γ c1 (· = .str x)) (h : Ev W tb Γ c2 (fun d => ∃ xs : List Str, d = .lst (xs.map Da.str) ∧ P xs)) (hl : ∀ xs, P xs → (xs.map (·.length)).sum + xs.length * x.length ≤ 100000) : Ev W (tM1 (r_join K) ta tb) Γ (c1 + c2) (fun d => ∃ xs, d = .str (Txt.join x xs) ∧ P xs) := fun H0 B0 B σ H M s hM Q q =>
  hx H0 B0 B σ H M s (by omega) _ fun v1 d1 H1 k1 r1 h1 e1 => by
    subst e1
    have e := dStr.mp h1
    subst e
    refine ⟨⟨x, rfl⟩, h H0 B0 B σ H1 _ (s.keep k1 r1) (by omega) _ fun v d H2 k2 r2 hd ⟨xs, e, p⟩ => ?_⟩
    subst e
    unfold Dat at hd
    obtain ⟨a, vs, rfl, h1, h2⟩ := hd
    have e := h2.strs
    subst e
    have := hl xs p
    exact ⟨x, a, xs, rfl, rfl, Or.inl h1.sq, by omega, q _ (.str _) H2 (k1.trans k2) (by rw [← sub_sub]; exact r2) (dStr.mpr rfl) ⟨xs, rfl, p⟩⟩
theorem evF_split {x y : Str} (hx : Ev W ta Γ c1 (· = .str x)) (hy : Ev W tb Γ c2 (· = .str y)) (h0 : (y.length == 0) = false) (hl : x.length ≤ 100000) : EvF W (tM1 r_split ta tb) Γ (c1 + c2) (· = (Txt.split x y).map Da.str) := fun H0 B0 B σ H M s hM Q q =>
  hx H0 B0 B σ H M s (by omega) _ fun v1 d1 H1 k1 r1 h1 e1 => by
    subst e1
    have e := dStr.mp h1
    subst e
    refine ⟨⟨x, rfl⟩, hy H0 B0 B σ H1 _ (s.keep k1 r1) (by omega) _ fun v d H2 k2 r2 hd e2 => ?_⟩
    subst e2
    have e := dStr.mp hd
    subst e
    refine ⟨x, y, rfl, rfl, h0, Nat.le_trans (Nat.add_le_add_right hl 2) (by decide), fun l nl => ?_⟩
    exact q l _ _ _ ((k1.trans k2).backB (fun z => ((s.keep k1 r1).keep k2 r2).al l (s.fb l z) nl) nl) ((k1.trans k2).trans (Kp.new nl)) (Wd.new nl (by rw [← sub_sub]; exact r2)) upd_same (Dats.ofStrs _) rfl
end
end WJ
set_option Elab.async false
set_option linter.all false
set_option maxRecDepth 100000
set_option maxHeartbeats 2000000
/-! WjM: lists of texts compared with [], _law_shuffled -/
namespace WJ
open PySem L2
/-! ### texts as data that == reads -/
def okS (x : Str) : Bool := x.cps.all (· < 0x110000)
theorem map_eraseIdx' {α β : Type} (f : α → β) : ∀ (xs : List α) (k : Nat), (xs.map f).eraseIdx k = (xs.eraseIdx k).map f
  | [], _ => rfl
  | _ :: _, 0 => rfl
  | x :: xs, k + 1 => by
    show f x :: (xs.map f).eraseIdx k = f x :: (xs.eraseIdx k).map f
    rw [map_eraseIdx' f xs k]
theorem plains_strs : ∀ xs : List Str, plains (xs.map Da.str) = true
  | [] => by unfold plains; rfl
  | x :: xs => by
    rw [List.map_cons]
    unfold plains Da.plain
    rw [plains_strs xs]
    rfl
theorem pys_strs : ∀ xs : List Str, pys (xs.map Da.str) = xs.map PyData.str
  | [] => by unfold pys; rfl
  | x :: xs => by
    rw [List.map_cons]
    unfold pys Da.py
    rw [pys_strs xs]
    rfl
theorem can_strs : ∀ xs : List Str, xs.all okS = true → PyData.canLayAll0 (xs.map PyData.str) = true
  | [], _ => rfl
  | x :: xs, h => by
    rw [List.all_cons] at h
    obtain ⟨h1, h2⟩ := Bool.and_eq_true_iff.mp h
    show (PyData.canLay0 (PyData.str x) && PyData.canLayAll0 (xs.map PyData.str)) = true
    rw [can_strs xs h2, Bool.and_true]
    exact h1
theorem dep_strs : ∀ xs : List Str, PyData.depthAll (xs.map PyData.str) ≤ 1
  | [] => by decide
  | n :: ns => by
    have h := dep_strs ns
    rw [List.map_cons]
    unfold PyData.depthAll
    unfold PyData.depth
    omega
theorem shaped_of {d : PyData} (h1 : d.canLay0 = true) (h2 : d.depth ≤ 64) : SeqAt.shaped d = true := by
  unfold SeqAt.shaped
  rw [h1, decide_eq_true h2]
  rfl
theorem shaped_strs {xs : List Str} (h : xs.all okS = true) : SeqAt.shaped (Da.lst (xs.map Da.str)).py = true := by
  unfold Da.py
  rw [pys_strs]
  have h2 := dep_strs xs
  refine shaped_of (by unfold PyData.canLay0; exact can_strs xs h) ?_
  unfold PyData.depth
  omega
theorem plain_strs {xs : List Str} : (Da.lst (xs.map Da.str)).plain = true := by
  unfold Da.plain
  exact plains_strs xs
theorem eqvAll_strs : ∀ xs ys : List Str, PyData.eqvAll (xs.map PyData.str) (ys.map PyData.str) = decide (xs = ys)
  | [], [] => rfl
  | [], _ :: _ => rfl
  | _ :: _, [] => rfl
  | x :: xs, y :: ys => by
    show (PyData.eqv (PyData.str x) (PyData.str y) && PyData.eqvAll (xs.map PyData.str) (ys.map PyData.str)) = _
    rw [eqvAll_strs xs ys]
    show ((x == y) && decide (xs = ys)) = decide (x :: xs = y :: ys)
    rw [Bool.eq_iff_iff]
    simp
theorem eqv_strs (xs ys : List Str) : PyData.eqv (Da.lst (xs.map Da.str)).py (Da.lst (ys.map Da.str)).py = decide (xs = ys) := by
  unfold Da.py
  rw [pys_strs, pys_strs]
  exact eqvAll_strs xs ys
section
variable {K : PySem.W.Frag} {W : Wd K} {Γ : List En} {c c1 c2 : Nat} {te ta tb ti : TE} {p : Po}
theorem rv_neS {xs ys : List Str} (h1 : xs.all okS = true) (h2 : ys.all okS = true) : Rv W (rNeA K) (.lst (xs.map Da.str)) (.lst (ys.map Da.str)) (· = .bl (!decide (xs = ys))) :=
  rv_neP plain_strs plain_strs (shaped_strs h1) (shaped_strs h2) (by rw [eqv_strs])
theorem rv_eqS {xs ys : List Str} (h1 : xs.all okS = true) (h2 : ys.all okS = true) : Rv W (rEqA K) (.lst (xs.map Da.str)) (.lst (ys.map Da.str)) (· = .bl (decide (xs = ys))) :=
  rv_eqP plain_strs plain_strs (shaped_strs h1) (shaped_strs h2) (by rw [eqv_strs])
theorem ev_nil : Ev W (tLst tNil) Γ 0 (· = .lst (([] : List Str).map Da.str)) := (evF_lst ea_nil (fun ds e => by rw [e]; decide)).ev'
theorem evF_nil : EvF W (tLst tNil) Γ 0 (· = []) := evF_lst ea_nil (fun ds e => by rw [e]; decide)
/-- f.append(l.pop(i)), both lists the body's own -/
theorem es_popApp {f l : Nat} {fs ls : List Da} (hf : Γ[f]? = some (.own fs)) (hl : Γ[l]? = some (.own ls)) (hne : f ≠ l) (hi : Ev W ti Γ c (fun d => ∃ k : Int, d = .int k ∧ 0 ≤ k ∧ k < (ls.length : Int))) (h1 : fs.length < 100000) (h2 : ls.length ≤ 100000)
    (hp : ∀ (k : Nat) (d : Da), ls[k]? = some d → p.nx ((Γ.set l (.own (ls.eraseIdx k))).set f (.own (fs ++ [d])))) :
    Es W (tDrop (tBM K "list" rAppend (tVar f) (tCons (tBM K "list" rPopAt (tVar l) (tCons ti tNil)) tNil))) Γ c p := fun H0 B0 B σ H M D s hM a b e g => by
  obtain ⟨o, ho, lf, xf, rfl, hBf, hxf, hdf⟩ := s.sl f _ hf
  obtain ⟨o, ho2, ll, xl, rfl, hBl, hxl, hdl⟩ := s.sl l _ hl
  have hOf : Ow σ Γ f lf := ⟨⟨_, hf, rfl⟩, ho⟩
  have hOl : Ow σ Γ l ll := ⟨⟨_, hl, rfl⟩, ho2⟩
  have hll : ll ≠ lf := fun z => hne (s.ow f l lf hOf (by rw [← z]; exact hOl))
  refine ⟨.ref lf, ho, Or.inl ⟨rfl, xf, Or.inl (Or.inl hxf)⟩, .ref ll, ho2, Or.inl ⟨rfl, xl, Or.inl (Or.inl hxl)⟩, ?_⟩
  refine hi H0 B0 B σ H M s hM _ fun v d H1 k r hv ⟨i, ei, hi0, hi1⟩ => ?_
  subst ei
  have ev := dInt.mp hv
  subst ev
  have s1 := s.keep k r
  have hxl1 : H1 ll = some (.lst xl) := k ll _ (s.outF hOl) hxl
  have hxf1 : H1 lf = some (.lst xf) := k lf _ (s.outF hOf) hxf
  have hlen := hdl.length
  have hkx : i.toNat < xl.length := by omega
  refine ⟨ll, xl, i, i.toNat, xl[i.toNat], rfl, rfl, hxl1, by omega, by omega, seqIndex_of hi0 (by omega), List.getElem?_eq_getElem hkx, ?_⟩
  have hdl1 : Dats K B H1 xl ls := Dats.mono (s.toBk.kp k) ls xl hdl
  have hdf1 : Dats K B H1 xf fs := Dats.mono (s.toBk.kp k) fs xf hdf
  obtain ⟨d, ed, hd⟩ := hdl1.get (List.getElem?_eq_getElem hkx)
  have s2 : Sg W H0 B0 B σ (Γ.set l (.own (ls.eraseIdx i.toNat))) (upd H1 ll (.lst (xl.eraseIdx i.toNat))) (M - c) :=
    s1.change hl rfl ho2 (e' := .own (ls.eraseIdx i.toNat)) rfl ⟨ll, _, rfl, hBl, upd_same, Dats.mono (Kp.mut hBl) _ _ (Dats.eraseIdx i.toNat hdl1)⟩
  have hf2 : (Γ.set l (.own (ls.eraseIdx i.toNat)))[f]? = some (.own fs) := by
    rw [List.getElem?_set_ne (fun z => hne z.symm)]
    exact hf
  have hxf2 : upd H1 ll (.lst (xl.eraseIdx i.toNat)) lf = some (.lst xf) := by
    rw [upd_ne (fun z => hll z.symm)]
    exact hxf1
  refine ⟨lf, xf, _, rfl, rfl, hxf2, by rw [hdf.length]; exact Nat.lt_of_lt_of_le h1 (by decide), ?_⟩
  refine a B σ _ _ (s2.change hf2 rfl ho (e' := .own (fs ++ [d])) rfl ⟨lf, _, rfl, hBf, upd_same, Dats.mono ((Kp.mut hBl).trans (Kp.mut hBf)) _ _ (hdf1.append (Dats.one hd))⟩) (Mv.of ((s.toBk.kp k).trans ((Kp.mut hBl).trans (Kp.mut hBf)))) (hp _ d ed)
theorem eraseIdx_perm {α : Type} : ∀ {xs : List α} {k : Nat} {x : α}, xs[k]? = some x → (x :: xs.eraseIdx k).Perm xs
  | [], k, x, h => by cases h
  | y :: ys, 0, x, h => by
    cases h
    exact .refl _
  | y :: ys, k + 1, x, h => by
    have h2 : ys[k]? = some x := by simpa using h
    exact (List.Perm.swap y x _).trans (.cons y (eraseIdx_perm h2))
def t__law_shuffled (K : PySem.W.Frag) (sp__law_next : Sp) : TS :=
  (tSeq (tPar 2 3 (tCons (tCB (rListA K) (tCons (tVar 1) tNil)) (tCons (tLst tNil) tNil)))
    (tSeq (tWhile (tTest (tOp (rNeA K) (tVar 2) (tLst tNil)))
    (tDrop (tBM K "list" rAppend (tVar 3) (tCons (tBM K "list" rPopAt (tVar 2) (tCons (tCall sp__law_next [] E0 (tCons (tVar 0) (tCons (tCB (rLenA K) (tCons (tVar 2) tNil)) tNil))) tNil)) tNil))))
    (tRet (tVar 3))))
theorem es_shuffled {q : Addr} {sp : Sp} {xs : List Str} (hN : NextOk W q sp) (hl : xs.length ≤ 1000) (ho : xs.all okS = true) (hp : ∀ ys : List Str, ys.Perm xs → p.rt (.lst (ys.map Da.str))) :
    Es W (t__law_shuffled K sp) [.dat (.obj q), .dat (.lst (xs.map Da.str)), .no, .no] (xs.length + 1) p := by
  have okp : ∀ ls : List Str, (∀ x ∈ ls, x ∈ xs) → ls.all okS = true := fun ls h => List.all_eq_true.mpr fun x hx => List.all_eq_true.mp ho x (h x hx)
  refine Es.weak (c := 0 + 0 + ((xs.length + 1) * (0 + 0 + (0 + (0 + 0 + 0) + 1)) + 0)) ?_ (by omega)
  refine es_seqE (Γ' := [.dat (.obj q), .dat (.lst (xs.map Da.str)), .own (xs.map Da.str), .own []]) (es_parE (P1 := fun e => e = .own (xs.map Da.str)) (P2 := fun e => e = .own []) ?_ ?_ ?_) ?_
  · have h := (evF_cb (K := K) (W := W) (Γ := [.dat (.obj q), .dat (.lst (xs.map Da.str)), .no, .no]) (ea_cons2 (ev_var (i := 1) rfl) ea_nil) (fun ds e => by rw [e]; exact rcF_list (P := (· = xs.map Da.str)) (d := .lst (xs.map Da.str)) rfl (by simpa using Nat.le_trans hl (by decide)) rfl)).e
    exact fun H0 B0 B σ H M s hM Q k => h H0 B0 B σ H M s hM Q fun v e H' k1 k2 k3 ⟨d, k4, k5⟩ => k v e H' k1 k2 k3 (by rw [k4, k5])
  · have h := (evF_nil (K := K) (W := W) (Γ := [.dat (.obj q), .dat (.lst (xs.map Da.str)), .no, .no])).e
    exact fun H0 B0 B σ H M s hM Q k => h H0 B0 B σ H M s hM Q fun v e H' k1 k2 k3 ⟨d, k4, k5⟩ => k v e H' k1 k2 k3 (by rw [k4, k5])
  · rintro e1 e2 rfl rfl
    rfl
  refine es_seq (N := fun Γ1 => ∃ fs : List Str, fs.Perm xs ∧ Γ1 = [.dat (.obj q), .dat (.lst (xs.map Da.str)), .own [], .own (fs.map Da.str)]) (es_while (m0 := xs.length) (I := fun m Γ1 => ∃ ls fs : List Str, ls.length = m ∧ (fs ++ ls).Perm xs ∧ Γ1 = [.dat (.obj q), .dat (.lst (xs.map Da.str)), .own (ls.map Da.str), .own (fs.map Da.str)]) ⟨xs, [], rfl, .refl _, rfl⟩ ?_) ?_
  · rintro m Γ1 hm ⟨ls, fs, rfl, hperm, rfl⟩
    have hls : ∀ x ∈ ls, x ∈ xs := fun x hx => hperm.subset (List.mem_append_right _ hx)
    refine ⟨fun b => b = !decide (ls = []), et_own (i := 2) rfl (et_testB (ev_op2 (ev_var rfl) ev_nil (rv_neS (okp ls hls) rfl))), fun hb => ?_, fun hb => ?_⟩
    · have hlen : 0 < ls.length := List.length_pos_iff.mpr fun z => by rw [z] at hb; cases hb
      have hpl := hperm.length_eq
      rw [List.length_append] at hpl
      refine es_popApp (f := 3) (l := 2) rfl rfl (by decide) (ev_own (i := 2) rfl (ev_callE (ea_cons2 (ev_var rfl) (ea_cons2 (ev_cbE (ea_cons2 (ev_var rfl) ea_nil) (rc_lenL rfl)) ea_nil)) (hN _ _ (by simpa using hlen) (by simp; omega) (fun k a b => ⟨k, rfl, a, b⟩))) (fun d ⟨k, z, _⟩ => by rw [z]; rfl)) (by rw [List.length_map]; omega) (by rw [List.length_map]; omega) (fun k d hd => ?_)
      rw [List.getElem?_map] at hd
      cases e : ls[k]? with
      | none =>
        rw [e] at hd
        cases hd
      | some x =>
        rw [e] at hd
        cases hd
        have hk : k < ls.length := (List.getElem?_eq_some_iff.mp e).1
        refine ⟨(ls.eraseIdx k).length, by rw [List.length_eraseIdx, if_pos hk]; omega, ls.eraseIdx k, fs ++ [x], rfl, ?_, by simp [map_eraseIdx']⟩
        rw [List.append_assoc]
        exact (List.Perm.append_left fs (eraseIdx_perm e)).trans hperm
    · have e : ls = [] := by
        by_cases z : ls = []
        · exact z
        · rw [decide_eq_false z] at hb
          cases hb
      subst e
      rw [List.append_nil] at hperm
      exact ⟨fs, hperm, rfl⟩
  · rintro Γ1 ⟨fs, hperm, rfl⟩
    exact es_freeze (i := 3) rfl (es_retE (ev_var rfl) (hp fs hperm))
end
end WJ
set_option Elab.async false
set_option linter.all false
set_option maxRecDepth 100000
set_option maxHeartbeats 2000000
/-! WjN: comprehensions of drawn things, slices, drawn words -/
namespace WJ
open PySem L2 TL
section
variable {K : PySem.W.Frag} {W : Wd K} {Γ : List En} {c c0 c1 c2 cb n : Nat} {te ta tb ti : TE} {wi : TI} {i : Nat}
/-- a comprehension without a test whose elements all are P -/
theorem evF_each {Pi : List Da → Prop} {P : Da → Prop} (hi : Ei W wi Γ c0 Pi) (he : ∀ ds d, Pi ds → d ∈ ds → Ev W te ((wipeE Γ [i]).set i (.dat d)) cb P) (hn : ∀ ds, Pi ds → ds.length ≤ n) (hz : n ≤ 100000) :
    EvF W (tLc wi (gName i) tYes te [i]) Γ (c0 + n * cb) (fun acc => ∃ ds, Pi ds ∧ acc.length = ds.length ∧ ∀ x ∈ acc, P x) := by
  refine (evF_lc (n := n) (R := fun ds j acc => acc.length = j ∧ ∀ x ∈ acc, P x) hi (fun ds h => ⟨rfl, fun x z => nomatch z⟩) (fun ds j d acc h hj ha => ?_) hn hz).weak (Nat.le_refl _) (fun acc ⟨ds, h1, h2⟩ => ⟨ds, h1, h2⟩)
  refine ⟨_, fun b => b = true, 0, cb, eg_name, by omega, et_yes rfl, fun _ => (he ds d h (List.mem_of_getElem? hj)).imp fun e q => ⟨by simp [ha.1], fun x hx => ?_⟩, fun z => by cases z⟩
  rcases List.mem_append.mp hx with z | z
  · exact ha.2 x z
  · rw [List.mem_singleton.mp z]
    exact q
/-! slices -/
def EvO (W : Wd K) (to : TO) (Γ : List En) (c : Nat) (P : Option Int → Prop) : Prop :=
  ∀ (H0 : Hp) (B0 B : List Addr) (σ : L2.St) (H : Hp) (M : Nat), Sg W H0 B0 B σ Γ H M → c ≤ M → ∀ Q : Option Int → Hp → Prop, (∀ o H', Kp W.F H H' → W.Dr (M - c) H' → P o → Q o H') → to σ H Q
theorem eo_none : EvO W tNoPart Γ 0 (· = none) := fun H0 B0 B σ H M s _ Q q => q none H Kp.refl s.dr rfl
theorem eo_some {P : Int → Prop} (h : Ev W ti Γ c (fun d => ∃ k, d = .int k ∧ P k)) : EvO W (tPart ti) Γ c (fun o => ∃ k, o = some k ∧ P k) := fun H0 B0 B σ H M s hM Q q =>
  h H0 B0 B σ H M s hM _ fun v d H1 k r hd ⟨i, e, p⟩ => by
    subst e
    exact ⟨i, dInt.mp hd, q (some i) H1 k r ⟨i, rfl, p⟩⟩
theorem eo_int {k : Int} (h : Ev W ti Γ c (· = .int k)) : EvO W (tPart ti) Γ c (· = some k) := fun H0 B0 B σ H M s hM Q q =>
  h H0 B0 B σ H M s hM _ fun v d H1 k1 r hd e => by
    subst e
    exact ⟨k, dInt.mp hd, q (some k) H1 k1 r rfl⟩
def cutD (xs : List Da) (lo hi : Option Int) : List Da := (xs.drop (HT.sIx xs.length 0 lo)).take (HT.sIx xs.length xs.length hi - HT.sIx xs.length 0 lo)
theorem evF_slL {Pd : List Da → Prop} {Pl Ph : Option Int → Prop} {tl th : TO} (h : Ev W te Γ c0 (fun d => ∃ ds, d = .lst ds ∧ Pd ds)) (h1 : EvO W tl Γ c1 Pl) (h2 : EvO W th Γ c2 Ph) :
    EvF W (tSl (rSlA K) te tl th) Γ (c0 + c1 + c2) (fun es => ∃ ds lo hi, Pd ds ∧ Pl lo ∧ Ph hi ∧ es = cutD ds lo hi) := fun H0 B0 B σ H M s hM Q q =>
  h H0 B0 B σ H M s (by omega) _ fun v d H1 k1 r1 hd ⟨ds, e, pd⟩ => h1 H0 B0 B σ H1 _ (s.keep k1 r1) (by omega) _ fun lo H2 k2 r2 p2 => h2 H0 B0 B σ H2 _ ((s.keep k1 r1).keep k2 r2) (by omega) _ fun hi H3 k3 r3 p3 => by
    subst e
    have s3 := ((s.keep k1 r1).keep k2 r2).keep k3 r3
    have hd3 := Dat.mono (((s.keep k1 r1).toBk.kp k2).trans (((s.keep k1 r1).keep k2 r2).toBk.kp k3)) _ _ hd
    unfold Dat at hd3
    obtain ⟨a, xs, rfl, sl, t⟩ := hd3
    refine Or.inl ⟨a, xs, rfl, sl.sq, fun l nl => ?_⟩
    have e1 : cutV xs lo hi = (xs.drop (HT.sIx ds.length 0 lo)).take (HT.sIx ds.length ds.length hi - HT.sIx ds.length 0 lo) := by unfold cutV; rw [t.length]
    refine q l (cutV xs lo hi) (cutD ds lo hi) _ (((k1.trans k2).trans k3).backB (fun z => s3.al l (s.fb l z) nl) nl) (((k1.trans k2).trans k3).trans (Kp.new nl)) (Wd.new nl (W.less r3 (by omega))) upd_same ?_ ⟨ds, lo, hi, pd, p2, p3, rfl⟩
    rw [e1]
    exact Dats.mono (Kp.new nl) _ _ (Dats.put nl _ _ (Dats.take _ (Dats.drop _ t)))
theorem ev_slS {x : Str} {Pl Ph : Option Int → Prop} {tl th : TO} (h : Ev W te Γ c0 (· = .str x)) (h1 : EvO W tl Γ c1 Pl) (h2 : EvO W th Γ c2 Ph) (hl : x.length ≤ 100000) :
    Ev W (tSl (rSlA K) te tl th) Γ (c0 + c1 + c2) (fun d => ∃ lo hi, Pl lo ∧ Ph hi ∧ d = .str (cutS x lo hi)) := fun H0 B0 B σ H M s hM Q q =>
  h H0 B0 B σ H M s (by omega) _ fun v d H1 k1 r1 hd e => h1 H0 B0 B σ H1 _ (s.keep k1 r1) (by omega) _ fun lo H2 k2 r2 p2 => h2 H0 B0 B σ H2 _ ((s.keep k1 r1).keep k2 r2) (by omega) _ fun hi H3 k3 r3 p3 => by
    subst e
    exact Or.inr (Or.inl ⟨x, dStr.mp hd, Nat.le_trans hl (by decide), q _ (.str _) H3 ((k1.trans k2).trans k3) (W.less r3 (by omega)) (dStr.mpr rfl) ⟨lo, hi, p2, p3, rfl⟩⟩)
/-! letters and words -/
def abc : Str := "abcdefghijklmnopqrstuvwxyz"
def letterC (c : Nat) : Bool := decide (c ∈ abc.cps.toList)
/-- a text of n letters, lo ≤ n ≤ hi -/
def lettersS (lo hi : Nat) (x : Str) : Bool := decide (lo ≤ x.length) && decide (x.length ≤ hi) && x.cps.toList.all letterC
def isName (x : Str) : Bool := lettersS 1 6 x
theorem letter_lt {c : Nat} (h : letterC c = true) : 97 ≤ c ∧ c ≤ 122 := by
  have h2 : c ∈ abc.cps.toList := of_decide_eq_true h
  have e : abc.cps.toList = [97, 98, 99, 100, 101, 102, 103, 104, 105, 106, 107, 108, 109, 110, 111, 112, 113, 114, 115, 116, 117, 118, 119, 120, 121, 122] := by decide +kernel
  rw [e] at h2
  simp only [List.mem_cons, List.not_mem_nil, or_false] at h2
  omega
theorem name_ok {x : Str} {lo hi : Nat} (h : lettersS lo hi x = true) : okS x = true := by
  unfold lettersS at h
  obtain ⟨_, h2⟩ := Bool.and_eq_true_iff.mp h
  unfold okS
  rw [← Array.all_toList, List.all_eq_true]
  intro c hc
  have := letter_lt (List.all_eq_true.mp h2 c hc)
  exact decide_eq_true (by omega)
theorem name_len {x : Str} {lo hi : Nat} (h : lettersS lo hi x = true) : lo ≤ x.length ∧ x.length ≤ hi := by
  unfold lettersS at h
  obtain ⟨h1, _⟩ := Bool.and_eq_true_iff.mp h
  obtain ⟨h1, h2⟩ := Bool.and_eq_true_iff.mp h1
  exact ⟨of_decide_eq_true h1, of_decide_eq_true h2⟩
/-- signs put together -/
def signs (cs : List Nat) : List Str := cs.map fun c => ⟨#[c]⟩
theorem join_signs : ∀ cs : List Nat, Txt.join "" (signs cs) = ⟨cs.toArray⟩ := fun cs => by
  rw [join_eq]
  have h : tl (Str.join "" (signs cs)) = cs := by
    rw [tl_join]
    have e : tl ("" : Str) = [] := by decide +kernel
    rw [e]
    have key : ∀ cs : List Nat, joinL [] ((signs cs).map tl) = cs := fun cs => by
      induction cs with
      | nil => rfl
      | cons c cs ih =>
        cases cs with
        | nil => rfl
        | cons d ds =>
          show [c] ++ ([] ++ joinL [] ((signs (d :: ds)).map tl)) = c :: d :: ds
          rw [ih]
          rfl
    exact key cs
  have e2 : Str.join "" (signs cs) = ⟨(tl (Str.join "" (signs cs))).toArray⟩ := (mk_tl _).symm
  rw [e2, h]
theorem signs_sum (cs : List Nat) : ((signs cs).map (·.length)).sum = cs.length := by
  induction cs with
  | nil => rfl
  | cons c cs ih =>
    show (⟨#[c]⟩ : Str).length + ((signs cs).map (·.length)).sum = cs.length + 1
    rw [ih]
    show 1 + cs.length = _
    omega
/-- ''.join([pick(draw, letters) for k in range(1 + next(draw, m))]) : a text of letters -/
theorem ev_word {q : Addr} {spN spP : Sp} {dv pv k : Nat} {letters : Str} {m : Nat} (hN : NextOk W q spN) (hP : PickOk W q spP) (hd : Γ[dv]? = some (.dat (.obj q))) (hp : Γ[pv]? = some (.dat (.str letters))) (hk1 : dv ≠ k) (hk2 : pv ≠ k)
    (hl : letters.cps.toList.all letterC = true) (hl0 : letters.length ≠ 0) (hl1 : letters.length ≤ 1000) (hm0 : 0 < m) (hm : m ≤ 20) :
    Ev W (tM1 (r_join K) (tC (.str "")) (tLc (iRng1 (tCons (tOp (rAddA K) (tC (.int 1)) (tCall spN [] E0 (tCons (tVar dv) (tCons (tC (.int (m : Int))) tNil)))) tNil)) (gName k) tYes (tCall spP [] E0 (tCons (tVar dv) (tCons (tVar pv) tNil))) [k])) Γ (1 + m) (fun d => ∃ x, d = .str x ∧ lettersS 1 m x = true) := by
  have hsig : signsD letters = (letters.cps.toList.map fun c => Da.str ⟨#[c]⟩) := rfl
  have hcomp := evF_each (K := K) (W := W) (Γ := Γ) (i := k) (n := m) (cb := 1) (c0 := 0 + (0 + (0 + 0) + 1) + 0) (te := tCall spP [] E0 (tCons (tVar dv) (tCons (tVar pv) tNil))) (P := fun d => ∃ c, d = .str ⟨#[c]⟩ ∧ letterC c = true) (Pi := fun ds => ∃ j : Nat, j < m ∧ ds = rngD 0 (j + 1))
    (ei_rng1 (c := 0 + (0 + (0 + 0) + 1) + 0) (ea_cons (ev_op ev_int (ev_callE (E := E0) (ea_cons2 (ev_var hd) (ea_cons2 ev_int ea_nil)) (hN m (fun d => ∃ j : Int, d = .int j ∧ 0 ≤ j ∧ j < m) (by omega) (by omega) (fun j a b => ⟨j, rfl, a, b⟩))) (P := fun d => ∃ j : Nat, j < m ∧ d = .int (1 + j)) (fun d1 d2 e1 ⟨j, e2, h1, h2⟩ => by
      subst e1 e2
      exact rv_addI ⟨j.toNat, by omega, by rw [Int.toNat_of_nonneg h1]⟩)) ea_nil (fun d ds ⟨j, h1, h2⟩ e => by
      subst h2 e
      exact ⟨1 + (j : Int), rfl, ⟨by omega, by omega⟩, j, h1, by rw [show (1 + (j : Int)).toNat = j + 1 by omega]⟩)))
    (fun ds d ⟨j, h1, h2⟩ hd2 => by
      refine ev_callE (c1 := 0 + (0 + 0)) (c2 := 1) (ea_cons2 (ev_var ?_) (ea_cons2 (ev_var ?_) ea_nil)) (hP (.str letters) (signsD letters) _ rfl (fun z => hl0 ?_) ?_ ?_)
      · show ((Γ.set k .no).set k (.dat d))[dv]? = _
        rw [List.getElem?_set_ne hk1.symm, List.getElem?_set_ne hk1.symm]
        exact hd
      · show ((Γ.set k .no).set k (.dat d))[pv]? = _
        rw [List.getElem?_set_ne hk2.symm, List.getElem?_set_ne hk2.symm]
        exact hp
      · rw [← signs_len, z]; rfl
      · rw [signs_len]; omega
      · intro x hx
        rw [hsig] at hx
        obtain ⟨c, hc, rfl⟩ := List.mem_map.mp hx
        exact ⟨c, rfl, List.all_eq_true.mp hl c hc⟩)
    (fun ds ⟨j, h1, h2⟩ => by rw [h2, rngD_len]; omega) (by omega)
  have hj := ev_joinP (K := K) (W := W) (Γ := Γ) (x := "") (n := m) (P := fun xs => ∃ cs : List Nat, xs = signs cs ∧ 1 ≤ cs.length ∧ cs.length ≤ m ∧ cs.all letterC = true) ev_str (hcomp.ev.imp fun d ⟨acc, e, ds, ⟨j, h1, h2⟩, h3, h4⟩ => by
      have key : ∀ acc : List Da, (∀ x ∈ acc, ∃ c, x = Da.str ⟨#[c]⟩ ∧ letterC c = true) → ∃ cs : List Nat, acc = (signs cs).map Da.str ∧ cs.all letterC = true := fun acc => by
        induction acc with
        | nil => exact fun _ => ⟨[], rfl, rfl⟩
        | cons a acc ih =>
          intro h
          obtain ⟨c, e, hc⟩ := h a List.mem_cons_self
          obtain ⟨cs, e2, h2⟩ := ih fun x hx => h x (List.mem_cons_of_mem _ hx)
          refine ⟨c :: cs, ?_, by rw [List.all_cons, hc, h2]; rfl⟩
          rw [e, e2]
          rfl
      obtain ⟨cs, e1, e2⟩ := key acc h4
      have hlen : cs.length = j + 1 := by
        have e3 : acc.length = cs.length := by rw [e1, List.length_map]; simp [signs]
        rw [← e3, h3, h2, rngD_len]
      exact ⟨signs cs, by rw [e, e1], cs, rfl, by omega, by omega, e2⟩) (fun xs ⟨cs, e, h1, h2, _⟩ => by
      rw [e, signs_sum]
      have e4 : ("" : Str).length = 0 := by decide +kernel
      rw [e4]
      omega)
  refine hj.weak (by omega) fun d ⟨xs, e, cs, e1, h1, h2, h3⟩ => ⟨_, e, ?_⟩
  rw [e1, join_signs]
  unfold lettersS
  have el : (⟨cs.toArray⟩ : Str).length = cs.length := by simp [Str.length]
  rw [el, decide_eq_true h1, decide_eq_true h2]
  simpa using h3
end
end WJ
set_option Elab.async false
set_option linter.all false
set_option maxRecDepth 100000
set_option maxHeartbeats 2000000
/-! P75: the defs of law k75 over data -/
namespace P75
open PySem L2 TL WJ
section
variable {K : PySem.W.Frag} {W : Wd K} {Γ : List En} {p : Po}
theorem inV_strs (x : Str) (tk : List Str) : inV (.str x) (tk.map V.str) = decide (x ∈ tk) := by
  unfold inV
  rw [List.any_map, Bool.eq_iff_iff, List.any_eq_true, decide_eq_true_iff]
  constructor
  · rintro ⟨y, hy, e⟩
    have e2 : (y == x) = true := e
    rw [← eq_of_beq e2]
    exact hy
  · intro h
    exact ⟨x, h, by show (x == x) = true; exact beq_self_eq_true x⟩
theorem flats_strs : ∀ tk : List Str, flats (tk.map Da.str) = some (tk.map V.str)
  | [] => rfl
  | x :: tk => by
    rw [List.map_cons]
    unfold flats
    rw [flats_strs tk]
    rfl
/-- the names that are taken: a list of them, or the keys of a dict -/
def Taken (d : Da) (tk : List Str) : Prop := d = .lst (tk.map Da.str) ∨ ∃ es : List (Key × Da), d = .dct es ∧ es.map (·.1) = tk.map Sum.inr
theorem val_keys {es : List (Key × Da)} {k : Key} : (valD es k).isSome = (es.map fun q : Key × Da => q.1).any fun q => decide (q = k) := by
  unfold valD
  rw [Option.isSome_map, List.isSome_find?, List.any_map]
  rfl
theorem any_inr (tk : List Str) (x : Str) : ((tk.map Sum.inr : List Key).any fun q => decide (q = Sum.inr x)) = decide (x ∈ tk) := by
  rw [List.any_map, Bool.eq_iff_iff, List.any_eq_true, decide_eq_true_iff]
  constructor
  · rintro ⟨y, hy, e⟩
    have e2 := of_decide_eq_true e
    cases e2
    exact hy
  · exact fun hx => ⟨x, hx, decide_eq_true rfl⟩
theorem rv_in_tk {neg : Bool} {x : Str} {d : Da} {tk : List Str} (h : Taken d tk) : Rv W (rInA K neg) (.str x) d (· = .bl (if neg then !decide (x ∈ tk) else decide (x ∈ tk))) := by
  rcases h with rfl | ⟨es, rfl, hk⟩
  · exact rv_inL (w := .str x) rfl (flats_strs tk) (by rw [inV_strs])
  · refine rv_inD (k := Sum.inr x) ?_
    have e : (valD es (Sum.inr x)).isSome = decide (x ∈ tk) := by
      rw [val_keys]
      have hk2 : (es.map fun q : Key × Da => q.1) = tk.map Sum.inr := hk
      rw [hk2, any_inr]
    rw [e]
def t__law_name (K : PySem.W.Frag) (sp__law_next : Sp) (sp__law_pick : Sp) : TS :=
  (tSeq (tAsg (tC (.str "abcdefghijklmnopqrstuvwxyz")) (gName 2))
    (tSeq (tAsg (tLst (tCons (tC (.str "table")) (tCons (tC (.str "row")) (tCons (tC (.str "refer")) (tCons (tC (.str "single")) (tCons (tC (.str "many")) (tCons (tC (.str "a")) (tCons (tC (.str "zzzzzz")) (tCons (tC (.str "none")) tNil))))))))) (gName 3))
    (tSeq (tAsg (tOp (rAddA K) (tVar 3) (tLc (iRng1 (tCons (tC (.int 3)) tNil)) (gName 4) tYes (tM1 (r_join K) (tC (.str "")) (tLc (iRng1 (tCons (tOp (rAddA K) (tC (.int 1)) (tCall sp__law_next [] E0 (tCons (tVar 0) (tCons (tC (.int 6)) tNil)))) tNil)) (gName 5) tYes (tCall sp__law_pick [] E0 (tCons (tVar 0) (tCons (tVar 2) tNil))) [5])) [4])) (gName 3))
    (tSeq (tAsg (tOp (rAddA K) (tOp (rAddA K) (tSl (rSlA K) (tVar 3) (tPart (tCall sp__law_next [] E0 (tCons (tVar 0) (tCons (tCB (rLenA K) (tCons (tVar 3) tNil)) tNil)))) tNoPart) (tVar 3)) (tCB (rListA K) (tCons (tVar 2) tNil))) (gName 3))
    (tRet (tOp (rIxA K) (tLc (iList K (tVar 3)) (gName 6) (tTest (tOp (rInA K true) (tVar 6) (tVar 1))) (tVar 6) [6]) (tC (.int 0))))))))
def startNames : List Str := ["table", "row", "refer", "single", "many", "a", "zzzzzz", "none"]
theorem start_names : startNames.all isName = true := by decide +kernel
theorem abc_signs : signsD abc = (signs abc.cps.toList).map Da.str := by
  unfold signsD signs
  rw [List.map_map]
  rfl
theorem abc_names : (signs abc.cps.toList).all isName = true := by decide +kernel
theorem abc_nodup : (signs abc.cps.toList).Nodup := by decide +kernel
theorem abc_len : (signs abc.cps.toList).length = 26 := by decide +kernel
theorem nodup_sub {α : Type} [DecidableEq α] : ∀ {xs ys : List α}, xs.Nodup → (∀ x ∈ xs, x ∈ ys) → xs.length ≤ ys.length
  | [], _, _, _ => Nat.zero_le _
  | x :: xs, ys, h, hs => by
    obtain ⟨h1, h2⟩ := List.nodup_cons.mp h
    have hx : x ∈ ys := hs x List.mem_cons_self
    have := nodup_sub (ys := ys.erase x) h2 fun y hy => (List.mem_erase_of_ne (fun z => h1 (by rw [← z]; exact hy))).mpr (hs y (List.mem_cons_of_mem _ hy))
    rw [List.length_erase_of_mem hx] at this
    have hp := List.length_pos_of_mem hx
    rw [List.length_cons]
    omega
theorem free_letter {tk : List Str} (h : tk.length ≤ 25) : ∃ x ∈ signs abc.cps.toList, x ∉ tk := by
  by_cases hx : ∃ x ∈ signs abc.cps.toList, x ∉ tk
  · exact hx
  · exfalso
    have hs : (signs abc.cps.toList) ⊆ tk := fun x hx2 => by
      by_cases z : x ∈ tk
      · exact z
      · exact absurd ⟨x, hx2, z⟩ hx
    have h2 := nodup_sub abc_nodup hs
    rw [abc_len] at h2
    omega
theorem strs_of {P : Str → Prop} : ∀ {acc : List Da}, (∀ x ∈ acc, ∃ y, x = Da.str y ∧ P y) → ∃ xs : List Str, acc = xs.map Da.str ∧ ∀ x ∈ xs, P x
  | [], _ => ⟨[], rfl, fun _ z => nomatch z⟩
  | a :: acc, h => by
    obtain ⟨y, e, hy⟩ := h a List.mem_cons_self
    obtain ⟨xs, e2, h2⟩ := strs_of fun x hx => h x (List.mem_cons_of_mem _ hx)
    refine ⟨y :: xs, by rw [e, e2]; rfl, fun x hx => ?_⟩
    rcases List.mem_cons.mp hx with z | z
    · rw [z]; exact hy
    · exact h2 x z
theorem cutD_strs (xs : List Str) (lo hi : Option Int) : ∃ ys : List Str, cutD (xs.map Da.str) lo hi = ys.map Da.str ∧ (∀ y ∈ ys, y ∈ xs) ∧ ys.length ≤ xs.length := by
  unfold cutD
  rw [List.length_map]
  refine ⟨(xs.drop (HT.sIx xs.length 0 lo)).take (HT.sIx xs.length xs.length hi - HT.sIx xs.length 0 lo), by rw [List.map_take, List.map_drop], fun y hy => List.mem_of_mem_drop (List.mem_of_mem_take hy), ?_⟩
  rw [List.length_take, List.length_drop]
  omega
theorem es_name {q : Addr} {spN spP : Sp} {d : Da} {tk : List Str} (hN : NextOk W q spN) (hP : PickOk W q spP) (ht : Taken d tk) (hl : tk.length ≤ 25) (hp : ∀ x, isName x = true → x ∉ tk → p.rt (.str x)) :
    Es W (t__law_name K spN spP) [.dat (.obj q), .dat d, .no, .no, .no, .no, .no] 40 p := by
  refine Es.weak (c := 0 + (0 + ((0 + (0 + 3 * (1 + 6))) + ((0 + (0 + (0 + 0 + 0) + 1) + 0 + 0 + 0) + (0 + 100 * (0 + 0) + 0))))) ?_ (by omega)
  refine es_seqE (es_asgE (d := .str abc) ev_str rfl) ?_
  refine es_seqE (es_asgE (d := .lst (startNames.map Da.str)) ((evF_lst (P := (· = startNames.map Da.str)) (ea_cons2 ev_str (ea_cons2 ev_str (ea_cons2 ev_str (ea_cons2 ev_str (ea_cons2 ev_str (ea_cons2 ev_str (ea_cons2 ev_str (ea_cons2 ev_str ea_nil)))))))) (fun ds e => by rw [e]; decide)).ev') rfl) ?_
  -- some + three words
  refine es_seq (N := fun Γ1 => ∃ ws : List Str, ws.all isName = true ∧ ws.length ≤ 20 ∧ ws ≠ [] ∧ Γ1 = [.dat (.obj q), .dat d, .dat (.str abc), .dat (.lst (ws.map Da.str)), .no, .no, .no]) (es_asg (P := fun e => ∃ ws : List Str, ws.all isName = true ∧ ws.length ≤ 20 ∧ ws ≠ [] ∧ e = .lst (ws.map Da.str)) ?_ ?_) ?_
  · have hw := evF_each (K := K) (W := W) (Γ := [.dat (.obj q), .dat d, .dat (.str abc), .dat (.lst (startNames.map Da.str)), .no, .no, .no]) (i := 4) (n := 3) (cb := 1 + 6) (c0 := 0) (P := fun e => ∃ x, e = .str x ∧ lettersS 1 6 x = true) (Pi := fun ds => ds = rngD 0 3)
      (ei_rng1 (c := 0 + 0) (ea_cons ev_int ea_nil (fun e es e1 e2 => by subst e1 e2; exact ⟨3, rfl, ⟨by decide, by decide⟩, rfl⟩)))
      (fun ds e _ _ => ev_word (k := 5) (dv := 0) (pv := 2) (m := 6) hN hP rfl rfl (by decide) (by decide) (by decide +kernel) (by decide +kernel) (by decide +kernel) (by decide) (by decide)) (fun ds e => by rw [e, rngD_len]; decide) (by decide)
    refine (evF_op (ev_var (d := .lst (startNames.map Da.str)) rfl) hw.ev (P := fun es => ∃ ws : List Str, ws.all isName = true ∧ ws.length ≤ 20 ∧ ws ≠ [] ∧ es = ws.map Da.str) (fun d1 d2 e1 ⟨acc, e2, ds, e3, h1, h2⟩ => ?_)).ev.imp (fun e ⟨es, h1, ws, h2, h3, h4, h5⟩ => ⟨ws, h2, h3, h4, by rw [h1, h5]⟩)
    subst e1 e2 e3
    rw [rngD_len] at h1
    obtain ⟨xs, e5, h5⟩ := strs_of h2
    subst e5
    rw [List.length_map] at h1
    refine rvF_addL (by rw [List.length_map, List.length_map, h1]; decide) ⟨startNames ++ xs, ?_, by rw [List.length_append, h1]; decide, by simp [startNames], by rw [List.map_append]⟩
    rw [List.all_append, start_names, Bool.true_and]
    exact List.all_eq_true.mpr h5
  · rintro e ⟨ws, h1, h2, h3, rfl⟩
    exact ⟨ws, h1, h2, h3, rfl⟩
  rintro Γ1 ⟨ws, hw, hwl, hw0, rfl⟩
  -- some[..:] + some + list(letters)
  refine es_seq (N := fun Γ1 => ∃ us : List Str, us.all isName = true ∧ us.length ≤ 100 ∧ (∀ x ∈ signs abc.cps.toList, x ∈ us) ∧ Γ1 = [.dat (.obj q), .dat d, .dat (.str abc), .dat (.lst (us.map Da.str)), .no, .no, .no]) (es_asg (P := fun e => ∃ us : List Str, us.all isName = true ∧ us.length ≤ 100 ∧ (∀ x ∈ signs abc.cps.toList, x ∈ us) ∧ e = .lst (us.map Da.str)) ?_ ?_) ?_
  · have hpos : 0 < ws.length := List.length_pos_iff.mpr hw0
    have hs := evF_slL (K := K) (W := W) (Γ := [.dat (.obj q), .dat d, .dat (.str abc), .dat (.lst (ws.map Da.str)), .no, .no, .no]) (Pd := (· = ws.map Da.str)) ((ev_var (i := 3) rfl).imp fun e h => ⟨_, h, rfl⟩)
      (eo_some (P := fun _ => True) (ev_callE (E := E0) (ea_cons2 (ev_var (i := 0) rfl) (ea_cons2 (ev_cbE (ea_cons2 (ev_var (i := 3) rfl) ea_nil) (rc_lenL rfl)) ea_nil)) (hN _ _ (by rw [List.length_map]; omega) (by rw [List.length_map]; omega) (fun k a b => ⟨k, rfl, trivial⟩)))) eo_none
    have h2 := evF_op (hs.ev) (ev_var (W := W) (i := 3) rfl) (r := rAddA K) (P := fun es => ∃ us : List Str, us.all isName = true ∧ us.length ≤ 40 ∧ es = us.map Da.str) (fun d1 d2 ⟨es, e1, ds, lo, hi, h1, _, _, h4⟩ e2 => by
      subst e1 e2 h1
      obtain ⟨ys, e5, h5, h6⟩ := cutD_strs ws lo hi
      rw [h4, e5]
      refine rvF_addL (by rw [List.length_map, List.length_map]; omega) ⟨ys ++ ws, ?_, by rw [List.length_append]; omega, by rw [List.map_append]⟩
      rw [List.all_append, hw, Bool.and_true]
      exact List.all_eq_true.mpr fun y hy => List.all_eq_true.mp hw y (h5 y hy))
    refine (evF_op h2.ev (evF_cb (ea_cons2 (ev_var (W := W) (i := 2) rfl) ea_nil) (fun ds e => by rw [e]; exact rcF_list (P := (· = (signs abc.cps.toList).map Da.str)) (d := .str abc) rfl (by rw [signs_len]; decide +kernel) abc_signs)).ev' (r := rAddA K) (P := fun es => ∃ us : List Str, us.all isName = true ∧ us.length ≤ 100 ∧ (∀ x ∈ signs abc.cps.toList, x ∈ us) ∧ es = us.map Da.str) (fun d1 d2 ⟨es, e1, us, h1, h3, h4⟩ e2 => ?_)).ev.weak (by decide) (fun e ⟨es, h1, us, h2, h3, h4, h5⟩ => ⟨us, h2, h3, h4, by rw [h1, h5]⟩)
    subst e1 e2 h4
    refine rvF_addL (by rw [List.length_map, List.length_map, abc_len]; omega) ⟨us ++ signs abc.cps.toList, ?_, by rw [List.length_append, abc_len]; omega, fun x hx => List.mem_append_right _ hx, by rw [List.map_append]⟩
    rw [List.all_append, h1, abc_names]
    rfl
  · rintro e ⟨ws, h1, h2, h3, rfl⟩
    exact ⟨ws, h1, h2, h3, rfl⟩
  rintro Γ1 ⟨us, hu, hul, hua, rfl⟩
  refine es_ret (P := fun e => ∃ x, e = .str x ∧ isName x = true ∧ x ∉ tk) (ev_op (evF_filter (ds := us.map Da.str) (t := fun e => match e with | .str x => !decide (x ∈ tk) | _ => false) (f := fun e => e) (ct := 0 + 0) (ce := 0) (n := 100) (ei_list ((ev_var rfl).imp fun e h => ⟨_, h, rfl⟩)) ?_ ?_ (by rw [List.length_map]; exact hul) (by decide)).ev' ev_int (fun d1 d2 e1 e2 => ?_)) (fun e ⟨x, h1, h2, h3⟩ => by rw [h1]; exact hp x h2 h3)
  · intro e he
    obtain ⟨x, hx, rfl⟩ := List.mem_map.mp he
    exact et_testB (ev_op2 (ev_var rfl) (ev_var rfl) (rv_in_tk ht))
  · intro e he _
    exact ev_var rfl
  · subst e1 e2
    have ef : ((us.map Da.str).filter fun e => match e with | .str x => !decide (x ∈ tk) | _ => false) = (us.filter fun x => !decide (x ∈ tk)).map Da.str := by rw [List.filter_map]; rfl
    rw [ef, List.map_id']
    obtain ⟨x, hx1, hx2⟩ := free_letter hl
    have hne : (us.filter fun x => !decide (x ∈ tk)) ≠ [] := fun z => by
      have hm : x ∈ us.filter fun x => !decide (x ∈ tk) := List.mem_filter.mpr ⟨hua x hx1, by rw [decide_eq_false hx2]; rfl⟩
      rw [z] at hm
      cases hm
    cases ez : us.filter fun x => !decide (x ∈ tk) with
    | nil => exact absurd ez hne
    | cons y ys =>
      have hy : y ∈ us.filter fun x => !decide (x ∈ tk) := by rw [ez]; exact List.mem_cons_self
      obtain ⟨hy1, hy2⟩ := List.mem_filter.mp hy
      refine rv_ixL (d := .str y) (atI_of (by decide) rfl) ⟨y, rfl, List.all_eq_true.mp hu y hy1, fun z => ?_⟩
      rw [decide_eq_true z] at hy2
      cases hy2
def NameOk (W : Wd K) (q : Addr) (sp : Sp) : Prop := ∀ (d : Da) (tk : List Str) (P : Da → Prop), Taken d tk → tk.length ≤ 25 → (∀ x, isName x = true → x ∉ tk → P (.str x)) → Fn W sp [.obj q, d] 40 P
/-- a reference: its name, from, to, kind -/
abbrev Rf := Str × Str × Str × Str
def endsD (r : Rf) : Da := .tup [.str r.2.1, .str r.2.2.1, .str r.2.2.2]
def refD (r : Rf) : Key × Da := (Sum.inr r.1, endsD r)
def refsD (rs : List Rf) : List (Key × Da) := rs.map refD
/-- tables and references of a schema -/
structure Parts (ts : List Str) (rs : List Rf) : Prop where
  tn : ts.all isName = true
  td : ts.Nodup
  t1 : 1 ≤ ts.length
  t5 : ts.length ≤ 5
  rn : (rs.map (·.1)).all isName = true
  rd : (rs.map (·.1)).Nodup
  r6 : rs.length ≤ 6
  re : ∀ r ∈ rs, r.2.1 ∈ ts ∧ r.2.2.1 ∈ ts ∧ (r.2.2.2 = "many" ∨ r.2.2.2 = "single")
theorem refs_keys (rs : List Rf) : (refsD rs).map (·.1) = (rs.map (·.1)).map Sum.inr := by
  unfold refsD
  rw [List.map_map, List.map_map]
  rfl
theorem put_new {es : List (Key × Da)} {k : Key} {d : Da} (h : (es.any fun kv => decide (kv.1 = k)) = false) : putD es k d = es ++ [(k, d)] := by
  unfold putD
  rw [h]
  rfl
theorem refs_new {rs : List Rf} {x : Str} (h : x ∉ rs.map (·.1)) : ((refsD rs).any fun kv => decide (kv.1 = (Sum.inr x : Key))) = false := by
  rw [List.any_eq_false]
  intro kv hkv z
  unfold refsD at hkv
  obtain ⟨r, hr, rfl⟩ := List.mem_map.mp hkv
  have e : (Sum.inr r.1 : Key) = Sum.inr x := of_decide_eq_true z
  cases e
  exact h (List.mem_map.mpr ⟨r, hr, rfl⟩)
def t__law_parts (K : PySem.W.Frag) (sp__law_name : Sp) (sp__law_next : Sp) (sp__law_pick : Sp) : TS :=
  (tSeq (tPar 1 2 (tCons (tLst tNil) (tCons tDNewK tNil)))
    (tSeq (tFor (iRng1 (tCons (tOp (rAddA K) (tC (.int 1)) (tCall sp__law_next [] E0 (tCons (tVar 0) (tCons (tC (.int 5)) tNil)))) tNil)) (gName 3)
    (tDrop (tBM K "list" rAppend (tVar 1) (tCons (tCall sp__law_name [] E0 (tCons (tVar 0) (tCons (tVar 1) tNil))) tNil))))
    (tSeq (tFor (iRng1 (tCons (tCall sp__law_next [] E0 (tCons (tVar 0) (tCons (tC (.int 7)) tNil))) tNil)) (gName 3)
    (tSeq (tAsg (tTup (tCons (tCall sp__law_pick [] E0 (tCons (tVar 0) (tCons (tVar 1) tNil))) (tCons (tCall sp__law_pick [] E0 (tCons (tVar 0) (tCons (tVar 1) tNil))) tNil))) (gName 4))
    (sDPut (tVar 2) (tCall sp__law_name [] E0 (tCons (tVar 0) (tCons (tVar 2) tNil))) (tOp (rAddA K) (tVar 4) (tTup (tCons (tCall sp__law_pick [] E0 (tCons (tVar 0) (tCons (tLst (tCons (tC (.str "many")) (tCons (tC (.str "single")) tNil))) tNil))) tNil))))))
    (tRet (tTup (tCons (tVar 1) (tCons (tVar 2) tNil)))))))
theorem es_parts {q : Addr} {spN spP spM : Sp} (hN : NextOk W q spN) (hP : PickOk W q spP) (hM : NameOk W q spM) (hp : ∀ ts rs, Parts ts rs → p.rt (.tup [.lst (ts.map Da.str), .dct (refsD rs)])) :
    Es W (t__law_parts K spM spN spP) [.dat (.obj q), .no, .no, .no, .no] 800 p := by
  refine Es.weak (c := (0 + 0) + ((0 + (0 + (0 + 0) + 1) + 0) + 5 * (0 + (0 + 0) + 40) + ((0 + (0 + 0) + 1 + 0) + 6 * (((0 + (0 + 0) + 1) + ((0 + (0 + 0) + 1) + 0)) + ((0 + (((0 + (0 + (0 + 0)) + 1)) + 0)) + (0 + (0 + 0) + 40))) + (0 + (0 + 0))))) ?_ (by omega)
  refine es_seqE (Γ' := [.dat (.obj q), .own [], .ownD [], .no, .no]) (es_parE (P1 := fun e => e = .own []) (P2 := fun e => e = .ownD []) ?_ ?_ ?_) ?_
  · have h := (evF_nil (K := K) (W := W) (Γ := [.dat (.obj q), .no, .no, .no, .no])).e
    exact fun H0 B0 B σ H M s hM Q k => h H0 B0 B σ H M s hM Q fun v e H' k1 k2 k3 ⟨d, k4, k5⟩ => k v e H' k1 k2 k3 (by rw [k4, k5])
  · have h := (evG_new (K := K) (W := W) (Γ := [.dat (.obj q), .no, .no, .no, .no])).e
    exact fun H0 B0 B σ H M s hM Q k => h H0 B0 B σ H M s hM Q fun v e H' k1 k2 k3 ⟨d, k4, k5⟩ => k v e H' k1 k2 k3 (by rw [k4, k5])
  · rintro e1 e2 rfl rfl
    rfl
  -- the tables
  refine es_seq (N := fun Γ1 => ∃ (ts : List Str) (x : En), ts.all isName = true ∧ ts.Nodup ∧ 1 ≤ ts.length ∧ ts.length ≤ 5 ∧ Γ1 = [.dat (.obj q), .own (ts.map Da.str), .ownD [], x, .no])
    (es_for (vs := [3]) (n := 5) (Pi := fun ds => ∃ j : Nat, j < 5 ∧ ds = rngD 0 (j + 1)) (I := fun ds i Γ1 => ∃ (ts : List Str) (x : En), ts.all isName = true ∧ ts.Nodup ∧ ts.length = i ∧ Γ1 = [.dat (.obj q), .own (ts.map Da.str), .ownD [], x, .no]) ?_ ?_ ?_ ?_ ?_) ?_
  · refine ei_rng1 (ea_cons (ev_op ev_int (ev_callE (E := E0) (ea_cons2 (ev_var rfl) (ea_cons2 ev_int ea_nil)) (hN 5 (fun d => ∃ j : Int, d = .int j ∧ 0 ≤ j ∧ j < 5) (by decide) (by decide) (fun j a b => ⟨j, rfl, a, b⟩))) (P := fun d => ∃ j : Nat, j < 5 ∧ d = .int (1 + j)) (fun d1 d2 e1 ⟨j, e2, h1, h2⟩ => by
      subst e1 e2
      exact rv_addI ⟨j.toNat, by omega, by rw [Int.toNat_of_nonneg h1]⟩)) ea_nil (fun d ds ⟨j, h1, h2⟩ e => by
      subst h2 e
      exact ⟨1 + (j : Int), rfl, ⟨by omega, by omega⟩, j, h1, by rw [show (1 + (j : Int)).toNat = j + 1 by omega]⟩))
  · rintro ds ⟨j, h1, rfl⟩
    exact ⟨[], .no, rfl, List.nodup_nil, rfl, rfl⟩
  · rintro ds i d Γ1 ⟨j, h1, rfl⟩ hd ⟨ts, x, h2, h3, h4, rfl⟩
    have hi : i < 5 := by
      have := (List.getElem?_eq_some_iff.mp hd).1
      rw [rngD_len] at this
      omega
    refine ⟨_, eg_name, ?_⟩
    refine es_append (i := 1) (ds := ts.map Da.str) rfl (P := fun e => ∃ x, e = .str x ∧ isName x = true ∧ x ∉ ts) (ev_own (i := 1) (ds := ts.map Da.str) rfl (ev_callE (ea_cons2 (ev_var rfl) (ea_cons2 (ev_var rfl) ea_nil)) (hM _ ts _ (Or.inl rfl) (by omega) (fun x a b => ⟨x, rfl, a, b⟩))) (fun d ⟨x, e, _⟩ => by rw [e]; rfl)) (by rw [List.length_map]; omega) ?_
    rintro e ⟨x, rfl, h5, h6⟩
    refine ⟨ts ++ [x], .dat d, ?_, ?_, by rw [List.length_append, h4]; rfl, by rw [List.map_append]; rfl⟩
    · rw [List.all_append, h2]
      simpa using h5
    · rw [List.nodup_append]
      exact ⟨h3, by simp, fun a ha b hb => by rw [List.mem_singleton.mp hb]; exact fun z => h6 (by rw [← z]; exact ha)⟩
  · rintro ds Γ1 ⟨j, h1, rfl⟩ ⟨ts, x, h2, h3, h4, rfl⟩
    rw [rngD_len] at h4
    exact ⟨ts, x, h2, h3, by omega, by omega, rfl⟩
  · rintro ds ⟨j, h1, rfl⟩
    rw [rngD_len]
    omega
  rintro Γ1 ⟨ts, x0, hn, hnd, ht1, ht5, rfl⟩
  refine es_freeze (i := 1) rfl ?_
  have hts : ∀ x ∈ ts.map Da.str, ∃ y, x = Da.str y ∧ y ∈ ts := fun x hx => by
    obtain ⟨y, hy, rfl⟩ := List.mem_map.mp hx
    exact ⟨y, rfl, hy⟩
  have hne : ts.map Da.str ≠ [] := fun z => by
    have := congrArg List.length z
    rw [List.length_map] at this
    simp at this
    rw [this] at ht1
    simp at ht1
  -- the references
  refine es_seq (N := fun Γ1 => ∃ (rs : List Rf) (x y : En), Parts ts rs ∧ Γ1 = [.dat (.obj q), .dat (.lst (ts.map Da.str)), .ownD (refsD rs), x, y])
    (es_for (vs := [3]) (n := 6) (Pi := fun ds => ∃ j : Nat, j < 7 ∧ ds = rngD 0 j) (I := fun ds i Γ1 => ∃ (rs : List Rf) (x y : En), Parts ts rs ∧ rs.length = i ∧ Γ1 = [.dat (.obj q), .dat (.lst (ts.map Da.str)), .ownD (refsD rs), x, y]) ?_ ?_ ?_ ?_ ?_) ?_
  · refine ei_rng1 (ea_cons (ev_callE (E := E0) (ea_cons2 (ev_var rfl) (ea_cons2 ev_int ea_nil)) (hN 7 (fun d => ∃ j : Int, d = .int j ∧ 0 ≤ j ∧ j < 7) (by decide) (by decide) (fun j a b => ⟨j, rfl, a, b⟩))) ea_nil (fun d ds ⟨j, h2, h3, h4⟩ e => by
      subst h2 e
      exact ⟨j, rfl, ⟨by omega, by omega⟩, j.toNat, by omega, rfl⟩))
  · rintro ds ⟨j, h1, rfl⟩
    exact ⟨[], x0, .no, ⟨hn, hnd, ht1, ht5, rfl, List.nodup_nil, by decide, fun r z => nomatch z⟩, rfl, rfl⟩
  · rintro ds i d Γ1 ⟨j, h1, rfl⟩ hd ⟨rs, x, y, hPa, h4, rfl⟩
    have hi : i < 6 := by
      have := (List.getElem?_eq_some_iff.mp hd).1
      rw [rngD_len] at this
      omega
    refine ⟨_, eg_name, ?_⟩
    refine es_seq (N := fun Γ1 => ∃ a b : Str, a ∈ ts ∧ b ∈ ts ∧ Γ1 = [.dat (.obj q), .dat (.lst (ts.map Da.str)), .ownD (refsD rs), .dat d, .dat (.tup [.str a, .str b])]) (es_asg (P := fun e => ∃ a b : Str, a ∈ ts ∧ b ∈ ts ∧ e = .tup [.str a, .str b]) ?_ ?_) ?_
    · have pk := hP (.lst (ts.map Da.str)) (ts.map Da.str) (fun e => ∃ a, a ∈ ts ∧ e = .str a) rfl hne (by rw [List.length_map]; omega) (fun x hx => by
        obtain ⟨y, e, hy⟩ := hts x hx
        exact ⟨y, hy, e⟩)
      refine (ev_tup (P := fun es => ∃ a b : Str, a ∈ ts ∧ b ∈ ts ∧ es = [.str a, .str b]) (ea_cons (ev_callE (ea_cons2 (ev_var rfl) (ea_cons2 (ev_var rfl) ea_nil)) pk) (ea_cons (ev_callE (ea_cons2 (ev_var rfl) (ea_cons2 (ev_var rfl) ea_nil)) pk) ea_nil (P := fun es => ∃ b, b ∈ ts ∧ es = [.str b]) (fun e es ⟨b, h1, h2⟩ h3 => ⟨b, h1, by rw [h2, h3]⟩)) (fun e es ⟨a, h1, h2⟩ ⟨b, h3, h4⟩ => ⟨a, b, h1, h3, by rw [h2, h4]⟩)) (fun es ⟨a, b, _, _, e⟩ => by rw [e]; simp)).imp (fun e ⟨es, h1, a, b, h2, h3, h4⟩ => ⟨a, b, h2, h3, by rw [h1, h4]⟩)
    · rintro e ⟨a, b, h5, h6, rfl⟩
      exact ⟨a, b, h5, h6, rfl⟩
    rintro Γ2 ⟨a, b, ha, hb, rfl⟩
    refine es_dput (i := 2) (es := refsD rs) rfl (P := fun e => ∃ k : Str, (k = "many" ∨ k = "single") ∧ e = .tup [.str a, .str b, .str k]) (Pk := fun k => ∃ x : Str, k = Sum.inr x ∧ isName x = true ∧ x ∉ rs.map (·.1)) ?_ ?_ (by unfold refsD; rw [List.length_map]; omega) ?_
    · refine ev_op (ev_var rfl) (ev_tup (P := fun es => ∃ k : Str, (k = "many" ∨ k = "single") ∧ es = [.str k]) (ea_cons (ev_callE (ea_cons2 (ev_var rfl) (ea_cons2 (evF_lst (P := (· = [.str "many", .str "single"])) (ea_cons2 ev_str (ea_cons2 ev_str ea_nil)) (fun ds e => by rw [e]; decide)).ev' ea_nil)) (hP _ _ (fun e => ∃ k : Str, (k = "many" ∨ k = "single") ∧ e = .str k) rfl (by simp) (by decide) (fun x hx => ?_))) ea_nil (fun e es ⟨k, h1, h2⟩ h3 => ⟨k, h1, by rw [h2, h3]⟩)) (fun es ⟨k, _, e⟩ => by rw [e]; simp)) (fun d1 d2 e1 ⟨es, e2, k, h1, h2⟩ => ?_)
      · simp only [List.mem_cons, List.not_mem_nil, or_false] at hx
        rcases hx with rfl | rfl
        · exact ⟨_, Or.inl rfl, rfl⟩
        · exact ⟨_, Or.inr rfl, rfl⟩
      · subst e1 e2 h2
        exact rv_addT (by simp) (by simp) (by simp) ⟨k, h1, rfl⟩
    · refine (ev_ownD (i := 2) (ds := refsD rs) rfl (P := fun e => ∃ x : Str, e = .str x ∧ isName x = true ∧ x ∉ rs.map (·.1)) (ev_callE (ea_cons2 (ev_var rfl) (ea_cons2 (ev_var rfl) ea_nil)) (hM _ (rs.map (·.1)) _ (Or.inr ⟨_, rfl, refs_keys rs⟩) (by rw [List.length_map]; omega) (fun x a b => ⟨x, rfl, a, b⟩))) (fun d ⟨x, e, _⟩ => by rw [e]; rfl)).imp (fun e ⟨x, h1, h2, h3⟩ => ⟨Sum.inr x, h1, x, rfl, h2, h3⟩)
    · rintro e k ⟨kd, h5, rfl⟩ ⟨x, rfl, h6, h7⟩
      refine ⟨rs ++ [(x, a, b, kd)], .dat d, .dat (.tup [.str a, .str b]), ⟨hn, hnd, ht1, ht5, ?_, ?_, by rw [List.length_append, h4]; simp; omega, ?_⟩, by rw [List.length_append, h4]; rfl, ?_⟩
      · rw [List.map_append, List.all_append, hPa.rn]
        simpa using h6
      · rw [List.map_append, List.nodup_append]
        exact ⟨hPa.rd, by simp, fun u hu v hv => by
          have ev : v = x := List.mem_singleton.mp hv
          rw [ev]
          exact fun z => h7 (by rw [← z]; exact hu)⟩
      · intro r hr
        rcases List.mem_append.mp hr with z | z
        · exact hPa.re r z
        · rw [List.mem_singleton.mp z]
          exact ⟨ha, hb, h5⟩
      · rw [put_new (refs_new h7)]
        unfold refsD
        rw [List.map_append]
        rfl
  · rintro ds Γ1 ⟨j, h1, rfl⟩ ⟨rs, x, y, hPa, h4, rfl⟩
    exact ⟨rs, x, y, hPa, rfl⟩
  · rintro ds ⟨j, h1, rfl⟩
    rw [rngD_len]
    omega
  rintro Γ1 ⟨rs, x, y, hPa, rfl⟩
  refine es_freezeD (i := 2) rfl ?_
  exact es_ret (ev_tup (P := (· = [.lst (ts.map Da.str), .dct (refsD rs)])) (ea_cons2 (ev_var rfl) (ea_cons2 (ev_var rfl) ea_nil)) (fun ds e => by rw [e]; simp)) (fun e ⟨es, h1, h2⟩ => by rw [h1, h2]; exact hp ts rs hPa)
end
end P75
set_option Elab.async false
set_option linter.all false
set_option maxRecDepth 100000
set_option maxHeartbeats 2000000
/-! WjO: a dict locked while it is walked -/
namespace WJ
open PySem L2
section
variable {K : PySem.W.Frag} {W : Wd K} {B B0 : List Addr} {H H0 H' : Hp} {M M' : Nat} {σ : L2.St} {Γ : List En}
theorem Sl.monoq {o : Option V} {e : En} (k : Kq B H H') (ok : ∀ l, e.isOwn = true → o = some (.ref l) → H' l = H l) (h : Sl K B H o e) : Sl K B H' o e := by
  cases e with
  | no => exact trivial
  | dat d =>
    obtain ⟨v, e, h⟩ := h
    exact ⟨v, e, Dat.monoq k d v h⟩
  | own ds =>
    obtain ⟨l, xs, e, hl, hx, h⟩ := h
    exact ⟨l, xs, e, hl, (ok l rfl e).trans hx, Dats.monoq k ds xs h⟩
  | ownD ds =>
    obtain ⟨l, xs, e, hl, hx, h⟩ := h
    exact ⟨l, xs, e, hl, (ok l rfl e).trans hx, Datk.monoq k ds xs h⟩
  | ownI aI CI ds =>
    obtain ⟨l, xs, e, hl, hx, h⟩ := h
    exact ⟨l, xs, e, hl, (ok l rfl e).trans hx, ⟨Datf.monoq k ds xs.2 h.1, h.2⟩⟩
/-- a dict that is read is locked -/
theorem Sg.lock (s : Sg W H0 B0 B σ Γ H M) {d : Addr} {kvs : List (Key × V)} (od : Obj) (hd : H d = some (.dK kvs)) (hb : d ∉ B) : ∃ H1 B1, Sg W H1 B1 B σ Γ (upd H d (.frz od (.dK kvs))) M := by
  refine ⟨fun a => if a ∈ W.F then H a else none, W.F, ⟨⟨Wd.out (fun z => hb (s.fb d z)) s.dr, s.fb, fun b hb' => ?_⟩, fun a o n e => ?_, s.fb, fun b hb' => ?_, fun b h => h, s.ln, fun i e hi => ?_, s.ow, fun i l h => ?_⟩⟩
  · rw [upd_ne (fun z => hb (by rw [← z]; exact hb'))]
    exact s.al b hb'
  · rw [if_neg n] at e
    cases e
  · show (if b ∈ W.F then H b else none) ≠ none
    rw [if_pos hb']
    exact s.al b (s.fb b hb')
  · obtain ⟨o, ho, hs⟩ := s.sl i e hi
    refine ⟨o, ho, hs.monoq (Kq.lock od hd) fun l t e2 => upd_ne fun z => ?_⟩
    subst z
    cases e with
    | no => cases t
    | dat d => cases t
    | own ds =>
      obtain ⟨l1, x1, e3, hl1, _⟩ := hs
      rw [e2] at e3
      cases e3
      exact hb hl1
    | ownD ds =>
      obtain ⟨l1, x1, e3, hl1, _⟩ := hs
      rw [e2] at e3
      cases e3
      exact hb hl1
    | ownI aI CI ds =>
      obtain ⟨l1, x1, e3, hl1, _⟩ := hs
      rw [e2] at e3
      cases e3
      exact hb hl1
  · show (if l ∈ W.F then H l else none) = none
    rw [if_neg (s.outF h)]
end
/-- locked, or locked before -/
def tLockO (t : TE) : TE := fun σ H Q => tLockE t σ H Q ∨ t σ H Q
theorem pe_lockO {X : Cx} {e : Expr} {t : TE} (h : PE X e t) : PE X e (tLockO t) := by
  refine ⟨fun pins s σ H Q I hw => ?_⟩
  rcases hw with hw | hw
  · exact (pe_lock h).run pins s σ H Q I hw
  · exact h.run pins s σ H Q I hw
section
variable {K : PySem.W.Frag} {W : Wd K} {Γ : List En} {c c0 : Nat} {te td : TE} {tt : TT}
/-- a new list, made while the dict of name i is locked -/
theorem evF_lock {t : TE} {i : Nat} {es : List (Key × Da)} {P : List Da → Prop} (h : Γ[i]? = some (.dat (.dct es)))
    (ht : ∀ (H0 : Hp) (B0 B : List Addr) (σ : L2.St) (H : Hp) (M : Nat) (d : Addr) (od : Obj) (kvs : List (Key × V)), Sg W H0 B0 B σ Γ H M → c ≤ M → σ[i]? = some (some (.ref d)) → d ∉ B → H d = some (.frz od (.dK kvs)) → Datk K B H kvs es →
      ∀ Q : VK, (∀ l xs ds H', H l = none → Kp W.F H H' → W.Dr (M - c) H' → H' l = some (.lst xs) → Dats K (l :: B) H' xs ds → P ds → Q (.ref l) H') → t σ H Q) : EvF W (tLockO t) Γ c P := fun H0 B0 B σ H M s hM Q q => by
  obtain ⟨o, ho, v, rfl, hd⟩ := s.sl i _ h
  unfold Dat at hd
  obtain ⟨d, kvs, rfl, ⟨nb, rd⟩, hk⟩ := hd
  rcases rd with rd | ⟨od, rd⟩
  · refine Or.inl ⟨d, _, rd, True.intro, fun od => ?_⟩
    obtain ⟨H1, B1, s1⟩ := s.lock od rd nb
    refine ht H1 B1 B σ _ M d od kvs s1 hM ho nb upd_same (Datk.monoq (Kq.lock od rd) es kvs hk) _ fun l xs ds H' nl k r hl hds p => ?_
    have nF : d ∉ W.F := fun z => nb (s.fb d z)
    have hfz : H' d = some (.frz od (.dK kvs)) := k d _ nF upd_same
    have ld : l ≠ d := fun z => by
      rw [z, upd_same] at nl
      cases nl
    refine ⟨hfz, q l xs ds _ (by rw [upd_ne ld] at nl; exact nl) (fun a o n e => ?_) (Wd.out nF r) (by rw [upd_ne ld]; exact hl) (Dats.monoq (Kq.unlock hfz) ds xs hds) p⟩
    by_cases ha : a = d
    · subst ha
      rw [upd_same, ← rd, e]
    · rw [upd_ne ha]
      exact k a o n (by rw [upd_ne ha]; exact e)
  · exact Or.inr (ht H0 B0 B σ H M d od kvs s hM ho nb rd hk Q q)
theorem src_keys {B : List Addr} {H : Hp} {d : Addr} {od : Obj} {kvs : List (Key × V)} {es : List (Key × Da)} (nb : d ∉ B) (h : H d = some (.frz od (.dK kvs))) (hk : kvs.map (·.1) = es.map (·.1)) (hp : ∀ {B' H'}, Mv B H B' H' → (∀ b ∈ B', H' b ≠ none) → H' d = some (.frz od (.dK kvs))) : Src K B (Itk d od kvs) (es.map fun e => keyD e.1) H := fun B' H' m al => by
  have e1 := hp m al
  have el : kvs.length = es.length := by simpa using congrArg List.length hk
  rw [List.length_map]
  refine ⟨fun i hi => ⟨⟨e1, by omega⟩, fun x H2 ⟨e2, k, v, e3, e4⟩ => ?_⟩, e1, by omega⟩
  subst e2 e4
  refine ⟨Kp.refl, keyD k, ?_, by cases k <;> (unfold keyD Dat; rfl)⟩
  have e5 : (es.map (·.1))[i]? = some k := by rw [← hk, List.getElem?_map, e3]; rfl
  have e6 : (es.map fun e => keyD e.1) = (es.map (·.1)).map keyD := by rw [List.map_map]; rfl
  rw [e6, List.getElem?_map, e5]
  rfl
/-- [e for target in d if ..], d a dict by name -/
theorem evF_lcK {g : TG} {vs : List Nat} {cb n i : Nat} {es : List (Key × Da)} {R : Nat → List Da → Prop} (h : Γ[i]? = some (.dat (.dct es))) (h0 : R 0 [])
    (hs : ∀ i k acc, (es.map (·.1))[i]? = some k → R i acc → Turn1 W g tt te vs Γ cb (keyD k) (fun e => R (i + 1) (acc ++ [e])) (R (i + 1) acc)) (hn : es.length ≤ n) (hz : n ≤ 100000) :
    EvF W (tLockO (tLc (iKeys (tVar i)) g tt te vs)) Γ (n * cb) (fun acc => R es.length acc) :=
  evF_lock h fun H0 B0 B σ H M d od kvs s hM ho nb hd hk Q q => by
    refine ⟨.ref d, ho, d, od, rfl, Or.inl ⟨kvs, hd, ?_⟩⟩
    have hmap : (es.map fun e => keyD e.1) = (es.map (·.1)).map keyD := by rw [List.map_map]; rfl
    refine lc_run (W := W) (c0 := 0) (cb := cb) (n := n) (Pi := fun ds => ds = es.map fun e => keyD e.1) (R := fun ds => R) (fun _ _ => h0) (fun ds j dd acc e1 e2 hR => ?_) (fun ds e1 => by rw [e1, List.length_map]; exact hn) hz H0 B0 B σ H M s (by omega) Q (fun l xs ds H' n1 k r e1 e2 ⟨es', e3, e4⟩ => q l xs ds H' n1 k (by rw [Nat.zero_add] at r; exact r) e1 e2 (by rw [e3, List.length_map] at e4; exact e4)) _ _ H Kp.refl s.dr (src_keys nb hd hk.keys fun m al => ?_) rfl
    · rw [e1, hmap, List.getElem?_map] at e2
      cases e3 : (es.map (·.1))[j]? with
      | none =>
        rw [e3] at e2
        cases e2
      | some k =>
        rw [e3] at e2
        cases e2
        exact hs j k acc e3 hR
    · exact m.2 d _ nb hd
end
end WJ
set_option Elab.async false
set_option linter.all false
set_option maxRecDepth 100000
set_option maxHeartbeats 2000000
/-! WjP: == of dicts of plain things -/
namespace WJ
open PySem L2
/-- two dicts are equal -/
def eqvK (es fs : List (Key × Da)) : Bool := (es.length == fs.length) && es.all fun p => match valD fs p.1 with
  | none => false
  | some d => PyData.eqv p.2.py d.py
def okK (es : List (Key × Da)) : Bool := es.all fun p => p.2.plain && SeqAt.shaped p.2.py
theorem okK_at {es : List (Key × Da)} (h : okK es = true) {k : Key} {d : Da} (e : valD es k = some d) : d.plain = true ∧ SeqAt.shaped d.py = true := by
  unfold valD at e
  cases e1 : es.find? (fun kv => decide (kv.1 = k)) with
  | none =>
    rw [e1] at e
    cases e
  | some p =>
    rw [e1] at e
    cases e
    exact Bool.and_eq_true_iff.mp (List.all_eq_true.mp h p (List.mem_of_find?_eq_some e1))
def rEqK (K : PySem.W.Frag) : R2 := fun x y H Q => ∃ (B : List Addr) (es fs : List (Key × Da)), Dat K B H x (.dct es) ∧ Dat K B H y (.dct fs) ∧ okK es = true ∧ okK fs = true ∧ Q (.bl (eqvK es fs)) H
section
variable {X : Cx} {pins : List (Addr × Obj)} {σ : L2.St} {H : Hp} {s : Shared} {B : List Addr}
theorem hitsK (I : Inv X pins σ H s) {A : Around} (hu : A.units + 64 < cLine) {ls : List (Key × V)} {vb : List (Key × Value)} {fs : List (Key × Da)} (hf : Datk X.K B H ls fs) (of : okK fs = true) (rb : KV ls vb) :
    ∀ (es : List (Key × Da)) (ks : List (Key × V)) (va : List (Key × Value)), okK es = true → Datk X.K B H ks es → KV ks va → PySem.W.KeqHitsP X.prog X.w A s vb va (es.all fun p => match valD fs p.1 with
      | none => false
      | some d => PyData.eqv p.2.py d.py)
  | [], ks, va, _, h, r => by
    unfold Datk at h
    subst h
    unfold KV at r
    cases r
    exact .nil
  | (k, d) :: es, ks, va, o, h, r => by
    unfold Datk at h
    obtain ⟨v, t, rfl, hv, ht⟩ := h
    unfold KV at r
    cases r with
    | @cons p q ps qs r1 r2 =>
      obtain ⟨e1, e2⟩ := r1
      obtain ⟨k', u⟩ := q
      have e1' : k = k' := e1
      subst e1'
      have e2' : RelV v u := e2
      unfold okK at o
      rw [List.all_cons] at o
      obtain ⟨o1, o2⟩ := Bool.and_eq_true_iff.mp o
      obtain ⟨p1, p2⟩ := Bool.and_eq_true_iff.mp o1
      have ih := hitsK I hu hf of rb es t qs o2 ht r2
      rw [List.all_cons]
      have rv := rb.val k
      rcases hf.val k with ⟨z1, z2⟩ | ⟨w, d2, z1, z2, hw⟩
      · rw [z2] at rv
        have en : valueAt vb k = none := by
          cases e : valueAt vb k with
          | none => rfl
          | some y =>
            rw [e] at rv
            exact rv.elim
        have : (match valD fs (k, d).1 with
          | none => false
          | some d2 => PyData.eqv (k, d).2.py d2.py) = false := by
          show (match valD fs k with
            | none => false
            | some d2 => PyData.eqv d.py d2.py) = false
          rw [z1]
        rw [this, Bool.false_and]
        exact .miss en
      · rw [z2] at rv
        obtain ⟨y, ey, ry⟩ : ∃ y, valueAt vb k = some y ∧ RelV w y := by
          cases e : valueAt vb k with
          | none =>
            rw [e] at rv
            exact rv.elim
          | some y =>
            rw [e] at rv
            exact ⟨y, rfl, rv⟩
        have : (match valD fs (k, d).1 with
          | none => false
          | some d2 => PyData.eqv (k, d).2.py d2.py) = PyData.eqv d.py d2.py := by
          show (match valD fs k with
            | none => false
            | some d2 => PyData.eqv d.py d2.py) = _
          rw [z1]
        rw [this]
        obtain ⟨q1, q2⟩ := okK_at of z1
        obtain ⟨as, ra⟩ := Dp.reads I d.py v u (Dat.dp d v p1 hv) e2'
        obtain ⟨bs, rb'⟩ := Dp.reads I d2.py w y (Dat.dp d2 w q1 hw) ry
        exact .hit ey (SeqAt.eqAt_reads d.py d2.py A s u y as bs ra rb' (SeqAt.canLay_of_shaped p2) (SeqAt.canLay_of_shaped q2) (SeqAt.room_of_shaped p2 hu)).eqP ih
end
section
variable {X : Cx}
theorem op_eqK (hu : X.A.units + 65 < cLine) : OpR X (compareOp .Eq) (rEqK X.K) := by
  intro pins s σ H x y v u Q I rx ry h
  obtain ⟨B, es, fs, h1, h2, o1, o2, q⟩ := h
  unfold Dat at h1 h2
  obtain ⟨a, ks, rfl, ⟨_, r1⟩, k1⟩ := h1
  obtain ⟨b, ls, rfl, ⟨_, r2⟩, k2⟩ := h2
  cases (show v = Value.ref a from rx)
  cases (show u = Value.ref b from ry)
  obtain ⟨_, ya, va, ra, da⟩ := dk_rd I.hok r1
  obtain ⟨_, yb, vb, rb, db⟩ := dk_rd I.hok r2
  refine PySem.W.rcP_dicts (knd := mixKind X.prog X.w) ya yb da db (by omega) (fun _ => hitsK I (A := X.A.in1) (by show X.A.units + 1 + 64 < cLine; omega) k2 o2 rb es ks va o1 k1 ra) _ _ ?_
  have e1 : va.length = es.length := by rw [← Paired.length ra, k1.length]
  have e2 : vb.length = fs.length := by rw [← Paired.length rb, k2.length]
  rw [e1, e2]
  exact ⟨.bl _, H, I, rfl, q⟩
def rEqB (K : PySem.W.Frag) : R2 := fun x y H Q => rEqA K x y H Q ∨ rEqK K x y H Q
theorem o_eqB (K : PySem.W.Frag) (hu : X.A.units + 65 < cLine) (hK : X.K = K := by rfl) : OpR X (compareOp .Eq) (rEqB K) := orO (o_eq K (by omega) hK) (hK ▸ op_eqK hu)
end
section
variable {K : PySem.W.Frag} {W : Wd K} {P : Da → Prop}
theorem rv_eqB {d1 d2 : Da} (h : Rv W (rEqA K) d1 d2 P) : Rv W (rEqB K) d1 d2 P := fun B H M v1 v2 s h1 h2 Q q => Or.inl (h B H M v1 v2 s h1 h2 Q q)
theorem rv_eqK {es fs : List (Key × Da)} (h1 : okK es = true) (h2 : okK fs = true) (p : P (.bl (eqvK es fs))) : Rv W (rEqB K) (.dct es) (.dct fs) P := fun B H M v1 v2 s g1 g2 Q q =>
  Or.inr ⟨B, es, fs, g1, g2, h1, h2, q _ _ H Kp.refl s.dr (dBl.mpr rfl) p⟩
end
end WJ
set_option Elab.async false
set_option linter.all false
set_option maxRecDepth 100000
set_option maxHeartbeats 2000000
/-! WjQ: objects of own classes: fields, making, properties, isinstance, ==; dict(x), dict comprehensions -/
namespace WJ
open PySem L2
section
variable {K : PySem.W.Frag}
theorem Datf.look {B : List Addr} {H : Hp} {f : Str} {d : Da} : ∀ {fs : List (Str × Da)} {xs : List (Str × V)}, Datf K B H xs fs → fs.lookup f = some d → ∃ v, xs.lookup f = some v ∧ Dat K B H v d
  | [], _, _, e => by cases e
  | (g, x) :: fs, _, h, e => by
    unfold Datf at h
    obtain ⟨v, r, rfl, h1, t⟩ := h
    rw [List.lookup_cons] at e ⊢
    cases hb : (f == g) with
    | true =>
      rw [hb] at e
      cases e
      exact ⟨v, rfl, h1⟩
    | false =>
      rw [hb] at e
      exact Datf.look t e
/-- a field is set -/
def putFD (f : Str) (d : Da) : List (Str × Da) → List (Str × Da)
  | [] => [(f, d)]
  | (g, x) :: r => if g = f then (g, d) :: r else (g, x) :: putFD f d r
theorem Datf.put1 {B : List Addr} {H : Hp} {f : Str} {d : Da} {v : V} (hv : Dat K B H v d) : ∀ {fs : List (Str × Da)} {xs : List (Str × V)}, Datf K B H xs fs → Datf K B H (putF f v xs) (putFD f d fs)
  | [], _, h => by
    unfold Datf at h
    subst h
    show Datf K B H [(f, v)] [(f, d)]
    unfold Datf
    exact ⟨v, [], rfl, hv, by unfold Datf; rfl⟩
  | (g, x) :: fs, _, h => by
    unfold Datf at h
    obtain ⟨w, r, rfl, h1, t⟩ := h
    show Datf K B H (if g = f then (g, v) :: r else (g, w) :: putF f v r) (if g = f then (g, d) :: fs else (g, x) :: putFD f d fs)
    by_cases e : g = f
    · rw [if_pos e, if_pos e]
      unfold Datf
      exact ⟨v, r, rfl, hv, t⟩
    · rw [if_neg e, if_neg e]
      unfold Datf
      exact ⟨w, _, rfl, h1, Datf.put1 hv t⟩
theorem Datf.length {B : List Addr} {H : Hp} : ∀ {fs : List (Str × Da)} {xs : List (Str × V)}, Datf K B H xs fs → xs.length = fs.length
  | [], _, h => by
    unfold Datf at h
    subst h
    rfl
  | (g, x) :: fs, _, h => by
    unfold Datf at h
    obtain ⟨w, r, rfl, h1, t⟩ := h
    rw [List.length_cons, List.length_cons, Datf.length t]
end
section
variable {K : PySem.W.Frag} {W : Wd K} {Γ : List En} {c c1 c2 : Nat} {P : Da → Prop} {te ta tv : TE} {p : Po} {C : Addr} {f : Str}
theorem ev_fld {Pf : List (Str × Da) → Prop} (cl : Cls K C) (na : NoAttr K C f) (ha : Ev W ta Γ c (fun d => ∃ fs, d = .ins C fs ∧ Pf fs)) (hf : ∀ fs, Pf fs → ∃ x, fs.lookup f = some x ∧ P x) : Ev W (tFld K ta f) Γ c P := fun H0 B0 B σ H M s hM Q q =>
  ha H0 B0 B σ H M s hM _ fun v d H1 k r hd ⟨fs, e, pf⟩ => by
    subst e
    unfold Dat at hd
    obtain ⟨a, dx, xs, rfl, ⟨nb, hx⟩, t⟩ := hd
    obtain ⟨x, e1, px⟩ := hf fs pf
    obtain ⟨w, e2, hw⟩ := t.look e1
    exact ⟨a, C, dx, xs, w, rfl, hx, cl, na, e2, q w x H1 k r hw px⟩
theorem ev_fldE {fs : List (Str × Da)} {x : Da} (cl : Cls K C) (na : NoAttr K C f) (ha : Ev W ta Γ c (· = .ins C fs)) (hf : fs.lookup f = some x) : Ev W (tFld K ta f) Γ c (· = x) :=
  ev_fld (Pf := (· = fs)) cl na (ha.imp fun d e => ⟨fs, e, rfl⟩) fun _ e => by rw [e]; exact ⟨x, hf, rfl⟩
/-- self.f = e in an __init__ -/
theorem es_fld {i : Nat} {aI : Addr} {fs : List (Str × Da)} (cl : Cls K C) (na : NoAttr K C f) (hi : Γ[i]? = some (.ownI aI C fs)) (hv : Ev W tv Γ c P) (hl : fs.length < 1000) (hp : ∀ d, P d → p.nx (Γ.set i (.ownI aI C (putFD f d fs)))) : Es W (sFld K (tVar i) tv f) Γ c p := fun H0 B0 B σ H M D s hM a b e g => by
  obtain ⟨o, ho, l, x, rfl, hB, hx, hd, rfl⟩ := s.sl i _ hi
  have hO : Ow σ Γ i l := ⟨⟨_, hi, rfl⟩, ho⟩
  refine hv H0 B0 B σ H M s hM _ fun v d H1 k1 r1 hv1 q1 => ⟨.ref l, ho, ?_⟩
  have hx1 : H1 l = some (.ins C x.1 x.2) := k1 l _ (s.outF hO) hx
  refine ⟨l, C, x.1, x.2, rfl, hx1, cl, na, by rw [hd.length]; exact hl, ?_⟩
  have hd1 : Datf K B H1 x.2 fs := Datf.mono (s.toBk.kp k1) fs x.2 hd
  exact a B σ _ _ ((s.keep k1 r1).change hi rfl ho (e' := .ownI l C (putFD f d fs)) rfl ⟨l, (x.1, putF f v x.2), rfl, hB, upd_same, Datf.mono (Kp.mut hB) _ _ (Datf.put1 hv1 hd1), rfl⟩) (Mv.of ((s.toBk.kp k1).trans (Kp.mut hB))) (hp d q1)
end
/-! ### making -/
abbrev CtI (K : PySem.W.Frag) := Wd K → List Da → Nat → (List (Str × Da) → Prop) → Prop
/-- what an __init__ promises: the fields of the new object -/
def spI {K : PySem.W.Frag} (C : Addr) (T : CtI K) : Sp := fun vs H Q _ => ∃ (W : Wd K) (B : List Addr) (M : Nat) (x dx : Addr) (ws : List V) (ds : List Da) (c : Nat) (P : List (Str × Da) → Prop), vs = .ref x :: ws ∧ T W ds c P ∧ H x = some (.ins C dx []) ∧ x ∉ B ∧ Bk W B H M ∧ c ≤ M ∧ Dats K (x :: B) H ws ds ∧
  ∀ H' dx' xs fs, Kp (x :: W.F) H H' → W.Dr (M - c) H' → H' x = some (.ins C dx' xs) → Datf K (x :: B) H' xs fs → P fs → Q .non H'
section
variable {K : PySem.W.Frag} {W : Wd K} {Γ : List En} {c c1 c2 : Nat} {P : Da → Prop} {te ta tv : TE} {C : Addr} {f : Str}
theorem ev_make {t : TA} {T : CtI K} {E : XK} {Pa : List Da → Prop} {Pf : List (Str × Da) → Prop} (h : EvA W t Γ c1 Pa) (hT : ∀ ds, Pa ds → T W ds c2 Pf) : Ev W (tMake C (spI C T) [] E t) Γ (c1 + c2) (fun d => ∃ fs, d = .ins C fs ∧ Pf fs) := fun H0 B0 B σ H M s hM Q q =>
  h H0 B0 B σ H M s (by omega) _ fun vs ds H1 k r hd pa => fun x dx nx ndx ne => by
    have s1 := s.keep k r
    have n2 : upd H1 dx (.own x) x = none := by rw [upd_ne (fun z => ne z.symm)]; exact nx
    have xB : x ∉ B := s1.toBk.free nx
    have kk : Kp B H1 (upd (upd H1 dx (.own x)) x (.ins C dx [])) := (Kp.new ndx).trans (Kp.new n2)
    refine ⟨W, B, M - c1, x, dx, vs, ds, c2, Pf, by rw [List.append_nil], hT ds pa, upd_same, xB, ⟨Wd.new n2 (Wd.new ndx r), s.fb, fun b hb => ?_⟩, by omega, Dats.mono (Kp.more kk fun b hb => hb) ds vs hd |> fun z => ?_, fun H' dx' xs fs k2 r2 hx hf pf => ⟨rfl, ?_⟩⟩
    · cases e : H1 b with
      | none => exact absurd e (s1.al b hb)
      | some o =>
        rw [upd_ne (ne_of_none e nx), upd_ne (ne_of_none e ndx), e]
        exact Option.some_ne_none _
    · exact Dats.mono ((Kp.new ndx).trans (Kp.new n2)) ds vs (Dats.put nx ds vs hd)
    · refine q (.ref x) (.ins C fs) H' (fun a o n e => ?_) (by rw [← sub_sub]; exact r2) ?_ ⟨fs, rfl, pf⟩
      · have e1 : H1 a = some o := k a o n e
        refine k2 a o (fun z => ?_) (by rw [upd_ne (ne_of_none e1 nx), upd_ne (ne_of_none e1 ndx)]; exact e1)
        rcases List.mem_cons.mp z with z | z
        · rw [z, nx] at e1
          cases e1
        · exact n z
      · unfold Dat
        exact ⟨x, dx', xs, rfl, ⟨xB, hx⟩, Datf.sub (fun b hb => List.mem_cons_of_mem _ hb) fs xs hf⟩
theorem ev_prop {sp : Sp} {E : XK} {Pf : List (Str × Da) → Prop} (ha : Ev W ta Γ c1 (fun d => ∃ fs, d = .ins C fs ∧ Pf fs)) (hs : ∀ fs, Pf fs → Fn W sp [.ins C fs] c2 P) : Ev W (tProp C sp [] E ta) Γ (c1 + c2) P := fun H0 B0 B σ H M s hM Q q =>
  ha H0 B0 B σ H M s (by omega) _ fun v d H1 k r hd ⟨fs, e, pf⟩ => by
    subst e
    have hd0 := hd
    unfold Dat at hd
    obtain ⟨a, dx, xs, rfl, ⟨nb, hx⟩, t⟩ := hd
    refine ⟨a, dx, xs, rfl, hx, ?_⟩
    exact hs fs pf B H1 _ [.ref a] (s.keep k r).toBk (by omega) (.cons hd0 .nil) Q E fun v2 d2 H2 k2 r2 h2 p2 => q v2 d2 H2 (k.trans k2) (by rw [← sub_sub]; exact r2) h2 p2
theorem ev_propE {sp : Sp} {E : XK} {fs : List (Str × Da)} (ha : Ev W ta Γ c1 (· = .ins C fs)) (hs : Fn W sp [.ins C fs] c2 P) : Ev W (tProp C sp [] E ta) Γ (c1 + c2) P :=
  ev_prop (Pf := (· = fs)) (ha.imp fun d e => ⟨fs, e, rfl⟩) fun _ e => by rw [e]; exact hs
/-- isinstance(x, C), C an own class -/
theorem rc_isiO {fs : List (Str × Da)} (O : C8.InsC K C) (p : P (.bl true)) : Rc W (rIsiA K) [.ins C fs, .obj C] P := fun B H M vs s h Q q => by
  unfold Dats at h
  obtain ⟨v, r, rfl, h1, t1⟩ := h
  unfold Dats at t1
  obtain ⟨v2, r2, rfl, h2, t2⟩ := t1
  unfold Dats at t2
  subst t2
  unfold Dat at h1 h2
  obtain ⟨a, dx, xs, rfl, ⟨nb, hx⟩, t⟩ := h1
  subst h2
  exact Or.inl ⟨.ref a, .ref C, .ref C, .ref C, true, rfl, .own C, .base (.ins hx O.cl O.ha O.hn O.htk O.hm), O.me, q _ (.bl true) H Kp.refl s.dr (dBl.mpr rfl) p⟩
/-- nothing of a kind is one -/
theorem rc_isiN {d : Da} {n : String} {b : Bool} (e : d.kind = some n) (hb : PySem.W.kitOne K (.type n) (.ref C) = some b) (p : P (.bl b)) : Rc W (rIsiA K) [d, .obj C] P := fun B H M vs s h Q q => by
  unfold Dats at h
  obtain ⟨v, r, rfl, h1, t1⟩ := h
  unfold Dats at t1
  obtain ⟨v2, r2, rfl, h2, t2⟩ := t1
  unfold Dats at t2
  subst t2
  unfold Dat at h2
  subst h2
  exact Or.inl ⟨v, .ref C, .type n, .ref C, b, rfl, .own C, kind_ty h1 e, hb, q _ (.bl b) H Kp.refl s.dr (dBl.mpr rfl) p⟩
theorem ev_obj {a : Addr} : Ev W (tC (.ref a)) Γ 0 (· = .obj a) := ev_c fun _ _ => by unfold Dat; rfl
end
/-! ### an __init__ -/
theorem fn_init {Pr : Program} {w : World} {K : PySem.W.Frag} {mg : Str → Option Value} {base : Heap} {x qual : Str} {params : Arguments} {body : List Stmt} {scope : Scope} {dvs : List V} {kws : List (Str × V)} {f : Addr} {fd : FuncData} {N ps : List Str} {k : Nat} {C : Addr} {T : CtI K}
    (F : FunD K x qual params body scope dvs kws f fd) (S : FnScope N ps scope) (len : ∀ W ds c P, T W ds c P → ds.length + 1 = ps.length) (hps : ps.length ≤ N.length)
    (hbody : ∀ (cdv : Value) (A : Around) (outer : List Env) (s : Shared) (H : Hp) (E : XK), Room k (A.deeper (PyProof.Rows.envOfC qual scope s.heap.objs.size f cdv)) →
      ∃ t, PSs (cxOf CX0 Pr w K mg base N qual scope f cdv A outer s H E) body t ∧ ∀ W ds c P aI, T W ds c P → Es W t ((startE N (.non :: ds)).set 0 (.ownI aI C [])) c ⟨fun Γ' => ∃ fs, Γ'[0]? = some (.ownI aI C fs) ∧ P fs, fun _ => False, fun _ => False, fun _ => False⟩) : FnOk Pr w K mg base CX0 (k + 1) f fd ps (spI C T) := by
  refine F.ok S (fun vs H Q E h => ?_) (fun cdv A outer s H vs Q E hr h => ?_)
  · obtain ⟨W, B, M, x, dx, ws, ds, c, P, rfl, hT, _, _, _, _, hd, _⟩ := h
    rw [List.length_cons, hd.length]
    exact len W ds c P hT
  · obtain ⟨W, B, M, x, dx, ws, ds, c, P, rfl, hT, hx, xB, hb, hM, hd, q⟩ := h
    obtain ⟨t, ht, hE⟩ := hbody cdv A outer s H E hr
    refine ⟨t, ht, ?_⟩
    have xF : x ∉ W.F := fun z => xB (hb.fb x z)
    have hlen : (Da.non :: ds).length ≤ N.length := by
      have := len W ds c P hT
      rw [List.length_cons]
      omega
    have hb1 : Bk W (x :: B) H M := ⟨hb.dr, fun b z => List.mem_cons_of_mem _ (hb.fb b z), fun b z => by
      rcases List.mem_cons.mp z with z | z
      · rw [z, hx]
        exact Option.some_ne_none _
      · exact hb.al b z⟩
    have s1 : Sg W H (x :: B) (x :: B) (L2.start N (.non :: ws)) (startE N (.non :: ds)) H M := Sg.start hb1 (.cons (by unfold Dat; rfl) hd) hlen
    have e0 : L2.start N (.ref x :: ws) = (L2.start N (.non :: ws)).set 0 (some (.ref x)) := by
      unfold L2.start
      rfl
    have no : ∀ i l, Ow (L2.start N (.ref x :: ws)) ((startE N (.non :: ds)).set 0 (.ownI x C [])) i l → i = 0 ∧ l = x := fun i l ⟨⟨e, g, t⟩, q2⟩ => by
      cases i with
      | zero =>
        refine ⟨rfl, ?_⟩
        rw [e0] at q2
        rw [List.getElem?_set_self (by rw [s1.ln]; exact Nat.lt_of_lt_of_le (Nat.succ_pos _) (by unfold startE; rw [List.length_append, List.length_map]; exact Nat.le_add_right _ _))] at q2
        cases q2
        rfl
      | succ j =>
        rw [List.getElem?_set_ne (by omega)] at g
        rw [startE_own g] at t
        cases t
    have s0 : Sg W (fun a => if a = x then none else H a) B (x :: B) (L2.start N (.ref x :: ws)) ((startE N (.non :: ds)).set 0 (.ownI x C [])) H M := by
      refine ⟨hb1, fun a o n e => ?_, fun b z => List.mem_cons_of_mem _ z, fun b z => ?_, hb.fb, ?_, fun i e he => ?_, fun i j l h1 h2 => by rw [(no i l h1).1, (no j l h2).1], fun i l h1 => ?_⟩
      · by_cases ha : a = x
        · have e' : (if a = x then none else H a) = some o := e
          rw [if_pos ha] at e'
          cases e'
        · have e' : (if a = x then none else H a) = some o := e
          rw [if_neg ha] at e'
          exact e'
      · show (if b = x then none else H b) ≠ none
        rw [if_neg (fun e => xB (by rw [← e]; exact z))]
        exact hb.al b z
      · rw [e0, List.length_set, List.length_set, s1.ln]
      · rw [e0]
        cases i with
        | zero =>
          have hl : 0 < (startE N (.non :: ds)).length := by unfold startE; rw [List.length_append, List.length_map]; exact Nat.lt_of_lt_of_le (Nat.succ_pos _) (Nat.le_add_right _ _)
          rw [List.getElem?_set_self hl] at he
          cases he
          refine ⟨_, List.getElem?_set_self (by rw [s1.ln]; exact hl), x, (dx, []), rfl, List.mem_cons_self, hx, by unfold Datf; rfl, rfl⟩
        | succ j =>
          rw [List.getElem?_set_ne (by omega)] at he
          obtain ⟨o, ho, hs⟩ := s1.sl (j + 1) e he
          exact ⟨o, by rw [List.getElem?_set_ne (by omega)]; exact ho, hs⟩
      · show (if l = x then none else H l) = none
        rw [if_pos (no i l h1).2]
    refine hE W ds c P x hT _ B (x :: B) _ H M _ s0 hM (fun B' σ' Γ' H' s' m' ⟨fs, g, pf⟩ => ?_) (fun v d H' k' r' hd' p' => p'.elim) (fun _ _ _ _ _ _ z => z.elim) (fun _ _ _ _ _ _ z => z.elim)
    obtain ⟨o, ho, l, y, rfl, hB, hy, hf, rfl⟩ := s'.sl 0 _ g
    refine q H' y.1 y.2 fs (fun a o n e => s'.k0 a o (fun z => n (List.mem_cons_of_mem _ z)) ?_) s'.dr hy (Datf.sub (fun b hb' => ?_) fs y.2 hf) pf
    · show (if a = l then none else H a) = some o
      rw [if_neg (fun z => n (by rw [z]; exact List.mem_cons_self))]
      exact e
    · rcases List.mem_cons.mp hb' with z | z
      · rw [z]
        exact hB
      · exact s'.b0 b z
end WJ
set_option Elab.async false
set_option linter.all false
set_option maxRecDepth 100000
set_option maxHeartbeats 2000000
/-! WjT: sorted of any alike data; a dict's items listed, sorted -/
namespace WJ
open PySem L2
/-- Python's order of data -/
def leD (a b : Da) : Bool := !PySem.W.dataLt b.py a.py
def sortD (ds : List Da) : List Da := ds.mergeSort leD
structure SortOk (ds : List Da) : Prop where
  pl : plains ds = true
  al : PySem.W.AllAlike (pys ds)
  so : PySem.W.Sortable (pys ds)
  dp : ∀ d ∈ pys ds, d.depth ≤ 60
theorem pys_map : ∀ ds : List Da, pys ds = ds.map Da.py
  | [] => rfl
  | d :: ds => by rw [pys, List.map_cons, pys_map ds]
theorem plains_at : ∀ {ds : List Da}, plains ds = true → ∀ d ∈ ds, d.plain = true
  | d :: ds, h, x, hx => by
    unfold plains at h
    obtain ⟨h1, h2⟩ := Bool.and_eq_true_iff.mp h
    rcases List.mem_cons.mp hx with e | hx
    · rw [e]
      exact h1
    · exact plains_at h2 x hx
section
variable {α β γ : Type} {R : α → γ → Prop}
theorem each_map {f : β → γ} : ∀ {as : List α} {bs : List β}, PySem.W.EachIs (fun a b => R a (f b)) as bs → PySem.W.EachIs R as (bs.map f)
  | _, _, .nil => .nil
  | _, _, .cons h t => .cons h (each_map t)
theorem each_memR {R : α → β → Prop} : ∀ {as : List α} {bs : List β}, PySem.W.EachIs R as bs → PySem.W.EachIs (fun a b => R a b ∧ b ∈ bs) as bs
  | _, _, .nil => .nil
  | _, _, .cons h t => .cons ⟨h, List.mem_cons_self⟩ ((each_memR t).mono fun _ _ q => ⟨q.1, List.mem_cons_of_mem _ q.2⟩)
end
section
variable {X : Cx} {pins : List (Addr × Obj)} {σ : L2.St} {H : Hp} {s : Shared} {B : List Addr}
theorem each_of (I : Inv X pins σ H s) : ∀ {ds : List Da} {xs : List V} {its : List Value}, Dats X.K B H xs ds → Vals xs its → PySem.W.EachIs (fun u d => ∃ x, RelV x u ∧ Dat X.K B H x d) its ds
  | [], _, _, h, r => by
    unfold Dats at h
    subst h
    cases r
    exact .nil
  | d :: ds, _, _, h, r => by
    unfold Dats at h
    obtain ⟨v, t, rfl, h1, h2⟩ := h
    cases r with
    | cons r1 r2 => exact .cons ⟨v, r1, h1⟩ (each_of I h2 r2)
theorem each_back {R : Value → Da → Prop} {K : PySem.W.Frag} (hR : ∀ u d, R u d → ∃ x, RelV x u ∧ Dat K B H x d) : ∀ {ds : List Da} {its : List Value}, PySem.W.EachIs R its ds → ∃ xs, Vals xs its ∧ Dats K B H xs ds
  | _, _, .nil => ⟨[], .nil, .nil⟩
  | _, _, .cons h t => by
    obtain ⟨x, r, d⟩ := hR _ _ h
    obtain ⟨xs, rs, ds⟩ := each_back hR t
    exact ⟨x :: xs, .cons r rs, .cons d ds⟩
/-- the values can be sorted, the outcome is the sorted data -/
theorem sorts_data {A : Around} {h' : Heap} {tk : Nat} {R : Value → Da → Prop} {vs : List Value} {ds : List Da} (so : SortOk ds) (hu : A.units + 64 < cLine) (e : PySem.W.EachIs (fun u d => R u d ∧ ∃ as, Reads h' u d.py as) vs ds) :
    PySem.W.SortsAt X.prog X.w A { s with heap := h', toks := tk } (PySem.W.dataKind h' (pys ds)) vs ∧ PySem.W.EachIs R (PySem.W.sortVals (PySem.W.dataKind h' (pys ds)) false vs vs) (sortD ds) := by
  have e1 : PySem.W.EachIs (fun v d => ∃ as, Reads h' v d as) vs (pys ds) := by
    rw [pys_map]
    exact each_map (e.mono fun u d q => q.2)
  refine ⟨PySem.W.SortsAt.data (s := { s with heap := h', toks := tk }) e1 so.al so.so fun d hd => by have := so.dp d hd; omega, ?_⟩
  refine PySem.W.sortVals_each (κ := PySem.W.dataKind h' (pys ds)) (fun d : Da => PySem.W.keyToks d.py) (e.mono fun u d q => q.1) ?_
  refine (each_memR e).mono fun u d q => ?_
  obtain ⟨⟨_, as, r⟩, hm⟩ := q
  exact PySem.W.dataKind_some so.al (by rw [pys_map]; exact List.mem_map.mpr ⟨d, hm, rfl⟩) r
end
section
variable {X : Cx}
/-- sorted(xs) of alike data -/
def rSortG (K : PySem.W.Frag) : List V → Hp → VK → Prop := fun vs H Q => ∃ (B : List Addr) (v : V) (ds : List Da), vs = [v] ∧ Dat K B H v (.lst ds) ∧ SortOk ds ∧ ∀ p ys, H p = none → Dats K B H ys (sortD ds) → Q (.ref p) (upd H p (.lst ys))
theorem cr_sortG (hu : X.A.units + 66 < cLine) : CallR X (.builtin "sorted") (rSortG X.K) := by
  intro pins s σ H vs us Q I r h
  obtain ⟨B, v, ds, rfl, hd, so, q⟩ := h
  unfold Dat at hd
  obtain ⟨a, xs, rfl, hs, ht⟩ := hd
  obtain ⟨its, rv, hl, hz⟩ := I.list hs.sq
  rw [Vals.ref1 r]
  have hlen := rv.length
  have e0 := each_of I ht rv
  have e1 : PySem.W.EachIs (fun u d => (∃ x, RelV x u ∧ Dat X.K B H x d) ∧ ∃ as, Reads (PySem.W.sortingHeap (PySem.W.copyHeap s.heap its) (s.heap.objs.size + 1) its) u d.py as) its ds := by
    refine (each_memR e0).mono fun u d ⟨⟨x, rx, hx⟩, hm⟩ => ?_
    refine ⟨⟨x, rx, hx⟩, ?_⟩
    obtain ⟨as, rr⟩ := Dp.reads I d.py x u (Dat.dp d x (plains_at so.pl d hm) hx) rx
    exact ⟨as, PyProof.Rows.Reads.keeps (fun b o e => PySem.W.sorting_copy_old e) rr⟩
  obtain ⟨S, eo⟩ := sorts_data (X := X) (s := s) (tk := s.toks) (A := X.A.in1.in1) so (by show X.A.units + 1 + 1 + 64 < cLine; omega) e1
  refine PySem.W.sorted_vals hl.isList S (by omega) ?_
  obtain ⟨ys, ry, hy⟩ := each_back (B := B) (H := H) (K := X.K) (fun u d q => q) eo
  obtain ⟨ep, he'⟩ := PyProof.Rows.sortedAll_at s.heap its (PySem.W.sortVals (PySem.W.dataKind (PySem.W.sortingHeap (PySem.W.copyHeap s.heap its) (s.heap.objs.size + 1) its) (pys ds)) false its its).toArray
  have hl2 : ys.length ≤ sizeLine := by
    rw [ry.length, PySem.W.sortVals_length false rfl]
    omega
  exact ⟨.ref _, upd H (s.heap.objs.size + 1) (.lst ys), I.laid (t' := s.toks) (fun _ _ => PyProof.Rows.sortedAll_old) (Nat.le_succ _) ⟨hl2, _, ep, by simpa using ry, he'⟩, rfl, q _ ys (I.hok.fresh (Nat.le_succ _)) hy⟩
/-! ### the items of a dict -/
def itemsD (es : List (Key × Da)) : List Da := es.map fun e => .tup [keyD e.1, e.2]
def tItemsV (te : TE) : TE := fun σ H Q => te σ H fun x H1 => ∃ (a : Addr) (kvs : List (Key × V)), x = .ref a ∧ Rd H1 a (.dK kvs) ∧ ∀ p, H1 p = none → Q (.ref p) (upd H1 p (L2.DX.itemsO p a))
theorem pe_itemsV {e : Expr} {te : TE} {apos cpos : Pos} (he : PE X e te) (hbase : attributeBase e "items" X.env (eval e X.env) = eval e X.env := by rfl) (hline : (apos.endLine == cpos.line) = true := by rfl) :
    PE X (.Call (.Attribute e "items" apos) [] [] cpos) (tItemsV te) := by
  refine ⟨fun pins s σ H Q I hq => ?_⟩
  refine wpAny_Call_method (T := "dict") (id := "dict.items") hbase rfl hline F.plainAttrs_dict F.slot_dict_items F.type_dict_items (thn (he.run pins s σ H _ I hq) fun u s1 ⟨x, H1, I1, rx, d, kvs, ex, hd, q⟩ => ?_)
  subst ex
  obtain rfl : u = Value.ref d := rx
  obtain ⟨hz, hs0, vs, kv, hdo⟩ := dk_rd I1.hok hd
  refine ⟨hdo.typeIs, hdo.mapOf.noDict, ?_⟩
  show wpAny _ _ (callWith cpos (.builtin "dict.items") [.ref d] [] []) _ X.xe s1
  refine method_meetsIn F.slot_dict_items F.entry_dict_items rfl (PySem.evalArgs_none ⟨rfl, hdo.typeIs, F.args_dict_items_1 _, _, meets_dict_items (mixKind X.prog X.w) d hs0, ⟨vs, hdo⟩, ?_⟩)
  have hf : H1 s1.heap.objs.size = none := I1.hok.fresh (Nat.le_refl _)
  exact ⟨.ref s1.heap.objs.size, upd H1 s1.heap.objs.size (L2.DX.itemsO s1.heap.objs.size d), I1.laid (t' := s1.toks) (fun b u e => Heap.get?_push_of_some _ e) (Nat.le_refl _) (L2.DX.itemsO_ok (Heap.get?_push_size _ rfl)), rfl, q _ hf⟩
end
theorem dat_key {K : PySem.W.Frag} {B : List Addr} {H : Hp} (k : Key) : Dat K B H (kV k) (keyD k) := by
  cases k <;> (unfold keyD Dat; rfl)
theorem dat_pair {K : PySem.W.Frag} {B : List Addr} {H : Hp} {t : Addr} {k : Key} {v : V} {d : Da} (nb : t ∉ B) (e : H t = some (.tup [kV k, v])) (h : Dat K B H v d) : Dat K B H (.ref t) (.tup [keyD k, d]) := by
  unfold Dat
  exact ⟨t, _, rfl, .of nb e, .cons (dat_key k) (.cons h .nil)⟩
theorem items_dat {K : PySem.W.Frag} {B : List Addr} {H' : Hp} : ∀ {es : List (Key × Da)} {kvs : List (Key × V)} {as : List Addr}, Datk K B H' kvs es → Paired (fun (t : Addr) (q : Key × V) => H' t = some (.tup [kV q.1, q.2])) as kvs → (∀ t ∈ as, t ∉ B) → Dats K B H' (as.map V.ref) (itemsD es)
  | [], _, _, h, p, _ => by
    unfold Datk at h
    subst h
    cases p
    exact .nil
  | (k, d) :: es, _, _, h, p, n => by
    unfold Datk at h
    obtain ⟨v, r, rfl, h1, t⟩ := h
    cases p with
    | cons p1 p2 => exact .cons (dat_pair (n _ List.mem_cons_self) p1 h1) (items_dat t p2 fun x hx => n x (List.mem_cons_of_mem _ hx))
section
variable {X : Cx}
def rListIt (K : PySem.W.Frag) : List V → Hp → VK → Prop := fun vs H Q => ∃ (p a : Addr) (B : List Addr) (es : List (Key × Da)), vs = [.ref p] ∧ H p = some (L2.DX.itemsO p a) ∧ Dat K B H (.ref a) (.dct es) ∧ (∀ b ∈ B, H b ≠ none) ∧
  ∀ H' l xs, Kp [] H H' → H l = none → H' l = some (.lst xs) → Dats K (l :: B) H' xs (itemsD es) → Q (.ref l) H'
theorem cr_listIt (hc : X.calm = true) : CallR X (.type "list") (rListIt X.K) := by
  intro pins s σ H vs us Q I r h
  obtain ⟨p, a, B, es, rfl, hp, hd, al, q⟩ := h
  rw [Vals.ref1 r]
  unfold Dat at hd
  obtain ⟨a', kvs, e0, ⟨nb, rd⟩, hk⟩ := hd
  cases e0
  have view : s.heap.IsItemsView p a := (show ObjOk X.prog X.w H s.heap p (L2.DX.itemsO p a) from I.hok p _ hp).1
  obtain ⟨hz, hs0, ws, kv, hdo⟩ := dk_rd I.hok rd
  obtain ⟨ep, hat⟩ := hdo.dictAt
  have lk : kvs.length = ws.length := Paired.length kv
  refine PySem.W.kdx_call (knd := mixKind X.prog X.w) (kvs := ws) (ep := ep) (I.ok.hd hc) view hat (by omega) fun h' tk acc c as hk' hS hl hG hacc => ?_
  obtain ⟨H', k1, k2, k3, k4, k5, k6, J⟩ := LiI.items_laid (tk := tk) I hz kv hk' hS hl hG hacc
  have kp : Kp [] H H' := fun b o _ e => k1 b o e
  have nB : s.heap.objs.size ∉ B := fun z => al _ z k2
  refine ⟨.ref _, H', J, rfl, q H' _ _ kp k2 k5 (items_dat (Datk.mono kp.all es kvs (Datk.put k2 es kvs hk)) k6 fun t ht z => ?_)⟩
  rcases List.mem_cons.mp z with z | z
  · exact k4 (by rw [← z]; exact ht)
  · exact al t z (k3 t ht)
def rSortIts (K : PySem.W.Frag) : List V → Hp → VK → Prop := fun vs H Q => ∃ (p a : Addr) (B : List Addr) (es : List (Key × Da)), vs = [.ref p] ∧ H p = some (L2.DX.itemsO p a) ∧ Dat K B H (.ref a) (.dct es) ∧ (∀ b ∈ B, H b ≠ none) ∧ SortOk (itemsD es) ∧
  ∀ H' l xs, Kp [] H H' → H l = none → H' l = some (.lst xs) → Dats K (l :: B) H' xs (sortD (itemsD es)) → Q (.ref l) H'
theorem pairs_get {prog : Program} {w : World} {κ : Type} [DecidableEq κ] {knd : PySem.KeyKind prog w κ} : ∀ {es : List DictEntry} {kvs : List (κ × Value)}, Pairs knd es kvs → ∀ {j : Nat} {e : DictEntry}, es[j]? = some e → ∃ kv, kvs[j]? = some kv ∧ knd.is kv.1 e.key = true ∧ e.val = kv.2
  | _, _, .nil, j, e, h => by cases h
  | _, _, .cons h1 h2 t, 0, e, h => by
    have q := Option.some.inj h
    subst q
    exact ⟨_, rfl, h1, h2⟩
  | _, _, .cons h1 h2 t, j + 1, e, h => pairs_get t h
theorem each_ix {α β : Type} {R : α → β → Prop} : ∀ {as : List α} {bs : List β}, as.length = bs.length → (∀ (j : Nat) a b, as[j]? = some a → bs[j]? = some b → R a b) → PySem.W.EachIs R as bs
  | [], [], _, _ => .nil
  | [], _ :: _, h, _ => by cases h
  | _ :: _, [], h, _ => by cases h
  | a :: as, b :: bs, h, q => .cons (q 0 a b rfl rfl) (each_ix (Nat.succ.inj h) fun j x y h1 h2 => q (j + 1) x y h1 h2)
theorem Datk.get {K : PySem.W.Frag} {B : List Addr} {H : Hp} : ∀ {es : List (Key × Da)} {kvs : List (Key × V)}, Datk K B H kvs es → ∀ {j : Nat} {p : Key × Da}, es[j]? = some p → ∃ v, kvs[j]? = some (p.1, v) ∧ Dat K B H v p.2
  | [], _, h, j, p, e => by cases e
  | (k, d) :: es, _, h, j, p, e => by
    unfold Datk at h
    obtain ⟨v, r, rfl, h1, t⟩ := h
    cases j with
    | zero =>
      have q := Option.some.inj e
      subst q
      exact ⟨v, rfl, h1⟩
    | succ j => exact Datk.get t e
theorem cr_sortIts (hc : X.calm = true) (hu : X.A.units + 66 < cLine) : CallR X (.builtin "sorted") (rSortIts X.K) := by
  intro pins s σ H vs us Q I r h
  obtain ⟨p, a, B, es, rfl, hp, hd, al, so, q⟩ := h
  rw [Vals.ref1 r]
  unfold Dat at hd
  obtain ⟨a', kvs, e0, ⟨nb, rd⟩, hkd⟩ := hd
  cases e0
  have view : s.heap.IsItemsView p a := (show ObjOk X.prog X.w H s.heap p (L2.DX.itemsO p a) from I.hok p _ hp).1
  obtain ⟨hz, hs0, ws, kv, o, ents, ep, ho, hx, hdat, hko, hpr, hnd⟩ := dk_rd I.hok rd
  have hh := I.ok.hd hc
  have lk : kvs.length = ws.length := Paired.length kv
  have lke : kvs.length = es.length := hkd.length
  have l2 : ents.size = ws.length := by
    have := hpr.length
    rwa [Array.length_toList] at this
  refine DT.sortedI (es := ents) (ep := ep) hh view ⟨o, ho, hx, hdat⟩ (by omega) fun h' tk as hk hlt hl hG => ?_
  have nd : as.Nodup := List.Pairwise.imp (fun h => Nat.ne_of_lt h) hG.rise
  have pr : ∀ (j : Nat) (t : Addr), as[j]? = some t → ∃ (k : Key) (v : V) (d : Da) (u1 u2 : Value), kvs[j]? = some (k, v) ∧ es[j]? = some (k, d) ∧ RelV (kV k) u1 ∧ RelV v u2 ∧ Dat X.K B H v d ∧ h'.get? t = some { cls := .type "tuple", data := .seq #[u1, u2] } := by
    intro j t hj
    obtain ⟨en, he, hg⟩ := hG.pairs j t hj
    obtain ⟨⟨k', u'⟩, hw, his, hval⟩ := pairs_get hpr (j := j) (e := en) (by rw [Array.getElem?_toList]; exact he)
    have hjl : j < es.length := by
      have h1 := (List.getElem?_eq_some_iff.mp hw).1
      omega
    obtain ⟨v, hv, hdv⟩ := Datk.get hkd (List.getElem?_eq_getElem hjl)
    obtain ⟨u, hu1, ru⟩ := kv_get kv hv
    rw [hw] at hu1
    injection hu1 with hu2
    injection hu2 with hu3 hu4
    subst hu3 hu4
    exact ⟨_, v, _, en.key, en.val, hv, List.getElem?_eq_getElem hjl, relV_key his, by rw [hval]; exact ru, hdv, hg⟩
  have hob : (h'.push { cls := .type "list", data := .seq (as.map Value.ref).toArray }).get? h'.objs.size = some (PyProof.Rows.seqObj "list" (as.map Value.ref).toArray 0) := Heap.get?_push_size _ rfl
  have kb : ∀ b o, s.heap.get? b = some o → (h'.push { cls := .type "list", data := .seq (as.map Value.ref).toArray }).get? b = some o := fun b o e => Heap.get?_push_of_some _ (hk b o e)
  have ne0 : ∀ b o, h'.get? b = some o → b ≠ h'.objs.size := fun b o e => Nat.ne_of_lt (Heap.lt_size e)
  generalize hh2 : h'.push { cls := .type "list", data := .seq (as.map Value.ref).toArray } = h2 at hob kb ⊢
  have ka : ∀ b o, h'.get? b = some o → h2.get? b = some o := fun b o e => by rw [← hh2]; exact Heap.get?_push_of_some _ e
  have kso : ∀ b o, h'.get? b = some o → (PySem.W.sortingHeap h2 h'.objs.size (as.map Value.ref)).get? b = some o := fun b o e => PySem.W.sortingHeap_old (ne0 b o e) (ka b o e)
  have las : as.length = es.length := by omega
  have eR : PySem.W.EachIs (fun u d => (∃ (j : Nat) (t : Addr) (k : Key) (v : V) (dd : Da), as[j]? = some t ∧ u = Value.ref t ∧ kvs[j]? = some (k, v) ∧ Dat X.K B H v dd ∧ d = Da.tup [keyD k, dd]) ∧ ∃ cs, Reads (PySem.W.sortingHeap h2 h'.objs.size (as.map Value.ref)) u d.py cs) (as.map Value.ref) (itemsD es) := by
    refine each_ix (by rw [List.length_map, itemsD, List.length_map]; exact las) fun j u d h1 h2' => ?_
    rw [List.getElem?_map] at h1
    cases e1 : as[j]? with
    | none =>
      rw [e1] at h1
      cases h1
    | some t =>
      rw [e1] at h1
      cases h1
      obtain ⟨k, v, dd, u1, u2, hv, he, r1, r2, hdv, hg⟩ := pr j t e1
      unfold itemsD at h2'
      rw [List.getElem?_map, he] at h2'
      cases h2'
      refine ⟨⟨j, t, k, v, dd, e1, rfl, hv, hdv, rfl⟩, ?_⟩
      have hm : Da.tup [keyD k, dd] ∈ itemsD es := List.mem_map.mpr ⟨(k, dd), List.mem_of_getElem? he, rfl⟩
      have hpl := plains_at so.pl _ hm
      have hpd : dd.plain = true := by
        unfold Da.plain plains plains plains at hpl
        obtain ⟨_, h4⟩ := Bool.and_eq_true_iff.mp hpl
        exact (Bool.and_eq_true_iff.mp h4).1
      have hpk : (keyD k).plain = true := by cases k <;> rfl
      obtain ⟨c1, q1⟩ := Dp.reads I (keyD k).py (kV k) u1 (Dat.dp (B := B) _ _ hpk (dat_key k)) r1
      obtain ⟨c2, q2⟩ := Dp.reads I dd.py v u2 (Dat.dp dd v hpd hdv) r2
      have q1' := PyProof.Rows.Reads.keeps (fun b o e => kso b o (hk b o e)) q1
      have q2' := PyProof.Rows.Reads.keeps (fun b o e => kso b o (hk b o e)) q2
      have ep : (Da.tup [keyD k, dd]).py = PyData.tuple [(keyD k).py, dd.py] := by simp only [Da.py, pys]
      rw [ep]
      exact ⟨_, Reads.tuple (kso _ _ hg) rfl rfl (ReadsAll.cons q1' (ReadsAll.cons q2' ReadsAll.nil))⟩
  obtain ⟨S, eo⟩ := sorts_data (X := X) (s := s) (tk := tk) (A := X.A.in1.in1) so (by show X.A.units + 1 + 1 + 64 < cLine; omega) eR
  refine wpAny_call_entry PyProof.Rows.slot_list_sort ⟨_, hob, rfl⟩ PyProof.Rows.entry_list_sort
    (PySem.W.list_sort_vals (s := { s with heap := h2, toks := tk }) hob S (by rw [List.length_map]; omega) ⟨.none, rfl, ?_⟩) (PyProof.Rows.args_list_sort _)
  generalize hout : PySem.W.sortVals (PySem.W.dataKind (PySem.W.sortingHeap h2 h'.objs.size (as.map Value.ref)) (pys (itemsD es))) false (as.map Value.ref) (as.map Value.ref) = out at eo ⊢
  have lout : out.length = as.length := by
    rw [← hout, PySem.W.sortVals_length false rfl, List.length_map]
  show EP X pins σ Q (.ref h'.objs.size) { s with heap := PyProof.Rows.sortedHeap h2 h'.objs.size (as.map Value.ref) out.toArray, toks := tk }
  have kF : ∀ b o, b ≠ h'.objs.size → h2.get? b = some o → (PyProof.Rows.sortedHeap h2 h'.objs.size (as.map Value.ref) out.toArray).get? b = some o := fun b o hb e => (PyProof.Rows.sortedHeap_old hb (Heap.lt_size e)).trans e
  have kS : ∀ b o, s.heap.get? b = some o → (PyProof.Rows.sortedHeap h2 h'.objs.size (as.map Value.ref) out.toArray).get? b = some o := fun b o e => kF b o (ne0 _ _ (hk b o e)) (kb b o e)
  obtain ⟨eF, heF⟩ := PyProof.Rows.sortedHeap_at (vs := as.map Value.ref) (out := out.toArray) hob
  have I1 : Inv X pins σ H { s with heap := PyProof.Rows.sortedHeap h2 h'.objs.size (as.map Value.ref) out.toArray, toks := tk } := I.kept (t' := tk) kS
  have hn0 : H h'.objs.size = none := I.hok.fresh (Nat.le_of_lt hlt)
  -- the values of the outcome
  obtain ⟨ys, ry, hys⟩ : ∃ ys : List V, Vals ys out ∧ PySem.W.EachIs (fun (x : V) d => ∃ (j : Nat) (t : Addr) (k : Key) (v : V) (dd : Da), as[j]? = some t ∧ x = V.ref t ∧ kvs[j]? = some (k, v) ∧ Dat X.K B H v dd ∧ d = Da.tup [keyD k, dd]) ys (sortD (itemsD es)) := by
    clear hout lout heF kF kS I1
    have go : ∀ {us : List Value} {ds : List Da}, PySem.W.EachIs (fun u d => ∃ (j : Nat) (t : Addr) (k : Key) (v : V) (dd : Da), as[j]? = some t ∧ u = Value.ref t ∧ kvs[j]? = some (k, v) ∧ Dat X.K B H v dd ∧ d = Da.tup [keyD k, dd]) us ds →
        ∃ ys : List V, Vals ys us ∧ PySem.W.EachIs (fun (x : V) d => ∃ (j : Nat) (t : Addr) (k : Key) (v : V) (dd : Da), as[j]? = some t ∧ x = V.ref t ∧ kvs[j]? = some (k, v) ∧ Dat X.K B H v dd ∧ d = Da.tup [keyD k, dd]) ys ds := by
      intro us ds h
      induction h with
      | nil => exact ⟨[], .nil, .nil⟩
      | cons h t ih =>
        obtain ⟨j, t, k, v, dd, h1, h2, h3, h4, h5⟩ := h
        obtain ⟨ys, r1, r2⟩ := ih
        subst h2
        exact ⟨V.ref t :: ys, .cons rfl r1, .cons ⟨j, t, k, v, dd, h1, rfl, h3, h4, h5⟩ r2⟩
    exact go eo
  have lys : ys.length ≤ sizeLine := by
    rw [ry.length, lout]
    omega
  have I2 : Inv X pins σ (upd H h'.objs.size (.lst ys)) { s with heap := PyProof.Rows.sortedHeap h2 h'.objs.size (as.map Value.ref) out.toArray, toks := tk } :=
    I1.take (h' := PyProof.Rows.sortedHeap h2 h'.objs.size (as.map Value.ref) out.toArray) (t' := tk) (fun b ob _ e => e) (I.fpOk (Nat.le_of_lt hlt) hn0) ⟨lys, out, eF, ry, heF⟩
  obtain ⟨H2, I3, g, qt⟩ := L2.DX.takeT (P := fun b xs => ∃ (j : Nat) (k : Key) (v : V), as[j]? = some b ∧ kvs[j]? = some (k, v) ∧ xs = [kV k, v]) I as _ I2 nd fun b hb => by
    obtain ⟨j, hj⟩ := List.mem_iff_getElem?.mp hb
    obtain ⟨k, v, dd, u1, u2, hv, he, r1, r2, hdv, hg⟩ := pr j b hj
    have hbl : s.heap.objs.size ≤ b := Nat.le_of_lt (hG.above b hb)
    refine ⟨hbl, ?_, [kV k, v], ⟨j, k, v, hj, hv, rfl⟩, fun H3 => ⟨by show 2 ≤ sizeLine; decide, [u1, u2], .cons r1 (.cons r2 .nil), ⟨_, kF _ _ (ne0 _ _ hg) (ka _ _ hg), rfl, 0, rfl⟩⟩⟩
    rw [upd_ne (ne0 _ _ hg)]
    exact I.hok.fresh hbl
  have gr : Kp [] H H2 := fun b o _ e => g b o (by rw [upd_ne (ne_of_none e hn0)]; exact e)
  refine ⟨.ref h'.objs.size, H2, I3, rfl, q H2 h'.objs.size ys gr hn0 (g _ _ upd_same) ?_⟩
  have newA : ∀ t ∈ as, H t = none ∧ t ≠ h'.objs.size := fun t ht => by
    refine ⟨I.hok.fresh (Nat.le_of_lt (hG.above t ht)), ?_⟩
    obtain ⟨j, hj⟩ := List.mem_iff_getElem?.mp ht
    obtain ⟨k, v, dd, u1, u2, hv, he, r1, r2, hdv, hg⟩ := pr j t hj
    exact ne0 _ _ hg
  have fin : ∀ {ys : List V} {ds : List Da}, PySem.W.EachIs (fun (x : V) d => ∃ (j : Nat) (t : Addr) (k : Key) (v : V) (dd : Da), as[j]? = some t ∧ x = V.ref t ∧ kvs[j]? = some (k, v) ∧ Dat X.K B H v dd ∧ d = Da.tup [keyD k, dd]) ys ds → Dats X.K (h'.objs.size :: B) H2 ys ds := by
    intro ys ds h
    induction h with
    | nil => exact .nil
    | cons h t ih =>
      obtain ⟨j, t, k, v, dd, h1, rfl, h3, h4, rfl⟩ := h
      have ht := List.mem_of_getElem? h1
      obtain ⟨n1, n2⟩ := newA t ht
      obtain ⟨xs, ⟨j', k', v', j1, j2, rfl⟩, hH⟩ := qt t ht
      have ej : j = j' := (List.getElem?_inj (List.getElem?_eq_some_iff.mp h1).1 nd).mp (h1.trans j1.symm)
      subst ej
      rw [h3] at j2
      cases j2
      refine .cons (dat_pair (fun z => ?_) hH (Dat.mono gr.all dd v (Dat.put hn0 dd v h4))) ih
      rcases List.mem_cons.mp z with z | z
      · exact n2 z
      · exact al t z n1
  exact fin hys
end
end WJ
set_option Elab.async false
set_option linter.all false
set_option maxRecDepth 100000
set_option maxHeartbeats 2000000
/-! WjU: items, dict(x), dict comprehensions, enumerate, == of objects, over data -/
namespace WJ
open PySem L2
section
variable {X : Cx} (K : PySem.W.Frag)
theorem o_listIt (hc : X.calm = true := by rfl) (hK : X.K = K := by rfl) : CallR X (.type "list") (rListIt K) := hK ▸ cr_listIt hc
theorem o_sortIts (hu : X.A.units + 66 < cLine) (hc : X.calm = true := by rfl) (hK : X.K = K := by rfl) : CallR X (.builtin "sorted") (rSortIts K) := hK ▸ cr_sortIts hc hu
theorem o_sortG (hu : X.A.units + 66 < cLine) (hK : X.K = K := by rfl) : CallR X (.builtin "sorted") (rSortG K) := hK ▸ cr_sortG hu
end
def rDictD : List V → Hp → VK → Prop := fun xs H Q => ∃ (a : Addr) (kvs : List (Key × V)), xs = [.ref a] ∧ Rd H a (.dK kvs) ∧ ∀ p, H p = none → Q (.ref p) (upd H p (.dK kvs))
theorem o_dictD {X : Cx} : CallR X (.type "dict") rDictD := call_dictD
section
variable {K : PySem.W.Frag} {W : Wd K} {Γ : List En} {c c1 c2 : Nat} {P : Da → Prop} {te ta tv tk : TE} {tt : TT}
theorem its_go {H H1 : Hp} {B : List Addr} {p : Addr} {es : List (Key × Da)} {v : V} (np : H1 p = none) (hd : Dat K B H1 v (.dct es)) : ∃ a kvs, v = .ref a ∧ Rd H1 a (.dK kvs) ∧ Dat K B (upd H1 p (L2.DX.itemsO p a)) (.ref a) (.dct es) := by
  have hd0 := hd
  unfold Dat at hd
  obtain ⟨a, kvs, rfl, ⟨nb, rd⟩, hk⟩ := hd
  exact ⟨a, kvs, rfl, rd, Dat.mono (Kp.new np) _ _ hd0⟩
theorem evF_itsL {es : List (Key × Da)} (h : Ev W te Γ c (· = .dct es)) : EvF W (tCB (rListIt K) (tCons (tItemsV te) tNil)) Γ c (· = itemsD es) := fun H0 B0 B σ H M s hM Q q =>
  h H0 B0 B σ H M s hM _ fun v d H1 k r hd e => by
    subst e
    have s1 := s.keep k r
    have hd0 := hd
    unfold Dat at hd0
    obtain ⟨a, kvs, rfl, ⟨nb, rd⟩, _⟩ := hd0
    refine ⟨a, kvs, rfl, rd, fun p np => ?_⟩
    refine ⟨p, a, B, es, rfl, upd_same, Dat.mono (Kp.new np) _ _ hd, fun b hb => ?_, fun H' l xs k2 nl hl hx => ?_⟩
    · rw [upd_ne (fun z => s1.al b hb (by rw [z]; exact np))]
      exact s1.al b hb
    · have nl1 : H1 l = none := (Kp.new (B := []) np).back nl
      refine q l xs _ H' (k.backB (fun z => s1.al l (s.fb l z) nl1) nl1) (k.trans ((Kp.new np).trans k2.all)) ?_ hl hx rfl
      refine W.pres (fun b hb => ?_) (Wd.new (o := L2.DX.itemsO p a) np r)
      cases e : upd H1 p (L2.DX.itemsO p a) b with
      | none => exact absurd e (W.alive (Wd.new (o := L2.DX.itemsO p a) np r) b hb)
      | some o => rw [k2 b o (fun z => nomatch z) e]
theorem evF_itsS {es : List (Key × Da)} (so : SortOk (itemsD es)) (h : Ev W te Γ c (· = .dct es)) : EvF W (tCB (rSortIts K) (tCons (tItemsV te) tNil)) Γ c (· = sortD (itemsD es)) := fun H0 B0 B σ H M s hM Q q =>
  h H0 B0 B σ H M s hM _ fun v d H1 k r hd e => by
    subst e
    have s1 := s.keep k r
    have hd0 := hd
    unfold Dat at hd0
    obtain ⟨a, kvs, rfl, ⟨nb, rd⟩, _⟩ := hd0
    refine ⟨a, kvs, rfl, rd, fun p np => ?_⟩
    refine ⟨p, a, B, es, rfl, upd_same, Dat.mono (Kp.new np) _ _ hd, fun b hb => ?_, so, fun H' l xs k2 nl hl hx => ?_⟩
    · rw [upd_ne (fun z => s1.al b hb (by rw [z]; exact np))]
      exact s1.al b hb
    · have nl1 : H1 l = none := (Kp.new (B := []) np).back nl
      refine q l xs _ H' (k.backB (fun z => s1.al l (s.fb l z) nl1) nl1) (k.trans ((Kp.new np).trans k2.all)) ?_ hl hx rfl
      refine W.pres (fun b hb => ?_) (Wd.new (o := L2.DX.itemsO p a) np r)
      cases e : upd H1 p (L2.DX.itemsO p a) b with
      | none => exact absurd e (W.alive (Wd.new (o := L2.DX.itemsO p a) np r) b hb)
      | some o => rw [k2 b o (fun z => nomatch z) e]
theorem rcF_sortG {ds : List Da} (so : SortOk ds) : RcF W (rSortG K) [.lst ds] (· = sortD ds) := fun B H M vs s hd Q q => by
  unfold Dats at hd
  obtain ⟨v, t, rfl, hv, ht⟩ := hd
  unfold Dats at ht
  subst ht
  refine ⟨B, v, ds, rfl, hv, so, fun p ys np hy => q p ys _ _ np (Kp.new np) (Wd.new np s.dr) upd_same ?_ rfl⟩
  exact Dats.mono (Kp.new np) _ _ (Dats.put np _ _ hy)
theorem evG_dict {es : List (Key × Da)} (h : Ev W te Γ c (· = .dct es)) : EvG W (tCB rDictD (tCons te tNil)) Γ c (· = es) := fun H0 B0 B σ H M s hM Q q =>
  h H0 B0 B σ H M s hM _ fun v d H1 k r hd e => by
    subst e
    have s1 := s.keep k r
    unfold Dat at hd
    obtain ⟨a, kvs, rfl, ⟨nb, rd⟩, hk⟩ := hd
    refine ⟨a, kvs, rfl, rd, fun p np => ?_⟩
    exact q p kvs es _ (k.backB (fun z => s1.al p (s.fb p z) np) np) (k.trans (Kp.new np)) (Wd.new np r) upd_same (Datk.mono (Kp.new np) _ _ (Datk.put np _ _ hk)) rfl
/-! ### dict comprehensions -/
def Turn2 (W : Wd K) (g : TG) (tt : TT) (tk tv : TE) (vs : List Nat) (Γ : List En) (cb : Nat) (d : Da) (Ry : Key → Da → Prop) (Rn : Prop) : Prop :=
  ∃ (Γ' : List En) (Pt : Bool → Prop) (Pk : Key → Prop) (ct ck ce : Nat), Eg W g vs d (wipeE Γ vs) Γ' ∧ ct + ck + ce ≤ cb ∧ EvT W tt Γ' ct Pt ∧ (Pt true → Ev W tk Γ' ck (fun d => ∃ k, d = keyD k ∧ Pk k)) ∧ (∀ k, Pk k → Ev W tv Γ' ce (Ry k)) ∧ (Pt false → Rn)
theorem length_putD (es : List (Key × Da)) (k : Key) (d : Da) : (putD es k d).length ≤ es.length + 1 := by
  unfold putD
  split
  · rw [List.length_map]
    omega
  · rw [List.length_append]
    exact Nat.le_refl _
theorem evG_dc {wi : TI} {g : TG} {vs : List Nat} {c0 cb n : Nat} {Pi : List Da → Prop} {R : List Da → Nat → List (Key × Da) → Prop} (hi : Ei W wi Γ c0 Pi) (h0 : ∀ ds, Pi ds → R ds 0 [])
    (hs : ∀ ds i d acc, Pi ds → ds[i]? = some d → R ds i acc → Turn2 W g tt tk tv vs Γ cb d (fun k e => R ds (i + 1) (putD acc k e)) (R ds (i + 1) acc)) (hn : ∀ ds, Pi ds → ds.length ≤ n) (hz : n ≤ 100000) :
    EvG W (tDc wi g tt tk tv vs) Γ (c0 + n * cb) (fun acc => ∃ ds, Pi ds ∧ R ds ds.length acc) := fun H0 B0 B σ H M s hM Q q =>
  hi H0 B0 B σ H M s (by omega) _ fun J ds H1 k1 r1 hJ pi => by
    intro D nD
    have s1 := s.keep k1 r1
    have nDH : H D = none := k1.backB (fun z => s1.al D (s.fb D z) nD) nD
    have D0 : H0 D = none := s.k0.backB (fun z => s.al D (s.fb D z) nDH) nDH
    have DF : D ∉ W.F := fun z => s1.al D (s.fb D z) nD
    have hlen := hn ds pi
    have noOw : ∀ j, ¬ Ow (L2.wipe σ vs) (wipeE Γ vs) j D := fun j z => s1.fresh nD j (ow_wipe z)
    refine ⟨fun i m H2 => m = ds.length - i ∧ i ≤ ds.length ∧ ∃ acc xs, Sg W H0 B0 (D :: B) (L2.wipe σ vs) (wipeE Γ vs) H2 (M - c0 - i * cb) ∧ Mv B H1 (D :: B) H2 ∧ Kp W.F H1 H2 ∧ H2 D = some (.dK xs) ∧ Datk K (D :: B) H2 xs acc ∧ R ds i acc ∧ acc.length ≤ i, ⟨_, rfl, Nat.zero_le _, [], [], ?_, ?_, Kp.new nD, upd_same, Datk.nil, h0 ds pi, Nat.le_refl _⟩, ?_⟩
    · rw [Nat.zero_mul]
      exact (s1.wipe vs).bar nD (Kp.new nD) (Wd.new nD r1) (by rw [upd_same]; exact Option.some_ne_none _)
    · exact ⟨put_bar nD, Kp.new nD⟩
    · rintro i m H2 ⟨rfl, hi2, acc, xs, s2, m2, k2, hD, hacc, hR, hal⟩
      have hsrc := hJ (D :: B) H2 m2 s2.al
      by_cases hlt : i < ds.length
      · refine Or.inr ⟨(hsrc.1 i hlt).1, fun H3 => ∃ acc xs, Sg W H0 B0 (D :: B) (L2.wipe σ vs) (wipeE Γ vs) H3 (M - c0 - (i + 1) * cb) ∧ Mv B H1 (D :: B) H3 ∧ Kp W.F H1 H3 ∧ H3 D = some (.dK xs) ∧ Datk K (D :: B) H3 xs acc ∧ R ds (i + 1) acc ∧ acc.length ≤ i + 1, fun H3 h3 => ⟨ds.length - (i + 1), by omega, rfl, hlt, h3⟩, fun x H3 hy => ?_⟩
        obtain ⟨k3, d, ed, hd3⟩ := (hsrc.1 i hlt).2 x H3 hy
        have st := mul_step (cb := cb) (Nat.lt_of_lt_of_le hlt hlen)
        have st2 : (i + 1) * cb = i * cb + cb := by rw [Nat.add_mul, Nat.one_mul]
        have r3 : W.Dr (M - c0 - i * cb) H3 := W.pres (fun b hb => by
          cases e : H2 b with
          | none => exact absurd e (W.alive s2.dr b hb)
          | some o => rw [k3 b o (fun z => nomatch z) e]) s2.dr
        have s3 := s2.keep (k3.all) r3
        obtain ⟨Γ', Pt, Pk, ct, ck, ce, hg, hce, hT, hK, hE, hN⟩ := hs ds i d acc pi ed hR
        refine hg H0 B0 (D :: B) _ H3 _ x s3 hd3 _ fun σ' s4 hw => ⟨by
          rw [hw]
          exact wipe_wipe σ vs, ?_⟩
        refine hT H0 B0 (D :: B) σ' H3 _ s4 (by omega) _ fun b H4 k4 r4 pt => ?_
        have hD4 : H4 D = some (.dK xs) := k4 D _ DF (k3 D _ (fun z => nomatch z) hD)
        have m4 : Mv B H1 (D :: B) H4 := m2.trans (Mv.of ((Kp.all k3).trans (s3.toBk.kp k4)))
        have hacc4 : Datk K (D :: B) H4 xs acc := Datk.mono ((Kp.all k3).trans (s3.toBk.kp k4)) acc xs hacc
        have hw4 : ∀ (H5 : Hp) (M5 : Nat), Kp W.F H4 H5 → W.Dr M5 H5 → Sg W H0 B0 (D :: B) (L2.wipe σ vs) (wipeE Γ vs) H5 M5 := fun H5 M5 k5 r5 => (s3.keep k4 r4).keep k5 r5
        cases b with
        | false =>
          show ∃ acc xs, _
          exact ⟨acc, xs, (hw4 H4 _ Kp.refl (W.less r4 (by omega))), m4, (k2.trans k3.all).trans k4, hD4, hacc4, hN pt, by omega⟩
        | true =>
          show tk σ' H4 _
          refine hK pt H0 B0 (D :: B) σ' H4 _ (s4.keep k4 r4) (by omega) _ fun y dy H5 k5 r5 hy5 ⟨kk, ek, pk⟩ => ?_
          subst ek
          refine hE kk pk H0 B0 (D :: B) σ' H5 _ ((s4.keep k4 r4).keep k5 r5) (by omega) _ fun z e H6 k6 r6 hz6 hR6 => ?_
          have hD6 : H6 D = some (.dK xs) := k6 D _ DF (k5 D _ DF hD4)
          have kB : Kp (D :: B) H4 H6 := (s3.keep k4 r4).toBk.kp (k5.trans k6)
          refine ⟨xs, kk, keyD_dat hy5, hD6, by rw [hacc.length]; exact Nat.lt_of_lt_of_le (show acc.length < 100000 by omega) (by decide), putD acc kk e, L2.putK xs kk z, ?_, m4.trans (Mv.of (kB.trans (Kp.mut List.mem_cons_self))), (((k2.trans k3.all).trans k4).trans (k5.trans k6)).late nD, upd_same, ?_, hR6, by have := length_putD acc kk e; omega⟩
          · exact (hw4 H6 _ (k5.trans k6) (W.less r6 (by omega))).upd0 List.mem_cons_self DF D0 noOw
          · exact Datk.mono (Kp.mut List.mem_cons_self) _ _ (Datk.putK hz6 (Datk.mono kB acc xs hacc4))
      · have e : i = ds.length := by omega
        subst e
        have := mul_mono (cb := cb) hlen
        exact Or.inl ⟨hsrc.2, q D xs acc H2 nDH (k1.trans k2) (W.less s2.dr (by omega)) hD hacc ⟨ds, pi, hR⟩⟩
/-! ### enumerate -/
/-- (0, d0), (1, d1), .. -/
def enumD (ds : List Da) : List Da := ds.mapIdx fun i d => .tup [.int i, d]
theorem src_enum {B : List Addr} {H : Hp} {a : Addr} {ds : List Da} (h : Dat K B H (.ref a) (.lst ds)) : Src K B (Ite K a) (enumD ds) H := fun B' H' m al => by
  have h3 := Dat.mv m _ _ h
  unfold Dat at h3
  obtain ⟨a', xs', e, s, hd2⟩ := h3
  cases e
  have el : (enumD ds).length = ds.length := by simp [enumD]
  rw [el]
  refine ⟨fun i hi => ?_, xs', s.sq, by rw [hd2.length]; exact Nat.le_refl _⟩
  have hx : i < xs'.length := by rw [hd2.length]; exact hi
  refine ⟨⟨xs', xs'[i], s.sq, List.getElem?_eq_getElem hx⟩, fun x H2 ⟨T, y, e1, nT, e2, y2⟩ => ?_⟩
  subst e1 e2
  obtain ⟨d, e3, hd3⟩ := hd2.get (y2 xs' s.sq)
  refine ⟨Kp.new nT, .tup [.int i, d], by simp [enumD, e3], ?_⟩
  unfold Dat
  exact ⟨T, _, rfl, .of (fun z => al T z nT) upd_same, .cons (by unfold Dat; rfl) (.cons (Dat.mono (Kp.new nT) _ _ hd3) .nil)⟩
theorem ei_enum {P : List Da → Prop} {ta : TA} (h : EvA W ta Γ c (fun ds => ∃ es, ds = [.lst es] ∧ P (enumD es))) : Ei W (iEnum K ta) Γ c P := fun H0 B0 B σ H M s hM R q =>
  h H0 B0 B σ H M s hM _ fun vs ds H1 k r hd ⟨es, e, p⟩ => by
    subst e
    unfold Dats at hd
    obtain ⟨v, t, rfl, hv, ht⟩ := hd
    unfold Dats at ht
    subst ht
    have hv0 := hv
    unfold Dat at hv
    obtain ⟨a, xs, rfl, hs, _⟩ := hv
    exact ⟨a, xs, rfl, hs.sq, q _ _ H1 k r (src_enum hv0) p⟩
end
/-! ### == of two objects of one class -/
def rEqO (C : Addr) (sp : Sp) (E : XK) : R2 := fun x y H Q => ∃ (a b dx dy : Addr) (fs gs : List (Str × V)), x = .ref a ∧ y = .ref b ∧ H a = some (.ins C dx fs) ∧ H b = some (.ins C dy gs) ∧ sp [.ref a, .ref b] H (fun v H' => ∃ k, v = .bl k ∧ Q (.bl k) H') E
theorem op_eqO {X : Cx} {CX : CXT} {C f : Addr} {fd : FuncData} {ps : List Str} {n : Nat} {sp : Sp} {E : XK} (F : FnOk X.prog X.w X.K X.mg X.base CX n f fd ps sp) (hs : PySem.W.findIn X.K (.ref C) "__eq__" = some (some (.ref f))) (hf : PySem.W.isFn X.K (.ref f) = true) (hb : Binds X.K fd ps []) (hx : Passes CX X E) (hr : Room n X.A) :
    OpR X (compareOp .Eq) (rEqO C sp E) := by
  intro pins s σ H x y v u Q I rx ry hq
  obtain ⟨a, b, dx, dy, fs, gs, rfl, rfl, ha, hb', hsp⟩ := hq
  show wpAny (model X.prog X.w) X.A (richCompare .Eq v u) (EP X pins σ Q) X.xe s
  cases rx
  cases ry
  obtain ⟨mA, J, _⟩ := ins_get I.hok ha
  obtain ⟨mB, J', _⟩ := ins_get I.hok hb'
  obtain ⟨od, J, _⟩ := J.look
  obtain ⟨od', J', _⟩ := J'.look
  obtain ⟨m, hF⟩ := I.fr
  refine PySem.W.cmp_K (op := .Eq) (tb := .ref C) hr.units0 hF I.ok.mod.kin J J'.type (by simp [PySem.W.notFirst]) hs hf ?_
  have hl := F.len _ _ _ _ hsp
  have r2 : Vals [V.ref a, V.ref b] [Value.ref a, Value.ref b] := .cons rfl (.cons rfl .nil)
  refine wpAny_call (codeAny_mono (F.run X.A X.stack s H ⟨[.ref a, .ref b], []⟩ [.ref a, .ref b] [.ref a, .ref b] _ E hr I.env0 (by
    have := hb s [.ref a, .ref b] I.kIn (by simpa using hl)
    simpa using this) r2 hsp) fun r s' hq => ?_)
  cases r with
  | error e => exact hx pins σ H s e s' I hq
  | ok fl =>
    cases fl with
    | ret w =>
      obtain ⟨z, H', I', rz, k, ez, ex⟩ := I.after hq
      subst ez
      cases rz
      exact ⟨.bl k, H', I', rfl, ex⟩
    | next => exact False.elim hq
    | brk => exact False.elim hq
    | cont => exact False.elim hq
theorem rv_eqO {K : PySem.W.Frag} {W : Wd K} {C : Addr} {sp : Sp} {E : XK} {fs gs : List (Str × Da)} {P : Da → Prop} (h : Fn W sp [.ins C fs, .ins C gs] 0 (fun d => ∃ k, d = .bl k ∧ P (.bl k))) : Rv W (rEqO C sp E) (.ins C fs) (.ins C gs) P := fun B H M v1 v2 s h1 h2 Q q => by
  have g1 := h1
  have g2 := h2
  unfold Dat at h1 h2
  obtain ⟨a, dx, xs, rfl, ⟨_, ha⟩, _⟩ := h1
  obtain ⟨b, dy, ys, rfl, ⟨_, hb⟩, _⟩ := h2
  refine ⟨a, b, dx, dy, xs, ys, rfl, rfl, ha, hb, ?_⟩
  refine h B H M _ s (Nat.zero_le _) (.cons g1 (.cons g2 .nil)) _ E fun v d H' k r hd ⟨kk, e, p⟩ => ?_
  subst e
  have hd0 := hd
  unfold Dat at hd
  exact ⟨kk, hd, q _ (.bl kk) H' k r (dBl.mpr rfl) p⟩
end WJ
set_option Elab.async false
set_option linter.all false
set_option maxRecDepth 100000
set_option maxHeartbeats 2000000
/-! WjV: an exception that is caught, kept at a name and looked at behind its clause -/
namespace WJ
open PySem L2 PySem.Spec PyProof.Rows
section
variable {X : Cx} {pins : List (Addr × Obj)} {σ : L2.St} {H : Hp} {s : Shared} {a : Addr} {o : HO}
/-- an object that lies there untold is told from now on -/
theorem track (I : Inv X pins σ H s) (z0 : X.s_0.heap.get? a = none) (hn : H a = none) (hL : a ≠ X.env.locals) (hC : ∀ x c, X.env.cells.lookup x = some c → c ≠ a) (hP : ∀ p ∈ X.pn ++ pins, p.1 ≠ a) (new : ObjOk X.prog X.w (upd H a o) s.heap a o) : Inv X pins σ (upd H a o) s := by
  have off : ∀ {b : Addr} {u : HO}, H b = some u → upd H a o b = some u := fun e => by rw [upd_ne (ne_of_none e hn)]; exact e
  refine ⟨I.ok, I.os, I.bare, ⟨I.base.keep, I.base.slot, fun b u e n x => ?_, I.base.there, fun b xs e => off (I.base.tups b xs e), fun b u x e => off (I.base.frzs b u x e), fun b ps e => ?_⟩, I.loc, I.cell, ?_, fun x c e => ?_, fun p hp => ?_, fun b u e => ?_, I.len⟩
  · have hb : b ≠ a := fun z => by
      rw [z, z0] at e
      cases e
    rw [upd_ne hb]
    exact I.base.free b u e n x
  · obtain ⟨m, q⟩ := I.base.tbls b ps e
    exact ⟨m, off q⟩
  · rw [upd_ne (fun z => hL z.symm)]
    exact I.free
  · rw [upd_ne (hC x c e)]
    exact I.freeC x c e
  · obtain ⟨p1, p2, p3⟩ := I.pin p hp
    exact ⟨p1, by rw [upd_ne (hP p hp)]; exact p2, p3⟩
  · by_cases hb : b = a
    · subst hb
      rw [upd_same] at e
      cases e
      exact new
    · rw [upd_ne hb] at e
      exact (I.hok b u e).stay (fun _ _ _ q => q) (fun _ q => off q) fun _ _ q => off q
end
theorem eo_ok {P : Program} {w : World} {H : Hp} {h : Heap} {a : Addr} {cls : Value} {d : Option Addr} {oe : Obj} (e : h.get? a = some oe) (z : Zc cls d oe) (f : ∃ vs, oe.data = .fields vs) : ObjOk P w H h a (EO cls d a) :=
  ⟨⟨oe, e, z, f⟩, ⟨oe, e⟩, fun _ _ ⟨q, q1, q2⟩ k => ⟨q, k q q1, q2⟩⟩
/-- 'except x as n': behind the clause the exception is told -/
def wKeep (K : PySem.W.Frag) (c : Value) (i : Nat) (ts : Addr → Value → Option Addr → TS) (Wout : WX) (D : Ends) : WX := fun cls d σ H => ∃ b, PySem.W.exmOne K cls c = some b ∧ (b = false → Wout cls d σ H) ∧
  (b = true → ∀ a, H a = none → ts a cls d ⟨fun σ' H' => D.nx (σ'.set i none) (upd H' a (EO cls d a)), fun v H' => D.rt v (upd H' a (EO cls d a)), fun σ' H' => D.bk (σ'.set i none) (upd H' a (EO cls d a)), fun σ' H' => D.ct (σ'.set i none) (upd H' a (EO cls d a))⟩ (σ.set i (some (.ref a))) H)
section
variable {X : Cx} {x n : Str} {c : Value} {i : Nat} {bd su : List Stmt} {s1 : Stmt} {np pos pos' : Pos} {tb : WX → TS} {ts : Addr → Value → Option Addr → TS} {Wout : WX}
theorem ps_try_keep (hst : X.stack = X.env :: X.outer) (hfr : X.env.frame = some X.env.locals) (hex : X.ex = []) (nd : X.N.Nodup) (at_ : X.N[i]? = some n) (lo : X.env.kindOf n = some .local) (nm : Names X x c) (out : Takes X Wout)
    (hbd : ∀ (Y : WX) (pn : List (Addr × Obj)) (xe : Value → Shared → Prop), Takes (X.tr pn xe) Y → PassesOwn (model X.prog X.w) X.A X.env xe → PSs (X.tr pn xe) bd (tb Y))
    (hsu : ∀ (a : Addr) (oe : Obj) (cls : Value) (d : Option Addr) (pn : List (Addr × Obj)), Zc cls d oe → (∃ vs, oe.data = .fields vs) → PSs (X.suite a ((a, oe) :: pn)) (s1 :: su) (ts a cls d)) :
    PS X (.Try bd [.ExceptHandler (some (.Name x np)) (some n) (s1 :: su) pos'] [] [] pos) (fun D σ H => tb (wKeep X.K c i ts Wout D) D σ H) := by
  refine ⟨fun pins s σ H D I h => ?_⟩
  have ok := I.ok
  have frm : X.A.frames = some (X.env :: X.outer) := ok.frames.trans (congrArg some hst)
  refine wpAny_Try_except (wpAny_mono ((hbd (wKeep X.K c i ts Wout D) (X.pn ++ pins) (fun e t1 => wpAny (model X.prog X.w) X.A (noteFrame e X.env) (fun _ t2 => wpAny (model X.prog X.w) X.A (setFlight e none)
    (fun _ t3 => wpAny (model X.prog X.w) X.A (handleBy e X.env [.ExceptHandler (some (.Name x np)) (some n) (s1 :: su) pos']) (SP X pins D) X.xe t3) X.xe t2) X.xe t1) (fun u t' caught => ?_) PassesOwn.looking).run [] s σ H D (I.toTry _) h) (fun f t1 fine => ?_) (fun e t1 q => q))
  · obtain ⟨a, G, tI, pins', σ', H', cls, d, rfl, J0, ground, upS, sky, na, hos, bare, b, hb1, hno, hyes⟩ := caught
    have J : Inv X pins σ' H' tI := J0.ofTry ok
    have sky' : Sky G (X.env :: X.outer) a (Zc cls d) X.env.locals t'.heap := hst ▸ sky
    have Ga : G.get? a = none := by
      rcases sky' with q | q | q
      · exact q.2.1
      · exact q.2.1
      · exact q.2.1
    show wpAny (model X.prog X.w) X.A (noteFrame (.ref a) X.env) _ _ _
    refine Sky.land Zc.steady frm hfr sky' fun g3 fly3 lift3 => ?_
    have J3 : Inv X pins σ' H' { t' with heap := g3 } := J.landed ground fly3.1 (upS.trans lift3) hos bare
    obtain ⟨e3, w3, at3, z3, f3⟩ := fly3.there
    have away : a ∉ frs (X.env :: X.outer) := fun hm => by
      obtain ⟨_, e', q', nf⟩ := fly3.2.2.1.mem hm
      rw [at3] at q'
      cases q'
      exact nf _ f3
    have aL : a ≠ X.env.locals := fun z => away (List.mem_filterMap.mpr ⟨X.env, List.mem_cons_self, by rw [hfr, z]⟩)
    have aF : a ∉ X.fs := fun hm => by
      obtain ⟨e, he, q⟩ := List.mem_filterMap.mp hm
      exact away (List.mem_filterMap.mpr ⟨e, List.mem_cons_of_mem _ he, q⟩)
    have aNew : tI.heap.get? a = none := by
      cases q : tI.heap.get? a with
      | none => rfl
      | some oo =>
        rw [ground a oo q (by rw [hst]; exact away)] at Ga
        cases Ga
    have a0 : X.s_0.heap.get? a = none := by
      cases q : X.s_0.heap.get? a with
      | none => rfl
      | some oo =>
        obtain ⟨q2, q3⟩ := J.base.there a oo q (by rw [hex]; exact List.not_mem_nil)
        rw [aNew] at q3
        cases q3
    have aP : ∀ p ∈ X.pn ++ pins, p.1 ≠ a := fun p hp z => by
      have q := (J.pin p hp).1
      rw [z, aNew] at q
      cases q
    have aC : ∀ y cc, X.env.cells.lookup y = some cc → cc ≠ a := fun y cc q z => by
      obtain ⟨v, q2⟩ := J.cell y cc q
      obtain ⟨oo, q3, _⟩ := q2
      rw [z, aNew] at q3
      cases q3
    have P3 := J3.suite at3 f3 na aL aF
    refine wpAny_handleBy_cons (codeAny_handlers_test ?_) (fun q => nomatch q)
    have ty : PySem.W.Looks (model X.prog X.w) g3 (typeOf (.ref a)) cls := fun A Q E r k q => wpAny_typeOf_ref (k _ _ at3) (z3.1.symm ▸ q)
    have look := PySem.W.exm_one (M := model X.prog X.w) J3.kIn ty hb1
    have name_ : ∀ {Q E : Value → Shared → Prop}, Q c { t' with heap := g3 } → wpAny (model X.prog X.w) (X.A.mark (some (.ref a))) (eval (.Name x np) X.env) Q E { t' with heap := g3 } := fun {Q E} q => by
      obtain ⟨gl, db, mm | ⟨mm, bv, nn⟩⟩ := nm
      · exact ld_glob (X := X.suite a ((a, e3) :: (X.pn ++ pins))) P3 gl mm q db
      · exact ld_blt (X := X.suite a ((a, e3) :: (X.pn ++ pins))) P3 gl mm bv q nn db
    refine name_ (look.here ?_)
    cases b with
    | true =>
      refine codeAny_handlers_suite_as (HandSPX.lands_againZ fly3 fun g4 fly4 lift4 => ?_)
      have J4 : Inv X pins σ' H' { t' with heap := g4 } := J.landed ground fly4.1 ((upS.trans lift3).trans lift4) hos bare
      obtain ⟨e4, w4, at4, z4, f4⟩ := fly4.there
      refine store_ok (X := X.suite a ((a, e4) :: (X.pn ++ pins))) (v := .ref a) (J4.suite at4 f4 na aL aF) nd at_ (.inl lo) rfl (fun t5 P5 => ?_) (.inr lo)
      refine wpAny_mono ((hsu a e4 cls d (X.pn ++ pins) z4 ⟨_, f4⟩).run [] t5 _ H' _ P5 (hyes rfl a na)) (fun f t6 got => ?_) (fun _ _ z => z.elim)
      have close : ∀ {τ : L2.St} {H6 : Hp} {Q : Shared → Prop}, Inv (X.suite a ((a, e4) :: (X.pn ++ pins))) [] τ H6 t6 → (∀ t7, Inv X pins (τ.set i none) (upd H6 a (EO cls d a)) t7 → Q t7) →
          wpAny (model X.prog X.w) X.A (do bindName X.env n .none; unbindBehindTheSuite X.env n pos') (fun _ t7 => Q t7) X.xe t6 := fun {τ H6 Q} P6 q => by
        obtain ⟨p1, p2, _⟩ := P6.pin (a, e4) (List.mem_append_left _ List.mem_cons_self)
        exact gone_ok (track (P6.unsuite ok) a0 p2 aL aC aP (eo_ok p1 z4 ⟨_, f4⟩)) nd at_ lo q
      cases f with
      | next =>
        obtain ⟨τ, H6, P6, q6⟩ := got
        exact close P6 fun t7 J7 => ⟨_, _, J7, q6⟩
      | brk =>
        obtain ⟨τ, H6, P6, q6⟩ := got
        exact close P6 fun t7 J7 => ⟨_, _, J7, q6⟩
      | cont =>
        obtain ⟨τ, H6, P6, q6⟩ := got
        exact close P6 fun t7 J7 => ⟨_, _, J7, q6⟩
      | ret u =>
        obtain ⟨v6, τ, H6, P6, r6, q6⟩ := got
        exact close P6 fun t7 J7 => ⟨_, _, _, J7, r6, q6⟩
    | false =>
      show wpAny _ X.A (handleBy (.ref a) X.env []) _ _ _
      refine wpAny_handleBy_nil ?_
      obtain ⟨l1, l2, l3, oe, vs, T, oT, tr, he, hz, hd, h1, hr⟩ := id fly3
      unfold PySem.passOn
      refine wpAny_bind (wpAny_field he hd h1 ?_)
      rw [if_neg (show ¬ ((Value.ref T == Value.none) = true) from by simp)]
      have go : wpAny (model X.prog X.w) X.A (setFlight (.ref a) X.env.frame) (fun _ t4 => wpAny (model X.prog X.w) X.A (throw (.ref a) : Sem Flow) (SP X pins D) X.xe t4) X.xe { t' with heap := g3 } := by
        rw [hfr]
        refine HandSPX.setFlight_upZ fly3 fun g4 fly4 lift4 => wpAny_throw (out _ _ ?_)
        exact ⟨a, G, tI, pins, σ', H', cls, d, rfl, J, ground, (upS.trans lift3).trans lift4, .inr (.inr (hst.symm ▸ fly4)), na, hos, bare, hno rfl⟩
      first
        | exact wpAny_bind (wpAny_pure (wpAny_bind go))
        | exact wpAny_bind go
  · cases f with
    | next =>
      obtain ⟨σ', H', J', q⟩ := fine
      exact wpAny_execs_nil ⟨σ', H', J'.ofTry ok, q⟩
    | brk =>
      obtain ⟨σ', H', J', q⟩ := fine
      exact ⟨σ', H', J'.ofTry ok, q⟩
    | cont =>
      obtain ⟨σ', H', J', q⟩ := fine
      exact ⟨σ', H', J'.ofTry ok, q⟩
    | ret u =>
      obtain ⟨v, σ', H', J', r, q⟩ := fine
      exact ⟨v, σ', H', J'.ofTry ok, r, q⟩
end
/-- isinstance(e, c), e a told exception without fields -/
def rIsX (K : PySem.W.Frag) : List V → Hp → VK → Prop := fun xs H Q => ∃ (a D : Addr) (c : V) (u : Value) (b : Bool), xs = [.ref a, c] ∧ ClsV c u ∧ H a = some (EO (.ref D) none a) ∧ ExcC K D ∧ PySem.W.kitOne K (.ref D) u = some b ∧ Q (.bl b) H
theorem call_isX {X : Cx} : CallR X (.builtin "isinstance") (rIsX X.K) := by
  intro pins s σ H xs us Q I r h
  obtain ⟨a, D, c, u, b, rfl, hc, ha, C, e, q⟩ := h
  obtain ⟨v1, v2, rfl, r1, r2⟩ := vals2 r
  cases r1
  have ec := hc.eq r2
  subst ec
  obtain ⟨oe, hget, hz, vs, hv⟩ := (show ObjOk X.prog X.w H s.heap a (EO (.ref D) none a) from I.hok a _ ha).1
  have J : PySem.W.InstAt s.heap a oe D none := by
    obtain ⟨oc, od, oda, osl⟩ := oe
    obtain ⟨h1, h2⟩ := hz
    dsimp only at h1 h2 hv
    subst h1 h2 hv
    exact ⟨hget, rfl, rfl, trivial⟩
  exact PySem.W.kia_one (PySem.W.handS_kitx_exc C.hg C.hk C.hs C.hd C.ha C.hn C.ht C.hm) I.kIn J e (fun z => nomatch z) fun tk => ⟨.bl b, H, I.kept (t' := tk) fun _ _ z => z, rfl, q⟩
def rIsiX (K : PySem.W.Frag) : List V → Hp → VK → Prop := fun xs H Q => rIsiA K xs H Q ∨ rIsX K xs H Q
theorem o_isiX {X : Cx} (K : PySem.W.Frag) (hK : X.K = K := by rfl) : CallR X (.builtin "isinstance") (rIsiX K) := orC (o_isi K hK) (hK ▸ call_isX)
section
variable {K : PySem.W.Frag} {W : Wd K} {P : Da → Prop}
theorem rc_isiX {ds : List Da} (h : Rc W (rIsiA K) ds P) : Rc W (rIsiX K) ds P := fun B H M vs s hd Q q => Or.inl (h B H M vs s hd Q q)
end
end WJ
set_option Elab.async false
set_option linter.all false
set_option maxRecDepth 100000
set_option maxHeartbeats 2000000
/-! WjX: what stands in the module (classes, properties, defs that raise), calls by keyword, defs that raise over data -/
namespace WJ
open PySem L2
section
variable {X : Cx}
theorem p_enum (K : PySem.W.Frag) {e : Expr} {ta : TA} {p pos tpos : Pos} {elts : List Expr} {kk : Nat} (hg : Gl X "enumerate") (hm : X.mg "enumerate" = none) (ha : PA X [e] ta) (hs : starEach [e] X.env = [(false, eval e X.env)] := by rfl) (hK : X.K = K := by rfl) :
    PI X (.Tuple elts kk tpos) (.Call (.Name "enumerate" p) [e] [] pos) (iEnum K ta) := hK ▸ pi_enum hg hm ha hs
/-- a class of the module: its __init__ keeps sp -/
structure Mkd (P : Program) (w : World) (K : PySem.W.Frag) (mg : Str → Option Value) (base : Heap) (k : Nat) (x : Str) (C : Addr) (ps : List Str) (sp : Sp) : Prop where
  ex : ∃ (f : Addr) (fd : FuncData), Mk K C f ∧ FnOk P w K mg base CX0 k f fd ps sp ∧ mg x = some (.ref C) ∧ Binds K fd ps []
theorem pe_mk {k j : Nat} {x : Str} {C : Addr} {ps : List Str} {sp : Sp} {e : Expr} {es : List Expr} {t : TA} {p pos : Pos} (h : Mkd X.prog X.w X.K X.mg X.base j x C ps sp) (hr : Room k X.A) (hj : j + 1 ≤ k) (hg : Gl X x) (ha : PA X (e :: es) t)
    (hdb : (x == ("__debug__" : Str)) = false := by decide) (he : starEach (e :: es) X.env = (false, eval e X.env) :: starEach es X.env := by rfl) (hpl : (backTo pos (starEach es X.env)).any (·.1) = false := by rfl) :
    PE X (.Call (.Name x p) (e :: es) [] pos) (tMake C sp [] E0 t) := by
  obtain ⟨f, fd, M, F, hm, hb⟩ := h.ex
  exact pe_make M F (hr.mono hj) hg hm hb .nil pass0 ha hdb he hpl
/-- a property of the class at C -/
structure Prp (P : Program) (w : World) (K : PySem.W.Frag) (mg : Str → Option Value) (base : Heap) (k : Nat) (C : Addr) (f : Str) (ps : List Str) (sp : Sp) : Prop where
  cl : Cls K C
  ex : ∃ (p g : Addr) (fd : FuncData), PropOf K C f p g ∧ FnOk P w K mg base CX0 k g fd ps sp ∧ Binds K fd ps []
theorem pe_prp {k j : Nat} {C : Addr} {f : Str} {ps : List Str} {sp : Sp} {e : Expr} {ta : TE} {pos : Pos} (h : Prp X.prog X.w X.K X.mg X.base j C f ps sp) (hr : Room k X.A) (hj : j + 1 ≤ k) (he : PE X e ta)
    (hab : attributeBase e f X.env (eval e X.env) = eval e X.env := by rfl) : PE X (.Attribute e f pos) (tProp C sp [] E0 ta) := by
  obtain ⟨p, g, fd, hp, F, hb⟩ := h.ex
  exact pe_prop he h.cl hp F (hr.mono hj) hb .nil pass0 hab
/-- the own == of the class at C -/
structure Eqo (P : Program) (w : World) (K : PySem.W.Frag) (mg : Str → Option Value) (base : Heap) (k : Nat) (C : Addr) (ps : List Str) (sp : Sp) : Prop where
  ex : ∃ (f : Addr) (fd : FuncData), PySem.W.findIn K (.ref C) "__eq__" = some (some (.ref f)) ∧ PySem.W.isFn K (.ref f) = true ∧ FnOk P w K mg base CX0 k f fd ps sp ∧ Binds K fd ps []
theorem o_eqO {k j : Nat} {C : Addr} {ps : List Str} {sp : Sp} (h : Eqo X.prog X.w X.K X.mg X.base j C ps sp) (hr : Room k X.A) (hj : j ≤ k) : OpR X (compareOp .Eq) (rEqO C sp E0) := by
  obtain ⟨f, fd, hs, hf, F, hb⟩ := h.ex
  exact op_eqO F hs hf hb pass0 (hr.mono hj)
/-- a def that may raise -/
structure FndX (P : Program) (w : World) (K : PySem.W.Frag) (mg : Str → Option Value) (base : Heap) (k : Nat) (x : Str) (ps : List Str) (sp : Sp) : Prop where
  ex : ∃ (f : Addr) (fd : FuncData), FnOk P w K mg base (L2.CX P w) k f fd ps sp ∧ mg x = some (.ref f) ∧ PySem.W.keepIn K (.ref f) = true ∧ Binds K fd ps []
theorem pe_funX {k j : Nat} {x : Str} {ps : List Str} {sp : Sp} {e : Expr} {es : List Expr} {t : TA} {p pos : Pos} (h : FndX X.prog X.w X.K X.mg X.base j x ps sp) (hr : Room k X.A) (hj : j ≤ k) (hg : Gl X x) (ha : PA X (e :: es) t)
    (hdb : (x == ("__debug__" : Str)) = false := by decide) (he : starEach (e :: es) X.env = (false, eval e X.env) :: starEach es X.env := by rfl) (hpl : (backTo pos (starEach es X.env)).any (·.1) = false := by rfl) :
    PE X (.Call (.Name x p) (e :: es) [] pos) (tCall sp [] E0 t) := by
  obtain ⟨f, fd, F, hm, hk, hb⟩ := h.ex
  exact pe_call F (hr.mono hj) hg hm hk hb .nil passL ha hdb he hpl
/-- where what it raises is let out -/
theorem pe_funS {k j : Nat} {x : Str} {ps : List Str} {sp : Sp} {e : Expr} {es : List Expr} {t : TA} {p pos : Pos} {Y : WX} (h : FndX X.prog X.w X.K X.mg X.base j x ps sp) (hr : Room k X.A) (hj : j ≤ k) (hg : Gl X x) (tk : Takes X Y) (ha : PA X (e :: es) t)
    (hdb : (x == ("__debug__" : Str)) = false := by decide) (he : starEach (e :: es) X.env = (false, eval e X.env) :: starEach es X.env := by rfl) (hpl : (backTo pos (starEach es X.env)).any (·.1) = false := by rfl) :
    PE X (.Call (.Name x p) (e :: es) [] pos) (tCallS sp (WE Y) t) := by
  obtain ⟨f, fd, F, hm, hk, hb⟩ := h.ex
  exact pe_callS F (hr.mono hj) hg hm hk hb (fun σ => passAt tk σ) ha hdb he hpl
/-- f(k = e), f of the one parameter k -/
theorem pe_kw1 {CX : CXT} {k : Nat} {f : Addr} {fd : FuncData} {x q : Str} {sp : Sp} {e : Expr} {te : TE} {p pos kpos : Pos} (F : FnOk X.prog X.w X.K X.mg X.base CX k f fd [q] sp) (hr : Room k X.A) (hg : Gl X x) (hm : X.mg x = some (.ref f)) (hk : PySem.W.keepIn X.K (.ref f) = true)
    (h0 : Binds X.K fd [q] []) (hb : ∀ (s : Shared) (u : Value), X.K.In s.heap → BindsTo s fd ⟨[], [(q, u)]⟩ [(q, u)]) (hx : Passes CX X E0) (he : PE X e te) (hdb : (x == ("__debug__" : Str)) = false := by decide) :
    PE X (.Call (.Name x p) [] [⟨some q, e, kpos⟩] pos) (tCall sp [] E0 (tCons te tNil)) := by
  refine ⟨fun pins s σ H Q I h => ?_⟩
  refine wpAny_Call_Name_kw (ld_glob I hg hm ?_ hdb)
  have hkw : PK X [⟨some q, e, kpos⟩] (tCons te tNil) := pk_cons he pk_nil
  refine PySem.W.callWith_KW0 (h₀ := X.base) I.ok.mod.kin hk (by rfl) ?_ (by rfl)
  refine thn (hkw.run pos pins s σ H _ I h) fun ws s2 ⟨zs, H2, I2, rz, q2⟩ => ⟨I2.kIn, ?_⟩
  have q2' : sp (zs ++ []) H2 Q E0 := q2
  rw [List.append_nil] at q2'
  have hl := F.len _ _ _ _ q2'
  have hb2 : KBinds X.K fd [q] [q] (fun us ws => us ++ ws) (fun vs zs => vs ++ zs) := ⟨fun s us ws KI hw => by
    match us, ws, hw with
    | [], [u], _ => exact hb s u KI
    | [u], [], _ =>
      have z := h0 s [u] KI (by simp)
      simpa using z, fun r1 r2 => Vals.append r1 r2⟩
  exact run_fnk (us := []) (vs := []) (ks := [q]) F hr hb2 hx I2 .nil rz q2'
/-- .. by the module's names -/
structure Kw1 (P : Program) (w : World) (K : PySem.W.Frag) (mg : Str → Option Value) (base : Heap) (CX : CXT) (k : Nat) (x q : Str) (sp : Sp) : Prop where
  ex : ∃ (f : Addr) (fd : FuncData), FnOk P w K mg base CX k f fd [q] sp ∧ mg x = some (.ref f) ∧ PySem.W.keepIn K (.ref f) = true ∧ Binds K fd [q] [] ∧ ∀ (s : Shared) (u : Value), K.In s.heap → BindsTo s fd ⟨[], [(q, u)]⟩ [(q, u)]
theorem pe_funK {k j : Nat} {x q : Str} {sp : Sp} {e : Expr} {te : TE} {p pos kpos : Pos} (h : Kw1 X.prog X.w X.K X.mg X.base CX0 j x q sp) (hr : Room k X.A) (hj : j ≤ k) (hg : Gl X x) (he : PE X e te) (hdb : (x == ("__debug__" : Str)) = false := by decide) :
    PE X (.Call (.Name x p) [] [⟨some q, e, kpos⟩] pos) (tCall sp [] E0 (tCons te tNil)) := by
  obtain ⟨f, fd, F, hm, hk, h0, hb⟩ := h.ex
  exact pe_kw1 F (hr.mono hj) hg hm hk h0 hb pass0 he hdb
theorem pe_funKX {k j : Nat} {x q : Str} {sp : Sp} {e : Expr} {te : TE} {p pos kpos : Pos} (h : Kw1 X.prog X.w X.K X.mg X.base (L2.CX X.prog X.w) j x q sp) (hr : Room k X.A) (hj : j ≤ k) (hg : Gl X x) (he : PE X e te) (hdb : (x == ("__debug__" : Str)) = false := by decide) :
    PE X (.Call (.Name x p) [] [⟨some q, e, kpos⟩] pos) (tCall sp [] E0 (tCons te tNil)) := by
  obtain ⟨f, fd, F, hm, hk, h0, hb⟩ := h.ex
  exact pe_kw1 F (hr.mono hj) hg hm hk h0 hb passL he hdb
end
/-! ### defs that may raise, over data -/
/-- a promise, and which arguments it raises at (an exception of the class cls, without fields) -/
def spX {K : PySem.W.Frag} (C : Ct K) (R : Wd K → List Da → Value → Prop) : Sp := fun vs H Q E => spD C vs H Q E ∨ ∃ (W : Wd K) (B : List Addr) (M : Nat) (ds : List Da) (cls : Value), R W ds cls ∧ Bk W B H M ∧ Dats K B H vs ds ∧ ∀ H', Kp W.F H H' → W.Dr M H' → E cls none H'
theorem fn_of_ctX {K : PySem.W.Frag} {C : Ct K} {R : Wd K → List Da → Value → Prop} {W : Wd K} {ds : List Da} {c : Nat} {P : Da → Prop} (h : C W ds c P) : Fn W (spX C R) ds c P := fun B H M vs s hM hd Q E q => Or.inl ⟨W, B, M, ds, c, P, h, s, hM, hd, q⟩
/-- a block that raises -/
def EsE {K : PySem.W.Frag} (W : Wd K) (t : TS) (Γ : List En) (cls : Value) (E : XK) : Prop :=
  ∀ (H0 : Hp) (B0 B : List Addr) (σ : L2.St) (H : Hp) (M : Nat) (D : Ends), Sg W H0 B0 B σ Γ H M → (∀ H', Kp W.F H0 H' → W.Dr M H' → E cls none H') → t D σ H
section
variable {K : PySem.W.Frag} {W : Wd K} {Γ : List En} {t u : TS} {tt : TT} {cls : Value} {E : XK}
theorem esE_seq (h : EsE W t Γ cls E) : EsE W (tSeq t u) Γ cls E := fun H0 B0 B σ H M D s q => h H0 B0 B σ H M _ s q
theorem esE_then (hT : EvT W tt Γ 0 (· = true)) (h : EsE W t Γ cls E) : EsE W (tIfS tt t u) Γ cls E := fun H0 B0 B σ H M D s q =>
  hT H0 B0 B σ H M s (Nat.zero_le _) _ fun b H1 k1 r1 e => by
    have e' : b = true := e
    subst e'
    show t D σ H1
    exact h H0 B0 B σ H1 M D (s.keep k1 r1) q
theorem esE_raise (C : Addr) : EsE W (fun _ σ H => (fun (_ : L2.St) (H : Hp) (Q : XK) => Q (.ref C) none H) σ H fun cls d H' => (fun cls d (_ : L2.St) H => E cls d H) cls d σ H') Γ (.ref C) E := fun H0 B0 B σ H M D s q => q H s.k0 s.dr
theorem esE_call {T : Ct K} {R : Wd K → List Da → Value → Prop} {ta : TA} {ds : List Da} (hr : R W ds cls) (ha : EvA W ta Γ 0 (· = ds)) : EsE W (tDrop (tCallS (spX T R) (WE fun cls d _ H => E cls d H) ta)) Γ cls E := fun H0 B0 B σ H M D s q =>
  ha H0 B0 B σ H M s (Nat.zero_le _) _ fun vs ds' H1 k1 r1 hd e => by
    have e' : ds' = ds := e
    subst e'
    have s1 := s.keep k1 r1
    exact Or.inr ⟨W, B, M, _, cls, hr, s1.toBk, hd, fun H' k r => q H' (s1.k0.trans k) r⟩
end
theorem fn_dataX {Pr : Program} {w : World} {K : PySem.W.Frag} {mg : Str → Option Value} {base : Heap} {x qual : Str} {params : Arguments} {body : List Stmt} {scope : Scope} {dvs : List V} {kws : List (Str × V)} {f : Addr} {fd : FuncData} {N ps : List Str} {k : Nat} {C : Ct K} {R : Wd K → List Da → Value → Prop}
    (F : FunD K x qual params body scope dvs kws f fd) (S : FnScope N ps scope) (len : ∀ W ds c P, C W ds c P → ds.length = ps.length) (lenR : ∀ W ds cls, R W ds cls → ds.length = ps.length) (hps : ps.length ≤ N.length)
    (hbody : ∀ (cdv : Value) (A : Around) (outer : List Env) (s : Shared) (H : Hp) (E : XK), Room k (A.deeper (PyProof.Rows.envOfC qual scope s.heap.objs.size f cdv)) →
      ∃ t, PSs (cxOf (L2.CX Pr w) Pr w K mg base N qual scope f cdv A outer s H E) body t ∧ (∀ W ds c P, C W ds c P → Es W t (startE N ds) c ⟨fun _ => P .non, P, fun _ => False, fun _ => False⟩) ∧ ∀ W ds cls, R W ds cls → EsE W t (startE N ds) cls E) : FnOk Pr w K mg base (L2.CX Pr w) (k + 1) f fd ps (spX C R) := by
  refine F.ok S (fun vs H Q E h => ?_) (fun cdv A outer s H vs Q E hr h => ?_)
  · rcases h with ⟨W, B, M, ds, c, P, hC, _, _, hd, _⟩ | ⟨W, B, M, ds, cls, hR, _, hd, _⟩
    · rw [hd.length]
      exact len W ds c P hC
    · rw [hd.length]
      exact lenR W ds cls hR
  · obtain ⟨t, ht, hE, hX⟩ := hbody cdv A outer s H E hr
    refine ⟨t, ht, ?_⟩
    rcases h with ⟨W, B, M, ds, c, P, hC, hb, hM, hd, q⟩ | ⟨W, B, M, ds, cls, hR, hb, hd, q⟩
    · have s0 : Sg W H B B (L2.start N vs) (startE N ds) H M := Sg.start hb hd (by rw [len W ds c P hC]; exact hps)
      exact hE W ds c P hC H B B _ H M _ s0 hM (fun B' σ' Γ' H' s' m' n' => q .non .non H' s'.k0 s'.dr (by unfold Dat; rfl) n') (fun v d H' k' r' hd' p' => q v d H' k' r' hd' p') (fun _ _ _ _ _ _ z => z.elim) (fun _ _ _ _ _ _ z => z.elim)
    · have s0 : Sg W H B B (L2.start N vs) (startE N ds) H M := Sg.start hb hd (by rw [lenR W ds cls hR]; exact hps)
      exact hX W ds cls hR H B B _ H M _ s0 q
/-- try: f(x) / except C as e: y = e, where f raises an exception of the clause: slots j of y, i of e -/
theorem es_tryKeep {K : PySem.W.Frag} {W : Wd K} {Γ : List En} {T : Ct K} {R : Wd K → List Da → Value → Prop} {ta : TA} {ds : List Da} {cls c : Value} {i j : Nat} {Wout : WX} {p : Po} (hr : R W ds cls) (ha : EvA W ta Γ 0 (· = ds)) (hij : i ≠ j) (hi : i < Γ.length)
    (hx : PySem.W.exmOne K cls c = some true) (hp : p.nx ((Γ.set j (.dat (.exc cls []))).set i .no)) : Es W (fun D σ H => tDrop (tCallS (spX T R) (WE (wKeep K c i (fun _ _ _ => tAsg (tVar i) (gName j)) Wout D)) ta) D σ H) Γ 0 p := fun H0 B0 B σ H M D s hM a b e f =>
  ha H0 B0 B σ H M s (Nat.zero_le _) _ fun vs ds' H1 k1 r1 hd e' => by
    have e2 : ds' = ds := e'
    subst e2
    have s1 := s.keep k1 r1
    refine Or.inr ⟨W, B, M, _, cls, hr, s1.toBk, hd, fun H2 k2 r2 => ?_⟩
    refine ⟨true, hx, (fun z => Bool.noConfusion z), fun _ ea na => ?_⟩
    have s2 := s1.keep k2 r2
    have hl : i < σ.length := by rw [s.ln]; exact hi
    refine ⟨.ref ea, List.getElem?_set_self hl, ?_⟩
    show D.nx (((σ.set i (some (.ref ea))).set j (some (.ref ea))).set i none) (upd H2 ea (EO cls none ea))
    have es : ((σ.set i (some (.ref ea))).set j (some (.ref ea))).set i none = (σ.set j (some (.ref ea))).set i none := by
      rw [List.set_comm _ _ hij, List.set_set]
    rw [es]
    have s3 : Sg W H0 B0 B σ Γ (upd H2 ea (EO cls none ea)) M := s2.keep (Kp.new na) (Wd.new na r2)
    have hdat : Dat K B (upd H2 ea (EO cls none ea)) (.ref ea) (.exc cls []) := by
      unfold Dat
      exact ⟨ea, none, [], rfl, ⟨s2.toBk.free na, upd_same⟩, Or.inl ⟨rfl, rfl⟩, by unfold Datf; rfl⟩
    exact a B _ _ _ ((s3.setD hdat).set (i := i) (o := none) (e := .no) rfl trivial) (Mv.of ((s.toBk.kp k1).trans ((s1.toBk.kp k2).trans (Kp.new na)))) hp
theorem rc_isE {K : PySem.W.Frag} {W : Wd K} {P : Da → Prop} {D : Addr} {x : Da} {c : V} {u : Value} {b : Bool} (hc : ∀ (B : List Addr) (H : Hp) (v : V), Dat K B H v x → v = c) (hu : ClsV c u) (C : ExcC K D) (hk : PySem.W.kitOne K (.ref D) u = some b) (p : P (.bl b)) : Rc W (rIsiX K) [.exc (.ref D) [], x] P := fun B H M vs s h Q q => by
  unfold Dats at h
  obtain ⟨v, r, rfl, h1, t1⟩ := h
  unfold Dats at t1
  obtain ⟨v2, r2, rfl, h2, t2⟩ := t1
  unfold Dats at t2
  subst t2
  have e2 := hc B H v2 h2
  subst e2
  unfold Dat at h1
  obtain ⟨a, d, xs, rfl, ⟨nb, hx⟩, ef, hf⟩ := h1
  unfold Datf at hf
  subst hf
  rcases ef with ⟨rfl, _⟩ | ⟨dx, _, z, _⟩
  · exact Or.inr ⟨a, D, v2, u, b, rfl, hu, hx, C, hk, q _ (.bl b) H Kp.refl s.dr (dBl.mpr rfl) p⟩
  · exact absurd rfl z
theorem rc_isET {K : PySem.W.Frag} {W : Wd K} {P : Da → Prop} {D : Addr} {n : String} {b : Bool} (C : ExcC K D) (hk : PySem.W.kitOne K (.ref D) (.type n) = some b) (p : P (.bl b)) : Rc W (rIsiX K) [.exc (.ref D) [], .ty n] P :=
  rc_isE (fun B H v h => by unfold Dat at h; exact h) (.ty n) C hk p
theorem rc_isEO {K : PySem.W.Frag} {W : Wd K} {P : Da → Prop} {D C' : Addr} {b : Bool} (C : ExcC K D) (hk : PySem.W.kitOne K (.ref D) (.ref C') = some b) (p : P (.bl b)) : Rc W (rIsiX K) [.exc (.ref D) [], .obj C'] P :=
  rc_isE (fun B H v h => by unfold Dat at h; exact h) (.own C') C hk p
end WJ
set_option Elab.async false
set_option linter.all false
set_option maxRecDepth 100000
set_option maxHeartbeats 2000000
/-! WjY: THE sorted list of texts, of things by a text of theirs -/
namespace WJ
open PySem L2
/-- a is not behind b -/
def leT (a b : Str) : Bool := !decide (b.cps.toList < a.cps.toList)
theorem leT_total (a b : Str) : (leT a b || leT b a) = true := by
  unfold leT
  by_cases h : b.cps.toList < a.cps.toList
  · have : ¬ a.cps.toList < b.cps.toList := fun z => List.lt_irrefl _ (List.lt_trans z h)
    simp [h, this]
  · simp [h]
theorem leT_trans {a b c : Str} (h1 : leT a b = true) (h2 : leT b c = true) : leT a c = true := by
  unfold leT at *
  simp only [Bool.not_eq_true', decide_eq_false_iff_not] at *
  exact List.not_lt.mpr (List.le_trans (List.not_lt.mp h1) (List.not_lt.mp h2))
theorem leT_anti {a b : Str} (h1 : leT a b = true) (h2 : leT b a = true) : a = b := by
  unfold leT at *
  simp only [Bool.not_eq_true', decide_eq_false_iff_not] at *
  have e : a.cps.toList = b.cps.toList := List.le_antisymm (List.not_lt.mp h1) (List.not_lt.mp h2)
  have e2 : a.cps = b.cps := by
    have := congrArg List.toArray e
    simpa using this
  cases a
  cases b
  cases e2
  rfl
section
variable {α : Type} (f : α → Str)
/-- sorted by f -/
def sortBy (xs : List α) : List α := xs.mergeSort fun a b => leT (f a) (f b)
theorem sortBy_perm (xs : List α) : (sortBy f xs).Perm xs := List.mergeSort_perm _ _
theorem sortBy_sorted (xs : List α) : (sortBy f xs).Pairwise fun a b => leT (f a) (f b) = true :=
  List.pairwise_mergeSort (le := fun a b => leT (f a) (f b)) (fun a b c h1 h2 => leT_trans h1 h2) (fun a b => leT_total (f a) (f b)) xs
variable {f}
theorem sorted_one {xs ys : List α} (hp : ys.Perm xs) (hs : ys.Pairwise fun a b => leT (f a) (f b) = true) (hi : ∀ a ∈ xs, ∀ b ∈ xs, f a = f b → a = b) : ys = sortBy f xs := by
  refine List.Perm.eq_of_pairwise (le := fun a b => leT (f a) (f b) = true) (fun a b ha hb h1 h2 => ?_) hs (sortBy_sorted f xs) (hp.trans (sortBy_perm f xs).symm)
  exact hi a (hp.mem_iff.mp ha) b ((sortBy_perm f xs).mem_iff.mp hb) (leT_anti h1 h2)
theorem sortBy_eq {xs ys : List α} (hp : ys.Perm xs) (hi : ∀ a ∈ xs, ∀ b ∈ xs, f a = f b → a = b) : sortBy f ys = sortBy f xs :=
  sorted_one ((sortBy_perm f ys).trans hp) (sortBy_sorted f ys) hi
end
def sortT (xs : List Str) : List Str := sortBy (fun x => x) xs
theorem sortT_perm (xs : List Str) : (sortT xs).Perm xs := sortBy_perm _ xs
theorem sortT_eq {xs ys : List Str} (hp : ys.Perm xs) : sortT ys = sortT xs := sortBy_eq hp fun _ _ _ _ e => e
theorem rising_pair : ∀ (x : Str) (xs : List Str), PyProof.Rows.risingS x xs = true → (x :: xs).Pairwise fun a b => leT a b = true
  | x, [], _ => List.pairwise_singleton _ _
  | x, y :: r, h => by
    obtain ⟨h1, h2⟩ := Bool.and_eq_true_iff.mp (show (!PySem.Spec.ltCps y.cps.toList x.cps.toList && PyProof.Rows.risingS y r) = true from h)
    have h3 := rising_pair y r h2
    have h4 : leT x y = true := by
      unfold leT
      rw [← PyProof.Rows.ltCps_eq]
      exact h1
    refine List.pairwise_cons.mpr ⟨fun z hz => ?_, h3⟩
    rcases List.mem_cons.mp hz with e | e
    · rw [e]
      exact h4
    · exact leT_trans h4 ((List.pairwise_cons.mp h3).1 z e)
theorem sorted_is {xs ys : List Str} (hp : ys.Perm xs) (hs : PyProof.Rows.sortedS ys = true) : ys = sortT xs := by
  refine sorted_one (f := fun x => x) hp ?_ fun _ _ _ _ e => e
  cases ys with
  | nil => exact List.Pairwise.nil
  | cons y r => exact rising_pair y r hs
theorem sortBy_map {α : Type} (f : α → Str) (xs : List α) : (sortBy f xs).map f = sortT (xs.map f) := by
  refine sorted_one (f := fun x => x) ((sortBy_perm f xs).map f) ?_ fun _ _ _ _ e => e
  rw [List.pairwise_map]
  exact sortBy_sorted f xs
section
variable {K : PySem.W.Frag} {W : Wd K}
theorem rcF_sortT {xs : List Str} (hl : xs.length < 64) : RcF W (rSortedA K) [.lst (xs.map Da.str)] (· = (sortT xs).map Da.str) := rcF_sortedL hl fun ys h1 h2 => by rw [sorted_is h1 h2]
theorem rcF_sortTD {es : List (Key × Da)} {ks : List Str} (hk : es.map (·.1) = ks.map Sum.inr) (hl : ks.length < 64) : RcF W (rSortedA K) [.dct es] (· = (sortT ks).map Da.str) := rcF_sortedD hk hl fun ys h1 h2 => by rw [sorted_is h1 h2]
end
end WJ
set_option Elab.async false
set_option linter.all false
set_option maxRecDepth 100000
set_option maxHeartbeats 2000000
/-! WjZ: texts of lines, lines of words -/
namespace WJ
open PySem L2 TL
/-- lines, each with its end -/
def textOf (ls : List Str) : Str := Txt.join "" (ls.map fun l => l ++ "\n")
theorem tl_empty : tl ("" : Str) = [] := by decide +kernel
theorem tl_nl : tl ("\n" : Str) = [10] := by decide +kernel
theorem tl_sp : tl (" " : Str) = [32] := by decide +kernel
theorem joinL_nil : ∀ ps : List (List Nat), joinL [] ps = ps.flatten
  | [] => rfl
  | [p] => by simp [joinL]
  | p :: q :: r => by
    rw [joinL, joinL_nil (q :: r)]
    simp
theorem joinL_end (s : Nat) : ∀ ls : List (List Nat), joinL [s] (ls ++ [[]]) = (ls.map fun l => l ++ [s]).flatten
  | [] => rfl
  | [l] => by simp [joinL]
  | l :: m :: r => by
    show l ++ ([s] ++ joinL [s] (m :: r ++ [[]])) = _
    rw [joinL_end s (m :: r)]
    simp
theorem tl_text (ls : List Str) : tl (textOf ls) = ((ls.map tl).map fun l => l ++ [10]).flatten := by
  unfold textOf
  rw [join_eq, tl_join, tl_empty, joinL_nil, List.map_map, List.map_map]
  congr 1
  refine List.map_congr_left fun l _ => ?_
  show tl (l ++ "\n") = tl l ++ [10]
  rw [tl_append, tl_nl]
theorem text_join (ls : List Str) : textOf ls = Txt.join "\n" (ls ++ [("" : Str)]) := by
  refine ext_tl ?_
  rw [tl_text, join_eq, tl_join, tl_nl, List.map_append]
  show _ = joinL [10] (ls.map tl ++ [tl ""])
  rw [tl_empty, joinL_end]
/-- the read-back of lines -/
theorem split_text {ls : List Str} (h : ∀ l ∈ ls, 10 ∉ tl l) : Txt.split (textOf ls) "\n" = ls ++ [("" : Str)] := by
  rw [text_join]
  refine split_join (s := 10) (S := []) tl_nl (by decide +kernel) (by simp) fun q hq => ?_
  rcases List.mem_append.mp hq with z | z
  · exact h q z
  · rw [List.mem_singleton.mp z, tl_empty]
    exact List.not_mem_nil
/-- the read-back of words -/
theorem split_words {ws : List Str} (h0 : ws ≠ []) (h : ∀ w ∈ ws, 32 ∉ tl w) : Txt.split (Txt.join " " ws) " " = ws :=
  split_join (s := 32) (S := []) tl_sp (by decide +kernel) h0 h
theorem join_cons {y x z : Str} {r : List Str} : Txt.join y (x :: z :: r) = x ++ y ++ Txt.join y (z :: r) := by
  rw [join_eq, join_eq]
  rfl
theorem join_one {y x : Str} : Txt.join y [x] = x := by
  rw [join_eq]
  rfl
theorem mem_joinL {c : Nat} {S : List Nat} (hS : c ∉ S) : ∀ {ps : List (List Nat)}, (∀ p ∈ ps, c ∉ p) → c ∉ joinL S ps
  | [], _ => List.not_mem_nil
  | [p], h => h p List.mem_cons_self
  | p :: q :: r, h => fun z => by
    rw [joinL] at z
    rcases List.mem_append.mp z with z | z
    · exact h p List.mem_cons_self z
    · rcases List.mem_append.mp z with z | z
      · exact hS z
      · exact mem_joinL hS (fun x hx => h x (List.mem_cons_of_mem _ hx)) z
theorem no_nl {ws : List Str} (h : ∀ w ∈ ws, 10 ∉ tl w) : 10 ∉ tl (Txt.join " " ws) := by
  rw [join_eq, tl_join, tl_sp]
  refine mem_joinL (by decide) fun q hq => ?_
  obtain ⟨w, hw, rfl⟩ := List.mem_map.mp hq
  exact h w hw
theorem join_len (y : Str) (ws : List Str) : (Txt.join y ws).length ≤ (ws.map (·.length)).sum + ws.length * y.length := by
  rw [join_eq]
  exact StrLaws.join_length_le y ws
theorem sum_le {α : Type} {f : α → Nat} {b : Nat} : ∀ {xs : List α}, (∀ x ∈ xs, f x ≤ b) → (xs.map f).sum ≤ xs.length * b
  | [], _ => Nat.zero_le _
  | x :: xs, h => by
    have h1 := h x List.mem_cons_self
    have h2 := sum_le fun y hy => h y (List.mem_cons_of_mem _ hy)
    rw [List.map_cons, List.sum_cons, List.length_cons, Nat.add_mul]
    omega
/-- words of a row: few, short -/
structure Row (ws : List Str) : Prop where
  ne : ws ≠ []
  few : ws.length ≤ 5
  short : ∀ w ∈ ws, w.length ≤ 20
  sp : ∀ w ∈ ws, 32 ∉ tl w
  nl : ∀ w ∈ ws, 10 ∉ tl w
theorem len_sp : (" " : Str).length = 1 := by decide +kernel
theorem len_nl : ("\n" : Str).length = 1 := by decide +kernel
theorem len_emp : ("" : Str).length = 0 := by decide +kernel
theorem Row.sum {ws : List Str} (h : Row ws) : (ws.map (·.length)).sum + ws.length * (" " : Str).length ≤ 200 := by
  have h1 := sum_le (f := fun w : Str => w.length) (b := 20) h.short
  have h2 := h.few
  rw [len_sp]
  have h3 : ws.length * 20 ≤ 5 * 20 := Nat.mul_le_mul_right 20 h2
  omega
theorem Row.len {ws : List Str} (h : Row ws) : (Txt.join " " ws).length ≤ 200 := Nat.le_trans (join_len _ _) h.sum
theorem letter_no {c : Nat} {x : Str} (h : x.cps.toList.all letterC = true) (hc : c < 97) : c ∉ tl x := fun z => by
  have := (letter_lt (List.all_eq_true.mp h c z)).1
  omega
theorem name_no {c : Nat} {x : Str} (h : isName x = true) (hc : c < 97) : c ∉ tl x := by
  unfold isName lettersS at h
  exact letter_no (Bool.and_eq_true_iff.mp h).2 hc
section
variable {K : PySem.W.Frag} {W : Wd K} {Γ : List En}
/-- ''.join([l + '\n' for l in xs]) -/
theorem ev_text {wi : TI} {ls : List Str} {i c0 n : Nat} (hi : Ei W wi Γ c0 (· = ls.map Da.str)) (hl : ∀ l ∈ ls, l.length ≤ 200) (hn : ls.length ≤ n) (hz : n ≤ 100) (hi0 : i < Γ.length) :
    Ev W (tM1 (r_join K) (tC (.str "")) (tLc wi (gName i) tYes (tOp (rAddA K) (tVar i) (tC (.str "\n"))) [i])) Γ c0 (· = .str (textOf ls)) := by
  have hm := evF_map (K := K) (W := W) (Γ := Γ) (Γ' := []) (i := i) (n := n) (c0 := c0) (cb := 0) (wi := wi) (te := tOp (rAddA K) (tVar i) (tC (.str "\n"))) (ds := ls.map Da.str) (f := fun d => match d with | .str x => .str (x ++ "\n") | _ => .non) hi (fun d hd => by
    obtain ⟨l, hl1, rfl⟩ := List.mem_map.mp hd
    have := hl l hl1
    refine ev_addS (c1 := 0) (c2 := 0) (ev_var (d := .str l) ?_) ev_str (by rw [len_nl]; omega)
    show ((Γ.set i .no).set i (.dat (.str l)))[i]? = _
    rw [List.getElem?_set_self (by rw [List.length_set]; exact hi0)]) (by rw [List.length_map]; exact hn) (by omega)
  have e : ((ls.map Da.str).map fun d => match d with | .str x => Da.str (x ++ "\n") | _ => .non) = (ls.map fun l : Str => l ++ "\n").map Da.str := by
    rw [List.map_map, List.map_map]
    rfl
  rw [e] at hm
  refine (ev_join (x := "") (xs := ls.map fun l => l ++ "\n") ev_str (hm.ev'.imp fun d q => Or.inl q) ?_).weak (by omega) (fun d q => q)
  rw [len_emp, Nat.mul_zero, Nat.add_zero, List.map_map]
  have := sum_le (f := (fun l : Str => l.length) ∘ fun l => l ++ "\n") (b := 201) (xs := ls) fun l h => by
    show (l ++ "\n").length ≤ 201
    rw [Str.length_append, len_nl]
    have := hl l h
    omega
  have h3 : ls.length * 201 ≤ 100 * 201 := Nat.mul_le_mul_right 201 (by omega)
  omega
end
end WJ
set_option Elab.async false
set_option linter.all false
set_option maxRecDepth 100000
set_option maxHeartbeats 2000000
/-! Q75: the defs of law k75 over data, the schema's part -/
namespace P75
open PySem L2 TL WJ
def t_is_name (K : PySem.W.Frag) : TS :=
  (tRet (tAndV (tCB (rIsiA K) (tCons (tVar 0) (tCons (tC (.ty "str")) tNil))) (tAndV (tChain (rI0 fun i j => .bl (decide (i ≤ j))) (rI0 fun i j => .bl (decide (i ≤ j))) (tC (.int 1)) (tCB (rLenA K) (tCons (tVar 0) tNil)) (tC (.int 6))) (tCB (rAll K) (tCons (tLc (iStr (tVar 0)) (gName 1) tYes (tOp (rInA K false) (tVar 1) (tC (.str "abcdefghijklmnopqrstuvwxyz"))) [1]) tNil)))))
def t_are_tables (K : PySem.W.Frag) (sp_is_name : Sp) : TS :=
  (tSeq (tIfS (tOr (tNot (tB (tCB (rIsiA K) (tCons (tVar 0) (tCons (tTup (tCons (tC (.ty "list")) (tCons (tC (.ty "tuple")) tNil))) tNil))))) (tNot (tTest (tChain (rI0 fun i j => .bl (decide (i ≤ j))) (rI0 fun i j => .bl (decide (i ≤ j))) (tC (.int 1)) (tCB (rLenA K) (tCons (tVar 0) tNil)) (tC (.int 5))))))
    (tRet (tC (.bl false)))
    tNext)
    (tRet (tAndV (tCB (rAll K) (tCons (tLc (iList K (tVar 0)) (gName 1) tYes (tCall sp_is_name [] E0 (tCons (tVar 1) tNil)) [1]) tNil)) (tOp (rEqA K) (tLenSetS K (tVar 0)) (tCB (rLenA K) (tCons (tVar 0) tNil))))))
def t_is_reference (K : PySem.W.Frag) : TS :=
  (tSeq (tIfS (tOr (tNot (tB (tCB (rIsiA K) (tCons (tVar 0) (tCons (tC (.ty "tuple")) tNil))))) (tOr (tTest (tOp (rNeA K) (tCB (rLenA K) (tCons (tVar 0) tNil)) (tC (.int 3)))) (tNot (tB (tCB (rAll K) (tCons (tLc (iTup K (tVar 0)) (gName 2) tYes (tCB (rIsiA K) (tCons (tVar 2) (tCons (tC (.ty "str")) tNil))) [2]) tNil))))))
    (tRet (tC (.bl false)))
    tNext)
    (tRet (tAndV (tOp (rInA K false) (tOp (rIxA K) (tVar 0) (tC (.int 0))) (tVar 1)) (tAndV (tOp (rInA K false) (tOp (rIxA K) (tVar 0) (tC (.int 1))) (tVar 1)) (tOp (rInA K false) (tOp (rIxA K) (tVar 0) (tC (.int 2))) (tC (.ref (He.ga K "KINDS_schemas"))))))))
def t_are_references (K : PySem.W.Frag) (sp_is_name : Sp) (sp_is_reference : Sp) : TS :=
  (tSeq (tIfS (tOr (tNot (tB (tCB (rIsiA K) (tCons (tVar 0) (tCons (tC (.ty "dict")) tNil))))) (tTest (tOp (rI0 fun i j => .bl (decide (j < i))) (tCB (rLenA K) (tCons (tVar 0) tNil)) (tC (.int 6)))))
    (tRet (tC (.bl false)))
    tNext)
    (tRet (tCB (rAll K) (tCons (tLockO (tLc (iKeys (tVar 0)) (gName 2) tYes (tAndV (tCall sp_is_name [] E0 (tCons (tVar 2) tNil)) (tCall sp_is_reference [] E0 (tCons (tOp (rIxA K) (tVar 0) (tVar 2)) (tCons (tVar 1) tNil)))) [2])) tNil))))
def t_Schema___init__ (K : PySem.W.Frag) (sp_are_references : Sp) (sp_are_tables : Sp) : TS :=
  (tSeq (tIfS (tOr (tNot (tB (tCall sp_are_tables [] E0 (tCons (tVar 1) tNil)))) (tNot (tB (tCall sp_are_references [] E0 (tCons (tVar 2) (tCons (tVar 1) tNil))))))
    tNever
    tNext)
    (tSeq (sFld K (tVar 0) (tCB (rTupA K) (tCons (tCB (rSortedA K) (tCons (tVar 1) tNil)) tNil)) "own_tables")
    (sFld K (tVar 0) (tDc (iList K (tCB (rSortedA K) (tCons (tVar 2) tNil))) (gName 3) tYes (tVar 3) (tOp (rIxA K) (tVar 2) (tVar 3)) [3]) "own_references")))
def t_Schema_tables (K : PySem.W.Frag) : TS :=
  (tRet (tFld K (tVar 0) "own_tables"))
def t_Schema_references (K : PySem.W.Frag) : TS :=
  (tRet (tCB (rDictD) (tCons (tFld K (tVar 0) "own_references") tNil)))
def t_Schema___eq__ (K : PySem.W.Frag) : TS :=
  (tSeq (tIfS (tNot (tB (tCB (rIsiA K) (tCons (tVar 1) (tCons (tC (.ref (He.ga K "Schema"))) tNil)))))
    (tRet (tC (.bl false)))
    tNext)
    (tRet (tAndV (tOp (rEqA K) (tFld K (tVar 0) "own_tables") (tFld K (tVar 1) "own_tables")) (tOp (rEqB K) (tFld K (tVar 0) "own_references") (tFld K (tVar 1) "own_references")))))
def t_schema_text (K : PySem.W.Frag) (sp_Schema_references : Sp) (sp_Schema_tables : Sp) (sp_need_schema : Sp) (sp_text_of_rows : Sp) (E : XK) : TS :=
  (tSeq (tDrop (tCallS sp_need_schema (WE fun cls d _ H => E cls d H) (tCons (tVar 0) tNil)))
    (tSeq (tAsg (tLc (iTup K (tProp (He.ga K "Schema") sp_Schema_tables [] E0 (tVar 0))) (gName 3) tYes (tTup (tCons (tC (.str "table")) (tCons (tVar 3) tNil))) [3]) (gName 1))
    (tSeq (tAsg (tProp (He.ga K "Schema") sp_Schema_references [] E0 (tVar 0)) (gName 2))
    (tRet (tCall sp_text_of_rows [] E0 (tCons (tOp (rAddA K) (tVar 1) (tLc (iList K (tCB (rSortedA K) (tCons (tVar 2) tNil))) (gName 4) tYes (tOp (rAddA K) (tTup (tCons (tC (.str "reference")) (tCons (tVar 4) tNil))) (tOp (rIxA K) (tVar 2) (tVar 4))) [4])) tNil))))))
def t_rows_of (K : PySem.W.Frag) : TS :=
  (tSeq (tAsg (tM1 (r_split) (tVar 0) (tC (.str "\n"))) (gName 1))
    (tRet (tTup (tCons (tSl (rSlA K) (tVar 1) tNoPart (tPart (tUn (rU fun i => .int (-i)) (tC (.int 1))))) (tCons (tOp (rIxA K) (tVar 1) (tUn (rU fun i => .int (-i)) (tC (.int 1)))) tNil)))))
def t_text_of_rows (K : PySem.W.Frag) : TS :=
  (tRet (tM1 (r_join K) (tC (.str "")) (tLc (iList K (tVar 0)) (gName 1) tYes (tOp (rAddA K) (tM1 (r_join K) (tC (.str " ")) (tVar 1)) (tC (.str "\n"))) [1])))
def t_is_new_table (K : PySem.W.Frag) (sp_is_name : Sp) : TS :=
  (tSeq (tIfS (tOr (tTest (tOp (rNeA K) (tCB (rLenA K) (tCons (tVar 0) tNil)) (tC (.int 2)))) (tOr (tTest (tOp (rNeA K) (tOp (rIxA K) (tVar 0) (tC (.int 0))) (tC (.str "table")))) (tNot (tB (tCall sp_is_name [] E0 (tCons (tOp (rIxA K) (tVar 0) (tC (.int 1))) tNil))))))
    (tRet (tC (.bl false)))
    tNext)
    (tRet (tAndV (tOp (rEqB K) (tVar 2) tDNewK) (tAndV (tOp (rInA K true) (tOp (rIxA K) (tVar 0) (tC (.int 1))) (tVar 1)) (tOp (rI0 fun i j => .bl (decide (i < j))) (tCB (rLenA K) (tCons (tVar 1) tNil)) (tC (.int 5)))))))
def t_is_new_reference (K : PySem.W.Frag) (sp_is_name : Sp) : TS :=
  (tSeq (tIfS (tOr (tTest (tOp (rNeA K) (tCB (rLenA K) (tCons (tVar 0) tNil)) (tC (.int 5)))) (tOr (tTest (tOp (rNeA K) (tOp (rIxA K) (tVar 0) (tC (.int 0))) (tC (.str "reference")))) (tOr (tNot (tB (tCall sp_is_name [] E0 (tCons (tOp (rIxA K) (tVar 0) (tC (.int 1))) tNil)))) (tTest (tOp (rInA K true) (tOp (rIxA K) (tVar 0) (tC (.int 4))) (tC (.ref (He.ga K "KINDS_texts"))))))))
    (tRet (tC (.bl false)))
    tNext)
    (tSeq (tIfS (tOr (tTest (tOp (rInA K false) (tOp (rIxA K) (tVar 0) (tC (.int 1))) (tVar 2))) (tTest (tOp (rEqA K) (tCB (rLenA K) (tCons (tVar 2) tNil)) (tC (.int 6)))))
    (tRet (tC (.bl false)))
    tNext)
    (tRet (tAndV (tOp (rInA K false) (tOp (rIxA K) (tVar 0) (tC (.int 2))) (tVar 1)) (tOp (rInA K false) (tOp (rIxA K) (tVar 0) (tC (.int 3))) (tVar 1))))))
def t_read_schema (K : PySem.W.Frag) (sp_Schema : Sp) (sp_is_new_reference : Sp) (sp_is_new_table : Sp) (sp_rows_of : Sp) : TS :=
  (tSeq (tIfS (tNot (tB (tCB (rIsiA K) (tCons (tVar 0) (tCons (tC (.ty "str")) tNil)))))
    tNever
    tNext)
    (tSeq (tAsg (tCall sp_rows_of [] E0 (tCons (tVar 0) tNil)) (gTup K 2 (gCons (gName 1) (gCons (gName 2) gNil))))
    (tSeq (tPar 3 4 (tCons (tLst tNil) (tCons tDNewK tNil)))
    (tSeq (tFor (iEnum K (tCons (tVar 1) tNil)) (gTup K 2 (gCons (gName 5) (gCons (gName 6) gNil)))
    (tSeq (tAsg (tM1 (r_split) (tVar 6) (tC (.str " "))) (gName 7))
    (tIfS (tB (tCall sp_is_new_table [] E0 (tCons (tVar 7) (tCons (tVar 3) (tCons (tVar 4) tNil)))))
    (tDrop (tBM K "list" rAppend (tVar 3) (tCons (tOp (rIxA K) (tVar 7) (tC (.int 1))) tNil)))
    (tIfS (tB (tCall sp_is_new_reference [] E0 (tCons (tVar 7) (tCons (tVar 3) (tCons (tVar 4) tNil)))))
    (sDPut (tVar 4) (tOp (rIxA K) (tVar 7) (tC (.int 1))) (tTup (tCons (tOp (rIxA K) (tVar 7) (tC (.int 2))) (tCons (tOp (rIxA K) (tVar 7) (tC (.int 3))) (tCons (tOp (rIxA K) (tVar 7) (tC (.int 4))) tNil)))))
    tNever))))
    (tSeq (tIfS (tOr (tTest (tOp (rNeA K) (tVar 2) (tC (.str "")))) (tTest (tOp (rEqA K) (tVar 3) (tLst tNil))))
    tNever
    tNext)
    (tRet (tMake (He.ga K "Schema") sp_Schema [] E0 (tCons (tVar 3) (tCons (tVar 4) tNil)))))))))
def t__law_source (K : PySem.W.Frag) : TS :=
  (tSeq (tAsg (tLc (iList K (tVar 0)) (gName 2) (tTest (tOp (rI0 fun i j => .bl (decide (j ≤ i))) (tCB (rAbs) (tCons (tVar 2) tNil)) (tOp (rI CPow fun i j => .int (i ^ j.toNat)) (tC (.int 10)) (tC (.int 18))))) (tOp (rI CDivW fun i j => .int (i / j)) (tCB (rAbs) (tCons (tVar 2) tNil)) (tOp (rI CPow fun i j => .int (i ^ j.toNat)) (tC (.int 10)) (tC (.int 18)))) [2]) (gName 1))
    (tRet (tDisp [((tC (.str "digits")), (tVar 1)), ((tC (.str "cells")), (tOp (rAddA K) (tLc (iList K (tVar 0)) (gName 2) tYes (tOp (rI (fun _ j => 0 < j) fun i j => .int (i % j)) (tCB (rIntA) (tCons (tCB (rAbs) (tCons (tVar 2) tNil)) tNil)) (tC (.int 2147483629))) [2]) (tLst (tCons (tCB (rLenA K) (tCons (tVar 0) tNil)) tNil)))), ((tC (.str "turn")), (tC (.int 0)))])))
def t_law (K : PySem.W.Frag) (sp_Schema : Sp) (sp_Schema___eq__ : Sp) (sp_Schema_references : Sp) (sp_Schema_tables : Sp) (sp__law_is_refused : Sp) (sp__law_parts : Sp) (sp__law_pick : Sp) (sp__law_shuffled : Sp) (sp__law_source : Sp) (sp_read_schema : Sp) (sp_schema_text : Sp) : TS :=
  (tSeq (tAsg (tCall sp__law_source [] E0 (tCons (tVar 0) tNil)) (gName 1))
    (tSeq (tFor (iRng1 (tCons (tCB (rMaxA) (tCons (tC (.int 1)) (tCons (tCB (rMinA) (tCons (tC (.int 3)) (tCons (tCB (rLenA K) (tCons (tVar 0) tNil)) tNil))) tNil))) tNil)) (gName 2)
    (tSeq (tAsg (tCall sp__law_parts [] E0 (tCons (tVar 1) tNil)) (gTup K 2 (gCons (gName 3) (gCons (gName 4) gNil))))
    (tSeq (tAsg (tMake (He.ga K "Schema") sp_Schema [] E0 (tCons (tVar 3) (tCons (tVar 4) tNil))) (gName 5))
    (tSeq (tAsg (tLc (iList K (tCB (rSortedA K) (tCons (tVar 3) tNil))) (gName 13) tYes (tOp (rAddA K) (tC (.str "table ")) (tVar 13)) [13]) (gName 6))
    (tSeq (tAsg (tLc (iList K (tCB (rSortedA K) (tCons (tVar 4) tNil))) (gName 14) tYes (tOp (rAddA K) (tC (.str "reference ")) (tM1 (r_join K) (tC (.str " ")) (tOp (rAddA K) (tTup (tCons (tVar 14) tNil)) (tOp (rIxA K) (tVar 4) (tVar 14))))) [14]) (gName 7))
    (tSeq (tAsg (tM1 (r_join K) (tC (.str "")) (tLc (iList K (tOp (rAddA K) (tVar 6) (tVar 7))) (gName 15) tYes (tOp (rAddA K) (tVar 15) (tC (.str "\n"))) [15])) (gName 8))
    (tSeq (tIfS (tOr (tTest (tOp (rNeA K) (tCall sp_schema_text [] E0 (tCons (tVar 5) tNil)) (tVar 8))) (tTest (tOp (rNeA K) (tCall sp_schema_text [] E0 (tCons (tVar 5) tNil)) (tVar 8))))
    (tRet (tC (.bl false)))
    tNext)
    (tSeq (tAsg (tM1 (r_join K) (tC (.str "")) (tLc (iList K (tOp (rAddA K) (tCall sp__law_shuffled [] E0 (tCons (tVar 1) (tCons (tVar 6) tNil))) (tCall sp__law_shuffled [] E0 (tCons (tVar 1) (tCons (tVar 7) tNil))))) (gName 15) tYes (tOp (rAddA K) (tVar 15) (tC (.str "\n"))) [15])) (gName 9))
    (tFor (iTup K (tTup (tCons (tVar 8) (tCons (tVar 9) tNil)))) (gName 10)
    (tSeq (tAsg (tCall sp_read_schema [] E0 (tCons (tVar 10) tNil)) (gName 11))
    (tSeq (tIfS (tOr (tNot (tB (tCB (rIsiA K) (tCons (tVar 11) (tCons (tC (.ref (He.ga K "Schema"))) tNil))))) (tOr (tNot (tTest (tOp (rEqO (He.ga K "Schema") sp_Schema___eq__ E0) (tVar 11) (tVar 5)))) (tTest (tOp (rNeA K) (tCall sp_schema_text [] E0 (tCons (tCall sp_read_schema [] E0 (tCons (tVar 10) tNil)) tNil)) (tVar 8)))))
    (tRet (tC (.bl false)))
    tNext)
    (tIfS (tOr (tTest (tOp (rNeA K) (tProp (He.ga K "Schema") sp_Schema_tables [] E0 (tVar 11)) (tCB (rTupA K) (tCons (tCB (rSortedA K) (tCons (tVar 3) tNil)) tNil)))) (tTest (tOp (rNeA K) (tCB (rListIt K) (tCons (tItemsV (tProp (He.ga K "Schema") sp_Schema_references [] E0 (tVar 11))) tNil)) (tCB (rSortIts K) (tCons (tItemsV (tVar 4)) tNil)))))
    (tRet (tC (.bl false)))
    tNext))))))))))))
    (tSeq (tAsg (tLst (tCons (tC .non) (tCons (tC (.int 5)) (tCons (tC (.str "table a\n")) (tCons tDNewK (tCons (tLst tNil) (tCons (tC (.bl true)) (tCons (tTup (tCons (tC (.str "a")) tNil)) (tCons (tTup (tCons (tLst (tCons (tC (.str "a")) tNil)) (tCons tDNewK tNil))) tNil))))))))) (gName 12))
    (tRet (tCall sp__law_is_refused [] E0 (tCons (tCall sp__law_pick [] E0 (tCons (tVar 1) (tCons (tVar 12) tNil))) tNil))))))
--#A
section
variable {K : PySem.W.Frag} {W : Wd K} {Γ : List En} {p : Po}
/-! ### names -/
def signB : Da → Da
  | .str x => .bl (letterC (x.cps.getD 0 0))
  | _ => .bl false
theorem signs_B (x : Str) : (signsD x).map signB = (x.cps.toList.map letterC).map Da.bl := by
  unfold signsD
  rw [List.map_map, List.map_map]
  rfl
theorem all_id {α : Type} (f : α → Bool) (l : List α) : (l.map f).all id = l.all f := by
  rw [List.all_map]
  rfl
theorem es_is_name {x : Str} (hl : x.length ≤ 1000) (hp : p.rt (.bl (isName x))) : Es W (t_is_name K) [.dat (.str x), .no] 0 p := by
  have e0 : isName x = (true && ((decide (1 ≤ (x.length : Int)) && decide ((x.length : Int) ≤ 6)) && x.cps.toList.all letterC)) := by
    unfold isName lettersS
    rw [Bool.true_and]
    congr 1
    congr 1
    · exact decide_eq_decide.mpr (by omega)
    · exact decide_eq_decide.mpr (by omega)
  rw [e0] at hp
  refine es_ret (c := 0) (P := (· = .bl (true && ((decide (1 ≤ (x.length : Int)) && decide ((x.length : Int) ≤ 6)) && x.cps.toList.all letterC)))) ?_ (fun d e => by rw [e]; exact hp)
  refine ev_andB (c1 := 0) (c2 := 0) (ev_cbE (ea_cons2 (c1 := 0) (c2 := 0) (ev_var rfl) (ea_cons2 (c1 := 0) (c2 := 0) ev_ty ea_nil)) (rc_isi (t := "str") rfl rfl rfl)) (fun _ => ?_)
  refine ev_andB (c1 := 0) (c2 := 0) (ev_chainB (c1 := 0) (c2 := 0) (c3 := 0) ev_int (ev_cbE (ea_cons2 (c1 := 0) (c2 := 0) (ev_var rfl) ea_nil) (rc_lenS (by omega) rfl)) ev_int rv_I0B (fun _ => rv_I0B)) (fun z => ?_)
  have h6 : x.length ≤ 6 := by
    have z2 : decide ((x.length : Int) ≤ 6) = true := (Bool.and_eq_true_iff.mp z).2
    have := of_decide_eq_true z2
    omega
  have hall := evF_map (K := K) (W := W) (Γ := [.dat (.str x), .no]) (Γ' := []) (i := 1) (n := 6) (c0 := 0) (cb := 0) (wi := iStr (tVar 0)) (te := tOp (rInA K false) (tVar 1) (tC (.str "abcdefghijklmnopqrstuvwxyz"))) (ds := signsD x) (f := signB) (ei_str ((ev_var rfl).imp fun d e => ⟨x, e, rfl⟩)) (fun d hd => by
    obtain ⟨c, hc, rfl⟩ := List.mem_map.mp hd
    exact ev_op2 (c1 := 0) (c2 := 0) (ev_var rfl) ev_str (rv_inS (z := abc) rfl)) (by rw [signs_len]; exact h6) (by decide)
  rw [signs_B] at hall
  exact ev_cbE (ea_cons2 (c1 := 0) (c2 := 0) hall.ev' ea_nil) (rc_all (by rw [all_id]))
def IsNameOk (W : Wd K) (sp : Sp) : Prop := ∀ x : Str, x.length ≤ 1000 → Fn W sp [.str x] 0 (· = .bl (isName x))
/-! ### tables -/
def nameB : Da → Da
  | .str x => .bl (isName x)
  | _ => .bl false
theorem names_B (xs : List Str) : (xs.map Da.str).map nameB = (xs.map isName).map Da.bl := by
  rw [List.map_map, List.map_map]
  rfl
theorem once_go : ∀ (xs acc : List Str), (acc ++ xs).Nodup → xs.foldl onceS acc = acc ++ xs
  | [], acc, _ => by rw [List.append_nil]; rfl
  | x :: xs, acc, h => by
    have hx : acc.any (· == x) = false := by
      rw [List.any_eq_false]
      intro y hy z
      have e : y = x := eq_of_beq z
      subst e
      exact (List.nodup_append.mp h).2.2 y hy y List.mem_cons_self rfl
    have e1 : onceS acc x = acc ++ [x] := by
      unfold onceS
      rw [hx]
      rfl
    rw [List.foldl_cons, e1, once_go xs (acc ++ [x]) (by rw [List.append_assoc]; exact h), List.append_assoc]
    rfl
theorem once_nodup {xs : List Str} (h : xs.Nodup) : (once xs).length = xs.length := by
  unfold once
  rw [once_go xs [] (by simpa using h)]
  rfl
/-- of tables as they should be -/
theorem es_are_tables {sp : Sp} {ts : List Str} (hN : IsNameOk W sp) (h1 : 1 ≤ ts.length) (h5 : ts.length ≤ 5) (hn : ts.all isName = true) (hd : ts.Nodup) (hp : p.rt (.bl true)) : Es W (t_are_tables K sp) [.dat (.lst (ts.map Da.str)), .no] 0 p := by
  refine es_seqE (c1 := 0) (c2 := 0) (Γ' := [.dat (.lst (ts.map Da.str)), .no]) (es_ifB (c1 := 0) (c2 := 0) (b := false) ?_ (fun z => by cases z) (fun _ => es_next rfl)) ?_
  · refine (et_orB (c1 := 0) (c2 := 0) (a := false) (b := false) ((et_notB (a := true) (et_BB (ev_isi2 (P := (· = .bl true)) (Px := (· = .lst (ts.map Da.str))) (ev_var rfl) (fun d e => ⟨"list", true, false, by rw [e]; rfl, rfl, rfl, rfl⟩))))) (fun _ => (et_notB (a := true) (et_testB ?_))))
    refine (ev_chainB (c1 := 0) (c2 := 0) (c3 := 0) (a := true) (b := true) ev_int (ev_cbE (ea_cons2 (c1 := 0) (c2 := 0) (ev_var rfl) ea_nil) (rc_lenL rfl)) ev_int ?_ (fun _ => ?_))
    · rw [List.length_map]
      have := rv_I0B (K := K) (W := W) (q := fun i j => decide (i ≤ j)) (i := 1) (j := ts.length)
      rw [decide_eq_true (by omega)] at this
      exact this
    · rw [List.length_map]
      have := rv_I0B (K := K) (W := W) (q := fun i j => decide (i ≤ j)) (i := ts.length) (j := 5)
      rw [decide_eq_true (by omega)] at this
      exact this
  · refine es_ret (c := 0) (P := (· = .bl (true && true))) ?_ (fun d e => by rw [e]; exact hp)
    refine ev_andB (c1 := 0) (c2 := 0) ?_ (fun _ => ?_)
    · have hall := evF_map (K := K) (W := W) (Γ := [.dat (.lst (ts.map Da.str)), .no]) (Γ' := []) (i := 1) (n := 5) (c0 := 0) (cb := 0) (wi := iList K (tVar 0)) (te := tCall sp [] E0 (tCons (tVar 1) tNil)) (ds := ts.map Da.str) (f := nameB) (ei_list ((ev_var rfl).imp fun d e => ⟨_, e, rfl⟩)) (fun d hd => by
        obtain ⟨x, hx, rfl⟩ := List.mem_map.mp hd
        have hx6 := (name_len (List.all_eq_true.mp hn x hx)).2
        exact ev_callE (c1 := 0) (c2 := 0) (ea_cons2 (c1 := 0) (c2 := 0) (ev_var rfl) ea_nil) (hN x (by omega))) (by rw [List.length_map]; exact h5) (by decide)
      rw [names_B] at hall
      exact ev_cbE (ea_cons2 (c1 := 0) (c2 := 0) hall.ev' ea_nil) (rc_all (by rw [all_id, hn]))
    · refine (ev_op2 (c1 := 0) (c2 := 0) (ev_lenSet (xs := ts) ((ev_var rfl).imp fun d e => Or.inl e) (by omega)) (ev_cbE (ea_cons2 (c1 := 0) (c2 := 0) (ev_var rfl) ea_nil) (rc_lenL rfl)) ?_)
      rw [once_nodup hd, List.length_map]
      exact rv_eqF (w1 := .int ts.length) (w2 := .int ts.length) rfl rfl rfl (by rw [decide_eq_true rfl])
def TablesOk (W : Wd K) (sp : Sp) : Prop := ∀ ts : List Str, 1 ≤ ts.length → ts.length ≤ 5 → ts.all isName = true → ts.Nodup → Fn W sp [.lst (ts.map Da.str)] 0 (· = .bl true)
end
section
variable {K : PySem.W.Frag} {W : Wd K} {Γ : List En} {p : Po}
/-! ### references -/
def kindsD : Da := .tup [.str "many", .str "single"]
/-- the tuple of the kinds, as the module has written it -/
def KindsOk (K : PySem.W.Frag) (a : Addr) : Prop := SqT K (fun _ => none) a [.str "many", .str "single"]
theorem ev_kinds {a : Addr} (h : KindsOk K a) : Ev W (tC (.ref a)) Γ 0 (· = kindsD) := ev_c fun B H => by
  unfold kindsD Dat
  exact ⟨a, _, rfl, Or.inr h, .cons (by unfold Dat; rfl) (.cons (by unfold Dat; rfl) .nil)⟩
theorem rv_in_kinds {neg : Bool} {k : Str} : Rv W (rInA K neg) (.str k) kindsD (· = .bl (if neg then !decide (k = "many" ∨ k = "single") else decide (k = "many" ∨ k = "single"))) := by
  refine rv_inT (w := .str k) (ws := [.str "many", .str "single"]) rfl rfl ?_
  have e : inV (.str k) [.str "many", .str "single"] = decide (k = "many" ∨ k = "single") := by
    have := inV_strs k ["many", "single"]
    rw [show (["many", "single"] : List Str).map V.str = [.str "many", .str "single"] from rfl] at this
    rw [this]
    exact decide_eq_decide.mpr (by simp)
  rw [e]
theorem rv_in_ts {x : Str} {ts : List Str} : Rv W (rInA K false) (.str x) (.lst (ts.map Da.str)) (· = .bl (decide (x ∈ ts))) := (rv_in_tk (neg := false) (Or.inl rfl))
theorem es_is_reference {ts : List Str} {a b k : Str} (hK : KindsOk K (He.ga K "KINDS_schemas")) (ha : a ∈ ts) (hb : b ∈ ts) (hk : k = "many" ∨ k = "single") (hp : p.rt (.bl true)) :
    Es W (t_is_reference K) [.dat (.tup [.str a, .str b, .str k]), .dat (.lst (ts.map Da.str)), .no] 0 p := by
  refine es_seqE (c1 := 0) (c2 := 0) (Γ' := [.dat (.tup [.str a, .str b, .str k]), .dat (.lst (ts.map Da.str)), .no]) (es_ifB (c1 := 0) (c2 := 0) (b := false) ?_ (fun z => by cases z) (fun _ => es_next rfl)) ?_
  · refine (et_orB (c1 := 0) (c2 := 0) (a := false) (b := false) ((et_notB (a := true) (et_BB (ev_cbE (ea_cons2 (c1 := 0) (c2 := 0) (ev_var rfl) (ea_cons2 (c1 := 0) (c2 := 0) ev_ty ea_nil)) (rc_isi (t := "tuple") rfl rfl rfl))))) (fun _ => ?_))
    refine (et_orB (c1 := 0) (c2 := 0) (a := false) (b := false) (et_testB (ev_op2 (c1 := 0) (c2 := 0) (ev_cbE (ea_cons2 (c1 := 0) (c2 := 0) (ev_var rfl) ea_nil) (rc_lenT rfl)) ev_int (rv_neF (w1 := .int 3) (w2 := .int 3) rfl rfl rfl (by rw [decide_eq_true rfl]; rfl)))) (fun _ => et_notB (a := true) (et_BB ?_)))
    have hall := evF_map (K := K) (W := W) (Γ := [.dat (.tup [.str a, .str b, .str k]), .dat (.lst (ts.map Da.str)), .no]) (Γ' := []) (i := 2) (n := 3) (c0 := 0) (cb := 0) (wi := iTup K (tVar 0)) (te := tCB (rIsiA K) (tCons (tVar 2) (tCons (tC (.ty "str")) tNil))) (ds := [.str a, .str b, .str k]) (f := fun _ => .bl true) (ei_tup ((ev_var rfl).imp fun d e => ⟨_, e, rfl⟩)) (fun d hd => by
      have : ∃ x, d = .str x := by
        simp only [List.mem_cons, List.not_mem_nil, or_false] at hd
        rcases hd with e | e | e <;> exact ⟨_, e⟩
      obtain ⟨x, rfl⟩ := this
      exact ev_cbE (ea_cons2 (c1 := 0) (c2 := 0) (ev_var rfl) (ea_cons2 (c1 := 0) (c2 := 0) ev_ty ea_nil)) (rc_isi (t := "str") rfl rfl rfl)) (Nat.le_refl _) (by decide)
    exact ev_cbE (ea_cons2 (c1 := 0) (c2 := 0) hall.ev' ea_nil) (rc_all (bs := [true, true, true]) rfl)
  · refine es_ret (c := 0) (P := (· = .bl (true && (true && true)))) ?_ (fun d e => by rw [e]; exact hp)
    refine ev_andB (c1 := 0) (c2 := 0) ((ev_op2 (c1 := 0) (c2 := 0) (ev_op2 (c1 := 0) (c2 := 0) (ev_var rfl) ev_int (rv_ixT (d := .str a) rfl rfl)) (ev_var rfl) rv_in_ts).imp fun d e => by rw [e, decide_eq_true ha]) (fun _ => ?_)
    refine ev_andB (c1 := 0) (c2 := 0) ((ev_op2 (c1 := 0) (c2 := 0) (ev_op2 (c1 := 0) (c2 := 0) (ev_var rfl) ev_int (rv_ixT (d := .str b) rfl rfl)) (ev_var rfl) rv_in_ts).imp fun d e => by rw [e, decide_eq_true hb]) (fun _ => ?_)
    exact (ev_op2 (c1 := 0) (c2 := 0) (ev_op2 (c1 := 0) (c2 := 0) (ev_var rfl) ev_int (rv_ixT (d := .str k) rfl rfl)) (ev_kinds hK) (rv_in_kinds (neg := false))).imp fun d e => by rw [e, if_neg Bool.false_ne_true, decide_eq_true hk]
def IsRefOk (W : Wd K) (sp : Sp) : Prop := ∀ (ts : List Str) (a b k : Str), a ∈ ts → b ∈ ts → (k = "many" ∨ k = "single") → Fn W sp [.tup [.str a, .str b, .str k], .lst (ts.map Da.str)] 0 (· = .bl true)
theorem val_ref {rs : List Rf} (hd : (rs.map (·.1)).Nodup) {r : Rf} (hr : r ∈ rs) : valD (refsD rs) (Sum.inr r.1) = some (endsD r) := by
  induction rs with
  | nil => cases hr
  | cons q rs ih =>
    rw [List.map_cons, List.nodup_cons] at hd
    unfold refsD valD
    rw [List.map_cons, List.find?_cons]
    by_cases e : q = r
    · subst e
      simp [refD]
    · have hr2 : r ∈ rs := by
        rcases List.mem_cons.mp hr with z | z
        · exact absurd z.symm e
        · exact z
      have ne : ¬ ((refD q).1 = (Sum.inr r.1 : Key)) := fun z => by
        have z2 : (Sum.inr q.1 : Key) = Sum.inr r.1 := z
        exact hd.1 (List.mem_map.mpr ⟨r, hr2, (Sum.inr.inj z2).symm⟩)
      rw [decide_eq_false ne]
      exact ih hd.2 hr2
theorem es_are_references {spN spR : Sp} {ts : List Str} {rs : List Rf} (hN : IsNameOk W spN) (hR : IsRefOk W spR) (hP : Parts ts rs) (hp : p.rt (.bl true)) :
    Es W (t_are_references K spN spR) [.dat (.dct (refsD rs)), .dat (.lst (ts.map Da.str)), .no] 0 p := by
  have hlen : (refsD rs).length = rs.length := by unfold refsD; rw [List.length_map]
  refine es_seqE (c1 := 0) (c2 := 0) (Γ' := [.dat (.dct (refsD rs)), .dat (.lst (ts.map Da.str)), .no]) (es_ifB (c1 := 0) (c2 := 0) (b := false) ?_ (fun z => by cases z) (fun _ => es_next rfl)) ?_
  · refine (et_orB (c1 := 0) (c2 := 0) (a := false) (b := false) ((et_notB (a := true) (et_BB (ev_cbE (ea_cons2 (c1 := 0) (c2 := 0) (ev_var rfl) (ea_cons2 (c1 := 0) (c2 := 0) ev_ty ea_nil)) (rc_isi (t := "dict") rfl rfl rfl))))) (fun _ => et_testB ?_))
    refine (ev_op2 (c1 := 0) (c2 := 0) (ev_cbE (ea_cons2 (c1 := 0) (c2 := 0) (ev_var rfl) ea_nil) (rc_lenD rfl)) ev_int ?_)
    rw [hlen]
    have := rv_I0B (K := K) (W := W) (q := fun i j => decide (j < i)) (i := rs.length) (j := 6)
    rw [decide_eq_false (by have := hP.r6; omega)] at this
    exact this
  · refine es_ret (c := 0) (P := (· = .bl true)) ?_ (fun d e => by rw [e]; exact hp)
    have hall := evF_lcK (K := K) (W := W) (Γ := [.dat (.dct (refsD rs)), .dat (.lst (ts.map Da.str)), .no]) (g := gName 2) (vs := [2]) (tt := tYes) (te := tAndV (tCall spN [] E0 (tCons (tVar 2) tNil)) (tCall spR [] E0 (tCons (tOp (rIxA K) (tVar 0) (tVar 2)) (tCons (tVar 1) tNil)))) (cb := 0) (n := 6) (i := 0) (es := refsD rs) (R := fun j acc => acc = (List.replicate j true).map Da.bl) rfl rfl (fun j k acc hk ha => ?_) (by rw [hlen]; exact hP.r6) (by decide)
    · refine ev_cbE (ea_cons2 (c1 := 0) (c2 := 0) (hall.ev'.imp fun d e => e) ea_nil) (rc_all ?_)
      simp
    · rw [refs_keys, List.getElem?_map, List.getElem?_map] at hk
      cases hr : rs[j]? with
      | none =>
        rw [hr] at hk
        cases hk
      | some r =>
        rw [hr] at hk
        cases hk
        have hm := List.mem_of_getElem? hr
        have hnm : isName r.1 = true := List.all_eq_true.mp hP.rn r.1 (List.mem_map.mpr ⟨r, hm, rfl⟩)
        have hn6 := (name_len hnm).2
        obtain ⟨h1, h2, h3⟩ := hP.re r hm
        refine ⟨_, (· = true), 0, 0, eg_name, by omega, et_yes rfl, fun _ => ?_, fun z => by cases z⟩
        refine Ev.imp (P := (· = .bl (true && true))) ?_ (fun d e => by
          rw [e, ha, List.replicate_succ', List.map_append]
          rfl)
        refine ev_andB (c1 := 0) (c2 := 0) ((ev_callE (c1 := 0) (c2 := 0) (ea_cons2 (c1 := 0) (c2 := 0) (ev_var (d := .str r.1) rfl) ea_nil) (hN r.1 (by omega))).imp fun d e => by rw [e, hnm]) (fun _ => ?_)
        exact ev_callE (c1 := 0) (c2 := 0) (ea_cons2 (c1 := 0) (c2 := 0) (ev_op2 (c1 := 0) (c2 := 0) (ev_var rfl) (ev_var (d := .str r.1) rfl) (rv_ixD (k := Sum.inr r.1) (val_ref hP.rd hm) rfl)) (ea_cons2 (c1 := 0) (c2 := 0) (ev_var rfl) ea_nil)) (hR ts _ _ _ h1 h2 h3)
def RefsOk (W : Wd K) (sp : Sp) : Prop := ∀ (ts : List Str) (rs : List Rf), Parts ts rs → Fn W sp [.dct (refsD rs), .lst (ts.map Da.str)] 0 (· = .bl true)
end
section
variable {K : PySem.W.Frag} {W : Wd K} {Γ : List En} {p : Po}
/-! ### a schema -/
def sortR (rs : List Rf) : List Rf := sortBy (fun r => r.1) rs
theorem sortR_perm (rs : List Rf) : (sortR rs).Perm rs := sortBy_perm _ rs
theorem sortR_map (rs : List Rf) : (sortR rs).map (fun r => r.1) = sortT (rs.map fun r => r.1) := sortBy_map _ rs
def schF (ts : List Str) (rs : List Rf) : List (Str × Da) := [("own_tables", .tup ((sortT ts).map Da.str)), ("own_references", .dct (refsD (sortR rs)))]
theorem Parts.perm {ts ts' : List Str} {rs rs' : List Rf} (h : Parts ts rs) (ht : ts'.Perm ts) (hr : rs'.Perm rs) : Parts ts' rs' := by
  refine ⟨?_, ht.nodup_iff.mpr h.td, by rw [ht.length_eq]; exact h.t1, by rw [ht.length_eq]; exact h.t5, ?_, (hr.map _).nodup_iff.mpr h.rd, by rw [hr.length_eq]; exact h.r6, fun r hm => ?_⟩
  · exact List.all_eq_true.mpr fun x hx => List.all_eq_true.mp h.tn x (ht.mem_iff.mp hx)
  · exact List.all_eq_true.mpr fun x hx => List.all_eq_true.mp h.rn x ((hr.map _).mem_iff.mp hx)
  · obtain ⟨h1, h2, h3⟩ := h.re r (hr.mem_iff.mp hm)
    exact ⟨ht.mem_iff.mpr h1, ht.mem_iff.mpr h2, h3⟩
theorem key_inj {rs : List Rf} (hd : (rs.map fun r => r.1).Nodup) : ∀ a ∈ rs, ∀ b ∈ rs, a.1 = b.1 → a = b := by
  induction rs with
  | nil => intro a ha; cases ha
  | cons q rs ih =>
    rw [List.map_cons, List.nodup_cons] at hd
    intro a ha b hb e
    rcases List.mem_cons.mp ha with z | z <;> rcases List.mem_cons.mp hb with z' | z'
    · rw [z, z']
    · exact absurd (List.mem_map.mpr ⟨b, z', by rw [← e, z]⟩) hd.1
    · exact absurd (List.mem_map.mpr ⟨a, z, by rw [e, z']⟩) hd.1
    · exact ih hd.2 a z b z' e
theorem sortR_eq {rs rs' : List Rf} (hd : (rs.map fun r => r.1).Nodup) (hp : rs'.Perm rs) : sortR rs' = sortR rs := sortBy_eq hp (key_inj hd)
theorem not_before {rs : List Rf} (hd : (rs.map fun r => r.1).Nodup) {j : Nat} {r : Rf} (h : rs[j]? = some r) : r.1 ∉ (rs.take j).map fun r => r.1 := fun z => by
  obtain ⟨q, hq, e⟩ := List.mem_map.mp z
  obtain ⟨i, hi⟩ := List.mem_iff_getElem?.mp hq
  have hij : i < j := by
    have := (List.getElem?_eq_some_iff.mp hi).1
    rw [List.length_take] at this
    omega
  rw [List.getElem?_take_of_lt hij] at hi
  have h1 : (rs.map fun r => r.1)[i]? = some r.1 := by rw [List.getElem?_map, hi]; exact congrArg some e
  have h2 : (rs.map fun r => r.1)[j]? = some r.1 := by rw [List.getElem?_map, h]; rfl
  have hil : i < (rs.map fun r => r.1).length := (List.getElem?_eq_some_iff.mp h1).1
  exact absurd ((List.getElem?_inj hil hd).mp (h1.trans h2.symm)) (by omega)
theorem es_init {spR spT : Sp} {C aI : Addr} {ts : List Str} {rs : List Rf} (cl : Cls K C) (n1 : NoAttr K C "own_tables") (n2 : NoAttr K C "own_references") (hT : TablesOk W spT) (hR : RefsOk W spR) (hP : Parts ts rs)
    (hp : p.nx [.ownI aI C (schF ts rs), .dat (.lst (ts.map Da.str)), .dat (.dct (refsD rs)), .no]) : Es W (t_Schema___init__ K spR spT) [.ownI aI C [], .dat (.lst (ts.map Da.str)), .dat (.dct (refsD rs)), .no] 0 p := by
  refine es_seqE (c1 := 0) (c2 := 0) (Γ' := [.ownI aI C [], .dat (.lst (ts.map Da.str)), .dat (.dct (refsD rs)), .no]) (es_ifB (c1 := 0) (c2 := 0) (b := false) ?_ (fun z => by cases z) (fun _ => es_next rfl)) ?_
  · exact et_orB (c1 := 0) (c2 := 0) (a := false) (b := false) (et_notB (a := true) (et_BB (ev_callE (c1 := 0) (c2 := 0) (ea_cons2 (c1 := 0) (c2 := 0) (ev_var rfl) ea_nil) (hT ts hP.t1 hP.t5 hP.tn hP.td))))
      (fun _ => et_notB (a := true) (et_BB (ev_callE (c1 := 0) (c2 := 0) (ea_cons2 (c1 := 0) (c2 := 0) (ev_var rfl) (ea_cons2 (c1 := 0) (c2 := 0) (ev_var rfl) ea_nil)) (hR ts rs hP))))
  refine es_seqE (c1 := 0) (c2 := 0) (Γ' := [.ownI aI C [("own_tables", .tup ((sortT ts).map Da.str))], .dat (.lst (ts.map Da.str)), .dat (.dct (refsD rs)), .no])
    (es_fld (i := 0) (fs := []) (P := (· = .tup ((sortT ts).map Da.str))) cl n1 rfl ?_ (by decide) (fun d e => by rw [e]; rfl)) ?_
  · exact ev_cbE (ea_cons2 (c1 := 0) (c2 := 0) (evF_cb (ea_cons2 (c1 := 0) (c2 := 0) (ev_var rfl) ea_nil) (fun ds e => by rw [e]; exact rcF_sortT (by have := hP.t5; omega))).ev' ea_nil) (rc_tup (Or.inl rfl) rfl)
  have hS : (((sortR rs).map fun r => r.1).map Da.str) = (sortT (rs.map fun r => r.1)).map Da.str := by rw [sortR_map]
  have hPs := hP.perm (List.Perm.refl ts) (sortR_perm rs)
  have hds := evG_dc (K := K) (W := W) (Γ := [.ownI aI C [("own_tables", .tup ((sortT ts).map Da.str))], .dat (.lst (ts.map Da.str)), .dat (.dct (refsD rs)), .no]) (wi := iList K (tCB (rSortedA K) (tCons (tVar 2) tNil))) (g := gName 3) (vs := [3]) (tt := tYes) (tk := tVar 3) (tv := tOp (rIxA K) (tVar 2) (tVar 3)) (c0 := 0) (cb := 0) (n := 6)
    (Pi := fun ds => ds = ((sortR rs).map fun r => r.1).map Da.str) (R := fun _ j acc => acc = refsD ((sortR rs).take j))
    (ei_list ((evF_cb (ea_cons2 (c1 := 0) (c2 := 0) (ev_var rfl) ea_nil) (fun ds e => by rw [e]; exact rcF_sortTD (refs_keys rs) (by rw [List.length_map]; have := hP.r6; omega))).ev'.imp fun d e => ⟨_, e, hS.symm⟩)) (fun ds _ => rfl) (fun ds j d acc e hj ha => by
      rw [e, List.getElem?_map, List.getElem?_map] at hj
      cases hr : (sortR rs)[j]? with
      | none =>
        rw [hr] at hj
        cases hj
      | some r =>
        rw [hr] at hj
        cases hj
        have hm := List.mem_of_getElem? hr
        refine ⟨_, (· = true), (· = Sum.inr r.1), 0, 0, 0, eg_name, by omega, et_yes rfl, fun _ => (ev_var (d := .str r.1) rfl).imp fun d e => ⟨Sum.inr r.1, e, rfl⟩, fun k ek => ?_, fun z => by cases z⟩
        rw [ek]
        refine (ev_op2 (c1 := 0) (c2 := 0) (P := (· = endsD r)) (ev_var rfl) (ev_var (d := .str r.1) rfl) (rv_ixD (k := Sum.inr r.1) (val_ref hP.rd ((sortR_perm rs).mem_iff.mp hm)) rfl)).imp fun d e => ?_
        rw [e, ha]
        show putD (refsD ((sortR rs).take j)) (Sum.inr r.1) (endsD r) = refsD ((sortR rs).take (j + 1))
        rw [put_new (refs_new (not_before hPs.rd hr)), List.take_succ, hr]
        unfold refsD
        rw [List.map_append]
        rfl) (fun ds e => by rw [e, List.length_map, List.length_map, (sortR_perm rs).length_eq]; exact hP.r6) (by decide)
  refine es_fld (i := 0) (fs := [("own_tables", .tup ((sortT ts).map Da.str))]) (P := (· = .dct (refsD (sortR rs)))) cl n2 rfl ?_ (by simp) (fun d e => by rw [e]; exact hp)
  refine hds.ev.weak (by decide) fun d ⟨acc, e1, ds, e2, e3⟩ => ?_
  rw [e1, e3, e2, List.length_map, List.length_map, List.take_length]
def initT (K : PySem.W.Frag) : CtI K := fun W ds c P => ∃ ts rs, Parts ts rs ∧ ds = [.lst (ts.map Da.str), .dct (refsD rs)] ∧ c = 0 ∧ P (schF ts rs)
theorem es_tables {C : Addr} {ts : List Str} {rs : List Rf} (cl : Cls K C) (n1 : NoAttr K C "own_tables") (hp : p.rt (.tup ((sortT ts).map Da.str))) : Es W (t_Schema_tables K) [.dat (.ins C (schF ts rs))] 0 p :=
  es_retE (ev_fldE cl n1 (ev_var rfl) rfl) hp
theorem es_references {C : Addr} {ts : List Str} {rs : List Rf} (cl : Cls K C) (n2 : NoAttr K C "own_references") (hp : p.rt (.dct (refsD (sortR rs)))) : Es W (t_Schema_references K) [.dat (.ins C (schF ts rs))] 0 p :=
  es_ret (evG_dict (ev_fldE cl n2 (ev_var rfl) rfl)).ev (fun d ⟨es, e1, e2⟩ => by rw [e1, e2]; exact hp)
def TabsOk (W : Wd K) (C : Addr) (sp : Sp) : Prop := ∀ ts rs, Fn W sp [.ins C (schF ts rs)] 0 (· = .tup ((sortT ts).map Da.str))
def RefdOk (W : Wd K) (C : Addr) (sp : Sp) : Prop := ∀ ts rs, Fn W sp [.ins C (schF ts rs)] 0 (· = .dct (refsD (sortR rs)))
end
section
variable {K : PySem.W.Frag} {W : Wd K} {Γ : List En} {p : Po}
/-! ### == of two schemas -/
theorem shaped_tup {xs : List Str} (h : xs.all okS = true) : SeqAt.shaped (Da.tup (xs.map Da.str)).py = true := by
  have e : (Da.tup (xs.map Da.str)).py = .tuple (xs.map PyData.str) := by
    rw [Da.py, pys_strs]
  rw [e]
  refine shaped_of ?_ ?_
  · rw [PyData.canLay0]
    exact can_strs xs h
  · rw [PyData.depth]
    have := dep_strs xs
    omega
theorem plain_tup {xs : List Str} : (Da.tup (xs.map Da.str)).plain = true := by
  unfold Da.plain
  exact plains_strs xs
theorem eqv_tup (xs ys : List Str) : PyData.eqv (Da.tup (xs.map Da.str)).py (Da.tup (ys.map Da.str)).py = decide (xs = ys) := by
  have e : ∀ zs : List Str, (Da.tup (zs.map Da.str)).py = .tuple (zs.map PyData.str) := fun zs => by rw [Da.py, pys_strs]
  rw [e, e, PyData.eqv]
  exact eqvAll_strs xs ys
theorem ends_tup (r : Rf) : endsD r = .tup ([r.2.1, r.2.2.1, r.2.2.2].map Da.str) := rfl
theorem kind_okS {k : Str} (h : k = "many" ∨ k = "single") : okS k = true := by
  rcases h with rfl | rfl <;> decide +kernel
theorem Parts.ends {ts : List Str} {rs : List Rf} (h : Parts ts rs) {r : Rf} (hr : r ∈ rs) : [r.2.1, r.2.2.1, r.2.2.2].all okS = true := by
  obtain ⟨h1, h2, h3⟩ := h.re r hr
  simp only [List.all_cons, List.all_nil, Bool.and_true, Bool.and_eq_true]
  exact ⟨name_ok (List.all_eq_true.mp h.tn _ h1), name_ok (List.all_eq_true.mp h.tn _ h2), kind_okS h3⟩
theorem refs_ok {ts : List Str} {rs : List Rf} (h : Parts ts rs) : okK (refsD rs) = true := by
  unfold okK refsD
  rw [List.all_map, List.all_eq_true]
  intro r hr
  show ((endsD r).plain && SeqAt.shaped (endsD r).py) = true
  rw [ends_tup, plain_tup, shaped_tup (h.ends hr)]
  rfl
theorem refs_eq {ts : List Str} {rs : List Rf} (h : Parts ts rs) : eqvK (refsD rs) (refsD rs) = true := by
  unfold eqvK
  rw [Bool.and_eq_true]
  refine ⟨by simp, ?_⟩
  rw [List.all_eq_true]
  intro q hq
  obtain ⟨r, hr, rfl⟩ := List.mem_map.mp (show q ∈ rs.map refD from hq)
  have e : valD (refsD rs) (refD r).1 = some (endsD r) := val_ref h.rd hr
  rw [e]
  show PyData.eqv (endsD r).py (endsD r).py = true
  rw [ends_tup, eqv_tup, decide_eq_true rfl]
theorem sorted_all {ts : List Str} {P : Str → Bool} (h : ts.all P = true) : (sortT ts).all P = true := List.all_eq_true.mpr fun x hx => List.all_eq_true.mp h x ((sortT_perm ts).mem_iff.mp hx)
theorem names_okS {ts : List Str} (h : ts.all isName = true) : ts.all okS = true := List.all_eq_true.mpr fun x hx => name_ok (List.all_eq_true.mp h x hx)
theorem es_eq {ts : List Str} {rs : List Rf} (cl : C8.InsC K (He.ga K "Schema")) (n1 : NoAttr K (He.ga K "Schema") "own_tables") (n2 : NoAttr K (He.ga K "Schema") "own_references") (hP : Parts ts rs) (hp : p.rt (.bl true)) :
    Es W (t_Schema___eq__ K) [.dat (.ins (He.ga K "Schema") (schF ts rs)), .dat (.ins (He.ga K "Schema") (schF ts rs))] 0 p := by
  refine es_seqE (c1 := 0) (c2 := 0) (Γ' := [.dat (.ins (He.ga K "Schema") (schF ts rs)), .dat (.ins (He.ga K "Schema") (schF ts rs))]) (es_ifB (c1 := 0) (c2 := 0) (b := false) ?_ (fun z => by cases z) (fun _ => es_next rfl)) ?_
  · exact et_notB (a := true) (et_BB (ev_cbE (ea_cons2 (c1 := 0) (c2 := 0) (ev_var rfl) (ea_cons2 (c1 := 0) (c2 := 0) ev_obj ea_nil)) (rc_isiO cl rfl)))
  · refine es_ret (c := 0) (P := (· = .bl (true && true))) ?_ (fun d e => by rw [e]; exact hp)
    have hPs := hP.perm (List.Perm.refl ts) (sortR_perm rs)
    have ho := names_okS (sorted_all hP.tn)
    refine ev_andB (c1 := 0) (c2 := 0) (ev_op2 (c1 := 0) (c2 := 0) (ev_fldE cl.cl n1 (ev_var rfl) rfl) (ev_fldE cl.cl n1 (ev_var rfl) rfl) (rv_eqP plain_tup plain_tup (shaped_tup ho) (shaped_tup ho) (by rw [eqv_tup, decide_eq_true rfl]))) (fun _ => ?_)
    exact ev_op2 (c1 := 0) (c2 := 0) (ev_fldE cl.cl n2 (ev_var rfl) rfl) (ev_fldE cl.cl n2 (ev_var rfl) rfl) (rv_eqK (refs_ok hPs) (refs_ok hPs) (by rw [refs_eq hPs]))
def EqOk (W : Wd K) (C : Addr) (sp : Sp) : Prop := ∀ ts rs, Parts ts rs → Fn W sp [.ins C (schF ts rs), .ins C (schF ts rs)] 0 (· = .bl true)
/-! ### need_schema -/
/-- what is no schema: kinds that the class knows nothing of -/
def NoSch (K : PySem.W.Frag) (C : Addr) (d : Da) : Prop := ∃ n, d.kind = some n ∧ PySem.W.kitOne K (.type n) (.ref C) = some false
def t_need (K : PySem.W.Frag) (E : XK) : TS :=
  tIfS (tNot (tB (tCB (rIsiA K) (tCons (tVar 0) (tCons (tC (.ref (He.ga K "Schema"))) tNil))))) (fun _ σ H => (fun (_ : L2.St) (H : Hp) (Q : XK) => Q (.ref (He.ga K "NoSchema")) none H) σ H fun cls d H' => (fun cls d (_ : L2.St) H => E cls d H) cls d σ H') tNext
theorem es_need {E : XK} {fs : List (Str × Da)} (cl : C8.InsC K (He.ga K "Schema")) (hp : p.nx [.dat (.ins (He.ga K "Schema") fs)]) : Es W (t_need K E) [.dat (.ins (He.ga K "Schema") fs)] 0 p :=
  es_ifB (c1 := 0) (c2 := 0) (b := false) (et_notB (a := true) (et_BB (ev_cbE (ea_cons2 (c1 := 0) (c2 := 0) (ev_var rfl) (ea_cons2 (c1 := 0) (c2 := 0) ev_obj ea_nil)) (rc_isiO cl rfl)))) (fun z => by cases z) (fun _ => es_next hp)
theorem esE_need {E : XK} {d : Da} (h : NoSch K (He.ga K "Schema") d) : EsE W (t_need K E) [.dat d] (.ref (He.ga K "NoSchema")) E := by
  obtain ⟨n, h1, h2⟩ := h
  exact esE_then (et_notB (a := false) (et_BB (ev_cbE (ea_cons2 (c1 := 0) (c2 := 0) (ev_var rfl) (ea_cons2 (c1 := 0) (c2 := 0) ev_obj ea_nil)) (rc_isiN h1 h2 rfl)))) (esE_raise _)
def needC (K : PySem.W.Frag) : Ct K := fun W ds c P => ∃ fs, ds = [.ins (He.ga K "Schema") fs] ∧ c = 0 ∧ P .non
def needR (K : PySem.W.Frag) : Wd K → List Da → Value → Prop := fun W ds cls => ∃ d, ds = [d] ∧ NoSch K (He.ga K "Schema") d ∧ cls = .ref (He.ga K "NoSchema")
end
section
variable {K : PySem.W.Frag} {W : Wd K} {Γ : List En} {p : Po}
/-! ### rows as text -/
def rowD (ws : List Str) : Da := .tup (ws.map Da.str)
theorem es_text_of_rows {rows : List (List Str)} (h : ∀ ws ∈ rows, Row ws) (hl : rows.length ≤ 20) (hp : p.rt (.str (textOf (rows.map (Txt.join " "))))) : Es W (t_text_of_rows K) [.dat (.lst (rows.map rowD)), .no] 0 p := by
  refine es_ret (c := 0) (P := (· = .str (textOf (rows.map (Txt.join " "))))) ?_ (fun d e => by rw [e]; exact hp)
  have hmap := evF_lc (K := K) (W := W) (Γ := [.dat (.lst (rows.map rowD)), .no]) (wi := iList K (tVar 0)) (g := gName 1) (vs := [1]) (tt := tYes) (te := tOp (rAddA K) (tM1 (r_join K) (tC (.str " ")) (tVar 1)) (tC (.str "\n"))) (c0 := 0) (cb := 0) (n := 20) (Pi := fun ds => ds = rows.map rowD) (R := fun _ j acc => acc = ((rows.take j).map fun ws => Txt.join " " ws ++ "\n").map Da.str)
    (ei_list ((ev_var rfl).imp fun d e => ⟨_, e, rfl⟩)) (fun ds _ => rfl) (fun ds j d acc e hj ha => by
      rw [e, List.getElem?_map] at hj
      cases hr : rows[j]? with
      | none =>
        rw [hr] at hj
        cases hj
      | some ws =>
        rw [hr] at hj
        cases hj
        have hw := h ws (List.mem_of_getElem? hr)
        refine ⟨_, (· = true), 0, 0, eg_name, by omega, et_yes rfl, fun _ => ?_, fun z => by cases z⟩
        refine (ev_addS (c1 := 0) (c2 := 0) (ev_join (c1 := 0) (c2 := 0) (x := " ") (xs := ws) ev_str ((ev_var (d := rowD ws) rfl).imp fun d e => Or.inr e) (Nat.le_trans hw.sum (by decide))) ev_str (by rw [len_nl]; have := hw.len; omega)).imp fun d e => ?_
        rw [e, ha, List.take_succ, hr, List.map_append, List.map_append]
        rfl) (fun ds e => by rw [e, List.length_map]; exact hl) (by decide)
  have hfin : EvF W (tLc (iList K (tVar 0)) (gName 1) tYes (tOp (rAddA K) (tM1 (r_join K) (tC (.str " ")) (tVar 1)) (tC (.str "\n"))) [1]) [.dat (.lst (rows.map rowD)), .no] 0 (· = ((rows.map (Txt.join " ")).map fun l : Str => l ++ "\n").map Da.str) := hmap.weak (by decide) fun acc ⟨ds, e1, e2⟩ => by
    rw [e2, e1, List.length_map, List.take_length, List.map_map (f := Txt.join " ")]
    rfl
  refine (ev_join (c1 := 0) (c2 := 0) (x := "") (xs := (rows.map (Txt.join " ")).map fun l : Str => l ++ "\n") ev_str (hfin.ev'.imp fun d q => Or.inl q) ?_)
  rw [len_emp, Nat.mul_zero, Nat.add_zero, List.map_map, List.map_map]
  have := sum_le (f := ((fun l : Str => l.length) ∘ fun l => l ++ "\n") ∘ Txt.join " ") (b := 201) (xs := rows) fun ws hw => by
    show (Txt.join " " ws ++ "\n").length ≤ 201
    rw [Str.length_append, len_nl]
    have := (h ws hw).len
    omega
  have h3 : rows.length * 201 ≤ 20 * 201 := Nat.mul_le_mul_right 201 hl
  omega
def TextOk (W : Wd K) (sp : Sp) : Prop := ∀ rows : List (List Str), (∀ ws ∈ rows, Row ws) → rows.length ≤ 20 → Fn W sp [.lst (rows.map rowD)] 0 (· = .str (textOf (rows.map (Txt.join " "))))
def tabW (t : Str) : List Str := ["table", t]
def refW (r : Rf) : List Str := ["reference", r.1, r.2.1, r.2.2.1, r.2.2.2]
theorem kind_no {c : Nat} {k : Str} (h : k = "many" ∨ k = "single") (hc : c < 97) : c ∉ tl k := by
  have e : k.cps.toList.all letterC = true := by rcases h with rfl | rfl <;> decide +kernel
  exact letter_no e hc
theorem lit_no {c : Nat} (hc : c < 97) : c ∉ tl "table" ∧ c ∉ tl "reference" := ⟨letter_no (by decide +kernel) hc, letter_no (by decide +kernel) hc⟩
theorem row_tab {t : Str} (h : isName t = true) : Row (tabW t) := by
  have h6 := (name_len h).2
  refine ⟨by simp [tabW], by simp [tabW], fun w hw => ?_, fun w hw => ?_, fun w hw => ?_⟩
  all_goals
    simp only [tabW, List.mem_cons, List.not_mem_nil, or_false] at hw
    rcases hw with rfl | rfl
  · decide +kernel
  · omega
  · exact (lit_no (by decide)).1
  · exact name_no h (by decide)
  · exact (lit_no (by decide)).1
  · exact name_no h (by decide)
theorem row_ref {ts : List Str} {rs : List Rf} (hP : Parts ts rs) {r : Rf} (hr : r ∈ rs) : Row (refW r) := by
  obtain ⟨h1, h2, h3⟩ := hP.re r hr
  have n0 : isName r.1 = true := List.all_eq_true.mp hP.rn r.1 (List.mem_map.mpr ⟨r, hr, rfl⟩)
  have n1 : isName r.2.1 = true := List.all_eq_true.mp hP.tn _ h1
  have n2 : isName r.2.2.1 = true := List.all_eq_true.mp hP.tn _ h2
  have l0 := (name_len n0).2
  have l1 := (name_len n1).2
  have l2 := (name_len n2).2
  have l3 : r.2.2.2.length ≤ 6 := by rcases h3 with e | e <;> (rw [e]; decide +kernel)
  have key : ∀ c, c < 97 → ∀ w ∈ refW r, c ∉ tl w := fun c hc w hw => by
    simp only [refW, List.mem_cons, List.not_mem_nil, or_false] at hw
    rcases hw with rfl | rfl | rfl | rfl | rfl
    · exact (lit_no hc).2
    · exact name_no n0 hc
    · exact name_no n1 hc
    · exact name_no n2 hc
    · exact kind_no h3 hc
  refine ⟨by simp [refW], by simp [refW], fun w hw => ?_, key 32 (by decide), key 10 (by decide)⟩
  simp only [refW, List.mem_cons, List.not_mem_nil, or_false] at hw
  rcases hw with rfl | rfl | rfl | rfl | rfl
  · decide +kernel
  · omega
  · omega
  · omega
  · omega
def rowsW (ts : List Str) (rs : List Rf) : List (List Str) := ts.map tabW ++ rs.map refW
theorem rows_ok {ts : List Str} {rs : List Rf} (hP : Parts ts rs) : (∀ ws ∈ rowsW ts rs, Row ws) ∧ (rowsW ts rs).length ≤ 11 := by
  refine ⟨fun ws hw => ?_, ?_⟩
  · rcases List.mem_append.mp hw with z | z
    · obtain ⟨t, ht, rfl⟩ := List.mem_map.mp z
      exact row_tab (List.all_eq_true.mp hP.tn t ht)
    · obtain ⟨r, hr, rfl⟩ := List.mem_map.mp z
      exact row_ref hP hr
  · unfold rowsW
    rw [List.length_append, List.length_map, List.length_map]
    have := hP.t5
    have := hP.r6
    omega
def linesW (ts : List Str) (rs : List Rf) : List Str := (rowsW ts rs).map (Txt.join " ")
/-- the text of a schema -/
def schTxt (ts : List Str) (rs : List Rf) : Str := textOf (linesW (sortT ts) (sortR rs))
theorem ev_callS {sp : Sp} {E : L2.St → XK} {ta : TA} {ds : List Da} {c1 c2 : Nat} {P : Da → Prop} (h : EvA W ta Γ c1 (· = ds)) (hs : Fn W sp ds c2 P) : Ev W (tCallS sp E ta) Γ (c1 + c2) P := fun H0 B0 B σ H M s hM Q q =>
  h H0 B0 B σ H M s (by omega) _ fun vs ds' H1 k r hd e => by
    have e' : ds' = ds := e
    subst e'
    exact hs B H1 _ vs (s.keep k r).toBk (by omega) hd Q (E σ) fun v d H2 k2 r2 h2 p2 => q v d H2 (k.trans k2) (by rw [← sub_sub]; exact r2) h2 p2
theorem es_schema_text {E : XK} {spR spT spN spX : Sp} {ts : List Str} {rs : List Rf} (hP : Parts ts rs) (hT : TabsOk W (He.ga K "Schema") spT) (hR : RefdOk W (He.ga K "Schema") spR) (hN : ∀ fs, Fn W spN [.ins (He.ga K "Schema") fs] 0 (fun _ => True)) (hX : TextOk W spX) (hp : p.rt (.str (schTxt ts rs))) :
    Es W (t_schema_text K spR spT spN spX E) [.dat (.ins (He.ga K "Schema") (schF ts rs)), .no, .no, .no, .no] 0 p := by
  have hPs := hP.perm (sortT_perm ts) (sortR_perm rs)
  have hPr := hP.perm (List.Perm.refl ts) (sortR_perm rs)
  refine es_seqE (c1 := 0) (c2 := 0) (Γ' := [.dat (.ins (He.ga K "Schema") (schF ts rs)), .no, .no, .no, .no]) (es_drop (c := 0) (ev_callS (c1 := 0) (c2 := 0) (ea_cons2 (c1 := 0) (c2 := 0) (ev_var rfl) ea_nil) (hN _)) rfl) ?_
  refine es_seqE (c1 := 0) (c2 := 0) (Γ' := [.dat (.ins (He.ga K "Schema") (schF ts rs)), .dat (.lst (((sortT ts).map tabW).map rowD)), .no, .no, .no]) (es_asgE (c := 0) (d := .lst (((sortT ts).map tabW).map rowD)) ?_ rfl) ?_
  · have hm := evF_map (K := K) (W := W) (Γ := [.dat (.ins (He.ga K "Schema") (schF ts rs)), .no, .no, .no, .no]) (Γ' := []) (i := 3) (n := 5) (c0 := 0) (cb := 0) (wi := iTup K (tProp (He.ga K "Schema") spT [] E0 (tVar 0))) (te := tTup (tCons (tC (.str "table")) (tCons (tVar 3) tNil))) (ds := (sortT ts).map Da.str) (f := fun d => .tup [.str "table", d])
      (ei_tup ((ev_propE (c1 := 0) (c2 := 0) (ev_var rfl) (hT ts rs)).imp fun d e => ⟨_, e, rfl⟩)) (fun d hd => by
        refine (ev_tup (P := (· = [.str "table", d])) (ea_cons2 (c1 := 0) (c2 := 0) ev_str (ea_cons2 (c1 := 0) (c2 := 0) (ev_var rfl) ea_nil)) (fun ds e => by rw [e]; simp)).imp fun e ⟨ds, h1, h2⟩ => by rw [h1, h2]) (by rw [List.length_map, (sortT_perm ts).length_eq]; exact hP.t5) (by decide)
    have e : ((sortT ts).map Da.str).map (fun d => Da.tup [.str "table", d]) = ((sortT ts).map tabW).map rowD := by
      rw [List.map_map, List.map_map]
      rfl
    rw [e] at hm
    exact hm.ev'
  refine es_seqE (c1 := 0) (c2 := 0) (Γ' := [.dat (.ins (He.ga K "Schema") (schF ts rs)), .dat (.lst (((sortT ts).map tabW).map rowD)), .dat (.dct (refsD (sortR rs))), .no, .no]) (es_asgE (c := 0) (d := .dct (refsD (sortR rs))) (ev_propE (c1 := 0) (c2 := 0) (ev_var rfl) (hR ts rs)) rfl) ?_
  refine es_retE (c := 0) (d := .str (schTxt ts rs)) ?_ hp
  have hm := evF_lc (K := K) (W := W) (Γ := [.dat (.ins (He.ga K "Schema") (schF ts rs)), .dat (.lst (((sortT ts).map tabW).map rowD)), .dat (.dct (refsD (sortR rs))), .no, .no]) (wi := iList K (tCB (rSortedA K) (tCons (tVar 2) tNil))) (g := gName 4) (vs := [4]) (tt := tYes) (te := tOp (rAddA K) (tTup (tCons (tC (.str "reference")) (tCons (tVar 4) tNil))) (tOp (rIxA K) (tVar 2) (tVar 4))) (c0 := 0) (cb := 0) (n := 6)
    (Pi := fun ds => ds = ((sortR rs).map fun r => r.1).map Da.str) (R := fun _ j acc => acc = ((sortR rs).take j).map fun r => rowD (refW r))
    (ei_list ((evF_cb (ea_cons2 (c1 := 0) (c2 := 0) (ev_var rfl) ea_nil) (fun ds e => by rw [e]; exact rcF_sortTD (refs_keys (sortR rs)) (by rw [List.length_map, (sortR_perm rs).length_eq]; have := hP.r6; omega))).ev'.imp fun d e => ⟨_, e, by rw [sortR_map, sortT_eq (sortT_perm _)]⟩)) (fun ds _ => rfl) (fun ds j d acc e hj ha => by
      rw [e, List.getElem?_map, List.getElem?_map] at hj
      cases hr : (sortR rs)[j]? with
      | none =>
        rw [hr] at hj
        cases hj
      | some r =>
        rw [hr] at hj
        cases hj
        have hm := List.mem_of_getElem? hr
        refine ⟨_, (· = true), 0, 0, eg_name, by omega, et_yes rfl, fun _ => ?_, fun z => by cases z⟩
        refine (ev_op2 (c1 := 0) (c2 := 0) (P := (· = rowD (refW r))) (d1 := .tup [.str "reference", .str r.1]) (d2 := endsD r) ((ev_tup (P := (· = [.str "reference", .str r.1])) (ea_cons2 (c1 := 0) (c2 := 0) ev_str (ea_cons2 (c1 := 0) (c2 := 0) (ev_var (d := .str r.1) rfl) ea_nil)) (fun ds e => by rw [e]; simp)).imp fun e ⟨ds, h1, h2⟩ => by rw [h1, h2])
          (ev_op2 (c1 := 0) (c2 := 0) (ev_var rfl) (ev_var (d := .str r.1) rfl) (rv_ixD (k := Sum.inr r.1) (val_ref hPr.rd hm) rfl)) (rv_addT (by simp) (by simp) (by simp) rfl)).imp fun d e => ?_
        rw [e, ha, List.take_succ, hr, List.map_append]
        rfl) (fun ds e => by rw [e, List.length_map, List.length_map, (sortR_perm rs).length_eq]; exact hP.r6) (by decide)
  have hm2 : Ev W (tLc (iList K (tCB (rSortedA K) (tCons (tVar 2) tNil))) (gName 4) tYes (tOp (rAddA K) (tTup (tCons (tC (.str "reference")) (tCons (tVar 4) tNil))) (tOp (rIxA K) (tVar 2) (tVar 4))) [4]) [.dat (.ins (He.ga K "Schema") (schF ts rs)), .dat (.lst (((sortT ts).map tabW).map rowD)), .dat (.dct (refsD (sortR rs))), .no, .no] 0 (· = .lst (((sortR rs).map refW).map rowD)) :=
    hm.ev.weak (by decide) fun d ⟨acc, e1, ds, e2, e3⟩ => by
      rw [e1, e3, e2, List.length_map, List.length_map, List.take_length, List.map_map]
      rfl
  have hro := rows_ok hPs
  have hl1 : ((sortT ts).map tabW).length + ((sortR rs).map refW).length ≤ 11 := by
    have := hro.2
    unfold rowsW at this
    rw [List.length_append] at this
    exact this
  refine ev_callE (c1 := 0) (c2 := 0) (ds := [.lst ((rowsW (sortT ts) (sortR rs)).map rowD)]) (ea_cons2 (c1 := 0) (c2 := 0) ((evF_addL (c1 := 0) (c2 := 0) (ev_var rfl) hm2 (by rw [List.length_map (f := rowD), List.length_map (f := rowD)]; omega)).ev'.imp fun d e => ?_) ea_nil) (hX _ hro.1 (by have := hro.2; omega))
  rw [e]
  unfold rowsW
  rw [List.map_append]
end
section
variable {K : PySem.W.Frag} {W : Wd K} {Γ : List En} {p : Po}
/-! ### rows of a text -/
theorem ev_neg {ta : TE} {i : Int} {c : Nat} (h : Ev W ta Γ c (· = .int i)) : Ev W (tUn (rU fun i => .int (-i)) ta) Γ c (· = .int (-i)) := fun H0 B0 B σ H M s hM Q q =>
  h H0 B0 B σ H M s hM _ fun v d H1 k r hd e => by
    subst e
    unfold Dat at hd
    exact ⟨i, hd, q _ _ H1 k r (dInt.mpr rfl) rfl⟩
theorem cut_last (xs : List Da) (d : Da) : cutD (xs ++ [d]) none (some (-1)) = xs := by
  show ((xs ++ [d]).drop 0).take ((-1 + ((xs ++ [d]).length : Int)).toNat - 0) = xs
  have e : (-1 + ((xs ++ [d]).length : Int)).toNat = xs.length := by
    rw [List.length_append, List.length_singleton]
    omega
  rw [e, Nat.sub_zero, List.drop_zero, List.take_left']
  rfl
theorem at_last (xs : List Da) (d : Da) : atI (xs ++ [d]) (-1) = some d := by
  unfold atI ixN
  rw [if_neg (by decide), if_pos (by rw [List.length_append, List.length_singleton]; omega)]
  have e : (-1 + ((xs ++ [d]).length : Int)).toNat = xs.length := by
    rw [List.length_append, List.length_singleton]
    omega
  rw [e]
  simp
theorem es_rows_of {ls : List Str} (h : ∀ l ∈ ls, 10 ∉ tl l) (hl : (textOf ls).length ≤ 100000) (hp : p.rt (.tup [.lst (ls.map Da.str), .str ""])) : Es W (t_rows_of K) [.dat (.str (textOf ls)), .no] 0 p := by
  refine es_seqE (c1 := 0) (c2 := 0) (Γ' := [.dat (.str (textOf ls)), .dat (.lst (ls.map Da.str ++ [.str ""]))]) (es_asgE (c := 0) (d := .lst (ls.map Da.str ++ [.str ""])) ?_ rfl) ?_
  · refine (evF_split (c1 := 0) (c2 := 0) (x := textOf ls) (y := "\n") (ev_var rfl) ev_str (by decide +kernel) hl).ev'.imp fun d e => ?_
    rw [e, split_text h, List.map_append]
    rfl
  · refine es_ret (c := 0) (ev_tup (P := (· = [.lst (ls.map Da.str), .str ""])) (ea_cons2 (c1 := 0) (c2 := 0) ?_ (ea_cons2 (c1 := 0) (c2 := 0) ?_ ea_nil)) (fun ds e => by rw [e]; simp)) (fun d ⟨ds, e1, e2⟩ => by rw [e1, e2]; exact hp)
    · refine (evF_slL (c0 := 0) (c1 := 0) (c2 := 0) (Pd := (· = ls.map Da.str ++ [.str ""])) ((ev_var rfl).imp fun d e => ⟨_, e, rfl⟩) eo_none (eo_int (ev_neg ev_int))).ev.imp fun d ⟨es, e1, ds, lo, hi, e2, e3, e4, e5⟩ => ?_
      rw [e1, e5, e2, e3, e4, cut_last]
    · exact ev_op2 (c1 := 0) (c2 := 0) (ev_var rfl) (ev_neg ev_int) (rv_ixL (at_last _ _) rfl)
def RowsOk (W : Wd K) (sp : Sp) : Prop := ∀ ls : List Str, (∀ l ∈ ls, 10 ∉ tl l) → (textOf ls).length ≤ 100000 → Fn W sp [.str (textOf ls)] 0 (· = .tup [.lst (ls.map Da.str), .str ""])
/-! ### what a row brings -/
theorem ev_w {i : Nat} {ws : List Str} {j : Nat} {w : Str} (hi : Γ[i]? = some (.dat (.lst (ws.map Da.str)))) (hw : ws[j]? = some w) : Ev W (tOp (rIxA K) (tVar i) (tC (.int (j : Nat)))) Γ 0 (· = .str w) := by
  refine ev_op2 (c1 := 0) (c2 := 0) (ev_var hi) ev_int (rv_ixL (atI_of (by omega) ?_) rfl)
  rw [Int.toNat_natCast, List.getElem?_map, hw]
  rfl
theorem ev_lenW {i : Nat} {ws : List Str} (hi : Γ[i]? = some (.dat (.lst (ws.map Da.str)))) : Ev W (tCB (rLenA K) (tCons (tVar i) tNil)) Γ 0 (· = .int ws.length) := by
  refine ev_cbE (ea_cons2 (c1 := 0) (c2 := 0) (ev_var hi) ea_nil) (rc_lenL ?_)
  rw [List.length_map]
theorem et_neI {ta tb : TE} {i j : Int} {c1 c2 : Nat} (ha : Ev W ta Γ c1 (· = .int i)) (hb : Ev W tb Γ c2 (· = .int j)) : EvT W (tTest (tOp (rNeA K) ta tb)) Γ (c1 + c2) (· = !decide (i = j)) :=
  et_testB (ev_op2 ha hb (rv_neF (w1 := .int i) (w2 := .int j) rfl rfl rfl (by congr 2; exact decide_eq_decide.mpr ⟨fun e => by injection e, fun e => by rw [e]⟩)))
theorem et_neS {ta tb : TE} {x y : Str} {c1 c2 : Nat} (ha : Ev W ta Γ c1 (· = .str x)) (hb : Ev W tb Γ c2 (· = .str y)) : EvT W (tTest (tOp (rNeA K) ta tb)) Γ (c1 + c2) (· = !decide (x = y)) :=
  et_testB (ev_op2 ha hb (rv_neF (w1 := .str x) (w2 := .str y) rfl rfl rfl (by congr 2; exact decide_eq_decide.mpr ⟨fun e => by injection e, fun e => by rw [e]⟩)))
theorem es_new_table {sp : Sp} {t : Str} {ts : List Str} (hN : IsNameOk W sp) (hn : isName t = true) (ht : t ∉ ts) (h5 : ts.length < 5) (hp : p.rt (.bl true)) :
    Es W (t_is_new_table K sp) [.dat (.lst ((tabW t).map Da.str)), .dat (.lst (ts.map Da.str)), .dat (.dct [])] 0 p := by
  have h6 := (name_len hn).2
  refine es_seqE (c1 := 0) (c2 := 0) (Γ' := [.dat (.lst ((tabW t).map Da.str)), .dat (.lst (ts.map Da.str)), .dat (.dct [])]) (es_ifB (c1 := 0) (c2 := 0) (b := false) ?_ (fun z => by cases z) (fun _ => es_next rfl)) ?_
  · refine et_orB (c1 := 0) (c2 := 0) (a := false) (b := false) ((et_neI (c1 := 0) (c2 := 0) (ev_lenW (ws := tabW t) rfl) ev_int).weak (Nat.le_refl _) fun b e => by rw [e]; rfl) (fun _ => ?_)
    refine et_orB (c1 := 0) (c2 := 0) (a := false) (b := false) ((et_neS (c1 := 0) (c2 := 0) (ev_w (j := 0) rfl rfl) ev_str).weak (Nat.le_refl _) fun b e => by rw [e]; decide +kernel) (fun _ => ?_)
    exact et_notB (a := true) (et_BB ((ev_callE (c1 := 0) (c2 := 0) (ea_cons2 (c1 := 0) (c2 := 0) (ev_w (j := 1) (w := t) rfl rfl) ea_nil) (hN t (by omega))).imp fun d e => by rw [e, hn]))
  · refine es_ret (c := 0) (P := (· = .bl (true && (true && true)))) ?_ (fun d e => by rw [e]; exact hp)
    refine ev_andB (c1 := 0) (c2 := 0) (ev_op2 (c1 := 0) (c2 := 0) (d2 := .dct []) (ev_var rfl) (evG_new.ev.imp fun d ⟨es, e1, e2⟩ => by rw [e1, e2]) (rv_eqK rfl rfl rfl)) (fun _ => ?_)
    refine ev_andB (c1 := 0) (c2 := 0) ((ev_op2 (c1 := 0) (c2 := 0) (ev_w (j := 1) (w := t) rfl rfl) (ev_var rfl) (rv_in_tk (neg := true) (tk := ts) (Or.inl rfl))).imp fun d e => by rw [e, if_pos rfl, decide_eq_false ht]; rfl) (fun _ => ?_)
    refine (ev_op2 (c1 := 0) (c2 := 0) (ev_lenW rfl) ev_int rv_I0B).imp fun d e => ?_
    rw [e, decide_eq_true (by omega)]
theorem es_new_tableN {sp : Sp} {r : Rf} {d1 d2 : Da} (hp : p.rt (.bl false)) : Es W (t_is_new_table K sp) [.dat (.lst ((refW r).map Da.str)), .dat d1, .dat d2] 0 p := by
  refine es_seq (c1 := 0) (c2 := 0) (N := fun _ => False) (es_ifB (c1 := 0) (c2 := 0) (b := true) ?_ (fun _ => es_retE ev_bl hp) (fun z => by cases z)) (fun _ z => z.elim)
  exact et_or (c1 := 0) (c2 := 0) (Pa := (· = true)) ((et_neI (c1 := 0) (c2 := 0) (ev_lenW (ws := refW r) rfl) ev_int).weak (Nat.le_refl _) fun b e => by rw [e]; rfl) (fun z => by cases z) (fun _ => rfl)
def NewTabOk (W : Wd K) (sp : Sp) : Prop := (∀ (t : Str) (ts : List Str), isName t = true → t ∉ ts → ts.length < 5 → Fn W sp [.lst ((tabW t).map Da.str), .lst (ts.map Da.str), .dct []] 0 (· = .bl true)) ∧ ∀ (r : Rf) (d1 d2 : Da), Fn W sp [.lst ((refW r).map Da.str), d1, d2] 0 (· = .bl false)
theorem es_new_ref {sp : Sp} {r : Rf} {ts : List Str} {rs : List Rf} (hK : KindsOk K (He.ga K "KINDS_texts")) (hN : IsNameOk W sp) (hn : isName r.1 = true) (hr : r.1 ∉ rs.map (·.1)) (h6 : rs.length < 6) (h1 : r.2.1 ∈ ts) (h2 : r.2.2.1 ∈ ts) (h3 : r.2.2.2 = "many" ∨ r.2.2.2 = "single") (hp : p.rt (.bl true)) :
    Es W (t_is_new_reference K sp) [.dat (.lst ((refW r).map Da.str)), .dat (.lst (ts.map Da.str)), .dat (.dct (refsD rs))] 0 p := by
  have hn6 := (name_len hn).2
  refine es_seqE (c1 := 0) (c2 := 0) (Γ' := [.dat (.lst ((refW r).map Da.str)), .dat (.lst (ts.map Da.str)), .dat (.dct (refsD rs))]) (es_ifB (c1 := 0) (c2 := 0) (b := false) ?_ (fun z => by cases z) (fun _ => es_next rfl)) ?_
  · refine et_orB (c1 := 0) (c2 := 0) (a := false) (b := false) ((et_neI (c1 := 0) (c2 := 0) (ev_lenW (ws := refW r) rfl) ev_int).weak (Nat.le_refl _) fun b e => by rw [e]; rfl) (fun _ => ?_)
    refine et_orB (c1 := 0) (c2 := 0) (a := false) (b := false) ((et_neS (c1 := 0) (c2 := 0) (ev_w (j := 0) rfl rfl) ev_str).weak (Nat.le_refl _) fun b e => by rw [e]; decide +kernel) (fun _ => ?_)
    refine et_orB (c1 := 0) (c2 := 0) (a := false) (b := false) (et_notB (a := true) (et_BB ((ev_callE (c1 := 0) (c2 := 0) (ea_cons2 (c1 := 0) (c2 := 0) (ev_w (j := 1) (w := r.1) rfl rfl) ea_nil) (hN r.1 (by omega))).imp fun d e => by rw [e, hn]))) (fun _ => ?_)
    exact et_testB ((ev_op2 (c1 := 0) (c2 := 0) (ev_w (j := 4) (w := r.2.2.2) rfl rfl) (ev_kinds hK) (rv_in_kinds (neg := true))).imp fun d e => by rw [e, if_pos rfl, decide_eq_true h3]; rfl)
  refine es_seqE (c1 := 0) (c2 := 0) (Γ' := [.dat (.lst ((refW r).map Da.str)), .dat (.lst (ts.map Da.str)), .dat (.dct (refsD rs))]) (es_ifB (c1 := 0) (c2 := 0) (b := false) ?_ (fun z => by cases z) (fun _ => es_next rfl)) ?_
  · refine et_orB (c1 := 0) (c2 := 0) (a := false) (b := false) (et_testB ((ev_op2 (c1 := 0) (c2 := 0) (ev_w (j := 1) (w := r.1) rfl rfl) (ev_var rfl) (rv_in_tk (neg := false) (tk := rs.map (·.1)) (Or.inr ⟨_, rfl, refs_keys rs⟩))).imp fun d e => by rw [e, if_neg Bool.false_ne_true, decide_eq_false hr])) (fun _ => ?_)
    refine et_testB (ev_op2 (c1 := 0) (c2 := 0) (d1 := .int rs.length) (ev_cbE (ea_cons2 (c1 := 0) (c2 := 0) (ev_var rfl) ea_nil) (rc_lenD (by unfold refsD; rw [List.length_map]))) ev_int (rv_eqF (w1 := .int rs.length) (w2 := .int 6) rfl rfl rfl ?_))
    rw [decide_eq_false (fun e => by injection e with e; omega)]
  · refine es_ret (c := 0) (P := (· = .bl (true && true))) ?_ (fun d e => by rw [e]; exact hp)
    refine ev_andB (c1 := 0) (c2 := 0) ((ev_op2 (c1 := 0) (c2 := 0) (ev_w (j := 2) (w := r.2.1) rfl rfl) (ev_var rfl) rv_in_ts).imp fun d e => by rw [e, decide_eq_true h1]) (fun _ => ?_)
    exact (ev_op2 (c1 := 0) (c2 := 0) (ev_w (j := 3) (w := r.2.2.1) rfl rfl) (ev_var rfl) rv_in_ts).imp fun d e => by rw [e, decide_eq_true h2]
def NewRefOk (W : Wd K) (sp : Sp) : Prop := ∀ (r : Rf) (ts : List Str) (rs : List Rf), isName r.1 = true → r.1 ∉ rs.map (·.1) → rs.length < 6 → r.2.1 ∈ ts → r.2.2.1 ∈ ts → (r.2.2.2 = "many" ∨ r.2.2.2 = "single") → Fn W sp [.lst ((refW r).map Da.str), .lst (ts.map Da.str), .dct (refsD rs)] 0 (· = .bl true)
end
end P75
set_option Elab.async false
set_option linter.all false
set_option maxRecDepth 100000
set_option maxHeartbeats 4000000
/-! R75: read_schema over data -/
namespace P75
open PySem L2 TL WJ
section
variable {K : PySem.W.Frag} {W : Wd K} {Γ : List En} {p : Po}
theorem lines_len (ts : List Str) (rs : List Rf) : (linesW ts rs).length = ts.length + rs.length := by
  unfold linesW rowsW
  rw [List.length_map, List.length_append, List.length_map, List.length_map]
theorem lines_tab {ts : List Str} {rs : List Rf} {i : Nat} {t : Str} (h : ts[i]? = some t) : (linesW ts rs)[i]? = some (Txt.join " " (tabW t)) := by
  have hi := (List.getElem?_eq_some_iff.mp h).1
  unfold linesW rowsW
  rw [List.getElem?_map, List.getElem?_append_left (by rw [List.length_map]; exact hi), List.getElem?_map, h]
  rfl
theorem lines_ref {ts : List Str} {rs : List Rf} {i : Nat} {r : Rf} (hi : ts.length ≤ i) (h : rs[i - ts.length]? = some r) : (linesW ts rs)[i]? = some (Txt.join " " (refW r)) := by
  unfold linesW rowsW
  rw [List.getElem?_map, List.getElem?_append_right (by rw [List.length_map]; exact hi), List.length_map, List.getElem?_map, h]
  rfl
theorem lines_ok {ts : List Str} {rs : List Rf} (hP : Parts ts rs) : (∀ l ∈ linesW ts rs, 10 ∉ tl l) ∧ (∀ l ∈ linesW ts rs, l.length ≤ 200) ∧ (linesW ts rs).length ≤ 11 := by
  obtain ⟨h1, h2⟩ := rows_ok hP
  refine ⟨fun l hl => ?_, fun l hl => ?_, by unfold linesW; rw [List.length_map]; exact h2⟩
  · obtain ⟨ws, hw, rfl⟩ := List.mem_map.mp hl
    exact no_nl (h1 ws hw).nl
  · obtain ⟨ws, hw, rfl⟩ := List.mem_map.mp hl
    exact (h1 ws hw).len
theorem text_len {ls : List Str} (h1 : ∀ l ∈ ls, l.length ≤ 200) (h2 : ls.length ≤ 100) : (textOf ls).length ≤ 100000 := by
  unfold textOf
  refine Nat.le_trans (join_len _ _) ?_
  rw [len_emp, Nat.mul_zero, Nat.add_zero, List.map_map]
  have := sum_le (f := (fun l : Str => l.length) ∘ fun l => l ++ "\n") (b := 201) (xs := ls) fun l h => by
    show (l ++ "\n").length ≤ 201
    rw [Str.length_append, len_nl]
    have := h1 l h
    omega
  have h3 : ls.length * 201 ≤ 100 * 201 := Nat.mul_le_mul_right 201 h2
  omega
theorem enum_get {ds : List Da} {i : Nat} {d : Da} (h : (enumD ds)[i]? = some d) : ∃ e, ds[i]? = some e ∧ d = .tup [.int i, e] := by
  unfold enumD at h
  rw [List.getElem?_mapIdx] at h
  cases e : ds[i]? with
  | none =>
    rw [e] at h
    cases h
  | some x =>
    rw [e] at h
    cases h
    exact ⟨x, rfl, rfl⟩
theorem enum_len (ds : List Da) : (enumD ds).length = ds.length := by simp [enumD]
theorem nodup_take {ts : List Str} (hd : ts.Nodup) {i : Nat} {t : Str} (h : ts[i]? = some t) : t ∉ ts.take i := fun z => by
  obtain ⟨j, hj⟩ := List.mem_iff_getElem?.mp z
  have hij : j < i := by
    have := (List.getElem?_eq_some_iff.mp hj).1
    rw [List.length_take] at this
    omega
  rw [List.getElem?_take_of_lt hij] at hj
  exact absurd ((List.getElem?_inj (List.getElem?_eq_some_iff.mp hj).1 hd).mp (hj.trans h.symm)) (by omega)
theorem es_read {spNR spNT spRows : Sp} {ts : List Str} {rs : List Rf} (hP : Parts ts rs) (hRo : RowsOk W spRows) (hNT : NewTabOk W spNT) (hNR : NewRefOk W spNR) (hp : p.rt (.ins (He.ga K "Schema") (schF ts rs))) :
    Es W (t_read_schema K (spI (He.ga K "Schema") (initT K)) spNR spNT spRows) [.dat (.str (textOf (linesW ts rs))), .no, .no, .no, .no, .no, .no, .no] 0 p := by
  obtain ⟨hl1, hl2, hl3⟩ := lines_ok hP
  have htl := text_len hl2 (by omega)
  refine es_seqE (c1 := 0) (c2 := 0) (Γ' := [.dat (.str (textOf (linesW ts rs))), .no, .no, .no, .no, .no, .no, .no]) (es_ifB (c1 := 0) (c2 := 0) (b := false) ?_ (fun z => by cases z) (fun _ => es_next rfl)) ?_
  · exact et_notB (a := true) (et_BB (ev_cbE (ea_cons2 (c1 := 0) (c2 := 0) (ev_var rfl) (ea_cons2 (c1 := 0) (c2 := 0) ev_ty ea_nil)) (rc_isi (t := "str") rfl rfl rfl)))
  refine es_seqE (c1 := 0) (c2 := 0) (Γ' := [.dat (.str (textOf (linesW ts rs))), .dat (.lst ((linesW ts rs).map Da.str)), .dat (.str ""), .no, .no, .no, .no, .no]) (es_asgG (c := 0) (vs := [1, 2]) (ev_callE (c1 := 0) (c2 := 0) (ea_cons2 (c1 := 0) (c2 := 0) (ev_var rfl) ea_nil) (hRo _ hl1 htl)) (fun d e => ⟨_, by rw [e]; exact eg_pair, rfl⟩)) ?_
  refine es_seqE (c1 := 0) (c2 := 0) (Γ' := [.dat (.str (textOf (linesW ts rs))), .dat (.lst ((linesW ts rs).map Da.str)), .dat (.str ""), .own [], .ownD [], .no, .no, .no]) (es_parE (c1 := 0) (c2 := 0) (P1 := fun e => e = .own []) (P2 := fun e => e = .ownD []) ?_ ?_ ?_) ?_
  · have h := (evF_nil (K := K) (W := W) (Γ := [.dat (.str (textOf (linesW ts rs))), .dat (.lst ((linesW ts rs).map Da.str)), .dat (.str ""), .no, .no, .no, .no, .no])).e
    exact fun H0 B0 B σ H M s hM Q k => h H0 B0 B σ H M s hM Q fun v e H' k1 k2 k3 ⟨d, k4, k5⟩ => k v e H' k1 k2 k3 (by rw [k4, k5])
  · have h := (evG_new (K := K) (W := W) (Γ := [.dat (.str (textOf (linesW ts rs))), .dat (.lst ((linesW ts rs).map Da.str)), .dat (.str ""), .no, .no, .no, .no, .no])).e
    exact fun H0 B0 B σ H M s hM Q k => h H0 B0 B σ H M s hM Q fun v e H' k1 k2 k3 ⟨d, k4, k5⟩ => k v e H' k1 k2 k3 (by rw [k4, k5])
  · rintro e1 e2 rfl rfl
    rfl
  -- the rows
  refine es_seq (c1 := 0) (c2 := 0) (N := fun Γ1 => ∃ x y z : En, Γ1 = [.dat (.str (textOf (linesW ts rs))), .dat (.lst ((linesW ts rs).map Da.str)), .dat (.str ""), .own (ts.map Da.str), .ownD (refsD rs), x, y, z])
    ((es_for (vs := [5, 6]) (n := 11) (c0 := 0) (cb := 0) (Pi := fun ds => ds = enumD ((linesW ts rs).map Da.str)) (I := fun _ i Γ1 => ∃ x y z : En, Γ1 = [.dat (.str (textOf (linesW ts rs))), .dat (.lst ((linesW ts rs).map Da.str)), .dat (.str ""), .own ((ts.take i).map Da.str), .ownD (refsD (rs.take (i - ts.length))), x, y, z]) ?_ ?_ ?_ ?_ ?_).weak (by decide)) ?_
  · exact ei_enum (c := 0) (ea_cons (c1 := 0) (c2 := 0) (ev_var rfl) ea_nil (fun d ds e1 e2 => ⟨_, by rw [e1, e2], rfl⟩))
  · rintro ds rfl
    exact ⟨.no, .no, .no, by rw [List.take_zero, Nat.zero_sub, List.take_zero]; rfl⟩
  · rintro ds i d Γ1 rfl hd ⟨x, y, z, rfl⟩
    obtain ⟨e, he, rfl⟩ := enum_get hd
    refine ⟨_, eg_pair, ?_⟩
    by_cases hi : i < ts.length
    · -- a table
      obtain ⟨t, ht⟩ : ∃ t, ts[i]? = some t := ⟨_, List.getElem?_eq_getElem hi⟩
      have hn : isName t = true := List.all_eq_true.mp hP.tn t (List.mem_of_getElem? ht)
      rw [List.getElem?_map, lines_tab ht] at he
      cases he
      have h0 : i - ts.length = 0 := by omega
      rw [h0, List.take_zero]
      have hw := row_tab hn
      refine es_seqE (c1 := 0) (c2 := 0) (Γ' := [.dat (.str (textOf (linesW ts rs))), .dat (.lst ((linesW ts rs).map Da.str)), .dat (.str ""), .own ((ts.take i).map Da.str), .ownD (refsD []), .dat (.int i), .dat (.str (Txt.join " " (tabW t))), .dat (.lst ((tabW t).map Da.str))]) (es_asgE (c := 0) (d := .lst ((tabW t).map Da.str)) ?_ rfl) ?_
      · refine (evF_split (c1 := 0) (c2 := 0) (x := Txt.join " " (tabW t)) (y := " ") (ev_var rfl) ev_str (by decide +kernel) (by have := hw.len; omega)).ev'.imp fun d e => ?_
        rw [e, split_words hw.ne hw.sp]
      refine es_ifB (c1 := 0) (c2 := 0) (b := true) ?_ (fun _ => ?_) (fun z => by cases z)
      · refine et_own (i := 3) rfl (et_ownD (i := 4) rfl (et_BB ?_))
        exact ev_callE (c1 := 0) (c2 := 0) (ea_cons2 (c1 := 0) (c2 := 0) (ev_var rfl) (ea_cons2 (c1 := 0) (c2 := 0) (ev_var rfl) (ea_cons2 (c1 := 0) (c2 := 0) (ev_var rfl) ea_nil))) (hNT.1 t (ts.take i) hn (nodup_take hP.td ht) (by rw [List.length_take]; have := hP.t5; omega))
      · refine es_append (i := 3) (c := 0) (ds := (ts.take i).map Da.str) rfl (ev_w (j := 1) (w := t) rfl rfl) (by rw [List.length_map, List.length_take]; have := hP.t5; omega) (fun d e => ?_)
        refine ⟨.dat (.int i), .dat (.str (Txt.join " " (tabW t))), .dat (.lst ((tabW t).map Da.str)), ?_⟩
        rw [e, List.take_succ, ht, List.map_append, show i + 1 - ts.length = 0 by omega, List.take_zero]
        rfl
    · -- a reference
      have hil : i < (linesW ts rs).length := by
        have := (List.getElem?_eq_some_iff.mp he).1
        rw [List.length_map] at this
        exact this
      rw [lines_len] at hil
      obtain ⟨r, hr⟩ : ∃ r, rs[i - ts.length]? = some r := ⟨_, List.getElem?_eq_getElem (by omega)⟩
      have hm := List.mem_of_getElem? hr
      have hn : isName r.1 = true := List.all_eq_true.mp hP.rn r.1 (List.mem_map.mpr ⟨r, hm, rfl⟩)
      obtain ⟨r1, r2, r3⟩ := hP.re r hm
      rw [List.getElem?_map, lines_ref (by omega) hr] at he
      cases he
      have ht : ts.take i = ts := List.take_of_length_le (by omega)
      rw [ht]
      have hw := row_ref hP hm
      have hnew := not_before hP.rd hr
      refine es_seqE (c1 := 0) (c2 := 0) (Γ' := [.dat (.str (textOf (linesW ts rs))), .dat (.lst ((linesW ts rs).map Da.str)), .dat (.str ""), .own (ts.map Da.str), .ownD (refsD (rs.take (i - ts.length))), .dat (.int i), .dat (.str (Txt.join " " (refW r))), .dat (.lst ((refW r).map Da.str))]) (es_asgE (c := 0) (d := .lst ((refW r).map Da.str)) ?_ rfl) ?_
      · refine (evF_split (c1 := 0) (c2 := 0) (x := Txt.join " " (refW r)) (y := " ") (ev_var rfl) ev_str (by decide +kernel) (by have := hw.len; omega)).ev'.imp fun d e => ?_
        rw [e, split_words hw.ne hw.sp]
      refine es_ifB (c1 := 0) (c2 := 0) (b := false) ?_ (fun z => by cases z) (fun _ => ?_)
      · refine et_own (i := 3) rfl (et_ownD (i := 4) rfl (et_BB ?_))
        exact ev_callE (c1 := 0) (c2 := 0) (ea_cons2 (c1 := 0) (c2 := 0) (ev_var rfl) (ea_cons2 (c1 := 0) (c2 := 0) (ev_var rfl) (ea_cons2 (c1 := 0) (c2 := 0) (ev_var rfl) ea_nil))) (hNT.2 r _ _)
      refine es_ifB (c1 := 0) (c2 := 0) (b := true) ?_ (fun _ => ?_) (fun z => by cases z)
      · refine et_own (i := 3) rfl (et_ownD (i := 4) rfl (et_BB ?_))
        exact ev_callE (c1 := 0) (c2 := 0) (ea_cons2 (c1 := 0) (c2 := 0) (ev_var rfl) (ea_cons2 (c1 := 0) (c2 := 0) (ev_var rfl) (ea_cons2 (c1 := 0) (c2 := 0) (ev_var rfl) ea_nil))) (hNR r ts _ hn hnew (by rw [List.length_take]; have := hP.r6; have := (List.getElem?_eq_some_iff.mp hr).1; omega) r1 r2 r3)
      · refine es_dput (i := 4) (c1 := 0) (c2 := 0) (es := refsD (rs.take (i - ts.length))) rfl (P := (· = endsD r)) (Pk := (· = Sum.inr r.1)) ?_ ((ev_w (j := 1) (w := r.1) rfl rfl).imp fun d e => ⟨Sum.inr r.1, e, rfl⟩) (by unfold refsD; rw [List.length_map, List.length_take]; have := hP.r6; omega) (fun d k e1 e2 => ?_)
        · refine (ev_tup (P := (· = [.str r.2.1, .str r.2.2.1, .str r.2.2.2])) (ea_cons2 (c1 := 0) (c2 := 0) (ev_w (j := 2) (w := r.2.1) rfl rfl) (ea_cons2 (c1 := 0) (c2 := 0) (ev_w (j := 3) (w := r.2.2.1) rfl rfl) (ea_cons2 (c1 := 0) (c2 := 0) (ev_w (j := 4) (w := r.2.2.2) rfl rfl) ea_nil))) (fun ds e => by rw [e]; simp)).imp fun d ⟨ds, e1, e2⟩ => by rw [e1, e2]; rfl
        · refine ⟨.dat (.int i), .dat (.str (Txt.join " " (refW r))), .dat (.lst ((refW r).map Da.str)), ?_⟩
          have ht2 : ts.take (i + 1) = ts := List.take_of_length_le (by omega)
          rw [e1, e2, put_new (refs_new hnew), ht2, show i + 1 - ts.length = (i - ts.length) + 1 by omega, List.take_succ, hr]
          unfold refsD
          rw [List.map_append]
          rfl
  · rintro ds Γ1 rfl ⟨x, y, z, rfl⟩
    refine ⟨x, y, z, ?_⟩
    rw [enum_len, List.length_map, lines_len, List.take_of_length_le (by omega), List.take_of_length_le (by omega)]
  · rintro ds rfl
    rw [enum_len, List.length_map]
    exact hl3
  rintro Γ1 ⟨x, y, z, rfl⟩
  refine es_freeze (i := 3) rfl (es_freezeD (i := 4) rfl ?_)
  refine es_seqE (c1 := 0) (c2 := 0) (Γ' := [.dat (.str (textOf (linesW ts rs))), .dat (.lst ((linesW ts rs).map Da.str)), .dat (.str ""), .dat (.lst (ts.map Da.str)), .dat (.dct (refsD rs)), x, y, z]) (es_ifB (c1 := 0) (c2 := 0) (b := false) ?_ (fun z => by cases z) (fun _ => es_next rfl)) ?_
  · refine et_orB (c1 := 0) (c2 := 0) (a := false) (b := false) ((et_neS (c1 := 0) (c2 := 0) (x := "") (y := "") (ev_var rfl) ev_str).weak (Nat.le_refl _) fun b e => by rw [e]; decide +kernel) (fun _ => ?_)
    refine et_testB ((ev_op2 (c1 := 0) (c2 := 0) (ev_var rfl) ev_nil (rv_eqS (names_okS hP.tn) rfl)).imp fun d e => ?_)
    rw [e, decide_eq_false (fun e => by have := hP.t1; rw [e] at this; simp at this)]
  · refine es_ret (c := 0) (ev_make (c1 := 0) (c2 := 0) (Pa := (· = [.lst (ts.map Da.str), .dct (refsD rs)])) (Pf := (· = schF ts rs)) (ea_cons2 (c1 := 0) (c2 := 0) (ev_var rfl) (ea_cons2 (c1 := 0) (c2 := 0) (ev_var rfl) ea_nil)) (fun ds e => ⟨ts, rs, hP, e, rfl, rfl⟩)) (fun d ⟨fs, e1, e2⟩ => by rw [e1, e2]; exact hp)
def ReadOk (W : Wd K) (sp : Sp) : Prop := ∀ (ts : List Str) (rs : List Rf), Parts ts rs → Fn W sp [.str (textOf (linesW ts rs))] 0 (· = .ins (He.ga K "Schema") (schF ts rs))
end
end P75
set_option Elab.async false
set_option linter.all false
set_option maxRecDepth 100000
set_option maxHeartbeats 4000000
/-! S75: what is refused, sorted items, a turn of law k75 -/
namespace P75
open PySem L2 TL WJ
section
variable {K : PySem.W.Frag} {W : Wd K} {Γ : List En} {p : Po}
/-! ### schema_text as a promise -/
def txtC (K : PySem.W.Frag) : Ct K := fun W ds c P => ∃ ts rs, Parts ts rs ∧ ds = [.ins (He.ga K "Schema") (schF ts rs)] ∧ c = 0 ∧ P (.str (schTxt ts rs))
theorem esE_text {E : XK} {spR spT spX' : Sp} {d : Da} (h : NoSch K (He.ga K "Schema") d) : EsE W (t_schema_text K spR spT (spX (needC K) (needR K)) spX' E) [.dat d, .no, .no, .no, .no] (.ref (He.ga K "NoSchema")) E :=
  esE_seq (esE_call (ds := [d]) ⟨d, rfl, h, rfl⟩ (ea_cons2 (c1 := 0) (c2 := 0) (ev_var rfl) ea_nil))
/-! ### _law_is_refused -/
def t_refused (K : PySem.W.Frag) : TS :=
  tSeq (tAsg (tC .non) (gName 1)) (tSeq (fun D σ H => tDrop (tCallS (spX (txtC K) (needR K)) (WE (wKeep K (.ref (He.ga K "JoinError")) 2 (fun _ _ _ => tAsg (tVar 2) (gName 1)) (fun _ _ _ _ => False) D)) (tCons (tVar 0) tNil)) D σ H)
    (tRet (tAndV (tCB (rIsiX K) (tCons (tVar 1) (tCons (tC (.ref (He.ga K "NoSchema"))) tNil))) (tCB (rIsiX K) (tCons (tVar 1) (tCons (tC (.ty "ValueError")) tNil))))))
structure ExFacts (K : PySem.W.Frag) : Prop where
  c : ExcC K (He.ga K "NoSchema")
  x : PySem.W.exmOne K (.ref (He.ga K "NoSchema")) (.ref (He.ga K "JoinError")) = some true
  n : PySem.W.kitOne K (.ref (He.ga K "NoSchema")) (.ref (He.ga K "NoSchema")) = some true
  v : PySem.W.kitOne K (.ref (He.ga K "NoSchema")) (.type "ValueError") = some true
theorem es_refused {d : Da} (hX : ExFacts K) (h : NoSch K (He.ga K "Schema") d) (hp : p.rt (.bl true)) : Es W (t_refused K) [.dat d, .no, .no] 0 p := by
  refine es_seqE (c1 := 0) (c2 := 0) (Γ' := [.dat d, .dat .non, .no]) (es_asgE ev_non rfl) ?_
  refine es_seqE (c1 := 0) (c2 := 0) (Γ' := [.dat d, .dat (.exc (.ref (He.ga K "NoSchema")) []), .no]) (es_tryKeep (ds := [d]) (i := 2) (j := 1) ⟨d, rfl, h, rfl⟩ (ea_cons2 (c1 := 0) (c2 := 0) (ev_var rfl) ea_nil) (by decide) (Nat.lt_succ_self 2) hX.x rfl) ?_
  refine es_ret (c := 0) (P := (· = .bl (true && true))) ?_ (fun d e => by rw [e]; exact hp)
  exact ev_andB (c1 := 0) (c2 := 0) (ev_cbE (ea_cons2 (c1 := 0) (c2 := 0) (ev_var rfl) (ea_cons2 (c1 := 0) (c2 := 0) ev_obj ea_nil)) (rc_isEO hX.c hX.n rfl)) (fun _ => ev_cbE (ea_cons2 (c1 := 0) (c2 := 0) (ev_var rfl) (ea_cons2 (c1 := 0) (c2 := 0) ev_ty ea_nil)) (rc_isET hX.c hX.v rfl))
def RefusedOk (W : Wd K) (sp : Sp) : Prop := ∀ d, NoSch K (He.ga K "Schema") d → Fn W sp [d] 0 (· = .bl true)
/-! ### items -/
def itemR (r : Rf) : Da := .tup [.str r.1, endsD r]
theorem items_refs (rs : List Rf) : itemsD (refsD rs) = rs.map itemR := by
  unfold itemsD refsD
  rw [List.map_map]
  rfl
theorem itemR_py (r : Rf) : (itemR r).py = .tuple [.str r.1, .tuple [.str r.2.1, .str r.2.2.1, .str r.2.2.2]] := by
  unfold itemR endsD
  simp only [Da.py, pys]
theorem leD_item {a b : Rf} (h : a.1 = b.1 → a = b) : leT a.1 b.1 = leD (itemR a) (itemR b) := by
  unfold leT leD
  rw [itemR_py, itemR_py, PySem.W.dataLt_tuple]
  by_cases e : a.1 = b.1
  · have e2 := h e
    subst e2
    rw [PyProof.Rows.lex_irrefl, decide_eq_false (List.lt_irrefl _)]
  · rw [PySem.W.dataLt_all_no (x := .str b.1) (y := .str a.1) rfl ?_, PySem.W.dataLt_str]
    show (PyData.eqv (.str b.1) (.str a.1)) = false
    have : (b.1 == a.1) = false := by
      rw [beq_eq_false_iff_ne]
      exact fun z => e z.symm
    simpa [PyData.eqv] using this
theorem items_sorted {ts : List Str} {rs : List Rf} (hP : Parts ts rs) : sortD (itemsD (refsD rs)) = itemsD (refsD (sortR rs)) := by
  rw [items_refs, items_refs]
  unfold sortD sortR sortBy
  exact (PySem.W.sort_maps itemR fun a ha b hb => leD_item (fun e => key_inj hP.rd a ha b hb e)).symm
theorem items_ok (rs : List Rf) : SortOk (itemsD (refsD rs)) := by
  have hp : pys (itemsD (refsD rs)) = rs.map fun r => (itemR r).py := by
    rw [pys_map, items_refs, List.map_map]
    rfl
  refine ⟨?_, ?_, ?_, ?_⟩
  · rw [items_refs]
    induction rs with
    | nil => rfl
    | cons r rs ih =>
      rw [List.map_cons]
      unfold plains
      rw [ih (by rw [pys_map, items_refs, List.map_map]; rfl)]
      rfl
  · rw [hp]
    intro d hd d' hd'
    obtain ⟨r, _, rfl⟩ := List.mem_map.mp hd
    obtain ⟨r', _, rfl⟩ := List.mem_map.mp hd'
    rw [itemR_py, itemR_py]
    rfl
  · rw [hp]
    refine Or.inl fun d hd => ?_
    obtain ⟨r, _, rfl⟩ := List.mem_map.mp hd
    exact ⟨_, _, itemR_py r⟩
  · rw [hp]
    intro d hd
    obtain ⟨r, _, rfl⟩ := List.mem_map.mp hd
    rw [itemR_py]
    simp [PyData.depth, PyData.depthAll]
theorem items_plain {ts : List Str} {rs : List Rf} (hP : Parts ts rs) : (Da.lst (itemsD (refsD rs))).plain = true ∧ SeqAt.shaped (Da.lst (itemsD (refsD rs))).py = true ∧ PyData.eqv (Da.lst (itemsD (refsD rs))).py (Da.lst (itemsD (refsD rs))).py = true := by
  have hpy : (Da.lst (itemsD (refsD rs))).py = .list (rs.map fun r => (itemR r).py) := by
    rw [Da.py, pys_map, items_refs, List.map_map]
    rfl
  refine ⟨(items_ok rs).pl, ?_, ?_⟩
  · rw [hpy]
    refine shaped_of ?_ ?_
    · rw [PyData.canLay0]
      have : ∀ qs : List Rf, (∀ r ∈ qs, r ∈ rs) → PyData.canLayAll0 (qs.map fun r => (itemR r).py) = true := by
        intro qs
        induction qs with
        | nil => intro _; rfl
        | cons r qs ih =>
          intro h
          have hr := h r List.mem_cons_self
          have hn : okS r.1 = true := name_ok (List.all_eq_true.mp hP.rn r.1 (List.mem_map.mpr ⟨r, hr, rfl⟩))
          have he := hP.ends hr
          rw [List.map_cons]
          unfold PyData.canLayAll0
          rw [ih fun x hx => h x (List.mem_cons_of_mem _ hx), Bool.and_true, itemR_py]
          have h4 := can_strs [r.1, r.2.1, r.2.2.1, r.2.2.2] (by simpa [hn] using he)
          simp only [List.map_cons, List.map_nil, PyData.canLayAll0, Bool.and_true, Bool.and_eq_true] at h4
          simp only [PyData.canLay0, PyData.canLayAll0, Bool.and_true, Bool.and_eq_true]
          exact ⟨h4.1, h4.2⟩
      exact this rs fun _ h => h
    · rw [PyData.depth]
      have : ∀ qs : List Rf, PyData.depthAll (qs.map fun r => (itemR r).py) ≤ 10 := by
        intro qs
        induction qs with
        | nil => decide
        | cons r qs ih =>
          rw [List.map_cons]
          unfold PyData.depthAll
          rw [itemR_py]
          simp only [PyData.depth, PyData.depthAll]
          omega
      have := this rs
      omega
  · rw [hpy, PyData.eqv]
    have : ∀ qs : List Rf, PyData.eqvAll (qs.map fun r => (itemR r).py) (qs.map fun r => (itemR r).py) = true := by
      intro qs
      induction qs with
      | nil => rfl
      | cons r qs ih =>
        rw [List.map_cons]
        unfold PyData.eqvAll
        rw [ih, Bool.and_true, itemR_py]
        simp [PyData.eqv, PyData.eqvAll]
    exact this rs
end
end P75
set_option Elab.async false
set_option linter.all false
set_option maxRecDepth 100000
set_option maxHeartbeats 4000000
/-! L75: the law's body behind its source -/
namespace P75
open PySem L2 TL WJ
def t_law_1 (K : PySem.W.Frag) (sp_Schema : Sp) (sp_Schema___eq__ : Sp) (sp_Schema_references : Sp) (sp_Schema_tables : Sp) (sp__law_is_refused : Sp) (sp__law_parts : Sp) (sp__law_pick : Sp) (sp__law_shuffled : Sp) (sp_read_schema : Sp) (sp_schema_text : Sp) : TS :=
  (tSeq (tFor (iRng1 (tCons (tCB (rMaxA) (tCons (tC (.int 1)) (tCons (tCB (rMinA) (tCons (tC (.int 3)) (tCons (tCB (rLenA K) (tCons (tVar 0) tNil)) tNil))) tNil))) tNil)) (gName 2)
    (tSeq (tAsg (tCall sp__law_parts [] E0 (tCons (tVar 1) tNil)) (gTup K 2 (gCons (gName 3) (gCons (gName 4) gNil))))
    (tSeq (tAsg (tMake (He.ga K "Schema") sp_Schema [] E0 (tCons (tVar 3) (tCons (tVar 4) tNil))) (gName 5))
    (tSeq (tAsg (tLc (iList K (tCB (rSortedA K) (tCons (tVar 3) tNil))) (gName 13) tYes (tOp (rAddA K) (tC (.str "table ")) (tVar 13)) [13]) (gName 6))
    (tSeq (tAsg (tLc (iList K (tCB (rSortedA K) (tCons (tVar 4) tNil))) (gName 14) tYes (tOp (rAddA K) (tC (.str "reference ")) (tM1 (r_join K) (tC (.str " ")) (tOp (rAddA K) (tTup (tCons (tVar 14) tNil)) (tOp (rIxA K) (tVar 4) (tVar 14))))) [14]) (gName 7))
    (tSeq (tAsg (tM1 (r_join K) (tC (.str "")) (tLc (iList K (tOp (rAddA K) (tVar 6) (tVar 7))) (gName 15) tYes (tOp (rAddA K) (tVar 15) (tC (.str "\n"))) [15])) (gName 8))
    (tSeq (tIfS (tOr (tTest (tOp (rNeA K) (tCall sp_schema_text [] E0 (tCons (tVar 5) tNil)) (tVar 8))) (tTest (tOp (rNeA K) (tCall sp_schema_text [] E0 (tCons (tVar 5) tNil)) (tVar 8))))
    (tRet (tC (.bl false)))
    tNext)
    (tSeq (tAsg (tM1 (r_join K) (tC (.str "")) (tLc (iList K (tOp (rAddA K) (tCall sp__law_shuffled [] E0 (tCons (tVar 1) (tCons (tVar 6) tNil))) (tCall sp__law_shuffled [] E0 (tCons (tVar 1) (tCons (tVar 7) tNil))))) (gName 15) tYes (tOp (rAddA K) (tVar 15) (tC (.str "\n"))) [15])) (gName 9))
    (tFor (iTup K (tTup (tCons (tVar 8) (tCons (tVar 9) tNil)))) (gName 10)
    (tSeq (tAsg (tCall sp_read_schema [] E0 (tCons (tVar 10) tNil)) (gName 11))
    (tSeq (tIfS (tOr (tNot (tB (tCB (rIsiA K) (tCons (tVar 11) (tCons (tC (.ref (He.ga K "Schema"))) tNil))))) (tOr (tNot (tTest (tOp (rEqO (He.ga K "Schema") sp_Schema___eq__ E0) (tVar 11) (tVar 5)))) (tTest (tOp (rNeA K) (tCall sp_schema_text [] E0 (tCons (tCall sp_read_schema [] E0 (tCons (tVar 10) tNil)) tNil)) (tVar 8)))))
    (tRet (tC (.bl false)))
    tNext)
    (tIfS (tOr (tTest (tOp (rNeA K) (tProp (He.ga K "Schema") sp_Schema_tables [] E0 (tVar 11)) (tCB (rTupA K) (tCons (tCB (rSortedA K) (tCons (tVar 3) tNil)) tNil)))) (tTest (tOp (rNeA K) (tCB (rListIt K) (tCons (tItemsV (tProp (He.ga K "Schema") sp_Schema_references [] E0 (tVar 11))) tNil)) (tCB (rSortIts K) (tCons (tItemsV (tVar 4)) tNil)))))
    (tRet (tC (.bl false)))
    tNext))))))))))))
    (tSeq (tAsg (tLst (tCons (tC .non) (tCons (tC (.int 5)) (tCons (tC (.str "table a\n")) (tCons tDNewK (tCons (tLst tNil) (tCons (tC (.bl true)) (tCons (tTup (tCons (tC (.str "a")) tNil)) (tCons (tTup (tCons (tLst (tCons (tC (.str "a")) tNil)) (tCons tDNewK tNil))) tNil))))))))) (gName 12))
    (tRet (tCall sp__law_is_refused [] E0 (tCons (tCall sp__law_pick [] E0 (tCons (tVar 1) (tCons (tVar 12) tNil))) tNil)))))
section
variable {K : PySem.W.Frag} {W : Wd K} {Γ : List En} {p : Po}
theorem two_ints {B : List Addr} {H : Hp} {vs : List V} {i j : Int} (h : Dats K B H vs [.int i, .int j]) : vs = [.int i, .int j] := by
  unfold Dats at h
  obtain ⟨v, r, rfl, h1, t1⟩ := h
  unfold Dats at t1
  obtain ⟨v2, r2, rfl, h2, t2⟩ := t1
  unfold Dats at t2
  unfold Dat at h1 h2
  rw [t2, h1, h2]
theorem rc_max {i j : Int} : Rc W rMaxA [.int i, .int j] (· = .int (if j > i then j else i)) := fun B H M vs s h Q q =>
  ⟨i, j, two_ints h, q _ _ H Kp.refl s.dr (dInt.mpr rfl) rfl⟩
theorem rc_min {i j : Int} : Rc W rMinA [.int i, .int j] (· = .int (if j < i then j else i)) := fun B H M vs s h Q q =>
  ⟨i, j, two_ints h, q _ _ H Kp.refl s.dr (dInt.mpr rfl) rfl⟩
theorem ev_textP {wi : TI} {Pl : List Str → Prop} {i c0 n : Nat} (hi : Ei W wi Γ c0 (fun ds => ∃ ls : List Str, ds = ls.map Da.str ∧ Pl ls)) (hl : ∀ ls, Pl ls → (∀ l ∈ ls, l.length ≤ 200) ∧ ls.length ≤ n) (hz : n ≤ 100) (hi0 : i < Γ.length) :
    Ev W (tM1 (r_join K) (tC (.str "")) (tLc wi (gName i) tYes (tOp (rAddA K) (tVar i) (tC (.str "\n"))) [i])) Γ c0 (fun d => ∃ ls, Pl ls ∧ d = .str (textOf ls)) := by
  have hm := evF_lc (K := K) (W := W) (Γ := Γ) (wi := wi) (g := gName i) (vs := [i]) (tt := tYes) (te := tOp (rAddA K) (tVar i) (tC (.str "\n"))) (c0 := c0) (cb := 0) (n := n) (Pi := fun ds => ∃ ls : List Str, ds = ls.map Da.str ∧ Pl ls) (R := fun ds j acc => ∃ ls : List Str, ds = ls.map Da.str ∧ Pl ls ∧ acc = ((ls.take j).map fun l : Str => l ++ "\n").map Da.str)
    hi (fun ds ⟨ls, e, h⟩ => ⟨ls, e, h, rfl⟩) (fun ds j d acc _ hj ⟨ls, e, h, ha⟩ => by
      rw [e, List.getElem?_map] at hj
      cases hr : ls[j]? with
      | none =>
        rw [hr] at hj
        cases hj
      | some l =>
        rw [hr] at hj
        cases hj
        have hl1 := (hl ls h).1 l (List.mem_of_getElem? hr)
        refine ⟨_, (· = true), 0, 0, eg_name, by omega, et_yes rfl, fun _ => ?_, fun z => by cases z⟩
        refine (ev_addS (c1 := 0) (c2 := 0) (ev_var (d := .str l) ?_) ev_str (by rw [len_nl]; omega)).imp fun d e2 => ⟨ls, e, h, ?_⟩
        · show ((Γ.set i .no).set i (.dat (.str l)))[i]? = _
          rw [List.getElem?_set_self (by rw [List.length_set]; exact hi0)]
        · rw [e2, ha, List.take_succ, hr, List.map_append, List.map_append]
          rfl) (fun ds ⟨ls, e, h⟩ => by rw [e, List.length_map]; exact (hl ls h).2) (by omega)
  have hm2 := hm.ev.weak (P' := fun d => ∃ xs : List Str, d = .lst (xs.map Da.str) ∧ ∃ ls : List Str, Pl ls ∧ xs = ls.map fun l : Str => l ++ "\n") (c' := c0) (by omega) fun d ⟨acc, e1, ds, _, ls, e2, h, e3⟩ => ⟨ls.map fun l : Str => l ++ "\n", by rw [e1, e3, e2, List.length_map, List.take_length], ls, h, rfl⟩
  refine (ev_joinP (c1 := 0) (n := 0) (x := "") ev_str hm2 fun xs ⟨ls, h, e⟩ => ?_).weak (by omega) fun d ⟨xs, h1, ls, h2, h3⟩ => ⟨ls, h2, by rw [h1, h3]; rfl⟩
  rw [e, len_emp, Nat.mul_zero, Nat.add_zero, List.map_map]
  obtain ⟨h4, h5⟩ := hl ls h
  have := sum_le (f := (fun l : Str => l.length) ∘ fun l : Str => l ++ "\n") (b := 201) (xs := ls) fun l h6 => by
    show (l ++ "\n").length ≤ 201
    rw [Str.length_append, len_nl]
    have := h4 l h6
    omega
  have h3 : ls.length * 201 ≤ 100 * 201 := Nat.mul_le_mul_right 201 (by omega)
  omega
def PartsOk (W : Wd K) (q : Addr) (sp : Sp) : Prop := ∀ P : Da → Prop, (∀ ts rs, Parts ts rs → P (.tup [.lst (ts.map Da.str), .dct (refsD rs)])) → Fn W sp [.obj q] 800 P
def ShufOk (W : Wd K) (q : Addr) (sp : Sp) : Prop := ∀ (xs : List Str) (P : Da → Prop), xs.length ≤ 11 → xs.all okS = true → (∀ ys : List Str, ys.Perm xs → P (.lst (ys.map Da.str))) → Fn W sp [.obj q, .lst (xs.map Da.str)] 12 P
/-- all that the body calls -/
structure LawOk (W : Wd K) (q : Addr) (spEq spRefd spTabs spRefu spParts spPick spShuf spRead spTxt : Sp) : Prop where
  cl : C8.InsC K (He.ga K "Schema")
  eq : EqOk W (He.ga K "Schema") spEq
  rf : RefdOk W (He.ga K "Schema") spRefd
  tb : TabsOk W (He.ga K "Schema") spTabs
  re : RefusedOk W spRefu
  pa : PartsOk W q spParts
  pk : PickOk W q spPick
  sh : ShufOk W q spShuf
  rd : ReadOk W spRead
  tx : ∀ ts rs, Parts ts rs → Fn W spTxt [.ins (He.ga K "Schema") (schF ts rs)] 0 (· = .str (schTxt ts rs))
  no : ∀ n ∈ ["NoneType", "int", "str", "dict", "list", "bool", "tuple"], PySem.W.kitOne K (.type n) (.ref (He.ga K "Schema")) = some false
theorem tab_line (t : Str) : ("table " : Str) ++ t = Txt.join " " (tabW t) := by
  unfold tabW
  rw [join_cons, join_one]
  have e : ("table " : Str) = ("table" : Str) ++ (" " : Str) := by decide +kernel
  rw [e]
theorem ref_line (r : Rf) : ("reference " : Str) ++ Txt.join " " [r.1, r.2.1, r.2.2.1, r.2.2.2] = Txt.join " " (refW r) := by
  unfold refW
  rw [join_cons (x := "reference")]
  have e : ("reference " : Str) = ("reference" : Str) ++ (" " : Str) := by decide +kernel
  rw [e]
theorem len_table : ("table " : Str).length = 6 := by decide +kernel
theorem len_ref : ("reference " : Str).length = 10 := by decide +kernel
def firstL (ts : List Str) : List Str := ts.map fun t => Txt.join " " (tabW t)
def laterL (rs : List Rf) : List Str := rs.map fun r => Txt.join " " (refW r)
theorem lines_app (ts : List Str) (rs : List Rf) : linesW ts rs = firstL ts ++ laterL rs := by
  unfold linesW rowsW firstL laterL
  rw [List.map_append, List.map_map, List.map_map]
  rfl
theorem okS_tl {x : Str} : okS x = true ↔ ∀ c ∈ tl x, c < 0x110000 := by
  unfold okS tl
  rw [← Array.all_toList, List.all_eq_true]
  exact ⟨fun h c hc => of_decide_eq_true (h c hc), fun h c hc => decide_eq_true (h c hc)⟩
theorem in_joinL {c : Nat} {S : List Nat} : ∀ {ps : List (List Nat)}, c ∈ joinL S ps → c ∈ S ∨ ∃ p ∈ ps, c ∈ p
  | [], h => by cases h
  | [p], h => Or.inr ⟨p, List.mem_cons_self, h⟩
  | p :: q :: r, h => by
    rw [joinL] at h
    rcases List.mem_append.mp h with z | z
    · exact Or.inr ⟨p, List.mem_cons_self, z⟩
    · rcases List.mem_append.mp z with z | z
      · exact Or.inl z
      · rcases in_joinL z with z | ⟨x, hx, z⟩
        · exact Or.inl z
        · exact Or.inr ⟨x, List.mem_cons_of_mem _ hx, z⟩
theorem okS_join {ws : List Str} (h : ws.all okS = true) : okS (Txt.join " " ws) = true := by
  rw [okS_tl, join_eq, tl_join, tl_sp]
  intro c hc
  rcases in_joinL hc with z | ⟨x, hx, z⟩
  · rw [List.mem_singleton.mp z]
    decide
  · obtain ⟨w, hw, rfl⟩ := List.mem_map.mp hx
    exact okS_tl.mp (List.all_eq_true.mp h w hw) c z
theorem lines_okS {ts : List Str} {rs : List Rf} (hP : Parts ts rs) : (firstL ts).all okS = true ∧ (laterL rs).all okS = true := by
  refine ⟨List.all_eq_true.mpr fun l hl => ?_, List.all_eq_true.mpr fun l hl => ?_⟩
  · obtain ⟨t, ht, rfl⟩ := List.mem_map.mp hl
    refine okS_join ?_
    unfold tabW
    simp only [List.all_cons, List.all_nil, Bool.and_true, Bool.and_eq_true]
    exact ⟨by decide +kernel, name_ok (List.all_eq_true.mp hP.tn t ht)⟩
  · obtain ⟨r, hr, rfl⟩ := List.mem_map.mp hl
    refine okS_join ?_
    unfold refW
    have h1 := hP.ends hr
    simp only [List.all_cons, List.all_nil, Bool.and_true, Bool.and_eq_true] at h1 ⊢
    exact ⟨by decide +kernel, name_ok (List.all_eq_true.mp hP.rn r.1 (List.mem_map.mpr ⟨r, hr, rfl⟩)), h1⟩
theorem firstL_perm {ts : List Str} {ys : List Str} (h : ys.Perm (firstL ts)) : ∃ ts' : List Str, ts'.Perm ts ∧ ys = firstL ts' := by
  obtain ⟨l, h1, h2⟩ := L2.perm_lift (fun t => Txt.join " " (tabW t)) h ts rfl
  exact ⟨l, h1, h2.symm⟩
theorem laterL_perm {rs : List Rf} {ys : List Str} (h : ys.Perm (laterL rs)) : ∃ rs' : List Rf, rs'.Perm rs ∧ ys = laterL rs' := by
  obtain ⟨l, h1, h2⟩ := L2.perm_lift (fun r => Txt.join " " (refW r)) h rs rfl
  exact ⟨l, h1, h2.symm⟩
/-- a text of the schema's lines, in any order of the tables and of the references -/
def Mixed (ts : List Str) (rs : List Rf) (x : Str) : Prop := ∃ ts' rs', ts'.Perm ts ∧ rs'.Perm rs ∧ x = textOf (linesW ts' rs')
theorem schF_perm {ts ts' : List Str} {rs rs' : List Rf} (hP : Parts ts rs) (h1 : ts'.Perm ts) (h2 : rs'.Perm rs) : schF ts' rs' = schF ts rs := by
  unfold schF
  rw [sortT_eq h1, sortR_eq hP.rd h2]
variable {q : Addr} {spEq spRefd spTabs spRefu spParts spPick spShuf spRead spTxt : Sp}
/-- one text of the two is looked at -/
theorem es_look {S : Da} {ts : List Str} {rs : List Rf} {x : Str} {x2 x6 x7 x9 x11 x12 x13 x14 x15 : En} (O : LawOk W q spEq spRefd spTabs spRefu spParts spPick spShuf spRead spTxt) (hP : Parts ts rs) (hx : Mixed ts rs x)
    (hp : p.nx [.dat S, .dat (.obj q), x2, .dat (.lst (ts.map Da.str)), .dat (.dct (refsD rs)), .dat (.ins (He.ga K "Schema") (schF ts rs)), x6, x7, .dat (.str (schTxt ts rs)), x9, .dat (.str x), .dat (.ins (He.ga K "Schema") (schF ts rs)), x12, x13, x14, x15]) :
    Es W (tSeq (tAsg (tCall spRead [] E0 (tCons (tVar 10) tNil)) (gName 11))
    (tSeq (tIfS (tOr (tNot (tB (tCB (rIsiA K) (tCons (tVar 11) (tCons (tC (.ref (He.ga K "Schema"))) tNil))))) (tOr (tNot (tTest (tOp (rEqO (He.ga K "Schema") spEq E0) (tVar 11) (tVar 5)))) (tTest (tOp (rNeA K) (tCall spTxt [] E0 (tCons (tCall spRead [] E0 (tCons (tVar 10) tNil)) tNil)) (tVar 8)))))
    (tRet (tC (.bl false)))
    tNext)
    (tIfS (tOr (tTest (tOp (rNeA K) (tProp (He.ga K "Schema") spTabs [] E0 (tVar 11)) (tCB (rTupA K) (tCons (tCB (rSortedA K) (tCons (tVar 3) tNil)) tNil)))) (tTest (tOp (rNeA K) (tCB (rListIt K) (tCons (tItemsV (tProp (He.ga K "Schema") spRefd [] E0 (tVar 11))) tNil)) (tCB (rSortIts K) (tCons (tItemsV (tVar 4)) tNil)))))
    (tRet (tC (.bl false)))
    tNext))) [.dat S, .dat (.obj q), x2, .dat (.lst (ts.map Da.str)), .dat (.dct (refsD rs)), .dat (.ins (He.ga K "Schema") (schF ts rs)), x6, x7, .dat (.str (schTxt ts rs)), x9, .dat (.str x), x11, x12, x13, x14, x15] 0 p := by
  obtain ⟨ts', rs', h1, h2, rfl⟩ := hx
  have hP' := hP.perm h1 h2
  have hrd : ∀ (P : Da → Prop), P (.ins (He.ga K "Schema") (schF ts rs)) → Fn W spRead [.str (textOf (linesW ts' rs'))] 0 P := fun P hp B H M vs s hM hd Q E qq => O.rd ts' rs' hP' B H M vs s hM hd Q E fun v d H' k r hd' e => qq v d H' k r hd' (by rw [e, schF_perm hP h1 h2]; exact hp)
  have hS : (sortT ts).all okS = true := names_okS (sorted_all hP.tn)
  have hPs := hP.perm (List.Perm.refl ts) (sortR_perm rs)
  refine es_seqE (c1 := 0) (c2 := 0) (Γ' := [.dat S, .dat (.obj q), x2, .dat (.lst (ts.map Da.str)), .dat (.dct (refsD rs)), .dat (.ins (He.ga K "Schema") (schF ts rs)), x6, x7, .dat (.str (schTxt ts rs)), x9, .dat (.str (textOf (linesW ts' rs'))), .dat (.ins (He.ga K "Schema") (schF ts rs)), x12, x13, x14, x15]) (es_asgE (c := 0) (ev_callE (c1 := 0) (c2 := 0) (ea_cons2 (c1 := 0) (c2 := 0) (ev_var rfl) ea_nil) (hrd _ rfl)) rfl) ?_
  refine es_seqE (c1 := 0) (c2 := 0) (Γ' := [.dat S, .dat (.obj q), x2, .dat (.lst (ts.map Da.str)), .dat (.dct (refsD rs)), .dat (.ins (He.ga K "Schema") (schF ts rs)), x6, x7, .dat (.str (schTxt ts rs)), x9, .dat (.str (textOf (linesW ts' rs'))), .dat (.ins (He.ga K "Schema") (schF ts rs)), x12, x13, x14, x15]) (es_ifB (c1 := 0) (c2 := 0) (b := false) ?_ (fun z => by cases z) (fun _ => es_next rfl)) ?_
  · refine et_orB (c1 := 0) (c2 := 0) (a := false) (b := false) (et_notB (a := true) (et_BB (ev_cbE (ea_cons2 (c1 := 0) (c2 := 0) (ev_var rfl) (ea_cons2 (c1 := 0) (c2 := 0) ev_obj ea_nil)) (rc_isiO O.cl rfl)))) (fun _ => ?_)
    refine et_orB (c1 := 0) (c2 := 0) (a := false) (b := false) (et_notB (a := true) (et_testB (ev_op2 (c1 := 0) (c2 := 0) (ev_var rfl) (ev_var rfl) (rv_eqO fun B H M vs s hM hd Q E qq => O.eq ts rs hP B H M vs s hM hd Q E fun v d H' k r hd' e => qq v d H' k r hd' ⟨true, e, rfl⟩)))) (fun _ => ?_)
    refine (et_neS (c1 := 0) (c2 := 0) (ev_callE (c1 := 0) (c2 := 0) (ea_cons2 (c1 := 0) (c2 := 0) (ev_callE (c1 := 0) (c2 := 0) (ea_cons2 (c1 := 0) (c2 := 0) (ev_var rfl) ea_nil) (hrd _ rfl)) ea_nil) (O.tx ts rs hP)) (ev_var rfl)).weak (Nat.le_refl _) fun b e => ?_
    rw [e, decide_eq_true rfl]
    rfl
  · refine es_ifB (c1 := 0) (c2 := 0) (b := false) ?_ (fun z => by cases z) (fun _ => es_next hp)
    refine et_orB (c1 := 0) (c2 := 0) (a := false) (b := false) (et_testB (ev_op2 (c1 := 0) (c2 := 0) (ev_propE (c1 := 0) (c2 := 0) (ev_var rfl) (O.tb ts rs)) (ev_cbE (ea_cons2 (c1 := 0) (c2 := 0) (evF_cb (ea_cons2 (c1 := 0) (c2 := 0) (ev_var rfl) ea_nil) (fun ds e => by rw [e]; exact rcF_sortT (by have := hP.t5; omega))).ev' ea_nil) (rc_tup (Or.inl rfl) rfl)) (rv_neP plain_tup plain_tup (shaped_tup hS) (shaped_tup hS) (by rw [eqv_tup, decide_eq_true rfl]; rfl)))) (fun _ => ?_)
    obtain ⟨i1, i2, i3⟩ := items_plain hPs
    refine et_testB (ev_op2 (c1 := 0) (c2 := 0) (evF_itsL (ev_propE (c1 := 0) (c2 := 0) (ev_var rfl) (O.rf ts rs))).ev' ((evF_itsS (items_ok rs) (ev_var rfl)).ev'.imp fun d e => by rw [e, items_sorted hP]) (rv_neP i1 i1 i2 i2 (by rw [i3]; rfl)))
theorem sorted_keys {ts : List Str} {rs : List Rf} (hP : Parts ts rs) : RcF W (rSortedA K) [.dct (refsD rs)] (· = ((sortR rs).map fun r => r.1).map Da.str) := by
  rw [sortR_map]
  exact rcF_sortTD (refs_keys rs) (by rw [List.length_map]; have := hP.r6; omega)
theorem es_law_1 {ns : List Int} (O : LawOk W q spEq spRefd spTabs spRefu spParts spPick spShuf spRead spTxt) (hp : p.rt (.bl true)) :
    Es W (t_law_1 K (spI (He.ga K "Schema") (initT K)) spEq spRefd spTabs spRefu spParts spPick spShuf spRead spTxt) [.dat (.lst (ns.map Da.int)), .dat (.obj q), .no, .no, .no, .no, .no, .no, .no, .no, .no, .no, .no, .no, .no, .no] 3000 p := by
  refine Es.weak (c := 2472 + 1) ?_ (by decide)
  refine es_seq (c1 := 2472) (c2 := 1) (N := fun Γ1 => ∃ x2 x3 x4 x5 x6 x7 x8 x9 x10 x11 x12 x13 x14 x15 : En, Γ1 = [.dat (.lst (ns.map Da.int)), .dat (.obj q), x2, x3, x4, x5, x6, x7, x8, x9, x10, x11, x12, x13, x14, x15])
    (es_for (vs := [2]) (n := 3) (c0 := 0) (cb := 824) (Pi := fun ds => ∃ m : Nat, m ≤ 3 ∧ ds = rngD 0 m) (I := fun _ _ Γ1 => ∃ x2 x3 x4 x5 x6 x7 x8 x9 x10 x11 x12 x13 x14 x15 : En, Γ1 = [.dat (.lst (ns.map Da.int)), .dat (.obj q), x2, x3, x4, x5, x6, x7, x8, x9, x10, x11, x12, x13, x14, x15]) ?_ ?_ ?_ ?_ ?_) ?_
  · refine ei_rng1 (c := 0) (ea_cons (c1 := 0) (c2 := 0) (ev_cbE (ea_cons2 (c1 := 0) (c2 := 0) ev_int (ea_cons2 (c1 := 0) (c2 := 0) (ev_cbE (ea_cons2 (c1 := 0) (c2 := 0) ev_int (ea_cons2 (c1 := 0) (c2 := 0) (ev_cbE (ea_cons2 (c1 := 0) (c2 := 0) (ev_var rfl) ea_nil) (rc_lenL rfl)) ea_nil)) rc_min) ea_nil)) rc_max) ea_nil (fun d ds e1 e2 => ?_))
    rw [e1, e2]
    refine ⟨_, rfl, ?_, _, ?_, rfl⟩
    · split <;> split <;> omega
    · split <;> split <;> omega
  · rintro ds ⟨m, h1, rfl⟩
    exact ⟨_, _, _, _, _, _, _, _, _, _, _, _, _, _, rfl⟩
  · rintro ds i d Γ1 ⟨m, h1, rfl⟩ hd ⟨x2, x3, x4, x5, x6, x7, x8, x9, x10, x11, x12, x13, x14, x15, rfl⟩
    refine ⟨_, eg_name, ?_⟩
    -- the parts
    refine es_seq (c1 := 800) (c2 := 24) (N := fun Γ1 => ∃ ts rs, Parts ts rs ∧ Γ1 = [.dat (.lst (ns.map Da.int)), .dat (.obj q), .dat d, .dat (.lst (ts.map Da.str)), .dat (.dct (refsD rs)), x5, x6, x7, x8, x9, x10, x11, x12, x13, x14, x15])
      (es_asgG (c := 800) (vs := [3, 4]) (P := fun e => ∃ ts rs, Parts ts rs ∧ e = .tup [.lst (ts.map Da.str), .dct (refsD rs)]) (ev_callE (c1 := 0) (c2 := 800) (ea_cons2 (c1 := 0) (c2 := 0) (ev_var rfl) ea_nil) (O.pa _ fun ts rs h => ⟨ts, rs, h, rfl⟩)) (fun e ⟨ts, rs, h, e1⟩ => ⟨_, by rw [e1]; exact eg_pair, ts, rs, h, rfl⟩)) ?_
    rintro Γ2 ⟨ts, rs, hP, rfl⟩
    have hPs := hP.perm (sortT_perm ts) (sortR_perm rs)
    have hPr := hP.perm (List.Perm.refl ts) (sortR_perm rs)
    obtain ⟨k1, k2, k3⟩ := lines_ok hPs
    -- the plan
    refine es_seqE (c1 := 0) (c2 := 24) (Γ' := [.dat (.lst (ns.map Da.int)), .dat (.obj q), .dat d, .dat (.lst (ts.map Da.str)), .dat (.dct (refsD rs)), .dat (.ins (He.ga K "Schema") (schF ts rs)), x6, x7, x8, x9, x10, x11, x12, x13, x14, x15])
      (es_asgE (c := 0) (d := .ins (He.ga K "Schema") (schF ts rs)) ((ev_make (c1 := 0) (c2 := 0) (Pa := (· = [.lst (ts.map Da.str), .dct (refsD rs)])) (Pf := (· = schF ts rs)) (ea_cons2 (c1 := 0) (c2 := 0) (ev_var rfl) (ea_cons2 (c1 := 0) (c2 := 0) (ev_var rfl) ea_nil)) (fun ds e => ⟨ts, rs, hP, e, rfl, rfl⟩)).imp fun d ⟨fs, e1, e2⟩ => by rw [e1, e2]) rfl) ?_
    -- the first lines
    refine es_seqE (c1 := 0) (c2 := 24) (Γ' := [.dat (.lst (ns.map Da.int)), .dat (.obj q), .dat d, .dat (.lst (ts.map Da.str)), .dat (.dct (refsD rs)), .dat (.ins (He.ga K "Schema") (schF ts rs)), .dat (.lst ((firstL (sortT ts)).map Da.str)), x7, x8, x9, x10, x11, x12, x13, x14, x15])
      (es_asgE (c := 0) (d := .lst ((firstL (sortT ts)).map Da.str)) ?_ rfl) ?_
    · have hm := evF_map (K := K) (W := W) (Γ := [.dat (.lst (ns.map Da.int)), .dat (.obj q), .dat d, .dat (.lst (ts.map Da.str)), .dat (.dct (refsD rs)), .dat (.ins (He.ga K "Schema") (schF ts rs)), x6, x7, x8, x9, x10, x11, x12, x13, x14, x15]) (Γ' := []) (i := 13) (n := 5) (c0 := 0) (cb := 0) (wi := iList K (tCB (rSortedA K) (tCons (tVar 3) tNil))) (te := tOp (rAddA K) (tC (.str "table ")) (tVar 13)) (ds := (sortT ts).map Da.str) (f := fun d => match d with | .str t => .str (Txt.join " " (tabW t)) | _ => .non)
        (ei_list ((evF_cb (ea_cons2 (c1 := 0) (c2 := 0) (ev_var rfl) ea_nil) (fun ds e => by rw [e]; exact rcF_sortT (by have := hP.t5; omega))).ev'.imp fun d e => ⟨_, e, rfl⟩)) (fun d hd => by
          obtain ⟨t, ht, rfl⟩ := List.mem_map.mp hd
          have hn := (name_len (List.all_eq_true.mp hPs.tn t ht)).2
          refine (ev_addS (c1 := 0) (c2 := 0) (x := "table ") (y := t) ev_str (ev_var rfl) ?_).imp fun d e => by rw [e, tab_line]
          rw [len_table]
          omega) (by rw [List.length_map, (sortT_perm ts).length_eq]; exact hP.t5) (by decide)
      have e : (((sortT ts).map Da.str).map fun d => match d with | .str t => Da.str (Txt.join " " (tabW t)) | _ => .non) = (firstL (sortT ts)).map Da.str := by
        unfold firstL
        rw [List.map_map, List.map_map]
        rfl
      rw [e] at hm
      exact hm.ev'
    -- the later lines
    refine es_seqE (c1 := 0) (c2 := 24) (Γ' := [.dat (.lst (ns.map Da.int)), .dat (.obj q), .dat d, .dat (.lst (ts.map Da.str)), .dat (.dct (refsD rs)), .dat (.ins (He.ga K "Schema") (schF ts rs)), .dat (.lst ((firstL (sortT ts)).map Da.str)), .dat (.lst ((laterL (sortR rs)).map Da.str)), x8, x9, x10, x11, x12, x13, x14, x15])
      (es_asgE (c := 0) (d := .lst ((laterL (sortR rs)).map Da.str)) ?_ rfl) ?_
    · have hm := evF_lc (K := K) (W := W) (Γ := [.dat (.lst (ns.map Da.int)), .dat (.obj q), .dat d, .dat (.lst (ts.map Da.str)), .dat (.dct (refsD rs)), .dat (.ins (He.ga K "Schema") (schF ts rs)), .dat (.lst ((firstL (sortT ts)).map Da.str)), x7, x8, x9, x10, x11, x12, x13, x14, x15]) (wi := iList K (tCB (rSortedA K) (tCons (tVar 4) tNil))) (g := gName 14) (vs := [14]) (tt := tYes) (te := tOp (rAddA K) (tC (.str "reference ")) (tM1 (r_join K) (tC (.str " ")) (tOp (rAddA K) (tTup (tCons (tVar 14) tNil)) (tOp (rIxA K) (tVar 4) (tVar 14))))) (c0 := 0) (cb := 0) (n := 6)
        (Pi := fun ds => ds = ((sortR rs).map fun r => r.1).map Da.str) (R := fun _ j acc => acc = (laterL ((sortR rs).take j)).map Da.str)
        (ei_list ((evF_cb (ea_cons2 (c1 := 0) (c2 := 0) (ev_var rfl) ea_nil) (fun ds e => by rw [e]; exact sorted_keys hP)).ev'.imp fun d e => ⟨_, e, rfl⟩)) (fun ds _ => rfl) (fun ds j d acc e hj ha => by
          rw [e, List.getElem?_map, List.getElem?_map] at hj
          cases hr : (sortR rs)[j]? with
          | none =>
            rw [hr] at hj
            cases hj
          | some r =>
            rw [hr] at hj
            cases hj
            have hm := List.mem_of_getElem? hr
            have hrow := row_ref hPr hm
            have hs4 : ([r.1, r.2.1, r.2.2.1, r.2.2.2].map (·.length)).sum + [r.1, r.2.1, r.2.2.1, r.2.2.2].length * (" " : Str).length ≤ 200 := by
              have h4 := sum_le (f := fun w : Str => w.length) (b := 20) (xs := [r.1, r.2.1, r.2.2.1, r.2.2.2]) fun w hw => hrow.short w (List.mem_cons_of_mem _ hw)
              rw [len_sp]
              simp only [List.length_cons, List.length_nil] at h4 ⊢
              omega
            have hj4 : (Txt.join " " [r.1, r.2.1, r.2.2.1, r.2.2.2]).length ≤ 200 := Nat.le_trans (join_len _ _) hs4
            refine ⟨_, (· = true), 0, 0, eg_name, by omega, et_yes rfl, fun _ => ?_, fun z => by cases z⟩
            refine (ev_addS (c1 := 0) (c2 := 0) (x := "reference ") (y := Txt.join " " [r.1, r.2.1, r.2.2.1, r.2.2.2]) ev_str (ev_join (c1 := 0) (c2 := 0) (x := " ") (xs := [r.1, r.2.1, r.2.2.1, r.2.2.2]) ev_str ((ev_op2 (c1 := 0) (c2 := 0) (P := (· = .tup ([r.1, r.2.1, r.2.2.1, r.2.2.2].map Da.str))) (d1 := .tup [.str r.1]) (d2 := endsD r) ((ev_tup (P := (· = [.str r.1])) (ea_cons2 (c1 := 0) (c2 := 0) (ev_var (d := .str r.1) rfl) ea_nil) (fun ds e => by rw [e]; simp)).imp fun e ⟨ds, h1, h2⟩ => by rw [h1, h2])
              (ev_op2 (c1 := 0) (c2 := 0) (ev_var rfl) (ev_var (d := .str r.1) rfl) (rv_ixD (k := Sum.inr r.1) (val_ref hP.rd ((sortR_perm rs).mem_iff.mp hm)) rfl)) (rv_addT (by simp) (by simp) (by simp) rfl)).imp fun d e => Or.inr e) (Nat.le_trans hs4 (by decide))) (by rw [len_ref]; omega)).imp fun d e => ?_
            rw [e, ha, ref_line, List.take_succ, hr]
            unfold laterL
            rw [List.map_append, List.map_append]
            rfl) (fun ds e => by rw [e, List.length_map, List.length_map, (sortR_perm rs).length_eq]; exact hP.r6) (by decide)
      refine hm.ev.weak (by decide) fun d ⟨acc, e1, ds, e2, e3⟩ => ?_
      rw [e1, e3, e2, List.length_map, List.length_map, List.take_length]
    -- what is due
    refine es_seqE (c1 := 0) (c2 := 24) (Γ' := [.dat (.lst (ns.map Da.int)), .dat (.obj q), .dat d, .dat (.lst (ts.map Da.str)), .dat (.dct (refsD rs)), .dat (.ins (He.ga K "Schema") (schF ts rs)), .dat (.lst ((firstL (sortT ts)).map Da.str)), .dat (.lst ((laterL (sortR rs)).map Da.str)), .dat (.str (schTxt ts rs)), x9, x10, x11, x12, x13, x14, x15])
      (es_asgE (c := 0) (d := .str (schTxt ts rs)) ?_ rfl) ?_
    · refine ev_text (c0 := 0) (n := 11) (ls := linesW (sortT ts) (sortR rs)) (ei_list ((evF_addL (c1 := 0) (c2 := 0) (ev_var rfl) (ev_var rfl) ?_).ev'.imp fun d e => ⟨_, e, by rw [lines_app, List.map_append]⟩)) k2 k3 (by decide) (Nat.lt_succ_self 15)
      rw [List.length_map, List.length_map]
      have := k3
      rw [lines_app, List.length_append] at this
      omega
    refine es_seqE (c1 := 0) (c2 := 24) (Γ' := [.dat (.lst (ns.map Da.int)), .dat (.obj q), .dat d, .dat (.lst (ts.map Da.str)), .dat (.dct (refsD rs)), .dat (.ins (He.ga K "Schema") (schF ts rs)), .dat (.lst ((firstL (sortT ts)).map Da.str)), .dat (.lst ((laterL (sortR rs)).map Da.str)), .dat (.str (schTxt ts rs)), x9, x10, x11, x12, x13, x14, x15]) (es_ifB (c1 := 0) (c2 := 0) (b := false) ?_ (fun z => by cases z) (fun _ => es_next rfl)) ?_
    · have h1 := et_neS (K := K) (W := W) (Γ := [.dat (.lst (ns.map Da.int)), .dat (.obj q), .dat d, .dat (.lst (ts.map Da.str)), .dat (.dct (refsD rs)), .dat (.ins (He.ga K "Schema") (schF ts rs)), .dat (.lst ((firstL (sortT ts)).map Da.str)), .dat (.lst ((laterL (sortR rs)).map Da.str)), .dat (.str (schTxt ts rs)), x9, x10, x11, x12, x13, x14, x15]) (c1 := 0) (c2 := 0) (ta := tCall spTxt [] E0 (tCons (tVar 5) tNil)) (tb := tVar 8) (ev_callE (c1 := 0) (c2 := 0) (ea_cons2 (c1 := 0) (c2 := 0) (ev_var rfl) ea_nil) (O.tx ts rs hP)) (ev_var rfl)
      rw [decide_eq_true rfl] at h1
      exact et_orB (c1 := 0) (c2 := 0) (a := false) (b := false) h1 (fun _ => h1)
    -- mixed
    refine es_seq (c1 := 24) (c2 := 0) (N := fun Γ1 => ∃ x, Mixed ts rs x ∧ Γ1 = [.dat (.lst (ns.map Da.int)), .dat (.obj q), .dat d, .dat (.lst (ts.map Da.str)), .dat (.dct (refsD rs)), .dat (.ins (He.ga K "Schema") (schF ts rs)), .dat (.lst ((firstL (sortT ts)).map Da.str)), .dat (.lst ((laterL (sortR rs)).map Da.str)), .dat (.str (schTxt ts rs)), .dat (.str x), x10, x11, x12, x13, x14, x15])
      (es_asg (c := 24) (P := fun e => ∃ x, Mixed ts rs x ∧ e = .str x) ?_ (fun e ⟨x, h1, h2⟩ => ⟨x, h1, by rw [h2]; rfl⟩)) ?_
    · obtain ⟨o1, o2⟩ := lines_okS hPs
      have hfl : (firstL (sortT ts)).length ≤ 11 ∧ (laterL (sortR rs)).length ≤ 11 := by
        have := k3
        rw [lines_app, List.length_append] at this
        omega
      refine (ev_textP (c0 := 24) (n := 11) (Pl := fun ls => ∃ ts' rs', ts'.Perm ts ∧ rs'.Perm rs ∧ ls = linesW ts' rs') (ei_list ((evF_op (c1 := 12) (c2 := 12) (P1 := fun e => ∃ ts', ts'.Perm ts ∧ e = .lst ((firstL ts').map Da.str)) (P2 := fun e => ∃ rs', rs'.Perm rs ∧ e = .lst ((laterL rs').map Da.str)) (P := fun es => ∃ ls : List Str, es = ls.map Da.str ∧ ∃ ts' rs', ts'.Perm ts ∧ rs'.Perm rs ∧ ls = linesW ts' rs')
        (ev_callE (c1 := 0) (c2 := 12) (ea_cons2 (c1 := 0) (c2 := 0) (ev_var rfl) (ea_cons2 (c1 := 0) (c2 := 0) (ev_var rfl) ea_nil)) (O.sh _ _ hfl.1 o1 fun ys hy => ?_)) (ev_callE (c1 := 0) (c2 := 12) (ea_cons2 (c1 := 0) (c2 := 0) (ev_var rfl) (ea_cons2 (c1 := 0) (c2 := 0) (ev_var rfl) ea_nil)) (O.sh _ _ hfl.2 o2 fun ys hy => ?_)) (fun d1 d2 ⟨ts', h1, e1⟩ ⟨rs', h2, e2⟩ => ?_)).ev.imp fun e ⟨es, h1, ls, h2, h3⟩ => ⟨es, h1, ls, h2, h3⟩)) (fun ls ⟨ts', rs', h1, h2, e⟩ => ?_) (by decide) (Nat.lt_succ_self 15)).imp fun e ⟨ls, ⟨ts', rs', h1, h2, e1⟩, e2⟩ => ⟨textOf ls, ⟨ts', rs', h1, h2, by rw [e1]⟩, e2⟩
      · obtain ⟨ts', h1, e1⟩ := firstL_perm hy
        exact ⟨ts', h1.trans (sortT_perm ts), by rw [e1]⟩
      · obtain ⟨rs', h1, e1⟩ := laterL_perm hy
        exact ⟨rs', h1.trans (sortR_perm rs), by rw [e1]⟩
      · subst e1 e2
        refine rvF_addL ?_ ⟨linesW ts' rs', by rw [lines_app, List.map_append], ts', rs', h1, h2, rfl⟩
        unfold firstL laterL
        rw [List.length_map, List.length_map, List.length_map, List.length_map, h1.length_eq, h2.length_eq]
        have := hP.t5
        have := hP.r6
        omega
      · obtain ⟨_, j2, j3⟩ := lines_ok (hP.perm h1 h2)
        rw [e]
        exact ⟨j2, j3⟩
    rintro Γ3 ⟨x, hx, rfl⟩
    have hdue : Mixed ts rs (schTxt ts rs) := ⟨sortT ts, sortR rs, sortT_perm ts, sortR_perm rs, rfl⟩
    refine Es.weak (c := 0 + 2 * 0) ?_ (by decide)
    refine es_for (vs := [10]) (n := 2) (c0 := 0) (cb := 0) (Pi := fun ds => ds = [.str (schTxt ts rs), .str x]) (I := fun _ _ Γ1 => ∃ y10 y11 : En, Γ1 = [.dat (.lst (ns.map Da.int)), .dat (.obj q), .dat d, .dat (.lst (ts.map Da.str)), .dat (.dct (refsD rs)), .dat (.ins (He.ga K "Schema") (schF ts rs)), .dat (.lst ((firstL (sortT ts)).map Da.str)), .dat (.lst ((laterL (sortR rs)).map Da.str)), .dat (.str (schTxt ts rs)), .dat (.str x), y10, y11, x12, x13, x14, x15]) ?_ ?_ ?_ ?_ ?_
    · exact ei_tup ((ev_tup (P := (· = [.str (schTxt ts rs), .str x])) (ea_cons2 (c1 := 0) (c2 := 0) (ev_var rfl) (ea_cons2 (c1 := 0) (c2 := 0) (ev_var rfl) ea_nil)) (fun ds e => by rw [e]; simp)).imp fun e ⟨ds, h1, h2⟩ => ⟨ds, h1, h2⟩)
    · rintro ds rfl
      exact ⟨x10, x11, rfl⟩
    · rintro ds j d2 Γ4 rfl hj ⟨y10, y11, rfl⟩
      have hm : ∃ y, Mixed ts rs y ∧ d2 = .str y := by
        have := List.mem_of_getElem? hj
        simp only [List.mem_cons, List.not_mem_nil, or_false] at this
        rcases this with e | e
        · exact ⟨_, hdue, e⟩
        · exact ⟨_, hx, e⟩
      obtain ⟨y, hy, rfl⟩ := hm
      exact ⟨_, eg_name, es_look O hP hy ⟨_, _, rfl⟩⟩
    · rintro ds Γ4 rfl ⟨y10, y11, rfl⟩
      exact ⟨_, _, _, _, _, _, _, _, _, _, _, _, _, _, rfl⟩
    · rintro ds rfl
      exact Nat.le_refl 2
  · rintro ds Γ1 ⟨m, h1, rfl⟩ h
    exact h
  · rintro ds ⟨m, h1, rfl⟩
    rw [rngD_len]
    exact h1
  rintro Γ1 ⟨x2, x3, x4, x5, x6, x7, x8, x9, x10, x11, x12, x13, x14, x15, rfl⟩
  -- what is no schema
  refine es_seqE (c1 := 0) (c2 := 1) (Γ' := [.dat (.lst (ns.map Da.int)), .dat (.obj q), x2, x3, x4, x5, x6, x7, x8, x9, x10, x11, .dat (.lst [.non, .int 5, .str "table a\n", .dct [], .lst [], .bl true, .tup [.str "a"], .tup [.lst [.str "a"], .dct []]]), x13, x14, x15])
    (es_asgE (c := 0) (d := .lst [.non, .int 5, .str "table a\n", .dct [], .lst [], .bl true, .tup [.str "a"], .tup [.lst [.str "a"], .dct []]]) ?_ rfl) ?_
  · have eD : Ev W tDNewK [.dat (.lst (ns.map Da.int)), .dat (.obj q), x2, x3, x4, x5, x6, x7, x8, x9, x10, x11, x12, x13, x14, x15] 0 (· = .dct []) := evG_new.ev.imp fun d ⟨es, e1, e2⟩ => by rw [e1, e2]
    have eL : Ev W (tLst tNil) [.dat (.lst (ns.map Da.int)), .dat (.obj q), x2, x3, x4, x5, x6, x7, x8, x9, x10, x11, x12, x13, x14, x15] 0 (· = .lst []) := evF_nil.ev'
    have e1 : Ev W (tTup (tCons (tC (.str "a")) tNil)) [.dat (.lst (ns.map Da.int)), .dat (.obj q), x2, x3, x4, x5, x6, x7, x8, x9, x10, x11, x12, x13, x14, x15] 0 (· = .tup [.str "a"]) := (ev_tup (P := (· = [.str "a"])) (ea_cons2 (c1 := 0) (c2 := 0) ev_str ea_nil) (fun ds e => by rw [e]; simp)).imp fun e ⟨ds, h1, h2⟩ => by rw [h1, h2]
    have e2 : Ev W (tTup (tCons (tLst (tCons (tC (.str "a")) tNil)) (tCons tDNewK tNil))) [.dat (.lst (ns.map Da.int)), .dat (.obj q), x2, x3, x4, x5, x6, x7, x8, x9, x10, x11, x12, x13, x14, x15] 0 (· = .tup [.lst [.str "a"], .dct []]) := (ev_tup (P := (· = [.lst [.str "a"], .dct []])) (ea_cons2 (c1 := 0) (c2 := 0) (evF_lst (P := (· = [.str "a"])) (ea_cons2 (c1 := 0) (c2 := 0) ev_str ea_nil) (fun ds e => by rw [e]; simp)).ev' (ea_cons2 (c1 := 0) (c2 := 0) eD ea_nil)) (fun ds e => by rw [e]; simp)).imp fun e ⟨ds, h1, h2⟩ => by rw [h1, h2]
    exact (evF_lst (P := (· = [.non, .int 5, .str "table a\n", .dct [], .lst [], .bl true, .tup [.str "a"], .tup [.lst [.str "a"], .dct []]])) (ea_cons2 (c1 := 0) (c2 := 0) ev_non (ea_cons2 (c1 := 0) (c2 := 0) ev_int (ea_cons2 (c1 := 0) (c2 := 0) ev_str (ea_cons2 (c1 := 0) (c2 := 0) eD (ea_cons2 (c1 := 0) (c2 := 0) eL (ea_cons2 (c1 := 0) (c2 := 0) ev_bl (ea_cons2 (c1 := 0) (c2 := 0) e1 (ea_cons2 (c1 := 0) (c2 := 0) e2 ea_nil)))))))) (fun ds e => by rw [e]; simp)).ev'
  refine es_ret (c := 1) (P := (· = .bl true)) (ev_call (c1 := 1) (c2 := 0) (Pa := fun ds => ∃ d, ds = [d] ∧ NoSch K (He.ga K "Schema") d) (ea_cons (c1 := 1) (c2 := 0) (P1 := NoSch K (He.ga K "Schema")) (ev_callE (c1 := 0) (c2 := 1) (ea_cons2 (c1 := 0) (c2 := 0) (ev_var rfl) (ea_cons2 (c1 := 0) (c2 := 0) (ev_var rfl) ea_nil)) (O.pk _ _ _ rfl (by simp) (by simp) fun x hx => ?_)) ea_nil (fun d ds h1 h2 => ⟨d, by rw [h2], h1⟩)) (fun ds ⟨d, e, h⟩ => by rw [e]; exact O.re d h)) (fun d e => by rw [e]; exact hp)
  simp only [List.mem_cons, List.not_mem_nil, or_false] at hx
  rcases hx with rfl | rfl | rfl | rfl | rfl | rfl | rfl | rfl
  all_goals exact ⟨_, rfl, O.no _ (by simp)⟩
end
end P75
set_option Elab.async false
set_option linter.all false
set_option maxRecDepth 100000
set_option maxHeartbeats 4000000
/-! M75: each def keeps its promise -/
namespace P75
open PySem L2 TL WJ
def top (i : Nat) : Stmt := PySem.Challenge.pw_wordjoins_k75_schemas_written.main.body.getD i (.Pass ⟨0, 0, 0, 0⟩)
abbrev FnP (K : PySem.W.Frag) (x : Str) (st : Stmt) (f : Addr) (fd : FuncData) : Prop := FunD K x x (defArgs st) (defBody st) (defScope st) [] [] f fd
abbrev FnM (K : PySem.W.Frag) (x q : Str) (st : Stmt) (f : Addr) (fd : FuncData) : Prop := FunD K x q (defArgs st) (defBody st) (defScope st) [] [] f fd
structure Glb (K : PySem.W.Frag) (mg : Str → Option Value) : Prop where
  KINDS_schemas : mg "KINDS_schemas" = some (.ref (He.ga K "KINDS_schemas"))
  KINDS_texts : mg "KINDS_texts" = some (.ref (He.ga K "KINDS_texts"))
  LETTERS : ∃ t, mg "LETTERS" = some (.str "abcdefghijklmnopqrstuvwxyz" t)
  MOST_LETTERS : ∃ t, mg "MOST_LETTERS" = some (.int 6 t)
  MOST_REFERENCES_schemas : ∃ t, mg "MOST_REFERENCES_schemas" = some (.int 6 t)
  MOST_REFERENCES_texts : ∃ t, mg "MOST_REFERENCES_texts" = some (.int 6 t)
  MOST_TABLES_schemas : ∃ t, mg "MOST_TABLES_schemas" = some (.int 5 t)
  MOST_TABLES_texts : ∃ t, mg "MOST_TABLES_texts" = some (.int 5 t)
  Schema : mg "Schema" = some (.ref (He.ga K "Schema"))
  all : mg "all" = none
  dict : mg "dict" = none
  isinstance : mg "isinstance" = none
  len : mg "len" = none
  list : mg "list" = none
  set : mg "set" = none
  sorted : mg "sorted" = none
  str : mg "str" = none
  tuple : mg "tuple" = none
theorem hu64_of {A : Around} {k : Nat} (hr : Room k A) : A.units + 64 < cLine := hr.units
theorem hu65_of {A : Around} {k : Nat} (hr : Room k A) : A.units + 65 < cLine := by have := hr.un; omega
theorem hu66_of {A : Around} {k : Nat} (hr : Room k A) : A.units + 66 < cLine := by have := hr.un; omega
section
variable {Pr : Program} {w : World} {K : PySem.W.Frag} {mg : Str → Option Value} {base : Heap} {f : Addr} {fd : FuncData}
abbrev s_is_name : Stmt := top 11
abbrev n_is_name : List Str := ["thing", "sign"]
theorem sc_is_name : FnScope n_is_name ["thing"] (defScope s_is_name) := ⟨rfl, rfl, rfl, by decide +kernel, rfl, by decide +kernel, by decide +kernel⟩
def isNameC (K : PySem.W.Frag) : Ct K := fun _ ds c P => ∃ x : Str, x.length ≤ 1000 ∧ ds = [.str x] ∧ c = 0 ∧ P (.bl (isName x))
theorem ok_is_name (G : Glb K mg) (F : FnP K "is_name" s_is_name f fd) : FnOk Pr w K mg base CX0 1 f fd ["thing"] (spD (isNameC K)) := by
  refine fn_data (k := 0) F sc_is_name (fun W ds c P h => ?_) (by decide) (fun cdv A outer s H E hr => ?_)
  · obtain ⟨x, _, rfl, _⟩ := h; rfl
  have hu := hu_of hr
  refine ⟨_, PSs.nox (pss_one (ps_ret (pe_and (pe_callB (o_isi K) (by rfl) G.isinstance (by decide +kernel) (pa_cons (pv 0) (pa_cons (pe_type (n := "str") (by rfl) G.str (by decide +kernel)) pa_nil))) (pe_and (pe_chain op_le op_le pe_int (pe_callB (o_len K) (by rfl) G.len (by decide +kernel) (pa_cons (pv 0) pa_nil)) (pe_globI (by rfl) G.MOST_LETTERS)) (pe_one (pe_callB (o_all K) (by rfl) G.all (by decide +kernel) (pa_cons (pe_lc (own := [("sign", 1)]) (g := gName 1) (tt := tYes) rfl sc_is_name.nd (pi_str (pv 0)) (blkOk_by (N := ["thing", "sign"]) (sc := defScope s_is_name) (by decide +kernel)) (fun _ _ _ _ _ => (pg_name (i := 1) sc_is_name.nd rfl (by first | exact Or.inl rfl | exact Or.inr rfl))) (fun _ _ _ _ _ => pts_nil) (fun _ _ _ _ _ => (pe_cmpR (o_in K hu) (pv 1) (pe_globS (by rfl) G.LETTERS) (by rfl)))) pa_nil))))))), ?_⟩
  rintro W ds c P ⟨x, hl, rfl, rfl, hp⟩
  exact es_is_name hl hp
abbrev s_are_tables : Stmt := top 12
abbrev n_are_tables : List Str := ["thing", "table"]
theorem sc_are_tables : FnScope n_are_tables ["thing"] (defScope s_are_tables) := ⟨rfl, rfl, rfl, by decide +kernel, rfl, by decide +kernel, by decide +kernel⟩
def tablesC (K : PySem.W.Frag) : Ct K := fun _ ds c P => ∃ ts : List Str, 1 ≤ ts.length ∧ ts.length ≤ 5 ∧ ts.all isName = true ∧ ts.Nodup ∧ ds = [.lst (ts.map Da.str)] ∧ c = 0 ∧ P (.bl true)
theorem ok_are_tables (G : Glb K mg) (F_is_name : Fnd Pr w K mg base 1 "is_name" ["thing"] (spD (isNameC K))) (F : FnP K "are_tables" s_are_tables f fd) : FnOk Pr w K mg base CX0 2 f fd ["thing"] (spD (tablesC K)) := by
  refine fn_data (k := 1) F sc_are_tables (fun W ds c P h => ?_) (by decide) (fun cdv A outer s H E hr => ?_)
  · obtain ⟨x, _, _, _, _, rfl, _⟩ := h; rfl
  have hu := hu_of hr
  have hu64 := hu64_of hr
  refine ⟨_, PSs.nox (pss_cons (ps_if (PW.pt (pw_or (pt_not (pt_val (pe_callB (o_isi K) (by rfl) G.isinstance (by decide +kernel) (pa_cons (pv 0) (pa_cons (pe_tup (pa_cons (pe_type (n := "list") (by rfl) G.list (by decide +kernel)) (pa_cons (pe_type (n := "tuple") (by rfl) G.tuple (by decide +kernel)) pa_nil))) pa_nil))))) (pw_or1 (pt_not (pt_chain op_le op_le pe_int (pe_callB (o_len K) (by rfl) G.len (by decide +kernel) (pa_cons (pv 0) pa_nil)) (pe_globI (by rfl) G.MOST_TABLES_schemas))))))
      (pss_one (ps_ret pe_bl))
      pss_nil)
      (pss_one (ps_ret (pe_and (pe_callB (o_all K) (by rfl) G.all (by decide +kernel) (pa_cons (pe_lc (own := [("table", 1)]) (g := gName 1) (tt := tYes) rfl sc_are_tables.nd (p_list K (pv 0)) (blkOk_by (N := ["thing", "table"]) (sc := defScope s_are_tables) (by decide +kernel)) (fun _ _ _ _ _ => (pg_name (i := 1) sc_are_tables.nd rfl (by first | exact Or.inl rfl | exact Or.inr rfl))) (fun _ _ _ _ _ => pts_nil) (fun _ _ _ _ _ => (pe_fun F_is_name hr (by decide) (by rfl) (pa_cons (pv 1) pa_nil)))) pa_nil)) (pe_one (pe_cmpR (o_eq K hu64) (pe_lenSetS K (by rfl) (by rfl) G.len (by rfl) G.set (pv 0)) (pe_callB (o_len K) (by rfl) G.len (by decide +kernel) (pa_cons (pv 0) pa_nil)) (nomark _))))))), ?_⟩
  rintro W ds c P ⟨ts, h1, h2, h3, h4, rfl, rfl, hp⟩
  exact es_are_tables (fun x hx => fn_of_ct ⟨x, hx, rfl, rfl, rfl⟩) h1 h2 h3 h4 hp
abbrev s_is_reference : Stmt := top 13
abbrev n_is_reference : List Str := ["thing", "tables", "part"]
theorem sc_is_reference : FnScope n_is_reference ["thing", "tables"] (defScope s_is_reference) := ⟨rfl, rfl, rfl, by decide +kernel, rfl, by decide +kernel, by decide +kernel⟩
def isRefC (K : PySem.W.Frag) : Ct K := fun _ ds c P => ∃ (ts : List Str) (a b k : Str), a ∈ ts ∧ b ∈ ts ∧ (k = "many" ∨ k = "single") ∧ ds = [.tup [.str a, .str b, .str k], .lst (ts.map Da.str)] ∧ c = 0 ∧ P (.bl true)
theorem ok_is_reference (hK : KindsOk K (He.ga K "KINDS_schemas")) (G : Glb K mg) (F : FnP K "is_reference" s_is_reference f fd) : FnOk Pr w K mg base CX0 1 f fd ["thing", "tables"] (spD (isRefC K)) := by
  refine fn_data (k := 0) F sc_is_reference (fun W ds c P h => ?_) (by decide) (fun cdv A outer s H E hr => ?_)
  · obtain ⟨_, _, _, _, _, _, _, rfl, _⟩ := h; rfl
  have hu := hu_of hr
  have hu64 := hu64_of hr
  refine ⟨_, PSs.nox (pss_cons (ps_if (PW.pt (pw_or (pt_not (pt_val (pe_callB (o_isi K) (by rfl) G.isinstance (by decide +kernel) (pa_cons (pv 0) (pa_cons (pe_type (n := "tuple") (by rfl) G.tuple (by decide +kernel)) pa_nil))))) (pw_or (pt_cmpR (o_ne K hu64) (pe_callB (o_len K) (by rfl) G.len (by decide +kernel) (pa_cons (pv 0) pa_nil)) pe_int (nomark _)) (pw_or1 (pt_not (pt_val (pe_callB (o_all K) (by rfl) G.all (by decide +kernel) (pa_cons (pe_lc (own := [("part", 2)]) (g := gName 2) (tt := tYes) rfl sc_is_reference.nd (p_tup K (pv 0)) (blkOk_by (N := ["thing", "tables", "part"]) (sc := defScope s_is_reference) (by decide +kernel)) (fun _ _ _ _ _ => (pg_name (i := 2) sc_is_reference.nd rfl (by first | exact Or.inl rfl | exact Or.inr rfl))) (fun _ _ _ _ _ => pts_nil) (fun _ _ _ _ _ => (pe_callB (o_isi K) (by rfl) G.isinstance (by decide +kernel) (pa_cons (pv 2) (pa_cons (pe_type (n := "str") (by rfl) G.str (by decide +kernel)) pa_nil))))) pa_nil))))))))
      (pss_one (ps_ret pe_bl))
      pss_nil)
      (pss_one (ps_ret (pe_and (pe_cmpR (o_in K hu) (pe_ix (o_ix K hu) (pv 0) pe_int (fun _ _ => rfl)) (pv 1) (by rfl)) (pe_and (pe_cmpR (o_in K hu) (pe_ix (o_ix K hu) (pv 0) pe_int (fun _ _ => rfl)) (pv 1) (by rfl)) (pe_one (pe_cmpR (o_in K hu) (pe_ix (o_ix K hu) (pv 0) pe_int (fun _ _ => rfl)) (pe_globR (by rfl) G.KINDS_schemas) (by rfl)))))))), ?_⟩
  rintro W ds c P ⟨ts, a, b, k, h1, h2, h3, rfl, rfl, hp⟩
  exact es_is_reference hK h1 h2 h3 hp
abbrev s_are_references : Stmt := top 14
abbrev n_are_references : List Str := ["thing", "tables", "name"]
theorem sc_are_references : FnScope n_are_references ["thing", "tables"] (defScope s_are_references) := ⟨rfl, rfl, rfl, by decide +kernel, rfl, by decide +kernel, by decide +kernel⟩
def refsC (K : PySem.W.Frag) : Ct K := fun _ ds c P => ∃ (ts : List Str) (rs : List Rf), Parts ts rs ∧ ds = [.dct (refsD rs), .lst (ts.map Da.str)] ∧ c = 0 ∧ P (.bl true)
theorem ok_are_references (G : Glb K mg) (F_is_name : Fnd Pr w K mg base 1 "is_name" ["thing"] (spD (isNameC K))) (F_is_reference : Fnd Pr w K mg base 1 "is_reference" ["thing", "tables"] (spD (isRefC K))) (F : FnP K "are_references" s_are_references f fd) : FnOk Pr w K mg base CX0 2 f fd ["thing", "tables"] (spD (refsC K)) := by
  refine fn_data (k := 1) F sc_are_references (fun W ds c P h => ?_) (by decide) (fun cdv A outer s H E hr => ?_)
  · obtain ⟨_, _, _, rfl, _⟩ := h; rfl
  have hu := hu_of hr
  have hu64 := hu64_of hr
  refine ⟨_, PSs.nox (pss_cons (ps_if (PW.pt (pw_or (pt_not (pt_val (pe_callB (o_isi K) (by rfl) G.isinstance (by decide +kernel) (pa_cons (pv 0) (pa_cons (pe_type (n := "dict") (by rfl) G.dict (by decide +kernel)) pa_nil))))) (pw_or1 (pt_cmpR op_gt (pe_callB (o_len K) (by rfl) G.len (by decide +kernel) (pa_cons (pv 0) pa_nil)) (pe_globI (by rfl) G.MOST_REFERENCES_schemas) (nomark _)))))
      (pss_one (ps_ret pe_bl))
      pss_nil)
      (pss_one (ps_ret (pe_callB (o_all K) (by rfl) G.all (by decide +kernel) (pa_cons (pe_lockO (pe_lc (own := [("name", 2)]) (g := gName 2) (tt := tYes) rfl sc_are_references.nd (pi_keys (pv 0)) (blkOk_by (N := ["thing", "tables", "name"]) (sc := defScope s_are_references) (by decide +kernel)) (fun _ _ _ _ _ => (pg_name (i := 2) sc_are_references.nd rfl (by first | exact Or.inl rfl | exact Or.inr rfl))) (fun _ _ _ _ _ => pts_nil) (fun _ _ _ _ _ => (pe_and (pe_fun F_is_name hr (by decide) (by rfl) (pa_cons (pv 2) pa_nil)) (pe_one (pe_fun F_is_reference hr (by decide) (by rfl) (pa_cons (pe_ix (o_ix K hu) (pv 0) (pv 2) (fun _ _ => rfl)) (pa_cons (pv 1) pa_nil)))))))) pa_nil))))), ?_⟩
  rintro W ds c P ⟨ts, rs, h1, rfl, rfl, hp⟩
  exact es_are_references (fun x hx => fn_of_ct ⟨x, hx, rfl, rfl, rfl⟩) (fun ts a b k h1 h2 h3 => fn_of_ct ⟨ts, a, b, k, h1, h2, h3, rfl, rfl, rfl⟩) h1 hp
abbrev s_Schema___init__ : Stmt := inClass (top 15) 0
abbrev n_Schema___init__ : List Str := ["self", "tables", "references", "name"]
theorem sc_Schema___init__ : FnScope n_Schema___init__ ["self", "tables", "references"] (defScope s_Schema___init__) := ⟨rfl, rfl, rfl, by decide +kernel, rfl, by decide +kernel, by decide +kernel⟩
theorem ok_init (cl : Cls K (He.ga K "Schema")) (n1 : NoAttr K (He.ga K "Schema") "own_tables") (n2 : NoAttr K (He.ga K "Schema") "own_references") (G : Glb K mg) (F_are_tables : Fnd Pr w K mg base 2 "are_tables" ["thing"] (spD (tablesC K))) (F_are_references : Fnd Pr w K mg base 2 "are_references" ["thing", "tables"] (spD (refsC K))) (F : FnM K "__init__" "Schema.__init__" s_Schema___init__ f fd) :
    FnOk Pr w K mg base CX0 3 f fd ["self", "tables", "references"] (spI (He.ga K "Schema") (initT K)) := by
  refine fn_init (k := 2) F sc_Schema___init__ (fun W ds c P h => ?_) (by decide) (fun cdv A outer s H E hr => ?_)
  · obtain ⟨_, _, _, rfl, _⟩ := h; rfl
  have hu := hu_of hr
  have hu64 := hu64_of hr
  refine ⟨_, PSs.nox (pss_cons (ps_if (PW.pt (pw_or (pt_not (pt_val (pe_fun F_are_tables hr (by decide) (by rfl) (pa_cons (pv 1) pa_nil)))) (pw_or1 (pt_not (pt_val (pe_fun F_are_references hr (by decide) (by rfl) (pa_cons (pv 2) (pa_cons (pv 1) pa_nil))))))))
      (pss_one ps_never)
      pss_nil)
      (pss_cons (ps_fld (pv 0) (pe_callTy (o_tuple K) (by rfl) G.tuple (by decide +kernel) (pa_cons (pe_callB (o_sorted K) (by rfl) G.sorted (by decide +kernel) (pa_cons (pv 1) pa_nil)) pa_nil)) rfl)
      (pss_one (ps_fld (pv 0) (pe_dc (own := [("name", 3)]) (g := gName 3) (tt := tYes) rfl sc_Schema___init__.nd (p_list K (pe_callB (o_sorted K) (by rfl) G.sorted (by decide +kernel) (pa_cons (pv 2) pa_nil))) (blkOk_by (N := ["self", "tables", "references", "name"]) (sc := defScope s_Schema___init__) (by decide +kernel)) (fun _ _ _ _ _ => (pg_name (i := 3) sc_Schema___init__.nd rfl (by first | exact Or.inl rfl | exact Or.inr rfl))) (fun _ _ _ _ _ => pts_nil) (fun _ _ _ _ _ => (pv 3)) (fun _ _ _ _ _ => (pe_ix (o_ix K hu) (pv 2) (pv 3) (fun _ _ => rfl)))) rfl)))), ?_⟩
  rintro W ds c P aI ⟨ts, rs, h1, rfl, rfl, hp⟩
  exact es_init cl n1 n2 (fun ts a b c d => fn_of_ct ⟨ts, a, b, c, d, rfl, rfl, rfl⟩) (fun ts rs h => fn_of_ct ⟨ts, rs, h, rfl, rfl, rfl⟩) h1 ⟨_, rfl, hp⟩
abbrev s_Schema_tables : Stmt := inClass (top 15) 1
abbrev n_Schema_tables : List Str := ["self"]
theorem sc_Schema_tables : FnScope n_Schema_tables ["self"] (defScope s_Schema_tables) := ⟨rfl, rfl, rfl, by decide +kernel, rfl, by decide +kernel, by decide +kernel⟩
def tabsC (K : PySem.W.Frag) : Ct K := fun _ ds c P => ∃ ts rs, ds = [.ins (He.ga K "Schema") (schF ts rs)] ∧ c = 0 ∧ P (.tup ((sortT ts).map Da.str))
theorem ok_tables (cl : Cls K (He.ga K "Schema")) (n1 : NoAttr K (He.ga K "Schema") "own_tables") (G : Glb K mg) (F : FnM K "tables" "Schema.tables" s_Schema_tables f fd) : FnOk Pr w K mg base CX0 1 f fd ["self"] (spD (tabsC K)) := by
  refine fn_data (k := 0) F sc_Schema_tables (fun W ds c P h => ?_) (by decide) (fun cdv A outer s H E hr => ?_)
  · obtain ⟨_, _, rfl, _⟩ := h; rfl
  refine ⟨_, PSs.nox (pss_one (ps_ret (pe_fld (pv 0) rfl))), ?_⟩
  rintro W ds c P ⟨ts, rs, rfl, rfl, hp⟩
  exact es_tables cl n1 hp
abbrev s_Schema_references : Stmt := inClass (top 15) 2
abbrev n_Schema_references : List Str := ["self"]
theorem sc_Schema_references : FnScope n_Schema_references ["self"] (defScope s_Schema_references) := ⟨rfl, rfl, rfl, by decide +kernel, rfl, by decide +kernel, by decide +kernel⟩
def refdC (K : PySem.W.Frag) : Ct K := fun _ ds c P => ∃ ts rs, ds = [.ins (He.ga K "Schema") (schF ts rs)] ∧ c = 0 ∧ P (.dct (refsD (sortR rs)))
theorem ok_references (cl : Cls K (He.ga K "Schema")) (n2 : NoAttr K (He.ga K "Schema") "own_references") (G : Glb K mg) (F : FnM K "references" "Schema.references" s_Schema_references f fd) : FnOk Pr w K mg base CX0 1 f fd ["self"] (spD (refdC K)) := by
  refine fn_data (k := 0) F sc_Schema_references (fun W ds c P h => ?_) (by decide) (fun cdv A outer s H E hr => ?_)
  · obtain ⟨_, _, rfl, _⟩ := h; rfl
  refine ⟨_, PSs.nox (pss_one (ps_ret (pe_callTy (o_dictD) (by rfl) G.dict (by decide +kernel) (pa_cons (pe_fld (pv 0) rfl) pa_nil)))), ?_⟩
  rintro W ds c P ⟨ts, rs, rfl, rfl, hp⟩
  exact es_references cl n2 hp
abbrev s_Schema___eq__ : Stmt := inClass (top 15) 6
abbrev n_Schema___eq__ : List Str := ["self", "other"]
theorem sc_Schema___eq__ : FnScope n_Schema___eq__ ["self", "other"] (defScope s_Schema___eq__) := ⟨rfl, rfl, rfl, by decide +kernel, rfl, by decide +kernel, by decide +kernel⟩
def eqC (K : PySem.W.Frag) : Ct K := fun _ ds c P => ∃ ts rs, Parts ts rs ∧ ds = [.ins (He.ga K "Schema") (schF ts rs), .ins (He.ga K "Schema") (schF ts rs)] ∧ c = 0 ∧ P (.bl true)
theorem ok_eq (cl : C8.InsC K (He.ga K "Schema")) (n1 : NoAttr K (He.ga K "Schema") "own_tables") (n2 : NoAttr K (He.ga K "Schema") "own_references") (G : Glb K mg) (F : FnM K "__eq__" "Schema.__eq__" s_Schema___eq__ f fd) : FnOk Pr w K mg base CX0 1 f fd ["self", "other"] (spD (eqC K)) := by
  refine fn_data (k := 0) F sc_Schema___eq__ (fun W ds c P h => ?_) (by decide) (fun cdv A outer s H E hr => ?_)
  · obtain ⟨_, _, _, rfl, _⟩ := h; rfl
  have hu := hu_of hr
  have hu64 := hu64_of hr
  have hu65 := hu65_of hr
  refine ⟨_, PSs.nox (pss_cons (ps_if (pt_not (pt_val (pe_callB (o_isi K) (by rfl) G.isinstance (by decide +kernel) (pa_cons (pv 1) (pa_cons (pe_globR (by rfl) G.Schema) pa_nil)))))
      (pss_one (ps_ret pe_bl))
      pss_nil)
      (pss_one (ps_ret (pe_and (pe_cmpR (o_eq K hu64) (pe_fld (pv 0) rfl) (pe_fld (pv 1) rfl) (nomark _)) (pe_one (pe_cmpR (o_eqB K hu65) (pe_fld (pv 0) rfl) (pe_fld (pv 1) rfl) (nomark _))))))), ?_⟩
  rintro W ds c P ⟨ts, rs, h, rfl, rfl, hp⟩
  exact es_eq cl n1 n2 h hp
abbrev s_rows_of : Stmt := top 21
abbrev n_rows_of : List Str := ["text", "rows"]
theorem sc_rows_of : FnScope n_rows_of ["text"] (defScope s_rows_of) := ⟨rfl, rfl, rfl, by decide +kernel, rfl, by decide +kernel, by decide +kernel⟩
def rowsC (K : PySem.W.Frag) : Ct K := fun _ ds c P => ∃ ls : List Str, (∀ l ∈ ls, 10 ∉ tl l) ∧ (textOf ls).length ≤ 100000 ∧ ds = [.str (textOf ls)] ∧ c = 0 ∧ P (.tup [.lst (ls.map Da.str), .str ""])
theorem ok_rows_of (G : Glb K mg) (F : FnP K "rows_of" s_rows_of f fd) : FnOk Pr w K mg base CX0 1 f fd ["text"] (spD (rowsC K)) := by
  refine fn_data (k := 0) F sc_rows_of (fun W ds c P h => ?_) (by decide) (fun cdv A outer s H E hr => ?_)
  · obtain ⟨_, _, _, rfl, _⟩ := h; rfl
  have hu := hu_of hr
  refine ⟨_, PSs.nox (pss_cons (ps_set (i := 1) sc_rows_of.nd rfl (by first | exact Or.inl rfl | exact Or.inr rfl) (pe_split (pv 0) pe_str))
      (pss_one (ps_ret (pe_tup (pa_cons (pe_slice (o_sl K) (pv 1) po_none (po_some (pe_un un_neg pe_int))) (pa_cons (pe_ix (o_ix K hu) (pv 1) (pe_un un_neg pe_int) (fun _ _ => rfl)) pa_nil)))))), ?_⟩
  rintro W ds c P ⟨ls, h1, h2, rfl, rfl, hp⟩
  exact es_rows_of h1 h2 hp
abbrev s_is_new_table : Stmt := top 24
abbrev n_is_new_table : List Str := ["words", "tables", "references"]
theorem sc_is_new_table : FnScope n_is_new_table ["words", "tables", "references"] (defScope s_is_new_table) := ⟨rfl, rfl, rfl, by decide +kernel, rfl, by decide +kernel, by decide +kernel⟩
def newTabC (K : PySem.W.Frag) : Ct K := fun _ ds c P => c = 0 ∧ ((∃ (t : Str) (ts : List Str), isName t = true ∧ t ∉ ts ∧ ts.length < 5 ∧ ds = [.lst ((tabW t).map Da.str), .lst (ts.map Da.str), .dct []] ∧ P (.bl true)) ∨ ∃ (r : Rf) (d1 d2 : Da), ds = [.lst ((refW r).map Da.str), d1, d2] ∧ P (.bl false))
theorem ok_is_new_table (G : Glb K mg) (F_is_name : Fnd Pr w K mg base 1 "is_name" ["thing"] (spD (isNameC K))) (F : FnP K "is_new_table" s_is_new_table f fd) : FnOk Pr w K mg base CX0 2 f fd ["words", "tables", "references"] (spD (newTabC K)) := by
  refine fn_data (k := 1) F sc_is_new_table (fun W ds c P h => ?_) (by decide) (fun cdv A outer s H E hr => ?_)
  · obtain ⟨_, ⟨_, _, _, _, _, rfl, _⟩ | ⟨_, _, _, rfl, _⟩⟩ := h <;> rfl
  have hu := hu_of hr
  have hu64 := hu64_of hr
  have hu65 := hu65_of hr
  refine ⟨_, PSs.nox (pss_cons (ps_if (PW.pt (pw_or (pt_cmpR (o_ne K hu64) (pe_callB (o_len K) (by rfl) G.len (by decide +kernel) (pa_cons (pv 0) pa_nil)) pe_int (nomark _)) (pw_or (pt_cmpR (o_ne K hu64) (pe_ix (o_ix K hu) (pv 0) pe_int (fun _ _ => rfl)) pe_str (nomark _)) (pw_or1 (pt_not (pt_val (pe_fun F_is_name hr (by decide) (by rfl) (pa_cons (pe_ix (o_ix K hu) (pv 0) pe_int (fun _ _ => rfl)) pa_nil))))))))
      (pss_one (ps_ret pe_bl))
      pss_nil)
      (pss_one (ps_ret (pe_and (pe_cmpR (o_eqB K hu65) (pv 2) pe_dnewK (nomark _)) (pe_and (pe_cmpR (o_notin K hu) (pe_ix (o_ix K hu) (pv 0) pe_int (fun _ _ => rfl)) (pv 1) (by rfl)) (pe_one (pe_cmpR op_lt (pe_callB (o_len K) (by rfl) G.len (by decide +kernel) (pa_cons (pv 1) pa_nil)) (pe_globI (by rfl) G.MOST_TABLES_texts) (nomark _)))))))), ?_⟩
  rintro W ds c P ⟨rfl, ⟨t, ts, h1, h2, h3, rfl, hp⟩ | ⟨r, d1, d2, rfl, hp⟩⟩
  · exact es_new_table (fun x hx => fn_of_ct ⟨x, hx, rfl, rfl, rfl⟩) h1 h2 h3 hp
  · exact es_new_tableN hp
abbrev s_is_new_reference : Stmt := top 25
abbrev n_is_new_reference : List Str := ["words", "tables", "references"]
theorem sc_is_new_reference : FnScope n_is_new_reference ["words", "tables", "references"] (defScope s_is_new_reference) := ⟨rfl, rfl, rfl, by decide +kernel, rfl, by decide +kernel, by decide +kernel⟩
def newRefC (K : PySem.W.Frag) : Ct K := fun _ ds c P => ∃ (r : Rf) (ts : List Str) (rs : List Rf), isName r.1 = true ∧ r.1 ∉ rs.map (·.1) ∧ rs.length < 6 ∧ r.2.1 ∈ ts ∧ r.2.2.1 ∈ ts ∧ (r.2.2.2 = "many" ∨ r.2.2.2 = "single") ∧ ds = [.lst ((refW r).map Da.str), .lst (ts.map Da.str), .dct (refsD rs)] ∧ c = 0 ∧ P (.bl true)
theorem ok_is_new_reference (hK : KindsOk K (He.ga K "KINDS_texts")) (G : Glb K mg) (F_is_name : Fnd Pr w K mg base 1 "is_name" ["thing"] (spD (isNameC K))) (F : FnP K "is_new_reference" s_is_new_reference f fd) : FnOk Pr w K mg base CX0 2 f fd ["words", "tables", "references"] (spD (newRefC K)) := by
  refine fn_data (k := 1) F sc_is_new_reference (fun W ds c P h => ?_) (by decide) (fun cdv A outer s H E hr => ?_)
  · obtain ⟨_, _, _, _, _, _, _, _, _, rfl, _⟩ := h; rfl
  have hu := hu_of hr
  have hu64 := hu64_of hr
  refine ⟨_, PSs.nox (pss_cons (ps_if (PW.pt (pw_or (pt_cmpR (o_ne K hu64) (pe_callB (o_len K) (by rfl) G.len (by decide +kernel) (pa_cons (pv 0) pa_nil)) pe_int (nomark _)) (pw_or (pt_cmpR (o_ne K hu64) (pe_ix (o_ix K hu) (pv 0) pe_int (fun _ _ => rfl)) pe_str (nomark _)) (pw_or (pt_not (pt_val (pe_fun F_is_name hr (by decide) (by rfl) (pa_cons (pe_ix (o_ix K hu) (pv 0) pe_int (fun _ _ => rfl)) pa_nil)))) (pw_or1 (pt_cmpR (o_notin K hu) (pe_ix (o_ix K hu) (pv 0) pe_int (fun _ _ => rfl)) (pe_globR (by rfl) G.KINDS_texts) (by rfl)))))))
      (pss_one (ps_ret pe_bl))
      pss_nil)
      (pss_cons (ps_if (PW.pt (pw_or (pt_cmpR (o_in K hu) (pe_ix (o_ix K hu) (pv 0) pe_int (fun _ _ => rfl)) (pv 2) (by rfl)) (pw_or1 (pt_cmpR (o_eq K hu64) (pe_callB (o_len K) (by rfl) G.len (by decide +kernel) (pa_cons (pv 2) pa_nil)) (pe_globI (by rfl) G.MOST_REFERENCES_texts) (nomark _)))))
      (pss_one (ps_ret pe_bl))
      pss_nil)
      (pss_one (ps_ret (pe_and (pe_cmpR (o_in K hu) (pe_ix (o_ix K hu) (pv 0) pe_int (fun _ _ => rfl)) (pv 1) (by rfl)) (pe_one (pe_cmpR (o_in K hu) (pe_ix (o_ix K hu) (pv 0) pe_int (fun _ _ => rfl)) (pv 1) (by rfl)))))))), ?_⟩
  rintro W ds c P ⟨r, ts, rs, h1, h2, h3, h4, h5, h6, rfl, rfl, hp⟩
  exact es_new_ref hK (fun x hx => fn_of_ct ⟨x, hx, rfl, rfl, rfl⟩) h1 h2 h3 h4 h5 h6 hp
end
end P75
set_option Elab.async false
set_option linter.all false
set_option maxRecDepth 100000
set_option maxHeartbeats 4000000
/-! N75: each def keeps its promise, the later ones -/
namespace P75N
open PySem L2 TL WJ P75
structure Glb (K : PySem.W.Frag) (mg : Str → Option Value) : Prop where
  enumerate : mg "enumerate" = none
  int : mg "int" = none
  isinstance : mg "isinstance" = none
  len : mg "len" = none
  list : mg "list" = none
  range : mg "range" = none
  str : mg "str" = none
theorem m_join (K : PySem.W.Frag) {X : Cx} {o e : Expr} {to te : TE} {apos pos : Pos} (ho : PE X o to) (he : PE X e te) (hb : attributeBase o "join" X.env (eval o X.env) = eval o X.env := by rfl) (hl : (apos.endLine == pos.line) = true := by rfl) (hs : starEach [e] X.env = [(false, eval e X.env)] := by rfl) (hK : X.K = K := by rfl) :
    PE X (.Call (.Attribute o "join" apos) [e] [] pos) (tM1 (r_join K) to te) := by
  subst hK
  exact pe_join ho he hs hb hl
section
variable {Pr : Program} {w : World} {K : PySem.W.Frag} {mg : Str → Option Value} {base : Heap} {f : Addr} {fd : FuncData}
abbrev s_text_of_rows : Stmt := top 22
abbrev n_text_of_rows : List Str := ["rows", "words"]
theorem sc_text_of_rows : FnScope n_text_of_rows ["rows"] (defScope s_text_of_rows) := ⟨rfl, rfl, rfl, by decide +kernel, rfl, by decide +kernel, by decide +kernel⟩
def textC (K : PySem.W.Frag) : Ct K := fun _ ds c P => ∃ rows : List (List Str), (∀ ws ∈ rows, Row ws) ∧ rows.length ≤ 20 ∧ ds = [.lst (rows.map rowD)] ∧ c = 0 ∧ P (.str (textOf (rows.map (Txt.join " "))))
theorem ok_text_of_rows (G : Glb K mg) (F : FnP K "text_of_rows" s_text_of_rows f fd) : FnOk Pr w K mg base CX0 1 f fd ["rows"] (spD (textC K)) := by
  refine fn_data (k := 0) F sc_text_of_rows (fun W ds c P h => ?_) (by decide) (fun cdv A outer s H E hr => ?_)
  · obtain ⟨_, _, _, rfl, _⟩ := h; rfl
  have hu := hu_of hr
  refine ⟨_, PSs.nox (pss_one (ps_ret (m_join K pe_str (pe_lc (own := [("words", 1)]) (g := gName 1) (tt := tYes) rfl sc_text_of_rows.nd (p_list K (pv 0)) (blkOk_by (N := ["rows", "words"]) (sc := defScope s_text_of_rows) (by decide +kernel)) (fun _ _ _ _ _ => (pg_name (i := 1) sc_text_of_rows.nd rfl (by first | exact Or.inl rfl | exact Or.inr rfl))) (fun _ _ _ _ _ => pts_nil) (fun _ _ _ _ _ => (pe_op (o_add K) (m_join K pe_str (pv 1)) pe_str)))))), ?_⟩
  rintro W ds c P ⟨rows, h1, h2, rfl, rfl, hp⟩
  exact es_text_of_rows h1 h2 hp
abbrev s_read_schema : Stmt := top 26
abbrev n_read_schema : List Str := ["text", "rows", "rest", "tables", "references", "k", "row", "words"]
theorem sc_read_schema : FnScope n_read_schema ["text"] (defScope s_read_schema) := ⟨rfl, rfl, rfl, by decide +kernel, rfl, by decide +kernel, by decide +kernel⟩
def readC (K : PySem.W.Frag) : Ct K := fun _ ds c P => ∃ ts rs, Parts ts rs ∧ ds = [.str (textOf (linesW ts rs))] ∧ c = 0 ∧ P (.ins (He.ga K "Schema") (schF ts rs))
theorem ok_read_schema (G : Glb K mg) (F_rows_of : Fnd Pr w K mg base 1 "rows_of" ["text"] (spD (rowsC K))) (F_is_new_table : Fnd Pr w K mg base 2 "is_new_table" ["words", "tables", "references"] (spD (newTabC K))) (F_is_new_reference : Fnd Pr w K mg base 2 "is_new_reference" ["words", "tables", "references"] (spD (newRefC K)))
    (M_Schema : Mkd Pr w K mg base 3 "Schema" (He.ga K "Schema") ["self", "tables", "references"] (spI (He.ga K "Schema") (initT K))) (F : FnP K "read_schema" s_read_schema f fd) : FnOk Pr w K mg base CX0 5 f fd ["text"] (spD (readC K)) := by
  refine fn_data (k := 4) F sc_read_schema (fun W ds c P h => ?_) (by decide) (fun cdv A outer s H E hr => ?_)
  · obtain ⟨_, _, _, rfl, _⟩ := h; rfl
  have hu := hu_of hr
  have hu64 := hu64_of hr
  refine ⟨_, PSs.nox (pss_cons (ps_if (pt_not (pt_val (pe_callB (o_isi K) (by rfl) G.isinstance (by decide +kernel) (pa_cons (pv 0) (pa_cons (pe_type (n := "str") (by rfl) G.str (by decide +kernel)) pa_nil)))))
      (pss_one ps_never)
      pss_nil)
      (pss_cons (ps_asg (pe_fun F_rows_of hr (by decide) (by rfl) (pa_cons (pv 0) pa_nil)) (p_tupT K (e2 := .Name "" ⟨0, 0, 0, 0⟩) (pg_tup rfl (pgs_cons (pg_name (i := 1) sc_read_schema.nd rfl (by first | exact Or.inl rfl | exact Or.inr rfl)) (pgs_cons (pg_name (i := 2) sc_read_schema.nd rfl (by first | exact Or.inl rfl | exact Or.inr rfl)) pgs_nil)))))
      (pss_cons (ps_par (i := 3) (j := 4) (by rfl) sc_read_schema.nd rfl rfl (by decide) rfl rfl (pa_cons (pe_lst pa_nil) (pa_cons pe_dnewK pa_nil)) (by rfl))
      (pss_cons (ps_for PassesOwn.never rfl (p_enum K (by rfl) G.enumerate (pa_cons (pv 1) pa_nil)) (p_tupT K (e2 := .Name "" ⟨0, 0, 0, 0⟩) (pg_tup rfl (pgs_cons (pg_name (i := 5) sc_read_schema.nd rfl (by first | exact Or.inl rfl | exact Or.inr rfl)) (pgs_cons (pg_name (i := 6) sc_read_schema.nd rfl (by first | exact Or.inl rfl | exact Or.inr rfl)) pgs_nil))))
      (pss_cons (ps_set (i := 7) sc_read_schema.nd rfl (by first | exact Or.inl rfl | exact Or.inr rfl) (pe_split (pv 6) pe_str))
      (pss_one (ps_if (pt_val (pe_fun F_is_new_table hr (by decide) (by rfl) (pa_cons (pv 7) (pa_cons (pv 3) (pa_cons (pv 4) pa_nil)))))
      (pss_one (ps_expr (pe_bm PySem.F.plainAttrs_list PySem.F.slot_list_append PySem.F.type_list_append mt_append (pv 3) (pa_cons (pe_ix (o_ix K hu) (pv 7) pe_int (fun _ _ => rfl)) pa_nil))))
      (pss_one (ps_if (pt_val (pe_fun F_is_new_reference hr (by decide) (by rfl) (pa_cons (pv 7) (pa_cons (pv 3) (pa_cons (pv 4) pa_nil)))))
      (pss_one (ps_dput hu (pv 4) (pe_ix (o_ix K hu) (pv 7) pe_int (fun _ _ => rfl)) (pe_tup (pa_cons (pe_ix (o_ix K hu) (pv 7) pe_int (fun _ _ => rfl)) (pa_cons (pe_ix (o_ix K hu) (pv 7) pe_int (fun _ _ => rfl)) (pa_cons (pe_ix (o_ix K hu) (pv 7) pe_int (fun _ _ => rfl)) pa_nil)))) rfl))
      (pss_one ps_never)))))))
      (pss_cons (ps_if (PW.pt (pw_or (pt_cmpR (o_ne K hu64) (pv 2) pe_str (nomark _)) (pw_or1 (pt_cmpR (o_eq K hu64) (pv 3) (pe_lst pa_nil) (nomark _)))))
      (pss_one ps_never)
      pss_nil)
      (pss_one (ps_ret (pe_mk M_Schema hr (by decide) (by rfl) (pa_cons (pv 3) (pa_cons (pv 4) pa_nil)))))))))), ?_⟩
  rintro W ds c P ⟨ts, rs, h1, rfl, rfl, hp⟩
  exact es_read h1 (fun ls a b => fn_of_ct ⟨ls, a, b, rfl, rfl, rfl⟩) ⟨fun t ts a b c => fn_of_ct ⟨rfl, Or.inl ⟨t, ts, a, b, c, rfl, rfl⟩⟩, fun r d1 d2 => fn_of_ct ⟨rfl, Or.inr ⟨r, d1, d2, rfl, rfl⟩⟩⟩ (fun r ts rs a b c d e f => fn_of_ct ⟨r, ts, rs, a, b, c, d, e, f, rfl, rfl, rfl⟩) hp
abbrev s__law_next : Stmt := top 29
abbrev n__law_next : List Str := ["_law_draw", "_law_size", "_law_found", "_law_cell", "_law_mixed"]
theorem sc__law_next : FnScope n__law_next ["_law_draw", "_law_size"] (defScope s__law_next) := ⟨rfl, rfl, rfl, by decide +kernel, rfl, by decide +kernel, by decide +kernel⟩
def nextC (K : PySem.W.Frag) : Ct K := fun W ds c P => ∃ (p g l : Addr) (n : Int), W = DW2 K p g l ∧ 0 < n ∧ n < 2 ^ 62 ∧ ds = [.obj p, .int n] ∧ c = 1 ∧ ∀ k, 0 ≤ k → k < n → P (.int k)
theorem ok_next (G : Glb K mg) (F : FnP K "_law_next" s__law_next f fd) : FnOk Pr w K mg base CX0 1 f fd ["_law_draw", "_law_size"] (spD (nextC K)) := by
  refine fn_data (k := 0) F sc__law_next (fun W ds c P h => ?_) (by decide) (fun cdv A outer s H E hr => ?_)
  · obtain ⟨_, _, _, _, _, _, _, rfl, _⟩ := h; rfl
  have hu := hu_of hr
  have hu64 := hu64_of hr
  refine ⟨_, PSs.nox (pss_cons (ps_while PassesOwn.never (PW.pt (pw_and (pt_cmpR (o_ne K hu64) (pe_ix (o_ix K hu) (pv 0) pe_str (fun _ _ => rfl)) (pe_lst pa_nil) (nomark _)) (pw_and1 (pt_cmpR (o_eq K hu64) (pe_ix (o_ix K hu) (pe_ix (o_ix K hu) (pv 0) pe_str (fun _ _ => rfl)) pe_int (fun _ _ => rfl)) pe_int (nomark _)))))
      (pss_one (ps_expr (pe_bm PySem.F.plainAttrs_list PySem.F.slot_list_pop PySem.F.type_list_pop mt_popAt (pe_ix (o_ix K hu) (pv 0) pe_str (fun _ _ => rfl)) (pa_cons pe_int pa_nil)))))
      (pss_cons (ps_if (pt_cmpR (o_ne K hu64) (pe_ix (o_ix K hu) (pv 0) pe_str (fun _ _ => rfl)) (pe_lst pa_nil) (nomark _))
      (pss_cons (ps_set (i := 2) sc__law_next.nd rfl (by first | exact Or.inl rfl | exact Or.inr rfl) (pe_op op_mod (pe_callTy (o_int) (by rfl) G.int (by decide +kernel) (pa_cons (pe_ix (o_ix K hu) (pe_ix (o_ix K hu) (pv 0) pe_str (fun _ _ => rfl)) pe_int (fun _ _ => rfl)) pa_nil)) (pv 1)))
      (pss_cons (ps_asg (pe_op op_fdivW (pe_ix (o_ix K hu) (pe_ix (o_ix K hu) (pv 0) pe_str (fun _ _ => rfl)) pe_int (fun _ _ => rfl)) (pv 1)) (pg_sub (pe_ix (o_ix K hu) (pv 0) pe_str (fun _ _ => rfl)) pe_int set_list))
      (pss_one (ps_ret (pv 2)))))
      pss_nil)
      (pss_cons (ps_daug hu (pv 0) pe_str pe_int in_add (fun _ _ _ => rfl))
      (pss_cons (ps_set (i := 3) sc__law_next.nd rfl (by first | exact Or.inl rfl | exact Or.inr rfl) (pe_ix (o_ix K hu) (pe_ix (o_ix K hu) (pv 0) pe_str (fun _ _ => rfl)) (pe_op op_mod (pe_callTy (o_int) (by rfl) G.int (by decide +kernel) (pa_cons (pe_ix (o_ix K hu) (pv 0) pe_str (fun _ _ => rfl)) pa_nil)) (pe_callB (o_len K) (by rfl) G.len (by decide +kernel) (pa_cons (pe_ix (o_ix K hu) (pv 0) pe_str (fun _ _ => rfl)) pa_nil))) (fun _ _ => rfl)))
      (pss_cons (ps_set (i := 4) sc__law_next.nd rfl (by first | exact Or.inl rfl | exact Or.inr rfl) (pe_op op_mod (pe_callTy (o_int) (by rfl) G.int (by decide +kernel) (pa_cons (pe_op op_pow (pe_op (o_add K) (pv 3) (pe_op op_mulW pe_int (pe_ix (o_ix K hu) (pv 0) pe_str (fun _ _ => rfl)))) pe_int) pa_nil)) pe_int))
      (pss_one (ps_ret (pe_op op_mod (pe_callTy (o_int) (by rfl) G.int (by decide +kernel) (pa_cons (pe_op op_fdivW (pe_op op_mod (pe_callTy (o_int) (by rfl) G.int (by decide +kernel) (pa_cons (pe_op op_pow (pe_op (o_add K) (pv 4) (pe_op op_mulW pe_int (pe_ix (o_ix K hu) (pv 0) pe_str (fun _ _ => rfl)))) pe_int) pa_nil)) pe_int) pe_int) pa_nil)) (pv 1))))))))), ?_⟩
  rintro W ds c P ⟨p, g, l, n, rfl, h1, h2, rfl, rfl, hp⟩
  have h := es_next2 (K := K) (p := p) (g := g) (l := l) h1 h2
  exact fun H0 B0 B σ H M D s hM a b e f => h H0 B0 B σ H M D s hM (fun _ _ _ _ _ _ z => z.elim) (fun v d H' k r hd ⟨i, e1, e2, e3⟩ => b v d H' k r hd (by rw [e1]; exact hp i e2 e3)) (fun _ _ _ _ _ _ z => z.elim) (fun _ _ _ _ _ _ z => z.elim)
theorem next_ok {p g l : Addr} : NextOk (DW2 K p g l) p (spD (nextC K)) := fun n P h1 h2 h3 => fn_of_ct ⟨p, g, l, n, rfl, h1, h2, rfl, rfl, h3⟩
abbrev s__law_pick : Stmt := top 30
abbrev n__law_pick : List Str := ["_law_draw", "_law_some"]
theorem sc__law_pick : FnScope n__law_pick ["_law_draw", "_law_some"] (defScope s__law_pick) := ⟨rfl, rfl, rfl, by decide +kernel, rfl, by decide +kernel, by decide +kernel⟩
def pickC (K : PySem.W.Frag) : Ct K := fun W ds c P => ∃ (p g l : Addr) (d : Da) (xs : List Da), W = DW2 K p g l ∧ seqD d = some xs ∧ xs ≠ [] ∧ xs.length ≤ 100000 ∧ ds = [.obj p, d] ∧ c = 1 ∧ ∀ x ∈ xs, P x
theorem ok_pick (G : Glb K mg) (F__law_next : Fnd Pr w K mg base 1 "_law_next" ["_law_draw", "_law_size"] (spD (nextC K))) (F : FnP K "_law_pick" s__law_pick f fd) : FnOk Pr w K mg base CX0 2 f fd ["_law_draw", "_law_some"] (spD (pickC K)) := by
  refine fn_data (k := 1) F sc__law_pick (fun W ds c P h => ?_) (by decide) (fun cdv A outer s H E hr => ?_)
  · obtain ⟨_, _, _, _, _, _, _, _, _, rfl, _⟩ := h; rfl
  have hu := hu_of hr
  refine ⟨_, PSs.nox (pss_one (ps_ret (pe_ix (o_ix K hu) (pv 1) (pe_fun F__law_next hr (by decide) (by rfl) (pa_cons (pv 0) (pa_cons (pe_callB (o_len K) (by rfl) G.len (by decide +kernel) (pa_cons (pv 1) pa_nil)) pa_nil))) (fun _ _ => rfl)))), ?_⟩
  rintro W ds c P ⟨p, g, l, d, xs, rfl, h1, h2, h3, rfl, rfl, hp⟩
  exact es_pick next_ok h1 h2 h3 hp
theorem pick_ok {p g l : Addr} : PickOk (DW2 K p g l) p (spD (pickC K)) := fun d xs P h1 h2 h3 h4 => fn_of_ct ⟨p, g, l, d, xs, rfl, h1, h2, h3, rfl, rfl, h4⟩
abbrev s__law_shuffled : Stmt := top 31
abbrev n__law_shuffled : List Str := ["_law_draw", "_law_some", "_law_left", "_law_found"]
theorem sc__law_shuffled : FnScope n__law_shuffled ["_law_draw", "_law_some"] (defScope s__law_shuffled) := ⟨rfl, rfl, rfl, by decide +kernel, rfl, by decide +kernel, by decide +kernel⟩
def shufC (K : PySem.W.Frag) : Ct K := fun W ds c P => ∃ (p g l : Addr) (xs : List Str), W = DW2 K p g l ∧ xs.length ≤ 11 ∧ xs.all okS = true ∧ ds = [.obj p, .lst (xs.map Da.str)] ∧ c = 12 ∧ ∀ ys : List Str, ys.Perm xs → P (.lst (ys.map Da.str))
theorem ok_shuffled (G : Glb K mg) (F__law_next : Fnd Pr w K mg base 1 "_law_next" ["_law_draw", "_law_size"] (spD (nextC K))) (F : FnP K "_law_shuffled" s__law_shuffled f fd) : FnOk Pr w K mg base CX0 2 f fd ["_law_draw", "_law_some"] (spD (shufC K)) := by
  refine fn_data (k := 1) F sc__law_shuffled (fun W ds c P h => ?_) (by decide) (fun cdv A outer s H E hr => ?_)
  · obtain ⟨_, _, _, _, _, _, _, rfl, _⟩ := h; rfl
  have hu := hu_of hr
  have hu64 := hu64_of hr
  refine ⟨_, PSs.nox (pss_cons (ps_par (i := 2) (j := 3) (by rfl) sc__law_shuffled.nd rfl rfl (by decide) rfl rfl (pa_cons (pe_callTy (o_list K) (by rfl) G.list (by decide +kernel) (pa_cons (pv 1) pa_nil)) (pa_cons (pe_lst pa_nil) pa_nil)) (by rfl))
      (pss_cons (ps_while PassesOwn.never (pt_cmpR (o_ne K hu64) (pv 2) (pe_lst pa_nil) (nomark _))
      (pss_one (ps_expr (pe_bm PySem.F.plainAttrs_list PySem.F.slot_list_append PySem.F.type_list_append mt_append (pv 3) (pa_cons (pe_bm PySem.F.plainAttrs_list PySem.F.slot_list_pop PySem.F.type_list_pop mt_popAt (pv 2) (pa_cons (pe_fun F__law_next hr (by decide) (by rfl) (pa_cons (pv 0) (pa_cons (pe_callB (o_len K) (by rfl) G.len (by decide +kernel) (pa_cons (pv 2) pa_nil)) pa_nil))) pa_nil)) pa_nil)))))
      (pss_one (ps_ret (pv 3))))), ?_⟩
  rintro W ds c P ⟨p, g, l, xs, rfl, h1, h2, rfl, rfl, hp⟩
  exact (es_shuffled next_ok (by omega) h2 hp).weak (by omega)
abbrev s__law_name : Stmt := top 32
abbrev n__law_name : List Str := ["_law_draw", "_law_taken", "_law_letters", "_law_some", "_law_turn", "_law_k", "_law_name_here"]
theorem sc__law_name : FnScope n__law_name ["_law_draw", "_law_taken"] (defScope s__law_name) := ⟨rfl, rfl, rfl, by decide +kernel, rfl, by decide +kernel, by decide +kernel⟩
def nameC (K : PySem.W.Frag) : Ct K := fun W ds c P => ∃ (p g l : Addr) (d : Da) (tk : List Str), W = DW2 K p g l ∧ Taken d tk ∧ tk.length ≤ 25 ∧ ds = [.obj p, d] ∧ c = 40 ∧ ∀ x, isName x = true → x ∉ tk → P (.str x)
theorem ok_name (G : Glb K mg) (F__law_next : Fnd Pr w K mg base 1 "_law_next" ["_law_draw", "_law_size"] (spD (nextC K))) (F__law_pick : Fnd Pr w K mg base 2 "_law_pick" ["_law_draw", "_law_some"] (spD (pickC K))) (F : FnP K "_law_name" s__law_name f fd) : FnOk Pr w K mg base CX0 3 f fd ["_law_draw", "_law_taken"] (spD (nameC K)) := by
  refine fn_data (k := 2) F sc__law_name (fun W ds c P h => ?_) (by decide) (fun cdv A outer s H E hr => ?_)
  · obtain ⟨_, _, _, _, _, _, _, _, rfl, _⟩ := h; rfl
  have hu := hu_of hr
  refine ⟨_, PSs.nox (pss_cons (ps_set (i := 2) sc__law_name.nd rfl (by first | exact Or.inl rfl | exact Or.inr rfl) pe_str)
      (pss_cons (ps_set (i := 3) sc__law_name.nd rfl (by first | exact Or.inl rfl | exact Or.inr rfl) (pe_lst (pa_cons pe_str (pa_cons pe_str (pa_cons pe_str (pa_cons pe_str (pa_cons pe_str (pa_cons pe_str (pa_cons pe_str (pa_cons pe_str pa_nil))))))))))
      (pss_cons (ps_set (i := 3) sc__law_name.nd rfl (by first | exact Or.inl rfl | exact Or.inr rfl) (pe_op (o_add K) (pv 3) (pe_lc (own := [("_law_turn", 4)]) (g := gName 4) (tt := tYes) rfl sc__law_name.nd (pi_range1 (by rfl) G.range (pa_cons pe_int pa_nil)) (blkOk_by (N := ["_law_draw", "_law_taken", "_law_letters", "_law_some", "_law_turn", "_law_k", "_law_name_here"]) (sc := defScope s__law_name) (by decide +kernel)) (fun _ _ _ _ _ => (pg_name (i := 4) sc__law_name.nd rfl (by first | exact Or.inl rfl | exact Or.inr rfl))) (fun _ _ _ _ _ => pts_nil) (fun _ _ _ _ _ => (m_join K pe_str (pe_lc (own := [("_law_k", 5)]) (g := gName 5) (tt := tYes) rfl sc__law_name.nd (pi_range1 (by rfl) G.range (pa_cons (pe_op (o_add K) pe_int (pe_fun F__law_next hr (by decide) (by rfl) (pa_cons (pv 0) (pa_cons pe_int pa_nil)))) pa_nil)) (by first | exact blkOk_by (by decide +kernel) | exact blkOk_by (by rfl) | exact blkOk_by (by kernel_rfl)) (fun _ _ _ _ _ => (pg_name (i := 5) sc__law_name.nd rfl (by first | exact Or.inl rfl | exact Or.inr rfl))) (fun _ _ _ _ _ => pts_nil) (fun _ _ _ _ _ => (pe_fun F__law_pick hr (by decide) (by rfl) (pa_cons (pv 0) (pa_cons (pv 2) pa_nil))))))))))
      (pss_cons (ps_set (i := 3) sc__law_name.nd rfl (by first | exact Or.inl rfl | exact Or.inr rfl) (pe_op (o_add K) (pe_op (o_add K) (pe_slice (o_sl K) (pv 3) (po_some (pe_fun F__law_next hr (by decide) (by rfl) (pa_cons (pv 0) (pa_cons (pe_callB (o_len K) (by rfl) G.len (by decide +kernel) (pa_cons (pv 3) pa_nil)) pa_nil)))) po_none) (pv 3)) (pe_callTy (o_list K) (by rfl) G.list (by decide +kernel) (pa_cons (pv 2) pa_nil))))
      (pss_one (ps_ret (pe_ix (o_ix K hu) (pe_lc (own := [("_law_name_here", 6)]) (g := gName 6)  rfl sc__law_name.nd (p_list K (pv 3)) (blkOk_by (N := ["_law_draw", "_law_taken", "_law_letters", "_law_some", "_law_turn", "_law_k", "_law_name_here"]) (sc := defScope s__law_name) (by decide +kernel)) (fun _ _ _ _ _ => (pg_name (i := 6) sc__law_name.nd rfl (by first | exact Or.inl rfl | exact Or.inr rfl))) (fun _ _ _ _ _ => (pts_one (pt_cmpR (o_notin K hu) (pv 6) (pv 1) (by rfl)))) (fun _ _ _ _ _ => (pv 6))) pe_int (fun _ _ => rfl)))))))), ?_⟩
  rintro W ds c P ⟨p, g, l, d, tk, rfl, h1, h2, rfl, rfl, hp⟩
  exact es_name next_ok pick_ok h1 h2 hp
abbrev s__law_parts : Stmt := top 33
abbrev n__law_parts : List Str := ["_law_draw", "_law_tables", "_law_references", "_law_k", "_law_ends"]
theorem sc__law_parts : FnScope n__law_parts ["_law_draw"] (defScope s__law_parts) := ⟨rfl, rfl, rfl, by decide +kernel, rfl, by decide +kernel, by decide +kernel⟩
def partsC (K : PySem.W.Frag) : Ct K := fun W ds c P => ∃ (p g l : Addr), W = DW2 K p g l ∧ ds = [.obj p] ∧ c = 800 ∧ ∀ ts rs, Parts ts rs → P (.tup [.lst (ts.map Da.str), .dct (refsD rs)])
theorem ok_parts (G : Glb K mg) (F__law_next : Fnd Pr w K mg base 1 "_law_next" ["_law_draw", "_law_size"] (spD (nextC K))) (F__law_pick : Fnd Pr w K mg base 2 "_law_pick" ["_law_draw", "_law_some"] (spD (pickC K))) (F__law_name : Fnd Pr w K mg base 3 "_law_name" ["_law_draw", "_law_taken"] (spD (nameC K))) (F : FnP K "_law_parts" s__law_parts f fd) : FnOk Pr w K mg base CX0 4 f fd ["_law_draw"] (spD (partsC K)) := by
  refine fn_data (k := 3) F sc__law_parts (fun W ds c P h => ?_) (by decide) (fun cdv A outer s H E hr => ?_)
  · obtain ⟨_, _, _, _, rfl, _⟩ := h; rfl
  have hu := hu_of hr
  refine ⟨_, PSs.nox (pss_cons (ps_par (i := 1) (j := 2) (by rfl) sc__law_parts.nd rfl rfl (by decide) rfl rfl (pa_cons (pe_lst pa_nil) (pa_cons pe_dnewK pa_nil)) (by rfl))
      (pss_cons (ps_for PassesOwn.never rfl (pi_range1 (by rfl) G.range (pa_cons (pe_op (o_add K) pe_int (pe_fun F__law_next hr (by decide) (by rfl) (pa_cons (pv 0) (pa_cons pe_int pa_nil)))) pa_nil)) (pg_name (i := 3) sc__law_parts.nd rfl (by first | exact Or.inl rfl | exact Or.inr rfl))
      (pss_one (ps_expr (pe_bm PySem.F.plainAttrs_list PySem.F.slot_list_append PySem.F.type_list_append mt_append (pv 1) (pa_cons (pe_fun F__law_name hr (by decide) (by rfl) (pa_cons (pv 0) (pa_cons (pv 1) pa_nil))) pa_nil)))))
      (pss_cons (ps_for PassesOwn.never rfl (pi_range1 (by rfl) G.range (pa_cons (pe_fun F__law_next hr (by decide) (by rfl) (pa_cons (pv 0) (pa_cons pe_int pa_nil))) pa_nil)) (pg_name (i := 3) sc__law_parts.nd rfl (by first | exact Or.inl rfl | exact Or.inr rfl))
      (pss_cons (ps_set (i := 4) sc__law_parts.nd rfl (by first | exact Or.inl rfl | exact Or.inr rfl) (pe_tup (pa_cons (pe_fun F__law_pick hr (by decide) (by rfl) (pa_cons (pv 0) (pa_cons (pv 1) pa_nil))) (pa_cons (pe_fun F__law_pick hr (by decide) (by rfl) (pa_cons (pv 0) (pa_cons (pv 1) pa_nil))) pa_nil))))
      (pss_one (ps_dput hu (pv 2) (pe_fun F__law_name hr (by decide) (by rfl) (pa_cons (pv 0) (pa_cons (pv 2) pa_nil))) (pe_op (o_add K) (pv 4) (pe_tup (pa_cons (pe_fun F__law_pick hr (by decide) (by rfl) (pa_cons (pv 0) (pa_cons (pe_lst (pa_cons pe_str (pa_cons pe_str pa_nil))) pa_nil))) pa_nil))) rfl))))
      (pss_one (ps_ret (pe_tup (pa_cons (pv 1) (pa_cons (pv 2) pa_nil)))))))), ?_⟩
  rintro W ds c P ⟨p, g, l, rfl, rfl, rfl, hp⟩
  exact es_parts next_ok pick_ok (fun d tk P h1 h2 h3 => fn_of_ct ⟨p, g, l, d, tk, rfl, h1, h2, rfl, rfl, h3⟩) hp
end
end P75N
set_option Elab.async false
set_option linter.all false
set_option maxRecDepth 100000
set_option maxHeartbeats 4000000
/-! O75: the defs that raise, that catch -/
namespace P75O
open PySem L2 TL WJ P75 P75N
structure Glb (K : PySem.W.Frag) (mg : Str → Option Value) : Prop where
  sorted : mg "sorted" = none
/-- what the module says of NoSchema, so that it can be raised -/
structure RaiseOk (K : PySem.W.Frag) (mg : Str → Option Value) (bm : List Value) : Prop where
  q : PySem.W.excIn K (He.ga K "NoSchema") bm "ValueError.__new__" = true
  g : mg "NoSchema" = some (.ref (He.ga K "NoSchema"))
  k : PySem.W.keepIn K (.ref (He.ga K "NoSchema")) = true
  s : PySem.W.subIn K (.ref (He.ga K "NoSchema")) (.type "BaseException") = some true
  t : PySem.W.typeIn K (.ref (He.ga K "NoSchema")) = some (.type "type")
section
variable {Pr : Program} {w : World} {K : PySem.W.Frag} {mg : Str → Option Value} {base : Heap} {f : Addr} {fd : FuncData}
abbrev s_need_schema : Stmt := top 16
abbrev n_need_schema : List Str := ["thing"]
theorem sc_need_schema : FnScope n_need_schema ["thing"] (defScope s_need_schema) := ⟨rfl, rfl, rfl, by decide +kernel, rfl, by decide +kernel, by decide +kernel⟩
theorem ok_need (cl : C8.InsC K (He.ga K "Schema")) (gS : mg "Schema" = some (.ref (He.ga K "Schema"))) (gI : mg "isinstance" = none) {B i : String} {bm : List Value} (EB : ExcBaseFacts B "ValueError.__new__" i bm) (R : RaiseOk K mg bm) (F : FnP K "need_schema" s_need_schema f fd) : FnOk Pr w K mg base (L2.CX Pr w) 1 f fd ["thing"] (spX (needC K) (needR K)) := by
  refine fn_dataX (k := 0) F sc_need_schema (fun W ds c P h => ?_) (fun W ds cls h => ?_) (by decide) (fun cdv A outer s H E hr => ?_)
  · obtain ⟨_, rfl, _⟩ := h; rfl
  · obtain ⟨_, rfl, _⟩ := h; rfl
  refine ⟨t_need K E, ?_, ?_, ?_⟩
  · exact pss_one (ps_if (pt_not (pt_val (pe_callB (o_isi K) (by rfl) gI (by decide +kernel) (pa_cons (pv 0) (pa_cons (pe_globR (by rfl) gS) pa_nil))))) (pss_one (ps_raise rfl (takes_of rfl rfl rfl rfl) (pmk_own EB R.q R.g R.k (raises_own R.s R.t) (by rfl)))) pss_nil)
  · rintro W ds c P ⟨fs, rfl, rfl, hp⟩
    exact es_need cl hp
  · rintro W ds cls ⟨d, rfl, h, rfl⟩
    exact esE_need h
abbrev s_schema_text : Stmt := top 23
abbrev n_schema_text : List Str := ["schema", "found", "references", "table", "name"]
theorem sc_schema_text : FnScope n_schema_text ["schema"] (defScope s_schema_text) := ⟨rfl, rfl, rfl, by decide +kernel, rfl, by decide +kernel, by decide +kernel⟩
theorem ok_schema_text (cl : C8.InsC K (He.ga K "Schema")) (G : Glb K mg) (FX_need_schema : FndX Pr w K mg base 1 "need_schema" ["thing"] (spX (needC K) (needR K))) (F_text_of_rows : Fnd Pr w K mg base 1 "text_of_rows" ["rows"] (spD (textC K))) (P_Schema_tables : Prp Pr w K mg base 1 (He.ga K "Schema") "tables" ["self"] (spD (tabsC K))) (P_Schema_references : Prp Pr w K mg base 1 (He.ga K "Schema") "references" ["self"] (spD (refdC K)))
    (F : FnP K "schema_text" s_schema_text f fd) : FnOk Pr w K mg base (L2.CX Pr w) 3 f fd ["schema"] (spX (txtC K) (needR K)) := by
  refine fn_dataX (k := 2) F sc_schema_text (fun W ds c P h => ?_) (fun W ds cls h => ?_) (by decide) (fun cdv A outer s H E hr => ?_)
  · obtain ⟨_, _, _, rfl, _⟩ := h; rfl
  · obtain ⟨_, rfl, _⟩ := h; rfl
  have hu := hu_of hr
  refine ⟨_, (pss_cons (ps_expr (pe_funS FX_need_schema hr (by decide) (by rfl) (takes_of rfl rfl rfl rfl) (pa_cons (pv 0) pa_nil)))
      (PSs.nox (pss_cons (ps_setLc (i := 1) (own := [("table", 3)]) (g := gName 3) (tt := tYes) rfl sc_schema_text.nd rfl rfl (sw_true rfl rfl rfl (by decide +kernel)) (p_tup K (pe_prp P_Schema_tables hr (by decide) (pv 0))) (blkOk_by (N := ["schema", "found", "references", "table", "name"]) (sc := defScope s_schema_text) (by decide +kernel)) (fun _ _ _ _ _ => (pg_name (i := 3) sc_schema_text.nd rfl (by first | exact Or.inl rfl | exact Or.inr rfl))) (fun _ _ _ _ _ => pts_nil) (fun _ _ _ _ _ => (pe_tup (pa_cons pe_str (pa_cons (pv 3) pa_nil)))))
      (pss_cons (ps_set (i := 2) sc_schema_text.nd rfl (by first | exact Or.inl rfl | exact Or.inr rfl) (pe_prp P_Schema_references hr (by decide) (pv 0)))
      (pss_one (ps_ret (pe_fun F_text_of_rows hr (by decide) (by rfl) (pa_cons (pe_op (o_add K) (pv 1) (pe_lc (own := [("name", 4)]) (g := gName 4) (tt := tYes) rfl sc_schema_text.nd (p_list K (pe_callB (o_sorted K) (by rfl) G.sorted (by decide +kernel) (pa_cons (pv 2) pa_nil))) (blkOk_by (N := ["schema", "found", "references", "table", "name"]) (sc := defScope s_schema_text) (by decide +kernel)) (fun _ _ _ _ _ => (pg_name (i := 4) sc_schema_text.nd rfl (by first | exact Or.inl rfl | exact Or.inr rfl))) (fun _ _ _ _ _ => pts_nil) (fun _ _ _ _ _ => (pe_op (o_add K) (pe_tup (pa_cons pe_str (pa_cons (pv 4) pa_nil))) (pe_ix (o_ix K hu) (pv 2) (pv 4) (fun _ _ => rfl)))))) pa_nil)))))))), ?_⟩
  refine ⟨?_, ?_⟩
  · rintro W ds c P ⟨ts, rs, h, rfl, rfl, hp⟩
    exact es_schema_text h (fun ts rs => fn_of_ct ⟨ts, rs, rfl, rfl, rfl⟩) (fun ts rs => fn_of_ct ⟨ts, rs, rfl, rfl, rfl⟩) (fun fs => fn_of_ctX ⟨fs, rfl, rfl, trivial⟩) (fun rows a b => fn_of_ct ⟨rows, a, b, rfl, rfl, rfl⟩) hp
  · rintro W ds cls ⟨d, rfl, h, rfl⟩
    exact esE_text h
abbrev s__law_is_refused : Stmt := top 34
abbrev n__law_is_refused : List Str := ["_law_thing", "_law_error", "e"]
theorem sc__law_is_refused : FnScope n__law_is_refused ["_law_thing"] (defScope s__law_is_refused) := ⟨rfl, rfl, rfl, by decide +kernel, rfl, by decide +kernel, by decide +kernel⟩
def refusedC (K : PySem.W.Frag) : Ct K := fun _ ds c P => ∃ d, NoSch K (He.ga K "Schema") d ∧ ds = [d] ∧ c = 0 ∧ P (.bl true)
theorem ok_refused (hX : ExFacts K) (gJ : mg "JoinError" = some (.ref (He.ga K "JoinError"))) (gN : mg "NoSchema" = some (.ref (He.ga K "NoSchema"))) (gI : mg "isinstance" = none) (gV : mg "ValueError" = none) (FX_schema_text : FndX Pr w K mg base 3 "schema_text" ["schema"] (spX (txtC K) (needR K))) (F : FnP K "_law_is_refused" s__law_is_refused f fd) : FnOk Pr w K mg base CX0 4 f fd ["_law_thing"] (spD (refusedC K)) := by
  refine fn_data (k := 3) F sc__law_is_refused (fun W ds c P h => ?_) (by decide) (fun cdv A outer s H E hr => ?_)
  · obtain ⟨_, _, rfl, _⟩ := h; rfl
  refine ⟨t_refused K, PSs.nox ?_, ?_⟩
  · refine pss_cons (ps_set (i := 1) sc__law_is_refused.nd rfl (Or.inl rfl) pe_non) (pss_cons (ps_try_keep (i := 2) (tb := fun Y => tDrop (tCallS (spX (txtC K) (needR K)) (WE Y) (tCons (tVar 0) tNil))) (ts := fun _ _ _ => tAsg (tVar 2) (gName 1)) (Wout := fun _ _ _ _ => False) (c := .ref (He.ga K "JoinError")) rfl rfl rfl sc__law_is_refused.nd rfl rfl ⟨by rfl, by decide, Or.inl gJ⟩ takes0
      (fun Y pn xe tk _ => pss_one (ps_expr (pe_funS FX_schema_text hr (by decide) (by rfl) tk (pa_cons (pv 0) pa_nil))))
      (fun a oe cls d pn hz hf => pss_one (ps_set (i := 1) sc__law_is_refused.nd rfl (Or.inl rfl) (pv 2))))
      (pss_one (ps_ret (pe_and (pe_callB (o_isiX K) (by rfl) gI (by decide +kernel) (pa_cons (pv 1) (pa_cons (pe_globR (by rfl) gN) pa_nil))) (pe_one (pe_callB (o_isiX K) (by rfl) gI (by decide +kernel) (pa_cons (pv 1) (pa_cons (pe_type (n := "ValueError") (by rfl) gV (by decide +kernel)) pa_nil))))))))
  · rintro W ds c P ⟨d, h, rfl, rfl, hp⟩
    exact es_refused hX h hp
end
end P75O
set_option Elab.async false
set_option linter.all false
set_option maxRecDepth 100000
set_option maxHeartbeats 4000000
/-! V75: the source of draws, the law -/
namespace P75V
open PySem L2 TL WJ P75 P75N P75O
structure Glb (K : PySem.W.Frag) (mg : Str → Option Value) : Prop where
  Schema : mg "Schema" = some (.ref (He.ga K "Schema"))
  isinstance : mg "isinstance" = none
  len : mg "len" = none
  list : mg "list" = none
  max : mg "max" = none
  min : mg "min" = none
  range : mg "range" = none
  sorted : mg "sorted" = none
  tuple : mg "tuple" = none
/-- the world in which nothing changes -/
def W0 (K : PySem.W.Frag) : Wd K where
  F := []
  Dr := fun _ _ => True
  pres := fun _ _ => trivial
  alive := fun _ _ h => nomatch h
  less := fun _ _ => trivial
def spSrc (K : PySem.W.Frag) : Sp := fun vs H Q _ => ∃ (a : Addr) (ns : List Int), vs = [.ref a] ∧ SqL K H a (ns.map V.int) ∧ ns.length ≤ 63 ∧ ∀ p g l H', Kp [] H H' → H p = none → H g = none → H l = none → (DW2 K p g l).Dr 100000 H' → Q (.ref p) H'
def spLaw (K : PySem.W.Frag) : Sp := fun vs H Q _ => ∃ (a : Addr) (ns : List Int), vs = [.ref a] ∧ SqL K H a (ns.map V.int) ∧ ns.length ≤ 63 ∧ ∀ H', Q (.bl true) H'
theorem dats_ints {K : PySem.W.Frag} {B : List Addr} {H : Hp} : ∀ {xs : List Int} {vs : List V}, Dats K B H vs (xs.map Da.int) → vs = xs.map V.int
  | [], _, h => by
    unfold Dats at h
    exact h
  | x :: xs, vs, h => by
    have h2 : Dats K B H vs (Da.int x :: xs.map Da.int) := h
    unfold Dats at h2
    obtain ⟨v, r, rfl, s, t⟩ := h2
    unfold Dat at s
    rw [s, dats_ints t]
    rfl
theorem ints_dats {K : PySem.W.Frag} {B : List Addr} {H : Hp} : ∀ xs : List Int, Dats K B H (xs.map V.int) (xs.map Da.int)
  | [] => .nil
  | x :: xs => .cons (by unfold Dat; rfl) (ints_dats xs)
theorem script_dat {K : PySem.W.Frag} {B : List Addr} {H : Hp} {a : Addr} {ns : List Int} (h : SqL K H a (ns.map V.int)) (hB : ∀ b ∈ B, ∀ u, ¬ Rd H b u) : Dat K B H (.ref a) (.lst (ns.map Da.int)) := by
  unfold Dat
  refine ⟨a, _, rfl, ?_, ints_dats ns⟩
  rcases h with h | h
  · exact Or.inl ⟨fun z => hB a z _ h, h⟩
  · exact Or.inr (Or.inr h)
section
variable {Pr : Program} {w : World} {K : PySem.W.Frag} {mg : Str → Option Value} {base : Heap} {f : Addr} {fd : FuncData}
abbrev s_law : Stmt := top 35
abbrev n_law : List Str := ["_law_script", "_law_draw", "_law_turn", "_law_tables", "_law_references", "_law_plan", "_law_first", "_law_later", "_law_due", "_law_mixed", "_law_line_text", "_law_found", "_law_strange", "_law_table", "_law_label", "_law_line"]
theorem sc_law : FnScope n_law ["_law_script"] (defScope s_law) := ⟨rfl, rfl, rfl, by decide +kernel, rfl, by decide +kernel, by decide +kernel⟩
theorem ok_law (G : Glb K mg) (cl : C8.InsC K (He.ga K "Schema")) (hno : ∀ n ∈ ["NoneType", "int", "str", "dict", "list", "bool", "tuple"], PySem.W.kitOne K (.type n) (.ref (He.ga K "Schema")) = some false)
    (F__law_source : Fnd Pr w K mg base 1 "_law_source" ["_law_script"] (spSrc K)) (F__law_parts : Fnd Pr w K mg base 4 "_law_parts" ["_law_draw"] (spD (partsC K))) (F__law_pick : Fnd Pr w K mg base 2 "_law_pick" ["_law_draw", "_law_some"] (spD (pickC K))) (F__law_shuffled : Fnd Pr w K mg base 2 "_law_shuffled" ["_law_draw", "_law_some"] (spD (shufC K)))
    (F__law_is_refused : Fnd Pr w K mg base 4 "_law_is_refused" ["_law_thing"] (spD (refusedC K))) (F_read_schema : Fnd Pr w K mg base 5 "read_schema" ["text"] (spD (readC K))) (K_read_schema : Kw1 Pr w K mg base CX0 5 "read_schema" "text" (spD (readC K))) (FX_schema_text : FndX Pr w K mg base 3 "schema_text" ["schema"] (spX (txtC K) (needR K))) (K_schema_text : Kw1 Pr w K mg base (L2.CX Pr w) 3 "schema_text" "schema" (spX (txtC K) (needR K)))
    (M_Schema : Mkd Pr w K mg base 3 "Schema" (He.ga K "Schema") ["self", "tables", "references"] (spI (He.ga K "Schema") (initT K))) (P_Schema_tables : Prp Pr w K mg base 1 (He.ga K "Schema") "tables" ["self"] (spD (tabsC K))) (P_Schema_references : Prp Pr w K mg base 1 (He.ga K "Schema") "references" ["self"] (spD (refdC K))) (Q_Schema : Eqo Pr w K mg base 1 (He.ga K "Schema") ["self", "other"] (spD (eqC K)))
    (F : FnP K "law" s_law f fd) : FnOk Pr w K mg base CX0 6 f fd ["_law_script"] (spLaw K) := by
  refine F.ok sc_law (fun vs H Q E h => ?_) (fun cdv A outer s H vs Q E hr h => ?_)
  · obtain ⟨a, ns, rfl, _⟩ := h; rfl
  have hu := hu_of hr
  have hu64 := hu64_of hr
  have hu66 := hu66_of hr
  refine ⟨_, PSs.nox (pss_cons (ps_set (i := 1) sc_law.nd rfl (by first | exact Or.inl rfl | exact Or.inr rfl) (pe_fun F__law_source hr (by decide) (by rfl) (pa_cons (pv 0) pa_nil)))
      (pss_cons (ps_for PassesOwn.never rfl (pi_range1 (by rfl) G.range (pa_cons (pe_callB (o_max) (by rfl) G.max (by decide +kernel) (pa_cons pe_int (pa_cons (pe_callB (o_min) (by rfl) G.min (by decide +kernel) (pa_cons pe_int (pa_cons (pe_callB (o_len K) (by rfl) G.len (by decide +kernel) (pa_cons (pv 0) pa_nil)) pa_nil))) pa_nil))) pa_nil)) (pg_name (i := 2) sc_law.nd rfl (by first | exact Or.inl rfl | exact Or.inr rfl))
      (pss_cons (ps_asg (pe_fun F__law_parts hr (by decide) (by rfl) (pa_cons (pv 1) pa_nil)) (p_tupT K (e2 := .Name "" ⟨0, 0, 0, 0⟩) (pg_tup rfl (pgs_cons (pg_name (i := 3) sc_law.nd rfl (by first | exact Or.inl rfl | exact Or.inr rfl)) (pgs_cons (pg_name (i := 4) sc_law.nd rfl (by first | exact Or.inl rfl | exact Or.inr rfl)) pgs_nil)))))
      (pss_cons (ps_set (i := 5) sc_law.nd rfl (by first | exact Or.inl rfl | exact Or.inr rfl) (pe_mk M_Schema hr (by decide) (by rfl) (pa_cons (pv 3) (pa_cons (pv 4) pa_nil))))
      (pss_cons (ps_setLc (i := 6) (own := [("_law_table", 13)]) (g := gName 13) (tt := tYes) rfl sc_law.nd rfl rfl (sw_true rfl rfl rfl (by decide +kernel)) (p_list K (pe_callB (o_sorted K) (by rfl) G.sorted (by decide +kernel) (pa_cons (pv 3) pa_nil))) (blkOk_by (N := ["_law_script", "_law_draw", "_law_turn", "_law_tables", "_law_references", "_law_plan", "_law_first", "_law_later", "_law_due", "_law_mixed", "_law_line_text", "_law_found", "_law_strange", "_law_table", "_law_label", "_law_line"]) (sc := defScope s_law) (by decide +kernel)) (fun _ _ _ _ _ => (pg_name (i := 13) sc_law.nd rfl (by first | exact Or.inl rfl | exact Or.inr rfl))) (fun _ _ _ _ _ => pts_nil) (fun _ _ _ _ _ => (pe_op (o_add K) pe_str (pv 13))))
      (pss_cons (ps_setLc (i := 7) (own := [("_law_label", 14)]) (g := gName 14) (tt := tYes) rfl sc_law.nd rfl rfl (sw_true rfl rfl rfl (by decide +kernel)) (p_list K (pe_callB (o_sorted K) (by rfl) G.sorted (by decide +kernel) (pa_cons (pv 4) pa_nil))) (blkOk_by (N := ["_law_script", "_law_draw", "_law_turn", "_law_tables", "_law_references", "_law_plan", "_law_first", "_law_later", "_law_due", "_law_mixed", "_law_line_text", "_law_found", "_law_strange", "_law_table", "_law_label", "_law_line"]) (sc := defScope s_law) (by decide +kernel)) (fun _ _ _ _ _ => (pg_name (i := 14) sc_law.nd rfl (by first | exact Or.inl rfl | exact Or.inr rfl))) (fun _ _ _ _ _ => pts_nil) (fun _ _ _ _ _ => (pe_op (o_add K) pe_str (m_join K pe_str (pe_op (o_add K) (pe_tup (pa_cons (pv 14) pa_nil)) (pe_ix (o_ix K hu) (pv 4) (pv 14) (fun _ _ => rfl)))))))
      (pss_cons (ps_set (i := 8) sc_law.nd rfl (by first | exact Or.inl rfl | exact Or.inr rfl) (m_join K pe_str (pe_lc (own := [("_law_line", 15)]) (g := gName 15) (tt := tYes) rfl sc_law.nd (p_list K (pe_op (o_add K) (pv 6) (pv 7))) (blkOk_by (N := ["_law_script", "_law_draw", "_law_turn", "_law_tables", "_law_references", "_law_plan", "_law_first", "_law_later", "_law_due", "_law_mixed", "_law_line_text", "_law_found", "_law_strange", "_law_table", "_law_label", "_law_line"]) (sc := defScope s_law) (by decide +kernel)) (fun _ _ _ _ _ => (pg_name (i := 15) sc_law.nd rfl (by first | exact Or.inl rfl | exact Or.inr rfl))) (fun _ _ _ _ _ => pts_nil) (fun _ _ _ _ _ => (pe_op (o_add K) (pv 15) pe_str)))))
      (pss_cons (ps_if (PW.pt (pw_or (pt_cmpR (o_ne K hu64) (pe_funX FX_schema_text hr (by decide) (by rfl) (pa_cons (pv 5) pa_nil)) (pv 8) (nomark _)) (pw_or1 (pt_cmpR (o_ne K hu64) (pe_funKX K_schema_text hr (by decide) (by rfl) (pv 5)) (pv 8) (nomark _)))))
      (pss_one (ps_ret pe_bl))
      pss_nil)
      (pss_cons (ps_set (i := 9) sc_law.nd rfl (by first | exact Or.inl rfl | exact Or.inr rfl) (m_join K pe_str (pe_lc (own := [("_law_line", 15)]) (g := gName 15) (tt := tYes) rfl sc_law.nd (p_list K (pe_op (o_add K) (pe_fun F__law_shuffled hr (by decide) (by rfl) (pa_cons (pv 1) (pa_cons (pv 6) pa_nil))) (pe_fun F__law_shuffled hr (by decide) (by rfl) (pa_cons (pv 1) (pa_cons (pv 7) pa_nil))))) (blkOk_by (N := ["_law_script", "_law_draw", "_law_turn", "_law_tables", "_law_references", "_law_plan", "_law_first", "_law_later", "_law_due", "_law_mixed", "_law_line_text", "_law_found", "_law_strange", "_law_table", "_law_label", "_law_line"]) (sc := defScope s_law) (by decide +kernel)) (fun _ _ _ _ _ => (pg_name (i := 15) sc_law.nd rfl (by first | exact Or.inl rfl | exact Or.inr rfl))) (fun _ _ _ _ _ => pts_nil) (fun _ _ _ _ _ => (pe_op (o_add K) (pv 15) pe_str)))))
      (pss_one (ps_for PassesOwn.never rfl (p_tup K (pe_tup (pa_cons (pv 8) (pa_cons (pv 9) pa_nil)))) (pg_name (i := 10) sc_law.nd rfl (by first | exact Or.inl rfl | exact Or.inr rfl))
      (pss_cons (ps_set (i := 11) sc_law.nd rfl (by first | exact Or.inl rfl | exact Or.inr rfl) (pe_fun F_read_schema hr (by decide) (by rfl) (pa_cons (pv 10) pa_nil)))
      (pss_cons (ps_if (PW.pt (pw_or (pt_not (pt_val (pe_callB (o_isi K) (by rfl) G.isinstance (by decide +kernel) (pa_cons (pv 11) (pa_cons (pe_globR (by rfl) G.Schema) pa_nil))))) (pw_or (pt_not (pt_cmpR (o_eqO Q_Schema hr (by decide)) (pv 11) (pv 5) (nomark _))) (pw_or1 (pt_cmpR (o_ne K hu64) (pe_funX FX_schema_text hr (by decide) (by rfl) (pa_cons (pe_funK K_read_schema hr (by decide) (by rfl) (pv 10)) pa_nil)) (pv 8) (nomark _))))))
      (pss_one (ps_ret pe_bl))
      pss_nil)
      (pss_one (ps_if (PW.pt (pw_or (pt_cmpR (o_ne K hu64) (pe_prp P_Schema_tables hr (by decide) (pv 11)) (pe_callTy (o_tuple K) (by rfl) G.tuple (by decide +kernel) (pa_cons (pe_callB (o_sorted K) (by rfl) G.sorted (by decide +kernel) (pa_cons (pv 3) pa_nil)) pa_nil)) (nomark _)) (pw_or1 (pt_cmpR (o_ne K hu64) (pe_callTy (o_listIt K) (by rfl) G.list (by decide +kernel) (pa_cons (pe_itemsV (pe_prp P_Schema_references hr (by decide) (pv 11))) pa_nil)) (pe_callB (o_sortIts K hu66) (by rfl) G.sorted (by decide +kernel) (pa_cons (pe_itemsV (pv 4)) pa_nil)) (nomark _)))))
      (pss_one (ps_ret pe_bl))
      pss_nil))))))))))))))
      (pss_cons (ps_set (i := 12) sc_law.nd rfl (by first | exact Or.inl rfl | exact Or.inr rfl) (pe_lst (pa_cons pe_non (pa_cons pe_int (pa_cons pe_str (pa_cons pe_dnewK (pa_cons (pe_lst pa_nil) (pa_cons pe_bl (pa_cons (pe_tup (pa_cons pe_str pa_nil)) (pa_cons (pe_tup (pa_cons (pe_lst (pa_cons pe_str pa_nil)) (pa_cons pe_dnewK pa_nil))) pa_nil))))))))))
      (pss_one (ps_ret (pe_fun F__law_is_refused hr (by decide) (by rfl) (pa_cons (pe_fun F__law_pick hr (by decide) (by rfl) (pa_cons (pv 1) (pa_cons (pv 12) pa_nil))) pa_nil))))))), ?_⟩
  obtain ⟨a, ns, rfl, hS, hl, q⟩ := h
  refine ⟨.ref a, rfl, a, ns, rfl, hS, hl, fun p g l H' k np ng nl dr => ?_⟩
  have hB : ∀ b ∈ [p, g, l], ∀ u, ¬ Rd H b u := fun b hb u r => by
    have e : H b = none := by
      simp only [List.mem_cons, List.not_mem_nil, or_false] at hb
      rcases hb with rfl | rfl | rfl
      · exact np
      · exact ng
      · exact nl
    rcases r with r | ⟨o, r⟩ <;> (rw [e] at r; cases r)
  have hd : Dat K [p, g, l] H' (.ref a) (.lst (ns.map Da.int)) := Dat.mono k.all _ _ (script_dat hS hB)
  have s0 : Sg (DW2 K p g l) H' [p, g, l] [p, g, l] (L2.start n_law [.ref a, .ref p]) (startE n_law [.lst (ns.map Da.int), .obj p]) H' 100000 := Sg.start ⟨dr, fun b hb => hb, fun b hb => (DW2 K p g l).alive dr b hb⟩ (.cons hd (.cons (by unfold Dat; rfl) .nil)) (by show 2 ≤ 16; decide)
  have O : LawOk (DW2 K p g l) p (spD (eqC K)) (spD (refdC K)) (spD (tabsC K)) (spD (refusedC K)) (spD (partsC K)) (spD (pickC K)) (spD (shufC K)) (spD (readC K)) (spX (txtC K) (needR K)) :=
    { cl := cl
      eq := fun ts rs h => fn_of_ct ⟨ts, rs, h, rfl, rfl, rfl⟩
      rf := fun ts rs => fn_of_ct ⟨ts, rs, rfl, rfl, rfl⟩
      tb := fun ts rs => fn_of_ct ⟨ts, rs, rfl, rfl, rfl⟩
      re := fun d h => fn_of_ct ⟨d, h, rfl, rfl, rfl⟩
      pa := fun P h => fn_of_ct ⟨p, g, l, rfl, rfl, rfl, h⟩
      pk := pick_ok
      sh := fun xs P h1 h2 h3 => fn_of_ct ⟨p, g, l, xs, rfl, h1, h2, rfl, rfl, h3⟩
      rd := fun ts rs h => fn_of_ct ⟨ts, rs, h, rfl, rfl, rfl⟩
      tx := fun ts rs h => fn_of_ctX ⟨ts, rs, h, rfl, rfl, rfl⟩
      no := hno }
  exact es_law_1 (p := ⟨fun _ => False, (· = .bl true), fun _ => False, fun _ => False⟩) O rfl H' [p, g, l] [p, g, l] _ H' 100000 _ s0 (by decide) (fun _ _ _ _ _ _ z => z.elim) (fun v d H2 k2 r2 hd2 e => by
    have e2 : d = .bl true := e
    subst e2
    unfold Dat at hd2
    rw [hd2]
    exact q H2) (fun _ _ _ _ _ _ z => z.elim) (fun _ _ _ _ _ _ z => z.elim)
end
end P75V
set_option Elab.async false
set_option linter.all false
set_option maxRecDepth 100000
set_option maxHeartbeats 4000000
/-! U75: the source of draws -/
namespace P75U
open PySem L2 TL WJ P75 P75N P75O P75V
structure Glb (K : PySem.W.Frag) (mg : Str → Option Value) : Prop where
  abs : mg "abs" = none
  int : mg "int" = none
  len : mg "len" = none
section
variable {Pr : Program} {w : World} {K : PySem.W.Frag} {mg : Str → Option Value} {base : Heap} {f : Addr} {fd : FuncData} {W : Wd K} {Γ : List En}
def absI (i : Int) : Int := if i < 0 then -i else i
theorem absI_nonneg (i : Int) : 0 ≤ absI i := by
  unfold absI
  split <;> omega
theorem rc_abs {i : Int} : Rc W rAbs [.int i] (· = .int (absI i)) := fun B H M vs s h Q q => by
  unfold Dats at h
  obtain ⟨v, r, rfl, h1, t1⟩ := h
  unfold Dats at t1
  subst t1
  unfold Dat at h1
  subst h1
  exact ⟨i, rfl, q _ _ H Kp.refl s.dr (dInt.mpr rfl) rfl⟩
theorem rc_int {i : Int} : Rc W rIntA [.int i] (· = .int i) := fun B H M vs s h Q q => by
  unfold Dats at h
  obtain ⟨v, r, rfl, h1, t1⟩ := h
  unfold Dats at t1
  subst t1
  unfold Dat at h1
  subst h1
  exact Or.inl ⟨i, rfl, q _ _ H Kp.refl s.dr (dInt.mpr rfl) rfl⟩
def big : Int := 10 ^ (18 : Int).toNat
theorem ev_big : Ev W (tOp (rI CPow fun i j => .int (i ^ j.toNat)) (tC (.int 10)) (tC (.int 18))) Γ 0 (· = .int big) :=
  ev_int3 (c1 := 0) (c2 := 0) (i := 10) (j := 18) ev_int ev_int ⟨by decide, by decide, by decide⟩ (fun _ _ => by unfold Dat; rfl)
def digF : Da → Da
  | .int n => .int (absI n / big)
  | _ => .non
def digT : Da → Bool
  | .int n => decide (big ≤ absI n)
  | _ => false
def celF : Da → Da
  | .int n => .int (absI n % 2147483629)
  | _ => .non
def digs (ns : List Int) : List Int := (ns.filter fun n => decide (big ≤ absI n)).map fun n => absI n / big
def cels (ns : List Int) : List Int := (ns.map fun n => absI n % 2147483629) ++ [(ns.length : Int)]
theorem digs_eq (ns : List Int) : ((ns.map Da.int).filter digT).map digF = (digs ns).map Da.int := by
  unfold digs
  rw [List.filter_map, List.map_map, List.map_map]
  rfl
theorem cels_eq (ns : List Int) : (ns.map Da.int).map celF ++ [.int (ns.length : Int)] = (cels ns).map Da.int := by
  unfold cels
  rw [List.map_append, List.map_map, List.map_map]
  rfl
theorem evF_digs {ns : List Int} {x : En} (hl : ns.length ≤ 63) : EvF W (tLc (iList K (tVar 0)) (gName 2) (tTest (tOp (rI0 fun i j => .bl (decide (j ≤ i))) (tCB (rAbs) (tCons (tVar 2) tNil)) (tOp (rI CPow fun i j => .int (i ^ j.toNat)) (tC (.int 10)) (tC (.int 18))))) (tOp (rI CDivW fun i j => .int (i / j)) (tCB (rAbs) (tCons (tVar 2) tNil)) (tOp (rI CPow fun i j => .int (i ^ j.toNat)) (tC (.int 10)) (tC (.int 18)))) [2]) [.dat (.lst (ns.map Da.int)), x, .no] 0 (· = (digs ns).map Da.int) := by
  rw [← digs_eq]
  refine (evF_filter (c0 := 0) (ct := 0) (ce := 0) (n := 63) (ds := ns.map Da.int) (t := digT) (f := digF) (ei_list ((ev_var rfl).imp fun d e => ⟨_, e, rfl⟩)) (fun d hd => ?_) (fun d hd _ => ?_) (by rw [List.length_map]; exact hl) (by decide)).weak (by decide) (fun _ e => e)
  · obtain ⟨n, _, rfl⟩ := List.mem_map.mp hd
    exact et_testB (ev_int2 (c1 := 0) (c2 := 0) (ev_cbE (ea_cons2 (c1 := 0) (c2 := 0) (ev_var rfl) ea_nil) rc_abs) ev_big (fun _ _ => by unfold Dat; rfl))
  · obtain ⟨n, _, rfl⟩ := List.mem_map.mp hd
    exact ev_int3 (c1 := 0) (c2 := 0) (ev_cbE (ea_cons2 (c1 := 0) (c2 := 0) (ev_var rfl) ea_nil) rc_abs) ev_big ⟨by decide, by decide +kernel⟩ (fun _ _ => by unfold Dat; rfl)
theorem evF_cels {ns : List Int} {x : En} (hl : ns.length ≤ 63) : EvF W (tOp (rAddA K) (tLc (iList K (tVar 0)) (gName 2) tYes (tOp (rI (fun _ j => 0 < j) fun i j => .int (i % j)) (tCB (rIntA) (tCons (tCB (rAbs) (tCons (tVar 2) tNil)) tNil)) (tC (.int 2147483629))) [2]) (tLst (tCons (tCB (rLenA K) (tCons (tVar 0) tNil)) tNil))) [.dat (.lst (ns.map Da.int)), x, .no] 0 (· = (cels ns).map Da.int) := by
  rw [← cels_eq]
  have hm := evF_map (K := K) (W := W) (Γ := [.dat (.lst (ns.map Da.int)), x, .no]) (Γ' := []) (i := 2) (n := 63) (c0 := 0) (cb := 0) (wi := iList K (tVar 0)) (te := tOp (rI (fun _ j => 0 < j) fun i j => .int (i % j)) (tCB (rIntA) (tCons (tCB (rAbs) (tCons (tVar 2) tNil)) tNil)) (tC (.int 2147483629))) (ds := ns.map Da.int) (f := celF) (ei_list ((ev_var rfl).imp fun d e => ⟨_, e, rfl⟩)) (fun d hd => by
    obtain ⟨n, _, rfl⟩ := List.mem_map.mp hd
    exact ev_int3 (c1 := 0) (c2 := 0) (ev_cbE (ea_cons2 (c1 := 0) (c2 := 0) (ev_cbE (ea_cons2 (c1 := 0) (c2 := 0) (ev_var rfl) ea_nil) rc_abs) ea_nil) rc_int) ev_int (by show (0 : Int) < 2147483629; decide) (fun _ _ => by unfold Dat; rfl)) (by rw [List.length_map]; exact hl) (by decide)
  refine evF_addL (c1 := 0) (c2 := 0) hm.ev' (evF_lst (P := (· = [.int (ns.length : Int)])) (ea_cons2 (c1 := 0) (c2 := 0) (ev_cbE (ea_cons2 (c1 := 0) (c2 := 0) (ev_var rfl) ea_nil) (rc_lenL (by rw [List.length_map]))) ea_nil) (fun ds e => by rw [e]; simp)).ev' ?_
  rw [List.length_map, List.length_map, List.length_singleton]
  omega
theorem merge2 (g l : Addr) : mergeK [] (kv2 g l 0) = kv2 g l 0 := by
  have h1 : ¬ (Sum.inr "digits" : Key) = (Sum.inr "cells" : Key) := k_dc
  have h2 : ¬ (Sum.inr "digits" : Key) = (Sum.inr "turn" : Key) := k_dt
  have h3 : ¬ (Sum.inr "cells" : Key) = (Sum.inr "turn" : Key) := k_ct
  simp [mergeK, kv2, L2.putK, h1, h2, h3]
abbrev s__law_source : Stmt := top 28
abbrev n__law_source : List Str := ["_law_script", "_law_digits", "_law_cell"]
theorem sc__law_source : FnScope n__law_source ["_law_script"] (defScope s__law_source) := ⟨rfl, rfl, rfl, by decide +kernel, rfl, by decide +kernel, by decide +kernel⟩
theorem ok_source (G : Glb K mg) (F : FnP K "_law_source" s__law_source f fd) : FnOk Pr w K mg base CX0 1 f fd ["_law_script"] (spSrc K) := by
  refine F.ok sc__law_source (fun vs H Q E h => ?_) (fun cdv A outer s H vs Q E hr h => ?_)
  · obtain ⟨a, ns, rfl, _⟩ := h; rfl
  have hu := hu_of hr
  have hu64 := hu64_of hr
  refine ⟨_, PSs.nox (pss_cons (ps_setLc (i := 1) (own := [("_law_cell", 2)]) (g := gName 2)  rfl sc__law_source.nd rfl rfl (sw_true rfl rfl rfl (by decide +kernel)) (p_list K (pv 0)) (blkOk_by (N := ["_law_script", "_law_digits", "_law_cell"]) (sc := defScope s__law_source) (by decide +kernel)) (fun _ _ _ _ _ => (pg_name (i := 2) sc__law_source.nd rfl (by first | exact Or.inl rfl | exact Or.inr rfl))) (fun _ _ _ _ _ => (pts_one (pt_cmpR op_ge (pe_callB (o_abs) (by rfl) G.abs (by decide +kernel) (pa_cons (pv 2) pa_nil)) (pe_op op_pow pe_int pe_int) (nomark _)))) (fun _ _ _ _ _ => (pe_op op_fdivW (pe_callB (o_abs) (by rfl) G.abs (by decide +kernel) (pa_cons (pv 2) pa_nil)) (pe_op op_pow pe_int pe_int))))
      (pss_one (ps_ret (pe_disp (pps_cons pe_str (pv 1) (pps_cons pe_str (pe_op (o_add K) (pe_lc (own := [("_law_cell", 2)]) (g := gName 2) (tt := tYes) rfl sc__law_source.nd (p_list K (pv 0)) (blkOk_by (N := ["_law_script", "_law_digits", "_law_cell"]) (sc := defScope s__law_source) (by decide +kernel)) (fun _ _ _ _ _ => (pg_name (i := 2) sc__law_source.nd rfl (by first | exact Or.inl rfl | exact Or.inr rfl))) (fun _ _ _ _ _ => pts_nil) (fun _ _ _ _ _ => (pe_op op_mod (pe_callTy (o_int) (by rfl) G.int (by decide +kernel) (pa_cons (pe_callB (o_abs) (by rfl) G.abs (by decide +kernel) (pa_cons (pv 2) pa_nil)) pa_nil)) pe_int))) (pe_lst (pa_cons (pe_callB (o_len K) (by rfl) G.len (by decide +kernel) (pa_cons (pv 0) pa_nil)) pa_nil))) (pps_cons pe_str pe_int pps_nil))) (by rfl) (by rfl) (fun z => by cases z) (by decide))))), ?_⟩
  obtain ⟨a, ns, rfl, hS, hl, q⟩ := h
  have s0 : Sg (W0 K) H [] [] (L2.start n__law_source [.ref a]) (startE n__law_source [.lst (ns.map Da.int)]) H 0 := Sg.start ⟨trivial, fun b hb => hb, fun b hb => nomatch hb⟩ (.cons (script_dat hS fun b hb => nomatch hb) .nil) (by show 1 ≤ 3; decide)
  unfold tSeq tAsg
  refine evF_digs (W := W0 K) hl H [] [] _ H 0 s0 (Nat.le_refl _) _ fun g xs ds H1 ng k1 r1 hg hds e => ?_
  subst e
  have eg := dats_ints hds
  subst eg
  have s1 : Sg (W0 K) H [] [g] ((L2.start n__law_source [.ref a]).set 1 (some (.ref g))) ((startE n__law_source [.lst (ns.map Da.int)]).set 1 (.own ((digs ns).map Da.int))) H1 0 := s0.setOwn ng k1 trivial rfl ⟨g, _, rfl, List.mem_cons_self, hg, hds⟩ (by rw [hg]; exact Option.some_ne_none _)
  intro p np
  have s2 : Sg (W0 K) H [] (p :: [g]) ((L2.start n__law_source [.ref a]).set 1 (some (.ref g))) ((startE n__law_source [.lst (ns.map Da.int)]).set 1 (.own ((digs ns).map Da.int))) (upd H1 p (.dK [])) 0 := s1.bar np (Kp.new np) trivial (by rw [upd_same]; exact Option.some_ne_none _)
  refine ⟨.ref g, rfl, ?_⟩
  refine evF_cels (W := W0 K) hl H [] (p :: [g]) _ (upd H1 p (.dK [])) 0 s2 (Nat.le_refl _) _ fun l ys es H2 nl k2 r2 hl2 hes e2 => ?_
  subst e2
  have el := dats_ints hes
  subst el
  have lp : l ≠ p := fun z => by
    rw [z, upd_same] at nl
    cases nl
  have nl1 : H1 l = none := by rw [upd_ne lp] at nl; exact nl
  have gp : g ≠ p := fun z => by rw [z, np] at hg; cases hg
  have gl : g ≠ l := fun z => by rw [z, nl1] at hg; cases hg
  have hp2 : H2 p = some (.dK []) := k2 p _ (fun z => nomatch z) upd_same
  have hg2 : H2 g = some (.lst ((digs ns).map V.int)) := k2 g _ (fun z => nomatch z) (by rw [upd_ne gp]; exact hg)
  refine ⟨hp2, kv2 g l 0, rfl, (by show 3 ≤ 15; decide), ?_⟩
  rw [merge2]
  refine q p g l _ (fun b o _ e => ?_) (Kp.back k1 np) ng (Kp.back k1 nl1) ⟨digs ns, cels ns, 0, upd_same, by rw [upd_ne gp]; exact hg2, by rw [upd_ne lp]; exact hl2, ?_, ?_, ?_, ?_, by decide, by decide, gl⟩
  · have e1 := k1 b o (fun z => nomatch z) e
    have bp : b ≠ p := fun z => by rw [z, np] at e1; cases e1
    rw [upd_ne bp]
    exact k2 b o (fun z => nomatch z) (by rw [upd_ne bp]; exact e1)
  · intro d hd
    unfold digs at hd
    obtain ⟨n, _, rfl⟩ := List.mem_map.mp hd
    exact Int.ediv_nonneg (absI_nonneg n) (by decide)
  · intro c hc
    unfold cels at hc
    rcases List.mem_append.mp hc with z | z
    · obtain ⟨n, _, rfl⟩ := List.mem_map.mp z
      have h1 := Int.emod_nonneg (absI n) (show (2147483629 : Int) ≠ 0 by decide)
      have h2 := Int.emod_lt_of_pos (absI n) (show (0 : Int) < 2147483629 by decide)
      omega
    · rw [List.mem_singleton.mp z]
      omega
  · unfold cels
    simp
  · unfold cels
    rw [List.length_append, List.length_map, List.length_singleton]
    omega
end
end P75U
set_option Elab.async false
set_option linter.all false
set_option maxRecDepth 100000
set_option maxHeartbeats 2000000
/-! WjR: the head's Hook: defs by paths (a getter of a property, too), facts by Bools -/
namespace WJ
open PySem PySem.Spec PyProof.Rows L2
/-- where a def stands: a module's name, a class's method, a property's getter -/
inductive At where
  | g (x : Str) | m (C x : Str) | p (C x : Str)
def prpA (K : PySem.W.Frag) (C : Addr) (f : Str) : Addr := match PySem.W.recIn K (He.ma K C f) "property" with
  | some (.ref g :: _) => g
  | _ => 0
def At.ad (K : PySem.W.Frag) : At → Addr
  | .g x => He.ga K x
  | .m C x => He.ma K (He.ga K C) x
  | .p C x => prpA K (He.ga K C) x
structure DefA where
  at_ : At
  name : Str
  qual : Str
  params : Arguments
  body : List Stmt
  scope : Scope
def fnA (K : PySem.W.Frag) (a : Addr) : He.FnW := match K.lookup a with
  | some ⟨_, _, .func fd, _⟩ => some (fd.name, fd.qualname, fd.params, fd.body, fd.scope, fd.globals, fd.closure, fd.builtins)
  | _ => none
def DefA.val (d : DefA) : He.FnW := some (d.name, d.qual, d.params, .stmts d.body, d.scope, mainGlobals, [], builtinsNs)
def DefA.ok (K : PySem.W.Frag) (d : DefA) : Bool := PySem.W.keepIn K (.ref (d.at_.ad K)) && (match K.lookup (d.at_.ad K) with
  | some ⟨_, _, .func fd, _⟩ => PySem.W.codeIn K fd.code d.qual && He.dflB K fd.defaults []
  | _ => false)
theorem DefA.funD {K : PySem.W.Frag} {d : DefA} (e : fnA K (d.at_.ad K) = d.val) (c : d.ok K = true) : ∃ fd, FunD K d.name d.qual d.params d.body d.scope [] [] (d.at_.ad K) fd := by
  obtain ⟨kp, c2⟩ := He.ba c
  unfold fnA at e
  cases q : K.lookup (d.at_.ad K) with
  | none =>
    rw [q] at c2
    cases c2
  | some o =>
    obtain ⟨oc, od, dt, osl⟩ := o
    rw [q] at c2 e
    cases dt with
    | func fd =>
      obtain ⟨n1, n2, n3, n4, n5, n6, n7, n8, n9, n10, n11, n12, n13, n14, n15⟩ := fd
      have e2 : (some (n1, n2, n3, n4, n5, n6, n7, n15) : He.FnW) = some (d.name, d.qual, d.params, .stmts d.body, d.scope, mainGlobals, [], builtinsNs) := e
      simp only [Option.some.injEq, Prod.mk.injEq] at e2
      obtain ⟨h1, h2, h3, h4, h5, h6, h7, h8⟩ := e2
      subst h1 h2 h3 h4 h5 h6 h7 h8
      have c3 : (PySem.W.codeIn K n13 d.qual && He.dflB K n8 []) = true := c2
      obtain ⟨k1, k2⟩ := He.ba c3
      exact ⟨_, ⟨oc, od, n8, n9, n10, n11, n12, n13, n14, osl, rfl, q, k1, He.dflB_ok k2, Or.inl rfl⟩, kp⟩
    | _ => cases c2
abbrev AlA : Type := Bool × List He.FnW
def obsA (fa : List He.Fa) (fn : List DefA) (ex : PySem.W.Frag → Bool) (K : PySem.W.Frag) : AlA := ((fa.all fun f => f.ok K) && ((fn.all fun d => d.ok K) && ex K), fn.map fun d => fnA K (d.at_.ad K))
def valA (fn : List DefA) : AlA := (true, fn.map DefA.val)
def SaysA (fa : List He.Fa) (fn : List DefA) (ex : PySem.W.Frag → Bool) (K : PySem.W.Frag) : Prop := obsA fa fn ex K = valA fn
def obsAG (n : Nat) (fa : List He.Fa) (fn : List DefA) (ex : PySem.W.Frag → Bool) (g : Addr → Option Obj) : AlA := obsA fa fn ex (He.frT g (He.asD g n))
def hookA (n : Nat) (fa : List He.Fa) (fn : List DefA) (ex : PySem.W.Frag → Bool) : PySem.W.Hook where
  α := AlA
  obs := fun s => obsAG n fa fn ex s.heap.get?
  val := fun _ => valA fn
  says := fun _ h => ∃ K : PySem.W.Frag, K.In h ∧ SaysA fa fn ex K
  of := fun _ _ e => ⟨_, He.frT_in, e⟩
  keeps := fun _ _ _ ⟨K, hK, c⟩ k => ⟨K, PySem.W.Frag.In.keeps hK k, c⟩
theorem obsAG_eq {n : Nat} {fa : List He.Fa} {fn : List DefA} {ex : PySem.W.Frag → Bool} {g : Addr → Option Obj} {s : Shared} (h : ∀ a, g a = s.heap.get? a) : obsAG n fa fn ex g = (hookA n fa fn ex).obs s := by
  have e : g = s.heap.get? := funext h
  rw [e] <;> rfl
section
variable {fa : List He.Fa} {fn : List DefA} {ex : PySem.W.Frag → Bool} {K : PySem.W.Frag}
theorem SaysA.parts (c : SaysA fa fn ex K) : (fa.all fun f => f.ok K) = true ∧ (fn.all fun d => d.ok K) = true ∧ ex K = true := by
  obtain ⟨h1, h2⟩ := He.ba (show ((fa.all fun f => f.ok K) && ((fn.all fun d => d.ok K) && ex K)) = true from congrArg (fun z : AlA => z.1) c)
  obtain ⟨h3, h4⟩ := He.ba h2
  exact ⟨h1, h3, h4⟩
theorem SaysA.fact (c : SaysA fa fn ex K) (i : Nat) {f : He.Fa} (h : fa[i]? = some f := by rfl) : f.ok K = true :=
  List.all_eq_true.mp c.parts.1 f (List.mem_of_getElem? h)
theorem SaysA.def_ (c : SaysA fa fn ex K) (i : Nat) {d : DefA} (h : fn[i]? = some d := by rfl) : ∃ fd, FunD K d.name d.qual d.params d.body d.scope [] [] (d.at_.ad K) fd := by
  have e : fn.map (fun d => fnA K (d.at_.ad K)) = fn.map DefA.val := congrArg (fun z : AlA => z.2) c
  have e2 : (fn.map fun d => fnA K (d.at_.ad K))[i]? = (fn.map DefA.val)[i]? := by rw [e]
  rw [List.getElem?_map, List.getElem?_map, h] at e2
  exact DefA.funD (Option.some.inj e2) (List.all_eq_true.mp c.parts.2.1 d (List.mem_of_getElem? h))
end
/-! ### facts by Bools -/
def prpB (K : PySem.W.Frag) (x f : Str) : Bool := He.eqO (PySem.W.findIn K (.ref (He.ga K x)) f) (some (some (.ref (He.ma K (He.ga K x) f)))) && (He.eqO (PySem.W.specialIn K (.ref (He.ma K (He.ga K x) f)) "__get__") (some (some (.builtin "property.__get__"))) &&
  (decide (PySem.W.takesIn K (.ref (He.ma K (He.ga K x) f)) = some true) && (match PySem.W.recIn K (He.ma K (He.ga K x) f) "property" with
    | some (.ref g :: _) => decide (g = prpA K (He.ga K x) f)
    | _ => false)))
theorem prpB_ok {K : PySem.W.Frag} {x f : Str} (h : prpB K x f = true) : PropOf K (He.ga K x) f (He.ma K (He.ga K x) f) (prpA K (He.ga K x) f) := by
  obtain ⟨h1, h⟩ := He.ba h
  obtain ⟨h2, h⟩ := He.ba h
  obtain ⟨h3, h⟩ := He.ba h
  refine ⟨He.eqO_ok h1, He.eqO_ok h2, of_decide_eq_true h3, ?_⟩
  cases e : PySem.W.recIn K (He.ma K (He.ga K x) f) "property" with
  | none => rw [e] at h; cases h
  | some l =>
    rw [e] at h
    cases l with
    | nil => cases h
    | cons v r =>
      cases v with
      | ref g => exact ⟨r, by rw [of_decide_eq_true h]⟩
      | _ => cases h
def insB (K : PySem.W.Frag) (x : Str) : Bool := (He.Fa.cls x).ok K && (He.eqO (PySem.W.findIn K (.ref (He.ga K x)) "__class__") (some (some (.builtin "object.__class__"))) && (He.eqO (PySem.W.specialIn K (.builtin "object.__class__") "__get__") (some (some (.builtin "getset_descriptor.__get__"))) &&
  (decide (PySem.W.takesIn K (.builtin "object.__class__") = some true) && (decide (PySem.W.mroIn K (He.ga K x) (.type "object") = some true) && decide (PySem.W.kitOne K (.ref (He.ga K x)) (.ref (He.ga K x)) = some true)))))
theorem insB_ok {K : PySem.W.Frag} {x : Str} (h : insB K x = true) : C8.InsC K (He.ga K x) := by
  obtain ⟨h1, h⟩ := He.ba h
  obtain ⟨h2, h⟩ := He.ba h
  obtain ⟨h3, h⟩ := He.ba h
  obtain ⟨h4, h⟩ := He.ba h
  obtain ⟨h5, h6⟩ := He.ba h
  exact ⟨He.cls_ok h1, He.eqO_ok h2, He.eqO_ok h3, of_decide_eq_true h4, of_decide_eq_true h5, of_decide_eq_true h6⟩
def excB (K : PySem.W.Frag) (x : Str) : Bool := He.eqO (PySem.W.findIn K (.ref (He.ga K x)) "__getattribute__") (some (some (.builtin "BaseException.__getattribute__"))) && (He.eqO (PySem.W.findIn K (.ref (He.ga K x)) "__getattr__") (some none) && (decide (PySem.W.subIn K (.ref (He.ga K x)) (.type "BaseException") = some true) &&
  (PySem.W.hasDictIn K (He.ga K x) && (He.eqO (PySem.W.findIn K (.ref (He.ga K x)) "__class__") (some (some (.builtin "object.__class__"))) && (He.eqO (PySem.W.specialIn K (.builtin "object.__class__") "__get__") (some (some (.builtin "getset_descriptor.__get__"))) &&
  (decide (PySem.W.takesIn K (.builtin "object.__class__") = some true) && decide (PySem.W.mroIn K (He.ga K x) (.type "object") = some true)))))))
theorem excB_ok {K : PySem.W.Frag} {x : Str} (h : excB K x = true) : ExcC K (He.ga K x) := by
  obtain ⟨h1, h⟩ := He.ba h
  obtain ⟨h2, h⟩ := He.ba h
  obtain ⟨h3, h⟩ := He.ba h
  obtain ⟨h4, h⟩ := He.ba h
  obtain ⟨h5, h⟩ := He.ba h
  obtain ⟨h6, h⟩ := He.ba h
  obtain ⟨h7, h8⟩ := He.ba h
  exact ⟨He.eqO_ok h1, He.eqO_ok h2, of_decide_eq_true h3, h4, He.eqO_ok h5, He.eqO_ok h6, of_decide_eq_true h7, of_decide_eq_true h8⟩
def kitB (K : PySem.W.Frag) (a b : Value) (r : Bool) : Bool := decide (PySem.W.kitOne K a b = some r)
theorem kitB_ok {K : PySem.W.Frag} {a b : Value} {r : Bool} (h : kitB K a b r = true) : PySem.W.kitOne K a b = some r := of_decide_eq_true h
def ownEqB (K : PySem.W.Frag) (x : Str) : Bool := He.eqO (PySem.W.findIn K (.ref (He.ga K x)) "__eq__") (some (some (.ref (He.ma K (He.ga K x) "__eq__")))) && PySem.W.isFn K (.ref (He.ma K (He.ga K x) "__eq__"))
theorem ownEqB_ok {K : PySem.W.Frag} {x : Str} (h : ownEqB K x = true) : PySem.W.findIn K (.ref (He.ga K x)) "__eq__" = some (some (.ref (He.ma K (He.ga K x) "__eq__"))) ∧ PySem.W.isFn K (.ref (He.ma K (He.ga K x) "__eq__")) = true := by
  obtain ⟨h1, h2⟩ := He.ba h
  exact ⟨He.eqO_ok h1, h2⟩
/-- one Bool of many -/
theorem all_of {α : Type} {p : α → Bool} {l : List α} (h : l.all p = true) (i : Nat) {x : α} (e : l[i]? = some x := by rfl) : p x = true := List.all_eq_true.mp h x (List.mem_of_getElem? e)
end WJ
set_option Elab.async false
set_option linter.all false
set_option maxRecDepth 100000
set_option maxHeartbeats 0
/-! H75: the head, the end -/
namespace P75H
open PySem PySem.Spec PyProof.Rows L2 WJ P75 P75N P75O P75V P75U
section
variable {Pr : Program} {w : World} {K : PySem.W.Frag} {mg : Str → Option Value} {base : Heap} {x y qual : Str} {params : Arguments} {body : List Stmt} {scope : Scope} {f : Addr} {fd : FuncData} {ps : List Str} {sp : Sp} {k : Nat}
theorem fnd_of (F : FunD K x qual params body scope [] [] f fd) (hm : mg y = some (.ref f)) (hok : FnOk Pr w K mg base CX0 k f fd ps sp) (hb : Binds K fd ps []) : Fnd Pr w K mg base k y ps sp := ⟨⟨f, fd, hok, hm, F.kp, hb⟩⟩
theorem fndX_of (F : FunD K x qual params body scope [] [] f fd) (hm : mg y = some (.ref f)) (hok : FnOk Pr w K mg base (L2.CX Pr w) k f fd ps sp) (hb : Binds K fd ps []) : FndX Pr w K mg base k y ps sp := ⟨⟨f, fd, hok, hm, F.kp, hb⟩⟩
theorem kw_of {q : Str} (F : FunD K x qual params body scope [] [] f fd) (h : ∀ (kV doc pm : Value) (an : Option Addr) (cdv ct : Value) (u : Value), bindArgs (PySem.W.fnOf x qual params body scope .none kV doc pm an cdv ct) ⟨[], [(q, u)]⟩ = pure [(q, u)]) (s : Shared) (u : Value) (_ : K.In s.heap) : BindsTo s fd ⟨[], [(q, u)]⟩ [(q, u)] := by
  obtain ⟨oc, od, dV, kV, doc, pm, an, cdv, ct, osl, rfl, lk, hcd, hD, hK⟩ := F.ex
  rcases hD with ⟨_, rfl⟩ | ⟨e, _⟩
  · exact .of_eq (h kV doc pm an cdv ct u)
  · exact absurd rfl e
end
def d_is_name : DefA := ⟨.g "is_name", "is_name", "is_name", defArgs (top 11), defBody (top 11), defScope (top 11)⟩
def d_are_tables : DefA := ⟨.g "are_tables", "are_tables", "are_tables", defArgs (top 12), defBody (top 12), defScope (top 12)⟩
def d_is_reference : DefA := ⟨.g "is_reference", "is_reference", "is_reference", defArgs (top 13), defBody (top 13), defScope (top 13)⟩
def d_are_references : DefA := ⟨.g "are_references", "are_references", "are_references", defArgs (top 14), defBody (top 14), defScope (top 14)⟩
def d_Schema___init__ : DefA := ⟨.m "Schema" "__init__", "__init__", "Schema.__init__", defArgs (inClass (top 15) 0), defBody (inClass (top 15) 0), defScope (inClass (top 15) 0)⟩
def d_Schema_tables : DefA := ⟨.p "Schema" "tables", "tables", "Schema.tables", defArgs (inClass (top 15) 1), defBody (inClass (top 15) 1), defScope (inClass (top 15) 1)⟩
def d_Schema_references : DefA := ⟨.p "Schema" "references", "references", "Schema.references", defArgs (inClass (top 15) 2), defBody (inClass (top 15) 2), defScope (inClass (top 15) 2)⟩
def d_Schema___eq__ : DefA := ⟨.m "Schema" "__eq__", "__eq__", "Schema.__eq__", defArgs (inClass (top 15) 6), defBody (inClass (top 15) 6), defScope (inClass (top 15) 6)⟩
def d_rows_of : DefA := ⟨.g "rows_of", "rows_of", "rows_of", defArgs (top 21), defBody (top 21), defScope (top 21)⟩
def d_is_new_table : DefA := ⟨.g "is_new_table", "is_new_table", "is_new_table", defArgs (top 24), defBody (top 24), defScope (top 24)⟩
def d_is_new_reference : DefA := ⟨.g "is_new_reference", "is_new_reference", "is_new_reference", defArgs (top 25), defBody (top 25), defScope (top 25)⟩
def d_text_of_rows : DefA := ⟨.g "text_of_rows", "text_of_rows", "text_of_rows", defArgs (top 22), defBody (top 22), defScope (top 22)⟩
def d_read_schema : DefA := ⟨.g "read_schema", "read_schema", "read_schema", defArgs (top 26), defBody (top 26), defScope (top 26)⟩
def d__law_next : DefA := ⟨.g "_law_next", "_law_next", "_law_next", defArgs (top 29), defBody (top 29), defScope (top 29)⟩
def d__law_pick : DefA := ⟨.g "_law_pick", "_law_pick", "_law_pick", defArgs (top 30), defBody (top 30), defScope (top 30)⟩
def d__law_shuffled : DefA := ⟨.g "_law_shuffled", "_law_shuffled", "_law_shuffled", defArgs (top 31), defBody (top 31), defScope (top 31)⟩
def d__law_name : DefA := ⟨.g "_law_name", "_law_name", "_law_name", defArgs (top 32), defBody (top 32), defScope (top 32)⟩
def d__law_parts : DefA := ⟨.g "_law_parts", "_law_parts", "_law_parts", defArgs (top 33), defBody (top 33), defScope (top 33)⟩
def d_need_schema : DefA := ⟨.g "need_schema", "need_schema", "need_schema", defArgs (top 16), defBody (top 16), defScope (top 16)⟩
def d_schema_text : DefA := ⟨.g "schema_text", "schema_text", "schema_text", defArgs (top 23), defBody (top 23), defScope (top 23)⟩
def d__law_is_refused : DefA := ⟨.g "_law_is_refused", "_law_is_refused", "_law_is_refused", defArgs (top 34), defBody (top 34), defScope (top 34)⟩
def d__law_source : DefA := ⟨.g "_law_source", "_law_source", "_law_source", defArgs (top 28), defBody (top 28), defScope (top 28)⟩
def d_law : DefA := ⟨.g "law", "law", "law", defArgs (top 35), defBody (top 35), defScope (top 35)⟩
def fn : List DefA := [d_is_name, d_are_tables, d_is_reference, d_are_references, d_Schema___init__, d_Schema_tables, d_Schema_references, d_Schema___eq__, d_rows_of, d_is_new_table, d_is_new_reference, d_text_of_rows, d_read_schema, d__law_next, d__law_pick, d__law_shuffled, d__law_name, d__law_parts, d_need_schema, d_schema_text, d__law_is_refused, d__law_source, d_law]
def fa : List He.Fa := [.glo "law", .glo "KINDS_schemas", .glo "KINDS_texts", .str "LETTERS" "abcdefghijklmnopqrstuvwxyz", .int "MOST_LETTERS" 6, .int "MOST_REFERENCES_schemas" 6, .int "MOST_REFERENCES_texts" 6, .int "MOST_TABLES_schemas" 5, .int "MOST_TABLES_texts" 5, .glo "Schema", .free "all", .free "dict", .free "isinstance", .free "len", .free "list", .free "set", .free "sorted", .free "str", .free "tuple", .free "enumerate", .free "int", .free "range", .free "max", .free "min", .free "abs", .noat "Schema" "own_tables", .noat "Schema" "own_references", .exc "NoSchema", .glo "NoSchema", .exm "NoSchema" "JoinError" true, .glo "is_name", .glo "are_tables", .glo "is_reference", .glo "are_references", .mkr "Schema", .glo "rows_of", .glo "is_new_table", .glo "is_new_reference", .glo "text_of_rows", .glo "read_schema", .glo "_law_next", .glo "_law_pick", .glo "_law_shuffled", .glo "_law_name", .glo "_law_parts", .glo "need_schema", .glo "schema_text", .glo "_law_is_refused", .glo "JoinError", .free "ValueError", .glo "_law_source"]
def ex : PySem.W.Frag → Bool := fun K => (insB K "Schema") && ((He.tupB K "KINDS_schemas" [.str "many", .str "single"]) && ((He.tupB K "KINDS_texts" [.str "many", .str "single"]) && ((excB K "NoSchema") && ((kitB K (.ref (He.ga K "NoSchema")) (.ref (He.ga K "NoSchema")) true) && ((kitB K (.ref (He.ga K "NoSchema")) (.type "ValueError") true) && ((["NoneType", "int", "str", "dict", "list", "bool", "tuple"].all fun n => kitB K (.type n) (.ref (He.ga K "Schema")) false) && ((prpB K "Schema" "tables") && ((prpB K "Schema" "references") && ((ownEqB K "Schema"))))))))))
theorem hex_0 {K : PySem.W.Frag} (c : SaysA fa fn ex K) : (insB K "Schema") = true := by
  have h := c.parts.2.2
  exact (He.ba h).1
theorem hex_1 {K : PySem.W.Frag} (c : SaysA fa fn ex K) : (He.tupB K "KINDS_schemas" [.str "many", .str "single"]) = true := by
  have h := c.parts.2.2
  replace h := (He.ba h).2
  exact (He.ba h).1
theorem hex_2 {K : PySem.W.Frag} (c : SaysA fa fn ex K) : (He.tupB K "KINDS_texts" [.str "many", .str "single"]) = true := by
  have h := c.parts.2.2
  replace h := (He.ba h).2
  replace h := (He.ba h).2
  exact (He.ba h).1
theorem hex_3 {K : PySem.W.Frag} (c : SaysA fa fn ex K) : (excB K "NoSchema") = true := by
  have h := c.parts.2.2
  replace h := (He.ba h).2
  replace h := (He.ba h).2
  replace h := (He.ba h).2
  exact (He.ba h).1
theorem hex_4 {K : PySem.W.Frag} (c : SaysA fa fn ex K) : (kitB K (.ref (He.ga K "NoSchema")) (.ref (He.ga K "NoSchema")) true) = true := by
  have h := c.parts.2.2
  replace h := (He.ba h).2
  replace h := (He.ba h).2
  replace h := (He.ba h).2
  replace h := (He.ba h).2
  exact (He.ba h).1
theorem hex_5 {K : PySem.W.Frag} (c : SaysA fa fn ex K) : (kitB K (.ref (He.ga K "NoSchema")) (.type "ValueError") true) = true := by
  have h := c.parts.2.2
  replace h := (He.ba h).2
  replace h := (He.ba h).2
  replace h := (He.ba h).2
  replace h := (He.ba h).2
  replace h := (He.ba h).2
  exact (He.ba h).1
theorem hex_6 {K : PySem.W.Frag} (c : SaysA fa fn ex K) : (["NoneType", "int", "str", "dict", "list", "bool", "tuple"].all fun n => kitB K (.type n) (.ref (He.ga K "Schema")) false) = true := by
  have h := c.parts.2.2
  replace h := (He.ba h).2
  replace h := (He.ba h).2
  replace h := (He.ba h).2
  replace h := (He.ba h).2
  replace h := (He.ba h).2
  replace h := (He.ba h).2
  exact (He.ba h).1
theorem hex_7 {K : PySem.W.Frag} (c : SaysA fa fn ex K) : (prpB K "Schema" "tables") = true := by
  have h := c.parts.2.2
  replace h := (He.ba h).2
  replace h := (He.ba h).2
  replace h := (He.ba h).2
  replace h := (He.ba h).2
  replace h := (He.ba h).2
  replace h := (He.ba h).2
  replace h := (He.ba h).2
  exact (He.ba h).1
theorem hex_8 {K : PySem.W.Frag} (c : SaysA fa fn ex K) : (prpB K "Schema" "references") = true := by
  have h := c.parts.2.2
  replace h := (He.ba h).2
  replace h := (He.ba h).2
  replace h := (He.ba h).2
  replace h := (He.ba h).2
  replace h := (He.ba h).2
  replace h := (He.ba h).2
  replace h := (He.ba h).2
  replace h := (He.ba h).2
  exact (He.ba h).1
theorem hex_9 {K : PySem.W.Frag} (c : SaysA fa fn ex K) : (ownEqB K "Schema") = true := by
  have h := c.parts.2.2
  replace h := (He.ba h).2
  replace h := (He.ba h).2
  replace h := (He.ba h).2
  replace h := (He.ba h).2
  replace h := (He.ba h).2
  replace h := (He.ba h).2
  replace h := (He.ba h).2
  replace h := (He.ba h).2
  replace h := (He.ba h).2
  exact h
abbrev R : PySem.W.OpenRow := PySem.W.OpenLaw.row PySem.Challenge.rw_wordjoins_k75_schemas_written
abbrev hk : PySem.W.Hook := hookA 6 fa fn ex
def ob (s : PySem.W.SharedT) : AlA := obsAG 6 fa fn ex (HandSHeadRun.getT s)
theorem ob_eq (s : PySem.W.SharedT) : ob s = hk.obs s.abs := obsAG_eq (HandSHeadRun.getT_eq s)
def loose : List PySem.Str := ((["_wall", "__name__", "JoinError", "NoSchema", "NoText", "LETTERS", "MOST_LETTERS", "MOST_TABLES_schemas", "MOST_REFERENCES_schemas", "KINDS_schemas", "is_name", "are_tables", "is_reference", "are_references", "Schema", "need_schema", "KINDS_texts", "MOST_TABLES_texts", "MOST_REFERENCES_texts", "rows_of", "text_of_rows", "schema_text", "is_new_table", "is_new_reference", "read_schema", "_law_source", "_law_next", "_law_pick", "_law_shuffled", "_law_name", "_law_parts", "_law_is_refused"] : List PySem.Str))
theorem run (w : World) : HandSHeadRun.RunEq R (PySem.W.view R.prog [35]) hk ob 4000 loose w := by
  intro os
  kernel_rfl
theorem facts {Pr : Program} {w : World} {K : PySem.W.Frag} {h : Heap} {mg : Str → Option Value} {f : Addr} (X : K.In h) (G : h.Ns mainGlobals mg) (hfa : mg ("law" : Str) = some (.ref f)) (c : SaysA fa fn ex K) :
    ∃ fd : FuncData, (∀ (s : Shared) (v : Value), BindsTo s fd ⟨[v], []⟩ [("_law_script", v)]) ∧ ∀ base : Heap, K.In base → base.Ns mainGlobals mg → FnOk Pr w K mg base CX0 6 f fd ["_law_script"] (spLaw K) := by
  obtain ⟨fd_is_name, D_is_name⟩ := c.def_ 0 (d := d_is_name) rfl
  obtain ⟨fd_are_tables, D_are_tables⟩ := c.def_ 1 (d := d_are_tables) rfl
  obtain ⟨fd_is_reference, D_is_reference⟩ := c.def_ 2 (d := d_is_reference) rfl
  obtain ⟨fd_are_references, D_are_references⟩ := c.def_ 3 (d := d_are_references) rfl
  obtain ⟨fd_Schema___init__, D_Schema___init__⟩ := c.def_ 4 (d := d_Schema___init__) rfl
  obtain ⟨fd_Schema_tables, D_Schema_tables⟩ := c.def_ 5 (d := d_Schema_tables) rfl
  obtain ⟨fd_Schema_references, D_Schema_references⟩ := c.def_ 6 (d := d_Schema_references) rfl
  obtain ⟨fd_Schema___eq__, D_Schema___eq__⟩ := c.def_ 7 (d := d_Schema___eq__) rfl
  obtain ⟨fd_rows_of, D_rows_of⟩ := c.def_ 8 (d := d_rows_of) rfl
  obtain ⟨fd_is_new_table, D_is_new_table⟩ := c.def_ 9 (d := d_is_new_table) rfl
  obtain ⟨fd_is_new_reference, D_is_new_reference⟩ := c.def_ 10 (d := d_is_new_reference) rfl
  obtain ⟨fd_text_of_rows, D_text_of_rows⟩ := c.def_ 11 (d := d_text_of_rows) rfl
  obtain ⟨fd_read_schema, D_read_schema⟩ := c.def_ 12 (d := d_read_schema) rfl
  obtain ⟨fd__law_next, D__law_next⟩ := c.def_ 13 (d := d__law_next) rfl
  obtain ⟨fd__law_pick, D__law_pick⟩ := c.def_ 14 (d := d__law_pick) rfl
  obtain ⟨fd__law_shuffled, D__law_shuffled⟩ := c.def_ 15 (d := d__law_shuffled) rfl
  obtain ⟨fd__law_name, D__law_name⟩ := c.def_ 16 (d := d__law_name) rfl
  obtain ⟨fd__law_parts, D__law_parts⟩ := c.def_ 17 (d := d__law_parts) rfl
  obtain ⟨fd_need_schema, D_need_schema⟩ := c.def_ 18 (d := d_need_schema) rfl
  obtain ⟨fd_schema_text, D_schema_text⟩ := c.def_ 19 (d := d_schema_text) rfl
  obtain ⟨fd__law_is_refused, D__law_is_refused⟩ := c.def_ 20 (d := d__law_is_refused) rfl
  obtain ⟨fd__law_source, D__law_source⟩ := c.def_ 21 (d := d__law_source) rfl
  obtain ⟨fd_law, D_law⟩ := c.def_ 22 (d := d_law) rfl
  have e := hfa.symm.trans (He.glo_ok X G (c.fact 0 (f := .glo "law") rfl))
  cases e
  have b := FunD.bindsA (ps := ["_law_script"]) D_law fun _ _ _ _ _ _ us hl => match us, hl with | [_], _ => rfl
  refine ⟨fd_law, fun s v => b s [v] rfl, fun base _ _ => ?_⟩
  have GM : P75.Glb K mg := ⟨(He.glo_ok X G (c.fact 1 (f := .glo "KINDS_schemas") rfl)), (He.glo_ok X G (c.fact 2 (f := .glo "KINDS_texts") rfl)), (He.str_ok X G (c.fact 3 (f := .str "LETTERS" "abcdefghijklmnopqrstuvwxyz") rfl)), (He.int_ok X G (c.fact 4 (f := .int "MOST_LETTERS" 6) rfl)), (He.int_ok X G (c.fact 5 (f := .int "MOST_REFERENCES_schemas" 6) rfl)), (He.int_ok X G (c.fact 6 (f := .int "MOST_REFERENCES_texts" 6) rfl)), (He.int_ok X G (c.fact 7 (f := .int "MOST_TABLES_schemas" 5) rfl)), (He.int_ok X G (c.fact 8 (f := .int "MOST_TABLES_texts" 5) rfl)), (He.glo_ok X G (c.fact 9 (f := .glo "Schema") rfl)), (He.free_ok X G (c.fact 10 (f := .free "all") rfl)), (He.free_ok X G (c.fact 11 (f := .free "dict") rfl)), (He.free_ok X G (c.fact 12 (f := .free "isinstance") rfl)), (He.free_ok X G (c.fact 13 (f := .free "len") rfl)), (He.free_ok X G (c.fact 14 (f := .free "list") rfl)), (He.free_ok X G (c.fact 15 (f := .free "set") rfl)), (He.free_ok X G (c.fact 16 (f := .free "sorted") rfl)), (He.free_ok X G (c.fact 17 (f := .free "str") rfl)), (He.free_ok X G (c.fact 18 (f := .free "tuple") rfl))⟩
  have GN : P75N.Glb K mg := ⟨(He.free_ok X G (c.fact 19 (f := .free "enumerate") rfl)), (He.free_ok X G (c.fact 20 (f := .free "int") rfl)), (He.free_ok X G (c.fact 12 (f := .free "isinstance") rfl)), (He.free_ok X G (c.fact 13 (f := .free "len") rfl)), (He.free_ok X G (c.fact 14 (f := .free "list") rfl)), (He.free_ok X G (c.fact 21 (f := .free "range") rfl)), (He.free_ok X G (c.fact 17 (f := .free "str") rfl))⟩
  have GO : P75O.Glb K mg := ⟨(He.free_ok X G (c.fact 16 (f := .free "sorted") rfl))⟩
  have GV : P75V.Glb K mg := ⟨(He.glo_ok X G (c.fact 9 (f := .glo "Schema") rfl)), (He.free_ok X G (c.fact 12 (f := .free "isinstance") rfl)), (He.free_ok X G (c.fact 13 (f := .free "len") rfl)), (He.free_ok X G (c.fact 14 (f := .free "list") rfl)), (He.free_ok X G (c.fact 22 (f := .free "max") rfl)), (He.free_ok X G (c.fact 23 (f := .free "min") rfl)), (He.free_ok X G (c.fact 21 (f := .free "range") rfl)), (He.free_ok X G (c.fact 16 (f := .free "sorted") rfl)), (He.free_ok X G (c.fact 18 (f := .free "tuple") rfl))⟩
  have GU : P75U.Glb K mg := ⟨(He.free_ok X G (c.fact 24 (f := .free "abs") rfl)), (He.free_ok X G (c.fact 20 (f := .free "int") rfl)), (He.free_ok X G (c.fact 13 (f := .free "len") rfl))⟩
  have cl : C8.InsC K (He.ga K "Schema") := insB_ok (hex_0 c)
  have n1 : NoAttr K (He.ga K "Schema") "own_tables" := (He.noat_ok (c.fact 25 (f := .noat "Schema" "own_tables") rfl))
  have n2 : NoAttr K (He.ga K "Schema") "own_references" := (He.noat_ok (c.fact 26 (f := .noat "Schema" "own_references") rfl))
  have k1 : KindsOk K (He.ga K "KINDS_schemas") := He.tupB_ok (hex_1 c) _
  have k2 : KindsOk K (He.ga K "KINDS_texts") := He.tupB_ok (hex_2 c) _
  have hE := (He.exc_ok (c.fact 27 (f := .exc "NoSchema") rfl))
  have RN : RaiseOk K mg He.veBase := ⟨hE.1, (He.glo_ok X G (c.fact 28 (f := .glo "NoSchema") rfl)), hE.2.1, hE.2.2.1, hE.2.2.2⟩
  have hX : ExFacts K := ⟨excB_ok (hex_3 c), (He.exm_ok (c.fact 29 (f := .exm "NoSchema" "JoinError" true) rfl)), kitB_ok (hex_4 c), kitB_ok (hex_5 c)⟩
  have hno : ∀ n ∈ ["NoneType", "int", "str", "dict", "list", "bool", "tuple"], PySem.W.kitOne K (.type n) (.ref (He.ga K "Schema")) = some false := fun n hn => kitB_ok (List.all_eq_true.mp (hex_6 c) n hn)
  have F_is_name : Fnd Pr w K mg base 1 "is_name" ["thing"] _ := fnd_of D_is_name (He.glo_ok X G (c.fact 30 (f := .glo "is_name") rfl)) (ok_is_name GM D_is_name) (D_is_name.bindsN fun _ _ _ _ _ _ us hl => match us, hl with | [_], _ => rfl)
  have F_are_tables : Fnd Pr w K mg base 2 "are_tables" ["thing"] _ := fnd_of D_are_tables (He.glo_ok X G (c.fact 31 (f := .glo "are_tables") rfl)) (ok_are_tables GM F_is_name D_are_tables) (D_are_tables.bindsN fun _ _ _ _ _ _ us hl => match us, hl with | [_], _ => rfl)
  have F_is_reference : Fnd Pr w K mg base 1 "is_reference" ["thing", "tables"] _ := fnd_of D_is_reference (He.glo_ok X G (c.fact 32 (f := .glo "is_reference") rfl)) (ok_is_reference k1 GM D_is_reference) (D_is_reference.bindsN fun _ _ _ _ _ _ us hl => match us, hl with | [_, _], _ => rfl)
  have F_are_references : Fnd Pr w K mg base 2 "are_references" ["thing", "tables"] _ := fnd_of D_are_references (He.glo_ok X G (c.fact 33 (f := .glo "are_references") rfl)) (ok_are_references GM F_is_name F_is_reference D_are_references) (D_are_references.bindsN fun _ _ _ _ _ _ us hl => match us, hl with | [_, _], _ => rfl)
  have M_Schema : Mkd Pr w K mg base 3 "Schema" (He.ga K "Schema") ["self", "tables", "references"] _ := ⟨⟨_, _, (He.mkr_ok (c.fact 34 (f := .mkr "Schema") rfl)), ok_init cl.cl n1 n2 GM F_are_tables F_are_references D_Schema___init__, (He.glo_ok X G (c.fact 9 (f := .glo "Schema") rfl)), D_Schema___init__.bindsN fun _ _ _ _ _ _ us hl => match us, hl with | [_, _, _], _ => rfl⟩⟩
  have P_Schema_tables : Prp Pr w K mg base 1 (He.ga K "Schema") "tables" ["self"] _ := ⟨cl.cl, _, _, _, prpB_ok (hex_7 c), ok_tables cl.cl n1 GM D_Schema_tables, D_Schema_tables.bindsN fun _ _ _ _ _ _ us hl => match us, hl with | [_], _ => rfl⟩
  have P_Schema_references : Prp Pr w K mg base 1 (He.ga K "Schema") "references" ["self"] _ := ⟨cl.cl, _, _, _, prpB_ok (hex_8 c), ok_references cl.cl n2 GM D_Schema_references, D_Schema_references.bindsN fun _ _ _ _ _ _ us hl => match us, hl with | [_], _ => rfl⟩
  have hq := ownEqB_ok (hex_9 c)
  have Q_Schema : Eqo Pr w K mg base 1 (He.ga K "Schema") ["self", "other"] _ := ⟨⟨_, _, hq.1, hq.2, ok_eq cl n1 n2 GM D_Schema___eq__, D_Schema___eq__.bindsN fun _ _ _ _ _ _ us hl => match us, hl with | [_, _], _ => rfl⟩⟩
  have F_rows_of : Fnd Pr w K mg base 1 "rows_of" ["text"] _ := fnd_of D_rows_of (He.glo_ok X G (c.fact 35 (f := .glo "rows_of") rfl)) (ok_rows_of GM D_rows_of) (D_rows_of.bindsN fun _ _ _ _ _ _ us hl => match us, hl with | [_], _ => rfl)
  have F_is_new_table : Fnd Pr w K mg base 2 "is_new_table" ["words", "tables", "references"] _ := fnd_of D_is_new_table (He.glo_ok X G (c.fact 36 (f := .glo "is_new_table") rfl)) (ok_is_new_table GM F_is_name D_is_new_table) (D_is_new_table.bindsN fun _ _ _ _ _ _ us hl => match us, hl with | [_, _, _], _ => rfl)
  have F_is_new_reference : Fnd Pr w K mg base 2 "is_new_reference" ["words", "tables", "references"] _ := fnd_of D_is_new_reference (He.glo_ok X G (c.fact 37 (f := .glo "is_new_reference") rfl)) (ok_is_new_reference k2 GM F_is_name D_is_new_reference) (D_is_new_reference.bindsN fun _ _ _ _ _ _ us hl => match us, hl with | [_, _, _], _ => rfl)
  have F_text_of_rows : Fnd Pr w K mg base 1 "text_of_rows" ["rows"] _ := fnd_of D_text_of_rows (He.glo_ok X G (c.fact 38 (f := .glo "text_of_rows") rfl)) (ok_text_of_rows GN D_text_of_rows) (D_text_of_rows.bindsN fun _ _ _ _ _ _ us hl => match us, hl with | [_], _ => rfl)
  have ok_read := ok_read_schema (Pr := Pr) (w := w) (base := base) GN F_rows_of F_is_new_table F_is_new_reference M_Schema D_read_schema
  have b_read : Binds K fd_read_schema ["text"] [] := D_read_schema.bindsN fun _ _ _ _ _ _ us hl => match us, hl with | [_], _ => rfl
  have F_read_schema : Fnd Pr w K mg base 5 "read_schema" ["text"] _ := fnd_of D_read_schema (He.glo_ok X G (c.fact 39 (f := .glo "read_schema") rfl)) ok_read b_read
  have K_read_schema : Kw1 Pr w K mg base CX0 5 "read_schema" "text" _ := ⟨⟨_, _, ok_read, (He.glo_ok X G (c.fact 39 (f := .glo "read_schema") rfl)), D_read_schema.kp, b_read, kw_of D_read_schema fun _ _ _ _ _ _ _ => rfl⟩⟩
  have F__law_next : Fnd Pr w K mg base 1 "_law_next" ["_law_draw", "_law_size"] _ := fnd_of D__law_next (He.glo_ok X G (c.fact 40 (f := .glo "_law_next") rfl)) (ok_next GN D__law_next) (D__law_next.bindsN fun _ _ _ _ _ _ us hl => match us, hl with | [_, _], _ => rfl)
  have F__law_pick : Fnd Pr w K mg base 2 "_law_pick" ["_law_draw", "_law_some"] _ := fnd_of D__law_pick (He.glo_ok X G (c.fact 41 (f := .glo "_law_pick") rfl)) (ok_pick GN F__law_next D__law_pick) (D__law_pick.bindsN fun _ _ _ _ _ _ us hl => match us, hl with | [_, _], _ => rfl)
  have F__law_shuffled : Fnd Pr w K mg base 2 "_law_shuffled" ["_law_draw", "_law_some"] _ := fnd_of D__law_shuffled (He.glo_ok X G (c.fact 42 (f := .glo "_law_shuffled") rfl)) (ok_shuffled GN F__law_next D__law_shuffled) (D__law_shuffled.bindsN fun _ _ _ _ _ _ us hl => match us, hl with | [_, _], _ => rfl)
  have F__law_name : Fnd Pr w K mg base 3 "_law_name" ["_law_draw", "_law_taken"] _ := fnd_of D__law_name (He.glo_ok X G (c.fact 43 (f := .glo "_law_name") rfl)) (ok_name GN F__law_next F__law_pick D__law_name) (D__law_name.bindsN fun _ _ _ _ _ _ us hl => match us, hl with | [_, _], _ => rfl)
  have F__law_parts : Fnd Pr w K mg base 4 "_law_parts" ["_law_draw"] _ := fnd_of D__law_parts (He.glo_ok X G (c.fact 44 (f := .glo "_law_parts") rfl)) (ok_parts GN F__law_next F__law_pick F__law_name D__law_parts) (D__law_parts.bindsN fun _ _ _ _ _ _ us hl => match us, hl with | [_], _ => rfl)
  have FX_need_schema : FndX Pr w K mg base 1 "need_schema" ["thing"] _ := fndX_of D_need_schema (He.glo_ok X G (c.fact 45 (f := .glo "need_schema") rfl)) (ok_need cl (He.glo_ok X G (c.fact 9 (f := .glo "Schema") rfl)) (He.free_ok X G (c.fact 12 (f := .free "isinstance") rfl)) PySem.F.excBase_ValueError RN D_need_schema) (D_need_schema.bindsN fun _ _ _ _ _ _ us hl => match us, hl with | [_], _ => rfl)
  have ok_text := ok_schema_text (Pr := Pr) (w := w) (base := base) cl GO FX_need_schema F_text_of_rows P_Schema_tables P_Schema_references D_schema_text
  have b_text : Binds K fd_schema_text ["schema"] [] := D_schema_text.bindsN fun _ _ _ _ _ _ us hl => match us, hl with | [_], _ => rfl
  have FX_schema_text : FndX Pr w K mg base 3 "schema_text" ["schema"] _ := fndX_of D_schema_text (He.glo_ok X G (c.fact 46 (f := .glo "schema_text") rfl)) ok_text b_text
  have K_schema_text : Kw1 Pr w K mg base (L2.CX Pr w) 3 "schema_text" "schema" _ := ⟨⟨_, _, ok_text, (He.glo_ok X G (c.fact 46 (f := .glo "schema_text") rfl)), D_schema_text.kp, b_text, kw_of D_schema_text fun _ _ _ _ _ _ _ => rfl⟩⟩
  have F__law_is_refused : Fnd Pr w K mg base 4 "_law_is_refused" ["_law_thing"] _ := fnd_of D__law_is_refused (He.glo_ok X G (c.fact 47 (f := .glo "_law_is_refused") rfl)) (ok_refused hX (He.glo_ok X G (c.fact 48 (f := .glo "JoinError") rfl)) (He.glo_ok X G (c.fact 28 (f := .glo "NoSchema") rfl)) (He.free_ok X G (c.fact 12 (f := .free "isinstance") rfl)) (He.free_ok X G (c.fact 49 (f := .free "ValueError") rfl)) FX_schema_text D__law_is_refused) (D__law_is_refused.bindsN fun _ _ _ _ _ _ us hl => match us, hl with | [_], _ => rfl)
  have F__law_source : Fnd Pr w K mg base 1 "_law_source" ["_law_script"] _ := fnd_of D__law_source (He.glo_ok X G (c.fact 50 (f := .glo "_law_source") rfl)) (ok_source GU D__law_source) (D__law_source.bindsN fun _ _ _ _ _ _ us hl => match us, hl with | [_], _ => rfl)
  exact ok_law GV cl hno F__law_source F__law_parts F__law_pick F__law_shuffled F__law_is_refused F_read_schema K_read_schema FX_schema_text K_schema_text M_Schema P_Schema_tables P_Schema_references Q_Schema D_law
end P75H
open PySem PySem.W PySem.Calls PyProof.Rows
theorem PySem.Challenge.cw_wordjoins_k75_schemas_written_holds : PySem.Challenge.rw_wordjoins_k75_schemas_written.Holds := by
  w_on; o_law
  refine HandSHeadRun.head_any (r := OpenLaw.row PySem.Challenge.rw_wordjoins_k75_schemas_written) (q := view (OpenLaw.row PySem.Challenge.rw_wordjoins_k75_schemas_written).prog [35]) (H := P75H.hk) (ob := P75H.ob) (M := 4000) (loose := P75H.loose) (d := HandSHeadRun.topDef (OpenLaw.row PySem.Challenge.rw_wordjoins_k75_schemas_written).prog 35) (kwd := []) P75H.ob_eq
    (by kernel_rfl) (fun s => by kernel_rfl) P75H.run (by kernel_rfl) (by kernel_rfl) (by kernel_rfl) (by rfl) (by first | assumption | decide +kernel) (by decide +kernel) ⟨rfl, rfl, rfl, rfl, rfl, by decide +kernel⟩ ?hw ?hc
  case hw => w_witness2
  case hc =>
    refine L2.walk_ofE (l := PySem.Challenge.rw_wordjoins_k75_schemas_written) (n := 63) (k := 6) (x := "_law_script") (CX := L2.CX0) rfl (by decide) (by kernel_rfl) ⟨rfl, by decide, by decide⟩ ?F (fun _ _ _ _ z => z)
    intro w mg fa h Y G hmg0
    obtain ⟨K, KX, c⟩ := Y
    have hmg : mg ("law" : PySem.Str) = some (.ref fa) := by
      have e : (HandSHeadRun.topDef (OpenLaw.row PySem.Challenge.rw_wordjoins_k75_schemas_written).prog 35).name = ("law" : PySem.Str) := by kernel_rfl
      rw [← e]
      exact hmg0
    obtain ⟨fd, hb, hF⟩ := P75H.facts (Pr := (PySem.Challenge.rw_wordjoins_k75_schemas_written).prog) (w := w) KX G hmg c
    exact ⟨K, fd, P75V.spLaw K, KX, hb, fun H a ns hl _ hS => ⟨a, ns, rfl, hS, hl, fun _ => rfl⟩, hF⟩
