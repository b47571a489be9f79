import PyProof.Rows.All
import HandS.ForMost
import HandS.IsInst
import HandS.TupAny
import HandS.Style
import HandS.Wide
import HandS.Flt
import HandS.SortInts
import HandS.Conv
import HandS.ForDict
import HandS.SetFor
import HandS.Strs
import KE.GoesEnum
import HandS.Iter
import HandS.Defaults
import HandS.HeadHook4
import HandS.Head0
import HandS.Head1
import HandS.Head2
import HandS.HeadEnd
import PySem.Challenge.RW_sparetrees_k51_whole_places_stopped_by_l
set_option Elab.async false
set_option linter.all false
set_option maxRecDepth 100000
set_option maxHeartbeats 0
namespace DL
open PySem L2

/-- where the own classes stand; what the top has written -/
structure Gm where
  f : Str → Addr
  K : PySem.W.Frag
instance : CoeFun Gm (fun _ => Str → Addr) := ⟨Gm.f⟩
/-- data: what a value stands for -/
inductive D where
  | hole | non | bl (b : Bool) | int (i : Int) | str (x : Str) | ty (n : String) | ref (a : Addr)
  | lst (xs : List D) | tup (xs : List D)
  /-- the script, as it was handed in -/
  | scr (xs : List D)
  | dct (kvs : List (Key × D))
  /-- an own class itself -/
  | cls (c : Str)
  | obj (c : Str) (fs : List (Str × D))

/-- what is owned of it -/
inductive Mo where
  | hole | fz | l (m : Mo) | d (m : Mo) | o (ms : List Mo)

mutual
/-- v stands for the data in H; fp: the objects that are owned; all others that it touches are outside A -/
inductive Rp (cm : Gm) (H : Hp) (A : Addr → Prop) : Mo → List Addr → V → D → Prop
  | hole {v} : Rp cm H A .hole [] v .hole
  | non : Rp cm H A .fz [] .non .non
  | bl {b} : Rp cm H A .fz [] (.bl b) (.bl b)
  | int {i} : Rp cm H A .fz [] (.int i) (.int i)
  | str {x} : Rp cm H A .fz [] (.str x) (.str x)
  | ty {n} : Rp cm H A .fz [] (.ty n) (.ty n)
  | ref {a} : Rp cm H A .fz [] (.ref a) (.ref a)
  | cls {c} : Rp cm H A .fz [] (.ref (cm c)) (.cls c)
  | tup {a vs ds} : H a = some (.tup vs) → ¬ A a → RpL cm H A .fz [] vs ds → Rp cm H A .fz [] (.ref a) (.tup ds)
  | lst {a vs ds} : H a = some (.lst vs) → ¬ A a → RpL cm H A .fz [] vs ds → Rp cm H A .fz [] (.ref a) (.lst ds)
  | scr {a o vs ds} : H a = some (.frz o (.lst vs)) → ¬ A a → RpL cm H A .fz [] vs ds → Rp cm H A .fz [] (.ref a) (.scr ds)
  | scrK {a vs ds} : (∃ (o : Obj) (its : Array Value) (n : Nat), cm.K.lookup a = some o ∧ o.cls = .type "list" ∧ o.dict = none ∧ o.data = .seq its n ∧ its.size ≤ sizeLine ∧ Vals vs its.toList) → RpL cm H A .fz [] vs ds → Rp cm H A .fz [] (.ref a) (.scr ds)
  | dct {a kvs kds} : H a = some (.dK kvs) → ¬ A a → kvs.map (·.1) = kds.map (·.1) → RpL cm H A .fz [] (kvs.map (·.2)) (kds.map (·.2)) → Rp cm H A .fz [] (.ref a) (.dct kds)
  | obj {a dx c fs fds} : H a = some (.ins (cm c) dx fs) → ¬ A a → fs.map (·.1) = fds.map (·.1) → RpL cm H A .fz [] (fs.map (·.2)) (fds.map (·.2)) → Rp cm H A .fz [] (.ref a) (.obj c fds)
  | lstO {m fp a vs ds} : H a = some (.lst vs) → RpL cm H A m fp vs ds → Rp cm H A (.l m) (a :: fp) (.ref a) (.lst ds)
  | dctO {m fp a kvs kds} : H a = some (.dK kvs) → kvs.map (·.1) = kds.map (·.1) → RpL cm H A m fp (kvs.map (·.2)) (kds.map (·.2)) → Rp cm H A (.d m) (a :: fp) (.ref a) (.dct kds)
  | objO {ms fp a dx c fs fds} : H a = some (.ins (cm c) dx fs) → fs.map (·.1) = fds.map (·.1) → RpM cm H A ms fp (fs.map (·.2)) (fds.map (·.2)) → Rp cm H A (.o ms) (a :: fp) (.ref a) (.obj c fds)
/-- a list of one mode -/
inductive RpL (cm : Gm) (H : Hp) (A : Addr → Prop) : Mo → List Addr → List V → List D → Prop
  | nil {m} : RpL cm H A m [] [] []
  | cons {m f1 f2 v vs d ds} : Rp cm H A m f1 v d → RpL cm H A m f2 vs ds → RpL cm H A m (f1 ++ f2) (v :: vs) (d :: ds)
/-- fields, each of its own mode -/
inductive RpM (cm : Gm) (H : Hp) (A : Addr → Prop) : List Mo → List Addr → List V → List D → Prop
  | nil : RpM cm H A [] [] [] []
  | cons {m ms f1 f2 v vs d ds} : Rp cm H A m f1 v d → RpM cm H A ms f2 vs ds → RpM cm H A (m :: ms) (f1 ++ f2) (v :: vs) (d :: ds)
end

section mono
variable {cm : Gm} {H H' : Hp} {A A' : Addr → Prop}
theorem rd_keep {a : Addr} {u : HO} (h : L2.Rd H a u) (k : ∀ o, H a = some o → H' a = some o) : L2.Rd H' a u := by
  rcases h with h | ⟨o, h⟩
  · exact .inl (k _ h)
  · exact .inr ⟨o, k _ h⟩
theorem rd_some {a : Addr} {u : HO} (h : L2.Rd H a u) : ∃ o, H a = some o := by
  rcases h with h | ⟨o, h⟩
  · exact ⟨_, h⟩
  · exact ⟨_, h⟩
mutual
theorem Rp.mono (k2 : ∀ a o, H a = some o → ¬ A a → ¬ A' a) : ∀ {m fp v d}, Rp cm H A m fp v d → (∀ a o, H a = some o → (¬ A a ∨ a ∈ fp) → H' a = some o) → Rp cm H' A' m fp v d
  | _, _, _, _, .hole, _ => .hole
  | _, _, _, _, .non, _ => .non
  | _, _, _, _, .bl, _ => .bl
  | _, _, _, _, .int, _ => .int
  | _, _, _, _, .str, _ => .str
  | _, _, _, _, .ty, _ => .ty
  | _, _, _, _, .ref, _ => .ref
  | _, _, _, _, .cls, _ => .cls
  | _, _, _, _, .tup h n r, k1 => .tup (k1 _ _ h (.inl n)) (k2 _ _ h n) (RpL.mono k2 r k1)
  | _, _, _, _, .lst h n r, k1 => .lst (k1 _ _ h (.inl n)) (k2 _ _ h n) (RpL.mono k2 r k1)
  | _, _, _, _, .scr h n r, k1 => .scr (k1 _ _ h (.inl n)) (k2 _ _ h n) (RpL.mono k2 r k1)
  | _, _, _, _, .scrK h r, k1 => .scrK h (RpL.mono k2 r k1)
  | _, _, _, _, .dct h n e r, k1 => .dct (k1 _ _ h (.inl n)) (k2 _ _ h n) e (RpL.mono k2 r k1)
  | _, _, _, _, .obj h n e r, k1 => .obj (k1 _ _ h (.inl n)) (k2 _ _ h n) e (RpL.mono k2 r k1)
  | _, _, _, _, .lstO h r, k1 => .lstO (k1 _ _ h (.inr List.mem_cons_self)) (RpL.mono k2 r fun a o e z => k1 a o e (z.imp id (List.mem_cons_of_mem _)))
  | _, _, _, _, .dctO h e r, k1 => .dctO (k1 _ _ h (.inr List.mem_cons_self)) e (RpL.mono k2 r fun a o e z => k1 a o e (z.imp id (List.mem_cons_of_mem _)))
  | _, _, _, _, .objO h e r, k1 => .objO (k1 _ _ h (.inr List.mem_cons_self)) e (RpM.mono k2 r fun a o e z => k1 a o e (z.imp id (List.mem_cons_of_mem _)))
theorem RpL.mono (k2 : ∀ a o, H a = some o → ¬ A a → ¬ A' a) : ∀ {m fp vs ds}, RpL cm H A m fp vs ds → (∀ a o, H a = some o → (¬ A a ∨ a ∈ fp) → H' a = some o) → RpL cm H' A' m fp vs ds
  | _, _, _, _, .nil, _ => .nil
  | _, _, _, _, .cons h r, k1 => .cons (Rp.mono k2 h fun a o e z => k1 a o e (z.imp id (List.mem_append_left _))) (RpL.mono k2 r fun a o e z => k1 a o e (z.imp id (List.mem_append_right _)))
theorem RpM.mono (k2 : ∀ a o, H a = some o → ¬ A a → ¬ A' a) : ∀ {ms fp vs ds}, RpM cm H A ms fp vs ds → (∀ a o, H a = some o → (¬ A a ∨ a ∈ fp) → H' a = some o) → RpM cm H' A' ms fp vs ds
  | _, _, _, _, .nil, _ => .nil
  | _, _, _, _, .cons h r, k1 => .cons (Rp.mono k2 h fun a o e z => k1 a o e (z.imp id (List.mem_append_left _))) (RpM.mono k2 r fun a o e z => k1 a o e (z.imp id (List.mem_append_right _)))
end
end mono
end DL

namespace DL
open PySem L2

mutual
def Mo.full : Mo → Bool
  | .hole => false
  | .fz => true
  | .l m => Mo.full m
  | .d m => Mo.full m
  | .o ms => Mo.fulls ms
def Mo.fulls : List Mo → Bool
  | [] => true
  | m :: ms => Mo.full m && Mo.fulls ms
end

section
variable {cm : Gm} {H H' : Hp} {A A' : Addr → Prop}
/-- all of it is given up -/
theorem RpL.len : ∀ {m fp vs ds}, RpL cm H A m fp vs ds → vs.length = ds.length
  | _, _, _, _, .nil => rfl
  | _, _, _, _, .cons _ r => by simp [RpL.len r]
theorem RpM.len : ∀ {m fp vs ds}, RpM cm H A m fp vs ds → vs.length = ds.length
  | _, _, _, _, .nil => rfl
  | _, _, _, _, .cons _ r => by simp [RpM.len r]
mutual
theorem Rp.thaw (k : ∀ a o, H a = some o → ¬ A a → ¬ A' a) : ∀ {m fp v d}, Rp cm H A m fp v d → m.full = true → (∀ a ∈ fp, ¬ A' a) → Rp cm H A' .fz [] v d
  | _, _, _, _, .hole, e, _ => nomatch (show false = true from e)
  | _, _, _, _, .non, _, _ => .non
  | _, _, _, _, .bl, _, _ => .bl
  | _, _, _, _, .int, _, _ => .int
  | _, _, _, _, .str, _, _ => .str
  | _, _, _, _, .ty, _, _ => .ty
  | _, _, _, _, .ref, _, _ => .ref
  | _, _, _, _, .cls, _, _ => .cls
  | _, _, _, _, .tup h n r, _, g => .tup h (k _ _ h n) (RpL.thaw k r rfl g)
  | _, _, _, _, .lst h n r, _, g => .lst h (k _ _ h n) (RpL.thaw k r rfl g)
  | _, _, _, _, .scr h n r, _, g => .scr h (k _ _ h n) (RpL.thaw k r rfl g)
  | _, _, _, _, .scrK h r, _, g => .scrK h (RpL.thaw k r rfl g)
  | _, _, _, _, .dct h n e r, _, g => .dct h (k _ _ h n) e (RpL.thaw k r rfl g)
  | _, _, _, _, .obj h n e r, _, g => .obj h (k _ _ h n) e (RpL.thaw k r rfl g)
  | _, _, _, _, .lstO (m := m) h r, e, g => .lst h (g _ List.mem_cons_self) (RpL.thaw k r (show m.full = true from by simpa [Mo.full] using e) fun a z => g a (List.mem_cons_of_mem _ z))
  | _, _, _, _, .dctO (m := m) h q r, e, g => .dct h (g _ List.mem_cons_self) q (RpL.thaw k r (show m.full = true from by simpa [Mo.full] using e) fun a z => g a (List.mem_cons_of_mem _ z))
  | _, _, _, _, .objO (ms := ms) h q r, e, g => .obj h (g _ List.mem_cons_self) q (RpM.thaw k r (show Mo.fulls ms = true from by simpa [Mo.full] using e) fun a z => g a (List.mem_cons_of_mem _ z))
theorem RpL.thaw (k : ∀ a o, H a = some o → ¬ A a → ¬ A' a) : ∀ {m fp vs ds}, RpL cm H A m fp vs ds → m.full = true → (∀ a ∈ fp, ¬ A' a) → RpL cm H A' .fz [] vs ds
  | _, _, _, _, .nil, _, _ => .nil
  | _, _, _, _, .cons h r, e, g => RpL.cons (f1 := []) (f2 := []) (Rp.thaw k h e fun a z => g a (List.mem_append_left _ z)) (RpL.thaw k r e fun a z => g a (List.mem_append_right _ z))
theorem RpM.thaw (k : ∀ a o, H a = some o → ¬ A a → ¬ A' a) : ∀ {ms fp vs ds}, RpM cm H A ms fp vs ds → Mo.fulls ms = true → (∀ a ∈ fp, ¬ A' a) → RpL cm H A' .fz [] vs ds
  | _, _, _, _, .nil, _, _ => .nil
  | _, _, _, _, .cons (m := m) (ms := ms) h r, e, g =>
    have e2 : m.full = true ∧ Mo.fulls ms = true := by simpa [Mo.fulls] using e
    RpL.cons (f1 := []) (f2 := []) (Rp.thaw k h e2.1 fun a z => g a (List.mem_append_left _ z)) (RpM.thaw k r e2.2 fun a z => g a (List.mem_append_right _ z))
end
/-- the footprint stands -/
theorem RpL.append : ∀ {m f1 f2 vs ws ds es}, RpL cm H A m f1 vs ds → RpL cm H A m f2 ws es → RpL cm H A m (f1 ++ f2) (vs ++ ws) (ds ++ es)
  | _, _, _, _, _, _, _, .nil, r => r
  | _, _, _, _, _, _, _, .cons h r, s => by
    rw [List.append_assoc, List.cons_append, List.cons_append]
    exact .cons h (RpL.append r s)
end

/-- a frame's slots -/
inductive RpE (cm : Gm) (H : Hp) (A : Addr → Prop) : List Mo → List (List Addr) → List (Option V) → List D → Prop
  | nil : RpE cm H A [] [] [] []
  | su {m ms f fs v σ d δ} : Rp cm H A m f v d → RpE cm H A ms fs σ δ → RpE cm H A (m :: ms) (f :: fs) (some v :: σ) (d :: δ)
  | no {ms fs σ δ} : RpE cm H A ms fs σ δ → RpE cm H A (.hole :: ms) ([] :: fs) (none :: σ) (.hole :: δ)

section
variable {cm : Gm} {H H' : Hp} {A A' : Addr → Prop}
theorem RpE.mono (k2 : ∀ a o, H a = some o → ¬ A a → ¬ A' a) : ∀ {ms fps σ δ}, RpE cm H A ms fps σ δ → (∀ a o, H a = some o → (¬ A a ∨ a ∈ fps.flatten) → H' a = some o) → RpE cm H' A' ms fps σ δ
  | _, _, _, _, .nil, _ => .nil
  | _, _, _, _, .su h r, k1 => .su (h.mono k2 fun a o e z => k1 a o e (z.imp id fun q => by rw [List.flatten_cons]; exact List.mem_append_left _ q)) (RpE.mono k2 r fun a o e z => k1 a o e (z.imp id fun q => by rw [List.flatten_cons]; exact List.mem_append_right _ q))
  | _, _, _, _, .no r, k1 => .no (RpE.mono k2 r fun a o e z => k1 a o e (z.imp id fun q => by rw [List.flatten_cons]; exact List.mem_append_right _ q))
theorem RpE.len : ∀ {ms fps σ δ}, RpE cm H A ms fps σ δ → ms.length = δ.length ∧ fps.length = δ.length ∧ σ.length = δ.length
  | _, _, _, _, .nil => ⟨rfl, rfl, rfl⟩
  | _, _, _, _, .su _ r => by obtain ⟨a, b, c⟩ := RpE.len r; exact ⟨by simp [a], by simp [b], by simp [c]⟩
  | _, _, _, _, .no r => by obtain ⟨a, b, c⟩ := RpE.len r; exact ⟨by simp [a], by simp [b], by simp [c]⟩
end

abbrev inA (fps : List (List Addr)) (O : List Addr) : Addr → Prop := fun a => a ∈ fps.flatten ++ O
/-- the frame: its slots (and what lies above them), O the objects that others own -/
structure Frm (cm : Gm) (H : Hp) (O : List Addr) (ms : List Mo) (fps : List (List Addr)) (σ : List (Option V)) (δ : List D) : Prop where
  rp : RpE cm H (inA fps O) ms fps σ δ
  nd : (fps.flatten ++ O).Nodup
  al : ∀ a ∈ fps.flatten ++ O, H a ≠ none
/-- what a step may do: the objects of fp, new ones -/
structure Go (H : Hp) (fp : List Addr) (H' : Hp) (fp' : List Addr) : Prop where
  pres : ∀ a o, H a = some o → a ∉ fp → H' a = some o
  sub : ∀ a ∈ fp', a ∈ fp ∨ H a = none
  al : ∀ a, H a ≠ none → H' a ≠ none

section
variable {cm : Gm} {H H1 H2 H' : Hp} {O fp fp1 fp2 f : List Addr} {ms ms' ms1 : List Mo} {fps fps' : List (List Addr)} {σ σ' : List (Option V)} {δ δ' : List D} {m : Mo} {ov : Option V} {v : V} {d : D}
theorem Go.rfl : Go H fp H fp := ⟨fun _ _ h _ => h, fun _ h => .inl h, fun _ h => h⟩
theorem Go.trans (a : Go H fp H1 fp1) (b : Go H1 fp1 H2 fp2) : Go H fp H2 fp2 := by
  refine ⟨fun x o h n => b.pres x o (a.pres x o h n) fun z => ?_, fun x z => ?_, fun x z => b.al x (a.al x z)⟩
  · rcases a.sub x z with q | q
    · exact n q
    · rw [h] at q; cases q
  · rcases b.sub x z with q | q
    · exact a.sub x q
    · right
      cases e : H x with
      | none => rfl
      | some o => exact absurd q (a.al x (by rw [e]; simp))
theorem Go.mono (a : Go H fp H' fp1) (h : ∀ x ∈ fp, x ∈ fp2) (h' : ∀ x ∈ f, x ∈ fp1 ∨ x ∈ fp2) : Go H fp2 H' f :=
  ⟨fun x o e n => a.pres x o e fun z => n (h x z), fun x z => (h' x z).elim (fun q => (a.sub x q).imp (h x) id) .inl, a.al⟩
theorem Go.sub' (a : Go H fp H' fp1) (h' : ∀ x ∈ f, x ∈ fp1) : Go H fp H' f := a.mono (fun _ z => z) fun x z => .inl (h' x z)
/-- beside what others own -/
theorem Go.add (a : Go H fp H' fp1) : Go H (f ++ fp) H' (f ++ fp1) := a.mono (fun x z => List.mem_append_right _ z) fun x z => (List.mem_append.mp z).elim (fun q => .inr (List.mem_append_left _ q)) .inl
theorem Go.fr (g : Go H fp H' fp1) (a : Addr) (h : H' a = none) : H a = none := by
  cases e : H a with
  | none => rfl
  | some o => exact absurd h (g.al a (by rw [e]; simp))

theorem nd_swap {a b c : List Addr} : ((a ++ b) ++ c).Nodup ↔ (b ++ (a ++ c)).Nodup := by
  refine List.Perm.nodup_iff ?_
  rw [List.append_assoc]
  exact List.perm_append_comm_assoc a b c
theorem mem_swap {a b c : List Addr} {x : Addr} : x ∈ (a ++ b) ++ c ↔ x ∈ b ++ (a ++ c) := by
  simp only [List.mem_append]
  constructor
  · rintro ((h | h) | h)
    · exact .inr (.inl h)
    · exact .inl h
    · exact .inr (.inr h)
  · rintro (h | h | h)
    · exact .inl (.inr h)
    · exact .inl (.inl h)
    · exact .inr h
theorem RpE.congr (h : RpE cm H A ms fps σ δ) {A'} (e : ∀ a, A' a → A a) : RpE cm H A' ms fps σ δ := h.mono (fun a _ _ n z => n (e a z)) fun _ _ q _ => q
/-- the uppermost is laid aside -/
theorem Frm.aside (F : Frm cm H O (m :: ms) (f :: fps) (ov :: σ) (d :: δ)) : Frm cm H (f ++ O) ms fps σ δ := by
  obtain ⟨r, nd, al⟩ := F
  rw [List.flatten_cons] at nd al
  refine ⟨?_, nd_swap.mp nd, fun a z => al a (mem_swap.mpr z)⟩
  have r2 : RpE cm H (inA (f :: fps) O) ms fps σ δ := by cases r <;> assumption
  exact r2.congr fun a z => by
    show a ∈ (f :: fps).flatten ++ O
    rw [List.flatten_cons]
    exact mem_swap.mpr z
theorem Frm.head (F : Frm cm H O (m :: ms) (f :: fps) (some v :: σ) (d :: δ)) : Rp cm H (inA (f :: fps) O) m f v d := by
  obtain ⟨r, _, _⟩ := F
  cases r; assumption
/-- .. and taken up again -/
theorem Frm.back (F : Frm cm H O (m :: ms) (f :: fps) (some v :: σ) (d :: δ)) (F' : Frm cm H' (f ++ O) ms' fps' σ' δ') (g : Go H fps.flatten H' fps'.flatten) : Frm cm H' O (m :: ms') (f :: fps') (some v :: σ') (d :: δ') := by
  have h := F.head
  obtain ⟨_, nd, al⟩ := F
  obtain ⟨r', nd', al'⟩ := F'
  rw [List.flatten_cons] at nd al
  refine ⟨?_, by rw [List.flatten_cons]; exact nd_swap.mpr nd', fun a z => al' a (mem_swap.mp (by rw [List.flatten_cons] at z; exact z))⟩
  refine .su (h.mono (fun a o e n z => ?_) fun a o e z => ?_) (r'.congr fun a z => ?_)
  · apply n
    show a ∈ (f :: fps).flatten ++ O
    have z : a ∈ (f :: fps').flatten ++ O := z
    rw [List.flatten_cons, List.mem_append, List.mem_append] at z
    rw [List.flatten_cons, List.mem_append, List.mem_append]
    rcases z with (z | z) | z
    · exact .inl (.inl z)
    · rcases g.sub a z with q | q
      · exact .inl (.inr q)
      · rw [e] at q; cases q
    · exact .inr z
  · refine g.pres a o e fun q => ?_
    rcases z with z | z
    · apply z
      show a ∈ (f :: fps).flatten ++ O
      rw [List.flatten_cons, List.mem_append, List.mem_append]
      exact .inl (.inr q)
    · rw [List.nodup_append, List.nodup_append] at nd
      exact nd.1.2.2 a z a q rfl
  · have z : a ∈ (f :: fps').flatten ++ O := z
    rw [List.flatten_cons] at z
    exact mem_swap.mp z
/-- the uppermost is dropped -/
theorem Frm.drop (F : Frm cm H O (m :: ms) (f :: fps) (ov :: σ) (d :: δ)) : Frm cm H O ms fps σ δ := by
  obtain ⟨r, nd, al⟩ := F
  rw [List.flatten_cons] at nd al
  have r2 : RpE cm H (inA (f :: fps) O) ms fps σ δ := by cases r <;> assumption
  refine ⟨r2.congr fun a z => ?_, ?_, fun a z => al a ?_⟩
  · show a ∈ (f :: fps).flatten ++ O
    rw [List.flatten_cons, List.append_assoc]
    exact List.mem_append_right _ z
  · rw [List.append_assoc] at nd
    exact (List.nodup_append.mp nd).2.1
  · rw [List.append_assoc]
    exact List.mem_append_right _ z
/-- a scalar, or what is frozen, on top -/
theorem Frm.push (F : Frm cm H O ms fps σ δ) (h : Rp cm H (inA fps O) m [] v d) : Frm cm H O (m :: ms) ([] :: fps) (some v :: σ) (d :: δ) :=
  ⟨.su h F.rp, F.nd, F.al⟩
end
end DL

namespace DL
open PySem L2

abbrev ME := List D → Option (D × List D)
abbrev MT := List D → Option (Bool × List D)
abbrev MA := List D → Option (List D × List D)

section
variable {cm : Gm} {H H1 H2 H' : Hp} {O fp fp1 fp2 f : List Addr} {ms ms' ms1 ms2 : List Mo} {fps fps' : List (List Addr)} {σ σ' : List (Option V)} {δ δ' : List D} {m ma mb mc : Mo} {ov : Option V} {v : V} {d : D} {A : Addr → Prop}

/-! ### slots -/
theorem Rp.fz_nil {fp v d} (h : Rp cm H A .fz fp v d) : fp = [] := by cases h <;> rfl
theorem RpL.fz_nil : ∀ {fp vs ds}, RpL cm H A .fz fp vs ds → fp = []
  | _, _, _, .nil => rfl
  | _, _, _, .cons h r => by rw [h.fz_nil, RpL.fz_nil r]; rfl
theorem RpE.get : ∀ {ms : List Mo} {fps : List (List Addr)} {σ : List (Option V)} {δ : List D} {i : Nat} {m : Mo} {d : D}, RpE cm H A ms fps σ δ → ms[i]? = some m → δ[i]? = some d → (m = .hole ∧ d = .hole) ∨ ∃ v f, σ[i]? = some (some v) ∧ fps[i]? = some f ∧ Rp cm H A m f v d
  | _, _, _, _, 0, _, _, .su h r, e1, e2 => by
    simp at e1 e2; subst e1; subst e2
    exact .inr ⟨_, _, rfl, rfl, h⟩
  | _, _, _, _, 0, _, _, .no r, e1, e2 => by
    simp at e1 e2; subst e1; subst e2
    exact .inl ⟨rfl, rfl⟩
  | _, _, _, _, i + 1, _, _, .su h r, e1, e2 => by
    have q := RpE.get (i := i) r (by simpa using e1) (by simpa using e2)
    simpa using q
  | _, _, _, _, i + 1, _, _, .no r, e1, e2 => by
    have q := RpE.get (i := i) r (by simpa using e1) (by simpa using e2)
    simpa using q
/-- a slot's mode is no hole -/
def Mo.here : Mo → Bool
  | .hole => false
  | _ => true
theorem Frm.get {i : Nat} (F : Frm cm H O ms fps σ δ) (hm : ms[i]? = some m) (hn : m.here = true) (e : δ[i]? = some d) : ∃ v f, σ[i]? = some (some v) ∧ fps[i]? = some f ∧ Rp cm H (inA fps O) m f v d := by
  rcases F.rp.get hm e with ⟨rfl, _⟩ | h
  · cases hn
  · exact h
theorem RpE.set : ∀ {ms : List Mo} {fps : List (List Addr)} {σ : List (Option V)} {δ : List D} {i : Nat} {m : Mo} {f : List Addr} {v : V} {d : D}, RpE cm H A ms fps σ δ → Rp cm H A m f v d → RpE cm H A (ms.set i m) (fps.set i f) (σ.set i (some v)) (δ.set i d)
  | _, _, _, _, _, _, _, _, _, .nil, _ => .nil
  | _, _, _, _, 0, _, _, _, _, .su _ r, q => .su q r
  | _, _, _, _, 0, _, _, _, _, .no r, q => .su q r
  | _, _, _, _, i + 1, _, _, _, _, .su h r, q => .su h (RpE.set r q)
  | _, _, _, _, i + 1, _, _, _, _, .no r, q => .no (RpE.set r q)
/-- a slot is emptied of what is known -/
theorem RpE.void : ∀ {ms : List Mo} {fps : List (List Addr)} {σ : List (Option V)} {δ : List D} {i : Nat}, RpE cm H A ms fps σ δ → RpE cm H A (ms.set i .hole) (fps.set i []) σ (δ.set i .hole)
  | _, _, _, _, _, .nil => .nil
  | _, _, _, _, 0, .su _ r => .su .hole r
  | _, _, _, _, 0, .no r => .no r
  | _, _, _, _, i + 1, .su h r => .su h (RpE.void r)
  | _, _, _, _, i + 1, .no r => .no (RpE.void r)
theorem flat_set : ∀ {fps : List (List Addr)} {i : Nat} {f : List Addr}, fps[i]? = some f → fps.flatten.Perm (f ++ (fps.set i []).flatten)
  | [], _, _, e => by simp at e
  | g :: fps, 0, f, e => by simp at e; subst e; simp
  | g :: fps, i + 1, f, e => by
    have h := flat_set (fps := fps) (i := i) (f := f) (by simpa using e)
    rw [List.set_cons_succ, List.flatten_cons, List.flatten_cons]
    exact (List.Perm.append_left g h).trans (List.perm_append_comm_assoc g f _)
theorem flat_set2 : ∀ {fps : List (List Addr)} {i : Nat} {f : List Addr}, i < fps.length → (fps.set i f).flatten.Perm (f ++ (fps.set i []).flatten) := fun {fps i f} h => by
  have e : (fps.set i f)[i]? = some f := by simp [h]
  have q := flat_set e
  rw [List.set_set] at q
  exact q
theorem Frm.perm_iff {fps fps2 : List (List Addr)} (p : fps.flatten.Perm fps2.flatten) : (∀ a, inA fps O a ↔ inA fps2 O a) ∧ ((fps.flatten ++ O).Nodup ↔ (fps2.flatten ++ O).Nodup) := by
  refine ⟨fun a => ?_, (List.Perm.append_right O p).nodup_iff⟩
  show a ∈ fps.flatten ++ O ↔ a ∈ fps2.flatten ++ O
  rw [List.mem_append, List.mem_append, p.mem_iff]
/-- what a slot owns is taken out of it -/
theorem Frm.take {i : Nat} (F : Frm cm H O ms fps σ δ) (hm : ms[i]? = some m) (hn : m.here = true) (e : δ[i]? = some d) :
    ∃ v f, σ[i]? = some (some v) ∧ fps[i]? = some f ∧ Frm cm H O (m :: ms.set i .hole) (f :: fps.set i []) (some v :: σ) (d :: δ.set i .hole) ∧ (f ++ (fps.set i []).flatten).Perm fps.flatten := by
  obtain ⟨v, f, e1, e2, h⟩ := F.get hm hn e
  have p := flat_set e2
  refine ⟨v, f, e1, e2, ?_, p.symm⟩
  have p2 : fps.flatten.Perm (f :: fps.set i []).flatten := by rw [List.flatten_cons]; exact p
  obtain ⟨q1, q2⟩ := Frm.perm_iff (O := O) p2
  refine ⟨?_, q2.mp F.nd, fun a z => F.al a ((q1 a).mpr z)⟩
  exact (RpE.su h F.rp.void).congr fun a z => (q1 a).mpr z
/-- .. and put into one that has nothing -/
theorem Frm.put {i : Nat} (F : Frm cm H O (m :: ms) (f :: fps) (some v :: σ) (d :: δ)) (hi : i < fps.length) (e : fps[i]? = some []) : Frm cm H O (ms.set i m) (fps.set i f) (σ.set i (some v)) (δ.set i d) := by
  have h := F.head
  have p := flat_set2 (f := f) hi
  have e2 : fps.set i [] = fps := by
    apply List.ext_getElem?
    intro j
    by_cases hj : i = j
    · subst hj; rw [List.getElem?_set_self hi, e]
    · rw [List.getElem?_set_ne hj]
  rw [e2] at p
  have p2 : (f :: fps).flatten.Perm (fps.set i f).flatten := by rw [List.flatten_cons]; exact p.symm
  obtain ⟨q1, q2⟩ := Frm.perm_iff (O := O) p2
  have r : RpE cm H (inA (f :: fps) O) ms fps σ δ := by
    have := F.rp
    cases this; assumption
  exact ⟨(r.set h).congr fun a z => (q1 a).mpr z, q2.mp F.nd, fun a z => F.al a ((q1 a).mpr z)⟩
/-- what a slot holds is given up -/
theorem Frm.void (F : Frm cm H O ms fps σ δ) (i : Nat) : Frm cm H O (ms.set i .hole) (fps.set i []) σ (δ.set i .hole) ∧ (∀ a ∈ (fps.set i []).flatten, a ∈ fps.flatten) := by
  by_cases hi : i < fps.length
  · have p := flat_set (fps := fps) (i := i) (f := fps[i]) (by simp [hi])
    have sub : ∀ a ∈ (fps.set i []).flatten, a ∈ fps.flatten := fun a z => p.mem_iff.mpr (List.mem_append_right _ z)
    refine ⟨⟨F.rp.void.congr fun a z => ?_, ?_, fun a z => F.al a ?_⟩, sub⟩
    · rcases List.mem_append.mp z with z | z
      · exact List.mem_append_left _ (sub a z)
      · exact List.mem_append_right _ z
    · have q := ((List.Perm.append_right O p).nodup_iff).mp F.nd
      rw [List.append_assoc] at q
      exact (List.nodup_append.mp q).2.1
    · rcases List.mem_append.mp z with z | z
      · exact List.mem_append_left _ (sub a z)
      · exact List.mem_append_right _ z
  · have h1 : fps.set i [] = fps := List.set_eq_of_length_le (by omega)
    obtain ⟨l1, l2, l3⟩ := F.rp.len
    have h2 : ms.set i .hole = ms := List.set_eq_of_length_le (by omega)
    have h3 : δ.set i .hole = δ := List.set_eq_of_length_le (by omega)
    rw [h1, h2, h3]
    exact ⟨F, fun _ z => z⟩
/-- what a slot owns is frozen -/
theorem Frm.freeze {i : Nat} (F : Frm cm H O ms fps σ δ) (hm : ms[i]? = some m) (hf : m.full = true) : Frm cm H O (ms.set i .fz) (fps.set i []) σ δ ∧ (∀ a ∈ (fps.set i []).flatten, a ∈ fps.flatten) := by
  have hh : m.here = true := by cases m <;> first | rfl | cases hf
  obtain ⟨l1, l2, l3⟩ := F.rp.len
  have hi : i < ms.length := (List.getElem?_eq_some_iff.mp hm).1
  obtain ⟨v, f, e1, e2, h⟩ := F.get hm hh (d := δ[i]'(by omega)) (by simp [show i < δ.length by omega])
  obtain ⟨G, sub⟩ := F.void i
  have nd := ((List.Perm.append_right O (flat_set e2)).nodup_iff).mp F.nd
  have h' : Rp cm H (inA (fps.set i []) O) .fz [] v (δ[i]'(by omega)) := by
    refine h.thaw (fun a o _ n z => n ?_) hf fun a z q => ?_
    · rcases List.mem_append.mp z with z | z
      · exact List.mem_append_left _ (sub a z)
      · exact List.mem_append_right _ z
    · rw [List.append_assoc] at nd
      exact (List.nodup_append.mp nd).2.2 a z a q rfl
  have r := G.rp.set (i := i) h'
  rw [List.set_set, List.set_set, List.set_set] at r
  have s1 : σ.set i (some v) = σ := by
    apply List.ext_getElem?
    intro j
    by_cases hj : i = j
    · subst hj
      rw [List.getElem?_set_self (by omega), e1]
    · rw [List.getElem?_set_ne hj]
  have s2 : δ.set i (δ[i]'(by omega)) = δ := by simp
  rw [s1, s2] at r
  exact ⟨⟨r, G.nd, G.al⟩, sub⟩

/-! ### what is kept -/
theorem Rp.keep (h : Rp cm H A m f v d) (g : Go H fp H' fp1) {A' : Addr → Prop} (hA : ∀ a, A' a → A a ∨ a ∈ fp1) (hf : ∀ a ∈ fp, A a) (dj : ∀ a ∈ f, a ∉ fp) : Rp cm H' A' m f v d :=
  h.mono (fun a o e n z => (hA a z).elim n fun q => (g.sub a q).elim (fun q => n (hf a q)) fun q => by rw [q] at e; cases e) fun a o e z => g.pres a o e fun q => z.elim (fun n => n (hf a q)) fun z => dj a z q
theorem RpM.keep {mas vs ds} (h : RpM cm H A mas f vs ds) (g : Go H fp H' fp1) {A' : Addr → Prop} (hA : ∀ a, A' a → A a ∨ a ∈ fp1) (hf : ∀ a ∈ fp, A a) (dj : ∀ a ∈ f, a ∉ fp) : RpM cm H' A' mas f vs ds :=
  h.mono (fun a o e n z => (hA a z).elim n fun q => (g.sub a q).elim (fun q => n (hf a q)) fun q => by rw [q] at e; cases e) fun a o e z => g.pres a o e fun q => z.elim (fun n => n (hf a q)) fun z => dj a z q
theorem RpL.keep {vs ds} (h : RpL cm H A m f vs ds) (g : Go H fp H' fp1) {A' : Addr → Prop} (hA : ∀ a, A' a → A a ∨ a ∈ fp1) (hf : ∀ a ∈ fp, A a) (dj : ∀ a ∈ f, a ∉ fp) : RpL cm H' A' m f vs ds :=
  h.mono (fun a o e n z => (hA a z).elim n fun q => (g.sub a q).elim (fun q => n (hf a q)) fun q => by rw [q] at e; cases e) fun a o e z => g.pres a o e fun q => z.elim (fun n => n (hf a q)) fun z => dj a z q
theorem Rp.less (h : Rp cm H A m f v d) {A' : Addr → Prop} (hA : ∀ a, A' a → A a) : Rp cm H A' m f v d := h.mono (fun a _ _ n z => n (hA a z)) fun _ _ e _ => e
theorem RpM.less {mas vs ds} (h : RpM cm H A mas f vs ds) {A' : Addr → Prop} (hA : ∀ a, A' a → A a) : RpM cm H A' mas f vs ds := h.mono (fun a _ _ n z => n (hA a z)) fun _ _ e _ => e
theorem RpL.less {vs ds} (h : RpL cm H A m f vs ds) {A' : Addr → Prop} (hA : ∀ a, A' a → A a) : RpL cm H A' m f vs ds := h.mono (fun a _ _ n z => n (hA a z)) fun _ _ e _ => e
theorem Frm.subO {O O2 : List Addr} (F : Frm cm H O ms fps σ δ) (s : List.Sublist O2 O) : Frm cm H O2 ms fps σ δ :=
  have q : List.Sublist (fps.flatten ++ O2) (fps.flatten ++ O) := List.Sublist.append (List.Sublist.refl _) s
  ⟨F.rp.congr fun _ z => q.subset z, F.nd.sublist q, fun a z => F.al a (q.subset z)⟩
theorem inA.sub {O O2 : List Addr} (s : List.Sublist O2 O) : ∀ a, inA fps O2 a → inA fps O a := fun _ z => (List.Sublist.append (List.Sublist.refl _) s).subset z
theorem Frm.disj (F : Frm cm H O ms fps σ δ) : ∀ a ∈ O, a ∉ fps.flatten := fun a z q => (List.nodup_append.mp F.nd).2.2 a q a z rfl
theorem sl_drop (a b : List Addr) : List.Sublist b (a ++ b) := List.sublist_append_right a b
theorem sl_mid (a b c : List Addr) : List.Sublist (a ++ c) (a ++ (b ++ c)) := List.Sublist.append (List.Sublist.refl a) (sl_drop b c)

/-! ### readings that give what their mirrors give -/
/-- an expression -/
def RE (cm : Gm) (t : TE) (ms ms' : List Mo) (m : Mo) (g : ME) : Prop :=
  ∀ σ H O δ fps, Frm cm H O ms fps σ δ → ∀ d δ', g δ = some (d, δ') → ∀ Q : VK,
    (∀ v f H' fps', Rp cm H' (inA fps' (f ++ O)) m f v d → Frm cm H' (f ++ O) ms' fps' σ δ' → Go H fps.flatten H' (f ++ fps'.flatten) → Q v H') → t σ H Q
/-- a test -/
def RT (cm : Gm) (t : TT) (ms ms' : List Mo) (g : MT) : Prop :=
  ∀ σ H O δ fps, Frm cm H O ms fps σ δ → ∀ b δ', g δ = some (b, δ') → ∀ Q : Bool → Hp → Prop,
    (∀ H' fps', Frm cm H' O ms' fps' σ δ' → Go H fps.flatten H' fps'.flatten → Q b H') → t σ H Q
/-- arguments -/
def RA (cm : Gm) (t : TA) (ms ms' : List Mo) (mas : List Mo) (g : MA) : Prop :=
  ∀ σ H O δ fps, Frm cm H O ms fps σ δ → ∀ ds δ', g δ = some (ds, δ') → ∀ Q : List V → Hp → Prop,
    (∀ vs f H' fps', RpM cm H' (inA fps' (f ++ O)) mas f vs ds → Frm cm H' (f ++ O) ms' fps' σ δ' → Go H fps.flatten H' (f ++ fps'.flatten) → Q vs H') → t σ H Q
/-- the answer of an operation on values -/
def Ret (cm : Gm) (H : Hp) (O : List Addr) (ms : List Mo) (fps : List (List Addr)) (σ : List (Option V)) (δ : List D) (m : Mo) (d : D) (Q : VK) : Prop :=
  ∀ v f H', Rp cm H' (inA fps (f ++ O)) m f v d → Frm cm H' (f ++ O) ms fps σ δ → Go H [] H' f → Q v H'
/-- operations on values: one, two, a list of them -/
def O1 (cm : Gm) (r : V → Hp → VK → Prop) (ma m : Mo) (g : D → Option D) : Prop :=
  ∀ H O ms fps σ δ x fx da, Frm cm H O ms fps σ δ → Rp cm H (inA fps O) ma fx x da → ∀ d, g da = some d → ∀ Q, Ret cm H O ms fps σ δ m d Q → r x H Q
def O2 (cm : Gm) (r : R2) (ma mb m : Mo) (g : D → D → Option D) : Prop :=
  ∀ H O ms fps σ δ x y fx fy da db, Frm cm H O ms fps σ δ → Rp cm H (inA fps O) ma fx x da → Rp cm H (inA fps O) mb fy y db → ∀ d, g da db = some d → ∀ Q, Ret cm H O ms fps σ δ m d Q → r x y H Q
def ON (cm : Gm) (r : List V → Hp → VK → Prop) (mas : List Mo) (m : Mo) (g : List D → Option D) : Prop :=
  ∀ H O ms fps σ δ xs fx das, Frm cm H O ms fps σ δ → RpM cm H (inA fps O) mas fx xs das → ∀ d, g das = some d → ∀ Q, Ret cm H O ms fps σ δ m d Q → r xs H Q

/-- a scalar, or what is in the frame already -/
theorem Ret.here {Q : VK} (F : Frm cm H O ms fps σ δ) (h : Ret cm H O ms fps σ δ m d Q) (r : Rp cm H (inA fps O) m [] v d) : Q v H := h v [] H r F Go.rfl
/-- a new object -/
theorem upd_keep {p : Addr} {o : HO} (hp : H p = none) : ∀ a u, H a = some u → upd H p o a = some u := fun a u e => by rw [upd_ne (ne_of_none e hp)]; exact e
theorem Go.new {p : Addr} {o : HO} (hp : H p = none) : Go H [] (upd H p o) [p] :=
  ⟨fun a u e _ => upd_keep hp a u e, fun a z => .inr (by simp at z; rw [z]; exact hp), fun a z => by
    by_cases e : a = p
    · rw [e, upd_same]; simp
    · rw [upd_ne e]; exact z⟩
theorem Go.newF {p : Addr} {o : HO} (hp : H p = none) : Go H [] (upd H p o) [] := Go.sub' (Go.new hp) (fun a z => nomatch z)
theorem Frm.fresh {p : Addr} {o : HO} (F : Frm cm H O ms fps σ δ) (hp : H p = none) : Frm cm (upd H p o) (p :: O) ms fps σ δ := by
  have np : p ∉ fps.flatten ++ O := fun z => F.al p z hp
  refine ⟨F.rp.mono (fun a u e n z => ?_) fun a u e _ => upd_keep hp a u e, ?_, fun a z => ?_⟩
  · rcases List.mem_append.mp z with z | z
    · exact n (List.mem_append_left _ z)
    · rcases List.mem_cons.mp z with z | z
      · rw [z, hp] at e; cases e
      · exact n (List.mem_append_right _ z)
  · exact (List.perm_middle.nodup_iff).mpr (List.nodup_cons.mpr ⟨np, F.nd⟩)
  · by_cases e : a = p
    · rw [e, upd_same]; simp
    · rw [upd_ne e]
      refine F.al a ?_
      rcases List.mem_append.mp z with z | z
      · exact List.mem_append_left _ z
      · exact List.mem_append_right _ ((List.mem_cons.mp z).resolve_left e)
/-- a new object of frozen things, owned; frozen -/
theorem keepNew {p : Addr} {o : HO} {vs ds} (hp : H p = none) (r : RpL cm H (inA fps O) .fz [] vs ds) : RpL cm (upd H p o) (inA fps (p :: O)) .fz [] vs ds :=
  r.mono (fun a u e n z => by
    rcases List.mem_append.mp z with z | z
    · exact n (List.mem_append_left _ z)
    · rcases List.mem_cons.mp z with z | z
      · rw [z, hp] at e; cases e
      · exact n (List.mem_append_right _ z)) fun a u e _ => upd_keep hp a u e
theorem Ret.newL {Q : VK} {vs ds} {p : Addr} (F : Frm cm H O ms fps σ δ) (h : Ret cm H O ms fps σ δ (.l .fz) (.lst ds) Q) (r : RpL cm H (inA fps O) .fz [] vs ds) (hp : H p = none) : Q (.ref p) (upd H p (.lst vs)) :=
  h _ [p] _ (.lstO upd_same (keepNew hp r)) (F.fresh hp) (Go.new hp)
theorem Frm.pfresh {p : Addr} (F : Frm cm H O ms fps σ δ) (hp : H p = none) : ¬ inA fps O p := fun z => F.al p z hp
theorem Ret.newT {Q : VK} {vs ds} {p : Addr} (F : Frm cm H O ms fps σ δ) (h : Ret cm H O ms fps σ δ .fz (.tup ds) Q) (r : RpL cm H (inA fps O) .fz [] vs ds) (hp : H p = none) : Q (.ref p) (upd H p (.tup vs)) :=
  h _ [] _ (.tup upd_same (F.pfresh hp) ((keepNew hp r).less (inA.sub (List.sublist_cons_self p O)))) ((F.fresh hp).subO (List.sublist_cons_self p O)) (Go.newF hp)
theorem Ret.newLF {Q : VK} {vs ds} {p : Addr} (F : Frm cm H O ms fps σ δ) (h : Ret cm H O ms fps σ δ .fz (.lst ds) Q) (r : RpL cm H (inA fps O) .fz [] vs ds) (hp : H p = none) : Q (.ref p) (upd H p (.lst vs)) :=
  h _ [] _ (.lst upd_same (F.pfresh hp) ((keepNew hp r).less (inA.sub (List.sublist_cons_self p O)))) ((F.fresh hp).subO (List.sublist_cons_self p O)) (Go.newF hp)
end
end DL

namespace DL
open PySem L2

/-! ### mirrors of expressions -/
def mVar (i : Nat) : ME := fun δ => δ[i]?.map fun d => (d, δ)
def mMove (i : Nat) : ME := fun δ => δ[i]?.map fun d => (d, δ.set i .hole)
def mC (d : D) : ME := fun δ => some (d, δ)
def mOp (g : D → D → Option D) (fa fb : ME) : ME := fun δ => (fa δ).bind fun p => (fb p.2).bind fun q => (g p.1 q.1).map fun d => (d, q.2)
def mOpV (g : D → D → Option D) (i : Nat) (fb : ME) : ME := fun δ => (fb δ).bind fun q => (q.2[i]?).bind fun da => (g da q.1).map fun d => (d, q.2)
def mOpW (g : D → D → Option D) (fa : ME) (j : Nat) : ME := fun δ => (fa δ).bind fun p => (p.2[j]?).bind fun db => (g p.1 db).map fun d => (d, p.2)
def mUn (g : D → Option D) (fa : ME) : ME := fun δ => (fa δ).bind fun p => (g p.1).map fun d => (d, p.2)
def mUnV (g : D → Option D) (i : Nat) : ME := fun δ => (δ[i]?).bind fun da => (g da).map fun d => (d, δ)
def mCB (g : List D → Option D) (fa : MA) : ME := fun δ => (fa δ).bind fun p => (g p.1).map fun d => (d, p.2)
def mNil : MA := fun δ => some ([], δ)
def mCons (fa : ME) (fr : MA) : MA := fun δ => (fa δ).bind fun p => (fr p.2).map fun q => (p.1 :: q.1, q.2)
def boolD : D → Option Bool
  | .bl b => some b
  | _ => none
def mTest (fa : ME) : MT := fun δ => (fa δ).bind fun p => (boolD p.1).map fun b => (b, p.2)
def mAnd (fa fb : MT) : MT := fun δ => (fa δ).bind fun p => if p.1 = true then fb p.2 else some (false, p.2)
def mOr (fa fb : MT) : MT := fun δ => (fa δ).bind fun p => if p.1 = true then some (true, p.2) else fb p.2
def mNot (fa : MT) : MT := fun δ => (fa δ).map fun p => (!p.1, p.2)
def mAndV (fa fb : ME) : ME := fun δ => (fa δ).bind fun p => (boolD p.1).bind fun b => if b = true then fb p.2 else some (.bl false, p.2)
def mOrV (fa fb : ME) : ME := fun δ => (fa δ).bind fun p => (boolD p.1).bind fun b => if b = true then some (.bl true, p.2) else fb p.2
def mNotV (fa : ME) : ME := fun δ => (fa δ).bind fun p => (boolD p.1).map fun b => (.bl (!b), p.2)
def mIf (fc : MT) (fa fb : ME) : ME := fun δ => (fc δ).bind fun p => if p.1 = true then fa p.2 else fb p.2
def mChain (g g' : D → D → Option D) (fa fb fc : ME) : ME := fun δ => (fa δ).bind fun p => (fb p.2).bind fun q => (g p.1 q.1).bind fun k => (boolD k).bind fun b =>
  if b = true then (fc q.2).bind fun r => (g' q.1 r.1).map fun d => (d, r.2) else some (.bl false, q.2)

section
variable {cm : Gm} {H H1 H2 H' : Hp} {O fp fp1 fp2 f : List Addr} {ms ms' ms1 ms2 ms3 : List Mo} {fps fps' : List (List Addr)} {σ σ' : List (Option V)} {δ δ' : List D} {m ma mb mc : Mo} {v : V} {d : D} {A : Addr → Prop}
variable {ta tb tc te : TE} {tt tu : TT} {fa fb fc g : ME} {ga gb : MT} {i j : Nat}

theorem inA_app {f : List Addr} {a : Addr} : inA fps (f ++ O) a ↔ a ∈ fps.flatten ∨ a ∈ f ∨ a ∈ O := by
  show a ∈ fps.flatten ++ (f ++ O) ↔ _
  rw [List.mem_append, List.mem_append]
theorem inA_iff {a : Addr} : inA fps O a ↔ a ∈ fps.flatten ∨ a ∈ O := by
  show a ∈ fps.flatten ++ O ↔ _
  rw [List.mem_append]

theorem RE.var (hm : ms[i]? = some .fz) : RE cm (tVar i) ms ms .fz (mVar i) := by
  intro σ H O δ fps F d δ' e Q q
  cases hd : δ[i]? with
  | none => rw [mVar, hd] at e; cases e
  | some d0 =>
    rw [mVar, hd] at e
    cases e
    obtain ⟨v, f, e1, e2, h⟩ := F.get hm rfl hd
    have hf := h.fz_nil
    subst hf
    exact ⟨v, e1, q v [] H fps h F Go.rfl⟩
theorem RE.move (hm : ms[i]? = some m) (hn : m.here = true) : RE cm (tVar i) ms (ms.set i .hole) m (mMove i) := by
  intro σ H O δ fps F d δ' e Q q
  cases hd : δ[i]? with
  | none => rw [mMove, hd] at e; cases e
  | some d0 =>
    rw [mMove, hd] at e
    cases e
    obtain ⟨v, f, e1, e2, G, p⟩ := F.take hm hn hd
    refine ⟨v, e1, q v f H (fps.set i []) (G.head.less fun a z => ?_) G.aside ((Go.rfl (H := H) (fp := fps.flatten)).sub' fun a z => p.mem_iff.mp z)⟩
    rw [inA_app] at z
    rw [inA_iff, List.flatten_cons, List.mem_append]
    rcases z with z | z | z
    · exact .inl (.inr z)
    · exact .inl (.inl z)
    · exact .inr z
theorem RE.frz (i : Nat) (hm : ms[i]? = some m) (hf : m.full = true) (h : RE cm te (ms.set i .fz) ms' mc g) : RE cm te ms ms' mc g := by
  intro σ H O δ fps F d δ' e Q q
  obtain ⟨G, sub⟩ := F.freeze hm hf
  exact h σ H O δ _ G d δ' e Q fun v f H' fps' r F' g' => q v f H' fps' r F' (g'.mono sub fun a z => .inl z)
theorem RT.frz (i : Nat) (hm : ms[i]? = some m) (hf : m.full = true) (h : RT cm tt (ms.set i .fz) ms' ga) : RT cm tt ms ms' ga := by
  intro σ H O δ fps F d δ' e Q q
  obtain ⟨G, sub⟩ := F.freeze hm hf
  exact h σ H O δ _ G d δ' e Q fun H' fps' F' g' => q H' fps' F' (g'.mono sub fun a z => .inl z)
theorem RE.fzv (h : RE cm te ms ms' m g) (hf : m.full = true) : RE cm te ms ms' .fz g := by
  intro σ H O δ fps F d δ' e Q q
  refine h σ H O δ fps F d δ' e Q fun v f H' fps' r F' g' => ?_
  refine q v [] H' fps' (r.thaw (fun a o _ n z => n ?_) hf fun a z y => ?_) (F'.subO (sl_drop f O)) (g'.sub' fun a z => List.mem_append_right _ z)
  · rw [inA_app]
    rcases inA_iff.mp z with z | z
    · exact .inl z
    · exact .inr (.inr z)
  · have nd := F'.nd
    rw [List.nodup_append] at nd
    rcases inA_iff.mp y with y | y
    · exact nd.2.2 a y a (List.mem_append_left _ z) rfl
    · exact (List.nodup_append.mp nd.2.1).2.2 a z a y rfl
theorem RE.const {v : V} {d : D} (h : ∀ H A, Rp cm H A .fz [] v d) : RE cm (tC v) ms ms .fz (mC d) := by
  intro σ H O δ fps F d δ' e Q q
  cases e
  exact q v [] H fps (h _ _) F Go.rfl
theorem RE.int {n : Int} : RE cm (tC (.int n)) ms ms .fz (mC (.int n)) := RE.const fun _ _ => .int
theorem RE.bl {n : Bool} : RE cm (tC (.bl n)) ms ms .fz (mC (.bl n)) := RE.const fun _ _ => .bl
theorem RE.non : RE cm (tC .non) ms ms .fz (mC .non) := RE.const fun _ _ => .non
theorem RE.str {n : Str} : RE cm (tC (.str n)) ms ms .fz (mC (.str n)) := RE.const fun _ _ => .str
theorem RE.ty {n : String} : RE cm (tC (.ty n)) ms ms .fz (mC (.ty n)) := RE.const fun _ _ => .ty
theorem RE.cls {n : Str} : RE cm (tC (.ref (cm n))) ms ms .fz (mC (.cls n)) := RE.const fun _ _ => .cls
theorem RE.ref {n : Addr} : RE cm (tC (.ref n)) ms ms .fz (mC (.ref n)) := RE.const fun _ _ => .ref

/-- behind another step what lay above is as it was -/
theorem up {f' : List Addr} (F1 : Frm cm H1 (f ++ O) ms1 fps σ δ) (r : Rp cm H1 (inA fps (f ++ O)) ma f v d) (F2 : Frm cm H2 (f' ++ (f ++ O)) ms2 fps' σ δ') (g : Go H1 fps.flatten H2 (f' ++ fps'.flatten)) :
    Rp cm H2 (inA fps' (f' ++ (f ++ O))) ma f v d := by
  refine r.keep g (fun a z => ?_) (fun a z => List.mem_append_left _ z) fun a z y => F1.disj a (List.mem_append_left _ z) y
  rw [inA_app] at z
  rw [List.mem_append, inA_app]
  rcases z with z | z | z
  · exact .inr (.inr z)
  · exact .inr (.inl z)
  · exact .inl (.inr (List.mem_append.mp z))
theorem upT (F1 : Frm cm H1 (f ++ O) ms1 fps σ δ) (r : Rp cm H1 (inA fps (f ++ O)) ma f v d) (g : Go H1 fps.flatten H2 fps'.flatten) : Rp cm H2 (inA fps' (f ++ O)) ma f v d := by
  refine r.keep g (fun a z => ?_) (fun a z => List.mem_append_left _ z) fun a z y => F1.disj a (List.mem_append_left _ z) y
  rw [inA_app] at z
  rw [inA_app]
  rcases z with z | z | z
  · exact .inr z
  · exact .inl (.inr (.inl z))
  · exact .inl (.inr (.inr z))

theorem RE.op2 {r : R2} {o : D → D → Option D} (ho : O2 cm r ma mb m o) (ha : RE cm ta ms ms1 ma fa) (hb : RE cm tb ms1 ms2 mb fb) : RE cm (tOp r ta tb) ms ms2 m (mOp o fa fb) := by
  intro σ H O δ fps F d δ' e Q q
  obtain ⟨⟨da, δ1⟩, e1, e⟩ := Option.bind_eq_some_iff.mp e
  obtain ⟨⟨db, δ2⟩, e2, e⟩ := Option.bind_eq_some_iff.mp e
  obtain ⟨d2, e3, e⟩ := Option.map_eq_some_iff.mp e
  cases e
  refine ha σ H O δ fps F da δ1 e1 _ fun x fx H1 fps1 rx F1 g1 => ?_
  refine hb σ H1 _ δ1 fps1 F1 db _ e2 _ fun y fy H2 fps2 ry F2 g2 => ?_
  refine ho H2 _ ms2 fps2 σ _ x y fx fy da db F2 (up F1 rx F2 g2) ry d e3 Q fun v f H' r F' g' => ?_
  refine q v f H' fps2 (r.less (inA.sub (List.Sublist.append (List.Sublist.refl f) ((sl_drop fx O).trans (sl_drop fy _))))) (F'.subO (List.Sublist.append (List.Sublist.refl f) ((sl_drop fx O).trans (sl_drop fy _)))) ?_
  have gg : Go H fps.flatten H2 fps2.flatten := g1.trans ((g2.mono (fun a z => List.mem_append_right _ z) fun a z => .inl (List.mem_append_right _ z)) : Go H1 (fx ++ fps1.flatten) H2 fps2.flatten)
  exact gg.trans (g'.mono (fun a z => nomatch z) fun a z => (List.mem_append.mp z).imp id id)
theorem RE.op2v {r : R2} {o : D → D → Option D} (i : Nat) (ho : O2 cm r ma mb m o) (hb : RE cm tb ms ms1 mb fb) (hm : ms1[i]? = some ma) (hn : ma.here = true) (hi : i < ms.length := by decide) (hh : ∀ m, ms[i]? = some m → m.here = true := by intro m h; cases h; rfl) : RE cm (tOp r (tVar i) tb) ms ms1 m (mOpV o i fb) := by
  intro σ H O δ fps F d δ' e Q q
  obtain ⟨⟨db, δ1⟩, e1, e⟩ := Option.bind_eq_some_iff.mp e
  obtain ⟨da, e2, e⟩ := Option.bind_eq_some_iff.mp e
  obtain ⟨d2, e3, e⟩ := Option.map_eq_some_iff.mp e
  cases e
  obtain ⟨l1, l2, l3⟩ := F.rp.len
  obtain ⟨v0, f0, s0, _, _⟩ := F.get (i := i) (m := ms[i]'hi) (by simp) (hh _ (by simp)) (d := δ[i]'(by omega)) (by simp)
  refine ⟨v0, s0, ?_⟩
  refine hb σ H O δ fps F db δ1 e1 _ fun y fy H1 fps1 ry F1 g1 => ?_
  obtain ⟨v1, f1, s1, _, r1⟩ := F1.get hm hn e2
  rw [s0] at s1; cases s1
  refine ho H1 _ ms1 fps1 σ δ1 v0 y f1 fy da db F1 r1 ry d e3 Q fun v f H' r F' g' => ?_
  refine q v f H' fps1 (r.less (inA.sub (sl_mid f fy O))) (F'.subO (sl_mid f fy O)) ?_
  exact (g1.sub' (f := fps1.flatten) fun a z => List.mem_append_right _ z).trans (g'.mono (fun a z => nomatch z) fun a z => (List.mem_append.mp z).imp id id)
theorem RE.op2w {r : R2} {o : D → D → Option D} (j : Nat) (ho : O2 cm r ma mb m o) (ha : RE cm ta ms ms1 ma fa) (hm : ms1[j]? = some mb) (hn : mb.here = true) : RE cm (tOp r ta (tVar j)) ms ms1 m (mOpW o fa j) := by
  intro σ H O δ fps F d δ' e Q q
  obtain ⟨⟨da, δ1⟩, e1, e⟩ := Option.bind_eq_some_iff.mp e
  obtain ⟨db, e2, e⟩ := Option.bind_eq_some_iff.mp e
  obtain ⟨d2, e3, e⟩ := Option.map_eq_some_iff.mp e
  cases e
  refine ha σ H O δ fps F da δ1 e1 _ fun x fx H1 fps1 rx F1 g1 => ?_
  obtain ⟨v1, f1, s1, _, r1⟩ := F1.get hm hn e2
  refine ⟨v1, s1, ?_⟩
  refine ho H1 _ ms1 fps1 σ δ1 x v1 fx f1 da db F1 rx r1 d e3 Q fun v f H' r F' g' => ?_
  refine q v f H' fps1 (r.less (inA.sub (sl_mid f fx O))) (F'.subO (sl_mid f fx O)) ?_
  exact (g1.sub' (f := fps1.flatten) fun a z => List.mem_append_right _ z).trans (g'.mono (fun a z => nomatch z) fun a z => (List.mem_append.mp z).imp id id)
/-- one operand: what the reading is made of -/
theorem RE.then1 {r : V → Hp → VK → Prop} {o : D → Option D} (ho : O1 cm r ma m o) (ha : RE cm ta ms ms1 ma fa) : RE cm (fun σ H Q => ta σ H fun x H1 => r x H1 Q) ms ms1 m (mUn o fa) := by
  intro σ H O δ fps F d δ' e Q q
  obtain ⟨⟨da, δ1⟩, e1, e⟩ := Option.bind_eq_some_iff.mp e
  obtain ⟨d2, e3, e⟩ := Option.map_eq_some_iff.mp e
  cases e
  refine ha σ H O δ fps F da δ1 e1 _ fun x fx H1 fps1 rx F1 g1 => ?_
  refine ho H1 _ ms1 fps1 σ δ1 x fx da F1 rx d e3 Q fun v f H' r F' g' => ?_
  refine q v f H' fps1 (r.less (inA.sub (sl_mid f fx O))) (F'.subO (sl_mid f fx O)) ?_
  exact (g1.sub' (f := fps1.flatten) fun a z => List.mem_append_right _ z).trans (g'.mono (fun a z => nomatch z) fun a z => (List.mem_append.mp z).imp id id)
theorem RE.un {r : V → Hp → VK → Prop} {o : D → Option D} (ho : O1 cm r ma m o) (ha : RE cm ta ms ms1 ma fa) : RE cm (tUn r ta) ms ms1 m (mUn o fa) := RE.then1 (r := r) ho ha
theorem RE.then1v {r : V → Hp → VK → Prop} {o : D → Option D} (i : Nat) (ho : O1 cm r ma m o) (hm : ms[i]? = some ma) (hn : ma.here = true) : RE cm (fun σ H Q => tVar i σ H fun x H1 => r x H1 Q) ms ms m (mUnV o i) := by
  intro σ H O δ fps F d δ' e Q q
  obtain ⟨da, e1, e⟩ := Option.bind_eq_some_iff.mp e
  obtain ⟨d2, e3, e⟩ := Option.map_eq_some_iff.mp e
  cases e
  obtain ⟨v1, f1, s1, _, r1⟩ := F.get hm hn e1
  exact ⟨v1, s1, ho H _ ms fps σ _ v1 f1 da F r1 d e3 Q fun v f H' r F' g' => q v f H' fps r F' (g'.mono (fun a z => nomatch z) fun a z => (List.mem_append.mp z).imp id id)⟩
/-- arguments -/
theorem RA.nil : RA cm tNil ms ms [] mNil := by
  intro σ H O δ fps F ds δ' e Q q
  cases e
  exact q [] [] H fps .nil F Go.rfl
theorem RA.cons {t : TA} {fr : MA} {mas : List Mo} (ha : RE cm ta ms ms1 ma fa) (hr : RA cm t ms1 ms2 mas fr) : RA cm (tCons ta t) ms ms2 (ma :: mas) (mCons fa fr) := by
  intro σ H O δ fps F ds δ' e Q q
  obtain ⟨⟨da, δ1⟩, e1, e⟩ := Option.bind_eq_some_iff.mp e
  obtain ⟨⟨dr, δ2⟩, e2, e⟩ := Option.map_eq_some_iff.mp e
  cases e
  refine ha σ H O δ fps F da δ1 e1 _ fun x fx H1 fps1 rx F1 g1 => ?_
  refine hr σ H1 _ δ1 fps1 F1 dr _ e2 _ fun ys fy H2 fps2 ry F2 g2 => ?_
  have rx2 := up F1 rx F2 g2
  have per : (fy ++ (fx ++ O)).Perm ((fx ++ fy) ++ O) := by rw [List.append_assoc]; exact List.perm_append_comm_assoc fy fx O
  have pm : ∀ a, inA fps2 ((fx ++ fy) ++ O) a ↔ inA fps2 (fy ++ (fx ++ O)) a := fun a => by
    rw [inA_iff, inA_iff, per.mem_iff]
  have F3 : Frm cm H2 ((fx ++ fy) ++ O) ms2 fps2 σ _ := ⟨F2.rp.congr fun a z => (pm a).mp z, (List.Perm.nodup_iff (List.Perm.append_left _ per)).mp F2.nd, fun a z => F2.al a ((pm a).mp z)⟩
  refine q _ (fx ++ fy) H2 fps2 (.cons (rx2.less fun a z => (pm a).mp z) (ry.less fun a z => (pm a).mp z)) F3 ?_
  have gg : Go H fps.flatten H2 (fx ++ (fy ++ fps2.flatten)) := g1.trans (g2.add (f := fx))
  rw [List.append_assoc]
  exact gg
theorem RE.cb {t : TA} {r : List V → Hp → VK → Prop} {mas : List Mo} {o : List D → Option D} {fr : MA} (ho : ON cm r mas m o) (ha : RA cm t ms ms1 mas fr) : RE cm (tCB r t) ms ms1 m (mCB o fr) := by
  intro σ H O δ fps F d δ' e Q q
  obtain ⟨⟨da, δ1⟩, e1, e⟩ := Option.bind_eq_some_iff.mp e
  obtain ⟨d2, e3, e⟩ := Option.map_eq_some_iff.mp e
  cases e
  refine ha σ H O δ fps F da δ1 e1 _ fun x fx H1 fps1 rx F1 g1 => ?_
  refine ho H1 _ ms1 fps1 σ δ1 x fx da F1 rx d e3 Q fun v f H' r F' g' => ?_
  refine q v f H' fps1 (r.less (inA.sub (sl_mid f fx O))) (F'.subO (sl_mid f fx O)) ?_
  exact (g1.sub' (f := fps1.flatten) fun a z => List.mem_append_right _ z).trans (g'.mono (fun a z => nomatch z) fun a z => (List.mem_append.mp z).imp id id)
def mCBv (o : List D → Option D) (i : Nat) : ME := fun δ => (δ[i]?).bind fun da => (o [da]).map fun d => (d, δ)
theorem RE.cbv {r : List V → Hp → VK → Prop} {o : List D → Option D} (i : Nat) (ho : ON cm r [ma] m o) (hm : ms[i]? = some ma) (hn : ma.here = true) : RE cm (tCB r (tCons (tVar i) tNil)) ms ms m (mCBv o i) := by
  intro σ H O δ fps F d δ' e Q q
  obtain ⟨da, e1, e⟩ := Option.bind_eq_some_iff.mp e
  obtain ⟨d2, e3, e⟩ := Option.map_eq_some_iff.mp e
  cases e
  obtain ⟨v1, f1, s1, _, r1⟩ := F.get hm hn e1
  have r2 := RpM.cons r1 .nil
  rw [List.append_nil] at r2
  exact ⟨v1, s1, ho H _ ms fps σ _ [v1] f1 [da] F r2 d e3 Q fun v f H' r F' g' => q v f H' fps r F' (g'.mono (fun a z => nomatch z) fun a z => (List.mem_append.mp z).imp id id)⟩

/-! ### tests -/
theorem RT.test (ha : RE cm ta ms ms1 .fz fa) : RT cm (tTest ta) ms ms1 (mTest fa) := by
  intro σ H O δ fps F b δ' e Q q
  obtain ⟨⟨da, δ1⟩, e1, e⟩ := Option.bind_eq_some_iff.mp e
  obtain ⟨k, e3, e⟩ := Option.map_eq_some_iff.mp e
  cases e
  refine ha σ H O δ fps F da δ1 e1 _ fun x fx H1 fps1 rx F1 g1 => ?_
  cases da with
  | bl c =>
    cases e3
    cases rx
    exact ⟨_, rfl, q H1 fps1 F1 g1⟩
  | _ => cases e3
theorem RT.val (ha : RE cm ta ms ms1 .fz fa) : RT cm (tB ta) ms ms1 (mTest fa) := RT.test ha
theorem RT.and (ha : RT cm tt ms ms1 ga) (hb : RT cm tu ms1 ms1 gb) : RT cm (tAnd tt tu) ms ms1 (mAnd ga gb) := by
  intro σ H O δ fps F b δ' e Q q
  obtain ⟨⟨k, δ1⟩, e1, e⟩ := Option.bind_eq_some_iff.mp e
  refine ha σ H O δ fps F k δ1 e1 _ fun H1 fps1 F1 g1 => ?_
  cases k with
  | true => exact hb σ H1 O δ1 fps1 F1 b δ' e Q fun H2 fps2 F2 g2 => q H2 fps2 F2 (g1.trans g2)
  | false =>
    cases e
    exact q H1 fps1 F1 g1
theorem RT.or (ha : RT cm tt ms ms1 ga) (hb : RT cm tu ms1 ms1 gb) : RT cm (tOr tt tu) ms ms1 (mOr ga gb) := by
  intro σ H O δ fps F b δ' e Q q
  obtain ⟨⟨k, δ1⟩, e1, e⟩ := Option.bind_eq_some_iff.mp e
  refine ha σ H O δ fps F k δ1 e1 _ fun H1 fps1 F1 g1 => ?_
  cases k with
  | false => exact hb σ H1 O δ1 fps1 F1 b δ' e Q fun H2 fps2 F2 g2 => q H2 fps2 F2 (g1.trans g2)
  | true =>
    cases e
    exact q H1 fps1 F1 g1
theorem RT.not (ha : RT cm tt ms ms1 ga) : RT cm (tNot tt) ms ms1 (mNot ga) := by
  intro σ H O δ fps F b δ' e Q q
  obtain ⟨⟨k, δ1⟩, e1, e⟩ := Option.map_eq_some_iff.mp e
  cases e
  exact ha σ H O δ fps F k δ1 e1 _ fun H1 fps1 F1 g1 => q H1 fps1 F1 g1
theorem RE.ifx (hc : RT cm tt ms ms1 ga) (ha : RE cm ta ms1 ms2 m fa) (hb : RE cm tb ms1 ms2 m fb) : RE cm (tIf tt ta tb) ms ms2 m (mIf ga fa fb) := by
  intro σ H O δ fps F d δ' e Q q
  obtain ⟨⟨k, δ1⟩, e1, e⟩ := Option.bind_eq_some_iff.mp e
  refine hc σ H O δ fps F k δ1 e1 _ fun H1 fps1 F1 g1 => ?_
  cases k with
  | true => exact ha σ H1 O δ1 fps1 F1 d δ' e Q fun v f H2 fps2 r F2 g2 => q v f H2 fps2 r F2 (g1.trans g2)
  | false => exact hb σ H1 O δ1 fps1 F1 d δ' e Q fun v f H2 fps2 r F2 g2 => q v f H2 fps2 r F2 (g1.trans g2)
theorem RE.andV (ha : RE cm ta ms ms1 .fz fa) (hb : RE cm tb ms1 ms1 .fz fb) : RE cm (tAndV ta tb) ms ms1 .fz (mAndV fa fb) := by
  intro σ H O δ fps F d δ' e Q q
  obtain ⟨⟨da, δ1⟩, e1, e⟩ := Option.bind_eq_some_iff.mp e
  obtain ⟨k, e3, e⟩ := Option.bind_eq_some_iff.mp e
  refine ha σ H O δ fps F da δ1 e1 _ fun x fx H1 fps1 rx F1 g1 => ?_
  cases da with
  | bl c =>
    cases e3
    have hx := rx.fz_nil
    subst hx
    cases rx
    refine ⟨_, rfl, ?_⟩
    cases k with
    | true => exact hb σ H1 O δ1 fps1 F1 d δ' e Q fun v f H2 fps2 r F2 g2 => q v f H2 fps2 r F2 (g1.trans g2)
    | false =>
      cases e
      exact q _ [] H1 fps1 .bl F1 g1
  | _ => cases e3
theorem RE.orV (ha : RE cm ta ms ms1 .fz fa) (hb : RE cm tb ms1 ms1 .fz fb) : RE cm (tOrV ta tb) ms ms1 .fz (mOrV fa fb) := by
  intro σ H O δ fps F d δ' e Q q
  obtain ⟨⟨da, δ1⟩, e1, e⟩ := Option.bind_eq_some_iff.mp e
  obtain ⟨k, e3, e⟩ := Option.bind_eq_some_iff.mp e
  refine ha σ H O δ fps F da δ1 e1 _ fun x fx H1 fps1 rx F1 g1 => ?_
  cases da with
  | bl c =>
    cases e3
    have hx := rx.fz_nil
    subst hx
    cases rx
    refine ⟨_, rfl, ?_⟩
    cases k with
    | false => exact hb σ H1 O δ1 fps1 F1 d δ' e Q fun v f H2 fps2 r F2 g2 => q v f H2 fps2 r F2 (g1.trans g2)
    | true =>
      cases e
      exact q _ [] H1 fps1 .bl F1 g1
  | _ => cases e3
theorem RE.notV (ha : RE cm ta ms ms1 .fz fa) : RE cm (tNotV ta) ms ms1 .fz (mNotV fa) := by
  intro σ H O δ fps F d δ' e Q q
  obtain ⟨⟨da, δ1⟩, e1, e⟩ := Option.bind_eq_some_iff.mp e
  obtain ⟨k, e3, e⟩ := Option.map_eq_some_iff.mp e
  refine ha σ H O δ fps F da δ1 e1 _ fun x fx H1 fps1 rx F1 g1 => ?_
  cases da with
  | bl c =>
    cases e3
    cases e
    have hx := rx.fz_nil
    subst hx
    cases rx
    exact ⟨_, rfl, q _ [] H1 fps1 .bl F1 g1⟩
  | _ => cases e3
theorem RE.chain {r r' : R2} {o o' : D → D → Option D} (ho : O2 cm r .fz .fz .fz o) (ho' : O2 cm r' .fz .fz .fz o') (ha : RE cm ta ms ms .fz fa) (hb : RE cm tb ms ms .fz fb) (hc : RE cm tc ms ms .fz fc) :
    RE cm (tChain r r' ta tb tc) ms ms .fz (mChain o o' fa fb fc) := by
  intro σ H O δ fps F d δ' e Q q
  obtain ⟨⟨da, δ1⟩, e1, e⟩ := Option.bind_eq_some_iff.mp e
  obtain ⟨⟨db, δ2⟩, e2, e⟩ := Option.bind_eq_some_iff.mp e
  obtain ⟨dk, e3, e⟩ := Option.bind_eq_some_iff.mp e
  obtain ⟨k, e4, e⟩ := Option.bind_eq_some_iff.mp e
  refine ha σ H O δ fps F da δ1 e1 _ fun x fx H1 fps1 rx F1 g1 => ?_
  have hfx := rx.fz_nil; subst hfx
  refine hb σ H1 _ δ1 fps1 F1 db _ e2 _ fun y fy H2 fps2 ry F2 g2 => ?_
  have hfy := ry.fz_nil; subst hfy
  have rx2 := up (f' := []) F1 rx F2 g2
  refine ho H2 _ ms fps2 σ _ x y [] [] da db F2 rx2 ry dk e3 _ fun z fz H3 rz F3 g3 => ?_
  have hfz := rz.fz_nil; subst hfz
  have g13 : Go H fps.flatten H3 fps2.flatten := (g1.trans g2).trans (g3.mono (fun a z => nomatch z) fun a z => .inr z)
  cases dk with
  | bl c =>
    cases e4
    cases rz
    refine ⟨_, rfl, ?_⟩
    cases k with
    | false =>
      cases e
      exact q _ [] H3 fps2 .bl F3 g13
    | true =>
      have e : ((fc δ2).bind fun r => (o' db r.1).map fun d => (d, r.2)) = some (d, δ') := e
      obtain ⟨⟨dc, δ3⟩, e5, e⟩ := Option.bind_eq_some_iff.mp e
      obtain ⟨dd, e6, e⟩ := Option.map_eq_some_iff.mp e
      cases e
      have ry3 : Rp cm H3 (inA fps2 O) .fz [] y db := ry.keep g3 (fun a z => .inl z) (fun a z => nomatch z) fun a z => nomatch z
      refine hc σ H3 O δ2 fps2 F3 dc _ e5 _ fun u fu H4 fps4 ru F4 g4 => ?_
      have hfu := ru.fz_nil; subst hfu
      have ry4 := up (f' := []) (f := []) F3 ry3 F4 g4
      refine ho' H4 _ ms fps4 σ _ y u [] [] db dc F4 ry4 ru d e6 Q fun v f H' r F' g' => ?_
      exact q v f H' fps4 r F' ((g13.trans g4).trans (g'.mono (fun a z => nomatch z) fun a z => (List.mem_append.mp z).imp id id))
  | _ => cases e4
end
end DL

namespace DL
open PySem L2

/-- how a statement ends -/
inductive Out where
  | nx (δ : List D) | rt (d : D) (ios : List D) | bk (δ : List D) | ct (δ : List D)
abbrev MS := List D → Option Out
structure Cfg where
  iom : List Mo
  rm : Mo
  msL : List Mo
/-- what is wanted behind it -/
def Post (cm : Gm) (c : Cfg) (ms' : List Mo) (O : List Addr) (σ : List (Option V)) (H : Hp) (fp : List Addr) (De : Ends) : Out → Prop
  | .nx δ' => ∀ σ' H' fps', Frm cm H' O ms' fps' σ' δ' → Go H fp H' fps'.flatten → σ'.take c.iom.length = σ.take c.iom.length → De.nx σ' H'
  | .bk δ' => ∀ σ' H' fps', Frm cm H' O c.msL fps' σ' δ' → Go H fp H' fps'.flatten → σ'.take c.iom.length = σ.take c.iom.length → De.bk σ' H'
  | .ct δ' => ∀ σ' H' fps', Frm cm H' O c.msL fps' σ' δ' → Go H fp H' fps'.flatten → σ'.take c.iom.length = σ.take c.iom.length → De.ct σ' H'
  | .rt d ios => ∀ v fv fi H' vs', σ.take c.iom.length = vs'.map some → Frm cm H' (fv ++ (fi ++ O)) [] [] [] [] → Rp cm H' (inA [] (fv ++ (fi ++ O))) c.rm fv v d → RpM cm H' (inA [] (fv ++ (fi ++ O))) c.iom fi vs' ios → Go H fp H' (fv ++ fi) → De.rt v H'
def RS (cm : Gm) (c : Cfg) (t : TS) (ms ms' : List Mo) (g : MS) : Prop :=
  ∀ σ H O δ fps, Frm cm H O ms fps σ δ → ∀ out, g δ = some out → ∀ De : Ends, Post cm c ms' O σ H fps.flatten De out → t De σ H

/-! ### mirrors of statements -/
def mNx : MS := fun δ => some (.nx δ)
def mSeq (f g : MS) : MS := fun δ => (f δ).bind fun o => match o with
  | .nx δ' => g δ'
  | o => some o
def mRet (k : Nat) (f : ME) : MS := fun δ => (f δ).map fun p => .rt p.1 (p.2.take k)
def mRetN (k : Nat) : MS := fun δ => some (.rt .non (δ.take k))
def mSet (i : Nat) (f : ME) : MS := fun δ => (f δ).map fun p => .nx (p.2.set i p.1)
def mDrop (f : ME) : MS := fun δ => (f δ).map fun p => .nx p.2
def mIfS (c : MT) (f g : MS) : MS := fun δ => (c δ).bind fun p => if p.1 = true then f p.2 else g p.2
def voidL : List Nat → List D → List D
  | [], δ => δ
  | i :: is, δ => (voidL is δ).set i .hole
def voidM : List Nat → List Mo → List Mo
  | [], δ => δ
  | i :: is, δ => (voidM is δ).set i .hole
def mVoid (is : List Nat) : MS := fun δ => some (.nx (voidL is δ))
def mBrk (is : List Nat) : MS := fun δ => some (.bk (voidL is δ))
def mCnt (is : List Nat) : MS := fun δ => some (.ct (voidL is δ))
def whileN : Nat → MT → MS → MS
  | 0, _, _, _ => none
  | n + 1, gc, gb, δ => (gc δ).bind fun p => if p.1 = true then (gb p.2).bind fun o => match o with
      | .nx δ' => whileN n gc gb δ'
      | .ct δ' => whileN n gc gb δ'
      | .bk δ' => some (.nx δ')
      | .rt d i => some (.rt d i)
    else some (.nx p.2)
abbrev MG := D → List D → Option (List D)
def forL (gm : MG) (gb : MS) : List D → MS
  | [], δ => some (.nx δ)
  | d :: r, δ => (gm d δ).bind fun δ1 => (gb δ1).bind fun o => match o with
      | .nx δ' => forL gm gb r δ'
      | .ct δ' => forL gm gb r δ'
      | .bk δ' => some (.nx δ')
      | .rt d i => some (.rt d i)
def mFor (gi : MA) (gm : MG) (gb : MS) : MS := fun δ => (gi δ).bind fun p => forL gm gb p.1 p.2
def lcL (vs : List Nat) (gm : MG) (gt : MT) (ge : ME) : List D → List D → Option (List D × List D)
  | [], δ => some ([], δ)
  | d :: r, δ => (gm d δ).bind fun δ1 => (gt δ1).bind fun p => if p.1 = true then
      (ge p.2).bind fun q => (lcL vs gm gt ge r (voidL vs q.2)).map fun s => (q.1 :: s.1, s.2)
    else lcL vs gm gt ge r (voidL vs p.2)
def mLc (vs : List Nat) (gi : MA) (gm : MG) (gt : MT) (ge : ME) : ME := fun δ => (gi δ).bind fun p => (lcL vs gm gt ge p.1 p.2).map fun q => (.lst q.1, q.2)
def mYes : MT := fun δ => some (true, δ)

section
variable {cm : Gm} {c : Cfg} {H H1 H2 H' : Hp} {O fp fp1 fp2 f : List Addr} {ms ms' ms1 ms2 ms3 : List Mo} {fps fps' : List (List Addr)} {σ σ' σ1 : List (Option V)} {δ δ' : List D} {m ma mb mc : Mo} {v : V} {d : D} {A : Addr → Prop}
variable {ta tb tc te : TE} {tt tu : TT} {t u : TS} {fa fb fc g : ME} {ga gb : MT} {gs gr : MS} {i j : Nat} {De : Ends} {out : Out}

theorem Post.trans (h : Post cm c ms' O σ H fp De out) (g1 : Go H fp H1 fp1) (e : σ1.take c.iom.length = σ.take c.iom.length) : Post cm c ms' O σ1 H1 fp1 De out := by
  cases out with
  | nx δ' => exact fun σ' H' fps' F g2 e2 => h σ' H' fps' F (g1.trans g2) (e2.trans e)
  | bk δ' => exact fun σ' H' fps' F g2 e2 => h σ' H' fps' F (g1.trans g2) (e2.trans e)
  | ct δ' => exact fun σ' H' fps' F g2 e2 => h σ' H' fps' F (g1.trans g2) (e2.trans e)
  | rt d ios => exact fun v fv fi H' vs' ev F r ri g2 => h v fv fi H' vs' (e.symm.trans ev) F r ri (g1.trans g2)
theorem RS.nil : RS cm c tNext ms ms mNx := by
  intro σ H O δ fps F out e De h
  cases e
  exact h σ H fps F Go.rfl rfl
theorem RS.seq (ht : RS cm c t ms ms1 gs) (hu : RS cm c u ms1 ms' gr) : RS cm c (tSeq t u) ms ms' (mSeq gs gr) := by
  intro σ H O δ fps F out e De h
  obtain ⟨o, e1, e⟩ := Option.bind_eq_some_iff.mp e
  refine ht σ H O δ fps F o e1 { De with nx := u De } ?_
  cases o with
  | nx δ1 => exact fun σ1 H1 fps1 F1 g1 e2 => hu σ1 H1 O δ1 fps1 F1 out e De (h.trans g1 e2)
  | bk δ1 => cases e; exact h
  | ct δ1 => cases e; exact h
  | rt d ios => cases e; exact h
theorem Frm.setSlot (F : Frm cm H (f ++ O) ms fps σ δ) (r : Rp cm H (inA fps (f ++ O)) m f v d) (hi : i < ms.length) :
    Frm cm H O (ms.set i m) (fps.set i f) (σ.set i (some v)) (δ.set i d) ∧ ∀ a ∈ (fps.set i f).flatten, a ∈ f ++ fps.flatten := by
  obtain ⟨G, sub⟩ := F.void i
  obtain ⟨l1, l2, l3⟩ := F.rp.len
  have hi2 : i < (fps.set i []).length := by simp; omega
  have p := flat_set2 (f := f) hi2
  rw [List.set_set, List.set_set] at p
  have r2 : RpE cm H (inA (fps.set i []) (f ++ O)) (ms.set i m) (fps.set i f) (σ.set i (some v)) (δ.set i d) := by
    have q := G.rp.set (i := i) (r.less (A' := inA (fps.set i []) (f ++ O)) fun a z => by
      rw [inA_app] at z ⊢
      exact z.imp (sub a) id)
    rw [List.set_set, List.set_set, List.set_set] at q
    exact q
  have pp : ((fps.set i f).flatten ++ O).Perm ((fps.set i []).flatten ++ (f ++ O)) := by
    refine (List.Perm.append_right O p).trans ?_
    rw [List.append_assoc]
    exact List.perm_append_comm_assoc f _ O
  refine ⟨⟨r2.congr fun a z => pp.mem_iff.mp z, (pp.nodup_iff).mpr G.nd, fun a z => G.al a (pp.mem_iff.mp z)⟩, fun a z => ?_⟩
  rcases List.mem_append.mp (p.mem_iff.mp z) with z | z
  · exact List.mem_append_left _ z
  · exact List.mem_append_right _ (sub a z)
theorem take_set_le {α : Type} {l : List α} {k i : Nat} {x : α} (h : k ≤ i) : (l.set i x).take k = l.take k := by
  apply List.ext_getElem?
  intro j
  rw [List.getElem?_take, List.getElem?_take]
  by_cases hj : j < k
  · rw [if_pos hj, if_pos hj, List.getElem?_set_ne (by omega)]
  · rw [if_neg hj, if_neg hj]
theorem RS.set (he : RE cm te ms ms1 m g) (hi : i < ms1.length := by decide) (hk : c.iom.length ≤ i := by decide) : RS cm c (tAsg te (gName i)) ms (ms1.set i m) (mSet i g) := by
  intro σ H O δ fps F out e De h
  obtain ⟨⟨d, δ1⟩, e1, e⟩ := Option.map_eq_some_iff.mp e
  cases e
  refine he σ H O δ fps F d δ1 e1 _ fun v f H1 fps1 r F1 g1 => ?_
  obtain ⟨G, sub⟩ := F1.setSlot r hi
  exact h _ H1 _ G (g1.sub' sub) (take_set_le hk)
theorem RS.expr (he : RE cm te ms ms1 m g) : RS cm c (tDrop te) ms ms1 (mDrop g) := by
  intro σ H O δ fps F out e De h
  obtain ⟨⟨d, δ1⟩, e1, e⟩ := Option.map_eq_some_iff.mp e
  cases e
  exact he σ H O δ fps F d δ1 e1 _ fun v f H1 fps1 r F1 g1 => h σ H1 fps1 (F1.subO (sl_drop f O)) (g1.sub' fun a z => List.mem_append_right _ z) rfl
theorem RpE.takeM : ∀ {k : Nat} {ms : List Mo} {fps : List (List Addr)} {σ : List (Option V)} {δ : List D}, RpE cm H A ms fps σ δ → (ms.take k).all Mo.here = true →
    ∃ vs', σ.take k = vs'.map some ∧ RpM cm H A (ms.take k) (fps.take k).flatten vs' (δ.take k)
  | 0, _, _, _, _, _, _ => ⟨[], by simp, by simpa using RpM.nil⟩
  | k + 1, _, _, _, _, .nil, _ => ⟨[], by simp, by simpa using RpM.nil⟩
  | k + 1, _, _, _, _, .su (v := v) h r, e => by
    obtain ⟨vs', e1, q⟩ := RpE.takeM (k := k) r (by simp at e; simpa using e.2)
    exact ⟨v :: vs', by simp [e1], by simpa using RpM.cons h q⟩
  | k + 1, _, _, _, _, .no r, e => by simp [Mo.here] at e
theorem take_flat (fps : List (List Addr)) (k : Nat) : List.Sublist (fps.take k).flatten fps.flatten := by
  have h : fps.flatten = (fps.take k).flatten ++ (fps.drop k).flatten := by rw [← List.flatten_append, List.take_append_drop]
  rw [h]
  exact List.sublist_append_left _ _
theorem RS.ret (he : RE cm te ms ms1 c.rm g) (hk : ms1.take c.iom.length = c.iom := by rfl) (hh : c.iom.all Mo.here = true := by rfl) : RS cm c (tRet te) ms ms' (mRet c.iom.length g) := by
  intro σ H O δ fps F out e De h
  obtain ⟨⟨d, δ1⟩, e1, e⟩ := Option.map_eq_some_iff.mp e
  cases e
  refine he σ H O δ fps F d δ1 e1 _ fun v f H1 fps1 r F1 g1 => ?_
  obtain ⟨vs', e2, q⟩ := F1.rp.takeM (k := c.iom.length) (by rw [hk]; exact hh)
  rw [hk] at q
  have sl := take_flat fps1 c.iom.length
  have sl2 : List.Sublist ((fps1.take c.iom.length).flatten ++ (f ++ O)) (fps1.flatten ++ (f ++ O)) := List.Sublist.append sl (List.Sublist.refl _)
  have pp : (f ++ ((fps1.take c.iom.length).flatten ++ O)).Perm ((fps1.take c.iom.length).flatten ++ (f ++ O)) := List.perm_append_comm_assoc _ _ _
  have aa : ∀ a, inA [] (f ++ ((fps1.take c.iom.length).flatten ++ O)) a → inA fps1 (f ++ O) a := fun a z => sl2.subset (pp.mem_iff.mp z)
  refine h v f (fps1.take c.iom.length).flatten H1 vs' e2 ⟨.nil, (pp.nodup_iff).mpr (F1.nd.sublist sl2), fun a z => F1.al a (aa a z)⟩ (r.less aa) (q.less aa) (g1.sub' fun a z => ?_)
  rcases List.mem_append.mp z with z | z
  · exact List.mem_append_left _ z
  · exact List.mem_append_right _ (sl.subset z)
theorem RS.retN (hr : c.rm = .fz := by rfl) (hk : ms.take c.iom.length = c.iom := by rfl) (hh : c.iom.all Mo.here = true := by rfl) : RS cm c tRetN ms ms' (mRetN c.iom.length) := by
  intro σ H O δ fps F out e De h
  have q : RE cm (tC .non) ms ms c.rm (mC .non) := by rw [hr]; exact RE.non
  exact RS.ret (ms' := ms') q hk hh σ H O δ fps F out (by rw [mRet, mC]; exact e) De h
theorem RS.ifs (hc : RT cm tt ms ms1 ga) (ht : RS cm c t ms1 ms' gs) (hu : RS cm c u ms1 ms' gr) : RS cm c (tIfS tt t u) ms ms' (mIfS ga gs gr) := by
  intro σ H O δ fps F out e De h
  obtain ⟨⟨k, δ1⟩, e1, e⟩ := Option.bind_eq_some_iff.mp e
  refine hc σ H O δ fps F k δ1 e1 _ fun H1 fps1 F1 g1 => ?_
  cases k with
  | true => exact ht σ H1 O δ1 fps1 F1 out e De (h.trans g1 rfl)
  | false => exact hu σ H1 O δ1 fps1 F1 out e De (h.trans g1 rfl)
theorem RS.frz (i : Nat) (hm : ms[i]? = some m) (hf : m.full = true) (h : RS cm c t (ms.set i .fz) ms' gs) : RS cm c t ms ms' gs := by
  intro σ H O δ fps F out e De q
  obtain ⟨G, sub⟩ := F.freeze hm hf
  exact h σ H O δ _ G out e De (q.trans ((Go.rfl (H := H) (fp := fps.flatten)).sub' sub) rfl)
/-- what is never met -/
def mNo : MS := fun _ => none
theorem RS.never : RS cm c tNever ms ms' mNo := by
  intro σ H O δ fps F out e De q
  cases e
theorem Frm.voidL (F : Frm cm H O ms fps σ δ) : ∀ is : List Nat, ∃ fps', Frm cm H O (voidM is ms) fps' σ (voidL is δ) ∧ (∀ a ∈ fps'.flatten, a ∈ fps.flatten)
  | [] => ⟨fps, F, fun _ z => z⟩
  | i :: is => by
    obtain ⟨fps', G, s⟩ := F.voidL is
    obtain ⟨G2, s2⟩ := G.void i
    exact ⟨_, G2, fun a z => s a (s2 a z)⟩
/-- a statement whose end forgets some slots -/
def mThenVoid (is : List Nat) (g : MS) : MS := fun δ => (g δ).map fun o => match o with
  | .nx δ' => .nx (voidL is δ')
  | o => o
theorem RS.void (is : List Nat) (h : RS cm c t ms ms1 gs) : RS cm c t ms (voidM is ms1) (mThenVoid is gs) := by
  intro σ H O δ fps F out e De q
  obtain ⟨o, e1, e⟩ := Option.map_eq_some_iff.mp e
  refine h σ H O δ fps F o e1 De ?_
  cases o with
  | nx δ1 =>
    cases e
    intro σ1 H1 fps1 F1 g1 e2
    obtain ⟨fps', G, s⟩ := F1.voidL is
    exact q σ1 H1 fps' G (g1.sub' s) e2
  | bk δ1 => cases e; exact q
  | ct δ1 => cases e; exact q
  | rt d ios => cases e; exact q
/-- .. and one ahead of which they are forgotten -/
def mVoidThen (is : List Nat) (g : MS) : MS := fun δ => g (voidL is δ)
theorem RS.void0 (is : List Nat) (h : RS cm c t (voidM is ms) ms1 gs) : RS cm c t ms ms1 (mVoidThen is gs) := by
  intro σ H O δ fps F out e De q
  obtain ⟨fps', G, s⟩ := F.voidL is
  exact h σ H O _ fps' G out e De (q.trans ((Go.rfl (H := H) (fp := fps.flatten)).sub' s) rfl)
theorem RS.brk (is : List Nat) (e0 : voidM is ms = c.msL := by rfl) : RS cm c tBreak ms ms' (mBrk is) := by
  intro σ H O δ fps F out e De q
  cases e
  obtain ⟨fps', G, s⟩ := F.voidL is
  rw [e0] at G
  exact q σ H fps' G ((Go.rfl (H := H) (fp := fps.flatten)).sub' s) rfl
theorem RS.cnt (is : List Nat) (e0 : voidM is ms = c.msL := by rfl) : RS cm c tCont ms ms' (mCnt is) := by
  intro σ H O δ fps F out e De q
  cases e
  obtain ⟨fps', G, s⟩ := F.voidL is
  rw [e0] at G
  exact q σ H fps' G ((Go.rfl (H := H) (fp := fps.flatten)).sub' s) rfl

/-! ### while -/
theorem RS.while (n : Nat) (hc : RT cm tt ms ms ga) (ht : RS cm { c with msL := ms } t ms ms gs) : RS cm c (tWhile tt t) ms ms (whileN n ga gs) := by
  intro σ H O δ fps F out e De q
  refine ⟨fun k σ' H' => ∃ δ' fps', Frm cm H' O ms fps' σ' δ' ∧ whileN k ga gs δ' = some out ∧ Go H fps.flatten H' fps'.flatten ∧ σ'.take c.iom.length = σ.take c.iom.length, ⟨n, δ, fps, F, e, Go.rfl, rfl⟩, ?_⟩
  rintro k σ' H' ⟨δ1, fps1, F1, e1, g1, t1⟩
  cases k with
  | zero => cases e1
  | succ k =>
    obtain ⟨⟨b, δ2⟩, e2, e1⟩ := Option.bind_eq_some_iff.mp e1
    refine hc σ' H' O δ1 fps1 F1 b δ2 e2 _ fun H2 fps2 F2 g2 => ?_
    cases b with
    | false =>
      cases e1
      exact q σ' H2 fps2 F2 (g1.trans g2) t1
    | true =>
      have e1 : ((gs δ2).bind fun o => match o with
        | .nx δ' => whileN k ga gs δ'
        | .ct δ' => whileN k ga gs δ'
        | .bk δ' => some (.nx δ')
        | .rt d i => some (.rt d i)) = some out := e1
      obtain ⟨o, e3, e1⟩ := Option.bind_eq_some_iff.mp e1
      refine ⟨fun σ3 H3 => ∃ δ3 fps3, Frm cm H3 O ms fps3 σ3 δ3 ∧ whileN k ga gs δ3 = some out ∧ Go H fps.flatten H3 fps3.flatten ∧ σ3.take c.iom.length = σ.take c.iom.length, fun σ3 H3 z => ⟨k, Nat.lt_succ_self k, z⟩, ?_⟩
      refine ht σ' H2 O δ2 fps2 F2 o e3 _ ?_
      cases o with
      | nx δ3 => exact fun σ3 H3 fps3 F3 g3 t3 => ⟨δ3, fps3, F3, e1, (g1.trans g2).trans g3, t3.trans t1⟩
      | ct δ3 => exact fun σ3 H3 fps3 F3 g3 t3 => ⟨δ3, fps3, F3, e1, (g1.trans g2).trans g3, t3.trans t1⟩
      | bk δ3 =>
        cases e1
        exact fun σ3 H3 fps3 F3 g3 t3 => q σ3 H3 fps3 F3 ((g1.trans g2).trans g3) (t3.trans t1)
      | rt d ios =>
        cases e1
        exact fun v fv fi H3 vs' ev F3 r ri g3 => q v fv fi H3 vs' (t1.symm.trans ev) F3 r ri ((g1.trans g2).trans g3)
end
end DL

namespace DL
open PySem L2

def lim : Nat := 1000000
theorem lim_line : lim ≤ sizeLine := by decide
section
variable {cm : Gm} {c : Cfg} {H H1 H2 H' : Hp} {O fp fp1 fp2 f : List Addr} {ms ms' ms1 ms2 ms3 : List Mo} {fps fps' fps1 : List (List Addr)} {σ σ' σ1 : List (Option V)} {δ δ' : List D} {m ma mb mc : Mo} {v : V} {d : D} {A : Addr → Prop}
variable {ta tb tc te : TE} {tt tu : TT} {t u : TS} {fa fb fc g : ME} {ga gb : MT} {gs gr : MS} {i j : Nat} {De : Ends} {out : Out}

/-- what is walked gives these, as long as it stands -/
def WalkOk (cm : Gm) (J : It) (its : List D) (H1 : Hp) (fp1 : List Addr) (fx O : List Addr) : Prop :=
  ∀ H2 O2 ms2 fps2 σ2 δ2, Frm cm H2 (O2 ++ (fx ++ O)) ms2 fps2 σ2 δ2 → Go H1 fp1 H2 (O2 ++ fps2.flatten) → (∀ i, its.length ≤ i → J.stop i H2) ∧
    ∀ i d, its[i]? = some d → J.go i H2 ∧ ∀ x H3, J.yld i H2 x H3 → Go H2 [] H3 [] ∧ Rp cm H3 (inA fps2 (O2 ++ (fx ++ O))) .fz [] x d
def RI (cm : Gm) (wi : TI) (ms ms' : List Mo) (g : MA) : Prop :=
  ∀ σ H O δ fps, Frm cm H O ms fps σ δ → ∀ its δ', g δ = some (its, δ') → ∀ R : It → Hp → Prop,
    (∀ J fx H1 fps1, Frm cm H1 (fx ++ O) ms' fps1 σ δ' → Go H fps.flatten H1 (fx ++ fps1.flatten) → WalkOk cm J its H1 fps1.flatten fx O → R J H1) → wi σ H R
def RG (cm : Gm) (g : TG) (ms ms' : List Mo) (ts : List Nat) (gm : MG) : Prop :=
  ∀ σ H O δ fps x d, Frm cm H O ms fps σ δ → Rp cm H (inA fps O) .fz [] x d → ∀ δ', gm d δ = some δ' → ∀ Q : St → Hp → Prop,
    (∀ σ' H' fps', Frm cm H' O ms' fps' σ' δ' → Go H fps.flatten H' fps'.flatten → σ'.length = σ.length → (∀ i, i ∉ ts → σ'[i]? = σ[i]?) → Q σ' H') → g x σ H Q

/-! ### lists as data -/
def seqD : D → Option (List D)
  | .lst ds => some ds
  | .tup ds => some ds
  | .scr ds => some ds
  | _ => none
def tupD : D → Bool
  | .tup _ => true
  | _ => false
def listMo : Mo → Bool
  | .fz => true
  | .l .fz => true
  | _ => false
theorem Rp.seq {ds} (h : Rp cm H A m f v d) (hm : listMo m = true) (e : seqD d = some ds) : ∃ a vs, v = .ref a ∧ ((SqL cm.K H a vs ∧ tupD d = false) ∨ (SqT cm.K H a vs ∧ tupD d = true)) ∧ RpL cm H A .fz [] vs ds := by
  cases h with
  | tup h n r => cases e; exact ⟨_, _, rfl, .inr ⟨.inl (.inl h), rfl⟩, r⟩
  | lst h n r => cases e; exact ⟨_, _, rfl, .inl ⟨.inl (.inl h), rfl⟩, r⟩
  | scr h n r => cases e; exact ⟨_, _, rfl, .inl ⟨.inl (.inr ⟨_, h⟩), rfl⟩, r⟩
  | scrK h r => cases e; exact ⟨_, _, rfl, .inl ⟨.inr h, rfl⟩, r⟩
  | @lstO m fp a vs ds' h r =>
    cases e
    have hm2 : m = .fz := by cases m <;> first | rfl | cases hm
    subst hm2
    have h2 := r.fz_nil
    subst h2
    exact ⟨_, _, rfl, .inl ⟨.inl (.inl h), rfl⟩, r⟩
  | _ => cases e
theorem RpL.get : ∀ {fp vs} {ds : List D} {i : Nat} {d}, RpL cm H A .fz fp vs ds → ds[i]? = some d → ∃ v : V, vs[i]? = some v ∧ Rp cm H A .fz [] v d
  | _, _, _, _, _, .nil, e => by simp at e
  | _, _, _, 0, _, .cons h r, e => by
    simp at e; subst e
    have q := h.fz_nil; subst q
    exact ⟨_, rfl, h⟩
  | _, _, _, i + 1, _, .cons h r, e => by
    obtain ⟨v, e1, q⟩ := RpL.get (i := i) r (by simpa using e)
    exact ⟨v, by simpa using e1, q⟩
theorem Frm.ext (F : Frm cm H O ms fps σ δ) (g : Go H [] H' []) : Frm cm H' O ms fps σ δ :=
  ⟨F.rp.mono (fun _ _ _ n => n) fun a o e _ => g.pres a o e (fun z => nomatch z), F.nd, fun a z => g.al a (F.al a z)⟩
/-- the frame and what lies aside, kept at another step -/
theorem upW {f O2 : List Addr} (F1 : Frm cm H1 (f ++ O) ms1 fps σ δ) (r : Rp cm H1 (inA fps (f ++ O)) ma f v d) (g : Go H1 fps.flatten H2 (O2 ++ fps'.flatten)) :
    Rp cm H2 (inA fps' (O2 ++ (f ++ O))) ma f v d := by
  refine r.keep g (fun a z => ?_) (fun a z => List.mem_append_left _ z) fun a z y => F1.disj a (List.mem_append_left _ z) y
  rw [inA_app] at z
  rw [List.mem_append, inA_app]
  rcases z with z | z | z
  · exact .inr (.inr z)
  · exact .inr (.inl z)
  · exact .inl (.inr (List.mem_append.mp z))
/-- a list walked; a tuple -/
def mIList (gl : ME) : MA := fun δ => (gl δ).bind fun p => if tupD p.1 = false then (seqD p.1).map fun ds => (ds, p.2) else none
def mITup (gl : ME) : MA := fun δ => (gl δ).bind fun p => if tupD p.1 = true then (seqD p.1).map fun ds => (ds, p.2) else none
theorem RI.list (hl : RE cm te ms ms1 m g) (hm : listMo m = true := by rfl) : RI cm (iList cm.K te) ms ms1 (mIList g) := by
  intro σ H O δ fps F its δ' e R q
  obtain ⟨⟨d, δ1⟩, e1, e⟩ := Option.bind_eq_some_iff.mp e
  have e : (if tupD d = false then (seqD d).map fun ds => (ds, δ1) else none) = some (its, δ') := e
  split at e
  rotate_left
  · cases e
  rename_i et
  obtain ⟨ds, e2, e⟩ := Option.map_eq_some_iff.mp e
  cases e
  refine hl σ H O δ fps F d _ e1 _ fun v f H1 fps1 r F1 g1 => ?_
  have key : ∀ {H2 : Hp} {A2 : Addr → Prop}, Rp cm H2 A2 m f v d → ∃ a vs, v = .ref a ∧ SqL cm.K H2 a vs ∧ RpL cm H2 A2 .fz [] vs its := fun r2 => by
    obtain ⟨a, vs, ea, hs, rl⟩ := r2.seq hm e2
    rcases hs with hs | hs
    · exact ⟨a, vs, ea, hs.1, rl⟩
    · rw [hs.2] at et; cases et
  obtain ⟨a, vs, rfl, hs, rl⟩ := key r
  refine ⟨a, rfl, ⟨vs, hs⟩, q _ f H1 fps1 F1 g1 fun H2 O2 ms2 fps2 σ2 δ2 F2 g2 => ?_⟩
  obtain ⟨b, ws, eb, hw, rw2⟩ := key (upW F1 r g2)
  cases eb
  refine ⟨fun i hi => ⟨ws, hw, by rw [rw2.len]; exact hi⟩, fun i d hd => ?_⟩
  obtain ⟨x, ex, rx⟩ := rw2.get hd
  refine ⟨⟨ws, x, hw, ex⟩, fun y H3 hy => ?_⟩
  obtain ⟨h3, hy⟩ := hy
  subst h3
  cases (hy ws hw).symm.trans ex
  exact ⟨Go.rfl, rx⟩
theorem RI.tup (hl : RE cm te ms ms1 m g) (hm : listMo m = true := by rfl) : RI cm (iTup cm.K te) ms ms1 (mITup g) := by
  intro σ H O δ fps F its δ' e R q
  obtain ⟨⟨d, δ1⟩, e1, e⟩ := Option.bind_eq_some_iff.mp e
  have e : (if tupD d = true then (seqD d).map fun ds => (ds, δ1) else none) = some (its, δ') := e
  split at e
  rotate_left
  · cases e
  rename_i et
  obtain ⟨ds, e2, e⟩ := Option.map_eq_some_iff.mp e
  cases e
  refine hl σ H O δ fps F d _ e1 _ fun v f H1 fps1 r F1 g1 => ?_
  have key : ∀ {H2 : Hp} {A2 : Addr → Prop}, Rp cm H2 A2 m f v d → ∃ a vs, v = .ref a ∧ SqT cm.K H2 a vs ∧ RpL cm H2 A2 .fz [] vs its := fun r2 => by
    obtain ⟨a, vs, ea, hs, rl⟩ := r2.seq hm e2
    rcases hs with hs | hs
    · rw [hs.2] at et; cases et
    · exact ⟨a, vs, ea, hs.1, rl⟩
  obtain ⟨a, vs, rfl, hs, rl⟩ := key r
  refine ⟨a, rfl, ⟨vs, hs⟩, q _ f H1 fps1 F1 g1 fun H2 O2 ms2 fps2 σ2 δ2 F2 g2 => ?_⟩
  obtain ⟨b, ws, eb, hw, rw2⟩ := key (upW F1 r g2)
  cases eb
  refine ⟨fun i hi => ⟨ws, hw, by rw [rw2.len]; exact hi⟩, fun i d hd => ?_⟩
  obtain ⟨x, ex, rx⟩ := rw2.get hd
  refine ⟨⟨ws, x, hw, ex⟩, fun y H3 hy => ?_⟩
  obtain ⟨h3, hy⟩ := hy
  subst h3
  cases (hy ws hw).symm.trans ex
  exact ⟨Go.rfl, rx⟩
/-- range -/
def rangeD (lo hi : Int) : List D := (List.range (hi - lo).toNat).map fun k => .int (lo + (k : Nat))
def smallI (i : Int) : Bool := decide (-1000000000 ≤ i ∧ i ≤ 1000000000)
def mRng1 (fa : MA) : MA := fun δ => (fa δ).bind fun p => match p.1 with
  | [.int j] => if smallI j = true then some (rangeD 0 j, p.2) else none
  | _ => none
def mRng2 (fa : MA) : MA := fun δ => (fa δ).bind fun p => match p.1 with
  | [.int i, .int j] => if smallI i = true ∧ smallI j = true then some (rangeD i j, p.2) else none
  | _ => none
theorem walk_range {lo : Int} {n : Nat} : WalkOk cm (Itr lo n) ((List.range n).map fun k => .int (lo + (k : Nat))) H1 fp1 f O := by
  intro H2 O2 ms2 fps2 σ2 δ2 F2 g2
  refine ⟨fun i hi => by show n ≤ i; simpa using hi, fun i d hd => ?_⟩
  rw [List.getElem?_map] at hd
  obtain ⟨k, hk, rfl⟩ := Option.map_eq_some_iff.mp hd
  have hl := (List.getElem?_eq_some_iff.mp hk).1
  rw [List.length_range] at hl
  have ek : k = i := by
    rw [List.getElem?_range hl] at hk
    exact (Option.some.inj hk).symm
  subst ek
  refine ⟨hl, fun x H3 hy => ?_⟩
  obtain ⟨rfl, rfl⟩ := hy
  exact ⟨Go.rfl, .int⟩
theorem RI.range1 {t : TA} {fr : MA} (ha : RA cm t ms ms1 [.fz] fr) : RI cm (iRng1 t) ms ms1 (mRng1 fr) := by
  intro σ H O δ fps F its δ' e R q
  obtain ⟨⟨ds, δ1⟩, e1, e⟩ := Option.bind_eq_some_iff.mp e
  refine ha σ H O δ fps F ds δ1 e1 _ fun vs f H1 fps1 r F1 g1 => ?_
  split at e
  · rename_i j heq
    simp only at heq
    subst heq
    cases r with
    | cons h r =>
      cases r
      cases h
      split at e
      · rename_i hs
        cases e
        have hs := of_decide_eq_true hs
        refine ⟨j, rfl, by omega, by omega, q _ [] H1 fps1 F1 g1 ?_⟩
        have := walk_range (cm := cm) (lo := 0) (n := j.toNat) (H1 := H1) (fp1 := fps1.flatten) (f := []) (O := O)
        rw [rangeD, show j - 0 = j by omega]
        exact this
      · cases e
  · cases e
theorem RI.range2 {t : TA} {fr : MA} (ha : RA cm t ms ms1 [.fz, .fz] fr) : RI cm (iRng2 t) ms ms1 (mRng2 fr) := by
  intro σ H O δ fps F its δ' e R q
  obtain ⟨⟨ds, δ1⟩, e1, e⟩ := Option.bind_eq_some_iff.mp e
  refine ha σ H O δ fps F ds δ1 e1 _ fun vs f H1 fps1 r F1 g1 => ?_
  split at e
  · rename_i i j heq
    simp only at heq
    subst heq
    cases r with
    | cons h r =>
      cases r with
      | cons h2 r =>
        cases r
        cases h
        cases h2
        split at e
        · rename_i hs
          cases e
          have h1 := of_decide_eq_true hs.1
          have h2 := of_decide_eq_true hs.2
          exact ⟨i, j, rfl, ⟨by omega, by omega, by omega, by omega⟩, q _ [] H1 fps1 F1 g1 walk_range⟩
        · cases e
  · cases e

/-! ### targets -/
theorem RG.name (i : Nat) (hi : i < ms.length := by decide) : RG cm (gName i) ms (ms.set i .fz) [i] (fun d δ => some (δ.set i d)) := by
  intro σ H O δ fps x d F r δ' e Q q
  cases e
  obtain ⟨G, sub⟩ := Frm.setSlot (f := []) (O := O) F r hi
  refine q _ H _ G ((Go.rfl (H := H) (fp := fps.flatten)).sub' sub) (by simp) fun j hj => ?_
  rw [List.getElem?_set_ne (by intro e; subst e; simp at hj)]
abbrev MGs := List D → List D → Option (List D)
def RGs (cm : Gm) (g : TGs) (ms ms' : List Mo) (ts : List Nat) (gm : MGs) : Prop :=
  ∀ σ H O δ fps xs ds, Frm cm H O ms fps σ δ → RpL cm H (inA fps O) .fz [] xs ds → ∀ δ', gm ds δ = some δ' → ∀ Q : St → Hp → Prop,
    (∀ σ' H' fps', Frm cm H' O ms' fps' σ' δ' → Go H fps.flatten H' fps'.flatten → σ'.length = σ.length → (∀ i, i ∉ ts → σ'[i]? = σ[i]?) → Q σ' H') → g xs σ H Q
def mgNil : MGs := fun ds δ => match ds with
  | [] => some δ
  | _ => none
def mgCons (a : MG) (r : MGs) : MGs := fun ds δ => match ds with
  | d :: ds => (a d δ).bind fun δ1 => r ds δ1
  | _ => none
def mgTup (n : Nat) (r : MGs) : MG := fun d δ => match d with
  | .tup ds => if ds.length = n then r ds δ else none
  | _ => none
theorem RpL.inv : ∀ {fp vs ds}, RpL cm H A m fp vs ds → (vs = [] ∧ ds = [] ∧ fp = []) ∨ ∃ v vs' d ds' f1 f2, vs = v :: vs' ∧ ds = d :: ds' ∧ fp = f1 ++ f2 ∧ Rp cm H A m f1 v d ∧ RpL cm H A m f2 vs' ds'
  | _, _, _, .nil => .inl ⟨rfl, rfl, rfl⟩
  | _, _, _, .cons h r => .inr ⟨_, _, _, _, _, _, rfl, rfl, rfl, h, r⟩
theorem RpL.invF {vs ds} (h : RpL cm H A .fz [] vs ds) : (vs = [] ∧ ds = []) ∨ ∃ v vs' d ds', vs = v :: vs' ∧ ds = d :: ds' ∧ Rp cm H A .fz [] v d ∧ RpL cm H A .fz [] vs' ds' := by
  rcases h.inv with ⟨a, b, _⟩ | ⟨v, vs', d, ds', f1, f2, a, b, _, h1, h2⟩
  · exact .inl ⟨a, b⟩
  · have e1 := h1.fz_nil; subst e1
    have e2 := h2.fz_nil; subst e2
    exact .inr ⟨v, vs', d, ds', a, b, h1, h2⟩
theorem RGs.nil : RGs cm gNil ms ms [] mgNil := by
  intro σ H O δ fps xs ds F r δ' e Q q
  rcases r.invF with ⟨rfl, rfl⟩ | ⟨v, vs', d, ds', rfl, rfl, _, _⟩
  · cases e
    exact ⟨rfl, q σ H fps F Go.rfl rfl fun _ _ => rfl⟩
  · cases e
theorem RGs.cons {t : TG} {u : TGs} {a : MG} {r : MGs} {ts us : List Nat} (ha : RG cm t ms ms1 ts a) (hr : RGs cm u ms1 ms2 us r) : RGs cm (gCons t u) ms ms2 (ts ++ us) (mgCons a r) := by
  intro σ H O δ fps xs ds F rl δ' e Q q
  rcases rl.invF with ⟨rfl, rfl⟩ | ⟨v, vs, d, ds, rfl, rfl, h, rl⟩
  · cases e
  · obtain ⟨δ1, e1, e⟩ := Option.bind_eq_some_iff.mp e
    refine ⟨v, vs, rfl, ha σ H O δ fps v d F h δ1 e1 _ fun σ1 H1 fps1 F1 g1 l1 s1 => ?_⟩
    refine hr σ1 H1 O δ1 fps1 vs ds F1 (rl.keep g1 (fun a z => ?_) (fun a z => List.mem_append_left _ z) fun a z => nomatch z) δ' e Q fun σ2 H2 fps2 F2 g2 l2 s2 => ?_
    · rcases inA_iff.mp z with z | z
      · exact .inr z
      · exact .inl (inA_iff.mpr (.inr z))
    · exact q σ2 H2 fps2 F2 (g1.trans g2) (l2.trans l1) fun i hi => (s2 i fun z => hi (List.mem_append_right _ z)).trans (s1 i fun z => hi (List.mem_append_left _ z))
theorem RG.tup {n : Nat} {u : TGs} {r : MGs} {ts : List Nat} (hr : RGs cm u ms ms1 ts r) : RG cm (gTup cm.K n u) ms ms1 ts (mgTup n r) := by
  intro σ H O δ fps x d F rp δ' e Q q
  cases rp with
  | @tup a vs ds h na rl =>
    have e : (if ds.length = n then r ds δ else none) = some δ' := e
    split at e
    · rename_i hn
      exact ⟨a, vs, rfl, .inl (.inl h), by rw [rl.len]; exact hn, hr σ H O δ fps vs ds F rl δ' e Q q⟩
    · cases e
  | _ => cases e

/-! ### for -/
theorem take_of_out {ts : List Nat} {k : Nat} (hl : σ'.length = σ.length) (h : ∀ i, i ∉ ts → σ'[i]? = σ[i]?) (hk : ∀ t ∈ ts, k ≤ t) : σ'.take k = σ.take k := by
  apply List.ext_getElem?
  intro j
  rw [List.getElem?_take, List.getElem?_take]
  by_cases hj : j < k
  · rw [if_pos hj, if_pos hj]
    exact h j fun z => by have := hk j z; omega
  · rw [if_neg hj, if_neg hj]
theorem RS.for {wi : TI} {gt : TG} {gi : MA} {gm : MG} {ts : List Nat} (hi : RI cm wi ms ms1 gi) (hg : RG cm gt ms1 ms2 ts gm) (hb : RS cm { c with msL := ms1 } t ms2 ms1 gs) (hk : ∀ t ∈ ts, c.iom.length ≤ t := by decide) :
    RS cm c (tFor wi gt t) ms ms1 (mFor gi gm gs) := by
  intro σ H O δ fps F out e De q
  obtain ⟨⟨its, δ1⟩, e1, e⟩ := Option.bind_eq_some_iff.mp e
  refine hi σ H O δ fps F its δ1 e1 _ fun J fx H1 fps1 F1 g1 W => ?_
  refine ⟨fun i k σ' H' => k = its.length - i ∧ i ≤ its.length ∧ ∃ δ' fps', Frm cm H' (fx ++ O) ms1 fps' σ' δ' ∧ Go H1 fps1.flatten H' fps'.flatten ∧ σ'.take c.iom.length = σ.take c.iom.length ∧ forL gm gs (its.drop i) δ' = some out,
    ⟨its.length, by simp, Nat.zero_le _, δ1, fps1, F1, Go.rfl, rfl, by simpa using e⟩, ?_⟩
  rintro i k σ' H' ⟨hk1, hi1, δ2, fps2, F2, g2, t2, e2⟩
  obtain ⟨w1, w2⟩ := W H' [] ms1 fps2 σ' δ2 F2 g2
  have gg : ∀ {H3 : Hp} {fp3 : List Addr}, Go H' fps2.flatten H3 fp3 → Go H fps.flatten H3 fp3 := fun g3 =>
    ((g1.sub' (f := fps1.flatten) fun a z => List.mem_append_right _ z).trans g2).trans g3
  by_cases hlt : i < its.length
  · refine .inr ?_
    have hd : its.drop i = its[i] :: its.drop (i + 1) := List.drop_eq_getElem_cons hlt
    rw [hd] at e2
    obtain ⟨δ3, e3, e2⟩ := Option.bind_eq_some_iff.mp e2
    obtain ⟨o, e4, e2⟩ := Option.bind_eq_some_iff.mp e2
    obtain ⟨w3, w4⟩ := w2 i its[i] (by simp [hlt])
    refine ⟨w3, fun σ3 H3 => ∃ δ' fps', Frm cm H3 (fx ++ O) ms1 fps' σ3 δ' ∧ Go H1 fps1.flatten H3 fps'.flatten ∧ σ3.take c.iom.length = σ.take c.iom.length ∧ forL gm gs (its.drop (i + 1)) δ' = some out,
      fun σ3 H3 z => ⟨its.length - (i + 1), by omega, rfl, hlt, z⟩, fun x H3 hy => ?_⟩
    obtain ⟨g3, rx⟩ := w4 x H3 hy
    refine hg σ' H3 (fx ++ O) δ2 fps2 x its[i] (F2.ext g3) rx δ3 e3 _ fun σ4 H4 fps4 F4 g4 l4 s4 => ?_
    have t4 := take_of_out l4 s4 hk
    have g34 : Go H' fps2.flatten H4 fps4.flatten := (g3.mono (fun a z => nomatch z) fun a z => .inr z : Go H' fps2.flatten H3 fps2.flatten).trans g4
    refine hb σ4 H4 (fx ++ O) δ3 fps4 F4 o e4 _ ?_
    cases o with
    | nx δ5 => exact fun σ5 H5 fps5 F5 g5 t5 => ⟨δ5, fps5, F5, (g2.trans g34).trans g5, (t5.trans t4).trans t2, e2⟩
    | ct δ5 => exact fun σ5 H5 fps5 F5 g5 t5 => ⟨δ5, fps5, F5, (g2.trans g34).trans g5, (t5.trans t4).trans t2, e2⟩
    | bk δ5 =>
      cases e2
      exact fun σ5 H5 fps5 F5 g5 t5 => q σ5 H5 fps5 (F5.subO (sl_drop fx O)) (gg (g34.trans g5)) ((t5.trans t4).trans t2)
    | rt d ios =>
      cases e2
      intro v fv fi H5 vs' ev F5 r ri g5
      have sl : List.Sublist (fv ++ (fi ++ O)) (fv ++ (fi ++ (fx ++ O))) := List.Sublist.append (List.Sublist.refl _) (sl_mid fi fx O)
      refine q v fv fi H5 vs' (t2.symm.trans (t4.symm.trans ev)) (F5.subO sl) (r.less (inA.sub sl)) (ri.less (inA.sub sl)) (gg (g34.trans g5))
  · refine .inl ⟨w1 i (by omega), ?_⟩
    have hd : its.drop i = [] := List.drop_eq_nil_of_le (by omega)
    rw [hd] at e2
    cases e2
    exact q σ' H' fps2 (F2.subO (sl_drop fx O)) (gg Go.rfl) t2
end
end DL

namespace DL
open PySem L2

section
variable {cm : Gm} {c : Cfg} {H H1 H2 H' : Hp} {O fp fp1 fp2 f : List Addr} {ms ms' ms1 ms2 ms3 : List Mo} {fps fps' fps1 : List (List Addr)} {σ σ' σ1 : List (Option V)} {δ δ' : List D} {m ma mb mc : Mo} {v : V} {d : D} {A : Addr → Prop}
variable {ta tb tc te : TE} {tt tu : TT} {t u : TS} {fa fb fc g : ME} {ga gb : MT} {gs gr : MS} {i j : Nat} {De : Ends} {out : Out}

/-! ### list comprehensions -/
theorem RpE.swap : ∀ {ms : List Mo} {fps : List (List Addr)} {σ σ' : List (Option V)} {δ : List D}, RpE cm H A ms fps σ δ → σ'.length = σ.length → (∀ i : Nat, ms[i]? = some Mo.hole ∨ σ'[i]? = σ[i]?) → RpE cm H A ms fps σ' δ
  | _, _, _, σ', _, .nil, hl, _ => by
    have : σ' = [] := List.eq_nil_of_length_eq_zero (by simpa using hl)
    subst this
    exact .nil
  | _, _, _, σ', _, .su (m := m) (f := f) (v := v) (d := d) h r, hl, hs => by
    cases σ' with
    | nil => simp at hl
    | cons x σ' =>
      have q := RpE.swap (σ' := σ') r (by simpa using hl) fun i => by simpa using hs (i + 1)
      rcases hs 0 with e | e
      · simp at e
        subst e
        have hf : f = [] := by cases h; rfl
        have hd : d = .hole := by cases h; rfl
        subst hf hd
        cases x with
        | none => exact .no q
        | some y => exact .su .hole q
      · simp at e
        subst e
        exact .su h q
  | _, _, _, σ', _, .no r, hl, hs => by
    cases σ' with
    | nil => simp at hl
    | cons x σ' =>
      have q := RpE.swap (σ' := σ') r (by simpa using hl) fun i => by simpa using hs (i + 1)
      cases x with
      | none => exact .no q
      | some y => exact .su .hole q
theorem Frm.swap (F : Frm cm H O ms fps σ δ) (hl : σ'.length = σ.length) (hs : ∀ i : Nat, ms[i]? = some Mo.hole ∨ σ'[i]? = σ[i]?) : Frm cm H O ms fps σ' δ := ⟨F.rp.swap hl hs, F.nd, F.al⟩
theorem wipe_at (σ : St) : ∀ (vs : List Nat) (i : Nat), (wipe σ vs)[i]? = if i ∈ vs then σ[i]?.map fun _ => none else σ[i]?
  | [], i => by simp [wipe]
  | w :: vs, i => by
    unfold wipe
    by_cases h : w = i
    · subst h
      by_cases hl : w < σ.length
      · rw [List.getElem?_set_self (by rw [wipe_length]; exact hl), if_pos List.mem_cons_self]
        simp [hl]
      · rw [List.getElem?_eq_none (by rw [List.length_set, wipe_length]; omega), if_pos List.mem_cons_self, List.getElem?_eq_none (by omega)]
        rfl
    · rw [List.getElem?_set_ne h, wipe_at σ vs i]
      by_cases h2 : i ∈ vs
      · rw [if_pos h2, if_pos (List.mem_cons_of_mem _ h2)]
      · rw [if_neg h2, if_neg (by simp only [List.mem_cons, not_or]; exact ⟨fun z => h z.symm, h2⟩)]
theorem wipe_eq {vs : List Nat} (hl : σ'.length = σ.length) (h : ∀ i, i ∉ vs → σ'[i]? = σ[i]?) : wipe σ' vs = wipe σ vs := by
  apply List.ext_getElem?
  intro i
  rw [wipe_at, wipe_at]
  by_cases e : i ∈ vs
  · rw [if_pos e, if_pos e]
    by_cases h1 : i < σ.length
    · simp [h1, hl]
    · rw [List.getElem?_eq_none (by omega), List.getElem?_eq_none (by omega)]
  · rw [if_neg e, if_neg e, h i e]
theorem wipe_wipe {vs : List Nat} : wipe (wipe σ vs) vs = wipe σ vs := wipe_eq (wipe_length _ _) fun i hi => by rw [wipe_at, if_neg hi]
theorem wipe_swap {vs : List Nat} (hv : ∀ i ∈ vs, ms[i]? = some Mo.hole) (F : Frm cm H O ms fps σ δ) : Frm cm H O ms fps (wipe σ vs) δ :=
  F.swap (wipe_length _ _) fun i => by
    by_cases e : i ∈ vs
    · exact .inl (hv i e)
    · rw [wipe_at, if_neg e]; exact .inr rfl
/-- an object of others is written -/
theorem Frm.upd {a : Addr} {o : HO} (F : Frm cm H O ms fps σ δ) (h : a ∈ O) : Frm cm (upd H a o) O ms fps σ δ := by
  have n1 : a ∉ fps.flatten := F.disj a h
  refine ⟨F.rp.mono (fun _ _ _ n => n) fun b u e z => ?_, F.nd, fun b z => ?_⟩
  · rw [upd_ne ?_]
    · exact e
    · rintro rfl
      rcases z with z | z
      · exact z (inA_iff.mpr (.inr h))
      · exact n1 z
  · by_cases e : b = a
    · rw [e, upd_same]; simp
    · rw [upd_ne e]; exact F.al b z
theorem upd_rpl {a : Addr} {o : HO} {vs ds} (r : RpL cm H A m f vs ds) (ha : A a) (hf : a ∉ f) : RpL cm (L2.upd H a o) A m f vs ds :=
  r.mono (fun _ _ _ n => n) fun b u e z => by
    rw [upd_ne ?_]
    · exact e
    · rintro rfl
      rcases z with z | z
      · exact z ha
      · exact hf z
theorem upd_rp {a : Addr} {o : HO} (r : Rp cm H A m f v d) (ha : A a) (hf : a ∉ f) : Rp cm (L2.upd H a o) A m f v d :=
  r.mono (fun _ _ _ n => n) fun b u e z => by
    rw [upd_ne ?_]
    · exact e
    · rintro rfl
      rcases z with z | z
      · exact z ha
      · exact hf z
theorem RT.yes : RT cm tYes ms ms mYes := by
  intro σ H O δ fps F b δ' e Q q
  cases e
  exact q H fps F Go.rfl
/-- [te for g in wi if tt]; the guard: the length of what is walked -/
def mLcG (vs : List Nat) (gi : MA) (gm : MG) (gt : MT) (ge : ME) : ME := fun δ => (gi δ).bind fun p => if p.1.length < lim then (lcL vs gm gt ge p.1 p.2).map fun q => (.lst q.1, q.2) else none
theorem RE.lc {wi : TI} {gt : TG} {gi : MA} {gm : MG} {ts vs : List Nat} {ge : ME} (hi : RI cm wi ms ms1 gi) (hg : RG cm gt ms1 ms2 ts gm) (ht : RT cm tt ms2 ms2 ga) (he : RE cm te ms2 ms3 m ge)
    (h2 : voidM vs ms2 = ms1 := by rfl) (h3 : voidM vs ms3 = ms1 := by rfl) (hts : ∀ t ∈ ts, t ∈ vs := by decide) (hv : ∀ i ∈ vs, ms1[i]? = some Mo.hole := by decide) :
    RE cm (tLc wi gt tt te vs) ms ms1 (.l m) (mLcG vs gi gm ga ge) := by
  intro σ H O δ fps F d δ' e Q q
  obtain ⟨⟨its, δ1⟩, e1, e⟩ := Option.bind_eq_some_iff.mp e
  have e : (if its.length < lim then (lcL vs gm ga ge its δ1).map fun q => (D.lst q.1, q.2) else none) = some (d, δ') := e
  split at e
  rotate_left
  · cases e
  rename_i hlim
  obtain ⟨⟨ds, δ9⟩, e2, e⟩ := Option.map_eq_some_iff.mp e
  cases e
  refine hi σ H O δ fps F its δ1 e1 _ fun J fx H1 fps1 F1 g1 W p hp => ?_
  -- the invariant
  refine ⟨fun i k H' => k = its.length - i ∧ i ≤ its.length ∧ ∃ δi fpsi acc facc dacc, H' p = some (.lst acc) ∧ acc.length ≤ i ∧ RpL cm H' (inA fpsi ((p :: facc) ++ (fx ++ O))) m facc acc dacc ∧ Frm cm H' ((p :: facc) ++ (fx ++ O)) ms1 fpsi σ δi ∧
      Go H1 fps1.flatten H' ((p :: facc) ++ fpsi.flatten) ∧ (lcL vs gm ga ge (its.drop i) δi).map (fun q => (dacc ++ q.1, q.2)) = some (ds, δ9),
    ⟨its.length, by simp, Nat.zero_le _, δ1, fps1, [], [], [], upd_same, Nat.le_refl _, .nil, F1.fresh hp, ((Go.new hp).mono (fun a z => nomatch z) fun a z => ?_), by simp [e2]⟩, ?_⟩
  · rcases List.mem_append.mp z with z | z
    · exact .inl z
    · exact .inr z
  rintro i k H' ⟨hk1, hi1, δi, fpsi, acc, facc, dacc, ha, hal, ra, Fi, gi2, ei⟩
  obtain ⟨w1, w2⟩ := W H' (p :: facc) ms1 fpsi σ δi Fi gi2
  by_cases hlt : i < its.length
  · refine .inr ?_
    have hd : its.drop i = its[i] :: its.drop (i + 1) := List.drop_eq_getElem_cons hlt
    rw [hd] at ei
    obtain ⟨⟨qs, δq⟩, e3, e4⟩ := Option.map_eq_some_iff.mp ei
    obtain ⟨δ3, e5, e3⟩ := Option.bind_eq_some_iff.mp e3
    obtain ⟨⟨b, δ4⟩, e6, e3⟩ := Option.bind_eq_some_iff.mp e3
    cases e4
    obtain ⟨w3, w4⟩ := w2 i its[i] (by simp [hlt])
    refine ⟨w3, fun H3 => ∃ δi fpsi acc facc dacc, H3 p = some (.lst acc) ∧ acc.length ≤ i + 1 ∧ RpL cm H3 (inA fpsi ((p :: facc) ++ (fx ++ O))) m facc acc dacc ∧ Frm cm H3 ((p :: facc) ++ (fx ++ O)) ms1 fpsi σ δi ∧
      Go H1 fps1.flatten H3 ((p :: facc) ++ fpsi.flatten) ∧ (lcL vs gm ga ge (its.drop (i + 1)) δi).map (fun q => (dacc ++ q.1, q.2)) = some (_, δq), fun H3 z => ⟨its.length - (i + 1), by omega, rfl, hlt, z⟩, fun x H3 hy => ?_⟩
    obtain ⟨g3, rx⟩ := w4 x H3 hy
    have F3 := wipe_swap (vs := vs) hv (Fi.ext g3)
    refine hg (wipe σ vs) H3 _ δi fpsi x its[i] F3 rx δ3 e5 _ fun σ4 H4 fps4 F4 g4 l4 s4 => ?_
    have s4' : ∀ i, i ∉ vs → σ4[i]? = σ[i]? := fun i hi => by rw [s4 i fun z => hi (hts i z), wipe_at, if_neg hi]
    have l4' : σ4.length = σ.length := by rw [l4, wipe_length]
    refine ⟨wipe_eq l4' s4', ?_⟩
    refine ht σ4 H4 _ δ3 fps4 F4 b δ4 e6 _ fun H5 fps5 F5 g5 => ?_
    have g35 : Go H' fpsi.flatten H5 fps5.flatten := ((g3.mono (fun a z => nomatch z) fun a z => .inr z : Go H' fpsi.flatten H3 fpsi.flatten).trans g4).trans g5
    have pin : p ∈ (p :: facc) ++ (fx ++ O) := List.mem_append_left _ List.mem_cons_self
    have back : ∀ {H6 : Hp} {O6 fps6 δ6 msx}, voidM vs msx = ms1 → Frm cm H6 O6 msx fps6 σ4 δ6 → ∃ fps7, Frm cm H6 O6 ms1 fps7 σ (voidL vs δ6) ∧ ∀ a ∈ fps7.flatten, a ∈ fps6.flatten := by
      intro H6 O6 fps6 δ6 msx hx F6
      obtain ⟨fps7, F7, s7⟩ := F6.voidL vs
      rw [hx] at F7
      refine ⟨fps7, F7.swap l4'.symm fun i => ?_, s7⟩
      by_cases e : i ∈ vs
      · exact .inl (hv i e)
      · exact .inr (s4' i e).symm
    cases b with
    | false =>
      have e3 : lcL vs gm ga ge (its.drop (i + 1)) (voidL vs δ4) = some (qs, δq) := e3
      obtain ⟨fps7, F7, s7⟩ := back h2 F5
      refine ⟨voidL vs δ4, fps7, acc, facc, dacc, g35.pres p _ ha (Fi.disj p pin), by omega, ?_, F7, ?_, by rw [e3]; rfl⟩
      · refine ra.keep (g35.sub' s7) (fun a z => ?_) (fun a z => inA_iff.mpr (.inl z)) fun a z => Fi.disj a (List.mem_append_left _ (List.mem_cons_of_mem _ z))
        rcases inA_iff.mp z with z | z
        · exact .inr z
        · exact .inl (inA_iff.mpr (.inr z))
      · exact gi2.trans ((g35.sub' s7).add)
    | true =>
      have e3 : ((ge δ4).bind fun q => (lcL vs gm ga ge (its.drop (i + 1)) (voidL vs q.2)).map fun s => (q.1 :: s.1, s.2)) = some (qs, δq) := e3
      obtain ⟨⟨dy, δ5⟩, e7, e3⟩ := Option.bind_eq_some_iff.mp e3
      obtain ⟨⟨ss, δs⟩, e8, e3⟩ := Option.map_eq_some_iff.mp e3
      cases e3
      refine he σ4 H5 _ δ4 fps5 F5 dy δ5 e7 _ fun y fy H6 fps6 ry F6 g6 => ?_
      have g36 : Go H' fpsi.flatten H6 (fy ++ fps6.flatten) := g35.trans g6
      have hp6 : H6 p = some (.lst acc) := g36.pres p _ ha (Fi.disj p pin)
      refine ⟨acc, hp6, Nat.lt_of_le_of_lt hal (Nat.lt_of_lt_of_le (Nat.lt_trans hlt hlim) lim_line), ?_⟩
      obtain ⟨fps7, F7, s7⟩ := back h3 F6
      -- the new order of what lies aside
      have per : (fy ++ ((p :: facc) ++ (fx ++ O))).Perm ((p :: (facc ++ fy)) ++ (fx ++ O)) := by
        rw [List.cons_append, List.cons_append, List.append_assoc]
        exact List.perm_middle.trans (List.Perm.cons p (List.perm_append_comm_assoc fy facc _))
      have F8 : Frm cm H6 ((p :: (facc ++ fy)) ++ (fx ++ O)) ms1 fps7 σ (voidL vs δ5) :=
        ⟨F7.rp.congr fun a z => by
          rcases inA_iff.mp z with z | z
          · exact inA_iff.mpr (.inl z)
          · exact inA_iff.mpr (.inr (per.mem_iff.mpr z)), (List.Perm.nodup_iff (List.Perm.append_left _ per)).mp F7.nd, fun a z => F7.al a (by
            rcases List.mem_append.mp z with z | z
            · exact List.mem_append_left _ z
            · exact List.mem_append_right _ (per.mem_iff.mpr z))⟩
      have pin8 : p ∈ (p :: (facc ++ fy)) ++ (fx ++ O) := List.mem_append_left _ List.mem_cons_self
      have nd8 := (List.nodup_append.mp F8.nd).2.1
      have npf : p ∉ facc ++ fy := fun z => (List.nodup_cons.mp (show (p :: ((facc ++ fy) ++ (fx ++ O))).Nodup from nd8)).1 (List.mem_append_left _ z)
      have ry8 : Rp cm H6 (inA fps7 ((p :: (facc ++ fy)) ++ (fx ++ O))) m fy y dy := ry.less fun a z => by
        rcases inA_iff.mp z with z | z
        · exact inA_iff.mpr (.inl (s7 a z))
        · exact inA_iff.mpr (.inr (per.mem_iff.mpr z))
      have ra8 : RpL cm H6 (inA fps7 ((p :: (facc ++ fy)) ++ (fx ++ O))) m facc acc dacc := by
        refine ra.keep g36 (fun a z => ?_) (fun a z => inA_iff.mpr (.inl z)) fun a z => Fi.disj a (List.mem_append_left _ (List.mem_cons_of_mem _ z))
        rcases inA_iff.mp z with z | z
        · exact .inr (List.mem_append_right _ (s7 a z))
        · rcases List.mem_append.mp (per.mem_iff.mpr z) with z | z
          · exact .inr (List.mem_append_left _ z)
          · exact .inl (inA_iff.mpr (.inr z))
      have hA : inA fps7 ((p :: (facc ++ fy)) ++ (fx ++ O)) p := inA_iff.mpr (.inr pin8)
      refine ⟨voidL vs δ5, fps7, acc ++ [y], facc ++ fy, dacc ++ [dy], upd_same, by simp; omega, ?_, F8.upd pin8, ?_, ?_⟩
      · refine RpL.append (upd_rpl ra8 hA fun z => npf (List.mem_append_left _ z)) ?_
        have := RpL.cons (upd_rp (o := .lst (acc ++ [y])) ry8 hA fun z => npf (List.mem_append_right _ z)) (RpL.nil (m := m))
        rw [List.append_nil] at this
        exact this
      · -- what has changed
        have gA : Go H1 fps1.flatten H6 ((p :: facc) ++ (fy ++ fps6.flatten)) := gi2.trans (g36.add)
        have gB : Go H6 ((p :: facc) ++ (fy ++ fps6.flatten)) (L2.upd H6 p (.lst (acc ++ [y]))) ((p :: (facc ++ fy)) ++ fps7.flatten) := by
          refine ⟨fun b u e n => ?_, fun b z => .inl ?_, fun b z => ?_⟩
          · rw [upd_ne (by rintro rfl; exact n (List.mem_append_left _ List.mem_cons_self))]
            exact e
          · rcases List.mem_append.mp z with z | z
            · rcases List.mem_cons.mp z with z | z
              · exact List.mem_append_left _ (by rw [z]; exact List.mem_cons_self)
              · rcases List.mem_append.mp z with z | z
                · exact List.mem_append_left _ (List.mem_cons_of_mem _ z)
                · exact List.mem_append_right _ (List.mem_append_left _ z)
            · exact List.mem_append_right _ (List.mem_append_right _ (s7 b z))
          · by_cases e : b = p
            · rw [e, upd_same]; simp
            · rw [upd_ne e]; exact z
        exact gA.trans gB
      · have e8 : lcL vs gm ga ge (its.drop (i + 1)) (voidL vs δ5) = some (ss, δs) := e8
        rw [e8]
        simp
  · refine .inl ⟨w1 i (by omega), ?_⟩
    have hd : its.drop i = [] := List.drop_eq_nil_of_le (by omega)
    rw [hd] at ei
    have ei : some (dacc ++ [], δi) = some (ds, δ9) := ei
    rw [List.append_nil] at ei
    cases ei
    have sl : List.Sublist ((p :: facc) ++ O) ((p :: facc) ++ (fx ++ O)) := sl_mid _ _ _
    refine q (.ref p) (p :: facc) H' fpsi (.lstO ha (ra.less (inA.sub sl))) (Fi.subO sl) ?_
    exact (g1.sub' (f := fps1.flatten) fun a z => List.mem_append_right _ z).trans gi2
end
end DL

namespace DL
open PySem L2

/-! ### defs: a promise by a mirror -/
/-- iI, iO: the modes of the parameters that are handed back, at the call, at the end; mp: those of the others -/
def spM (cm : Gm) (iI iO mp : List Mo) (rm : Mo) (mm : List D → Option (D × List D)) : Sp := fun vs H Q _ =>
  vs.length = (iI ++ mp).length ∧ ∃ O f ds d ios, Frm cm H (f ++ O) [] [] [] [] ∧ RpM cm H (inA [] (f ++ O)) (iI ++ mp) f vs ds ∧ mm ds = some (d, ios) ∧
    ∀ v fv fi H', Frm cm H' (fv ++ (fi ++ O)) [] [] [] [] → Rp cm H' (inA [] (fv ++ (fi ++ O))) rm fv v d → RpM cm H' (inA [] (fv ++ (fi ++ O))) iO fi (vs.take iO.length) ios → Go H f H' (fv ++ fi) → Q v H'
def mFn (N : Nat) (g : MS) : List D → Option (D × List D) := fun ds => (g (ds ++ List.replicate (N - ds.length) .hole)).bind fun o => match o with
  | .rt d ios => some (d, ios)
  | _ => none
/-- .. one that may come to its end -/
def mFnN (N k : Nat) (g : MS) : List D → Option (D × List D) := fun ds => (g (ds ++ List.replicate (N - ds.length) .hole)).bind fun o => match o with
  | .rt d ios => some (d, ios)
  | .nx δ => some (.non, δ.take k)
  | _ => none
section
variable {cm : Gm} {c : Cfg} {H H1 H2 H' : Hp} {O fp fp1 fp2 f f' : List Addr} {ms ms' ms1 ms2 ms3 : List Mo} {fps fps' fps1 : List (List Addr)} {σ σ' σ1 : List (Option V)} {δ δ' : List D} {m ma mb mc m0 m1 rm : Mo} {v : V} {d : D} {A : Addr → Prop}
variable {ta tb tc te : TE} {tt tu : TT} {t u : TS} {fa fb fc g : ME} {ga gb : MT} {gs gr : MS} {i j : Nat} {De : Ends} {out : Out}

theorem RpM.toE : ∀ {ms f vs ds}, RpM cm H A ms f vs ds → ∃ fps, fps.flatten = f ∧ RpE cm H A ms fps (vs.map some) ds
  | _, _, _, _, .nil => ⟨[], rfl, .nil⟩
  | _, _, _, _, .cons h r => by
    obtain ⟨fps, e, q⟩ := RpM.toE r
    exact ⟨_ :: fps, by rw [List.flatten_cons, e], .su h q⟩
theorem RpE.app : ∀ {ms fps σ δ ms' fps' σ' δ'}, RpE cm H A ms fps σ δ → RpE cm H A ms' fps' σ' δ' → RpE cm H A (ms ++ ms') (fps ++ fps') (σ ++ σ') (δ ++ δ')
  | _, _, _, _, _, _, _, _, .nil, q => q
  | _, _, _, _, _, _, _, _, .su h r, q => .su h (RpE.app r q)
  | _, _, _, _, _, _, _, _, .no r, q => .no (RpE.app r q)
theorem RpE.holes : ∀ n : Nat, RpE cm H A (List.replicate n .hole) (List.replicate n []) (List.replicate n none) (List.replicate n .hole)
  | 0 => .nil
  | n + 1 => .no (RpE.holes n)
theorem flat_nils : ∀ n : Nat, (List.replicate n ([] : List Addr)).flatten = []
  | 0 => rfl
  | n + 1 => by rw [List.replicate_succ, List.flatten_cons, flat_nils n]; rfl
theorem RpM.len2 : ∀ {ms f vs ds}, RpM cm H A ms f vs ds → ms.length = ds.length
  | _, _, _, _, .nil => rfl
  | _, _, _, _, .cons _ r => by simp [RpM.len2 r]
theorem Frm.give (F : Frm cm H (f ++ O) ms fps σ δ) : Frm cm H (f ++ (fps.flatten ++ O)) [] [] [] [] := by
  have p : (fps.flatten ++ (f ++ O)).Perm (f ++ (fps.flatten ++ O)) := List.perm_append_comm_assoc _ _ _
  exact ⟨.nil, (p.nodup_iff).mp F.nd, fun a z => F.al a (p.mem_iff.mpr z)⟩
theorem RpE.keep {A' : Addr → Prop} (h : RpE cm H A ms fps σ δ) (g : Go H fp H' fp1) (hA : ∀ a, A' a → A a ∨ a ∈ fp1) (hf : ∀ a ∈ fp, A a) (dj : ∀ a ∈ fps.flatten, a ∉ fp) : RpE cm H' A' ms fps σ δ :=
  h.mono (fun a o e n z => (hA a z).elim n fun q => (g.sub a q).elim (fun q => n (hf a q)) fun q => by rw [q] at e; cases e) fun a o e z => g.pres a o e fun q => z.elim (fun n => n (hf a q)) fun z => dj a z q
theorem Frm.frame (F : Frm cm H (f ++ O) ms fps σ δ) (g : Go H f H' f') (F' : Frm cm H' (f' ++ (fps.flatten ++ O)) [] [] [] []) : Frm cm H' (f' ++ O) ms fps σ δ := by
  have p : (fps.flatten ++ (f' ++ O)).Perm (f' ++ (fps.flatten ++ O)) := List.perm_append_comm_assoc _ _ _
  refine ⟨F.rp.keep g (fun a z => ?_) (fun a z => inA_app.mpr (.inr (.inl z))) fun a z y => F.disj a (List.mem_append_left _ y) z, (p.nodup_iff).mpr F'.nd, fun a z => F'.al a (p.mem_iff.mp z)⟩
  rw [inA_app] at z
  rw [inA_app]
  rcases z with z | z | z
  · exact .inl (.inl z)
  · exact .inr z
  · exact .inl (.inr (.inr z))
theorem Frm.permO {O O2 : List Addr} (F : Frm cm H O ms fps σ δ) (p : O.Perm O2) : Frm cm H O2 ms fps σ δ :=
  have q : (fps.flatten ++ O).Perm (fps.flatten ++ O2) := List.Perm.append_left _ p
  ⟨F.rp.congr fun a z => q.mem_iff.mpr z, (q.nodup_iff).mp F.nd, fun a z => F.al a (q.mem_iff.mpr z)⟩
theorem set_same {α : Type} {l : List α} {i : Nat} {x : α} (h : l[i]? = some x) : l.set i x = l := by
  apply List.ext_getElem?
  intro j
  by_cases hj : i = j
  · subst hj
    rw [List.getElem?_set_self (List.getElem?_eq_some_iff.mp h).1, h]
  · rw [List.getElem?_set_ne hj]

/-- a def's body keeps its promise -/
theorem start_eq {N : List Str} {vs : List V} {ms mp : List Mo} (N' : Nat) (hl : vs.length = ms.length) : L2.start N vs = vs.map some ++ List.replicate (N.length - ms.length) none := by
  rw [L2.start, hl]
theorem def_core {N : List Str} {iI iO mp : List Mo} {vs : List V} {O f : List Addr} {ds : List D} (hl : vs.length = (iI ++ mp).length) (F : Frm cm H (f ++ O) [] [] [] []) (r : RpM cm H (inA [] (f ++ O)) (iI ++ mp) f vs ds) :
    ∃ fps, fps.flatten = f ∧ Frm cm H O ((iI ++ mp) ++ List.replicate (N.length - (iI ++ mp).length) .hole) fps (L2.start N vs) (ds ++ List.replicate (N.length - ds.length) .hole) := by
  obtain ⟨fps, e, q⟩ := r.toE
  have q2 := q.app (RpE.holes (N.length - (iI ++ mp).length))
  refine ⟨fps ++ List.replicate (N.length - (iI ++ mp).length) [], by rw [List.flatten_append, flat_nils, List.append_nil, e], ?_⟩
  have ef : (fps ++ List.replicate (N.length - (iI ++ mp).length) ([] : List Addr)).flatten = f := by rw [List.flatten_append, flat_nils, List.append_nil, e]
  refine ⟨?_, by rw [ef]; exact F.nd, fun a z => F.al a (by rw [ef] at z; exact z)⟩
  rw [L2.start, hl, ← r.len2]
  refine q2.congr fun a z => ?_
  have z : a ∈ (fps ++ List.replicate (N.length - (iI ++ mp).length) ([] : List Addr)).flatten ++ O := z
  rw [ef] at z
  exact z
theorem take_start {N : List Str} {vs vs' : List V} {k : Nat} (hk : k ≤ vs.length) (h : (L2.start N vs).take k = vs'.map some) : vs' = vs.take k := by
  have e : (L2.start N vs).take k = (vs.take k).map some := by
    rw [L2.start, List.take_append_of_le_length (by simpa using hk), List.map_take]
  rw [e] at h
  exact (List.map_inj_right (fun a b e => Option.some.inj e)).mp h.symm
theorem def_ok {N : List Str} {iI iO mp : List Mo} {vs : List V} {Q : VK} {E : XK} (hr : RS cm ⟨iO, rm, []⟩ t ((iI ++ mp) ++ List.replicate (N.length - (iI ++ mp).length) .hole) ms' gs) (hio : iO.length = iI.length := by rfl)
    (h : spM cm iI iO mp rm (mFn N.length gs) vs H Q E) : t { nx := fun _ H' => Q .non H', rt := Q } (L2.start N vs) H := by
  obtain ⟨hl, O, f, ds, d, ios, F, r, e, q⟩ := h
  obtain ⟨fps, rfl, F1⟩ := def_core (N := N) (iO := iO) hl F r
  obtain ⟨o, e1, e⟩ := Option.bind_eq_some_iff.mp e
  refine hr (L2.start N vs) H O _ fps F1 o e1 _ ?_
  cases o with
  | rt d1 ios1 =>
    cases e
    intro v fv fi H' vs' ev F2 r2 ri g2
    have := take_start (by rw [hl, List.length_append]; show iO.length ≤ _; omega) ev
    subst this
    exact q v fv fi H' F2 r2 ri g2
  | _ => cases e
theorem def_okN {N : List Str} {iI iO mp : List Mo} {vs : List V} {Q : VK} {E : XK} (hr : RS cm ⟨iO, .fz, []⟩ t ((iI ++ mp) ++ List.replicate (N.length - (iI ++ mp).length) .hole) ms' gs) (hm : ms'.take iO.length = iO := by rfl) (hh : iO.all Mo.here = true := by rfl) (hio : iO.length = iI.length := by rfl)
    (h : spM cm iI iO mp .fz (mFnN N.length iO.length gs) vs H Q E) : t { nx := fun _ H' => Q .non H', rt := Q } (L2.start N vs) H := by
  obtain ⟨hl, O, f, ds, d, ios, F, r, e, q⟩ := h
  obtain ⟨fps, rfl, F1⟩ := def_core (N := N) (iO := iO) hl F r
  obtain ⟨o, e1, e⟩ := Option.bind_eq_some_iff.mp e
  refine hr (L2.start N vs) H O _ fps F1 o e1 _ ?_
  cases o with
  | rt d1 ios1 =>
    cases e
    intro v fv fi H' vs' ev F2 r2 ri g2
    have := take_start (by rw [hl, List.length_append]; show iO.length ≤ _; omega) ev
    subst this
    exact q v fv fi H' F2 r2 ri g2
  | nx δ2 =>
    cases e
    intro σ' H' fps' F2 g2 t2
    obtain ⟨vs', e2, qm⟩ := F2.rp.takeM (k := iO.length) (by rw [hm]; exact hh)
    rw [hm] at qm
    have t2 : σ'.take iO.length = (L2.start N vs).take iO.length := t2
    have := take_start (by rw [hl, List.length_append]; omega) (t2.symm.trans e2)
    subst this
    have sl := take_flat fps' iO.length
    have sl2 : List.Sublist ((fps'.take iO.length).flatten ++ O) (fps'.flatten ++ O) := List.Sublist.append sl (List.Sublist.refl _)
    exact q .non [] (fps'.take iO.length).flatten H' ⟨.nil, F2.nd.sublist sl2, fun a z => F2.al a (sl2.subset z)⟩ .non (qm.less fun a z => sl2.subset z) (g2.sub' fun a z => sl.subset z)
  | _ => cases e

/-! ### calls -/
def mCall (mm : List D → Option (D × List D)) (fa : MA) : ME := fun δ => (fa δ).bind fun p => (mm p.1).map fun q => (q.1, p.2)
def mCall1 (i : Nat) (mm : List D → Option (D × List D)) (fa : MA) : ME := fun δ => (fa δ).bind fun p => (p.2[i]?).bind fun d0 => (mm (d0 :: p.1)).bind fun q => match q.2 with
  | [d1] => some (q.1, p.2.set i d1)
  | _ => none
def mMake (c : Str) (mm : List D → Option (D × List D)) (fa : MA) : ME := fun δ => (fa δ).bind fun p => (mm (.obj c [] :: p.1)).bind fun q => match q.1, q.2 with
  | .non, [d1] => some (d1, p.2)
  | _, _ => none
theorem RE.call {t : TA} {mp : List Mo} {mm : List D → Option (D × List D)} {fr : MA} {E : XK} (ha : RA cm t ms ms1 mp fr) : RE cm (tCall (spM cm [] [] mp rm mm) [] E t) ms ms1 rm (mCall mm fr) := by
  intro σ H O δ fps F d δ' e Q q
  obtain ⟨⟨ds, δ1⟩, e1, e⟩ := Option.bind_eq_some_iff.mp e
  obtain ⟨⟨d2, ios⟩, e3, e⟩ := Option.map_eq_some_iff.mp e
  cases e
  refine ha σ H O δ fps F ds δ1 e1 _ fun vs f H1 fps1 r F1 g1 => ?_
  rw [List.append_nil]
  have aa : ∀ a, inA [] (f ++ (fps1.flatten ++ O)) a → inA fps1 (f ++ O) a := fun a z => (List.perm_append_comm_assoc fps1.flatten f O).mem_iff.mpr z
  refine ⟨by simp [r.len, r.len2], fps1.flatten ++ O, f, ds, _, ios, F1.give, r.less aa, e3, fun v fv fi H' F' rv ri g' => ?_⟩
  have hfi : fi = [] := by cases ri; rfl
  subst hfi
  rw [List.append_nil] at g'
  refine q v fv H' fps1 (rv.less fun a z => (List.perm_append_comm_assoc fps1.flatten fv O).mem_iff.mp z) (F1.frame g' F') (g1.trans (g'.mono (fun a z => List.mem_append_left _ z) fun a z => ?_))
  rcases List.mem_append.mp z with z | z
  · exact .inl z
  · exact .inr (List.mem_append_right _ z)
theorem RpM.one {iO : Mo} {fi : List Addr} {v : V} {ios : List D} (h : RpM cm H A [iO] fi [v] ios) : ∃ d, ios = [d] ∧ Rp cm H A iO fi v d := by
  cases h with
  | cons h r =>
    cases r
    rw [List.append_nil]
    exact ⟨_, rfl, h⟩
theorem RE.call1 {t : TA} {mp : List Mo} {mm : List D → Option (D × List D)} {fr : MA} {E : XK} (i : Nat) (ha : RA cm t ms ms1 mp fr) (hm : ms1[i]? = some m0) (hn : m0.here = true := by rfl) (hi : i < ms.length := by decide) (hh : ∀ m, ms[i]? = some m → m.here = true := by intro m h; cases h; rfl) :
    RE cm (tCall (spM cm [m0] [m1] mp rm mm) [] E (tCons (tVar i) t)) ms (ms1.set i m1) rm (mCall1 i mm fr) := by
  intro σ H O δ fps F d δ' e Q q
  obtain ⟨⟨ds, δ1⟩, e1, e⟩ := Option.bind_eq_some_iff.mp e
  obtain ⟨d0, e2, e⟩ := Option.bind_eq_some_iff.mp e
  obtain ⟨⟨d2, ios⟩, e3, e⟩ := Option.bind_eq_some_iff.mp e
  obtain ⟨l1, l2, l3⟩ := F.rp.len
  obtain ⟨v0, f9, s0, _, _⟩ := F.get (i := i) (m := ms[i]'hi) (by simp) (hh _ (by simp)) (d := δ[i]'(by omega)) (by simp)
  refine ⟨v0, s0, ?_⟩
  refine ha σ H O δ fps F ds δ1 e1 _ fun vs f H1 fps1 r F1 g1 => ?_
  obtain ⟨v1, f0, s1, s2, G, p⟩ := F1.take hm hn e2
  rw [s0] at s1
  cases s1
  rw [List.append_nil]
  have G1 := G.aside
  rw [← List.append_assoc] at G1
  have e2 : δ1[i]? = some d0 := e2
  -- all that stands aside, in the callee's order
  have hin : ∀ a, inA [] ((f0 ++ f) ++ ((fps1.set i []).flatten ++ O)) a → inA fps1 (f ++ O) a := fun a z => by
    have z : a ∈ (f0 ++ f) ++ ((fps1.set i []).flatten ++ O) := z
    rw [inA_app]
    rcases List.mem_append.mp z with z | z
    · rcases List.mem_append.mp z with z | z
      · exact .inl (p.mem_iff.mp (List.mem_append_left _ z))
      · exact .inr (.inl z)
    · rcases List.mem_append.mp z with z | z
      · exact .inl (p.mem_iff.mp (List.mem_append_right _ z))
      · exact .inr (.inr z)
  have r0 : Rp cm H1 (inA fps1 (f ++ O)) m0 f0 v0 d0 := by
    obtain ⟨v2, f2, s3, s4, r2⟩ := F1.get hm hn e2
    rw [s0] at s3; cases s3
    rw [s2] at s4; cases s4
    exact r2
  refine ⟨by simp [r.len, r.len2], (fps1.set i []).flatten ++ O, f0 ++ f, d0 :: ds, d2, ios, G1.give, RpM.cons (r0.less hin) (r.less hin), e3, fun v fv fi H' F' rv ri g' => ?_⟩
  obtain ⟨d1, rfl, rj⟩ := RpM.one (show RpM cm H' _ [m1] fi [v0] ios from ri)
  cases e
  -- the frame again
  have F'' : Frm cm H' ((fv ++ fi) ++ ((fps1.set i []).flatten ++ O)) [] [] [] [] := by rw [List.append_assoc]; exact F'
  have G2 := (G1.frame g' F'').permO (O2 := fi ++ (fv ++ O)) (by rw [List.append_assoc]; exact List.perm_append_comm_assoc fv fi O)
  have hi1 : i < (ms1.set i Mo.hole).length := by
    rw [List.length_set]
    exact (List.getElem?_eq_some_iff.mp hm).1
  have rr : ∀ a, inA (fps1.set i []) (fi ++ (fv ++ O)) a → inA [] (fv ++ (fi ++ ((fps1.set i []).flatten ++ O))) a := fun a z => by
    show a ∈ fv ++ (fi ++ ((fps1.set i []).flatten ++ O))
    simp only [List.mem_append]
    rw [inA_app, List.mem_append] at z
    rcases z with z | z | z | z
    · exact .inr (.inr (.inl z))
    · exact .inr (.inl z)
    · exact .inl z
    · exact .inr (.inr (.inr z))
  obtain ⟨G3, sub⟩ := G2.setSlot (rj.less rr) hi1
  rw [List.set_set, List.set_set, List.set_set, set_same s0] at G3
  rw [List.set_set] at sub
  refine q v fv H' (fps1.set i fi) (rv.less fun a z => rr a ?_) G3 ?_
  · rw [inA_app] at z ⊢
    rw [List.mem_append]
    rcases z with z | z | z
    · exact (List.mem_append.mp (sub a z)).elim (fun z => .inr (.inl z)) .inl
    · exact .inr (.inr (.inl z))
    · exact .inr (.inr (.inr z))
  · refine g1.trans (g'.mono (fun a z => ?_) fun a z => ?_)
    · rcases List.mem_append.mp z with z | z
      · exact List.mem_append_right _ (p.mem_iff.mp (List.mem_append_left _ z))
      · exact List.mem_append_left _ z
    · rcases List.mem_append.mp z with z | z
      · exact .inl (List.mem_append_left _ z)
      · rcases List.mem_append.mp (sub a z) with z | z
        · exact .inl (List.mem_append_right _ z)
        · exact .inr (List.mem_append_right _ (p.mem_iff.mp (List.mem_append_right _ z)))
theorem RE.make {cn : Str} {t : TA} {mp : List Mo} {mm : List D → Option (D × List D)} {fr : MA} {E : XK} (ha : RA cm t ms ms1 mp fr) : RE cm (tMake (cm cn) (spM cm [.o []] [m1] mp .fz mm) [] E t) ms ms1 m1 (mMake cn mm fr) := by
  intro σ H O δ fps F d δ' e Q q
  obtain ⟨⟨ds, δ1⟩, e1, e⟩ := Option.bind_eq_some_iff.mp e
  obtain ⟨⟨d2, ios⟩, e3, e⟩ := Option.bind_eq_some_iff.mp e
  refine ha σ H O δ fps F ds δ1 e1 _ fun vs f H1 fps1 r F1 g1 x dx nx ndx nex => ?_
  rw [List.append_nil]
  have k0 : ∀ a o, H1 a = some o → (L2.upd (L2.upd H1 dx (.own x)) x (.ins (cm cn) dx [])) a = some o := fun a o e => by
    rw [upd_ne (ne_of_none e nx), upd_ne (ne_of_none e ndx)]; exact e
  have g0 : Go H1 [] (L2.upd (L2.upd H1 dx (.own x)) x (.ins (cm cn) dx [])) [] := ⟨fun a o e _ => k0 a o e, fun a z => (nomatch z), fun a z => by
    cases e : H1 a with
    | none => exact absurd e z
    | some o => rw [k0 a o e]; simp⟩
  have F2 : Frm cm (L2.upd (L2.upd H1 dx (.own x)) x (.ins (cm cn) dx [])) (x :: (f ++ O)) ms1 fps1 σ δ1 := by
    have Fa := (F1.fresh (o := .own x) ndx).subO (List.sublist_cons_self dx _)
    exact Fa.fresh (by rw [upd_ne nex.symm]; exact nx)
  have r2 : RpM cm (L2.upd (L2.upd H1 dx (.own x)) x (.ins (cm cn) dx [])) (inA fps1 (x :: (f ++ O))) mp f vs ds := by
    refine r.mono (fun a o e n z => ?_) fun a o e _ => k0 a o e
    rcases inA_iff.mp z with z | z
    · exact n (inA_iff.mpr (.inl z))
    · rcases List.mem_cons.mp z with z | z
      · rw [z, nx] at e; cases e
      · exact n (inA_iff.mpr (.inr z))
  have aa : ∀ a, inA [] ((x :: f) ++ (fps1.flatten ++ O)) a → inA fps1 (x :: (f ++ O)) a := fun a z => by
    have z : a ∈ (x :: f) ++ (fps1.flatten ++ O) := z
    rw [inA_iff]
    rcases List.mem_append.mp z with z | z
    · rcases List.mem_cons.mp z with z | z
      · exact .inr (by rw [z]; exact List.mem_cons_self)
      · exact .inr (List.mem_cons_of_mem _ (List.mem_append_left _ z))
    · exact (List.mem_append.mp z).imp id fun z => List.mem_cons_of_mem _ (List.mem_append_right _ z)
  have rx : Rp cm (L2.upd (L2.upd H1 dx (.own x)) x (.ins (cm cn) dx [])) (inA [] ((x :: f) ++ (fps1.flatten ++ O))) (.o []) [x] (.ref x) (.obj cn []) := .objO upd_same rfl .nil
  refine ⟨by simp [r.len, r.len2], fps1.flatten ++ O, x :: f, .obj cn [] :: ds, d2, ios, Frm.give (f := x :: f) F2, RpM.cons rx (r2.less aa), e3, fun v fv fi H' F' rv ri g' => ?_⟩
  obtain ⟨d1, rfl, rj⟩ := RpM.one (show RpM cm H' _ [m1] fi [V.ref x] ios from ri)
  have hfv := rv.fz_nil; subst hfv
  cases d2 with
  | non =>
    cases e
    have hv : v = .non := by cases rv; rfl
    refine ⟨hv, q (.ref x) fi H' fps1 (rj.less fun a z => (List.perm_append_comm_assoc fps1.flatten fi O).mem_iff.mp z) ?_ ?_⟩
    · exact Frm.frame (f := x :: f) F2 g' F'
    · have g01 : Go H1 (f ++ fps1.flatten) (L2.upd (L2.upd H1 dx (.own x)) x (.ins (cm cn) dx [])) ((x :: f) ++ fps1.flatten) := ⟨fun a o e _ => k0 a o e, fun a z => by
        rcases List.mem_cons.mp (show a ∈ x :: (f ++ fps1.flatten) from z) with z | z
        · exact .inr (by rw [z]; exact nx)
        · exact .inl z, g0.al⟩
      refine (g1.trans g01).trans (g'.mono (fun a z => List.mem_append_left _ z) fun a z => ?_)
      exact (List.mem_append.mp z).imp id (List.mem_append_right _)
  | _ => cases e
end
end DL

namespace DL
open PySem L2

/-! ### == of data -/
mutual
def eqB : D → D → Bool
  | .non, .non => true
  | .bl a, .bl b => a == b
  | .bl a, .int j => (if a then 1 else 0) == j
  | .int i, .bl b => i == (if b then 1 else 0)
  | .int i, .int j => i == j
  | .str x, .str y => x == y
  | .lst xs, .lst ys => eqBs xs ys
  | .tup xs, .tup ys => eqBs xs ys
  | _, _ => false
def eqBs : List D → List D → Bool
  | [], [] => true
  | x :: xs, y :: ys => eqB x y && eqBs xs ys
  | _, _ => false
end
mutual
/-- data that == knows, not too deep -/
def okD : Nat → D → Bool
  | _, .non => true
  | _, .bl _ => true
  | _, .int _ => true
  | _, .str x => PyData.strOk x
  | n + 1, .lst xs => okDs n xs
  | n + 1, .tup xs => okDs n xs
  | _, _ => false
def okDs : Nat → List D → Bool
  | _, [] => true
  | n, x :: xs => okD n x && okDs n xs
end
mutual
def toPy : D → PyData
  | .bl b => .bool b
  | .int i => .int i
  | .str x => .str x
  | .lst xs => .list (toPys xs)
  | .tup xs => .tuple (toPys xs)
  | _ => .none
def toPys : List D → List PyData
  | [] => []
  | x :: xs => toPy x :: toPys xs
end
theorem okDs_all (n : Nat) : ∀ xs : List D, okDs n xs = xs.all (okD n)
  | [] => by simp [okDs]
  | x :: xs => by rw [okDs, okDs_all n xs, List.all_cons]
mutual
theorem toPy_ok : ∀ (n : Nat) (d : D), okD n d = true → (toPy d).canLay0 = true ∧ (toPy d).depth ≤ n
  | _, .non, _ => ⟨rfl, Nat.zero_le _⟩
  | _, .bl _, _ => ⟨rfl, Nat.zero_le _⟩
  | _, .int _, _ => ⟨rfl, Nat.zero_le _⟩
  | _, .str x, h => ⟨by rw [okD] at h; rw [toPy, PyData.canLay0]; exact h, by rw [toPy, PyData.depth]; exact Nat.zero_le _⟩
  | 0, .lst _, h => by simp [okD] at h
  | 0, .tup _, h => by simp [okD] at h
  | n + 1, .lst xs, h => by
    rw [okD] at h
    obtain ⟨h1, h2⟩ := toPys_ok n xs h
    rw [toPy, PyData.canLay0, PyData.depth]
    exact ⟨h1, by omega⟩
  | n + 1, .tup xs, h => by
    rw [okD] at h
    obtain ⟨h1, h2⟩ := toPys_ok n xs h
    rw [toPy, PyData.canLay0, PyData.depth]
    exact ⟨h1, by omega⟩
  | _, .hole, h => by simp [okD] at h
  | _, .ty _, h => by simp [okD] at h
  | _, .ref _, h => by simp [okD] at h
  | _, .cls _, h => by simp [okD] at h
  | _, .scr _, h => by simp [okD] at h
  | _, .dct _, h => by simp [okD] at h
  | _, .obj _ _, h => by simp [okD] at h
theorem toPys_ok : ∀ (n : Nat) (ds : List D), okDs n ds = true → PyData.canLayAll0 (toPys ds) = true ∧ PyData.depthAll (toPys ds) ≤ n
  | n, [], _ => ⟨by rw [toPys, PyData.canLayAll0], by rw [toPys, PyData.depthAll]; exact Nat.zero_le _⟩
  | n, x :: xs, h => by
    rw [okDs, Bool.and_eq_true] at h
    obtain ⟨a1, a2⟩ := toPy_ok n x h.1
    obtain ⟨b1, b2⟩ := toPys_ok n xs h.2
    rw [toPys, PyData.canLayAll0, PyData.depthAll, a1, b1]
    exact ⟨rfl, Nat.max_le.mpr ⟨a2, b2⟩⟩
end
mutual
theorem eqv_eqB : ∀ (n m : Nat) (d e : D), okD n d = true → okD m e = true → PyData.eqv (toPy d) (toPy e) = eqB d e
  | n, m, d, e, hd, he => by
    cases d with
    | lst xs =>
      cases n with
      | zero => simp [okD] at hd
      | succ n =>
        rw [okD] at hd
        cases e with
        | lst ys =>
          cases m with
          | zero => simp [okD] at he
          | succ m =>
            rw [okD] at he
            rw [toPy, toPy, PyData.eqv, eqB]
            exact eqvs_eqBs n m xs ys hd he
        | _ => first | (simp [okD] at he; done) | (simp [toPy, PyData.eqv, eqB])
    | tup xs =>
      cases n with
      | zero => simp [okD] at hd
      | succ n =>
        rw [okD] at hd
        cases e with
        | tup ys =>
          cases m with
          | zero => simp [okD] at he
          | succ m =>
            rw [okD] at he
            rw [toPy, toPy, PyData.eqv, eqB]
            exact eqvs_eqBs n m xs ys hd he
        | _ => first | (simp [okD] at he; done) | (simp [toPy, PyData.eqv, eqB])
    | _ => first
      | (simp [okD] at hd; done)
      | (cases e <;> first | (simp [okD] at he; done) | (simp [toPy, PyData.eqv, eqB]; done))
theorem eqvs_eqBs : ∀ (n m : Nat) (ds es : List D), okDs n ds = true → okDs m es = true → PyData.eqvAll (toPys ds) (toPys es) = eqBs ds es
  | n, m, [], [], _, _ => by rw [toPys, PyData.eqvAll, eqBs]
  | n, m, [], y :: ys, _, _ => by rw [toPys, toPys, PyData.eqvAll, eqBs]; all_goals (intros; simp_all)
  | n, m, x :: xs, [], _, _ => by rw [toPys, toPys, PyData.eqvAll, eqBs]; all_goals (intros; simp_all)
  | n, m, x :: xs, y :: ys, hd, he => by
    rw [okDs, Bool.and_eq_true] at hd he
    rw [toPys, toPys, PyData.eqvAll, eqBs, eqv_eqB n m x y hd.1 he.1, eqvs_eqBs n m xs ys hd.2 he.2]
end

section
variable {cm : Gm} {c : Cfg} {H H1 H2 H' : Hp} {O fp fp1 fp2 f f' : List Addr} {ms ms' ms1 ms2 ms3 : List Mo} {fps fps' fps1 : List (List Addr)} {σ σ' σ1 : List (Option V)} {δ δ' : List D} {m ma mb mc m0 m1 rm : Mo} {v : V} {d : D} {A : Addr → Prop}
variable {ta tb tc te : TE} {tt tu : TT} {t u : TS} {fa fb fc g : ME} {ga gb : MT} {gs gr : MS} {i j : Nat} {De : Ends} {out : Out}

mutual
theorem Rp.dp : ∀ {n m fp v d}, Rp cm H A m fp v d → okD n d = true → Dp cm.K H v (toPy d)
  | _, _, _, _, _, .hole, e => by simp [okD] at e
  | _, _, _, _, _, .non, _ => .non
  | _, _, _, _, _, .bl, _ => .bl _
  | _, _, _, _, _, .int, _ => .int _
  | _, _, _, _, _, .str, _ => .str _
  | _, _, _, _, _, .ty, e => by simp [okD] at e
  | _, _, _, _, _, .ref, e => by simp [okD] at e
  | _, _, _, _, _, .cls, e => by simp [okD] at e
  | 0, _, _, _, _, .tup _ _ _, e => by simp [okD] at e
  | n + 1, _, _, _, _, .tup h _ r, e => .tup (.inl (.inl h)) (RpL.dp (n := n) r (by rw [okD] at e; exact e))
  | 0, _, _, _, _, .lst _ _ _, e => by simp [okD] at e
  | n + 1, _, _, _, _, .lst h _ r, e => .lst (.inl (.inl h)) (RpL.dp (n := n) r (by rw [okD] at e; exact e))
  | _, _, _, _, _, .scr _ _ _, e => by simp [okD] at e
  | _, _, _, _, _, .scrK _ _, e => by simp [okD] at e
  | _, _, _, _, _, .dct _ _ _ _, e => by simp [okD] at e
  | _, _, _, _, _, .obj _ _ _ _, e => by simp [okD] at e
  | 0, _, _, _, _, .lstO _ _, e => by simp [okD] at e
  | n + 1, _, _, _, _, .lstO h r, e => .lst (.inl (.inl h)) (RpL.dp (n := n) r (by rw [okD] at e; exact e))
  | _, _, _, _, _, .dctO _ _ _, e => by simp [okD] at e
  | _, _, _, _, _, .objO _ _ _, e => by simp [okD] at e
theorem RpL.dp : ∀ {n m fp vs ds}, RpL cm H A m fp vs ds → okDs n ds = true → DpAll cm.K H vs (toPys ds)
  | _, _, _, _, _, .nil, _ => .nil
  | n, _, _, _, _, .cons h r, e => by
    rw [okDs, Bool.and_eq_true] at e
    exact .cons (Rp.dp h e.1) (RpL.dp r e.2)
end

/-! ### operations -/
theorem Ret.int {Q : VK} {n : Int} (F : Frm cm H O ms fps σ δ) (h : Ret cm H O ms fps σ δ .fz (.int n) Q) : Q (.int n) H := h.here F .int
theorem Ret.bl {Q : VK} {n : Bool} (F : Frm cm H O ms fps σ δ) (h : Ret cm H O ms fps σ δ .fz (.bl n) Q) : Q (.bl n) H := h.here F .bl

def eqD (d e : D) : Option D := if okD 8 d = true ∧ okD 8 e = true then some (.bl (eqB d e)) else none
def neD (d e : D) : Option D := if okD 8 d = true ∧ okD 8 e = true then some (.bl (!eqB d e)) else none
theorem shaped8 {d : D} (h : okD 8 d = true) : SeqAt.shaped (toPy d) = true := by
  obtain ⟨a, b⟩ := toPy_ok 8 d h
  unfold SeqAt.shaped
  rw [a, decide_eq_true (by omega)]
  rfl
theorem O2.eq : O2 cm (rEqD cm.K) ma mb .fz eqD := by
  intro H O ms fps σ δ x y fx fy da db F rx ry d e Q q
  unfold eqD at e
  split at e
  · rename_i h
    cases e
    refine ⟨toPy da, toPy db, rx.dp h.1, ry.dp h.2, shaped8 h.1, shaped8 h.2, ?_⟩
    rw [eqv_eqB 8 8 da db h.1 h.2]
    exact q.bl F
  · cases e
theorem O2.ne : O2 cm (rNeD cm.K) ma mb .fz neD := by
  intro H O ms fps σ δ x y fx fy da db F rx ry d e Q q
  unfold neD at e
  split at e
  · rename_i h
    cases e
    refine ⟨toPy da, toPy db, rx.dp h.1, ry.dp h.2, shaped8 h.1, shaped8 h.2, ?_⟩
    rw [eqv_eqB 8 8 da db h.1 h.2]
    exact q.bl F
  · cases e
/-- ints -/
def intO (C : Int → Int → Bool) (g : Int → Int → D) : D → D → Option D
  | .int i, .int j => if C i j = true then some (g i j) else none
  | _, _ => none
def intT (g : Int → Int → D) : D → D → Option D
  | .int i, .int j => some (g i j)
  | _, _ => none
theorem O2.I0 {g : Int → Int → V} {gd : Int → Int → D} (h : ∀ i j H A, Rp cm H A .fz [] (g i j) (gd i j)) : O2 cm (rI0 g) .fz .fz .fz (intT gd) := by
  intro H O ms fps σ δ x y fx fy da db F rx ry d e Q q
  cases da <;> try cases e
  cases db <;> try cases e
  cases rx
  cases ry
  exact ⟨_, _, rfl, rfl, q.here F (h _ _ _ _)⟩
theorem O2.I {C : Int → Int → Prop} {Cb : Int → Int → Bool} {g : Int → Int → V} {gd : Int → Int → D} (hC : ∀ i j, Cb i j = true → C i j) (h : ∀ i j H A, Rp cm H A .fz [] (g i j) (gd i j)) : O2 cm (rI C g) .fz .fz .fz (intO Cb gd) := by
  intro H O ms fps σ δ x y fx fy da db F rx ry d e Q q
  cases da <;> try cases e
  cases db <;> try cases e
  cases rx
  cases ry
  rename_i i j
  have e : (if Cb i j = true then some (gd i j) else none) = some d := e
  split at e
  · rename_i hc
    cases e
    exact ⟨_, _, rfl, rfl, hC _ _ hc, q.here F (h _ _ _ _)⟩
  · cases e
def addI := intT fun i j => .int (i + j)
def subI := intT fun i j => .int (i - j)
def okMul (i j : Int) : Bool := decide ((-(2 ^ 64) < i ∧ i < 2 ^ 64) ∨ (-(2 ^ 64) < j ∧ j < 2 ^ 64))
def mulI := intO okMul fun i j => .int (i * j)
def okDiv (_ j : Int) : Bool := decide (0 < j ∧ j < 1073741824)
def divI := intO okDiv fun i j => .int (i / j)
def okMod (_ j : Int) : Bool := decide (0 < j)
def modI := intO okMod fun i j => .int (i % j)
def okPow (i j : Int) : Bool := decide (0 ≤ j ∧ j ≤ 1000000 ∧ i.natAbs < 2 ^ 64)
def powI := intO okPow fun i j => .int (i ^ j.toNat)
def ltI := intT fun i j => .bl (decide (i < j))
def leI := intT fun i j => .bl (decide (i ≤ j))
def gtI := intT fun i j => .bl (decide (j < i))
def geI := intT fun i j => .bl (decide (j ≤ i))
theorem O2.add : O2 cm (rI0 fun i j => .int (i + j)) .fz .fz .fz addI := O2.I0 fun _ _ _ _ => .int
theorem O2.sub : O2 cm (rI0 fun i j => .int (i - j)) .fz .fz .fz subI := O2.I0 fun _ _ _ _ => .int
theorem O2.mul : O2 cm (rI CMul fun i j => .int (i * j)) .fz .fz .fz mulI := O2.I (fun i j h => by have h : ((-(2 ^ 64) < i ∧ i < 2 ^ 64) ∨ (-(2 ^ 64) < j ∧ j < 2 ^ 64)) := of_decide_eq_true h; exact h) fun _ _ _ _ => .int
theorem O2.fdiv : O2 cm (rI CDiv fun i j => .int (i / j)) .fz .fz .fz divI := O2.I (fun i j h => by have h : (0 < j ∧ j < 1073741824) := of_decide_eq_true h; exact h) fun _ _ _ _ => .int
theorem O2.mod : O2 cm (rI (fun _ j => 0 < j) fun i j => .int (i % j)) .fz .fz .fz modI := O2.I (fun i j h => of_decide_eq_true h) fun _ _ _ _ => .int
theorem O2.pow : O2 cm (rI CPow fun i j => .int (i ^ j.toNat)) .fz .fz .fz powI := O2.I (fun i j h => by have h : (0 ≤ j ∧ j ≤ 1000000 ∧ i.natAbs < 2 ^ 64) := of_decide_eq_true h; exact h) fun _ _ _ _ => .int
theorem O2.lt : O2 cm (rI0 fun i j => .bl (decide (i < j))) .fz .fz .fz ltI := O2.I0 fun _ _ _ _ => .bl
theorem O2.le : O2 cm (rI0 fun i j => .bl (decide (i ≤ j))) .fz .fz .fz leI := O2.I0 fun _ _ _ _ => .bl
theorem O2.gt : O2 cm (rI0 fun i j => .bl (decide (j < i))) .fz .fz .fz gtI := O2.I0 fun _ _ _ _ => .bl
theorem O2.ge : O2 cm (rI0 fun i j => .bl (decide (j ≤ i))) .fz .fz .fz geI := O2.I0 fun _ _ _ _ => .bl
def negI : D → Option D
  | .int i => some (.int (-i))
  | _ => none
theorem O1.neg : O1 cm (rU fun i => .int (-i)) .fz .fz negI := by
  intro H O ms fps σ δ x fx da F rx d e Q q
  cases da <;> try cases e
  cases rx
  exact ⟨_, rfl, q.int F⟩
/-- is None, is not None -/
def isN (d e : D) : Option D := match d, e with
  | .non, .non => some (.bl true)
  | .hole, .non => none
  | _, .non => some (.bl false)
  | _, _ => none
def notN (d e : D) : Option D := match d, e with
  | .non, .non => some (.bl false)
  | .hole, .non => none
  | _, .non => some (.bl true)
  | _, _ => none
theorem Rp.non_iff (h : Rp cm H A m f v d) (hd : d ≠ .hole) : v = .non ↔ d = .non := by
  cases h <;> simp at hd ⊢
theorem O2.isN : O2 cm (fun x y H Q => y = .non ∧ Q (.bl (decide (x = .non))) H) ma .fz .fz isN := by
  intro H O ms fps σ δ x y fx fy da db F rx ry d e Q q
  cases db with
  | non =>
    cases ry
    refine ⟨rfl, ?_⟩
    cases da with
    | hole => cases e
    | non =>
      cases e
      cases rx
      exact q.bl F
    | _ =>
      cases e
      have hx : x ≠ .non := fun z => by have := (rx.non_iff (by intro z; cases z)).mp z; cases this
      rw [decide_eq_false hx]
      exact q.bl F
  | _ => cases da <;> cases e
theorem O2.notN : O2 cm (fun x y H Q => y = .non ∧ Q (.bl (!decide (x = .non))) H) ma .fz .fz notN := by
  intro H O ms fps σ δ x y fx fy da db F rx ry d e Q q
  cases db with
  | non =>
    cases ry
    refine ⟨rfl, ?_⟩
    cases da with
    | hole => cases e
    | non =>
      cases e
      cases rx
      exact q.bl F
    | _ =>
      cases e
      have hx : x ≠ .non := fun z => by have := (rx.non_iff (by intro z; cases z)).mp z; cases this
      rw [decide_eq_false hx]
      exact q.bl F
  | _ => cases da <;> cases e
/-- is of bools -/
def isB (d e : D) : Option D := match d, e with
  | .bl a, .bl b => some (.bl (decide (a = b)))
  | _, _ => none
def notB (d e : D) : Option D := match d, e with
  | .bl a, .bl b => some (.bl (!decide (a = b)))
  | _, _ => none
theorem O2.isB : O2 cm rIsB .fz .fz .fz isB := by
  intro H O ms fps σ δ x y fx fy da db F rx ry d e Q q
  cases da <;> try cases e
  cases db <;> try cases e
  cases rx
  cases ry
  exact ⟨_, _, rfl, rfl, q.bl F⟩
theorem O2.notB : O2 cm rNotB .fz .fz .fz notB := by
  intro H O ms fps σ δ x y fx fy da db F rx ry d e Q q
  cases da <;> try cases e
  cases db <;> try cases e
  cases rx
  cases ry
  exact ⟨_, _, rfl, rfl, q.bl F⟩
/-- in, not in: flat items -/
def flatB : D → Bool
  | .non => true
  | .bl _ => true
  | .int _ => true
  | .str _ => true
  | _ => false
theorem Rp.flat (h : Rp cm H A m f v d) (hd : flatB d = true) : flatV v = true := by
  cases h <;> first | rfl | cases hd
theorem Rp.eqV {w e m' f'} (h : Rp cm H A m f v d) (h' : Rp cm H A m' f' w e) (hd : flatB d = true) (he : flatB e = true) : eqV v w = eqB d e := by
  cases h <;> first | (cases hd; done) | (cases h' <;> first | (cases he; done) | (simp [L2.eqV, eqB]))
theorem RpL.flat : ∀ {vs ds}, RpL cm H A .fz [] vs ds → ds.all flatB = true → vs.all flatV = true := by
  intro vs
  induction vs with
  | nil => intro ds h _; rfl
  | cons v vs ih =>
    intro ds h e
    rcases h.invF with ⟨h1, _⟩ | ⟨v', vs', d, ds', h1, rfl, h2, h3⟩
    · cases h1
    · cases h1
      rw [List.all_cons, Bool.and_eq_true] at e ⊢
      exact ⟨h2.flat e.1, ih h3 e.2⟩
theorem RpL.anyEq {x : V} {dx : D} (hx : Rp cm H A m f x dx) (hf : flatB dx = true) : ∀ {vs ds}, RpL cm H A .fz [] vs ds → ds.all flatB = true → (vs.any fun y => L2.eqV y x) = ds.any fun y => eqB y dx := by
  intro vs
  induction vs with
  | nil =>
    intro ds h _
    rcases h.invF with ⟨_, rfl⟩ | ⟨v', vs', d, ds', h1, _⟩
    · rfl
    · cases h1
  | cons v vs ih =>
    intro ds h e
    rcases h.invF with ⟨h1, _⟩ | ⟨v', vs', d, ds', h1, rfl, h2, h3⟩
    · cases h1
    · cases h1
      rw [List.all_cons, Bool.and_eq_true] at e
      rw [List.any_cons, List.any_cons, h2.eqV hx e.1 hf, ih h3 e.2]
def inD (neg : Bool) (x ys : D) : Option D := (seqD ys).bind fun ds => if flatB x = true ∧ ds.all flatB = true then some (.bl (if neg then !(ds.any fun y => eqB y x) else ds.any fun y => eqB y x)) else none
theorem O2.inn {neg : Bool} (hm : listMo mb = true) : O2 cm (rIn cm.K neg) ma mb .fz (inD neg) := by
  intro H O ms fps σ δ x y fx fy da db F rx ry d e Q q
  obtain ⟨ds, e1, e⟩ := Option.bind_eq_some_iff.mp e
  split at e
  · rename_i h
    cases e
    obtain ⟨a, vs, rfl, hs, rl⟩ := ry.seq hm e1
    refine ⟨a, vs, rfl, hs.elim (fun z => .inl z.1) fun z => .inr z.1, rx.flat h.1, rl.flat h.2, ?_⟩
    unfold inV
    rw [rl.anyEq rx h.1 h.2]
    exact q.bl F
  · cases e
/-- an item -/
def ixD (x y : D) : Option D := (seqD x).bind fun ds => match y with
  | .int i => atI ds i
  | _ => none
theorem O2.ix (hm : listMo ma = true) : O2 cm (rIx cm.K) ma .fz .fz ixD := by
  intro H O ms fps σ δ x y fx fy da db F rx ry d e Q q
  obtain ⟨ds, e1, e⟩ := Option.bind_eq_some_iff.mp e
  cases db with
  | int i =>
    cases ry
    have e : atI ds i = some d := e
    obtain ⟨a, vs, rfl, hs, rl⟩ := rx.seq hm e1
    have hl := rl.len
    obtain ⟨j, e2, e3⟩ := Option.bind_eq_some_iff.mp e
    obtain ⟨v, e4, rv⟩ := rl.get e3
    have e5 : atI vs i = some v := by
      unfold atI
      rw [hl, e2]
      exact e4
    rcases hs with ⟨hs, _⟩ | ⟨hs, _⟩
    · exact .inl ⟨a, vs, i, v, rfl, rfl, hs, e5, q.here F rv⟩
    · exact .inr (.inl ⟨a, vs, i, v, rfl, rfl, hs, e5, q.here F rv⟩)
  | _ => cases e
end
end DL

/-! ### a list made longer by a tuple's items: the built-in, for any tuple object -/
namespace PySem.AutoSeq1
theorem grow_by_tuple {l b : Addr} {xs ys : Array Value} {k n : Nat} {o : Obj} (hc : o.cls = .type "tuple") (hd : o.data = .seq ys n) (room : xs.size + ys.size ≤ sizeLine) (short : (!xs.isEmpty && Builtin.List.listTooLong (xs.size + ys.size)) = false) :
    Meets (Builtin.«list.extend» ⟨[.ref l, .ref b], []⟩) fun _ R s => (s.heap.get? l = some { cls := .type "list", data := .seq xs k } ∧ s.heap.get? b = some o) ∧ R (.ok (.ret .none)) { s with heap := s.heap.update l (Obj.mapSeq fun z => z ++ ys) } := by
  refine .of_wp fun prog w A R s hs => ?_
  obtain ⟨⟨at_l, at_b⟩, goal⟩ := hs
  cases o
  cases s
  simp only at hc hd
  subst hc hd
  have no : ¬(!xs.isEmpty && Builtin.List.listTooLong (xs.size + ys.size)) = true := by rw [short]; exact Bool.false_ne_true
  have ix := idx_int
  have tt := sub_tuple_tuple
  have ll := sub_list_list
  have tl := sub_tuple_list
  have lt := sub_list_tuple
  have fits : (xs ++ ys).size ≤ sizeLine + 1 := by rw [Array.size_append]; omega
  wp_walk using (wpAny_updateSeq at_l rfl (hz := by omega) (_hz' := fits)), wpAny_loadPart' at_l, wpAny_loadPart' at_b
  exact ⟨_, rfl, goal⟩
end PySem.AutoSeq1
namespace L2
open PySem PySem.Spec PyProof.Rows
section
variable {X : Cx}
/-- l.extend(b), b a list or a tuple -/
def rExtendA : V → List V → Hp → VK → Prop := fun x vs H Q => rExtend x vs H Q ∨
  ∃ l b xs zs, x = .ref l ∧ vs = [.ref b] ∧ H l = some (.lst xs) ∧ H b = some (.tup zs) ∧ xs.length + zs.length ≤ sizeLine ∧ Q .non (upd H l (.lst (xs ++ zs)))
theorem mt_extendA : MtM X "list.extend" rExtendA := by
  intro pins s σ H x vs v us Q I rx rv h
  rcases h with h | ⟨l, b, xs, zs, ex, ev, tl, tb, size, q⟩
  · exact mt_extend pins s σ H x vs v us Q I rx rv h
  subst ex ev
  have ev : v = .ref l := rx
  obtain ⟨w1, eus, rb⟩ := rv.one
  have ew : w1 = .ref b := rb
  subst ev eus ew
  obtain ⟨len1, its, n, rel1, fit1, at1⟩ := I.lstM tl
  obtain ⟨more, rel2, ⟨o, at2, cls2, n2, data2⟩, fit2⟩ := I.tuple (.inl (.inl tb))
  have n1 : its.length = xs.length := rel1.length.symm
  have n2 : more.length = zs.length := rel2.length.symm
  have both : its.toArray.size + more.toArray.size ≤ sizeLine := by simp only [List.size_toArray, n1, n2]; exact size
  have short : (!its.toArray.isEmpty && Builtin.List.listTooLong (its.toArray.size + more.toArray.size)) = false := by rw [notLongL both]; exact Bool.and_false _
  have inv := I.lset (its' := its ++ more) tl at1 (f := fun z => z ++ more.toArray) (t' := s.toks) (by simp) (rel1.append rel2) (by simp only [List.length_append]; omega)
  exact call_meets F.slot_list_extend ⟨_, at1, rfl⟩ F.entry_list_extend (F.args_list_extend_2 _ _) (AutoSeq1.grow_by_tuple cls2 data2 both short) ⟨⟨at1, at2⟩, .non, _, inv, rfl, q⟩
end
end L2
namespace DL
open PySem L2
section
variable {cm : Gm} {c : Cfg} {H H1 H2 H' : Hp} {O fp fp1 fp2 f f' : List Addr} {ms ms' ms1 ms2 ms3 : List Mo} {fps fps' fps1 : List (List Addr)} {σ σ' σ1 : List (Option V)} {δ δ' : List D} {m ma mb mc m0 m1 rm : Mo} {v : V} {d : D} {A : Addr → Prop}
variable {ta tb tc te : TE} {tt tu : TT} {t u : TS} {fa fb fc g : ME} {ga gb : MT} {gs gr : MS} {i j : Nat} {De : Ends} {out : Out}

/-! ### arguments as lists -/
theorem RpM.inv1 {xs das} (h : RpM cm H A [ma] f xs das) : ∃ x d, xs = [x] ∧ das = [d] ∧ Rp cm H A ma f x d := by
  cases h with
  | cons h r =>
    cases r
    rw [List.append_nil]
    exact ⟨_, _, rfl, rfl, h⟩
theorem RpM.inv2 {xs das} (h : RpM cm H A [ma, mb] f xs das) : ∃ x y d e f1 f2, xs = [x, y] ∧ das = [d, e] ∧ Rp cm H A ma f1 x d ∧ Rp cm H A mb f2 y e := by
  cases h with
  | cons h r =>
    cases r with
    | cons h2 r =>
      cases r
      exact ⟨_, _, _, _, _, _, rfl, rfl, h, h2⟩
theorem RpM.inv3 {xs das} (h : RpM cm H A [ma, mb, mc] f xs das) : ∃ x y z d e k f1 f2 f3, xs = [x, y, z] ∧ das = [d, e, k] ∧ Rp cm H A ma f1 x d ∧ Rp cm H A mb f2 y e ∧ Rp cm H A mc f3 z k := by
  cases h with
  | cons h r =>
    cases r with
    | cons h2 r =>
      cases r with
      | cons h3 r =>
        cases r
        exact ⟨_, _, _, _, _, _, _, _, _, rfl, rfl, h, h2, h3⟩
def allFz : List Mo → Bool
  | [] => true
  | .fz :: ms => allFz ms
  | _ => false
theorem RpM.toFz : ∀ {mas f xs das}, RpM cm H A mas f xs das → allFz mas = true → f = [] ∧ RpL cm H A .fz [] xs das
  | _, _, _, _, .nil, _ => ⟨rfl, .nil⟩
  | _, _, _, _, .cons (m := m) h r, e => by
    have hm : m = .fz := by cases m <;> first | rfl | cases e
    subst hm
    have h1 := h.fz_nil
    subst h1
    obtain ⟨h2, q⟩ := RpM.toFz r e
    subst h2
    exact ⟨rfl, RpL.cons (f1 := []) (f2 := []) h q⟩
theorem RpM.toL (m : Mo) : ∀ {mas : List Mo} {f : List Addr} {xs : List V} {das : List D}, RpM cm H A mas f xs das → (∀ m' ∈ mas, m' = m) → RpL cm H A m f xs das
  | _, _, _, _, .nil, _ => .nil
  | _, _, _, _, .cons h r, e => .cons (e _ List.mem_cons_self ▸ h) (RpM.toL m r fun m' z => e m' (List.mem_cons_of_mem _ z))

/-! ### displays -/
def mTup (fa : MA) : ME := fun δ => (fa δ).map fun p => (.tup p.1, p.2)
def mLst (fa : MA) : ME := fun δ => (fa δ).map fun p => (.lst p.1, p.2)
theorem RE.tup {t : TA} {fr : MA} {mas : List Mo} (ha : RA cm t ms ms1 mas fr) (hf : allFz mas = true := by rfl) (hl : mas.length ≤ 1000 := by decide) : RE cm (tTup t) ms ms1 .fz (mTup fr) := by
  intro σ H O δ fps F d δ' e Q q
  obtain ⟨⟨ds, δ1⟩, e1, e⟩ := Option.map_eq_some_iff.mp e
  cases e
  refine ha σ H O δ fps F ds δ1 e1 _ fun vs f H1 fps1 r F1 g1 => ?_
  obtain ⟨rfl, rl⟩ := r.toFz hf
  have hl2 : vs.length = mas.length := by rw [r.len, r.len2]
  refine ⟨by rw [hl2]; exact Nat.le_trans hl (by decide), fun p hp => ?_⟩
  have F1 : Frm cm H1 O ms1 fps1 σ _ := F1
  have rl : RpL cm H1 (inA fps1 O) .fz [] vs ds := rl
  exact q _ [] _ fps1 (.tup upd_same (F1.pfresh hp) ((keepNew hp rl).less (inA.sub (List.sublist_cons_self p O)))) ((F1.fresh hp).subO (List.sublist_cons_self p O)) (g1.trans ((Go.newF hp).mono (fun a z => nomatch z) fun a z => .inr z))
theorem RE.lst {t : TA} {fr : MA} {mas : List Mo} (ha : RA cm t ms ms1 mas fr) (hf : ∀ m' ∈ mas, m' = m := by intro m' h; simp at h; try exact h) (hl : mas.length ≤ 1000 := by decide) : RE cm (tLst t) ms ms1 (.l m) (mLst fr) := by
  intro σ H O δ fps F d δ' e Q q
  obtain ⟨⟨ds, δ1⟩, e1, e⟩ := Option.map_eq_some_iff.mp e
  cases e
  refine ha σ H O δ fps F ds δ1 e1 _ fun vs f H1 fps1 r F1 g1 => ?_
  have hl2 : vs.length = mas.length := by rw [r.len, r.len2]
  refine ⟨by rw [hl2]; exact Nat.le_trans hl (by decide), fun p hp => ?_⟩
  have rl := r.toL m hf
  refine q (.ref p) (p :: f) _ fps1 (.lstO upd_same (rl.mono (fun a u e n z => ?_) fun a u e _ => upd_keep hp a u e)) (F1.fresh hp) (g1.trans ⟨fun a u e _ => upd_keep hp a u e, fun a z => ?_, (Go.new hp).al⟩)
  · rcases inA_iff.mp z with z | z
    · exact n (inA_iff.mpr (.inl z))
    · rcases List.mem_cons.mp z with z | z
      · rw [z, hp] at e; cases e
      · exact n (inA_iff.mpr (.inr z))
  · rcases List.mem_cons.mp z with z | z
    · exact .inr (by rw [z]; exact hp)
    · exact .inl z

/-! ### built-in calls -/
theorem Rp.lenV {ds} (h : Rp cm H A m f v d) (e : seqD d = some ds) : ∃ a vs, v = .ref a ∧ ((SqL cm.K H a vs ∧ tupD d = false) ∨ (SqT cm.K H a vs ∧ tupD d = true)) ∧ vs.length = ds.length := by
  cases h with
  | tup h n r => cases e; exact ⟨_, _, rfl, .inr ⟨.inl (.inl h), rfl⟩, r.len⟩
  | lst h n r => cases e; exact ⟨_, _, rfl, .inl ⟨.inl (.inl h), rfl⟩, r.len⟩
  | scr h n r => cases e; exact ⟨_, _, rfl, .inl ⟨.inl (.inr ⟨_, h⟩), rfl⟩, r.len⟩
  | scrK h r => cases e; exact ⟨_, _, rfl, .inl ⟨.inr h, rfl⟩, r.len⟩
  | lstO h r => cases e; exact ⟨_, _, rfl, .inl ⟨.inl (.inl h), rfl⟩, r.len⟩
  | _ => cases e
/-- len -/
def rLen (K : PySem.W.Frag) : List V → Hp → VK → Prop := fun xs H Q => (∃ x n, xs = [x] ∧ LenV K x H n ∧ Q (.int n) H) ∨ ∃ a kvs, xs = [V.ref a] ∧ H a = some (.dK kvs) ∧ Q (.int kvs.length) H
theorem call_lenA {X : Cx} : CallR X (.builtin "len") (rLen X.K) := call_len.or call_lenD
def lenD : List D → Option D
  | [.dct kvs] => some (.int kvs.length)
  | [d] => (seqD d).map fun ds => .int ds.length
  | _ => none
theorem ON.len : ON cm (rLen cm.K) [ma] .fz lenD := by
  intro H O ms fps σ δ xs fx das F r d e Q q
  obtain ⟨x, da, rfl, rfl, rz⟩ := r.inv1
  cases hs : seqD da with
  | some ds =>
    have e2 : lenD [da] = some (.int ds.length) := by
      cases da <;> first | (cases hs; done) | (simp only [lenD, hs]; rfl)
    rw [e2] at e
    cases e
    obtain ⟨a, vs, rfl, h, hl⟩ := rz.lenV hs
    refine .inl ⟨.ref a, ds.length, rfl, ?_, q.int F⟩
    rcases h with ⟨h, _⟩ | ⟨h, _⟩
    · exact .inl ⟨vs, h, hl.symm⟩
    · exact .inr ⟨vs, h, hl.symm⟩
  | none =>
    cases da with
    | dct kvs =>
      cases e
      cases rz with
      | dct h n e r => exact .inr ⟨_, _, rfl, h, by rw [show kvs.length = _ from by have := r.len; simpa using this.symm] at q; exact q.int F⟩
      | dctO h e r => exact .inr ⟨_, _, rfl, h, by rw [show kvs.length = _ from by have := r.len; simpa using this.symm] at q; exact q.int F⟩
    | _ => first | (cases hs; done) | (cases e; done)
/-- int -/
def intD : List D → Option D
  | [.int i] => some (.int i)
  | [.bl k] => some (.int (if k then 1 else 0))
  | _ => none
theorem ON.int : ON cm (fun xs H Q => (∃ i, xs = [V.int i] ∧ Q (.int i) H) ∨ ∃ k, xs = [.bl k] ∧ Q (.int (if k then 1 else 0)) H) [.fz] .fz intD := by
  intro H O ms fps σ δ xs fx das F r d e Q q
  obtain ⟨x, da, rfl, rfl, rz⟩ := r.inv1
  cases da <;> try cases e
  · cases rz
    exact .inr ⟨_, rfl, q.int F⟩
  · cases rz
    exact .inl ⟨_, rfl, q.int F⟩
def absD : List D → Option D
  | [.int i] => some (.int (if i < 0 then -i else i))
  | _ => none
theorem ON.abs : ON cm (fun xs H Q => ∃ i, xs = [V.int i] ∧ Q (.int (if i < 0 then -i else i)) H) [.fz] .fz absD := by
  intro H O ms fps σ δ xs fx das F r d e Q q
  obtain ⟨x, da, rfl, rfl, rz⟩ := r.inv1
  cases da <;> try cases e
  cases rz
  exact ⟨_, rfl, q.int F⟩
def max2D : List D → Option D
  | [.int i, .int j] => some (.int (if j > i then j else i))
  | _ => none
def min2D : List D → Option D
  | [.int i, .int j] => some (.int (if j < i then j else i))
  | _ => none
theorem ON.max2 : ON cm (fun xs H Q => ∃ i j, xs = [V.int i, .int j] ∧ Q (.int (if j > i then j else i)) H) [.fz, .fz] .fz max2D := by
  intro H O ms fps σ δ xs fx das F r d e Q q
  obtain ⟨x, y, da, db, f1, f2, rfl, rfl, r1, r2⟩ := r.inv2
  cases da <;> try cases e
  cases db <;> try cases e
  cases r1
  cases r2
  exact ⟨_, _, rfl, q.int F⟩
theorem ON.min2 : ON cm (fun xs H Q => ∃ i j, xs = [V.int i, .int j] ∧ Q (.int (if j < i then j else i)) H) [.fz, .fz] .fz min2D := by
  intro H O ms fps σ δ xs fx das F r d e Q q
  obtain ⟨x, y, da, db, f1, f2, rfl, rfl, r1, r2⟩ := r.inv2
  cases da <;> try cases e
  cases db <;> try cases e
  cases r1
  cases r2
  exact ⟨_, _, rfl, q.int F⟩
def min3D : List D → Option D
  | [.int i, .int j, .int k] => some (.int (if k < (if j < i then j else i) then k else (if j < i then j else i)))
  | _ => none
def max3D : List D → Option D
  | [.int i, .int j, .int k] => some (.int (if k > (if j > i then j else i) then k else (if j > i then j else i)))
  | _ => none
/-- lists of ints, of bools -/
def intsD : List D → Option (List Int)
  | [] => some []
  | .int i :: r => (intsD r).map fun s => i :: s
  | _ => none
def blsD : List D → Option (List Bool)
  | [] => some []
  | .bl i :: r => (blsD r).map fun s => i :: s
  | _ => none
theorem RpL.ints : ∀ {vs ds ns}, RpL cm H A .fz [] vs ds → intsD ds = some ns → vs = ns.map V.int := by
  intro vs
  induction vs with
  | nil =>
    intro ds ns h e
    rcases h.invF with ⟨_, rfl⟩ | ⟨v', vs', d, ds', h1, _⟩
    · cases e; rfl
    · cases h1
  | cons v vs ih =>
    intro ds ns h e
    rcases h.invF with ⟨h1, _⟩ | ⟨v', vs', d, ds', h1, rfl, h2, h3⟩
    · cases h1
    · cases h1
      cases d <;> try (cases e; done)
      obtain ⟨s, e1, rfl⟩ := Option.map_eq_some_iff.mp e
      cases h2
      rw [ih h3 e1]
      rfl
theorem RpL.bls : ∀ {vs ds ns}, RpL cm H A .fz [] vs ds → blsD ds = some ns → vs = ns.map V.bl := by
  intro vs
  induction vs with
  | nil =>
    intro ds ns h e
    rcases h.invF with ⟨_, rfl⟩ | ⟨v', vs', d, ds', h1, _⟩
    · cases e; rfl
    · cases h1
  | cons v vs ih =>
    intro ds ns h e
    rcases h.invF with ⟨h1, _⟩ | ⟨v', vs', d, ds', h1, rfl, h2, h3⟩
    · cases h1
    · cases h1
      cases d <;> try (cases e; done)
      obtain ⟨s, e1, rfl⟩ := Option.map_eq_some_iff.mp e
      cases h2
      rw [ih h3 e1]
      rfl
theorem intsD_map : ∀ ns : List Int, intsD (ns.map D.int) = some ns
  | [] => rfl
  | n :: ns => by rw [List.map_cons, intsD, intsD_map ns]; rfl
theorem blsD_map : ∀ ns : List Bool, blsD (ns.map D.bl) = some ns
  | [] => rfl
  | n :: ns => by rw [List.map_cons, blsD, blsD_map ns]; rfl
theorem RpL.ofInts : ∀ ns : List Int, RpL cm H A .fz [] (ns.map V.int) (ns.map D.int)
  | [] => .nil
  | n :: ns => RpL.cons (f1 := []) (f2 := []) .int (RpL.ofInts ns)
/-- a list (no tuple) -/
def listD : D → Option (List D)
  | .lst ds => some ds
  | .scr ds => some ds
  | _ => none
theorem listD_seq {ds} (e : listD d = some ds) : seqD d = some ds ∧ tupD d = false := by
  cases d <;> first | (cases e; done) | (cases e; exact ⟨rfl, rfl⟩)
theorem Rp.lstL {ds} (h : Rp cm H A m f v d) (hm : listMo m = true) (e : listD d = some ds) : ∃ a vs, v = .ref a ∧ SqL cm.K H a vs ∧ RpL cm H A .fz [] vs ds := by
  obtain ⟨e1, e2⟩ := listD_seq e
  obtain ⟨a, vs, h1, h2, h3⟩ := h.seq hm e1
  rcases h2 with ⟨h2, _⟩ | ⟨_, h2⟩
  · exact ⟨a, vs, h1, h2, h3⟩
  · rw [e2] at h2; cases h2
def allD : List D → Option D
  | [d] => (listD d).bind fun ds => (blsD ds).map fun bs => .bl (bs.all id)
  | _ => none
def anyD : List D → Option D
  | [d] => (listD d).bind fun ds => (blsD ds).map fun bs => .bl (bs.any id)
  | _ => none
theorem ON.all (hm : listMo ma = true := by rfl) : ON cm (rAll cm.K) [ma] .fz allD := by
  intro H O ms fps σ δ xs fx das F r d e Q q
  obtain ⟨x, da, rfl, rfl, rz⟩ := r.inv1
  obtain ⟨ds, e1, e⟩ := Option.bind_eq_some_iff.mp e
  obtain ⟨bs, e2, e⟩ := Option.map_eq_some_iff.mp e
  cases e
  obtain ⟨a, vs, rfl, hs, rl⟩ := rz.lstL hm e1
  rw [rl.bls e2] at hs
  exact ⟨a, bs, rfl, hs, q.bl F⟩
theorem ON.any (hm : listMo ma = true := by rfl) : ON cm (rAny cm.K) [ma] .fz anyD := by
  intro H O ms fps σ δ xs fx das F r d e Q q
  obtain ⟨x, da, rfl, rfl, rz⟩ := r.inv1
  obtain ⟨ds, e1, e⟩ := Option.bind_eq_some_iff.mp e
  obtain ⟨bs, e2, e⟩ := Option.map_eq_some_iff.mp e
  cases e
  obtain ⟨a, vs, rfl, hs, rl⟩ := rz.lstL hm e1
  rw [rl.bls e2] at hs
  exact ⟨a, bs, rfl, hs, q.bl F⟩
def sumD : List D → Option D
  | [d] => (listD d).bind fun ds => (intsD ds).map fun bs => .int bs.sum
  | _ => none
theorem ON.sum (hm : listMo ma = true := by rfl) : ON cm (rSum cm.K) [ma] .fz sumD := by
  intro H O ms fps σ δ xs fx das F r d e Q q
  obtain ⟨x, da, rfl, rfl, rz⟩ := r.inv1
  obtain ⟨ds, e1, e⟩ := Option.bind_eq_some_iff.mp e
  obtain ⟨bs, e2, e⟩ := Option.map_eq_some_iff.mp e
  cases e
  obtain ⟨a, vs, rfl, hs, rl⟩ := rz.lstL hm e1
  rw [rl.ints e2] at hs
  exact ⟨a, bs, rfl, hs, q.int F⟩
/-- the least, the greatest of ints -/
def minL : List Int → Option Int
  | [] => none
  | n :: ns => some (ns.foldl (fun a b => if b < a then b else a) n)
def maxL : List Int → Option Int
  | [] => none
  | n :: ns => some (ns.foldl (fun a b => if a < b then b else a) n)
theorem minL_is : ∀ (ns : List Int) (n : Int), (∀ y ∈ n :: ns, ns.foldl (fun a b => if b < a then b else a) n ≤ y) ∧ ns.foldl (fun a b => if b < a then b else a) n ∈ n :: ns
  | [], n => by simp
  | k :: ns, n => by
    obtain ⟨h1, h2⟩ := minL_is ns (if k < n then k else n)
    rw [List.foldl_cons]
    have h3 := h1 _ List.mem_cons_self
    have h4 : (if k < n then k else n) ≤ n := by split <;> omega
    have h5 : (if k < n then k else n) ≤ k := by split <;> omega
    refine ⟨fun y hy => ?_, ?_⟩
    · rcases List.mem_cons.mp hy with e | hy
      · subst e; exact Int.le_trans h3 h4
      · rcases List.mem_cons.mp hy with e | hy
        · subst e; exact Int.le_trans h3 h5
        · exact h1 y (List.mem_cons_of_mem _ hy)
    · rcases List.mem_cons.mp h2 with e | e
      · rw [e]; split <;> simp
      · exact List.mem_cons_of_mem _ (List.mem_cons_of_mem _ e)
theorem maxL_is : ∀ (ns : List Int) (n : Int), (∀ y ∈ n :: ns, y ≤ ns.foldl (fun a b => if a < b then b else a) n) ∧ ns.foldl (fun a b => if a < b then b else a) n ∈ n :: ns
  | [], n => by simp
  | k :: ns, n => by
    obtain ⟨h1, h2⟩ := maxL_is ns (if n < k then k else n)
    rw [List.foldl_cons]
    have h3 := h1 _ List.mem_cons_self
    have h4 : n ≤ (if n < k then k else n) := by split <;> omega
    have h5 : k ≤ (if n < k then k else n) := by split <;> omega
    refine ⟨fun y hy => ?_, ?_⟩
    · rcases List.mem_cons.mp hy with e | hy
      · subst e; exact Int.le_trans h4 h3
      · rcases List.mem_cons.mp hy with e | hy
        · subst e; exact Int.le_trans h5 h3
        · exact h1 y (List.mem_cons_of_mem _ hy)
    · rcases List.mem_cons.mp h2 with e | e
      · rw [e]; split <;> simp
      · exact List.mem_cons_of_mem _ (List.mem_cons_of_mem _ e)
def minD : List D → Option D
  | [d] => (listD d).bind fun ds => (intsD ds).bind fun bs => (minL bs).map .int
  | _ => none
def maxD : List D → Option D
  | [d] => (listD d).bind fun ds => (intsD ds).bind fun bs => (maxL bs).map .int
  | _ => none
theorem ON.min (hm : listMo ma = true := by rfl) : ON cm (rMin cm.K) [ma] .fz minD := by
  intro H O ms fps σ δ xs fx das F r d e Q q
  obtain ⟨x, da, rfl, rfl, rz⟩ := r.inv1
  obtain ⟨ds, e1, e⟩ := Option.bind_eq_some_iff.mp e
  obtain ⟨bs, e2, e⟩ := Option.bind_eq_some_iff.mp e
  obtain ⟨k, e3, e⟩ := Option.map_eq_some_iff.mp e
  cases e
  obtain ⟨a, vs, rfl, hs, rl⟩ := rz.lstL hm e1
  rw [rl.ints e2] at hs
  cases bs with
  | nil => cases e3
  | cons n ns =>
    cases e3
    obtain ⟨h1, h2⟩ := minL_is ns n
    refine ⟨a, n :: ns, rfl, hs, by simp, fun k h3 h4 => ?_⟩
    have e : k = ns.foldl (fun a b => if b < a then b else a) n := Int.le_antisymm (h4 _ h2) (h1 _ h3)
    rw [e]
    exact q.int F
theorem ON.max (hm : listMo ma = true := by rfl) : ON cm (rMax cm.K) [ma] .fz maxD := by
  intro H O ms fps σ δ xs fx das F r d e Q q
  obtain ⟨x, da, rfl, rfl, rz⟩ := r.inv1
  obtain ⟨ds, e1, e⟩ := Option.bind_eq_some_iff.mp e
  obtain ⟨bs, e2, e⟩ := Option.bind_eq_some_iff.mp e
  obtain ⟨k, e3, e⟩ := Option.map_eq_some_iff.mp e
  cases e
  obtain ⟨a, vs, rfl, hs, rl⟩ := rz.lstL hm e1
  rw [rl.ints e2] at hs
  cases bs with
  | nil => cases e3
  | cons n ns =>
    cases e3
    obtain ⟨h1, h2⟩ := maxL_is ns n
    refine ⟨a, n :: ns, rfl, hs, by simp, fun k h3 h4 => ?_⟩
    have e : k = ns.foldl (fun a b => if a < b then b else a) n := Int.le_antisymm (h1 _ h3) (h4 _ h2)
    rw [e]
    exact q.int F
theorem nu2min (i j : Int) : nuMin2 (.int i) (.int j) = some (.int (if j < i then j else i)) := by
  have h : nuLt (.int j) (.int i) = some (decide (j < i)) := rfl
  unfold nuMin2
  rw [h]
  by_cases e : j < i <;> simp [e]
theorem nu2max (i j : Int) : nuMax2 (.int i) (.int j) = some (.int (if j > i then j else i)) := by
  have h : nuLt (.int i) (.int j) = some (decide (i < j)) := rfl
  unfold nuMax2
  rw [h]
  by_cases e : i < j <;> simp [e]
theorem ON.min3 : ON cm (rNuC3 nuMin3) [.fz, .fz, .fz] .fz min3D := by
  intro H O ms fps σ δ xs fx das F r d e Q q
  obtain ⟨x, y, z, da, db, dc, f1, f2, f3, rfl, rfl, r1, r2, r3⟩ := r.inv3
  cases da <;> try (cases e; done)
  cases db <;> try (cases e; done)
  cases dc <;> try (cases e; done)
  cases r1
  cases r2
  cases r3
  cases e
  refine ⟨_, _, _, _, rfl, ?_, q.int F⟩
  unfold nuMin3
  rw [nu2min]
  exact nu2min _ _
theorem ON.max3 : ON cm (rNuC3 nuMax3) [.fz, .fz, .fz] .fz max3D := by
  intro H O ms fps σ δ xs fx das F r d e Q q
  obtain ⟨x, y, z, da, db, dc, f1, f2, f3, rfl, rfl, r1, r2, r3⟩ := r.inv3
  cases da <;> try (cases e; done)
  cases db <;> try (cases e; done)
  cases dc <;> try (cases e; done)
  cases r1
  cases r2
  cases r3
  cases e
  refine ⟨_, _, _, _, rfl, ?_, q.int F⟩
  unfold nuMax3
  rw [nu2max]
  exact nu2max _ _
end
end DL

namespace DL
open PySem L2
section
variable {cm : Gm} {c : Cfg} {H H1 H2 H' : Hp} {O fp fp1 fp2 f f' : List Addr} {ms ms' ms1 ms2 ms3 : List Mo} {fps fps' fps1 : List (List Addr)} {σ σ' σ1 : List (Option V)} {δ δ' : List D} {m ma mb mc m0 m1 rm : Mo} {v : V} {d : D} {A : Addr → Prop}
variable {ta tb tc te : TE} {tt tu : TT} {t u : TS} {fa fb fc g : ME} {ga gb : MT} {gs gr : MS} {i j : Nat} {De : Ends} {out : Out}

/-! ### something that a slot owns is written -/
theorem Frm.modIn {fy f0 f1 dr : List Addr} {b : Addr} {o : HO} {v0 : V} {d1 : D} (F : Frm cm H (fy ++ O) ms fps σ δ) (s0 : σ[i]? = some (some v0)) (e2 : fps[i]? = some f0) (hb : b ∈ f0) (hp : (f0 ++ fy).Perm (f1 ++ dr))
    (r : Rp cm (L2.upd H b o) (inA fps (fy ++ O)) m1 f1 v0 d1) : Frm cm (L2.upd H b o) O (ms.set i m1) (fps.set i f1) σ (δ.set i d1) ∧ Go H (fy ++ fps.flatten) (L2.upd H b o) (fps.set i f1).flatten := by
  obtain ⟨G, sub⟩ := F.void i
  have hi : i < fps.length := (List.getElem?_eq_some_iff.mp e2).1
  have p0 := flat_set e2
  have p1 : (fps.set i f1).flatten.Perm (f1 ++ (fps.set i []).flatten) := flat_set2 hi
  -- all of it
  have pt : (fps.flatten ++ (fy ++ O)).Perm ((f1 ++ dr) ++ ((fps.set i []).flatten ++ O)) := by
    refine (List.Perm.append_right _ p0).trans ?_
    rw [List.append_assoc]
    refine (List.Perm.append_left f0 (List.perm_append_comm_assoc _ fy O)).trans ?_
    rw [← List.append_assoc]
    exact List.Perm.append_right _ hp
  have pn : ((fps.set i f1).flatten ++ O).Perm (f1 ++ ((fps.set i []).flatten ++ O)) := by
    rw [← List.append_assoc]
    exact List.Perm.append_right O p1
  have sl : List.Sublist (f1 ++ ((fps.set i []).flatten ++ O)) ((f1 ++ dr) ++ ((fps.set i []).flatten ++ O)) := List.Sublist.append (List.sublist_append_left f1 dr) (List.Sublist.refl _)
  have ndt := (pt.nodup_iff).mp F.nd
  have inT : ∀ a, a ∈ (fps.set i f1).flatten ++ O → inA fps (fy ++ O) a := fun a z => pt.mem_iff.mpr (sl.subset (pn.mem_iff.mp z))
  have bT : inA fps (fy ++ O) b := inA_iff.mpr (.inl (p0.mem_iff.mpr (List.mem_append_left _ hb)))
  have bn : b ∉ (fps.set i []).flatten := fun z => by
    have nd := (p0.nodup_iff).mp (List.nodup_append.mp F.nd).1
    exact (List.nodup_append.mp nd).2.2 b hb b z rfl
  have gk : ∀ a u, H a = some u → a ≠ b → (L2.upd H b o) a = some u := fun a u e n => by rw [upd_ne n]; exact e
  have al : ∀ a, H a ≠ none → (L2.upd H b o) a ≠ none := fun a z => by
    by_cases e : a = b
    · rw [e, upd_same]; simp
    · rw [upd_ne e]; exact z
  refine ⟨⟨?_, (pn.nodup_iff).mpr (ndt.sublist sl), fun a z => al a (F.al a (inT a z))⟩, ⟨fun a u e n => gk a u e fun z => ?_, fun a z => .inl ?_, al⟩⟩
  · have rG : RpE cm (L2.upd H b o) (inA fps (fy ++ O)) (ms.set i .hole) (fps.set i []) σ (δ.set i .hole) := by
      have rr : RpE cm H (inA fps (fy ++ O)) ms fps σ δ := F.rp
      refine (rr.void (i := i)).mono (fun _ _ _ n => n) fun a u e z => gk a u e ?_
      rintro rfl
      rcases z with z | z
      · exact z bT
      · exact bn z
    have q := rG.set (i := i) r
    rw [List.set_set, List.set_set, List.set_set, set_same s0] at q
    exact q.congr fun a z => inT a z
  · subst z
    exact n (List.mem_append_right _ (p0.mem_iff.mpr (List.mem_append_left _ hb)))
  · rcases List.mem_append.mp (p1.mem_iff.mp z) with z | z
    · rcases List.mem_append.mp (hp.mem_iff.mpr (List.mem_append_left dr z)) with z | z
      · exact List.mem_append_right _ (p0.mem_iff.mpr (List.mem_append_left _ z))
      · exact List.mem_append_left _ z
    · exact List.mem_append_right _ (p0.mem_iff.mpr (List.mem_append_right _ z))
end
end DL

namespace DL
open PySem L2
section
variable {cm : Gm} {c : Cfg} {H H1 H2 H' : Hp} {O fp fp1 fp2 f f' : List Addr} {ms ms' ms1 ms2 ms3 : List Mo} {fps fps' fps1 : List (List Addr)} {σ σ' σ1 : List (Option V)} {δ δ' : List D} {m ma mb mc m0 m1 rm : Mo} {v : V} {d : D} {A : Addr → Prop}
variable {ta tb tc te ti : TE} {tt tu : TT} {t u : TS} {fa fb fc g gx : ME} {ga gb : MT} {gs gr : MS} {i j : Nat} {De : Ends} {out : Out}

theorem Rp.lO_inv {ds} (h : Rp cm H A (.l m) f v (.lst ds)) : ∃ a fr vs, f = a :: fr ∧ v = .ref a ∧ H a = some (.lst vs) ∧ RpL cm H A m fr vs ds := by
  cases h with
  | lstO h r => exact ⟨_, _, _, rfl, rfl, h, r⟩
theorem Frm.nofp (F : Frm cm H O ms fps σ δ) {f0 : List Addr} (e : fps[i]? = some f0) : f0.Nodup ∧ ∀ a ∈ f0, inA fps O a := by
  have p := flat_set e
  have nd := (p.nodup_iff).mp (List.nodup_append.mp F.nd).1
  exact ⟨(List.nodup_append.mp nd).1, fun a z => inA_iff.mpr (.inl (p.mem_iff.mpr (List.mem_append_left _ z)))⟩
theorem Frm.gets {i : Nat} (F : Frm cm H O ms fps σ δ) (hm : ms[i]? = some m) (hn : m.here = true) : ∃ v f d, σ[i]? = some (some v) ∧ fps[i]? = some f ∧ δ[i]? = some d ∧ Rp cm H (inA fps O) m f v d := by
  obtain ⟨l1, l2, l3⟩ := F.rp.len
  have hi := (List.getElem?_eq_some_iff.mp hm).1
  obtain ⟨v, f, e1, e2, r⟩ := F.get hm hn (d := δ[i]'(by omega)) (by simp [show i < δ.length by omega])
  exact ⟨v, f, _, e1, e2, by simp [show i < δ.length by omega], r⟩
theorem lO_tyV {d} (h : Rp cm H A (.l m) f v d) : tyV cm.K "list" v H := by
  cases h with
  | lstO h r => exact .inl ⟨rfl, _, SqL.of h⟩
def isLst : D → Option (List D)
  | .lst ds => some ds
  | _ => none
theorem isLst_eq {d ds} (h : isLst d = some ds) : d = .lst ds := by
  cases d <;> first | (cases h; done) | (cases h; rfl)

/-- slot i: x.append(e) -/
def mAppend (i : Nat) (fe : ME) : MS := fun δ => (fe δ).bind fun p => (p.2[i]?).bind fun d0 => (isLst d0).bind fun ds => if ds.length < lim then some (.nx (p.2.set i (.lst (ds ++ [p.1])))) else none
theorem RS.append (i : Nat) (he : RE cm te ms ms1 m g) (hm0 : ms[i]? = some (.l m)) (hm : ms1[i]? = some (.l m)) : RS cm c (tDrop (tBM cm.K "list" rAppend (tVar i) (tCons te tNil))) ms ms1 (mAppend i g) := by
  intro σ H O δ fps F out e De q
  obtain ⟨⟨dy, δ1⟩, e1, e⟩ := Option.bind_eq_some_iff.mp e
  obtain ⟨d0, e2, e⟩ := Option.bind_eq_some_iff.mp e
  obtain ⟨ds, e3, ee⟩ := Option.bind_eq_some_iff.mp e
  have e3 := isLst_eq e3; subst e3
  split at ee
  rotate_left
  · cases ee
  rename_i hlim
  cases ee
  obtain ⟨v0, f9, d9, s0, _, _, r9⟩ := F.gets hm0 rfl
  refine ⟨v0, s0, lO_tyV r9, ?_⟩
  refine he σ H O δ fps F dy δ1 e1 _ fun y fy H1 fps1 ry F1 g1 => ?_
  obtain ⟨v1, f0, s1, s2, r0⟩ := F1.get hm rfl (show δ1[i]? = some (.lst ds) from e2)
  rw [s0] at s1; cases s1
  obtain ⟨a, fr, vs, rfl, rfl, ha, rl⟩ := r0.lO_inv
  have hl := rl.len
  refine ⟨a, vs, y, rfl, rfl, ha, by rw [hl]; exact Nat.lt_of_lt_of_le hlim lim_line, ?_⟩
  obtain ⟨ndf, inf⟩ := F1.nofp s2
  have na : a ∉ fr := (List.nodup_cons.mp ndf).1
  have nay : a ∉ fy := fun z => F1.disj a (List.mem_append_left _ z) (((flat_set s2).mem_iff).mpr (List.mem_append_left _ List.mem_cons_self))
  have hA := inf a List.mem_cons_self
  have r1 : RpL cm (L2.upd H1 a (.lst (vs ++ [y]))) (inA fps1 (fy ++ O)) m (fr ++ fy) (vs ++ [y]) (ds ++ [dy]) := by
    have := RpL.cons (upd_rp (o := .lst (vs ++ [y])) ry hA nay) (RpL.nil (m := m))
    rw [List.append_nil] at this
    exact RpL.append (upd_rpl rl hA na) this
  obtain ⟨F2, g2⟩ := F1.modIn s0 s2 List.mem_cons_self (f1 := a :: (fr ++ fy)) (dr := []) (by rw [List.append_nil]; exact List.Perm.refl _) (.lstO upd_same r1)
  rw [set_same hm] at F2
  exact q σ _ _ F2 (g1.trans g2) rfl
/-- slot i: x.extend(e), frozen items -/
def tupLst : D → Option (List D)
  | .lst ds => some ds
  | .tup ds => some ds
  | _ => none
def mExtend (i : Nat) (fe : ME) : MS := fun δ => (fe δ).bind fun p => (p.2[i]?).bind fun d0 => (isLst d0).bind fun ds => (tupLst p.1).bind fun xs => if ds.length + xs.length < lim then some (.nx (p.2.set i (.lst (ds ++ xs)))) else none
theorem Rp.tupLst {ds} (h : Rp cm H A .fz f v d) (e : tupLst d = some ds) : f = [] ∧ ∃ a vs, v = .ref a ∧ (H a = some (.lst vs) ∨ H a = some (.tup vs)) ∧ RpL cm H A .fz [] vs ds := by
  cases h with
  | tup h n r => cases e; exact ⟨rfl, _, _, rfl, .inr h, r⟩
  | lst h n r => cases e; exact ⟨rfl, _, _, rfl, .inl h, r⟩
  | _ => cases e
theorem RS.extend (i : Nat) (he : RE cm te ms ms1 .fz g) (hm0 : ms[i]? = some (.l .fz)) (hm : ms1[i]? = some (.l .fz)) : RS cm c (tDrop (tBM cm.K "list" rExtendA (tVar i) (tCons te tNil))) ms ms1 (mExtend i g) := by
  intro σ H O δ fps F out e De q
  obtain ⟨⟨dy, δ1⟩, e1, e⟩ := Option.bind_eq_some_iff.mp e
  obtain ⟨d0, e2, e⟩ := Option.bind_eq_some_iff.mp e
  obtain ⟨ds, e3, e⟩ := Option.bind_eq_some_iff.mp e
  obtain ⟨xs, e4, ee⟩ := Option.bind_eq_some_iff.mp e
  have e3 := isLst_eq e3; subst e3
  split at ee
  rotate_left
  · cases ee
  rename_i hlim
  cases ee
  obtain ⟨v0, f9, d9, s0, _, _, r9⟩ := F.gets hm0 rfl
  refine ⟨v0, s0, lO_tyV r9, ?_⟩
  refine he σ H O δ fps F dy δ1 e1 _ fun y fy H1 fps1 ry F1 g1 => ?_
  obtain ⟨v1, f0, s1, s2, r0⟩ := F1.get hm rfl (show δ1[i]? = some (.lst ds) from e2)
  rw [s0] at s1; cases s1
  obtain ⟨a, fr, vs, rfl, rfl, ha, rl⟩ := r0.lO_inv
  obtain ⟨rfl, b, zs, rfl, hb, rz⟩ := ry.tupLst e4
  have hl := rl.len
  have hz := rz.len
  have hsz : vs.length + zs.length ≤ sizeLine := by
    rw [hl, hz]; exact Nat.le_trans (Nat.le_of_lt hlim) lim_line
  have fr0 := rl.fz_nil; subst fr0
  obtain ⟨ndf, inf⟩ := F1.nofp s2
  have hA := inf a List.mem_cons_self
  have r1 : RpL cm (L2.upd H1 a (.lst (vs ++ zs))) (inA fps1 ([] ++ O)) .fz [] (vs ++ zs) (ds ++ xs) :=
    RpL.append (f1 := []) (f2 := []) (upd_rpl rl hA (fun z => nomatch z)) (upd_rpl rz hA (fun z => nomatch z))
  obtain ⟨F2, g2⟩ := F1.modIn s0 s2 List.mem_cons_self (f1 := [a]) (dr := []) (List.Perm.refl _) (.lstO upd_same r1)
  rw [set_same hm] at F2
  rcases hb with hb | hb
  · exact .inl ⟨a, b, vs, zs, rfl, rfl, ha, hb, hsz, q σ _ _ F2 (g1.trans g2) rfl⟩
  · exact .inr ⟨a, b, vs, zs, rfl, rfl, ha, hb, hsz, q σ _ _ F2 (g1.trans g2) rfl⟩
theorem RpL.erase {vs ds} (r : RpL cm H A .fz [] vs ds) (k : Nat) : RpL cm H A .fz [] (vs.eraseIdx k) (ds.eraseIdx k) := by
  induction k generalizing vs ds with
  | zero =>
    rcases r.invF with ⟨rfl, rfl⟩ | ⟨v, vs', d, ds', rfl, rfl, h, r⟩
    · exact .nil
    · exact r
  | succ k ih =>
    rcases r.invF with ⟨rfl, rfl⟩ | ⟨v, vs', d, ds', rfl, rfl, h, r⟩
    · exact .nil
    · exact RpL.cons (f1 := []) (f2 := []) h (ih r)
theorem RpL.setF {vs ds} (r : RpL cm H A .fz [] vs ds) (k : Nat) (h : Rp cm H A .fz [] v d) : RpL cm H A .fz [] (vs.set k v) (ds.set k d) := by
  induction k generalizing vs ds with
  | zero =>
    rcases r.invF with ⟨rfl, rfl⟩ | ⟨v, vs', d, ds', rfl, rfl, h0, r⟩
    · exact .nil
    · exact RpL.cons (f1 := []) (f2 := []) h r
  | succ k ih =>
    rcases r.invF with ⟨rfl, rfl⟩ | ⟨v, vs', d, ds', rfl, rfl, h0, r⟩
    · exact .nil
    · exact RpL.cons (f1 := []) (f2 := []) h0 (ih r)
/-- slot i: x.pop(e) -/
def mPopAt (i : Nat) (fe : ME) : ME := fun δ => (fe δ).bind fun p => match p.1 with
  | .int k => (p.2[i]?).bind fun d0 => (isLst d0).bind fun ds => if 0 ≤ k ∧ k < 1000000000 then (ds[k.toNat]?).map fun d => (d, p.2.set i (.lst (ds.eraseIdx k.toNat))) else none
  | _ => none
theorem RE.popAt (i : Nat) (he : RE cm te ms ms1 .fz g) (hm0 : ms[i]? = some (.l .fz)) (hm : ms1[i]? = some (.l .fz)) : RE cm (tBM cm.K "list" rPopAt (tVar i) (tCons te tNil)) ms ms1 .fz (mPopAt i g) := by
  intro σ H O δ fps F d δ' e Q q
  obtain ⟨⟨dy, δ1⟩, e1, e⟩ := Option.bind_eq_some_iff.mp e
  cases dy <;> try (cases e; done)
  rename_i k
  obtain ⟨d0, e2, e⟩ := Option.bind_eq_some_iff.mp e
  obtain ⟨ds, e3, ee⟩ := Option.bind_eq_some_iff.mp e
  have e3 := isLst_eq e3; subst e3
  split at ee
  rotate_left
  · cases ee
  rename_i hk
  obtain ⟨d1, e4, e5⟩ := Option.map_eq_some_iff.mp ee
  cases e5
  obtain ⟨v0, f9, d9, s0, _, _, r9⟩ := F.gets hm0 rfl
  refine ⟨v0, s0, lO_tyV r9, ?_⟩
  refine he σ H O δ fps F _ δ1 e1 _ fun y fy H1 fps1 ry F1 g1 => ?_
  obtain ⟨v1, f0, s1, s2, r0⟩ := F1.get hm rfl (show δ1[i]? = some (.lst ds) from e2)
  rw [s0] at s1; cases s1
  obtain ⟨a, fr, vs, rfl, rfl, ha, rl⟩ := r0.lO_inv
  have hfy := ry.fz_nil; subst hfy
  cases ry
  have hl := rl.len
  have fr0 := rl.fz_nil; subst fr0
  obtain ⟨x, ex, rx⟩ := rl.get e4
  have hlt := (List.getElem?_eq_some_iff.mp ex).1
  have hix : seqIndex? k vs.length = some k.toNat := by
    unfold seqIndex?
    have h1 : ¬ k < 0 := by omega
    simp only [h1, if_false]
    have h2 : (decide (0 ≤ k) && decide (k < (vs.length : Int))) = true := by
      rw [Bool.and_eq_true]; exact ⟨decide_eq_true hk.1, decide_eq_true (by omega)⟩
    rw [if_pos h2]
  refine ⟨a, vs, k, k.toNat, x, rfl, rfl, ha, by omega, by omega, hix, ex, ?_⟩
  obtain ⟨ndf, inf⟩ := F1.nofp s2
  have hA := inf a List.mem_cons_self
  have r1 : RpL cm (L2.upd H1 a (.lst (vs.eraseIdx k.toNat))) (inA fps1 ([] ++ O)) .fz [] (vs.eraseIdx k.toNat) (ds.eraseIdx k.toNat) := upd_rpl (rl.erase _) hA (fun z => nomatch z)
  have rx1 := upd_rp (o := .lst (vs.eraseIdx k.toNat)) rx hA (fun z => nomatch z)
  obtain ⟨F2, g2⟩ := F1.modIn s0 s2 List.mem_cons_self (f1 := [a]) (dr := []) (List.Perm.refl _) (.lstO upd_same r1)
  rw [set_same hm] at F2
  have sub : ∀ b ∈ (fps1.set i [a]).flatten, b ∈ fps1.flatten := fun b z => by rw [set_same s2] at z; exact z
  refine q x [] _ _ (rx1.less fun b z => ?_) F2 (g1.trans g2)
  rcases inA_iff.mp z with z | z
  · exact inA_iff.mpr (.inl (sub b z))
  · exact inA_iff.mpr (.inr z)
/-- slot i: x[k] = e, frozen items -/
def mSetIx (i : Nat) (fe fi : ME) : MS := fun δ => (fe δ).bind fun p => (fi p.2).bind fun q => match q.1 with
  | .int k => (q.2[i]?).bind fun d0 => (isLst d0).bind fun ds => (ixN ds.length k).map fun j => .nx (q.2.set i (.lst (ds.set j p.1)))
  | _ => none
theorem RS.setix (i : Nat) (he : RE cm te ms ms1 .fz g) (hi : RE cm ti ms1 ms2 .fz gx) (hm1 : ms1[i]? = some (.l .fz)) (hm : ms2[i]? = some (.l .fz)) : RS cm c (tAsg te (gSub (tVar i) ti rSetL)) ms ms2 (mSetIx i g gx) := by
  intro σ H O δ fps F out e De q
  obtain ⟨⟨dy, δ1⟩, e1, e⟩ := Option.bind_eq_some_iff.mp e
  obtain ⟨⟨dk, δ2⟩, e2, e⟩ := Option.bind_eq_some_iff.mp e
  cases dk <;> try (cases e; done)
  rename_i k
  obtain ⟨d0, e3, e⟩ := Option.bind_eq_some_iff.mp e
  obtain ⟨ds, e4, e⟩ := Option.bind_eq_some_iff.mp e
  obtain ⟨j, e5, ee⟩ := Option.map_eq_some_iff.mp e
  have e4 := isLst_eq e4; subst e4
  cases ee
  refine he σ H O δ fps F dy δ1 e1 _ fun y fy H1 fps1 ry F1 g1 => ?_
  have hfy := ry.fz_nil; subst hfy
  obtain ⟨v0, f9, d9, s0, _, _, r9⟩ := F1.gets hm1 rfl
  refine ⟨v0, s0, ?_⟩
  refine hi σ H1 _ δ1 fps1 F1 _ δ2 e2 _ fun z fz H2 fps2 rz F2 g2 => ?_
  have ry2 := up F1 ry F2 g2
  have hfz := rz.fz_nil; subst hfz
  cases rz
  obtain ⟨v1, f0, s1, s2, r0⟩ := F2.get hm rfl (show δ2[i]? = some (.lst ds) from e3)
  rw [s0] at s1; cases s1
  obtain ⟨a, fr, vs, rfl, rfl, ha, rl⟩ := r0.lO_inv
  have hl := rl.len
  have fr0 := rl.fz_nil; subst fr0
  refine ⟨a, vs, k, j, rfl, rfl, ha, by rw [hl]; exact e5, ?_⟩
  obtain ⟨ndf, inf⟩ := F2.nofp s2
  have hA := inf a List.mem_cons_self
  have r1 : RpL cm (L2.upd H2 a (.lst (vs.set j y))) (inA fps2 ([] ++ ([] ++ O))) .fz [] (vs.set j y) (ds.set j dy) := upd_rpl (rl.setF j ry2) hA (fun z => nomatch z)
  obtain ⟨F3, g3⟩ := Frm.modIn (fy := []) F2 s0 s2 List.mem_cons_self (f1 := [a]) (dr := []) (List.Perm.refl _) (.lstO upd_same r1)
  rw [set_same hm] at F3
  exact q σ _ _ F3 ((g1.trans g2).trans g3) rfl

/-! ### conversions, concatenations -/
/-- list(x): a new list -/
def rListOf (K : PySem.W.Frag) : List V → Hp → VK → Prop := fun xs H Q => ∃ p ys, xs = [.ref p] ∧ (SqL K H p ys ∨ SqT K H p ys) ∧ ∀ l, H l = none → Q (.ref l) (L2.upd H l (.lst ys))
def listOfD : List D → Option D
  | [d] => (seqD d).map .lst
  | _ => none
theorem ON.list (hm : listMo ma = true := by rfl) : ON cm (fun xs H Q => ∃ p ys, xs = [V.ref p] ∧ (SqL cm.K H p ys ∨ SqT cm.K H p ys) ∧ ∀ l, H l = none → Q (.ref l) (L2.upd H l (.lst ys))) [ma] (.l .fz) listOfD := by
  intro H O ms fps σ δ xs fx das F r d e Q q
  obtain ⟨x, da, rfl, rfl, rz⟩ := r.inv1
  obtain ⟨ds, e1, e⟩ := Option.map_eq_some_iff.mp e
  cases e
  obtain ⟨a, vs, rfl, hs, rl⟩ := rz.seq hm e1
  exact ⟨a, vs, rfl, hs.imp (·.1) (·.1), fun p hp => Ret.newL F q rl hp⟩
/-- tuple(x) -/
def tupOfD : List D → Option D
  | [d] => (seqD d).map .tup
  | _ => none
theorem ON.tuple (hm : listMo ma = true := by rfl) : ON cm (fun xs H Q => ∃ p ys, xs = [V.ref p] ∧ ((SqL cm.K H p ys ∧ ∀ l, H l = none → Q (.ref l) (L2.upd H l (.tup ys))) ∨ (SqT cm.K H p ys ∧ Q (.ref p) H))) [ma] .fz tupOfD := by
  intro H O ms fps σ δ xs fx das F r d e Q q
  obtain ⟨x, da, rfl, rfl, rz⟩ := r.inv1
  obtain ⟨ds, e1, e⟩ := Option.map_eq_some_iff.mp e
  cases e
  obtain ⟨a, vs, rfl, hs, rl⟩ := rz.seq hm e1
  refine ⟨a, vs, rfl, ?_⟩
  rcases hs with ⟨hs, _⟩ | ⟨hs, ht⟩
  · exact .inl ⟨hs, fun p hp => Ret.newT F q rl hp⟩
  · refine .inr ⟨hs, ?_⟩
    cases da <;> first | (cases ht; done) | skip
    cases e1
    have hfx := rz
    cases rz with
    | tup h n r => exact q.here F hfx
/-- lists put together: a new one, owned; tuples -/
def catL : D → D → Option D
  | .lst xs, .lst ys => if xs.length + ys.length < lim then some (.lst (xs ++ ys)) else none
  | _, _ => none
theorem Rp.lst_at {ds} (h : Rp cm H A m f v (.lst ds)) (hm : listMo m = true) : ∃ a vs, v = .ref a ∧ H a = some (.lst vs) ∧ RpL cm H A .fz [] vs ds := by
  cases h with
  | lst h n r => exact ⟨_, _, rfl, h, r⟩
  | @lstO m fp a vs ds' h r =>
    have hm2 : m = .fz := by cases m <;> first | rfl | cases hm
    subst hm2
    have h2 := r.fz_nil
    subst h2
    exact ⟨_, _, rfl, h, r⟩
theorem O2.catL (hma : listMo ma = true := by rfl) (hmb : listMo mb = true := by rfl) : O2 cm rCat ma mb (.l .fz) catL := by
  intro H O ms fps σ δ x y fx fy da db F rx ry d e Q q
  cases da <;> try (cases e; done)
  cases db <;> try (cases e; done)
  rename_i xs ys
  have e : (if xs.length + ys.length < lim then some (D.lst (xs ++ ys)) else none) = some d := e
  split at e
  rotate_left
  · cases e
  rename_i hl
  cases e
  obtain ⟨a, vs, rfl, ha, rl⟩ := rx.lst_at hma
  obtain ⟨b, ws, rfl, hb, rl2⟩ := ry.lst_at hmb
  refine ⟨a, b, vs, ws, rfl, rfl, ha, hb, by rw [rl.len, rl2.len]; exact Nat.le_trans (Nat.le_of_lt hl) lim_line, fun p hp => Ret.newL F q ?_ hp⟩
  exact RpL.append (f1 := []) (f2 := []) rl rl2
def catT : D → D → Option D
  | .tup xs, .tup ys => if xs.length + ys.length < lim then some (.tup (xs ++ ys)) else none
  | _, _ => none
theorem O2.catT : O2 cm (rCatA cm.K) .fz .fz .fz catT := by
  intro H O ms fps σ δ x y fx fy da db F rx ry d e Q q
  cases da <;> try (cases e; done)
  cases db <;> try (cases e; done)
  rename_i xs ys
  have e : (if xs.length + ys.length < lim then some (D.tup (xs ++ ys)) else none) = some d := e
  split at e
  rotate_left
  · cases e
  rename_i hl
  cases e
  have rx0 := rx
  have ry0 := ry
  cases rx with
  | @tup a vs xs' h1 n1 rl =>
    cases ry with
    | @tup b ws ys' h2 n2 rl2 =>
      refine ⟨a, b, vs, ws, rfl, rfl, SqT.of h1, SqT.of h2, by rw [rl.len, rl2.len]; exact Nat.le_trans (Nat.le_of_lt hl) lim_line, fun z => ?_, fun _ z => ?_, fun _ _ p hp => ?_⟩
      · have hx : xs = [] := List.eq_nil_of_length_eq_zero (by rw [← rl.len, z]; rfl)
        subst hx
        exact q.here F ry0
      · have hy : ys = [] := List.eq_nil_of_length_eq_zero (by rw [← rl2.len, z]; rfl)
        subst hy
        rw [List.append_nil] at q
        exact q.here F rx0
      · exact Ret.newT F q (RpL.append (f1 := []) (f2 := []) rl rl2) hp
/-- [..] * n -/
def repL : D → D → Option D
  | .lst xs, .int k => if smallI k = true ∧ xs.length * k.toNat < lim then some (.lst (List.replicate k.toNat xs).flatten) else none
  | _, _ => none
theorem RpL.rep {vs ds} (r : RpL cm H A .fz [] vs ds) : ∀ k : Nat, RpL cm H A .fz [] (List.replicate k vs).flatten (List.replicate k ds).flatten
  | 0 => .nil
  | k + 1 => by
    rw [List.replicate_succ, List.replicate_succ, List.flatten_cons, List.flatten_cons]
    exact RpL.append (f1 := []) (f2 := []) r (RpL.rep r k)
theorem O2.repL (hma : listMo ma = true := by rfl) : O2 cm rRep ma .fz (.l .fz) repL := by
  intro H O ms fps σ δ x y fx fy da db F rx ry d e Q q
  cases da <;> try (cases e; done)
  cases db <;> try (cases e; done)
  rename_i xs k
  have e : (if smallI k = true ∧ xs.length * k.toNat < lim then some (D.lst (List.replicate k.toNat xs).flatten) else none) = some d := e
  split at e
  rotate_left
  · cases e
  rename_i hl
  cases e
  cases ry
  have h2 := of_decide_eq_true hl.1
  obtain ⟨a, vs, rfl, ha, rl⟩ := rx.lst_at hma
  exact ⟨a, k, vs, rfl, rfl, ha, by omega, by omega, by rw [rl.len]; exact Nat.le_trans (Nat.le_of_lt hl.2) lim_line, fun p hp => Ret.newL F q (rl.rep _) hp⟩
/-- list(range(..)), tuple(range(..)) -/
theorem rg_rpl (a b : Int) : RpL cm H A .fz [] (rgV a b) (rangeD a b) := by
  unfold rgV rangeD
  induction List.range (b - a).toNat with
  | nil => exact .nil
  | cons n ns ih => exact RpL.cons (f1 := []) (f2 := []) .int ih
def okRg (a b : Int) : Bool := decide (-1000000 ≤ a ∧ a ≤ 1000000 ∧ -1000000 ≤ b ∧ b ≤ 1000000)
def mLstRg1 (fa : ME) : ME := mUn (fun d => match d with
  | .int b => if okRg 0 b = true then some (.lst (rangeD 0 b)) else none
  | _ => none) fa
def mTupRg1 (fa : ME) : ME := mUn (fun d => match d with
  | .int b => if okRg 0 b = true then some (.tup (rangeD 0 b)) else none
  | _ => none) fa
theorem RE.lstRg1 (ha : RE cm ta ms ms1 .fz fa) : RE cm (tLstRg (tRg1 ta)) ms ms1 (.l .fz) (mLstRg1 fa) := by
  refine RE.then1 (r := fun x H1 Q => ∃ n, x = .int n ∧ (RgOk 0 n ∧ ∀ q, H1 q = none → Q (.ref q) (L2.upd H1 q (.lst (rgV 0 n))))) ?_ ha
  intro H O ms fps σ δ x fx da F rx d e Q q
  cases da <;> try (cases e; done)
  rename_i b
  have e : (if okRg 0 b = true then some (D.lst (rangeD 0 b)) else none) = some d := e
  split at e
  rotate_left
  · cases e
  rename_i hk
  cases e
  cases rx
  have h2 := of_decide_eq_true hk
  exact ⟨b, rfl, ⟨by omega, by omega, by omega, by omega, by omega⟩, fun p hp => Ret.newL F q (rg_rpl _ _) hp⟩
theorem RE.tupRg1 (ha : RE cm ta ms ms1 .fz fa) : RE cm (tTupRg (tRg1 ta)) ms ms1 .fz (mTupRg1 fa) := by
  refine RE.then1 (r := fun x H1 Q => ∃ n, x = .int n ∧ (RgOk 0 n ∧ ∀ q, H1 q = none → Q (.ref q) (L2.upd H1 q (.tup (rgV 0 n))))) ?_ ha
  intro H O ms fps σ δ x fx da F rx d e Q q
  cases da <;> try (cases e; done)
  rename_i b
  have e : (if okRg 0 b = true then some (D.tup (rangeD 0 b)) else none) = some d := e
  split at e
  rotate_left
  · cases e
  rename_i hk
  cases e
  cases rx
  have h2 := of_decide_eq_true hk
  exact ⟨b, rfl, ⟨by omega, by omega, by omega, by omega, by omega⟩, fun p hp => Ret.newT F q (rg_rpl _ _) hp⟩
/-- sorted of a list of ints -/
def sortI (ns : List Int) : List Int := ns.mergeSort (fun a b => decide (a ≤ b))
theorem sorted_unique : ∀ {as bs : List Int}, as.Perm bs → as.Pairwise (· ≤ ·) → bs.Pairwise (· ≤ ·) → as = bs := by
  intro as
  induction as with
  | nil => intro bs p _ _; exact (List.Perm.nil_eq p)
  | cons a as ih =>
    intro bs p ha hb
    cases bs with
    | nil => exact absurd p.symm (by simp)
    | cons b bs =>
      have e : a = b := by
        have h1 : a ∈ b :: bs := p.subset List.mem_cons_self
        have h2 : b ∈ a :: as := p.symm.subset List.mem_cons_self
        rcases List.mem_cons.mp h1 with h1 | h1
        · exact h1
        · rcases List.mem_cons.mp h2 with h2 | h2
          · exact h2.symm
          · have h3 := (List.pairwise_cons.mp ha).1 b h2
            have h4 := (List.pairwise_cons.mp hb).1 a h1
            omega
      subst e
      rw [ih (List.Perm.cons_inv p) (List.pairwise_cons.mp ha).2 (List.pairwise_cons.mp hb).2]
theorem sortI_perm (ns : List Int) : (sortI ns).Perm ns := List.mergeSort_perm _ _
theorem sortI_sorted (ns : List Int) : (sortI ns).Pairwise (· ≤ ·) := by
  have h := List.pairwise_mergeSort (le := fun a b : Int => decide (a ≤ b)) (by intro a b c h1 h2; simp at *; omega) (by intro a b; simp; omega) ns
  exact h.imp fun h => of_decide_eq_true h
def sortD : List D → Option D
  | [d] => (listD d).bind fun ds => (intsD ds).map fun ns => .lst ((sortI ns).map .int)
  | _ => none
theorem ON.sorted (hm : listMo ma = true := by rfl) : ON cm (rSortedI cm.K) [ma] (.l .fz) sortD := by
  intro H O ms fps σ δ xs fx das F r d e Q q
  obtain ⟨x, da, rfl, rfl, rz⟩ := r.inv1
  obtain ⟨ds, e1, e⟩ := Option.bind_eq_some_iff.mp e
  obtain ⟨ns, e2, e⟩ := Option.map_eq_some_iff.mp e
  cases e
  obtain ⟨a, vs, rfl, hs, rl⟩ := rz.lstL hm e1
  rw [rl.ints e2] at hs
  refine ⟨a, ns, rfl, hs, fun ns' p h1 h2 hp => ?_⟩
  have e : ns' = sortI ns := sorted_unique (h1.trans (sortI_perm ns).symm) h2 (sortI_sorted ns)
  rw [e]
  exact Ret.newL F q (RpL.ofInts _) hp
end
end DL

namespace DL
open PySem L2
section
variable {cm : Gm} {c : Cfg} {H H1 H2 H' : Hp} {O fp fp1 fp2 f f' : List Addr} {ms ms' ms1 ms2 ms3 ms4 : List Mo} {fps fps' fps1 : List (List Addr)} {σ σ' σ1 : List (Option V)} {δ δ' : List D} {m ma mb mc m0 m1 rm : Mo} {v : V} {d : D} {A : Addr → Prop}
variable {ta tb tc te ti : TE} {tt tu : TT} {t u : TS} {fa fb fc g gx : ME} {ga gb : MT} {gs gr : MS} {i j : Nat} {De : Ends} {out : Out}

/-! ### slices -/
abbrev MO := List D → Option (Option Int × List D)
def RO (cm : Gm) (t : TO) (ms ms' : List Mo) (g : MO) : Prop :=
  ∀ σ H O δ fps, Frm cm H O ms fps σ δ → ∀ o δ', g δ = some (o, δ') → ∀ Q : Option Int → Hp → Prop,
    (∀ H' fps', Frm cm H' O ms' fps' σ δ' → Go H fps.flatten H' fps'.flatten → Q o H') → t σ H Q
def mPn : MO := fun δ => some (none, δ)
def mPs (fa : ME) : MO := fun δ => (fa δ).bind fun p => match p.1 with
  | .int i => some (some i, p.2)
  | _ => none
theorem RO.none : RO cm tNoPart ms ms mPn := by
  intro σ H O δ fps F o δ' e Q q
  cases e
  exact q H fps F Go.rfl
theorem RO.some (ha : RE cm ta ms ms1 .fz fa) : RO cm (tPart ta) ms ms1 (mPs fa) := by
  intro σ H O δ fps F o δ' e Q q
  obtain ⟨⟨da, δ1⟩, e1, e⟩ := Option.bind_eq_some_iff.mp e
  refine ha σ H O δ fps F da δ1 e1 _ fun x fx H1 fps1 rx F1 g1 => ?_
  cases da <;> try (cases e; done)
  cases e
  have hfx := rx.fz_nil; subst hfx
  cases rx
  exact ⟨_, rfl, q H1 fps1 F1 g1⟩
def cutD (xs : List D) (lo hi : Option Int) : List D := (xs.drop (HT.sIx xs.length 0 lo)).take (HT.sIx xs.length xs.length hi - HT.sIx xs.length 0 lo)
theorem RpL.dropF {vs ds} (r : RpL cm H A .fz [] vs ds) (k : Nat) : RpL cm H A .fz [] (vs.drop k) (ds.drop k) := by
  induction k generalizing vs ds with
  | zero => exact r
  | succ k ih =>
    rcases r.invF with ⟨rfl, rfl⟩ | ⟨v, vs', d, ds', rfl, rfl, h, r⟩
    · exact .nil
    · exact ih r
theorem RpL.takeF {vs ds} (r : RpL cm H A .fz [] vs ds) (k : Nat) : RpL cm H A .fz [] (vs.take k) (ds.take k) := by
  induction k generalizing vs ds with
  | zero => exact .nil
  | succ k ih =>
    rcases r.invF with ⟨rfl, rfl⟩ | ⟨v, vs', d, ds', rfl, rfl, h, r⟩
    · exact .nil
    · exact RpL.cons (f1 := []) (f2 := []) h (ih r)
theorem RpL.cut {vs ds} (r : RpL cm H A .fz [] vs ds) (lo hi : Option Int) : RpL cm H A .fz [] (cutV vs lo hi) (cutD ds lo hi) := by
  unfold cutV cutD
  rw [r.len]
  exact (r.dropF _).takeF _
def mSl (o : D → Option Int → Option Int → Option D) (fa : ME) (fl fh : MO) : ME := fun δ => (fa δ).bind fun p => (fl p.2).bind fun q => (fh q.2).bind fun r => (o p.1 q.1 r.1).map fun d => (d, r.2)
def slL (x : D) (lo hi : Option Int) : Option D := (listD x).map fun ds => .lst (cutD ds lo hi)
def slT (x : D) (lo hi : Option Int) : Option D := match x with
  | .tup ds => some (.tup (cutD ds lo hi))
  | _ => none
theorem RE.slice {r : V → Option Int → Option Int → Hp → VK → Prop} {o : D → Option Int → Option Int → Option D} {tl th : TO} {fl fh : MO}
    (ho : ∀ H O ms fps σ δ x fx da lo hi, Frm cm H O ms fps σ δ → Rp cm H (inA fps O) ma fx x da → ∀ d, o da lo hi = some d → ∀ Q, Ret cm H O ms fps σ δ m d Q → r x lo hi H Q)
    (ha : RE cm ta ms ms1 ma fa) (hl : RO cm tl ms1 ms2 fl) (hh : RO cm th ms2 ms3 fh) : RE cm (tSl r ta tl th) ms ms3 m (mSl o fa fl fh) := by
  intro σ H O δ fps F d δ' e Q q
  obtain ⟨⟨da, δ1⟩, e1, e⟩ := Option.bind_eq_some_iff.mp e
  obtain ⟨⟨lo, δ2⟩, e2, e⟩ := Option.bind_eq_some_iff.mp e
  obtain ⟨⟨hi, δ3⟩, e3, e⟩ := Option.bind_eq_some_iff.mp e
  obtain ⟨d2, e4, e⟩ := Option.map_eq_some_iff.mp e
  cases e
  refine ha σ H O δ fps F da δ1 e1 _ fun x fx H1 fps1 rx F1 g1 => ?_
  refine hl σ H1 _ δ1 fps1 F1 lo δ2 e2 _ fun H2 fps2 F2 g2 => ?_
  refine hh σ H2 _ δ2 fps2 F2 hi _ e3 _ fun H3 fps3 F3 g3 => ?_
  have rx3 := upT F2 (upT F1 rx g2) g3
  refine ho H3 _ _ fps3 σ _ x fx da lo hi F3 rx3 d e4 Q fun v f H' r F' g' => ?_
  refine q v f H' fps3 (r.less (inA.sub (sl_mid f fx O))) (F'.subO (sl_mid f fx O)) ?_
  exact (((g1.sub' (f := fps1.flatten) fun a z => List.mem_append_right _ z).trans g2).trans g3).trans (g'.mono (fun a z => nomatch z) fun a z => (List.mem_append.mp z).imp id id)
theorem RE.sliceL {tl th : TO} {fl fh : MO} (ha : RE cm ta ms ms1 ma fa) (hl : RO cm tl ms1 ms2 fl) (hh : RO cm th ms2 ms3 fh) (hm : listMo ma = true := by rfl) : RE cm (tSl (rSlL cm.K) ta tl th) ms ms3 (.l .fz) (mSl slL fa fl fh) := by
  refine RE.slice (fun H O ms fps σ δ x fx da lo hi F rx d e Q q => ?_) ha hl hh
  obtain ⟨ds, e1, e⟩ := Option.map_eq_some_iff.mp e
  cases e
  obtain ⟨a, vs, rfl, hs, rl⟩ := rx.lstL hm e1
  exact ⟨a, vs, rfl, hs, fun p hp => Ret.newL F q (rl.cut lo hi) hp⟩
theorem RE.sliceT {tl th : TO} {fl fh : MO} (ha : RE cm ta ms ms1 .fz fa) (hl : RO cm tl ms1 ms2 fl) (hh : RO cm th ms2 ms3 fh) : RE cm (tSl (rSlA cm.K) ta tl th) ms ms3 .fz (mSl slT fa fl fh) := by
  refine RE.slice (fun H O ms fps σ δ x fx da lo hi F rx d e Q q => ?_) ha hl hh
  cases da <;> try (cases e; done)
  rename_i ds
  cases e
  have r0 := rx
  cases rx with
  | @tup a vs _ h n rl =>
    refine ⟨a, vs, rfl, SqT.of h, fun z => ?_, fun _ p hp => Ret.newT F q (rl.cut lo hi) hp⟩
    have e : cutD ds lo hi = ds := by
      unfold cutD
      rw [← rl.len, z.1, z.2]
      simp [rl.len]
    rw [e] at q
    exact q.here F r0
def revL (x : D) : Option D := (listD x).map fun ds => .lst ds.reverse
theorem RpL.rev {vs ds} (r : RpL cm H A .fz [] vs ds) : RpL cm H A .fz [] vs.reverse ds.reverse := by
  induction vs generalizing ds with
  | nil =>
    rcases r.invF with ⟨_, rfl⟩ | ⟨v, vs', d, ds', h, _⟩
    · exact .nil
    · cases h
  | cons v vs ih =>
    rcases r.invF with ⟨h, _⟩ | ⟨v', vs', d, ds', h, rfl, h1, h2⟩
    · cases h
    · cases h
      rw [List.reverse_cons, List.reverse_cons]
      exact RpL.append (f1 := []) (f2 := []) (ih h2) (RpL.cons (f1 := []) (f2 := []) h1 .nil)
theorem RE.revL (ha : RE cm ta ms ms1 ma fa) (hm : listMo ma = true := by rfl) : RE cm (tRevL cm.K ta) ms ms1 (.l .fz) (mUn DL.revL fa) := by
  refine RE.then1 (r := fun x H1 Q => ∃ a xs, x = .ref a ∧ SqL cm.K H1 a xs ∧ ∀ p, H1 p = none → Q (.ref p) (L2.upd H1 p (.lst xs.reverse))) (fun H O ms fps σ δ x fx da F rx d e Q q => ?_) ha
  obtain ⟨ds, e1, e⟩ := Option.map_eq_some_iff.mp e
  cases e
  obtain ⟨a, vs, rfl, hs, rl⟩ := rx.lstL hm e1
  exact ⟨a, vs, rfl, hs, fun p hp => Ret.newL F q rl.rev hp⟩

/-! ### fields -/
/-- what is known of a field of some classes -/
def FldOk (K : PySem.W.Frag) (cm : Gm) (cs : List Str) (f : Str) : Prop := ∀ c ∈ cs, Cls K (cm c) ∧ NoAttr K (cm c) f
def fldD (cs : List Str) (f : Str) (d : D) : Option D := match d with
  | .obj c fs => if c ∈ cs then fs.lookup f else none
  | _ => none
theorem lookup_rel {x : Str} {d : D} : ∀ {fs : List (Str × V)} {fds : List (Str × D)}, fs.map (·.1) = fds.map (·.1) → RpL cm H A .fz [] (fs.map (·.2)) (fds.map (·.2)) → fds.lookup x = some d → ∃ v, fs.lookup x = some v ∧ Rp cm H A .fz [] v d
  | _, [], _, _, e => by cases e
  | [], _ :: _, e, _, _ => by simp at e
  | (a, v) :: fs, (b, w) :: fds, e, r, el => by
    simp only [List.map_cons, List.cons.injEq] at e
    obtain ⟨e1, e2⟩ := e
    subst e1
    rcases r.invF with ⟨h, _⟩ | ⟨v', vs', d', ds', h, h', r1, r2⟩
    · simp at h
    · simp only [List.map_cons, List.cons.injEq] at h h'
      obtain ⟨rfl, rfl⟩ := h
      obtain ⟨rfl, rfl⟩ := h'
      by_cases hx : x = a
      · subst hx
        simp only [List.lookup, beq_self_eq_true] at el ⊢
        cases el
        exact ⟨v, rfl, r1⟩
      · have hb : (x == a) = false := beq_eq_false_iff_ne.mpr hx
        simp only [List.lookup, hb] at el ⊢
        exact lookup_rel e2 r2 el
/-- an object whose fields are frozen (its own, or not) -/
def objMo : Mo → Bool
  | .fz => true
  | .o ms => allFz ms
  | _ => false
theorem Rp.objF {cn : Str} {fds} (h : Rp cm H A m f v (.obj cn fds)) (hm : objMo m = true) : ∃ a dx fs, v = .ref a ∧ H a = some (.ins (cm cn) dx fs) ∧ fs.map (·.1) = fds.map (·.1) ∧ RpL cm H A .fz [] (fs.map (·.2)) (fds.map (·.2)) := by
  cases h with
  | obj h n e r => exact ⟨_, _, _, rfl, h, e, r⟩
  | objO h e r =>
    obtain ⟨_, r⟩ := r.toFz hm
    exact ⟨_, _, _, rfl, h, e, r⟩
def rFld (K : PySem.W.Frag) (x : Str) : V → Hp → VK → Prop := fun y H1 Q => ∃ a C dx fs v, y = .ref a ∧ H1 a = some (.ins C dx fs) ∧ Cls K C ∧ NoAttr K C x ∧ fs.lookup x = some v ∧ Q v H1
theorem O1.fld {cs : List Str} {x : Str} (hf : FldOk cm.K cm cs x) (hm : objMo ma = true := by rfl) : O1 cm (rFld cm.K x) ma .fz (fldD cs x) := by
  intro H O ms fps σ δ y fx da F rx d e Q q
  cases da <;> try (cases e; done)
  rename_i cn fds
  have e : (if cn ∈ cs then fds.lookup x else none) = some d := e
  split at e
  rotate_left
  · cases e
  rename_i hc
  obtain ⟨a, dx, fs, rfl, ha, en, rl⟩ := rx.objF hm
  obtain ⟨v, e2, r⟩ := lookup_rel en rl e
  exact ⟨a, _, dx, fs, v, rfl, ha, (hf cn hc).1, (hf cn hc).2, e2, q.here F r⟩
theorem RE.fld {x : Str} (cs : List Str) (hf : FldOk cm.K cm cs x) (ha : RE cm ta ms ms1 ma fa) (hm : objMo ma = true := by rfl) : RE cm (tFld cm.K ta x) ms ms1 .fz (mUn (fldD cs x) fa) := RE.then1 (r := rFld cm.K x) (O1.fld hf hm) ha
theorem RE.fldv {x : Str} (i : Nat) (cs : List Str) (hf : FldOk cm.K cm cs x) (h : ms[i]? = some ma) (hm : objMo ma = true := by rfl) (hn : ma.here = true := by rfl) : RE cm (tFld cm.K (tVar i) x) ms ms .fz (mUnV (fldD cs x) i) := RE.then1v (r := rFld cm.K x) i (O1.fld hf hm) h hn
theorem putF_new {x : Str} {v : V} : ∀ {fs : List (Str × V)}, fs.lookup x = none → putF x v fs = fs ++ [(x, v)]
  | [], _ => rfl
  | (a, w) :: fs, e => by
    by_cases hx : x = a
    · subst hx; simp [List.lookup] at e
    · have hb : (x == a) = false := beq_eq_false_iff_ne.mpr hx
      simp only [List.lookup, hb] at e
      rw [putF, if_neg (fun z => hx z.symm), putF_new e]
      rfl
theorem lookup_none {x : Str} : ∀ {fs : List (Str × V)} {fds : List (Str × D)}, fs.map (·.1) = fds.map (·.1) → fds.lookup x = none → fs.lookup x = none
  | [], [], _, _ => rfl
  | [], _ :: _, e, _ => by simp at e
  | _ :: _, [], e, _ => by simp at e
  | (a, v) :: fs, (b, w) :: fds, e, el => by
    simp only [List.map_cons, List.cons.injEq] at e
    obtain ⟨e1, e2⟩ := e
    subst e1
    by_cases hx : x = a
    · subst hx; simp [List.lookup] at el
    · have hb : (x == a) = false := beq_eq_false_iff_ne.mpr hx
      simp only [List.lookup, hb] at el ⊢
      exact lookup_none e2 el
theorem RpM.snoc : ∀ {ms f1 f2 vs ds}, RpM cm H A ms f1 vs ds → Rp cm H A m f2 v d → RpM cm H A (ms ++ [m]) (f1 ++ f2) (vs ++ [v]) (ds ++ [d])
  | _, _, _, _, _, .nil, h => by
    have := RpM.cons h .nil
    rw [List.append_nil] at this
    exact this
  | _, _, _, _, _, .cons h0 r, h => by
    rw [List.append_assoc]
    exact .cons h0 (RpM.snoc r h)
theorem upd_rpm {a : Addr} {o : HO} {mas vs ds} (r : RpM cm H A mas f vs ds) (ha : A a) (hf : a ∉ f) : RpM cm (L2.upd H a o) A mas f vs ds :=
  r.mono (fun _ _ _ n => n) fun b u e z => by
    rw [upd_ne ?_]
    · exact e
    · rintro rfl
      rcases z with z | z
      · exact z ha
      · exact hf z
/-- slot i: x.f = e, a new field -/
def mFldNew (i : Nat) (cs : List Str) (x : Str) (fe : ME) : MS := fun δ => (fe δ).bind fun p => (p.2[i]?).bind fun d0 => match d0 with
  | .obj c fds => if c ∈ cs ∧ fds.length < 900 ∧ (fds.lookup x).isNone = true then some (.nx (p.2.set i (.obj c (fds ++ [(x, p.1)])))) else none
  | _ => none
theorem RS.fldNew {x : Str} {mf : List Mo} (i : Nat) (cs : List Str) (hf : FldOk cm.K cm cs x) (he : RE cm te ms ms1 m g) (hm : ms1[i]? = some (.o mf)) : RS cm c (sFld cm.K (tVar i) te x) ms (ms1.set i (.o (mf ++ [m]))) (mFldNew i cs x g) := by
  intro σ H O δ fps F out e De q
  obtain ⟨⟨dy, δ1⟩, e1, e⟩ := Option.bind_eq_some_iff.mp e
  obtain ⟨d0, e2, e⟩ := Option.bind_eq_some_iff.mp e
  cases d0 <;> try (cases e; done)
  rename_i cn fds
  have e : (if cn ∈ cs ∧ fds.length < 900 ∧ (fds.lookup x).isNone = true then some (Out.nx (δ1.set i (.obj cn (fds ++ [(x, dy)])))) else none) = some out := e
  split at e
  rotate_left
  · cases e
  rename_i hc
  cases e
  refine he σ H O δ fps F dy δ1 e1 _ fun y fy H1 fps1 ry F1 g1 => ?_
  obtain ⟨v1, f0, s1, s2, r0⟩ := F1.get hm rfl (show δ1[i]? = some (.obj cn fds) from e2)
  refine ⟨v1, s1, ?_⟩
  cases r0 with
  | @objO _ fr a dx _ fs _ ha en rm =>
    have hl : fs.length = fds.length := by have := congrArg List.length en; simpa using this
    refine ⟨a, _, dx, fs, rfl, ha, (hf cn hc.1).1, (hf cn hc.1).2, by rw [hl]; have := hc.2.1; omega, ?_⟩
    have hnone := lookup_none en (Option.isNone_iff_eq_none.mp hc.2.2)
    rw [putF_new hnone]
    obtain ⟨ndf, inf⟩ := F1.nofp s2
    have na : a ∉ fr := (List.nodup_cons.mp ndf).1
    have nay : a ∉ fy := fun z => F1.disj a (List.mem_append_left _ z) (((flat_set s2).mem_iff).mpr (List.mem_append_left _ List.mem_cons_self))
    have hA := inf a List.mem_cons_self
    have r1 : RpM cm (L2.upd H1 a (.ins (cm cn) dx (fs ++ [(x, y)]))) (inA fps1 (fy ++ O)) (mf ++ [m]) (fr ++ fy) ((fs ++ [(x, y)]).map (·.2)) ((fds ++ [(x, dy)]).map (·.2)) := by
      rw [List.map_append, List.map_append]
      exact (upd_rpm rm hA na).snoc (upd_rp ry hA nay)
    obtain ⟨F2, g2⟩ := F1.modIn s1 s2 List.mem_cons_self (f1 := a :: (fr ++ fy)) (dr := []) (by rw [List.append_nil]; exact List.Perm.refl _) (.objO upd_same (by rw [List.map_append, List.map_append, en]; rfl) r1)
    exact q σ _ _ F2 (g1.trans g2) rfl

/-! ### dicts with written keys; what a dict holds -/
def mDisp (keys : List Str) (fa : MA) : ME := fun δ => (fa δ).map fun p => (.dct ((keys.map (fun k => (Sum.inr k : Key))).zip p.1), p.2)
def RP (cm : Gm) (trs : List (TE × TE)) (ms ms' : List Mo) (keys : List Str) (g : MA) : Prop :=
  ∀ σ H O δ fps, Frm cm H O ms fps σ δ → ∀ ds δ', g δ = some (ds, δ') → ∀ Q : List (V × V) → Hp → Prop,
    (∀ vs H' fps', vs.length = keys.length → RpL cm H' (inA fps' O) .fz [] vs ds → Frm cm H' O ms' fps' σ δ' → Go H fps.flatten H' fps'.flatten → Q ((keys.map V.str).zip vs) H') → tPairs trs σ H Q
theorem RP.nil : RP cm [] ms ms [] mNil := by
  intro σ H O δ fps F ds δ' e Q q
  cases e
  exact q [] H fps rfl .nil F Go.rfl
theorem RP.cons {k : Str} {keys : List Str} {trs : List (TE × TE)} {gr : MA} (he : RE cm te ms ms1 .fz g) (hr : RP cm trs ms1 ms2 keys gr) : RP cm ((tC (.str k), te) :: trs) ms ms2 (k :: keys) (mCons g gr) := by
  intro σ H O δ fps F ds δ' e Q q
  obtain ⟨⟨da, δ1⟩, e1, e⟩ := Option.bind_eq_some_iff.mp e
  obtain ⟨⟨dr, δ2⟩, e2, e⟩ := Option.map_eq_some_iff.mp e
  cases e
  refine he σ H O δ fps F da δ1 e1 _ fun x fx H1 fps1 rx F1 g1 => ?_
  have hfx := rx.fz_nil; subst hfx
  refine hr σ H1 O δ1 fps1 F1 dr _ e2 _ fun vs H2 fps2 hl rv F2 g2 => ?_
  exact q (x :: vs) H2 fps2 (by simp [hl]) (RpL.cons (f1 := []) (f2 := []) (upT (f := []) F1 rx g2) rv) F2 (g1.trans g2)
theorem mergeK_new : ∀ (more kvs : List (Key × V)), ((kvs ++ more).map (·.1)).Nodup → mergeK kvs more = kvs ++ more
  | [], kvs, _ => by simp [mergeK]
  | (k, v) :: more, kvs, h => by
    have hk : valV kvs k = none := by
      cases e : valV kvs k with
      | none => rfl
      | some w =>
        exfalso
        unfold valV at e
        obtain ⟨p, e1, e2⟩ := Option.map_eq_some_iff.mp e
        have h1 := List.mem_of_find?_eq_some e1
        have h2 : p.1 = k := by simpa using List.find?_some e1
        rw [List.map_append, List.map_cons, List.nodup_append] at h
        exact h.2.2 p.1 (List.mem_map.mpr ⟨p, h1, rfl⟩) k List.mem_cons_self h2
    have e : mergeK kvs ((k, v) :: more) = mergeK (putK kvs k v) more := rfl
    rw [e, putK_new _ hk, mergeK_new more (kvs ++ [(k, v)]) (by rw [List.append_assoc]; exact h), List.append_assoc]
    rfl
theorem RE.disp {trs : List (TE × TE)} {keys : List Str} {gr : MA} (hr : RP cm trs ms ms1 keys gr) (hk : (keys.map (fun k => (Sum.inr k : Key))).Nodup := by decide) (h15 : keys.length ≤ 15 := by decide) : RE cm (tDisp trs) ms ms1 (.d .fz) (mDisp keys gr) := by
  intro σ H O δ fps F d δ' e Q q
  obtain ⟨⟨ds, δ1⟩, e1, e⟩ := Option.map_eq_some_iff.mp e
  cases e
  intro p hp
  refine hr σ _ (p :: O) δ fps (F.fresh hp) ds δ1 e1 _ fun vs H1 fps1 hl rv F1 g1 => ?_
  have hpin : p ∈ p :: O := List.mem_cons_self
  have hp1 : H1 p = some (.dK []) := g1.pres p _ upd_same ((F.fresh (o := .dK []) hp).disj p hpin)
  have hld : vs.length = ds.length := rv.len
  have hz : ((keys.map (fun k => (Sum.inr k : Key))).zip vs).map (·.1) = keys.map (fun k => (Sum.inr k : Key)) := by
    rw [List.map_fst_zip (by simp [hl])]
  refine ⟨hp1, (keys.map (fun k => (Sum.inr k : Key))).zip vs, ?_, ?_, ?_⟩
  · rw [List.zip_map_left, List.zip_map_left, List.map_map]
    rfl
  · simp [List.length_zip, hl]; exact h15
  · rw [mergeK_new _ _ (by rw [List.nil_append, hz]; exact hk), List.nil_append]
    have hA : inA fps1 (p :: O) p := inA_iff.mpr (.inr hpin)
    refine q (.ref p) [p] _ fps1 (.dctO upd_same ?_ ?_) (F1.upd hpin) ?_
    · rw [hz, List.map_fst_zip (by simp; omega)]
    · rw [List.map_snd_zip (by simp [hl]), List.map_snd_zip (by simp; omega)]
      exact upd_rpl rv hA (fun z => nomatch z)
    · refine ⟨fun a u e n => ?_, fun a z => ?_, fun a z => ?_⟩
      · have ne : a ≠ p := ne_of_none e hp
        rw [upd_ne ne]
        exact g1.pres a u (by rw [upd_ne ne]; exact e) n
      · rcases List.mem_cons.mp z with z | z
        · exact .inr (by rw [z]; exact hp)
        · rcases g1.sub a z with w | w
          · exact .inl w
          · refine .inr ?_
            by_cases ea : a = p
            · rw [ea]; exact hp
            · rw [upd_ne ea] at w; exact w
      · by_cases ea : a = p
        · rw [ea, upd_same]; simp
        · rw [upd_ne ea]
          exact g1.al a (by rw [upd_ne ea]; exact z)
def keyD : D → Option Key
  | .int i => some (.inl i)
  | .str x => some (.inr x)
  | _ => none
def valD (kvs : List (Key × D)) (k : Key) : Option D := (kvs.find? fun kv => decide (kv.1 = k)).map (·.2)
def getD (x y : D) : Option D := match x with
  | .dct kvs => (keyD y).bind fun k => valD kvs k
  | _ => none
theorem valD_rel {k : Key} {d : D} : ∀ {kvs : List (Key × V)} {kds : List (Key × D)}, kvs.map (·.1) = kds.map (·.1) → RpL cm H A .fz [] (kvs.map (·.2)) (kds.map (·.2)) → valD kds k = some d → ∃ v, valV kvs k = some v ∧ Rp cm H A .fz [] v d
  | _, [], _, _, e => by cases e
  | [], _ :: _, e, _, _ => by simp at e
  | (a, v) :: fs, (b, w) :: fds, e, r, el => by
    simp only [List.map_cons, List.cons.injEq] at e
    obtain ⟨e1, e2⟩ := e
    subst e1
    rcases r.invF with ⟨h, _⟩ | ⟨v', vs', d', ds', h, h', r1, r2⟩
    · simp at h
    · simp only [List.map_cons, List.cons.injEq] at h h'
      obtain ⟨rfl, rfl⟩ := h
      obtain ⟨rfl, rfl⟩ := h'
      by_cases hx : a = k
      · subst hx
        simp only [valD, List.find?, decide_true, Option.map_some] at el
        cases el
        exact ⟨v, by simp [valV, List.find?], r1⟩
      · simp only [valD, List.find?, hx, decide_false] at el
        obtain ⟨v2, e3, r3⟩ := valD_rel e2 r2 el
        exact ⟨v2, by simp only [valV, List.find?, hx, decide_false]; exact e3, r3⟩
def dctMo : Mo → Bool
  | .fz => true
  | .d .fz => true
  | _ => false
theorem Rp.dctF {kds} (h : Rp cm H A m f v (.dct kds)) (hm : dctMo m = true) : ∃ a kvs, v = .ref a ∧ H a = some (.dK kvs) ∧ kvs.map (·.1) = kds.map (·.1) ∧ RpL cm H A .fz [] (kvs.map (·.2)) (kds.map (·.2)) := by
  cases h with
  | dct h n e r => exact ⟨_, _, rfl, h, e, r⟩
  | @dctO m fp a kvs kds' h e r =>
    have hm2 : m = .fz := by cases m <;> first | rfl | cases hm
    subst hm2
    have h2 := r.fz_nil
    subst h2
    exact ⟨_, _, rfl, h, e, r⟩
theorem Rp.keyV {k : Key} (h : Rp cm H A .fz f v d) (e : keyD d = some k) : v = kV k := by
  cases h <;> first | (cases e; done) | (cases e; rfl)
theorem O2.dget (hm : dctMo ma = true := by rfl) : O2 cm (fun x y H2 Q => ∃ a v, x = .ref a ∧ DGet H2 a y (some v) ∧ Q v H2) ma .fz .fz DL.getD := by
  intro H O ms fps σ δ x y fx fy da db F rx ry d e Q q
  cases da <;> try (cases e; done)
  obtain ⟨k, e1, e2⟩ := Option.bind_eq_some_iff.mp e
  obtain ⟨a, kvs, rfl, ha, en, rl⟩ := rx.dctF hm
  obtain ⟨v, e3, r⟩ := valD_rel en rl e2
  refine ⟨a, v, rfl, ?_, q.here F r⟩
  rw [ry.keyV e1, ← e3]
  exact DGet.k ha
theorem RE.dget (ha : RE cm ta ms ms1 ma fa) (hb : RE cm tb ms1 ms2 .fz fb) (hm : dctMo ma = true := by rfl) : RE cm (tDGet ta tb) ms ms2 .fz (mOp DL.getD fa fb) := RE.op2 (O2.dget hm) ha hb
theorem RE.dgetv (i : Nat) (hb : RE cm tb ms ms1 .fz fb) (h1 : ms1[i]? = some ma) (hm : dctMo ma = true := by rfl) (hn : ma.here = true := by rfl) (hi : i < ms.length := by decide) (hh : ∀ m, ms[i]? = some m → m.here = true := by intro m h; cases h; rfl) : RE cm (tDGet (tVar i) tb) ms ms1 .fz (mOpV DL.getD i fb) := RE.op2v i (O2.dget hm) hb h1 hn hi hh
end
end DL

/-! sets made of a list of ints: sorted, and how many -/
namespace L2
open PySem PySem.Spec PyProof.Rows
/-- a set that has just been made -/
abbrev bareSet (w : World) : Obj := { cls := .type "set", dict := none, data := .set #[] 0 (.fresh 0 0 (!w.params.followText "set-order")) }
section
variable {P : Program} {w : World} {A : Around} {E : Value → Shared → Prop} {s : Shared} {l : Addr} {xs : Array Value} {ks : List Int}
/-- the body of __init__ on a bare set S, with a list of ints -/
theorem fill_set {S : Addr} (hcalm : A.handled = none) (at_S : s.heap.get? S = some (bareSet w)) (lst : s.heap.IsList l xs) (hints : IntsAre xs.toList ks) (few : ks.length + 1 < scanBound) (apart : l ≠ S) {R : Fin → Shared → Prop}
    (hdone : ∀ s' c, Moved [S, s.heap.objs.size] (fun a b => b = a) { s with heap := s.heap.push { cls := .type "list_iterator", data := .fields #[.ref l, .int 0 0] } } s' → c ≤ ks.length → SetR w s'.heap S (fun j => decide (j ∈ ks)) c → R (.done (.ret .none)) s') :
    wpAny (model P w) A (Builtin.«set.__init__» ⟨[.ref S, .ref l], []⟩) R E s := by
  have size : xs.size = ks.length := by simpa using IntsAre.length hints
  have low : S < s.heap.objs.size := Heap.lt_size at_S
  obtain ⟨o, at_l, cls_l, n, data_l⟩ := id lst
  have lowl := Heap.lt_size at_l
  cases o
  simp only at cls_l data_l
  subst cls_l data_l
  have a1 := F.sub_list_set
  have a2 := F.sub_list_frozenset
  have a3 : (Value.type "list" == Value.type "dict") = false := by decide
  unfold Builtin.«set.__init__» noKeywords Builtin.Frozenset.updateFrom
  generalize keep : pyIter = walk
  wp_walk
  subst keep
  refine wpAny_pyIter_list lst (wpAny_bind (wpAny_runValue ?_))
  have ne : l ≠ s.heap.objs.size := Nat.ne_of_lt lowl
  have item : ∀ (i : Nat) (v : Value), xs[i]? = some v → ∃ k t, ks[i]? = some k ∧ v = .int k t := fun i v hv => by
    obtain ⟨t, ev⟩ := IntsAre.int_at hints i v (by rw [Array.getElem?_toList]; exact hv)
    have hi : i < ks.length := size ▸ (Array.getElem?_eq_some_iff.mp hv).1
    exact ⟨ks[i], t, by simp [hi], by rw [ev]; simp [hi]⟩
  have there := Heap.get?_push_of_some { cls := .type "list_iterator", data := .fields #[.ref l, .int 0 0] } at_S
  refine set_update_ints ((Walks.list (A := A.in1) hcalm s.heap.objs.size l ne xs).toS) S ?_ ks size few item xs.size 0 _ (by omega) (Nat.zero_le _) ?_ ⟨0, Nat.le_refl 0, setR_new_at there⟩ fun s' c mv hc hS => ?_
  · intro z
    rcases List.mem_cons.mp z with z | z
    · rw [z] at low; exact Nat.lt_irrefl _ low
    · exact apart (List.mem_singleton.mp z).symm
  · exact ⟨⟨_, Heap.get?_push_size _ rfl, rfl, rfl⟩, lst.push _⟩
  · refine wpAny_pure ?_
    show wpAny _ _ (ret Value.none) _ _ _
    exact wpAny_pure (hdone s' c mv (by omega) hS)
/-- set(l) -/
theorem set_of_ints {Q : Value → Shared → Prop} (hcalm : A.handled = none) (lst : s.heap.IsList l xs) (hints : IntsAre xs.toList ks) (few : ks.length + 1 < scanBound)
    (hQ : ∀ h' tk c, SetR w h' s.heap.objs.size (fun j => decide (j ∈ ks)) c → (∀ b o, s.heap.get? b = some o → h'.get? b = some o) → Q (.ref s.heap.objs.size) { s with heap := h', toks := tk }) :
    wpAny (model P w) A (call (.type "set") [.ref l]) Q E s := by
  have K := F.called_set
  obtain ⟨_, _, m1⟩ := K.mro
  have m2 := K.made
  have m3 := K.sub
  have m4 := K.notType
  have m5 := K.canCreate
  have m6 := K.init.lookup
  have m7 := K.init.bind (.ref s.heap.objs.size)
  have m8 := F.typeCall_set_1 (.ref l)
  have low : l < s.heap.objs.size := lst.elim fun _ z => Heap.lt_size z.1
  refine wpAny_call (codeAny_of_tree (wpAny_pure (a := Fin.again (.builtin "type.__call__" ⟨[.type "set", .ref l], []⟩)) ⟨Code.quiet_builtin _ (by decide +kernel), codeAny_builtin F.entry_type_call ?_⟩))
  rw [Around.under_plain (weight_type_call_type "set" [.ref l] []) rfl]
  repeat (any_goals (first | assumption | wp_step))
  refine codeAny_mono (code_set_led1 (.ref l) (E := E) (Q₁ := fun x s1 => x = .ref s.heap.objs.size ∧ s1 = { s with heap := s.heap.push (bareSet w) }) ⟨rfl, rfl⟩) fun r s1 hr => ?_
  rcases r with e | fl
  · exact hr
  rcases fl with _ | _ | _ | x
  rotate_left 3
  all_goals first | exact hr.elim | skip
  obtain ⟨rfl, rfl⟩ := hr
  have at_S : (s.heap.push (bareSet w)).get? s.heap.objs.size = some (bareSet w) := Heap.get?_push_size _ rfl
  have is_S : Shared.TypeIs { s with heap := s.heap.push (bareSet w) } (.ref s.heap.objs.size) "set" := ⟨_, at_S, rfl⟩
  repeat (any_goals (first | assumption | wp_step))
  have lst2 : (s.heap.push (bareSet w)).IsList l xs := lst.push _
  refine codeAny_mono (codeAny_call_builtin (R := wants (fun x s2 => x = .none ∧ ∃ h' tk c, s2 = { s with heap := h', toks := tk } ∧ SetR w h' s.heap.objs.size (fun j => decide (j ∈ ks)) c ∧ ∀ b o, s.heap.get? b = some o → h'.get? b = some o) E)
    K.init.plain F.entry_set_init (check_set_init_1 is_S (fill_set (by simp [hcalm]) at_S lst2 hints few (Nat.ne_of_lt low) fun s' c mv hc hS => ?_))) fun r s2 hr => ?_
  · obtain ⟨h', gg, dd, tk, oo⟩ := s'
    have e1 : gg = s.gens := mv.gens
    have e2 : dd = s.drawn := mv.drawn
    have e3 : oo = s.os := mv.os
    subst e1 e2 e3
    refine ⟨rfl, h', tk, c, rfl, hS, fun b o e => ?_⟩
    have hb := Heap.lt_size e
    refine mv.heap b o (fun z => ?_) (Heap.get?_push_of_some _ (Heap.get?_push_of_some _ e))
    rw [Heap.size_push] at z
    rcases List.mem_cons.mp z with z | z
    · rw [z] at hb; exact Nat.lt_irrefl _ hb
    · rw [List.mem_singleton.mp z] at hb; exact Nat.lt_irrefl _ (Nat.lt_of_succ_lt hb)
  rcases r with e | fl
  · exact hr
  rcases fl with _ | _ | _ | x
  rotate_left 3
  all_goals first | exact hr.elim | skip
  obtain ⟨rfl, h', tk, c, rfl, hS, hk⟩ := hr
  repeat (any_goals (first | assumption | wp_step))
  exact hQ h' tk c hS hk
end
end L2

namespace DL
/-- the distinct ones, ascending -/
def insU (k : Int) : List Int → List Int
  | [] => [k]
  | x :: xs => if k < x then k :: x :: xs else if k = x then x :: xs else x :: insU k xs
def sortU : List Int → List Int
  | [] => []
  | k :: ks => insU k (sortU ks)
theorem mem_insU {k j : Int} : ∀ {xs : List Int}, j ∈ insU k xs ↔ j = k ∨ j ∈ xs
  | [] => by simp [insU]
  | x :: xs => by
    unfold insU
    split
    · simp
    · split
      · rename_i h; subst h; simp
      · simp only [List.mem_cons, mem_insU (xs := xs)]
        constructor
        · rintro (h | h | h)
          · exact .inr (.inl h)
          · exact .inl h
          · exact .inr (.inr h)
        · rintro (h | h | h)
          · exact .inr (.inl h)
          · exact .inl h
          · exact .inr (.inr h)
theorem mem_sortU {j : Int} : ∀ {ks : List Int}, j ∈ sortU ks ↔ j ∈ ks
  | [] => by simp [sortU]
  | k :: ks => by rw [sortU, mem_insU, mem_sortU (ks := ks), List.mem_cons]
theorem insU_sorted {k : Int} : ∀ {xs : List Int}, xs.Pairwise (· < ·) → (insU k xs).Pairwise (· < ·)
  | [], _ => by simp [insU]
  | x :: xs, h => by
    obtain ⟨h1, h2⟩ := List.pairwise_cons.mp h
    unfold insU
    split
    · rename_i hk
      refine List.pairwise_cons.mpr ⟨fun y hy => ?_, h⟩
      rcases List.mem_cons.mp hy with e | hy
      · rw [e]; exact hk
      · exact Int.lt_trans hk (h1 y hy)
    · split
      · exact h
      · rename_i h3 h4
        refine List.pairwise_cons.mpr ⟨fun y hy => ?_, insU_sorted h2⟩
        rcases mem_insU.mp hy with e | hy
        · rw [e]; omega
        · exact h1 y hy
theorem sortU_sorted : ∀ ks : List Int, (sortU ks).Pairwise (· < ·)
  | [] => List.Pairwise.nil
  | k :: ks => insU_sorted (sortU_sorted ks)
theorem sortU_nodup (ks : List Int) : (sortU ks).Nodup := (sortU_sorted ks).imp fun h e => by omega
theorem sorted_same {as bs : List Int} (ha : as.Pairwise (· < ·)) (hb : bs.Pairwise (· < ·)) (h : ∀ k, k ∈ as ↔ k ∈ bs) : as = bs := by
  refine sorted_unique ?_ (ha.imp fun h => Int.le_of_lt h) (hb.imp fun h => Int.le_of_lt h)
  exact (List.perm_ext_iff_of_nodup (ha.imp fun h e => by omega) (hb.imp fun h e => by omega)).mpr h
end DL
namespace L2
open PySem PySem.Spec PyProof.Rows
theorem SetR.count {w : World} {h : Heap} {a : Addr} {ks : List Int} {n : Nat} (R : SetR w h a (fun j => decide (j ∈ ks)) n) : n = (DL.sortU ks).length := by
  obtain ⟨o, es, ep, t, _, _, _, _, nd, mem, _, _, size, _⟩ := R
  have p : (es.toList.map keyOf).Perm (DL.sortU ks) := by
    refine (List.perm_ext_iff_of_nodup nd (DL.sortU_nodup ks)).mpr fun k => ?_
    rw [DL.mem_sortU, ← mem k, decide_eq_true_iff]
  have := p.length_eq
  simp at this
  omega
section
variable {X : Cx}
/-- set(l) of a list of ints -/
def rSetI (K : PySem.W.Frag) (w : World) : List V → Hp → VK → Prop := fun xs H Q => ∃ (l : Addr) (ns : List Int), xs = [V.ref l] ∧ SqL K H l (ns.map V.int) ∧ ns.length < 4000 ∧ ∀ p, H p = none → Q (.ref p) (upd H p (SetO w p (fun j => decide (j ∈ ns)) (DL.sortU ns).length))
theorem cr_setI (hc : X.calm = true) : CallR X (.type "set") (rSetI X.K X.w) := by
  intro pins s σ H xs us Q I rv h
  obtain ⟨l, ns, rfl, hl, few, q⟩ := h
  rw [Vals.ref1 rv]
  obtain ⟨its, rel, pl, fit⟩ := I.list hl
  refine set_of_ints (ks := ns) (I.ok.hd hc) pl.isList (by simpa using Vals.ints rel) (by unfold scanBound; omega) fun h' tk c R k => ?_
  have hp : s.heap.objs.size ≤ s.heap.objs.size := Nat.le_refl _
  rw [SetR.count R] at R
  exact ⟨.ref _, _, I.laid k hp (setO_new R), rfl, q _ (I.hok.fresh hp)⟩
end
end L2
namespace L2
open PySem PySem.Spec PyProof.Rows
section
variable {X : Cx}
/-- len(s) of such a set -/
def rLenS (w : World) : List V → Hp → VK → Prop := fun xs H Q => ∃ (a : Addr) (S : Int → Bool) (n : Nat), xs = [V.ref a] ∧ H a = some (SetO w a S n) ∧ Q (.int n) H
theorem cr_lenS : CallR X (.builtin "len") (rLenS X.w) := by
  intro pins s σ H xs us Q I rv h
  obtain ⟨a, S, n, rfl, ha, q⟩ := h
  rw [Vals.ref1 rv]
  obtain ⟨o, es, ep, t, e1, e2, e3, _, _, _, hb, hf, hn, _⟩ := setO_get I ha
  refine call_len_set e1 e2 e3 hf (by unfold scanBound at hb; omega) ⟨.int n, H, ?_, ⟨s.toks + 1, by rw [hn]⟩, q⟩
  exact I.tok _
end
end L2
namespace DL
open PySem L2
section
variable {cm : Gm} {c : Cfg} {H H1 H2 H' : Hp} {O fp fp1 fp2 f f' : List Addr} {ms ms' ms1 ms2 ms3 ms4 : List Mo} {fps fps' fps1 : List (List Addr)} {σ σ' σ1 : List (Option V)} {δ δ' : List D} {m ma mb mc m0 m1 rm : Mo} {v : V} {d : D} {A : Addr → Prop}
variable {ta tb tc te ti : TE} {tt tu : TT} {t u : TS} {fa fb fc g gx : ME} {ga gb : MT} {gs gr : MS} {i j : Nat} {De : Ends} {out : Out} {w : World}

/-- len(set(e)), sorted(set(e)) -/
def setD (d : D) : Option (List Int) := (listD d).bind fun ds => (intsD ds).bind fun ns => if ns.length < 4000 then some (sortU ns) else none
def lenSetD (d : D) : Option D := (setD d).map fun ks => .int ks.length
def sortSetD (d : D) : Option D := (setD d).bind fun ks => if ks.length < 64 then some (.lst (ks.map .int)) else none
theorem Rp.setD {ks} (h : Rp cm H A m f v d) (hm : listMo m = true) (e : setD d = some ks) : ∃ a ns, v = .ref a ∧ SqL cm.K H a (ns.map V.int) ∧ ns.length < 4000 ∧ ks = sortU ns := by
  obtain ⟨ds, e1, e⟩ := Option.bind_eq_some_iff.mp e
  obtain ⟨ns, e2, e⟩ := Option.bind_eq_some_iff.mp e
  split at e
  rotate_left
  · cases e
  rename_i hl
  cases e
  obtain ⟨a, vs, rfl, hs, rl⟩ := h.lstL hm e1
  rw [rl.ints e2] at hs
  exact ⟨a, ns, rfl, hs, hl, rfl⟩
theorem RE.lenSet (ha : RE cm ta ms ms1 ma fa) (hm : listMo ma = true := by rfl) : RE cm (tCB (rLenS w) (tCons (tCB (rSetI cm.K w) (tCons ta tNil)) tNil)) ms ms1 .fz (mUn lenSetD fa) := by
  refine RE.then1 (r := fun x H1 Q => rSetI cm.K w [x] H1 fun y H2 => rLenS w [y] H2 Q) (fun H O ms fps σ δ x fx da F rx d e Q q => ?_) ha
  obtain ⟨ks, e1, e⟩ := Option.map_eq_some_iff.mp e
  cases e
  obtain ⟨a, ns, rfl, hs, hl, rfl⟩ := rx.setD hm e1
  exact ⟨a, ns, rfl, hs, hl, fun p hp => ⟨p, _, _, rfl, upd_same, q _ [] _ .int ((F.fresh hp).subO (List.sublist_cons_self p O)) (Go.newF hp)⟩⟩
theorem RE.sortSet (ha : RE cm ta ms ms1 ma fa) (hm : listMo ma = true := by rfl) : RE cm (tCB (rSortedSet w) (tCons (tCB (rSetI cm.K w) (tCons ta tNil)) tNil)) ms ms1 (.l .fz) (mUn sortSetD fa) := by
  refine RE.then1 (r := fun x H1 Q => rSetI cm.K w [x] H1 fun y H2 => rSortedSet w [y] H2 Q) (fun H O ms fps σ δ x fx da F rx d e Q q => ?_) ha
  obtain ⟨ks, e1, e⟩ := Option.bind_eq_some_iff.mp e
  split at e
  rotate_left
  · cases e
  rename_i h64
  cases e
  obtain ⟨a, ns, rfl, hs, hl, rfl⟩ := rx.setD hm e1
  refine ⟨a, ns, rfl, hs, hl, fun p hp => ⟨p, _, _, rfl, upd_same, h64, fun ns' p2 h1 h2 h3 hp2 => ?_⟩⟩
  have e : ns' = sortU ns := sorted_same h1 (sortU_sorted ns) fun k => by rw [h2 k, mem_sortU, decide_eq_true_iff]
  rw [e]
  have F1 := (F.fresh (o := SetO w p (fun j => decide (j ∈ ns)) (sortU ns).length) hp).subO (List.sublist_cons_self p O)
  refine q _ [p2] _ (.lstO upd_same (RpL.ofInts _)) (F1.fresh hp2) ?_
  exact (Go.newF hp).trans (Go.new hp2)

/-! ### isinstance -/
def tyNames : List String := ["NoneType", "bool", "int", "str", "list", "tuple", "dict"]
structure IsOk (K : PySem.W.Frag) (cm : Gm) (cs : List Str) : Prop where
  ty : ∀ c ∈ cs, Cls K (cm c) ∧ PySem.W.findIn K (.ref (cm c)) "__class__" = some (some (.builtin "object.__class__")) ∧ PySem.W.specialIn K (.builtin "object.__class__") "__get__" = some (some (.builtin "getset_descriptor.__get__")) ∧
    PySem.W.takesIn K (.builtin "object.__class__") = some true ∧ PySem.W.mroIn K (cm c) (.type "object") = some true
  own : ∀ c ∈ cs, ∀ c' ∈ cs, PySem.W.kitOne K (.ref (cm c)) (.ref (cm c')) = some (decide (c = c'))
  built : ∀ c' ∈ cs, ∀ t ∈ tyNames, PySem.W.kitOne K (.type t) (.ref (cm c')) = some false
  obj : ∀ c ∈ cs, ∀ t ∈ tyNames, PySem.W.kitOne K (.ref (cm c)) (.type t) = some false
def tyD : D → Option String
  | .non => some "NoneType"
  | .bl _ => some "bool"
  | .int _ => some "int"
  | .str _ => some "str"
  | .lst _ => some "list"
  | .scr _ => some "list"
  | .tup _ => some "tuple"
  | .dct _ => some "dict"
  | _ => none
def isT (t T : String) : Bool := t == T || (t == "bool" && T == "int")
theorem kit_isT : ∀ t ∈ tyNames, ∀ T ∈ tyNames, kitB t T = some (isT t T) := by decide +kernel
def isiD (cs : List Str) : List D → Option D
  | [x, .ty T] => if T ∈ tyNames then (match x with
    | .obj c _ => if c ∈ cs then some (.bl false) else none
    | x => (tyD x).map fun t => .bl (isT t T)) else none
  | [x, .cls c'] => if c' ∈ cs then (match x with
    | .obj c _ => if c ∈ cs then some (.bl (decide (c = c'))) else none
    | x => (tyD x).map fun _ => .bl false) else none
  | _ => none
theorem Rp.tyD {t} (h : Rp cm H A m f v d) (e : tyD d = some t) : TyX cm.K H v (.type t) ∧ t ∈ tyNames := by
  cases h <;> first | (cases e; done) | skip
  · cases e; exact ⟨.base .non, by decide⟩
  · cases e; exact ⟨.base (.bl _), by decide⟩
  · cases e; exact ⟨.base (.int _), by decide⟩
  · cases e; exact ⟨.base (.str _), by decide⟩
  · cases e; rename_i h n r; exact ⟨.base (.tup h), by decide⟩
  · cases e; rename_i h n r; exact ⟨.base (.lst h), by decide⟩
  · cases e; rename_i h n r; exact ⟨.base (.frz h), by decide⟩
  · cases e; rename_i h r; obtain ⟨o, its, n, h1, h2, _⟩ := h; exact ⟨.kList h1 h2, by decide⟩
  · cases e; rename_i h n e r; exact ⟨.base (.dK h), by decide⟩
  · cases e; rename_i h r; exact ⟨.base (.lst h), by decide⟩
  · cases e; rename_i h e r; exact ⟨.base (.dK h), by decide⟩
theorem Rp.objX {cn : Str} {fds} {cs : List Str} (I : IsOk cm.K cm cs) (hc : cn ∈ cs) (h : Rp cm H A m f v (.obj cn fds)) : TyX cm.K H v (.ref (cm cn)) := by
  obtain ⟨h1, h2, h3, h4, h5⟩ := I.ty cn hc
  cases h with
  | obj h n e r => exact .base (.ins h h1 h2 h3 h4 h5)
  | objO h e r => exact .base (.ins h h1 h2 h3 h4 h5)
theorem ON.isi {cs : List Str} (I : IsOk cm.K cm cs) : ON cm (rIsi cm.K) [ma, .fz] .fz (isiD cs) := by
  intro H O ms fps σ δ xs fx das F r d e Q q
  obtain ⟨x, y, da, db, f1, f2, rfl, rfl, r1, r2⟩ := r.inv2
  cases db <;> try (cases e; done)
  · -- a built-in type
    rename_i T
    have ey : y = .ty T := by cases r2; rfl
    subst ey
    have e : (if T ∈ tyNames then (match da with
      | .obj c _ => if c ∈ cs then some (D.bl false) else none
      | x => (tyD x).map fun t => D.bl (isT t T)) else none) = some d := e
    split at e
    rotate_left
    · cases e
    rename_i hT
    split at e
    · rename_i cn fds hz
      split at e
      rotate_left
      · cases e
      rename_i hc
      cases e
      exact ⟨x, .ty T, _, _, false, rfl, .ty T, r1.objX I hc, I.obj cn hc T hT, q.bl F⟩
    · obtain ⟨t, e1, e⟩ := Option.map_eq_some_iff.mp e
      cases e
      obtain ⟨h1, h2⟩ := r1.tyD e1
      exact ⟨x, .ty T, _, _, isT t T, rfl, .ty T, h1, kit_ty (kit_isT t h2 T hT), q.bl F⟩
  · rename_i c'
    have ey : y = .ref (cm c') := by cases r2; rfl
    subst ey
    have e : (if c' ∈ cs then (match da with
      | .obj c _ => if c ∈ cs then some (D.bl (decide (c = c'))) else none
      | x => (tyD x).map fun _ => D.bl false) else none) = some d := e
    split at e
    rotate_left
    · cases e
    rename_i hT
    split at e
    · rename_i cn fds hz
      split at e
      rotate_left
      · cases e
      rename_i hc
      cases e
      exact ⟨x, .ref (cm c'), _, _, _, rfl, .own _, r1.objX I hc, I.own cn hc c' hT, q.bl F⟩
    · obtain ⟨t, e1, e⟩ := Option.map_eq_some_iff.mp e
      cases e
      obtain ⟨h1, h2⟩ := r1.tyD e1
      exact ⟨x, .ref (cm c'), _, _, false, rfl, .own _, h1, I.built c' hT t h2, q.bl F⟩

/-! ### a, b = e -/
def mSetG (gm : MG) (fe : ME) : MS := fun δ => (fe δ).bind fun p => (gm p.1 p.2).map fun δ1 => .nx δ1
theorem RS.setG {gt : TG} {gm : MG} {ts : List Nat} (he : RE cm te ms ms1 .fz g) (hg : RG cm gt ms1 ms2 ts gm) (hk : ∀ t ∈ ts, c.iom.length ≤ t := by decide) : RS cm c (tAsg te gt) ms ms2 (mSetG gm g) := by
  intro σ H O δ fps F out e De q
  obtain ⟨⟨dy, δ1⟩, e1, e⟩ := Option.bind_eq_some_iff.mp e
  obtain ⟨δ2, e2, e⟩ := Option.map_eq_some_iff.mp e
  cases e
  refine he σ H O δ fps F dy δ1 e1 _ fun y fy H1 fps1 ry F1 g1 => ?_
  have hfy := ry.fz_nil; subst hfy
  exact hg σ H1 O δ1 fps1 y dy F1 ry δ2 e2 _ fun σ2 H2 fps2 F2 g2 l2 s2 => q σ2 H2 fps2 F2 (g1.trans g2) (take_of_out l2 s2 hk)

/-! ### slot i, an owned list of owned lists: x[k].append(e) -/
theorem RpL.at : ∀ {fp : List Addr} {vs : List V} {ds : List D} {k : Nat} {d : D}, RpL cm H A m fp vs ds → ds[k]? = some d → ∃ v pre f post, vs[k]? = some v ∧ fp = pre ++ (f ++ post) ∧ Rp cm H A m f v d ∧
    ∀ {H' : Hp} {f' : List Addr} {d' : D}, Rp cm H' A m f' v d' → (∀ a u, H a = some u → (¬ A a ∨ a ∈ pre ++ post) → H' a = some u) → RpL cm H' A m (pre ++ (f' ++ post)) vs (ds.set k d')
  | _, _, _, _, _, .nil, e => by simp at e
  | _, _, _, 0, _, .cons (f1 := f1) (f2 := f2) (v := v) h r, e => by
    simp at e
    subst e
    refine ⟨v, [], f1, f2, rfl, rfl, h, fun h' k => ?_⟩
    rw [List.nil_append]
    exact RpL.cons h' (r.mono (fun _ _ _ n => n) fun a u e z => k a u e z)
  | _, _, _, k + 1, _, .cons (f1 := f1) (f2 := f2) h r, e => by
    obtain ⟨v, pre, f, post, e1, e2, r1, up⟩ := RpL.at (k := k) r (by simpa using e)
    subst e2
    refine ⟨v, f1 ++ pre, f, post, by simpa using e1, by rw [List.append_assoc], r1, fun h' kk => ?_⟩
    rw [List.append_assoc]
    refine RpL.cons (h.mono (fun _ _ _ n => n) fun a u e z => kk a u e (z.imp id fun z => ?_)) (up h' fun a u e z => kk a u e (z.imp id fun z => ?_))
    · exact List.mem_append_left _ (List.mem_append_left _ z)
    · rcases List.mem_append.mp z with z | z
      · exact List.mem_append_left _ (List.mem_append_right _ z)
      · exact List.mem_append_right _ z
def mAppendAt (i : Nat) (fi fe : ME) : MS := fun δ => (fi δ).bind fun q => match q.1 with
  | .int k => (q.2[i]?).bind fun d0 => (isLst d0).bind fun dss => if 0 ≤ k then (dss[k.toNat]?).bind fun d1 => (isLst d1).bind fun ds =>
      (fe (q.2.set i .hole)).bind fun p => if ds.length < lim then some (.nx (p.2.set i (.lst (dss.set k.toNat (.lst (ds ++ [p.1])))))) else none
    else none
  | _ => none
theorem RS.appendAt (i : Nat) (hi : RE cm ti ms ms1 .fz gx) (he : RE cm te (ms1.set i .hole) ms2 m g) (hm0 : ms[i]? = some (.l (.l m))) (hm1 : ms1[i]? = some (.l (.l m))) (hm2 : i < ms2.length := by decide) :
    RS cm c (tDrop (tBM cm.K "list" rAppend (tOp (rIx cm.K) (tVar i) ti) (tCons te tNil))) ms (ms2.set i (.l (.l m))) (mAppendAt i gx g) := by
  intro σ H O δ fps F out e De q
  obtain ⟨⟨dk, δ1⟩, e1, e⟩ := Option.bind_eq_some_iff.mp e
  cases dk <;> try (cases e; done)
  rename_i k
  obtain ⟨d0, e3, e⟩ := Option.bind_eq_some_iff.mp e
  obtain ⟨dss, e4, e⟩ := Option.bind_eq_some_iff.mp e
  split at e
  rotate_left
  · cases e
  rename_i hk
  obtain ⟨d1, e5, e⟩ := Option.bind_eq_some_iff.mp e
  obtain ⟨ds, e6, e⟩ := Option.bind_eq_some_iff.mp e
  obtain ⟨⟨dy, δ2⟩, e2, e⟩ := Option.bind_eq_some_iff.mp e
  split at e
  rotate_left
  · cases e
  rename_i hlim
  have en := Option.some.inj e
  clear e
  have e4 := isLst_eq e4
  have e6 := isLst_eq e6
  obtain ⟨v0, f9, d9, s0, _, _, r9⟩ := F.gets hm0 rfl
  refine ⟨v0, s0, ?_⟩
  refine hi σ H O δ fps F _ δ1 e1 _ fun z fz H1 fps1 rz F1 g1 => ?_
  have hfz := rz.fz_nil; subst hfz
  cases rz
  have e3 : δ1[i]? = some (.lst dss) := by rw [← e4]; exact e3
  obtain ⟨v1, f0, s1, s2, G, p⟩ := F1.take hm1 rfl e3
  rw [s0] at s1; cases s1
  have G1 := G.aside
  have r0 := G.head
  have r0' : Rp cm H1 (inA (fps1.set i []) (f0 ++ O)) (.l (.l m)) f0 v0 (.lst dss) := r0.less fun a z => by
    rw [inA_app] at z
    rw [inA_iff, List.flatten_cons, List.mem_append]
    rcases z with z | z | z
    · exact .inl (.inr z)
    · exact .inl (.inl z)
    · exact .inr z
  obtain ⟨a, fr, vs, ef, ev, ha, rl⟩ := r0'.lO_inv
  subst ev
  obtain ⟨w, pre, f, post, ew, er, rw1, _⟩ := rl.at e5
  rw [e6] at rw1
  obtain ⟨b, fb, ws, eb, ewb, hb, rb⟩ := rw1.lO_inv
  subst ewb
  have ek : k = ((k.toNat : Nat) : Int) := by omega
  refine .inl ⟨a, vs, k, .ref b, rfl, rfl, SqL.of ha, by rw [ek]; exact atI_nat ew, .inl ⟨rfl, ws, SqL.of hb⟩, ?_⟩
  refine he σ H1 (f0 ++ O) _ _ G1 dy δ2 e2 _ fun y fy H2 fps2 ry F2 g2 => ?_
  have r2 := up G1 r0' F2 g2
  -- the slot is filled again
  have F3 := F2.permO (O2 := f0 ++ (fy ++ O)) (List.perm_append_comm_assoc fy f0 O)
  have r3 : Rp cm H2 (inA fps2 (f0 ++ (fy ++ O))) (.l (.l m)) f0 (.ref a) (.lst dss) := r2.less fun x z => by
    rw [inA_iff] at z ⊢
    exact z.imp id fun z => (List.perm_append_comm_assoc f0 fy O).mem_iff.mp z
  obtain ⟨F4, sub4⟩ := F3.setSlot r3 hm2
  rw [set_same s0] at F4
  have hi2 : i < fps2.length := by rw [F2.rp.len.2.1, ← F2.rp.len.1]; exact hm2
  have s4 : (fps2.set i f0)[i]? = some f0 := by simp [hi2]
  obtain ⟨v5, f5, s5, s6, r5⟩ := F4.get (m := .l (.l m)) (by simp [hm2]) rfl (show (δ2.set i (.lst dss))[i]? = some (.lst dss) by
    have : i < δ2.length := by rw [← F2.rp.len.1]; exact hm2
    simp [this])
  rw [s0] at s5; cases s5
  rw [s4] at s6; cases s6
  obtain ⟨a', fr', vs', ef', ev', ha', rl'⟩ := r5.lO_inv
  cases ev'
  rw [ef] at ef'; cases ef'
  have hA0 : H2 a = some (.lst vs) := g2.pres a _ ha fun z => by
    have nd := (p.nodup_iff).mpr (List.nodup_append.mp F1.nd).1
    exact (List.nodup_append.mp nd).2.2 a (by rw [ef]; exact List.mem_cons_self) a z rfl
  rw [hA0] at ha'
  cases ha'
  obtain ⟨w', pre', f', post', ew', er', rw1', up'⟩ := rl'.at e5
  rw [ew] at ew'; cases ew'
  rw [e6] at rw1'
  obtain ⟨b', fb', ws', eb', ewb', hb', rb'⟩ := rw1'.lO_inv
  cases ewb'
  subst eb' er'
  have hl := rb'.len
  refine ⟨b, ws', y, rfl, rfl, hb', by rw [hl]; exact Nat.lt_of_lt_of_le hlim lim_line, ?_⟩
  obtain ⟨ndf, inf⟩ := F4.nofp s4
  rw [ef] at ndf
  have bin : b ∈ f0 := by rw [ef]; exact List.mem_cons_of_mem _ (List.mem_append_right _ (List.mem_append_left _ List.mem_cons_self))
  have hA := inf b bin
  have nd1 := (List.nodup_cons.mp ndf).2
  have nd2 := (List.nodup_append.mp nd1).2.1
  have nb1 : b ∉ fb' := (List.nodup_cons.mp (List.nodup_append.mp nd2).1).1
  have nby : b ∉ fy := fun z => F4.disj b (List.mem_append_left _ z) (((flat_set s4).mem_iff).mpr (List.mem_append_left _ bin))
  have nbp : b ∉ pre' := fun z => (List.nodup_append.mp nd1).2.2 b z b (List.mem_append_left _ List.mem_cons_self) rfl
  have nbq : b ∉ post' := fun z => (List.nodup_append.mp nd2).2.2 b List.mem_cons_self b z rfl
  have ry4 : Rp cm H2 (inA (fps2.set i f0) (fy ++ O)) m fy y dy := ry.less fun x z => by
    rw [inA_app] at z
    rw [inA_app]
    rcases z with z | z | z
    · exact (List.mem_append.mp (sub4 x z)).elim (fun z => .inr (.inr (List.mem_append_left _ z))) .inl
    · exact .inr (.inl z)
    · exact .inr (.inr (List.mem_append_right _ z))
  have r6 : RpL cm (L2.upd H2 b (.lst (ws' ++ [y]))) (inA (fps2.set i f0) (fy ++ O)) m (fb' ++ fy) (ws' ++ [y]) (ds ++ [dy]) := by
    have := RpL.cons (upd_rp (o := .lst (ws' ++ [y])) ry4 hA nby) (RpL.nil (m := m))
    rw [List.append_nil] at this
    exact RpL.append (upd_rpl rb' hA nb1) this
  have r7 := up' (H' := L2.upd H2 b (.lst (ws' ++ [y]))) (.lstO upd_same r6) fun x u e z => by
    rw [upd_ne ?_]
    · exact e
    · rintro rfl
      rcases z with z | z
      · exact z hA
      · exact (List.mem_append.mp z).elim nbp nbq
  have nab : a ≠ b := fun z => (List.nodup_cons.mp ndf).1 (by rw [z]; exact List.mem_append_right _ (List.mem_append_left _ List.mem_cons_self))
  have r8 : Rp cm (L2.upd H2 b (.lst (ws' ++ [y]))) (inA (fps2.set i f0) (fy ++ O)) (.l (.l m)) (a :: (pre' ++ ((b :: (fb' ++ fy)) ++ post'))) (.ref a) (.lst (dss.set k.toNat (.lst (ds ++ [dy])))) :=
    .lstO (by rw [upd_ne nab]; exact hA0) r7
  obtain ⟨F9, g9⟩ := Frm.modIn F4 s0 s4 bin (f1 := a :: (pre' ++ ((b :: (fb' ++ fy)) ++ post'))) (dr := []) (by
    rw [List.append_nil, ef, List.cons_append]
    refine List.Perm.cons a ?_
    rw [List.append_assoc]
    refine List.Perm.append_left pre' ?_
    rw [List.cons_append, List.cons_append, List.cons_append]
    refine List.Perm.cons b ?_
    rw [List.append_assoc, List.append_assoc]
    exact List.Perm.append_left fb' List.perm_append_comm) r8
  rw [List.set_set, List.set_set, List.set_set] at F9
  rw [List.set_set] at g9
  rw [← en] at q
  refine q σ _ _ F9 ?_ rfl
  refine (g1.sub' (f := fps1.flatten) fun x z => z).trans ?_
  have gA : Go H1 fps1.flatten H2 (fy ++ (fps2.set i f0).flatten) := g2.mono (fun x z => p.mem_iff.mp (List.mem_append_right _ z)) fun x z => by
    rcases List.mem_append.mp z with z | z
    · exact .inl (List.mem_append_left _ z)
    · rcases List.mem_append.mp (sub4 x z) with z | z
      · exact .inr (p.mem_iff.mp (List.mem_append_left _ z))
      · exact .inl (List.mem_append_right _ z)
  exact gA.trans g9
end
end DL

namespace PySem
/-- enumerate(v) of what begins as o -/
theorem dl_meets_enum1 {v : Value} {o : Obj} {H : Heap → Prop} (B : Begins v o H) :
    Meets (Builtin.«enumerate.__new__» ⟨[.type "enumerate", v], []⟩) (fun _ R s => H s.heap ∧
      R (.ok (.ret (.ref (s.heap.push o).objs.size))) { s with heap := (s.heap.push o).push { cls := .type "enumerate", data := .fields #[.none, .bool false, .ref s.heap.objs.size, rawInt 0, .none, .none] } }) :=
  .of_wp fun prog w A R s z => by
    obtain ⟨z1, z2⟩ := z
    have hs := sub_enumerate
    have it : ∀ {A' : Around} {E : Value → Shared → Prop} {Q : Value → Shared → Prop}, Q (.ref s.heap.objs.size) { s with heap := s.heap.push o } → wpAny (model prog w) A' (pyIter v) Q E s :=
      fun q => B.iter prog w _ _ s _ z1 q
    obtain ⟨hp, g, d, tk, os⟩ := s
    wp_walk using it
    refine wpAny_stack_any fun st => wpAny_pure ?_
    split
    · rename_i c _ _ _ _ _
      cases (c == Value.type "enumerate") <;> (wp_walk using it; exact ⟨_, rfl, z2⟩)
    · wp_walk using it
      exact ⟨_, rfl, z2⟩
section
variable {prog : Program} {w : World} {A : Around} {E : Value → Shared → Prop} {s : Shared}
theorem dl_call_enum1 {v : Value} {o : Obj} {H : Heap → Prop} {Q : Value → Shared → Prop} (B : Begins v o H) (h1 : H s.heap)
    (h : ∀ h', IsEnum h' (s.heap.objs.size + 1) s.heap.objs.size 0 .none → h'.get? s.heap.objs.size = some o → (∀ b o, s.heap.get? b = some o → h'.get? b = some o) → Q (.ref (s.heap.objs.size + 1)) { s with heap := h' }) :
    wpAny (model prog w) A (call (.type "enumerate") [v]) Q E s := by
  refine callType_new F.called_enumerate (by decide) (F.typeCall_enumerate_1 _) (F.newCall_enumerate_1 _) (fun obj => F.args_object_init_2 obj _) F.entry_enumerate_new (dl_meets_enum1 B) ⟨h1, ?_⟩
  have hz : (s.heap.push o).objs.size = s.heap.objs.size + 1 := Heap.size_push ..
  have he := Heap.get?_push_size (s.heap.push o) (o := { cls := .type "enumerate", data := .fields #[.none, .bool false, .ref s.heap.objs.size, rawInt 0, .none, .none] }) rfl
  show _ ∧ _
  rw [hz] at he ⊢
  exact ⟨⟨_, he, rfl⟩, h _ he (Heap.get?_push_of_some _ (Heap.get?_push_size _ B.free)) fun b o x => Heap.get?_push_of_some _ (Heap.get?_push_of_some _ x)⟩
end
end PySem
namespace L2
open PySem PySem.Spec PyProof.Rows
/-- the items of the tuple at a, each in a new pair -/
def IteT (K : PySem.W.Frag) (a : Addr) : It :=
  ⟨fun i H => ∃ (xs : List V) (x : V), SqT K H a xs ∧ xs[i]? = some x, fun i H v H' => ∃ T x, v = .ref T ∧ H T = none ∧ H' = upd H T (.tup [.int (i : Nat), x]) ∧ ∀ xs, SqT K H a xs → xs[i]? = some x, fun i H => ∃ xs : List V, SqT K H a xs ∧ xs.length ≤ i⟩
def EnT (e it a : Addr) (i : Nat) (h : Heap) : Prop := (∃ old, IsEnum h e it ((i : Nat) : Int) old) ∧ h.IsTupleIter it a i ∧ e ≠ it
theorem EnT.two {e it a : Addr} {i : Nat} {h : Heap} (st : EnT e it a i h) {b : Addr} (hb : b ∈ [e, it]) : ∃ o, h.get? b = some o ∧ ∀ v, o.data ≠ .cell v := by
  obtain ⟨⟨old, he⟩, ⟨o, ho, _, hd⟩, _⟩ := st
  rcases List.mem_cons.mp hb with rfl | hb
  · exact ⟨_, he, fun v q => nomatch q⟩
  · rw [List.mem_singleton.mp hb]
    exact ⟨o, ho, fun v q => by rw [hd] at q; cases q⟩
theorem EnT.apart {e it a : Addr} {i : Nat} {h : Heap} {its : Array Value} (st : EnT e it a i h) (p : h.IsTuple a its) : a ≠ it ∧ e ∉ [it, a] := by
  obtain ⟨⟨old, he⟩, ⟨o, ho, hc, _⟩, hne⟩ := st
  obtain ⟨u, hu, hcu, _⟩ := p
  constructor
  · rintro rfl
    rw [ho] at hu
    cases hu
    rw [hc] at hcu
    injection hcu with z
    exact absurd z (by decide)
  · intro z
    rcases List.mem_cons.mp z with z | z
    · exact hne z
    · rw [List.mem_singleton.mp z] at he
      rw [show h.get? a = _ from he] at hu
      cases hu
      injection hcu with z
      exact absurd z (by decide)
theorem turn_enumT {P : Program} {w : World} {K : PySem.W.Frag} {elts : List Expr} {kk : Nat} {tpos : Pos} (a e it : Addr) : Turn P w K (.Tuple elts kk tpos) (IteT K a) [e, it] e (EnT e it a) where
  mem := List.mem_cons_self
  obj := fun i h st b hb => st.two hb
  keep := fun i h h' ⟨⟨old, he⟩, ⟨o, ho, r⟩, hne⟩ k => ⟨⟨old, k e List.mem_cons_self _ he⟩, ⟨o, k it (List.mem_cons_of_mem _ List.mem_cons_self) _ ho, r⟩, hne⟩
  item := by
    intro X hP hw hK hc i pins s σ H E I hf st hg
    subst hP hw hK
    obtain ⟨xs, x, hq, hx⟩ := hg
    obtain ⟨its, rv, p, _⟩ := I.tuple hq
    have p : s.heap.IsTuple a its.toArray := p
    obtain ⟨n1, n2⟩ := st.apart p
    obtain ⟨u, hu, ru⟩ := rv.get hx
    obtain ⟨⟨old, he⟩, hit, hne⟩ := st
    have l2 : i < its.toArray.size := by
      have := (List.getElem?_eq_some_iff.mp hu).1
      simpa using this
    have lo : ∀ b ∈ [e, it], b < s.heap.objs.size := fun b hb => by
      obtain ⟨o, q, _⟩ := EnT.two ⟨⟨old, he⟩, hit, hne⟩ hb
      exact Heap.lt_size q
    refine wpAny_pyNext_enum_itemD (Draws.tuple (A := X.A.in1) (I.ok.hd hc) it a n1 its.toArray) he (show s.heap.IsTupleIter it a i ∧ s.heap.IsTuple a its.toArray from ⟨hit, p⟩) l2 hne n2 fun y h1 tk hy e1 st1 hT hz hk => ?_
    have ey : y = u := by
      have hy : its.toArray[i]? = some y := hy
      rw [List.getElem?_toArray, hu] at hy
      exact (Option.some.inj hy).symm
    subst ey
    refine ⟨_, rfl, wpAny_letOwnedTupleGo_enum (s := { s with heap := h1, toks := tk + 1 }) e1 fun h2 e2 sb => ?_⟩
    have gT : h2.get? s.heap.objs.size = some { cls := .type "tuple", data := .seq #[.int i tk, y] } := (sb.2 _ (Nat.ne_of_gt (lo e List.mem_cons_self))).trans hT
    have new : ObjOk X.prog X.w (upd H s.heap.objs.size (.tup [.int (i : Nat), x])) h2 s.heap.objs.size (.tup [.int (i : Nat), x]) :=
      ⟨by show 2 ≤ sizeLine; decide, [.int i tk, y], .cons ⟨_, rfl⟩ (.cons ru .nil), ⟨_, gT, rfl, _, rfl⟩⟩
    have I1 : Inv X pins σ (upd H s.heap.objs.size (.tup [.int (i : Nat), x])) { s with heap := h2, toks := tk + 1 } :=
      I.turnedNew (ch := [e, it]) (fun b ob hb q => (sb.2 b fun z => hb (z ▸ List.mem_cons_self)).trans (hk b ob (fun z => hb (z ▸ List.mem_cons_self)) (fun z => hb (z ▸ List.mem_cons_of_mem _ List.mem_cons_self)) q)) hf (Nat.le_refl _) new
    obtain ⟨⟨o, ho, hr⟩, _⟩ := st1
    refine ⟨.ref s.heap.objs.size, _, I1, rfl, ⟨_, x, rfl, I.hok.fresh (Nat.le_refl _), rfl, fun ys hy => by rw [I.tuple_inj hy hq]; exact hx⟩, ⟨⟨y, ?_⟩, ⟨o, (sb.2 it (Ne.symm hne)).trans ho, hr⟩, hne⟩, fun b hb => ?_⟩
    · have e3 : ((i + 1 : Nat) : Int) = (i : Int) + 1 := by omega
      rw [e3]
      exact e2
    · rw [upd_ne (Nat.ne_of_lt (lo b hb))]
      exact (hf b hb).1
  done := by
    intro X hP hw hK hc i pins s σ H E I hf st hg
    subst hP hw hK
    obtain ⟨xs, hq, hx⟩ := hg
    obtain ⟨its, rv, p, _⟩ := I.tuple hq
    have p : s.heap.IsTuple a its.toArray := p
    obtain ⟨f0, f1, f2, f3, f4, f5⟩ := hf it (List.mem_cons_of_mem _ List.mem_cons_self)
    obtain ⟨⟨old, he⟩, ⟨o, ho, hcl, hd⟩, hne⟩ := st
    have hT : s.TypeIs (.ref e) "enumerate" := ⟨_, he, rfl⟩
    have ln : its.toArray[i]? = none := by
      have := rv.length
      simp
      omega
    unfold pyNext
    refine wpAny_bind (wpAny_attempt (wpAny_callSpecial?_slot (name := Str.ofString "__next__") hT F.slot_enumerate_next (wpAny_call_entry F.slot_enumerate_next hT F.entry_enumerate_next ?_ (F.args_enumerate_next_1 _))))
    show wpAny _ _ (field (.ref e) 2 >>= _) _ _ _
    refine wpAny_bind (wpAny_field he rfl (x := .ref it) rfl ?_)
    refine wpAny_bind (wpAny_nextOf_tuple_end (I.ok.hd hc) ⟨o, ho, hcl, hd⟩ p ln fun h1 x eb hx' => ?_)
    obtain ⟨o2, ho2, hc2⟩ := hx'
    refine wpAny_bind (wpAny_isInstance (T := "StopIteration") (b := true) ⟨o2, ho2, hc2⟩ isSubtype_stop ?_)
    exact wpAny_pure ⟨rfl, I.turned (t' := s.toks) (fun b o hb q => eb b o hb q) f0 f1 f3 f4 f5⟩
  self := fun A i s Q E st h => let ⟨⟨_, he⟩, _⟩ := st; wpAny_pyIter_enum he h
def iEnumT (K : PySem.W.Frag) (ta : TA) : TI := fun σ H R => ta σ H fun vs H1 => ∃ a xs, vs = [.ref a] ∧ SqT K H1 a xs ∧ R (IteT K a) H1
theorem pi_enumT {X : Cx} {e : Expr} {ta : TA} {p pos tpos : Pos} {elts : List Expr} {kk : Nat} (hg : Gl X "enumerate") (hm : X.mg "enumerate" = none) (ha : PA X [e] ta) (hs : starEach [e] X.env = [(false, eval e X.env)] := by rfl) :
    PI X (.Tuple elts kk tpos) (.Call (.Name "enumerate" p) [e] [] pos) (iEnumT X.K ta) := by
  refine ⟨fun pins s σ H R I h => ?_⟩
  refine Call_ (ld_blt I hg hm boot_enumerate (PyProof.Rows.callWith_type1 (thn (ha.run pos pins s σ H _ I h) fun us s1 ⟨vs, H1, I1, r1, a, xs, ex, hq, q⟩ => ?_) hs rfl))
  subst ex
  obtain ⟨u, rfl, ru⟩ : ∃ u, us = [u] ∧ RelV (.ref a) u := by
    cases r1 with
    | cons r rr =>
      cases rr
      exact ⟨_, rfl, r⟩
  obtain rfl : u = .ref a := ru
  obtain ⟨its, rv, p, hz⟩ := I1.tuple hq
  refine dl_call_enum1 (begins_tuple a its.toArray) p fun h' he hit hk => wpAny_pyIter_enum he ?_
  have I2 : Inv X pins σ H1 { s1 with heap := h' } := I1.kept (t' := s1.toks) hk
  refine ⟨s1.heap.objs.size + 1, [s1.heap.objs.size + 1, s1.heap.objs.size], _, _, H1, rfl, I2, turn_enumT a (s1.heap.objs.size + 1) s1.heap.objs.size, ⟨⟨.none, he⟩, ⟨_, hit, rfl, rfl⟩, Nat.succ_ne_self _⟩, fun b hb => ?_, q⟩
  have hle : s1.heap.objs.size ≤ b := by
    rcases List.mem_cons.mp hb with z | z
    · rw [z]
      exact Nat.le_add_right _ _
    · rw [List.mem_singleton.mp z]
      exact Nat.le_refl _
  exact I1.fpOk hle (I1.hok.fresh hle)
end L2
namespace DL
open PySem L2
section
variable {cm : Gm} {ms ms1 : List Mo} {ma : Mo} {t : TA} {fr : MA}
def enumFrom : Nat → List D → List D
  | _, [] => []
  | k, d :: ds => .tup [.int (k : Nat), d] :: enumFrom (k + 1) ds
def enumD (ds : List D) : List D := enumFrom 0 ds
theorem enumFrom_len : ∀ (ds : List D) (k : Nat), (enumFrom k ds).length = ds.length
  | [], _ => rfl
  | d :: ds, k => by rw [enumFrom, List.length_cons, List.length_cons, enumFrom_len ds]
theorem enumFrom_get : ∀ (ds : List D) (k i : Nat) {d : D}, (enumFrom k ds)[i]? = some d → ∃ x, ds[i]? = some x ∧ d = .tup [.int ((k + i : Nat) : Int), x]
  | [], _, _, _, h => by simp [enumFrom] at h
  | x :: ds, k, 0, d, h => by
    simp [enumFrom] at h
    exact ⟨x, rfl, h.symm⟩
  | x :: ds, k, i + 1, d, h => by
    rw [enumFrom, List.getElem?_cons_succ] at h
    obtain ⟨y, h1, h2⟩ := enumFrom_get ds (k + 1) i h
    refine ⟨y, by simpa using h1, ?_⟩
    rw [h2, show k + 1 + i = k + (i + 1) by omega]
def mEnumT (fa : MA) : MA := fun δ => (fa δ).bind fun p => match p.1 with
  | [.tup ds] => some (enumD ds, p.2)
  | _ => none
theorem RI.enumT (ha : RA cm t ms ms1 [.fz] fr) : RI cm (iEnumT cm.K t) ms ms1 (mEnumT fr) := by
  intro σ H O δ fps F its δ' e R q
  obtain ⟨⟨das, δ1⟩, e1, e⟩ := Option.bind_eq_some_iff.mp e
  refine ha σ H O δ fps F das δ1 e1 _ fun vs f H1 fps1 r F1 g1 => ?_
  split at e
  rotate_left
  · cases e
  rename_i ds heq
  simp only at heq
  subst heq
  cases e
  obtain ⟨v, d, rfl, ed, rx⟩ := r.inv1
  cases ed
  have key : ∀ {H2 : Hp} {A2 : Addr → Prop}, Rp cm H2 A2 .fz f v (.tup ds) → ∃ a vs, v = .ref a ∧ SqT cm.K H2 a vs ∧ RpL cm H2 A2 .fz [] vs ds := fun r2 => by
    obtain ⟨a, vs, ea, hs, rl⟩ := r2.seq (ds := ds) rfl rfl
    rcases hs with hs | hs
    · cases hs.2
    · exact ⟨a, vs, ea, hs.1, rl⟩
  obtain ⟨a, vs, rfl, hs, rl⟩ := key rx
  refine ⟨a, vs, rfl, hs, q _ f H1 fps1 F1 g1 fun H2 O2 ms2 fps2 σ2 δ2 F2 g2 => ?_⟩
  obtain ⟨b, ws, eb, hw, rw2⟩ := key (upW F1 rx g2)
  cases eb
  refine ⟨fun i hi => ⟨ws, hw, by rw [rw2.len]; rw [enumD, enumFrom_len] at hi; exact hi⟩, fun i d hd => ?_⟩
  obtain ⟨x, ex, rfl⟩ := enumFrom_get ds 0 i hd
  obtain ⟨y, ey, ry⟩ := rw2.get ex
  refine ⟨⟨ws, y, hw, ey⟩, fun z H3 hy => ?_⟩
  obtain ⟨T, y2, rfl, hT, rfl, h4⟩ := hy
  cases (h4 ws hw).symm.trans ey
  rw [Nat.zero_add]
  exact ⟨Go.newF hT, .tup upd_same (F2.pfresh hT) ((keepNew hT (.cons .int (.cons ry .nil) : RpL cm H2 _ .fz ([] ++ ([] ++ [])) _ _)).less (inA.sub (List.sublist_cons_self T _)))⟩
end
end DL

namespace DL
open PySem PySem.Spec PyProof.Rows L2

/-! ### isinstance(x, (T1, ..)) of built-in types -/
def tysD : List D → Option (List String)
  | [] => some []
  | .ty T :: r => if T ∈ tyNames then (tysD r).map (T :: ·) else none
  | _ => none
def isiTD (cs : List Str) : List D → Option D
  | [x, .tup ys] => (tysD ys).bind fun Ts => match x with
    | .obj c _ => if c ∈ cs then some (.bl false) else none
    | x => (tyD x).map fun t => .bl (Ts.any (isT t))
  | _ => none
section
variable {cm : Gm} {H : Hp} {A : Addr → Prop} {ma : Mo}
theorem RpL.tys : ∀ {vs ds Ts}, RpL cm H A .fz [] vs ds → tysD ds = some Ts → vs = Ts.map V.ty ∧ ∀ T ∈ Ts, T ∈ tyNames
  | vs, [], Ts, h, e => by
    rcases h.invF with ⟨rfl, _⟩ | ⟨v, vs', d, ds', rfl, e2, _, _⟩
    · cases e
      exact ⟨rfl, fun T z => nomatch z⟩
    · cases e2
  | vs, d :: ds, Ts, h, e => by
    rcases h.invF with ⟨rfl, e2⟩ | ⟨v, vs', d2, ds', rfl, e2, h1, h2⟩
    · cases e2
    · cases e2
      cases d <;> try (cases e; done)
      rename_i T
      have e : (if T ∈ tyNames then (tysD ds).map (T :: ·) else none) = some Ts := e
      split at e
      rotate_left
      · cases e
      rename_i hT
      obtain ⟨Us, e3, rfl⟩ := Option.map_eq_some_iff.mp e
      obtain ⟨e4, e5⟩ := RpL.tys h2 e3
      cases h1
      refine ⟨by rw [e4, List.map_cons], fun U hU => ?_⟩
      rcases List.mem_cons.mp hU with rfl | hU
      · exact hT
      · exact e5 U hU
theorem tys_cls : ∀ Ts : List String, Paired ClsV (Ts.map V.ty) (Ts.map Value.type)
  | [] => .nil
  | T :: Ts => .cons (.ty T) (tys_cls Ts)
theorem kit_any {K : PySem.W.Frag} {t : String} (ht : t ∈ tyNames) : ∀ Ts : List String, (∀ T ∈ Ts, T ∈ tyNames) → PySem.W.kitAny K (.type t) (Ts.map Value.type) = some (Ts.any (isT t))
  | [], _ => rfl
  | T :: Ts, h => by
    refine kitAny_cons (kit_ty (kit_isT t ht T (h T List.mem_cons_self))) (fun e => ?_) fun e => ?_
    · rw [List.any_cons, e, Bool.false_or]
      exact kit_any ht Ts fun U hU => h U (List.mem_cons_of_mem _ hU)
    · rw [List.any_cons, e, Bool.true_or]
theorem kit_anyO {K : PySem.W.Frag} {C : Addr} (ho : ∀ T ∈ tyNames, PySem.W.kitOne K (.ref C) (.type T) = some false) : ∀ Ts : List String, (∀ T ∈ Ts, T ∈ tyNames) → PySem.W.kitAny K (.ref C) (Ts.map Value.type) = some false
  | [], _ => rfl
  | T :: Ts, h => kitAny_cons (ho T (h T List.mem_cons_self)) (fun _ => kit_anyO ho Ts fun U hU => h U (List.mem_cons_of_mem _ hU)) fun e => by cases e
theorem ON.isiT {cs : List Str} (I : IsOk cm.K cm cs) : ON cm (rIsiT cm.K) [ma, .fz] .fz (isiTD cs) := by
  intro H O ms fps σ δ xs fx das F r d e Q q
  obtain ⟨x, y, da, db, f1, f2, rfl, rfl, r1, r2⟩ := r.inv2
  cases db <;> try (cases e; done)
  rename_i ys
  obtain ⟨Ts, e1, e⟩ := Option.bind_eq_some_iff.mp (show ((tysD ys).bind fun Ts => match da with
    | .obj c _ => if c ∈ cs then some (D.bl false) else none
    | x => (tyD x).map fun t => D.bl (Ts.any (isT t))) = some d from e)
  cases r2 with
  | tup h n rl =>
    rename_i a vs
    obtain ⟨rfl, hT⟩ := rl.tys e1
    split at e
    · split at e
      rotate_left
      · cases e
      rename_i cn fds hz hc
      cases e
      exact ⟨x, a, _, _, _, false, rfl, h, tys_cls Ts, r1.objX I hc, kit_anyO (I.obj cn hc) Ts hT, q.bl F⟩
    · obtain ⟨t, e3, e⟩ := Option.map_eq_some_iff.mp e
      cases e
      obtain ⟨h1, h2⟩ := r1.tyD e3
      exact ⟨x, a, _, _, _, _, rfl, h, tys_cls Ts, h1, kit_any h2 Ts hT, q.bl F⟩
end

/-! ### defs that may be called -/
def gmOf (K : PySem.W.Frag) : Gm := ⟨fun c => He.ga K c, K⟩
structure CalF (P : Program) (w : World) (K : PySem.W.Frag) (mg : Str → Option Value) (base : Heap) (k : Nat) (x : Str) (sp : Sp) : Prop where
  ex : ∃ (f : Addr) (fd : FuncData) (ps : List Str), FnOk P w K mg base L2.CX0 k f fd ps sp ∧ mg x = some (.ref f) ∧ PySem.W.keepIn K (.ref f) = true ∧ Binds K fd ps []
structure CalM (P : Program) (w : World) (K : PySem.W.Frag) (mg : Str → Option Value) (base : Heap) (k : Nat) (x : Str) (sp : Sp) : Prop where
  ex : ∃ (f : Addr) (fd : FuncData) (ps : List Str), Mk K (gmOf K x) f ∧ FnOk P w K mg base L2.CX0 k f fd ps sp ∧ mg x = some (.ref (gmOf K x)) ∧ Binds K fd ps []
section
variable {X : Cx} {k j : Nat} {x : Str} {sp : Sp} {p pos : Pos} {e : Expr} {es : List Expr} {t : TA}
theorem pe_cf (c : CalF X.prog X.w X.K X.mg X.base k x sp) (hr : Room j X.A) (hk : k ≤ j) (hg : Gl X x) (ha : PA X (e :: es) t)
    (hdb : (x == ("__debug__" : Str)) = false := by decide) (he : starEach (e :: es) X.env = (false, eval e X.env) :: starEach es X.env := by rfl) (hpl : (backTo pos (starEach es X.env)).any (·.1) = false := by rfl) :
    PE X (.Call (.Name x p) (e :: es) [] pos) (tCall sp [] L2.E0 t) := by
  obtain ⟨f, fd, ps, F, hm, kp, b⟩ := c.ex
  exact pe_call F (hr.mono hk) hg hm kp b .nil L2.pass0 ha hdb he hpl
theorem pe_cf0 (c : CalF X.prog X.w X.K X.mg X.base k x sp) (hr : Room j X.A) (hk : k ≤ j) (hg : Gl X x) (hdb : (x == ("__debug__" : Str)) = false := by decide) :
    PE X (.Call (.Name x p) [] [] pos) (tCall sp [] L2.E0 tNil) := by
  obtain ⟨f, fd, ps, F, hm, kp, b⟩ := c.ex
  exact pe_call0 F (hr.mono hk) hg hm kp b .nil L2.pass0 hdb
theorem pe_cm (c : CalM X.prog X.w X.K X.mg X.base k x sp) (hr : Room j X.A) (hk : k + 1 ≤ j) (hg : Gl X x) (ha : PA X (e :: es) t)
    (hdb : (x == ("__debug__" : Str)) = false := by decide) (he : starEach (e :: es) X.env = (false, eval e X.env) :: starEach es X.env := by rfl) (hpl : (backTo pos (starEach es X.env)).any (·.1) = false := by rfl) :
    PE X (.Call (.Name x p) (e :: es) [] pos) (tMake (gmOf X.K x) sp [] L2.E0 t) := by
  obtain ⟨f, fd, ps, M, F, hm, b⟩ := c.ex
  exact pe_make M F (hr.mono hk) hg hm b .nil L2.pass0 ha hdb he hpl
theorem pe_gci {i : Int} (hg : Gl X x) (h : ∃ t, X.mg x = some (.int i t)) (hd : (x == ("__debug__" : Str)) = false := by decide) : PE X (.Name x pos) (tC (.int i)) := by
  obtain ⟨t, h⟩ := h
  exact pe_glob hg h ⟨t, rfl⟩ hd
end
section
variable {P : Program} {w : World} {K : PySem.W.Frag} {mg : Str → Option Value} {base : Heap} {x qual : Str} {params : Arguments} {body : List Stmt} {scope : Scope} {f : Addr} {fd : FuncData} {N ps : List Str} {k : Nat}
  {iI iO mp ms0 : List Mo} {rm : Mo} {gs : MS}
theorem spM_len {cm : Gm} {mm : List D → Option (D × List D)} (hl : ps.length = (iI ++ mp).length) (vs : List V) (H : Hp) (Q : VK) (E : XK) (h : spM cm iI iO mp rm mm vs H Q E) : vs.length = ps.length := h.1.trans hl.symm
/-- a def that ends by return -/
theorem mkFn (iI iO mp : List Mo) (rm : Mo) (ms0 : List Mo) (F : FunD K x x params body scope [] [] f fd) (S : FnScope N ps scope)
    (hb : ∀ (cdv : Value) (A : Around) (outer : List Env) (s : Shared) (H : Hp) (E : XK), Room k (A.deeper (envOfC x scope s.heap.objs.size f cdv)) →
      ∃ t ms', PSs (cxOf L2.CX0 P w K mg base N x scope f cdv A outer s H E).nox body t ∧ RS (gmOf K) ⟨iO, rm, []⟩ t ms0 ms' gs)
    (hl : ps.length = (iI ++ mp).length := by rfl) (hio : iO.length = iI.length := by rfl) (h0 : (iI ++ mp) ++ List.replicate (N.length - (iI ++ mp).length) .hole = ms0 := by rfl) :
    FnOk P w K mg base L2.CX0 (k + 1) f fd ps (spM (gmOf K) iI iO mp rm (mFn N.length gs)) := by
  refine F.ok S (spM_len hl) fun cdv A outer s H vs Q E hr h => ?_
  obtain ⟨t, ms', h1, h2⟩ := hb cdv A outer s H E hr
  exact ⟨t, h1.nox, def_ok (by rw [h0]; exact h2) hio h⟩
theorem mkF (iI iO mp : List Mo) (rm : Mo) (ms0 : List Mo) (F : FunD K x x params body scope [] [] f fd) (hm : mg x = some (.ref f)) (S : FnScope N ps scope)
    (b : ∀ (kV doc pm : Value) (an : Option Addr) (cdv ct : Value) (us : List Value), us.length = ps.length → bindArgs (PySem.W.fnOf x x params body scope .none kV doc pm an cdv ct) ⟨us, []⟩ = pure (ps.zip us))
    (hb : ∀ (cdv : Value) (A : Around) (outer : List Env) (s : Shared) (H : Hp) (E : XK), Room k (A.deeper (envOfC x scope s.heap.objs.size f cdv)) →
      ∃ t ms', PSs (cxOf L2.CX0 P w K mg base N x scope f cdv A outer s H E).nox body t ∧ RS (gmOf K) ⟨iO, rm, []⟩ t ms0 ms' gs)
    (hl : ps.length = (iI ++ mp).length := by rfl) (hio : iO.length = iI.length := by rfl) (h0 : (iI ++ mp) ++ List.replicate (N.length - (iI ++ mp).length) .hole = ms0 := by rfl) :
    CalF P w K mg base (k + 1) x (spM (gmOf K) iI iO mp rm (mFn N.length gs)) := ⟨f, fd, ps, mkFn iI iO mp rm ms0 F S hb hl hio h0, hm, F.kp, F.bindsN b⟩
/-- a def that may come to its end -/
theorem mkN (iI iO mp : List Mo) (ms0 ms' : List Mo) (F : FunD K x x params body scope [] [] f fd) (hm : mg x = some (.ref f)) (S : FnScope N ps scope)
    (b : ∀ (kV doc pm : Value) (an : Option Addr) (cdv ct : Value) (us : List Value), us.length = ps.length → bindArgs (PySem.W.fnOf x x params body scope .none kV doc pm an cdv ct) ⟨us, []⟩ = pure (ps.zip us))
    (hb : ∀ (cdv : Value) (A : Around) (outer : List Env) (s : Shared) (H : Hp) (E : XK), Room k (A.deeper (envOfC x scope s.heap.objs.size f cdv)) →
      ∃ t, PSs (cxOf L2.CX0 P w K mg base N x scope f cdv A outer s H E).nox body t ∧ RS (gmOf K) ⟨iO, .fz, []⟩ t ms0 ms' gs)
    (hl : ps.length = (iI ++ mp).length := by rfl) (hio : iO.length = iI.length := by rfl) (h0 : (iI ++ mp) ++ List.replicate (N.length - (iI ++ mp).length) .hole = ms0 := by rfl)
    (h1 : ms'.take iO.length = iO := by rfl) (h2 : iO.all Mo.here = true := by rfl) :
    CalF P w K mg base (k + 1) x (spM (gmOf K) iI iO mp .fz (mFnN N.length iO.length gs)) := by
  refine ⟨f, fd, ps, F.ok S (spM_len hl) fun cdv A outer s H vs Q E hr h => ?_, hm, F.kp, F.bindsN b⟩
  obtain ⟨t, q1, q2⟩ := hb cdv A outer s H E hr
  exact ⟨t, q1.nox, def_okN (by rw [h0]; exact q2) h1 h2 hio h⟩
/-- a class by its __init__; m1: the mode of the fields behind it -/
theorem mkM {C : Str} (m1 : Mo) (mp : List Mo) (ms0 ms' : List Mo) (F : FunD K "__init__" qual params body scope [] [] f fd) (M : Mk K (gmOf K C) f) (hm : mg C = some (.ref (gmOf K C))) (S : FnScope N ps scope)
    (b : ∀ (kV doc pm : Value) (an : Option Addr) (cdv ct : Value) (us : List Value), us.length = ps.length → bindArgs (PySem.W.fnOf "__init__" qual params body scope .none kV doc pm an cdv ct) ⟨us, []⟩ = pure (ps.zip us))
    (hb : ∀ (cdv : Value) (A : Around) (outer : List Env) (s : Shared) (H : Hp) (E : XK), Room k (A.deeper (envOfC qual scope s.heap.objs.size f cdv)) →
      ∃ t, PSs (cxOf L2.CX0 P w K mg base N qual scope f cdv A outer s H E).nox body t ∧ RS (gmOf K) ⟨[m1], .fz, []⟩ t ms0 ms' gs)
    (hl : ps.length = ([Mo.o []] ++ mp).length := by rfl) (h0 : ([Mo.o []] ++ mp) ++ List.replicate (N.length - ([Mo.o []] ++ mp).length) .hole = ms0 := by rfl)
    (h1 : ms'.take 1 = [m1] := by rfl) (h2 : m1.here = true := by rfl) :
    CalM P w K mg base (k + 1) C (spM (gmOf K) [.o []] [m1] mp .fz (mFnN N.length 1 gs)) := by
  refine ⟨f, fd, ps, M, F.ok S (spM_len hl) fun cdv A outer s H vs Q E hr h => ?_, hm, F.bindsN b⟩
  obtain ⟨t, q1, q2⟩ := hb cdv A outer s H E hr
  exact ⟨t, q1.nox, def_okN (iI := [.o []]) (iO := [m1]) (by rw [h0]; exact q2) h1 (by simp [h2]) rfl h⟩
/-- no call, no promise: the start of a def that calls itself -/
theorem mk0 (F : FunD K x x params body scope [] [] f fd) (hm : mg x = some (.ref f))
    (b : ∀ (kV doc pm : Value) (an : Option Addr) (cdv ct : Value) (us : List Value), us.length = ps.length → bindArgs (PySem.W.fnOf x x params body scope .none kV doc pm an cdv ct) ⟨us, []⟩ = pure (ps.zip us))
    (hl : ps.length = (iI ++ mp).length := by rfl) : CalF P w K mg base k x (spM (gmOf K) iI iO mp rm fun _ => none) := by
  refine ⟨f, fd, ps, ⟨spM_len hl, fun A outer s H args us vs Q E _ _ _ _ h => ?_⟩, hm, F.kp, F.bindsN b⟩
  obtain ⟨_, O, f2, ds, d, ios, _, _, e, _⟩ := h
  cases e
end

/-! ### rules that say their modes -/
section
variable {cm : Gm} {c : Cfg} {ms ms1 ms2 ms' : List Mo} {m : Mo} {te : TE} {g : ME} {i j : Nat}
def isHole : Mo → Bool
  | .hole => true
  | _ => false
theorem isHole_eq : ∀ {m : Mo}, isHole m = true → m = .hole
  | .hole, _ => rfl
theorem hole_at {vs : List Nat} {ms : List Mo} (h : (vs.all fun i => (ms[i]?).any isHole) = true) : ∀ i ∈ vs, ms[i]? = some Mo.hole := fun i hi => by
  have z := List.all_eq_true.mp h i hi
  cases e : ms[i]? with
  | none => rw [e] at z; cases z
  | some m => rw [e] at z; rw [isHole_eq (show isHole m = true from z)]
theorem RS.set2 (he : RE cm te ms ms1 m g) (hz : ms1.set i m = ms' := by rfl) (hi : i < ms1.length := by decide) (hk : c.iom.length ≤ i := by decide) : RS cm c (tAsg te (gName i)) ms ms' (mSet i g) := by
  rw [← hz]
  exact RS.set he hi hk
theorem RS.fldNew2 {x : Str} {mf : List Mo} (i : Nat) (cs : List Str) (hf : FldOk cm.K cm cs x) (he : RE cm te ms ms1 m g) (hm : ms1[i]? = some (.o mf)) (hz : ms1.set i (.o (mf ++ [m])) = ms' := by rfl) : RS cm c (sFld cm.K (tVar i) te x) ms ms' (mFldNew i cs x g) := by
  rw [← hz]
  exact RS.fldNew i cs hf he hm
theorem RS.void2 {t : TS} {gs : MS} (is : List Nat) (ms1 : List Mo) (h : RS cm c t ms ms1 gs) (hz : voidM is ms1 = ms' := by rfl) : RS cm c t ms ms' (mThenVoid is gs) := by
  rw [← hz]
  exact RS.void is h
/-- a, b = x, y -/
def mPar (i j : Nat) (fa : MA) : MS := fun δ => (fa δ).bind fun p => match p.1 with
  | [a, b] => some (.nx ((p.2.set i a).set j b))
  | _ => none
theorem RS.par {t : TA} {fr : MA} (ha : RA cm t ms ms1 [.fz, .fz] fr) (hz : (ms1.set i .fz).set j .fz = ms' := by rfl) (hi : i < ms1.length := by decide) (hj : j < ms1.length := by decide) (hk : c.iom.length ≤ i := by decide) (hk2 : c.iom.length ≤ j := by decide) :
    RS cm c (tPar i j t) ms ms' (mPar i j fr) := by
  subst hz
  intro σ H O δ fps F out e De q
  obtain ⟨⟨ds, δ1⟩, e1, e⟩ := Option.bind_eq_some_iff.mp e
  refine ha σ H O δ fps F ds δ1 e1 _ fun vs f H1 fps1 r F1 g1 => ?_
  cases r with
  | cons h r =>
    cases r with
    | cons h2 r =>
      cases r
      have e3 := h.fz_nil
      have e4 := h2.fz_nil
      subst e3
      subst e4
      cases e
      have F1 : Frm cm H1 ([] ++ ([] ++ O)) ms1 fps1 σ δ1 := F1
      obtain ⟨G, sub⟩ := F1.setSlot (i := i) h hi
      have h2' : Rp cm H1 (inA (fps1.set i []) ([] ++ O)) .fz [] _ _ := h2.less fun a z => by
        rcases List.mem_append.mp z with z | z
        · rcases List.mem_append.mp (sub a z) with y | y
          · cases y
          · exact List.mem_append_left _ y
        · exact List.mem_append_right _ z
      obtain ⟨G2, sub2⟩ := G.setSlot (f := []) (i := j) h2' (by rw [List.length_set]; exact hj)
      refine ⟨_, _, rfl, q _ H1 _ G2 (g1.sub' fun a z => ?_) ?_⟩
      · rcases List.mem_append.mp (sub2 a z) with y | y
        · cases y
        · exact List.mem_append_right _ ((List.mem_append.mp (sub a y)).elim (fun z => nomatch z) id)
      · exact (take_set_le hk2).trans (take_set_le hk)
end
/-! ### what isinstance asks of the own classes, looked up -/
def isOkB (K : PySem.W.Frag) (cs : List Str) : Bool :=
  (cs.all fun c => decide (PySem.W.findIn K (.ref (He.ga K c)) "__class__" = some (some (.builtin "object.__class__"))) && decide (PySem.W.mroIn K (He.ga K c) (.type "object") = some true)) &&
  (decide (PySem.W.specialIn K (.builtin "object.__class__") "__get__" = some (some (.builtin "getset_descriptor.__get__"))) && (decide (PySem.W.takesIn K (.builtin "object.__class__") = some true) &&
  ((cs.all fun c => cs.all fun c' => decide (PySem.W.kitOne K (.ref (He.ga K c)) (.ref (He.ga K c')) = some (decide (c = c')))) &&
  ((cs.all fun c' => tyNames.all fun t => decide (PySem.W.kitOne K (.type t) (.ref (He.ga K c')) = some false)) &&
  (cs.all fun c => tyNames.all fun t => decide (PySem.W.kitOne K (.ref (He.ga K c)) (.type t) = some false))))))
theorem isOk_of {K : PySem.W.Frag} {cs : List Str} (h : isOkB K cs = true) (hc : ∀ c ∈ cs, Cls K (He.ga K c)) : IsOk K (gmOf K) cs := by
  unfold isOkB at h
  simp only [Bool.and_eq_true, List.all_eq_true, decide_eq_true_eq] at h
  obtain ⟨h1, h2, h3, h4, h5, h6⟩ := h
  exact ⟨fun c z => ⟨hc c z, (h1 c z).1, h2, h3, (h1 c z).2⟩, fun c z c' z' => h4 c z c' z', fun c z t z' => h5 c z t z', fun c z t z' => h6 c z t z'⟩
/-! ### the law itself -/
theorem law_sp {K : PySem.W.Frag} {H : Hp} {a : Addr} {ns : List Int} {mm : List D → Option (D × List D)} (hO : L2.Only H) (hS : SqL K H a (ns.map V.int)) (main : mm [.scr (ns.map D.int)] = some (.bl true, [])) :
    spM (gmOf K) [] [] [.fz] .fz mm [.ref a] H (fun v _ => v = .bl true) fun _ _ _ => False := by
  have F : Frm (gmOf K) H ([] ++ []) [] [] [] [] := ⟨.nil, List.nodup_nil, fun a z => nomatch z⟩
  have rl : RpL (gmOf K) H (inA [] ([] ++ [])) .fz [] (ns.map V.int) (ns.map D.int) := RpL.ofInts ns
  have r : Rp (gmOf K) H (inA [] ([] ++ [])) .fz [] (.ref a) (.scr (ns.map D.int)) := by
    rcases hS with (h | ⟨o, h⟩) | h
    · exfalso
      rcases hO a with z | ⟨o, xs, z⟩
      · rw [z] at h; cases h
      · rw [z] at h; cases h
    · exact .scr h (fun z => nomatch z) rl
    · exact .scrK h rl
  refine ⟨rfl, [], [], _, .bl true, [], F, (.cons (f1 := []) (f2 := []) r .nil : RpM (gmOf K) H (inA [] ([] ++ [])) [.fz] ([] ++ []) [.ref a] [.scr (ns.map D.int)]), main, ?_⟩
  intro v fv fi H' _ rv _ _
  cases rv
  rfl
end DL

namespace W51
open PySem PySem.Spec PyProof.Rows L2 DL
def top (i : Nat) : Stmt := PySem.Challenge.pw_sparetrees_k51_whole_places_stopped_by_l.main.body.getD i (.Pass ⟨0, 0, 0, 0⟩)
theorem hu64 {A : Around} {k : Nat} (hr : Room k A) : A.units + 64 < cLine := by have := hr.un; omega
theorem hu1 {A : Around} {k : Nat} (hr : Room k A) : A.units + 1 < cLine := by have := hr.un; omega
structure Txt (K : PySem.W.Frag) (mg : Str → Option Value) : Prop where
  n_ValueError : mg "ValueError" = none
  n_abs : mg "abs" = none
  n_all : mg "all" = none
  n_any : mg "any" = none
  n_bool : mg "bool" = none
  n_enumerate : mg "enumerate" = none
  n_int : mg "int" = none
  n_isinstance : mg "isinstance" = none
  n_len : mg "len" = none
  n_list : mg "list" = none
  n_min : mg "min" = none
  n_range : mg "range" = none
  n_set : mg "set" = none
  n_sorted : mg "sorted" = none
  n_tuple : mg "tuple" = none
  i_LEAST_PLACES : ∃ t, mg "LEAST_PLACES" = some (.int 2 t)
  i_MOST_PLACES : ∃ t, mg "MOST_PLACES" = some (.int 10 t)
  i_MOST_LINKS : ∃ t, mg "MOST_LINKS" = some (.int 60 t)
  i_MOST_SIZE : ∃ t, mg "MOST_SIZE" = some (.int 8 t)
  i_MOST_WORDS : ∃ t, mg "MOST_WORDS" = some (.int 12 t)
  g_is_integer : mg "is_integer" = some (.ref (He.ga K "is_integer"))
  f_is_integer : ∃ fd, FunD K "is_integer" "is_integer" (L2.defArgs (top 1)) (L2.defBody (top 1)) (L2.defScope (top 1)) [] [] (He.ga K "is_integer") fd
  g_is_within : mg "is_within" = some (.ref (He.ga K "is_within"))
  f_is_within : ∃ fd, FunD K "is_within" "is_within" (L2.defArgs (top 2)) (L2.defBody (top 2)) (L2.defScope (top 2)) [] [] (He.ga K "is_within") fd
  g_is_pair : mg "is_pair" = some (.ref (He.ga K "is_pair"))
  f_is_pair : ∃ fd, FunD K "is_pair" "is_pair" (L2.defArgs (top 3)) (L2.defBody (top 3)) (L2.defScope (top 3)) [] [] (He.ga K "is_pair") fd
  g_is_lot : mg "is_lot" = some (.ref (He.ga K "is_lot"))
  f_is_lot : ∃ fd, FunD K "is_lot" "is_lot" (L2.defArgs (top 4)) (L2.defBody (top 4)) (L2.defScope (top 4)) [] [] (He.ga K "is_lot") fd
  f_Net_init : ∃ fd, FunD K "__init__" "Net.__init__" (L2.defArgs (L2.inClass (top 19) 0)) (L2.defBody (L2.inClass (top 19) 0)) (L2.defScope (L2.inClass (top 19) 0)) [] [] (He.ma K (He.ga K "Net") "__init__") fd
  g_is_link : mg "is_link" = some (.ref (He.ga K "is_link"))
  f_is_link : ∃ fd, FunD K "is_link" "is_link" (L2.defArgs (top 20)) (L2.defBody (top 20)) (L2.defScope (top 20)) [] [] (He.ga K "is_link") fd
  g_check_net : mg "check_net" = some (.ref (He.ga K "check_net"))
  f_check_net : ∃ fd, FunD K "check_net" "check_net" (L2.defArgs (top 21)) (L2.defBody (top 21)) (L2.defScope (top 21)) [] [] (He.ga K "check_net") fd
  g_is_lot_of : mg "is_lot_of" = some (.ref (He.ga K "is_lot_of"))
  f_is_lot_of : ∃ fd, FunD K "is_lot_of" "is_lot_of" (L2.defArgs (top 22)) (L2.defBody (top 22)) (L2.defScope (top 22)) [] [] (He.ga K "is_lot_of") fd
  g_reached : mg "reached" = some (.ref (He.ga K "reached"))
  f_reached : ∃ fd, FunD K "reached" "reached" (L2.defArgs (top 24)) (L2.defBody (top 24)) (L2.defScope (top 24)) [] [] (He.ga K "reached") fd
  g_is_wood : mg "is_wood" = some (.ref (He.ga K "is_wood"))
  f_is_wood : ∃ fd, FunD K "is_wood" "is_wood" (L2.defArgs (top 25)) (L2.defBody (top 25)) (L2.defScope (top 25)) [] [] (He.ga K "is_wood") fd
  g_is_grown : mg "is_grown" = some (.ref (He.ga K "is_grown"))
  f_is_grown : ∃ fd, FunD K "is_grown" "is_grown" (L2.defArgs (top 26)) (L2.defBody (top 26)) (L2.defScope (top 26)) [] [] (He.ga K "is_grown") fd
  g_is_tree : mg "is_tree" = some (.ref (He.ga K "is_tree"))
  f_is_tree : ∃ fd, FunD K "is_tree" "is_tree" (L2.defArgs (top 27)) (L2.defBody (top 27)) (L2.defScope (top 27)) [] [] (He.ga K "is_tree") fd
  g_are_apart : mg "are_apart" = some (.ref (He.ga K "are_apart"))
  f_are_apart : ∃ fd, FunD K "are_apart" "are_apart" (L2.defArgs (top 28)) (L2.defBody (top 28)) (L2.defScope (top 28)) [] [] (He.ga K "are_apart") fd
  g_is_packing : mg "is_packing" = some (.ref (He.ga K "is_packing"))
  f_is_packing : ∃ fd, FunD K "is_packing" "is_packing" (L2.defArgs (top 29)) (L2.defBody (top 29)) (L2.defScope (top 29)) [] [] (He.ga K "is_packing") fd
  g_check_tree : mg "check_tree" = some (.ref (He.ga K "check_tree"))
  f_check_tree : ∃ fd, FunD K "check_tree" "check_tree" (L2.defArgs (top 31)) (L2.defBody (top 31)) (L2.defScope (top 31)) [] [] (He.ga K "check_tree") fd
  g_links_to : mg "links_to" = some (.ref (He.ga K "links_to"))
  f_links_to : ∃ fd, FunD K "links_to" "links_to" (L2.defArgs (top 32)) (L2.defBody (top 32)) (L2.defScope (top 32)) [] [] (He.ga K "links_to") fd
  g_depths : mg "depths" = some (.ref (He.ga K "depths"))
  f_depths : ∃ fd, FunD K "depths" "depths" (L2.defArgs (top 33)) (L2.defBody (top 33)) (L2.defScope (top 33)) [] [] (He.ga K "depths") fd
  g_way_in : mg "way_in" = some (.ref (He.ga K "way_in"))
  f_way_in : ∃ fd, FunD K "way_in" "way_in" (L2.defArgs (top 34)) (L2.defBody (top 34)) (L2.defScope (top 34)) [] [] (He.ga K "way_in") fd
  f_Plan_init : ∃ fd, FunD K "__init__" "Plan.__init__" (L2.defArgs (L2.inClass (top 38) 0)) (L2.defBody (L2.inClass (top 38) 0)) (L2.defScope (L2.inClass (top 38) 0)) [] [] (He.ma K (He.ga K "Plan") "__init__") fd
  g_check_plan : mg "check_plan" = some (.ref (He.ga K "check_plan"))
  f_check_plan : ∃ fd, FunD K "check_plan" "check_plan" (L2.defArgs (top 39)) (L2.defBody (top 39)) (L2.defScope (top 39)) [] [] (He.ga K "check_plan") fd
  g_check_lost : mg "check_lost" = some (.ref (He.ga K "check_lost"))
  f_check_lost : ∃ fd, FunD K "check_lost" "check_lost" (L2.defArgs (top 41)) (L2.defBody (top 41)) (L2.defScope (top 41)) [] [] (He.ga K "check_lost") fd
  g_cut_trees : mg "cut_trees" = some (.ref (He.ga K "cut_trees"))
  f_cut_trees : ∃ fd, FunD K "cut_trees" "cut_trees" (L2.defArgs (top 43)) (L2.defBody (top 43)) (L2.defScope (top 43)) [] [] (He.ga K "cut_trees") fd
  g_is_stopped : mg "is_stopped" = some (.ref (He.ga K "is_stopped"))
  f_is_stopped : ∃ fd, FunD K "is_stopped" "is_stopped" (L2.defArgs (top 44)) (L2.defBody (top 44)) (L2.defScope (top 44)) [] [] (He.ga K "is_stopped") fd
  g_stopped : mg "stopped" = some (.ref (He.ga K "stopped"))
  f_stopped : ∃ fd, FunD K "stopped" "stopped" (L2.defArgs (top 45)) (L2.defBody (top 45)) (L2.defScope (top 45)) [] [] (He.ga K "stopped") fd
  g__law_mixed : mg "_law_mixed" = some (.ref (He.ga K "_law_mixed"))
  f__law_mixed : ∃ fd, FunD K "_law_mixed" "_law_mixed" (L2.defArgs (top 47)) (L2.defBody (top 47)) (L2.defScope (top 47)) [] [] (He.ga K "_law_mixed") fd
  g__law_bag : mg "_law_bag" = some (.ref (He.ga K "_law_bag"))
  f__law_bag : ∃ fd, FunD K "_law_bag" "_law_bag" (L2.defArgs (top 48)) (L2.defBody (top 48)) (L2.defScope (top 48)) [] [] (He.ga K "_law_bag") fd
  g__law_draw : mg "_law_draw" = some (.ref (He.ga K "_law_draw"))
  f__law_draw : ∃ fd, FunD K "_law_draw" "_law_draw" (L2.defArgs (top 49)) (L2.defBody (top 49)) (L2.defScope (top 49)) [] [] (He.ga K "_law_draw") fd
  g__law_tree : mg "_law_tree" = some (.ref (He.ga K "_law_tree"))
  f__law_tree : ∃ fd, FunD K "_law_tree" "_law_tree" (L2.defArgs (top 50)) (L2.defBody (top 50)) (L2.defScope (top 50)) [] [] (He.ga K "_law_tree") fd
  g__law_plan : mg "_law_plan" = some (.ref (He.ga K "_law_plan"))
  f__law_plan : ∃ fd, FunD K "_law_plan" "_law_plan" (L2.defArgs (top 51)) (L2.defBody (top 51)) (L2.defScope (top 51)) [] [] (He.ga K "_law_plan") fd
  g__law_made : mg "_law_made" = some (.ref (He.ga K "_law_made"))
  f__law_made : ∃ fd, FunD K "_law_made" "_law_made" (L2.defArgs (top 52)) (L2.defBody (top 52)) (L2.defScope (top 52)) [] [] (He.ga K "_law_made") fd
  g__law_way : mg "_law_way" = some (.ref (He.ga K "_law_way"))
  f__law_way : ∃ fd, FunD K "_law_way" "_law_way" (L2.defArgs (top 53)) (L2.defBody (top 53)) (L2.defScope (top 53)) [] [] (He.ga K "_law_way") fd
  g__law_lot : mg "_law_lot" = some (.ref (He.ga K "_law_lot"))
  f__law_lot : ∃ fd, FunD K "_law_lot" "_law_lot" (L2.defArgs (top 54)) (L2.defBody (top 54)) (L2.defScope (top 54)) [] [] (He.ga K "_law_lot") fd
  g__law_stopped : mg "_law_stopped" = some (.ref (He.ga K "_law_stopped"))
  f__law_stopped : ∃ fd, FunD K "_law_stopped" "_law_stopped" (L2.defArgs (top 55)) (L2.defBody (top 55)) (L2.defScope (top 55)) [] [] (He.ga K "_law_stopped") fd
  g__law_is_same : mg "_law_is_same" = some (.ref (He.ga K "_law_is_same"))
  f__law_is_same : ∃ fd, FunD K "_law_is_same" "_law_is_same" (L2.defArgs (top 56)) (L2.defBody (top 56)) (L2.defScope (top 56)) [] [] (He.ga K "_law_is_same") fd
  g__law_lost : mg "_law_lost" = some (.ref (He.ga K "_law_lost"))
  f__law_lost : ∃ fd, FunD K "_law_lost" "_law_lost" (L2.defArgs (top 57)) (L2.defBody (top 57)) (L2.defScope (top 57)) [] [] (He.ga K "_law_lost") fd
  g_law : mg "law" = some (.ref (He.ga K "law"))
  f_law : ∃ fd, FunD K "law" "law" (L2.defArgs (top 58)) (L2.defBody (top 58)) (L2.defScope (top 58)) [] [] (He.ga K "law") fd
  g_Net : mg "Net" = some (.ref (He.ga K "Net"))
  mk_Net : Mk K (He.ga K "Net") (He.ma K (He.ga K "Net") "__init__")
  fld_Net_many : FldOk K (gmOf K) ["Net"] "many"
  fld_Net_root : FldOk K (gmOf K) ["Net"] "root"
  fld_Net_links : FldOk K (gmOf K) ["Net"] "links"
  g_Plan : mg "Plan" = some (.ref (He.ga K "Plan"))
  mk_Plan : Mk K (He.ga K "Plan") (He.ma K (He.ga K "Plan") "__init__")
  fld_Plan_of_net : FldOk K (gmOf K) ["Plan"] "of_net"
  fld_Plan_by_trees : FldOk K (gmOf K) ["Plan"] "by_trees"
  fld_Plan_of_size : FldOk K (gmOf K) ["Plan"] "of_size"
  fld_Plan_kept_depths : FldOk K (gmOf K) ["Plan"] "kept_depths"
  isok : IsOk K (gmOf K) ["Net", "Plan"]
section
variable {P : Program} {w : World} {K : PySem.W.Frag} {mg : Str → Option Value} {base : Heap}
def m_is_integer : MS := (mRet 0 (mAndV (mCB (isiD ["Net", "Plan"]) (mCons (mVar 0) (mCons (mC (.ty "int")) mNil))) (mNotV (mCB (isiD ["Net", "Plan"]) (mCons (mVar 0) (mCons (mC (.ty "bool")) mNil))))))
def mm_is_integer : List D → Option (D × List D) := mFn 1 m_is_integer
theorem sc_is_integer : FnScope ["thing"] ["thing"] (L2.defScope (top 1)) := ⟨rfl, rfl, rfl, by decide +kernel, rfl, by decide +kernel, by decide +kernel⟩
theorem ok_is_integer (T : Txt K mg) : CalF P w K mg base 1 "is_integer" (spM (gmOf K) [] [] [.fz] .fz (mm_is_integer)) := by
  obtain ⟨fd, F⟩ := T.f_is_integer
  refine mkF (N := ["thing"]) (ps := ["thing"]) [] [] [.fz] .fz [.fz] F T.g_is_integer sc_is_integer (fun _ _ _ _ _ _ us hl => match us, hl with | [_], _ => rfl) fun cdv A outer s H E hr => ?_
  have nd := sc_is_integer.nd
  exact ⟨_, [.fz], (pss_one (ps_ret (pe_and (pe_callB call_isi rfl T.n_isinstance boot_isinstance (pa_cons (pv 0) (pa_cons (pe_bltn (v := .ty "int") rfl T.n_int boot_int rfl) pa_nil))) (pe_one (pe_not (pe_callB call_isi rfl T.n_isinstance boot_isinstance (pa_cons (pv 0) (pa_cons (pe_bltn (v := .ty "bool") rfl T.n_bool boot_bool rfl) pa_nil)))))))),
    (RS.ret (RE.andV (RE.cb (ON.isi T.isok) (RA.cons (RE.var rfl) (RA.cons RE.ty RA.nil))) (RE.notV (RE.cb (ON.isi T.isok) (RA.cons (RE.var rfl) (RA.cons RE.ty RA.nil))))))⟩
def m_is_within : MS := (mRet 0 (mAndV (mCall mm_is_integer (mCons (mVar 0) mNil)) (mChain leI leI (mVar 1) (mVar 0) (mVar 2))))
def mm_is_within : List D → Option (D × List D) := mFn 3 m_is_within
theorem sc_is_within : FnScope ["thing", "least", "most"] ["thing", "least", "most"] (L2.defScope (top 2)) := ⟨rfl, rfl, rfl, by decide +kernel, rfl, by decide +kernel, by decide +kernel⟩
theorem ok_is_within (T : Txt K mg) : CalF P w K mg base 2 "is_within" (spM (gmOf K) [] [] [.fz, .fz, .fz] .fz (mm_is_within)) := by
  obtain ⟨fd, F⟩ := T.f_is_within
  refine mkF (N := ["thing", "least", "most"]) (ps := ["thing", "least", "most"]) [] [] [.fz, .fz, .fz] .fz [.fz, .fz, .fz] F T.g_is_within sc_is_within (fun _ _ _ _ _ _ us hl => match us, hl with | [_, _, _], _ => rfl) fun cdv A outer s H E hr => ?_
  have nd := sc_is_within.nd
  exact ⟨_, [.fz, .fz, .fz], (pss_one (ps_ret (pe_and (pe_cf (ok_is_integer T) hr (by decide) rfl (pa_cons (pv 0) pa_nil)) (pe_one (pe_chain op_le op_le (pv 1) (pv 0) (pv 2)))))),
    (RS.ret (RE.andV (RE.call (RA.cons (RE.var rfl) RA.nil)) (RE.chain O2.le O2.le (RE.var rfl) (RE.var rfl) (RE.var rfl))))⟩
def m_is_pair : MS := (mRet 0 (mAndV (mCB (isiD ["Net", "Plan"]) (mCons (mVar 0) (mCons (mC (.ty "tuple")) mNil))) (mOp eqD (mCB lenD (mCons (mVar 0) mNil)) (mC (.int 2)))))
def mm_is_pair : List D → Option (D × List D) := mFn 1 m_is_pair
theorem sc_is_pair : FnScope ["thing"] ["thing"] (L2.defScope (top 3)) := ⟨rfl, rfl, rfl, by decide +kernel, rfl, by decide +kernel, by decide +kernel⟩
theorem ok_is_pair (T : Txt K mg) : CalF P w K mg base 1 "is_pair" (spM (gmOf K) [] [] [.fz] .fz (mm_is_pair)) := by
  obtain ⟨fd, F⟩ := T.f_is_pair
  refine mkF (N := ["thing"]) (ps := ["thing"]) [] [] [.fz] .fz [.fz] F T.g_is_pair sc_is_pair (fun _ _ _ _ _ _ us hl => match us, hl with | [_], _ => rfl) fun cdv A outer s H E hr => ?_
  have nd := sc_is_pair.nd
  exact ⟨_, [.fz], (pss_one (ps_ret (pe_and (pe_callB call_isi rfl T.n_isinstance boot_isinstance (pa_cons (pv 0) (pa_cons (pe_bltn (v := .ty "tuple") rfl T.n_tuple boot_tuple rfl) pa_nil))) (pe_one (pe_cmpR (op_eqD (hu64 hr)) (pe_callB call_lenA rfl T.n_len boot_len (pa_cons (pv 0) pa_nil)) pe_int (nomark _)))))),
    (RS.ret (RE.andV (RE.cb (ON.isi T.isok) (RA.cons (RE.var rfl) (RA.cons RE.ty RA.nil))) (RE.op2 O2.eq (RE.cb ON.len (RA.cons (RE.var rfl) RA.nil)) RE.int)))⟩
def m_is_lot : MS := (mSeq (mIfS (mNot (mTest (mCB (isiD ["Net", "Plan"]) (mCons (mVar 0) (mCons (mC (.ty "tuple")) mNil))))) (mRet 0 (mC (.bl false))) mNx) (mSeq (mSet 2 (mUn negI (mC (.int 1)))) (mSeq (mFor (mITup (mVar 0)) (fun d δ => some (δ.set 3 d)) (mThenVoid [3] (mSeq (mIfS (mNot (mTest (mCall mm_is_within (mCons (mVar 3) (mCons (mOp addI (mVar 2) (mC (.int 1))) (mCons (mOp subI (mVar 1) (mC (.int 1))) mNil)))))) (mRet 0 (mC (.bl false))) mNx) (mSet 2 (mVar 3))))) (mRet 0 (mC (.bl true))))))
def mm_is_lot : List D → Option (D × List D) := mFn 4 m_is_lot
theorem sc_is_lot : FnScope ["thing", "many", "last", "number"] ["thing", "many"] (L2.defScope (top 4)) := ⟨rfl, rfl, rfl, by decide +kernel, rfl, by decide +kernel, by decide +kernel⟩
theorem ok_is_lot (T : Txt K mg) : CalF P w K mg base 3 "is_lot" (spM (gmOf K) [] [] [.fz, .fz] .fz (mm_is_lot)) := by
  obtain ⟨fd, F⟩ := T.f_is_lot
  refine mkF (N := ["thing", "many", "last", "number"]) (ps := ["thing", "many"]) [] [] [.fz, .fz] .fz [.fz, .fz, .hole, .hole] F T.g_is_lot sc_is_lot (fun _ _ _ _ _ _ us hl => match us, hl with | [_, _], _ => rfl) fun cdv A outer s H E hr => ?_
  have nd := sc_is_lot.nd
  exact ⟨_, [.fz, .fz, .hole, .hole], (pss_cons (ps_if (pt_not (pt_val (pe_callB call_isi rfl T.n_isinstance boot_isinstance (pa_cons (pv 0) (pa_cons (pe_bltn (v := .ty "tuple") rfl T.n_tuple boot_tuple rfl) pa_nil))))) (pss_one (ps_ret pe_bl)) pss_nil) (pss_cons (ps_set (i := 2) nd rfl (by first | exact Or.inl rfl | exact Or.inr rfl) (pe_un un_neg pe_int)) (pss_cons (ps_for PassesOwn.never rfl (pi_tup (pv 0)) (pg_name (i := 3) nd rfl (by first | exact Or.inl rfl | exact Or.inr rfl)) (pss_cons (ps_if (pt_not (pt_val (pe_cf (ok_is_within T) hr (by decide) rfl (pa_cons (pv 3) (pa_cons (pe_op op_add (pv 2) pe_int) (pa_cons (pe_op op_sub (pv 1) pe_int) pa_nil)))))) (pss_one (ps_ret pe_bl)) pss_nil) (pss_one (ps_set (i := 2) nd rfl (by first | exact Or.inl rfl | exact Or.inr rfl) (pv 3))))) (pss_one (ps_ret pe_bl))))),
    (RS.seq (ms1 := [.fz, .fz, .hole, .hole]) (RS.ifs (RT.not (RT.val (RE.cb (ON.isi T.isok) (RA.cons (RE.var rfl) (RA.cons RE.ty RA.nil))))) (RS.ret RE.bl) RS.nil) (RS.seq (ms1 := [.fz, .fz, .fz, .hole]) (RS.set2 (RE.un O1.neg RE.int)) (RS.seq (ms1 := [.fz, .fz, .fz, .hole]) (RS.for (RI.tup (RE.var rfl)) (RG.name 3) (RS.void2 [3] [.fz, .fz, .fz, .fz] (RS.seq (ms1 := [.fz, .fz, .fz, .fz]) (RS.ifs (RT.not (RT.val (RE.call (RA.cons (RE.var rfl) (RA.cons (RE.op2 O2.add (RE.var rfl) RE.int) (RA.cons (RE.op2 O2.sub (RE.var rfl) RE.int) RA.nil)))))) (RS.ret RE.bl) RS.nil) (RS.set2 (RE.var rfl))))) (RS.ret RE.bl))))⟩
def m_is_link : MS := (mSeq (mIfS (mOr (mNot (mTest (mCall mm_is_pair (mCons (mVar 1) mNil)))) (mNot (mTest (mCB allD (mCons (mLcG [2] (mITup (mVar 1)) (fun d δ => some (δ.set 2 d)) mYes (mCall mm_is_within (mCons (mVar 2) (mCons (mC (.int 0)) (mCons (mOp subI (mVar 0) (mC (.int 1))) mNil))))) mNil))))) (mRet 0 (mC (.bl false))) mNx) (mRet 0 (mOp neD (mOp ixD (mVar 1) (mC (.int 0))) (mOp ixD (mVar 1) (mC (.int 1))))))
def mm_is_link : List D → Option (D × List D) := mFn 3 m_is_link
theorem sc_is_link : FnScope ["many", "thing", "place"] ["many", "thing"] (L2.defScope (top 20)) := ⟨rfl, rfl, rfl, by decide +kernel, rfl, by decide +kernel, by decide +kernel⟩
theorem ok_is_link (T : Txt K mg) : CalF P w K mg base 3 "is_link" (spM (gmOf K) [] [] [.fz, .fz] .fz (mm_is_link)) := by
  obtain ⟨fd, F⟩ := T.f_is_link
  refine mkF (N := ["many", "thing", "place"]) (ps := ["many", "thing"]) [] [] [.fz, .fz] .fz [.fz, .fz, .hole] F T.g_is_link sc_is_link (fun _ _ _ _ _ _ us hl => match us, hl with | [_, _], _ => rfl) fun cdv A outer s H E hr => ?_
  have nd := sc_is_link.nd
  exact ⟨_, [.fz, .fz, .hole], (pss_cons (ps_if (PW.pt (pw_or (pt_not (pt_val (pe_cf (ok_is_pair T) hr (by decide) rfl (pa_cons (pv 1) pa_nil)))) (pw_or1 (pt_not (pt_val (pe_callB (cr_all rfl) rfl T.n_all boot_all (pa_cons (pe_lc (own := [("place", 2)]) rfl nd (pi_tup (pv 1)) (blkOk_by (by kernel_rfl)) (fun _ _ _ _ _ => (pg_name (i := 2) nd rfl (by first | exact Or.inl rfl | exact Or.inr rfl))) (fun _ _ _ _ _ => pts_nil) (fun _ _ _ _ _ => (pe_cf (ok_is_within T) hr (by decide) rfl (pa_cons (pv 2) (pa_cons pe_int (pa_cons (pe_op op_sub (pv 0) pe_int) pa_nil)))))) pa_nil))))))) (pss_one (ps_ret pe_bl)) pss_nil) (pss_one (ps_ret (pe_cmpR (op_neD (hu64 hr)) (pe_ix ix_seq (pv 1) pe_int (fun _ _ => rfl)) (pe_ix ix_seq (pv 1) pe_int (fun _ _ => rfl)) (nomark _))))),
    (RS.seq (ms1 := [.fz, .fz, .hole]) (RS.ifs (RT.or (RT.not (RT.val (RE.call (RA.cons (RE.var rfl) RA.nil)))) (RT.not (RT.val (RE.cb (ON.all) (RA.cons (RE.lc (vs := [2]) (RI.tup (RE.var rfl)) (RG.name 2) RT.yes (RE.call (RA.cons (RE.var rfl) (RA.cons RE.int (RA.cons (RE.op2 O2.sub (RE.var rfl) RE.int) RA.nil)))) (hv := by exact hole_at (by rfl))) RA.nil))))) (RS.ret RE.bl) RS.nil) (RS.ret (RE.op2 O2.ne (RE.op2 (O2.ix rfl) (RE.var rfl) RE.int) (RE.op2 (O2.ix rfl) (RE.var rfl) RE.int))))⟩
def m_Net_init : MS := (mSeq (mIfS (mNot (mTest (mCall mm_is_within (mCons (mVar 1) (mCons (mC (.int 2)) (mCons (mC (.int 10)) mNil)))))) mNo mNx) (mSeq (mIfS (mNot (mTest (mCall mm_is_within (mCons (mVar 2) (mCons (mC (.int 0)) (mCons (mOp subI (mVar 1) (mC (.int 1))) mNil)))))) mNo mNx) (mSeq (mIfS (mOr (mNot (mTest (mCB (isiD ["Net", "Plan"]) (mCons (mVar 3) (mCons (mC (.ty "tuple")) mNil))))) (mTest (mOp gtI (mCB lenD (mCons (mVar 3) mNil)) (mC (.int 60))))) mNo mNx) (mSeq (mFor (mEnumT (mCons (mVar 3) mNil)) (mgTup 2 (mgCons (fun d δ => some (δ.set 4 d)) (mgCons (fun d δ => some (δ.set 5 d)) mgNil))) (mThenVoid [4, 5] (mIfS (mNot (mTest (mCall mm_is_link (mCons (mVar 1) (mCons (mVar 5) mNil))))) mNo mNx))) (mSeq (mFldNew 0 ["Net"] "many" (mVar 1)) (mSeq (mFldNew 0 ["Net"] "root" (mVar 2)) (mFldNew 0 ["Net"] "links" (mVar 3))))))))
def mm_Net_init : List D → Option (D × List D) := mFnN 6 1 m_Net_init
theorem sc_Net_init : FnScope ["self", "many", "root", "links", "number", "link"] ["self", "many", "root", "links"] (L2.defScope (L2.inClass (top 19) 0)) := ⟨rfl, rfl, rfl, by decide +kernel, rfl, by decide +kernel, by decide +kernel⟩
theorem ok_Net_init (T : Txt K mg) : CalM P w K mg base 4 "Net" (spM (gmOf K) [.o []] [.o [.fz, .fz, .fz]] [.fz, .fz, .fz] .fz mm_Net_init) := by
  obtain ⟨fd, F⟩ := T.f_Net_init
  refine mkM (N := ["self", "many", "root", "links", "number", "link"]) (ps := ["self", "many", "root", "links"]) (.o [.fz, .fz, .fz]) [.fz, .fz, .fz] [.o [], .fz, .fz, .fz, .hole, .hole] [.o [.fz, .fz, .fz], .fz, .fz, .fz, .hole, .hole] F T.mk_Net T.g_Net sc_Net_init (fun _ _ _ _ _ _ us hl => match us, hl with | [_, _, _, _], _ => rfl) fun cdv A outer s H E hr => ?_
  have nd := sc_Net_init.nd
  exact ⟨_, (pss_cons (ps_if (pt_not (pt_val (pe_cf (ok_is_within T) hr (by decide) rfl (pa_cons (pv 1) (pa_cons (pe_gci rfl T.i_LEAST_PLACES) (pa_cons (pe_gci rfl T.i_MOST_PLACES) pa_nil)))))) (pss_one ps_never) pss_nil) (pss_cons (ps_if (pt_not (pt_val (pe_cf (ok_is_within T) hr (by decide) rfl (pa_cons (pv 2) (pa_cons pe_int (pa_cons (pe_op op_sub (pv 1) pe_int) pa_nil)))))) (pss_one ps_never) pss_nil) (pss_cons (ps_if (PW.pt (pw_or (pt_not (pt_val (pe_callB call_isi rfl T.n_isinstance boot_isinstance (pa_cons (pv 3) (pa_cons (pe_bltn (v := .ty "tuple") rfl T.n_tuple boot_tuple rfl) pa_nil))))) (pw_or1 (pt_cmpR op_gt (pe_callB call_lenA rfl T.n_len boot_len (pa_cons (pv 3) pa_nil)) (pe_gci rfl T.i_MOST_LINKS) (nomark _))))) (pss_one ps_never) pss_nil) (pss_cons (ps_for PassesOwn.never rfl (pi_enumT rfl T.n_enumerate (pa_cons (pv 3) pa_nil)) (pg_tup (n := 2) rfl (pgs_cons (pg_name (i := 4) nd rfl (by first | exact Or.inl rfl | exact Or.inr rfl)) (pgs_cons (pg_name (i := 5) nd rfl (by first | exact Or.inl rfl | exact Or.inr rfl)) pgs_nil))) (pss_one (ps_if (pt_not (pt_val (pe_cf (ok_is_link T) hr (by decide) rfl (pa_cons (pv 1) (pa_cons (pv 5) pa_nil))))) (pss_one ps_never) pss_nil))) (pss_cons (ps_fld (pv 0) (pv 1) rfl) (pss_cons (ps_fld (pv 0) (pv 2) rfl) (pss_one (ps_fld (pv 0) (pv 3) rfl)))))))),
    (RS.seq (ms1 := [.o [], .fz, .fz, .fz, .hole, .hole]) (RS.ifs (RT.not (RT.val (RE.call (RA.cons (RE.var rfl) (RA.cons RE.int (RA.cons RE.int RA.nil)))))) RS.never RS.nil) (RS.seq (ms1 := [.o [], .fz, .fz, .fz, .hole, .hole]) (RS.ifs (RT.not (RT.val (RE.call (RA.cons (RE.var rfl) (RA.cons RE.int (RA.cons (RE.op2 O2.sub (RE.var rfl) RE.int) RA.nil)))))) RS.never RS.nil) (RS.seq (ms1 := [.o [], .fz, .fz, .fz, .hole, .hole]) (RS.ifs (RT.or (RT.not (RT.val (RE.cb (ON.isi T.isok) (RA.cons (RE.var rfl) (RA.cons RE.ty RA.nil))))) (RT.test (RE.op2 O2.gt (RE.cb ON.len (RA.cons (RE.var rfl) RA.nil)) RE.int))) RS.never RS.nil) (RS.seq (ms1 := [.o [], .fz, .fz, .fz, .hole, .hole]) (RS.for (RI.enumT (RA.cons (RE.var rfl) RA.nil)) (RG.tup (RGs.cons (RG.name 4) (RGs.cons (RG.name 5) RGs.nil))) (RS.void2 [4, 5] [.o [], .fz, .fz, .fz, .fz, .fz] (RS.ifs (RT.not (RT.val (RE.call (RA.cons (RE.var rfl) (RA.cons (RE.var rfl) RA.nil))))) RS.never RS.nil))) (RS.seq (ms1 := [.o [.fz], .fz, .fz, .fz, .hole, .hole]) (RS.fldNew2 0 ["Net"] T.fld_Net_many (RE.var rfl) rfl) (RS.seq (ms1 := [.o [.fz, .fz], .fz, .fz, .fz, .hole, .hole]) (RS.fldNew2 0 ["Net"] T.fld_Net_root (RE.var rfl) rfl) (RS.fldNew2 0 ["Net"] T.fld_Net_links (RE.var rfl) rfl)))))))⟩
def m_check_net : MS := (mIfS (mNot (mTest (mCB (isiD ["Net", "Plan"]) (mCons (mVar 0) (mCons (mC (.cls "Net")) mNil))))) mNo mNx)
def mm_check_net : List D → Option (D × List D) := mFnN 1 0 m_check_net
theorem sc_check_net : FnScope ["net"] ["net"] (L2.defScope (top 21)) := ⟨rfl, rfl, rfl, by decide +kernel, rfl, by decide +kernel, by decide +kernel⟩
theorem ok_check_net (T : Txt K mg) : CalF P w K mg base 1 "check_net" (spM (gmOf K) [] [] [.fz] .fz (mm_check_net)) := by
  obtain ⟨fd, F⟩ := T.f_check_net
  refine mkN (N := ["net"]) (ps := ["net"]) [] [] [.fz] [.fz] [.fz] F T.g_check_net sc_check_net (fun _ _ _ _ _ _ us hl => match us, hl with | [_], _ => rfl) fun cdv A outer s H E hr => ?_
  have nd := sc_check_net.nd
  exact ⟨_, (pss_one (ps_if (pt_not (pt_val (pe_callB call_isi rfl T.n_isinstance boot_isinstance (pa_cons (pv 0) (pa_cons (pe_glob (v := .ref (He.ga K "Net")) rfl T.g_Net rfl) pa_nil))))) (pss_one ps_never) pss_nil)),
    (RS.ifs (RT.not (RT.val (RE.cb (ON.isi T.isok) (RA.cons (RE.var rfl) (RA.cons (RE.cls (n := "Net")) RA.nil))))) RS.never RS.nil)⟩
def m_is_lot_of : MS := (mRet 0 (mCall mm_is_lot (mCons (mVar 1) (mCons (mCB lenD (mCons (mUn (fldD ["Net"] "links") (mVar 0)) mNil)) mNil))))
def mm_is_lot_of : List D → Option (D × List D) := mFn 2 m_is_lot_of
theorem sc_is_lot_of : FnScope ["net", "thing"] ["net", "thing"] (L2.defScope (top 22)) := ⟨rfl, rfl, rfl, by decide +kernel, rfl, by decide +kernel, by decide +kernel⟩
theorem ok_is_lot_of (T : Txt K mg) : CalF P w K mg base 4 "is_lot_of" (spM (gmOf K) [] [] [.fz, .fz] .fz (mm_is_lot_of)) := by
  obtain ⟨fd, F⟩ := T.f_is_lot_of
  refine mkF (N := ["net", "thing"]) (ps := ["net", "thing"]) [] [] [.fz, .fz] .fz [.fz, .fz] F T.g_is_lot_of sc_is_lot_of (fun _ _ _ _ _ _ us hl => match us, hl with | [_, _], _ => rfl) fun cdv A outer s H E hr => ?_
  have nd := sc_is_lot_of.nd
  exact ⟨_, [.fz, .fz], (pss_one (ps_ret (pe_cf (ok_is_lot T) hr (by decide) rfl (pa_cons (pv 1) (pa_cons (pe_callB call_lenA rfl T.n_len boot_len (pa_cons (pe_fld (pv 0) rfl) pa_nil)) pa_nil))))),
    (RS.ret (RE.call (RA.cons (RE.var rfl) (RA.cons (RE.cb ON.len (RA.cons (RE.fld ["Net"] (T.fld_Net_links) (RE.var rfl)) RA.nil)) RA.nil))))⟩
def m_reached : MS := (mSeq (mSet 3 (mCB listOfD (mCons (mVar 2) mNil))) (mSeq (mSet 4 (mC (.bl true))) (mSeq (whileN 100 (mTest (mVar 4)) (mThenVoid [5, 6] (mSeq (mSet 5 (mLcG [7] (mITup (mVar 1)) (fun d δ => some (δ.set 7 d)) (mTest (mOpW (inD false) (mOp ixD (mOp ixD (mUn (fldD ["Net"] "links") (mVar 0)) (mVar 7)) (mC (.int 0))) 3)) (mOp ixD (mOp ixD (mUn (fldD ["Net"] "links") (mVar 0)) (mVar 7)) (mC (.int 1))))) (mSeq (mSet 6 (mUn sortSetD (mLcG [8] (mIList (mVar 5)) (fun d δ => some (δ.set 8 d)) (mTest (mOpW (inD true) (mVar 8) 3)) (mVar 8)))) (mSeq (mSet 4 (mOp gtI (mCB lenD (mCons (mVar 6) mNil)) (mC (.int 0)))) (mExtend 3 (mVar 6))))))) (mRet 0 (mVar 3)))))
def mm_reached : List D → Option (D × List D) := mFn 9 m_reached
theorem sc_reached : FnScope ["net", "lot", "places", "found", "is_longer", "ends", "more", "link", "place"] ["net", "lot", "places"] (L2.defScope (top 24)) := ⟨rfl, rfl, rfl, by decide +kernel, rfl, by decide +kernel, by decide +kernel⟩
theorem ok_reached (T : Txt K mg) : CalF P w K mg base 1 "reached" (spM (gmOf K) [] [] [.fz, .fz, .fz] .fz (mm_reached)) := by
  obtain ⟨fd, F⟩ := T.f_reached
  refine mkF (N := ["net", "lot", "places", "found", "is_longer", "ends", "more", "link", "place"]) (ps := ["net", "lot", "places"]) [] [] [.fz, .fz, .fz] .fz [.fz, .fz, .fz, .hole, .hole, .hole, .hole, .hole, .hole] F T.g_reached sc_reached (fun _ _ _ _ _ _ us hl => match us, hl with | [_, _, _], _ => rfl) fun cdv A outer s H E hr => ?_
  have nd := sc_reached.nd
  exact ⟨_, [.fz, .fz, .fz, .hole, .hole, .hole, .hole, .hole, .hole], (pss_cons (ps_set (i := 3) nd rfl (by first | exact Or.inl rfl | exact Or.inr rfl) (pe_callTy call_list_of rfl T.n_list boot_list (pa_cons (pv 2) pa_nil))) (pss_cons (ps_set (i := 4) nd rfl (by first | exact Or.inl rfl | exact Or.inr rfl) pe_bl) (pss_cons (ps_while PassesOwn.never (pt_val (pv 4)) (pss_cons (ps_setLc (i := 5) (own := [("link", 7)]) rfl nd rfl rfl (sw_true rfl rfl rfl rfl) (pi_tup (pv 1)) (blkOk_by (by kernel_rfl)) (fun _ _ _ _ _ => (pg_name (i := 7) nd rfl (by first | exact Or.inl rfl | exact Or.inr rfl))) (fun _ _ _ _ _ => pts_one (pt_cmpR op_in_seq (pe_ix ix_seq (pe_ix ix_seq (pe_fld (pv 0) rfl) (pv 7) (fun _ _ => rfl)) pe_int (fun _ _ => rfl)) (pv 3) rfl)) (fun _ _ _ _ _ => (pe_ix ix_seq (pe_ix ix_seq (pe_fld (pv 0) rfl) (pv 7) (fun _ _ => rfl)) pe_int (fun _ _ => rfl)))) (pss_cons (ps_set (i := 6) nd rfl (by first | exact Or.inl rfl | exact Or.inr rfl) (pe_callB (cr_sortedSet rfl) rfl T.n_sorted boot_sorted (pa_cons (pe_callTy (cr_setI rfl) rfl T.n_set boot_set (pa_cons (pe_lc (own := [("place", 8)]) rfl nd (pi_list (pv 5)) (blkOk_by (by kernel_rfl)) (fun _ _ _ _ _ => (pg_name (i := 8) nd rfl (by first | exact Or.inl rfl | exact Or.inr rfl))) (fun _ _ _ _ _ => pts_one (pt_cmpR op_notIn_seq (pv 8) (pv 3) rfl)) (fun _ _ _ _ _ => (pv 8))) pa_nil)) pa_nil))) (pss_cons (ps_set (i := 4) nd rfl (by first | exact Or.inl rfl | exact Or.inr rfl) (pe_cmpR op_gt (pe_callB call_lenA rfl T.n_len boot_len (pa_cons (pv 6) pa_nil)) pe_int (nomark _))) (pss_one (ps_expr (pe_bm PySem.F.plainAttrs_list PySem.F.slot_list_extend PySem.F.type_list_extend mt_extendA (pv 3) (pa_cons (pv 6) pa_nil)))))))) (pss_one (ps_ret (pv 3)))))),
    (RS.seq (ms1 := [.fz, .fz, .fz, .l .fz, .hole, .hole, .hole, .hole, .hole]) (RS.set2 (RE.cb (ON.list) (RA.cons (RE.var rfl) RA.nil))) (RS.seq (ms1 := [.fz, .fz, .fz, .l .fz, .fz, .hole, .hole, .hole, .hole]) (RS.set2 RE.bl) (RS.seq (ms1 := [.fz, .fz, .fz, .l .fz, .fz, .hole, .hole, .hole, .hole]) (RS.while 100 (RT.val (RE.var rfl)) (RS.void2 [5, 6] [.fz, .fz, .fz, .l .fz, .fz, .fz, .fz, .hole, .hole] (RS.seq (ms1 := [.fz, .fz, .fz, .l .fz, .fz, .fz, .hole, .hole, .hole]) (RS.set2 (RE.fzv (RE.lc (vs := [7]) (RI.tup (RE.var rfl)) (RG.name 7) (RT.test (RE.op2w 3 (O2.inn rfl) (RE.op2 (O2.ix rfl) (RE.op2 (O2.ix rfl) (RE.fld ["Net"] (T.fld_Net_links) (RE.var rfl)) (RE.var rfl)) RE.int) rfl rfl)) (RE.op2 (O2.ix rfl) (RE.op2 (O2.ix rfl) (RE.fld ["Net"] (T.fld_Net_links) (RE.var rfl)) (RE.var rfl)) RE.int) (hv := by exact hole_at (by rfl))) rfl)) (RS.seq (ms1 := [.fz, .fz, .fz, .l .fz, .fz, .fz, .fz, .hole, .hole]) (RS.set2 (RE.fzv (RE.sortSet (RE.lc (vs := [8]) (RI.list (RE.var rfl)) (RG.name 8) (RT.test (RE.op2w 3 (O2.inn rfl) (RE.var rfl) rfl rfl)) (RE.var rfl) (hv := by exact hole_at (by rfl)))) rfl)) (RS.seq (ms1 := [.fz, .fz, .fz, .l .fz, .fz, .fz, .fz, .hole, .hole]) (RS.set2 (RE.op2 O2.gt (RE.cb ON.len (RA.cons (RE.var rfl) RA.nil)) RE.int)) (RS.extend 3 (RE.var rfl) rfl rfl)))))) (RS.frz 3 rfl rfl (RS.ret (RE.var rfl))))))⟩
def m_is_wood : MS := (mSeq (mSet 3 (mLcG [5] (mITup (mVar 1)) (fun d δ => some (δ.set 5 d)) mYes (mOp ixD (mOp ixD (mUn (fldD ["Net"] "links") (mVar 0)) (mVar 5)) (mC (.int 1))))) (mSeq (mIfS (mOr (mTest (mOp ltI (mUn lenSetD (mVar 3)) (mCB lenD (mCons (mVar 3) mNil)))) (mTest (mCB anyD (mCons (mLcG [6] (mIList (mVar 2)) (fun d δ => some (δ.set 6 d)) mYes (mOp (inD false) (mVar 6) (mVar 3))) mNil)))) (mRet 0 (mC (.bl false))) mNx) (mSeq (mSet 4 (mCall mm_reached (mCons (mVar 0) (mCons (mVar 1) (mCons (mVar 2) mNil))))) (mRet 0 (mCB allD (mCons (mLcG [6] (mIList (mVar 3)) (fun d δ => some (δ.set 6 d)) mYes (mOp (inD false) (mVar 6) (mVar 4))) mNil))))))
def mm_is_wood : List D → Option (D × List D) := mFn 7 m_is_wood
theorem sc_is_wood : FnScope ["net", "lot", "places", "ends", "heard", "link", "place"] ["net", "lot", "places"] (L2.defScope (top 25)) := ⟨rfl, rfl, rfl, by decide +kernel, rfl, by decide +kernel, by decide +kernel⟩
theorem ok_is_wood (T : Txt K mg) : CalF P w K mg base 2 "is_wood" (spM (gmOf K) [] [] [.fz, .fz, .fz] .fz (mm_is_wood)) := by
  obtain ⟨fd, F⟩ := T.f_is_wood
  refine mkF (N := ["net", "lot", "places", "ends", "heard", "link", "place"]) (ps := ["net", "lot", "places"]) [] [] [.fz, .fz, .fz] .fz [.fz, .fz, .fz, .hole, .hole, .hole, .hole] F T.g_is_wood sc_is_wood (fun _ _ _ _ _ _ us hl => match us, hl with | [_, _, _], _ => rfl) fun cdv A outer s H E hr => ?_
  have nd := sc_is_wood.nd
  exact ⟨_, [.fz, .fz, .fz, .hole, .hole, .hole, .hole], (pss_cons (ps_set (i := 3) nd rfl (by first | exact Or.inl rfl | exact Or.inr rfl) (pe_lc (own := [("link", 5)]) rfl nd (pi_tup (pv 1)) (blkOk_by (by kernel_rfl)) (fun _ _ _ _ _ => (pg_name (i := 5) nd rfl (by first | exact Or.inl rfl | exact Or.inr rfl))) (fun _ _ _ _ _ => pts_nil) (fun _ _ _ _ _ => (pe_ix ix_seq (pe_ix ix_seq (pe_fld (pv 0) rfl) (pv 5) (fun _ _ => rfl)) pe_int (fun _ _ => rfl))))) (pss_cons (ps_if (PW.pt (pw_or (pt_cmpR op_lt (pe_callB cr_lenS rfl T.n_len boot_len (pa_cons (pe_callTy (cr_setI rfl) rfl T.n_set boot_set (pa_cons (pv 3) pa_nil)) pa_nil)) (pe_callB call_lenA rfl T.n_len boot_len (pa_cons (pv 3) pa_nil)) (nomark _)) (pw_or1 (pt_val (pe_callB (cr_any rfl) rfl T.n_any boot_any (pa_cons (pe_lc (own := [("place", 6)]) rfl nd (pi_list (pv 2)) (blkOk_by (by kernel_rfl)) (fun _ _ _ _ _ => (pg_name (i := 6) nd rfl (by first | exact Or.inl rfl | exact Or.inr rfl))) (fun _ _ _ _ _ => pts_nil) (fun _ _ _ _ _ => (pe_cmpR op_in_seq (pv 6) (pv 3) rfl))) pa_nil)))))) (pss_one (ps_ret pe_bl)) pss_nil) (pss_cons (ps_set (i := 4) nd rfl (by first | exact Or.inl rfl | exact Or.inr rfl) (pe_cf (ok_reached T) hr (by decide) rfl (pa_cons (pv 0) (pa_cons (pv 1) (pa_cons (pv 2) pa_nil))))) (pss_one (ps_ret (pe_callB (cr_all rfl) rfl T.n_all boot_all (pa_cons (pe_lc (own := [("place", 6)]) rfl nd (pi_list (pv 3)) (blkOk_by (by kernel_rfl)) (fun _ _ _ _ _ => (pg_name (i := 6) nd rfl (by first | exact Or.inl rfl | exact Or.inr rfl))) (fun _ _ _ _ _ => pts_nil) (fun _ _ _ _ _ => (pe_cmpR op_in_seq (pv 6) (pv 4) rfl))) pa_nil))))))),
    (RS.seq (ms1 := [.fz, .fz, .fz, .fz, .hole, .hole, .hole]) (RS.set2 (RE.fzv (RE.lc (vs := [5]) (RI.tup (RE.var rfl)) (RG.name 5) RT.yes (RE.op2 (O2.ix rfl) (RE.op2 (O2.ix rfl) (RE.fld ["Net"] (T.fld_Net_links) (RE.var rfl)) (RE.var rfl)) RE.int) (hv := by exact hole_at (by rfl))) rfl)) (RS.seq (ms1 := [.fz, .fz, .fz, .fz, .hole, .hole, .hole]) (RS.ifs (RT.or (RT.test (RE.op2 O2.lt (RE.lenSet (RE.var rfl)) (RE.cb ON.len (RA.cons (RE.var rfl) RA.nil)))) (RT.val (RE.cb (ON.any) (RA.cons (RE.lc (vs := [6]) (RI.list (RE.var rfl)) (RG.name 6) RT.yes (RE.op2 (O2.inn rfl) (RE.var rfl) (RE.var rfl)) (hv := by exact hole_at (by rfl))) RA.nil)))) (RS.ret RE.bl) RS.nil) (RS.seq (ms1 := [.fz, .fz, .fz, .fz, .fz, .hole, .hole]) (RS.set2 (RE.call (RA.cons (RE.var rfl) (RA.cons (RE.var rfl) (RA.cons (RE.var rfl) RA.nil))))) (RS.ret (RE.cb (ON.all) (RA.cons (RE.lc (vs := [6]) (RI.list (RE.var rfl)) (RG.name 6) RT.yes (RE.op2 (O2.inn rfl) (RE.var rfl) (RE.var rfl)) (hv := by exact hole_at (by rfl))) RA.nil))))))⟩
def m_is_grown : MS := (mSeq (mDrop (mCall mm_check_net (mCons (mVar 0) mNil))) (mRet 0 (mAndV (mCall mm_is_lot_of (mCons (mVar 0) (mCons (mVar 1) mNil))) (mCall mm_is_wood (mCons (mVar 0) (mCons (mVar 1) (mCons (mLst (mCons (mUn (fldD ["Net"] "root") (mVar 0)) mNil)) mNil)))))))
def mm_is_grown : List D → Option (D × List D) := mFn 2 m_is_grown
theorem sc_is_grown : FnScope ["net", "thing"] ["net", "thing"] (L2.defScope (top 26)) := ⟨rfl, rfl, rfl, by decide +kernel, rfl, by decide +kernel, by decide +kernel⟩
theorem ok_is_grown (T : Txt K mg) : CalF P w K mg base 5 "is_grown" (spM (gmOf K) [] [] [.fz, .fz] .fz (mm_is_grown)) := by
  obtain ⟨fd, F⟩ := T.f_is_grown
  refine mkF (N := ["net", "thing"]) (ps := ["net", "thing"]) [] [] [.fz, .fz] .fz [.fz, .fz] F T.g_is_grown sc_is_grown (fun _ _ _ _ _ _ us hl => match us, hl with | [_, _], _ => rfl) fun cdv A outer s H E hr => ?_
  have nd := sc_is_grown.nd
  exact ⟨_, [.fz, .fz], (pss_cons (ps_expr (pe_cf (ok_check_net T) hr (by decide) rfl (pa_cons (pv 0) pa_nil))) (pss_one (ps_ret (pe_and (pe_cf (ok_is_lot_of T) hr (by decide) rfl (pa_cons (pv 0) (pa_cons (pv 1) pa_nil))) (pe_one (pe_cf (ok_is_wood T) hr (by decide) rfl (pa_cons (pv 0) (pa_cons (pv 1) (pa_cons (pe_lst (pa_cons (pe_fld (pv 0) rfl) pa_nil)) pa_nil))))))))),
    (RS.seq (ms1 := [.fz, .fz]) (RS.expr (RE.call (RA.cons (RE.var rfl) RA.nil))) (RS.ret (RE.andV (RE.call (RA.cons (RE.var rfl) (RA.cons (RE.var rfl) RA.nil))) (RE.call (RA.cons (RE.var rfl) (RA.cons (RE.var rfl) (RA.cons (RE.fzv (RE.lst (m := .fz) (RA.cons (RE.fld ["Net"] (T.fld_Net_root) (RE.var rfl)) RA.nil)) rfl) RA.nil)))))))⟩
def m_is_tree : MS := (mRet 0 (mAndV (mCall mm_is_grown (mCons (mVar 0) (mCons (mVar 1) mNil))) (mOp eqD (mCB lenD (mCons (mVar 1) mNil)) (mOp subI (mUn (fldD ["Net"] "many") (mVar 0)) (mC (.int 1))))))
def mm_is_tree : List D → Option (D × List D) := mFn 2 m_is_tree
theorem sc_is_tree : FnScope ["net", "thing"] ["net", "thing"] (L2.defScope (top 27)) := ⟨rfl, rfl, rfl, by decide +kernel, rfl, by decide +kernel, by decide +kernel⟩
theorem ok_is_tree (T : Txt K mg) : CalF P w K mg base 6 "is_tree" (spM (gmOf K) [] [] [.fz, .fz] .fz (mm_is_tree)) := by
  obtain ⟨fd, F⟩ := T.f_is_tree
  refine mkF (N := ["net", "thing"]) (ps := ["net", "thing"]) [] [] [.fz, .fz] .fz [.fz, .fz] F T.g_is_tree sc_is_tree (fun _ _ _ _ _ _ us hl => match us, hl with | [_, _], _ => rfl) fun cdv A outer s H E hr => ?_
  have nd := sc_is_tree.nd
  exact ⟨_, [.fz, .fz], (pss_one (ps_ret (pe_and (pe_cf (ok_is_grown T) hr (by decide) rfl (pa_cons (pv 0) (pa_cons (pv 1) pa_nil))) (pe_one (pe_cmpR (op_eqD (hu64 hr)) (pe_callB call_lenA rfl T.n_len boot_len (pa_cons (pv 1) pa_nil)) (pe_op op_sub (pe_fld (pv 0) rfl) pe_int) (nomark _)))))),
    (RS.ret (RE.andV (RE.call (RA.cons (RE.var rfl) (RA.cons (RE.var rfl) RA.nil))) (RE.op2 O2.eq (RE.cb ON.len (RA.cons (RE.var rfl) RA.nil)) (RE.op2 O2.sub (RE.fld ["Net"] (T.fld_Net_many) (RE.var rfl)) RE.int))))⟩
def m_are_apart : MS := (mSeq (mSet 1 (mLst mNil)) (mSeq (mFor (mITup (mVar 0)) (fun d δ => some (δ.set 2 d)) (mThenVoid [2] (mExtend 1 (mVar 2)))) (mRet 0 (mOp eqD (mUn lenSetD (mVar 1)) (mCB lenD (mCons (mVar 1) mNil))))))
def mm_are_apart : List D → Option (D × List D) := mFn 3 m_are_apart
theorem sc_are_apart : FnScope ["lots", "items", "lot"] ["lots"] (L2.defScope (top 28)) := ⟨rfl, rfl, rfl, by decide +kernel, rfl, by decide +kernel, by decide +kernel⟩
theorem ok_are_apart (T : Txt K mg) : CalF P w K mg base 1 "are_apart" (spM (gmOf K) [] [] [.fz] .fz (mm_are_apart)) := by
  obtain ⟨fd, F⟩ := T.f_are_apart
  refine mkF (N := ["lots", "items", "lot"]) (ps := ["lots"]) [] [] [.fz] .fz [.fz, .hole, .hole] F T.g_are_apart sc_are_apart (fun _ _ _ _ _ _ us hl => match us, hl with | [_], _ => rfl) fun cdv A outer s H E hr => ?_
  have nd := sc_are_apart.nd
  exact ⟨_, [.fz, .hole, .hole], (pss_cons (ps_set (i := 1) nd rfl (by first | exact Or.inl rfl | exact Or.inr rfl) (pe_lst pa_nil)) (pss_cons (ps_for PassesOwn.never rfl (pi_tup (pv 0)) (pg_name (i := 2) nd rfl (by first | exact Or.inl rfl | exact Or.inr rfl)) (pss_one (ps_expr (pe_bm PySem.F.plainAttrs_list PySem.F.slot_list_extend PySem.F.type_list_extend mt_extendA (pv 1) (pa_cons (pv 2) pa_nil))))) (pss_one (ps_ret (pe_cmpR (op_eqD (hu64 hr)) (pe_callB cr_lenS rfl T.n_len boot_len (pa_cons (pe_callTy (cr_setI rfl) rfl T.n_set boot_set (pa_cons (pv 1) pa_nil)) pa_nil)) (pe_callB call_lenA rfl T.n_len boot_len (pa_cons (pv 1) pa_nil)) (nomark _)))))),
    (RS.seq (ms1 := [.fz, .l .fz, .hole]) (RS.set2 (RE.lst (m := .fz) RA.nil)) (RS.seq (ms1 := [.fz, .l .fz, .hole]) (RS.for (RI.tup (RE.var rfl)) (RG.name 2) (RS.void2 [2] [.fz, .l .fz, .fz] (RS.extend 1 (RE.var rfl) rfl rfl))) (RS.frz 1 rfl rfl (RS.ret (RE.op2 O2.eq (RE.lenSet (RE.var rfl)) (RE.cb ON.len (RA.cons (RE.var rfl) RA.nil)))))))⟩
def m_is_packing : MS := (mSeq (mDrop (mCall mm_check_net (mCons (mVar 0) mNil))) (mSeq (mIfS (mOr (mNot (mTest (mCB (isiD ["Net", "Plan"]) (mCons (mVar 1) (mCons (mC (.ty "tuple")) mNil))))) (mNot (mTest (mCB allD (mCons (mLcG [2] (mITup (mVar 1)) (fun d δ => some (δ.set 2 d)) mYes (mCall mm_is_tree (mCons (mVar 0) (mCons (mVar 2) mNil)))) mNil))))) (mRet 0 (mC (.bl false))) mNx) (mRet 0 (mCall mm_are_apart (mCons (mVar 1) mNil)))))
def mm_is_packing : List D → Option (D × List D) := mFn 3 m_is_packing
theorem sc_is_packing : FnScope ["net", "thing", "tree"] ["net", "thing"] (L2.defScope (top 29)) := ⟨rfl, rfl, rfl, by decide +kernel, rfl, by decide +kernel, by decide +kernel⟩
theorem ok_is_packing (T : Txt K mg) : CalF P w K mg base 7 "is_packing" (spM (gmOf K) [] [] [.fz, .fz] .fz (mm_is_packing)) := by
  obtain ⟨fd, F⟩ := T.f_is_packing
  refine mkF (N := ["net", "thing", "tree"]) (ps := ["net", "thing"]) [] [] [.fz, .fz] .fz [.fz, .fz, .hole] F T.g_is_packing sc_is_packing (fun _ _ _ _ _ _ us hl => match us, hl with | [_, _], _ => rfl) fun cdv A outer s H E hr => ?_
  have nd := sc_is_packing.nd
  exact ⟨_, [.fz, .fz, .hole], (pss_cons (ps_expr (pe_cf (ok_check_net T) hr (by decide) rfl (pa_cons (pv 0) pa_nil))) (pss_cons (ps_if (PW.pt (pw_or (pt_not (pt_val (pe_callB call_isi rfl T.n_isinstance boot_isinstance (pa_cons (pv 1) (pa_cons (pe_bltn (v := .ty "tuple") rfl T.n_tuple boot_tuple rfl) pa_nil))))) (pw_or1 (pt_not (pt_val (pe_callB (cr_all rfl) rfl T.n_all boot_all (pa_cons (pe_lc (own := [("tree", 2)]) rfl nd (pi_tup (pv 1)) (blkOk_by (by kernel_rfl)) (fun _ _ _ _ _ => (pg_name (i := 2) nd rfl (by first | exact Or.inl rfl | exact Or.inr rfl))) (fun _ _ _ _ _ => pts_nil) (fun _ _ _ _ _ => (pe_cf (ok_is_tree T) hr (by decide) rfl (pa_cons (pv 0) (pa_cons (pv 2) pa_nil))))) pa_nil))))))) (pss_one (ps_ret pe_bl)) pss_nil) (pss_one (ps_ret (pe_cf (ok_are_apart T) hr (by decide) rfl (pa_cons (pv 1) pa_nil)))))),
    (RS.seq (ms1 := [.fz, .fz, .hole]) (RS.expr (RE.call (RA.cons (RE.var rfl) RA.nil))) (RS.seq (ms1 := [.fz, .fz, .hole]) (RS.ifs (RT.or (RT.not (RT.val (RE.cb (ON.isi T.isok) (RA.cons (RE.var rfl) (RA.cons RE.ty RA.nil))))) (RT.not (RT.val (RE.cb (ON.all) (RA.cons (RE.lc (vs := [2]) (RI.tup (RE.var rfl)) (RG.name 2) RT.yes (RE.call (RA.cons (RE.var rfl) (RA.cons (RE.var rfl) RA.nil))) (hv := by exact hole_at (by rfl))) RA.nil))))) (RS.ret RE.bl) RS.nil) (RS.ret (RE.call (RA.cons (RE.var rfl) RA.nil)))))⟩
def m_check_tree : MS := (mSeq (mDrop (mCall mm_check_net (mCons (mVar 0) mNil))) (mIfS (mNot (mTest (mCall mm_is_tree (mCons (mVar 0) (mCons (mVar 1) mNil))))) mNo mNx))
def mm_check_tree : List D → Option (D × List D) := mFnN 2 0 m_check_tree
theorem sc_check_tree : FnScope ["net", "tree"] ["net", "tree"] (L2.defScope (top 31)) := ⟨rfl, rfl, rfl, by decide +kernel, rfl, by decide +kernel, by decide +kernel⟩
theorem ok_check_tree (T : Txt K mg) : CalF P w K mg base 7 "check_tree" (spM (gmOf K) [] [] [.fz, .fz] .fz (mm_check_tree)) := by
  obtain ⟨fd, F⟩ := T.f_check_tree
  refine mkN (N := ["net", "tree"]) (ps := ["net", "tree"]) [] [] [.fz, .fz] [.fz, .fz] [.fz, .fz] F T.g_check_tree sc_check_tree (fun _ _ _ _ _ _ us hl => match us, hl with | [_, _], _ => rfl) fun cdv A outer s H E hr => ?_
  have nd := sc_check_tree.nd
  exact ⟨_, (pss_cons (ps_expr (pe_cf (ok_check_net T) hr (by decide) rfl (pa_cons (pv 0) pa_nil))) (pss_one (ps_if (pt_not (pt_val (pe_cf (ok_is_tree T) hr (by decide) rfl (pa_cons (pv 0) (pa_cons (pv 1) pa_nil))))) (pss_one ps_never) pss_nil))),
    (RS.seq (ms1 := [.fz, .fz]) (RS.expr (RE.call (RA.cons (RE.var rfl) RA.nil))) (RS.ifs (RT.not (RT.val (RE.call (RA.cons (RE.var rfl) (RA.cons (RE.var rfl) RA.nil))))) RS.never RS.nil))⟩
def m_links_to : MS := (mSeq (mSet 3 (mTup mNil)) (mSeq (whileN 100 (mTest (mOp neD (mVar 2) (mUn (fldD ["Net"] "root") (mVar 0)))) (mThenVoid [4] (mSeq (mSet 4 (mOp ixD (mLcG [5] (mITup (mVar 1)) (fun d δ => some (δ.set 5 d)) (mTest (mOp eqD (mOp ixD (mOp ixD (mUn (fldD ["Net"] "links") (mVar 0)) (mVar 5)) (mC (.int 1))) (mVar 2))) (mVar 5)) (mC (.int 0)))) (mSeq (mSet 3 (mOp catT (mTup (mCons (mVar 4) mNil)) (mVar 3))) (mSet 2 (mOp ixD (mOp ixD (mUn (fldD ["Net"] "links") (mVar 0)) (mVar 4)) (mC (.int 0)))))))) (mRet 0 (mVar 3))))
def mm_links_to : List D → Option (D × List D) := mFn 6 m_links_to
theorem sc_links_to : FnScope ["net", "tree", "place", "found", "link", "one"] ["net", "tree", "place"] (L2.defScope (top 32)) := ⟨rfl, rfl, rfl, by decide +kernel, rfl, by decide +kernel, by decide +kernel⟩
theorem ok_links_to (T : Txt K mg) : CalF P w K mg base 1 "links_to" (spM (gmOf K) [] [] [.fz, .fz, .fz] .fz (mm_links_to)) := by
  obtain ⟨fd, F⟩ := T.f_links_to
  refine mkF (N := ["net", "tree", "place", "found", "link", "one"]) (ps := ["net", "tree", "place"]) [] [] [.fz, .fz, .fz] .fz [.fz, .fz, .fz, .hole, .hole, .hole] F T.g_links_to sc_links_to (fun _ _ _ _ _ _ us hl => match us, hl with | [_, _, _], _ => rfl) fun cdv A outer s H E hr => ?_
  have nd := sc_links_to.nd
  exact ⟨_, [.fz, .fz, .fz, .hole, .hole, .hole], (pss_cons (ps_set (i := 3) nd rfl (by first | exact Or.inl rfl | exact Or.inr rfl) (pe_tup pa_nil)) (pss_cons (ps_while PassesOwn.never (pt_cmpR (op_neD (hu64 hr)) (pv 2) (pe_fld (pv 0) rfl) (nomark _)) (pss_cons (ps_set (i := 4) nd rfl (by first | exact Or.inl rfl | exact Or.inr rfl) (pe_ix ix_seq (pe_lc (own := [("one", 5)]) rfl nd (pi_tup (pv 1)) (blkOk_by (by kernel_rfl)) (fun _ _ _ _ _ => (pg_name (i := 5) nd rfl (by first | exact Or.inl rfl | exact Or.inr rfl))) (fun _ _ _ _ _ => pts_one (pt_cmpR (op_eqD (hu64 hr)) (pe_ix ix_seq (pe_ix ix_seq (pe_fld (pv 0) rfl) (pv 5) (fun _ _ => rfl)) pe_int (fun _ _ => rfl)) (pv 2) (nomark _))) (fun _ _ _ _ _ => (pv 5))) pe_int (fun _ _ => rfl))) (pss_cons (ps_set (i := 3) nd rfl (by first | exact Or.inl rfl | exact Or.inr rfl) (pe_op op_catA (pe_tup (pa_cons (pv 4) pa_nil)) (pv 3))) (pss_one (ps_set (i := 2) nd rfl (by first | exact Or.inl rfl | exact Or.inr rfl) (pe_ix ix_seq (pe_ix ix_seq (pe_fld (pv 0) rfl) (pv 4) (fun _ _ => rfl)) pe_int (fun _ _ => rfl))))))) (pss_one (ps_ret (pv 3))))),
    (RS.seq (ms1 := [.fz, .fz, .fz, .fz, .hole, .hole]) (RS.set2 (RE.tup RA.nil)) (RS.seq (ms1 := [.fz, .fz, .fz, .fz, .hole, .hole]) (RS.while 100 (RT.test (RE.op2 O2.ne (RE.var rfl) (RE.fld ["Net"] (T.fld_Net_root) (RE.var rfl)))) (RS.void2 [4] [.fz, .fz, .fz, .fz, .fz, .hole] (RS.seq (ms1 := [.fz, .fz, .fz, .fz, .fz, .hole]) (RS.set2 (RE.op2 (O2.ix rfl) (RE.lc (vs := [5]) (RI.tup (RE.var rfl)) (RG.name 5) (RT.test (RE.op2 O2.eq (RE.op2 (O2.ix rfl) (RE.op2 (O2.ix rfl) (RE.fld ["Net"] (T.fld_Net_links) (RE.var rfl)) (RE.var rfl)) RE.int) (RE.var rfl))) (RE.var rfl) (hv := by exact hole_at (by rfl))) RE.int)) (RS.seq (ms1 := [.fz, .fz, .fz, .fz, .fz, .hole]) (RS.set2 (RE.op2 O2.catT (RE.tup (RA.cons (RE.var rfl) RA.nil)) (RE.var rfl))) (RS.set2 (RE.op2 (O2.ix rfl) (RE.op2 (O2.ix rfl) (RE.fld ["Net"] (T.fld_Net_links) (RE.var rfl)) (RE.var rfl)) RE.int)))))) (RS.ret (RE.var rfl))))⟩
def m_depths : MS := (mSeq (mDrop (mCall mm_check_tree (mCons (mVar 0) (mCons (mVar 1) mNil)))) (mRet 0 (mCB tupOfD (mCons (mLcG [2] (mRng1 (mCons (mUn (fldD ["Net"] "many") (mVar 0)) mNil)) (fun d δ => some (δ.set 2 d)) mYes (mCB lenD (mCons (mCall mm_links_to (mCons (mVar 0) (mCons (mVar 1) (mCons (mVar 2) mNil)))) mNil))) mNil))))
def mm_depths : List D → Option (D × List D) := mFn 3 m_depths
theorem sc_depths : FnScope ["net", "tree", "place"] ["net", "tree"] (L2.defScope (top 33)) := ⟨rfl, rfl, rfl, by decide +kernel, rfl, by decide +kernel, by decide +kernel⟩
theorem ok_depths (T : Txt K mg) : CalF P w K mg base 8 "depths" (spM (gmOf K) [] [] [.fz, .fz] .fz (mm_depths)) := by
  obtain ⟨fd, F⟩ := T.f_depths
  refine mkF (N := ["net", "tree", "place"]) (ps := ["net", "tree"]) [] [] [.fz, .fz] .fz [.fz, .fz, .hole] F T.g_depths sc_depths (fun _ _ _ _ _ _ us hl => match us, hl with | [_, _], _ => rfl) fun cdv A outer s H E hr => ?_
  have nd := sc_depths.nd
  exact ⟨_, [.fz, .fz, .hole], (pss_cons (ps_expr (pe_cf (ok_check_tree T) hr (by decide) rfl (pa_cons (pv 0) (pa_cons (pv 1) pa_nil)))) (pss_one (ps_ret (pe_callTy call_tuple_of rfl T.n_tuple boot_tuple (pa_cons (pe_lc (own := [("place", 2)]) rfl nd (pi_range1 rfl T.n_range (pa_cons (pe_fld (pv 0) rfl) pa_nil)) (blkOk_by (by kernel_rfl)) (fun _ _ _ _ _ => (pg_name (i := 2) nd rfl (by first | exact Or.inl rfl | exact Or.inr rfl))) (fun _ _ _ _ _ => pts_nil) (fun _ _ _ _ _ => (pe_callB call_lenA rfl T.n_len boot_len (pa_cons (pe_cf (ok_links_to T) hr (by decide) rfl (pa_cons (pv 0) (pa_cons (pv 1) (pa_cons (pv 2) pa_nil)))) pa_nil)))) pa_nil))))),
    (RS.seq (ms1 := [.fz, .fz, .hole]) (RS.expr (RE.call (RA.cons (RE.var rfl) (RA.cons (RE.var rfl) RA.nil)))) (RS.ret (RE.cb (ON.tuple) (RA.cons (RE.lc (vs := [2]) (RI.range1 (RA.cons (RE.fld ["Net"] (T.fld_Net_many) (RE.var rfl)) RA.nil)) (RG.name 2) RT.yes (RE.cb ON.len (RA.cons (RE.call (RA.cons (RE.var rfl) (RA.cons (RE.var rfl) (RA.cons (RE.var rfl) RA.nil)))) RA.nil)) (hv := by exact hole_at (by rfl))) RA.nil))))⟩
def m_way_in : MS := (mSeq (mDrop (mCall mm_check_tree (mCons (mVar 0) (mCons (mVar 1) mNil)))) (mSeq (mIfS (mNot (mTest (mCall mm_is_within (mCons (mVar 2) (mCons (mC (.int 0)) (mCons (mOp subI (mUn (fldD ["Net"] "many") (mVar 0)) (mC (.int 1))) mNil)))))) mNo mNx) (mRet 0 (mCall mm_links_to (mCons (mVar 0) (mCons (mVar 1) (mCons (mVar 2) mNil)))))))
def mm_way_in : List D → Option (D × List D) := mFn 3 m_way_in
theorem sc_way_in : FnScope ["net", "tree", "place"] ["net", "tree", "place"] (L2.defScope (top 34)) := ⟨rfl, rfl, rfl, by decide +kernel, rfl, by decide +kernel, by decide +kernel⟩
theorem ok_way_in (T : Txt K mg) : CalF P w K mg base 8 "way_in" (spM (gmOf K) [] [] [.fz, .fz, .fz] .fz (mm_way_in)) := by
  obtain ⟨fd, F⟩ := T.f_way_in
  refine mkF (N := ["net", "tree", "place"]) (ps := ["net", "tree", "place"]) [] [] [.fz, .fz, .fz] .fz [.fz, .fz, .fz] F T.g_way_in sc_way_in (fun _ _ _ _ _ _ us hl => match us, hl with | [_, _, _], _ => rfl) fun cdv A outer s H E hr => ?_
  have nd := sc_way_in.nd
  exact ⟨_, [.fz, .fz, .fz], (pss_cons (ps_expr (pe_cf (ok_check_tree T) hr (by decide) rfl (pa_cons (pv 0) (pa_cons (pv 1) pa_nil)))) (pss_cons (ps_if (pt_not (pt_val (pe_cf (ok_is_within T) hr (by decide) rfl (pa_cons (pv 2) (pa_cons pe_int (pa_cons (pe_op op_sub (pe_fld (pv 0) rfl) pe_int) pa_nil)))))) (pss_one ps_never) pss_nil) (pss_one (ps_ret (pe_cf (ok_links_to T) hr (by decide) rfl (pa_cons (pv 0) (pa_cons (pv 1) (pa_cons (pv 2) pa_nil)))))))),
    (RS.seq (ms1 := [.fz, .fz, .fz]) (RS.expr (RE.call (RA.cons (RE.var rfl) (RA.cons (RE.var rfl) RA.nil)))) (RS.seq (ms1 := [.fz, .fz, .fz]) (RS.ifs (RT.not (RT.val (RE.call (RA.cons (RE.var rfl) (RA.cons RE.int (RA.cons (RE.op2 O2.sub (RE.fld ["Net"] (T.fld_Net_many) (RE.var rfl)) RE.int) RA.nil)))))) RS.never RS.nil) (RS.ret (RE.call (RA.cons (RE.var rfl) (RA.cons (RE.var rfl) (RA.cons (RE.var rfl) RA.nil)))))))⟩
def m_Plan_init : MS := (mSeq (mDrop (mCall mm_check_net (mCons (mVar 1) mNil))) (mSeq (mIfS (mOr (mNot (mTest (mCall mm_is_packing (mCons (mVar 1) (mCons (mVar 2) mNil))))) (mNot (mTest (mChain leI leI (mC (.int 1)) (mCB lenD (mCons (mVar 2) mNil)) (mC (.int 12)))))) mNo mNx) (mSeq (mIfS (mNot (mTest (mCall mm_is_within (mCons (mVar 3) (mCons (mC (.int 1)) (mCons (mCB min2D (mCons (mC (.int 8)) (mCons (mCB lenD (mCons (mVar 2) mNil)) mNil))) mNil)))))) mNo mNx) (mSeq (mFldNew 0 ["Plan"] "of_net" (mVar 1)) (mSeq (mFldNew 0 ["Plan"] "by_trees" (mVar 2)) (mSeq (mFldNew 0 ["Plan"] "of_size" (mVar 3)) (mFldNew 0 ["Plan"] "kept_depths" (mLcG [4] (mITup (mVar 2)) (fun d δ => some (δ.set 4 d)) mYes (mCall mm_depths (mCons (mVar 1) (mCons (mVar 4) mNil)))))))))))
def mm_Plan_init : List D → Option (D × List D) := mFnN 5 1 m_Plan_init
theorem sc_Plan_init : FnScope ["self", "net", "trees", "size", "tree"] ["self", "net", "trees", "size"] (L2.defScope (L2.inClass (top 38) 0)) := ⟨rfl, rfl, rfl, by decide +kernel, rfl, by decide +kernel, by decide +kernel⟩
theorem ok_Plan_init (T : Txt K mg) : CalM P w K mg base 9 "Plan" (spM (gmOf K) [.o []] [.o [.fz, .fz, .fz, .fz]] [.fz, .fz, .fz] .fz mm_Plan_init) := by
  obtain ⟨fd, F⟩ := T.f_Plan_init
  refine mkM (N := ["self", "net", "trees", "size", "tree"]) (ps := ["self", "net", "trees", "size"]) (.o [.fz, .fz, .fz, .fz]) [.fz, .fz, .fz] [.o [], .fz, .fz, .fz, .hole] [.o [.fz, .fz, .fz, .fz], .fz, .fz, .fz, .hole] F T.mk_Plan T.g_Plan sc_Plan_init (fun _ _ _ _ _ _ us hl => match us, hl with | [_, _, _, _], _ => rfl) fun cdv A outer s H E hr => ?_
  have nd := sc_Plan_init.nd
  exact ⟨_, (pss_cons (ps_expr (pe_cf (ok_check_net T) hr (by decide) rfl (pa_cons (pv 1) pa_nil))) (pss_cons (ps_if (PW.pt (pw_or (pt_not (pt_val (pe_cf (ok_is_packing T) hr (by decide) rfl (pa_cons (pv 1) (pa_cons (pv 2) pa_nil))))) (pw_or1 (pt_not (pt_chain op_le op_le pe_int (pe_callB call_lenA rfl T.n_len boot_len (pa_cons (pv 2) pa_nil)) (pe_gci rfl T.i_MOST_WORDS)))))) (pss_one ps_never) pss_nil) (pss_cons (ps_if (pt_not (pt_val (pe_cf (ok_is_within T) hr (by decide) rfl (pa_cons (pv 3) (pa_cons pe_int (pa_cons (pe_callB (call_min2 rfl) rfl T.n_min boot_min (pa_cons (pe_gci rfl T.i_MOST_SIZE) (pa_cons (pe_callB call_lenA rfl T.n_len boot_len (pa_cons (pv 2) pa_nil)) pa_nil))) pa_nil)))))) (pss_one ps_never) pss_nil) (pss_cons (ps_fld (pv 0) (pv 1) rfl) (pss_cons (ps_fld (pv 0) (pv 2) rfl) (pss_cons (ps_fld (pv 0) (pv 3) rfl) (pss_one (ps_fld (pv 0) (pe_lc (own := [("tree", 4)]) rfl nd (pi_tup (pv 2)) (blkOk_by (by kernel_rfl)) (fun _ _ _ _ _ => (pg_name (i := 4) nd rfl (by first | exact Or.inl rfl | exact Or.inr rfl))) (fun _ _ _ _ _ => pts_nil) (fun _ _ _ _ _ => (pe_cf (ok_depths T) hr (by decide) rfl (pa_cons (pv 1) (pa_cons (pv 4) pa_nil))))) rfl)))))))),
    (RS.seq (ms1 := [.o [], .fz, .fz, .fz, .hole]) (RS.expr (RE.call (RA.cons (RE.var rfl) RA.nil))) (RS.seq (ms1 := [.o [], .fz, .fz, .fz, .hole]) (RS.ifs (RT.or (RT.not (RT.val (RE.call (RA.cons (RE.var rfl) (RA.cons (RE.var rfl) RA.nil))))) (RT.not (RT.test (RE.chain O2.le O2.le RE.int (RE.cb ON.len (RA.cons (RE.var rfl) RA.nil)) RE.int)))) RS.never RS.nil) (RS.seq (ms1 := [.o [], .fz, .fz, .fz, .hole]) (RS.ifs (RT.not (RT.val (RE.call (RA.cons (RE.var rfl) (RA.cons RE.int (RA.cons (RE.cb ON.min2 (RA.cons RE.int (RA.cons (RE.cb ON.len (RA.cons (RE.var rfl) RA.nil)) RA.nil))) RA.nil)))))) RS.never RS.nil) (RS.seq (ms1 := [.o [.fz], .fz, .fz, .fz, .hole]) (RS.fldNew2 0 ["Plan"] T.fld_Plan_of_net (RE.var rfl) rfl) (RS.seq (ms1 := [.o [.fz, .fz], .fz, .fz, .fz, .hole]) (RS.fldNew2 0 ["Plan"] T.fld_Plan_by_trees (RE.var rfl) rfl) (RS.seq (ms1 := [.o [.fz, .fz, .fz], .fz, .fz, .fz, .hole]) (RS.fldNew2 0 ["Plan"] T.fld_Plan_of_size (RE.var rfl) rfl) (RS.fldNew2 0 ["Plan"] T.fld_Plan_kept_depths (RE.fzv (RE.lc (vs := [4]) (RI.tup (RE.var rfl)) (RG.name 4) RT.yes (RE.call (RA.cons (RE.var rfl) (RA.cons (RE.var rfl) RA.nil))) (hv := by exact hole_at (by rfl))) rfl) rfl)))))))⟩
def m_check_plan : MS := (mIfS (mNot (mTest (mCB (isiD ["Net", "Plan"]) (mCons (mVar 0) (mCons (mC (.cls "Plan")) mNil))))) mNo mNx)
def mm_check_plan : List D → Option (D × List D) := mFnN 1 0 m_check_plan
theorem sc_check_plan : FnScope ["thing"] ["thing"] (L2.defScope (top 39)) := ⟨rfl, rfl, rfl, by decide +kernel, rfl, by decide +kernel, by decide +kernel⟩
theorem ok_check_plan (T : Txt K mg) : CalF P w K mg base 1 "check_plan" (spM (gmOf K) [] [] [.fz] .fz (mm_check_plan)) := by
  obtain ⟨fd, F⟩ := T.f_check_plan
  refine mkN (N := ["thing"]) (ps := ["thing"]) [] [] [.fz] [.fz] [.fz] F T.g_check_plan sc_check_plan (fun _ _ _ _ _ _ us hl => match us, hl with | [_], _ => rfl) fun cdv A outer s H E hr => ?_
  have nd := sc_check_plan.nd
  exact ⟨_, (pss_one (ps_if (pt_not (pt_val (pe_callB call_isi rfl T.n_isinstance boot_isinstance (pa_cons (pv 0) (pa_cons (pe_glob (v := .ref (He.ga K "Plan")) rfl T.g_Plan rfl) pa_nil))))) (pss_one ps_never) pss_nil)),
    (RS.ifs (RT.not (RT.val (RE.cb (ON.isi T.isok) (RA.cons (RE.var rfl) (RA.cons (RE.cls (n := "Plan")) RA.nil))))) RS.never RS.nil)⟩
def m_check_lost : MS := (mIfS (mNot (mTest (mCall mm_is_lot (mCons (mVar 1) (mCons (mCB lenD (mCons (mUn (fldD ["Net"] "links") (mVar 0)) mNil)) mNil))))) mNo mNx)
def mm_check_lost : List D → Option (D × List D) := mFnN 2 0 m_check_lost
theorem sc_check_lost : FnScope ["net", "thing"] ["net", "thing"] (L2.defScope (top 41)) := ⟨rfl, rfl, rfl, by decide +kernel, rfl, by decide +kernel, by decide +kernel⟩
theorem ok_check_lost (T : Txt K mg) : CalF P w K mg base 4 "check_lost" (spM (gmOf K) [] [] [.fz, .fz] .fz (mm_check_lost)) := by
  obtain ⟨fd, F⟩ := T.f_check_lost
  refine mkN (N := ["net", "thing"]) (ps := ["net", "thing"]) [] [] [.fz, .fz] [.fz, .fz] [.fz, .fz] F T.g_check_lost sc_check_lost (fun _ _ _ _ _ _ us hl => match us, hl with | [_, _], _ => rfl) fun cdv A outer s H E hr => ?_
  have nd := sc_check_lost.nd
  exact ⟨_, (pss_one (ps_if (pt_not (pt_val (pe_cf (ok_is_lot T) hr (by decide) rfl (pa_cons (pv 1) (pa_cons (pe_callB call_lenA rfl T.n_len boot_len (pa_cons (pe_fld (pv 0) rfl) pa_nil)) pa_nil))))) (pss_one ps_never) pss_nil)),
    (RS.ifs (RT.not (RT.val (RE.call (RA.cons (RE.var rfl) (RA.cons (RE.cb ON.len (RA.cons (RE.fld ["Net"] (T.fld_Net_links) (RE.var rfl)) RA.nil)) RA.nil))))) RS.never RS.nil)⟩
def m_cut_trees : MS := (mSeq (mSet 3 (mLcG [4] (mITup (mUn (fldD ["Plan"] "by_trees") (mVar 0))) (fun d δ => some (δ.set 4 d)) mYes (mCall mm_way_in (mCons (mUn (fldD ["Plan"] "of_net") (mVar 0)) (mCons (mVar 4) (mCons (mVar 1) mNil)))))) (mRet 0 (mCB lenD (mCons (mLcG [5] (mIList (mVar 3)) (fun d δ => some (δ.set 5 d)) (mTest (mCB anyD (mCons (mLcG [6] (mITup (mVar 5)) (fun d δ => some (δ.set 6 d)) mYes (mOp (inD false) (mVar 6) (mVar 2))) mNil))) (mVar 5)) mNil))))
def mm_cut_trees : List D → Option (D × List D) := mFn 7 m_cut_trees
theorem sc_cut_trees : FnScope ["plan", "place", "lost", "ways", "tree", "way", "link"] ["plan", "place", "lost"] (L2.defScope (top 43)) := ⟨rfl, rfl, rfl, by decide +kernel, rfl, by decide +kernel, by decide +kernel⟩
theorem ok_cut_trees (T : Txt K mg) : CalF P w K mg base 9 "cut_trees" (spM (gmOf K) [] [] [.fz, .fz, .fz] .fz (mm_cut_trees)) := by
  obtain ⟨fd, F⟩ := T.f_cut_trees
  refine mkF (N := ["plan", "place", "lost", "ways", "tree", "way", "link"]) (ps := ["plan", "place", "lost"]) [] [] [.fz, .fz, .fz] .fz [.fz, .fz, .fz, .hole, .hole, .hole, .hole] F T.g_cut_trees sc_cut_trees (fun _ _ _ _ _ _ us hl => match us, hl with | [_, _, _], _ => rfl) fun cdv A outer s H E hr => ?_
  have nd := sc_cut_trees.nd
  exact ⟨_, [.fz, .fz, .fz, .hole, .hole, .hole, .hole], (pss_cons (ps_setLc (i := 3) (own := [("tree", 4)]) rfl nd rfl rfl (sw_true rfl rfl rfl rfl) (pi_tup (pe_fld (pv 0) rfl)) (blkOk_by (by kernel_rfl)) (fun _ _ _ _ _ => (pg_name (i := 4) nd rfl (by first | exact Or.inl rfl | exact Or.inr rfl))) (fun _ _ _ _ _ => pts_nil) (fun _ _ _ _ _ => (pe_cf (ok_way_in T) hr (by decide) rfl (pa_cons (pe_fld (pv 0) rfl) (pa_cons (pv 4) (pa_cons (pv 1) pa_nil)))))) (pss_one (ps_ret (pe_callB call_lenA rfl T.n_len boot_len (pa_cons (pe_lc (own := [("way", 5)]) rfl nd (pi_list (pv 3)) (blkOk_by (by kernel_rfl)) (fun _ _ _ _ _ => (pg_name (i := 5) nd rfl (by first | exact Or.inl rfl | exact Or.inr rfl))) (fun _ _ _ _ _ => pts_one (pt_val (pe_callB (cr_any rfl) rfl T.n_any boot_any (pa_cons (pe_lc (own := [("link", 6)]) rfl nd (pi_tup (pv 5)) (blkOk_by (by kernel_rfl)) (fun _ _ _ _ _ => (pg_name (i := 6) nd rfl (by first | exact Or.inl rfl | exact Or.inr rfl))) (fun _ _ _ _ _ => pts_nil) (fun _ _ _ _ _ => (pe_cmpR op_in_seq (pv 6) (pv 2) rfl))) pa_nil)))) (fun _ _ _ _ _ => (pv 5))) pa_nil))))),
    (RS.seq (ms1 := [.fz, .fz, .fz, .fz, .hole, .hole, .hole]) (RS.set2 (RE.fzv (RE.lc (vs := [4]) (RI.tup (RE.fld ["Plan"] (T.fld_Plan_by_trees) (RE.var rfl))) (RG.name 4) RT.yes (RE.call (RA.cons (RE.fld ["Plan"] (T.fld_Plan_of_net) (RE.var rfl)) (RA.cons (RE.var rfl) (RA.cons (RE.var rfl) RA.nil)))) (hv := by exact hole_at (by rfl))) rfl)) (RS.ret (RE.cb ON.len (RA.cons (RE.lc (vs := [5]) (RI.list (RE.var rfl)) (RG.name 5) (RT.val (RE.cb (ON.any) (RA.cons (RE.lc (vs := [6]) (RI.tup (RE.var rfl)) (RG.name 6) RT.yes (RE.op2 (O2.inn rfl) (RE.var rfl) (RE.var rfl)) (hv := by exact hole_at (by rfl))) RA.nil))) (RE.var rfl) (hv := by exact hole_at (by rfl))) RA.nil))))⟩
def m_is_stopped : MS := (mRet 0 (mOp ltI (mOp subI (mCB lenD (mCons (mUn (fldD ["Plan"] "by_trees") (mVar 0)) mNil)) (mCall mm_cut_trees (mCons (mVar 0) (mCons (mVar 1) (mCons (mVar 2) mNil))))) (mUn (fldD ["Plan"] "of_size") (mVar 0))))
def mm_is_stopped : List D → Option (D × List D) := mFn 3 m_is_stopped
theorem sc_is_stopped : FnScope ["plan", "place", "lost"] ["plan", "place", "lost"] (L2.defScope (top 44)) := ⟨rfl, rfl, rfl, by decide +kernel, rfl, by decide +kernel, by decide +kernel⟩
theorem ok_is_stopped (T : Txt K mg) : CalF P w K mg base 10 "is_stopped" (spM (gmOf K) [] [] [.fz, .fz, .fz] .fz (mm_is_stopped)) := by
  obtain ⟨fd, F⟩ := T.f_is_stopped
  refine mkF (N := ["plan", "place", "lost"]) (ps := ["plan", "place", "lost"]) [] [] [.fz, .fz, .fz] .fz [.fz, .fz, .fz] F T.g_is_stopped sc_is_stopped (fun _ _ _ _ _ _ us hl => match us, hl with | [_, _, _], _ => rfl) fun cdv A outer s H E hr => ?_
  have nd := sc_is_stopped.nd
  exact ⟨_, [.fz, .fz, .fz], (pss_one (ps_ret (pe_cmpR op_lt (pe_op op_sub (pe_callB call_lenA rfl T.n_len boot_len (pa_cons (pe_fld (pv 0) rfl) pa_nil)) (pe_cf (ok_cut_trees T) hr (by decide) rfl (pa_cons (pv 0) (pa_cons (pv 1) (pa_cons (pv 2) pa_nil))))) (pe_fld (pv 0) rfl) (nomark _)))),
    (RS.ret (RE.op2 O2.lt (RE.op2 O2.sub (RE.cb ON.len (RA.cons (RE.fld ["Plan"] (T.fld_Plan_by_trees) (RE.var rfl)) RA.nil)) (RE.call (RA.cons (RE.var rfl) (RA.cons (RE.var rfl) (RA.cons (RE.var rfl) RA.nil))))) (RE.fld ["Plan"] (T.fld_Plan_of_size) (RE.var rfl))))⟩
def m_stopped : MS := (mSeq (mDrop (mCall mm_check_plan (mCons (mVar 0) mNil))) (mSeq (mDrop (mCall mm_check_lost (mCons (mUn (fldD ["Plan"] "of_net") (mVar 0)) (mCons (mVar 1) mNil)))) (mRet 0 (mCB tupOfD (mCons (mLcG [2] (mRng1 (mCons (mUn (fldD ["Net"] "many") (mUn (fldD ["Plan"] "of_net") (mVar 0))) mNil)) (fun d δ => some (δ.set 2 d)) (mTest (mCall mm_is_stopped (mCons (mVar 0) (mCons (mVar 2) (mCons (mVar 1) mNil))))) (mVar 2)) mNil)))))
def mm_stopped : List D → Option (D × List D) := mFn 3 m_stopped
theorem sc_stopped : FnScope ["plan", "lost", "place"] ["plan", "lost"] (L2.defScope (top 45)) := ⟨rfl, rfl, rfl, by decide +kernel, rfl, by decide +kernel, by decide +kernel⟩
theorem ok_stopped (T : Txt K mg) : CalF P w K mg base 11 "stopped" (spM (gmOf K) [] [] [.fz, .fz] .fz (mm_stopped)) := by
  obtain ⟨fd, F⟩ := T.f_stopped
  refine mkF (N := ["plan", "lost", "place"]) (ps := ["plan", "lost"]) [] [] [.fz, .fz] .fz [.fz, .fz, .hole] F T.g_stopped sc_stopped (fun _ _ _ _ _ _ us hl => match us, hl with | [_, _], _ => rfl) fun cdv A outer s H E hr => ?_
  have nd := sc_stopped.nd
  exact ⟨_, [.fz, .fz, .hole], (pss_cons (ps_expr (pe_cf (ok_check_plan T) hr (by decide) rfl (pa_cons (pv 0) pa_nil))) (pss_cons (ps_expr (pe_cf (ok_check_lost T) hr (by decide) rfl (pa_cons (pe_fld (pv 0) rfl) (pa_cons (pv 1) pa_nil)))) (pss_one (ps_ret (pe_callTy call_tuple_of rfl T.n_tuple boot_tuple (pa_cons (pe_lc (own := [("place", 2)]) rfl nd (pi_range1 rfl T.n_range (pa_cons (pe_fld (pe_fld (pv 0) rfl) rfl) pa_nil)) (blkOk_by (by kernel_rfl)) (fun _ _ _ _ _ => (pg_name (i := 2) nd rfl (by first | exact Or.inl rfl | exact Or.inr rfl))) (fun _ _ _ _ _ => pts_one (pt_val (pe_cf (ok_is_stopped T) hr (by decide) rfl (pa_cons (pv 0) (pa_cons (pv 2) (pa_cons (pv 1) pa_nil)))))) (fun _ _ _ _ _ => (pv 2))) pa_nil)))))),
    (RS.seq (ms1 := [.fz, .fz, .hole]) (RS.expr (RE.call (RA.cons (RE.var rfl) RA.nil))) (RS.seq (ms1 := [.fz, .fz, .hole]) (RS.expr (RE.call (RA.cons (RE.fld ["Plan"] (T.fld_Plan_of_net) (RE.var rfl)) (RA.cons (RE.var rfl) RA.nil)))) (RS.ret (RE.cb (ON.tuple) (RA.cons (RE.lc (vs := [2]) (RI.range1 (RA.cons (RE.fld ["Net"] (T.fld_Net_many) (RE.fld ["Plan"] (T.fld_Plan_of_net) (RE.var rfl))) RA.nil)) (RG.name 2) (RT.val (RE.call (RA.cons (RE.var rfl) (RA.cons (RE.var rfl) (RA.cons (RE.var rfl) RA.nil))))) (RE.var rfl) (hv := by exact hole_at (by rfl))) RA.nil)))))⟩
def m__law_mixed : MS := (mSeq (mSet 2 (mOp modI (mOp mulI (mOp addI (mOp addI (mOp modI (mCB intD (mCons (mVar 0) mNil)) (mC (.int 2147483647))) (mOp mulI (mC (.int 7919)) (mVar 1))) (mC (.int 1))) (mC (.int 48271))) (mC (.int 2147483647)))) (mSeq (mSet 2 (mOp modI (mOp mulI (mVar 2) (mOp addI (mOp divI (mVar 2) (mC (.int 1009))) (mC (.int 69621)))) (mC (.int 2147483647)))) (mRet 0 (mOp divI (mOp modI (mOp mulI (mVar 2) (mOp addI (mOp divI (mVar 2) (mC (.int 2003))) (mC (.int 40692)))) (mC (.int 2147483399))) (mC (.int 16))))))
def mm__law_mixed : List D → Option (D × List D) := mFn 3 m__law_mixed
theorem sc__law_mixed : FnScope ["_law_cell", "_law_turn", "_law_number"] ["_law_cell", "_law_turn"] (L2.defScope (top 47)) := ⟨rfl, rfl, rfl, by decide +kernel, rfl, by decide +kernel, by decide +kernel⟩
theorem ok__law_mixed (T : Txt K mg) : CalF P w K mg base 1 "_law_mixed" (spM (gmOf K) [] [] [.fz, .fz] .fz (mm__law_mixed)) := by
  obtain ⟨fd, F⟩ := T.f__law_mixed
  refine mkF (N := ["_law_cell", "_law_turn", "_law_number"]) (ps := ["_law_cell", "_law_turn"]) [] [] [.fz, .fz] .fz [.fz, .fz, .hole] F T.g__law_mixed sc__law_mixed (fun _ _ _ _ _ _ us hl => match us, hl with | [_, _], _ => rfl) fun cdv A outer s H E hr => ?_
  have nd := sc__law_mixed.nd
  exact ⟨_, [.fz, .fz, .hole], (pss_cons (ps_set (i := 2) nd rfl (by first | exact Or.inl rfl | exact Or.inr rfl) (pe_op op_mod (pe_op op_mul (pe_op op_add (pe_op op_add (pe_op op_mod (pe_callTy call_int1 rfl T.n_int boot_int (pa_cons (pv 0) pa_nil)) pe_int) (pe_op op_mul pe_int (pv 1))) pe_int) pe_int) pe_int)) (pss_cons (ps_set (i := 2) nd rfl (by first | exact Or.inl rfl | exact Or.inr rfl) (pe_op op_mod (pe_op op_mul (pv 2) (pe_op op_add (pe_op op_fdiv (pv 2) pe_int) pe_int)) pe_int)) (pss_one (ps_ret (pe_op op_fdiv (pe_op op_mod (pe_op op_mul (pv 2) (pe_op op_add (pe_op op_fdiv (pv 2) pe_int) pe_int)) pe_int) pe_int))))),
    (RS.seq (ms1 := [.fz, .fz, .fz]) (RS.set2 (RE.op2 O2.mod (RE.op2 O2.mul (RE.op2 O2.add (RE.op2 O2.add (RE.op2 O2.mod (RE.cb ON.int (RA.cons (RE.var rfl) RA.nil)) RE.int) (RE.op2 O2.mul RE.int (RE.var rfl))) RE.int) RE.int) RE.int)) (RS.seq (ms1 := [.fz, .fz, .fz]) (RS.set2 (RE.op2 O2.mod (RE.op2 O2.mul (RE.var rfl) (RE.op2 O2.add (RE.op2 O2.fdiv (RE.var rfl) RE.int) RE.int)) RE.int)) (RS.ret (RE.op2 O2.fdiv (RE.op2 O2.mod (RE.op2 O2.mul (RE.var rfl) (RE.op2 O2.add (RE.op2 O2.fdiv (RE.var rfl) RE.int) RE.int)) RE.int) RE.int))))⟩
def m__law_bag : MS := (mRet 0 (mLst (mCons (mLcG [1] (mIList (mSl slL (mVar 0) mPn (mPs (mC (.int 63))))) (fun d δ => some (δ.set 1 d)) mYes (mCB intD (mCons (mVar 1) mNil))) (mCons (mC (.int 0)) (mCons (mC (.int 0)) (mCons (mC (.int 0)) mNil))))))
def mm__law_bag : List D → Option (D × List D) := mFn 2 m__law_bag
theorem sc__law_bag : FnScope ["_law_script", "_law_cell"] ["_law_script"] (L2.defScope (top 48)) := ⟨rfl, rfl, rfl, by decide +kernel, rfl, by decide +kernel, by decide +kernel⟩
theorem ok__law_bag (T : Txt K mg) : CalF P w K mg base 1 "_law_bag" (spM (gmOf K) [] [] [.fz] (.l .fz) (mm__law_bag)) := by
  obtain ⟨fd, F⟩ := T.f__law_bag
  refine mkF (N := ["_law_script", "_law_cell"]) (ps := ["_law_script"]) [] [] [.fz] (.l .fz) [.fz, .hole] F T.g__law_bag sc__law_bag (fun _ _ _ _ _ _ us hl => match us, hl with | [_], _ => rfl) fun cdv A outer s H E hr => ?_
  have nd := sc__law_bag.nd
  exact ⟨_, [.fz, .hole], (pss_one (ps_ret (pe_lst (pa_cons (pe_lc (own := [("_law_cell", 1)]) rfl nd (pi_list (pe_slice sl_list (pv 0) po_none (po_some pe_int))) (blkOk_by (by kernel_rfl)) (fun _ _ _ _ _ => (pg_name (i := 1) nd rfl (by first | exact Or.inl rfl | exact Or.inr rfl))) (fun _ _ _ _ _ => pts_nil) (fun _ _ _ _ _ => (pe_callTy call_int1 rfl T.n_int boot_int (pa_cons (pv 1) pa_nil)))) (pa_cons pe_int (pa_cons pe_int (pa_cons pe_int pa_nil))))))),
    (RS.ret (RE.lst (m := .fz) (RA.cons (RE.fzv (RE.lc (vs := [1]) (RI.list (RE.sliceL (RE.var rfl) RO.none (RO.some RE.int))) (RG.name 1) RT.yes (RE.cb ON.int (RA.cons (RE.var rfl) RA.nil)) (hv := by exact hole_at (by rfl))) rfl) (RA.cons RE.int (RA.cons RE.int (RA.cons RE.int RA.nil))))))⟩
def m__law_draw : MS := (mSeq (mSetIx 0 (mOp addI (mOpV ixD 0 (mC (.int 3))) (mC (.int 1))) (mC (.int 3))) (mSeq (mIfS (mTest (mOp gtI (mOpV ixD 0 (mC (.int 2))) (mC (.int 0)))) (mSeq (mSet 5 (mOp modI (mCB intD (mCons (mOpV ixD 0 (mC (.int 2))) mNil)) (mVar 1))) (mSeq (mSetIx 0 (mOp divI (mOpV ixD 0 (mC (.int 2))) (mVar 1)) (mC (.int 2))) (mRet 1 (mVar 5)))) mNx) (mSeq (mSet 2 (mOpV ixD 0 (mC (.int 0)))) (mSeq (mIfS (mTest (mOp eqD (mCB lenD (mCons (mVar 2) mNil)) (mC (.int 0)))) (mRet 1 (mOp modI (mCall mm__law_mixed (mCons (mC (.int 0)) (mCons (mOpV ixD 0 (mC (.int 3))) mNil))) (mVar 1))) mNx) (mSeq (mSet 3 (mOpV ixD 0 (mC (.int 1)))) (mSeq (mSetIx 0 (mOp addI (mVar 3) (mC (.int 1))) (mC (.int 1))) (mSeq (mSet 4 (mOp ixD (mVar 2) (mOp modI (mCB intD (mCons (mVar 3) mNil)) (mCB lenD (mCons (mVar 2) mNil))))) (mSeq (mIfS (mAnd (mTest (mOp ltI (mVar 3) (mCB lenD (mCons (mVar 2) mNil)))) (mTest (mOp geI (mCB absD (mCons (mVar 4) mNil)) (mOp powI (mC (.int 10)) (mC (.int 18)))))) (mSeq (mSetIx 0 (mOp divI (mCB absD (mCons (mVar 4) mNil)) (mVar 1)) (mC (.int 2))) (mRet 1 (mOp modI (mCB intD (mCons (mCB absD (mCons (mVar 4) mNil)) mNil)) (mVar 1)))) mNx) (mRet 1 (mOp modI (mCall mm__law_mixed (mCons (mVar 4) (mCons (mOpV ixD 0 (mC (.int 3))) mNil))) (mVar 1)))))))))))
def mm__law_draw : List D → Option (D × List D) := mFn 6 m__law_draw
theorem sc__law_draw : FnScope ["_law_bag_here", "_law_many", "_law_cells", "_law_at", "_law_cell", "_law_found"] ["_law_bag_here", "_law_many"] (L2.defScope (top 49)) := ⟨rfl, rfl, rfl, by decide +kernel, rfl, by decide +kernel, by decide +kernel⟩
theorem ok__law_draw (T : Txt K mg) : CalF P w K mg base 2 "_law_draw" (spM (gmOf K) [.l .fz] [.l .fz] [.fz] .fz (mm__law_draw)) := by
  obtain ⟨fd, F⟩ := T.f__law_draw
  refine mkF (N := ["_law_bag_here", "_law_many", "_law_cells", "_law_at", "_law_cell", "_law_found"]) (ps := ["_law_bag_here", "_law_many"]) [.l .fz] [.l .fz] [.fz] .fz [.l .fz, .fz, .hole, .hole, .hole, .hole] F T.g__law_draw sc__law_draw (fun _ _ _ _ _ _ us hl => match us, hl with | [_, _], _ => rfl) fun cdv A outer s H E hr => ?_
  have nd := sc__law_draw.nd
  exact ⟨_, [.l .fz, .fz, .hole, .hole, .hole, .hole], (pss_cons (ps_asg (pe_op op_add (pe_ix ix_seq (pv 0) pe_int (fun _ _ => rfl)) pe_int) (pg_sub (pv 0) pe_int set_list)) (pss_cons (ps_if (pt_cmpR op_gt (pe_ix ix_seq (pv 0) pe_int (fun _ _ => rfl)) pe_int (nomark _)) (pss_cons (ps_set (i := 5) nd rfl (by first | exact Or.inl rfl | exact Or.inr rfl) (pe_op op_mod (pe_callTy call_int1 rfl T.n_int boot_int (pa_cons (pe_ix ix_seq (pv 0) pe_int (fun _ _ => rfl)) pa_nil)) (pv 1))) (pss_cons (ps_asg (pe_op op_fdiv (pe_ix ix_seq (pv 0) pe_int (fun _ _ => rfl)) (pv 1)) (pg_sub (pv 0) pe_int set_list)) (pss_one (ps_ret (pv 5))))) pss_nil) (pss_cons (ps_set (i := 2) nd rfl (by first | exact Or.inl rfl | exact Or.inr rfl) (pe_ix ix_seq (pv 0) pe_int (fun _ _ => rfl))) (pss_cons (ps_if (pt_cmpR (op_eqD (hu64 hr)) (pe_callB call_lenA rfl T.n_len boot_len (pa_cons (pv 2) pa_nil)) pe_int (nomark _)) (pss_one (ps_ret (pe_op op_mod (pe_cf (ok__law_mixed T) hr (by decide) rfl (pa_cons pe_int (pa_cons (pe_ix ix_seq (pv 0) pe_int (fun _ _ => rfl)) pa_nil))) (pv 1)))) pss_nil) (pss_cons (ps_set (i := 3) nd rfl (by first | exact Or.inl rfl | exact Or.inr rfl) (pe_ix ix_seq (pv 0) pe_int (fun _ _ => rfl))) (pss_cons (ps_asg (pe_op op_add (pv 3) pe_int) (pg_sub (pv 0) pe_int set_list)) (pss_cons (ps_set (i := 4) nd rfl (by first | exact Or.inl rfl | exact Or.inr rfl) (pe_ix ix_seq (pv 2) (pe_op op_mod (pe_callTy call_int1 rfl T.n_int boot_int (pa_cons (pv 3) pa_nil)) (pe_callB call_lenA rfl T.n_len boot_len (pa_cons (pv 2) pa_nil))) (fun _ _ => rfl))) (pss_cons (ps_if (PW.pt (pw_and (pt_cmpR op_lt (pv 3) (pe_callB call_lenA rfl T.n_len boot_len (pa_cons (pv 2) pa_nil)) (nomark _)) (pw_and1 (pt_cmpR op_ge (pe_callB call_abs rfl T.n_abs boot_abs (pa_cons (pv 4) pa_nil)) (pe_op op_pow pe_int pe_int) (nomark _))))) (pss_cons (ps_asg (pe_op op_fdiv (pe_callB call_abs rfl T.n_abs boot_abs (pa_cons (pv 4) pa_nil)) (pv 1)) (pg_sub (pv 0) pe_int set_list)) (pss_one (ps_ret (pe_op op_mod (pe_callTy call_int1 rfl T.n_int boot_int (pa_cons (pe_callB call_abs rfl T.n_abs boot_abs (pa_cons (pv 4) pa_nil)) pa_nil)) (pv 1))))) pss_nil) (pss_one (ps_ret (pe_op op_mod (pe_cf (ok__law_mixed T) hr (by decide) rfl (pa_cons (pv 4) (pa_cons (pe_ix ix_seq (pv 0) pe_int (fun _ _ => rfl)) pa_nil))) (pv 1)))))))))))),
    (RS.seq (ms1 := [.l .fz, .fz, .hole, .hole, .hole, .hole]) (RS.setix 0 (RE.op2 O2.add (RE.op2v 0 (O2.ix rfl) RE.int rfl rfl) RE.int) RE.int rfl rfl) (RS.seq (ms1 := [.l .fz, .fz, .hole, .hole, .hole, .hole]) (RS.ifs (RT.test (RE.op2 O2.gt (RE.op2v 0 (O2.ix rfl) RE.int rfl rfl) RE.int)) (RS.seq (ms1 := [.l .fz, .fz, .hole, .hole, .hole, .fz]) (RS.set2 (RE.op2 O2.mod (RE.cb ON.int (RA.cons (RE.op2v 0 (O2.ix rfl) RE.int rfl rfl) RA.nil)) (RE.var rfl))) (RS.seq (ms1 := [.l .fz, .fz, .hole, .hole, .hole, .fz]) (RS.setix 0 (RE.op2 O2.fdiv (RE.op2v 0 (O2.ix rfl) RE.int rfl rfl) (RE.var rfl)) RE.int rfl rfl) (RS.ret (RE.var rfl)))) RS.nil) (RS.seq (ms1 := [.l .fz, .fz, .fz, .hole, .hole, .hole]) (RS.set2 (RE.op2v 0 (O2.ix rfl) RE.int rfl rfl)) (RS.seq (ms1 := [.l .fz, .fz, .fz, .hole, .hole, .hole]) (RS.ifs (RT.test (RE.op2 O2.eq (RE.cb ON.len (RA.cons (RE.var rfl) RA.nil)) RE.int)) (RS.ret (RE.op2 O2.mod (RE.call (RA.cons RE.int (RA.cons (RE.op2v 0 (O2.ix rfl) RE.int rfl rfl) RA.nil))) (RE.var rfl))) RS.nil) (RS.seq (ms1 := [.l .fz, .fz, .fz, .fz, .hole, .hole]) (RS.set2 (RE.op2v 0 (O2.ix rfl) RE.int rfl rfl)) (RS.seq (ms1 := [.l .fz, .fz, .fz, .fz, .hole, .hole]) (RS.setix 0 (RE.op2 O2.add (RE.var rfl) RE.int) RE.int rfl rfl) (RS.seq (ms1 := [.l .fz, .fz, .fz, .fz, .fz, .hole]) (RS.set2 (RE.op2 (O2.ix rfl) (RE.var rfl) (RE.op2 O2.mod (RE.cb ON.int (RA.cons (RE.var rfl) RA.nil)) (RE.cb ON.len (RA.cons (RE.var rfl) RA.nil))))) (RS.seq (ms1 := [.l .fz, .fz, .fz, .fz, .fz, .hole]) (RS.ifs (RT.and (RT.test (RE.op2 O2.lt (RE.var rfl) (RE.cb ON.len (RA.cons (RE.var rfl) RA.nil)))) (RT.test (RE.op2 O2.ge (RE.cb ON.abs (RA.cons (RE.var rfl) RA.nil)) (RE.op2 O2.pow RE.int RE.int)))) (RS.seq (ms1 := [.l .fz, .fz, .fz, .fz, .fz, .hole]) (RS.setix 0 (RE.op2 O2.fdiv (RE.cb ON.abs (RA.cons (RE.var rfl) RA.nil)) (RE.var rfl)) RE.int rfl rfl) (RS.ret (RE.op2 O2.mod (RE.cb ON.int (RA.cons (RE.cb ON.abs (RA.cons (RE.var rfl) RA.nil)) RA.nil)) (RE.var rfl)))) RS.nil) (RS.ret (RE.op2 O2.mod (RE.call (RA.cons (RE.var rfl) (RA.cons (RE.op2v 0 (O2.ix rfl) RE.int rfl rfl) RA.nil))) (RE.var rfl)))))))))))⟩
def m__law_tree : MS := (mSeq (mSet 4 (mLcG [8] (mRng1 (mCons (mVar 1) mNil)) (fun d δ => some (δ.set 8 d)) (mTest (mOp neD (mVar 8) (mVar 2))) (mVar 8))) (mSeq (mSet 5 (mLst (mCons (mVar 2) mNil))) (mSeq (mSet 6 (mLst mNil)) (mSeq (mFor (mRng1 (mCons (mOp subI (mVar 1) (mC (.int 1))) mNil)) (fun d δ => some (δ.set 7 d)) (mThenVoid [7, 8, 9] (mSeq (mSet 8 (mPopAt 4 (mCall1 0 mm__law_draw (mCons (mCBv lenD 4) mNil)))) (mSeq (mSet 9 (mOpV ixD 5 (mCall1 0 mm__law_draw (mCons (mCBv lenD 5) mNil)))) (mSeq (mIfS (mTest (mOp ltI (mCall1 0 mm__law_draw (mCons (mC (.int 4)) mNil)) (mVar 3))) (mSet 9 (mOpV ixD 5 (mUn negI (mC (.int 1))))) mNx) (mSeq (mAppend 6 (mTup (mCons (mVar 9) (mCons (mVar 8) mNil)))) (mAppend 5 (mVar 8)))))))) (mRet 1 (mVar 6))))))
def mm__law_tree : List D → Option (D × List D) := mFn 10 m__law_tree
theorem sc__law_tree : FnScope ["_law_bag_here", "_law_many", "_law_root", "_law_bend", "_law_left", "_law_there", "_law_found", "_law_k", "_law_place", "_law_begin"] ["_law_bag_here", "_law_many", "_law_root", "_law_bend"] (L2.defScope (top 50)) := ⟨rfl, rfl, rfl, by decide +kernel, rfl, by decide +kernel, by decide +kernel⟩
theorem ok__law_tree (T : Txt K mg) : CalF P w K mg base 3 "_law_tree" (spM (gmOf K) [.l .fz] [.l .fz] [.fz, .fz, .fz] .fz (mm__law_tree)) := by
  obtain ⟨fd, F⟩ := T.f__law_tree
  refine mkF (N := ["_law_bag_here", "_law_many", "_law_root", "_law_bend", "_law_left", "_law_there", "_law_found", "_law_k", "_law_place", "_law_begin"]) (ps := ["_law_bag_here", "_law_many", "_law_root", "_law_bend"]) [.l .fz] [.l .fz] [.fz, .fz, .fz] .fz [.l .fz, .fz, .fz, .fz, .hole, .hole, .hole, .hole, .hole, .hole] F T.g__law_tree sc__law_tree (fun _ _ _ _ _ _ us hl => match us, hl with | [_, _, _, _], _ => rfl) fun cdv A outer s H E hr => ?_
  have nd := sc__law_tree.nd
  exact ⟨_, [.l .fz, .fz, .fz, .fz, .hole, .hole, .hole, .hole, .hole, .hole], (pss_cons (ps_setLc (i := 4) (own := [("_law_place", 8)]) rfl nd rfl rfl (sw_true rfl rfl rfl rfl) (pi_range1 rfl T.n_range (pa_cons (pv 1) pa_nil)) (blkOk_by (by kernel_rfl)) (fun _ _ _ _ _ => (pg_name (i := 8) nd rfl (by first | exact Or.inl rfl | exact Or.inr rfl))) (fun _ _ _ _ _ => pts_one (pt_cmpR (op_neD (hu64 hr)) (pv 8) (pv 2) (nomark _))) (fun _ _ _ _ _ => (pv 8))) (pss_cons (ps_set (i := 5) nd rfl (by first | exact Or.inl rfl | exact Or.inr rfl) (pe_lst (pa_cons (pv 2) pa_nil))) (pss_cons (ps_set (i := 6) nd rfl (by first | exact Or.inl rfl | exact Or.inr rfl) (pe_lst pa_nil)) (pss_cons (ps_for PassesOwn.never rfl (pi_range1 rfl T.n_range (pa_cons (pe_op op_sub (pv 1) pe_int) pa_nil)) (pg_name (i := 7) nd rfl (by first | exact Or.inl rfl | exact Or.inr rfl)) (pss_cons (ps_set (i := 8) nd rfl (by first | exact Or.inl rfl | exact Or.inr rfl) (pe_bm PySem.F.plainAttrs_list PySem.F.slot_list_pop PySem.F.type_list_pop mt_popAt (pv 4) (pa_cons (pe_cf (ok__law_draw T) hr (by decide) rfl (pa_cons (pv 0) (pa_cons (pe_callB call_lenA rfl T.n_len boot_len (pa_cons (pv 4) pa_nil)) pa_nil))) pa_nil))) (pss_cons (ps_set (i := 9) nd rfl (by first | exact Or.inl rfl | exact Or.inr rfl) (pe_ix ix_seq (pv 5) (pe_cf (ok__law_draw T) hr (by decide) rfl (pa_cons (pv 0) (pa_cons (pe_callB call_lenA rfl T.n_len boot_len (pa_cons (pv 5) pa_nil)) pa_nil))) (fun _ _ => rfl))) (pss_cons (ps_if (pt_cmpR op_lt (pe_cf (ok__law_draw T) hr (by decide) rfl (pa_cons (pv 0) (pa_cons pe_int pa_nil))) (pv 3) (nomark _)) (pss_one (ps_set (i := 9) nd rfl (by first | exact Or.inl rfl | exact Or.inr rfl) (pe_ix ix_seq (pv 5) (pe_un un_neg pe_int) (fun _ _ => rfl)))) pss_nil) (pss_cons (ps_expr (pe_bm PySem.F.plainAttrs_list PySem.F.slot_list_append PySem.F.type_list_append mt_append (pv 6) (pa_cons (pe_tup (pa_cons (pv 9) (pa_cons (pv 8) pa_nil))) pa_nil))) (pss_one (ps_expr (pe_bm PySem.F.plainAttrs_list PySem.F.slot_list_append PySem.F.type_list_append mt_append (pv 5) (pa_cons (pv 8) pa_nil))))))))) (pss_one (ps_ret (pv 6))))))),
    (RS.seq (ms1 := [.l .fz, .fz, .fz, .fz, .l .fz, .hole, .hole, .hole, .hole, .hole]) (RS.set2 (RE.lc (vs := [8]) (RI.range1 (RA.cons (RE.var rfl) RA.nil)) (RG.name 8) (RT.test (RE.op2 O2.ne (RE.var rfl) (RE.var rfl))) (RE.var rfl) (hv := by exact hole_at (by rfl)))) (RS.seq (ms1 := [.l .fz, .fz, .fz, .fz, .l .fz, .l .fz, .hole, .hole, .hole, .hole]) (RS.set2 (RE.lst (m := .fz) (RA.cons (RE.var rfl) RA.nil))) (RS.seq (ms1 := [.l .fz, .fz, .fz, .fz, .l .fz, .l .fz, .l .fz, .hole, .hole, .hole]) (RS.set2 (RE.lst (m := .fz) RA.nil)) (RS.seq (ms1 := [.l .fz, .fz, .fz, .fz, .l .fz, .l .fz, .l .fz, .hole, .hole, .hole]) (RS.for (RI.range1 (RA.cons (RE.op2 O2.sub (RE.var rfl) RE.int) RA.nil)) (RG.name 7) (RS.void2 [7, 8, 9] [.l .fz, .fz, .fz, .fz, .l .fz, .l .fz, .l .fz, .fz, .fz, .fz] (RS.seq (ms1 := [.l .fz, .fz, .fz, .fz, .l .fz, .l .fz, .l .fz, .fz, .fz, .hole]) (RS.set2 (RE.popAt 4 (RE.call1 0 (RA.cons (RE.cbv 4 ON.len rfl rfl) RA.nil) rfl) rfl rfl)) (RS.seq (ms1 := [.l .fz, .fz, .fz, .fz, .l .fz, .l .fz, .l .fz, .fz, .fz, .fz]) (RS.set2 (RE.op2v 5 (O2.ix rfl) (RE.call1 0 (RA.cons (RE.cbv 5 ON.len rfl rfl) RA.nil) rfl) rfl rfl)) (RS.seq (ms1 := [.l .fz, .fz, .fz, .fz, .l .fz, .l .fz, .l .fz, .fz, .fz, .fz]) (RS.ifs (RT.test (RE.op2 O2.lt (RE.call1 0 (RA.cons RE.int RA.nil) rfl) (RE.var rfl))) (RS.set2 (RE.op2v 5 (O2.ix rfl) (RE.un O1.neg RE.int) rfl rfl)) RS.nil) (RS.seq (ms1 := [.l .fz, .fz, .fz, .fz, .l .fz, .l .fz, .l .fz, .fz, .fz, .fz]) (RS.append 6 (RE.tup (RA.cons (RE.var rfl) (RA.cons (RE.var rfl) RA.nil))) rfl rfl) (RS.append 5 (RE.var rfl) rfl rfl))))))) (RS.frz 6 rfl rfl (RS.ret (RE.var rfl)))))))⟩
def m__law_plan : MS := (mSeq (mSet 2 (mOp addI (mC (.int 2)) (mCall1 0 mm__law_draw (mCons (mVar 1) mNil)))) (mSeq (mSet 3 (mCall1 0 mm__law_draw (mCons (mVar 2) mNil))) (mSeq (mSet 4 (mCall1 0 mm__law_draw (mCons (mC (.int 5)) mNil))) (mSeq (mSet 5 (mOp addI (mC (.int 1)) (mCall1 0 mm__law_draw (mCons (mCB min3D (mCons (mC (.int 12)) (mCons (mOp divI (mC (.int 40)) (mOp subI (mVar 2) (mC (.int 1)))) (mCons (mOp ixD (mLst (mCons (mC (.int 3)) (mCons (mC (.int 6)) (mCons (mC (.int 12)) mNil)))) (mCall1 0 mm__law_draw (mCons (mC (.int 3)) mNil))) mNil)))) mNil)))) (mSeq (mSet 6 (mLst mNil)) (mSeq (mFor (mRng1 (mCons (mVar 5) mNil)) (fun d δ => some (δ.set 7 d)) (mThenVoid [7] (mExtend 6 (mLcG [13] (mIList (mCall1 0 mm__law_tree (mCons (mVar 2) (mCons (mVar 3) (mCons (mVar 4) mNil))))) (fun d δ => some (δ.set 13 d)) mYes (mTup (mCons (mVar 13) (mCons (mVar 7) mNil))))))) (mSeq (mFor (mRng1 (mCons (mCall1 0 mm__law_draw (mCons (mC (.int 6)) mNil)) mNil)) (fun d δ => some (δ.set 8 d)) (mThenVoid [8, 12] (mSeq (mSet 12 (mCall1 0 mm__law_draw (mCons (mVar 2) mNil))) (mAppend 6 (mTup (mCons (mTup (mCons (mVar 12) (mCons (mOp modI (mCB intD (mCons (mOp addI (mOp addI (mVar 12) (mC (.int 1))) (mCall1 0 mm__law_draw (mCons (mOp subI (mVar 2) (mC (.int 1))) mNil))) mNil)) (mVar 2)) mNil))) (mCons (mVar 5) mNil))))))) (mSeq (mSet 9 (mLst mNil)) (mSeq (mSet 10 (mLcG [7] (mRng1 (mCons (mOp addI (mVar 5) (mC (.int 1))) mNil)) (fun d δ => some (δ.set 7 d)) mYes (mLst mNil))) (mSeq (mFor (mRng1 (mCons (mCBv lenD 6) mNil)) (fun d δ => some (δ.set 8 d)) (mThenVoid [7, 8, 13] (mSeq (mSetG (mgTup 2 (mgCons (fun d δ => some (δ.set 13 d)) (mgCons (fun d δ => some (δ.set 7 d)) mgNil))) (mPopAt 6 (mCall1 0 mm__law_draw (mCons (mCBv lenD 6) mNil)))) (mSeq (mAppendAt 10 (mVar 7) (mCBv lenD 9)) (mAppend 9 (mVar 13)))))) (mSeq (mSet 11 (mOp addI (mC (.int 1)) (mCall1 0 mm__law_draw (mCons (mCB min2D (mCons (mC (.int 8)) (mCons (mVar 5) mNil))) mNil)))) (mRet 1 (mDisp ["many", "root", "links", "trees", "size"] (mCons (mVar 2) (mCons (mVar 3) (mCons (mVar 9) (mCons (mSl slL (mVar 10) mPn (mPs (mVar 5))) (mCons (mVar 11) mNil))))))))))))))))))
def mm__law_plan : List D → Option (D × List D) := mFn 14 m__law_plan
theorem sc__law_plan : FnScope ["_law_bag_here", "_law_most", "_law_many", "_law_root", "_law_bend", "_law_count", "_law_marked", "_law_tree_here", "_law_k", "_law_links", "_law_trees", "_law_size", "_law_one", "_law_pair"] ["_law_bag_here", "_law_most"] (L2.defScope (top 51)) := ⟨rfl, rfl, rfl, by decide +kernel, rfl, by decide +kernel, by decide +kernel⟩
theorem ok__law_plan (T : Txt K mg) : CalF P w K mg base 4 "_law_plan" (spM (gmOf K) [.l .fz] [.l .fz] [.fz] .fz (mm__law_plan)) := by
  obtain ⟨fd, F⟩ := T.f__law_plan
  refine mkF (N := ["_law_bag_here", "_law_most", "_law_many", "_law_root", "_law_bend", "_law_count", "_law_marked", "_law_tree_here", "_law_k", "_law_links", "_law_trees", "_law_size", "_law_one", "_law_pair"]) (ps := ["_law_bag_here", "_law_most"]) [.l .fz] [.l .fz] [.fz] .fz [.l .fz, .fz, .hole, .hole, .hole, .hole, .hole, .hole, .hole, .hole, .hole, .hole, .hole, .hole] F T.g__law_plan sc__law_plan (fun _ _ _ _ _ _ us hl => match us, hl with | [_, _], _ => rfl) fun cdv A outer s H E hr => ?_
  have nd := sc__law_plan.nd
  exact ⟨_, [.l .fz, .fz, .hole, .hole, .hole, .hole, .hole, .hole, .hole, .hole, .hole, .hole, .hole, .hole], (pss_cons (ps_set (i := 2) nd rfl (by first | exact Or.inl rfl | exact Or.inr rfl) (pe_op op_add pe_int (pe_cf (ok__law_draw T) hr (by decide) rfl (pa_cons (pv 0) (pa_cons (pv 1) pa_nil))))) (pss_cons (ps_set (i := 3) nd rfl (by first | exact Or.inl rfl | exact Or.inr rfl) (pe_cf (ok__law_draw T) hr (by decide) rfl (pa_cons (pv 0) (pa_cons (pv 2) pa_nil)))) (pss_cons (ps_set (i := 4) nd rfl (by first | exact Or.inl rfl | exact Or.inr rfl) (pe_cf (ok__law_draw T) hr (by decide) rfl (pa_cons (pv 0) (pa_cons pe_int pa_nil)))) (pss_cons (ps_set (i := 5) nd rfl (by first | exact Or.inl rfl | exact Or.inr rfl) (pe_op op_add pe_int (pe_cf (ok__law_draw T) hr (by decide) rfl (pa_cons (pv 0) (pa_cons (pe_callB (call_min3Nu rfl) rfl T.n_min boot_min (pa_cons pe_int (pa_cons (pe_op op_fdiv pe_int (pe_op op_sub (pv 2) pe_int)) (pa_cons (pe_ix ix_seq (pe_lst (pa_cons pe_int (pa_cons pe_int (pa_cons pe_int pa_nil)))) (pe_cf (ok__law_draw T) hr (by decide) rfl (pa_cons (pv 0) (pa_cons pe_int pa_nil))) (fun _ _ => rfl)) pa_nil)))) pa_nil))))) (pss_cons (ps_set (i := 6) nd rfl (by first | exact Or.inl rfl | exact Or.inr rfl) (pe_lst pa_nil)) (pss_cons (ps_for PassesOwn.never rfl (pi_range1 rfl T.n_range (pa_cons (pv 5) pa_nil)) (pg_name (i := 7) nd rfl (by first | exact Or.inl rfl | exact Or.inr rfl)) (pss_one (ps_expr (pe_bm PySem.F.plainAttrs_list PySem.F.slot_list_extend PySem.F.type_list_extend mt_extendA (pv 6) (pa_cons (pe_lc (own := [("_law_pair", 13)]) rfl nd (pi_list (pe_cf (ok__law_tree T) hr (by decide) rfl (pa_cons (pv 0) (pa_cons (pv 2) (pa_cons (pv 3) (pa_cons (pv 4) pa_nil)))))) (blkOk_by (by kernel_rfl)) (fun _ _ _ _ _ => (pg_name (i := 13) nd rfl (by first | exact Or.inl rfl | exact Or.inr rfl))) (fun _ _ _ _ _ => pts_nil) (fun _ _ _ _ _ => (pe_tup (pa_cons (pv 13) (pa_cons (pv 7) pa_nil))))) pa_nil))))) (pss_cons (ps_for PassesOwn.never rfl (pi_range1 rfl T.n_range (pa_cons (pe_cf (ok__law_draw T) hr (by decide) rfl (pa_cons (pv 0) (pa_cons pe_int pa_nil))) pa_nil)) (pg_name (i := 8) nd rfl (by first | exact Or.inl rfl | exact Or.inr rfl)) (pss_cons (ps_set (i := 12) nd rfl (by first | exact Or.inl rfl | exact Or.inr rfl) (pe_cf (ok__law_draw T) hr (by decide) rfl (pa_cons (pv 0) (pa_cons (pv 2) pa_nil)))) (pss_one (ps_expr (pe_bm PySem.F.plainAttrs_list PySem.F.slot_list_append PySem.F.type_list_append mt_append (pv 6) (pa_cons (pe_tup (pa_cons (pe_tup (pa_cons (pv 12) (pa_cons (pe_op op_mod (pe_callTy call_int1 rfl T.n_int boot_int (pa_cons (pe_op op_add (pe_op op_add (pv 12) pe_int) (pe_cf (ok__law_draw T) hr (by decide) rfl (pa_cons (pv 0) (pa_cons (pe_op op_sub (pv 2) pe_int) pa_nil)))) pa_nil)) (pv 2)) pa_nil))) (pa_cons (pv 5) pa_nil))) pa_nil)))))) (pss_cons (ps_set (i := 9) nd rfl (by first | exact Or.inl rfl | exact Or.inr rfl) (pe_lst pa_nil)) (pss_cons (ps_setLc (i := 10) (own := [("_law_tree_here", 7)]) rfl nd rfl rfl (sw_true rfl rfl rfl rfl) (pi_range1 rfl T.n_range (pa_cons (pe_op op_add (pv 5) pe_int) pa_nil)) (blkOk_by (by kernel_rfl)) (fun _ _ _ _ _ => (pg_name (i := 7) nd rfl (by first | exact Or.inl rfl | exact Or.inr rfl))) (fun _ _ _ _ _ => pts_nil) (fun _ _ _ _ _ => (pe_lst pa_nil))) (pss_cons (ps_for PassesOwn.never rfl (pi_range1 rfl T.n_range (pa_cons (pe_callB call_lenA rfl T.n_len boot_len (pa_cons (pv 6) pa_nil)) pa_nil)) (pg_name (i := 8) nd rfl (by first | exact Or.inl rfl | exact Or.inr rfl)) (pss_cons (ps_asg (pe_bm PySem.F.plainAttrs_list PySem.F.slot_list_pop PySem.F.type_list_pop mt_popAt (pv 6) (pa_cons (pe_cf (ok__law_draw T) hr (by decide) rfl (pa_cons (pv 0) (pa_cons (pe_callB call_lenA rfl T.n_len boot_len (pa_cons (pv 6) pa_nil)) pa_nil))) pa_nil)) (pg_tup (n := 2) rfl (pgs_cons (pg_name (i := 13) nd rfl (by first | exact Or.inl rfl | exact Or.inr rfl)) (pgs_cons (pg_name (i := 7) nd rfl (by first | exact Or.inl rfl | exact Or.inr rfl)) pgs_nil)))) (pss_cons (ps_expr (pe_bm PySem.F.plainAttrs_list PySem.F.slot_list_append PySem.F.type_list_append mt_append (pe_ix ix_seq (pv 10) (pv 7) (fun _ _ => rfl)) (pa_cons (pe_callB call_lenA rfl T.n_len boot_len (pa_cons (pv 9) pa_nil)) pa_nil))) (pss_one (ps_expr (pe_bm PySem.F.plainAttrs_list PySem.F.slot_list_append PySem.F.type_list_append mt_append (pv 9) (pa_cons (pv 13) pa_nil))))))) (pss_cons (ps_set (i := 11) nd rfl (by first | exact Or.inl rfl | exact Or.inr rfl) (pe_op op_add pe_int (pe_cf (ok__law_draw T) hr (by decide) rfl (pa_cons (pv 0) (pa_cons (pe_callB (call_min2 rfl) rfl T.n_min boot_min (pa_cons pe_int (pa_cons (pv 5) pa_nil))) pa_nil))))) (pss_one (ps_ret (pe_disp (pps_cons pe_str (pv 2) (pps_cons pe_str (pv 3) (pps_cons pe_str (pv 9) (pps_cons pe_str (pe_slice sl_list (pv 10) po_none (po_some (pv 5))) (pps_cons pe_str (pv 11) pps_nil))))) rfl rfl (by simp) (by decide))))))))))))))),
    (RS.seq (ms1 := [.l .fz, .fz, .fz, .hole, .hole, .hole, .hole, .hole, .hole, .hole, .hole, .hole, .hole, .hole]) (RS.set2 (RE.op2 O2.add RE.int (RE.call1 0 (RA.cons (RE.var rfl) RA.nil) rfl))) (RS.seq (ms1 := [.l .fz, .fz, .fz, .fz, .hole, .hole, .hole, .hole, .hole, .hole, .hole, .hole, .hole, .hole]) (RS.set2 (RE.call1 0 (RA.cons (RE.var rfl) RA.nil) rfl)) (RS.seq (ms1 := [.l .fz, .fz, .fz, .fz, .fz, .hole, .hole, .hole, .hole, .hole, .hole, .hole, .hole, .hole]) (RS.set2 (RE.call1 0 (RA.cons RE.int RA.nil) rfl)) (RS.seq (ms1 := [.l .fz, .fz, .fz, .fz, .fz, .fz, .hole, .hole, .hole, .hole, .hole, .hole, .hole, .hole]) (RS.set2 (RE.op2 O2.add RE.int (RE.call1 0 (RA.cons (RE.cb ON.min3 (RA.cons RE.int (RA.cons (RE.op2 O2.fdiv RE.int (RE.op2 O2.sub (RE.var rfl) RE.int)) (RA.cons (RE.op2 (O2.ix rfl) (RE.lst (m := .fz) (RA.cons RE.int (RA.cons RE.int (RA.cons RE.int RA.nil)))) (RE.call1 0 (RA.cons RE.int RA.nil) rfl)) RA.nil)))) RA.nil) rfl))) (RS.seq (ms1 := [.l .fz, .fz, .fz, .fz, .fz, .fz, .l .fz, .hole, .hole, .hole, .hole, .hole, .hole, .hole]) (RS.set2 (RE.lst (m := .fz) RA.nil)) (RS.seq (ms1 := [.l .fz, .fz, .fz, .fz, .fz, .fz, .l .fz, .hole, .hole, .hole, .hole, .hole, .hole, .hole]) (RS.for (RI.range1 (RA.cons (RE.var rfl) RA.nil)) (RG.name 7) (RS.void2 [7] [.l .fz, .fz, .fz, .fz, .fz, .fz, .l .fz, .fz, .hole, .hole, .hole, .hole, .hole, .hole] (RS.extend 6 (RE.fzv (RE.lc (vs := [13]) (RI.list (RE.call1 0 (RA.cons (RE.var rfl) (RA.cons (RE.var rfl) (RA.cons (RE.var rfl) RA.nil))) rfl)) (RG.name 13) RT.yes (RE.tup (RA.cons (RE.var rfl) (RA.cons (RE.var rfl) RA.nil))) (hv := by exact hole_at (by rfl))) rfl) rfl rfl))) (RS.seq (ms1 := [.l .fz, .fz, .fz, .fz, .fz, .fz, .l .fz, .hole, .hole, .hole, .hole, .hole, .hole, .hole]) (RS.for (RI.range1 (RA.cons (RE.call1 0 (RA.cons RE.int RA.nil) rfl) RA.nil)) (RG.name 8) (RS.void2 [8, 12] [.l .fz, .fz, .fz, .fz, .fz, .fz, .l .fz, .hole, .fz, .hole, .hole, .hole, .fz, .hole] (RS.seq (ms1 := [.l .fz, .fz, .fz, .fz, .fz, .fz, .l .fz, .hole, .fz, .hole, .hole, .hole, .fz, .hole]) (RS.set2 (RE.call1 0 (RA.cons (RE.var rfl) RA.nil) rfl)) (RS.append 6 (RE.tup (RA.cons (RE.tup (RA.cons (RE.var rfl) (RA.cons (RE.op2 O2.mod (RE.cb ON.int (RA.cons (RE.op2 O2.add (RE.op2 O2.add (RE.var rfl) RE.int) (RE.call1 0 (RA.cons (RE.op2 O2.sub (RE.var rfl) RE.int) RA.nil) rfl)) RA.nil)) (RE.var rfl)) RA.nil))) (RA.cons (RE.var rfl) RA.nil))) rfl rfl)))) (RS.seq (ms1 := [.l .fz, .fz, .fz, .fz, .fz, .fz, .l .fz, .hole, .hole, .l .fz, .hole, .hole, .hole, .hole]) (RS.set2 (RE.lst (m := .fz) RA.nil)) (RS.seq (ms1 := [.l .fz, .fz, .fz, .fz, .fz, .fz, .l .fz, .hole, .hole, .l .fz, .l (.l .fz), .hole, .hole, .hole]) (RS.set2 (RE.lc (vs := [7]) (RI.range1 (RA.cons (RE.op2 O2.add (RE.var rfl) RE.int) RA.nil)) (RG.name 7) RT.yes (RE.lst (m := .fz) RA.nil) (hv := by exact hole_at (by rfl)))) (RS.seq (ms1 := [.l .fz, .fz, .fz, .fz, .fz, .fz, .l .fz, .hole, .hole, .l .fz, .l (.l .fz), .hole, .hole, .hole]) (RS.for (RI.range1 (RA.cons (RE.cbv 6 ON.len rfl rfl) RA.nil)) (RG.name 8) (RS.void2 [7, 8, 13] [.l .fz, .fz, .fz, .fz, .fz, .fz, .l .fz, .fz, .fz, .l .fz, .l (.l .fz), .hole, .hole, .fz] (RS.seq (ms1 := [.l .fz, .fz, .fz, .fz, .fz, .fz, .l .fz, .fz, .fz, .l .fz, .l (.l .fz), .hole, .hole, .fz]) (RS.setG (RE.popAt 6 (RE.call1 0 (RA.cons (RE.cbv 6 ON.len rfl rfl) RA.nil) rfl) rfl rfl) (RG.tup (RGs.cons (RG.name 13) (RGs.cons (RG.name 7) RGs.nil)))) (RS.seq (ms1 := [.l .fz, .fz, .fz, .fz, .fz, .fz, .l .fz, .fz, .fz, .l .fz, .l (.l .fz), .hole, .hole, .fz]) (RS.appendAt 10 (RE.var rfl) (RE.cbv 9 ON.len rfl rfl) rfl rfl) (RS.append 9 (RE.var rfl) rfl rfl))))) (RS.seq (ms1 := [.l .fz, .fz, .fz, .fz, .fz, .fz, .l .fz, .hole, .hole, .l .fz, .l (.l .fz), .fz, .hole, .hole]) (RS.set2 (RE.op2 O2.add RE.int (RE.call1 0 (RA.cons (RE.cb ON.min2 (RA.cons RE.int (RA.cons (RE.var rfl) RA.nil))) RA.nil) rfl))) (RS.frz 9 rfl rfl (RS.frz 10 rfl rfl (RS.ret (RE.fzv (RE.disp (keys := ["many", "root", "links", "trees", "size"]) (RP.cons (RE.var rfl) (RP.cons (RE.var rfl) (RP.cons (RE.var rfl) (RP.cons (RE.fzv (RE.sliceL (RE.var rfl) RO.none (RO.some (RE.var rfl))) rfl) (RP.cons (RE.var rfl) RP.nil)))))) rfl)))))))))))))))⟩
def m__law_made : MS := (mSeq (mSet 1 (mMake "Net" mm_Net_init (mCons (mOp DL.getD (mVar 0) (mC (.str "many"))) (mCons (mOp DL.getD (mVar 0) (mC (.str "root"))) (mCons (mCB tupOfD (mCons (mOp DL.getD (mVar 0) (mC (.str "links"))) mNil)) mNil))))) (mRet 0 (mMake "Plan" mm_Plan_init (mCons (mVar 1) (mCons (mCB tupOfD (mCons (mLcG [2] (mIList (mOp DL.getD (mVar 0) (mC (.str "trees")))) (fun d δ => some (δ.set 2 d)) mYes (mCB tupOfD (mCons (mVar 2) mNil))) mNil)) (mCons (mOp DL.getD (mVar 0) (mC (.str "size"))) mNil))))))
def mm__law_made : List D → Option (D × List D) := mFn 3 m__law_made
theorem sc__law_made : FnScope ["_law_plan_here", "_law_net", "_law_tree_here"] ["_law_plan_here"] (L2.defScope (top 52)) := ⟨rfl, rfl, rfl, by decide +kernel, rfl, by decide +kernel, by decide +kernel⟩
theorem ok__law_made (T : Txt K mg) : CalF P w K mg base 11 "_law_made" (spM (gmOf K) [] [] [.fz] .fz (mm__law_made)) := by
  obtain ⟨fd, F⟩ := T.f__law_made
  refine mkF (N := ["_law_plan_here", "_law_net", "_law_tree_here"]) (ps := ["_law_plan_here"]) [] [] [.fz] .fz [.fz, .hole, .hole] F T.g__law_made sc__law_made (fun _ _ _ _ _ _ us hl => match us, hl with | [_], _ => rfl) fun cdv A outer s H E hr => ?_
  have nd := sc__law_made.nd
  exact ⟨_, [.fz, .hole, .hole], (pss_cons (ps_set (i := 1) nd rfl (by first | exact Or.inl rfl | exact Or.inr rfl) (pe_cm (ok_Net_init T) hr (by decide) rfl (pa_cons (pe_dget (hu1 hr) (pv 0) pe_str (fun _ _ => rfl)) (pa_cons (pe_dget (hu1 hr) (pv 0) pe_str (fun _ _ => rfl)) (pa_cons (pe_callTy call_tuple_of rfl T.n_tuple boot_tuple (pa_cons (pe_dget (hu1 hr) (pv 0) pe_str (fun _ _ => rfl)) pa_nil)) pa_nil))))) (pss_one (ps_ret (pe_cm (ok_Plan_init T) hr (by decide) rfl (pa_cons (pv 1) (pa_cons (pe_callTy call_tuple_of rfl T.n_tuple boot_tuple (pa_cons (pe_lc (own := [("_law_tree_here", 2)]) rfl nd (pi_list (pe_dget (hu1 hr) (pv 0) pe_str (fun _ _ => rfl))) (blkOk_by (by kernel_rfl)) (fun _ _ _ _ _ => (pg_name (i := 2) nd rfl (by first | exact Or.inl rfl | exact Or.inr rfl))) (fun _ _ _ _ _ => pts_nil) (fun _ _ _ _ _ => (pe_callTy call_tuple_of rfl T.n_tuple boot_tuple (pa_cons (pv 2) pa_nil)))) pa_nil)) (pa_cons (pe_dget (hu1 hr) (pv 0) pe_str (fun _ _ => rfl)) pa_nil))))))),
    (RS.seq (ms1 := [.fz, .fz, .hole]) (RS.set2 (RE.fzv (RE.make (RA.cons (RE.dget (RE.var rfl) RE.str) (RA.cons (RE.dget (RE.var rfl) RE.str) (RA.cons (RE.cb (ON.tuple) (RA.cons (RE.dget (RE.var rfl) RE.str) RA.nil)) RA.nil)))) rfl)) (RS.ret (RE.fzv (RE.make (RA.cons (RE.var rfl) (RA.cons (RE.cb (ON.tuple) (RA.cons (RE.lc (vs := [2]) (RI.list (RE.dget (RE.var rfl) RE.str)) (RG.name 2) RT.yes (RE.cb (ON.tuple) (RA.cons (RE.var rfl) RA.nil)) (hv := by exact hole_at (by rfl))) RA.nil)) (RA.cons (RE.dget (RE.var rfl) RE.str) RA.nil)))) rfl)))⟩
def m__law_way : MS := (mSeq (mSet 3 (mLst mNil)) (mSeq (mFor (mRng1 (mCons (mOp DL.getD (mVar 0) (mC (.str "many"))) mNil)) (fun d δ => some (δ.set 4 d)) (mThenVoid [4, 5] (mSeq (mIfS (mTest (mOp eqD (mVar 2) (mOp DL.getD (mVar 0) (mC (.str "root"))))) (mBrk [4]) mNx) (mSeq (mSet 5 (mOp ixD (mLcG [6] (mIList (mOp ixD (mOp DL.getD (mVar 0) (mC (.str "trees"))) (mVar 1))) (fun d δ => some (δ.set 6 d)) (mTest (mOp eqD (mOp ixD (mOp ixD (mOp DL.getD (mVar 0) (mC (.str "links"))) (mVar 6)) (mC (.int 1))) (mVar 2))) (mVar 6)) (mC (.int 0)))) (mSeq (mAppend 3 (mVar 5)) (mSet 2 (mOp ixD (mOp ixD (mOp DL.getD (mVar 0) (mC (.str "links"))) (mVar 5)) (mC (.int 0))))))))) (mRet 0 (mUn revL (mVar 3)))))
def mm__law_way : List D → Option (D × List D) := mFn 7 m__law_way
theorem sc__law_way : FnScope ["_law_plan_here", "_law_tree_here", "_law_place", "_law_found", "_law_k", "_law_link", "_law_one"] ["_law_plan_here", "_law_tree_here", "_law_place"] (L2.defScope (top 53)) := ⟨rfl, rfl, rfl, by decide +kernel, rfl, by decide +kernel, by decide +kernel⟩
theorem ok__law_way (T : Txt K mg) : CalF P w K mg base 1 "_law_way" (spM (gmOf K) [] [] [.fz, .fz, .fz] .fz (mm__law_way)) := by
  obtain ⟨fd, F⟩ := T.f__law_way
  refine mkF (N := ["_law_plan_here", "_law_tree_here", "_law_place", "_law_found", "_law_k", "_law_link", "_law_one"]) (ps := ["_law_plan_here", "_law_tree_here", "_law_place"]) [] [] [.fz, .fz, .fz] .fz [.fz, .fz, .fz, .hole, .hole, .hole, .hole] F T.g__law_way sc__law_way (fun _ _ _ _ _ _ us hl => match us, hl with | [_, _, _], _ => rfl) fun cdv A outer s H E hr => ?_
  have nd := sc__law_way.nd
  exact ⟨_, [.fz, .fz, .fz, .hole, .hole, .hole, .hole], (pss_cons (ps_set (i := 3) nd rfl (by first | exact Or.inl rfl | exact Or.inr rfl) (pe_lst pa_nil)) (pss_cons (ps_for PassesOwn.never rfl (pi_range1 rfl T.n_range (pa_cons (pe_dget (hu1 hr) (pv 0) pe_str (fun _ _ => rfl)) pa_nil)) (pg_name (i := 4) nd rfl (by first | exact Or.inl rfl | exact Or.inr rfl)) (pss_cons (ps_if (pt_cmpR (op_eqD (hu64 hr)) (pv 2) (pe_dget (hu1 hr) (pv 0) pe_str (fun _ _ => rfl)) (nomark _)) (pss_one ps_break) pss_nil) (pss_cons (ps_set (i := 5) nd rfl (by first | exact Or.inl rfl | exact Or.inr rfl) (pe_ix ix_seq (pe_lc (own := [("_law_one", 6)]) rfl nd (pi_list (pe_ix ix_seq (pe_dget (hu1 hr) (pv 0) pe_str (fun _ _ => rfl)) (pv 1) (fun _ _ => rfl))) (blkOk_by (by kernel_rfl)) (fun _ _ _ _ _ => (pg_name (i := 6) nd rfl (by first | exact Or.inl rfl | exact Or.inr rfl))) (fun _ _ _ _ _ => pts_one (pt_cmpR (op_eqD (hu64 hr)) (pe_ix ix_seq (pe_ix ix_seq (pe_dget (hu1 hr) (pv 0) pe_str (fun _ _ => rfl)) (pv 6) (fun _ _ => rfl)) pe_int (fun _ _ => rfl)) (pv 2) (nomark _))) (fun _ _ _ _ _ => (pv 6))) pe_int (fun _ _ => rfl))) (pss_cons (ps_expr (pe_bm PySem.F.plainAttrs_list PySem.F.slot_list_append PySem.F.type_list_append mt_append (pv 3) (pa_cons (pv 5) pa_nil))) (pss_one (ps_set (i := 2) nd rfl (by first | exact Or.inl rfl | exact Or.inr rfl) (pe_ix ix_seq (pe_ix ix_seq (pe_dget (hu1 hr) (pv 0) pe_str (fun _ _ => rfl)) (pv 5) (fun _ _ => rfl)) pe_int (fun _ _ => rfl)))))))) (pss_one (ps_ret (pe_revL (pv 3)))))),
    (RS.seq (ms1 := [.fz, .fz, .fz, .l .fz, .hole, .hole, .hole]) (RS.set2 (RE.lst (m := .fz) RA.nil)) (RS.seq (ms1 := [.fz, .fz, .fz, .l .fz, .hole, .hole, .hole]) (RS.for (RI.range1 (RA.cons (RE.dget (RE.var rfl) RE.str) RA.nil)) (RG.name 4) (RS.void2 [4, 5] [.fz, .fz, .fz, .l .fz, .fz, .fz, .hole] (RS.seq (ms1 := [.fz, .fz, .fz, .l .fz, .fz, .hole, .hole]) (RS.ifs (RT.test (RE.op2 O2.eq (RE.var rfl) (RE.dget (RE.var rfl) RE.str))) (RS.brk [4]) RS.nil) (RS.seq (ms1 := [.fz, .fz, .fz, .l .fz, .fz, .fz, .hole]) (RS.set2 (RE.op2 (O2.ix rfl) (RE.lc (vs := [6]) (RI.list (RE.op2 (O2.ix rfl) (RE.dget (RE.var rfl) RE.str) (RE.var rfl))) (RG.name 6) (RT.test (RE.op2 O2.eq (RE.op2 (O2.ix rfl) (RE.op2 (O2.ix rfl) (RE.dget (RE.var rfl) RE.str) (RE.var rfl)) RE.int) (RE.var rfl))) (RE.var rfl) (hv := by exact hole_at (by rfl))) RE.int)) (RS.seq (ms1 := [.fz, .fz, .fz, .l .fz, .fz, .fz, .hole]) (RS.append 3 (RE.var rfl) rfl rfl) (RS.set2 (RE.op2 (O2.ix rfl) (RE.op2 (O2.ix rfl) (RE.dget (RE.var rfl) RE.str) (RE.var rfl)) RE.int))))))) (RS.frz 3 rfl rfl (RS.ret (RE.fzv (RE.revL (RE.var rfl)) rfl)))))⟩
def m__law_lot : MS := (mRet 1 (mCB tupOfD (mCons (mLcG [3] (mRng1 (mCons (mVar 1) mNil)) (fun d δ => some (δ.set 3 d)) (mTest (mOp ltI (mCall1 0 mm__law_draw (mCons (mC (.int 12)) mNil)) (mVar 2))) (mVar 3)) mNil)))
def mm__law_lot : List D → Option (D × List D) := mFn 4 m__law_lot
theorem sc__law_lot : FnScope ["_law_bag_here", "_law_most", "_law_share", "_law_k"] ["_law_bag_here", "_law_most", "_law_share"] (L2.defScope (top 54)) := ⟨rfl, rfl, rfl, by decide +kernel, rfl, by decide +kernel, by decide +kernel⟩
theorem ok__law_lot (T : Txt K mg) : CalF P w K mg base 3 "_law_lot" (spM (gmOf K) [.l .fz] [.l .fz] [.fz, .fz] .fz (mm__law_lot)) := by
  obtain ⟨fd, F⟩ := T.f__law_lot
  refine mkF (N := ["_law_bag_here", "_law_most", "_law_share", "_law_k"]) (ps := ["_law_bag_here", "_law_most", "_law_share"]) [.l .fz] [.l .fz] [.fz, .fz] .fz [.l .fz, .fz, .fz, .hole] F T.g__law_lot sc__law_lot (fun _ _ _ _ _ _ us hl => match us, hl with | [_, _, _], _ => rfl) fun cdv A outer s H E hr => ?_
  have nd := sc__law_lot.nd
  exact ⟨_, [.l .fz, .fz, .fz, .hole], (pss_one (ps_ret (pe_callTy call_tuple_of rfl T.n_tuple boot_tuple (pa_cons (pe_lc (own := [("_law_k", 3)]) rfl nd (pi_range1 rfl T.n_range (pa_cons (pv 1) pa_nil)) (blkOk_by (by kernel_rfl)) (fun _ _ _ _ _ => (pg_name (i := 3) nd rfl (by first | exact Or.inl rfl | exact Or.inr rfl))) (fun _ _ _ _ _ => pts_one (pt_cmpR op_lt (pe_cf (ok__law_draw T) hr (by decide) rfl (pa_cons (pv 0) (pa_cons pe_int pa_nil))) (pv 2) (nomark _))) (fun _ _ _ _ _ => (pv 3))) pa_nil)))),
    (RS.ret (RE.cb (ON.tuple) (RA.cons (RE.lc (vs := [3]) (RI.range1 (RA.cons (RE.var rfl) RA.nil)) (RG.name 3) (RT.test (RE.op2 O2.lt (RE.call1 0 (RA.cons RE.int RA.nil) rfl) (RE.var rfl))) (RE.var rfl) (hv := by exact hole_at (by rfl))) RA.nil)))⟩
def m__law_stopped : MS := (mSeq (mSet 2 (mLst mNil)) (mSeq (mFor (mRng1 (mCons (mOp DL.getD (mVar 0) (mC (.str "many"))) mNil)) (fun d δ => some (δ.set 3 d)) (mThenVoid [3, 4] (mSeq (mSet 4 (mC (.int 0))) (mSeq (mFor (mRng1 (mCons (mCB lenD (mCons (mOp DL.getD (mVar 0) (mC (.str "trees"))) mNil)) mNil)) (fun d δ => some (δ.set 5 d)) (mThenVoid [5] (mSet 4 (mOp addI (mVar 4) (mCB intD (mCons (mNotV (mCB anyD (mCons (mLcG [6] (mIList (mCall mm__law_way (mCons (mVar 0) (mCons (mVar 5) (mCons (mVar 3) mNil))))) (fun d δ => some (δ.set 6 d)) mYes (mOp (inD false) (mVar 6) (mVar 1))) mNil))) mNil)))))) (mIfS (mTest (mOp ltI (mVar 4) (mOp DL.getD (mVar 0) (mC (.str "size"))))) (mAppend 2 (mVar 3)) mNx))))) (mRet 0 (mCBv tupOfD 2))))
def mm__law_stopped : List D → Option (D × List D) := mFn 7 m__law_stopped
theorem sc__law_stopped : FnScope ["_law_plan_here", "_law_lost_here", "_law_found", "_law_place", "_law_whole", "_law_tree_here", "_law_link"] ["_law_plan_here", "_law_lost_here"] (L2.defScope (top 55)) := ⟨rfl, rfl, rfl, by decide +kernel, rfl, by decide +kernel, by decide +kernel⟩
theorem ok__law_stopped (T : Txt K mg) : CalF P w K mg base 2 "_law_stopped" (spM (gmOf K) [] [] [.fz, .fz] .fz (mm__law_stopped)) := by
  obtain ⟨fd, F⟩ := T.f__law_stopped
  refine mkF (N := ["_law_plan_here", "_law_lost_here", "_law_found", "_law_place", "_law_whole", "_law_tree_here", "_law_link"]) (ps := ["_law_plan_here", "_law_lost_here"]) [] [] [.fz, .fz] .fz [.fz, .fz, .hole, .hole, .hole, .hole, .hole] F T.g__law_stopped sc__law_stopped (fun _ _ _ _ _ _ us hl => match us, hl with | [_, _], _ => rfl) fun cdv A outer s H E hr => ?_
  have nd := sc__law_stopped.nd
  exact ⟨_, [.fz, .fz, .hole, .hole, .hole, .hole, .hole], (pss_cons (ps_set (i := 2) nd rfl (by first | exact Or.inl rfl | exact Or.inr rfl) (pe_lst pa_nil)) (pss_cons (ps_for PassesOwn.never rfl (pi_range1 rfl T.n_range (pa_cons (pe_dget (hu1 hr) (pv 0) pe_str (fun _ _ => rfl)) pa_nil)) (pg_name (i := 3) nd rfl (by first | exact Or.inl rfl | exact Or.inr rfl)) (pss_cons (ps_set (i := 4) nd rfl (by first | exact Or.inl rfl | exact Or.inr rfl) pe_int) (pss_cons (ps_for PassesOwn.never rfl (pi_range1 rfl T.n_range (pa_cons (pe_callB call_lenA rfl T.n_len boot_len (pa_cons (pe_dget (hu1 hr) (pv 0) pe_str (fun _ _ => rfl)) pa_nil)) pa_nil)) (pg_name (i := 5) nd rfl (by first | exact Or.inl rfl | exact Or.inr rfl)) (pss_one (ps_set (i := 4) nd rfl (by first | exact Or.inl rfl | exact Or.inr rfl) (pe_op op_add (pv 4) (pe_callTy call_int1 rfl T.n_int boot_int (pa_cons (pe_not (pe_callB (cr_any rfl) rfl T.n_any boot_any (pa_cons (pe_lc (own := [("_law_link", 6)]) rfl nd (pi_list (pe_cf (ok__law_way T) hr (by decide) rfl (pa_cons (pv 0) (pa_cons (pv 5) (pa_cons (pv 3) pa_nil))))) (blkOk_by (by kernel_rfl)) (fun _ _ _ _ _ => (pg_name (i := 6) nd rfl (by first | exact Or.inl rfl | exact Or.inr rfl))) (fun _ _ _ _ _ => pts_nil) (fun _ _ _ _ _ => (pe_cmpR op_in_seq (pv 6) (pv 1) rfl))) pa_nil))) pa_nil)))))) (pss_one (ps_if (pt_cmpR op_lt (pv 4) (pe_dget (hu1 hr) (pv 0) pe_str (fun _ _ => rfl)) (nomark _)) (pss_one (ps_expr (pe_bm PySem.F.plainAttrs_list PySem.F.slot_list_append PySem.F.type_list_append mt_append (pv 2) (pa_cons (pv 3) pa_nil)))) pss_nil))))) (pss_one (ps_ret (pe_callTy call_tuple_of rfl T.n_tuple boot_tuple (pa_cons (pv 2) pa_nil)))))),
    (RS.seq (ms1 := [.fz, .fz, .l .fz, .hole, .hole, .hole, .hole]) (RS.set2 (RE.lst (m := .fz) RA.nil)) (RS.seq (ms1 := [.fz, .fz, .l .fz, .hole, .hole, .hole, .hole]) (RS.for (RI.range1 (RA.cons (RE.dget (RE.var rfl) RE.str) RA.nil)) (RG.name 3) (RS.void2 [3, 4] [.fz, .fz, .l .fz, .fz, .fz, .hole, .hole] (RS.seq (ms1 := [.fz, .fz, .l .fz, .fz, .fz, .hole, .hole]) (RS.set2 RE.int) (RS.seq (ms1 := [.fz, .fz, .l .fz, .fz, .fz, .hole, .hole]) (RS.for (RI.range1 (RA.cons (RE.cb ON.len (RA.cons (RE.dget (RE.var rfl) RE.str) RA.nil)) RA.nil)) (RG.name 5) (RS.void2 [5] [.fz, .fz, .l .fz, .fz, .fz, .fz, .hole] (RS.set2 (RE.op2 O2.add (RE.var rfl) (RE.cb ON.int (RA.cons (RE.notV (RE.cb (ON.any) (RA.cons (RE.lc (vs := [6]) (RI.list (RE.call (RA.cons (RE.var rfl) (RA.cons (RE.var rfl) (RA.cons (RE.var rfl) RA.nil))))) (RG.name 6) RT.yes (RE.op2 (O2.inn rfl) (RE.var rfl) (RE.var rfl)) (hv := by exact hole_at (by rfl))) RA.nil))) RA.nil)))))) (RS.ifs (RT.test (RE.op2 O2.lt (RE.var rfl) (RE.dget (RE.var rfl) RE.str))) (RS.append 2 (RE.var rfl) rfl rfl) RS.nil))))) (RS.ret (RE.cbv 2 (ON.tuple) rfl rfl))))⟩
def m__law_is_same (rec : List D → Option (D × List D)) : MS := (mSeq (mIfS (mTest (mCB (isiTD ["Net", "Plan"]) (mCons (mVar 1) (mCons (mTup (mCons (mC (.ty "tuple")) (mCons (mC (.ty "list")) mNil))) mNil)))) (mSeq (mIfS (mOr (mTest (mOp neD (mCB (isiD ["Net", "Plan"]) (mCons (mVar 0) (mCons (mC (.ty "tuple")) mNil))) (mCB (isiD ["Net", "Plan"]) (mCons (mVar 1) (mCons (mC (.ty "tuple")) mNil))))) (mNot (mTest (mCB (isiTD ["Net", "Plan"]) (mCons (mVar 0) (mCons (mTup (mCons (mC (.ty "tuple")) (mCons (mC (.ty "list")) mNil))) mNil)))))) (mRet 0 (mC (.bl false))) mNx) (mRet 0 (mAndV (mOp eqD (mCB lenD (mCons (mVar 0) mNil)) (mCB lenD (mCons (mVar 1) mNil))) (mCB allD (mCons (mLcG [2] (mRng1 (mCons (mCB lenD (mCons (mVar 1) mNil)) mNil)) (fun d δ => some (δ.set 2 d)) mYes (mCall rec (mCons (mOp ixD (mVar 0) (mVar 2)) (mCons (mOp ixD (mVar 1) (mVar 2)) mNil)))) mNil))))) mNx) (mRet 0 (mAndV (mOp eqD (mCB (isiD ["Net", "Plan"]) (mCons (mVar 0) (mCons (mC (.ty "bool")) mNil))) (mCB (isiD ["Net", "Plan"]) (mCons (mVar 1) (mCons (mC (.ty "bool")) mNil)))) (mOp eqD (mVar 0) (mVar 1)))))
def mm__law_is_same : Nat → List D → Option (D × List D)
  | 0 => fun _ => none
  | n + 1 => mFn 3 (m__law_is_same (mm__law_is_same n))
theorem sc__law_is_same : FnScope ["_law_told", "_law_due", "_law_k"] ["_law_told", "_law_due"] (L2.defScope (top 56)) := ⟨rfl, rfl, rfl, by decide +kernel, rfl, by decide +kernel, by decide +kernel⟩
theorem ok__law_is_same : ∀ n : Nat, Txt K mg → CalF P w K mg base (n + 1) "_law_is_same" (spM (gmOf K) [] [] [.fz, .fz] .fz (mm__law_is_same n))
  | 0, T => by
    obtain ⟨fd, F⟩ := T.f__law_is_same
    exact mk0 (ps := ["_law_told", "_law_due"]) F T.g__law_is_same (fun _ _ _ _ _ _ us hl => match us, hl with | [_, _], _ => rfl) rfl
  | n + 1, T => by
    obtain ⟨fd, F⟩ := T.f__law_is_same
    have ih := ok__law_is_same n T
    refine mkF (N := ["_law_told", "_law_due", "_law_k"]) (ps := ["_law_told", "_law_due"]) (k := n + 1) [] [] [.fz, .fz] .fz [.fz, .fz, .hole] F T.g__law_is_same sc__law_is_same (fun _ _ _ _ _ _ us hl => match us, hl with | [_, _], _ => rfl) fun cdv A outer s H E hr => ?_
    have nd := sc__law_is_same.nd
    exact ⟨_, [.fz, .fz, .hole], (pss_cons (ps_if (pt_val (pe_callB call_isiT rfl T.n_isinstance boot_isinstance (pa_cons (pv 1) (pa_cons (pe_tup (pa_cons (pe_bltn (v := .ty "tuple") rfl T.n_tuple boot_tuple rfl) (pa_cons (pe_bltn (v := .ty "list") rfl T.n_list boot_list rfl) pa_nil))) pa_nil)))) (pss_cons (ps_if (PW.pt (pw_or (pt_cmpR (op_neD (hu64 hr)) (pe_callB call_isi rfl T.n_isinstance boot_isinstance (pa_cons (pv 0) (pa_cons (pe_bltn (v := .ty "tuple") rfl T.n_tuple boot_tuple rfl) pa_nil))) (pe_callB call_isi rfl T.n_isinstance boot_isinstance (pa_cons (pv 1) (pa_cons (pe_bltn (v := .ty "tuple") rfl T.n_tuple boot_tuple rfl) pa_nil))) (nomark _)) (pw_or1 (pt_not (pt_val (pe_callB call_isiT rfl T.n_isinstance boot_isinstance (pa_cons (pv 0) (pa_cons (pe_tup (pa_cons (pe_bltn (v := .ty "tuple") rfl T.n_tuple boot_tuple rfl) (pa_cons (pe_bltn (v := .ty "list") rfl T.n_list boot_list rfl) pa_nil))) pa_nil)))))))) (pss_one (ps_ret pe_bl)) pss_nil) (pss_one (ps_ret (pe_and (pe_cmpR (op_eqD (hu64 hr)) (pe_callB call_lenA rfl T.n_len boot_len (pa_cons (pv 0) pa_nil)) (pe_callB call_lenA rfl T.n_len boot_len (pa_cons (pv 1) pa_nil)) (nomark _)) (pe_one (pe_callB (cr_all rfl) rfl T.n_all boot_all (pa_cons (pe_lc (own := [("_law_k", 2)]) rfl nd (pi_range1 rfl T.n_range (pa_cons (pe_callB call_lenA rfl T.n_len boot_len (pa_cons (pv 1) pa_nil)) pa_nil)) (blkOk_by (by kernel_rfl)) (fun _ _ _ _ _ => (pg_name (i := 2) nd rfl (by first | exact Or.inl rfl | exact Or.inr rfl))) (fun _ _ _ _ _ => pts_nil) (fun _ _ _ _ _ => (pe_cf ih hr (Nat.le_refl _) rfl (pa_cons (pe_ix ix_seq (pv 0) (pv 2) (fun _ _ => rfl)) (pa_cons (pe_ix ix_seq (pv 1) (pv 2) (fun _ _ => rfl)) pa_nil))))) pa_nil))))))) pss_nil) (pss_one (ps_ret (pe_and (pe_cmpR (op_eqD (hu64 hr)) (pe_callB call_isi rfl T.n_isinstance boot_isinstance (pa_cons (pv 0) (pa_cons (pe_bltn (v := .ty "bool") rfl T.n_bool boot_bool rfl) pa_nil))) (pe_callB call_isi rfl T.n_isinstance boot_isinstance (pa_cons (pv 1) (pa_cons (pe_bltn (v := .ty "bool") rfl T.n_bool boot_bool rfl) pa_nil))) (nomark _)) (pe_one (pe_cmpR (op_eqD (hu64 hr)) (pv 0) (pv 1) (nomark _))))))),
      (RS.seq (ms1 := [.fz, .fz, .hole]) (RS.ifs (RT.val (RE.cb (ON.isiT T.isok) (RA.cons (RE.var rfl) (RA.cons (RE.tup (RA.cons RE.ty (RA.cons RE.ty RA.nil))) RA.nil)))) (RS.seq (ms1 := [.fz, .fz, .hole]) (RS.ifs (RT.or (RT.test (RE.op2 O2.ne (RE.cb (ON.isi T.isok) (RA.cons (RE.var rfl) (RA.cons RE.ty RA.nil))) (RE.cb (ON.isi T.isok) (RA.cons (RE.var rfl) (RA.cons RE.ty RA.nil))))) (RT.not (RT.val (RE.cb (ON.isiT T.isok) (RA.cons (RE.var rfl) (RA.cons (RE.tup (RA.cons RE.ty (RA.cons RE.ty RA.nil))) RA.nil)))))) (RS.ret RE.bl) RS.nil) (RS.ret (RE.andV (RE.op2 O2.eq (RE.cb ON.len (RA.cons (RE.var rfl) RA.nil)) (RE.cb ON.len (RA.cons (RE.var rfl) RA.nil))) (RE.cb (ON.all) (RA.cons (RE.lc (vs := [2]) (RI.range1 (RA.cons (RE.cb ON.len (RA.cons (RE.var rfl) RA.nil)) RA.nil)) (RG.name 2) RT.yes (RE.call (RA.cons (RE.op2 (O2.ix rfl) (RE.var rfl) (RE.var rfl)) (RA.cons (RE.op2 (O2.ix rfl) (RE.var rfl) (RE.var rfl)) RA.nil))) (hv := by exact hole_at (by rfl))) RA.nil))))) RS.nil) (RS.ret (RE.andV (RE.op2 O2.eq (RE.cb (ON.isi T.isok) (RA.cons (RE.var rfl) (RA.cons RE.ty RA.nil))) (RE.cb (ON.isi T.isok) (RA.cons (RE.var rfl) (RA.cons RE.ty RA.nil)))) (RE.op2 O2.eq (RE.var rfl) (RE.var rfl)))))⟩
def m__law_lost : MS := (mSeq (mPar 5 6 (mCons (mCB lenD (mCons (mOp DL.getD (mVar 1) (mC (.str "links"))) mNil)) (mCons (mOp DL.getD (mVar 1) (mC (.str "trees"))) mNil))) (mSeq (mSet 2 (mCall1 0 mm__law_draw (mCons (mC (.int 6)) mNil))) (mSeq (mIfS (mTest (mOp ltI (mVar 2) (mC (.int 2)))) (mRet 1 (mCall1 0 mm__law_lot (mCons (mVar 5) (mCons (mOp ixD (mLst (mCons (mC (.int 1)) (mCons (mC (.int 3)) (mCons (mC (.int 6)) (mCons (mC (.int 11)) mNil))))) (mCall1 0 mm__law_draw (mCons (mC (.int 4)) mNil))) mNil)))) mNx) (mSeq (mIfS (mTest (mOp eqD (mVar 2) (mC (.int 2)))) (mRet 1 (mCB tupOfD (mCons (mCB sortD (mCons (mCall mm__law_way (mCons (mVar 1) (mCons (mCall1 0 mm__law_draw (mCons (mCB lenD (mCons (mVar 6) mNil)) mNil)) (mCons (mCall1 0 mm__law_draw (mCons (mOp DL.getD (mVar 1) (mC (.str "many"))) mNil)) mNil)))) mNil)) mNil))) mNx) (mSeq (mIfS (mTest (mOp eqD (mVar 2) (mC (.int 3)))) (mRet 1 (mCB tupOfD (mCons (mOp ixD (mVar 6) (mCall1 0 mm__law_draw (mCons (mCB lenD (mCons (mVar 6) mNil)) mNil))) mNil))) mNx) (mSeq (mSet 3 (mLst mNil)) (mSeq (mFor (mRng1 (mCons (mCB lenD (mCons (mVar 6) mNil)) mNil)) (fun d δ => some (δ.set 4 d)) (mThenVoid [4] (mSeq (mIfS (mAnd (mTest (mOp eqD (mVar 2) (mC (.int 5)))) (mTest (mOp eqD (mCBv lenD 3) (mOp subI (mCB lenD (mCons (mVar 6) mNil)) (mOp DL.getD (mVar 1) (mC (.str "size"))))))) (mBrk [4]) mNx) (mIfS (mTest (mOp gtI (mCall1 0 mm__law_draw (mCons (mC (.int 3)) mNil)) (mC (.int 0)))) (mAppend 3 (mOp ixD (mOp ixD (mVar 6) (mVar 4)) (mCall1 0 mm__law_draw (mCons (mCB lenD (mCons (mOp ixD (mVar 6) (mVar 4)) mNil)) mNil)))) mNx)))) (mRet 1 (mCB tupOfD (mCons (mCBv sortD 3) mNil))))))))))
def mm__law_lost : List D → Option (D × List D) := mFn 7 m__law_lost
theorem sc__law_lost : FnScope ["_law_bag_here", "_law_plan_here", "_law_kind", "_law_found", "_law_tree_here", "_law_links", "_law_trees"] ["_law_bag_here", "_law_plan_here"] (L2.defScope (top 57)) := ⟨rfl, rfl, rfl, by decide +kernel, rfl, by decide +kernel, by decide +kernel⟩
theorem ok__law_lost (T : Txt K mg) : CalF P w K mg base 4 "_law_lost" (spM (gmOf K) [.l .fz] [.l .fz] [.fz] .fz (mm__law_lost)) := by
  obtain ⟨fd, F⟩ := T.f__law_lost
  refine mkF (N := ["_law_bag_here", "_law_plan_here", "_law_kind", "_law_found", "_law_tree_here", "_law_links", "_law_trees"]) (ps := ["_law_bag_here", "_law_plan_here"]) [.l .fz] [.l .fz] [.fz] .fz [.l .fz, .fz, .hole, .hole, .hole, .hole, .hole] F T.g__law_lost sc__law_lost (fun _ _ _ _ _ _ us hl => match us, hl with | [_, _], _ => rfl) fun cdv A outer s H E hr => ?_
  have nd := sc__law_lost.nd
  exact ⟨_, [.l .fz, .fz, .hole, .hole, .hole, .hole, .hole], (pss_cons (ps_par (i := 5) (j := 6) rfl nd rfl rfl (by decide) rfl rfl (pa_cons (pe_callB call_lenA rfl T.n_len boot_len (pa_cons (pe_dget (hu1 hr) (pv 1) pe_str (fun _ _ => rfl)) pa_nil)) (pa_cons (pe_dget (hu1 hr) (pv 1) pe_str (fun _ _ => rfl)) pa_nil)) (by rfl)) (pss_cons (ps_set (i := 2) nd rfl (by first | exact Or.inl rfl | exact Or.inr rfl) (pe_cf (ok__law_draw T) hr (by decide) rfl (pa_cons (pv 0) (pa_cons pe_int pa_nil)))) (pss_cons (ps_if (pt_cmpR op_lt (pv 2) pe_int (nomark _)) (pss_one (ps_ret (pe_cf (ok__law_lot T) hr (by decide) rfl (pa_cons (pv 0) (pa_cons (pv 5) (pa_cons (pe_ix ix_seq (pe_lst (pa_cons pe_int (pa_cons pe_int (pa_cons pe_int (pa_cons pe_int pa_nil))))) (pe_cf (ok__law_draw T) hr (by decide) rfl (pa_cons (pv 0) (pa_cons pe_int pa_nil))) (fun _ _ => rfl)) pa_nil)))))) pss_nil) (pss_cons (ps_if (pt_cmpR (op_eqD (hu64 hr)) (pv 2) pe_int (nomark _)) (pss_one (ps_ret (pe_callTy call_tuple_of rfl T.n_tuple boot_tuple (pa_cons (pe_callB cr_sortedI rfl T.n_sorted boot_sorted (pa_cons (pe_cf (ok__law_way T) hr (by decide) rfl (pa_cons (pv 1) (pa_cons (pe_cf (ok__law_draw T) hr (by decide) rfl (pa_cons (pv 0) (pa_cons (pe_callB call_lenA rfl T.n_len boot_len (pa_cons (pv 6) pa_nil)) pa_nil))) (pa_cons (pe_cf (ok__law_draw T) hr (by decide) rfl (pa_cons (pv 0) (pa_cons (pe_dget (hu1 hr) (pv 1) pe_str (fun _ _ => rfl)) pa_nil))) pa_nil)))) pa_nil)) pa_nil)))) pss_nil) (pss_cons (ps_if (pt_cmpR (op_eqD (hu64 hr)) (pv 2) pe_int (nomark _)) (pss_one (ps_ret (pe_callTy call_tuple_of rfl T.n_tuple boot_tuple (pa_cons (pe_ix ix_seq (pv 6) (pe_cf (ok__law_draw T) hr (by decide) rfl (pa_cons (pv 0) (pa_cons (pe_callB call_lenA rfl T.n_len boot_len (pa_cons (pv 6) pa_nil)) pa_nil))) (fun _ _ => rfl)) pa_nil)))) pss_nil) (pss_cons (ps_set (i := 3) nd rfl (by first | exact Or.inl rfl | exact Or.inr rfl) (pe_lst pa_nil)) (pss_cons (ps_for PassesOwn.never rfl (pi_range1 rfl T.n_range (pa_cons (pe_callB call_lenA rfl T.n_len boot_len (pa_cons (pv 6) pa_nil)) pa_nil)) (pg_name (i := 4) nd rfl (by first | exact Or.inl rfl | exact Or.inr rfl)) (pss_cons (ps_if (PW.pt (pw_and (pt_cmpR (op_eqD (hu64 hr)) (pv 2) pe_int (nomark _)) (pw_and1 (pt_cmpR (op_eqD (hu64 hr)) (pe_callB call_lenA rfl T.n_len boot_len (pa_cons (pv 3) pa_nil)) (pe_op op_sub (pe_callB call_lenA rfl T.n_len boot_len (pa_cons (pv 6) pa_nil)) (pe_dget (hu1 hr) (pv 1) pe_str (fun _ _ => rfl))) (nomark _))))) (pss_one ps_break) pss_nil) (pss_one (ps_if (pt_cmpR op_gt (pe_cf (ok__law_draw T) hr (by decide) rfl (pa_cons (pv 0) (pa_cons pe_int pa_nil))) pe_int (nomark _)) (pss_one (ps_expr (pe_bm PySem.F.plainAttrs_list PySem.F.slot_list_append PySem.F.type_list_append mt_append (pv 3) (pa_cons (pe_ix ix_seq (pe_ix ix_seq (pv 6) (pv 4) (fun _ _ => rfl)) (pe_cf (ok__law_draw T) hr (by decide) rfl (pa_cons (pv 0) (pa_cons (pe_callB call_lenA rfl T.n_len boot_len (pa_cons (pe_ix ix_seq (pv 6) (pv 4) (fun _ _ => rfl)) pa_nil)) pa_nil))) (fun _ _ => rfl)) pa_nil)))) pss_nil)))) (pss_one (ps_ret (pe_callTy call_tuple_of rfl T.n_tuple boot_tuple (pa_cons (pe_callB cr_sortedI rfl T.n_sorted boot_sorted (pa_cons (pv 3) pa_nil)) pa_nil))))))))))),
    (RS.seq (ms1 := [.l .fz, .fz, .hole, .hole, .hole, .fz, .fz]) (RS.par (RA.cons (RE.cb ON.len (RA.cons (RE.dget (RE.var rfl) RE.str) RA.nil)) (RA.cons (RE.dget (RE.var rfl) RE.str) RA.nil))) (RS.seq (ms1 := [.l .fz, .fz, .fz, .hole, .hole, .fz, .fz]) (RS.set2 (RE.call1 0 (RA.cons RE.int RA.nil) rfl)) (RS.seq (ms1 := [.l .fz, .fz, .fz, .hole, .hole, .fz, .fz]) (RS.ifs (RT.test (RE.op2 O2.lt (RE.var rfl) RE.int)) (RS.ret (RE.call1 0 (RA.cons (RE.var rfl) (RA.cons (RE.op2 (O2.ix rfl) (RE.lst (m := .fz) (RA.cons RE.int (RA.cons RE.int (RA.cons RE.int (RA.cons RE.int RA.nil))))) (RE.call1 0 (RA.cons RE.int RA.nil) rfl)) RA.nil)) rfl)) RS.nil) (RS.seq (ms1 := [.l .fz, .fz, .fz, .hole, .hole, .fz, .fz]) (RS.ifs (RT.test (RE.op2 O2.eq (RE.var rfl) RE.int)) (RS.ret (RE.cb (ON.tuple) (RA.cons (RE.cb (ON.sorted) (RA.cons (RE.call (RA.cons (RE.var rfl) (RA.cons (RE.call1 0 (RA.cons (RE.cb ON.len (RA.cons (RE.var rfl) RA.nil)) RA.nil) rfl) (RA.cons (RE.call1 0 (RA.cons (RE.dget (RE.var rfl) RE.str) RA.nil) rfl) RA.nil)))) RA.nil)) RA.nil))) RS.nil) (RS.seq (ms1 := [.l .fz, .fz, .fz, .hole, .hole, .fz, .fz]) (RS.ifs (RT.test (RE.op2 O2.eq (RE.var rfl) RE.int)) (RS.ret (RE.cb (ON.tuple) (RA.cons (RE.op2 (O2.ix rfl) (RE.var rfl) (RE.call1 0 (RA.cons (RE.cb ON.len (RA.cons (RE.var rfl) RA.nil)) RA.nil) rfl)) RA.nil))) RS.nil) (RS.seq (ms1 := [.l .fz, .fz, .fz, .l .fz, .hole, .fz, .fz]) (RS.set2 (RE.lst (m := .fz) RA.nil)) (RS.seq (ms1 := [.l .fz, .fz, .fz, .l .fz, .hole, .fz, .fz]) (RS.for (RI.range1 (RA.cons (RE.cb ON.len (RA.cons (RE.var rfl) RA.nil)) RA.nil)) (RG.name 4) (RS.void2 [4] [.l .fz, .fz, .fz, .l .fz, .fz, .fz, .fz] (RS.seq (ms1 := [.l .fz, .fz, .fz, .l .fz, .fz, .fz, .fz]) (RS.ifs (RT.and (RT.test (RE.op2 O2.eq (RE.var rfl) RE.int)) (RT.test (RE.op2 O2.eq (RE.cbv 3 ON.len rfl rfl) (RE.op2 O2.sub (RE.cb ON.len (RA.cons (RE.var rfl) RA.nil)) (RE.dget (RE.var rfl) RE.str))))) (RS.brk [4]) RS.nil) (RS.ifs (RT.test (RE.op2 O2.gt (RE.call1 0 (RA.cons RE.int RA.nil) rfl) RE.int)) (RS.append 3 (RE.op2 (O2.ix rfl) (RE.op2 (O2.ix rfl) (RE.var rfl) (RE.var rfl)) (RE.call1 0 (RA.cons (RE.cb ON.len (RA.cons (RE.op2 (O2.ix rfl) (RE.var rfl) (RE.var rfl)) RA.nil)) RA.nil) rfl)) rfl rfl) RS.nil)))) (RS.ret (RE.cb (ON.tuple) (RA.cons (RE.cbv 3 (ON.sorted) rfl rfl) RA.nil))))))))))⟩
def m_law : MS := (mSeq (mSet 1 (mCall mm__law_bag (mCons (mVar 0) mNil))) (mSeq (mSet 2 (mCall1 1 mm__law_plan (mCons (mC (.int 9)) mNil))) (mSeq (mSet 3 (mCall mm__law_made (mCons (mVar 2) mNil))) (mSeq (mSetG (mgTup 2 (mgCons (fun d δ => some (δ.set 7 d)) (mgCons (fun d δ => some (δ.set 8 d)) mgNil))) (mTup (mCons (mCB lenD (mCons (mOp DL.getD (mVar 2) (mC (.str "links"))) mNil)) (mCons (mOp DL.getD (mVar 2) (mC (.str "trees"))) mNil)))) (mSeq (mFor (mRng1 (mCons (mC (.int 6)) mNil)) (fun d δ => some (δ.set 4 d)) (mThenVoid [4, 9, 10, 11, 12] (mSeq (mSet 9 (mCall1 1 mm__law_lost (mCons (mVar 2) mNil))) (mSeq (mSet 10 (mCall mm_stopped (mCons (mVar 3) (mCons (mVar 9) mNil)))) (mSeq (mIfS (mOr (mNot (mTest (mCall (mm__law_is_same 2) (mCons (mVar 10) (mCons (mCall mm__law_stopped (mCons (mVar 2) (mCons (mVar 9) mNil))) mNil))))) (mTest (mOp (inD false) (mOp DL.getD (mVar 2) (mC (.str "root"))) (mVar 10)))) (mRet 0 (mC (.bl false))) mNx) (mSeq (mSet 11 (mCB tupOfD (mCons (mUn sortSetD (mCB listOfD (mCons (mOp catT (mVar 9) (mCall1 1 mm__law_lot (mCons (mVar 7) (mCons (mC (.int 2)) mNil)))) mNil))) mNil))) (mSeq (mSet 12 (mCall mm_stopped (mCons (mVar 3) (mCons (mVar 11) mNil)))) (mSeq (mIfS (mOr (mNot (mTest (mCall (mm__law_is_same 2) (mCons (mVar 12) (mCons (mCall mm__law_stopped (mCons (mVar 2) (mCons (mVar 11) mNil))) mNil))))) (mNot (mTest (mCB allD (mCons (mLcG [13] (mITup (mVar 10)) (fun d δ => some (δ.set 13 d)) mYes (mOp (inD false) (mVar 13) (mVar 12))) mNil))))) (mRet 0 (mC (.bl false))) mNx) (mSeq (mIfS (mAnd (mTest (mOp leI (mCB lenD (mCons (mVar 9) mNil)) (mOp subI (mCB lenD (mCons (mVar 8) mNil)) (mOp DL.getD (mVar 2) (mC (.str "size")))))) (mTest (mOp neD (mVar 10) (mTup mNil)))) (mRet 0 (mC (.bl false))) mNx) (mIfS (mNot (mTest (mCall (mm__law_is_same 2) (mCons (mCall mm_stopped (mCons (mVar 3) (mCons (mVar 9) mNil))) (mCons (mVar 10) mNil))))) (mRet 0 (mC (.bl false))) mNx)))))))))) (mSeq (mSet 5 (mCB tupOfD (mCons (mLcG [13] (mRng1 (mCons (mOp DL.getD (mVar 2) (mC (.str "many"))) mNil)) (fun d δ => some (δ.set 13 d)) (mTest (mOp neD (mVar 13) (mOp DL.getD (mVar 2) (mC (.str "root"))))) (mVar 13)) mNil))) (mSeq (mSet 6 (mCB tupOfD (mCons (mLcG [14] (mRng1 (mCons (mVar 7) mNil)) (fun d δ => some (δ.set 14 d)) (mNot (mTest (mCB anyD (mCons (mLcG [15] (mIList (mVar 8)) (fun d δ => some (δ.set 15 d)) mYes (mOp (inD false) (mVar 14) (mVar 15))) mNil)))) (mVar 14)) mNil))) (mRet 0 (mAndV (mOp eqD (mCall mm_stopped (mCons (mVar 3) (mCons (mTupRg1 (mVar 7)) mNil))) (mVar 5)) (mAndV (mOp eqD (mCall mm_stopped (mCons (mVar 3) (mCons (mTup mNil) mNil))) (mTup mNil)) (mOp eqD (mCall mm_stopped (mCons (mVar 3) (mCons (mVar 6) mNil))) (mTup mNil))))))))))))
def mm_law : List D → Option (D × List D) := mFn 16 m_law
theorem sc_law : FnScope ["_law_script", "_law_bag_here", "_law_plan_here", "_law_made_here", "_law_k", "_law_others", "_law_idle", "_law_links", "_law_trees", "_law_lost_here", "_law_told", "_law_more", "_law_later", "_law_place", "_law_link", "_law_tree_here"] ["_law_script"] (L2.defScope (top 58)) := ⟨rfl, rfl, rfl, by decide +kernel, rfl, by decide +kernel, by decide +kernel⟩
theorem fn_law {fd : FuncData} (T : Txt K mg) (F : FunD K "law" "law" (L2.defArgs (top 58)) (L2.defBody (top 58)) (L2.defScope (top 58)) [] [] (He.ga K "law") fd) : FnOk P w K mg base L2.CX0 12 (He.ga K "law") fd ["_law_script"] (spM (gmOf K) [] [] [.fz] .fz (mm_law)) := by
  refine mkFn (N := ["_law_script", "_law_bag_here", "_law_plan_here", "_law_made_here", "_law_k", "_law_others", "_law_idle", "_law_links", "_law_trees", "_law_lost_here", "_law_told", "_law_more", "_law_later", "_law_place", "_law_link", "_law_tree_here"]) (ps := ["_law_script"]) [] [] [.fz] .fz [.fz, .hole, .hole, .hole, .hole, .hole, .hole, .hole, .hole, .hole, .hole, .hole, .hole, .hole, .hole, .hole] F sc_law fun cdv A outer s H E hr => ?_
  have nd := sc_law.nd
  exact ⟨_, [.fz, .hole, .hole, .hole, .hole, .hole, .hole, .hole, .hole, .hole, .hole, .hole, .hole, .hole, .hole, .hole], (pss_cons (ps_set (i := 1) nd rfl (by first | exact Or.inl rfl | exact Or.inr rfl) (pe_cf (ok__law_bag T) hr (by decide) rfl (pa_cons (pv 0) pa_nil))) (pss_cons (ps_set (i := 2) nd rfl (by first | exact Or.inl rfl | exact Or.inr rfl) (pe_cf (ok__law_plan T) hr (by decide) rfl (pa_cons (pv 1) (pa_cons pe_int pa_nil)))) (pss_cons (ps_set (i := 3) nd rfl (by first | exact Or.inl rfl | exact Or.inr rfl) (pe_cf (ok__law_made T) hr (by decide) rfl (pa_cons (pv 2) pa_nil))) (pss_cons (ps_asg (pe_tup (pa_cons (pe_callB call_lenA rfl T.n_len boot_len (pa_cons (pe_dget (hu1 hr) (pv 2) pe_str (fun _ _ => rfl)) pa_nil)) (pa_cons (pe_dget (hu1 hr) (pv 2) pe_str (fun _ _ => rfl)) pa_nil))) (pg_tup (n := 2) rfl (pgs_cons (pg_name (i := 7) nd rfl (by first | exact Or.inl rfl | exact Or.inr rfl)) (pgs_cons (pg_name (i := 8) nd rfl (by first | exact Or.inl rfl | exact Or.inr rfl)) pgs_nil)))) (pss_cons (ps_for PassesOwn.never rfl (pi_range1 rfl T.n_range (pa_cons pe_int pa_nil)) (pg_name (i := 4) nd rfl (by first | exact Or.inl rfl | exact Or.inr rfl)) (pss_cons (ps_set (i := 9) nd rfl (by first | exact Or.inl rfl | exact Or.inr rfl) (pe_cf (ok__law_lost T) hr (by decide) rfl (pa_cons (pv 1) (pa_cons (pv 2) pa_nil)))) (pss_cons (ps_set (i := 10) nd rfl (by first | exact Or.inl rfl | exact Or.inr rfl) (pe_cf (ok_stopped T) hr (by decide) rfl (pa_cons (pv 3) (pa_cons (pv 9) pa_nil)))) (pss_cons (ps_if (PW.pt (pw_or (pt_not (pt_val (pe_cf (ok__law_is_same 2 T) hr (by decide) rfl (pa_cons (pv 10) (pa_cons (pe_cf (ok__law_stopped T) hr (by decide) rfl (pa_cons (pv 2) (pa_cons (pv 9) pa_nil))) pa_nil))))) (pw_or1 (pt_cmpR op_in_seq (pe_dget (hu1 hr) (pv 2) pe_str (fun _ _ => rfl)) (pv 10) rfl)))) (pss_one (ps_ret pe_bl)) pss_nil) (pss_cons (ps_set (i := 11) nd rfl (by first | exact Or.inl rfl | exact Or.inr rfl) (pe_callTy call_tuple_of rfl T.n_tuple boot_tuple (pa_cons (pe_callB (cr_sortedSet rfl) rfl T.n_sorted boot_sorted (pa_cons (pe_callTy (cr_setI rfl) rfl T.n_set boot_set (pa_cons (pe_callTy call_list_of rfl T.n_list boot_list (pa_cons (pe_op op_catA (pv 9) (pe_cf (ok__law_lot T) hr (by decide) rfl (pa_cons (pv 1) (pa_cons (pv 7) (pa_cons pe_int pa_nil))))) pa_nil)) pa_nil)) pa_nil)) pa_nil))) (pss_cons (ps_set (i := 12) nd rfl (by first | exact Or.inl rfl | exact Or.inr rfl) (pe_cf (ok_stopped T) hr (by decide) rfl (pa_cons (pv 3) (pa_cons (pv 11) pa_nil)))) (pss_cons (ps_if (PW.pt (pw_or (pt_not (pt_val (pe_cf (ok__law_is_same 2 T) hr (by decide) rfl (pa_cons (pv 12) (pa_cons (pe_cf (ok__law_stopped T) hr (by decide) rfl (pa_cons (pv 2) (pa_cons (pv 11) pa_nil))) pa_nil))))) (pw_or1 (pt_not (pt_val (pe_callB (cr_all rfl) rfl T.n_all boot_all (pa_cons (pe_lc (own := [("_law_place", 13)]) rfl nd (pi_tup (pv 10)) (blkOk_by (by kernel_rfl)) (fun _ _ _ _ _ => (pg_name (i := 13) nd rfl (by first | exact Or.inl rfl | exact Or.inr rfl))) (fun _ _ _ _ _ => pts_nil) (fun _ _ _ _ _ => (pe_cmpR op_in_seq (pv 13) (pv 12) rfl))) pa_nil))))))) (pss_one (ps_ret pe_bl)) pss_nil) (pss_cons (ps_if (PW.pt (pw_and (pt_cmpR op_le (pe_callB call_lenA rfl T.n_len boot_len (pa_cons (pv 9) pa_nil)) (pe_op op_sub (pe_callB call_lenA rfl T.n_len boot_len (pa_cons (pv 8) pa_nil)) (pe_dget (hu1 hr) (pv 2) pe_str (fun _ _ => rfl))) (nomark _)) (pw_and1 (pt_cmpR (op_neD (hu64 hr)) (pv 10) (pe_tup pa_nil) (nomark _))))) (pss_one (ps_ret pe_bl)) pss_nil) (pss_one (ps_if (pt_not (pt_val (pe_cf (ok__law_is_same 2 T) hr (by decide) rfl (pa_cons (pe_cf (ok_stopped T) hr (by decide) rfl (pa_cons (pv 3) (pa_cons (pv 9) pa_nil))) (pa_cons (pv 10) pa_nil))))) (pss_one (ps_ret pe_bl)) pss_nil)))))))))) (pss_cons (ps_set (i := 5) nd rfl (by first | exact Or.inl rfl | exact Or.inr rfl) (pe_callTy call_tuple_of rfl T.n_tuple boot_tuple (pa_cons (pe_lc (own := [("_law_place", 13)]) rfl nd (pi_range1 rfl T.n_range (pa_cons (pe_dget (hu1 hr) (pv 2) pe_str (fun _ _ => rfl)) pa_nil)) (blkOk_by (by kernel_rfl)) (fun _ _ _ _ _ => (pg_name (i := 13) nd rfl (by first | exact Or.inl rfl | exact Or.inr rfl))) (fun _ _ _ _ _ => pts_one (pt_cmpR (op_neD (hu64 hr)) (pv 13) (pe_dget (hu1 hr) (pv 2) pe_str (fun _ _ => rfl)) (nomark _))) (fun _ _ _ _ _ => (pv 13))) pa_nil))) (pss_cons (ps_set (i := 6) nd rfl (by first | exact Or.inl rfl | exact Or.inr rfl) (pe_callTy call_tuple_of rfl T.n_tuple boot_tuple (pa_cons (pe_lc (own := [("_law_link", 14)]) rfl nd (pi_range1 rfl T.n_range (pa_cons (pv 7) pa_nil)) (blkOk_by (by kernel_rfl)) (fun _ _ _ _ _ => (pg_name (i := 14) nd rfl (by first | exact Or.inl rfl | exact Or.inr rfl))) (fun _ _ _ _ _ => pts_one (pt_not (pt_val (pe_callB (cr_any rfl) rfl T.n_any boot_any (pa_cons (pe_lc (own := [("_law_tree_here", 15)]) rfl nd (pi_list (pv 8)) (blkOk_by (by kernel_rfl)) (fun _ _ _ _ _ => (pg_name (i := 15) nd rfl (by first | exact Or.inl rfl | exact Or.inr rfl))) (fun _ _ _ _ _ => pts_nil) (fun _ _ _ _ _ => (pe_cmpR op_in_seq (pv 14) (pv 15) rfl))) pa_nil))))) (fun _ _ _ _ _ => (pv 14))) pa_nil))) (pss_one (ps_ret (pe_and (pe_cmpR (op_eqD (hu64 hr)) (pe_cf (ok_stopped T) hr (by decide) rfl (pa_cons (pv 3) (pa_cons (pe_tupRg rfl rfl T.n_tuple (prg_1 rfl T.n_range (pv 7))) pa_nil))) (pv 5) (nomark _)) (pe_and (pe_cmpR (op_eqD (hu64 hr)) (pe_cf (ok_stopped T) hr (by decide) rfl (pa_cons (pv 3) (pa_cons (pe_tup pa_nil) pa_nil))) (pe_tup pa_nil) (nomark _)) (pe_one (pe_cmpR (op_eqD (hu64 hr)) (pe_cf (ok_stopped T) hr (by decide) rfl (pa_cons (pv 3) (pa_cons (pv 6) pa_nil))) (pe_tup pa_nil) (nomark _)))))))))))))),
    (RS.seq (ms1 := [.fz, .l .fz, .hole, .hole, .hole, .hole, .hole, .hole, .hole, .hole, .hole, .hole, .hole, .hole, .hole, .hole]) (RS.set2 (RE.call (RA.cons (RE.var rfl) RA.nil))) (RS.seq (ms1 := [.fz, .l .fz, .fz, .hole, .hole, .hole, .hole, .hole, .hole, .hole, .hole, .hole, .hole, .hole, .hole, .hole]) (RS.set2 (RE.call1 1 (RA.cons RE.int RA.nil) rfl)) (RS.seq (ms1 := [.fz, .l .fz, .fz, .fz, .hole, .hole, .hole, .hole, .hole, .hole, .hole, .hole, .hole, .hole, .hole, .hole]) (RS.set2 (RE.call (RA.cons (RE.var rfl) RA.nil))) (RS.seq (ms1 := [.fz, .l .fz, .fz, .fz, .hole, .hole, .hole, .fz, .fz, .hole, .hole, .hole, .hole, .hole, .hole, .hole]) (RS.setG (RE.tup (RA.cons (RE.cb ON.len (RA.cons (RE.dget (RE.var rfl) RE.str) RA.nil)) (RA.cons (RE.dget (RE.var rfl) RE.str) RA.nil))) (RG.tup (RGs.cons (RG.name 7) (RGs.cons (RG.name 8) RGs.nil)))) (RS.seq (ms1 := [.fz, .l .fz, .fz, .fz, .hole, .hole, .hole, .fz, .fz, .hole, .hole, .hole, .hole, .hole, .hole, .hole]) (RS.for (RI.range1 (RA.cons RE.int RA.nil)) (RG.name 4) (RS.void2 [4, 9, 10, 11, 12] [.fz, .l .fz, .fz, .fz, .fz, .hole, .hole, .fz, .fz, .fz, .fz, .fz, .fz, .hole, .hole, .hole] (RS.seq (ms1 := [.fz, .l .fz, .fz, .fz, .fz, .hole, .hole, .fz, .fz, .fz, .hole, .hole, .hole, .hole, .hole, .hole]) (RS.set2 (RE.call1 1 (RA.cons (RE.var rfl) RA.nil) rfl)) (RS.seq (ms1 := [.fz, .l .fz, .fz, .fz, .fz, .hole, .hole, .fz, .fz, .fz, .fz, .hole, .hole, .hole, .hole, .hole]) (RS.set2 (RE.call (RA.cons (RE.var rfl) (RA.cons (RE.var rfl) RA.nil)))) (RS.seq (ms1 := [.fz, .l .fz, .fz, .fz, .fz, .hole, .hole, .fz, .fz, .fz, .fz, .hole, .hole, .hole, .hole, .hole]) (RS.ifs (RT.or (RT.not (RT.val (RE.call (RA.cons (RE.var rfl) (RA.cons (RE.call (RA.cons (RE.var rfl) (RA.cons (RE.var rfl) RA.nil))) RA.nil))))) (RT.test (RE.op2 (O2.inn rfl) (RE.dget (RE.var rfl) RE.str) (RE.var rfl)))) (RS.ret RE.bl) RS.nil) (RS.seq (ms1 := [.fz, .l .fz, .fz, .fz, .fz, .hole, .hole, .fz, .fz, .fz, .fz, .fz, .hole, .hole, .hole, .hole]) (RS.set2 (RE.cb (ON.tuple) (RA.cons (RE.sortSet (RE.cb (ON.list) (RA.cons (RE.op2 O2.catT (RE.var rfl) (RE.call1 1 (RA.cons (RE.var rfl) (RA.cons RE.int RA.nil)) rfl)) RA.nil))) RA.nil))) (RS.seq (ms1 := [.fz, .l .fz, .fz, .fz, .fz, .hole, .hole, .fz, .fz, .fz, .fz, .fz, .fz, .hole, .hole, .hole]) (RS.set2 (RE.call (RA.cons (RE.var rfl) (RA.cons (RE.var rfl) RA.nil)))) (RS.seq (ms1 := [.fz, .l .fz, .fz, .fz, .fz, .hole, .hole, .fz, .fz, .fz, .fz, .fz, .fz, .hole, .hole, .hole]) (RS.ifs (RT.or (RT.not (RT.val (RE.call (RA.cons (RE.var rfl) (RA.cons (RE.call (RA.cons (RE.var rfl) (RA.cons (RE.var rfl) RA.nil))) RA.nil))))) (RT.not (RT.val (RE.cb (ON.all) (RA.cons (RE.lc (vs := [13]) (RI.tup (RE.var rfl)) (RG.name 13) RT.yes (RE.op2 (O2.inn rfl) (RE.var rfl) (RE.var rfl)) (hv := by exact hole_at (by rfl))) RA.nil))))) (RS.ret RE.bl) RS.nil) (RS.seq (ms1 := [.fz, .l .fz, .fz, .fz, .fz, .hole, .hole, .fz, .fz, .fz, .fz, .fz, .fz, .hole, .hole, .hole]) (RS.ifs (RT.and (RT.test (RE.op2 O2.le (RE.cb ON.len (RA.cons (RE.var rfl) RA.nil)) (RE.op2 O2.sub (RE.cb ON.len (RA.cons (RE.var rfl) RA.nil)) (RE.dget (RE.var rfl) RE.str)))) (RT.test (RE.op2 O2.ne (RE.var rfl) (RE.tup RA.nil)))) (RS.ret RE.bl) RS.nil) (RS.ifs (RT.not (RT.val (RE.call (RA.cons (RE.call (RA.cons (RE.var rfl) (RA.cons (RE.var rfl) RA.nil))) (RA.cons (RE.var rfl) RA.nil))))) (RS.ret RE.bl) RS.nil)))))))))) (RS.seq (ms1 := [.fz, .l .fz, .fz, .fz, .hole, .fz, .hole, .fz, .fz, .hole, .hole, .hole, .hole, .hole, .hole, .hole]) (RS.set2 (RE.cb (ON.tuple) (RA.cons (RE.lc (vs := [13]) (RI.range1 (RA.cons (RE.dget (RE.var rfl) RE.str) RA.nil)) (RG.name 13) (RT.test (RE.op2 O2.ne (RE.var rfl) (RE.dget (RE.var rfl) RE.str))) (RE.var rfl) (hv := by exact hole_at (by rfl))) RA.nil))) (RS.seq (ms1 := [.fz, .l .fz, .fz, .fz, .hole, .fz, .fz, .fz, .fz, .hole, .hole, .hole, .hole, .hole, .hole, .hole]) (RS.set2 (RE.cb (ON.tuple) (RA.cons (RE.lc (vs := [14]) (RI.range1 (RA.cons (RE.var rfl) RA.nil)) (RG.name 14) (RT.not (RT.val (RE.cb (ON.any) (RA.cons (RE.lc (vs := [15]) (RI.list (RE.var rfl)) (RG.name 15) RT.yes (RE.op2 (O2.inn rfl) (RE.var rfl) (RE.var rfl)) (hv := by exact hole_at (by rfl))) RA.nil)))) (RE.var rfl) (hv := by exact hole_at (by rfl))) RA.nil))) (RS.ret (RE.andV (RE.op2 O2.eq (RE.call (RA.cons (RE.var rfl) (RA.cons (RE.tupRg1 (RE.var rfl)) RA.nil))) (RE.var rfl)) (RE.andV (RE.op2 O2.eq (RE.call (RA.cons (RE.var rfl) (RA.cons (RE.tup RA.nil) RA.nil))) (RE.tup RA.nil)) (RE.op2 O2.eq (RE.call (RA.cons (RE.var rfl) (RA.cons (RE.var rfl) RA.nil))) (RE.tup RA.nil))))))))))))⟩
theorem bind_law {fd : FuncData} (F : FunD K "law" "law" (L2.defArgs (top 58)) (L2.defBody (top 58)) (L2.defScope (top 58)) [] [] (He.ga K "law") fd) (s : Shared) (v : Value) : BindsTo s fd ⟨[v], []⟩ [("_law_script", v)] :=
  L2.FunD.bindsA (ps := ["_law_script"]) F (fun _ _ _ _ _ _ us hl => match us, hl with | [_], _ => rfl) s [v] rfl
end
end W51

namespace DL
open PySem
/-! ### readings of the operations on encoded values -/
def iT (ns : List Int) : D := .tup (ns.map .int)
def iL (ns : List Int) : D := .lst (ns.map .int)
theorem eqB_int (a b : Int) : eqB (.int a) (.int b) = decide (a = b) := by
  show (a == b) = decide (a = b)
  by_cases h : a = b <;> simp [h]
theorem seq_next {f g : MS} {δ δ1 : List D} {o : Option Out} (h : f δ = some (.nx δ1)) (h2 : g δ1 = o) : mSeq f g δ = o := by
  unfold mSeq
  rw [h]
  exact h2
theorem seq_ret {f g : MS} {δ : List D} {d : D} {i : List D} (h : f δ = some (.rt d i)) : mSeq f g δ = some (.rt d i) := by
  unfold mSeq
  rw [h]
  rfl
theorem lc_pure {α : Type} {enc : α → D} {i : Nat} {gt : MT} {ge : ME} {xs : List α} {δ : List D} (p : α → Bool) (f : α → D) (hi : δ[i]? = some .hole)
    (ht : ∀ x ∈ xs, gt (δ.set i (enc x)) = some (p x, δ.set i (enc x))) (he : ∀ x ∈ xs, p x = true → ge (δ.set i (enc x)) = some (f x, δ.set i (enc x))) :
    lcL [i] (fun d δ => some (δ.set i d)) gt ge (xs.map enc) δ = some ((xs.filter p).map f, δ) := by
  have hz : ∀ y : D, (δ.set i y).set i .hole = δ := fun y => by rw [List.set_set]; exact set_same hi
  induction xs with
  | nil => rfl
  | cons x xs ih =>
    rw [List.map_cons, lcL]
    have t1 := ht x List.mem_cons_self
    have ih := ih (fun y hy => ht y (List.mem_cons_of_mem _ hy)) fun y hy => he y (List.mem_cons_of_mem _ hy)
    simp only [Option.bind_some, t1]
    cases q : p x with
    | false =>
      simp only [Bool.false_eq_true, if_false, voidL, hz, ih, List.filter_cons, q]
    | true =>
      have e1 := he x List.mem_cons_self q
      simp only [if_true, e1, Option.bind_some, voidL, hz, ih, Option.map_some, List.filter_cons, q, List.map_cons]
theorem lc_map {α : Type} {enc : α → D} {i : Nat} {ge : ME} {xs : List α} {δ : List D} (f : α → D) (hi : δ[i]? = some .hole)
    (he : ∀ x ∈ xs, ge (δ.set i (enc x)) = some (f x, δ.set i (enc x))) :
    lcL [i] (fun d δ => some (δ.set i d)) mYes ge (xs.map enc) δ = some (xs.map f, δ) := by
  have := lc_pure (enc := enc) (gt := mYes) (ge := ge) (xs := xs) (δ := δ) (fun _ => true) f hi (fun _ _ => rfl) fun x hx _ => he x hx
  rw [this, List.filter_eq_self.mpr fun _ _ => rfl]
theorem ints_map (ns : List Int) : intsD (ns.map D.int) = some ns := by
  induction ns with
  | nil => rfl
  | cons n ns ih => simp [intsD, ih]
theorem bls_map (ns : List Bool) : blsD (ns.map D.bl) = some ns := by
  induction ns with
  | nil => rfl
  | cons n ns ih => simp [blsD, ih]
theorem all_flat (ns : List Int) : (ns.map D.int).all flatB = true := by
  rw [List.all_eq_true]
  intro d hd
  obtain ⟨n, _, rfl⟩ := List.mem_map.mp hd
  rfl
theorem any_eq (ns : List Int) (x : Int) : ((ns.map D.int).any fun y => eqB y (.int x)) = decide (x ∈ ns) := by
  induction ns with
  | nil => simp
  | cons n ns ih =>
    rw [List.map_cons, List.any_cons, ih, eqB_int]
    by_cases h : x = n
    · subst h; simp
    · have h' : ¬ n = x := fun z => h z.symm
      simp [h, h']
theorem in_T (b : Bool) (x : Int) (ns : List Int) : inD b (.int x) (iT ns) = some (.bl (if b then !decide (x ∈ ns) else decide (x ∈ ns))) := by
  show (some (ns.map D.int)).bind _ = _
  rw [Option.bind_some, if_pos ⟨rfl, all_flat ns⟩, any_eq]
theorem in_L (b : Bool) (x : Int) (ns : List Int) : inD b (.int x) (iL ns) = some (.bl (if b then !decide (x ∈ ns) else decide (x ∈ ns))) := by
  show (some (ns.map D.int)).bind _ = _
  rw [Option.bind_some, if_pos ⟨rfl, all_flat ns⟩, any_eq]

theorem lcG_pure {α : Type} {enc : α → D} {i : Nat} {gi : MA} {gt : MT} {ge : ME} {xs : List α} {δ : List D} (p : α → Bool) (f : α → D) (hg : gi δ = some (xs.map enc, δ)) (hl : xs.length < 1000000) (hi : δ[i]? = some .hole)
    (ht : ∀ x ∈ xs, gt (δ.set i (enc x)) = some (p x, δ.set i (enc x))) (he : ∀ x ∈ xs, p x = true → ge (δ.set i (enc x)) = some (f x, δ.set i (enc x))) :
    mLcG [i] gi (fun d δ => some (δ.set i d)) gt ge δ = some (.lst ((xs.filter p).map f), δ) := by
  unfold mLcG
  rw [hg]
  simp only [Option.bind_some, List.length_map]
  rw [if_pos (show xs.length < lim from hl), lc_pure p f hi ht he]
  rfl
theorem lcG_map {α : Type} {enc : α → D} {i : Nat} {gi : MA} {ge : ME} {xs : List α} {δ : List D} (f : α → D) (hg : gi δ = some (xs.map enc, δ)) (hl : xs.length < 1000000) (hi : δ[i]? = some .hole)
    (he : ∀ x ∈ xs, ge (δ.set i (enc x)) = some (f x, δ.set i (enc x))) : mLcG [i] gi (fun d δ => some (δ.set i d)) mYes ge δ = some (.lst (xs.map f), δ) := by
  have := lcG_pure (enc := enc) (gt := mYes) (ge := ge) (xs := xs) (δ := δ) (gi := gi) (fun _ => true) f hg hl hi (fun _ _ => rfl) fun x hx _ => he x hx
  rw [this, List.filter_eq_self.mpr fun _ _ => rfl]
theorem eqD_int (a b : Int) : eqD (.int a) (.int b) = some (.bl (decide (a = b))) := by
  unfold eqD
  rw [if_pos ⟨rfl, rfl⟩, eqB_int]
theorem neD_int (a b : Int) : neD (.int a) (.int b) = some (.bl (!decide (a = b))) := by
  unfold neD
  rw [if_pos ⟨rfl, rfl⟩, eqB_int]
def prD (p : Int × Int) : D := .tup [.int p.1, .int p.2]
def lkT (ls : List (Int × Int)) : D := .tup (ls.map prD)
def lkL (ls : List (Int × Int)) : D := .lst (ls.map prD)
def lk (ls : List (Int × Int)) (x : Int) : Int × Int := ls.getD x.toNat (0, 0)
theorem at_int {α : Type} {xs : List α} {x : Int} {v : α} (h0 : 0 ≤ x) (h : xs[x.toNat]? = some v) : L2.atI xs x = some v := by
  have e : x = ((x.toNat : Nat) : Int) := by omega
  rw [e]
  exact L2.atI_nat h
theorem lk_get {ls : List (Int × Int)} {x : Int} (h0 : 0 ≤ x) (h : x < ls.length) : ls[x.toNat]? = some (lk ls x) := by
  unfold lk
  have z : x.toNat < ls.length := by omega
  rw [List.getD_eq_getElem?_getD, List.getElem?_eq_getElem z]
  rfl
theorem ix_lkT {ls : List (Int × Int)} {x : Int} (h0 : 0 ≤ x) (h : x < ls.length) : ixD (lkT ls) (.int x) = some (prD (lk ls x)) := by
  show L2.atI (ls.map prD) x = _
  exact at_int h0 (by rw [List.getElem?_map, lk_get h0 h]; rfl)
theorem ix_lkL {ls : List (Int × Int)} {x : Int} (h0 : 0 ≤ x) (h : x < ls.length) : ixD (lkL ls) (.int x) = some (prD (lk ls x)) := ix_lkT h0 h
theorem ix_pr0 (p : Int × Int) : ixD (prD p) (.int 0) = some (.int p.1) := rfl
theorem ix_pr1 (p : Int × Int) : ixD (prD p) (.int 1) = some (.int p.2) := rfl
theorem len_T (ns : List Int) : lenD [iT ns] = some (.int ns.length) := by
  show some (D.int ((ns.map D.int).length : Int)) = _
  rw [List.length_map]
theorem len_L (ns : List Int) : lenD [iL ns] = some (.int ns.length) := by
  show some (D.int ((ns.map D.int).length : Int)) = _
  rw [List.length_map]
theorem len_lkT (ls : List (Int × Int)) : lenD [lkT ls] = some (.int ls.length) := by
  show some (D.int ((ls.map prD).length : Int)) = _
  rw [List.length_map]
theorem len_lkL (ls : List (Int × Int)) : lenD [lkL ls] = some (.int ls.length) := by
  show some (D.int ((ls.map prD).length : Int)) = _
  rw [List.length_map]
theorem all_bl (bs : List Bool) : allD [.lst (bs.map D.bl)] = some (.bl (bs.all id)) := by
  show (blsD (bs.map D.bl)).map _ = _
  rw [bls_map]
  rfl
theorem any_bl (bs : List Bool) : anyD [.lst (bs.map D.bl)] = some (.bl (bs.any id)) := by
  show (blsD (bs.map D.bl)).map _ = _
  rw [bls_map]
  rfl
/-- the only one that does -/
theorem filter_one {t : List Int} {p : Int → Bool} {x : Int} (nd : t.Nodup) (hx : x ∈ t) (px : p x = true) (uq : ∀ y ∈ t, p y = true → y = x) : t.filter p = [x] := by
  have h1 : (t.filter p).Nodup := nd.filter p
  have h2 : ∀ y, y ∈ t.filter p ↔ y = x := fun y => by
    rw [List.mem_filter]
    exact ⟨fun z => uq y z.1 z.2, fun z => by subst z; exact ⟨hx, px⟩⟩
  cases e : t.filter p with
  | nil => 
    have := (h2 x).mpr rfl
    rw [e] at this
    cases this
  | cons a l =>
    rw [e] at h1 h2
    have ea : a = x := (h2 a).mp List.mem_cons_self
    subst ea
    cases l with
    | nil => rfl
    | cons b l =>
      have eb : b = a := (h2 b).mp (List.mem_cons_of_mem _ List.mem_cons_self)
      subst eb
      exact absurd List.mem_cons_self (List.nodup_cons.mp h1).1
theorem inc_nodup {t : List Int} (h : t.Pairwise (· < ·)) : t.Nodup := h.imp fun z e => by omega
theorem tupD_tup (xs : List D) : tupD (.tup xs) = true := rfl
theorem tupD_lst (xs : List D) : tupD (.lst xs) = false := rfl
theorem tupD_scr (xs : List D) : tupD (.scr xs) = false := rfl
theorem seqD_tup (xs : List D) : seqD (.tup xs) = some xs := rfl
theorem seqD_lst (xs : List D) : seqD (.lst xs) = some xs := rfl
theorem seqD_scr (xs : List D) : seqD (.scr xs) = some xs := rfl
theorem tupD_T (t : List Int) : tupD (iT t) = true := rfl
theorem seqD_T (t : List Int) : seqD (iT t) = some (t.map .int) := rfl
theorem tupD_L (t : List Int) : tupD (iL t) = false := rfl
theorem seqD_L (t : List Int) : seqD (iL t) = some (t.map .int) := rfl
theorem fn_ret {N : Nat} {g : MS} {ds δ : List D} {d : D} {ios : List D} (h : g δ = some (.rt d ios)) (h0 : ds ++ List.replicate (N - ds.length) .hole = δ := by rfl) : mFn N g ds = some (d, ios) := by
  unfold mFn
  rw [h0, h]
  rfl
theorem fnN_ret {N k : Nat} {g : MS} {ds δ : List D} {d : D} {ios : List D} (h : g δ = some (.rt d ios)) (h0 : ds ++ List.replicate (N - ds.length) .hole = δ := by rfl) : mFnN N k g ds = some (d, ios) := by
  unfold mFnN
  rw [h0, h]
  rfl
theorem fnN_end {N k : Nat} {g : MS} {ds δ δ1 : List D} (h : g δ = some (.nx δ1)) (h0 : ds ++ List.replicate (N - ds.length) .hole = δ := by rfl) : mFnN N k g ds = some (.non, δ1.take k) := by
  unfold mFnN
  rw [h0, h]
  rfl
theorem for_next {gi : MA} {gm : MG} {gb : MS} {δ δ1 ds : List D} {o : Option Out} (h : gi δ = some (ds, δ1)) (h2 : forL gm gb ds δ1 = o) : mFor gi gm gb δ = o := by
  unfold mFor
  rw [h]
  exact h2
theorem set_next {i : Nat} {f : ME} {δ δ1 : List D} {d : D} (h : f δ = some (d, δ1)) : mSet i f δ = some (.nx (δ1.set i d)) := by
  unfold mSet
  rw [h]
  rfl
theorem ret_next {k : Nat} {f : ME} {δ δ1 : List D} {d : D} (h : f δ = some (d, δ1)) : mRet k f δ = some (.rt d (δ1.take k)) := by
  unfold mRet
  rw [h]
  rfl
theorem if_f {c : MT} {f g : MS} {δ δ1 : List D} {o : Option Out} (h : c δ = some (false, δ1)) (h2 : g δ1 = o) : mIfS c f g δ = o := by
  unfold mIfS
  rw [h]
  exact h2
theorem if_t {c : MT} {f g : MS} {δ δ1 : List D} {o : Option Out} (h : c δ = some (true, δ1)) (h2 : f δ1 = o) : mIfS c f g δ = o := by
  unfold mIfS
  rw [h]
  exact h2
theorem not_next {c : MT} {δ δ1 : List D} {b : Bool} (h : c δ = some (b, δ1)) : mNot c δ = some (!b, δ1) := by
  unfold mNot
  rw [h]
  rfl
theorem test_next {f : ME} {δ δ1 : List D} {b : Bool} (h : f δ = some (.bl b, δ1)) : mTest f δ = some (b, δ1) := by
  unfold mTest
  rw [h]
  rfl
theorem call_next {mm : List D → Option (D × List D)} {fa : MA} {δ δ1 ds : List D} {d : D} {ios : List D} (h : fa δ = some (ds, δ1)) (h2 : mm ds = some (d, ios)) : mCall mm fa δ = some (d, δ1) := by
  unfold mCall
  rw [h]
  show (mm ds).map _ = _
  rw [h2]
  rfl
theorem cb_next {o : List D → Option D} {fa : MA} {δ δ1 ds : List D} {d : D} (h : fa δ = some (ds, δ1)) (h2 : o ds = some d) : mCB o fa δ = some (d, δ1) := by
  unfold mCB
  rw [h]
  show (o ds).map _ = _
  rw [h2]
  rfl
theorem cons_next {fa : ME} {fr : MA} {δ δ1 δ2 : List D} {d : D} {ds : List D} (h : fa δ = some (d, δ1)) (h2 : fr δ1 = some (ds, δ2)) : mCons fa fr δ = some (d :: ds, δ2) := by
  unfold mCons
  rw [h]
  show (fr δ1).map _ = _
  rw [h2]
  rfl
theorem op_next {o : D → D → Option D} {fa fb : ME} {δ δ1 δ2 : List D} {a b d : D} (h : fa δ = some (a, δ1)) (h2 : fb δ1 = some (b, δ2)) (h3 : o a b = some d) : mOp o fa fb δ = some (d, δ2) := by
  unfold mOp
  rw [h]
  show (fb δ1).bind _ = _
  rw [h2]
  show (o a b).map _ = _
  rw [h3]
  rfl
theorem un_next {o : D → Option D} {fa : ME} {δ δ1 : List D} {a d : D} (h : fa δ = some (a, δ1)) (h3 : o a = some d) : mUn o fa δ = some (d, δ1) := by
  unfold mUn
  rw [h]
  show (o a).map _ = _
  rw [h3]
  rfl
theorem and_next {fa fb : ME} {δ δ1 δ2 : List D} {a b : Bool} (h : fa δ = some (.bl a, δ1)) (h2 : fb δ1 = some (.bl b, δ2)) (he : a = false → δ2 = δ1) : mAndV fa fb δ = some (.bl (a && b), δ2) := by
  unfold mAndV
  rw [h]
  cases a with
  | false => rw [he rfl]; rfl
  | true => exact h2
theorem itup_next {gl : ME} {δ δ1 : List D} {ds : List D} (h : gl δ = some (.tup ds, δ1)) : mITup gl δ = some (ds, δ1) := by
  unfold mITup
  rw [h]
  rfl
theorem ilist_next {gl : ME} {δ δ1 : List D} {ds : List D} (h : gl δ = some (.lst ds, δ1)) : mIList gl δ = some (ds, δ1) := by
  unfold mIList
  rw [h]
  rfl
theorem drop_next {f : ME} {δ δ1 : List D} {d : D} (h : f δ = some (d, δ1)) : mDrop f δ = some (.nx δ1) := by
  unfold mDrop
  rw [h]
  rfl
theorem void_next {is : List Nat} {g : MS} {δ δ1 : List D} (h : g δ = some (.nx δ1)) : mThenVoid is g δ = some (.nx (voidL is δ1)) := by
  unfold mThenVoid
  rw [h]
  rfl
theorem or_next {fa fb : MT} {δ δ1 δ2 : List D} {b : Bool} (h : fa δ = some (false, δ1)) (h2 : fb δ1 = some (b, δ2)) : mOr fa fb δ = some (b, δ2) := by
  unfold mOr
  rw [h]
  exact h2
theorem or_first {fa fb : MT} {δ δ1 : List D} (h : fa δ = some (true, δ1)) : mOr fa fb δ = some (true, δ1) := by
  unfold mOr
  rw [h]
  rfl
theorem andT_next {fa fb : MT} {δ δ1 δ2 : List D} {b : Bool} (h : fa δ = some (true, δ1)) (h2 : fb δ1 = some (b, δ2)) : mAnd fa fb δ = some (b, δ2) := by
  unfold mAnd
  rw [h]
  exact h2
theorem andT_first {fa fb : MT} {δ δ1 : List D} (h : fa δ = some (false, δ1)) : mAnd fa fb δ = some (false, δ1) := by
  unfold mAnd
  rw [h]
  rfl
theorem opw_next {o : D → D → Option D} {fa : ME} {j : Nat} {δ δ1 : List D} {a b d : D} (h : fa δ = some (a, δ1)) (h2 : δ1[j]? = some b) (h3 : o a b = some d) : mOpW o fa j δ = some (d, δ1) := by
  unfold mOpW
  rw [h]
  show (δ1[j]?).bind _ = _
  rw [h2]
  show (o a b).map _ = _
  rw [h3]
  rfl
theorem opv_next {o : D → D → Option D} {fb : ME} {i : Nat} {δ δ1 : List D} {a b d : D} (h : fb δ = some (b, δ1)) (h2 : δ1[i]? = some a) (h3 : o a b = some d) : mOpV o i fb δ = some (d, δ1) := by
  unfold mOpV
  rw [h]
  show (δ1[i]?).bind _ = _
  rw [h2]
  show (o a b).map _ = _
  rw [h3]
  rfl
theorem chain_next {o o' : D → D → Option D} {fa fb fc : ME} {δ δ1 δ2 δ3 : List D} {a b c d : D} (h1 : fa δ = some (a, δ1)) (h2 : fb δ1 = some (b, δ2)) (h3 : o a b = some (.bl true)) (h4 : fc δ2 = some (c, δ3)) (h5 : o' b c = some d) : mChain o o' fa fb fc δ = some (d, δ3) := by
  unfold mChain
  simp only [h1, h2, h3, h4, h5, boolD, Option.bind_some, Option.map_some, if_true]
theorem while_by {gc : MT} {gb : MS} (I : Nat → List D → Prop) (R : List D → Prop)
    (step : ∀ k δ, I k δ → (∃ δ1, gc δ = some (false, δ1) ∧ R δ1) ∨ ∃ δ1 δ2, gc δ = some (true, δ1) ∧ gb δ1 = some (.nx δ2) ∧ ∃ k', k' < k ∧ I k' δ2) :
    ∀ n k δ, k < n → I k δ → ∃ δ', whileN n gc gb δ = some (.nx δ') ∧ R δ'
  | 0, k, δ, h, _ => absurd h (Nat.not_lt_zero k)
  | n + 1, k, δ, h, hi => by
    unfold whileN
    rcases step k δ hi with ⟨δ1, h1, h2⟩ | ⟨δ1, δ2, h1, h2, k', hk, h3⟩
    · rw [h1]
      exact ⟨δ1, rfl, h2⟩
    · rw [h1]
      simp only [Option.bind_some, if_true, h2]
      exact while_by I R step n k' δ2 (by omega) h3
theorem for_by {α : Type} {enc : α → D} {gm : MG} {gb : MS} (I : List α → List D → Prop) :
    ∀ (todo done : List α) (δ : List D), (∀ pre x post δ, done ++ todo = pre ++ x :: post → I pre δ → ∃ δ1 δ2, gm (enc x) δ = some δ1 ∧ gb δ1 = some (.nx δ2) ∧ I (pre ++ [x]) δ2) →
      I done δ → ∃ δ', forL gm gb (todo.map enc) δ = some (.nx δ') ∧ I (done ++ todo) δ'
  | [], done, δ, _, hi => ⟨δ, rfl, by rw [List.append_nil]; exact hi⟩
  | x :: todo, done, δ, step, hi => by
    obtain ⟨δ1, δ2, h1, h2, h3⟩ := step done x todo δ rfl hi
    obtain ⟨δ', h4, h5⟩ := for_by I todo (done ++ [x]) δ2 (fun pre y post δ e => step pre y post δ (by rw [← e]; simp)) h3
    refine ⟨δ', ?_, by rw [List.append_assoc] at h5; exact h5⟩
    rw [List.map_cons, forL, h1]
    simp only [Option.bind_some, h2]
    exact h4
theorem sortU_len {ns : List Int} (h : ns.Nodup) : (sortU ns).length = ns.length :=
  ((List.perm_ext_iff_of_nodup (sortU_nodup ns) h).mpr fun k => mem_sortU).length_eq
theorem lenSet_L {ns : List Int} (h : ns.length < 4000) : lenSetD (iL ns) = some (.int (sortU ns).length) := by
  unfold lenSetD setD
  show ((intsD (ns.map D.int)).bind _).map _ = _
  rw [ints_map]
  show (if ns.length < 4000 then some (sortU ns) else none).map _ = _
  rw [if_pos h]
  rfl
theorem sortSet_L {ns : List Int} (h : ns.length < 4000) (h2 : (sortU ns).length < 64) : sortSetD (iL ns) = some (iL (sortU ns)) := by
  unfold sortSetD setD
  show ((intsD (ns.map D.int)).bind _).bind _ = _
  rw [ints_map]
  show (if ns.length < 4000 then some (sortU ns) else none).bind _ = _
  rw [if_pos h]
  show (if (sortU ns).length < 64 then _ else _) = _
  rw [if_pos h2]
  rfl
theorem cat_T (a b : List Int) (h : a.length + b.length < 1000000) : catT (iT a) (iT b) = some (iT (a ++ b)) := by
  show (if (a.map D.int).length + (b.map D.int).length < lim then some (D.tup (a.map D.int ++ b.map D.int)) else none) = _
  rw [List.length_map, List.length_map, if_pos (show a.length + b.length < lim from h), ← List.map_append]
  rfl
theorem inc_len : ∀ (l : List Int) (a b : Int), l.Pairwise (· < ·) → (∀ x ∈ l, a ≤ x ∧ x < b) → a ≤ b → (l.length : Int) ≤ b - a
  | [], a, b, _, _, h => by simp; omega
  | x :: l, a, b, hp, hr, h => by
    obtain ⟨h1, h2⟩ := hr x List.mem_cons_self
    obtain ⟨hx, hp⟩ := List.pairwise_cons.mp hp
    have := inc_len l (x + 1) b hp (fun y hy => ⟨by have := hx y hy; omega, (hr y (List.mem_cons_of_mem _ hy)).2⟩) (by omega)
    simp only [List.length_cons]
    omega
theorem nodup_len {l : List Int} {a b : Int} (nd : l.Nodup) (hr : ∀ x ∈ l, a ≤ x ∧ x < b) (h : a ≤ b) : (l.length : Int) ≤ b - a := by
  rw [← sortU_len nd]
  exact inc_len _ a b (sortU_sorted l) (fun x hx => hr x (mem_sortU.mp hx)) h
theorem extend_next {i : Nat} {fe : ME} {δ δ1 : List D} {a b : List Int} (h : fe δ = some (iL b, δ1)) (h1 : δ1[i]? = some (iL a)) (hl : a.length + b.length < 1000000) : mExtend i fe δ = some (.nx (δ1.set i (iL (a ++ b)))) := by
  unfold mExtend
  rw [h]
  show (δ1[i]?).bind _ = _
  rw [h1]
  show (if (a.map D.int).length + (b.map D.int).length < lim then some (Out.nx (δ1.set i (.lst (a.map D.int ++ b.map D.int)))) else none) = _
  rw [List.length_map, List.length_map, if_pos (show a.length + b.length < lim from hl), ← List.map_append]
  rfl
theorem map_bl {α : Type} (xs : List α) (p : α → Bool) : (xs.map fun x => D.bl (p x)) = (xs.map p).map D.bl := by
  rw [List.map_map]
  rfl
theorem map_int {α : Type} (xs : List α) (p : α → Int) : (xs.map fun x => D.int (p x)) = (xs.map p).map D.int := by
  rw [List.map_map]
  rfl
theorem all_p {α : Type} (xs : List α) (p : α → Bool) : allD [.lst (xs.map fun x => D.bl (p x))] = some (.bl (xs.all p)) := by
  rw [map_bl, all_bl, List.all_map]
  rfl
theorem any_p {α : Type} (xs : List α) (p : α → Bool) : anyD [.lst (xs.map fun x => D.bl (p x))] = some (.bl (xs.any p)) := by
  rw [map_bl, any_bl, List.any_map]
  rfl
theorem extendT_next {i : Nat} {fe : ME} {δ δ1 : List D} {a b : List Int} (h : fe δ = some (iT b, δ1)) (h1 : δ1[i]? = some (iL a)) (hl : a.length + b.length < 1000000) : mExtend i fe δ = some (.nx (δ1.set i (iL (a ++ b)))) := by
  unfold mExtend
  rw [h]
  show (δ1[i]?).bind _ = _
  rw [h1]
  show (if (a.map D.int).length + (b.map D.int).length < lim then some (Out.nx (δ1.set i (.lst (a.map D.int ++ b.map D.int)))) else none) = _
  rw [List.length_map, List.length_map, if_pos (show a.length + b.length < lim from hl), ← List.map_append]
  rfl
theorem set_to {i : Nat} {f : ME} {δ δ1 δ2 : List D} {d : D} (h : f δ = some (d, δ1)) (hz : δ1.set i d = δ2) : mSet i f δ = some (.nx δ2) := by
  rw [← hz]
  exact set_next h
theorem void_to {is : List Nat} {g : MS} {δ δ1 δ2 : List D} (h : g δ = some (.nx δ1)) (hz : voidL is δ1 = δ2) : mThenVoid is g δ = some (.nx δ2) := by
  rw [← hz]
  exact void_next h
def rg (m : Int) : List Int := (List.range m.toNat).map fun (k : Nat) => (k : Int)
theorem mem_rg {m q : Int} : q ∈ rg m ↔ 0 ≤ q ∧ q < m := by
  unfold rg
  rw [List.mem_map]
  constructor
  · rintro ⟨k, hk, rfl⟩
    rw [List.mem_range] at hk
    omega
  · intro h
    exact ⟨q.toNat, by rw [List.mem_range]; omega, by omega⟩
theorem rg_len (m : Int) : (rg m).length = m.toNat := by simp [rg]
theorem rangeD_rg (m : Int) : rangeD 0 m = (rg m).map .int := by
  unfold rangeD rg
  rw [List.map_map, show m - 0 = m by omega]
  refine List.map_congr_left fun k _ => ?_
  show D.int (0 + (k : Nat)) = D.int (k : Nat)
  rw [Int.zero_add]
theorem rg_inc (m : Int) : (rg m).Pairwise (· < ·) := by
  unfold rg
  rw [List.pairwise_map]
  exact List.pairwise_lt_range.imp fun h => by omega
theorem rng1_next {fa : MA} {δ δ1 : List D} {j : Int} (h : fa δ = some ([.int j], δ1)) (h1 : -1000000000 ≤ j) (h2 : j ≤ 1000000000) : mRng1 fa δ = some ((rg j).map .int, δ1) := by
  unfold mRng1
  rw [h]
  show (if smallI j = true then some (rangeD 0 j, δ1) else none) = _
  rw [if_pos (show smallI j = true from decide_eq_true ⟨h1, h2⟩), rangeD_rg]
theorem len_map {α : Type} (f : α → D) (xs : List α) : lenD [.lst (xs.map f)] = some (.int xs.length) := by
  show some (D.int ((xs.map f).length : Int)) = _
  rw [List.length_map]
theorem len_mapT {α : Type} (f : α → D) (xs : List α) : lenD [.tup (xs.map f)] = some (.int xs.length) := by
  show some (D.int ((xs.map f).length : Int)) = _
  rw [List.length_map]
theorem mul_l {i j : Int} (h : -(2 ^ 64) < i) (h2 : i < 2 ^ 64) : mulI (.int i) (.int j) = some (.int (i * j)) := by
  show (if okMul i j = true then some (D.int (i * j)) else none) = _
  rw [if_pos (show okMul i j = true from decide_eq_true (.inl ⟨h, h2⟩))]
theorem mul_r {i j : Int} (h : -(2 ^ 64) < j) (h2 : j < 2 ^ 64) : mulI (.int i) (.int j) = some (.int (i * j)) := by
  show (if okMul i j = true then some (D.int (i * j)) else none) = _
  rw [if_pos (show okMul i j = true from decide_eq_true (.inr ⟨h, h2⟩))]
theorem mod_ok {i j : Int} (h : 0 < j) : modI (.int i) (.int j) = some (.int (i % j)) := by
  show (if okMod i j = true then some (D.int (i % j)) else none) = _
  rw [if_pos (show okMod i j = true from decide_eq_true h)]
theorem div_ok {i j : Int} (h : 0 < j) (h2 : j < 1073741824) : divI (.int i) (.int j) = some (.int (i / j)) := by
  show (if okDiv i j = true then some (D.int (i / j)) else none) = _
  rw [if_pos (show okDiv i j = true from decide_eq_true ⟨h, h2⟩)]
theorem ix_L {ns : List Int} {i v : Int} (h0 : 0 ≤ i) (h : ns[i.toNat]? = some v) : ixD (iL ns) (.int i) = some (.int v) := by
  show L2.atI (ns.map D.int) i = _
  exact at_int h0 (by rw [List.getElem?_map, h]; rfl)
theorem ix_T {ns : List Int} {i v : Int} (h0 : 0 ≤ i) (h : ns[i.toNat]? = some v) : ixD (iT ns) (.int i) = some (.int v) := ix_L h0 h
theorem ret_to {k : Nat} {f : ME} {δ δ1 ios : List D} {d : D} (h : f δ = some (d, δ1)) (hz : δ1.take k = ios) : mRet k f δ = some (.rt d ios) := by
  rw [← hz]
  exact ret_next h
theorem call1_next {i : Nat} {mm : List D → Option (D × List D)} {fa : MA} {δ δ1 δ2 ds : List D} {d0 d1 v : D} (h : fa δ = some (ds, δ1)) (h1 : δ1[i]? = some d0) (h2 : mm (d0 :: ds) = some (v, [d1])) (hz : δ1.set i d1 = δ2) : mCall1 i mm fa δ = some (v, δ2) := by
  unfold mCall1
  rw [h]
  show (δ1[i]?).bind _ = _
  rw [h1]
  show (mm (d0 :: ds)).bind _ = _
  rw [h2, ← hz]
  rfl
theorem append_to {i : Nat} {fe : ME} {δ δ1 δ2 ds : List D} {d : D} (h : fe δ = some (d, δ1)) (h1 : δ1[i]? = some (.lst ds)) (hl : ds.length < 1000000) (hz : δ1.set i (.lst (ds ++ [d])) = δ2) : mAppend i fe δ = some (.nx δ2) := by
  unfold mAppend
  rw [h]
  show (δ1[i]?).bind _ = _
  rw [h1]
  show (if ds.length < lim then some (Out.nx (δ1.set i (.lst (ds ++ [d])))) else none) = _
  rw [if_pos (show ds.length < lim from hl), hz]
theorem pop_to {i : Nat} {fe : ME} {δ δ1 δ2 ds : List D} {k : Int} {d : D} (h : fe δ = some (.int k, δ1)) (h1 : δ1[i]? = some (.lst ds)) (h0 : 0 ≤ k) (hk : k < 1000000000) (hd : ds[k.toNat]? = some d) (hz : δ1.set i (.lst (ds.eraseIdx k.toNat)) = δ2) : mPopAt i fe δ = some (d, δ2) := by
  unfold mPopAt
  rw [h]
  show ((δ1[i]?).bind _ : Option (D × List D)) = _
  rw [h1]
  show (if 0 ≤ k ∧ k < 1000000000 then (ds[k.toNat]?).map fun d => (d, δ1.set i (.lst (ds.eraseIdx k.toNat))) else none) = _
  rw [if_pos ⟨h0, hk⟩, hd, ← hz]
  rfl
theorem erase_at {α : Type} : ∀ {l : List α} {k : Nat} {p : α}, l[k]? = some p → ∃ l1 l2, l = l1 ++ p :: l2 ∧ l.eraseIdx k = l1 ++ l2 ∧ l1.length = k
  | [], k, p, h => by simp at h
  | a :: l, 0, p, h => by
    simp at h
    subst h
    exact ⟨[], l, rfl, rfl, rfl⟩
  | a :: l, k + 1, p, h => by
    obtain ⟨l1, l2, h1, h2, h3⟩ := erase_at (l := l) (k := k) (p := p) (by simpa using h)
    exact ⟨a :: l1, l2, by rw [h1]; rfl, by rw [List.eraseIdx_cons_succ, h2]; rfl, by rw [List.length_cons, h3]⟩
theorem map_erase {α β : Type} (f : α → β) : ∀ (l : List α) (k : Nat), (l.map f).eraseIdx k = (l.eraseIdx k).map f
  | [], k => rfl
  | a :: l, 0 => rfl
  | a :: l, k + 1 => by
    show f a :: (l.map f).eraseIdx k = f a :: (l.eraseIdx k).map f
    rw [map_erase f l k]
theorem ix_last {ns : List Int} {v : Int} (h : ns.getLast? = some v) : ixD (iL ns) (.int (-1)) = some (.int v) := by
  show L2.atI (ns.map D.int) (-1) = _
  have hl : 0 < ns.length := by
    cases ns with
    | nil => cases h
    | cons a l => simp
  have e : L2.ixN (ns.map D.int).length (-1) = some (ns.length - 1) := by
    unfold L2.ixN
    rw [List.length_map, if_neg (by decide), if_pos (by omega)]
    congr 1
    omega
  unfold L2.atI
  rw [e]
  show (ns.map D.int)[ns.length - 1]? = _
  rw [List.getElem?_map, ← List.getLast?_eq_getElem?, h]
  rfl
theorem cbv_next {o : List D → Option D} {i : Nat} {δ : List D} {da d : D} (h1 : δ[i]? = some da) (h2 : o [da] = some d) : mCBv o i δ = some (d, δ) := by
  unfold mCBv
  rw [h1]
  show (o [da]).map _ = _
  rw [h2]
  rfl
theorem lcG_map2 {α : Type} {enc : α → D} {i : Nat} {gi : MA} {ge : ME} {xs : List α} {δ0 δ : List D} (f : α → D) (hg : gi δ0 = some (xs.map enc, δ)) (hl : xs.length < 1000000) (hi : δ[i]? = some .hole)
    (he : ∀ x ∈ xs, ge (δ.set i (enc x)) = some (f x, δ.set i (enc x))) : mLcG [i] gi (fun d δ => some (δ.set i d)) mYes ge δ0 = some (.lst (xs.map f), δ) := by
  unfold mLcG
  rw [hg]
  simp only [Option.bind_some, List.length_map]
  rw [if_pos (show xs.length < lim from hl), lc_map f hi he]
  rfl
theorem extend_to {i : Nat} {fe : ME} {δ δ1 δ2 xs ys : List D} (h : fe δ = some (.lst ys, δ1)) (h1 : δ1[i]? = some (.lst xs)) (hl : xs.length + ys.length < 1000000) (hz : δ1.set i (.lst (xs ++ ys)) = δ2) : mExtend i fe δ = some (.nx δ2) := by
  unfold mExtend
  rw [h]
  show (δ1[i]?).bind _ = _
  rw [h1]
  show (if xs.length + ys.length < lim then some (Out.nx (δ1.set i (.lst (xs ++ ys)))) else none) = _
  rw [if_pos (show xs.length + ys.length < lim from hl), hz]
theorem appendAt_to {i : Nat} {fi fe : ME} {δ δ1 δ2 δ3 dss ds : List D} {k : Int} {d : D} (h : fi δ = some (.int k, δ1)) (h1 : δ1[i]? = some (.lst dss)) (h0 : 0 ≤ k) (h2 : dss[k.toNat]? = some (.lst ds)) (h3 : fe (δ1.set i .hole) = some (d, δ2)) (hl : ds.length < 1000000)
    (hz : δ2.set i (.lst (dss.set k.toNat (.lst (ds ++ [d])))) = δ3) : mAppendAt i fi fe δ = some (.nx δ3) := by
  unfold mAppendAt
  rw [h]
  show ((δ1[i]?).bind _ : Option Out) = _
  rw [h1]
  show (if 0 ≤ k then (dss[k.toNat]?).bind _ else none) = _
  rw [if_pos h0, h2]
  show ((fe (δ1.set i .hole)).bind _ : Option Out) = _
  rw [h3]
  show (if ds.length < lim then _ else none) = _
  rw [if_pos (show ds.length < lim from hl), hz]
theorem setG_to {gm : MG} {fe : ME} {δ δ1 δ2 : List D} {d : D} (h : fe δ = some (d, δ1)) (h2 : gm d δ1 = some δ2) : mSetG gm fe δ = some (.nx δ2) := by
  unfold mSetG
  rw [h]
  show (gm d δ1).map _ = _
  rw [h2]
  rfl
theorem rg_succ {n : Int} (h : 0 ≤ n) : rg (n + 1) = rg n ++ [n] := by
  unfold rg
  rw [show (n + 1).toNat = n.toNat + 1 by omega, List.range_succ, List.map_append]
  congr 1
  show [((n.toNat : Nat) : Int)] = [n]
  rw [Int.toNat_of_nonneg h]
theorem rg_pre {n : Int} {pre post : List Int} {x : Int} (h : rg n = pre ++ x :: post) : x = pre.length ∧ (pre.length : Int) < n := by
  have e : (rg n)[pre.length]? = some x := by rw [h]; simp
  unfold rg at e
  rw [List.getElem?_map] at e
  obtain ⟨k, hk, e⟩ := Option.map_eq_some_iff.mp e
  have l := (List.getElem?_eq_some_iff.mp hk).1
  rw [List.length_range] at l
  rw [List.getElem?_range l] at hk
  cases hk
  exact ⟨e.symm, by omega⟩
theorem rg_get {n x : Int} (h0 : 0 ≤ x) (h : x < n) : (rg n)[x.toNat]? = some x := by
  unfold rg
  rw [List.getElem?_map, List.getElem?_range (by omega)]
  show some ((x.toNat : Nat) : Int) = some x
  rw [Int.toNat_of_nonneg h0]
theorem slice_to {n : Int} (h0 : 0 ≤ n) (xs : List D) : slL (.lst xs) none (some n) = some (.lst (xs.take n.toNat)) := by
  show some (D.lst ((xs.drop 0).take (HT.sIx xs.length xs.length (some n) - 0))) = _
  have e : HT.sIx xs.length xs.length (some n) = min n.toNat xs.length := by
    show (if n < 0 then _ else min n.toNat xs.length) = _
    rw [if_neg (by omega)]
  rw [e, List.drop_zero, Nat.sub_zero]
  congr 2
  by_cases z : n.toNat ≤ xs.length
  · rw [Nat.min_eq_left z]
  · rw [Nat.min_eq_right (by omega), List.take_of_length_le (Nat.le_refl _), List.take_of_length_le (by omega)]
theorem slice_next {fa fh : ME} {δ δ1 δ2 xs : List D} {n : Int} (h : fa δ = some (.lst xs, δ1)) (h2 : fh δ1 = some (.int n, δ2)) (h0 : 0 ≤ n) : mSl slL fa mPn (mPs fh) δ = some (.lst (xs.take n.toNat), δ2) := by
  unfold mSl mPs mPn
  rw [h]
  simp only [Option.bind_some, h2]
  rw [slice_to h0]
  rfl
theorem sliceS_next {fa fh : ME} {δ δ1 δ2 xs : List D} {n : Int} (h : fa δ = some (.scr xs, δ1)) (h2 : fh δ1 = some (.int n, δ2)) (h0 : 0 ≤ n) : mSl slL fa mPn (mPs fh) δ = some (.lst (xs.take n.toNat), δ2) := by
  unfold mSl mPs mPn
  rw [h]
  simp only [Option.bind_some, h2]
  rw [show slL (.scr xs) none (some n) = slL (.lst xs) none (some n) from rfl, slice_to h0]
  rfl
theorem make_next {c : Str} {mm : List D → Option (D × List D)} {fa : MA} {δ δ1 ds : List D} {d1 : D} (h : fa δ = some (ds, δ1)) (h2 : mm (.obj c [] :: ds) = some (.non, [d1])) : mMake c mm fa δ = some (d1, δ1) := by
  unfold mMake
  rw [h]
  show (mm (.obj c [] :: ds)).bind _ = _
  rw [h2]
  rfl
theorem ix_map {α : Type} {f : α → D} {xs : List α} {x : Int} {v : α} (h0 : 0 ≤ x) (h : xs[x.toNat]? = some v) : ixD (.lst (xs.map f)) (.int x) = some (f v) := by
  show L2.atI (xs.map f) x = _
  exact at_int h0 (by rw [List.getElem?_map, h]; rfl)
theorem notV_next {f : ME} {δ δ1 : List D} {b : Bool} (h : f δ = some (.bl b, δ1)) : mNotV f δ = some (.bl (!b), δ1) := by
  unfold mNotV
  rw [h]
  rfl
theorem par_to {i j : Nat} {fa : MA} {δ δ1 δ2 : List D} {a b : D} (h : fa δ = some ([a, b], δ1)) (hz : (δ1.set i a).set j b = δ2) : mPar i j fa δ = some (.nx δ2) := by
  unfold mPar
  rw [h, ← hz]
  rfl
theorem for_brk {α : Type} {enc : α → D} {gm : MG} {gb : MS} (I : List α → List D → Prop) (R : List D → Prop) :
    ∀ (todo done : List α) (δ : List D), (∀ pre x post δ, done ++ todo = pre ++ x :: post → I pre δ → ∃ δ1 δ2, gm (enc x) δ = some δ1 ∧ ((gb δ1 = some (.nx δ2) ∧ I (pre ++ [x]) δ2) ∨ (gb δ1 = some (.bk δ2) ∧ R δ2))) →
      I done δ → (∀ δ, I (done ++ todo) δ → R δ) → ∃ δ', forL gm gb (todo.map enc) δ = some (.nx δ') ∧ R δ'
  | [], done, δ, _, hi, he => ⟨δ, rfl, he δ (by rw [List.append_nil]; exact hi)⟩
  | x :: todo, done, δ, step, hi, he => by
    obtain ⟨δ1, δ2, h1, h2⟩ := step done x todo δ rfl hi
    rcases h2 with ⟨h2, h3⟩ | ⟨h2, h3⟩
    · obtain ⟨δ', h4, h5⟩ := for_brk I R todo (done ++ [x]) δ2 (fun pre y post δ e => step pre y post δ (by rw [← e]; simp)) h3 (fun δ hd => he δ (by rw [List.append_assoc] at hd; exact hd))
      refine ⟨δ', ?_, h5⟩
      rw [List.map_cons, forL, h1]
      simp only [Option.bind_some, h2]
      exact h4
    · refine ⟨δ2, ?_, h3⟩
      rw [List.map_cons, forL, h1]
      simp only [Option.bind_some, h2]
theorem brk_seq {f g : MS} {δ δ1 : List D} (h : f δ = some (.bk δ1)) : mSeq f g δ = some (.bk δ1) := by
  unfold mSeq
  rw [h]
  rfl
theorem brk_void {is : List Nat} {f : MS} {δ δ1 : List D} (h : f δ = some (.bk δ1)) : mThenVoid is f δ = some (.bk δ1) := by
  unfold mThenVoid
  rw [h]
  rfl
theorem sortI_lot {w : List Int} (nd : w.Nodup) : (sortI w).Pairwise (· < ·) ∧ (sortI w).Perm w := by
  have p : (sortI w).Perm w := List.mergeSort_perm w _
  refine ⟨?_, p⟩
  have s : (sortI w).Pairwise fun a b => decide (a ≤ b) = true := List.pairwise_mergeSort (fun a b c h1 h2 => by simp only [decide_eq_true_eq] at *; omega) (fun a b => by simp only [Bool.or_eq_true, decide_eq_true_eq]; omega) w
  have nd2 : (sortI w).Nodup := p.nodup_iff.mpr nd
  refine (s.and nd2).imp fun {a b} h => ?_
  have h1 := of_decide_eq_true h.1
  have h2 : a ≠ b := h.2
  omega
theorem sort_L (w : List Int) : sortD [iL w] = some (iL (sortI w)) := by
  show ((intsD (w.map D.int)).map _) = _
  rw [ints_map]
  rfl
theorem len_filter {α : Type} (p : α → Bool) : ∀ l : List α, (l.filter p).length + (l.filter fun x => !p x).length = l.length
  | [] => rfl
  | x :: l => by
    have := len_filter p l
    cases h : p x <;> simp [List.filter_cons, h] <;> omega
theorem okDs_ints : ∀ (n : Nat) (a : List Int), okDs n (a.map .int) = true
  | _, [] => by rw [List.map_nil, okDs]
  | n, x :: a => by
    rw [List.map_cons, okDs, okDs_ints n a, Bool.and_true]
    cases n <;> rfl
theorem okD_T (a : List Int) : okD 8 (iT a) = true := by
  show okDs 7 (a.map .int) = true
  exact okDs_ints 7 a
theorem eqBs_ints : ∀ (a b : List Int), eqBs (a.map .int) (b.map .int) = decide (a = b)
  | [], [] => by rw [List.map_nil, eqBs]; rfl
  | [], y :: b => rfl
  | x :: a, [] => rfl
  | x :: a, y :: b => by
    rw [List.map_cons, List.map_cons, eqBs, eqBs_ints a b, eqB_int]
    by_cases h : x = y <;> by_cases h2 : a = b <;> simp [h, h2]
theorem eq_T (a b : List Int) : eqD (iT a) (iT b) = some (.bl (decide (a = b))) := by
  unfold eqD
  rw [if_pos ⟨okD_T a, okD_T b⟩]
  show some (D.bl (eqBs (a.map .int) (b.map .int))) = _
  rw [eqBs_ints]
theorem ne_T (a b : List Int) : neD (iT a) (iT b) = some (.bl (!decide (a = b))) := by
  unfold neD
  rw [if_pos ⟨okD_T a, okD_T b⟩]
  show some (D.bl (!eqBs (a.map .int) (b.map .int))) = _
  rw [eqBs_ints]
theorem tupRg_next {fa : ME} {δ δ1 : List D} {n : Int} (h : fa δ = some (.int n, δ1)) (h0 : 0 ≤ n) (h1 : n ≤ 1000000) : mTupRg1 fa δ = some (iT (rg n), δ1) := by
  unfold mTupRg1
  refine un_next h ?_
  show (if okRg 0 n = true then some (D.tup (rangeD 0 n)) else none) = _
  rw [if_pos (show okRg 0 n = true from decide_eq_true ⟨by omega, by omega, by omega, by omega⟩), rangeD_rg]
  rfl
theorem filter_le {α : Type} {p q : α → Bool} : ∀ (l : List α), (∀ x ∈ l, p x = true → q x = true) → (l.filter p).length ≤ (l.filter q).length
  | [], _ => Nat.le_refl _
  | x :: l, h => by
    have ih := filter_le l fun y hy => h y (List.mem_cons_of_mem _ hy)
    have hx := h x List.mem_cons_self
    cases hp : p x with
    | true => simp [List.filter_cons, hp, hx hp, ih]
    | false => cases hq : q x <;> simp [List.filter_cons, hp, hq] <;> omega
theorem pigeon : ∀ (ts : List (List Int)), ts.flatten.Nodup → ∀ lost : List Int, (ts.filter fun t => t.any fun x => decide (x ∈ lost)).length ≤ lost.length
  | [], _, lost => Nat.zero_le _
  | t :: ts, nd, lost => by
    rw [List.flatten_cons] at nd
    obtain ⟨_, nd2, dj⟩ := List.nodup_append.mp nd
    cases h : t.any fun x => decide (x ∈ lost) with
    | false =>
      rw [List.filter_cons, h]
      exact pigeon ts nd2 lost
    | true =>
      obtain ⟨x, hx, hl⟩ := List.any_eq_true.mp h
      have hl := of_decide_eq_true hl
      have ih := pigeon ts nd2 (lost.filter fun y => !decide (y ∈ t))
      have e : (ts.filter fun u => u.any fun y => decide (y ∈ lost)).length ≤ (ts.filter fun u => u.any fun y => decide (y ∈ lost.filter fun y => !decide (y ∈ t))).length := by
        refine filter_le ts fun u hu hc => ?_
        obtain ⟨y, hy, hyl⟩ := List.any_eq_true.mp hc
        refine List.any_eq_true.mpr ⟨y, hy, decide_eq_true (List.mem_filter.mpr ⟨of_decide_eq_true hyl, ?_⟩)⟩
        have : y ∉ t := fun z => dj y z y (List.mem_flatten.mpr ⟨u, hu, hy⟩) rfl
        simp [this]
      have s : (lost.filter fun y => !decide (y ∈ t)).length < lost.length := by
        have := len_filter (fun y => decide (y ∈ t)) lost
        have p : 0 < (lost.filter fun y => decide (y ∈ t)).length := List.length_pos_of_mem (List.mem_filter.mpr ⟨hl, decide_eq_true hx⟩)
        omega
      rw [List.filter_cons, h]
      simp only [if_true, List.length_cons]
      omega
end DL

namespace W51
open PySem DL
def netD (m r : Int) (ls : List (Int × Int)) : D := .obj "Net" [("many", .int m), ("root", .int r), ("links", lkT ls)]
theorem is_integer_ok (n : Int) : mm_is_integer [.int n] = some (.bl true, []) := by rfl
theorem is_within_t {n a b : Int} (h1 : a ≤ n) (h2 : n ≤ b) : mm_is_within [.int n, .int a, .int b] = some (.bl true, []) := by
  unfold mm_is_within m_is_within
  simp only [mVar, mMove, mC, mOp, mOpV, mOpW, mUn, mUnV, mCB, mCBv, mNil, mCons, mTest, mAnd, mOr, mNot, mAndV, mOrV, mNotV, mIf, mChain, boolD, mNx, mSeq, mRet, mRetN, mSet, mDrop, mIfS, voidL, mThenVoid, mBrk, mCnt, mCall, mCall1, mTup, mLst, mYes, mFn, mFnN, isiD, isT, tyD, addI, subI, mulI, divI, modI, powI, negI, ltI, leI, gtI, geI, intO, intT, lenD, intD, absD, mNo, mPar, mAppend, mSetIx, isLst, Option.bind_some, Option.map_some, Option.bind_none, Option.map_none, List.getElem?_cons_zero, List.getElem?_cons_succ, List.set_cons_zero, List.set_cons_succ, List.take_zero, List.take_succ_cons, List.length_cons, List.length_nil, List.replicate, List.cons_append, List.nil_append, List.append_nil, Nat.sub_self, Nat.reduceSub, Nat.reduceAdd, Bool.not_true, Bool.not_false, Bool.false_eq_true, if_true, if_false, decide_true, decide_false, reduceIte, ite_true, ite_false, Bool.true_eq_false, mITup, mIList, mFor, tupD_tup, tupD_lst, tupD_scr, seqD_tup, seqD_lst, seqD_scr, tupD_T, seqD_T, tupD_L, seqD_L, is_integer_ok, h1, h2]
theorem fld_many {m r ls} : fldD ["Net"] "many" (netD m r ls) = some (.int m) := rfl
theorem fld_root {m r ls} : fldD ["Net"] "root" (netD m r ls) = some (.int r) := rfl
theorem fld_links {m r ls} : fldD ["Net"] "links" (netD m r ls) = some (lkT ls) := rfl
theorem check_net_ok (m r ls) : mm_check_net [netD m r ls] = some (.non, []) := by rfl
/-- a row of link numbers, each greater than the one before -/
structure Lot (t : List Int) (n : Int) : Prop where
  inc : t.Pairwise (· < ·)
  rg : ∀ x ∈ t, 0 ≤ x ∧ x < n
theorem isi_T (ds : List D) : isiD ["Net", "Plan"] [.tup ds, .ty "tuple"] = some (.bl true) := by rfl
theorem lot_loop (n : Int) : ∀ (t : List Int) (last : Int) (a : D), t.Pairwise (· < ·) → (∀ x ∈ t, last + 1 ≤ x ∧ x ≤ n - 1) →
    ∃ l2, forL (fun d δ => some (δ.set 3 d)) (mThenVoid [3] (mSeq (mIfS (mNot (mTest (mCall mm_is_within (mCons (mVar 3) (mCons (mOp addI (mVar 2) (mC (.int 1))) (mCons (mOp subI (mVar 1) (mC (.int 1))) mNil)))))) (mRet 0 (mC (.bl false))) mNx) (mSet 2 (mVar 3))))
      (t.map .int) [a, .int n, .int last, .hole] = some (.nx [a, .int n, .int l2, .hole])
  | [], last, a, _, _ => ⟨last, rfl⟩
  | x :: t, last, a, hp, hr => by
    obtain ⟨h1, h2⟩ := hr x List.mem_cons_self
    obtain ⟨hx, hp⟩ := List.pairwise_cons.mp hp
    obtain ⟨l2, ih⟩ := lot_loop n t x a hp fun y hy => ⟨by have := hx y hy; omega, (hr y (List.mem_cons_of_mem _ hy)).2⟩
    refine ⟨l2, ?_⟩
    rw [List.map_cons, forL]
    simp only [mVar, mMove, mC, mOp, mOpV, mOpW, mUn, mUnV, mCB, mCBv, mNil, mCons, mTest, mAnd, mOr, mNot, mAndV, mOrV, mNotV, mIf, mChain, boolD, mNx, mSeq, mRet, mRetN, mSet, mDrop, mIfS, voidL, mThenVoid, mBrk, mCnt, mCall, mCall1, mTup, mLst, mYes, mFn, mFnN, isiD, isT, tyD, addI, subI, mulI, divI, modI, powI, negI, ltI, leI, gtI, geI, intO, intT, lenD, intD, absD, mNo, mPar, mAppend, mSetIx, isLst, Option.bind_some, Option.map_some, Option.bind_none, Option.map_none, List.getElem?_cons_zero, List.getElem?_cons_succ, List.set_cons_zero, List.set_cons_succ, List.take_zero, List.take_succ_cons, List.length_cons, List.length_nil, List.replicate, List.cons_append, List.nil_append, List.append_nil, Nat.sub_self, Nat.reduceSub, Nat.reduceAdd, Bool.not_true, Bool.not_false, Bool.false_eq_true, if_true, if_false, decide_true, decide_false, reduceIte, ite_true, ite_false, Bool.true_eq_false, mITup, mIList, mFor, tupD_tup, tupD_lst, tupD_scr, seqD_tup, seqD_lst, seqD_scr, tupD_T, seqD_T, tupD_L, seqD_L, is_within_t h1 h2]
    exact ih
theorem is_lot_ok {t : List Int} {n : Int} (h : Lot t n) : mm_is_lot [iT t, .int n] = some (.bl true, []) := by
  obtain ⟨l2, e⟩ := lot_loop n t (-1) (iT t) h.inc fun x hx => ⟨by have := (h.rg x hx).1; omega, by have := (h.rg x hx).2; omega⟩
  refine fn_ret (δ := [iT t, .int n, .hole, .hole]) ?_
  refine seq_next (δ1 := [iT t, .int n, .hole, .hole]) rfl ?_
  refine seq_next (δ1 := [iT t, .int n, .int (-1), .hole]) rfl ?_
  exact seq_next (for_next rfl e) rfl
theorem is_lot_of_ok {m r : Int} {ls : List (Int × Int)} {t : List Int} (h : Lot t ls.length) : mm_is_lot_of [netD m r ls, iT t] = some (.bl true, []) :=
  fn_ret (δ := [netD m r ls, iT t]) (ret_next (call_next (cons_next rfl (cons_next (cb_next (cons_next rfl rfl) (len_lkT ls)) rfl)) (is_lot_ok h)))
theorem is_pair_ok (p : Int × Int) : mm_is_pair [prD p] = some (.bl true, []) := rfl
theorem is_link_ok {m : Int} {p : Int × Int} (h1 : 0 ≤ p.1) (h2 : p.1 < m) (h3 : 0 ≤ p.2) (h4 : p.2 < m) (h5 : p.1 ≠ p.2) : mm_is_link [.int m, prD p] = some (.bl true, []) := by
  refine fn_ret (δ := [.int m, prD p, .hole]) ?_
  have e1 : mLcG [2] (mITup (mVar 1)) (fun d δ => some (δ.set 2 d)) mYes (mCall mm_is_within (mCons (mVar 2) (mCons (mC (.int 0)) (mCons (mOp subI (mVar 0) (mC (.int 1))) mNil)))) [.int m, prD p, .hole] = some (.lst [.bl true, .bl true], [.int m, prD p, .hole]) :=
    lcG_map (enc := D.int) (xs := [p.1, p.2]) (fun _ => .bl true) rfl (by show 2 < 1000000; decide) rfl fun x hx => by
      have hb : 0 ≤ x ∧ x ≤ m - 1 := by
        rcases List.mem_cons.mp hx with rfl | hx
        · omega
        · rw [List.mem_singleton.mp hx]; omega
      exact call_next rfl (is_within_t hb.1 hb.2)
  refine seq_next (δ1 := [.int m, prD p, .hole]) (if_f (or_next (δ1 := [.int m, prD p, .hole]) (b := false) (not_next (b := true) (test_next (call_next rfl (is_pair_ok p)))) (not_next (b := true) (test_next (cb_next (cons_next e1 rfl) rfl)))) rfl) ?_
  refine (ret_next (δ1 := [.int m, prD p, .hole]) (op_next (a := .int p.1) (b := .int p.2) rfl rfl (neD_int _ _))).trans ?_
  rw [decide_eq_false h5]
  rfl
/-- the links of a net -/
structure Lks (m : Int) (ls : List (Int × Int)) : Prop where
  few : ls.length ≤ 60
  ok : ∀ p ∈ ls, 0 ≤ p.1 ∧ p.1 < m ∧ 0 ≤ p.2 ∧ p.2 < m ∧ p.1 ≠ p.2
theorem net_loop {m r : Int} {o l : D} : ∀ (ls : List (Int × Int)) (k : Nat), (∀ p ∈ ls, 0 ≤ p.1 ∧ p.1 < m ∧ 0 ≤ p.2 ∧ p.2 < m ∧ p.1 ≠ p.2) →
    forL (mgTup 2 (mgCons (fun d δ => some (δ.set 4 d)) (mgCons (fun d δ => some (δ.set 5 d)) mgNil))) (mThenVoid [4, 5] (mIfS (mNot (mTest (mCall mm_is_link (mCons (mVar 1) (mCons (mVar 5) mNil))))) mNo mNx))
      (enumFrom k (ls.map prD)) [o, .int m, .int r, l, .hole, .hole] = some (.nx [o, .int m, .int r, l, .hole, .hole])
  | [], k, _ => rfl
  | p :: ls, k, h => by
    obtain ⟨h1, h2, h3, h4, h5⟩ := h p List.mem_cons_self
    rw [List.map_cons, enumFrom, forL]
    show ((mThenVoid [4, 5] _) [o, .int m, .int r, l, .int (k : Nat), prD p]).bind _ = _
    rw [void_next (δ1 := [o, .int m, .int r, l, .int (k : Nat), prD p]) (if_f (not_next (b := true) (test_next (call_next rfl (is_link_ok h1 h2 h3 h4 h5)))) rfl)]
    exact net_loop ls (k + 1) fun q hq => h q (List.mem_cons_of_mem _ hq)
theorem net_ok {m r : Int} {ls : List (Int × Int)} (h1 : 2 ≤ m) (h2 : m ≤ 10) (h3 : 0 ≤ r) (h4 : r < m) (h : Lks m ls) :
    mm_Net_init [.obj "Net" [], .int m, .int r, lkT ls] = some (.non, [netD m r ls]) := by
  refine fnN_end (δ := [.obj "Net" [], .int m, .int r, lkT ls, .hole, .hole]) (δ1 := [netD m r ls, .int m, .int r, lkT ls, .hole, .hole]) ?_
  refine seq_next (δ1 := [.obj "Net" [], .int m, .int r, lkT ls, .hole, .hole]) (if_f (not_next (b := true) (test_next (call_next rfl (is_within_t h1 h2)))) rfl) ?_
  refine seq_next (δ1 := [.obj "Net" [], .int m, .int r, lkT ls, .hole, .hole]) (if_f (not_next (b := true) (test_next (call_next rfl (is_within_t h3 (by omega : r ≤ m - 1))))) rfl) ?_
  refine seq_next (δ1 := [.obj "Net" [], .int m, .int r, lkT ls, .hole, .hole]) (if_f (or_next (b := false) rfl ?_) rfl) ?_
  · refine test_next (op_next (a := .int ls.length) (b := .int 60) (cb_next rfl (len_lkT ls)) rfl ?_)
    show some (D.bl (decide ((60 : Int) < (ls.length : Int)))) = _
    rw [decide_eq_false (by have := h.few; omega)]
  refine seq_next (δ1 := [.obj "Net" [], .int m, .int r, lkT ls, .hole, .hole]) (for_next rfl (net_loop ls 0 h.ok)) ?_
  rfl
/-! ### what is reached -/
theorem lk_ok {m : Int} {ls : List (Int × Int)} (hl : Lks m ls) {x : Int} (h0 : 0 ≤ x) (h1 : x < ls.length) : 0 ≤ (lk ls x).1 ∧ (lk ls x).1 < m ∧ 0 ≤ (lk ls x).2 ∧ (lk ls x).2 < m ∧ (lk ls x).1 ≠ (lk ls x).2 :=
  hl.ok _ (List.mem_of_getElem? (lk_get h0 h1))
theorem Lot.len {t : List Int} {n : Nat} (h : Lot t n) : t.length ≤ n := by
  have := inc_len t 0 n h.inc h.rg (by omega)
  omega
theorem reached_ok {m r : Int} {ls : List (Int × Int)} {t : List Int} (hl : Lks m ls) (hr : 0 ≤ r ∧ r < m) (hm : m ≤ 10) (ht : Lot t ls.length) :
    ∃ f, mm_reached [netD m r ls, iT t, iL [r]] = some (iL f, []) ∧ r ∈ f ∧ ∀ x ∈ t, (lk ls x).1 ∈ f → (lk ls x).2 ∈ f := by
  have tl : t.length ≤ 60 := Nat.le_trans ht.len hl.few
  have W := while_by (gc := mTest (mVar 4)) (gb := mThenVoid [5, 6] (mSeq (mSet 5 (mLcG [7] (mITup (mVar 1)) (fun d δ => some (δ.set 7 d)) (mTest (mOpW (inD false) (mOp ixD (mOp ixD (mUn (fldD ["Net"] "links") (mVar 0)) (mVar 7)) (mC (.int 0))) 3)) (mOp ixD (mOp ixD (mUn (fldD ["Net"] "links") (mVar 0)) (mVar 7)) (mC (.int 1))))) (mSeq (mSet 6 (mUn sortSetD (mLcG [8] (mIList (mVar 5)) (fun d δ => some (δ.set 8 d)) (mTest (mOpW (inD true) (mVar 8) 3)) (mVar 8)))) (mSeq (mSet 4 (mOp gtI (mCB lenD (mCons (mVar 6) mNil)) (mC (.int 0)))) (mExtend 3 (mVar 6))))))
    (fun k δ => ∃ f lg, δ = [netD m r ls, iT t, iL [r], iL f, .bl lg, .hole, .hole, .hole, .hole] ∧ f.Nodup ∧ (∀ x ∈ f, 0 ≤ x ∧ x < m) ∧ r ∈ f ∧ (lg = false → ∀ x ∈ t, (lk ls x).1 ∈ f → (lk ls x).2 ∈ f) ∧ k = (if lg then 1 else 0) + (10 - f.length))
    (fun δ => ∃ f, δ = [netD m r ls, iT t, iL [r], iL f, .bl false, .hole, .hole, .hole, .hole] ∧ r ∈ f ∧ ∀ x ∈ t, (lk ls x).1 ∈ f → (lk ls x).2 ∈ f) ?_ 100 10 [netD m r ls, iT t, iL [r], iL [r], .bl true, .hole, .hole, .hole, .hole] (by omega) ⟨[r], true, rfl, by simp, by simpa using hr, by simp, by simp, rfl⟩
  · obtain ⟨δ', e, f, rfl, h1, h2⟩ := W
    refine ⟨f, ?_, h1, h2⟩
    refine fn_ret (δ := [netD m r ls, iT t, iL [r], .hole, .hole, .hole, .hole, .hole, .hole]) ?_
    refine seq_next (δ1 := [netD m r ls, iT t, iL [r], iL [r], .hole, .hole, .hole, .hole, .hole]) rfl ?_
    refine seq_next (δ1 := [netD m r ls, iT t, iL [r], iL [r], .bl true, .hole, .hole, .hole, .hole]) rfl ?_
    exact seq_next e rfl
  · rintro k δ ⟨f, lg, rfl, nd, rg, rf, cl, rfl⟩
    cases lg with
    | false => exact .inl ⟨_, rfl, f, rfl, rf, cl rfl⟩
    | true =>
      have fl : f.length ≤ 10 := by have := nodup_len nd rg (by omega); omega
      let es := (t.filter fun x => decide ((lk ls x).1 ∈ f)).map fun x => (lk ls x).2
      let mo := es.filter fun x => !decide (x ∈ f)
      have es_in : ∀ y, y ∈ es ↔ ∃ x ∈ t, (lk ls x).1 ∈ f ∧ (lk ls x).2 = y := fun y => by
        simp only [es, List.mem_map, List.mem_filter, decide_eq_true_eq]
        exact ⟨fun ⟨x, ⟨a, b⟩, c⟩ => ⟨x, a, b, c⟩, fun ⟨x, a, b, c⟩ => ⟨x, ⟨a, b⟩, c⟩⟩
      have mo_in : ∀ y, y ∈ mo ↔ y ∈ es ∧ y ∉ f := fun y => by simp [mo, List.mem_filter]
      have es_rg : ∀ y ∈ es, 0 ≤ y ∧ y < m := fun y hy => by
        obtain ⟨x, h1, _, rfl⟩ := (es_in y).mp hy
        obtain ⟨h2, h3⟩ := ht.rg x h1
        have := lk_ok hl h2 h3
        exact ⟨this.2.2.1, this.2.2.2.1⟩
      have esl : es.length ≤ 60 := by
        simp only [es, List.length_map]
        exact Nat.le_trans (List.length_filter_le _ _) tl
      have mol : mo.length ≤ 60 := Nat.le_trans (List.length_filter_le _ _) esl
      have sl : (sortU mo).length ≤ 10 := by
        have := inc_len (sortU mo) 0 m (sortU_sorted mo) (fun x hx => es_rg x ((mo_in x).mp (mem_sortU.mp hx)).1) (by omega)
        omega
      refine .inr ⟨_, [netD m r ls, iT t, iL [r], iL (f ++ sortU mo), .bl (decide (0 < ((sortU mo).length : Int))), .hole, .hole, .hole, .hole], rfl, ?_, ?_⟩
      · refine void_next (δ1 := [netD m r ls, iT t, iL [r], iL (f ++ sortU mo), .bl (decide (0 < ((sortU mo).length : Int))), iL es, iL (sortU mo), .hole, .hole]) ?_
        have e1 : mLcG [7] (mITup (mVar 1)) (fun d δ => some (δ.set 7 d)) (mTest (mOpW (inD false) (mOp ixD (mOp ixD (mUn (fldD ["Net"] "links") (mVar 0)) (mVar 7)) (mC (.int 0))) 3)) (mOp ixD (mOp ixD (mUn (fldD ["Net"] "links") (mVar 0)) (mVar 7)) (mC (.int 1)))
            [netD m r ls, iT t, iL [r], iL f, .bl true, .hole, .hole, .hole, .hole] = some (iL es, [netD m r ls, iT t, iL [r], iL f, .bl true, .hole, .hole, .hole, .hole]) := by
          refine (lcG_pure (enc := D.int) (xs := t) (fun x => decide ((lk ls x).1 ∈ f)) (fun x => .int (lk ls x).2) rfl (by omega) rfl (fun x hx => ?_) fun x hx _ => ?_).trans ?_
          · obtain ⟨h2, h3⟩ := ht.rg x hx
            exact test_next (opw_next (op_next (op_next (un_next rfl fld_links) rfl (ix_lkT h2 h3)) rfl (ix_pr0 _)) rfl (in_L false _ f))
          · obtain ⟨h2, h3⟩ := ht.rg x hx
            exact op_next (op_next (un_next rfl fld_links) rfl (ix_lkT h2 h3)) rfl (ix_pr1 _)
          · simp only [es, iL, List.map_map]
            rfl
        have e2 : mLcG [8] (mIList (mVar 5)) (fun d δ => some (δ.set 8 d)) (mTest (mOpW (inD true) (mVar 8) 3)) (mVar 8) [netD m r ls, iT t, iL [r], iL f, .bl true, iL es, .hole, .hole, .hole] = some (iL mo, [netD m r ls, iT t, iL [r], iL f, .bl true, iL es, .hole, .hole, .hole]) :=
          lcG_pure (enc := D.int) (xs := es) (fun x => !decide (x ∈ f)) (fun x => .int x) rfl (by omega) rfl (fun x hx => test_next (opw_next rfl rfl (in_L true x f))) fun x hx _ => rfl
        have e3 : mOp gtI (mCB lenD (mCons (mVar 6) mNil)) (mC (.int 0)) [netD m r ls, iT t, iL [r], iL f, .bl true, iL es, iL (sortU mo), .hole, .hole] = some (.bl (decide (0 < ((sortU mo).length : Int))), [netD m r ls, iT t, iL [r], iL f, .bl true, iL es, iL (sortU mo), .hole, .hole]) :=
          op_next (cb_next (cons_next rfl rfl) (len_L _)) rfl rfl
        refine seq_next (δ1 := [netD m r ls, iT t, iL [r], iL f, .bl true, iL es, .hole, .hole, .hole]) (set_next e1) ?_
        refine seq_next (δ1 := [netD m r ls, iT t, iL [r], iL f, .bl true, iL es, iL (sortU mo), .hole, .hole]) (set_next (un_next e2 (sortSet_L (by omega) (by omega)))) ?_
        refine seq_next (δ1 := [netD m r ls, iT t, iL [r], iL f, .bl (decide (0 < ((sortU mo).length : Int))), iL es, iL (sortU mo), .hole, .hole]) (set_next e3) ?_
        exact extend_next (a := f) (b := sortU mo) (δ1 := [netD m r ls, iT t, iL [r], iL f, .bl (decide (0 < ((sortU mo).length : Int))), iL es, iL (sortU mo), .hole, .hole]) rfl rfl (by omega)
      · have nd2 : (f ++ sortU mo).Nodup := List.nodup_append.mpr ⟨nd, sortU_nodup mo, fun a ha b hb e => by
          subst e
          exact ((mo_in a).mp (mem_sortU.mp hb)).2 ha⟩
        have rg2 : ∀ x ∈ f ++ sortU mo, 0 ≤ x ∧ x < m := fun x hx => (List.mem_append.mp hx).elim (rg x) fun h => es_rg x ((mo_in x).mp (mem_sortU.mp h)).1
        have fl2 : (f ++ sortU mo).length ≤ 10 := by have := nodup_len nd2 rg2 (by omega); omega
        refine ⟨_, ?_, f ++ sortU mo, decide (0 < ((sortU mo).length : Int)), rfl, nd2, rg2, List.mem_append_left _ rf, fun e x hx hf => ?_, rfl⟩
        · rw [List.length_append] at fl2 ⊢
          by_cases z : 0 < ((sortU mo).length : Int)
          · rw [decide_eq_true z]
            simp only [if_true]
            omega
          · rw [decide_eq_false z]
            simp only [Bool.false_eq_true, if_false, if_true]
            omega
        · have z : (sortU mo).length = 0 := by
            have := of_decide_eq_false e
            omega
          have z := List.eq_nil_of_length_eq_zero z
          rw [z, List.append_nil] at hf ⊢
          by_cases y : (lk ls x).2 ∈ f
          · exact y
          · have : (lk ls x).2 ∈ sortU mo := mem_sortU.mpr ((mo_in _).mpr ⟨(es_in _).mpr ⟨x, hx, hf, rfl⟩, y⟩)
            rw [z] at this
            cases this
end W51

namespace W51
open PySem DL
/-- the way from the root to a place, by links of a tree -/
inductive Way (ls : List (Int × Int)) (t : List Int) (r : Int) : Int → List Int → Prop
  | root : Way ls t r r []
  | step {x w} : Way ls t r (lk ls x).1 w → x ∈ t → Way ls t r (lk ls x).2 (w ++ [x])
structure Tr (ls : List (Int × Int)) (m r : Int) (t : List Int) : Prop where
  lot : Lot t ls.length
  uq : ∀ x ∈ t, ∀ y ∈ t, (lk ls x).2 = (lk ls y).2 → x = y
  nr : ∀ x ∈ t, (lk ls x).2 ≠ r
  len : (t.length : Int) = m - 1
  way : ∀ q, 0 ≤ q → q < m → ∃ w, Way ls t r q w ∧ (w.length : Int) < m
/-- a net as it is drawn -/
structure NetOk (m r : Int) (ls : List (Int × Int)) : Prop where
  m2 : 2 ≤ m
  m10 : m ≤ 10
  r0 : 0 ≤ r
  rm : r < m
  lks : Lks m ls
section
variable {m r : Int} {ls : List (Int × Int)} {t : List Int}
theorem Tr.nd (h : Tr ls m r t) : t.Nodup := inc_nodup h.lot.inc
theorem Tr.len60 (n : NetOk m r ls) (h : Tr ls m r t) : t.length ≤ 60 := Nat.le_trans h.lot.len n.lks.few
theorem Tr.ends_nd (h : Tr ls m r t) : (t.map fun x => (lk ls x).2).Nodup :=
  List.pairwise_map.mpr (h.lot.inc.imp_of_mem fun {a b} ha hb l e => by have := h.uq a ha b hb e; omega)
theorem is_wood_ok (n : NetOk m r ls) (h : Tr ls m r t) : mm_is_wood [netD m r ls, iT t, iL [r]] = some (.bl true, []) := by
  have l60 := h.len60 n
  obtain ⟨f, ef, hf1, hf2⟩ := reached_ok n.lks ⟨n.r0, n.rm⟩ n.m10 h.lot
  let es := t.map fun x => (lk ls x).2
  have esl : es.length = t.length := List.length_map _
  have all_in : ∀ q w, Way ls t r q w → q ∈ f := fun q w hw => by
    induction hw with
    | root => exact hf1
    | step _ hx ih => exact hf2 _ hx ih
  have e1 : mLcG [5] (mITup (mVar 1)) (fun d δ => some (δ.set 5 d)) mYes (mOp ixD (mOp ixD (mUn (fldD ["Net"] "links") (mVar 0)) (mVar 5)) (mC (.int 1))) [netD m r ls, iT t, iL [r], .hole, .hole, .hole, .hole] = some (iL es, [netD m r ls, iT t, iL [r], .hole, .hole, .hole, .hole]) := by
    refine (lcG_map (enc := D.int) (xs := t) (fun x => .int (lk ls x).2) rfl (by omega) rfl fun x hx => ?_).trans ?_
    · obtain ⟨h2, h3⟩ := h.lot.rg x hx
      exact op_next (op_next (un_next rfl fld_links) rfl (ix_lkT h2 h3)) rfl (ix_pr1 _)
    · simp only [es, iL, List.map_map]
      rfl
  have e2 : mTest (mOp ltI (mUn lenSetD (mVar 3)) (mCB lenD (mCons (mVar 3) mNil))) [netD m r ls, iT t, iL [r], iL es, .hole, .hole, .hole] = some (false, [netD m r ls, iT t, iL [r], iL es, .hole, .hole, .hole]) := by
    refine test_next (op_next (a := .int (sortU es).length) (b := .int es.length) (un_next rfl (lenSet_L (by omega))) (cb_next (cons_next rfl rfl) (len_L es)) ?_)
    show some (D.bl (decide (((sortU es).length : Int) < (es.length : Int)))) = _
    rw [sortU_len h.ends_nd, decide_eq_false (Int.lt_irrefl _)]
  have e3 : mTest (mCB anyD (mCons (mLcG [6] (mIList (mVar 2)) (fun d δ => some (δ.set 6 d)) mYes (mOp (inD false) (mVar 6) (mVar 3))) mNil)) [netD m r ls, iT t, iL [r], iL es, .hole, .hole, .hole] = some (false, [netD m r ls, iT t, iL [r], iL es, .hole, .hole, .hole]) := by
    have nr : r ∉ es := fun z => by
      obtain ⟨x, hx, e⟩ := List.mem_map.mp z
      exact h.nr x hx e
    have e := lcG_map (enc := D.int) (gi := mIList (mVar 2)) (i := 6) (ge := mOp (inD false) (mVar 6) (mVar 3)) (δ := [netD m r ls, iT t, iL [r], iL es, .hole, .hole, .hole]) (xs := [r]) (fun x => .bl (decide (x ∈ es))) rfl (by show 1 < 1000000; decide) rfl fun x hx => op_next rfl rfl (in_L false x es)
    refine test_next (cb_next (cons_next e rfl) ?_)
    show some (D.bl ([decide (r ∈ es)].any id)) = _
    rw [decide_eq_false nr]
    rfl
  have e4 : mCB allD (mCons (mLcG [6] (mIList (mVar 3)) (fun d δ => some (δ.set 6 d)) mYes (mOp (inD false) (mVar 6) (mVar 4))) mNil) [netD m r ls, iT t, iL [r], iL es, iL f, .hole, .hole] = some (.bl true, [netD m r ls, iT t, iL [r], iL es, iL f, .hole, .hole]) := by
    have e := lcG_map (enc := D.int) (gi := mIList (mVar 3)) (i := 6) (ge := mOp (inD false) (mVar 6) (mVar 4)) (δ := [netD m r ls, iT t, iL [r], iL es, iL f, .hole, .hole]) (xs := es) (fun x => .bl (decide (x ∈ f))) rfl (by omega) rfl fun x hx => op_next rfl rfl (in_L false x f)
    refine cb_next (cons_next e rfl) ?_
    have z : es.map (fun x => D.bl (decide (x ∈ f))) = (es.map fun x => decide (x ∈ f)).map D.bl := map_bl es _
    rw [z, all_bl]
    have y : (es.map fun x => decide (x ∈ f)).all id = true := by
      rw [List.all_eq_true]
      intro b hb
      obtain ⟨x, hx, rfl⟩ := List.mem_map.mp hb
      obtain ⟨y, hy, rfl⟩ := List.mem_map.mp hx
      obtain ⟨h2, h3⟩ := h.lot.rg y hy
      have q := lk_ok n.lks h2 h3
      obtain ⟨w, hw, _⟩ := h.way _ q.2.2.1 q.2.2.2.1
      exact decide_eq_true (all_in _ w hw)
    rw [y]
  refine fn_ret (δ := [netD m r ls, iT t, iL [r], .hole, .hole, .hole, .hole]) ?_
  refine seq_next (δ1 := [netD m r ls, iT t, iL [r], iL es, .hole, .hole, .hole]) (set_next e1) ?_
  refine seq_next (δ1 := [netD m r ls, iT t, iL [r], iL es, .hole, .hole, .hole]) (if_f (or_next e2 e3) rfl) ?_
  refine seq_next (δ1 := [netD m r ls, iT t, iL [r], iL es, iL f, .hole, .hole]) (set_next (δ1 := [netD m r ls, iT t, iL [r], iL es, .hole, .hole, .hole]) (call_next rfl ef)) ?_
  exact ret_next e4
theorem is_grown_ok (n : NetOk m r ls) (h : Tr ls m r t) : mm_is_grown [netD m r ls, iT t] = some (.bl true, []) := by
  refine fn_ret (δ := [netD m r ls, iT t]) ?_
  refine seq_next (δ1 := [netD m r ls, iT t]) (drop_next (call_next rfl (check_net_ok m r ls))) ?_
  exact ret_next (and_next (a := true) (call_next rfl (is_lot_of_ok h.lot)) (call_next rfl (is_wood_ok n h)) (fun e => by cases e))
theorem is_tree_ok (n : NetOk m r ls) (h : Tr ls m r t) : mm_is_tree [netD m r ls, iT t] = some (.bl true, []) := by
  refine fn_ret (δ := [netD m r ls, iT t]) ?_
  refine (ret_next (δ1 := [netD m r ls, iT t]) (and_next (a := true) (call_next rfl (is_grown_ok n h)) (op_next (cb_next (cons_next rfl rfl) (len_T t)) (op_next (un_next rfl fld_many) rfl rfl) (eqD_int _ _)) (fun e => by cases e))).trans ?_
  rw [decide_eq_true h.len]
  rfl
theorem check_tree_ok (n : NetOk m r ls) (h : Tr ls m r t) : mm_check_tree [netD m r ls, iT t] = some (.non, []) := by
  refine fnN_end (δ := [netD m r ls, iT t]) (δ1 := [netD m r ls, iT t]) ?_
  refine seq_next (δ1 := [netD m r ls, iT t]) (drop_next (call_next rfl (check_net_ok m r ls))) ?_
  exact if_f (not_next (b := true) (test_next (call_next rfl (is_tree_ok n h)))) rfl
end
end W51

namespace W51
open PySem DL
def tsT (ts : List (List Int)) : D := .tup (ts.map iT)
/-- trees that share no link -/
structure Ts (ls : List (Int × Int)) (m r : Int) (ts : List (List Int)) : Prop where
  tr : ∀ t ∈ ts, Tr ls m r t
  apart : ts.flatten.Nodup
  le12 : ts.length ≤ 12
  ge1 : 1 ≤ ts.length
section
variable {m r : Int} {ls : List (Int × Int)} {t : List Int} {ts : List (List Int)}
theorem Ts.flat60 (n : NetOk m r ls) (h : Ts ls m r ts) : ts.flatten.length ≤ 60 := by
  have := nodup_len (a := 0) (b := (ls.length : Int)) h.apart (fun x hx => by
    obtain ⟨t, ht, hx⟩ := List.mem_flatten.mp hx
    exact (h.tr t ht).lot.rg x hx) (by omega)
  have := n.lks.few
  omega
theorem are_apart_ok (n : NetOk m r ls) (h : Ts ls m r ts) : mm_are_apart [tsT ts] = some (.bl true, []) := by
  have l60 := h.flat60 n
  obtain ⟨δ', e, rfl⟩ := for_by (enc := iT) (gm := fun d δ => some (δ.set 2 d)) (gb := mThenVoid [2] (mExtend 1 (mVar 2))) (fun done δ => δ = [tsT ts, iL done.flatten, .hole]) ts [] [tsT ts, iL [], .hole] (fun pre x post δ ep e => by
    subst e
    have el : pre.flatten.length + x.length ≤ ts.flatten.length := by
      have : ts = pre ++ x :: post := by simpa using ep
      rw [this]
      simp only [List.flatten_append, List.flatten_cons, List.length_append]
      omega
    refine ⟨[tsT ts, iL pre.flatten, iT x], _, rfl, void_next (δ1 := [tsT ts, iL (pre.flatten ++ x), iT x]) (extendT_next (a := pre.flatten) (b := x) (δ1 := [tsT ts, iL pre.flatten, iT x]) rfl rfl (by omega)), ?_⟩
    simp only [List.flatten_append, List.flatten_cons, List.flatten_nil, List.append_nil]
    rfl) rfl
  rw [List.nil_append] at e
  refine fn_ret (δ := [tsT ts, .hole, .hole]) ?_
  refine seq_next (δ1 := [tsT ts, iL [], .hole]) rfl ?_
  refine seq_next (δ1 := [tsT ts, iL ts.flatten, .hole]) (for_next rfl e) ?_
  refine (ret_next (δ1 := [tsT ts, iL ts.flatten, .hole]) (op_next (un_next rfl (lenSet_L (by omega))) (cb_next (cons_next rfl rfl) (len_L _)) (eqD_int _ _))).trans ?_
  rw [sortU_len h.apart, decide_eq_true rfl]
  rfl
theorem is_packing_ok (n : NetOk m r ls) (h : Ts ls m r ts) : mm_is_packing [netD m r ls, tsT ts] = some (.bl true, []) := by
  have l12 := h.le12
  have e := lcG_map (enc := iT) (gi := mITup (mVar 1)) (i := 2) (ge := mCall mm_is_tree (mCons (mVar 0) (mCons (mVar 2) mNil))) (δ := [netD m r ls, tsT ts, .hole]) (xs := ts) (fun _ => .bl true) rfl (by omega) rfl fun x hx => call_next rfl (is_tree_ok n (h.tr x hx))
  have e2 := all_p ts (fun _ => true)
  have e3 : ts.all (fun _ => true) = true := List.all_eq_true.mpr fun _ _ => rfl
  rw [e3] at e2
  refine fn_ret (δ := [netD m r ls, tsT ts, .hole]) ?_
  refine seq_next (δ1 := [netD m r ls, tsT ts, .hole]) (drop_next (call_next rfl (check_net_ok m r ls))) ?_
  refine seq_next (δ1 := [netD m r ls, tsT ts, .hole]) (if_f (or_next (δ1 := [netD m r ls, tsT ts, .hole]) (b := false) rfl (not_next (b := true) (test_next (cb_next (cons_next e rfl) e2)))) rfl) ?_
  exact ret_next (call_next rfl (are_apart_ok n h))
/-! ### ways -/
theorem Way.place (n : NetOk m r ls) (h : Lot t ls.length) {q : Int} {w : List Int} (hw : Way ls t r q w) : 0 ≤ q ∧ q < m := by
  cases hw with
  | root => exact ⟨n.r0, n.rm⟩
  | step _ hx =>
    obtain ⟨h2, h3⟩ := h.rg _ hx
    have := lk_ok n.lks h2 h3
    exact ⟨this.2.2.1, this.2.2.2.1⟩
theorem ent_one (h : Tr ls m r t) {x : Int} (hx : x ∈ t) : (t.filter fun y => decide ((lk ls y).2 = (lk ls x).2)) = [x] :=
  filter_one h.nd hx (decide_eq_true rfl) fun y hy e => h.uq y hy x hx (of_decide_eq_true e)
theorem Way.uniq (h : Tr ls m r t) {q : Int} {w w' : List Int} (hw : Way ls t r q w) (hw' : Way ls t r q w') : w = w' := by
  induction hw generalizing w' with
  | root =>
    generalize e : r = q at hw'
    cases hw' with
    | root => rfl
    | step _ hx => exact absurd e.symm (h.nr _ hx)
  | @step x w h1 hx ih =>
    generalize e : (lk ls x).2 = q at hw'
    cases hw' with
    | root => exact absurd e (h.nr _ hx)
    | @step y w2 h2 hy =>
      have := h.uq x hx y hy e
      subst this
      rw [ih h2]
theorem Way.mem {q : Int} {w : List Int} (hw : Way ls t r q w) : ∀ x ∈ w, x ∈ t := by
  induction hw with
  | root => intro x hx; cases hx
  | step _ hx ih =>
    intro y hy
    rcases List.mem_append.mp hy with hy | hy
    · exact ih y hy
    · rw [List.mem_singleton.mp hy]; exact hx
theorem links_loop (n : NetOk m r ls) (h : Tr ls m r t) {q : Int} {w : List Int} (hw : Way ls t r q w) : ∀ (k : Nat) (suf : List Int), w.length < k → w.length + suf.length ≤ 100 →
    whileN k (mTest (mOp neD (mVar 2) (mUn (fldD ["Net"] "root") (mVar 0)))) (mThenVoid [4] (mSeq (mSet 4 (mOp ixD (mLcG [5] (mITup (mVar 1)) (fun d δ => some (δ.set 5 d)) (mTest (mOp eqD (mOp ixD (mOp ixD (mUn (fldD ["Net"] "links") (mVar 0)) (mVar 5)) (mC (.int 1))) (mVar 2))) (mVar 5)) (mC (.int 0)))) (mSeq (mSet 3 (mOp catT (mTup (mCons (mVar 4) mNil)) (mVar 3))) (mSet 2 (mOp ixD (mOp ixD (mUn (fldD ["Net"] "links") (mVar 0)) (mVar 4)) (mC (.int 0)))))))
      [netD m r ls, iT t, .int q, iT suf, .hole, .hole] = some (.nx [netD m r ls, iT t, .int r, iT (w ++ suf), .hole, .hole]) := by
  induction hw with
  | root =>
    intro k suf hk _
    cases k with
    | zero => exact absurd hk (Nat.not_lt_zero _)
    | succ k =>
      rw [whileN, test_next (op_next (a := .int r) (b := .int r) rfl (un_next rfl fld_root) (neD_int r r))]
      simp only [decide_true, Bool.not_true, Option.bind_some, Bool.false_eq_true, if_false]
      rfl
  | @step x w h1 hx ih =>
    intro k suf hk hl
    rw [List.length_append, List.length_singleton] at hk hl
    cases k with
    | zero => exact absurd hk (Nat.not_lt_zero _)
    | succ k =>
      obtain ⟨h2, h3⟩ := h.lot.rg x hx
      have l60 := h.len60 n
      have e1 : mLcG [5] (mITup (mVar 1)) (fun d δ => some (δ.set 5 d)) (mTest (mOp eqD (mOp ixD (mOp ixD (mUn (fldD ["Net"] "links") (mVar 0)) (mVar 5)) (mC (.int 1))) (mVar 2))) (mVar 5) [netD m r ls, iT t, .int (lk ls x).2, iT suf, .hole, .hole] = some (iL [x], [netD m r ls, iT t, .int (lk ls x).2, iT suf, .hole, .hole]) := by
        refine (lcG_pure (enc := D.int) (xs := t) (fun y => decide ((lk ls y).2 = (lk ls x).2)) (fun y => .int y) rfl (by omega) rfl (fun y hy => ?_) fun y hy _ => rfl).trans ?_
        · obtain ⟨h4, h5⟩ := h.lot.rg y hy
          exact test_next (op_next (op_next (op_next (un_next rfl fld_links) rfl (ix_lkT h4 h5)) rfl (ix_pr1 _)) rfl (eqD_int _ _))
        · rw [ent_one h hx]
          rfl
      have e2 : mOp ixD (mOp ixD (mUn (fldD ["Net"] "links") (mVar 0)) (mVar 4)) (mC (.int 0)) [netD m r ls, iT t, .int (lk ls x).2, iT (x :: suf), .int x, .hole] = some (.int (lk ls x).1, [netD m r ls, iT t, .int (lk ls x).2, iT (x :: suf), .int x, .hole]) :=
        op_next (op_next (un_next rfl fld_links) rfl (ix_lkT h2 h3)) rfl (ix_pr0 _)
      have e3 : mOp catT (mTup (mCons (mVar 4) mNil)) (mVar 3) [netD m r ls, iT t, .int (lk ls x).2, iT suf, .int x, .hole] = some (iT (x :: suf), [netD m r ls, iT t, .int (lk ls x).2, iT suf, .int x, .hole]) :=
        op_next (a := iT [x]) (b := iT suf) rfl rfl (cat_T [x] suf (by simp only [List.length_singleton]; omega))
      rw [whileN, test_next (op_next (a := .int (lk ls x).2) (b := .int r) rfl (un_next rfl fld_root) (neD_int _ _))]
      rw [decide_eq_false (h.nr x hx)]
      simp only [Bool.not_false, Option.bind_some, if_true]
      rw [void_next (δ1 := [netD m r ls, iT t, .int (lk ls x).1, iT (x :: suf), .int x, .hole]) (seq_next (δ1 := [netD m r ls, iT t, .int (lk ls x).2, iT suf, .int x, .hole]) (set_to (op_next e1 rfl rfl) rfl) (seq_next (δ1 := [netD m r ls, iT t, .int (lk ls x).2, iT (x :: suf), .int x, .hole]) (set_to e3 rfl) (set_to e2 rfl)))]
      have := ih k (x :: suf) (by omega) (by simp only [List.length_cons]; omega)
      rw [List.append_assoc]
      exact this
theorem links_to_ok (n : NetOk m r ls) (h : Tr ls m r t) {q : Int} {w : List Int} (hw : Way ls t r q w) (hl : (w.length : Int) < m) : mm_links_to [netD m r ls, iT t, .int q] = some (iT w, []) := by
  have m10 := n.m10
  have e := links_loop n h hw 100 [] (by omega) (by simp only [List.length_nil]; omega)
  rw [List.append_nil] at e
  refine fn_ret (δ := [netD m r ls, iT t, .int q, .hole, .hole, .hole]) ?_
  refine seq_next (δ1 := [netD m r ls, iT t, .int q, iT [], .hole, .hole]) rfl ?_
  exact seq_next e rfl
end
end W51

namespace W51
open PySem DL
open Classical in
noncomputable def wy (ls : List (Int × Int)) (r : Int) (t : List Int) (q : Int) : List Int := if h : ∃ w, Way ls t r q w then h.choose else []
def planD (m r : Int) (ls : List (Int × Int)) (ts : List (List Int)) (s : Int) (kd : D) : D := .obj "Plan" [("of_net", netD m r ls), ("by_trees", tsT ts), ("of_size", .int s), ("kept_depths", kd)]
section
variable {m r s : Int} {ls : List (Int × Int)} {t : List Int} {ts : List (List Int)} {kd : D}
theorem wy_eq (h : Tr ls m r t) {q : Int} {w : List Int} (hw : Way ls t r q w) : wy ls r t q = w := by
  have e : ∃ w, Way ls t r q w := ⟨w, hw⟩
  unfold wy
  rw [dif_pos e]
  exact e.choose_spec.uniq h hw
theorem wy_ok (h : Tr ls m r t) {q : Int} (h0 : 0 ≤ q) (h1 : q < m) : Way ls t r q (wy ls r t q) ∧ ((wy ls r t q).length : Int) < m := by
  obtain ⟨w, hw, hl⟩ := h.way q h0 h1
  rw [wy_eq h hw]
  exact ⟨hw, hl⟩
theorem depths_ok (n : NetOk m r ls) (h : Tr ls m r t) : ∃ d, mm_depths [netD m r ls, iT t] = some (d, []) := by
  have m2 := n.m2
  have m10 := n.m10
  have e := lcG_map (enc := D.int) (gi := mRng1 (mCons (mUn (fldD ["Net"] "many") (mVar 0)) mNil)) (i := 2) (ge := mCB lenD (mCons (mCall mm_links_to (mCons (mVar 0) (mCons (mVar 1) (mCons (mVar 2) mNil)))) mNil)) (δ := [netD m r ls, iT t, .hole]) (xs := rg m)
    (fun q => .int ((wy ls r t q).length)) (rng1_next (cons_next (un_next rfl fld_many) rfl) (by omega) (by omega)) (by rw [rg_len]; omega) rfl fun q hq => by
      obtain ⟨h0, h1⟩ := mem_rg.mp hq
      obtain ⟨hw, hl⟩ := wy_ok h h0 h1
      exact cb_next (cons_next (call_next rfl (links_to_ok n h hw hl)) rfl) (len_T _)
  refine ⟨.tup ((rg m).map fun q => .int ((wy ls r t q).length)), ?_⟩
  refine fn_ret (δ := [netD m r ls, iT t, .hole]) ?_
  refine seq_next (δ1 := [netD m r ls, iT t, .hole]) (drop_next (call_next rfl (check_tree_ok n h))) ?_
  exact ret_next (cb_next (cons_next e rfl) rfl)
theorem way_in_ok (n : NetOk m r ls) (h : Tr ls m r t) {q : Int} (h0 : 0 ≤ q) (h1 : q < m) : mm_way_in [netD m r ls, iT t, .int q] = some (iT (wy ls r t q), []) := by
  obtain ⟨hw, hl⟩ := wy_ok h h0 h1
  refine fn_ret (δ := [netD m r ls, iT t, .int q]) ?_
  refine seq_next (δ1 := [netD m r ls, iT t, .int q]) (drop_next (call_next rfl (check_tree_ok n h))) ?_
  refine seq_next (δ1 := [netD m r ls, iT t, .int q]) (if_f (not_next (b := true) (test_next (call_next (ds := [.int q, .int 0, .int (m - 1)]) (cons_next rfl (cons_next rfl (cons_next (op_next (un_next rfl fld_many) rfl rfl) rfl))) (is_within_t h0 (by omega))))) rfl) ?_
  exact ret_next (call_next rfl (links_to_ok n h hw hl))
theorem len_ts (ts : List (List Int)) : lenD [tsT ts] = some (.int ts.length) := by
  show some (D.int ((ts.map iT).length : Int)) = _
  rw [List.length_map]
theorem plan_ok (n : NetOk m r ls) (h : Ts ls m r ts) (hs : 1 ≤ s) (hs8 : s ≤ 8) (hst : s ≤ ts.length) : ∃ kd, mm_Plan_init [.obj "Plan" [], netD m r ls, tsT ts, .int s] = some (.non, [planD m r ls ts s kd]) := by
  have l12 := h.le12
  have l1 := h.ge1
  have ex : ∀ t : List Int, ∃ d, t ∈ ts → mm_depths [netD m r ls, iT t] = some (d, []) := fun t => by
    by_cases z : t ∈ ts
    · obtain ⟨d, e⟩ := depths_ok n (h.tr t z)
      exact ⟨d, fun _ => e⟩
    · exact ⟨.hole, fun y => absurd y z⟩
  let f := fun t => (ex t).choose
  have e := lcG_map (enc := iT) (gi := mITup (mVar 2)) (i := 4) (ge := mCall mm_depths (mCons (mVar 1) (mCons (mVar 4) mNil))) (δ := [.obj "Plan" [("of_net", netD m r ls), ("by_trees", tsT ts), ("of_size", .int s)], netD m r ls, tsT ts, .int s, .hole]) (xs := ts) f rfl (by omega) rfl
    fun t ht => call_next rfl ((ex t).choose_spec ht)
  refine ⟨.lst (ts.map f), ?_⟩
  have e1 : mChain leI leI (mC (.int 1)) (mCB lenD (mCons (mVar 2) mNil)) (mC (.int 12)) [.obj "Plan" [], netD m r ls, tsT ts, .int s, .hole] = some (.bl true, [.obj "Plan" [], netD m r ls, tsT ts, .int s, .hole]) := by
    refine chain_next (b := .int ts.length) rfl (cb_next (cons_next rfl rfl) (len_ts ts)) ?_ rfl ?_
    · show some (D.bl (decide ((1 : Int) ≤ (ts.length : Int)))) = _
      rw [decide_eq_true (by omega)]
    · show some (D.bl (decide ((ts.length : Int) ≤ (12 : Int)))) = _
      rw [decide_eq_true (by omega)]
  have e2 : mCB min2D (mCons (mC (.int 8)) (mCons (mCB lenD (mCons (mVar 2) mNil)) mNil)) [.obj "Plan" [], netD m r ls, tsT ts, .int s, .hole] = some (.int (if (ts.length : Int) < 8 then (ts.length : Int) else 8), [.obj "Plan" [], netD m r ls, tsT ts, .int s, .hole]) :=
    cb_next (cons_next rfl (cons_next (cb_next (cons_next rfl rfl) (len_ts ts)) rfl)) rfl
  refine fnN_end (δ := [.obj "Plan" [], netD m r ls, tsT ts, .int s, .hole]) (δ1 := [planD m r ls ts s (.lst (ts.map f)), netD m r ls, tsT ts, .int s, .hole]) ?_
  refine seq_next (δ1 := [.obj "Plan" [], netD m r ls, tsT ts, .int s, .hole]) (drop_next (call_next rfl (check_net_ok m r ls))) ?_
  refine seq_next (δ1 := [.obj "Plan" [], netD m r ls, tsT ts, .int s, .hole]) (if_f (or_next (not_next (b := true) (test_next (call_next rfl (is_packing_ok n h)))) (not_next (b := true) (test_next e1))) rfl) ?_
  refine seq_next (δ1 := [.obj "Plan" [], netD m r ls, tsT ts, .int s, .hole]) (if_f (not_next (b := true) (test_next (call_next (cons_next rfl (cons_next rfl (cons_next e2 rfl))) (is_within_t hs (by split <;> omega))))) rfl) ?_
  refine seq_next (δ1 := [.obj "Plan" [("of_net", netD m r ls)], netD m r ls, tsT ts, .int s, .hole]) rfl ?_
  refine seq_next (δ1 := [.obj "Plan" [("of_net", netD m r ls), ("by_trees", tsT ts)], netD m r ls, tsT ts, .int s, .hole]) rfl ?_
  refine seq_next (δ1 := [.obj "Plan" [("of_net", netD m r ls), ("by_trees", tsT ts), ("of_size", .int s)], netD m r ls, tsT ts, .int s, .hole]) rfl ?_
  unfold mFldNew
  rw [e]
  rfl
/-! ### who is stopped -/
noncomputable def cutN (ls : List (Int × Int)) (r : Int) (ts : List (List Int)) (lost : List Int) (q : Int) : Nat := ((ts.map fun t => wy ls r t q).filter fun w => w.any fun x => decide (x ∈ lost)).length
noncomputable def stopL (m r : Int) (ls : List (Int × Int)) (ts : List (List Int)) (s : Int) (lost : List Int) : List Int := (rg m).filter fun q => decide ((ts.length : Int) - (cutN ls r ts lost q : Int) < s)
theorem fld_net : fldD ["Plan"] "of_net" (planD m r ls ts s kd) = some (netD m r ls) := rfl
theorem fld_trees : fldD ["Plan"] "by_trees" (planD m r ls ts s kd) = some (tsT ts) := rfl
theorem fld_size : fldD ["Plan"] "of_size" (planD m r ls ts s kd) = some (.int s) := rfl
theorem check_plan_ok : mm_check_plan [planD m r ls ts s kd] = some (.non, []) := rfl
theorem check_lost_ok {lost : List Int} (h : Lot lost ls.length) : mm_check_lost [netD m r ls, iT lost] = some (.non, []) := by
  refine fnN_end (δ := [netD m r ls, iT lost]) (δ1 := [netD m r ls, iT lost]) ?_
  exact if_f (not_next (b := true) (test_next (call_next (cons_next rfl (cons_next (cb_next (cons_next (un_next rfl fld_links) rfl) (len_lkT ls)) rfl)) (is_lot_ok h)))) rfl
theorem cut_ok (n : NetOk m r ls) (h : Ts ls m r ts) {q : Int} (h0 : 0 ≤ q) (h1 : q < m) (lost : List Int) : mm_cut_trees [planD m r ls ts s kd, .int q, iT lost] = some (.int (cutN ls r ts lost q), []) := by
  have l12 := h.le12
  have m10 := n.m10
  let ws := ts.map fun t => wy ls r t q
  have wl : ∀ w ∈ ws, w.length < 1000000 := fun w hw => by
    obtain ⟨t, ht, rfl⟩ := List.mem_map.mp hw
    have := (wy_ok (h.tr t ht) h0 h1).2
    omega
  have e1 := lcG_map (enc := iT) (gi := mITup (mUn (fldD ["Plan"] "by_trees") (mVar 0))) (i := 4) (ge := mCall mm_way_in (mCons (mUn (fldD ["Plan"] "of_net") (mVar 0)) (mCons (mVar 4) (mCons (mVar 1) mNil)))) (δ := [planD m r ls ts s kd, .int q, iT lost, .hole, .hole, .hole, .hole]) (xs := ts)
    (fun t => iT (wy ls r t q)) rfl (by omega) rfl fun t ht => call_next (cons_next (un_next rfl fld_net) rfl) (way_in_ok n (h.tr t ht) h0 h1)
  have ew : (ts.map fun t => iT (wy ls r t q)) = ws.map iT := by simp only [ws, List.map_map]; rfl
  rw [ew] at e1
  have e2 := lcG_pure (enc := iT) (gi := mIList (mVar 3)) (i := 5) (gt := mTest (mCB anyD (mCons (mLcG [6] (mITup (mVar 5)) (fun d δ => some (δ.set 6 d)) mYes (mOp (inD false) (mVar 6) (mVar 2))) mNil))) (ge := mVar 5) (δ := [planD m r ls ts s kd, .int q, iT lost, .lst (ws.map iT), .hole, .hole, .hole]) (xs := ws)
    (fun w => w.any fun x => decide (x ∈ lost)) iT rfl (by simp only [ws, List.length_map]; omega) rfl (fun w hw => by
      have e := lcG_map (enc := D.int) (gi := mITup (mVar 5)) (i := 6) (ge := mOp (inD false) (mVar 6) (mVar 2)) (δ := [planD m r ls ts s kd, .int q, iT lost, .lst (ws.map iT), .hole, iT w, .hole]) (xs := w) (fun x => .bl (decide (x ∈ lost))) rfl (wl w hw) rfl fun x hx => op_next rfl rfl (in_T false x lost)
      exact test_next (cb_next (cons_next e rfl) (any_p w _))) fun w hw _ => rfl
  refine fn_ret (δ := [planD m r ls ts s kd, .int q, iT lost, .hole, .hole, .hole, .hole]) ?_
  refine seq_next (δ1 := [planD m r ls ts s kd, .int q, iT lost, .lst (ws.map iT), .hole, .hole, .hole]) (set_to e1 rfl) ?_
  exact ret_next (cb_next (cons_next e2 rfl) (len_map iT _))
theorem is_stopped_ok (n : NetOk m r ls) (h : Ts ls m r ts) {q : Int} (h0 : 0 ≤ q) (h1 : q < m) (lost : List Int) : mm_is_stopped [planD m r ls ts s kd, .int q, iT lost] = some (.bl (decide ((ts.length : Int) - (cutN ls r ts lost q : Int) < s)), []) := by
  refine fn_ret (δ := [planD m r ls ts s kd, .int q, iT lost]) ?_
  exact ret_next (op_next (op_next (cb_next (cons_next (un_next rfl fld_trees) rfl) (len_ts ts)) (call_next rfl (cut_ok n h h0 h1 lost)) rfl) (un_next rfl fld_size) rfl)
theorem stopped_ok (n : NetOk m r ls) (h : Ts ls m r ts) {lost : List Int} (hl : Lot lost ls.length) : mm_stopped [planD m r ls ts s kd, iT lost] = some (iT (stopL m r ls ts s lost), []) := by
  have m2 := n.m2
  have m10 := n.m10
  have e := lcG_pure (enc := D.int) (gi := mRng1 (mCons (mUn (fldD ["Net"] "many") (mUn (fldD ["Plan"] "of_net") (mVar 0))) mNil)) (i := 2) (gt := mTest (mCall mm_is_stopped (mCons (mVar 0) (mCons (mVar 2) (mCons (mVar 1) mNil))))) (ge := mVar 2) (δ := [planD m r ls ts s kd, iT lost, .hole]) (xs := rg m)
    (fun q => decide ((ts.length : Int) - (cutN ls r ts lost q : Int) < s)) D.int (rng1_next (cons_next (un_next (un_next rfl fld_net) fld_many) rfl) (by omega) (by omega)) (by rw [rg_len]; omega) rfl
    (fun q hq => by
      obtain ⟨h0, h1⟩ := mem_rg.mp hq
      exact test_next (call_next rfl (is_stopped_ok n h h0 h1 lost))) fun q hq _ => rfl
  refine fn_ret (δ := [planD m r ls ts s kd, iT lost, .hole]) ?_
  refine seq_next (δ1 := [planD m r ls ts s kd, iT lost, .hole]) (drop_next (call_next rfl check_plan_ok)) ?_
  refine seq_next (δ1 := [planD m r ls ts s kd, iT lost, .hole]) (drop_next (call_next (cons_next (un_next rfl fld_net) rfl) (check_lost_ok hl))) ?_
  exact ret_next (cb_next (cons_next e rfl) rfl)
end
end W51

namespace W51
open PySem DL
/-! ### draws -/
theorem mixed_ok (c u : Int) : ∃ v, mm__law_mixed [.int c, .int u] = some (.int v, []) := by
  let n1 := (c % 2147483647 + 7919 * u + 1) * 48271 % 2147483647
  let n2 := n1 * (n1 / 1009 + 69621) % 2147483647
  have b1 : 0 ≤ n1 ∧ n1 < 2147483647 := ⟨Int.emod_nonneg _ (by decide), Int.emod_lt_of_pos _ (by decide)⟩
  have b2 : 0 ≤ n2 ∧ n2 < 2147483647 := ⟨Int.emod_nonneg _ (by decide), Int.emod_lt_of_pos _ (by decide)⟩
  refine ⟨n2 * (n2 / 2003 + 40692) % 2147483399 / 16, ?_⟩
  refine fn_ret (δ := [.int c, .int u, .hole]) ?_
  refine seq_next (δ1 := [.int c, .int u, .int n1]) (set_to (op_next (op_next (op_next (op_next (op_next rfl rfl (mod_ok (by decide))) (op_next rfl rfl (mul_l (by decide) (by decide))) rfl) rfl rfl) rfl (mul_r (by decide) (by decide))) rfl (mod_ok (by decide))) rfl) ?_
  refine seq_next (δ1 := [.int c, .int u, .int n2]) (set_to (op_next (op_next rfl (op_next (op_next rfl rfl (div_ok (by decide) (by decide))) rfl rfl) (mul_l (by omega) (by omega))) rfl (mod_ok (by decide))) rfl) ?_
  exact ret_next (op_next (op_next (op_next rfl (op_next (op_next rfl rfl (div_ok (by decide) (by decide))) rfl rfl) (mul_l (by omega) (by omega))) rfl (mod_ok (by decide))) rfl (div_ok (by decide) (by decide)))
def bgD (cs : List Int) (a c u : Int) : D := .lst [iL cs, .int a, .int c, .int u]
def IsBag (d : D) : Prop := ∃ cs a c u, d = bgD cs a c u
theorem draw_ok {b : D} (hb : IsBag b) {k : Int} (h0 : 0 < k) (h1 : k < 1073741824) : ∃ v b', mm__law_draw [b, .int k] = some (.int v, [b']) ∧ 0 ≤ v ∧ v < k ∧ IsBag b' := by
  obtain ⟨cs, a, c, u, rfl⟩ := hb
  have md : ∀ x : Int, 0 ≤ x % k ∧ x % k < k := fun x => ⟨Int.emod_nonneg _ (by omega), Int.emod_lt_of_pos _ h0⟩
  have s1 : mSetIx 0 (mOp addI (mOpV ixD 0 (mC (.int 3))) (mC (.int 1))) (mC (.int 3)) [bgD cs a c u, .int k, .hole, .hole, .hole, .hole] = some (.nx [bgD cs a c (u + 1), .int k, .hole, .hole, .hole, .hole]) := rfl
  by_cases hc : 0 < c
  · refine ⟨c % k, bgD cs a (c / k) (u + 1), ?_, (md c).1, (md c).2, cs, a, c / k, u + 1, rfl⟩
    refine fn_ret (δ := [bgD cs a c u, .int k, .hole, .hole, .hole, .hole]) ?_
    refine seq_next s1 (seq_ret (if_t (δ1 := [bgD cs a c (u + 1), .int k, .hole, .hole, .hole, .hole]) ?_ ?_))
    · refine (test_next (b := decide (0 < c)) rfl).trans ?_
      rw [decide_eq_true hc]
    · refine seq_next (δ1 := [bgD cs a c (u + 1), .int k, .hole, .hole, .hole, .int (c % k)]) (set_to (op_next (a := .int c) (b := .int k) rfl rfl (mod_ok h0)) rfl) ?_
      refine seq_next (δ1 := [bgD cs a (c / k) (u + 1), .int k, .hole, .hole, .hole, .int (c % k)]) ?_ rfl
      unfold mSetIx
      rw [op_next (a := .int c) (b := .int k) (δ2 := [bgD cs a c (u + 1), .int k, .hole, .hole, .hole, .int (c % k)]) rfl rfl (div_ok h0 h1)]
      rfl
  · have s2 : ∀ g : MS, mIfS (mTest (mOp gtI (mOpV ixD 0 (mC (.int 2))) (mC (.int 0)))) g mNx [bgD cs a c (u + 1), .int k, .hole, .hole, .hole, .hole] = some (.nx [bgD cs a c (u + 1), .int k, .hole, .hole, .hole, .hole]) := fun g => by
      refine if_f ?_ rfl
      refine (test_next (b := decide (0 < c)) rfl).trans ?_
      rw [decide_eq_false hc]
    cases cs with
    | nil =>
      obtain ⟨v, ev⟩ := mixed_ok 0 (u + 1)
      refine ⟨v % k, bgD [] a c (u + 1), ?_, (md v).1, (md v).2, [], a, c, u + 1, rfl⟩
      refine fn_ret (δ := [bgD [] a c u, .int k, .hole, .hole, .hole, .hole]) ?_
      refine seq_next s1 (seq_next (s2 _) (seq_next (δ1 := [bgD [] a c (u + 1), .int k, iL [], .hole, .hole, .hole]) rfl (seq_ret (if_t (δ1 := [bgD [] a c (u + 1), .int k, iL [], .hole, .hole, .hole]) rfl ?_))))
      exact ret_to (op_next (δ1 := [bgD [] a c (u + 1), .int k, iL [], .hole, .hole, .hole]) (call_next rfl ev) rfl (mod_ok h0)) rfl
    | cons z zs =>
      let n : Int := ((z :: zs).length : Int)
      have hn : 0 < n := by simp only [n, List.length_cons]; omega
      have mdn : 0 ≤ a % n ∧ a % n < n := ⟨Int.emod_nonneg _ (by omega), Int.emod_lt_of_pos _ hn⟩
      obtain ⟨w, hw⟩ : ∃ w, (z :: zs)[(a % n).toNat]? = some w := ⟨_, List.getElem?_eq_getElem (by omega)⟩
      have s3 : mSet 2 (mOpV ixD 0 (mC (.int 0))) [bgD (z :: zs) a c (u + 1), .int k, .hole, .hole, .hole, .hole] = some (.nx [bgD (z :: zs) a c (u + 1), .int k, iL (z :: zs), .hole, .hole, .hole]) := rfl
      have s4 : ∀ g : MS, mIfS (mTest (mOp eqD (mCB lenD (mCons (mVar 2) mNil)) (mC (.int 0)))) g mNx [bgD (z :: zs) a c (u + 1), .int k, iL (z :: zs), .hole, .hole, .hole] = some (.nx [bgD (z :: zs) a c (u + 1), .int k, iL (z :: zs), .hole, .hole, .hole]) := fun g => by
        refine if_f ?_ rfl
        refine (test_next (op_next (cb_next (cons_next rfl rfl) (len_L _)) rfl (eqD_int _ _))).trans ?_
        rw [decide_eq_false (by omega)]
      have s5 : mSet 3 (mOpV ixD 0 (mC (.int 1))) [bgD (z :: zs) a c (u + 1), .int k, iL (z :: zs), .hole, .hole, .hole] = some (.nx [bgD (z :: zs) a c (u + 1), .int k, iL (z :: zs), .int a, .hole, .hole]) := rfl
      have s6 : mSetIx 0 (mOp addI (mVar 3) (mC (.int 1))) (mC (.int 1)) [bgD (z :: zs) a c (u + 1), .int k, iL (z :: zs), .int a, .hole, .hole] = some (.nx [bgD (z :: zs) (a + 1) c (u + 1), .int k, iL (z :: zs), .int a, .hole, .hole]) := rfl
      have s7 : mSet 4 (mOp ixD (mVar 2) (mOp modI (mCB intD (mCons (mVar 3) mNil)) (mCB lenD (mCons (mVar 2) mNil)))) [bgD (z :: zs) (a + 1) c (u + 1), .int k, iL (z :: zs), .int a, .hole, .hole] = some (.nx [bgD (z :: zs) (a + 1) c (u + 1), .int k, iL (z :: zs), .int a, .int w, .hole]) :=
        set_to (op_next rfl (op_next rfl (cb_next (cons_next rfl rfl) (len_L _)) (mod_ok hn)) (ix_L mdn.1 hw)) rfl
      let aw : Int := if w < 0 then -w else w
      have t1 : mTest (mOp ltI (mVar 3) (mCB lenD (mCons (mVar 2) mNil))) [bgD (z :: zs) (a + 1) c (u + 1), .int k, iL (z :: zs), .int a, .int w, .hole] = some (decide (a < n), [bgD (z :: zs) (a + 1) c (u + 1), .int k, iL (z :: zs), .int a, .int w, .hole]) :=
        test_next (op_next rfl (cb_next (cons_next rfl rfl) (len_L _)) rfl)
      have t2 : mTest (mOp geI (mCB absD (mCons (mVar 4) mNil)) (mOp powI (mC (.int 10)) (mC (.int 18)))) [bgD (z :: zs) (a + 1) c (u + 1), .int k, iL (z :: zs), .int a, .int w, .hole] = some (decide (1000000000000000000 ≤ aw), [bgD (z :: zs) (a + 1) c (u + 1), .int k, iL (z :: zs), .int a, .int w, .hole]) := rfl
      have tt : ∃ x, mAnd (mTest (mOp ltI (mVar 3) (mCB lenD (mCons (mVar 2) mNil)))) (mTest (mOp geI (mCB absD (mCons (mVar 4) mNil)) (mOp powI (mC (.int 10)) (mC (.int 18))))) [bgD (z :: zs) (a + 1) c (u + 1), .int k, iL (z :: zs), .int a, .int w, .hole] = some (x, [bgD (z :: zs) (a + 1) c (u + 1), .int k, iL (z :: zs), .int a, .int w, .hole]) := by
        by_cases hz : a < n
        · rw [decide_eq_true hz] at t1
          exact ⟨_, andT_next t1 t2⟩
        · rw [decide_eq_false hz] at t1
          exact ⟨false, andT_first t1⟩
      obtain ⟨x, tx⟩ := tt
      cases x with
      | true =>
        refine ⟨aw % k, bgD (z :: zs) (a + 1) (aw / k) (u + 1), ?_, (md aw).1, (md aw).2, _, _, _, _, rfl⟩
        refine fn_ret (δ := [bgD (z :: zs) a c u, .int k, .hole, .hole, .hole, .hole]) ?_
        refine seq_next s1 (seq_next (s2 _) (seq_next s3 (seq_next (s4 _) (seq_next s5 (seq_next s6 (seq_next s7 (seq_ret (if_t tx ?_))))))))
        refine seq_next (δ1 := [bgD (z :: zs) (a + 1) (aw / k) (u + 1), .int k, iL (z :: zs), .int a, .int w, .hole]) ?_ (ret_to (op_next (a := .int aw) (δ1 := [bgD (z :: zs) (a + 1) (aw / k) (u + 1), .int k, iL (z :: zs), .int a, .int w, .hole]) rfl rfl (mod_ok h0)) rfl)
        unfold mSetIx
        rw [op_next (a := .int aw) (b := .int k) (δ2 := [bgD (z :: zs) (a + 1) c (u + 1), .int k, iL (z :: zs), .int a, .int w, .hole]) rfl rfl (div_ok h0 h1)]
        rfl
      | false =>
        obtain ⟨v, ev⟩ := mixed_ok w (u + 1)
        refine ⟨v % k, bgD (z :: zs) (a + 1) c (u + 1), ?_, (md v).1, (md v).2, _, _, _, _, rfl⟩
        refine fn_ret (δ := [bgD (z :: zs) a c u, .int k, .hole, .hole, .hole, .hole]) ?_
        refine seq_next s1 (seq_next (s2 _) (seq_next s3 (seq_next (s4 _) (seq_next s5 (seq_next s6 (seq_next s7 (seq_next (if_f tx rfl) ?_)))))))
        exact ret_to (op_next (δ1 := [bgD (z :: zs) (a + 1) c (u + 1), .int k, iL (z :: zs), .int a, .int w, .hole]) (call_next rfl ev) rfl (mod_ok h0)) rfl
end W51

namespace W51
open PySem DL
/-! ### a tree grown place by place -/
inductive Grow (r : Int) : List (Int × Int) → Prop
  | nil : Grow r []
  | snoc {fs b p} : Grow r fs → b ∈ r :: fs.map Prod.snd → p ∉ r :: fs.map Prod.snd → Grow r (fs ++ [(b, p)])
structure TreeInv (m r : Int) (done : Nat) (lf : List Int) (fs : List (Int × Int)) : Prop where
  grow : Grow r fs
  nd : lf.Nodup
  out : ∀ x ∈ lf, x ∉ r :: fs.map Prod.snd ∧ 0 ≤ x ∧ x < m
  ll : (lf.length : Int) + fs.length = m - 1
  fl : fs.length = done
  rg : ∀ p ∈ fs, 0 ≤ p.2 ∧ p.2 < m
def stT (b : D) (m r bend : Int) (lf : List Int) (fs : List (Int × Int)) : List D := [b, .int m, .int r, .int bend, iL lf, iL (r :: fs.map Prod.snd), .lst (fs.map prD), .hole, .hole, .hole]
theorem tree_ok {b : D} (hb : IsBag b) {m r : Int} (bend : Int) (m2 : 2 ≤ m) (m10 : m ≤ 10) (r0 : 0 ≤ r) (rm : r < m) :
    ∃ fs b', mm__law_tree [b, .int m, .int r, .int bend] = some (.lst (fs.map prD), [b']) ∧ IsBag b' ∧ Grow r fs ∧ (fs.length : Int) = m - 1 ∧ ∀ p ∈ fs, 0 ≤ p.2 ∧ p.2 < m := by
  let lf0 := (rg m).filter fun x => !decide (x = r)
  have e0 := lcG_pure (enc := D.int) (gi := mRng1 (mCons (mVar 1) mNil)) (i := 8) (gt := mTest (mOp neD (mVar 8) (mVar 2))) (ge := mVar 8) (δ := [b, .int m, .int r, .int bend, .hole, .hole, .hole, .hole, .hole, .hole]) (xs := rg m)
    (fun x => !decide (x = r)) D.int (rng1_next rfl (by omega) (by omega)) (by rw [rg_len]; omega) rfl (fun x hx => test_next (op_next rfl rfl (neD_int x r))) fun x hx _ => rfl
  have lf0_in : ∀ x, x ∈ lf0 ↔ (0 ≤ x ∧ x < m) ∧ x ≠ r := fun x => by
    simp only [lf0, List.mem_filter, mem_rg, Bool.not_eq_true', decide_eq_false_iff_not, ne_eq]
  have lf0_nd : lf0.Nodup := (inc_nodup (rg_inc m)).filter _
  have lf0_len : (lf0.length : Int) = m - 1 := by
    have p : (r :: lf0).Perm (rg m) := by
      refine (List.perm_ext_iff_of_nodup (List.nodup_cons.mpr ⟨fun z => ((lf0_in r).mp z).2 rfl, lf0_nd⟩) (inc_nodup (rg_inc m))).mpr fun x => ?_
      rw [List.mem_cons, lf0_in, mem_rg]
      constructor
      · rintro (rfl | h)
        · exact ⟨r0, rm⟩
        · exact h.1
      · intro h
        by_cases z : x = r
        · exact .inl z
        · exact .inr ⟨h, z⟩
    have := p.length_eq
    rw [rg_len, List.length_cons] at this
    omega
  obtain ⟨δ', e, lf, fs, b', rfl, hb', inv⟩ := for_by (enc := D.int) (gm := fun d δ => some (δ.set 7 d))
    (gb := mThenVoid [7, 8, 9] (mSeq (mSet 8 (mPopAt 4 (mCall1 0 mm__law_draw (mCons (mCBv lenD 4) mNil)))) (mSeq (mSet 9 (mOpV ixD 5 (mCall1 0 mm__law_draw (mCons (mCBv lenD 5) mNil)))) (mSeq (mIfS (mTest (mOp ltI (mCall1 0 mm__law_draw (mCons (mC (.int 4)) mNil)) (mVar 3))) (mSet 9 (mOpV ixD 5 (mUn negI (mC (.int 1))))) mNx) (mSeq (mAppend 6 (mTup (mCons (mVar 9) (mCons (mVar 8) mNil)))) (mAppend 5 (mVar 8)))))))
    (fun done δ => ∃ lf fs b', δ = stT b' m r bend lf fs ∧ IsBag b' ∧ TreeInv m r done.length lf fs) (rg (m - 1)) [] (stT b m r bend lf0 []) (fun pre x post δ ep hi => by
      obtain ⟨lf, fs, b1, rfl, hb1, inv⟩ := hi
      have dl : (pre.length : Int) < m - 1 := by
        have := congrArg List.length ep
        rw [List.nil_append, rg_len, List.length_append, List.length_cons] at this
        omega
      have ll := inv.ll
      have fl := inv.fl
      have l1 : 0 < (lf.length : Int) := by omega
      have l2 : (lf.length : Int) ≤ 10 := by omega
      -- the place
      obtain ⟨v, b2, ev, v0, v1, hb2⟩ := draw_ok hb1 l1 (by omega)
      obtain ⟨p, hp⟩ : ∃ p, lf[v.toNat]? = some p := ⟨_, List.getElem?_eq_getElem (by omega)⟩
      obtain ⟨la, lb, ela, elb, _⟩ := erase_at hp
      have pin : p ∈ lf := List.mem_of_getElem? hp
      -- where it is put on
      let th := r :: fs.map Prod.snd
      have tl : (th.length : Int) = fs.length + 1 := by simp [th]
      obtain ⟨u, b3, eu, u0, u1, hb3⟩ := draw_ok hb2 (k := (th.length : Int)) (by omega) (by omega)
      obtain ⟨g0, hg0⟩ : ∃ g, th[u.toNat]? = some g := ⟨_, List.getElem?_eq_getElem (by omega)⟩
      obtain ⟨y, b4, ey, y0, y1, hb4⟩ := draw_ok hb3 (k := 4) (by omega) (by omega)
      obtain ⟨g1, hg1⟩ : ∃ g, th.getLast? = some g := by
        cases z : th.getLast? with
        | none => simp [th] at z
        | some g => exact ⟨g, rfl⟩
      obtain ⟨g, hg, eg⟩ : ∃ g, g ∈ th ∧ mIfS (mTest (mOp ltI (mCall1 0 mm__law_draw (mCons (mC (.int 4)) mNil)) (mVar 3))) (mSet 9 (mOpV ixD 5 (mUn negI (mC (.int 1))))) mNx
          [b3, .int m, .int r, .int bend, iL (lf.eraseIdx v.toNat), iL th, .lst (fs.map prD), .int x, .int p, .int g0] = some (.nx [b4, .int m, .int r, .int bend, iL (lf.eraseIdx v.toNat), iL th, .lst (fs.map prD), .int x, .int p, .int g]) := by
        have t : mTest (mOp ltI (mCall1 0 mm__law_draw (mCons (mC (.int 4)) mNil)) (mVar 3)) [b3, .int m, .int r, .int bend, iL (lf.eraseIdx v.toNat), iL th, .lst (fs.map prD), .int x, .int p, .int g0] = some (decide (y < bend), [b4, .int m, .int r, .int bend, iL (lf.eraseIdx v.toNat), iL th, .lst (fs.map prD), .int x, .int p, .int g0]) :=
          test_next (op_next (call1_next rfl rfl ey rfl) rfl rfl)
        by_cases z : y < bend
        · rw [decide_eq_true z] at t
          exact ⟨g1, List.mem_of_getLast? hg1, if_t t (set_to (opv_next rfl rfl (ix_last hg1)) rfl)⟩
        · rw [decide_eq_false z] at t
          exact ⟨g0, List.mem_of_getElem? hg0, if_f t rfl⟩
      refine ⟨[b1, .int m, .int r, .int bend, iL lf, iL th, .lst (fs.map prD), .int x, .hole, .hole], stT b4 m r bend (lf.eraseIdx v.toNat) (fs ++ [(g, p)]), rfl, ?_, lf.eraseIdx v.toNat, fs ++ [(g, p)], b4, rfl, hb4, ?_⟩
      · refine void_to (δ1 := [b4, .int m, .int r, .int bend, iL (lf.eraseIdx v.toNat), iL (th ++ [p]), .lst ((fs ++ [(g, p)]).map prD), .int x, .int p, .int g]) ?_ ?_
        · refine seq_next (δ1 := [b2, .int m, .int r, .int bend, iL (lf.eraseIdx v.toNat), iL th, .lst (fs.map prD), .int x, .int p, .hole]) (set_to (pop_to (ds := lf.map .int) (d := .int p) (k := v) (δ1 := [b2, .int m, .int r, .int bend, iL lf, iL th, .lst (fs.map prD), .int x, .hole, .hole]) (call1_next (ds := [.int lf.length]) (δ1 := [b1, .int m, .int r, .int bend, iL lf, iL th, .lst (fs.map prD), .int x, .hole, .hole]) ?_ rfl ev rfl) rfl v0 (by omega) (by rw [List.getElem?_map, hp]; rfl) rfl) ?_) ?_
          · exact cons_next (cbv_next rfl (len_L _)) rfl
          · rw [map_erase]
            rfl
          refine seq_next (δ1 := [b3, .int m, .int r, .int bend, iL (lf.eraseIdx v.toNat), iL th, .lst (fs.map prD), .int x, .int p, .int g0]) (set_to (opv_next (call1_next (ds := [.int th.length]) (δ1 := [b2, .int m, .int r, .int bend, iL (lf.eraseIdx v.toNat), iL th, .lst (fs.map prD), .int x, .int p, .hole]) ?_ rfl eu rfl) rfl (ix_L u0 hg0)) rfl) ?_
          · exact cons_next (cbv_next rfl (len_L _)) rfl
          refine seq_next eg ?_
          refine seq_next (δ1 := [b4, .int m, .int r, .int bend, iL (lf.eraseIdx v.toNat), iL th, .lst ((fs ++ [(g, p)]).map prD), .int x, .int p, .int g]) (append_to (ds := fs.map prD) (d := prD (g, p)) rfl rfl (by rw [List.length_map]; omega) ?_) ?_
          · rw [List.map_append]
            rfl
          · refine append_to (ds := th.map .int) (d := .int p) rfl rfl (by rw [List.length_map]; omega) ?_
            rw [show iL (th ++ [p]) = .lst (th.map D.int ++ [.int p]) by unfold iL; rw [List.map_append]; rfl]
            rfl
        · show [b4, .int m, .int r, .int bend, iL (lf.eraseIdx v.toNat), iL (th ++ [p]), .lst ((fs ++ [(g, p)]).map prD), .hole, .hole, .hole] = stT b4 m r bend (lf.eraseIdx v.toNat) (fs ++ [(g, p)])
          unfold stT
          rw [show (fs ++ [(g, p)]).map Prod.snd = fs.map Prod.snd ++ [p] by rw [List.map_append]; rfl]
          rfl
      · have nd := inv.nd
        rw [ela] at nd
        have pn : p ∉ la ++ lb := by
          have := List.nodup_append.mp nd
          intro z
          rcases List.mem_append.mp z with z | z
          · exact this.2.2 p z p List.mem_cons_self rfl
          · exact (List.nodup_cons.mp this.2.1).1 z
        have sub : ∀ x ∈ la ++ lb, x ∈ lf := fun x hx => by
          rw [ela]
          rcases List.mem_append.mp hx with z | z
          · exact List.mem_append_left _ z
          · exact List.mem_append_right _ (List.mem_cons_of_mem _ z)
        refine ⟨.snoc inv.grow hg (inv.out p pin).1, ?_, fun x hx => ?_, ?_, ?_, fun q hq => ?_⟩
        · rw [elb]
          exact nd.sublist (List.Sublist.append_left (List.sublist_cons_self p lb) la)
        · rw [elb] at hx
          obtain ⟨h1, h2⟩ := inv.out x (sub x hx)
          refine ⟨fun z => ?_, h2⟩
          rw [List.map_append, ← List.cons_append] at z
          rcases List.mem_append.mp z with z | z
          · exact h1 z
          · have : x = p := by simpa using z
            rw [this] at hx
            exact pn hx
        · rw [elb]
          have := congrArg List.length ela
          simp only [List.length_append, List.length_cons, List.length_nil] at this ⊢
          omega
        · simp only [List.length_append, List.length_cons, List.length_nil]
          omega
        · rcases List.mem_append.mp hq with z | z
          · exact inv.rg q z
          · rw [List.mem_singleton.mp z]
            exact (inv.out p pin).2) ⟨lf0, [], b, rfl, hb, .nil, lf0_nd, fun x hx => ⟨fun z => ((lf0_in x).mp hx).2 (by simpa using z), ((lf0_in x).mp hx).1⟩, by simpa using lf0_len, rfl, fun p hp => by cases hp⟩
  refine ⟨fs, b', ?_, hb', inv.grow, ?_, inv.rg⟩
  · refine fn_ret (δ := [b, .int m, .int r, .int bend, .hole, .hole, .hole, .hole, .hole, .hole]) ?_
    refine seq_next (δ1 := [b, .int m, .int r, .int bend, iL lf0, .hole, .hole, .hole, .hole, .hole]) (set_to e0 rfl) ?_
    refine seq_next (δ1 := [b, .int m, .int r, .int bend, iL lf0, iL [r], .hole, .hole, .hole, .hole]) rfl ?_
    refine seq_next (δ1 := [b, .int m, .int r, .int bend, iL lf0, iL [r], .lst [], .hole, .hole, .hole]) rfl ?_
    exact seq_next (for_next (rng1_next (j := m - 1) rfl (by omega) (by omega)) e) rfl
  · have := inv.fl
    rw [List.nil_append, rg_len] at this
    omega
end W51

namespace W51
open PySem DL
/-! ### grown trees -/
theorem Grow.nd {r : Int} {fs : List (Int × Int)} (g : Grow r fs) : (r :: fs.map Prod.snd).Nodup := by
  induction g with
  | nil => simp
  | @snoc fs b p g hb hp ih =>
    rw [List.map_append, ← List.cons_append]
    exact List.nodup_append.mpr ⟨ih, by simp, fun a ha c hc e => by
      have : c = p := by simpa using hc
      rw [← e] at this
      subst this
      exact hp ha⟩
theorem Grow.fst {r : Int} {fs : List (Int × Int)} (g : Grow r fs) : ∀ p ∈ fs, p.1 ∈ r :: fs.map Prod.snd ∧ p.1 ≠ p.2 := by
  induction g with
  | nil => intro p hp; cases hp
  | @snoc fs b p g hb hp ih =>
    intro q hq
    rw [List.map_append, ← List.cons_append]
    rcases List.mem_append.mp hq with h | h
    · exact ⟨List.mem_append_left _ (ih q h).1, (ih q h).2⟩
    · have : q = (b, p) := by simpa using h
      subst this
      exact ⟨List.mem_append_left _ hb, fun e => hp (by rw [← show b = p from e]; exact hb)⟩
theorem Grow.way {r : Int} {ls : List (Int × Int)} {t : List Int} {fs : List (Int × Int)} (g : Grow r fs) : (∀ p ∈ fs, ∃ x ∈ t, lk ls x = p) → ∀ q ∈ r :: fs.map Prod.snd, ∃ w, Way ls t r q w ∧ w.length ≤ fs.length := by
  induction g with
  | nil =>
    intro _ q hq
    have : q = r := by simpa using hq
    subst this
    exact ⟨[], .root, Nat.le_refl _⟩
  | @snoc fs b p g hb hp ih =>
    intro av q hq
    have ih := ih fun p hp => av p (List.mem_append_left _ hp)
    rw [List.map_append, ← List.cons_append] at hq
    rcases List.mem_append.mp hq with h | h
    · obtain ⟨w, h1, h2⟩ := ih q h
      exact ⟨w, h1, by rw [List.length_append]; omega⟩
    · have : q = p := by simpa using h
      subst this
      obtain ⟨w, h1, h2⟩ := ih b hb
      obtain ⟨x, hx, e⟩ := av (b, q) (by simp)
      refine ⟨w ++ [x], ?_, by simp; omega⟩
      have e1 : (lk ls x).1 = b := by rw [e]
      have e2 : (lk ls x).2 = q := by rw [e]
      have := Way.step (ls := ls) (t := t) (r := r) (x := x) (w := w) (by rw [e1]; exact h1) hx
      rw [e2] at this
      exact this
theorem full {l : List Int} {m q : Int} (nd : l.Nodup) (hr : ∀ x ∈ l, 0 ≤ x ∧ x < m) (hl : (l.length : Int) = m) (h0 : 0 ≤ q) (h1 : q < m) : q ∈ l := by
  by_cases z : q ∈ l
  · exact z
  · have := nodup_len (l := q :: l) (a := 0) (b := m) (List.nodup_cons.mpr ⟨z, nd⟩) (fun x hx => by
      rcases List.mem_cons.mp hx with rfl | hx
      · exact ⟨h0, h1⟩
      · exact hr x hx) (by omega)
    rw [List.length_cons] at this
    omega
theorem inj_of_nd {f : Int → Int} : ∀ {t : List Int}, (t.map f).Nodup → ∀ x ∈ t, ∀ y ∈ t, f x = f y → x = y
  | [], _, x, hx, _, _, _ => by cases hx
  | a :: t, h, x, hx, y, hy, e => by
    rw [List.map_cons] at h
    obtain ⟨h1, h2⟩ := List.nodup_cons.mp h
    rcases List.mem_cons.mp hx with hx | hx
    · rcases List.mem_cons.mp hy with hy | hy
      · rw [hx, hy]
      · exfalso
        rw [hx] at e
        exact h1 (by rw [e]; exact List.mem_map_of_mem hy)
    · rcases List.mem_cons.mp hy with hy | hy
      · exfalso
        rw [hy] at e
        exact h1 (by rw [← e]; exact List.mem_map_of_mem hx)
      · exact inj_of_nd h2 x hx y hy e
/-! ### links numbered anew -/
abbrev Mk := (Int × Int) × Int
def idxF (k : Int) : Nat → List Mk → List Int
  | _, [] => []
  | off, e :: r => if e.2 = k then (off : Int) :: idxF k (off + 1) r else idxF k (off + 1) r
theorem idxF_snoc (k : Int) (e : Mk) : ∀ (dn : List Mk) (off : Nat), idxF k off (dn ++ [e]) = if e.2 = k then idxF k off dn ++ [((off + dn.length : Nat) : Int)] else idxF k off dn
  | [], off => by
    show (if e.2 = k then _ else _) = _
    split <;> rfl
  | a :: dn, off => by
    have ih := idxF_snoc k e dn (off + 1)
    show (if a.2 = k then (off : Int) :: idxF k (off + 1) (dn ++ [e]) else idxF k (off + 1) (dn ++ [e])) = _
    rw [ih]
    have e3 : off + 1 + dn.length = off + (a :: dn).length := by rw [List.length_cons]; omega
    rw [e3]
    by_cases h1 : a.2 = k <;> by_cases h2 : e.2 = k <;> simp [idxF, h1, h2]
theorem idxF_mem (k : Int) : ∀ (dn : List Mk) (off : Nat) (x : Int), x ∈ idxF k off dn → ∃ (i : Nat) (e : Mk), x = ((off + i : Nat) : Int) ∧ dn[i]? = some e ∧ e.2 = k
  | [], _, _, h => by cases h
  | a :: dn, off, x, h => by
    unfold idxF at h
    have rest : x ∈ idxF k (off + 1) dn → ∃ (i : Nat) (e : Mk), x = ((off + i : Nat) : Int) ∧ (a :: dn)[i]? = some e ∧ e.2 = k := fun h => by
      obtain ⟨i, e, h1, h2, h3⟩ := idxF_mem k dn (off + 1) x h
      exact ⟨i + 1, e, by rw [h1]; congr 1; omega, by simpa using h2, h3⟩
    split at h
    · rename_i hk
      rcases List.mem_cons.mp h with h | h
      · exact ⟨0, a, by rw [h]; rfl, rfl, hk⟩
      · exact rest h
    · exact rest h
theorem idxF_inc (k : Int) : ∀ (dn : List Mk) (off : Nat), (idxF k off dn).Pairwise (· < ·)
  | [], _ => List.Pairwise.nil
  | a :: dn, off => by
    unfold idxF
    split
    · refine List.pairwise_cons.mpr ⟨fun x hx => ?_, idxF_inc k dn (off + 1)⟩
      obtain ⟨i, e, h1, _⟩ := idxF_mem k dn (off + 1) x hx
      omega
    · exact idxF_inc k dn (off + 1)
theorem idxF_map (k : Int) : ∀ (dn : List Mk) (off : Nat) (pre : List (Int × Int)), pre.length = off → (idxF k off dn).map (lk (pre ++ dn.map Prod.fst)) = (dn.filter fun e => decide (e.2 = k)).map Prod.fst
  | [], _, _, _ => rfl
  | a :: dn, off, pre, h => by
    have ih := idxF_map k dn (off + 1) (pre ++ [a.1]) (by simp [h])
    rw [List.append_assoc] at ih
    have ih : (idxF k (off + 1) dn).map (lk (pre ++ a.1 :: dn.map Prod.fst)) = (dn.filter fun e => decide (e.2 = k)).map Prod.fst := ih
    unfold idxF
    by_cases hk : a.2 = k
    · rw [if_pos hk, List.filter_cons, if_pos (by simpa using hk)]
      show lk (pre ++ a.1 :: dn.map Prod.fst) off :: (idxF k (off + 1) dn).map (lk (pre ++ a.1 :: dn.map Prod.fst)) = a.1 :: (dn.filter fun e => decide (e.2 = k)).map Prod.fst
      rw [ih]
      congr 1
      unfold lk
      rw [Int.toNat_natCast, ← h]
      simp
    · rw [if_neg hk, List.filter_cons, if_neg (by simpa using hk)]
      exact ih
theorem filter_perm {α : Type} {p : α → Bool} {l l' : List α} (h : l.Perm l') : (l.filter p).Perm (l'.filter p) := h.filter p
/-- a drawn plan -/
structure PlanOk (m r : Int) (ls : List (Int × Int)) (ts : List (List Int)) (s : Int) : Prop where
  net : NetOk m r ls
  tsk : Ts ls m r ts
  s1 : 1 ≤ s
  s8 : s ≤ 8
  sc : s ≤ ts.length
structure Good (m r : Int) (fs : List (Int × Int)) : Prop where
  grow : Grow r fs
  len : (fs.length : Int) = m - 1
  rg : ∀ p ∈ fs, 0 ≤ p.2 ∧ p.2 < m
def pairOk (m : Int) (p : Int × Int) : Prop := 0 ≤ p.1 ∧ p.1 < m ∧ 0 ≤ p.2 ∧ p.2 < m ∧ p.1 ≠ p.2
theorem Good.pair {m r : Int} {fs : List (Int × Int)} (r0 : 0 ≤ r) (rm : r < m) (g : Good m r fs) : ∀ p ∈ fs, pairOk m p := fun p hp => by
  obtain ⟨h1, h2⟩ := g.grow.fst p hp
  have h3 := g.rg p hp
  rcases List.mem_cons.mp h1 with h | h
  · exact ⟨by omega, by omega, h3.1, h3.2, h2⟩
  · obtain ⟨q, hq, e⟩ := List.mem_map.mp h
    have := g.rg q hq
    exact ⟨by omega, by omega, h3.1, h3.2, h2⟩
/-- the marked links: each tree's, and some beside -/
structure Marks (m r : Int) (n : Int) (mk : List Mk) : Prop where
  tree : ∀ k, 0 ≤ k → k < n → ∃ fs, Good m r fs ∧ (mk.filter fun e => decide (e.2 = k)).map Prod.fst = fs
  mk0 : ∀ e ∈ mk, 0 ≤ e.2
  pair : ∀ e ∈ mk, pairOk m e.1
theorem tr_of {m r n : Int} {mk dn : List Mk} (m2 : 2 ≤ m) (r0 : 0 ≤ r) (rm : r < m) (M : Marks m r n mk) (p : dn.Perm mk) {k : Int} (k0 : 0 ≤ k) (k1 : k < n) : Tr (dn.map Prod.fst) m r (idxF k 0 dn) := by
  obtain ⟨fs, g, ef⟩ := M.tree k k0 k1
  have e := idxF_map k dn 0 [] rfl
  rw [List.nil_append] at e
  have P : ((idxF k 0 dn).map (lk (dn.map Prod.fst))).Perm fs := by
    rw [e, ← ef]
    exact (filter_perm p).map _
  have P2 : ((idxF k 0 dn).map fun x => (lk (dn.map Prod.fst) x).2).Perm (fs.map Prod.snd) := by
    have := P.map Prod.snd
    rw [List.map_map] at this
    exact this
  have nd := g.grow.nd
  obtain ⟨nr, nd2⟩ := List.nodup_cons.mp nd
  have ndt : ((idxF k 0 dn).map fun x => (lk (dn.map Prod.fst) x).2).Nodup := P2.nodup_iff.mpr nd2
  have in_rg : ∀ x ∈ r :: fs.map Prod.snd, 0 ≤ x ∧ x < m := fun x hx => by
    rcases List.mem_cons.mp hx with rfl | hx
    · exact ⟨r0, rm⟩
    · obtain ⟨q, hq, rfl⟩ := List.mem_map.mp hx
      exact g.rg q hq
  refine ⟨⟨idxF_inc k dn 0, fun x hx => ?_⟩, inj_of_nd ndt, fun x hx e => ?_, ?_, fun q h0 h1 => ?_⟩
  · obtain ⟨i, e, h1, h2, _⟩ := idxF_mem k dn 0 x hx
    have := (List.getElem?_eq_some_iff.mp h2).1
    rw [List.length_map]
    omega
  · have : (lk (dn.map Prod.fst) x).2 ∈ fs.map Prod.snd := P2.mem_iff.mp (List.mem_map_of_mem (f := fun x => (lk (dn.map Prod.fst) x).2) hx)
    rw [e] at this
    exact nr this
  · have := P.length_eq
    rw [List.length_map] at this
    rw [this]
    exact g.len
  · have hq := full nd in_rg (by rw [List.length_cons, List.length_map]; have := g.len; omega) h0 h1
    obtain ⟨w, h2, h3⟩ := g.grow.way (ls := dn.map Prod.fst) (t := idxF k 0 dn) (fun p hp => by
      obtain ⟨x, hx, e⟩ := List.mem_map.mp (P.mem_iff.mpr hp)
      exact ⟨x, hx, e⟩) q hq
    exact ⟨w, h2, by have := g.len; omega⟩
theorem ts_of {m r n : Int} {mk dn : List Mk} (m2 : 2 ≤ m) (r0 : 0 ≤ r) (rm : r < m) (M : Marks m r n mk) (p : dn.Perm mk) (n1 : 1 ≤ n) (n12 : n ≤ 12) : Ts (dn.map Prod.fst) m r ((rg n).map fun k => idxF k 0 dn) := by
  refine ⟨fun t ht => ?_, ?_, ?_, ?_⟩
  · obtain ⟨k, hk, rfl⟩ := List.mem_map.mp ht
    obtain ⟨h0, h1⟩ := mem_rg.mp hk
    exact tr_of m2 r0 rm M p h0 h1
  · refine List.pairwise_flatten.mpr ⟨fun t ht => ?_, ?_⟩
    · obtain ⟨k, hk, rfl⟩ := List.mem_map.mp ht
      exact inc_nodup (idxF_inc k dn 0)
    · rw [List.pairwise_map]
      refine (rg_inc n).imp fun {a b} l x hx y hy e => ?_
      obtain ⟨i, e1, h1, h2, h3⟩ := idxF_mem a dn 0 x hx
      obtain ⟨j, e2, h4, h5, h6⟩ := idxF_mem b dn 0 y hy
      have ij : i = j := by omega
      subst ij
      rw [h2] at h5
      cases h5
      omega
  · rw [List.length_map, rg_len]; omega
  · rw [List.length_map, rg_len]; omega
theorem net_of {m r n : Int} {mk dn : List Mk} (m2 : 2 ≤ m) (m10 : m ≤ 10) (r0 : 0 ≤ r) (rm : r < m) (M : Marks m r n mk) (p : dn.Perm mk) (hl : mk.length ≤ 60) : NetOk m r (dn.map Prod.fst) := by
  refine ⟨m2, m10, r0, rm, ⟨?_, fun q hq => ?_⟩⟩
  · rw [List.length_map, p.length_eq]
    exact hl
  · obtain ⟨e, he, rfl⟩ := List.mem_map.mp hq
    exact M.pair e (p.mem_iff.mp he)
end W51

namespace W51
open PySem DL
def mkD (e : Mk) : D := .tup [prD e.1, .int e.2]
def plD (m r : Int) (ls : List (Int × Int)) (ts : List (List Int)) (s : Int) : D := .dct [(.inr "many", .int m), (.inr "root", .int r), (.inr "links", lkL ls), (.inr "trees", .lst (ts.map iL)), (.inr "size", .int s)]
def st1 (b : D) (m r bend n : Int) (mk : List Mk) : List D := [b, .int 9, .int m, .int r, .int bend, .int n, .lst (mk.map mkD), .hole, .hole, .hole, .hole, .hole, .hole, .hole]
def st3 (b : D) (m r bend n : Int) (rem dn : List Mk) : List D := [b, .int 9, .int m, .int r, .int bend, .int n, .lst (rem.map mkD), .hole, .hole, lkL (dn.map Prod.fst), .lst ((rg (n + 1)).map fun k => iL (idxF k 0 dn)), .hole, .hole, .hole]
theorem loop1 {m r bend n : Int} (m2 : 2 ≤ m) (m10 : m ≤ 10) (r0 : 0 ≤ r) (rm : r < m) (n0 : 0 ≤ n) (n40 : n * (m - 1) ≤ 40) {b : D} (hb : IsBag b) :
    ∃ mk b', forL (fun d δ => some (δ.set 7 d)) (mThenVoid [7] (mExtend 6 (mLcG [13] (mIList (mCall1 0 mm__law_tree (mCons (mVar 2) (mCons (mVar 3) (mCons (mVar 4) mNil))))) (fun d δ => some (δ.set 13 d)) mYes (mTup (mCons (mVar 13) (mCons (mVar 7) mNil)))))) ((rg n).map .int) (st1 b m r bend n []) = some (.nx (st1 b' m r bend n mk)) ∧
      IsBag b' ∧ Marks m r n mk ∧ (∀ e ∈ mk, e.2 < n) ∧ (mk.length : Int) = n * (m - 1) := by
  obtain ⟨δ', e, mk, b', rfl, h1, h2, h3, h4⟩ := for_by (enc := D.int) (gm := fun d δ => some (δ.set 7 d)) (gb := mThenVoid [7] (mExtend 6 (mLcG [13] (mIList (mCall1 0 mm__law_tree (mCons (mVar 2) (mCons (mVar 3) (mCons (mVar 4) mNil))))) (fun d δ => some (δ.set 13 d)) mYes (mTup (mCons (mVar 13) (mCons (mVar 7) mNil))))))
    (fun done δ => ∃ mk b', δ = st1 b' m r bend n mk ∧ IsBag b' ∧ Marks m r done.length mk ∧ (∀ e ∈ mk, e.2 < done.length) ∧ (mk.length : Int) = done.length * (m - 1)) (rg n) [] (st1 b m r bend n []) (fun pre x post δ ep hi => by
      obtain ⟨mk, b1, rfl, hb1, M, hlt, hlen⟩ := hi
      obtain ⟨ex, dl⟩ := rg_pre (show rg n = pre ++ x :: post from ep)
      obtain ⟨fs, b2, ev, hb2, gr, fl, frg⟩ := tree_ok hb1 bend m2 m10 r0 rm
      have G : Good m r fs := ⟨gr, fl, frg⟩
      let nw : List Mk := fs.map fun p => (p, x)
      have lb : (pre.length : Int) * (m - 1) ≤ n * (m - 1) := Int.mul_le_mul_of_nonneg_right (by omega) (by omega)
      have e1 := lcG_map2 (enc := prD) (gi := mIList (mCall1 0 mm__law_tree (mCons (mVar 2) (mCons (mVar 3) (mCons (mVar 4) mNil))))) (i := 13) (ge := mTup (mCons (mVar 13) (mCons (mVar 7) mNil))) (δ0 := [b1, .int 9, .int m, .int r, .int bend, .int n, .lst (mk.map mkD), .int x, .hole, .hole, .hole, .hole, .hole, .hole])
        (δ := [b2, .int 9, .int m, .int r, .int bend, .int n, .lst (mk.map mkD), .int x, .hole, .hole, .hole, .hole, .hole, .hole]) (xs := fs) (fun p => mkD (p, x)) (ilist_next (call1_next (ds := [.int m, .int r, .int bend]) (δ1 := [b1, .int 9, .int m, .int r, .int bend, .int n, .lst (mk.map mkD), .int x, .hole, .hole, .hole, .hole, .hole, .hole]) rfl rfl ev rfl)) (by omega) rfl fun p hp => rfl
      have e2 : (fs.map fun p => mkD (p, x)) = nw.map mkD := by simp only [nw, List.map_map]; rfl
      rw [e2] at e1
      refine ⟨_, st1 b2 m r bend n (mk ++ nw), rfl, void_to (extend_to (xs := mk.map mkD) (ys := nw.map mkD) e1 rfl ?_ rfl) ?_, mk ++ nw, b2, rfl, hb2, ?_, ?_, ?_⟩
      · simp only [List.length_map, nw]
        omega
      · unfold st1
        rw [List.map_append]
        rfl
      · have fnw : ∀ k : Int, k ≠ x → nw.filter (fun e => decide (e.2 = k)) = [] := fun k hk => by
          refine List.filter_eq_nil_iff.mpr fun e he => ?_
          obtain ⟨p, _, rfl⟩ := List.mem_map.mp he
          simpa using fun z : x = k => hk z.symm
        refine ⟨fun k k0 k1 => ?_, fun e he => ?_, fun e he => ?_⟩
        · rw [List.filter_append, List.map_append]
          by_cases hk : k = x
          · subst hk
            have z1 : mk.filter (fun e => decide (e.2 = k)) = [] := List.filter_eq_nil_iff.mpr fun e he => by
              have := hlt e he
              simp
              omega
            have z2 : nw.filter (fun e => decide (e.2 = k)) = nw := List.filter_eq_self.mpr fun e he => by
              obtain ⟨p, _, rfl⟩ := List.mem_map.mp he
              simp
            refine ⟨fs, G, ?_⟩
            rw [z1, z2, List.map_nil, List.nil_append]
            simp only [nw, List.map_map]
            exact List.map_id _
          · rw [fnw k hk, List.map_nil, List.append_nil]
            refine M.tree k k0 ?_
            rw [List.length_append, List.length_singleton] at k1
            omega
        · rcases List.mem_append.mp he with h | h
          · exact M.mk0 e h
          · obtain ⟨p, _, rfl⟩ := List.mem_map.mp h
            show 0 ≤ x
            omega
        · rcases List.mem_append.mp he with h | h
          · exact M.pair e h
          · obtain ⟨p, hp, rfl⟩ := List.mem_map.mp h
            exact G.pair r0 rm p hp
      · intro e he
        rw [List.length_append, List.length_singleton]
        rcases List.mem_append.mp he with h | h
        · have := hlt e h
          omega
        · obtain ⟨p, _, rfl⟩ := List.mem_map.mp h
          show x < _
          omega
      · simp only [List.length_append, List.length_singleton, nw, List.length_map]
        have : ((pre.length + 1 : Nat) : Int) * (m - 1) = pre.length * (m - 1) + (m - 1) := by
          rw [Int.natCast_add, Int.add_mul]
          simp
        rw [this]
        omega) ⟨[], b, rfl, hb, ⟨fun k k0 k1 => (by simp at k1; omega), fun e he => (by cases he), fun e he => (by cases he)⟩, fun e he => (by cases he), by simp⟩
  rw [List.nil_append, rg_len] at h2 h3 h4
  have en : ((n.toNat : Nat) : Int) = n := Int.toNat_of_nonneg n0
  rw [en] at h2 h3 h4
  exact ⟨mk, b', e, h1, h2, h3, h4⟩
theorem loop2 {m r bend n : Int} (m2 : 2 ≤ m) (m10 : m ≤ 10) (r0 : 0 ≤ r) (rm : r < m) (n0 : 0 ≤ n) {b : D} (hb : IsBag b) {mk0 : List Mk} (M0 : Marks m r n mk0) (hlt0 : ∀ e ∈ mk0, e.2 ≤ n) (hl0 : mk0.length ≤ 40) {z : Int} (z0 : 0 ≤ z) (z6 : z < 6) :
    ∃ mk b', forL (fun d δ => some (δ.set 8 d)) (mThenVoid [8, 12] (mSeq (mSet 12 (mCall1 0 mm__law_draw (mCons (mVar 2) mNil))) (mAppend 6 (mTup (mCons (mTup (mCons (mVar 12) (mCons (mOp modI (mCB intD (mCons (mOp addI (mOp addI (mVar 12) (mC (.int 1))) (mCall1 0 mm__law_draw (mCons (mOp subI (mVar 2) (mC (.int 1))) mNil))) mNil)) (mVar 2)) mNil))) (mCons (mVar 5) mNil)))))) ((rg z).map .int) (st1 b m r bend n mk0) = some (.nx (st1 b' m r bend n mk)) ∧
      IsBag b' ∧ Marks m r n mk ∧ (∀ e ∈ mk, e.2 ≤ n) ∧ mk.length ≤ 45 := by
  obtain ⟨δ', e, mk, b', rfl, h1, h2, h3, h4⟩ := for_by (enc := D.int) (gm := fun d δ => some (δ.set 8 d)) (gb := mThenVoid [8, 12] (mSeq (mSet 12 (mCall1 0 mm__law_draw (mCons (mVar 2) mNil))) (mAppend 6 (mTup (mCons (mTup (mCons (mVar 12) (mCons (mOp modI (mCB intD (mCons (mOp addI (mOp addI (mVar 12) (mC (.int 1))) (mCall1 0 mm__law_draw (mCons (mOp subI (mVar 2) (mC (.int 1))) mNil))) mNil)) (mVar 2)) mNil))) (mCons (mVar 5) mNil))))))
    (fun done δ => ∃ mk b', δ = st1 b' m r bend n mk ∧ IsBag b' ∧ Marks m r n mk ∧ (∀ e ∈ mk, e.2 ≤ n) ∧ mk.length ≤ 40 + done.length) (rg z) [] (st1 b m r bend n mk0) (fun pre x post δ ep hi => by
      obtain ⟨mk, b1, rfl, hb1, M, hle, hlen⟩ := hi
      obtain ⟨ex, dl⟩ := rg_pre (show rg z = pre ++ x :: post from ep)
      obtain ⟨o, b2, eo, o0, o1, hb2⟩ := draw_ok hb1 (k := m) (by omega) (by omega)
      obtain ⟨d, b3, ed, d0, d1, hb3⟩ := draw_ok hb2 (k := m - 1) (by omega) (by omega)
      have q0 : 0 ≤ (o + 1 + d) % m := Int.emod_nonneg _ (by omega)
      have q1 : (o + 1 + d) % m < m := Int.emod_lt_of_pos _ (by omega)
      have q2 : o ≠ (o + 1 + d) % m := by
        by_cases h : o + 1 + d < m
        · rw [Int.emod_eq_of_lt (by omega) h]
          omega
        · have : (o + 1 + d) % m = o + 1 + d - m := by
            rw [← Int.sub_emod_right, Int.emod_eq_of_lt (by omega) (by omega)]
          omega
      refine ⟨_, st1 b3 m r bend n (mk ++ [((o, (o + 1 + d) % m), n)]), rfl, void_to (δ1 := [b3, .int 9, .int m, .int r, .int bend, .int n, .lst ((mk ++ [((o, (o + 1 + d) % m), n)]).map mkD), .hole, .int x, .hole, .hole, .hole, .int o, .hole]) ?_ rfl, _, b3, rfl, hb3, ?_, ?_, ?_⟩
      · refine seq_next (δ1 := [b2, .int 9, .int m, .int r, .int bend, .int n, .lst (mk.map mkD), .hole, .int x, .hole, .hole, .hole, .int o, .hole]) (set_to (call1_next rfl rfl eo rfl) rfl) ?_
        have e4 : mOp modI (mCB intD (mCons (mOp addI (mOp addI (mVar 12) (mC (.int 1))) (mCall1 0 mm__law_draw (mCons (mOp subI (mVar 2) (mC (.int 1))) mNil))) mNil)) (mVar 2) [b2, .int 9, .int m, .int r, .int bend, .int n, .lst (mk.map mkD), .hole, .int x, .hole, .hole, .hole, .int o, .hole] = some (.int ((o + 1 + d) % m), [b3, .int 9, .int m, .int r, .int bend, .int n, .lst (mk.map mkD), .hole, .int x, .hole, .hole, .hole, .int o, .hole]) :=
          op_next (cb_next (cons_next (op_next (b := .int d) (δ2 := [b3, .int 9, .int m, .int r, .int bend, .int n, .lst (mk.map mkD), .hole, .int x, .hole, .hole, .hole, .int o, .hole]) rfl (call1_next (ds := [.int (m - 1)]) (δ1 := [b2, .int 9, .int m, .int r, .int bend, .int n, .lst (mk.map mkD), .hole, .int x, .hole, .hole, .hole, .int o, .hole]) rfl rfl ed rfl) rfl) rfl) rfl) rfl (mod_ok (by omega))
        have e5 : mTup (mCons (mTup (mCons (mVar 12) (mCons (mOp modI (mCB intD (mCons (mOp addI (mOp addI (mVar 12) (mC (.int 1))) (mCall1 0 mm__law_draw (mCons (mOp subI (mVar 2) (mC (.int 1))) mNil))) mNil)) (mVar 2)) mNil))) (mCons (mVar 5) mNil)) [b2, .int 9, .int m, .int r, .int bend, .int n, .lst (mk.map mkD), .hole, .int x, .hole, .hole, .hole, .int o, .hole] = some (mkD ((o, (o + 1 + d) % m), n), [b3, .int 9, .int m, .int r, .int bend, .int n, .lst (mk.map mkD), .hole, .int x, .hole, .hole, .hole, .int o, .hole]) := by
          unfold mTup
          rw [cons_next (d := prD (o, (o + 1 + d) % m)) (δ1 := [b3, .int 9, .int m, .int r, .int bend, .int n, .lst (mk.map mkD), .hole, .int x, .hole, .hole, .hole, .int o, .hole]) (ds := [.int n]) (δ2 := [b3, .int 9, .int m, .int r, .int bend, .int n, .lst (mk.map mkD), .hole, .int x, .hole, .hole, .hole, .int o, .hole]) ?_ rfl]
          · rfl
          · rw [cons_next (d := .int o) (δ1 := [b2, .int 9, .int m, .int r, .int bend, .int n, .lst (mk.map mkD), .hole, .int x, .hole, .hole, .hole, .int o, .hole]) rfl (cons_next e4 rfl)]
            rfl
        refine append_to e5 rfl (by rw [List.length_map]; omega) ?_
        rw [List.map_append]
        rfl
      · refine ⟨fun k k0 k1 => ?_, fun e he => ?_, fun e he => ?_⟩
        · obtain ⟨fs, g, ef⟩ := M.tree k k0 k1
          refine ⟨fs, g, ?_⟩
          rw [List.filter_append, List.map_append, ef]
          have : [(((o, (o + 1 + d) % m), n) : Mk)].filter (fun e => decide (e.2 = k)) = [] := List.filter_eq_nil_iff.mpr fun e he => by
            rw [List.mem_singleton.mp he]
            simp
            omega
          rw [this, List.map_nil, List.append_nil]
        · rcases List.mem_append.mp he with h | h
          · exact M.mk0 e h
          · rw [List.mem_singleton.mp h]
            exact n0
        · rcases List.mem_append.mp he with h | h
          · exact M.pair e h
          · rw [List.mem_singleton.mp h]
            exact ⟨o0, o1, q0, q1, q2⟩
      · intro e he
        rcases List.mem_append.mp he with h | h
        · exact hle e h
        · rw [List.mem_singleton.mp h]
          exact Int.le_refl _
      · simp only [List.length_append, List.length_singleton]
        omega) ⟨mk0, b, rfl, hb, M0, hlt0, by simpa using hl0⟩
  rw [List.nil_append, rg_len] at h4
  exact ⟨mk, b', e, h1, h2, h3, by omega⟩
end W51

namespace W51
open PySem DL
theorem trees_set {n : Int} (dn : List Mk) (e : Mk) (h0 : 0 ≤ e.2) (h1 : e.2 ≤ n) :
    ((rg (n + 1)).map fun k => iL (idxF k 0 dn)).set e.2.toNat (.lst ((idxF e.2 0 dn).map D.int ++ [.int (dn.length : Nat)])) = (rg (n + 1)).map fun k => iL (idxF k 0 (dn ++ [e])) := by
  apply List.ext_getElem?
  intro j
  rw [List.getElem?_set, List.length_map, rg_len, List.getElem?_map, List.getElem?_map]
  by_cases hj : j < (n + 1).toNat
  · have gj : (rg (n + 1))[j]? = some (j : Int) := by
      have := rg_get (n := n + 1) (x := (j : Int)) (by omega) (by omega)
      rwa [Int.toNat_natCast] at this
    rw [gj]
    by_cases hk : e.2.toNat = j
    · rw [if_pos hk, if_pos (by omega)]
      have ej : e.2 = (j : Int) := by omega
      show _ = some (iL (idxF (j : Int) 0 (dn ++ [e])))
      rw [idxF_snoc, if_pos ej, ej]
      unfold iL
      rw [List.map_append, Nat.zero_add]
      rfl
    · rw [if_neg hk]
      show some (iL (idxF (j : Int) 0 dn)) = some (iL (idxF (j : Int) 0 (dn ++ [e])))
      rw [idxF_snoc, if_neg (by omega)]
  · have gj : (rg (n + 1))[j]? = none := List.getElem?_eq_none (by rw [rg_len]; omega)
    rw [gj, if_neg (by omega)]
    rfl
theorem loop3 {m r bend n : Int} (n0 : 0 ≤ n) {b : D} (hb : IsBag b) {mk : List Mk} (hmk : ∀ e ∈ mk, 0 ≤ e.2 ∧ e.2 ≤ n) (hl : mk.length ≤ 45) :
    ∃ dn b', forL (fun d δ => some (δ.set 8 d)) (mThenVoid [7, 8, 13] (mSeq (mSetG (mgTup 2 (mgCons (fun d δ => some (δ.set 13 d)) (mgCons (fun d δ => some (δ.set 7 d)) mgNil))) (mPopAt 6 (mCall1 0 mm__law_draw (mCons (mCBv lenD 6) mNil)))) (mSeq (mAppendAt 10 (mVar 7) (mCBv lenD 9)) (mAppend 9 (mVar 13))))) ((rg mk.length).map .int) (st3 b m r bend n mk []) = some (.nx (st3 b' m r bend n [] dn)) ∧
      IsBag b' ∧ dn.Perm mk := by
  obtain ⟨δ', e, rem, dn, b', rfl, h1, h2, h3⟩ := for_by (enc := D.int) (gm := fun d δ => some (δ.set 8 d)) (gb := mThenVoid [7, 8, 13] (mSeq (mSetG (mgTup 2 (mgCons (fun d δ => some (δ.set 13 d)) (mgCons (fun d δ => some (δ.set 7 d)) mgNil))) (mPopAt 6 (mCall1 0 mm__law_draw (mCons (mCBv lenD 6) mNil)))) (mSeq (mAppendAt 10 (mVar 7) (mCBv lenD 9)) (mAppend 9 (mVar 13)))))
    (fun done δ => ∃ rem dn b', δ = st3 b' m r bend n rem dn ∧ IsBag b' ∧ (dn ++ rem).Perm mk ∧ dn.length = done.length) (rg mk.length) [] (st3 b m r bend n mk []) (fun pre x post δ ep hi => by
      obtain ⟨rem, dn, b1, rfl, hb1, P, hd⟩ := hi
      obtain ⟨ex, dl⟩ := rg_pre (show rg mk.length = pre ++ x :: post from ep)
      have pl := P.length_eq
      rw [List.length_append] at pl
      obtain ⟨v, b2, ev, v0, v1, hb2⟩ := draw_ok hb1 (k := (rem.length : Int)) (by omega) (by omega)
      obtain ⟨q, hq⟩ : ∃ q, rem[v.toNat]? = some q := ⟨_, List.getElem?_eq_getElem (by omega)⟩
      obtain ⟨la, lb, ela, elb, _⟩ := erase_at hq
      have qin : q ∈ mk := P.mem_iff.mp (List.mem_append_right _ (List.mem_of_getElem? hq))
      obtain ⟨q0, q1⟩ := hmk q qin
      have trq : ((rg (n + 1)).map fun k => iL (idxF k 0 dn))[q.2.toNat]? = some (.lst ((idxF q.2 0 dn).map D.int)) := by
        rw [List.getElem?_map, rg_get q0 (by omega)]
        rfl
      refine ⟨[b1, .int 9, .int m, .int r, .int bend, .int n, .lst (rem.map mkD), .hole, .int x, lkL (dn.map Prod.fst), .lst ((rg (n + 1)).map fun k => iL (idxF k 0 dn)), .hole, .hole, .hole],
        st3 b2 m r bend n (rem.eraseIdx v.toNat) (dn ++ [q]), rfl, void_to (δ1 := [b2, .int 9, .int m, .int r, .int bend, .int n, .lst ((rem.eraseIdx v.toNat).map mkD), .int q.2, .int x, lkL ((dn ++ [q]).map Prod.fst), .lst ((rg (n + 1)).map fun k => iL (idxF k 0 (dn ++ [q]))), .hole, .hole, prD q.1]) ?_ rfl, _, _, b2, rfl, hb2, ?_, ?_⟩
      · refine seq_next (δ1 := [b2, .int 9, .int m, .int r, .int bend, .int n, .lst ((rem.eraseIdx v.toNat).map mkD), .int q.2, .int x, lkL (dn.map Prod.fst), .lst ((rg (n + 1)).map fun k => iL (idxF k 0 dn)), .hole, .hole, prD q.1]) ?_ ?_
        · refine setG_to (d := mkD q) (δ1 := [b2, .int 9, .int m, .int r, .int bend, .int n, .lst ((rem.eraseIdx v.toNat).map mkD), .hole, .int x, lkL (dn.map Prod.fst), .lst ((rg (n + 1)).map fun k => iL (idxF k 0 dn)), .hole, .hole, .hole]) ?_ rfl
          refine pop_to (ds := rem.map mkD) (d := mkD q) (k := v) (δ1 := [b2, .int 9, .int m, .int r, .int bend, .int n, .lst (rem.map mkD), .hole, .int x, lkL (dn.map Prod.fst), .lst ((rg (n + 1)).map fun k => iL (idxF k 0 dn)), .hole, .hole, .hole]) (call1_next (ds := [.int rem.length]) (δ1 := [b1, .int 9, .int m, .int r, .int bend, .int n, .lst (rem.map mkD), .hole, .int x, lkL (dn.map Prod.fst), .lst ((rg (n + 1)).map fun k => iL (idxF k 0 dn)), .hole, .hole, .hole]) (cons_next (cbv_next rfl (len_map mkD rem)) rfl) rfl ev rfl) rfl v0 (by omega) (by rw [List.getElem?_map, hq]; rfl) ?_
          rw [map_erase]
          rfl
        · refine seq_next (δ1 := [b2, .int 9, .int m, .int r, .int bend, .int n, .lst ((rem.eraseIdx v.toNat).map mkD), .int q.2, .int x, lkL (dn.map Prod.fst), .lst ((rg (n + 1)).map fun k => iL (idxF k 0 (dn ++ [q]))), .hole, .hole, prD q.1]) ?_ ?_
          · refine appendAt_to (δ1 := [b2, .int 9, .int m, .int r, .int bend, .int n, .lst ((rem.eraseIdx v.toNat).map mkD), .int q.2, .int x, lkL (dn.map Prod.fst), .lst ((rg (n + 1)).map fun k => iL (idxF k 0 dn)), .hole, .hole, prD q.1]) (k := q.2) rfl rfl q0 trq (cbv_next (d := .int (dn.length : Nat)) rfl ?_) ?_ ?_
            · have := len_lkL (dn.map Prod.fst)
              rw [List.length_map] at this
              exact this
            · rw [List.length_map]
              have : (idxF q.2 0 dn).length ≤ dn.length := by
                have := inc_len (idxF q.2 0 dn) 0 dn.length (idxF_inc q.2 dn 0) (fun x hx => by
                  obtain ⟨i, e, h1, h2, _⟩ := idxF_mem q.2 dn 0 x hx
                  have := (List.getElem?_eq_some_iff.mp h2).1
                  omega) (by omega)
                omega
              omega
            · rw [trees_set dn q q0 q1]
              rfl
          · refine append_to (ds := (dn.map Prod.fst).map prD) (d := prD q.1) rfl rfl (by rw [List.length_map, List.length_map]; omega) ?_
            unfold lkL
            rw [List.map_append, List.map_append]
            rfl
      · rw [elb]
        rw [ela] at P
        refine List.Perm.trans ?_ P
        rw [List.append_assoc]
        refine List.Perm.append_left dn ?_
        show (q :: (la ++ lb)).Perm (la ++ q :: lb)
        exact (List.perm_middle).symm
      · rw [List.length_append, List.length_append, hd]
        rfl) ⟨mk, [], b, rfl, hb, by simp, rfl⟩
  rw [List.nil_append, rg_len] at h3
  have hr : rem = [] := by
    have := h2.length_eq
    rw [List.length_append] at this
    exact List.eq_nil_of_length_eq_zero (by omega)
  subst hr
  rw [List.append_nil] at h2
  exact ⟨dn, b', e, h1, h2⟩
theorem plan_ok2 {b : D} (hb : IsBag b) : ∃ m r ls ts s b', mm__law_plan [b, .int 9] = some (plD m r ls ts s, [b']) ∧ IsBag b' ∧ PlanOk m r ls ts s := by
  obtain ⟨v1, b1, e1, v10, v11, hb1⟩ := draw_ok hb (k := 9) (by omega) (by omega)
  let m := 2 + v1
  obtain ⟨r, b2, e2, r0, rm, hb2⟩ := draw_ok hb1 (k := m) (by omega) (by omega)
  obtain ⟨bend, b3, e3, _, _, hb3⟩ := draw_ok hb2 (k := 5) (by omega) (by omega)
  obtain ⟨z, b4, e4, z0, z3, hb4⟩ := draw_ok hb3 (k := 3) (by omega) (by omega)
  obtain ⟨y, ey, y1, y2⟩ : ∃ y, ixD (mLst (mCons (mC (.int 3)) (mCons (mC (.int 6)) (mCons (mC (.int 12)) mNil))) [] |>.map (·.1) |>.getD .hole) (.int z) = some (.int y) ∧ 3 ≤ y ∧ y ≤ 12 := by
    have : z = 0 ∨ z = 1 ∨ z = 2 := by omega
    rcases this with rfl | rfl | rfl
    · exact ⟨3, rfl, by omega, by omega⟩
    · exact ⟨6, rfl, by omega, by omega⟩
    · exact ⟨12, rfl, by omega, by omega⟩
  let d := (40 : Int) / (m - 1)
  have d4 : 4 ≤ d := Int.le_ediv_of_mul_le (by omega) (by omega)
  have dm : d * (m - 1) ≤ 40 := Int.ediv_mul_le 40 (by omega)
  let kk := if y < (if d < 12 then d else 12) then y else (if d < 12 then d else 12)
  have kk3 : 3 ≤ kk := by simp only [kk]; split <;> (try split) <;> omega
  have kk12 : kk ≤ 12 := by simp only [kk]; split <;> (try split) <;> omega
  have kkd : kk ≤ d := by simp only [kk]; split <;> (try split at *) <;> (try split) <;> omega
  obtain ⟨v5, b5, e5, v50, v51, hb5⟩ := draw_ok hb4 (k := kk) (by omega) (by omega)
  let n := 1 + v5
  have n40 : n * (m - 1) ≤ 40 := by
    have : n * (m - 1) ≤ d * (m - 1) := Int.mul_le_mul_of_nonneg_right (by omega) (by omega)
    omega
  obtain ⟨mk1, b6, e6, hb6, M1, lt1, len1⟩ := loop1 (m := m) (r := r) (bend := bend) (n := n) (by omega) (by omega) r0 rm (by omega) n40 hb5
  obtain ⟨z7, b7, e7, z70, z71, hb7⟩ := draw_ok hb6 (k := 6) (by omega) (by omega)
  obtain ⟨mk2, b8, e8, hb8, M2, le2, len2⟩ := loop2 (m := m) (r := r) (bend := bend) (n := n) (by omega) (by omega) r0 rm (by omega) hb7 M1 (fun e he => by have := lt1 e he; omega) (by omega) z70 z71
  obtain ⟨dn, b9, e9, hb9, P⟩ := loop3 (m := m) (r := r) (bend := bend) (n := n) (by omega) hb8 (fun e he => ⟨M2.mk0 e he, le2 e he⟩) len2
  let k8 : Int := if n < 8 then n else 8
  have k81 : 1 ≤ k8 ∧ k8 ≤ 8 ∧ k8 ≤ n := by simp only [k8]; split <;> omega
  obtain ⟨v10', b10, e10, s0, s1, hb10⟩ := draw_ok hb9 (k := k8) (by omega) (by omega)
  refine ⟨m, r, dn.map Prod.fst, (rg n).map fun k => idxF k 0 dn, 1 + v10', b10, ?_, hb10, net_of (by omega) (by omega) r0 rm M2 P (by omega), ts_of (by omega) r0 rm M2 P (by omega) (by omega), by omega, by omega, by rw [List.length_map, rg_len]; omega⟩
  refine fn_ret (δ := [b, .int 9, .hole, .hole, .hole, .hole, .hole, .hole, .hole, .hole, .hole, .hole, .hole, .hole]) ?_
  refine seq_next (δ1 := [b1, .int 9, .int m, .hole, .hole, .hole, .hole, .hole, .hole, .hole, .hole, .hole, .hole, .hole]) (set_to (op_next rfl (call1_next (δ1 := [b, .int 9, .hole, .hole, .hole, .hole, .hole, .hole, .hole, .hole, .hole, .hole, .hole, .hole]) rfl rfl e1 rfl) rfl) rfl) ?_
  refine seq_next (δ1 := [b2, .int 9, .int m, .int r, .hole, .hole, .hole, .hole, .hole, .hole, .hole, .hole, .hole, .hole]) (set_to (call1_next (δ1 := [b1, .int 9, .int m, .hole, .hole, .hole, .hole, .hole, .hole, .hole, .hole, .hole, .hole, .hole]) rfl rfl e2 rfl) rfl) ?_
  refine seq_next (δ1 := [b3, .int 9, .int m, .int r, .int bend, .hole, .hole, .hole, .hole, .hole, .hole, .hole, .hole, .hole]) (set_to (call1_next (δ1 := [b2, .int 9, .int m, .int r, .hole, .hole, .hole, .hole, .hole, .hole, .hole, .hole, .hole, .hole]) rfl rfl e3 rfl) rfl) ?_
  have f5 : mCB min3D (mCons (mC (.int 12)) (mCons (mOp divI (mC (.int 40)) (mOp subI (mVar 2) (mC (.int 1)))) (mCons (mOp ixD (mLst (mCons (mC (.int 3)) (mCons (mC (.int 6)) (mCons (mC (.int 12)) mNil)))) (mCall1 0 mm__law_draw (mCons (mC (.int 3)) mNil))) mNil))) [b3, .int 9, .int m, .int r, .int bend, .hole, .hole, .hole, .hole, .hole, .hole, .hole, .hole, .hole] = some (.int kk, [b4, .int 9, .int m, .int r, .int bend, .hole, .hole, .hole, .hole, .hole, .hole, .hole, .hole, .hole]) :=
    cb_next (cons_next rfl (cons_next (op_next (b := .int (m - 1)) (δ2 := [b3, .int 9, .int m, .int r, .int bend, .hole, .hole, .hole, .hole, .hole, .hole, .hole, .hole, .hole]) rfl rfl (div_ok (by omega) (by omega))) (cons_next (op_next (δ1 := [b3, .int 9, .int m, .int r, .int bend, .hole, .hole, .hole, .hole, .hole, .hole, .hole, .hole, .hole]) rfl (call1_next (δ1 := [b3, .int 9, .int m, .int r, .int bend, .hole, .hole, .hole, .hole, .hole, .hole, .hole, .hole, .hole]) rfl rfl e4 rfl) ey) rfl))) rfl
  refine seq_next (δ1 := [b5, .int 9, .int m, .int r, .int bend, .int n, .hole, .hole, .hole, .hole, .hole, .hole, .hole, .hole]) (set_to (op_next rfl (call1_next (cons_next f5 rfl) rfl e5 rfl) rfl) rfl) ?_
  refine seq_next (δ1 := st1 b5 m r bend n []) rfl ?_
  refine seq_next (for_next (rng1_next (j := n) (δ1 := st1 b5 m r bend n []) rfl (by omega) (by omega)) e6) ?_
  refine seq_next (for_next (rng1_next (j := z7) (δ1 := st1 b7 m r bend n mk1) (cons_next (call1_next (δ1 := st1 b6 m r bend n mk1) rfl rfl e7 rfl) rfl) (by omega) (by omega)) e8) ?_
  refine seq_next (δ1 := [b8, .int 9, .int m, .int r, .int bend, .int n, .lst (mk2.map mkD), .hole, .hole, .lst [], .hole, .hole, .hole, .hole]) rfl ?_
  have f10 := lcG_map (enc := D.int) (gi := mRng1 (mCons (mOp addI (mVar 5) (mC (.int 1))) mNil)) (i := 7) (ge := mLst mNil) (δ := [b8, .int 9, .int m, .int r, .int bend, .int n, .lst (mk2.map mkD), .hole, .hole, .lst [], .hole, .hole, .hole, .hole]) (xs := rg (n + 1)) (fun k => iL (idxF k 0 []))
    (rng1_next rfl (by omega) (by omega)) (by rw [rg_len]; omega) rfl fun k hk => rfl
  refine seq_next (δ1 := st3 b8 m r bend n mk2 []) (set_to f10 rfl) ?_
  refine seq_next (for_next (rng1_next (j := (mk2.length : Int)) (δ1 := st3 b8 m r bend n mk2 []) (cons_next (cbv_next rfl (len_map mkD mk2)) rfl) (by omega) (by omega)) e9) ?_
  have f11 : mCB min2D (mCons (mC (.int 8)) (mCons (mVar 5) mNil)) (st3 b9 m r bend n [] dn) = some (.int k8, st3 b9 m r bend n [] dn) := rfl
  refine seq_next (δ1 := [b10, .int 9, .int m, .int r, .int bend, .int n, .lst [], .hole, .hole, lkL (dn.map Prod.fst), .lst ((rg (n + 1)).map fun k => iL (idxF k 0 dn)), .int (1 + v10'), .hole, .hole]) (set_to (op_next rfl (call1_next (cons_next f11 rfl) rfl e10 rfl) rfl) rfl) ?_
  have f12 : mSl slL (mVar 10) mPn (mPs (mVar 5)) [b10, .int 9, .int m, .int r, .int bend, .int n, .lst [], .hole, .hole, lkL (dn.map Prod.fst), .lst ((rg (n + 1)).map fun k => iL (idxF k 0 dn)), .int (1 + v10'), .hole, .hole] = some (.lst (((rg n).map fun k => idxF k 0 dn).map iL), [b10, .int 9, .int m, .int r, .int bend, .int n, .lst [], .hole, .hole, lkL (dn.map Prod.fst), .lst ((rg (n + 1)).map fun k => iL (idxF k 0 dn)), .int (1 + v10'), .hole, .hole]) := by
    rw [slice_next (xs := (rg (n + 1)).map fun k => iL (idxF k 0 dn)) (n := n) (δ1 := [b10, .int 9, .int m, .int r, .int bend, .int n, .lst [], .hole, .hole, lkL (dn.map Prod.fst), .lst ((rg (n + 1)).map fun k => iL (idxF k 0 dn)), .int (1 + v10'), .hole, .hole]) rfl rfl (by omega)]
    have : ((rg (n + 1)).map fun k => iL (idxF k 0 dn)).take n.toNat = ((rg n).map fun k => idxF k 0 dn).map iL := by
      rw [rg_succ (by omega), List.map_append, List.take_append_of_le_length (by rw [List.length_map, rg_len]; omega), List.take_of_length_le (by rw [List.length_map, rg_len]; omega), List.map_map]
      rfl
    rw [this]
  refine ret_to (δ1 := [b10, .int 9, .int m, .int r, .int bend, .int n, .lst [], .hole, .hole, lkL (dn.map Prod.fst), .lst ((rg (n + 1)).map fun k => iL (idxF k 0 dn)), .int (1 + v10'), .hole, .hole]) ?_ rfl
  unfold mDisp
  rw [cons_next (d := .int m) (δ1 := [b10, .int 9, .int m, .int r, .int bend, .int n, .lst [], .hole, .hole, lkL (dn.map Prod.fst), .lst ((rg (n + 1)).map fun k => iL (idxF k 0 dn)), .int (1 + v10'), .hole, .hole]) rfl (cons_next (d := .int r) (δ1 := [b10, .int 9, .int m, .int r, .int bend, .int n, .lst [], .hole, .hole, lkL (dn.map Prod.fst), .lst ((rg (n + 1)).map fun k => iL (idxF k 0 dn)), .int (1 + v10'), .hole, .hole]) rfl (cons_next (d := lkL (dn.map Prod.fst)) (δ1 := [b10, .int 9, .int m, .int r, .int bend, .int n, .lst [], .hole, .hole, lkL (dn.map Prod.fst), .lst ((rg (n + 1)).map fun k => iL (idxF k 0 dn)), .int (1 + v10'), .hole, .hole]) rfl (cons_next f12 (cons_next (ds := []) rfl rfl))))]
  rfl
end W51

namespace W51
open PySem DL
section
variable {m r s : Int} {ls : List (Int × Int)} {t : List Int} {ts : List (List Int)} {kd : D}
theorem pl_many : DL.getD (plD m r ls ts s) (.str "many") = some (.int m) := rfl
theorem pl_root : DL.getD (plD m r ls ts s) (.str "root") = some (.int r) := rfl
theorem pl_links : DL.getD (plD m r ls ts s) (.str "links") = some (lkL ls) := rfl
theorem pl_trees : DL.getD (plD m r ls ts s) (.str "trees") = some (.lst (ts.map iL)) := rfl
theorem pl_size : DL.getD (plD m r ls ts s) (.str "size") = some (.int s) := rfl
theorem made_ok (h : PlanOk m r ls ts s) : ∃ kd, mm__law_made [plD m r ls ts s] = some (planD m r ls ts s kd, []) := by
  obtain ⟨kd, e⟩ := plan_ok h.net h.tsk h.s1 h.s8 h.sc
  refine ⟨kd, ?_⟩
  have l12 := h.tsk.le12
  have e1 := lcG_map (enc := iL) (gi := mIList (mOp DL.getD (mVar 0) (mC (.str "trees")))) (i := 2) (ge := mCB tupOfD (mCons (mVar 2) mNil)) (δ := [plD m r ls ts s, netD m r ls, .hole]) (xs := ts) iT (ilist_next (op_next rfl rfl pl_trees)) (by omega) rfl fun t ht => rfl
  refine fn_ret (δ := [plD m r ls ts s, .hole, .hole]) ?_
  refine seq_next (δ1 := [plD m r ls ts s, netD m r ls, .hole]) (set_to (make_next (ds := [.int m, .int r, lkT ls]) (cons_next (op_next rfl rfl pl_many) (cons_next (op_next rfl rfl pl_root) (cons_next (cb_next (cons_next (op_next rfl rfl pl_links) rfl) rfl) rfl))) (net_ok h.net.m2 h.net.m10 h.net.r0 h.net.rm h.net.lks)) rfl) ?_
  exact ret_to (δ1 := [plD m r ls ts s, netD m r ls, .hole]) (make_next (ds := [netD m r ls, tsT ts, .int s]) (cons_next rfl (cons_next (cb_next (cons_next e1 rfl) rfl) (cons_next (op_next rfl rfl pl_size) rfl))) e) rfl
/-! ### the law's own ways -/
theorem way_loop (n : NetOk m r ls) (h : Tr ls m r t) {k : Int} (k0 : 0 ≤ k) (hk : ts[k.toNat]? = some t) {q : Int} {w : List Int} (hw : Way ls t r q w) : ∀ (todo : List D) (acc : List Int), w.length ≤ todo.length → acc.length + w.length ≤ 100 →
    forL (fun d δ => some (δ.set 4 d)) (mThenVoid [4, 5] (mSeq (mIfS (mTest (mOp eqD (mVar 2) (mOp DL.getD (mVar 0) (mC (.str "root"))))) (mBrk [4]) mNx) (mSeq (mSet 5 (mOp ixD (mLcG [6] (mIList (mOp ixD (mOp DL.getD (mVar 0) (mC (.str "trees"))) (mVar 1))) (fun d δ => some (δ.set 6 d)) (mTest (mOp eqD (mOp ixD (mOp ixD (mOp DL.getD (mVar 0) (mC (.str "links"))) (mVar 6)) (mC (.int 1))) (mVar 2))) (mVar 6)) (mC (.int 0)))) (mSeq (mAppend 3 (mVar 5)) (mSet 2 (mOp ixD (mOp ixD (mOp DL.getD (mVar 0) (mC (.str "links"))) (mVar 5)) (mC (.int 0))))))))
      todo [plD m r ls ts s, .int k, .int q, iL acc, .hole, .hole, .hole] = some (.nx [plD m r ls ts s, .int k, .int r, iL (acc ++ w.reverse), .hole, .hole, .hole]) := by
  induction hw with
  | root =>
    intro todo acc _ _
    rw [List.reverse_nil, List.append_nil]
    cases todo with
    | nil => rfl
    | cons d todo =>
      rw [forL]
      simp only [Option.bind_some]
      have e : mSeq (mIfS (mTest (mOp eqD (mVar 2) (mOp DL.getD (mVar 0) (mC (.str "root"))))) (mBrk [4]) mNx) (mSeq (mSet 5 (mOp ixD (mLcG [6] (mIList (mOp ixD (mOp DL.getD (mVar 0) (mC (.str "trees"))) (mVar 1))) (fun d δ => some (δ.set 6 d)) (mTest (mOp eqD (mOp ixD (mOp ixD (mOp DL.getD (mVar 0) (mC (.str "links"))) (mVar 6)) (mC (.int 1))) (mVar 2))) (mVar 6)) (mC (.int 0)))) (mSeq (mAppend 3 (mVar 5)) (mSet 2 (mOp ixD (mOp ixD (mOp DL.getD (mVar 0) (mC (.str "links"))) (mVar 5)) (mC (.int 0))))))
          [plD m r ls ts s, .int k, .int r, iL acc, d, .hole, .hole] = some (.bk [plD m r ls ts s, .int k, .int r, iL acc, .hole, .hole, .hole]) := by
        have t : mTest (mOp eqD (mVar 2) (mOp DL.getD (mVar 0) (mC (.str "root")))) [plD m r ls ts s, .int k, .int r, iL acc, d, .hole, .hole] = some (true, [plD m r ls ts s, .int k, .int r, iL acc, d, .hole, .hole]) := by
          refine (test_next (op_next rfl (op_next rfl rfl pl_root) (eqD_int r r))).trans ?_
          rw [decide_eq_true rfl]
        unfold mSeq
        rw [if_t t rfl]
        rfl
      unfold mThenVoid
      simp only [List.set_cons_succ, List.set_cons_zero]
      rw [e]
      rfl
  | @step x w h1 hx ih =>
    intro todo acc hl ha
    rw [List.length_append, List.length_singleton] at hl ha
    cases todo with
    | nil => simp at hl
    | cons d todo =>
      obtain ⟨h2, h3⟩ := h.lot.rg x hx
      have l60 := h.len60 n
      have e1 : mLcG [6] (mIList (mOp ixD (mOp DL.getD (mVar 0) (mC (.str "trees"))) (mVar 1))) (fun d δ => some (δ.set 6 d)) (mTest (mOp eqD (mOp ixD (mOp ixD (mOp DL.getD (mVar 0) (mC (.str "links"))) (mVar 6)) (mC (.int 1))) (mVar 2))) (mVar 6) [plD m r ls ts s, .int k, .int (lk ls x).2, iL acc, d, .hole, .hole] = some (iL [x], [plD m r ls ts s, .int k, .int (lk ls x).2, iL acc, d, .hole, .hole]) := by
        refine (lcG_pure (enc := D.int) (xs := t) (fun y => decide ((lk ls y).2 = (lk ls x).2)) (fun y => .int y) (ilist_next (op_next (op_next rfl rfl pl_trees) rfl (ix_map k0 hk))) (by omega) rfl (fun y hy => ?_) fun y hy _ => rfl).trans ?_
        · obtain ⟨h4, h5⟩ := h.lot.rg y hy
          exact test_next (op_next (op_next (op_next (op_next rfl rfl pl_links) rfl (ix_lkL h4 h5)) rfl (ix_pr1 _)) rfl (eqD_int _ _))
        · rw [ent_one h hx]
          rfl
      have e2 : mTest (mOp eqD (mVar 2) (mOp DL.getD (mVar 0) (mC (.str "root")))) [plD m r ls ts s, .int k, .int (lk ls x).2, iL acc, d, .hole, .hole] = some (false, [plD m r ls ts s, .int k, .int (lk ls x).2, iL acc, d, .hole, .hole]) := by
        refine (test_next (op_next rfl (op_next rfl rfl pl_root) (eqD_int _ _))).trans ?_
        rw [decide_eq_false (h.nr x hx)]
      have e3 : mOp ixD (mOp ixD (mOp DL.getD (mVar 0) (mC (.str "links"))) (mVar 5)) (mC (.int 0)) [plD m r ls ts s, .int k, .int (lk ls x).2, iL (acc ++ [x]), d, .int x, .hole] = some (.int (lk ls x).1, [plD m r ls ts s, .int k, .int (lk ls x).2, iL (acc ++ [x]), d, .int x, .hole]) :=
        op_next (op_next (op_next rfl rfl pl_links) rfl (ix_lkL h2 h3)) rfl (ix_pr0 _)
      rw [forL]
      simp only [Option.bind_some]
      rw [show List.set [plD m r ls ts s, .int k, .int (lk ls x).2, iL acc, .hole, .hole, .hole] 4 d = [plD m r ls ts s, .int k, .int (lk ls x).2, iL acc, d, .hole, .hole] from rfl]
      rw [void_to (δ1 := [plD m r ls ts s, .int k, .int (lk ls x).1, iL (acc ++ [x]), d, .int x, .hole]) (δ2 := [plD m r ls ts s, .int k, .int (lk ls x).1, iL (acc ++ [x]), .hole, .hole, .hole]) (seq_next (if_f e2 rfl) (seq_next (δ1 := [plD m r ls ts s, .int k, .int (lk ls x).2, iL acc, d, .int x, .hole]) (set_to (op_next e1 rfl rfl) rfl)
        (seq_next (δ1 := [plD m r ls ts s, .int k, .int (lk ls x).2, iL (acc ++ [x]), d, .int x, .hole]) (append_to (ds := acc.map .int) (d := .int x) rfl rfl (by rw [List.length_map]; omega) (by unfold iL; rw [List.map_append]; rfl)) (set_to e3 rfl)))) rfl]
      have := ih todo (acc ++ [x]) (by simp at hl; omega) (by rw [List.length_append, List.length_singleton]; omega)
      rw [List.reverse_append, ← List.append_assoc] at *
      exact this
theorem way_ok (h : PlanOk m r ls ts s) {k : Int} (k0 : 0 ≤ k) (hk : ts[k.toNat]? = some t) {q : Int} (q0 : 0 ≤ q) (q1 : q < m) : mm__law_way [plD m r ls ts s, .int k, .int q] = some (iL (wy ls r t q), []) := by
  have m2 := h.net.m2
  have m10 := h.net.m10
  have T := h.tsk.tr t (List.mem_of_getElem? hk)
  obtain ⟨hw, hl⟩ := wy_ok T q0 q1
  have e := way_loop (ts := ts) (s := s) h.net T k0 hk hw ((rg m).map .int) [] (by rw [List.length_map, rg_len]; omega) (by simp only [List.length_nil]; omega)
  rw [List.nil_append] at e
  refine fn_ret (δ := [plD m r ls ts s, .int k, .int q, .hole, .hole, .hole, .hole]) ?_
  refine seq_next (δ1 := [plD m r ls ts s, .int k, .int q, iL [], .hole, .hole, .hole]) rfl ?_
  refine seq_next (for_next (rng1_next (cons_next (op_next rfl rfl pl_many) rfl) (by omega) (by omega)) e) ?_
  refine ret_to (δ1 := [plD m r ls ts s, .int k, .int r, iL (wy ls r t q).reverse, .hole, .hole, .hole]) (un_next (a := iL (wy ls r t q).reverse) rfl ?_) rfl
  show some (D.lst (((wy ls r t q).reverse.map D.int).reverse)) = _
  rw [← List.map_reverse, List.reverse_reverse]
  rfl
/-! ### lots -/
theorem lot_lc {share : Int} {L : Int} : ∀ (xs : List Int) {b : D}, IsBag b → ∃ (out : List Int) (b' : D), lcL [3] (fun d δ => some (δ.set 3 d)) (mTest (mOp ltI (mCall1 0 mm__law_draw (mCons (mC (.int 12)) mNil)) (mVar 2))) (mVar 3) (xs.map .int) [b, .int L, .int share, .hole] = some (out.map .int, [b', .int L, .int share, .hole]) ∧ IsBag b' ∧ out.Sublist xs
  | [], b, hb => ⟨[], b, rfl, hb, List.Sublist.refl _⟩
  | x :: xs, b, hb => by
    obtain ⟨v, b1, ev, _, _, hb1⟩ := draw_ok hb (k := 12) (by omega) (by omega)
    obtain ⟨out, b2, e, hb2, sub⟩ := lot_lc xs hb1
    have t : mTest (mOp ltI (mCall1 0 mm__law_draw (mCons (mC (.int 12)) mNil)) (mVar 2)) [b, .int L, .int share, .int x] = some (decide (v < share), [b1, .int L, .int share, .int x]) :=
      test_next (op_next (call1_next (δ1 := [b, .int L, .int share, .int x]) rfl rfl ev rfl) rfl rfl)
    by_cases z : v < share
    · rw [decide_eq_true z] at t
      refine ⟨x :: out, b2, ?_, hb2, sub.cons₂ x⟩
      rw [List.map_cons, lcL]
      simp only [Option.bind_some, List.set_cons_succ, List.set_cons_zero, t, if_true]
      show ((lcL _ _ _ _ (xs.map .int) [b1, .int L, .int share, .hole]).map _) = _
      rw [e]
      rfl
    · rw [decide_eq_false z] at t
      refine ⟨out, b2, ?_, hb2, sub.cons x⟩
      rw [List.map_cons, lcL]
      simp only [Option.bind_some, List.set_cons_succ, List.set_cons_zero, t, Bool.false_eq_true, if_false]
      exact e
theorem Lot.sub {t u : List Int} {n : Int} (h : Lot t n) (hs : u.Sublist t) : Lot u n := ⟨h.inc.sublist hs, fun x hx => h.rg x (hs.subset hx)⟩
theorem rg_lot (n : Int) : Lot (rg n) n := ⟨rg_inc n, fun x hx => mem_rg.mp hx⟩
theorem lot_ok {b : D} (hb : IsBag b) {L : Int} (share : Int) (l0 : 0 ≤ L) (l60 : L ≤ 60) : ∃ lost b', mm__law_lot [b, .int L, .int share] = some (iT lost, [b']) ∧ IsBag b' ∧ Lot lost L := by
  obtain ⟨out, b', e, hb', sub⟩ := lot_lc (share := share) (L := L) (rg L) hb
  refine ⟨out, b', ?_, hb', (rg_lot L).sub sub⟩
  refine fn_ret (δ := [b, .int L, .int share, .hole]) ?_
  have e1 : mLcG [3] (mRng1 (mCons (mVar 1) mNil)) (fun d δ => some (δ.set 3 d)) (mTest (mOp ltI (mCall1 0 mm__law_draw (mCons (mC (.int 12)) mNil)) (mVar 2))) (mVar 3) [b, .int L, .int share, .hole] = some (iL out, [b', .int L, .int share, .hole]) := by
    unfold mLcG
    rw [rng1_next (j := L) (δ1 := [b, .int L, .int share, .hole]) rfl (by omega) (by omega)]
    simp only [Option.bind_some, List.length_map, rg_len]
    rw [if_pos (show L.toNat < lim by show L.toNat < 1000000; omega), e]
    rfl
  exact ret_to (δ1 := [b', .int L, .int share, .hole]) (cb_next (cons_next e1 rfl) rfl) rfl
/-! ### alike -/
theorem same_int (x : Int) : mm__law_is_same 1 [.int x, .int x] = some (.bl true, []) := by
  refine fn_ret (δ := [.int x, .int x, .hole]) ?_
  refine seq_next (δ1 := [.int x, .int x, .hole]) rfl ?_
  refine (ret_to (δ1 := [.int x, .int x, .hole]) (and_next (a := true) (b := decide (x = x)) rfl (op_next rfl rfl (eqD_int x x)) (fun e => by cases e)) rfl).trans ?_
  rw [decide_eq_true rfl]
  rfl
theorem same_ok (a : List Int) (hl : a.length ≤ 1000) : mm__law_is_same 2 [iT a, iT a] = some (.bl true, []) := by
  have e := lcG_map (enc := D.int) (gi := mRng1 (mCons (mCB lenD (mCons (mVar 1) mNil)) mNil)) (i := 2) (ge := mCall (mm__law_is_same 1) (mCons (mOp ixD (mVar 0) (mVar 2)) (mCons (mOp ixD (mVar 1) (mVar 2)) mNil))) (δ := [iT a, iT a, .hole]) (xs := rg a.length) (fun _ => .bl true)
    (rng1_next (cons_next (cb_next (cons_next rfl rfl) (len_T a)) rfl) (by omega) (by omega)) (by rw [rg_len]; omega) rfl fun k hk => by
      obtain ⟨h0, h1⟩ := mem_rg.mp hk
      obtain ⟨v, hv⟩ : ∃ v, a[k.toNat]? = some v := ⟨_, List.getElem?_eq_getElem (by omega)⟩
      exact call_next (cons_next (op_next rfl rfl (ix_T h0 hv)) (cons_next (op_next rfl rfl (ix_T h0 hv)) rfl)) (same_int v)
  have e2 := all_p (rg a.length) (fun _ => true)
  have e3 : (rg a.length).all (fun _ => true) = true := List.all_eq_true.mpr fun _ _ => rfl
  rw [e3] at e2
  refine fn_ret (δ := [iT a, iT a, .hole]) ?_
  refine seq_ret (if_t (δ1 := [iT a, iT a, .hole]) rfl ?_)
  refine seq_next (δ1 := [iT a, iT a, .hole]) rfl ?_
  refine (ret_to (δ1 := [iT a, iT a, .hole]) (and_next (a := decide ((a.length : Int) = a.length)) (b := true) (op_next (cb_next (cons_next rfl rfl) (len_T a)) (cb_next (cons_next rfl rfl) (len_T a)) (eqD_int _ _)) (cb_next (cons_next e rfl) e2) (fun e => by rfl)) rfl).trans ?_
  rw [decide_eq_true rfl]
  rfl
end
end W51

namespace W51
open PySem DL
section
variable {m r s : Int} {ls : List (Int × Int)} {t : List Int} {ts : List (List Int)} {kd : D}
noncomputable def cutB (ls : List (Int × Int)) (r : Int) (lost : List Int) (q : Int) (t : List Int) : Bool := (wy ls r t q).any fun x => decide (x ∈ lost)
theorem cutN_eq (lost : List Int) (q : Int) : cutN ls r ts lost q = (ts.filter (cutB ls r lost q)).length := by
  unfold cutN
  rw [List.filter_map, List.length_map]
  rfl
noncomputable def wholeN (ls : List (Int × Int)) (r : Int) (ts : List (List Int)) (lost : List Int) (q : Int) (j : Nat) : Nat := ((ts.take j).filter fun t => !cutB ls r lost q t).length
theorem whole_all (lost : List Int) (q : Int) : (wholeN ls r ts lost q ts.length : Int) = ts.length - cutN ls r ts lost q := by
  unfold wholeN
  rw [List.take_of_length_le (Nat.le_refl _), cutN_eq]
  have := len_filter (cutB ls r lost q) ts
  omega
theorem whole_succ (lost : List Int) (q : Int) {j : Nat} (h : ts[j]? = some t) : wholeN ls r ts lost q (j + 1) = wholeN ls r ts lost q j + if (!cutB ls r lost q t) = true then 1 else 0 := by
  unfold wholeN
  rw [List.take_add_one, h, List.filter_append, List.length_append]
  congr 1
  cases hc : cutB ls r lost q t <;> simp [List.filter_cons, hc]
theorem own_stopped_ok (h : PlanOk m r ls ts s) (lost : List Int) : mm__law_stopped [plD m r ls ts s, iT lost] = some (iT (stopL m r ls ts s lost), []) := by
  have m2 := h.net.m2
  have m10 := h.net.m10
  have l12 := h.tsk.le12
  obtain ⟨δ', e, rfl⟩ := for_by (enc := D.int) (gm := fun d δ => some (δ.set 3 d)) (gb := mThenVoid [3, 4] (mSeq (mSet 4 (mC (.int 0))) (mSeq (mFor (mRng1 (mCons (mCB lenD (mCons (mOp DL.getD (mVar 0) (mC (.str "trees"))) mNil)) mNil)) (fun d δ => some (δ.set 5 d)) (mThenVoid [5] (mSet 4 (mOp addI (mVar 4) (mCB intD (mCons (mNotV (mCB anyD (mCons (mLcG [6] (mIList (mCall mm__law_way (mCons (mVar 0) (mCons (mVar 5) (mCons (mVar 3) mNil))))) (fun d δ => some (δ.set 6 d)) mYes (mOp (inD false) (mVar 6) (mVar 1))) mNil))) mNil)))))) (mIfS (mTest (mOp ltI (mVar 4) (mOp DL.getD (mVar 0) (mC (.str "size"))))) (mAppend 2 (mVar 3)) mNx))))
    (fun done δ => δ = [plD m r ls ts s, iT lost, iL (done.filter fun q => decide ((ts.length : Int) - (cutN ls r ts lost q : Int) < s)), .hole, .hole, .hole, .hole]) (rg m) [] [plD m r ls ts s, iT lost, iL [], .hole, .hole, .hole, .hole] (fun pre q post δ ep hi => by
      subst hi
      obtain ⟨eq, dl⟩ := rg_pre (show rg m = pre ++ q :: post from ep)
      let f := pre.filter fun q => decide ((ts.length : Int) - (cutN ls r ts lost q : Int) < s)
      have fl : f.length ≤ pre.length := List.length_filter_le _ _
      obtain ⟨δ2, e2, rfl⟩ := for_by (enc := D.int) (gm := fun d δ => some (δ.set 5 d)) (gb := mThenVoid [5] (mSet 4 (mOp addI (mVar 4) (mCB intD (mCons (mNotV (mCB anyD (mCons (mLcG [6] (mIList (mCall mm__law_way (mCons (mVar 0) (mCons (mVar 5) (mCons (mVar 3) mNil))))) (fun d δ => some (δ.set 6 d)) mYes (mOp (inD false) (mVar 6) (mVar 1))) mNil))) mNil)))))
        (fun done δ => δ = [plD m r ls ts s, iT lost, iL f, .int q, .int (wholeN ls r ts lost q done.length), .hole, .hole]) (rg ts.length) [] [plD m r ls ts s, iT lost, iL f, .int q, .int 0, .hole, .hole] (fun pre2 k post2 δ ep2 hi => by
          subst hi
          obtain ⟨ek, dk⟩ := rg_pre (show rg ts.length = pre2 ++ k :: post2 from ep2)
          obtain ⟨t, ht⟩ : ∃ t, ts[k.toNat]? = some t := ⟨_, List.getElem?_eq_getElem (by omega)⟩
          have T := h.tsk.tr t (List.mem_of_getElem? ht)
          have wl := (wy_ok T (show 0 ≤ q by omega) (show q < m by omega)).2
          have e3 := lcG_map2 (enc := D.int) (gi := mIList (mCall mm__law_way (mCons (mVar 0) (mCons (mVar 5) (mCons (mVar 3) mNil))))) (i := 6) (ge := mOp (inD false) (mVar 6) (mVar 1)) (δ0 := [plD m r ls ts s, iT lost, iL f, .int q, .int (wholeN ls r ts lost q pre2.length), .int k, .hole]) (δ := [plD m r ls ts s, iT lost, iL f, .int q, .int (wholeN ls r ts lost q pre2.length), .int k, .hole]) (xs := wy ls r t q) (fun x => .bl (decide (x ∈ lost)))
            (ilist_next (call_next rfl (way_ok h (show 0 ≤ k by omega) ht (show 0 ≤ q by omega) (show q < m by omega)))) (by omega) rfl fun x hx => op_next rfl rfl (in_T false x lost)
          have e4 : mOp addI (mVar 4) (mCB intD (mCons (mNotV (mCB anyD (mCons (mLcG [6] (mIList (mCall mm__law_way (mCons (mVar 0) (mCons (mVar 5) (mCons (mVar 3) mNil))))) (fun d δ => some (δ.set 6 d)) mYes (mOp (inD false) (mVar 6) (mVar 1))) mNil))) mNil)) [plD m r ls ts s, iT lost, iL f, .int q, .int (wholeN ls r ts lost q pre2.length), .int k, .hole] =
              some (.int (wholeN ls r ts lost q pre2.length + (if (!cutB ls r lost q t) = true then 1 else 0)), [plD m r ls ts s, iT lost, iL f, .int q, .int (wholeN ls r ts lost q pre2.length), .int k, .hole]) :=
            op_next rfl (cb_next (cons_next (notV_next (cb_next (cons_next e3 rfl) (any_p _ _))) rfl) rfl) rfl
          refine ⟨_, _, rfl, void_to (set_to e4 rfl) rfl, ?_⟩
          rw [List.length_append, List.length_singleton, whole_succ lost q (j := pre2.length) (by rw [show pre2.length = k.toNat by omega]; exact ht)]
          have : ((wholeN ls r ts lost q pre2.length + if (!cutB ls r lost q t) = true then 1 else 0 : Nat) : Int) = (wholeN ls r ts lost q pre2.length : Int) + (if (!cutB ls r lost q t) = true then 1 else 0) := by
            rw [Int.natCast_add]
            congr 1
            split <;> rfl
          rw [this]
          rfl) (by show _ = [plD m r ls ts s, iT lost, iL f, .int q, .int (wholeN ls r ts lost q 0), .hole, .hole]; rfl)
      rw [List.nil_append, rg_len, Int.toNat_natCast, whole_all] at e2
      have e5 : mTest (mOp ltI (mVar 4) (mOp DL.getD (mVar 0) (mC (.str "size")))) [plD m r ls ts s, iT lost, iL f, .int q, .int (ts.length - cutN ls r ts lost q), .hole, .hole] = some (decide ((ts.length : Int) - cutN ls r ts lost q < s), [plD m r ls ts s, iT lost, iL f, .int q, .int (ts.length - cutN ls r ts lost q), .hole, .hole]) :=
        test_next (op_next rfl (op_next rfl rfl pl_size) rfl)
      have e6 : ∃ whl, mIfS (mTest (mOp ltI (mVar 4) (mOp DL.getD (mVar 0) (mC (.str "size"))))) (mAppend 2 (mVar 3)) mNx [plD m r ls ts s, iT lost, iL f, .int q, .int (ts.length - cutN ls r ts lost q), .hole, .hole] = some (.nx [plD m r ls ts s, iT lost, iL ((pre ++ [q]).filter fun q => decide ((ts.length : Int) - (cutN ls r ts lost q : Int) < s)), .int q, whl, .hole, .hole]) := by
        refine ⟨.int (ts.length - cutN ls r ts lost q), ?_⟩
        rw [List.filter_append]
        by_cases z : (ts.length : Int) - cutN ls r ts lost q < s
        · rw [decide_eq_true z] at e5
          have : [q].filter (fun q => decide ((ts.length : Int) - (cutN ls r ts lost q : Int) < s)) = [q] := by simp [List.filter_cons, z]
          rw [this]
          refine if_t e5 (append_to (ds := f.map .int) (d := .int q) rfl rfl (by rw [List.length_map]; omega) ?_)
          show _ = [plD m r ls ts s, iT lost, iL (f ++ [q]), .int q, _, .hole, .hole]
          unfold iL
          rw [List.map_append]
          rfl
        · rw [decide_eq_false z] at e5
          have : [q].filter (fun q => decide ((ts.length : Int) - (cutN ls r ts lost q : Int) < s)) = [] := by simp [List.filter_cons, z]
          rw [this, List.append_nil]
          exact if_f e5 rfl
      obtain ⟨whl, e6⟩ := e6
      refine ⟨_, _, rfl, void_to (seq_next (δ1 := [plD m r ls ts s, iT lost, iL f, .int q, .int 0, .hole, .hole]) rfl (seq_next (for_next (rng1_next (j := (ts.length : Int)) (cons_next (cb_next (cons_next (op_next rfl rfl pl_trees) rfl) (len_map iL ts)) rfl) (by omega) (by omega)) e2) e6)) rfl, rfl⟩) rfl
  rw [List.nil_append] at e
  refine fn_ret (δ := [plD m r ls ts s, iT lost, .hole, .hole, .hole, .hole, .hole]) ?_
  refine seq_next (δ1 := [plD m r ls ts s, iT lost, iL [], .hole, .hole, .hole, .hole]) rfl ?_
  refine seq_next (for_next (rng1_next (cons_next (op_next rfl rfl pl_many) rfl) (by omega) (by omega)) e) ?_
  exact ret_to (cbv_next rfl rfl) rfl
/-! ### what is lost -/
theorem Way.pre {q : Int} {w : List Int} (hw : Way ls t r q w) : ∀ x ∈ w, ∃ w', Way ls t r (lk ls x).2 (w' ++ [x]) ∧ (w' ++ [x]).length ≤ w.length := by
  induction hw with
  | root => intro x hx; cases hx
  | @step y w h1 hy ih =>
    intro x hx
    rcases List.mem_append.mp hx with h | h
    · obtain ⟨w', h2, h3⟩ := ih x h
      exact ⟨w', h2, Nat.le_trans h3 (by rw [List.length_append (as := w)]; omega)⟩
    · have : x = y := by simpa using h
      subst this
      exact ⟨w, .step h1 hy, Nat.le_refl _⟩
theorem Way.nd (h : Tr ls m r t) {q : Int} {w : List Int} (hw : Way ls t r q w) : w.Nodup := by
  induction hw with
  | root => exact List.nodup_nil
  | @step y w h1 hy ih =>
    refine List.nodup_append.mpr ⟨ih, by simp, fun a ha b hb e => ?_⟩
    have hb : b = y := by simpa using hb
    subst hb
    subst e
    obtain ⟨w', h2, h3⟩ := h1.pre a ha
    have := (Way.step h1 hy).uniq h h2
    have := congrArg List.length this
    simp only [List.length_append, List.length_singleton] at this h3
    omega
theorem sort_Lot {w : List Int} {n : Int} (nd : w.Nodup) (hr : ∀ x ∈ w, 0 ≤ x ∧ x < n) : Lot (sortI w) n := by
  obtain ⟨h1, h2⟩ := sortI_lot nd
  exact ⟨h1, fun x hx => hr x (h2.mem_iff.mp hx)⟩
theorem flat_rg (h : PlanOk m r ls ts s) : ∀ x ∈ ts.flatten, 0 ≤ x ∧ x < ls.length := fun x hx => by
  obtain ⟨t, ht, hx⟩ := List.mem_flatten.mp hx
  exact (h.tsk.tr t ht).lot.rg x hx
theorem lost_ok (h : PlanOk m r ls ts s) {b : D} (hb : IsBag b) : ∃ lost b', mm__law_lost [b, plD m r ls ts s] = some (iT lost, [b']) ∧ IsBag b' ∧ Lot lost ls.length := by
  have m2 := h.net.m2
  have m10 := h.net.m10
  have l12 := h.tsk.le12
  have l1 := h.tsk.ge1
  have few := h.net.lks.few
  obtain ⟨k, b1, ek, k0, k1, hb1⟩ := draw_ok hb (k := 6) (by omega) (by omega)
  have s1 : mPar 5 6 (mCons (mCB lenD (mCons (mOp DL.getD (mVar 1) (mC (.str "links"))) mNil)) (mCons (mOp DL.getD (mVar 1) (mC (.str "trees"))) mNil)) [b, plD m r ls ts s, .hole, .hole, .hole, .hole, .hole] = some (.nx [b, plD m r ls ts s, .hole, .hole, .hole, .int ls.length, .lst (ts.map iL)]) :=
    par_to (cons_next (cb_next (cons_next (op_next rfl rfl pl_links) rfl) (len_lkL ls)) (cons_next (op_next rfl rfl pl_trees) rfl)) rfl
  have s2 : mSet 2 (mCall1 0 mm__law_draw (mCons (mC (.int 6)) mNil)) [b, plD m r ls ts s, .hole, .hole, .hole, .int ls.length, .lst (ts.map iL)] = some (.nx [b1, plD m r ls ts s, .int k, .hole, .hole, .int ls.length, .lst (ts.map iL)]) :=
    set_to (call1_next (δ1 := [b, plD m r ls ts s, .hole, .hole, .hole, .int ls.length, .lst (ts.map iL)]) rfl rfl ek rfl) rfl
  have t2 : mTest (mOp ltI (mVar 2) (mC (.int 2))) [b1, plD m r ls ts s, .int k, .hole, .hole, .int ls.length, .lst (ts.map iL)] = some (decide (k < 2), [b1, plD m r ls ts s, .int k, .hole, .hole, .int ls.length, .lst (ts.map iL)]) := rfl
  have teq : ∀ j : Int, mTest (mOp eqD (mVar 2) (mC (.int j))) [b1, plD m r ls ts s, .int k, .hole, .hole, .int ls.length, .lst (ts.map iL)] = some (decide (k = j), [b1, plD m r ls ts s, .int k, .hole, .hole, .int ls.length, .lst (ts.map iL)]) := fun j => test_next (op_next rfl rfl (eqD_int k j))
  by_cases hk2 : k < 2
  · rw [decide_eq_true hk2] at t2
    obtain ⟨z, b2, ez, z0, z1, hb2⟩ := draw_ok hb1 (k := 4) (by omega) (by omega)
    obtain ⟨y, ey⟩ : ∃ y, ixD (iL [1, 3, 6, 11]) (.int z) = some (.int y) := by
      have : z = 0 ∨ z = 1 ∨ z = 2 ∨ z = 3 := by omega
      rcases this with rfl | rfl | rfl | rfl <;> exact ⟨_, rfl⟩
    obtain ⟨lost, b3, el, hb3, L⟩ := lot_ok hb2 (L := ls.length) y (by omega) (by omega)
    refine ⟨lost, b3, ?_, hb3, L⟩
    refine fn_ret (δ := [b, plD m r ls ts s, .hole, .hole, .hole, .hole, .hole]) ?_
    refine seq_next s1 (seq_next s2 (seq_ret (if_t t2 ?_)))
    exact ret_to (call1_next (ds := [.int ls.length, .int y]) (δ1 := [b2, plD m r ls ts s, .int k, .hole, .hole, .int ls.length, .lst (ts.map iL)]) (cons_next rfl (cons_next (op_next (δ1 := [b1, plD m r ls ts s, .int k, .hole, .hole, .int ls.length, .lst (ts.map iL)]) (a := iL [1, 3, 6, 11]) rfl (call1_next (δ1 := [b1, plD m r ls ts s, .int k, .hole, .hole, .int ls.length, .lst (ts.map iL)]) rfl rfl ez rfl) ey) rfl)) rfl el rfl) rfl
  rw [decide_eq_false hk2] at t2
  by_cases hk3 : k = 2
  · have t3 := teq 2
    rw [decide_eq_true hk3] at t3
    obtain ⟨z, b2, ez, z0, z1, hb2⟩ := draw_ok hb1 (k := (ts.length : Int)) (by omega) (by omega)
    obtain ⟨q, b3, eq, q0, q1, hb3⟩ := draw_ok hb2 (k := m) (by omega) (by omega)
    obtain ⟨t, ht⟩ : ∃ t, ts[z.toNat]? = some t := ⟨_, List.getElem?_eq_getElem (by omega)⟩
    have T := h.tsk.tr t (List.mem_of_getElem? ht)
    have W := (wy_ok T q0 q1).1
    refine ⟨sortI (wy ls r t q), b3, ?_, hb3, sort_Lot (W.nd T) fun x hx => T.lot.rg x (W.mem x hx)⟩
    refine fn_ret (δ := [b, plD m r ls ts s, .hole, .hole, .hole, .hole, .hole]) ?_
    refine seq_next s1 (seq_next s2 (seq_next (if_f t2 rfl) (seq_ret (if_t t3 ?_))))
    exact ret_to (cb_next (cons_next (cb_next (cons_next (call_next (ds := [plD m r ls ts s, .int z, .int q]) (δ1 := [b3, plD m r ls ts s, .int k, .hole, .hole, .int ls.length, .lst (ts.map iL)])
      (cons_next rfl (cons_next (call1_next (ds := [.int ts.length]) (δ1 := [b1, plD m r ls ts s, .int k, .hole, .hole, .int ls.length, .lst (ts.map iL)]) (cons_next (cb_next (cons_next rfl rfl) (len_map iL ts)) rfl) rfl ez rfl) (cons_next (call1_next (ds := [.int m]) (δ1 := [b2, plD m r ls ts s, .int k, .hole, .hole, .int ls.length, .lst (ts.map iL)]) (cons_next (op_next rfl rfl pl_many) rfl) rfl eq rfl) rfl)))
      (way_ok h z0 ht q0 q1)) rfl) (sort_L _)) rfl) rfl) rfl
  have t3 := teq 2
  rw [decide_eq_false hk3] at t3
  by_cases hk4 : k = 3
  · have t4 := teq 3
    rw [decide_eq_true hk4] at t4
    obtain ⟨z, b2, ez, z0, z1, hb2⟩ := draw_ok hb1 (k := (ts.length : Int)) (by omega) (by omega)
    obtain ⟨t, ht⟩ : ∃ t, ts[z.toNat]? = some t := ⟨_, List.getElem?_eq_getElem (by omega)⟩
    have T := h.tsk.tr t (List.mem_of_getElem? ht)
    refine ⟨t, b2, ?_, hb2, T.lot⟩
    refine fn_ret (δ := [b, plD m r ls ts s, .hole, .hole, .hole, .hole, .hole]) ?_
    refine seq_next s1 (seq_next s2 (seq_next (if_f t2 rfl) (seq_next (if_f t3 rfl) (seq_ret (if_t t4 ?_)))))
    exact ret_to (cb_next (cons_next (op_next (a := .lst (ts.map iL)) rfl (call1_next (ds := [.int ts.length]) (δ1 := [b1, plD m r ls ts s, .int k, .hole, .hole, .int ls.length, .lst (ts.map iL)]) (cons_next (cb_next (cons_next rfl rfl) (len_map iL ts)) rfl) rfl ez rfl) (ix_map z0 ht)) rfl) rfl) rfl
  have t4 := teq 3
  rw [decide_eq_false hk4] at t4
  obtain ⟨δ', e, f, b', rfl, hb', nd, sub⟩ := for_brk (enc := D.int) (gm := fun d δ => some (δ.set 4 d)) (gb := mThenVoid [4] (mSeq (mIfS (mAnd (mTest (mOp eqD (mVar 2) (mC (.int 5)))) (mTest (mOp eqD (mCBv lenD 3) (mOp subI (mCB lenD (mCons (mVar 6) mNil)) (mOp DL.getD (mVar 1) (mC (.str "size"))))))) (mBrk [4]) mNx) (mIfS (mTest (mOp gtI (mCall1 0 mm__law_draw (mCons (mC (.int 3)) mNil)) (mC (.int 0)))) (mAppend 3 (mOp ixD (mOp ixD (mVar 6) (mVar 4)) (mCall1 0 mm__law_draw (mCons (mCB lenD (mCons (mOp ixD (mVar 6) (mVar 4)) mNil)) mNil)))) mNx)))
    (fun done δ => ∃ f b', δ = [b', plD m r ls ts s, .int k, iL f, .hole, .int ls.length, .lst (ts.map iL)] ∧ IsBag b' ∧ f.Nodup ∧ ∀ x ∈ f, x ∈ (ts.take done.length).flatten)
    (fun δ => ∃ f b', δ = [b', plD m r ls ts s, .int k, iL f, .hole, .int ls.length, .lst (ts.map iL)] ∧ IsBag b' ∧ f.Nodup ∧ ∀ x ∈ f, x ∈ ts.flatten) (rg ts.length) [] [b1, plD m r ls ts s, .int k, iL [], .hole, .int ls.length, .lst (ts.map iL)] (fun pre x post δ ep hi => by
      obtain ⟨f, b2, rfl, hb2, nd, sub⟩ := hi
      obtain ⟨ex, dl⟩ := rg_pre (show rg ts.length = pre ++ x :: post from ep)
      have x0 : 0 ≤ x := by omega
      obtain ⟨t, ht⟩ : ∃ t, ts[x.toNat]? = some t := ⟨_, List.getElem?_eq_getElem (by omega)⟩
      have T := h.tsk.tr t (List.mem_of_getElem? ht)
      have tl := T.len
      have take_in : ∀ y ∈ (ts.take pre.length).flatten, y ∈ ts.flatten := fun y hy => by
        obtain ⟨u, hu, hy⟩ := List.mem_flatten.mp hy
        exact List.mem_flatten.mpr ⟨u, List.mem_of_mem_take hu, hy⟩
      have fl : f.length ≤ 60 := by
        have := nodup_len nd (fun y hy => flat_rg h y (take_in y (sub y hy))) (by omega)
        omega
      obtain ⟨c, tc⟩ : ∃ c, mAnd (mTest (mOp eqD (mVar 2) (mC (.int 5)))) (mTest (mOp eqD (mCBv lenD 3) (mOp subI (mCB lenD (mCons (mVar 6) mNil)) (mOp DL.getD (mVar 1) (mC (.str "size")))))) [b2, plD m r ls ts s, .int k, iL f, .int x, .int ls.length, .lst (ts.map iL)] = some (c, [b2, plD m r ls ts s, .int k, iL f, .int x, .int ls.length, .lst (ts.map iL)]) := by
        have a1 : mTest (mOp eqD (mVar 2) (mC (.int 5))) [b2, plD m r ls ts s, .int k, iL f, .int x, .int ls.length, .lst (ts.map iL)] = some (decide (k = 5), [b2, plD m r ls ts s, .int k, iL f, .int x, .int ls.length, .lst (ts.map iL)]) := test_next (op_next rfl rfl (eqD_int k 5))
        have a2 : mTest (mOp eqD (mCBv lenD 3) (mOp subI (mCB lenD (mCons (mVar 6) mNil)) (mOp DL.getD (mVar 1) (mC (.str "size"))))) [b2, plD m r ls ts s, .int k, iL f, .int x, .int ls.length, .lst (ts.map iL)] = some (decide ((f.length : Int) = (ts.length : Int) - s), [b2, plD m r ls ts s, .int k, iL f, .int x, .int ls.length, .lst (ts.map iL)]) :=
          test_next (op_next (cbv_next rfl (len_L f)) (op_next (cb_next (cons_next rfl rfl) (len_map iL ts)) (op_next rfl rfl pl_size) rfl) (eqD_int _ _))
        by_cases z : k = 5
        · rw [decide_eq_true z] at a1
          exact ⟨_, andT_next a1 a2⟩
        · rw [decide_eq_false z] at a1
          exact ⟨false, andT_first a1⟩
      cases c with
      | true => exact ⟨_, [b2, plD m r ls ts s, .int k, iL f, .hole, .int ls.length, .lst (ts.map iL)], rfl, .inr ⟨brk_void (brk_seq (if_t tc rfl)), f, b2, rfl, hb2, nd, fun y hy => take_in y (sub y hy)⟩⟩
      | false =>
        obtain ⟨v, b3, ev, v0, v1, hb3⟩ := draw_ok hb2 (k := 3) (by omega) (by omega)
        have tv : mTest (mOp gtI (mCall1 0 mm__law_draw (mCons (mC (.int 3)) mNil)) (mC (.int 0))) [b2, plD m r ls ts s, .int k, iL f, .int x, .int ls.length, .lst (ts.map iL)] = some (decide (0 < v), [b3, plD m r ls ts s, .int k, iL f, .int x, .int ls.length, .lst (ts.map iL)]) :=
          test_next (op_next (call1_next (δ1 := [b2, plD m r ls ts s, .int k, iL f, .int x, .int ls.length, .lst (ts.map iL)]) rfl rfl ev rfl) rfl rfl)
        have more : ∀ y ∈ (ts.take pre.length).flatten, y ∈ (ts.take (pre ++ [x]).length).flatten := fun y hy => by
          rw [List.length_append, List.length_singleton, List.take_add_one, List.flatten_append]
          exact List.mem_append_left _ hy
        by_cases z : 0 < v
        · rw [decide_eq_true z] at tv
          obtain ⟨u, b4, eu, u0, u1, hb4⟩ := draw_ok hb3 (k := (t.length : Int)) (by omega) (by omega)
          obtain ⟨y, hy⟩ : ∃ y, t[u.toNat]? = some y := ⟨_, List.getElem?_eq_getElem (by omega)⟩
          have yt := List.mem_of_getElem? hy
          refine ⟨_, [b4, plD m r ls ts s, .int k, iL (f ++ [y]), .hole, .int ls.length, .lst (ts.map iL)], rfl, .inl ⟨void_to (δ1 := [b4, plD m r ls ts s, .int k, iL (f ++ [y]), .int x, .int ls.length, .lst (ts.map iL)]) (seq_next (if_f tc rfl) (if_t tv ?_)) rfl, f ++ [y], b4, rfl, hb4, ?_, ?_⟩⟩
          · refine append_to (ds := f.map .int) (d := .int y) (δ1 := [b4, plD m r ls ts s, .int k, iL f, .int x, .int ls.length, .lst (ts.map iL)]) (op_next (op_next rfl rfl (ix_map x0 ht)) (call1_next (ds := [.int t.length]) (δ1 := [b3, plD m r ls ts s, .int k, iL f, .int x, .int ls.length, .lst (ts.map iL)]) (cons_next (cb_next (cons_next (op_next rfl rfl (ix_map x0 ht)) rfl) (len_L t)) rfl) rfl eu rfl) (ix_L u0 hy)) rfl (by rw [List.length_map]; omega) ?_
            unfold iL
            rw [List.map_append]
            rfl
          · refine List.nodup_append.mpr ⟨nd, by simp, fun a ha c hc e => ?_⟩
            have hc : c = y := by simpa using hc
            subst hc
            subst e
            have ap := h.tsk.apart
            have spl : ts = ts.take pre.length ++ ts.drop pre.length := (List.take_append_drop _ _).symm
            rw [spl, List.flatten_append] at ap
            have tin : a ∈ (ts.drop pre.length).flatten := List.mem_flatten.mpr ⟨t, List.mem_of_getElem? (i := 0) (by rw [List.getElem?_drop, Nat.add_zero, show pre.length = x.toNat by omega]; exact ht), yt⟩
            exact (List.nodup_append.mp ap).2.2 a (sub a ha) a tin rfl
          · intro w hw
            rcases List.mem_append.mp hw with hw | hw
            · exact more w (sub w hw)
            · have hw : w = y := by simpa using hw
              subst hw
              rw [List.length_append, List.length_singleton, List.take_add_one, List.flatten_append]
              refine List.mem_append_right _ ?_
              rw [show pre.length = x.toNat by omega, ht]
              simpa using yt
        · rw [decide_eq_false z] at tv
          exact ⟨_, [b3, plD m r ls ts s, .int k, iL f, .hole, .int ls.length, .lst (ts.map iL)], rfl, .inl ⟨void_to (δ1 := [b3, plD m r ls ts s, .int k, iL f, .int x, .int ls.length, .lst (ts.map iL)]) (seq_next (if_f tc rfl) (if_f tv rfl)) rfl, f, b3, rfl, hb3, nd, fun y hy => more y (sub y hy)⟩⟩)
    ⟨[], b1, rfl, hb1, List.nodup_nil, fun x hx => by cases hx⟩ (fun δ ⟨f, b', e, h1, h2, h3⟩ => ⟨f, b', e, h1, h2, fun x hx => by
      have := h3 x hx
      rw [List.nil_append, rg_len, Int.toNat_natCast, List.take_of_length_le (Nat.le_refl _)] at this
      exact this⟩)
  refine ⟨sortI f, b', ?_, hb', sort_Lot nd fun x hx => flat_rg h x (sub x hx)⟩
  refine fn_ret (δ := [b, plD m r ls ts s, .hole, .hole, .hole, .hole, .hole]) ?_
  refine seq_next s1 (seq_next s2 (seq_next (if_f t2 rfl) (seq_next (if_f t3 rfl) (seq_next (if_f t4 rfl) (seq_next (δ1 := [b1, plD m r ls ts s, .int k, iL [], .hole, .int ls.length, .lst (ts.map iL)]) rfl ?_)))))
  refine seq_next (for_next (rng1_next (j := (ts.length : Int)) (cons_next (cb_next (cons_next rfl rfl) (len_map iL ts)) rfl) (by omega) (by omega)) e) ?_
  exact ret_to (cb_next (cons_next (cbv_next rfl (sort_L f)) rfl) rfl) rfl
end
end W51

namespace W51
open PySem DL
section
variable {m r s : Int} {ls : List (Int × Int)} {t : List Int} {ts : List (List Int)} {kd : D}
/-! ### what the law asks, of lists of places -/
theorem mem_stop {lost : List Int} {q : Int} : q ∈ stopL m r ls ts s lost ↔ (0 ≤ q ∧ q < m) ∧ (ts.length : Int) - cutN ls r ts lost q < s := by
  unfold stopL
  rw [List.mem_filter, mem_rg, decide_eq_true_eq]
theorem cut0 {lost : List Int} {q : Int} (h : ∀ t ∈ ts, cutB ls r lost q t = false) : cutN ls r ts lost q = 0 := by
  rw [cutN_eq, List.filter_eq_nil_iff.mpr fun t ht => by rw [h t ht]; exact Bool.false_ne_true]
  rfl
theorem root_not (h : PlanOk m r ls ts s) (lost : List Int) : r ∉ stopL m r ls ts s lost := fun z => by
  have := (mem_stop.mp z).2
  rw [cut0 fun t ht => by unfold cutB; rw [wy_eq (h.tsk.tr t ht) .root]; rfl] at this
  have := h.sc
  omega
theorem stop_mono {lost more : List Int} (hs : ∀ x ∈ lost, x ∈ more) : ∀ q ∈ stopL m r ls ts s lost, q ∈ stopL m r ls ts s more := fun q hq => by
  obtain ⟨h1, h2⟩ := mem_stop.mp hq
  refine mem_stop.mpr ⟨h1, ?_⟩
  have : cutN ls r ts lost q ≤ cutN ls r ts more q := by
    rw [cutN_eq, cutN_eq]
    refine filter_le ts fun t _ hc => ?_
    obtain ⟨x, hx, hl⟩ := List.any_eq_true.mp hc
    exact List.any_eq_true.mpr ⟨x, hx, decide_eq_true (hs x (of_decide_eq_true hl))⟩
  omega
theorem few_none (h : PlanOk m r ls ts s) {lost : List Int} (hl : (lost.length : Int) ≤ ts.length - s) : stopL m r ls ts s lost = [] := by
  refine List.filter_eq_nil_iff.mpr fun q hq => ?_
  obtain ⟨q0, q1⟩ := mem_rg.mp hq
  have : cutN ls r ts lost q ≤ lost.length := by
    rw [cutN_eq]
    refine Nat.le_trans (filter_le ts fun t ht hc => ?_) (pigeon ts h.tsk.apart lost)
    obtain ⟨x, hx, hl⟩ := List.any_eq_true.mp hc
    exact List.any_eq_true.mpr ⟨x, (wy_ok (h.tsk.tr t ht) q0 q1).1.mem x hx, hl⟩
  simp only [decide_eq_true_eq]
  omega
theorem all_stop (h : PlanOk m r ls ts s) : stopL m r ls ts s (rg ls.length) = (rg m).filter fun q => !decide (q = r) := by
  refine List.filter_congr fun q hq => ?_
  obtain ⟨q0, q1⟩ := mem_rg.mp hq
  have s1 := h.s1
  have sc := h.sc
  by_cases z : q = r
  · subst z
    rw [cut0 fun t ht => by unfold cutB; rw [wy_eq (h.tsk.tr t ht) .root]; rfl]
    simp only [decide_true, Bool.not_true, decide_eq_false_iff_not]
    omega
  · have : cutN ls r ts (rg ls.length) q = ts.length := by
      rw [cutN_eq, List.filter_eq_self.mpr]
      intro t ht
      have T := h.tsk.tr t ht
      have W := (wy_ok T q0 q1).1
      unfold cutB
      cases e : wy ls r t q with
      | nil =>
        rw [e] at W
        generalize ew : ([] : List Int) = w at W
        cases W with
        | root => exact absurd rfl z
        | step _ _ => simp at ew
      | cons x w =>
        have hx : x ∈ wy ls r t q := by rw [e]; exact List.mem_cons_self
        have := T.lot.rg x (W.mem x hx)
        rw [List.any_cons, decide_eq_true (mem_rg.mpr this), Bool.true_or]
    rw [this, decide_eq_false z]
    simp only [Bool.not_false, decide_eq_true_eq]
    omega
theorem idle_none (h : PlanOk m r ls ts s) {lost : List Int} (hi : ∀ x ∈ lost, ∀ t ∈ ts, x ∉ t) : stopL m r ls ts s lost = [] := by
  have sc := h.sc
  refine List.filter_eq_nil_iff.mpr fun q hq => ?_
  obtain ⟨q0, q1⟩ := mem_rg.mp hq
  rw [cut0 fun t ht => by
    unfold cutB
    rw [List.any_eq_false]
    intro x hx
    have := (wy_ok (h.tsk.tr t ht) q0 q1).1.mem x hx
    simp only [decide_eq_true_eq]
    exact fun z => hi x z t ht this]
  simp only [decide_eq_true_eq]
  omega
theorem stop_len (lost : List Int) (h : PlanOk m r ls ts s) : (stopL m r ls ts s lost).length ≤ 10 := by
  have m10 := h.net.m10
  have : (stopL m r ls ts s lost).length ≤ (rg m).length := List.length_filter_le _ _
  rw [rg_len] at this
  omega
theorem Lot.len60 (h : PlanOk m r ls ts s) {lost : List Int} (l : Lot lost ls.length) : lost.length ≤ 60 := Nat.le_trans l.len h.net.lks.few
/-! ### the law -/
def stL (scr b : D) (m r : Int) (ls : List (Int × Int)) (ts : List (List Int)) (s : Int) (mp : D) : List D := [scr, b, plD m r ls ts s, mp, .hole, .hole, .hole, .int ls.length, .lst (ts.map iL), .hole, .hole, .hole, .hole, .hole, .hole, .hole]
theorem same_call (h : PlanOk m r ls ts s) (scr b k : D) (lost : List Int) (kd : D) {i j : Nat} {δ : List D} (hi : δ[i]? = some (iT (stopL m r ls ts s lost))) (hp : δ[2]? = some (plD m r ls ts s)) (hj : δ[j]? = some (iT lost)) :
    mNot (mTest (mCall (mm__law_is_same 2) (mCons (mVar i) (mCons (mCall mm__law_stopped (mCons (mVar 2) (mCons (mVar j) mNil))) mNil)))) δ = some (false, δ) := by
  have v : ∀ {i : Nat} {d : D}, δ[i]? = some d → mVar i δ = some (d, δ) := fun e => by unfold mVar; rw [e]; rfl
  exact not_next (b := true) (test_next (call_next (cons_next (v hi) (cons_next (call_next (cons_next (v hp) (cons_next (v hj) rfl)) (own_stopped_ok h lost)) rfl)) (same_ok _ (by have := stop_len lost h; omega))))
theorem body_ok (h : PlanOk m r ls ts s) {scr b k : D} (hb : IsBag b) (kd : D) : ∃ b', mThenVoid [4, 9, 10, 11, 12] (mSeq (mSet 9 (mCall1 1 mm__law_lost (mCons (mVar 2) mNil))) (mSeq (mSet 10 (mCall mm_stopped (mCons (mVar 3) (mCons (mVar 9) mNil)))) (mSeq (mIfS (mOr (mNot (mTest (mCall (mm__law_is_same 2) (mCons (mVar 10) (mCons (mCall mm__law_stopped (mCons (mVar 2) (mCons (mVar 9) mNil))) mNil))))) (mTest (mOp (inD false) (mOp DL.getD (mVar 2) (mC (.str "root"))) (mVar 10)))) (mRet 0 (mC (.bl false))) mNx) (mSeq (mSet 11 (mCB tupOfD (mCons (mUn sortSetD (mCB listOfD (mCons (mOp catT (mVar 9) (mCall1 1 mm__law_lot (mCons (mVar 7) (mCons (mC (.int 2)) mNil)))) mNil))) mNil))) (mSeq (mSet 12 (mCall mm_stopped (mCons (mVar 3) (mCons (mVar 11) mNil)))) (mSeq (mIfS (mOr (mNot (mTest (mCall (mm__law_is_same 2) (mCons (mVar 12) (mCons (mCall mm__law_stopped (mCons (mVar 2) (mCons (mVar 11) mNil))) mNil))))) (mNot (mTest (mCB allD (mCons (mLcG [13] (mITup (mVar 10)) (fun d δ => some (δ.set 13 d)) mYes (mOp (inD false) (mVar 13) (mVar 12))) mNil))))) (mRet 0 (mC (.bl false))) mNx) (mSeq (mIfS (mAnd (mTest (mOp leI (mCB lenD (mCons (mVar 9) mNil)) (mOp subI (mCB lenD (mCons (mVar 8) mNil)) (mOp DL.getD (mVar 2) (mC (.str "size")))))) (mTest (mOp neD (mVar 10) (mTup mNil)))) (mRet 0 (mC (.bl false))) mNx) (mIfS (mNot (mTest (mCall (mm__law_is_same 2) (mCons (mCall mm_stopped (mCons (mVar 3) (mCons (mVar 9) mNil))) (mCons (mVar 10) mNil))))) (mRet 0 (mC (.bl false))) mNx))))))))
    ((stL scr b m r ls ts s (planD m r ls ts s kd)).set 4 k) = some (.nx (stL scr b' m r ls ts s (planD m r ls ts s kd))) ∧ IsBag b' := by
  have few := h.net.lks.few
  obtain ⟨lost, b1, e1, hb1, L⟩ := lost_ok h hb
  obtain ⟨lot, b2, e2, hb2, L2⟩ := lot_ok hb1 (L := ls.length) 2 (by omega) (by omega)
  have l1 := Lot.len60 h L
  have l2 := Lot.len60 h L2
  let more := sortU (lost ++ lot)
  have moreL : Lot more ls.length := ⟨sortU_sorted _, fun x hx => (List.mem_append.mp (mem_sortU.mp hx)).elim (L.rg x) (L2.rg x)⟩
  have l3 := Lot.len60 h moreL
  let told := stopL m r ls ts s lost
  let later := stopL m r ls ts s more
  have tl : told.length ≤ 10 := stop_len lost h
  refine ⟨b2, ?_, hb2⟩
  refine void_to (δ1 := [scr, b2, plD m r ls ts s, planD m r ls ts s kd, k, .hole, .hole, .int ls.length, .lst (ts.map iL), iT lost, iT told, iT more, iT later, .hole, .hole, .hole]) ?_ rfl
  refine seq_next (δ1 := [scr, b1, plD m r ls ts s, planD m r ls ts s kd, k, .hole, .hole, .int ls.length, .lst (ts.map iL), iT lost, .hole, .hole, .hole, .hole, .hole, .hole]) (set_to (call1_next (ds := [plD m r ls ts s]) (δ1 := [scr, b, plD m r ls ts s, planD m r ls ts s kd, k, .hole, .hole, .int ls.length, .lst (ts.map iL), .hole, .hole, .hole, .hole, .hole, .hole, .hole]) rfl rfl e1 rfl) rfl) ?_
  refine seq_next (δ1 := [scr, b1, plD m r ls ts s, planD m r ls ts s kd, k, .hole, .hole, .int ls.length, .lst (ts.map iL), iT lost, iT told, .hole, .hole, .hole, .hole, .hole]) (set_to (call_next rfl (stopped_ok h.net h.tsk L)) rfl) ?_
  refine seq_next (δ1 := [scr, b1, plD m r ls ts s, planD m r ls ts s kd, k, .hole, .hole, .int ls.length, .lst (ts.map iL), iT lost, iT told, .hole, .hole, .hole, .hole, .hole]) (if_f (or_next (same_call h scr b k lost kd rfl rfl rfl) (b := false) ?_) rfl) ?_
  · refine (test_next (op_next (op_next rfl rfl pl_root) rfl (in_T false r told))).trans ?_
    rw [decide_eq_false (root_not h lost)]
    rfl
  have e3 : mCB tupOfD (mCons (mUn sortSetD (mCB listOfD (mCons (mOp catT (mVar 9) (mCall1 1 mm__law_lot (mCons (mVar 7) (mCons (mC (.int 2)) mNil)))) mNil))) mNil) [scr, b1, plD m r ls ts s, planD m r ls ts s kd, k, .hole, .hole, .int ls.length, .lst (ts.map iL), iT lost, iT told, .hole, .hole, .hole, .hole, .hole] = some (iT more, [scr, b2, plD m r ls ts s, planD m r ls ts s kd, k, .hole, .hole, .int ls.length, .lst (ts.map iL), iT lost, iT told, .hole, .hole, .hole, .hole, .hole]) :=
    cb_next (cons_next (un_next (cb_next (cons_next (op_next (a := iT lost) (b := iT lot) (δ1 := [scr, b1, plD m r ls ts s, planD m r ls ts s kd, k, .hole, .hole, .int ls.length, .lst (ts.map iL), iT lost, iT told, .hole, .hole, .hole, .hole, .hole]) rfl (call1_next (ds := [.int ls.length, .int 2]) (δ1 := [scr, b1, plD m r ls ts s, planD m r ls ts s kd, k, .hole, .hole, .int ls.length, .lst (ts.map iL), iT lost, iT told, .hole, .hole, .hole, .hole, .hole]) rfl rfl e2 rfl) (cat_T lost lot (by omega))) rfl) rfl) (sortSet_L (ns := lost ++ lot) (by rw [List.length_append]; omega) (by show more.length < 64; omega))) rfl) rfl
  refine seq_next (δ1 := [scr, b2, plD m r ls ts s, planD m r ls ts s kd, k, .hole, .hole, .int ls.length, .lst (ts.map iL), iT lost, iT told, iT more, .hole, .hole, .hole, .hole]) (set_to e3 rfl) ?_
  refine seq_next (δ1 := [scr, b2, plD m r ls ts s, planD m r ls ts s kd, k, .hole, .hole, .int ls.length, .lst (ts.map iL), iT lost, iT told, iT more, iT later, .hole, .hole, .hole]) (set_to (call_next rfl (stopped_ok h.net h.tsk moreL)) rfl) ?_
  refine seq_next (δ1 := [scr, b2, plD m r ls ts s, planD m r ls ts s kd, k, .hole, .hole, .int ls.length, .lst (ts.map iL), iT lost, iT told, iT more, iT later, .hole, .hole, .hole]) (if_f (or_next (same_call h scr b k more kd rfl rfl rfl) (not_next (b := true) ?_)) rfl) ?_
  · have e := lcG_map (enc := D.int) (gi := mITup (mVar 10)) (i := 13) (ge := mOp (inD false) (mVar 13) (mVar 12)) (δ := [scr, b2, plD m r ls ts s, planD m r ls ts s kd, k, .hole, .hole, .int ls.length, .lst (ts.map iL), iT lost, iT told, iT more, iT later, .hole, .hole, .hole]) (xs := told) (fun x => .bl (decide (x ∈ later))) rfl (by show told.length < 1000000; omega) rfl fun x hx => op_next rfl rfl (in_T false x later)
    refine (test_next (cb_next (cons_next e rfl) (all_p told _))).trans ?_
    rw [List.all_eq_true.mpr fun x hx => decide_eq_true (stop_mono (fun y hy => mem_sortU.mpr (List.mem_append_left _ hy)) x hx)]
  refine seq_next (δ1 := [scr, b2, plD m r ls ts s, planD m r ls ts s kd, k, .hole, .hole, .int ls.length, .lst (ts.map iL), iT lost, iT told, iT more, iT later, .hole, .hole, .hole]) (if_f ?_ rfl) ?_
  · have t1 : mTest (mOp leI (mCB lenD (mCons (mVar 9) mNil)) (mOp subI (mCB lenD (mCons (mVar 8) mNil)) (mOp DL.getD (mVar 2) (mC (.str "size"))))) [scr, b2, plD m r ls ts s, planD m r ls ts s kd, k, .hole, .hole, .int ls.length, .lst (ts.map iL), iT lost, iT told, iT more, iT later, .hole, .hole, .hole] = some (decide ((lost.length : Int) ≤ ts.length - s), [scr, b2, plD m r ls ts s, planD m r ls ts s kd, k, .hole, .hole, .int ls.length, .lst (ts.map iL), iT lost, iT told, iT more, iT later, .hole, .hole, .hole]) :=
      test_next (op_next (cb_next (cons_next rfl rfl) (len_T lost)) (op_next (cb_next (cons_next rfl rfl) (len_map iL ts)) (op_next rfl rfl pl_size) rfl) rfl)
    by_cases z : (lost.length : Int) ≤ ts.length - s
    · rw [decide_eq_true z] at t1
      refine (andT_next t1 (test_next (op_next (b := iT []) rfl rfl (ne_T told [])))).trans ?_
      rw [decide_eq_true (few_none h z)]
      rfl
    · rw [decide_eq_false z] at t1
      exact andT_first t1
  · exact if_f (not_next (b := true) (test_next (call_next (cons_next (call_next rfl (stopped_ok h.net h.tsk L)) rfl) (same_ok told (by show told.length ≤ 1000; omega))))) rfl
theorem bag_ok (ns : List Int) : mm__law_bag [.scr (ns.map .int)] = some (bgD (ns.take 63) 0 0 0, []) := by
  have tk : (ns.map D.int).take 63 = (ns.take 63).map .int := List.map_take.symm
  have e := lcG_map (enc := D.int) (gi := mIList (mSl slL (mVar 0) mPn (mPs (mC (.int 63))))) (i := 1) (ge := mCB intD (mCons (mVar 1) mNil)) (δ := [.scr (ns.map .int), .hole]) (xs := ns.take 63) (fun x => .int x) (by
    rw [← tk]
    exact ilist_next (sliceS_next (n := 63) (δ1 := [.scr (ns.map .int), .hole]) rfl rfl (by decide))) (by rw [List.length_take]; omega) rfl fun x hx => rfl
  refine fn_ret (δ := [.scr (ns.map .int), .hole]) ?_
  refine ret_to (δ1 := [.scr (ns.map .int), .hole]) ?_ rfl
  unfold mLst
  rw [cons_next e rfl]
  rfl
theorem law_ok (ns : List Int) : mm_law [.scr (ns.map .int)] = some (.bl true, []) := by
  let scr : D := .scr (ns.map .int)
  let b0 := bgD (ns.take 63) 0 0 0
  obtain ⟨m, r, ls, ts, s, b1, e1, hb1, h⟩ := plan_ok2 (b := b0) ⟨_, _, _, _, rfl⟩
  obtain ⟨kd, e2⟩ := made_ok h
  have m2 := h.net.m2
  have m10 := h.net.m10
  have few := h.net.lks.few
  have l12 := h.tsk.le12
  let mp := planD m r ls ts s kd
  obtain ⟨δ', e3, b2, rfl, hb2⟩ := for_by (enc := D.int) (gm := fun d δ => some (δ.set 4 d)) (fun done δ => ∃ b', δ = stL scr b' m r ls ts s mp ∧ IsBag b') (rg 6) [] (stL scr b1 m r ls ts s mp) (fun pre x post δ ep ⟨b', ed, hb'⟩ => by
    subst ed
    obtain ⟨b'', e, hb''⟩ := body_ok h (scr := scr) (k := .int x) hb' kd
    exact ⟨_, _, rfl, e, b'', rfl, hb''⟩) ⟨b1, rfl, hb1⟩
  let others := (rg m).filter fun q => !decide (q = r)
  let idle := (rg ls.length).filter fun x => !(ts.any fun t => decide (x ∈ t))
  have idleL : Lot idle ls.length := (rg_lot ls.length).sub List.filter_sublist
  have e5 := lcG_pure (enc := D.int) (gi := mRng1 (mCons (mOp DL.getD (mVar 2) (mC (.str "many"))) mNil)) (i := 13) (gt := mTest (mOp neD (mVar 13) (mOp DL.getD (mVar 2) (mC (.str "root"))))) (ge := mVar 13) (δ := stL scr b2 m r ls ts s mp) (xs := rg m)
    (fun q => !decide (q = r)) D.int (rng1_next (cons_next (op_next rfl rfl pl_many) rfl) (by omega) (by omega)) (by rw [rg_len]; omega) rfl (fun q hq => test_next (op_next rfl (op_next rfl rfl pl_root) (neD_int q r))) fun q hq _ => rfl
  let δ5 : List D := [scr, b2, plD m r ls ts s, mp, .hole, iT others, .hole, .int ls.length, .lst (ts.map iL), .hole, .hole, .hole, .hole, .hole, .hole, .hole]
  let δ6 : List D := [scr, b2, plD m r ls ts s, mp, .hole, iT others, iT idle, .int ls.length, .lst (ts.map iL), .hole, .hole, .hole, .hole, .hole, .hole, .hole]
  have e6 := lcG_pure (enc := D.int) (gi := mRng1 (mCons (mVar 7) mNil)) (i := 14) (gt := mNot (mTest (mCB anyD (mCons (mLcG [15] (mIList (mVar 8)) (fun d δ => some (δ.set 15 d)) mYes (mOp (inD false) (mVar 14) (mVar 15))) mNil)))) (ge := mVar 14) (δ := δ5) (xs := rg ls.length)
    (fun x => !(ts.any fun t => decide (x ∈ t))) D.int (rng1_next rfl (by omega) (by omega)) (by rw [rg_len]; omega) rfl (fun x hx => by
      have e := lcG_map (enc := iL) (gi := mIList (mVar 8)) (i := 15) (ge := mOp (inD false) (mVar 14) (mVar 15)) (δ := [scr, b2, plD m r ls ts s, mp, .hole, iT others, .hole, .int ls.length, .lst (ts.map iL), .hole, .hole, .hole, .hole, .hole, .int x, .hole]) (xs := ts) (fun t => .bl (decide (x ∈ t))) rfl (by omega) rfl fun t ht => op_next rfl rfl (in_L false x t)
      exact not_next (test_next (cb_next (cons_next e rfl) (any_p ts _)))) fun x hx _ => rfl
  have S : ∀ lost : List Int, Lot lost ls.length → mm_stopped [mp, iT lost] = some (iT (stopL m r ls ts s lost), []) := fun lost L => stopped_ok h.net h.tsk L
  have f1 : mOp eqD (mCall mm_stopped (mCons (mVar 3) (mCons (mTupRg1 (mVar 7)) mNil))) (mVar 5) δ6 = some (.bl true, δ6) := by
    refine (op_next (call_next (cons_next rfl (cons_next (tupRg_next (n := (ls.length : Int)) rfl (by omega) (by omega)) rfl)) (S _ (rg_lot _))) rfl (eq_T _ others)).trans ?_
    rw [decide_eq_true (all_stop h)]
  have f2 : mOp eqD (mCall mm_stopped (mCons (mVar 3) (mCons (mTup mNil) mNil))) (mTup mNil) δ6 = some (.bl true, δ6) := by
    refine (op_next (b := iT []) (call_next (ds := [mp, iT []]) rfl (S [] ⟨List.Pairwise.nil, fun x hx => by cases hx⟩)) rfl (eq_T _ [])).trans ?_
    rw [decide_eq_true (idle_none h fun x hx => by cases hx)]
  have f3 : mOp eqD (mCall mm_stopped (mCons (mVar 3) (mCons (mVar 6) mNil))) (mTup mNil) δ6 = some (.bl true, δ6) := by
    refine (op_next (b := iT []) (call_next (ds := [mp, iT idle]) rfl (S idle idleL)) rfl (eq_T _ [])).trans ?_
    rw [decide_eq_true (idle_none h fun x hx t ht z => by
      have := (List.mem_filter.mp hx).2
      rw [Bool.not_eq_true', List.any_eq_false] at this
      exact this t ht (decide_eq_true z))]
  refine fn_ret (δ := [scr, .hole, .hole, .hole, .hole, .hole, .hole, .hole, .hole, .hole, .hole, .hole, .hole, .hole, .hole, .hole]) ?_
  refine seq_next (δ1 := [scr, b0, .hole, .hole, .hole, .hole, .hole, .hole, .hole, .hole, .hole, .hole, .hole, .hole, .hole, .hole]) (set_to (call_next rfl (bag_ok ns)) rfl) ?_
  refine seq_next (δ1 := [scr, b1, plD m r ls ts s, .hole, .hole, .hole, .hole, .hole, .hole, .hole, .hole, .hole, .hole, .hole, .hole, .hole]) (set_to (call1_next (ds := [.int 9]) (δ1 := [scr, b0, .hole, .hole, .hole, .hole, .hole, .hole, .hole, .hole, .hole, .hole, .hole, .hole, .hole, .hole]) rfl rfl e1 rfl) rfl) ?_
  refine seq_next (δ1 := [scr, b1, plD m r ls ts s, mp, .hole, .hole, .hole, .hole, .hole, .hole, .hole, .hole, .hole, .hole, .hole, .hole]) (set_to (call_next rfl e2) rfl) ?_
  refine seq_next (δ1 := stL scr b1 m r ls ts s mp) (setG_to (d := .tup [.int ls.length, .lst (ts.map iL)]) (δ1 := [scr, b1, plD m r ls ts s, mp, .hole, .hole, .hole, .hole, .hole, .hole, .hole, .hole, .hole, .hole, .hole, .hole]) ?_ rfl) ?_
  · unfold mTup
    rw [cons_next (cb_next (cons_next (op_next rfl rfl pl_links) rfl) (len_lkL ls)) (cons_next (op_next rfl rfl pl_trees) rfl)]
    rfl
  refine seq_next (for_next (rng1_next (j := 6) (δ1 := stL scr b1 m r ls ts s mp) rfl (by decide) (by decide)) e3) ?_
  refine seq_next (δ1 := δ5) (set_to (cb_next (cons_next e5 rfl) rfl) rfl) ?_
  refine seq_next (δ1 := δ6) (set_to (cb_next (cons_next e6 rfl) rfl) rfl) ?_
  exact ret_to (and_next (a := true) f1 (and_next (a := true) f2 f3 fun e => by cases e) fun e => by cases e) rfl
end
end W51

namespace W51
open PySem PySem.Spec PyProof.Rows L2 DL
def d_is_integer : He.DefD := ⟨("is_integer", none), "is_integer", "is_integer", L2.defArgs (top 1), L2.defBody (top 1), L2.defScope (top 1), [], []⟩
def d_is_within : He.DefD := ⟨("is_within", none), "is_within", "is_within", L2.defArgs (top 2), L2.defBody (top 2), L2.defScope (top 2), [], []⟩
def d_is_pair : He.DefD := ⟨("is_pair", none), "is_pair", "is_pair", L2.defArgs (top 3), L2.defBody (top 3), L2.defScope (top 3), [], []⟩
def d_is_lot : He.DefD := ⟨("is_lot", none), "is_lot", "is_lot", L2.defArgs (top 4), L2.defBody (top 4), L2.defScope (top 4), [], []⟩
def d_Net_init : He.DefD := ⟨("Net", some "__init__"), "__init__", "Net.__init__", L2.defArgs (L2.inClass (top 19) 0), L2.defBody (L2.inClass (top 19) 0), L2.defScope (L2.inClass (top 19) 0), [], []⟩
def d_is_link : He.DefD := ⟨("is_link", none), "is_link", "is_link", L2.defArgs (top 20), L2.defBody (top 20), L2.defScope (top 20), [], []⟩
def d_check_net : He.DefD := ⟨("check_net", none), "check_net", "check_net", L2.defArgs (top 21), L2.defBody (top 21), L2.defScope (top 21), [], []⟩
def d_is_lot_of : He.DefD := ⟨("is_lot_of", none), "is_lot_of", "is_lot_of", L2.defArgs (top 22), L2.defBody (top 22), L2.defScope (top 22), [], []⟩
def d_reached : He.DefD := ⟨("reached", none), "reached", "reached", L2.defArgs (top 24), L2.defBody (top 24), L2.defScope (top 24), [], []⟩
def d_is_wood : He.DefD := ⟨("is_wood", none), "is_wood", "is_wood", L2.defArgs (top 25), L2.defBody (top 25), L2.defScope (top 25), [], []⟩
def d_is_grown : He.DefD := ⟨("is_grown", none), "is_grown", "is_grown", L2.defArgs (top 26), L2.defBody (top 26), L2.defScope (top 26), [], []⟩
def d_is_tree : He.DefD := ⟨("is_tree", none), "is_tree", "is_tree", L2.defArgs (top 27), L2.defBody (top 27), L2.defScope (top 27), [], []⟩
def d_are_apart : He.DefD := ⟨("are_apart", none), "are_apart", "are_apart", L2.defArgs (top 28), L2.defBody (top 28), L2.defScope (top 28), [], []⟩
def d_is_packing : He.DefD := ⟨("is_packing", none), "is_packing", "is_packing", L2.defArgs (top 29), L2.defBody (top 29), L2.defScope (top 29), [], []⟩
def d_check_tree : He.DefD := ⟨("check_tree", none), "check_tree", "check_tree", L2.defArgs (top 31), L2.defBody (top 31), L2.defScope (top 31), [], []⟩
def d_links_to : He.DefD := ⟨("links_to", none), "links_to", "links_to", L2.defArgs (top 32), L2.defBody (top 32), L2.defScope (top 32), [], []⟩
def d_depths : He.DefD := ⟨("depths", none), "depths", "depths", L2.defArgs (top 33), L2.defBody (top 33), L2.defScope (top 33), [], []⟩
def d_way_in : He.DefD := ⟨("way_in", none), "way_in", "way_in", L2.defArgs (top 34), L2.defBody (top 34), L2.defScope (top 34), [], []⟩
def d_Plan_init : He.DefD := ⟨("Plan", some "__init__"), "__init__", "Plan.__init__", L2.defArgs (L2.inClass (top 38) 0), L2.defBody (L2.inClass (top 38) 0), L2.defScope (L2.inClass (top 38) 0), [], []⟩
def d_check_plan : He.DefD := ⟨("check_plan", none), "check_plan", "check_plan", L2.defArgs (top 39), L2.defBody (top 39), L2.defScope (top 39), [], []⟩
def d_check_lost : He.DefD := ⟨("check_lost", none), "check_lost", "check_lost", L2.defArgs (top 41), L2.defBody (top 41), L2.defScope (top 41), [], []⟩
def d_cut_trees : He.DefD := ⟨("cut_trees", none), "cut_trees", "cut_trees", L2.defArgs (top 43), L2.defBody (top 43), L2.defScope (top 43), [], []⟩
def d_is_stopped : He.DefD := ⟨("is_stopped", none), "is_stopped", "is_stopped", L2.defArgs (top 44), L2.defBody (top 44), L2.defScope (top 44), [], []⟩
def d_stopped : He.DefD := ⟨("stopped", none), "stopped", "stopped", L2.defArgs (top 45), L2.defBody (top 45), L2.defScope (top 45), [], []⟩
def d__law_mixed : He.DefD := ⟨("_law_mixed", none), "_law_mixed", "_law_mixed", L2.defArgs (top 47), L2.defBody (top 47), L2.defScope (top 47), [], []⟩
def d__law_bag : He.DefD := ⟨("_law_bag", none), "_law_bag", "_law_bag", L2.defArgs (top 48), L2.defBody (top 48), L2.defScope (top 48), [], []⟩
def d__law_draw : He.DefD := ⟨("_law_draw", none), "_law_draw", "_law_draw", L2.defArgs (top 49), L2.defBody (top 49), L2.defScope (top 49), [], []⟩
def d__law_tree : He.DefD := ⟨("_law_tree", none), "_law_tree", "_law_tree", L2.defArgs (top 50), L2.defBody (top 50), L2.defScope (top 50), [], []⟩
def d__law_plan : He.DefD := ⟨("_law_plan", none), "_law_plan", "_law_plan", L2.defArgs (top 51), L2.defBody (top 51), L2.defScope (top 51), [], []⟩
def d__law_made : He.DefD := ⟨("_law_made", none), "_law_made", "_law_made", L2.defArgs (top 52), L2.defBody (top 52), L2.defScope (top 52), [], []⟩
def d__law_way : He.DefD := ⟨("_law_way", none), "_law_way", "_law_way", L2.defArgs (top 53), L2.defBody (top 53), L2.defScope (top 53), [], []⟩
def d__law_lot : He.DefD := ⟨("_law_lot", none), "_law_lot", "_law_lot", L2.defArgs (top 54), L2.defBody (top 54), L2.defScope (top 54), [], []⟩
def d__law_stopped : He.DefD := ⟨("_law_stopped", none), "_law_stopped", "_law_stopped", L2.defArgs (top 55), L2.defBody (top 55), L2.defScope (top 55), [], []⟩
def d__law_is_same : He.DefD := ⟨("_law_is_same", none), "_law_is_same", "_law_is_same", L2.defArgs (top 56), L2.defBody (top 56), L2.defScope (top 56), [], []⟩
def d__law_lost : He.DefD := ⟨("_law_lost", none), "_law_lost", "_law_lost", L2.defArgs (top 57), L2.defBody (top 57), L2.defScope (top 57), [], []⟩
def d_law : He.DefD := ⟨("law", none), "law", "law", L2.defArgs (top 58), L2.defBody (top 58), L2.defScope (top 58), [], []⟩
def fn : List He.DefD := [d_is_integer, d_is_within, d_is_pair, d_is_lot, d_Net_init, d_is_link, d_check_net, d_is_lot_of, d_reached, d_is_wood, d_is_grown, d_is_tree, d_are_apart, d_is_packing, d_check_tree, d_links_to, d_depths, d_way_in, d_Plan_init, d_check_plan, d_check_lost, d_cut_trees, d_is_stopped, d_stopped, d__law_mixed, d__law_bag, d__law_draw, d__law_tree, d__law_plan, d__law_made, d__law_way, d__law_lot, d__law_stopped, d__law_is_same, d__law_lost, d_law]
def fa : List He.Fa := [.glo "is_integer", .glo "is_within", .glo "is_pair", .glo "is_lot", .glo "is_link", .glo "check_net", .glo "is_lot_of", .glo "reached", .glo "is_wood", .glo "is_grown", .glo "is_tree", .glo "are_apart", .glo "is_packing", .glo "check_tree", .glo "links_to", .glo "depths", .glo "way_in", .glo "check_plan", .glo "check_lost", .glo "cut_trees", .glo "is_stopped", .glo "stopped", .glo "_law_mixed", .glo "_law_bag", .glo "_law_draw", .glo "_law_tree", .glo "_law_plan", .glo "_law_made", .glo "_law_way", .glo "_law_lot", .glo "_law_stopped", .glo "_law_is_same", .glo "_law_lost", .glo "law", .free "ValueError", .free "abs", .free "all", .free "any", .free "bool", .free "enumerate", .free "int", .free "isinstance", .free "len", .free "list", .free "min", .free "range", .free "set", .free "sorted", .free "tuple", .int "LEAST_PLACES" 2, .int "MOST_PLACES" 10, .int "MOST_LINKS" 60, .int "MOST_SIZE" 8, .int "MOST_WORDS" 12, .glo "Net", .cls "Net", .mkr "Net", .noat "Net" "many", .noat "Net" "root", .noat "Net" "links", .glo "Plan", .cls "Plan", .mkr "Plan", .noat "Plan" "of_net", .noat "Plan" "by_trees", .noat "Plan" "of_size", .noat "Plan" "kept_depths"]
def ex (K : PySem.W.Frag) : Bool := isOkB K ["Net", "Plan"]
abbrev R : PySem.W.OpenRow := PySem.W.OpenLaw.row PySem.Challenge.rw_sparetrees_k51_whole_places_stopped_by_l
abbrev hk : PySem.W.Hook := He.hookX 6 fa fn [] [] ex
def ob (s : PySem.W.SharedT) : He.AlX := He.obsX 6 fa fn [] [] ex (HandSHeadRun.getT s)
theorem ob_eq (s : PySem.W.SharedT) : ob s = hk.obs s.abs := He.obsX_eq (HandSHeadRun.getT_eq s)
def loose0 : List PySem.Str := ["is_integer", "is_within", "is_pair", "is_lot", "TreeError", "BadNet", "NoNet", "NoLot", "NoNumber", "NoPlace", "NoTree", "NoPacking"]
def loose1 : List PySem.Str := ["NoPlan", "LEAST_PLACES", "MOST_PLACES", "MOST_LINKS", "Net", "is_link", "check_net", "is_lot_of", "reached", "is_wood", "is_grown", "is_tree"]
def loose2 : List PySem.Str := ["are_apart", "is_packing", "check_tree", "links_to", "depths", "way_in", "MOST_SIZE", "MOST_WORDS", "Plan", "check_plan", "check_lost", "cut_trees"]
def loose3 : List PySem.Str := ["is_stopped", "stopped", "_law_mixed", "_law_bag", "_law_draw", "_law_tree", "_law_plan", "_law_made", "_law_way", "_law_lot", "_law_stopped", "_law_is_same"]
def loose4 : List PySem.Str := ["_law_lost"]
def loose : List PySem.Str := loose0 ++ loose1 ++ loose2 ++ loose3 ++ loose4
theorem run (w : World) : HandSHeadRun.RunEq R (PySem.W.view R.prog [58]) hk ob 6000 loose w := by
  intro os
  kernel_rfl
theorem txt_of {K : PySem.W.Frag} {h : Heap} {mg : Str → Option Value} (X : K.In h) (G : h.Ns mainGlobals mg) (c : He.SaysD fa fn K) (e : ex K = true) : Txt K mg where
  n_ValueError := He.free_ok X G (c.fact 34 (f := .free "ValueError") rfl)
  n_abs := He.free_ok X G (c.fact 35 (f := .free "abs") rfl)
  n_all := He.free_ok X G (c.fact 36 (f := .free "all") rfl)
  n_any := He.free_ok X G (c.fact 37 (f := .free "any") rfl)
  n_bool := He.free_ok X G (c.fact 38 (f := .free "bool") rfl)
  n_enumerate := He.free_ok X G (c.fact 39 (f := .free "enumerate") rfl)
  n_int := He.free_ok X G (c.fact 40 (f := .free "int") rfl)
  n_isinstance := He.free_ok X G (c.fact 41 (f := .free "isinstance") rfl)
  n_len := He.free_ok X G (c.fact 42 (f := .free "len") rfl)
  n_list := He.free_ok X G (c.fact 43 (f := .free "list") rfl)
  n_min := He.free_ok X G (c.fact 44 (f := .free "min") rfl)
  n_range := He.free_ok X G (c.fact 45 (f := .free "range") rfl)
  n_set := He.free_ok X G (c.fact 46 (f := .free "set") rfl)
  n_sorted := He.free_ok X G (c.fact 47 (f := .free "sorted") rfl)
  n_tuple := He.free_ok X G (c.fact 48 (f := .free "tuple") rfl)
  i_LEAST_PLACES := He.int_ok X G (c.fact 49 (f := .int "LEAST_PLACES" 2) rfl)
  i_MOST_PLACES := He.int_ok X G (c.fact 50 (f := .int "MOST_PLACES" 10) rfl)
  i_MOST_LINKS := He.int_ok X G (c.fact 51 (f := .int "MOST_LINKS" 60) rfl)
  i_MOST_SIZE := He.int_ok X G (c.fact 52 (f := .int "MOST_SIZE" 8) rfl)
  i_MOST_WORDS := He.int_ok X G (c.fact 53 (f := .int "MOST_WORDS" 12) rfl)
  g_is_integer := He.glo_ok X G (c.fact 0 (f := .glo "is_integer") rfl)
  f_is_integer := c.def_ 0 (d := d_is_integer) rfl
  g_is_within := He.glo_ok X G (c.fact 1 (f := .glo "is_within") rfl)
  f_is_within := c.def_ 1 (d := d_is_within) rfl
  g_is_pair := He.glo_ok X G (c.fact 2 (f := .glo "is_pair") rfl)
  f_is_pair := c.def_ 2 (d := d_is_pair) rfl
  g_is_lot := He.glo_ok X G (c.fact 3 (f := .glo "is_lot") rfl)
  f_is_lot := c.def_ 3 (d := d_is_lot) rfl
  f_Net_init := c.def_ 4 (d := d_Net_init) rfl
  g_is_link := He.glo_ok X G (c.fact 4 (f := .glo "is_link") rfl)
  f_is_link := c.def_ 5 (d := d_is_link) rfl
  g_check_net := He.glo_ok X G (c.fact 5 (f := .glo "check_net") rfl)
  f_check_net := c.def_ 6 (d := d_check_net) rfl
  g_is_lot_of := He.glo_ok X G (c.fact 6 (f := .glo "is_lot_of") rfl)
  f_is_lot_of := c.def_ 7 (d := d_is_lot_of) rfl
  g_reached := He.glo_ok X G (c.fact 7 (f := .glo "reached") rfl)
  f_reached := c.def_ 8 (d := d_reached) rfl
  g_is_wood := He.glo_ok X G (c.fact 8 (f := .glo "is_wood") rfl)
  f_is_wood := c.def_ 9 (d := d_is_wood) rfl
  g_is_grown := He.glo_ok X G (c.fact 9 (f := .glo "is_grown") rfl)
  f_is_grown := c.def_ 10 (d := d_is_grown) rfl
  g_is_tree := He.glo_ok X G (c.fact 10 (f := .glo "is_tree") rfl)
  f_is_tree := c.def_ 11 (d := d_is_tree) rfl
  g_are_apart := He.glo_ok X G (c.fact 11 (f := .glo "are_apart") rfl)
  f_are_apart := c.def_ 12 (d := d_are_apart) rfl
  g_is_packing := He.glo_ok X G (c.fact 12 (f := .glo "is_packing") rfl)
  f_is_packing := c.def_ 13 (d := d_is_packing) rfl
  g_check_tree := He.glo_ok X G (c.fact 13 (f := .glo "check_tree") rfl)
  f_check_tree := c.def_ 14 (d := d_check_tree) rfl
  g_links_to := He.glo_ok X G (c.fact 14 (f := .glo "links_to") rfl)
  f_links_to := c.def_ 15 (d := d_links_to) rfl
  g_depths := He.glo_ok X G (c.fact 15 (f := .glo "depths") rfl)
  f_depths := c.def_ 16 (d := d_depths) rfl
  g_way_in := He.glo_ok X G (c.fact 16 (f := .glo "way_in") rfl)
  f_way_in := c.def_ 17 (d := d_way_in) rfl
  f_Plan_init := c.def_ 18 (d := d_Plan_init) rfl
  g_check_plan := He.glo_ok X G (c.fact 17 (f := .glo "check_plan") rfl)
  f_check_plan := c.def_ 19 (d := d_check_plan) rfl
  g_check_lost := He.glo_ok X G (c.fact 18 (f := .glo "check_lost") rfl)
  f_check_lost := c.def_ 20 (d := d_check_lost) rfl
  g_cut_trees := He.glo_ok X G (c.fact 19 (f := .glo "cut_trees") rfl)
  f_cut_trees := c.def_ 21 (d := d_cut_trees) rfl
  g_is_stopped := He.glo_ok X G (c.fact 20 (f := .glo "is_stopped") rfl)
  f_is_stopped := c.def_ 22 (d := d_is_stopped) rfl
  g_stopped := He.glo_ok X G (c.fact 21 (f := .glo "stopped") rfl)
  f_stopped := c.def_ 23 (d := d_stopped) rfl
  g__law_mixed := He.glo_ok X G (c.fact 22 (f := .glo "_law_mixed") rfl)
  f__law_mixed := c.def_ 24 (d := d__law_mixed) rfl
  g__law_bag := He.glo_ok X G (c.fact 23 (f := .glo "_law_bag") rfl)
  f__law_bag := c.def_ 25 (d := d__law_bag) rfl
  g__law_draw := He.glo_ok X G (c.fact 24 (f := .glo "_law_draw") rfl)
  f__law_draw := c.def_ 26 (d := d__law_draw) rfl
  g__law_tree := He.glo_ok X G (c.fact 25 (f := .glo "_law_tree") rfl)
  f__law_tree := c.def_ 27 (d := d__law_tree) rfl
  g__law_plan := He.glo_ok X G (c.fact 26 (f := .glo "_law_plan") rfl)
  f__law_plan := c.def_ 28 (d := d__law_plan) rfl
  g__law_made := He.glo_ok X G (c.fact 27 (f := .glo "_law_made") rfl)
  f__law_made := c.def_ 29 (d := d__law_made) rfl
  g__law_way := He.glo_ok X G (c.fact 28 (f := .glo "_law_way") rfl)
  f__law_way := c.def_ 30 (d := d__law_way) rfl
  g__law_lot := He.glo_ok X G (c.fact 29 (f := .glo "_law_lot") rfl)
  f__law_lot := c.def_ 31 (d := d__law_lot) rfl
  g__law_stopped := He.glo_ok X G (c.fact 30 (f := .glo "_law_stopped") rfl)
  f__law_stopped := c.def_ 32 (d := d__law_stopped) rfl
  g__law_is_same := He.glo_ok X G (c.fact 31 (f := .glo "_law_is_same") rfl)
  f__law_is_same := c.def_ 33 (d := d__law_is_same) rfl
  g__law_lost := He.glo_ok X G (c.fact 32 (f := .glo "_law_lost") rfl)
  f__law_lost := c.def_ 34 (d := d__law_lost) rfl
  g_law := He.glo_ok X G (c.fact 33 (f := .glo "law") rfl)
  f_law := c.def_ 35 (d := d_law) rfl
  g_Net := He.glo_ok X G (c.fact 54 (f := .glo "Net") rfl)
  mk_Net := He.mkr_ok (c.fact 56 (f := .mkr "Net") rfl)
  fld_Net_many := fun y hy => by rw [List.mem_singleton.mp hy]; exact ⟨He.cls_ok (c.fact 55 (f := .cls "Net") rfl), He.noat_ok (c.fact 57 (f := .noat "Net" "many") rfl)⟩
  fld_Net_root := fun y hy => by rw [List.mem_singleton.mp hy]; exact ⟨He.cls_ok (c.fact 55 (f := .cls "Net") rfl), He.noat_ok (c.fact 58 (f := .noat "Net" "root") rfl)⟩
  fld_Net_links := fun y hy => by rw [List.mem_singleton.mp hy]; exact ⟨He.cls_ok (c.fact 55 (f := .cls "Net") rfl), He.noat_ok (c.fact 59 (f := .noat "Net" "links") rfl)⟩
  g_Plan := He.glo_ok X G (c.fact 60 (f := .glo "Plan") rfl)
  mk_Plan := He.mkr_ok (c.fact 62 (f := .mkr "Plan") rfl)
  fld_Plan_of_net := fun y hy => by rw [List.mem_singleton.mp hy]; exact ⟨He.cls_ok (c.fact 61 (f := .cls "Plan") rfl), He.noat_ok (c.fact 63 (f := .noat "Plan" "of_net") rfl)⟩
  fld_Plan_by_trees := fun y hy => by rw [List.mem_singleton.mp hy]; exact ⟨He.cls_ok (c.fact 61 (f := .cls "Plan") rfl), He.noat_ok (c.fact 64 (f := .noat "Plan" "by_trees") rfl)⟩
  fld_Plan_of_size := fun y hy => by rw [List.mem_singleton.mp hy]; exact ⟨He.cls_ok (c.fact 61 (f := .cls "Plan") rfl), He.noat_ok (c.fact 65 (f := .noat "Plan" "of_size") rfl)⟩
  fld_Plan_kept_depths := fun y hy => by rw [List.mem_singleton.mp hy]; exact ⟨He.cls_ok (c.fact 61 (f := .cls "Plan") rfl), He.noat_ok (c.fact 66 (f := .noat "Plan" "kept_depths") rfl)⟩
  isok := isOk_of e fun y hy => by
    simp only [List.mem_cons, List.not_mem_nil, or_false] at hy
    rcases hy with rfl | rfl
    · exact He.cls_ok (c.fact 55 (f := .cls "Net") rfl)
    · exact He.cls_ok (c.fact 61 (f := .cls "Plan") rfl)
end W51
open PySem PySem.W PySem.Calls PyProof.Rows
namespace W51
abbrev q : Program := view R.prog [58]
abbrev dl : DefRec := HandSHeadRun.topDef R.prog 58
theorem h_name : dl.name = ("law" : PySem.Str) := by kernel_rfl
theorem h_dfl : dl.params.defaults = [] := by kernel_rfl
theorem walk (main : ∀ ns : List Int, ns.length ≤ 63 → mm_law [.scr (ns.map DL.D.int)] = some (.bl true, [])) :
    PySem.W.WalkO q loose (XL q []) hk.says R.toRowW dl [] (fun f vs => PySem.call f vs) := by
  refine L2.walk_ofE (l := PySem.Challenge.rw_sparetrees_k51_whole_places_stopped_by_l) (n := 63) (k := 12) (x := "_law_script") (CX := L2.CX0) rfl (by decide) h_dfl ⟨rfl, by decide, by decide⟩ ?F (fun _ _ _ _ z => z)
  intro w mg fa h Y G hmg0
  obtain ⟨K, KX, c⟩ := Y
  have hmg : mg ("law" : PySem.Str) = some (.ref fa) := by
    rw [← h_name]
    exact hmg0
  have T := txt_of KX G c.t.d c.more
  obtain ⟨fd, F⟩ := T.f_law
  have e : fa = He.ga K "law" := Value.ref.inj (Option.some.inj (hmg.symm.trans T.g_law))
  subst e
  exact ⟨K, fd, DL.spM (DL.gmOf K) [] [] [.fz] .fz mm_law, KX, bind_law F, fun H a ns hl hO hS => DL.law_sp hO hS (main ns hl), fun base _ _ => fn_law T F⟩
end W51
theorem W51_holds (main : ∀ ns : List Int, ns.length ≤ 63 → W51.mm_law [.scr (ns.map DL.D.int)] = some (.bl true, [])) : PySem.Challenge.rw_sparetrees_k51_whole_places_stopped_by_l.Holds := by
  w_on; o_law
  refine HandSHeadRun.head_any (r := W51.R) (q := W51.q) (H := W51.hk) (ob := W51.ob) (M := 6000) (loose := W51.loose) (d := W51.dl) (kwd := []) W51.ob_eq
    (by kernel_rfl) (fun s => by kernel_rfl) W51.run (by kernel_rfl) (by kernel_rfl) (by kernel_rfl) (by rfl) (by first | assumption | decide +kernel) (by decide +kernel) ⟨rfl, rfl, rfl, rfl, rfl, by decide +kernel⟩ ?hw (W51.walk main)
  case hw => w_witness2

theorem PySem.Challenge.cw_sparetrees_k51_whole_places_stopped_by_l_holds : PySem.Challenge.rw_sparetrees_k51_whole_places_stopped_by_l.Holds :=
  W51_holds fun ns _ => W51.law_ok ns
