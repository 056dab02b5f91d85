import PyProof.Rows.All
import Wide.All
import OpenK.AllK
import Wide.FinOn
import HandS.ForMost
import HandS.More
import HandS.Wide
import HandS.WideBits
import HandS.IsInst
import HandS.CallLocal
import HandS.OwnEq
import HandS.Exc
import HandS.TryOnly
import HandS.RaiseMore
import HandS.StrMore
import HandS.Flow
import HandS.Style
import PySem.Challenge.RW_whosepace_k94_whole_texts_of_all_small_t
set_option Elab.async false
set_option linter.all false
set_option maxRecDepth 100000
set_option maxHeartbeats 4000000
/-! DL: a layer over the hand layer in which a def is walked over plain trees of data: no address is named, but those of cells (what is changed in place). -/
namespace DL
open PySem L2

/-! ### data -/
inductive D where
  | non
  | bl (b : Bool)
  | int (i : Int)
  | str (x : Str)
  | lst (xs : List D)
  | tup (xs : List D)
  | dic (kvs : List (Key × D))
  | ins (C : Addr) (fs : List (Str × D))
  | cell (a : Addr)
  | fro (xs : List D)
  | val (v : V)

def core : HO → HO
  | .frz _ (.dK k) => .dK k
  | .frz _ (.dT k) => .dT k
  | o => o
theorem core_lst {o : HO} {vs : List V} (h : core o = .lst vs) : o = .lst vs := by
  cases o with
  | frz ob u => cases u <;> simp [core] at h
  | _ => simp [core] at h <;> simp [h]
theorem core_tup {o : HO} {vs : List V} (h : core o = .tup vs) : o = .tup vs := by
  cases o with
  | frz ob u => cases u <;> simp [core] at h
  | _ => simp [core] at h <;> simp [h]
theorem core_ins {o : HO} {C dx : Addr} {fs : List (Str × V)} (h : core o = .ins C dx fs) : o = .ins C dx fs := by
  cases o with
  | frz ob u => cases u <;> simp [core] at h
  | _ => simp [core] at h <;> simp [h]
theorem core_frl {o : HO} {ob : Obj} {vs : List V} (h : core o = core (.frz ob (.lst vs))) : o = .frz ob (.lst vs) := by
  cases o with
  | frz ob u => cases u <;> simp [core] at h <;> simp [h]
  | _ => simp [core] at h
/-- what is shared may grow (and be locked) -/
def Ext (A B : Hp) : Prop := ∀ a o, A a = some o → ∃ o', B a = some o' ∧ core o' = core o
theorem Ext.refl (A : Hp) : Ext A A := fun _ o h => ⟨o, h, rfl⟩
theorem Ext.trans {A B C : Hp} (h : Ext A B) (k : Ext B C) : Ext A C := fun a o e => by
  obtain ⟨o1, e1, c1⟩ := h a o e
  obtain ⟨o2, e2, c2⟩ := k a o1 e1
  exact ⟨o2, e2, c2.trans c1⟩
theorem Ext.new {A : Hp} {p : Addr} {o : HO} (h : A p = none) : Ext A (upd A p o) := fun a u e => ⟨u, by rw [upd_ne (ne_of_none e h)]; exact e, rfl⟩
theorem Ext.lst {A B : Hp} (e : Ext A B) {a : Addr} {vs : List V} (h : A a = some (.lst vs)) : B a = some (.lst vs) := by
  obtain ⟨o, h1, h2⟩ := e a _ h
  rw [core_lst h2] at h1; exact h1
theorem Ext.tup {A B : Hp} (e : Ext A B) {a : Addr} {vs : List V} (h : A a = some (.tup vs)) : B a = some (.tup vs) := by
  obtain ⟨o, h1, h2⟩ := e a _ h
  rw [core_tup h2] at h1; exact h1
theorem Ext.ins {A B : Hp} (e : Ext A B) {a C dx : Addr} {fs : List (Str × V)} (h : A a = some (.ins C dx fs)) : B a = some (.ins C dx fs) := by
  obtain ⟨o, h1, h2⟩ := e a _ h
  rw [core_ins h2] at h1; exact h1
theorem Ext.sq {K : PySem.W.Frag} {A B : Hp} (e : Ext A B) {a : Addr} {vs : List V} (h : SqL K A a vs) : SqL K B a vs := by
  rcases h with (h | ⟨o, h⟩) | h
  · exact .inl (.inl (e.lst h))
  · obtain ⟨o', h1, h2⟩ := e a _ h
    rw [core_frl h2] at h1
    exact .inl (.inr ⟨o, h1⟩)
  · exact .inr h

/-! ### a value stands for data -/
mutual
def R (K : PySem.W.Frag) (Hs : Hp) : D → V → Prop
  | .non, v => v = .non
  | .bl b, v => v = .bl b
  | .int i, v => v = .int i
  | .str x, v => v = .str x
  | .lst ds, v => ∃ a vs, v = .ref a ∧ Hs a = some (.lst vs) ∧ RA K Hs ds vs
  | .tup ds, v => ∃ a vs, v = .ref a ∧ Hs a = some (.tup vs) ∧ RA K Hs ds vs
  | .dic kds, v => ∃ a o kvs, v = .ref a ∧ Hs a = some o ∧ core o = .dK kvs ∧ RK K Hs kds kvs
  | .ins C fds, v => ∃ a dx fs, v = .ref a ∧ Hs a = some (.ins C dx fs) ∧ RF K Hs fds fs
  | .cell a, v => v = .ref a
  | .fro ds, v => ∃ a vs, v = .ref a ∧ SqL K Hs a vs ∧ RA K Hs ds vs
  | .val u, v => v = u
def RA (K : PySem.W.Frag) (Hs : Hp) : List D → List V → Prop
  | [], vs => vs = []
  | d :: ds, vs => ∃ v r, vs = v :: r ∧ R K Hs d v ∧ RA K Hs ds r
def RK (K : PySem.W.Frag) (Hs : Hp) : List (Key × D) → List (Key × V) → Prop
  | [], vs => vs = []
  | (k, d) :: ds, vs => ∃ v r, vs = (k, v) :: r ∧ R K Hs d v ∧ RK K Hs ds r
def RF (K : PySem.W.Frag) (Hs : Hp) : List (Str × D) → List (Str × V) → Prop
  | [], vs => vs = []
  | (k, d) :: ds, vs => ∃ v r, vs = (k, v) :: r ∧ R K Hs d v ∧ RF K Hs ds r
end
section
variable {K : PySem.W.Frag} {A B : Hp}
mutual
theorem R.ext (e : Ext A B) : ∀ (d : D) (v : V), R K A d v → R K B d v
  | .non, v, h => h
  | .bl b, v, h => h
  | .int i, v, h => h
  | .str x, v, h => h
  | .lst ds, v, h => by
    simp only [R] at h ⊢
    obtain ⟨a, vs, h1, h2, h3⟩ := h
    exact ⟨a, vs, h1, e.lst h2, RA.ext e ds vs h3⟩
  | .tup ds, v, h => by
    simp only [R] at h ⊢
    obtain ⟨a, vs, h1, h2, h3⟩ := h
    exact ⟨a, vs, h1, e.tup h2, RA.ext e ds vs h3⟩
  | .dic kds, v, h => by
    simp only [R] at h ⊢
    obtain ⟨a, o, kvs, h1, h2, h3, h4⟩ := h
    obtain ⟨o', q1, q2⟩ := e a o h2
    exact ⟨a, o', kvs, h1, q1, q2.trans h3, RK.ext e kds kvs h4⟩
  | .ins C fds, v, h => by
    simp only [R] at h ⊢
    obtain ⟨a, dx, fs, h1, h2, h3⟩ := h
    exact ⟨a, dx, fs, h1, e.ins h2, RF.ext e fds fs h3⟩
  | .cell a, v, h => h
  | .fro ds, v, h => by
    simp only [R] at h ⊢
    obtain ⟨a, vs, h1, h2, h3⟩ := h
    exact ⟨a, vs, h1, e.sq h2, RA.ext e ds vs h3⟩
  | .val u, v, h => h
theorem RA.ext (e : Ext A B) : ∀ (ds : List D) (vs : List V), RA K A ds vs → RA K B ds vs
  | [], vs, h => h
  | d :: ds, vs, h => by
    simp only [RA] at h ⊢
    obtain ⟨v, r, h1, h2, h3⟩ := h
    exact ⟨v, r, h1, R.ext e d v h2, RA.ext e ds r h3⟩
theorem RK.ext (e : Ext A B) : ∀ (ds : List (Key × D)) (vs : List (Key × V)), RK K A ds vs → RK K B ds vs
  | [], vs, h => h
  | (k, d) :: ds, vs, h => by
    simp only [RK] at h ⊢
    obtain ⟨v, r, h1, h2, h3⟩ := h
    exact ⟨v, r, h1, R.ext e d v h2, RK.ext e ds r h3⟩
theorem RF.ext (e : Ext A B) : ∀ (ds : List (Str × D)) (vs : List (Str × V)), RF K A ds vs → RF K B ds vs
  | [], vs, h => h
  | (k, d) :: ds, vs, h => by
    simp only [RF] at h ⊢
    obtain ⟨v, r, h1, h2, h3⟩ := h
    exact ⟨v, r, h1, R.ext e d v h2, RF.ext e ds r h3⟩
end
end

/-! ### lists of data -/
section
variable {K : PySem.W.Frag} {A : Hp}
theorem R_bl {b : Bool} : R K A (.bl b) (.bl b) := by simp only [R]
theorem R_int {i : Int} : R K A (.int i) (.int i) := by simp only [R]
theorem R_str {x : Str} : R K A (.str x) (.str x) := by simp only [R]
theorem R_non : R K A .non .non := by simp only [R]
theorem RA.nil : RA K A [] [] := by simp only [RA]
theorem RA.cons {d : D} {v : V} {ds : List D} {vs : List V} (h : R K A d v) (r : RA K A ds vs) : RA K A (d :: ds) (v :: vs) := by
  simp only [RA]
  exact ⟨v, vs, rfl, h, r⟩
theorem RA.len : ∀ {ds : List D} {vs : List V}, RA K A ds vs → vs.length = ds.length
  | [], vs, h => by simp only [RA] at h; rw [h]; rfl
  | d :: ds, vs, h => by
    simp only [RA] at h
    obtain ⟨v, r, rfl, _, h3⟩ := h
    simp [RA.len h3]
theorem RA.get : ∀ {ds : List D} {vs : List V} {i : Nat} {d : D}, RA K A ds vs → ds[i]? = some d → ∃ v, vs[i]? = some v ∧ R K A d v
  | [], vs, i, d, h, e => by simp at e
  | x :: ds, vs, 0, d, h, e => by
    simp only [RA] at h
    obtain ⟨v, r, rfl, h2, h3⟩ := h
    simp at e; subst e
    exact ⟨v, rfl, h2⟩
  | x :: ds, vs, i + 1, d, h, e => by
    simp only [RA] at h
    obtain ⟨v, r, rfl, h2, h3⟩ := h
    obtain ⟨w, q1, q2⟩ := RA.get (i := i) (d := d) h3 (by simpa using e)
    exact ⟨w, by simpa using q1, q2⟩
theorem RA.getV : ∀ {ds : List D} {vs : List V} {i : Nat} {v : V}, RA K A ds vs → vs[i]? = some v → ∃ d, ds[i]? = some d ∧ R K A d v
  | [], vs, i, d, h, e => by simp only [RA] at h; subst h; simp at e
  | x :: ds, vs, 0, d, h, e => by
    simp only [RA] at h
    obtain ⟨v, r, rfl, h2, h3⟩ := h
    simp at e; subst e
    exact ⟨x, rfl, h2⟩
  | x :: ds, vs, i + 1, d, h, e => by
    simp only [RA] at h
    obtain ⟨v, r, rfl, h2, h3⟩ := h
    obtain ⟨w, q1, q2⟩ := RA.getV (i := i) h3 (by simpa using e)
    exact ⟨w, by simpa using q1, q2⟩
theorem RA.append : ∀ {ds es : List D} {vs ws : List V}, RA K A ds vs → RA K A es ws → RA K A (ds ++ es) (vs ++ ws)
  | [], es, vs, ws, h, k => by simp only [RA] at h; subst h; exact k
  | d :: ds, es, vs, ws, h, k => by
    simp only [RA] at h
    obtain ⟨v, r, rfl, h2, h3⟩ := h
    exact RA.cons h2 (RA.append h3 k)
theorem RA.take : ∀ {ds : List D} {vs : List V} (n : Nat), RA K A ds vs → RA K A (ds.take n) (vs.take n)
  | [], vs, n, h => by simp only [RA] at h; subst h; simp [RA]
  | d :: ds, vs, 0, h => by simp [RA]
  | d :: ds, vs, n + 1, h => by
    simp only [RA] at h
    obtain ⟨v, r, rfl, h2, h3⟩ := h
    exact RA.cons h2 (RA.take n h3)
theorem RA.drop : ∀ {ds : List D} {vs : List V} (n : Nat), RA K A ds vs → RA K A (ds.drop n) (vs.drop n)
  | [], vs, n, h => by simp only [RA] at h; subst h; simp [RA]
  | d :: ds, vs, 0, h => h
  | d :: ds, vs, n + 1, h => by
    simp only [RA] at h
    obtain ⟨v, r, rfl, h2, h3⟩ := h
    exact RA.drop n h3
theorem RA.set : ∀ {ds : List D} {vs : List V} {d : D} {v : V} (n : Nat), RA K A ds vs → R K A d v → RA K A (ds.set n d) (vs.set n v)
  | [], vs, d, v, n, h, k => by simp only [RA] at h; subst h; simp [RA]
  | x :: ds, vs, d, v, 0, h, k => by
    simp only [RA] at h
    obtain ⟨w, r, rfl, h2, h3⟩ := h
    exact RA.cons k h3
  | x :: ds, vs, d, v, n + 1, h, k => by
    simp only [RA] at h
    obtain ⟨w, r, rfl, h2, h3⟩ := h
    exact RA.cons h2 (RA.set n h3 k)
theorem RA.rev : ∀ {ds : List D} {vs : List V}, RA K A ds vs → RA K A ds.reverse vs.reverse
  | [], vs, h => by simp only [RA] at h; subst h; simp [RA]
  | x :: ds, vs, h => by
    simp only [RA] at h
    obtain ⟨w, r, rfl, h2, h3⟩ := h
    rw [List.reverse_cons, List.reverse_cons]
    exact RA.append (RA.rev h3) (RA.cons h2 RA.nil)
/-- lists of texts, of ints -/
theorem RA.strs : ∀ {xs : List Str} {vs : List V}, RA K A (xs.map D.str) vs → vs = xs.map V.str
  | [], vs, h => by simpa [RA] using h
  | x :: xs, vs, h => by
    simp only [List.map_cons, RA, R] at h
    obtain ⟨v, r, rfl, rfl, h3⟩ := h
    rw [RA.strs h3]; rfl
theorem RA.of_strs : ∀ (xs : List Str), RA K A (xs.map D.str) (xs.map V.str)
  | [] => by simp [RA]
  | x :: xs => RA.cons (by simp [R]) (RA.of_strs xs)
theorem RA.ints : ∀ {xs : List Int} {vs : List V}, RA K A (xs.map D.int) vs → vs = xs.map V.int
  | [], vs, h => by simpa [RA] using h
  | x :: xs, vs, h => by
    simp only [List.map_cons, RA, R] at h
    obtain ⟨v, r, rfl, rfl, h3⟩ := h
    rw [RA.ints h3]; rfl
theorem RA.of_ints : ∀ (xs : List Int), RA K A (xs.map D.int) (xs.map V.int)
  | [] => by simp [RA]
  | x :: xs => RA.cons (by simp [R]) (RA.of_ints xs)
end

/-! ### cells -/
inductive Cell where
  | lst (ds : List D)
  | dic (kvs : List (Key × D))
  | ins (C : Addr) (fs : List (Str × D))
  | inv (P : List V → Prop)
abbrev Cells := Addr → Option Cell
def cset (C : Cells) (a : Addr) (c : Cell) : Cells := fun b => if b = a then some c else C b
def cdel (C : Cells) (a : Addr) : Cells := fun b => if b = a then none else C b
theorem cset_same {C : Cells} {a : Addr} {c : Cell} : cset C a c a = some c := by simp [cset]
theorem cset_ne {C : Cells} {a b : Addr} {c : Cell} (h : b ≠ a) : cset C a c b = C b := by simp [cset, h]
theorem cset_cset {C : Cells} {a : Addr} {c d : Cell} : cset (cset C a c) a d = cset C a d := by
  funext b; unfold cset; split <;> rfl
def Sub (C C' : Cells) : Prop := ∀ a c, C a = some c → C' a = some c
theorem Sub.refl (C : Cells) : Sub C C := fun _ _ h => h
theorem Sub.trans {A B C : Cells} (h : Sub A B) (k : Sub B C) : Sub A C := fun a c e => k a c (h a c e)
theorem Sub.cset {C C' : Cells} {a : Addr} {c : Cell} (h : Sub C C') (n : C a = none) : Sub C (cset C' a c) := fun b d e => by
  have : b ≠ a := fun z => by rw [z, n] at e; cases e
  rw [cset_ne this]; exact h b d e
theorem Sub.cdel {C C' : Cells} {a : Addr} (h : Sub C C') (n : C a = none) : Sub C (cdel C' a) := fun b d e => by
  have : b ≠ a := fun z => by rw [z, n] at e; cases e
  unfold DL.cdel; rw [if_neg this]; exact h b d e
theorem Sub.cset_same {C C' : Cells} {a : Addr} {c : Cell} (h : Sub C C') : Sub (DL.cset C a c) (DL.cset C' a c) := fun b d e => by
  unfold DL.cset at e ⊢
  split
  · rename_i q; rw [if_pos q] at e; exact e
  · rename_i q; rw [if_neg q] at e; exact h b d e

def CellOk (K : PySem.W.Frag) (Hs H : Hp) (a : Addr) : Cell → Prop
  | .lst ds => ∃ vs, H a = some (.lst vs) ∧ RA K Hs ds vs
  | .dic kds => ∃ kvs, H a = some (.dK kvs) ∧ RK K Hs kds kvs
  | .ins C fds => ∃ dx fs, H a = some (.ins C dx fs) ∧ RF K Hs fds fs
  | .inv P => ∃ vs, H a = some (.lst vs) ∧ P vs
structure W where
  hs : Hp
  c : Cells
  h : Hp
structure Ok (K : PySem.W.Frag) (S : W) : Prop where
  le : ∀ a o, S.hs a = some o → S.h a = some o
  cell : ∀ a c, S.c a = some c → S.hs a = none ∧ CellOk K S.hs S.h a c
/-- from S to S': what is shared grows, what is neither shared nor a cell stays -/
structure Step (K : PySem.W.Frag) (S S' : W) : Prop where
  ext : Ext S.hs S'.hs
  fr : ∀ b o, S.h b = some o → S.hs b = none → S.c b = none → S'.h b = some o ∧ S'.hs b = none ∧ S'.c b = none
  ok : Ok K S'
section
variable {K : PySem.W.Frag} {S S' S2 : W} {Hs Hs' H H' : Hp} {C C' : Cells} {a : Addr} {o : HO} {c : Cell}
theorem Step.refl (k : Ok K S) : Step K S S := ⟨Ext.refl _, fun _ _ h1 h2 h3 => ⟨h1, h2, h3⟩, k⟩
theorem Step.trans (s : Step K S S') (t : Step K S' S2) : Step K S S2 := ⟨s.ext.trans t.ext, fun b o h1 h2 h3 => by
  obtain ⟨q1, q2, q3⟩ := s.fr b o h1 h2 h3
  exact t.fr b o q1 q2 q3, t.ok⟩
theorem CellOk.there (h : CellOk K Hs H a c) : ∃ o, H a = some o := by
  cases c with
  | lst ds => obtain ⟨vs, e, _⟩ := h; exact ⟨_, e⟩
  | dic ds => obtain ⟨vs, e, _⟩ := h; exact ⟨_, e⟩
  | ins C ds => obtain ⟨_, vs, e, _⟩ := h; exact ⟨_, e⟩
  | inv P => obtain ⟨vs, e, _⟩ := h; exact ⟨_, e⟩
theorem CellOk.move (h : CellOk K Hs H a c) (e : Ext Hs Hs') (k : H' a = H a) : CellOk K Hs' H' a c := by
  cases c with
  | lst ds => obtain ⟨vs, q, r⟩ := h; exact ⟨vs, k.trans q, RA.ext e _ _ r⟩
  | dic ds => obtain ⟨vs, q, r⟩ := h; exact ⟨vs, k.trans q, RK.ext e _ _ r⟩
  | ins C ds => obtain ⟨dx, vs, q, r⟩ := h; exact ⟨dx, vs, k.trans q, RF.ext e _ _ r⟩
  | inv P => obtain ⟨vs, q, r⟩ := h; exact ⟨vs, k.trans q, r⟩
theorem Ok.fresh (r : Ok K S) (n : S.h a = none) : S.hs a = none := by
  cases q : S.hs a with
  | none => rfl
  | some o => rw [r.le a o q] at n; cases n
theorem Ok.freshC (r : Ok K S) (n : S.h a = none) : S.c a = none := by
  cases q : S.c a with
  | none => rfl
  | some c => obtain ⟨_, k⟩ := r.cell a c q; obtain ⟨o, e⟩ := k.there; rw [e] at n; cases n
theorem Ok.sub (r : Ok K S) (s : Sub C S.c) : Step K S ⟨S.hs, C, S.h⟩ := by
  refine ⟨Ext.refl _, fun b o h1 h2 h3 => ⟨h1, h2, ?_⟩, ⟨r.le, fun a c e => r.cell a c (s a c e)⟩⟩
  show C b = none
  cases q : C b with
  | none => rfl
  | some c => rw [s b c q] at h3; cases h3
/-- a new shared object -/
theorem Ok.new (r : Ok K S) (n : S.h a = none) : Step K S ⟨upd S.hs a o, S.c, upd S.h a o⟩ := by
  refine ⟨Ext.new (r.fresh n), fun b u h1 h2 h3 => ?_, ⟨fun b u e => ?_, fun b c e => ?_⟩⟩
  · have hb : b ≠ a := ne_of_none h1 n
    exact ⟨(upd_ne hb).trans h1, (upd_ne hb).trans h2, h3⟩
  · show upd S.h a o b = some u
    have e' : upd S.hs a o b = some u := e
    by_cases hb : b = a
    · subst hb; rw [upd_same] at e' ⊢; exact e'
    · rw [upd_ne hb] at e' ⊢; exact r.le b u e'
  · have hb : b ≠ a := fun z => by rw [z, r.freshC n] at e; cases e
    obtain ⟨k1, k2⟩ := r.cell b c e
    exact ⟨by show upd S.hs a o b = none; rw [upd_ne hb]; exact k1, k2.move (Ext.new (r.fresh n)) (upd_ne hb)⟩
/-- a new cell -/
theorem Ok.newC (r : Ok K S) (n : S.h a = none) (k : CellOk K S.hs (upd S.h a o) a c) : Step K S ⟨S.hs, cset S.c a c, upd S.h a o⟩ := by
  have n' := r.fresh n
  refine ⟨Ext.refl _, fun b u h1 h2 h3 => ?_, ⟨fun b u e => ?_, fun b d e => ?_⟩⟩
  · have hb : b ≠ a := ne_of_none h1 n
    exact ⟨(upd_ne hb).trans h1, h2, by show cset S.c a c b = none; rw [cset_ne hb]; exact h3⟩
  · show upd S.h a o b = some u
    rw [upd_ne (ne_of_none e n')]; exact r.le b u e
  · have e' : cset S.c a c b = some d := e
    by_cases hb : b = a
    · subst hb; rw [cset_same] at e'; cases e'; exact ⟨n', k⟩
    · rw [cset_ne hb] at e'
      obtain ⟨k1, k2⟩ := r.cell b d e'
      exact ⟨k1, k2.move (Ext.refl _) (upd_ne hb)⟩
/-- a cell is changed -/
theorem Ok.setC {c0 : Cell} (r : Ok K S) (e0 : S.c a = some c0) (k : CellOk K S.hs (upd S.h a o) a c) : Step K S ⟨S.hs, cset S.c a c, upd S.h a o⟩ := by
  obtain ⟨n', _⟩ := r.cell a c0 e0
  refine ⟨Ext.refl _, fun b u h1 h2 h3 => ?_, ⟨fun b u e => ?_, fun b d e => ?_⟩⟩
  · have hb : b ≠ a := fun z => by rw [z, e0] at h3; cases h3
    exact ⟨(upd_ne hb).trans h1, h2, by show cset S.c a c b = none; rw [cset_ne hb]; exact h3⟩
  · show upd S.h a o b = some u
    rw [upd_ne (ne_of_none e n')]; exact r.le b u e
  · have e' : cset S.c a c b = some d := e
    by_cases hb : b = a
    · subst hb; rw [cset_same] at e'; cases e'; exact ⟨n', k⟩
    · rw [cset_ne hb] at e'
      obtain ⟨k1, k2⟩ := r.cell b d e'
      exact ⟨k1, k2.move (Ext.refl _) (upd_ne hb)⟩
/-- a cell of which an invariant is told is changed within it -/
theorem Ok.setI {P : List V → Prop} {vs : List V} (r : Ok K S) (e0 : S.c a = some (.inv P)) (k : P vs) : Step K S ⟨S.hs, S.c, upd S.h a (.lst vs)⟩ := by
  have h := r.setC (o := .lst vs) (c := .inv P) e0 ⟨vs, upd_same, k⟩
  have e : cset S.c a (.inv P) = S.c := by
    funext b
    unfold cset
    split
    · rename_i q; rw [q, e0]
    · rfl
  rw [e] at h
  exact h
/-- a cell is shared from now on -/
theorem Ok.share (r : Ok K S) (e0 : S.c a = some c) (e : S.h a = some o) : Step K S ⟨upd S.hs a o, cdel S.c a, S.h⟩ := by
  obtain ⟨n', _⟩ := r.cell a c e0
  refine ⟨Ext.new n', fun b u h1 h2 h3 => ?_, ⟨fun b u q => ?_, fun b d q => ?_⟩⟩
  · have hb : b ≠ a := fun z => by rw [z, e0] at h3; cases h3
    refine ⟨h1, by show upd S.hs a o b = none; rw [upd_ne hb]; exact h2, ?_⟩
    show cdel S.c a b = none
    unfold cdel; rw [if_neg hb]; exact h3
  · have q' : upd S.hs a o b = some u := q
    by_cases hb : b = a
    · subst hb; rw [upd_same] at q'; cases q'; exact e
    · rw [upd_ne hb] at q'; exact r.le b u q'
  · have q' : cdel S.c a b = some d := q
    unfold cdel at q'
    by_cases hb : b = a
    · rw [if_pos hb] at q'; cases q'
    · rw [if_neg hb] at q'
      obtain ⟨k1, k2⟩ := r.cell b d q'
      exact ⟨by show upd S.hs a o b = none; rw [upd_ne hb]; exact k1, k2.move (Ext.new n') rfl⟩
/-- something that is neither shared nor a cell is changed -/
theorem Ok.other (r : Ok K S) (n1 : S.hs a = none) (n2 : S.c a = none) : Ok K ⟨S.hs, S.c, upd S.h a o⟩ := by
  refine ⟨fun b u e => ?_, fun b d e => ?_⟩
  · show upd S.h a o b = some u
    rw [upd_ne (ne_of_none e n1)]; exact r.le b u e
  · have hb : b ≠ a := fun z => by
      have e' : S.c b = some d := e
      rw [z, n2] at e'; cases e'
    obtain ⟨k1, k2⟩ := r.cell b d e
    exact ⟨k1, k2.move (Ext.refl _) (upd_ne hb)⟩
end

/-! ### what is told of cells may change without a step of the program -/
def Gh (C C' : Cells) : Prop := ∀ (K : PySem.W.Frag) (S : W), Ok K S → S.c = C → Step K S ⟨S.hs, C', S.h⟩
theorem Gh.refl (C : Cells) : Gh C C := fun K S ok e => by
  subst e
  exact Step.refl ok
theorem Gh.sub {C C' : Cells} (h : Sub C' C) : Gh C C' := fun K S ok e => ok.sub (by rw [e]; exact h)
theorem Gh.trans {A B C : Cells} (h : Gh A B) (k : Gh B C) : Gh A C := fun K S ok e => by
  have s1 := h K S ok e
  exact s1.trans (k K _ s1.ok rfl)
/-- a list's cell of which an invariant is told from here on -/
theorem Gh.close {C : Cells} {a : Addr} {xs : List D} {P : List V → Prop} (e : C a = some (.lst xs)) (h : ∀ K Hs vs, RA K Hs xs vs → P vs) : Gh C (cset C a (.inv P)) := fun K S ok ec => by
  subst ec
  obtain ⟨n', vs, h1, h2⟩ := ok.cell a _ e
  refine ⟨Ext.refl _, fun b u g1 g2 g3 => ⟨g1, g2, ?_⟩, ⟨ok.le, fun b d g => ?_⟩⟩
  · have hb : b ≠ a := fun z => by rw [z, e] at g3; cases g3
    exact (cset_ne hb).trans g3
  · have g' : cset S.c a (.inv P) b = some d := g
    by_cases hb : b = a
    · subst hb; rw [cset_same] at g'; cases g'; exact ⟨n', vs, h1, h K _ _ h2⟩
    · rw [cset_ne hb] at g'; exact ok.cell b d g'
theorem Ok.gh {K : PySem.W.Frag} {S : W} {C : Cells} (ok : Ok K S) (h : Gh S.c C) : Step K S ⟨S.hs, C, S.h⟩ := h K S ok rfl

/-! ### the names' data -/
abbrev Env := List (Option D)
def slot : Env → Nat → Option D
  | [], _ => none
  | x :: _, 0 => x
  | _ :: r, i + 1 => slot r i
theorem slot_eq : ∀ (ρ : Env) (i : Nat) (d : D), slot ρ i = some d ↔ ρ[i]? = some (some d)
  | [], i, d => by simp [slot]
  | x :: r, 0, d => by simp [slot]
  | x :: r, i + 1, d => by simp [slot, slot_eq r i d]
structure Sl (K : PySem.W.Frag) (Hs : Hp) (σ : St) (ρ : Env) : Prop where
  len : σ.length = ρ.length
  get : ∀ (i : Nat) (d : D), ρ[i]? = some (some d) → ∃ v, σ[i]? = some (some v) ∧ R K Hs d v
section
variable {K : PySem.W.Frag} {Hs Hs' : Hp} {σ : St} {ρ : Env}
theorem Sl.ext (s : Sl K Hs σ ρ) (e : Ext Hs Hs') : Sl K Hs' σ ρ := ⟨s.len, fun i d h => let ⟨v, h1, h2⟩ := s.get i d h; ⟨v, h1, R.ext e d v h2⟩⟩
theorem Sl.set (s : Sl K Hs σ ρ) {i : Nat} {d : D} {v : V} (h : R K Hs d v) : Sl K Hs (σ.set i (some v)) (ρ.set i (some d)) := by
  refine ⟨by simpa using s.len, fun j e q => ?_⟩
  by_cases hj : i = j
  · subst hj
    have hi : i < ρ.length := by
      have := (List.getElem?_eq_some_iff.mp q).1
      simpa using this
    rw [List.getElem?_set_self hi] at q
    cases q
    exact ⟨v, List.getElem?_set_self (by rw [s.len]; exact hi), h⟩
  · rw [List.getElem?_set_ne hj] at q
    obtain ⟨w, h1, h2⟩ := s.get j e q
    exact ⟨w, by rw [List.getElem?_set_ne hj]; exact h1, h2⟩
/-- another word for a slot's data -/
theorem Sl.reword (s : Sl K Hs σ ρ) {i : Nat} {d : D} (h : ∀ v, σ[i]? = some (some v) → R K Hs d v) (h2 : ∃ e, ρ[i]? = some (some e)) : Sl K Hs σ (ρ.set i (some d)) := by
  refine ⟨by simpa using s.len, fun j e q => ?_⟩
  by_cases hj : i = j
  · subst hj
    obtain ⟨e0, h2⟩ := h2
    obtain ⟨v, h3, _⟩ := s.get i e0 h2
    have hi : i < ρ.length := (List.getElem?_eq_some_iff.mp h2).1
    rw [List.getElem?_set_self hi] at q
    cases q
    exact ⟨v, h3, h v h3⟩
  · rw [List.getElem?_set_ne hj] at q
    exact s.get j e q
/-- the second has all that the first tells -/
def Fg : Env → Env → Prop
  | [], [] => True
  | none :: r, _ :: s => Fg r s
  | some d :: r, y :: s => y = some d ∧ Fg r s
  | _, _ => False
theorem Fg.spec : ∀ {ρ ρ' : Env}, Fg ρ ρ' → ρ.length = ρ'.length ∧ ∀ (i : Nat) d, ρ[i]? = some (some d) → ρ'[i]? = some (some d)
  | [], [], _ => ⟨rfl, fun i d h => by simp at h⟩
  | none :: r, y :: s, h => by
    obtain ⟨h1, h2⟩ := Fg.spec (ρ := r) (ρ' := s) h
    refine ⟨by simp [h1], fun i d q => ?_⟩
    cases i with
    | zero => simp at q
    | succ i => simpa using h2 i d (by simpa using q)
  | some d :: r, y :: s, h => by
    obtain ⟨h0, h⟩ := h
    obtain ⟨h1, h2⟩ := Fg.spec (ρ := r) (ρ' := s) h
    refine ⟨by simp [h1], fun i d q => ?_⟩
    cases i with
    | zero => subst h0; simpa using q
    | succ i => simpa using h2 i d (by simpa using q)
  | [], _ :: _, h => h.elim
  | none :: _, [], h => h.elim
  | some _ :: _, [], h => h.elim
theorem Fg.refl : ∀ ρ : Env, Fg ρ ρ
  | [] => trivial
  | none :: r => Fg.refl r
  | some d :: r => ⟨rfl, Fg.refl r⟩
theorem Sl.fg {ρ' : Env} (s : Sl K Hs σ ρ') (h : Fg ρ ρ') : Sl K Hs σ ρ := by
  obtain ⟨h1, h2⟩ := h.spec
  exact ⟨s.len.trans h1.symm, fun i d q => s.get i d (h2 i d q)⟩
end
end DL

set_option Elab.async false
set_option linter.all false
set_option maxRecDepth 100000
set_option maxHeartbeats 4000000
namespace DL
open PySem L2

/-! ### readings over data -/
abbrev DK := D → Cells → Prop
abbrev DT := Env → Cells → DK → Prop
abbrev DB := Env → Cells → (Bool → Cells → Prop) → Prop
abbrev DA := Env → Cells → (List D → Cells → Prop) → Prop
structure DEnds where
  nx : Env → Cells → Prop
  rt : DK
  bk : Env → Cells → Prop := fun _ _ => False
  ct : Env → Cells → Prop := fun _ _ => False
abbrev DS := DEnds → Env → Cells → Prop

/-- what is wanted behind S -/
def Wish (K : PySem.W.Frag) (S : W) (P : DK) (Q : VK) : Prop := ∀ v d S', Step K S S' → R K S'.hs d v → P d S'.c → Q v S'.h
def WishB (K : PySem.W.Frag) (S : W) (P : Bool → Cells → Prop) (Q : Bool → Hp → Prop) : Prop := ∀ b S', Step K S S' → P b S'.c → Q b S'.h
def WishA (K : PySem.W.Frag) (S : W) (P : List D → Cells → Prop) (Q : List V → Hp → Prop) : Prop := ∀ vs ds S', Step K S S' → RA K S'.hs ds vs → P ds S'.c → Q vs S'.h
def WishN (K : PySem.W.Frag) (S : W) (P : Env → Cells → Prop) (Q : St → Hp → Prop) : Prop := ∀ ρ' σ' S', Step K S S' → Sl K S'.hs σ' ρ' → P ρ' S'.c → Q σ' S'.h
structure EndsOk (K : PySem.W.Frag) (S : W) (D : DEnds) (E : Ends) : Prop where
  nx : WishN K S D.nx E.nx
  rt : Wish K S D.rt E.rt
  bk : WishN K S D.bk E.bk
  ct : WishN K S D.ct E.ct
section
variable {K : PySem.W.Frag} {S S' : W}
theorem Wish.st {P : DK} {Q : VK} (w : Wish K S P Q) (e : Step K S S') : Wish K S' P Q := fun v d S2 x => w v d S2 (e.trans x)
theorem WishB.st {P : Bool → Cells → Prop} {Q : Bool → Hp → Prop} (w : WishB K S P Q) (e : Step K S S') : WishB K S' P Q := fun b S2 x => w b S2 (e.trans x)
theorem WishA.st {P : List D → Cells → Prop} {Q : List V → Hp → Prop} (w : WishA K S P Q) (e : Step K S S') : WishA K S' P Q := fun v d S2 x => w v d S2 (e.trans x)
theorem WishN.st {P : Env → Cells → Prop} {Q : St → Hp → Prop} (w : WishN K S P Q) (e : Step K S S') : WishN K S' P Q := fun a b S2 x => w a b S2 (e.trans x)
theorem EndsOk.st {D : DEnds} {E : Ends} (w : EndsOk K S D E) (e : Step K S S') : EndsOk K S' D E := ⟨w.nx.st e, w.rt.st e, w.bk.st e, w.ct.st e⟩
end

structure LE (K : PySem.W.Frag) (t : DT) (σ : St) (Q : VK) (S : W) : Prop where
  ex : ∃ ρ P, Sl K S.hs σ ρ ∧ Ok K S ∧ t ρ S.c P ∧ Wish K S P Q
def liftE (K : PySem.W.Frag) (t : DT) : TE := fun σ H Q => ∃ ρ S P, S.h = H ∧ Sl K S.hs σ ρ ∧ Ok K S ∧ t ρ S.c P ∧ Wish K S P Q
def liftB (K : PySem.W.Frag) (t : DB) : TT := fun σ H Q => ∃ ρ S P, S.h = H ∧ Sl K S.hs σ ρ ∧ Ok K S ∧ t ρ S.c P ∧ WishB K S P Q
def liftA (K : PySem.W.Frag) (t : DA) : TA := fun σ H Q => ∃ ρ S P, S.h = H ∧ Sl K S.hs σ ρ ∧ Ok K S ∧ t ρ S.c P ∧ WishA K S P Q
def liftS (K : PySem.W.Frag) (t : DS) : TS := fun E σ H => ∃ ρ S D, S.h = H ∧ Sl K S.hs σ ρ ∧ Ok K S ∧ t D ρ S.c ∧ EndsOk K S D E

def DE (X : Cx) (e : Expr) (t : DT) : Prop := PE X e (liftE X.K t)
def DC (X : Cx) (e : Expr) (t : DB) : Prop := PT X e (liftB X.K t)
def DCW (X : Cx) (e : Expr) (t : DB) : Prop := PW X e (liftB X.K t)
def DAs (X : Cx) (es : List Expr) (t : DA) : Prop := PA X es (liftA X.K t)
def DSt (X : Cx) (st : Stmt) (t : DS) : Prop := PS X st (liftS X.K t)
def DSs (X : Cx) (st : List Stmt) (t : DS) : Prop := PSs X st (liftS X.K t)

theorem pe_weak {X : Cx} {e : Expr} {t t' : TE} (h : PE X e t) (w : ∀ σ H Q, t' σ H Q → t σ H Q) : PE X e t' := ⟨fun pins s σ H Q I q => h.run pins s σ H Q I (w σ H Q q)⟩
theorem pt_weak {X : Cx} {e : Expr} {t t' : TT} (h : PT X e t) (w : ∀ σ H Q, t' σ H Q → t σ H Q) : PT X e t' := ⟨fun pins s σ H Q I q => h.run pins s σ H Q I (w σ H Q q)⟩
theorem pw_weak {X : Cx} {e : Expr} {t t' : TT} (h : PW X e t) (w : ∀ σ H Q, t' σ H Q → t σ H Q) : PW X e t' := ⟨fun wh pins s σ H Q I q => h.run wh pins s σ H Q I (w σ H Q q)⟩
theorem pa_weak {X : Cx} {e : List Expr} {t t' : TA} (h : PA X e t) (w : ∀ σ H Q, t' σ H Q → t σ H Q) : PA X e t' := ⟨fun pos pins s σ H Q I q => h.run pos pins s σ H Q I (w σ H Q q)⟩
theorem ps_weak {X : Cx} {e : Stmt} {t t' : TS} (h : PS X e t) (w : ∀ E σ H, t' E σ H → t E σ H) : PS X e t' := ⟨fun pins s σ H Q I q => h.run pins s σ H Q I (w Q σ H q)⟩
theorem pss_weak {X : Cx} {e : List Stmt} {t t' : TS} (h : PSs X e t) (w : ∀ E σ H, t' E σ H → t E σ H) : PSs X e t' := ⟨fun pins s σ H Q I q => h.run pins s σ H Q I (w Q σ H q)⟩

/-! ### names, constants -/
def dVar (i : Nat) : DT := fun ρ C P => match slot ρ i with
  | some d => P d C
  | none => False
def dC (d : D) : DT := fun _ C P => P d C
section
variable {X : Cx} {pos : Pos}
theorem dv (i : Nat) {x : Str} (hN : X.N[i]? = some x := by rfl) (hv : Vis X.env.scope x := by first | exact Or.inl rfl | exact Or.inr (Or.inl rfl) | exact Or.inr (Or.inr rfl)) (hd : (x == ("__debug__" : Str)) = false := by decide)
    (hcd : (x == ("__classdict__" : Str)) = false := by decide) : DE X (.Name x pos) (dVar i) := by
  refine pe_weak (pe_var hN hv hd hcd) fun σ H Q h => ?_
  obtain ⟨ρ, S, P, rfl, s, r, t, w⟩ := h
  unfold dVar at t
  split at t
  · rename_i d e
    obtain ⟨v, h1, h2⟩ := s.get i d ((slot_eq ρ i d).mp e)
    exact ⟨v, h1, w v d S (.refl r) h2 t⟩
  · exact t.elim
theorem lift_c {K : PySem.W.Frag} {d : D} {v : V} (h : ∀ Hs, R K Hs d v) {σ : St} {H : Hp} {Q : VK} (q : liftE K (dC d) σ H Q) : Q v H := by
  obtain ⟨ρ, S, P, rfl, s, r, t, w⟩ := q
  exact w v d S (.refl r) (h _) t
theorem dc_int {i j} : DE X (.Constant (.int i) j pos) (dC (.int i)) := pe_weak pe_int fun σ H Q h => lift_c (v := .int i) (fun _ => by simp [R]) h
theorem dc_bl {b j} : DE X (.Constant (.bool b) j pos) (dC (.bl b)) := pe_weak pe_bl fun σ H Q h => lift_c (v := .bl b) (fun _ => by simp [R]) h
theorem dc_non {j} : DE X (.Constant .none j pos) (dC .non) := pe_weak pe_non fun σ H Q h => lift_c (v := .non) (fun _ => by simp [R]) h
theorem dc_str {x j} : DE X (.Constant (.str x) j pos) (dC (.str x)) := pe_weak pe_str fun σ H Q h => lift_c (v := .str x) (fun _ => by simp [R]) h
/-- a module's text -/
theorem dg_str {x y : Str} (hm : ∃ t, X.mg x = some (.str y t)) (hg : Gl X x := by rfl) (hd : (x == ("__debug__" : Str)) = false := by decide) : DE X (.Name x pos) (dC (.str y)) :=
  let ⟨_, hm⟩ := hm
  pe_weak (pe_glob (v := .str y) hg hm ⟨_, rfl⟩ hd) fun σ H Q h => lift_c (v := .str y) (fun _ => by simp [R]) h
/-- a def, a class of the module -/
theorem dg_ref {x : Str} {a : Addr} (hm : X.mg x = some (.ref a)) (hg : Gl X x := by rfl) (hd : (x == ("__debug__" : Str)) = false := by decide) : DE X (.Name x pos) (dC (.val (.ref a))) :=
  pe_weak (pe_glob (v := .ref a) hg hm rfl hd) fun σ H Q h => lift_c (v := .ref a) (fun _ => by simp [R]) h
/-- a built-in class -/
theorem dg_ty {x : Str} {n : String} (hm : X.mg x = none) (hv : bootBuiltins x = some (.type n)) (hg : Gl X x := by rfl) (hn : x ≠ "__name__" := by decide) (hd : (x == ("__debug__" : Str)) = false := by decide) : DE X (.Name x pos) (dC (.val (.ty n))) :=
  pe_weak (pe_bltn (v := .ty n) hg hm hv rfl hn hd) fun σ H Q h => lift_c (v := .ty n) (fun _ => by simp [R]) h
end

/-! ### operators by values -/
abbrev D2 := D → D → Cells → DK → Prop
def dOp (r : D2) (a b : DT) : DT := fun ρ C P => a ρ C fun x C1 => b ρ C1 fun y C2 => r x y C2 P
/-- r by data stands for r' by values -/
def OpS (K : PySem.W.Frag) (r' : R2) (r : D2) : Prop := ∀ x y v u S P Q, Ok K S → R K S.hs x v → R K S.hs y u → r x y S.c P → Wish K S P Q → r' v u S.h Q
theorem lift_op {K : PySem.W.Frag} {r' : R2} {r : D2} {a b : DT} (h : OpS K r' r) {σ : St} {H : Hp} {Q : VK} (q : liftE K (dOp r a b) σ H Q) : tOp r' (liftE K a) (liftE K b) σ H Q := by
  obtain ⟨ρ, S, P, rfl, s, rp, t, w⟩ := q
  refine ⟨ρ, S, _, rfl, s, rp, t, fun v x S1 e1 rx t1 => ?_⟩
  refine ⟨ρ, S1, _, rfl, s.ext e1.ext, e1.ok, t1, fun u y S2 e2 ry t2 => ?_⟩
  exact h x y v u S2 P Q e2.ok (R.ext e2.ext _ _ rx) ry t2 (w.st (e1.trans e2))
section
variable {X : Cx} {a b : Expr} {ta tb : DT} {pos : Pos}
theorem de_op {op : Operator} {r' : R2} {r : D2} (ho : OpR X (binaryOp op) r') (hs : OpS X.K r' r) (ha : DE X a ta) (hb : DE X b tb) : DE X (.BinOp a op b pos) (dOp r ta tb) :=
  pe_weak (pe_op ho ha hb) fun σ H Q h => lift_op hs h
theorem de_cmp {op : CmpOp} {r' : R2} {r : D2} (ho : OpR X (compareOp op) r') (hs : OpS X.K r' r) (ha : DE X a ta) (hb : DE X b tb) (hm : behindInMarks op b = false) : DE X (.Compare a [op] [b] pos) (dOp r ta tb) :=
  pe_weak (pe_cmpR ho ha hb hm) fun σ H Q h => lift_op hs h
/-- a comparison as a test -/
def asB (d : D) (k : Bool → Prop) : Prop := match d with
  | .bl b => k b
  | _ => False
def dTest (t : DT) : DB := fun ρ C P => t ρ C fun d C1 => asB d fun b => P b C1
theorem lift_test {K : PySem.W.Frag} {t : DT} {t' : TE} (h : ∀ σ H Q, liftE K t σ H Q → t' σ H Q) {σ : St} {H : Hp} {Q : Bool → Hp → Prop} (q : liftB K (dTest t) σ H Q) : t' σ H (fun x H' => ∃ k, x = .bl k ∧ Q k H') := by
  obtain ⟨ρ, S, P, rfl, s, rp, t1, w⟩ := q
  refine h _ _ _ ⟨ρ, S, _, rfl, s, rp, t1, fun v x S1 e1 rx t2 => ?_⟩
  cases x with
  | bl b => exact ⟨b, by simpa [R] using rx, w b S1 e1 t2⟩
  | _ => exact t2.elim
theorem dt_cmp {op : CmpOp} {r' : R2} {r : D2} (ho : OpR X (compareOp op) r') (hs : OpS X.K r' r) (ha : DE X a ta) (hb : DE X b tb) (hm : behindInMarks op b = false) : DC X (.Compare a [op] [b] pos) (dTest (dOp r ta tb)) :=
  pt_weak (pt_cmpR ho ha hb hm) fun σ H Q h => lift_test (fun _ _ _ q => lift_op hs q) h
/-- an expression that gives a bool, as a test -/
theorem dt_val {e : Expr} {t : DT} (h : DE X e t) (he : ∀ whole, isTrue e X.env whole = (do let v ← whole; standAt e.pos; holding [v] (truthy v)) := by intro _; rfl) : DC X e (dTest t) :=
  pt_weak (pt_val h he) fun σ H Q q => lift_test (fun _ _ _ q => q) q
end

/-! ### and, or, not, if -/
section
variable {X : Cx} {a b : Expr} {rest : List Expr} {ta tb : DT} {tA tB : DB} {pos : Pos}
def dAnd (t u : DB) : DB := fun ρ C P => t ρ C fun b C1 => if b = true then u ρ C1 P else P false C1
def dOr (t u : DB) : DB := fun ρ C P => t ρ C fun b C1 => if b = true then P true C1 else u ρ C1 P
def dNot (t : DB) : DB := fun ρ C P => t ρ C fun b C1 => P (!b) C1
theorem dw_and1 (h : DC X a tA) : DCW X (.BoolOp .And [a] pos) tA := pw_and1 h
theorem dw_or1 (h : DC X a tA) : DCW X (.BoolOp .Or [a] pos) tA := pw_or1 h
theorem dw_and (h : DC X a tA) (k : DCW X (.BoolOp .And (b :: rest) pos) tB) : DCW X (.BoolOp .And (a :: b :: rest) pos) (dAnd tA tB) := by
  refine pw_weak (pw_and h k) fun σ H Q q => ?_
  obtain ⟨ρ, S, P, rfl, s, rp, t1, w⟩ := q
  refine ⟨ρ, S, _, rfl, s, rp, t1, fun c S1 e1 t2 => ?_⟩
  cases c with
  | true => exact ⟨ρ, S1, P, rfl, s.ext e1.ext, e1.ok, by simpa using t2, w.st e1⟩
  | false => exact w false S1 e1 (by simpa using t2)
theorem dw_or (h : DC X a tA) (k : DCW X (.BoolOp .Or (b :: rest) pos) tB) : DCW X (.BoolOp .Or (a :: b :: rest) pos) (dOr tA tB) := by
  refine pw_weak (pw_or h k) fun σ H Q q => ?_
  obtain ⟨ρ, S, P, rfl, s, rp, t1, w⟩ := q
  refine ⟨ρ, S, _, rfl, s, rp, t1, fun c S1 e1 t2 => ?_⟩
  cases c with
  | true => exact w true S1 e1 (by simpa using t2)
  | false => exact ⟨ρ, S1, P, rfl, s.ext e1.ext, e1.ok, by simpa using t2, w.st e1⟩
theorem dt_pw {e : Expr} {t : DB} (h : DCW X e t) : DC X e t := h.pt
theorem dt_not (h : DC X a tA) : DC X (.UnaryOp .Not a pos) (dNot tA) := by
  refine pt_weak (pt_not h) fun σ H Q q => ?_
  obtain ⟨ρ, S, P, rfl, s, rp, t1, w⟩ := q
  exact ⟨ρ, S, _, rfl, s, rp, t1, fun c S1 e1 t2 => w (!c) S1 e1 t2⟩
def dAndV (t u : DT) : DT := fun ρ C P => t ρ C fun d C1 => asB d fun b => if b = true then u ρ C1 P else P (.bl false) C1
def dOrV (t u : DT) : DT := fun ρ C P => t ρ C fun d C1 => asB d fun b => if b = true then P (.bl true) C1 else u ρ C1 P
def dNotV (t : DT) : DT := fun ρ C P => t ρ C fun d C1 => asB d fun b => P (.bl (!b)) C1
theorem de_one {op} {t : DT} (h : DE X a t) : DE X (.BoolOp op [a] pos) t := pe_one h
theorem de_and (h : DE X a ta) (k : DE X (.BoolOp .And (b :: rest) pos) tb) : DE X (.BoolOp .And (a :: b :: rest) pos) (dAndV ta tb) := by
  refine pe_weak (pe_and h k) fun σ H Q q => ?_
  obtain ⟨ρ, S, P, rfl, s, rp, t1, w⟩ := q
  refine ⟨ρ, S, _, rfl, s, rp, t1, fun v d S1 e1 rd t2 => ?_⟩
  cases d with
  | bl c =>
    refine ⟨c, by simpa [R] using rd, ?_⟩
    cases c with
    | true => exact ⟨ρ, S1, P, rfl, s.ext e1.ext, e1.ok, by simpa [asB] using t2, w.st e1⟩
    | false => exact w (.bl false) (.bl false) S1 e1 (by simp [R]) (by simpa [asB] using t2)
  | _ => exact t2.elim
theorem de_or (h : DE X a ta) (k : DE X (.BoolOp .Or (b :: rest) pos) tb) : DE X (.BoolOp .Or (a :: b :: rest) pos) (dOrV ta tb) := by
  refine pe_weak (pe_or h k) fun σ H Q q => ?_
  obtain ⟨ρ, S, P, rfl, s, rp, t1, w⟩ := q
  refine ⟨ρ, S, _, rfl, s, rp, t1, fun v d S1 e1 rd t2 => ?_⟩
  cases d with
  | bl c =>
    refine ⟨c, by simpa [R] using rd, ?_⟩
    cases c with
    | false => exact ⟨ρ, S1, P, rfl, s.ext e1.ext, e1.ok, by simpa [asB] using t2, w.st e1⟩
    | true => exact w (.bl true) (.bl true) S1 e1 (by simp [R]) (by simpa [asB] using t2)
  | _ => exact t2.elim
theorem de_not (h : DE X a ta) : DE X (.UnaryOp .Not a pos) (dNotV ta) := by
  refine pe_weak (pe_not h) fun σ H Q q => ?_
  obtain ⟨ρ, S, P, rfl, s, rp, t1, w⟩ := q
  refine ⟨ρ, S, _, rfl, s, rp, t1, fun v d S1 e1 rd t2 => ?_⟩
  cases d with
  | bl c => exact ⟨c, by simpa [R] using rd, w (.bl (!c)) (.bl (!c)) S1 e1 (by simp [R]) t2⟩
  | _ => exact t2.elim
def dIf (t : DB) (u v : DT) : DT := fun ρ C P => t ρ C fun b C1 => if b = true then u ρ C1 P else v ρ C1 P
theorem de_if {c : Expr} (hc : DC X c tA) (ha : DE X a ta) (hb : DE X b tb) : DE X (.IfExp c a b pos) (dIf tA ta tb) := by
  refine pe_weak (pe_ifExp hc ha hb) fun σ H Q q => ?_
  obtain ⟨ρ, S, P, rfl, s, rp, t1, w⟩ := q
  refine ⟨ρ, S, _, rfl, s, rp, t1, fun c S1 e1 t2 => ?_⟩
  cases c with
  | true => exact ⟨ρ, S1, P, rfl, s.ext e1.ext, e1.ok, by simpa using t2, w.st e1⟩
  | false => exact ⟨ρ, S1, P, rfl, s.ext e1.ext, e1.ok, by simpa using t2, w.st e1⟩
end

/-! ### argument lists, displays -/
def dNil : DA := fun _ C P => P [] C
def dCons (a : DT) (r : DA) : DA := fun ρ C P => a ρ C fun d C1 => r ρ C1 fun ds C2 => P (d :: ds) C2
def dLst (a : DA) : DT := fun ρ C P => a ρ C fun ds C1 => ds.length ≤ 1000000 ∧ P (.lst ds) C1
def dTup (a : DA) : DT := fun ρ C P => a ρ C fun ds C1 => ds.length ≤ 1000000 ∧ P (.tup ds) C1
/-- a list that is to be changed in place -/
def dLstC (a : DA) : DT := fun ρ C P => a ρ C fun ds C1 => ds.length ≤ 1000000 ∧ ∀ p, C1 p = none → P (.cell p) (cset C1 p (.lst ds))
theorem mil {n : Nat} (h : n ≤ 1000000) : n ≤ sizeLine := by rw [sizeLine_eq]; omega
section
variable {X : Cx} {e : Expr} {es : List Expr} {te : DT} {t : DA} {pos : Pos}
theorem da_nil : DAs X [] dNil := by
  refine pa_weak pa_nil fun σ H Q h => ?_
  obtain ⟨ρ, S, P, rfl, s, r, t, w⟩ := h
  exact w [] [] S (.refl r) RA.nil t
theorem da_cons (ha : DE X e te) (hr : DAs X es t) (hs : starEach (e :: es) X.env = (false, eval e X.env) :: starEach es X.env := by rfl) : DAs X (e :: es) (dCons te t) := by
  refine pa_weak (pa_cons ha hr hs) fun σ H Q h => ?_
  obtain ⟨ρ, S, P, rfl, s, r, t, w⟩ := h
  refine ⟨ρ, S, _, rfl, s, r, t, fun v d S1 e1 rd t1 => ?_⟩
  refine ⟨ρ, S1, _, rfl, s.ext e1.ext, e1.ok, t1, fun vs ds S2 e2 rs t2 => ?_⟩
  exact w _ _ S2 (e1.trans e2) (RA.cons (R.ext e2.ext _ _ rd) rs) t2
theorem de_lst (h : DAs X es t) : DE X (.List es pos) (dLst t) := by
  refine pe_weak (pe_lst h) fun σ H Q q => ?_
  obtain ⟨ρ, S, P, rfl, s, r, t, w⟩ := q
  refine ⟨ρ, S, _, rfl, s, r, t, fun vs ds S1 e1 rs t1 => ?_⟩
  obtain ⟨z, t1⟩ := t1
  refine ⟨by rw [rs.len]; exact mil z, fun p hp => ?_⟩
  have x := e1.ok.new (o := .lst vs) hp
  exact w _ (.lst ds) _ (e1.trans x) (by simp only [R]; exact ⟨p, vs, rfl, upd_same, RA.ext x.ext _ _ rs⟩) t1
theorem de_lstC (h : DAs X es t) : DE X (.List es pos) (dLstC t) := by
  refine pe_weak (pe_lst h) fun σ H Q q => ?_
  obtain ⟨ρ, S, P, rfl, s, r, t, w⟩ := q
  refine ⟨ρ, S, _, rfl, s, r, t, fun vs ds S1 e1 rs t1 => ?_⟩
  obtain ⟨z, t1⟩ := t1
  refine ⟨by rw [rs.len]; exact mil z, fun p hp => ?_⟩
  have x := e1.ok.newC (o := .lst vs) (c := .lst ds) hp ⟨vs, upd_same, rs⟩
  exact w _ (.cell p) _ (e1.trans x) (by simp only [R]) (t1 p (e1.ok.freshC hp))
theorem de_tup {x1} (h : DAs X es t) : DE X (.Tuple es x1 pos) (dTup t) := by
  refine pe_weak (pe_tup h) fun σ H Q q => ?_
  obtain ⟨ρ, S, P, rfl, s, r, t, w⟩ := q
  refine ⟨ρ, S, _, rfl, s, r, t, fun vs ds S1 e1 rs t1 => ?_⟩
  obtain ⟨z, t1⟩ := t1
  refine ⟨by rw [rs.len]; exact mil z, fun p hp => ?_⟩
  have x := e1.ok.new (o := .tup vs) hp
  exact w _ (.tup ds) _ (e1.trans x) (by simp only [R]; exact ⟨p, vs, rfl, upd_same, RA.ext x.ext _ _ rs⟩) t1
end

/-! ### defs and calls -/
abbrev DSp := List D → Cells → DK → Prop
def spOf (K : PySem.W.Frag) (p : DSp) : Sp := fun vs H Q _ => ∃ ds S P, S.h = H ∧ RA K S.hs ds vs ∧ Ok K S ∧ p ds S.c P ∧ Wish K S P Q
/-- a def as its callers see it; dds: its defaults -/
structure Fn (P : Program) (w : World) (K : PySem.W.Frag) (mg : Str → Option Value) (base : Heap) (k : Nat) (f : Addr) (dds : List D) (p : DSp) : Prop where
  ex : ∃ (fd : FuncData) (ps : List Str) (ds : List Value) (dvs : List V), PySem.W.keepIn K (.ref f) = true ∧ Binds K fd ps ds ∧ Vals dvs ds ∧ (∀ Hs, RA K Hs dds dvs) ∧ FnOk P w K mg base CX0 k f fd ps (spOf K p)
theorem Fn.mono {P : Program} {w : World} {K : PySem.W.Frag} {mg : Str → Option Value} {base : Heap} {j k : Nat} {f : Addr} {dds : List D} {p : DSp} (h : Fn P w K mg base j f dds p) (l : j ≤ k) : Fn P w K mg base k f dds p := by
  obtain ⟨fd, ps, ds, dvs, h1, h2, h3, h4, h5⟩ := h.ex
  exact ⟨fd, ps, ds, dvs, h1, h2, h3, h4, h5.mono l⟩
theorem Fn.imp {P : Program} {w : World} {K : PySem.W.Frag} {mg : Str → Option Value} {base : Heap} {k : Nat} {f : Addr} {dds : List D} {p q : DSp} (h : Fn P w K mg base k f dds p) (l : ∀ ds C P, q ds C P → p ds C P) : Fn P w K mg base k f dds q := by
  obtain ⟨fd, ps, ds, dvs, h1, h2, h3, h4, h5⟩ := h.ex
  exact ⟨fd, ps, ds, dvs, h1, h2, h3, h4, h5.imp fun vs H Q E z => let ⟨ds, S, P, a, b, c, d, e⟩ := z; ⟨ds, S, P, a, b, c, l _ _ _ d, e⟩⟩
def dCall (p : DSp) (dds : List D) (a : DA) : DT := fun ρ C P => a ρ C fun ds C1 => p (ds ++ dds) C1 P
theorem lift_call {K : PySem.W.Frag} {p : DSp} {dds : List D} {dvs : List V} {a : DA} (hd : ∀ Hs, RA K Hs dds dvs) {E : XK} {σ : St} {H : Hp} {Q : VK} (q : liftE K (dCall p dds a) σ H Q) : tCall (spOf K p) dvs E (liftA K a) σ H Q := by
  obtain ⟨ρ, S, P, rfl, s, r, t, w⟩ := q
  refine ⟨ρ, S, _, rfl, s, r, t, fun vs ds S1 e1 rs t1 => ?_⟩
  exact ⟨ds ++ dds, S1, P, rfl, rs.append (hd _), e1.ok, t1, w.st e1⟩
section
variable {X : Cx} {k : Nat} {f : Addr} {x : Str} {p pos : Pos} {e : Expr} {es : List Expr} {t : DA} {dds : List D} {sp : DSp}
theorem de_call (c : Fn X.prog X.w X.K X.mg X.base k f dds sp) (hm : X.mg x = some (.ref f)) (hr : Room k X.A) (ha : DAs X (e :: es) t) (hg : Gl X x := by rfl) (hdb : (x == ("__debug__" : Str)) = false := by decide)
    (he : starEach (e :: es) X.env = (false, eval e X.env) :: starEach es X.env := by rfl) (hpl : (backTo pos (starEach es X.env)).any (·.1) = false := by rfl) : DE X (.Call (.Name x p) (e :: es) [] pos) (dCall sp dds t) := by
  obtain ⟨fd, ps, ds, dvs, hk, hb, hd, hdd, F⟩ := c.ex
  exact pe_weak (pe_call F hr hg hm hk hb hd pass0 ha hdb he hpl) fun σ H Q q => lift_call hdd q
theorem de_call0 (c : Fn X.prog X.w X.K X.mg X.base k f dds sp) (hm : X.mg x = some (.ref f)) (hr : Room k X.A) (hg : Gl X x := by rfl) (hdb : (x == ("__debug__" : Str)) = false := by decide) : DE X (.Call (.Name x p) [] [] pos) (dCall sp dds dNil) := by
  obtain ⟨fd, ps, ds, dvs, hk, hb, hd, hdd, F⟩ := c.ex
  refine pe_weak (pe_call0 F hr hg hm hk hb hd pass0 hdb) fun σ H Q q => ?_
  obtain ⟨ρ, S, P, rfl, s, r, t, w⟩ := q
  exact ⟨[] ++ dds, S, P, rfl, hdd _, r, t, w⟩
end

/-! ### statements -/
section
variable {X : Cx} {st : Stmt} {rest : List Stmt} {t u : DS} {e : Expr} {te : DT} {pos : Pos}
def dNext : DS := fun D ρ C => D.nx ρ C
def dSeq (t u : DS) : DS := fun D ρ C => t { D with nx := u D } ρ C
theorem ds_nil : DSs X [] dNext := by
  refine pss_weak pss_nil fun E σ H q => ?_
  obtain ⟨ρ, S, D, rfl, s, r, t, w⟩ := q
  exact w.nx ρ σ S (.refl r) s t
theorem ds_cons (h1 : DSt X st t) (h2 : DSs X rest u) : DSs X (st :: rest) (dSeq t u) := by
  refine pss_weak (pss_cons h1 h2) fun E σ H q => ?_
  obtain ⟨ρ, S, D, rfl, s, r, t, w⟩ := q
  refine ⟨ρ, S, { D with nx := u D }, rfl, s, r, t, ⟨fun ρ' σ' S' e1 s1 t1 => ?_, w.rt, w.bk, w.ct⟩⟩
  exact ⟨ρ', S', D, rfl, s1, e1.ok, t1, w.st e1⟩
theorem ds_one (h1 : DSt X st t) : DSs X [st] t := pss_one h1
def dBreak : DS := fun D ρ C => D.bk ρ C
def dCont : DS := fun D ρ C => D.ct ρ C
theorem ds_pass : DSt X (.Pass pos) dNext := by
  refine ps_weak ps_pass fun E σ H q => ?_
  obtain ⟨ρ, S, D, rfl, s, r, t, w⟩ := q
  exact w.nx ρ σ S (.refl r) s t
theorem ds_break : DSt X (.Break pos) dBreak := by
  refine ps_weak ps_break fun E σ H q => ?_
  obtain ⟨ρ, S, D, rfl, s, r, t, w⟩ := q
  exact w.bk ρ σ S (.refl r) s t
theorem ds_cont : DSt X (.Continue pos) dCont := by
  refine ps_weak ps_continue fun E σ H q => ?_
  obtain ⟨ρ, S, D, rfl, s, r, t, w⟩ := q
  exact w.ct ρ σ S (.refl r) s t
def dDrop (te : DT) : DS := fun D ρ C => te ρ C fun _ C1 => D.nx ρ C1
theorem ds_expr (he : DE X e te) (hs : swapsWith e none pos.line X.env = pure false := by rfl) : DSt X (.Expr e pos) (dDrop te) := by
  refine ps_weak (ps_expr he hs) fun E σ H q => ?_
  obtain ⟨ρ, S, D, rfl, s, r, t, w⟩ := q
  exact ⟨ρ, S, _, rfl, s, r, t, fun v d S1 e1 rd t1 => w.nx ρ σ S1 e1 (s.ext e1.ext) t1⟩
def dRet (te : DT) : DS := fun D ρ C => te ρ C D.rt
theorem ds_ret (he : DE X e te) : DSt X (.Return (some e) pos) (dRet te) := by
  refine ps_weak (ps_ret he) fun E σ H q => ?_
  obtain ⟨ρ, S, D, rfl, s, r, t, w⟩ := q
  exact ⟨ρ, S, _, rfl, s, r, t, w.rt⟩
def dRetN : DS := fun D _ C => D.rt .non C
theorem ds_retN : DSt X (.Return none pos) dRetN := by
  refine ps_weak ps_retN fun E σ H q => ?_
  obtain ⟨ρ, S, D, rfl, s, r, t, w⟩ := q
  exact w.rt .non .non S (.refl r) (by simp [R]) t
def dIfS (c : DB) (t u : DS) : DS := fun D ρ C => c ρ C fun b C1 => if b = true then t D ρ C1 else u D ρ C1
theorem ds_if {c : Expr} {a b : List Stmt} {tc : DB} (hc : DC X c tc) (ha : DSs X a t) (hb : DSs X b u) : DSt X (.If c a b pos) (dIfS tc t u) := by
  refine ps_weak (ps_if hc ha hb) fun E σ H q => ?_
  obtain ⟨ρ, S, D, rfl, s, r, t, w⟩ := q
  refine ⟨ρ, S, _, rfl, s, r, t, fun b S1 e1 t1 => ?_⟩
  cases b with
  | true => exact ⟨ρ, S1, D, rfl, s.ext e1.ext, e1.ok, by simpa using t1, w.st e1⟩
  | false => exact ⟨ρ, S1, D, rfl, s.ext e1.ext, e1.ok, by simpa using t1, w.st e1⟩
def dNever : DS := fun _ _ _ => False
theorem lift_never {K : PySem.W.Frag} {E : Ends} {σ : St} {H : Hp} (q : liftS K dNever E σ H) : False := by
  obtain ⟨ρ, S, D, rfl, s, r, t, w⟩ := q
  exact t
theorem ds_never : DSt X st dNever := ps_weak ps_never fun E σ H q => lift_never q
theorem dss_never {sts : List Stmt} : DSs X sts dNever := pss_weak pss_never fun E σ H q => lift_never q

/-! ### targets -/
abbrev DG := D → Env → Cells → (Env → Cells → Prop) → Prop
def liftG (K : PySem.W.Frag) (g : DG) : TG := fun v σ H Q => ∃ ρ S d P, S.h = H ∧ Sl K S.hs σ ρ ∧ Ok K S ∧ R K S.hs d v ∧ g d ρ S.c P ∧ WishN K S P Q
def DGt (X : Cx) (target : Expr) (g : DG) : Prop := PG X target (liftG X.K g)
theorem pg_weak {target : Expr} {t t' : TG} (h : PG X target t) (w : ∀ v σ H Q, t' v σ H Q → t v σ H Q) : PG X target t' := ⟨fun pins s σ H v u Q I r q => h.run pins s σ H v u Q I r (w v σ H Q q)⟩
def dName (i : Nat) : DG := fun d ρ C P => P (ρ.set i (some d)) C
theorem dg_name {i : Nat} {x : Str} (hN : X.N.Nodup) (hi : X.N[i]? = some x := by rfl) (hx : Loc X.env.scope x := by first | exact Or.inl rfl | exact Or.inr rfl) (hf : X.fn x = true ∨ X.env.scope.names.lookup x = some .local := by first | exact .inl rfl | exact .inr rfl) : DGt X (.Name x pos) (dName i) := by
  refine pg_weak (pg_name hN hi hx hf) fun v σ H Q q => ?_
  obtain ⟨ρ, S, d, P, rfl, s, r, rd, t, w⟩ := q
  exact w _ _ S (.refl r) (s.set rd) t
/-- (a, b, ..) = a tuple -/
def dSets : List Nat → List D → Env → Env
  | i :: is, d :: ds, ρ => dSets is ds (ρ.set i (some d))
  | _, _, ρ => ρ
def dGTup (is : List Nat) : DG := fun d ρ C P => match d with
  | .tup ds => ds.length = is.length ∧ P (dSets is ds ρ) C
  | _ => False
/-- the names of a target tuple -/
def GNs (X : Cx) (es : List Expr) (is : List Nat) : Prop := ∃ g : TGs, PGs X es g ∧ ∀ vs σ H Q, vs.length = is.length → (∀ σ', (∀ K Hs ρ ds, Sl K Hs σ ρ → RA K Hs ds vs → Sl K Hs σ' (dSets is ds ρ)) → Q σ' H) → g vs σ H Q
theorem gn_nil : GNs X [] [] := ⟨gNil, pgs_nil, fun vs σ H Q h q => by
  cases vs with
  | nil => exact ⟨rfl, q σ fun K Hs ρ ds s r => by cases ds <;> exact s⟩
  | cons _ _ => simp at h⟩
theorem gn_cons {i : Nat} {is : List Nat} {x : Str} {p : Pos} {es : List Expr} (hN : X.N.Nodup) (k : GNs X es is) (hi : X.N[i]? = some x := by rfl) (hx : Loc X.env.scope x := by first | exact Or.inl rfl | exact Or.inr rfl) (hf : X.fn x = true ∨ X.env.scope.names.lookup x = some .local := by first | exact .inl rfl | exact .inr rfl)
    (hs : (assignEach (.Name x p :: es) X.env).map (·.2) = assign (.Name x p) X.env :: (assignEach es X.env).map (·.2) := by rfl) : GNs X (.Name x p :: es) (i :: is) := by
  obtain ⟨g, hg, hq⟩ := k
  refine ⟨_, pgs_cons (pg_name hN hi hx hf) hg hs, fun vs σ H Q h q => ?_⟩
  cases vs with
  | nil => simp at h
  | cons v vs =>
    refine ⟨v, vs, rfl, hq vs _ H Q (by simpa using h) fun σ' hσ => q σ' fun K Hs ρ ds s r => ?_⟩
    cases ds with
    | nil => simp only [RA] at r; cases r
    | cons d ds =>
      simp only [RA] at r
      obtain ⟨v', r', e1, e2, e3⟩ := r
      cases e1
      exact hσ K Hs _ ds (s.set e2) e3
theorem dg_tup {es : List Expr} {kk : Nat} {is : List Nat} (hc : X.calm = true) (h : GNs X es is) (hn : (assignEach es X.env).length = is.length := by rfl) (hst : (assignEach es X.env).findIdx? (·.1) = none := by rfl) : DGt X (.Tuple es kk pos) (dGTup is) := by
  obtain ⟨g, hg, hq⟩ := h
  refine pg_weak (pg_tup hc hg hn hst) fun v σ H Q q => ?_
  obtain ⟨ρ, S, d, P, rfl, s, r, rd, t, w⟩ := q
  cases d with
  | tup ds =>
    simp only [R] at rd
    obtain ⟨a, vs, rfl, e1, e2⟩ := rd
    obtain ⟨hl, t⟩ := t
    have hl2 : vs.length = is.length := by rw [e2.len]; exact hl
    refine ⟨a, vs, rfl, SqT.of (r.le _ _ e1), hl2, hq vs σ _ Q hl2 fun σ' hσ => ?_⟩
    exact w _ σ' S (.refl r) (hσ X.K S.hs ρ ds s e2) t
  | _ => exact t.elim
/-- target = value -/
def dAsg (te : DT) (g : DG) : DS := fun D ρ C => te ρ C fun d C1 => g d ρ C1 D.nx
theorem lift_asg {K : PySem.W.Frag} {te : DT} {g : DG} {E : Ends} {σ : St} {H : Hp} (q : liftS K (dAsg te g) E σ H) : tAsg (liftE K te) (liftG K g) E σ H := by
  obtain ⟨ρ, S, D, rfl, s, r, t, w⟩ := q
  exact ⟨ρ, S, _, rfl, s, r, t, fun v d S1 e1 rd t1 => ⟨ρ, S1, d, _, rfl, s.ext e1.ext, e1.ok, rd, t1, w.nx.st e1⟩⟩
theorem ds_asg {tg e : Expr} {te : DT} {g : DG} (he : DE X e te) (hg : DGt X tg g) (hs : swapsWithSole [tg] e pos.line X.env = pure false := by rfl) (hw : swappedStores [tg] e X.env = pure none := by rfl)
    (h1 : (assignEach [tg] X.env).map (·.2) = [assign tg X.env] := by rfl) : DSt X (.Assign [tg] e pos) (dAsg te g) :=
  ps_weak (ps_asg he hg hs hw h1) fun E σ H q => lift_asg q
theorem ds_set {i : Nat} {x : Str} {e : Expr} {te : DT} {pos' : Pos} (hN : X.N.Nodup) (he : DE X e te) (hi : X.N[i]? = some x := by rfl) (hx : Loc X.env.scope x := by first | exact Or.inl rfl | exact Or.inr rfl) (hs : swapsWith e (some (.Name x pos')) pos.line X.env = pure false := by rfl) (hf : X.fn x = true ∨ X.env.scope.names.lookup x = some .local := by first | exact .inl rfl | exact .inr rfl) :
    DSt X (.Assign [.Name x pos'] e pos) (dAsg te (dName i)) := by
  refine ps_weak (ps_set hN hi hx he hs hf) fun E σ H q => ?_
  obtain ⟨ρ, S, D, rfl, s, r, t, w⟩ := q
  exact ⟨ρ, S, _, rfl, s, r, t, fun v d S1 e1 rd t1 => w.nx _ _ S1 e1 ((s.ext e1.ext).set rd) t1⟩
/-- a, b = x, y with plain local names -/
def dPar (is : List Nat) (ta : DA) : DS := fun D ρ C => ta ρ C fun ds C1 => ds.length = is.length ∧ D.nx (dSets is ds ρ) C1
theorem ds_par {i j : Nat} {x y : Str} {a b : Expr} {ta : DA} {px py pt : Pos} {kt k2 pt2} (hc : X.calm = true) (hN : X.N.Nodup) (ha : DAs X [a, b] ta) (hij : i ≠ j := by decide) (hi : X.N[i]? = some x := by rfl) (hj : X.N[j]? = some y := by rfl)
    (hx : X.env.scope.names.lookup x = some .local := by rfl) (hy : X.env.scope.names.lookup y = some .local := by rfl)
    (hw : swappedStores [.Tuple [.Name x px, .Name y py] kt pt] (.Tuple [a, b] k2 pt2) X.env = pure (some [x, y]) := by rfl)
    (hs : swapsWithSole [.Tuple [.Name x px, .Name y py] kt pt] (.Tuple [a, b] k2 pt2) pos.line X.env = pure false := by rfl) :
    DSt X (.Assign [.Tuple [.Name x px, .Name y py] kt pt] (.Tuple [a, b] k2 pt2) pos) (dPar [i, j] ta) := by
  refine ps_weak (ps_par hc hN hi hj hij hx hy ha hw hs) fun E σ H q => ?_
  obtain ⟨ρ, S, D, rfl, s, r, t, w⟩ := q
  refine ⟨ρ, S, _, rfl, s, r, t, fun vs ds S1 e1 rs t1 => ?_⟩
  obtain ⟨hl, t1⟩ := t1
  match ds, hl, rs, t1 with
  | [d, e], _, rs, t1 =>
    simp only [RA] at rs
    obtain ⟨v, _, rfl, r1, u, _, rfl, r2, rfl⟩ := rs
    exact ⟨v, u, rfl, w.nx _ _ S1 e1 (((s.ext e1.ext).set r1).set r2) t1⟩
end
end DL

set_option Elab.async false
set_option linter.all false
set_option maxRecDepth 100000
set_option maxHeartbeats 4000000
namespace DL
open PySem L2

/-! ### what a cell holds, seen as data -/
def vw (C : Cells) : D → D
  | .cell a => match C a with
    | some (.lst ds) => .lst ds
    | some (.dic k) => .dic k
    | some (.ins c f) => .ins c f
    | _ => .cell a
  | d => d
section
variable {K : PySem.W.Frag} {S : W} {x : D} {v : V}
theorem vw_lst {ds : List D} (r : Ok K S) (h : R K S.hs x v) (e : vw S.c x = .lst ds) : ∃ a vs, v = .ref a ∧ S.h a = some (.lst vs) ∧ RA K S.hs ds vs := by
  cases x with
  | cell a =>
    simp only [vw] at e
    split at e
    · rename_i ds' q
      cases e
      obtain ⟨_, vs, q1, q2⟩ := r.cell a _ q
      simp only [R] at h
      exact ⟨a, vs, h, q1, q2⟩
    all_goals cases e
  | lst ds' =>
    cases e
    simp only [R] at h
    obtain ⟨a, vs, h1, h2, h3⟩ := h
    exact ⟨a, vs, h1, r.le _ _ h2, h3⟩
  | _ => cases e
theorem vw_tup {ds : List D} (r : Ok K S) (h : R K S.hs x v) (e : vw S.c x = .tup ds) : ∃ a vs, v = .ref a ∧ S.h a = some (.tup vs) ∧ RA K S.hs ds vs := by
  cases x with
  | cell a =>
    simp only [vw] at e
    split at e <;> cases e
  | tup ds' =>
    cases e
    simp only [R] at h
    obtain ⟨a, vs, h1, h2, h3⟩ := h
    exact ⟨a, vs, h1, r.le _ _ h2, h3⟩
  | _ => cases e
theorem vw_dic {ds : List (Key × D)} (r : Ok K S) (h : R K S.hs x v) (e : vw S.c x = .dic ds) : ∃ a o kvs, v = .ref a ∧ S.h a = some o ∧ core o = .dK kvs ∧ RK K S.hs ds kvs := by
  cases x with
  | cell a =>
    simp only [vw] at e
    split at e
    · cases e
    · rename_i ds' q
      cases e
      obtain ⟨_, vs, q1, q2⟩ := r.cell a _ q
      simp only [R] at h
      exact ⟨a, _, vs, h, q1, rfl, q2⟩
    all_goals cases e
  | dic ds' =>
    cases e
    simp only [R] at h
    obtain ⟨a, o, vs, h1, h2, h3, h4⟩ := h
    exact ⟨a, o, vs, h1, r.le _ _ h2, h3, h4⟩
  | _ => cases e
theorem vw_ins {c : Addr} {fds : List (Str × D)} (r : Ok K S) (h : R K S.hs x v) (e : vw S.c x = .ins c fds) : ∃ a dx fs, v = .ref a ∧ S.h a = some (.ins c dx fs) ∧ RF K S.hs fds fs := by
  cases x with
  | cell a =>
    simp only [vw] at e
    split at e
    · cases e
    · cases e
    · rename_i c' f' q
      cases e
      obtain ⟨_, dx, vs, q1, q2⟩ := r.cell a _ q
      simp only [R] at h
      exact ⟨a, dx, vs, h, q1, q2⟩
    · cases e
  | ins c' f' =>
    cases e
    simp only [R] at h
    obtain ⟨a, dx, vs, h1, h2, h3⟩ := h
    exact ⟨a, dx, vs, h1, r.le _ _ h2, h3⟩
  | _ => cases e
theorem rd_core {H : Hp} {a : Addr} {o : HO} {kvs : List (Key × V)} (h : H a = some o) (c : core o = .dK kvs) : Rd H a (.dK kvs) := by
  cases o with
  | frz ob u =>
    cases u <;> simp [core] at c
    subst c
    exact .inr ⟨ob, h⟩
  | dK k => simp [core] at c; subst c; exact .inl h
  | _ => simp [core] at c
end

/-! ### numbers -/
section
variable {K : PySem.W.Frag} {X : Cx}
/-- two ints -/
def dI2 (g : Int → Int → (D → Prop) → Prop) : D2 := fun x y C P => match x, y with
  | .int i, .int j => g i j fun d => P d C
  | _, _ => False
theorem ops_I {Cc : Int → Int → Prop} {g : Int → Int → Int} : OpS K (rI Cc fun i j => .int (g i j)) (dI2 fun i j k => Cc i j ∧ k (.int (g i j))) := by
  intro x y v u S P Q ok rx ry t w
  unfold dI2 at t
  split at t
  · simp only [R] at rx ry
    exact ⟨_, _, rx, ry, t.1, w _ _ S (.refl ok) R_int t.2⟩
  · exact t.elim
theorem ops_I0 {g : Int → Int → Int} : OpS K (rI0 fun i j => .int (g i j)) (dI2 fun i j k => k (.int (g i j))) := by
  intro x y v u S P Q ok rx ry t w
  unfold dI2 at t
  split at t
  · simp only [R] at rx ry
    exact ⟨_, _, rx, ry, w _ _ S (.refl ok) R_int t⟩
  · exact t.elim
theorem ops_B0 {g : Int → Int → Bool} : OpS K (rI0 fun i j => .bl (g i j)) (dI2 fun i j k => k (.bl (g i j))) := by
  intro x y v u S P Q ok rx ry t w
  unfold dI2 at t
  split at t
  · simp only [R] at rx ry
    exact ⟨_, _, rx, ry, w _ _ S (.refl ok) R_bl t⟩
  · exact t.elim
def dSub := dI2 fun i j k => k (.int (i - j))
def dMul := dI2 fun i j k => CMulW i j ∧ k (.int (i * j))
def dFdiv := dI2 fun i j k => CDivW i j ∧ k (.int (i / j))
def dMod := dI2 fun i j k => 0 < j ∧ k (.int (i % j))
def CPowW (i j : Int) : Prop := 0 ≤ j ∧ (Builtin.Int.intBits i : Int) * j ≤ 2 ^ 27
def dPow := dI2 fun i j k => CPowW i j ∧ k (.int (i ^ j.toNat))
theorem op_powW : OpR X (binaryOp .Pow) (rI CPowW fun i j => .int (i ^ j.toNat)) := opI fun _ _ _ _ _ _ _ hc q => PyProof.Rows.pow_int hc.1 hc.2 q
def dLt := dI2 fun i j k => k (.bl (decide (i < j)))
def dLe := dI2 fun i j k => k (.bl (decide (i ≤ j)))
def dGt := dI2 fun i j k => k (.bl (decide (j < i)))
def dGe := dI2 fun i j k => k (.bl (decide (j ≤ i)))
/-! ### + -/
def rAddA (K : PySem.W.Frag) : R2 := fun x y H Q => (∃ i j, x = .int i ∧ y = .int j ∧ Q (.int (i + j)) H) ∨ (∃ i j, x = .str i ∧ y = .str j ∧ i.length + j.length ≤ sizeLine ∧ Q (.str (i ++ j)) H) ∨
  (∃ l b xs zs, x = .ref l ∧ y = .ref b ∧ H l = some (.lst xs) ∧ H b = some (.lst zs) ∧ xs.length + zs.length ≤ sizeLine ∧ ∀ p, H p = none → Q (.ref p) (upd H p (.lst (xs ++ zs)))) ∨ rCatT K x y H Q
theorem op_addA : OpR X (binaryOp .Add) (rAddA X.K) := op_add.or (op_add_str.or (OpR.or (r := rCat) op_cat op_catT))
def dAdd : D2 := fun x y C P => match vw C x, vw C y with
  | .int i, .int j => P (.int (i + j)) C
  | .str s, .str t => s.length + t.length ≤ 1000000 ∧ P (.str (s ++ t)) C
  | .lst xs, .lst ys => xs.length + ys.length ≤ 1000000 ∧ P (.lst (xs ++ ys)) C
  | .tup xs, .tup ys => xs ≠ [] ∧ ys ≠ [] ∧ xs.length + ys.length ≤ 1000000 ∧ P (.tup (xs ++ ys)) C
  | _, _ => False
theorem vw_int {C : Cells} {x : D} {i : Int} (e : vw C x = .int i) : x = .int i := by
  cases x with
  | cell a =>
    simp only [vw] at e
    split at e <;> cases e
  | _ => exact e
theorem vw_str {C : Cells} {x : D} {i : Str} (e : vw C x = .str i) : x = .str i := by
  cases x with
  | cell a =>
    simp only [vw] at e
    split at e <;> cases e
  | _ => exact e
theorem ops_add : OpS K (rAddA K) dAdd := by
  intro x y v u S P Q ok rx ry t w
  unfold dAdd at t
  split at t
  · rename_i i j e1 e2
    rw [vw_int e1] at rx; rw [vw_int e2] at ry
    simp only [R] at rx ry
    exact .inl ⟨i, j, rx, ry, w _ _ S (.refl ok) R_int t⟩
  · rename_i i j e1 e2
    rw [vw_str e1] at rx; rw [vw_str e2] at ry
    simp only [R] at rx ry
    exact .inr (.inl ⟨i, j, rx, ry, mil t.1, w _ _ S (.refl ok) R_str t.2⟩)
  · rename_i xs ys e1 e2
    obtain ⟨a, vs, rfl, h1, h2⟩ := vw_lst ok rx e1
    obtain ⟨b, us, rfl, k1, k2⟩ := vw_lst ok ry e2
    refine .inr (.inr (.inl ⟨a, b, vs, us, rfl, rfl, h1, k1, by rw [h2.len, k2.len]; exact mil t.1, fun p hp => ?_⟩))
    have st := ok.new (o := .lst (vs ++ us)) hp
    exact w _ (.lst (xs ++ ys)) _ st (by simp only [R]; exact ⟨p, _, rfl, upd_same, RA.ext st.ext _ _ (h2.append k2)⟩) t.2
  · rename_i xs ys e1 e2
    obtain ⟨a, vs, rfl, h1, h2⟩ := vw_tup ok rx e1
    obtain ⟨b, us, rfl, k1, k2⟩ := vw_tup ok ry e2
    obtain ⟨n1, n2, z, t⟩ := t
    refine .inr (.inr (.inr ⟨a, b, vs, us, rfl, rfl, SqT.of h1, SqT.of k1, fun q => n1 ?_, by rw [h2.len, k2.len]; exact mil z, ?_⟩))
    · have := h2.len; rw [q] at this; exact List.eq_nil_of_length_eq_zero this.symm
    · have hu : us ≠ [] := fun q => n2 (by have := k2.len; rw [q] at this; exact List.eq_nil_of_length_eq_zero this.symm)
      have fin : ∀ p, S.h p = none → Q (.ref p) (upd S.h p (.tup (vs ++ us))) := fun p hp => by
        have st := ok.new (o := .tup (vs ++ us)) hp
        exact w _ (.tup (xs ++ ys)) _ st (by simp only [R]; exact ⟨p, _, rfl, upd_same, RA.ext st.ext _ _ (h2.append k2)⟩) t
      first | (rw [if_neg hu]; exact fin) | exact ⟨fun q => absurd q hu, fun _ => fin⟩ | exact .inr ⟨hu, fin⟩ | exact fin
  · exact t.elim
end
end DL

set_option Elab.async false
set_option linter.all false
set_option maxRecDepth 100000
set_option maxHeartbeats 4000000
namespace DL
open PySem L2

def opt {α : Type} (o : Option α) (k : α → Prop) : Prop := match o with
  | some a => k a
  | none => False
theorem opt_some {α : Type} {a : α} {k : α → Prop} : opt (some a) k = k a := rfl
theorem opt_of {α : Type} {o : Option α} {k : α → Prop} (h : opt o k) : ∃ a, o = some a ∧ k a := by
  cases o with
  | none => exact h.elim
  | some a => exact ⟨a, rfl, h⟩

/-! ### data as the library tells it -/
mutual
def toPy : D → PyData
  | .bl b => .bool b
  | .int i => .int i
  | .str x => .str x
  | .lst ds => .list (toPys ds)
  | .tup ds => .tuple (toPys ds)
  | _ => .none
def toPys : List D → List PyData
  | [] => []
  | d :: ds => toPy d :: toPys ds
end
mutual
def isPy : D → Bool
  | .non => true
  | .bl _ => true
  | .int _ => true
  | .str _ => true
  | .lst ds => isPys ds
  | .tup ds => isPys ds
  | _ => false
def isPys : List D → Bool
  | [] => true
  | d :: ds => isPy d && isPys ds
end
section
variable {K : PySem.W.Frag} {Hs H : Hp}
mutual
theorem dp_of (le : ∀ a o, Hs a = some o → H a = some o) : ∀ (d : D) (v : V), isPy d = true → R K Hs d v → Dp K H v (toPy d)
  | .non, v, _, h => by simp only [R] at h; subst h; exact .non
  | .bl b, v, _, h => by simp only [R] at h; subst h; exact .bl b
  | .int i, v, _, h => by simp only [R] at h; subst h; exact .int i
  | .str x, v, _, h => by simp only [R] at h; subst h; exact .str x
  | .lst ds, v, p, h => by
    simp only [R] at h
    obtain ⟨a, vs, rfl, h2, h3⟩ := h
    exact .lst (SqL.of (le _ _ h2)) (dps_of le ds vs (by simpa [isPy] using p) h3)
  | .tup ds, v, p, h => by
    simp only [R] at h
    obtain ⟨a, vs, rfl, h2, h3⟩ := h
    exact .tup (SqT.of (le _ _ h2)) (dps_of le ds vs (by simpa [isPy] using p) h3)
  | .dic _, _, p, _ => by simp [isPy] at p
  | .ins _ _, _, p, _ => by simp [isPy] at p
  | .cell _, _, p, _ => by simp [isPy] at p
  | .fro _, _, p, _ => by simp [isPy] at p
  | .val _, _, p, _ => by simp [isPy] at p
theorem dps_of (le : ∀ a o, Hs a = some o → H a = some o) : ∀ (ds : List D) (vs : List V), isPys ds = true → RA K Hs ds vs → DpAll K H vs (toPys ds)
  | [], vs, _, h => by simp only [RA] at h; subst h; exact .nil
  | d :: ds, vs, p, h => by
    simp only [RA] at h
    obtain ⟨v, r, rfl, h2, h3⟩ := h
    simp only [isPys, Bool.and_eq_true] at p
    exact .cons (dp_of le d v p.1 h2) (dps_of le ds r p.2 h3)
end
/-- .. with a cell's content -/
theorem dp_vw {S : W} (ok : Ok K S) {x : D} {v : V} (p : isPy (vw S.c x) = true) (h : R K S.hs x v) : Dp K S.h v (toPy (vw S.c x)) := by
  cases e : vw S.c x with
  | lst ds =>
    obtain ⟨a, vs, rfl, h1, h2⟩ := vw_lst ok h e
    rw [e] at p
    exact .lst (SqL.of h1) (dps_of ok.le ds vs (by simpa [isPy] using p) h2)
  | tup ds =>
    obtain ⟨a, vs, rfl, h1, h2⟩ := vw_tup ok h e
    rw [e] at p
    exact .tup (SqT.of h1) (dps_of ok.le ds vs (by simpa [isPy] using p) h2)
  | cell a => rw [e] at p; simp [isPy] at p
  | dic a => rw [e] at p; simp [isPy] at p
  | ins a b => rw [e] at p; simp [isPy] at p
  | fro a => rw [e] at p; simp [isPy] at p
  | val a => rw [e] at p; simp [isPy] at p
  | _ =>
    cases x with
    | cell b =>
      simp only [vw] at e
      split at e <;> cases e
    | _ =>
      have e' := e
      simp only [vw] at e'
      cases e' <;> exact dp_of ok.le _ v rfl h
end
/-! ### == -/
section
variable {K : PySem.W.Frag} {X : Cx}
def eqD (x y : D) : Bool := PyData.eqv (toPy x) (toPy y)
def okD (x : D) : Prop := isPy x = true ∧ SeqAt.shaped (toPy x) = true
def dEqN (neg : Bool) : D2 := fun x y C P => match x, y with
  | .str a, .str b => P (.bl (if neg then !decide (a = b) else decide (a = b))) C
  | .int a, .int b => P (.bl (if neg then !decide (a = b) else decide (a = b))) C
  | .bl a, .bl b => P (.bl (if neg then !decide (a = b) else decide (a = b))) C
  | x, y => okD (vw C x) ∧ okD (vw C y) ∧ P (.bl (if neg then !eqD (vw C x) (vw C y) else eqD (vw C x) (vw C y))) C
abbrev dEq := dEqN false
abbrev dNe := dEqN true
theorem ops_eq : OpS K (fun x y H Q => rEq x y H Q ∨ rEqD K x y H Q) dEq := by
  intro x y v u S P Q ok rx ry t w
  unfold dEq dEqN at t
  split at t
  · simp only [R] at rx ry; subst rx ry
    exact .inl ⟨rfl, w _ _ S (.refl ok) R_bl (by simpa using t)⟩
  · simp only [R] at rx ry; subst rx ry
    exact .inl ⟨rfl, w _ _ S (.refl ok) R_bl (by simpa using t)⟩
  · simp only [R] at rx ry; subst rx ry
    exact .inl ⟨rfl, w _ _ S (.refl ok) R_bl (by simpa using t)⟩
  · obtain ⟨⟨p1, s1⟩, ⟨p2, s2⟩, t⟩ := t
    exact .inr ⟨_, _, dp_vw ok p1 rx, dp_vw ok p2 ry, s1, s2, w _ _ S (.refl ok) R_bl (by simpa [eqD] using t)⟩
theorem ops_ne : OpS K (fun x y H Q => rNe x y H Q ∨ rNeD K x y H Q) dNe := by
  intro x y v u S P Q ok rx ry t w
  unfold dNe dEqN at t
  split at t
  · simp only [R] at rx ry; subst rx ry
    exact .inl ⟨rfl, w _ _ S (.refl ok) R_bl (by simpa using t)⟩
  · simp only [R] at rx ry; subst rx ry
    exact .inl ⟨rfl, w _ _ S (.refl ok) R_bl (by simpa using t)⟩
  · simp only [R] at rx ry; subst rx ry
    exact .inl ⟨rfl, w _ _ S (.refl ok) R_bl (by simpa using t)⟩
  · obtain ⟨⟨p1, s1⟩, ⟨p2, s2⟩, t⟩ := t
    exact .inr ⟨_, _, dp_vw ok p1 rx, dp_vw ok p2 ry, s1, s2, w _ _ S (.refl ok) R_bl (by simpa [eqD] using t)⟩
theorem op_eqA (hu : X.A.units + 64 < cLine) : OpR X (compareOp .Eq) (fun x y H Q => rEq x y H Q ∨ rEqD X.K x y H Q) := op_eq.or (op_eqD hu)
theorem op_neA (hu : X.A.units + 64 < cLine) : OpR X (compareOp .NotEq) (fun x y H Q => rNe x y H Q ∨ rNeD X.K x y H Q) := op_ne.or (op_neD hu)
/-- is None -/
def isN : D → Bool
  | .non => true
  | _ => false
def dIsN (neg : Bool) : D2 := fun x y C P => match y with
  | .non => (match x with | .val _ => False | _ => P (.bl (if neg then !isN x else isN x)) C)
  | _ => False
theorem isN_R {Hs : Hp} {x : D} {v : V} (h : R K Hs x v) (n : ∀ u, x ≠ .val u) : decide (v = .non) = isN x := by
  cases x with
  | non => simp only [R] at h; subst h; rfl
  | val u => exact absurd rfl (n u)
  | bl b => simp only [R] at h; subst h; rfl
  | int b => simp only [R] at h; subst h; rfl
  | str b => simp only [R] at h; subst h; rfl
  | cell b => simp only [R] at h; subst h; rfl
  | lst b => simp only [R] at h; obtain ⟨a, vs, rfl, _⟩ := h; rfl
  | tup b => simp only [R] at h; obtain ⟨a, vs, rfl, _⟩ := h; rfl
  | fro b => simp only [R] at h; obtain ⟨a, vs, rfl, _⟩ := h; rfl
  | dic b => simp only [R] at h; obtain ⟨a, o, vs, rfl, _⟩ := h; rfl
  | ins b c => simp only [R] at h; obtain ⟨a, o, vs, rfl, _⟩ := h; rfl
theorem ops_isN : OpS K (fun x y H Q => y = .non ∧ Q (.bl (decide (x = .non))) H) (dIsN false) := by
  intro x y v u S P Q ok rx ry t w
  unfold dIsN at t
  split at t
  · simp only [R] at ry
    refine ⟨ry, ?_⟩
    split at t
    · exact t.elim
    · rename_i n
      rw [isN_R rx n]
      exact w _ _ S (.refl ok) R_bl (by simpa using t)
  · exact t.elim
theorem ops_notN : OpS K (fun x y H Q => y = .non ∧ Q (.bl (!decide (x = .non))) H) (dIsN true) := by
  intro x y v u S P Q ok rx ry t w
  unfold dIsN at t
  split at t
  · simp only [R] at ry
    refine ⟨ry, ?_⟩
    split at t
    · exact t.elim
    · rename_i n
      rw [isN_R rx n]
      exact w _ _ S (.refl ok) R_bl (by simpa using t)
  · exact t.elim
/-! ### in -/
def flatD : D → Bool
  | .int _ => true
  | .str _ => true
  | _ => false
def eqF : D → D → Bool
  | .int a, .int b => a == b
  | .str a, .str b => a == b
  | _, _ => false
def inD (x : D) (ds : List D) : Bool := ds.any fun y => eqF y x
theorem flat_R {Hs : Hp} {x : D} {v : V} (h : R K Hs x v) (f : flatD x = true) : flatV v = true := by
  cases x <;> simp [flatD] at f <;> (simp only [R] at h; subst h; rfl)
theorem eqF_R {Hs : Hp} {x y : D} {v u : V} (h : R K Hs x v) (k : R K Hs y u) (f : flatD x = true) (g : flatD y = true) : eqV v u = eqF x y := by
  cases x <;> simp [flatD] at f <;> cases y <;> simp [flatD] at g <;> (simp only [R] at h k; subst h k; rfl)
theorem in_R {Hs : Hp} {x : D} {v : V} (h : R K Hs x v) (f : flatD x = true) : ∀ {ds : List D} {vs : List V}, RA K Hs ds vs → ds.all flatD = true → vs.all flatV = true ∧ inV v vs = inD x ds
  | [], vs, r, _ => by simp only [RA] at r; subst r; exact ⟨rfl, rfl⟩
  | d :: ds, vs, r, a => by
    simp only [RA] at r
    obtain ⟨u, s, rfl, r1, r2⟩ := r
    simp only [List.all_cons, Bool.and_eq_true] at a
    obtain ⟨h1, h2⟩ := in_R h f r2 a.2
    refine ⟨by simp [flat_R r1 a.1, h1], ?_⟩
    show (eqV u v || inV v s) = (eqF d x || inD x ds)
    rw [h2, eqF_R r1 h a.1 f]
def subS (a z : Str) : Bool := !(Builtin.Str.occurrences z a 0 z.length 1).isEmpty
def rInA (K : PySem.W.Frag) (neg : Bool) : R2 := fun x y H Q => rIn K neg x y H Q ∨ ∃ i j, x = .str i ∧ y = .str j ∧ Q (.bl (if neg then !subS i j else subS i j)) H
def dInN (neg : Bool) : D2 := fun x y C P => match vw C y with
  | .lst ds => flatD x = true ∧ ds.all flatD = true ∧ P (.bl (if neg then !inD x ds else inD x ds)) C
  | .tup ds => flatD x = true ∧ ds.all flatD = true ∧ P (.bl (if neg then !inD x ds else inD x ds)) C
  | .str z => (match x with | .str a => P (.bl (if neg then !subS a z else subS a z)) C | _ => False)
  | _ => False
theorem op_inA : OpR X (compareOp .In) (rInA X.K false) := by
  intro pins s σ H x y v u Q I rx ry h
  rcases h with h | ⟨i, j, e1, e2, h⟩
  · exact op_in_seq pins s σ H x y v u Q I rx ry h
  · exact op_in_str pins s σ H x y v u Q I rx ry ⟨i, j, e1, e2, by simpa [subS] using h⟩
theorem op_notInA : OpR X (compareOp .NotIn) (rInA X.K true) := by
  intro pins s σ H x y v u Q I rx ry h
  rcases h with h | ⟨i, j, e1, e2, h⟩
  · exact op_notIn_seq pins s σ H x y v u Q I rx ry h
  · exact op_notIn_str pins s σ H x y v u Q I rx ry ⟨i, j, e1, e2, by simpa [subS] using h⟩
theorem ops_in {neg : Bool} : OpS K (rInA K neg) (dInN neg) := by
  intro x y v u S P Q ok rx ry t w
  unfold dInN at t
  split at t
  · rename_i ds e
    obtain ⟨a, vs, rfl, h1, h2⟩ := vw_lst ok ry e
    obtain ⟨f, g, t⟩ := t
    obtain ⟨k1, k2⟩ := in_R rx f h2 g
    exact .inl ⟨a, vs, rfl, .inl (SqL.of h1), flat_R rx f, k1, by rw [k2]; exact w _ _ S (.refl ok) R_bl t⟩
  · rename_i ds e
    obtain ⟨a, vs, rfl, h1, h2⟩ := vw_tup ok ry e
    obtain ⟨f, g, t⟩ := t
    obtain ⟨k1, k2⟩ := in_R rx f h2 g
    exact .inl ⟨a, vs, rfl, .inr (SqT.of h1), flat_R rx f, k1, by rw [k2]; exact w _ _ S (.refl ok) R_bl t⟩
  · rename_i z e
    rw [vw_str e] at ry
    split at t
    · simp only [R] at rx ry
      exact .inr ⟨_, _, rx, ry, w _ _ S (.refl ok) R_bl t⟩
    · exact t.elim
  · exact t.elim
theorem subS_one (c : Nat) (z : Str) : subS ⟨#[c]⟩ z = decide (c ∈ z.cps.toList) := PySem.StrLaws.found_one z c
end

/-! ### items, slices -/
section
variable {K : PySem.W.Frag} {X : Cx}
theorem atI_R {Hs : Hp} {ds : List D} {vs : List V} {i : Int} {d : D} (r : RA K Hs ds vs) (h : atI ds i = some d) : ∃ v, atI vs i = some v ∧ R K Hs d v := by
  unfold atI at h ⊢
  rw [r.len]
  cases e : ixN ds.length i with
  | none => rw [e] at h; cases h
  | some j =>
    rw [e] at h
    exact r.get (i := j) h
theorem atI_0 {α : Type} (xs : List α) : atI xs 0 = xs[0]? := by
  unfold atI ixN
  cases xs with
  | nil => simp
  | cons x r => simp
theorem atI_nat' {α : Type} (xs : List α) (k : Nat) : atI xs (k : Int) = xs[k]? := by
  unfold atI ixN
  by_cases h : k < xs.length
  · simp [h]
  · simp [h, List.getElem?_eq_none (Nat.le_of_not_lt h)]
theorem atI_1 {α : Type} (xs : List α) : atI xs 1 = xs[1]? := atI_nat' xs 1
theorem atI_2 {α : Type} (xs : List α) : atI xs 2 = xs[2]? := atI_nat' xs 2
theorem atI_3 {α : Type} (xs : List α) : atI xs 3 = xs[3]? := atI_nat' xs 3
theorem atI_m1 {α : Type} (xs : List α) : atI xs (-1) = xs.getLast? := by
  unfold atI ixN
  cases xs with
  | nil => simp
  | cons x r =>
    have h1 : ¬ ((0 : Int) ≤ -1) := by omega
    have h2 : -(((x :: r).length : Nat) : Int) ≤ -1 := by simp only [List.length_cons]; omega
    rw [if_neg h1, if_pos h2]
    have h3 : (-1 + (((x :: r).length : Nat) : Int)).toNat = (x :: r).length - 1 := by simp only [List.length_cons]; omega
    rw [h3, List.getLast?_eq_getElem?]
    rfl
def dIx : D2 := fun x y C P => match vw C x, y with
  | .lst ds, .int i => opt (atI ds i) fun d => P d C
  | .tup ds, .int i => opt (atI ds i) fun d => P d C
  | .str z, .int i => z.length ≤ 1000000 ∧ opt (atI z.cps.toList i) fun c => P (.str ⟨#[c]⟩) C
  | _, _ => False
theorem ops_ix : OpS K (rIx K) dIx := by
  intro x y v u S P Q ok rx ry t w
  unfold dIx at t
  split at t
  · rename_i ds i e
    simp only [R] at ry
    obtain ⟨a, vs, rfl, h1, h2⟩ := vw_lst ok rx e
    obtain ⟨d, q, t⟩ := opt_of t
    obtain ⟨z, k1, k2⟩ := atI_R h2 q
    exact .inl ⟨a, vs, i, z, rfl, ry, SqL.of h1, k1, w _ d S (.refl ok) k2 t⟩
  · rename_i ds i e
    simp only [R] at ry
    obtain ⟨a, vs, rfl, h1, h2⟩ := vw_tup ok rx e
    obtain ⟨d, q, t⟩ := opt_of t
    obtain ⟨z, k1, k2⟩ := atI_R h2 q
    exact .inr (.inl ⟨a, vs, i, z, rfl, ry, SqT.of h1, k1, w _ d S (.refl ok) k2 t⟩)
  · rename_i z i e
    rw [vw_str e] at rx
    simp only [R] at rx ry
    obtain ⟨hz, t⟩ := t
    obtain ⟨c, q, t⟩ := opt_of t
    exact .inr (.inr ⟨z, i, c, rx, ry, mil hz, q, w _ _ S (.refl ok) R_str t⟩)
  · exact t.elim
theorem de_ix {a b : Expr} {ta tb : DT} {pos : Pos} (ha : DE X a ta) (hb : DE X b tb) (hs : PlainIx b := by exact fun _ _ => rfl) : DE X (.Subscript a b pos) (dOp dIx ta tb) :=
  pe_weak (pe_ix ix_seq ha hb hs) fun σ H Q h => lift_op ops_ix h
/-- an optional part of a slice -/
abbrev DO := Env → Cells → (Option Int → Cells → Prop) → Prop
def WishO (K : PySem.W.Frag) (S : W) (P : Option Int → Cells → Prop) (Q : Option Int → Hp → Prop) : Prop := ∀ o S', Step K S S' → P o S'.c → Q o S'.h
def liftO (K : PySem.W.Frag) (t : DO) : TO := fun σ H Q => ∃ ρ S P, S.h = H ∧ Sl K S.hs σ ρ ∧ Ok K S ∧ t ρ S.c P ∧ WishO K S P Q
def DPO (X : Cx) (e : Option Expr) (t : DO) : Prop := PO X e (liftO X.K t)
def dNoP : DO := fun _ C P => P none C
def dPart (t : DT) : DO := fun ρ C P => t ρ C fun d C1 => match d with
  | .int i => P (some i) C1
  | _ => False
theorem po_weak {e : Option Expr} {t t' : TO} (h : PO X e t) (w : ∀ σ H Q, t' σ H Q → t σ H Q) : PO X e t' := ⟨fun pins s σ H Q I q => h.run pins s σ H Q I (w σ H Q q)⟩
theorem dp_none : DPO X none dNoP := po_weak po_none fun σ H Q h => by
  obtain ⟨ρ, S, P, rfl, s, r, t, w⟩ := h
  exact w none S (.refl r) t
theorem dp_some {e : Expr} {t : DT} (h : DE X e t) : DPO X (some e) (dPart t) := po_weak (po_some h) fun σ H Q h => by
  obtain ⟨ρ, S, P, rfl, s, r, t, w⟩ := h
  refine ⟨ρ, S, _, rfl, s, r, t, fun v d S1 e1 rd t1 => ?_⟩
  cases d with
  | int i => exact ⟨i, by simpa [R] using rd, w (some i) S1 e1 t1⟩
  | _ => exact t1.elim
def cutD {α : Type} (xs : List α) (lo hi : Option Int) : List α := (xs.drop (HT.sIx xs.length 0 lo)).take (HT.sIx xs.length xs.length hi - HT.sIx xs.length 0 lo)
theorem cut_R {Hs : Hp} {ds : List D} {vs : List V} (r : RA K Hs ds vs) (lo hi : Option Int) : RA K Hs (cutD ds lo hi) (cutV vs lo hi) := by
  unfold cutD cutV
  rw [r.len]
  exact (r.drop _).take _
def dSl (t : DT) (lo hi : DO) : DT := fun ρ C P => t ρ C fun x C1 => lo ρ C1 fun l C2 => hi ρ C2 fun h C3 => match vw C3 x with
  | .lst ds => P (.lst (cutD ds l h)) C3
  | .fro ds => P (.lst (cutD ds l h)) C3
  | .tup ds => ¬ (HT.sIx ds.length 0 l = 0 ∧ HT.sIx ds.length ds.length h = ds.length) ∧ P (.tup (cutD ds l h)) C3
  | .str z => z.length ≤ 1000000 ∧ P (.str (cutS z l h)) C3
  | _ => False
def rSlA (K : PySem.W.Frag) : V → Option Int → Option Int → Hp → VK → Prop := fun x lo hi H Q => rSlL K x lo hi H Q ∨ rSlT K x lo hi H Q ∨ rSlS x lo hi H Q
theorem sl_all : SlR X (rSlA X.K) := sl_list.or (sl_tup.or sl_str)
theorem de_sl {e : Expr} {t : DT} {lo hi : Option Expr} {tl th : DO} {p2 pos : Pos} (h : DE X e t) (h1 : DPO X lo tl) (h2 : DPO X hi th) : DE X (.Subscript e (.Slice lo hi none p2) pos) (dSl t tl th) :=
  pe_weak (pe_slice sl_all h h1 h2) fun σ H Q q => by
    obtain ⟨ρ, S, P, rfl, s, r, t, w⟩ := q
    refine ⟨ρ, S, _, rfl, s, r, t, fun v x S1 e1 rx t1 => ?_⟩
    refine ⟨ρ, S1, _, rfl, s.ext e1.ext, e1.ok, t1, fun l S2 e2 t2 => ?_⟩
    refine ⟨ρ, S2, _, rfl, (s.ext e1.ext).ext e2.ext, e2.ok, t2, fun h S3 e3 t3 => ?_⟩
    have rx3 := R.ext (e2.trans e3).ext _ _ rx
    have w3 := w.st (e1.trans (e2.trans e3))
    split at t3
    · rename_i ds e
      obtain ⟨a, vs, rfl, k1, k2⟩ := vw_lst e3.ok rx3 e
      refine .inl ⟨a, vs, rfl, SqL.of k1, fun p hp => ?_⟩
      have st := e3.ok.new (o := .lst (cutV vs l h)) hp
      exact w3 _ (.lst (cutD ds l h)) _ st (by simp only [R]; exact ⟨p, _, rfl, upd_same, RA.ext st.ext _ _ (cut_R k2 l h)⟩) t3
    · rename_i ds e
      have ex : x = .fro ds := by
        cases x with
        | cell b =>
          simp only [vw] at e
          split at e <;> cases e
        | _ => exact e
      subst ex
      simp only [R] at rx3
      obtain ⟨a, vs, rfl, k1, k2⟩ := rx3
      have k1' : SqL X.K S3.h a vs := by
        rcases k1 with (k | ⟨o, k⟩) | k
        · exact .inl (.inl (e3.ok.le _ _ k))
        · exact .inl (.inr ⟨o, e3.ok.le _ _ k⟩)
        · exact .inr k
      refine .inl ⟨a, vs, rfl, k1', fun p hp => ?_⟩
      have st := e3.ok.new (o := .lst (cutV vs l h)) hp
      exact w3 _ (.lst (cutD ds l h)) _ st (by simp only [R]; exact ⟨p, _, rfl, upd_same, RA.ext st.ext _ _ (cut_R k2 l h)⟩) t3
    · rename_i ds e
      obtain ⟨a, vs, rfl, k1, k2⟩ := vw_tup e3.ok rx3 e
      obtain ⟨n, t3⟩ := t3
      refine .inr (.inl ⟨a, vs, rfl, SqT.of k1, by rw [k2.len]; exact n, fun p hp => ?_⟩)
      have st := e3.ok.new (o := .tup (cutV vs l h)) hp
      exact w3 _ (.tup (cutD ds l h)) _ st (by simp only [R]; exact ⟨p, _, rfl, upd_same, RA.ext st.ext _ _ (cut_R k2 l h)⟩) t3
    · rename_i z e
      rw [vw_str e] at rx3
      simp only [R] at rx3
      exact .inr (.inr ⟨z, rx3, mil t3.1, w3 _ _ S3 (.refl e3.ok) R_str t3.2⟩)
    · exact t3.elim
end

/-! ### built-in defs, classes, methods -/
abbrev DCl := List D → Cells → DK → Prop
def ClS (K : PySem.W.Frag) (r : List V → Hp → VK → Prop) (c : DCl) : Prop := ∀ ds vs S P Q, Ok K S → RA K S.hs ds vs → c ds S.c P → Wish K S P Q → r vs S.h Q
def dCB (c : DCl) (a : DA) : DT := fun ρ C P => a ρ C fun ds C1 => c ds C1 P
section
variable {X : Cx} {K : PySem.W.Frag} {r : List V → Hp → VK → Prop} {c : DCl} {x : Str} {e : Expr} {es : List Expr} {t : DA} {p pos : Pos}
theorem lift_cb (h : ClS K r c) {σ : St} {H : Hp} {Q : VK} (q : liftE K (dCB c t) σ H Q) : tCB r (liftA K t) σ H Q := by
  obtain ⟨ρ, S, P, rfl, s, rp, t, w⟩ := q
  exact ⟨ρ, S, _, rfl, s, rp, t, fun vs ds S1 e1 rs t1 => h ds vs S1 P Q e1.ok rs t1 (w.st e1)⟩
theorem de_cb {id : String} (hc : CallR X (.builtin id) r) (hs : ClS X.K r c) (hm : X.mg x = none) (hv : bootBuiltins x = some (.builtin id)) (ha : DAs X (e :: es) t) (hg : Gl X x := by rfl) (hn : x ≠ "__name__" := by decide) (hdb : (x == ("__debug__" : Str)) = false := by decide)
    (he : starEach (e :: es) X.env = (false, eval e X.env) :: starEach es X.env := by rfl) (hpl : (backTo pos (starEach es X.env)).any (·.1) = false := by rfl) : DE X (.Call (.Name x p) (e :: es) [] pos) (dCB c t) :=
  pe_weak (pe_callB hc hg hm hv ha hn hdb he hpl) fun σ H Q q => lift_cb hs q
theorem de_ct {T : String} (hc : CallR X (.type T) r) (hs : ClS X.K r c) (hm : X.mg x = none) (hv : bootBuiltins x = some (.type T)) (ha : DAs X (e :: es) t) (hg : Gl X x := by rfl) (hn : x ≠ "__name__" := by decide) (hdb : (x == ("__debug__" : Str)) = false := by decide)
    (he : starEach (e :: es) X.env = (false, eval e X.env) :: starEach es X.env := by rfl) (hpl : (backTo pos (starEach es X.env)).any (·.1) = false := by rfl) : DE X (.Call (.Name x p) (e :: es) [] pos) (dCB c t) :=
  pe_weak (pe_callTy hc hg hm hv ha hn hdb he hpl) fun σ H Q q => lift_cb hs q
end
end DL

set_option Elab.async false
set_option linter.all false
set_option maxRecDepth 100000
set_option maxHeartbeats 1000000
namespace DL
open PySem L2

/-- one argument, an int -/
def int1 (xs : List D) (k : Int → Prop) : Prop := match xs with
  | [.int n] => k n
  | _ => False
theorem int1_of {xs : List D} {k : Int → Prop} (h : int1 xs k) : ∃ n, xs = [.int n] ∧ k n := by
  unfold int1 at h
  split at h
  · exact ⟨_, rfl, h⟩
  · exact h.elim
/-! ### loops -/
/-- forgetting names and cells -/
def Wk (P : Env → Cells → Prop) : Env → Cells → Prop := fun ρ' C' => ∃ ρ C, Fg ρ ρ' ∧ Gh C' C ∧ P ρ C
theorem Wk.of {P : Env → Cells → Prop} {ρ : Env} {C : Cells} (h : P ρ C) : Wk P ρ C := ⟨ρ, C, Fg.refl ρ, Gh.refl C, h⟩
/-- the state of a loop: within the world that S0 grows to -/
def Turn (K : PySem.W.Frag) (S0 : W) (P : Env → Cells → Prop) (σ : St) (H : Hp) : Prop := ∃ ρ S, S.h = H ∧ Step K S0 S ∧ Sl K S.hs σ ρ ∧ P ρ S.c
theorem Turn.wk {K : PySem.W.Frag} {S0 S S' : W} {P : Env → Cells → Prop} {σ' : St} {ρ' : Env} (h0 : Step K S0 S) (e : Step K S S') (s : Sl K S'.hs σ' ρ') (h : Wk P ρ' S'.c) : Turn K S0 P σ' S'.h := by
  obtain ⟨ρ, C, f, b, p⟩ := h
  exact ⟨ρ, ⟨S'.hs, C, S'.h⟩, rfl, (h0.trans e).trans (e.ok.gh b), s.fg f, p⟩
/-- a loop over data, item by item -/
def loopN (ds : List D) (g : DG) (tb : DS) : DS := fun E ρ C => ∃ I : Nat → Env → Cells → Prop, I 0 ρ C ∧
  (∀ i d ρ C, ds[i]? = some d → I i ρ C → g d ρ C fun ρ1 C1 => tb { nx := Wk (I (i + 1)), rt := E.rt, bk := E.nx, ct := Wk (I (i + 1)) } ρ1 C1) ∧ ∀ ρ C, I ds.length ρ C → E.nx ρ C
/-- what a turn does, over the hand layer -/
theorem turn_ok {K : PySem.W.Frag} {g : DG} {tb : DS} {E : DEnds} {F : Ends} {S0 : W} (w : EndsOk K S0 E F) {Nx : Env → Cells → Prop} {d : D} {v : V} {σ : St} {ρ : Env} {S : W} (h0 : Step K S0 S) (s : Sl K S.hs σ ρ) (rd : R K S.hs d v)
    (t : g d ρ S.c fun ρ1 C1 => tb { nx := Wk Nx, rt := E.rt, bk := E.nx, ct := Wk Nx } ρ1 C1) :
    liftG K g v σ S.h fun σ2 H2 => liftS K tb { F with nx := Turn K S0 Nx, ct := Turn K S0 Nx, bk := F.nx } σ2 H2 := by
  refine ⟨ρ, S, d, _, rfl, s, h0.ok, rd, t, fun ρ1 σ1 S1 e1 s1 t1 => ?_⟩
  refine ⟨ρ1, S1, _, rfl, s1, e1.ok, t1, ⟨fun ρ2 σ2 S2 e2 s2 t2 => ?_, w.rt.st (h0.trans e1), w.nx.st (h0.trans e1), fun ρ2 σ2 S2 e2 s2 t2 => ?_⟩⟩
  · exact Turn.wk (h0.trans e1) e2 s2 t2
  · exact Turn.wk (h0.trans e1) e2 s2 t2
section
variable {X : Cx} {tg iter : Expr} {body : List Stmt} {g : DG} {tb : DS} {pos : Pos}
def dForL (t : DT) (g : DG) (tb : DS) : DS := fun E ρ C => t ρ C fun x C1 => match x with
  | .lst ds => loopN ds g tb E ρ C1
  | _ => False
def dForT (t : DT) (g : DG) (tb : DS) : DS := fun E ρ C => t ρ C fun x C1 => match x with
  | .tup ds => loopN ds g tb E ρ C1
  | _ => False
def dForR1 (t : DA) (g : DG) (tb : DS) : DS := fun E ρ C => t ρ C fun xs C1 => int1 xs fun n => n ≤ 1000000000 ∧ -1000000000 ≤ n ∧ loopN ((List.range n.toNat).map fun (i : Nat) => D.int (i : Int)) g tb E ρ C1
theorem ds_forL {t : DT} (hc : X.calm = true) (hi : DE X iter t) (hg : DGt X tg g) (hb : DSs X body tb) (hp : PassesOwn (model X.prog X.w) X.A X.env X.xe := by exact PassesOwn.never)
    (hs : ∀ x, foldedSetIterable iter X.env x = pure x := by intro _; rfl) : DSt X (.For tg iter body [] pos) (dForL t g tb) := by
  refine ps_weak (ps_for hp hc (pi_list hi) hg hb hs) fun F σ H q => ?_
  obtain ⟨ρ, S, E, rfl, s, r, t, w⟩ := q
  refine ⟨ρ, S, _, rfl, s, r, t, fun v d S1 e1 rd t1 => ?_⟩
  cases d with
  | lst ds =>
    have rd0 := rd
    simp only [R] at rd
    obtain ⟨a, vs, rfl, h1, h2⟩ := rd
    obtain ⟨I, i0, it, ie⟩ := t1
    refine ⟨a, rfl, ⟨vs, SqL.of (e1.ok.le _ _ h1)⟩, for_list (K := X.K) (a := a) (xs := vs) (fun i σ H => Turn X.K S1 (I i) σ H) ⟨ρ, S1, rfl, .refl e1.ok, s.ext e1.ext, i0⟩ (fun i σ' H' _ T => ?_) (fun i x σ' H' hx T => ?_) (fun σ' H' T => ?_)⟩
    · obtain ⟨ρ', S', rfl, st, _, _⟩ := T
      exact SqL.of (st.ok.le _ _ (st.ext.lst h1))
    · obtain ⟨ρ', S', rfl, st, s', p⟩ := T
      obtain ⟨d, hd, hr⟩ := h2.getV hx
      exact turn_ok (w.st e1) st s' (R.ext st.ext _ _ hr) (it i d ρ' _ hd p)
    · obtain ⟨ρ', S', rfl, st, s', p⟩ := T
      rw [h2.len] at p
      exact w.nx ρ' σ' S' (e1.trans st) s' (ie _ _ p)
  | _ => exact t1.elim
theorem ds_forT {t : DT} (hc : X.calm = true) (hi : DE X iter t) (hg : DGt X tg g) (hb : DSs X body tb) (hp : PassesOwn (model X.prog X.w) X.A X.env X.xe := by exact PassesOwn.never)
    (hs : ∀ x, foldedSetIterable iter X.env x = pure x := by intro _; rfl) : DSt X (.For tg iter body [] pos) (dForT t g tb) := by
  refine ps_weak (ps_for hp hc (pi_tup hi) hg hb hs) fun F σ H q => ?_
  obtain ⟨ρ, S, E, rfl, s, r, t, w⟩ := q
  refine ⟨ρ, S, _, rfl, s, r, t, fun v d S1 e1 rd t1 => ?_⟩
  cases d with
  | tup ds =>
    simp only [R] at rd
    obtain ⟨a, vs, rfl, h1, h2⟩ := rd
    obtain ⟨I, i0, it, ie⟩ := t1
    refine ⟨a, rfl, ⟨vs, SqT.of (e1.ok.le _ _ h1)⟩, for_tup (K := X.K) (a := a) (xs := vs) (fun i σ H => Turn X.K S1 (I i) σ H) ⟨ρ, S1, rfl, .refl e1.ok, s.ext e1.ext, i0⟩ (fun i σ' H' _ T => ?_) (fun i x σ' H' hx T => ?_) (fun σ' H' T => ?_)⟩
    · obtain ⟨ρ', S', rfl, st, _, _⟩ := T
      exact SqT.of (st.ok.le _ _ (st.ext.tup h1))
    · obtain ⟨ρ', S', rfl, st, s', p⟩ := T
      obtain ⟨d, hd, hr⟩ := h2.getV hx
      exact turn_ok (w.st e1) st s' (R.ext st.ext _ _ hr) (it i d ρ' _ hd p)
    · obtain ⟨ρ', S', rfl, st, s', p⟩ := T
      rw [h2.len] at p
      exact w.nx ρ' σ' S' (e1.trans st) s' (ie _ _ p)
  | _ => exact t1.elim
theorem ds_forR1 {a : Expr} {t : DA} {p : Pos} (hc : X.calm = true) (hm : X.mg "range" = none) (ha : DAs X [a] t) (hg : DGt X tg g) (hb : DSs X body tb) (hgl : Gl X "range" := by rfl) (hp : PassesOwn (model X.prog X.w) X.A X.env X.xe := by exact PassesOwn.never)
    (hse : starEach [a] X.env = [(false, eval a X.env)] := by rfl) (hs : ∀ x, foldedSetIterable (.Call (.Name "range" p) [a] [] pos) X.env x = pure x := by intro _; rfl) {pos' : Pos} : DSt X (.For tg (.Call (.Name "range" p) [a] [] pos) body [] pos') (dForR1 t g tb) := by
  refine ps_weak (ps_for hp hc (pi_range1 hgl hm ha hse) hg hb hs) fun F σ H q => ?_
  obtain ⟨ρ, S, E, rfl, s, r, t, w⟩ := q
  refine ⟨ρ, S, _, rfl, s, r, t, fun vs ds S1 e1 rs t1 => ?_⟩
  · obtain ⟨n, rfl, t1⟩ := int1_of t1
    simp only [RA, R] at rs
    obtain ⟨v, _, rfl, rfl, rfl⟩ := rs
    obtain ⟨z1, z2, I, i0, it, ie⟩ := t1
    refine ⟨n, rfl, by omega, by omega, for_range (lo := 0) (n := n.toNat) (fun i σ H => Turn X.K S1 (I i) σ H) ⟨ρ, S1, rfl, .refl e1.ok, s.ext e1.ext, i0⟩ (fun i σ' H' hx T => ?_) (fun σ' H' T => ?_)⟩
    · obtain ⟨ρ', S', rfl, st, s', p⟩ := T
      refine turn_ok (w.st e1) st s' (d := .int (i : Int)) (by rw [Int.zero_add]; exact R_int) (it i _ ρ' _ ?_ p)
      simp [hx]
    · obtain ⟨ρ', S', rfl, st, s', p⟩ := T
      refine w.nx ρ' σ' S' (e1.trans st) s' (ie _ _ ?_)
      simpa using p
/-- while -/
def dWhile (c : DB) (tb : DS) : DS := fun E ρ C => ∃ I : Nat → Env → Cells → Prop, (∃ m, I m ρ C) ∧ ∀ m ρ C, I m ρ C →
  c ρ C fun b C1 => if b = true then tb { nx := Wk fun ρ C => ∃ m', m' < m ∧ I m' ρ C, rt := E.rt, bk := E.nx, ct := Wk fun ρ C => ∃ m', m' < m ∧ I m' ρ C } ρ C1 else E.nx ρ C1
theorem ds_while {c : Expr} {tc : DB} (hc : DC X c tc) (hb : DSs X body tb) (hp : PassesOwn (model X.prog X.w) X.A X.env X.xe := by exact PassesOwn.never) : DSt X (.While c body [] pos) (dWhile tc tb) := by
  refine ps_weak (ps_while hp hc hb) fun F σ H q => ?_
  obtain ⟨ρ, S, E, rfl, s, r, ⟨I, ⟨m0, i0⟩, t⟩, w⟩ := q
  refine ⟨fun m σ H => Turn X.K S (I m) σ H, ⟨m0, ρ, S, rfl, .refl r, s, i0⟩, fun m σ' H' T => ?_⟩
  obtain ⟨ρ', S', rfl, st, s', p⟩ := T
  refine ⟨ρ', S', _, rfl, s', st.ok, t m ρ' _ p, fun b S1 e1 t1 => ?_⟩
  cases b with
  | true =>
    rw [if_pos rfl]
    refine ⟨Turn X.K S (fun ρ C => ∃ m', m' < m ∧ I m' ρ C), fun σ2 H2 T => ?_, ?_⟩
    · obtain ⟨ρ2, S2, rfl, st2, s2, m', hm, p2⟩ := T
      exact ⟨m', hm, ρ2, S2, rfl, st2, s2, p2⟩
    · refine ⟨ρ', S1, { nx := Wk fun ρ C => ∃ m', m' < m ∧ I m' ρ C, rt := E.rt, bk := E.nx, ct := Wk fun ρ C => ∃ m', m' < m ∧ I m' ρ C }, rfl, s'.ext e1.ext, e1.ok, by simpa using t1, ⟨fun ρ2 σ2 S2 e2 s2 t2 => ?_, w.rt.st (st.trans e1), w.nx.st (st.trans e1), fun ρ2 σ2 S2 e2 s2 t2 => ?_⟩⟩
      · exact Turn.wk (st.trans e1) e2 s2 t2
      · exact Turn.wk (st.trans e1) e2 s2 t2
  | false =>
    rw [if_neg Bool.false_ne_true]
    exact w.nx ρ' σ' S1 (st.trans e1) (s'.ext e1.ext) (by simpa using t1)
end

/-! ### list comprehensions with one name -/
def DPs (X : Cx) (ifs : List Expr) (t : DB) : Prop := PTs X ifs (liftB X.K t)
theorem pts_weak {X : Cx} {e : List Expr} {t t' : TT} (h : PTs X e t) (w : ∀ σ H Q, t' σ H Q → t σ H Q) : PTs X e t' := ⟨fun pins s σ H Q I q => h.run pins s σ H Q I (w σ H Q q)⟩
def dYes : DB := fun _ C P => P true C
section
variable {X : Cx}
theorem dp_nil : DPs X [] dYes := pts_weak pts_nil fun σ H Q h => by
  obtain ⟨ρ, S, P, rfl, s, r, t, w⟩ := h
  exact w true S (.refl r) t
theorem dp_one {c : Expr} {t : DB} (h : DC X c t) : DPs X [c] t := pts_one h
end
/-- item by item; j: the name's place -/
def compN (ds : List D) (j : Nat) (tt : DB) (te : DT) : DT := fun ρ C P => ∃ I : Nat → List D → Cells → Prop, I 0 [] C ∧
  (∀ i d acc C, ds[i]? = some d → I i acc C → tt (ρ.set j (some d)) C fun b C1 => if b = true then te (ρ.set j (some d)) C1 fun y C2 => acc.length < 1000000 ∧ ∃ C3, Gh C2 C3 ∧ I (i + 1) (acc ++ [y]) C3 else ∃ C3, Gh C1 C3 ∧ I (i + 1) acc C3) ∧ ∀ acc C', I ds.length acc C' → P (.lst acc) C'
/-- the comprehension's state: the list at Dl is neither shared nor a cell -/
def CTurn (K : PySem.W.Frag) (S0 : W) (Dl : Addr) (I : List D → Cells → Prop) (H : Hp) : Prop := ∃ S acc vs, S.h = H ∧ Step K S0 S ∧ S.h Dl = some (.lst vs) ∧ S.hs Dl = none ∧ S.c Dl = none ∧ S0.h Dl = none ∧ RA K S.hs acc vs ∧ I acc S.c
theorem slot_wipe {K : PySem.W.Frag} {Hs : Hp} {σ : St} {ρ : Env} {j : Nat} {d : D} {v : V} (s : Sl K Hs σ ρ) (h : R K Hs d v) : Sl K Hs ((wipe σ [j]).set j (some v)) (ρ.set j (some d)) := by
  have e : (wipe σ [j]).set j (some v) = σ.set j (some v) := by
    show (σ.set j none).set j (some v) = σ.set j (some v)
    rw [List.set_set]
  rw [e]
  exact s.set h
theorem wipe_back {σ : St} {j : Nat} {v : V} : wipe ((wipe σ [j]).set j (some v)) [j] = wipe σ [j] := by
  show ((σ.set j none).set j (some v)).set j none = σ.set j none
  rw [List.set_set, List.set_set]
/-- one turn -/
theorem cturn_ok {K : PySem.W.Frag} {tt : DB} {te : DT} {S0 : W} {Dl : Addr} {j : Nat} {ρ : Env} {σ : St} {I I' : List D → Cells → Prop} (s0 : Sl K S0.hs σ ρ) {d : D} {v : V} {H : Hp} (T : CTurn K S0 Dl I H) (rd : ∀ Hs, Ext S0.hs Hs → R K Hs d v)
    (t : ∀ acc C, I acc C → tt (ρ.set j (some d)) C fun b C1 => if b = true then te (ρ.set j (some d)) C1 fun y C2 => acc.length < 1000000 ∧ ∃ C3, Gh C2 C3 ∧ I' (acc ++ [y]) C3 else ∃ C3, Gh C1 C3 ∧ I' acc C3) :
    gName j v (wipe σ [j]) H fun σ2 H2 => wipe σ2 [j] = wipe σ [j] ∧ liftB K tt σ2 H2 fun b H3 => if b = true then liftE K te σ2 H3 fun y H4 => ∃ acc, H4 Dl = some (.lst acc) ∧ acc.length < sizeLine ∧ CTurn K S0 Dl I' (upd H4 Dl (.lst (acc ++ [y]))) else CTurn K S0 Dl I' H3 := by
  obtain ⟨S, acc, vs, rfl, st, h1, h2, h3, h5, ra, p⟩ := T
  refine ⟨wipe_back, ?_⟩
  have s1 : Sl K S.hs ((wipe σ [j]).set j (some v)) (ρ.set j (some d)) := slot_wipe (s0.ext st.ext) (rd _ st.ext)
  refine ⟨_, S, _, rfl, s1, st.ok, t acc S.c p, fun b S1 e1 t1 => ?_⟩
  obtain ⟨q1, q2, q3⟩ := e1.fr Dl _ h1 h2 h3
  cases b with
  | true =>
    rw [if_pos rfl] at t1
    rw [if_pos rfl]
    refine ⟨_, S1, _, rfl, s1.ext e1.ext, e1.ok, t1, fun y dy S2 e2 ry t2 => ?_⟩
    obtain ⟨hl, C3, gh, p2⟩ := t2
    have e3 := e2.ok.gh gh
    obtain ⟨k1, k2, k3⟩ := (e2.trans e3).fr Dl _ q1 q2 q3
    have z : vs.length < sizeLine := by rw [ra.len, sizeLine_eq]; omega
    have e4 := e1.trans (e2.trans e3)
    refine ⟨vs, k1, z, ⟨S2.hs, C3, upd S2.h Dl (.lst (vs ++ [y]))⟩, acc ++ [dy], vs ++ [y], rfl, ⟨st.ext.trans e4.ext, fun b o g1 g2 g3 => ?_, e3.ok.other k2 k3⟩, upd_same, k2, k3, h5, (RA.ext e4.ext _ _ ra).append (RA.cons (R.ext e3.ext _ _ ry) RA.nil), p2⟩
    have hb : b ≠ Dl := fun q => by rw [q, h5] at g1; cases g1
    obtain ⟨m1, m2, m3⟩ := (st.trans e4).fr b o g1 g2 g3
    exact ⟨(upd_ne hb).trans m1, m2, m3⟩
  | false =>
    rw [if_neg Bool.false_ne_true] at t1
    rw [if_neg Bool.false_ne_true]
    obtain ⟨C3, gh, p2⟩ := t1
    have e3 := e1.ok.gh gh
    obtain ⟨k1, k2, k3⟩ := e3.fr Dl _ q1 q2 q3
    exact ⟨⟨S1.hs, C3, S1.h⟩, acc, vs, rfl, st.trans (e1.trans e3), k1, k2, k3, h5, RA.ext (e1.trans e3).ext _ _ ra, p2⟩
theorem CTurn.start {K : PySem.W.Frag} {S0 : W} {Dl : Addr} {I : List D → Cells → Prop} (ok : Ok K S0) (h : S0.h Dl = none) (p : I [] S0.c) : CTurn K S0 Dl I (upd S0.h Dl (.lst [])) := by
  refine ⟨⟨S0.hs, S0.c, upd S0.h Dl (.lst [])⟩, [], [], rfl, ⟨Ext.refl _, fun b o g1 g2 g3 => ⟨(upd_ne (ne_of_none g1 h)).trans g1, g2, g3⟩, ok.other (ok.fresh h) (ok.freshC h)⟩, upd_same, ok.fresh h, ok.freshC h, h, RA.nil, p⟩
/-- the made list is shared -/
theorem CTurn.done {K : PySem.W.Frag} {S0 : W} {Dl : Addr} {I : List D → Cells → Prop} {H : Hp} {P : DK} {Q : VK} (T : CTurn K S0 Dl I H) (w : Wish K S0 P Q) (h : ∀ acc C, I acc C → P (.lst acc) C) : Q (.ref Dl) H := by
  obtain ⟨S, acc, vs, rfl, st, h1, h2, h3, h5, ra, p⟩ := T
  have hf : ∀ b u, upd S.hs Dl (.lst vs) b = some u → S.h b = some u := fun b u e => by
    by_cases hb : b = Dl
    · subst hb; rw [upd_same] at e; cases e; exact h1
    · rw [upd_ne hb] at e; exact st.ok.le b u e
  have x : Ext S.hs (upd S.hs Dl (.lst vs)) := Ext.new h2
  refine w (.ref Dl) (.lst acc) ⟨upd S.hs Dl (.lst vs), S.c, S.h⟩ ⟨st.ext.trans x, fun b o g1 g2 g3 => ?_, ⟨hf, fun b c g => ?_⟩⟩ ?_ (h acc _ p)
  · obtain ⟨m1, m2, m3⟩ := st.fr b o g1 g2 g3
    have hb : b ≠ Dl := fun q => by rw [q, h5] at g1; cases g1
    exact ⟨m1, (upd_ne hb).trans m2, m3⟩
  · have hb : b ≠ Dl := fun q => by
      have g' : S.c b = some c := g
      rw [q, h3] at g'; cases g'
    obtain ⟨k1, k2⟩ := st.ok.cell b c g
    exact ⟨(upd_ne hb).trans k1, k2.move x rfl⟩
  · simp only [R]
    exact ⟨Dl, vs, rfl, upd_same, RA.ext x _ _ ra⟩
section
variable {X : Cx} {elt tg iter : Expr} {ifs : List Expr} {scope : Scope} {pos : Pos} {j : Nat} {x : Str} {px : Pos} {tt : DB} {te : DT}
def dLcL (t : DT) (j : Nat) (tt : DB) (te : DT) : DT := fun ρ C P => t ρ C fun y C1 => match y with
  | .lst ds => compN ds j tt te ρ C1 P
  | _ => False
theorem iList_lift {t : DT} {σ : St} {H : Hp} {Q : VK} (q : liftE X.K (dLcL t j tt te) σ H Q) : tLc (iList X.K (liftE X.K t)) (gName j) (liftB X.K tt) (liftE X.K te) [j] σ H Q := by
  obtain ⟨ρ, S, P, rfl, s, r, t, w⟩ := q
  refine ⟨ρ, S, _, rfl, s, r, t, fun v d S1 e1 rd t1 => ?_⟩
  cases d with
  | lst ds =>
    simp only [R] at rd
    obtain ⟨a, vs, rfl, h1, h2⟩ := rd
    obtain ⟨I, i0, it, ie⟩ := t1
    refine ⟨a, rfl, ⟨vs, SqL.of (e1.ok.le _ _ h1)⟩, fun Dl hD => lc_list (K := X.K) (a := a) (xs := vs) (fun i H => CTurn X.K S1 Dl (I i) H) (CTurn.start e1.ok hD i0) (fun i H _ T => ?_) (fun i x H hx T => ?_) (fun H T => ?_)⟩
    · obtain ⟨S', _, _, rfl, st, _⟩ := T
      exact SqL.of (st.ok.le _ _ (st.ext.lst h1))
    · obtain ⟨d, hd, hr⟩ := h2.getV hx
      exact cturn_ok (s.ext e1.ext) T (fun Hs e => R.ext e _ _ hr) (fun acc C p => it i d acc C hd p)
    · refine T.done (w.st e1) fun acc C p => ie acc C ?_
      rw [h2.len] at p; exact p
  | _ => exact t1.elim
theorem de_lcL {t : DT} (hc : X.calm = true) (hN : X.N.Nodup) (hi : DE X iter t) (ok : blkC X.N X.env.scope scope [(x, j)] = true)
    (hg : ∀ (s : Shared) (H : Hp) (C : Addr) (cl : List (Str × Addr)) (fp : List Addr), PG (X.blk s H scope (compEnvC scope cl C X.env) fp) (.Name x px) (gName j))
    (ht : ∀ (s : Shared) (H : Hp) (C : Addr) (cl : List (Str × Addr)) (fp : List Addr), DPs (X.blk s H scope (compEnvC scope cl C X.env) fp) ifs tt)
    (he : ∀ (s : Shared) (H : Hp) (C : Addr) (cl : List (Str × Addr)) (fp : List Addr), DE (X.blk s H scope (compEnvC scope cl C X.env) fp) elt te) (hs : ∀ x, foldedSetIterable iter X.env x = pure x := by intro _; rfl) :
    DE X (.ListComp elt [⟨.Name x px, iter, ifs, 0⟩] scope pos) (dLcL t j tt te) :=
  pe_weak (pe_lc (own := [(x, j)]) (tt := liftB X.K tt) (te := liftE X.K te) hc hN (pi_list hi) (blkOk_by ok) hg ht he hs) fun σ H Q q => iList_lift q
theorem ds_setLcL {t : DT} {i : Nat} {y : Str} {py spos : Pos} (hc : X.calm = true) (hN : X.N.Nodup) (hi : DE X iter t) (ok : blkC X.N X.env.scope scope [(x, j)] = true)
    (hg : ∀ (s : Shared) (H : Hp) (C : Addr) (cl : List (Str × Addr)) (fp : List Addr), PG (X.blk s H scope (compEnvC scope cl C X.env) fp) (.Name x px) (gName j))
    (ht : ∀ (s : Shared) (H : Hp) (C : Addr) (cl : List (Str × Addr)) (fp : List Addr), DPs (X.blk s H scope (compEnvC scope cl C X.env) fp) ifs tt)
    (he : ∀ (s : Shared) (H : Hp) (C : Addr) (cl : List (Str × Addr)) (fp : List Addr), DE (X.blk s H scope (compEnvC scope cl C X.env) fp) elt te) (hy : X.N[i]? = some y := by rfl) (hyl : X.env.scope.names.lookup y = some .local := by rfl)
    (hsw : swapsWith (.ListComp elt [⟨.Name x px, iter, ifs, 0⟩] scope pos) (some (.Name y py)) spos.line X.env = pure true := by exact sw_true rfl rfl rfl (by decide +kernel)) (hs : ∀ x, foldedSetIterable iter X.env x = pure x := by intro _; rfl) :
    DSt X (.Assign [.Name y py] (.ListComp elt [⟨.Name x px, iter, ifs, 0⟩] scope pos) spos) (dAsg (dLcL t j tt te) (dName i)) := by
  refine ps_weak (ps_setLc (own := [(x, j)]) (tt := liftB X.K tt) (te := liftE X.K te) hc hN hy hyl hsw (pi_list hi) (blkOk_by ok) hg ht he hs) fun F σ H q => ?_
  obtain ⟨ρ, S, E, rfl, s, r, t, w⟩ := q
  refine iList_lift (X := X) ⟨ρ, S, _, rfl, s, r, t, fun v d S1 e1 rd t1 => ?_⟩
  exact w.nx _ _ S1 e1 ((s.ext e1.ext).set rd) t1
/-- over a range -/
def dLcR1 (t : DA) (j : Nat) (tt : DB) (te : DT) : DT := fun ρ C P => t ρ C fun ys C1 => int1 ys fun n => n ≤ 1000000 ∧ -1000000 ≤ n ∧ compN ((List.range n.toNat).map fun (i : Nat) => D.int (i : Int)) j tt te ρ C1 P
theorem iRng_lift {t : DA} {σ : St} {H : Hp} {Q : VK} (q : liftE X.K (dLcR1 t j tt te) σ H Q) : tLc (iRng1 (liftA X.K t)) (gName j) (liftB X.K tt) (liftE X.K te) [j] σ H Q := by
  obtain ⟨ρ, S, P, rfl, s, r, t, w⟩ := q
  refine ⟨ρ, S, _, rfl, s, r, t, fun vs ds S1 e1 rs t1 => ?_⟩
  · obtain ⟨n, rfl, t1⟩ := int1_of t1
    simp only [RA, R] at rs
    obtain ⟨v, _, rfl, rfl, rfl⟩ := rs
    obtain ⟨z1, z2, I, i0, it, ie⟩ := t1
    refine ⟨n, rfl, by omega, by omega, fun Dl hD => lc_range (lo := 0) (n := n.toNat) (fun i H => CTurn X.K S1 Dl (I i) H) (CTurn.start e1.ok hD i0) (fun i H hx T => ?_) (fun H T => ?_)⟩
    · refine cturn_ok (d := .int (i : Int)) (s.ext e1.ext) T (fun Hs e => by rw [Int.zero_add]; exact R_int) (fun acc C p => it i _ acc C ?_ p)
      simp [hx]
    · refine T.done (w.st e1) fun acc C p => ie acc C ?_
      simpa using p
theorem de_lcR1 {a : Expr} {t : DA} {p ipos : Pos} (hc : X.calm = true) (hN : X.N.Nodup) (hm : X.mg "range" = none) (ha : DAs X [a] t) (ok : blkC X.N X.env.scope scope [(x, j)] = true)
    (hg : ∀ (s : Shared) (H : Hp) (C : Addr) (cl : List (Str × Addr)) (fp : List Addr), PG (X.blk s H scope (compEnvC scope cl C X.env) fp) (.Name x px) (gName j))
    (ht : ∀ (s : Shared) (H : Hp) (C : Addr) (cl : List (Str × Addr)) (fp : List Addr), DPs (X.blk s H scope (compEnvC scope cl C X.env) fp) ifs tt)
    (he : ∀ (s : Shared) (H : Hp) (C : Addr) (cl : List (Str × Addr)) (fp : List Addr), DE (X.blk s H scope (compEnvC scope cl C X.env) fp) elt te) (hgl : Gl X "range" := by rfl) (hse : starEach [a] X.env = [(false, eval a X.env)] := by rfl)
    (hs : ∀ x, foldedSetIterable (.Call (.Name "range" p) [a] [] ipos) X.env x = pure x := by intro _; rfl) :
    DE X (.ListComp elt [⟨.Name x px, .Call (.Name "range" p) [a] [] ipos, ifs, 0⟩] scope pos) (dLcR1 t j tt te) :=
  pe_weak (pe_lc (own := [(x, j)]) (tt := liftB X.K tt) (te := liftE X.K te) hc hN (pi_range1 hgl hm ha hse) (blkOk_by ok) hg ht he hs) fun σ H Q q => iRng_lift q
/-- over a text, sign by sign -/
def chars (z : Str) : List D := z.cps.toList.map fun c => D.str ⟨#[c]⟩
def dLcS (t : DT) (j : Nat) (tt : DB) (te : DT) : DT := fun ρ C P => t ρ C fun y C1 => match y with
  | .str z => compN (chars z) j tt te ρ C1 P
  | _ => False
theorem de_lcS {t : DT} (hc : X.calm = true) (hN : X.N.Nodup) (hi : DE X iter t) (ok : blkC X.N X.env.scope scope [(x, j)] = true)
    (hg : ∀ (s : Shared) (H : Hp) (C : Addr) (cl : List (Str × Addr)) (fp : List Addr), PG (X.blk s H scope (compEnvC scope cl C X.env) fp) (.Name x px) (gName j))
    (ht : ∀ (s : Shared) (H : Hp) (C : Addr) (cl : List (Str × Addr)) (fp : List Addr), DPs (X.blk s H scope (compEnvC scope cl C X.env) fp) ifs tt)
    (he : ∀ (s : Shared) (H : Hp) (C : Addr) (cl : List (Str × Addr)) (fp : List Addr), DE (X.blk s H scope (compEnvC scope cl C X.env) fp) elt te) (hs : ∀ x, foldedSetIterable iter X.env x = pure x := by intro _; rfl) :
    DE X (.ListComp elt [⟨.Name x px, iter, ifs, 0⟩] scope pos) (dLcS t j tt te) :=
  pe_weak (pe_lc (own := [(x, j)]) (tt := liftB X.K tt) (te := liftE X.K te) hc hN (pi_str hi) (blkOk_by ok) hg ht he hs) fun σ H Q q => by
    obtain ⟨ρ, S, P, rfl, s, r, t, w⟩ := q
    refine ⟨ρ, S, _, rfl, s, r, t, fun v d S1 e1 rd t1 => ?_⟩
    cases d with
    | str z =>
      simp only [R] at rd
      subst rd
      obtain ⟨I, i0, it, ie⟩ := t1
      refine ⟨z, rfl, fun Dl hD => ⟨fun i m H => m = z.cps.size - i ∧ i ≤ z.cps.size ∧ CTurn X.K S1 Dl (I i) H, ⟨z.cps.size, by simp, Nat.zero_le _, CTurn.start e1.ok hD i0⟩, ?_⟩⟩
      rintro i m H ⟨rfl, hi', T⟩
      by_cases hlt : i < z.cps.size
      · refine .inr ⟨hlt, fun H' => CTurn X.K S1 Dl (I (i + 1)) H', fun H' p' => ⟨z.cps.size - (i + 1), by omega, rfl, hlt, p'⟩, fun x H' y => ?_⟩
        obtain ⟨rfl, c, hcc, rfl⟩ := y
        refine cturn_ok (d := .str ⟨#[c]⟩) (s.ext e1.ext) T (fun Hs e => R_str) (fun acc C p => it i _ acc C ?_ p)
        unfold chars
        rw [List.getElem?_map, Array.getElem?_toList, hcc]
        rfl
      · have e : i = z.cps.size := by omega
        subst e
        refine .inl ⟨Nat.le_refl _, T.done (w.st e1) fun acc C p => ie acc C ?_⟩
        simpa [chars] using p
    | _ => exact t1.elim
end
/-- a comprehension that gives a list told ahead, nothing drawn: from one function for the tests and one for the items -/
theorem compN_det {ds : List D} {j : Nat} {tt : DB} {te : DT} {ρ : Env} {C : Cells} {P : DK} (b : D → Bool) (f : D → D) (hl : ds.length ≤ 1000000)
    (h : ∀ (i : Nat) d (P' : Bool → Cells → Prop), ds[i]? = some d → P' (b d) C → tt (ρ.set j (some d)) C P')
    (k : ∀ (i : Nat) d (P' : DK), ds[i]? = some d → b d = true → P' (f d) C → te (ρ.set j (some d)) C P') (q : P (.lst ((ds.filter b).map f)) C) : compN ds j tt te ρ C P := by
  have hf : ∀ (i : Nat) d, ds[i]? = some d → (ds.take (i + 1)).filter b = (ds.take i).filter b ++ (if b d = true then [d] else []) := fun i d e => by
    rw [List.take_add_one, e, List.filter_append]
    congr 1
    simp only [Option.toList, List.filter_cons, List.filter_nil]
  refine ⟨fun i acc C' => acc = ((ds.take i).filter b).map f ∧ C' = C, ⟨by simp, rfl⟩, fun i d acc C' e p => ?_, fun acc C' p => ?_⟩
  · obtain ⟨p, rfl⟩ := p
    subst p
    refine h i d _ e ?_
    have h1 := hf i d e
    have h2 : (((ds.take i).filter b).map f).length < 1000000 := by
      have h3 : i < ds.length := (List.getElem?_eq_some_iff.mp e).1
      have h4 : ((ds.take i).filter b).length ≤ (ds.take i).length := List.length_filter_le _ _
      rw [List.length_take] at h4
      rw [List.length_map]
      omega
    cases hb : b d with
    | true =>
      rw [if_pos rfl]
      refine k i d _ e hb ⟨h2, C', Gh.refl C', ?_, rfl⟩
      show ((ds.take i).filter b).map f ++ [f d] = ((ds.take (i + 1)).filter b).map f
      rw [h1, hb, if_pos rfl, List.map_append]
      rfl
    | false =>
      rw [if_neg Bool.false_ne_true]
      refine ⟨C', Gh.refl C', ?_, rfl⟩
      show ((ds.take i).filter b).map f = ((ds.take (i + 1)).filter b).map f
      rw [h1, hb, if_neg Bool.false_ne_true, List.append_nil]
  · obtain ⟨p, rfl⟩ := p
    rw [p, List.take_length]
    exact q
end DL

set_option Elab.async false
set_option linter.all false
set_option maxRecDepth 100000
set_option maxHeartbeats 1000000
namespace DL
open PySem L2

/-! ### calls of built-ins -/
section
variable {K : PySem.W.Frag} {X : Cx}
def d1 (k : D → Cells → DK → Prop) : DCl := fun ds C P => match ds with
  | [x] => k x C P
  | _ => False
def d2 (k : D → D → Cells → DK → Prop) : DCl := fun ds C P => match ds with
  | [x, y] => k x y C P
  | _ => False
theorem cl1 {r : List V → Hp → VK → Prop} {k : D → Cells → DK → Prop} (h : ∀ x v S P Q, Ok K S → R K S.hs x v → k x S.c P → Wish K S P Q → r [v] S.h Q) : ClS K r (d1 k) := by
  intro ds vs S P Q ok rs t w
  unfold d1 at t
  split at t
  · simp only [RA] at rs
    obtain ⟨v, _, rfl, r1, rfl⟩ := rs
    exact h _ v S P Q ok r1 t w
  · exact t.elim
theorem cl2 {r : List V → Hp → VK → Prop} {k : D → D → Cells → DK → Prop} (h : ∀ x y v u S P Q, Ok K S → R K S.hs x v → R K S.hs y u → k x y S.c P → Wish K S P Q → r [v, u] S.h Q) : ClS K r (d2 k) := by
  intro ds vs S P Q ok rs t w
  unfold d2 at t
  split at t
  · simp only [RA] at rs
    obtain ⟨v, _, rfl, r1, u, _, rfl, r2, rfl⟩ := rs
    exact h _ _ v u S P Q ok r1 r2 t w
  · exact t.elim
/-- len -/
def kLen : D → Cells → DK → Prop := fun x C P => match vw C x with
  | .lst ds => P (.int ds.length) C
  | .tup ds => P (.int ds.length) C
  | .fro ds => P (.int ds.length) C
  | .str z => z.length ≤ 1000000 ∧ P (.int z.length) C
  | _ => False
def rLenA (K : PySem.W.Frag) : List V → Hp → VK → Prop := fun xs H Q => (∃ p ys, xs = [.ref p] ∧ (SqL K H p ys ∨ SqT K H p ys) ∧ Q (.int ys.length) H) ∨ ∃ z, xs = [.str z] ∧ z.length ≤ sizeLine ∧ Q (.int z.length) H
theorem call_lenA : CallR X (.builtin "len") (rLenA X.K) := call_len_seq.or call_len_str
theorem fro_sq {S : W} (ok : Ok K S) {a : Addr} {vs : List V} (h : SqL K S.hs a vs) : SqL K S.h a vs := by
  rcases h with (k | ⟨o, k⟩) | k
  · exact .inl (.inl (ok.le _ _ k))
  · exact .inl (.inr ⟨o, ok.le _ _ k⟩)
  · exact .inr k
theorem vw_fro {C : Cells} {x : D} {ds : List D} (e : vw C x = .fro ds) : x = .fro ds := by
  cases x with
  | cell a =>
    simp only [vw] at e
    split at e <;> cases e
  | _ => exact e
theorem cl_len : ClS K (rLenA K) (d1 kLen) := cl1 fun x v S P Q ok rx t w => by
  unfold kLen at t
  split at t
  · rename_i ds e
    obtain ⟨a, vs, rfl, h1, h2⟩ := vw_lst ok rx e
    exact .inl ⟨a, vs, rfl, .inl (SqL.of h1), by rw [h2.len]; exact w _ _ S (.refl ok) R_int t⟩
  · rename_i ds e
    obtain ⟨a, vs, rfl, h1, h2⟩ := vw_tup ok rx e
    exact .inl ⟨a, vs, rfl, .inr (SqT.of h1), by rw [h2.len]; exact w _ _ S (.refl ok) R_int t⟩
  · rename_i ds e
    have ex := vw_fro e
    subst ex
    simp only [R] at rx
    obtain ⟨a, vs, rfl, h1, h2⟩ := rx
    exact .inl ⟨a, vs, rfl, .inl (fro_sq ok h1), by rw [h2.len]; exact w _ _ S (.refl ok) R_int t⟩
  · rename_i z e
    rw [vw_str e] at rx
    simp only [R] at rx
    subst rx
    exact .inr ⟨z, rfl, mil t.1, w _ _ S (.refl ok) R_int t.2⟩
  · exact t.elim
/-- str of an int, int of a text, abs, max, min -/
def kStr : D → Cells → DK → Prop := fun x C P => match x with
  | .int i => i.natAbs.log2 < 1920 ∧ P (.str (toString i)) C
  | _ => False
theorem cl_str : ClS K (fun xs H Q => ∃ i, xs = [.int i] ∧ i.natAbs.log2 < 1920 ∧ Q (.str (toString i)) H) (d1 kStr) := cl1 fun x v S P Q ok rx t w => by
  unfold kStr at t
  split at t
  · simp only [R] at rx; subst rx
    exact ⟨_, rfl, t.1, w _ _ S (.refl ok) R_str t.2⟩
  · exact t.elim
def kIntT : D → Cells → DK → Prop := fun x C P => match x with
  | .str a => a.length ≤ 640 ∧ opt (PySem.intText? a) fun n => P (.int n) C
  | _ => False
theorem cl_intT : ClS K (fun xs H Q => ∃ a n, xs = [.str a] ∧ PySem.intText? a = some n ∧ a.length ≤ 640 ∧ Q (.int n) H) (d1 kIntT) := cl1 fun x v S P Q ok rx t w => by
  unfold kIntT at t
  split at t
  · simp only [R] at rx; subst rx
    obtain ⟨h, t⟩ := t
    obtain ⟨n, e, t⟩ := opt_of t
    exact ⟨_, n, rfl, e, h, w _ _ S (.refl ok) R_int t⟩
  · exact t.elim
def kAbs : D → Cells → DK → Prop := fun x C P => match x with
  | .int i => P (.int (if i < 0 then -i else i)) C
  | _ => False
theorem cl_abs : ClS K (fun xs H Q => ∃ i, xs = [.int i] ∧ Q (.int (if i < 0 then -i else i)) H) (d1 kAbs) := cl1 fun x v S P Q ok rx t w => by
  unfold kAbs at t
  split at t
  · simp only [R] at rx; subst rx
    exact ⟨_, rfl, w _ _ S (.refl ok) R_int t⟩
  · exact t.elim
def kI2 (g : Int → Int → Int) : D → D → Cells → DK → Prop := fun x y C P => match x, y with
  | .int i, .int j => P (.int (g i j)) C
  | _, _ => False
theorem cl_I2 {g : Int → Int → Int} : ClS K (fun xs H Q => ∃ i j, xs = [.int i, .int j] ∧ Q (.int (g i j)) H) (d2 (kI2 g)) := cl2 fun x y v u S P Q ok rx ry t w => by
  unfold kI2 at t
  split at t
  · simp only [R] at rx ry; subst rx ry
    exact ⟨_, _, rfl, w _ _ S (.refl ok) R_int t⟩
  · exact t.elim
def kMax := kI2 fun i j => if j > i then j else i
def kMin := kI2 fun i j => if j < i then j else i
/-- sum of a list of ints -/
def intsOf : List D → Option (List Int)
  | [] => some []
  | .int i :: r => (intsOf r).map (i :: ·)
  | _ :: _ => none
theorem intsOf_map (ns : List Int) : intsOf (ns.map D.int) = some ns := by
  induction ns with
  | nil => rfl
  | cons n ns ih => simp [intsOf, ih]
theorem intsOf_spec : ∀ {ds : List D} {ns : List Int}, intsOf ds = some ns → ds = ns.map D.int
  | [], ns, h => by simp [intsOf] at h; subst h; rfl
  | d :: ds, ns, h => by
    cases d with
    | int i =>
      simp only [intsOf, Option.map_eq_some_iff] at h
      obtain ⟨m, e, rfl⟩ := h
      rw [intsOf_spec e]; rfl
    | _ => simp [intsOf] at h
def kSum : D → Cells → DK → Prop := fun x C P => match vw C x with
  | .lst ds => opt (intsOf ds) fun ns => P (.int ns.sum) C
  | _ => False
theorem cl_sum : ClS K (rSum K) (d1 kSum) := cl1 fun x v S P Q ok rx t w => by
  unfold kSum at t
  split at t
  · rename_i ds e
    obtain ⟨a, vs, rfl, h1, h2⟩ := vw_lst ok rx e
    obtain ⟨ns, en, t⟩ := opt_of t
    rw [intsOf_spec en] at h2
    have := h2.ints
    subst this
    exact ⟨a, ns, rfl, SqL.of h1, w _ _ S (.refl ok) R_int t⟩
  · exact t.elim
/-- isinstance with a built-in class -/
def tyD : D → Option String
  | .non => some "NoneType"
  | .bl _ => some "bool"
  | .int _ => some "int"
  | .str _ => some "str"
  | .lst _ => some "list"
  | .tup _ => some "tuple"
  | .dic _ => some "dict"
  | _ => none
theorem tyD_ok {S : W} (ok : Ok K S) {x : D} {v : V} {n : String} (rx : R K S.hs x v) (h : tyD (vw S.c x) = some n) : TyX K S.h v (.type n) := by
  have fin : ∀ y, vw S.c x = y → (∀ b, y ≠ .cell b) → (∀ b, y ≠ .lst b) → (∀ b, y ≠ .dic b) → (∀ b, y ≠ .tup b) → (∀ b c, y ≠ .ins b c) → x = y := fun y e n0 n1 n2 n3 n4 => by
    cases x with
    | cell b =>
      simp only [vw] at e
      split at e
      · exact absurd e.symm (n1 _)
      · exact absurd e.symm (n2 _)
      · exact absurd e.symm (n4 _ _)
      · exact absurd e.symm (n0 _)
    | _ => exact e
  cases e : vw S.c x with
  | non => rw [e] at h; cases h; have q := fin _ e nofun nofun nofun nofun nofun; subst q; simp only [R] at rx; subst rx; exact .base .non
  | bl b => rw [e] at h; cases h; have q := fin _ e nofun nofun nofun nofun nofun; subst q; simp only [R] at rx; subst rx; exact .base (.bl b)
  | int b => rw [e] at h; cases h; have q := fin _ e nofun nofun nofun nofun nofun; subst q; simp only [R] at rx; subst rx; exact .base (.int b)
  | str b => rw [e] at h; cases h; have q := fin _ e nofun nofun nofun nofun nofun; subst q; simp only [R] at rx; subst rx; exact .base (.str b)
  | lst ds => rw [e] at h; cases h; obtain ⟨a, vs, rfl, h1, h2⟩ := vw_lst ok rx e; exact .base (.lst h1)
  | tup ds => rw [e] at h; cases h; obtain ⟨a, vs, rfl, h1, h2⟩ := vw_tup ok rx e; exact .base (.tup h1)
  | dic ds =>
    rw [e] at h; cases h
    obtain ⟨a, o, kvs, rfl, h1, h2, h3⟩ := vw_dic ok rx e
    rcases rd_core h1 h2 with q | ⟨ob, q⟩
    · exact .base (.dK q)
    · exact .fDict q
  | _ => rw [e] at h; cases h
def kIsi (n : String) : D → D → Cells → DK → Prop := fun x y C P => match y with
  | .val (.ty m) => m = n ∧ opt (tyD (vw C x)) fun t => opt (kitB t n) fun b => P (.bl b) C
  | _ => False
theorem cl_isi {n : String} : ClS K (rIsi K) (d2 (kIsi n)) := cl2 fun x y v u S P Q ok rx ry t w => by
  unfold kIsi at t
  split at t
  · simp only [R] at ry; subst ry
    obtain ⟨rfl, t⟩ := t
    obtain ⟨ty, e1, t⟩ := opt_of t
    obtain ⟨b, e2, t⟩ := opt_of t
    exact ⟨v, _, _, _, b, rfl, .ty _, tyD_ok ok rx e1, kit_ty e2, w _ _ S (.refl ok) R_bl t⟩
  · exact t.elim
theorem kitB_ss : kitB "str" "str" = some true := by decide +kernel
theorem kitB_is : kitB "int" "str" = some false := by decide +kernel
theorem kitB_ii : kitB "int" "int" = some true := by decide +kernel
theorem kitB_ib : kitB "int" "bool" = some false := by decide +kernel
theorem kitB_si : kitB "str" "int" = some false := by decide +kernel
theorem kitB_tt : kitB "tuple" "tuple" = some true := by decide +kernel
theorem kitB_ll : kitB "list" "list" = some true := by decide +kernel
theorem kitB_dd : kitB "dict" "dict" = some true := by decide +kernel
theorem kitB_tl : kitB "tuple" "list" = some false := by decide +kernel
theorem kitB_lt : kitB "list" "tuple" = some false := by decide +kernel
theorem kitB_ts : kitB "tuple" "str" = some false := by decide +kernel
theorem kitB_bb : kitB "bool" "bool" = some true := by decide +kernel
theorem kitB_bi : kitB "bool" "int" = some true := by decide +kernel
/-- isinstance with an own class: of its own instances -/
structure ClsI (K : PySem.W.Frag) (C : Addr) : Prop where
  cl : Cls K C
  ha : PySem.W.findIn K (.ref C) "__class__" = some (some (.builtin "object.__class__"))
  hn : PySem.W.specialIn K (.builtin "object.__class__") "__get__" = some (some (.builtin "getset_descriptor.__get__"))
  htk : PySem.W.takesIn K (.builtin "object.__class__") = some true
  hm : PySem.W.mroIn K C (.type "object") = some true
def kIsO (C0 : Addr) : D → D → Cells → DK → Prop := fun x y C P => match vw C x, y with
  | .ins c _, .val (.ref m) => c = C0 ∧ m = C0 ∧ P (.bl true) C
  | _, _ => False
theorem cl_isO {C0 : Addr} (ci : ClsI K C0) : ClS K (rIsi K) (d2 (kIsO C0)) := cl2 fun x y v u S P Q ok rx ry t w => by
  unfold kIsO at t
  split at t
  · rename_i c fds m e
    simp only [R] at ry; subst ry
    obtain ⟨rfl, rfl, t⟩ := t
    obtain ⟨a, dx, fs, rfl, h1, h2⟩ := vw_ins ok rx e
    exact ⟨_, _, _, _, true, rfl, .own _, .base (.ins h1 ci.cl ci.ha ci.hn ci.htk ci.hm), by simp [PySem.W.kitOne], w _ _ S (.refl ok) R_bl t⟩
  · exact t.elim
end

/-! ### methods of built-ins -/
abbrev DM := D → List D → Cells → DK → Prop
def MtS (K : PySem.W.Frag) (r : V → List V → Hp → VK → Prop) (m : DM) : Prop := ∀ x ds v vs S P Q, Ok K S → R K S.hs x v → RA K S.hs ds vs → m x ds S.c P → Wish K S P Q → r v vs S.h Q
def tyM (T : String) (x : D) (C : Cells) : Prop := match vw C x with
  | .lst _ => T = "list"
  | .str _ => T = "str"
  | .int _ => T = "int"
  | _ => False
theorem tyM_ok {K : PySem.W.Frag} {S : W} (ok : Ok K S) {T : String} {x : D} {v : V} (rx : R K S.hs x v) (h : tyM T x S.c) : tyV K T v S.h := by
  unfold tyM at h
  split at h
  · rename_i ds e
    obtain ⟨a, vs, rfl, h1, h2⟩ := vw_lst ok rx e
    exact .inl ⟨h, vs, SqL.of h1⟩
  · rename_i z e
    rw [vw_str e] at rx
    simp only [R] at rx; subst rx
    exact h
  · rename_i z e
    rw [vw_int e] at rx
    simp only [R] at rx; subst rx
    exact h
  · exact h.elim
def dBM (T : String) (m : DM) (t : DT) (a : DA) : DT := fun ρ C P => t ρ C fun x C1 => tyM T x C1 ∧ a ρ C1 fun ds C2 => m x ds C2 P
section
variable {X : Cx} {K : PySem.W.Frag} {o e : Expr} {es : List Expr} {to : DT} {t : DA} {name : Str} {apos cpos : Pos} {T id : String} {r : V → List V → Hp → VK → Prop} {m : DM}
theorem de_bm (pa : PlainAttrs T) (slot : Slot T name id) (hty : typeOf (.builtin id) = pure (.type "method_descriptor")) (hm : MtR X id r) (hs : MtS X.K r m) (ho : DE X o to) (ha : DAs X (e :: es) t)
    (hbase : attributeBase o name X.env (eval o X.env) = eval o X.env := by rfl)
    (hfew : ((backTo cpos (starEach (e :: es) X.env)).all (fun x => !x.1) && (backToKw cpos (keywordEach [] X.env)).all (fun x => x.1.isSome)
      && decide ((e :: es).length + ([] : List Keyword).length + (if ([] : List Keyword).isEmpty then 0 else 1) < 30)) = true := by rfl)
    (hline : (apos.endLine == cpos.line) = true := by rfl) (hse : starEach (e :: es) X.env = (false, eval e X.env) :: starEach es X.env := by rfl) (hplain : (backTo cpos (starEach es X.env)).any (·.1) = false := by rfl) :
    DE X (.Call (.Attribute o name apos) (e :: es) [] cpos) (dBM T m to t) :=
  pe_weak (pe_bm pa slot hty hm ho ha hbase hfew hline hse hplain) fun σ H Q q => by
    obtain ⟨ρ, S, P, rfl, s, r, t, w⟩ := q
    refine ⟨ρ, S, _, rfl, s, r, t, fun v x S1 e1 rx t1 => ⟨tyM_ok e1.ok rx t1.1, ?_⟩⟩
    refine ⟨ρ, S1, _, rfl, s.ext e1.ext, e1.ok, t1.2, fun vs ds S2 e2 rs t2 => ?_⟩
    exact hs x ds v vs S2 P Q e2.ok (R.ext e2.ext _ _ rx) rs t2 (w.st (e1.trans e2))
/-- xs.append(e) of a cell -/
def mAppend : DM := fun x ds C P => match x, ds with
  | .cell a, [y] => (match C a with
    | some (.lst xs) => xs.length < 1000000 ∧ P .non (cset C a (.lst (xs ++ [y])))
    | _ => False)
  | _, _ => False
theorem ms_append : MtS K rAppend mAppend := by
  intro x ds v vs S P Q ok rx rs t w
  unfold mAppend at t
  split at t
  · rename_i a y
    split at t
    · rename_i xs e
      simp only [R] at rx; subst rx
      simp only [RA] at rs
      obtain ⟨u, _, rfl, r1, rfl⟩ := rs
      obtain ⟨_, us, h1, h2⟩ := ok.cell a _ e
      refine ⟨a, us, u, rfl, rfl, h1, by rw [h2.len, sizeLine_eq]; omega, ?_⟩
      have st := ok.setC (o := .lst (us ++ [u])) (c := .lst (xs ++ [y])) e ⟨_, upd_same, h2.append (RA.cons r1 RA.nil)⟩
      exact w _ _ _ st R_non t.2
    · exact t.elim
  · exact t.elim
/-- xs.insert(i, e) of a cell -/
def mInsert : DM := fun x ds C P => match x, ds with
  | .cell a, [.int i, y] => (match C a with
    | some (.lst xs) => xs.length < 1000000 ∧ 0 ≤ i ∧ i < 1000000 ∧ P .non (cset C a (.lst (xs.take i.toNat ++ [y] ++ xs.drop i.toNat)))
    | _ => False)
  | _, _ => False
theorem ms_insert : MtS K (fun x vs H Q => ∃ (l : Addr) (xs : List V) (i : Int) (y : V), x = .ref l ∧ vs = [.int i, y] ∧ H l = some (.lst xs) ∧ xs.length < sizeLine ∧ 0 ≤ i ∧ i < 2 ^ 63 ∧
    Q .non (upd H l (.lst (xs.take i.toNat ++ [y] ++ xs.drop i.toNat)))) mInsert := by
  intro x ds v vs S P Q ok rx rs t w
  unfold mInsert at t
  split at t
  · rename_i a i y
    split at t
    · rename_i xs e
      simp only [R] at rx; subst rx
      simp only [RA, R] at rs
      obtain ⟨u, _, rfl, rfl, u2, _, rfl, r2, rfl⟩ := rs
      obtain ⟨_, us, h1, h2⟩ := ok.cell a _ e
      obtain ⟨z, z0, z1, t⟩ := t
      refine ⟨a, us, i, u2, rfl, rfl, h1, by rw [h2.len, sizeLine_eq]; omega, z0, by omega, ?_⟩
      have st := ok.setC (o := .lst (us.take i.toNat ++ [u2] ++ us.drop i.toNat)) (c := .lst (xs.take i.toNat ++ [y] ++ xs.drop i.toNat)) e ⟨_, upd_same, ((h2.take _).append (RA.cons r2 RA.nil)).append (h2.drop _)⟩
      exact w _ _ _ st R_non t
    · exact t.elim
  · exact t.elim
/-- s.startswith(t, i) -/
def mStarts3 : DM := fun x ds C P => match x, ds with
  | .str a, [.str b, .int i] => P (.bl (Txt.startswith3 a b i)) C
  | _, _ => False
theorem ms_starts3 : MtS K (fun x xs H Q => ∃ (a b : Str) (i : Int), x = .str a ∧ xs = [.str b, .int i] ∧ Q (.bl (Txt.startswith3 a b i)) H) mStarts3 := by
  intro x ds v vs S P Q ok rx rs t w
  unfold mStarts3 at t
  split at t
  · simp only [R] at rx; subst rx
    simp only [RA, R] at rs
    obtain ⟨u, _, rfl, rfl, u2, _, rfl, rfl, rfl⟩ := rs
    exact ⟨_, _, _, rfl, rfl, w _ _ S (.refl ok) R_bl t⟩
  · exact t.elim
/-- sep.join(texts) -/
def strsOf : List D → Option (List Str)
  | [] => some []
  | .str i :: r => (strsOf r).map (i :: ·)
  | _ :: _ => none
theorem strsOf_map (ns : List Str) : strsOf (ns.map D.str) = some ns := by
  induction ns with
  | nil => rfl
  | cons n ns ih => simp [strsOf, ih]
theorem strsOf_spec : ∀ {ds : List D} {ns : List Str}, strsOf ds = some ns → ds = ns.map D.str
  | [], ns, h => by simp [strsOf] at h; subst h; rfl
  | d :: ds, ns, h => by
    cases d with
    | str i =>
      simp only [strsOf, Option.map_eq_some_iff] at h
      obtain ⟨m, e, rfl⟩ := h
      rw [strsOf_spec e]; rfl
    | _ => simp [strsOf] at h
def mJoin : DM := fun x ds C P => match x, ds with
  | .str a, [y] => (match vw C y with
    | .lst xs => opt (strsOf xs) fun ys => (ys.map (·.length)).sum + ys.length * a.length ≤ 16777216 ∧ P (.str (Txt.join a ys)) C
    | _ => False)
  | _, _ => False
theorem ms_join : MtS K (fun x xs H Q => ∃ a p, ∃ ys : List Str, x = .str a ∧ xs = [.ref p] ∧ (SqL K H p (ys.map V.str) ∨ SqT K H p (ys.map V.str)) ∧
    (ys.map (·.length)).sum + ys.length * a.length ≤ 16777216 ∧ Q (.str (Txt.join a ys)) H) mJoin := by
  intro x ds v vs S P Q ok rx rs t w
  unfold mJoin at t
  split at t
  · simp only [R] at rx; subst rx
    simp only [RA] at rs
    obtain ⟨u, _, rfl, r1, rfl⟩ := rs
    split at t
    · rename_i xs e
      obtain ⟨a, vs, rfl, h1, h2⟩ := vw_lst ok r1 e
      obtain ⟨ys, ey, z, t⟩ := opt_of t
      rw [strsOf_spec ey] at h2
      have := h2.strs
      subst this
      exact ⟨_, a, ys, rfl, rfl, .inl (SqL.of h1), z, w _ _ S (.refl ok) R_str t⟩
    · exact t.elim
  · exact t.elim
/-- n.bit_length() -/
def dBits (t : DT) : DT := fun ρ C P => t ρ C fun x C1 => match x with
  | .int i => P (.int (Builtin.Int.intBits i : Nat)) C1
  | _ => False
theorem de_bits (ho : DE X o to) (hbase : attributeBase o "bit_length" X.env (eval o X.env) = eval o X.env := by rfl) (hline : (apos.endLine == cpos.line) = true := by rfl) : DE X (.Call (.Attribute o "bit_length" apos) [] [] cpos) (dBits to) :=
  pe_weak (pe_bits ho hbase hline) fun σ H Q q => by
    obtain ⟨ρ, S, P, rfl, s, r, t, w⟩ := q
    refine ⟨ρ, S, _, rfl, s, r, t, fun v x S1 e1 rx t1 => ?_⟩
    cases x with
    | int i => exact ⟨i, by simpa [R] using rx, w _ _ S1 e1 R_int t1⟩
    | _ => exact t1.elim
end

/-! ### chains -/
def dChain (r r' : D2) (a b c : DT) : DT := fun ρ C P => a ρ C fun x C1 => b ρ C1 fun y C2 => r x y C2 fun z C3 => asB z fun k => if k = true then c ρ C3 fun w C4 => r' y w C4 P else P (.bl false) C3
theorem lift_chain {K : PySem.W.Frag} {q q' : R2} {r r' : D2} {a b c : DT} (h : OpS K q r) (h' : OpS K q' r') {σ : St} {H : Hp} {Q : VK} (z : liftE K (dChain r r' a b c) σ H Q) : tChain q q' (liftE K a) (liftE K b) (liftE K c) σ H Q := by
  obtain ⟨ρ, S, P, rfl, s, rp, t, w⟩ := z
  refine ⟨ρ, S, _, rfl, s, rp, t, fun v x S1 e1 rx t1 => ?_⟩
  refine ⟨ρ, S1, _, rfl, s.ext e1.ext, e1.ok, t1, fun u y S2 e2 ry t2 => ?_⟩
  refine h x y v u S2 _ _ e2.ok (R.ext e2.ext _ _ rx) ry t2 fun z d S3 e3 rz t3 => ?_
  cases d with
  | bl k =>
    refine ⟨k, by simpa [R] using rz, ?_⟩
    cases k with
    | true =>
      rw [if_pos rfl]
      refine ⟨ρ, S3, _, rfl, (s.ext e1.ext).ext (e2.trans e3).ext, e3.ok, by simpa [asB] using t3, fun w' d' S4 e4 rw' t4 => ?_⟩
      exact h' y d' u w' S4 P Q e4.ok (R.ext (e3.trans e4).ext _ _ ry) rw' t4 (w.st (e1.trans (e2.trans (e3.trans e4))))
    | false =>
      rw [if_neg Bool.false_ne_true]
      exact w (.bl false) (.bl false) S3 (e1.trans (e2.trans e3)) R_bl (by simpa [asB] using t3)
  | _ => exact t3.elim
section
variable {X : Cx} {a b c : Expr} {ta tb tc : DT} {pos : Pos}
theorem de_chain {op op' : CmpOp} {q q' : R2} {r r' : D2} (ho : OpR X (compareOp op) q) (ho' : OpR X (compareOp op') q') (h : OpS X.K q r) (h' : OpS X.K q' r') (ha : DE X a ta) (hb : DE X b tb) (hc : DE X c tc)
    (hm : lastMarks [op, op'] [b, c] = false := by with_unfolding_all rfl) : DE X (.Compare a [op, op'] [b, c] pos) (dChain r r' ta tb tc) :=
  pe_weak (pe_chain ho ho' ha hb hc hm) fun σ H Q z => lift_chain h h' z
end
end DL

set_option Elab.async false
set_option linter.all false
set_option maxRecDepth 100000
set_option maxHeartbeats 1000000
namespace DL
open PySem L2

/-! ### a cell becomes shared -/
def frz1 (d : D) (C : Cells) (P : DK) : Prop := match d with
  | .cell a => (match C a with
    | some (.lst ds) => P (.lst ds) (cdel C a)
    | some (.dic k) => P (.dic k) (cdel C a)
    | some (.ins c f) => P (.ins c f) (cdel C a)
    | _ => P d C)
  | d => P d C
theorem frz1_ok {K : PySem.W.Frag} {S : W} {d : D} {v : V} {P : DK} {Q : VK} (ok : Ok K S) (rd : R K S.hs d v) (t : frz1 d S.c P) (w : Wish K S P Q) : Q v S.h := by
  unfold frz1 at t
  split at t
  · rename_i a
    simp only [R] at rd; subst rd
    split at t
    · rename_i ds e
      obtain ⟨_, vs, h1, h2⟩ := ok.cell a _ e
      have st := ok.share e h1
      exact w _ (.lst ds) ⟨upd S.hs a (.lst vs), cdel S.c a, S.h⟩ st (by simp only [R]; exact ⟨a, vs, rfl, upd_same, RA.ext st.ext _ _ h2⟩) t
    · rename_i ds e
      obtain ⟨_, vs, h1, h2⟩ := ok.cell a _ e
      have st := ok.share e h1
      exact w _ (.dic ds) ⟨upd S.hs a (.dK vs), cdel S.c a, S.h⟩ st (by simp only [R]; exact ⟨a, _, vs, rfl, upd_same, rfl, RK.ext st.ext _ _ h2⟩) t
    · rename_i c ds e
      obtain ⟨_, dx, vs, h1, h2⟩ := ok.cell a _ e
      have st := ok.share e h1
      exact w _ (.ins c ds) ⟨upd S.hs a (.ins c dx vs), cdel S.c a, S.h⟩ st (by simp only [R]; exact ⟨a, dx, vs, rfl, upd_same, RF.ext st.ext _ _ h2⟩) t
    · exact w _ _ S (.refl ok) (by simp only [R]) t
  · exact w _ _ S (.refl ok) rd t
def dFz (t : DT) : DT := fun ρ C P => t ρ C fun d C1 => frz1 d C1 P
theorem de_fz {X : Cx} {e : Expr} {t : DT} (h : DE X e t) : DE X e (dFz t) := pe_weak h fun σ H Q q => by
  obtain ⟨ρ, S, P, rfl, s, r, t, w⟩ := q
  exact ⟨ρ, S, _, rfl, s, r, t, fun v d S1 e1 rd t1 => frz1_ok e1.ok rd t1 (w.st e1)⟩
/-- ahead of a block: the name's cell is shared from here on -/
def dFzS (i : Nat) (t : DS) : DS := fun E ρ C => match slot ρ i with
  | some d => frz1 d C fun d' C' => t E (ρ.set i (some d')) C'
  | none => False
theorem dss_fz {X : Cx} {sts : List Stmt} {t : DS} (i : Nat) (h : DSs X sts t) : DSs X sts (dFzS i t) := pss_weak h fun F σ H q => by
  obtain ⟨ρ, S, E, rfl, s, r, t, w⟩ := q
  unfold dFzS at t
  split at t
  · rename_i d e
    have e' := (slot_eq ρ i d).mp e
    obtain ⟨v, h1, h2⟩ := s.get i d e'
    refine frz1_ok (Q := fun v' H' => v' = v → liftS X.K _ F σ H') r h2 t (fun v' d' S1 e1 rd t1 ev => ?_) rfl
    subst ev
    refine ⟨_, S1, E, rfl, (s.ext e1.ext).reword (fun u hu => ?_) ⟨d, e'⟩, e1.ok, t1, w.st e1⟩
    rw [h1] at hu; cases hu; exact rd
  · exact t.elim

/-! ### instances -/
section
variable {K : PySem.W.Frag} {Hs : Hp}
def fget (f : Str) : List (Str × D) → Option D
  | [] => none
  | (g, d) :: r => if f = g then some d else fget f r
def fput (f : Str) (d : D) : List (Str × D) → List (Str × D)
  | [] => [(f, d)]
  | (g, e) :: r => if g = f then (g, d) :: r else (g, e) :: fput f d r
theorem lookup_if {f g : Str} {v : V} {r : List (Str × V)} : ((g, v) :: r).lookup f = if f = g then some v else r.lookup f := by
  rw [List.lookup_cons]
  by_cases h : f = g
  · rw [if_pos h, h]; simp
  · rw [if_neg h]
    have : (f == g) = false := by simpa using h
    rw [this]
theorem RF.get : ∀ {fds : List (Str × D)} {fs : List (Str × V)} {f : Str}, RF K Hs fds fs → (∀ d, fget f fds = some d → ∃ v, fs.lookup f = some v ∧ R K Hs d v) ∧ (fget f fds = none → fs.lookup f = none)
  | [], fs, f, h => by simp only [RF] at h; subst h; exact ⟨fun d e => by simp [fget] at e, fun _ => rfl⟩
  | (g, d0) :: r, fs, f, h => by
    simp only [RF] at h
    obtain ⟨v, s, rfl, h1, h2⟩ := h
    obtain ⟨k1, k2⟩ := RF.get (f := f) h2
    rw [lookup_if]
    by_cases e : f = g
    · simp only [fget, if_pos e]
      exact ⟨fun d q => by cases q; exact ⟨v, rfl, h1⟩, fun q => by cases q⟩
    · simp only [fget, if_neg e]
      exact ⟨k1, k2⟩
theorem RF.put : ∀ {fds : List (Str × D)} {fs : List (Str × V)} {f : Str} {d : D} {v : V}, RF K Hs fds fs → R K Hs d v → RF K Hs (fput f d fds) (putF f v fs)
  | [], fs, f, d, v, h, k => by simp only [RF] at h; subst h; simp only [fput, putF, RF]; exact ⟨v, [], rfl, k, rfl⟩
  | (g, d0) :: r, fs, f, d, v, h, k => by
    simp only [RF] at h
    obtain ⟨u, s, rfl, h1, h2⟩ := h
    by_cases e : g = f
    · simp only [fput, putF, if_pos e, RF]
      exact ⟨v, s, rfl, k, h2⟩
    · simp only [fput, putF, if_neg e, RF]
      exact ⟨u, _, rfl, h1, RF.put h2 k⟩
theorem RF.len : ∀ {fds : List (Str × D)} {fs : List (Str × V)}, RF K Hs fds fs → fs.length = fds.length
  | [], fs, h => by simp only [RF] at h; subst h; rfl
  | (g, d0) :: r, fs, h => by
    simp only [RF] at h
    obtain ⟨u, s, rfl, h1, h2⟩ := h
    simp [RF.len h2]
end
section
variable {X : Cx} {o e value : Expr} {es : List Expr} {to tv : DT} {t : DA} {f m : Str} {pos pos' apos : Pos} {C0 fA : Addr} {k : Nat} {dds : List D} {sp : DSp}
/-- o.f -/
def dFld (C0 : Addr) (f : Str) (t : DT) : DT := fun ρ C P => t ρ C fun x C1 => match vw C1 x with
  | .ins c fds => c = C0 ∧ opt (fget f fds) fun d => P d C1
  | _ => False
theorem de_fld (hc : Cls X.K C0) (hn : NoAttr X.K C0 f) (ho : DE X o to) (hb : attributeBase o f X.env (eval o X.env) = eval o X.env := by rfl) : DE X (.Attribute o f pos) (dFld C0 f to) :=
  pe_weak (pe_fld ho hb) fun σ H Q q => by
    obtain ⟨ρ, S, P, rfl, s, r, t, w⟩ := q
    refine ⟨ρ, S, _, rfl, s, r, t, fun v x S1 e1 rx t1 => ?_⟩
    split at t1
    · rename_i c fds e
      obtain ⟨rfl, t1⟩ := t1
      obtain ⟨d, ed, t1⟩ := opt_of t1
      obtain ⟨a, dx, fs, rfl, h1, h2⟩ := vw_ins e1.ok rx e
      obtain ⟨u, k1, k2⟩ := (h2.get (f := f)).1 d ed
      exact ⟨a, c, dx, fs, u, rfl, h1, hc, hn, k1, w _ d S1 e1 k2 t1⟩
    · exact t1.elim
/-- o.f = e, o a cell -/
def dSetFld (C0 : Addr) (f : Str) (to tv : DT) : DS := fun E ρ C => tv ρ C fun y C1 => to ρ C1 fun x C2 => match x with
  | .cell a => (match C2 a with
    | some (.ins c fds) => c = C0 ∧ fds.length < 1000 ∧ E.nx ρ (cset C2 a (.ins c (fput f y fds)))
    | _ => False)
  | _ => False
theorem ds_setfld (hc : Cls X.K C0) (hn : NoAttr X.K C0 f) (ho : DE X o to) (hv : DE X value tv) (hs : swapsWith value (some (.Attribute o f pos')) pos.line X.env = pure false := by rfl) : DSt X (.Assign [.Attribute o f pos'] value pos) (dSetFld C0 f to tv) :=
  ps_weak (ps_fld ho hv hs) fun F σ H q => by
    obtain ⟨ρ, S, E, rfl, s, r, t, w⟩ := q
    refine ⟨ρ, S, _, rfl, s, r, t, fun u y S1 e1 ry t1 => ?_⟩
    refine ⟨ρ, S1, _, rfl, s.ext e1.ext, e1.ok, t1, fun v x S2 e2 rx t2 => ?_⟩
    split at t2
    · rename_i a
      simp only [R] at rx; subst rx
      split at t2
      · rename_i c fds e
        obtain ⟨rfl, hl, t2⟩ := t2
        obtain ⟨_, dx, fs, h1, h2⟩ := e2.ok.cell a _ e
        have ry' := R.ext e2.ext _ _ ry
        have st := e2.ok.setC (o := .ins c dx (putF f u fs)) (c := .ins c (fput f y fds)) e ⟨dx, _, upd_same, h2.put ry'⟩
        exact ⟨a, c, dx, fs, rfl, h1, hc, hn, by rw [h2.len]; exact hl, w.nx ρ σ _ (e1.trans (e2.trans st)) (s.ext (e1.trans (e2.trans st)).ext) t2⟩
      · exact t2.elim
    · exact t2.elim
/-- o.m(..) -/
def dMth (C0 : Addr) (m : Str) (sp : DSp) (dds : List D) (to : DT) (t : DA) : DT := fun ρ C P => to ρ C fun x C1 => match vw C1 x with
  | .ins c fds => c = C0 ∧ fget m fds = none ∧ t ρ C1 fun ds C2 => sp (x :: (ds ++ dds)) C2 P
  | _ => False
theorem lift_mth {K : PySem.W.Frag} {dvs : List V} (hd : ∀ Hs, RA K Hs dds dvs) {E : XK} {σ : St} {H : Hp} {Q : VK} (q : liftE K (dMth C0 m sp dds to t) σ H Q) : tMeth C0 m (spOf K sp) dvs E (liftE K to) (liftA K t) σ H Q := by
  obtain ⟨ρ, S, P, rfl, s, r, t, w⟩ := q
  refine ⟨ρ, S, _, rfl, s, r, t, fun v x S1 e1 rx t1 => ?_⟩
  split at t1
  · rename_i c fds e
    obtain ⟨rfl, hm, t1⟩ := t1
    obtain ⟨a, dx, fs, rfl, h1, h2⟩ := vw_ins e1.ok rx e
    refine ⟨a, dx, fs, rfl, h1, (h2.get (f := m)).2 hm, ρ, S1, _, rfl, s.ext e1.ext, e1.ok, t1, fun vs ds S2 e2 rs t2 => ?_⟩
    exact ⟨x :: (ds ++ dds), S2, P, rfl, RA.cons (R.ext e2.ext _ _ rx) (rs.append (hd _)), e2.ok, t2, w.st (e1.trans e2)⟩
  · exact t1.elim
theorem de_mth {pl : Sem Bool} (c : Fn X.prog X.w X.K X.mg X.base k fA dds sp) (hcl : Cls X.K C0) (hm : Meth X.K C0 m fA) (hr : Room k X.A) (ho : DE X o to) (ha : DAs X (e :: es) t)
    (he : starEach (e :: es) X.env = (false, eval e X.env) :: starEach es X.env := by rfl) (hpl : (backTo pos (starEach es X.env)).any (·.1) = false := by rfl)
    (ht : eval (.Call (.Attribute o m apos) (e :: es) [] pos) X.env = (do let q ← eval o X.env; standAt apos.atName; let (g, first) ← holding [q] (getMethod q m pl); callWith pos g first (backTo pos (starEach (e :: es) X.env)) (backToKw pos (keywordEach [] X.env))) := by rfl) :
    DE X (.Call (.Attribute o m apos) (e :: es) [] pos) (dMth C0 m sp dds to t) := by
  obtain ⟨fd, ps, ds, dvs, hk, hb', hd, hdd, F⟩ := c.ex
  exact pe_weak (pe_meth (pl := pl) ho hcl hm F hr hb' hd pass0 ha he hpl ht) fun σ H Q q => lift_mth hdd q
theorem lift_nil {K : PySem.W.Frag} {σ : St} {H : Hp} {Q : List V → Hp → Prop} (q : liftA K dNil σ H Q) : tNil σ H Q := by
  obtain ⟨ρ, S, P, rfl, s, r, t, w⟩ := q
  exact w [] [] S (.refl r) RA.nil t
theorem de_mth0 {pl : Sem Bool} (c : Fn X.prog X.w X.K X.mg X.base k fA dds sp) (hcl : Cls X.K C0) (hm : Meth X.K C0 m fA) (hr : Room k X.A) (ho : DE X o to)
    (ht : eval (.Call (.Attribute o m apos) [] [] pos) X.env = (do let q ← eval o X.env; standAt apos.atName; let (g, first) ← holding [q] (getMethod q m pl); callWith pos g first (backTo pos (starEach [] X.env)) (backToKw pos (keywordEach [] X.env))) := by rfl) :
    DE X (.Call (.Attribute o m apos) [] [] pos) (dMth C0 m sp dds to dNil) := by
  obtain ⟨fd, ps, ds, dvs, hk, hb', hd, hdd, F⟩ := c.ex
  refine pe_weak (pe_meth0 (pl := pl) ho hcl hm F hr hb' hd pass0 ht) fun σ H Q q => ?_
  have z := lift_mth (dvs := dvs) (E := E0) hdd q
  unfold tMeth at z ⊢
  obtain ⟨ρ, S, P, rfl, s, r, t, w⟩ := z
  refine ⟨ρ, S, P, rfl, s, r, t, fun v x S1 e1 rx t1 => ?_⟩
  obtain ⟨a, dx, fs, g1, g2, g3, g4⟩ := w v x S1 e1 rx t1
  exact ⟨a, dx, fs, g1, g2, g3, lift_nil g4⟩
/-- C(..): the new instance is a cell -/
def dMake (C0 : Addr) (sp : DSp) (dds : List D) (t : DA) : DT := fun ρ C P => t ρ C fun ds C1 => ∀ a, C1 a = none → sp (.cell a :: (ds ++ dds)) (cset C1 a (.ins C0 [])) fun d C2 => d = .non ∧ P (.cell a) C2
theorem Ok.own {K : PySem.W.Frag} {S : W} (ok : Ok K S) {p : Addr} {o : HO} (h : S.h p = none) : Step K S ⟨S.hs, S.c, upd S.h p o⟩ :=
  ⟨Ext.refl _, fun b u h1 h2 h3 => ⟨(upd_ne (ne_of_none h1 h)).trans h1, h2, h3⟩, ok.other (ok.fresh h) (ok.freshC h)⟩
theorem lift_make {K : PySem.W.Frag} {dvs : List V} (hd : ∀ Hs, RA K Hs dds dvs) {E : XK} {σ : St} {H : Hp} {Q : VK} (q : liftE K (dMake C0 sp dds t) σ H Q) : tMake C0 (spOf K sp) dvs E (liftA K t) σ H Q := by
  obtain ⟨ρ, S, P, rfl, s, r, t, w⟩ := q
  refine ⟨ρ, S, _, rfl, s, r, t, fun vs ds S1 e1 rs t1 => fun x dx hx hdx hne => ?_⟩
  have st1 := e1.ok.own (o := .own x) hdx
  have st2 : Step K _ _ := st1.ok.newC (a := x) (o := .ins C0 dx []) (c := .ins C0 []) (show upd S1.h dx (.own x) x = none by rw [upd_ne hne.symm]; exact hx) ⟨dx, [], upd_same, by simp only [RF]⟩
  refine ⟨.cell x :: (ds ++ dds), _, _, rfl, RA.cons (by simp only [R]) ((RA.ext (st1.trans st2).ext _ _ rs).append (hd _)), st2.ok, t1 x (e1.ok.freshC hx), fun v d S2 e2 rd t2 => ?_⟩
  obtain ⟨rfl, t2⟩ := t2
  simp only [R] at rd
  exact ⟨rd, w _ (.cell x) S2 (e1.trans (st1.trans (st2.trans e2))) (by simp only [R]) t2⟩
theorem de_make {x : Str} {p : Pos} (M : Mk X.K C0 fA) (c : Fn X.prog X.w X.K X.mg X.base k fA dds sp) (hm : X.mg x = some (.ref C0)) (hr : Room (k + 1) X.A) (ha : DAs X (e :: es) t) (hg : Gl X x := by rfl) (hdb : (x == ("__debug__" : Str)) = false := by decide)
    (he : starEach (e :: es) X.env = (false, eval e X.env) :: starEach es X.env := by rfl) (hpl : (backTo pos (starEach es X.env)).any (·.1) = false := by rfl) : DE X (.Call (.Name x p) (e :: es) [] pos) (dMake C0 sp dds t) := by
  obtain ⟨fd, ps, ds, dvs, hk, hb', hd, hdd, F⟩ := c.ex
  exact pe_weak (pe_make M F hr hg hm hb' hd pass0 ha hdb he hpl) fun σ H Q q => lift_make hdd q
/-- a local name that holds a def -/
def dCallL (i : Nat) (f : Addr) (sp : DSp) (dds : List D) (t : DA) : DT := fun ρ C P => slot ρ i = some (.val (.ref f)) ∧ t ρ C fun ds C1 => sp (ds ++ dds) C1 P
theorem de_callL {i : Nat} {x : Str} {p : Pos} (c : Fn X.prog X.w X.K X.mg X.base k fA dds sp) (hr : Room k X.A) (ha : DAs X (e :: es) t) (hN : X.N[i]? = some x := by rfl) (hv : Vis X.env.scope x := by first | exact Or.inl rfl | exact Or.inr (Or.inl rfl) | exact Or.inr (Or.inr rfl)) (hdb : (x == ("__debug__" : Str)) = false := by decide) (hcd : (x == ("__classdict__" : Str)) = false := by decide)
    (he : starEach (e :: es) X.env = (false, eval e X.env) :: starEach es X.env := by rfl) (hpl : (backTo pos (starEach es X.env)).any (·.1) = false := by rfl) : DE X (.Call (.Name x p) (e :: es) [] pos) (dCallL i fA sp dds t) := by
  obtain ⟨fd, ps, ds, dvs, hk, hb', hd, hdd, F⟩ := c.ex
  refine pe_weak (pe_callL (i := i) F hr hN hv hk hb' hd pass0 ha hdb hcd he hpl) fun σ H Q q => ?_
  obtain ⟨ρ, S, P, rfl, s, r, ⟨ts, t⟩, w⟩ := q
  obtain ⟨v, h1, h2⟩ := s.get i _ ((slot_eq ρ i _).mp ts)
  simp only [R] at h2; subst h2
  refine ⟨h1, ρ, S, _, rfl, s, r, t, fun vs ds S1 e1 rs t1 => ?_⟩
  exact ⟨ds ++ dds, S1, P, rfl, rs.append (hdd _), e1.ok, t1, w.st e1⟩
/-- == of two instances by an own __eq__ -/
def dEqO (C0 : Addr) (sp : DSp) : D2 := fun x y C P => match vw C x, vw C y with
  | .ins c _, .ins c' _ => c = C0 ∧ c' = C0 ∧ sp [x, y] C P
  | _, _ => False
def rEqO (K : PySem.W.Frag) (C0 : Addr) (sp : Sp) : R2 := fun x y H Q => ∃ a b dx dy fs gs, x = .ref a ∧ y = .ref b ∧ H a = some (.ins C0 dx fs) ∧ H b = some (.ins C0 dy gs) ∧ sp [x, y] H (fun v H' => ∃ k, v = .bl k ∧ Q v H') fun _ _ _ => False
theorem op_eqO {fd : FuncData} {ps : List Str} {sp' : Sp} (F : FnOk X.prog X.w X.K X.mg X.base CX0 k fA fd ps sp') (hb : Binds X.K fd ps []) (hs : PySem.W.findIn X.K (.ref C0) "__eq__" = some (some (.ref fA))) (hf : PySem.W.isFn X.K (.ref fA) = true) (hr : Room k X.A) : OpR X (compareOp .Eq) (rEqO X.K C0 sp') := by
  intro pins s σ H x y v u Q I rx ry h
  obtain ⟨a, b, dx, dy, fs, gs, rfl, rfl, ha, hb', hsp⟩ := h
  cases rx
  cases ry
  obtain ⟨mA, J, _⟩ := ins_get I.hok ha
  obtain ⟨mB, J', _⟩ := ins_get I.hok hb'
  obtain ⟨od, J, _⟩ := J.look
  obtain ⟨od', J', _⟩ := J'.look
  obtain ⟨m, hF⟩ := I.fr
  show wpAny (model X.prog X.w) X.A (richCompare .Eq (.ref a) (.ref b)) (EP X pins σ Q) X.xe s
  refine PySem.W.cmp_K (op := .Eq) (tb := .ref C0) hr.units0 hF I.ok.mod.kin J J'.type (by simp [PySem.W.notFirst]) hs hf ?_
  refine wpAny_mono (run_fn (dvs := []) (ds := []) F hr hb .nil pass0 I (us := [.ref a, .ref b]) (vs := [.ref a, .ref b]) (.cons rfl (.cons rfl .nil)) hsp) (fun r s' z => ?_) fun _ _ z => z
  obtain ⟨v, H', I', rv, ⟨kk, rfl, q⟩⟩ := z
  cases rv
  exact ⟨.bl kk, H', I', rfl, q⟩
end
end DL

set_option Elab.async false
set_option linter.all false
set_option maxRecDepth 100000
set_option maxHeartbeats 1000000
namespace DL
open PySem PySem.Spec PyProof.Rows L2

/-! ### a def's body -/
/-- what a def's end wants; what is told of cells may change once more -/
def endsOf (P : DK) : DEnds := { nx := fun _ C' => ∃ C'', Gh C' C'' ∧ P .non C'', rt := fun d C' => ∃ C'', Gh C' C'' ∧ P d C'' }
def startD (N : List Str) (ds : List D) : Env := ds.map some ++ List.replicate (N.length - ds.length) none
theorem sl_start {K : PySem.W.Frag} {Hs : Hp} {N : List Str} {ds : List D} {vs : List V} (r : RA K Hs ds vs) : Sl K Hs (L2.start N vs) (startD N ds) := by
  unfold L2.start startD
  refine ⟨by simp [r.len], fun i d h => ?_⟩
  by_cases hi : i < ds.length
  · rw [List.getElem?_append_left (by simpa using hi), List.getElem?_map] at h
    cases e : ds[i]? with
    | none => rw [e] at h; cases h
    | some d' =>
      rw [e] at h; cases h
      obtain ⟨v, k1, k2⟩ := r.get e
      refine ⟨v, ?_, k2⟩
      rw [List.getElem?_append_left (by rw [List.length_map, r.len]; exact hi), List.getElem?_map, k1]
      rfl
  · rw [List.getElem?_append_right (by simpa using Nat.le_of_not_lt hi), List.getElem?_replicate] at h
    split at h <;> cases h
section
variable {P : Program} {w : World} {K : PySem.W.Frag} {mg : Str → Option Value} {base : Heap}
/-- THE RULE for a def: its body, walked over data -/
theorem fnd {x qual : Str} {st : Stmt} {f : Addr} {fd : FuncData} {N ps : List Str} {k : Nat} {p : DSp} {dds : List D} {dvs : List V} {ds : List Value} (F : Fun K x qual st f fd) (S : FnScope N ps (defScope st)) (hb : Binds K fd ps ds) (hd : Vals dvs ds) (hdd : ∀ Hs, RA K Hs dds dvs)
    (len : ∀ ds C Q, p ds C Q → ds.length = ps.length)
    (hbody : ∀ (cdv : Value) (A : Around) (outer : List PySem.Env) (s : Shared) (H : Hp) (E : XK), Room k (A.deeper (envOfC qual (defScope st) s.heap.objs.size f cdv)) →
      ∃ t, DSs (cxOf CX0 P w K mg base N qual (defScope st) f cdv A outer s H E).nox (defBody st) t ∧ ∀ ds C Q, p ds C Q → t (endsOf Q) (startD N ds) C) : Fn P w K mg base (k + 1) f dds p := by
  refine ⟨fd, ps, ds, dvs, F.kp, hb, hd, hdd, F.ok S (fun vs H Q E h => ?_) (fun cdv A outer s H vs Q E hr h => ?_)⟩
  · obtain ⟨ds, S, P, rfl, r, ok, t, w⟩ := h
    rw [r.len]
    exact len _ _ _ t
  · obtain ⟨ds, S0, P0, rfl, r, ok, t, w⟩ := h
    obtain ⟨tt, h1, h2⟩ := hbody cdv A outer s S0.h E hr
    refine ⟨_, h1, startD N ds, S0, endsOf P0, rfl, sl_start r, ok, h2 ds _ _ t, ⟨fun ρ' σ' S' e1 s1 t1 => ?_, fun v d S' e1 rd t1 => ?_, fun ρ' σ' S' e1 s1 t1 => t1.elim, fun ρ' σ' S' e1 s1 t1 => t1.elim⟩⟩
    · obtain ⟨C'', gh, q⟩ := t1
      have e2 := e1.ok.gh gh
      exact w .non .non ⟨S'.hs, C'', S'.h⟩ (e1.trans e2) R_non q
    · obtain ⟨C'', gh, q⟩ := t1
      have e2 := e1.ok.gh gh
      exact w v d ⟨S'.hs, C'', S'.h⟩ (e1.trans e2) (R.ext e2.ext _ _ rd) q
/-- a cell of which an invariant is told, opened for a def -/
theorem Fn.open {k : Nat} {f : Addr} {dds : List D} {p1 p2 : DSp} (h : Fn P w K mg base k f dds p1)
    (l : ∀ ds C Q, p2 ds C Q → ∃ a PI, C a = some (.inv PI) ∧ ∀ vs, PI vs → ∃ xs : List D, (∀ K Hs, RA K Hs xs vs) ∧ p1 ds (cset C a (.lst xs)) fun d C' => ∃ C'', Gh C' C'' ∧ Q d C'') : Fn P w K mg base k f dds p2 := by
  obtain ⟨fd, ps, ds, dvs, h1, h2, h3, h4, h5⟩ := h.ex
  refine ⟨fd, ps, ds, dvs, h1, h2, h3, h4, h5.imp fun vs H Q E z => ?_⟩
  obtain ⟨ds, S, P, rfl, r, ok, t, w⟩ := z
  obtain ⟨a, PI, e, q⟩ := l ds S.c P t
  obtain ⟨n', us, k1, k2⟩ := ok.cell a _ e
  obtain ⟨xs, rx, q⟩ := q us k2
  have st : Step K S ⟨S.hs, cset S.c a (.lst xs), S.h⟩ := by
    refine ⟨Ext.refl _, fun b u g1 g2 g3 => ⟨g1, g2, ?_⟩, ⟨ok.le, fun b d g => ?_⟩⟩
    · have hb : b ≠ a := fun z => by rw [z, e] at g3; cases g3
      exact (cset_ne hb).trans g3
    · have g' : cset S.c a (.lst xs) b = some d := g
      by_cases hb : b = a
      · subst hb; rw [cset_same] at g'; cases g'; exact ⟨n', us, k1, rx _ _⟩
      · rw [cset_ne hb] at g'; exact ok.cell b d g'
  refine ⟨ds, ⟨S.hs, cset S.c a (.lst xs), S.h⟩, _, rfl, r, st.ok, q, fun v d S' e1 rd t1 => ?_⟩
  obtain ⟨C'', gh, t1⟩ := t1
  have e2 := e1.ok.gh gh
  exact w v d ⟨S'.hs, C'', S'.h⟩ (st.trans (e1.trans e2)) (R.ext e2.ext _ _ rd) t1
end

/-! ### try, where nothing is raised -/
section
variable {X : Cx} {body : List Stmt} {h0 : ExceptHandler} {hs : List ExceptHandler} {t : DS} {pos : Pos}
theorem ds_try (hb : DSs X.nox body t) : DSt X (.Try body (h0 :: hs) [] [] pos) t := ps_try_thru0 hb
end

/-! ### xs[i] = e of a cell -/
section
variable {X : Cx} {K : PySem.W.Frag}
def dSubL (to ti : DT) : DG := fun d ρ C P => to ρ C fun x C1 => ti ρ C1 fun i C2 => match x, i with
  | .cell a, .int k => (match C2 a with
    | some (.lst xs) => opt (ixN xs.length k) fun j => P ρ (cset C2 a (.lst (xs.set j d)))
    | _ => False)
  | _, _ => False
theorem dg_subL {o i : Expr} {to ti : DT} {pos : Pos} (ho : DE X o to) (hi : DE X i ti) (ha : ∀ v, assign (.Subscript o i pos) X.env v = (do
      let ov ← holding [v] (eval o X.env); let iv ← holding [v, ov] (eval i X.env); standAt pos; holding [v, ov, iv] (setItem ov iv v); release [v, ov, iv] []) := by intro _; rfl) : DGt X (.Subscript o i pos) (dSubL to ti) :=
  pg_weak (pg_sub ho hi set_list ha) fun v σ H Q q => by
    obtain ⟨ρ, S, d, P, rfl, s, r, rd, t, w⟩ := q
    refine ⟨ρ, S, _, rfl, s, r, t, fun u x S1 e1 rx t1 => ?_⟩
    refine ⟨ρ, S1, _, rfl, s.ext e1.ext, e1.ok, t1, fun z y S2 e2 ry t2 => ?_⟩
    split at t2
    · rename_i a k
      simp only [R] at ry; subst ry
      simp only [R] at rx; subst rx
      split at t2
      · rename_i xs e
        obtain ⟨j, ej, t2⟩ := opt_of t2
        obtain ⟨_, vs, h1, h2⟩ := e2.ok.cell a _ e
        have rd' := R.ext (e1.trans e2).ext _ _ rd
        have st := e2.ok.setC (o := .lst (vs.set j v)) (c := .lst (xs.set j d)) e ⟨_, upd_same, h2.set j rd'⟩
        exact ⟨a, vs, k, j, rfl, rfl, h1, by rw [h2.len]; exact ej, w ρ σ _ (e1.trans (e2.trans st)) (s.ext (e1.trans (e2.trans st)).ext) t2⟩
      · exact t2.elim
    · exact t2.elim
end

/-! ### dicts by text and number keys -/
def dval (kvs : List (Key × D)) (k : Key) : Option D := match kvs with
  | [] => none
  | (q, d) :: r => if q = k then some d else dval r k
def dput (kds : List (Key × D)) (k : Key) (d : D) : List (Key × D) := if (kds.any fun q => decide (q.1 = k)) = true then kds.map (fun q => if q.1 = k then (q.1, d) else q) else kds ++ [(k, d)]
def keyOf : D → Option Key
  | .int i => some (.inl i)
  | .str x => some (.inr x)
  | _ => none
section
variable {K : PySem.W.Frag} {Hs : Hp}
theorem keyOf_R {x : D} {v : V} {k : Key} (h : R K Hs x v) (e : keyOf x = some k) : v = kV k := by
  cases x <;> simp [keyOf] at e
  · subst e; simp only [R] at h; subst h; rfl
  · subst e; simp only [R] at h; subst h; rfl
theorem RK.val : ∀ {kds : List (Key × D)} {kvs : List (Key × V)} (k : Key), RK K Hs kds kvs → (∀ d, dval kds k = some d → ∃ v, valV kvs k = some v ∧ R K Hs d v) ∧ (dval kds k = none → valV kvs k = none)
  | [], kvs, k, h => by simp only [RK] at h; subst h; exact ⟨fun d e => by simp [dval] at e, fun _ => rfl⟩
  | (q, d0) :: r, kvs, k, h => by
    simp only [RK] at h
    obtain ⟨v, s, rfl, h1, h2⟩ := h
    obtain ⟨k1, k2⟩ := RK.val k h2
    by_cases e : q = k
    · have ev : valV ((q, v) :: s) k = some v := by simp [valV, List.find?, e]
      simp only [dval, if_pos e, ev]
      exact ⟨fun d q => by cases q; exact ⟨v, rfl, h1⟩, fun q => by cases q⟩
    · have ev : valV ((q, v) :: s) k = valV s k := by simp [valV, List.find?, e]
      simp only [dval, if_neg e, ev]
      exact ⟨k1, k2⟩
theorem RK.has {kds : List (Key × D)} {kvs : List (Key × V)} (k : Key) (h : RK K Hs kds kvs) : (valV kvs k).isSome = (dval kds k).isSome := by
  obtain ⟨h1, h2⟩ := RK.val k h
  cases e : dval kds k with
  | none => rw [h2 e]; rfl
  | some d => obtain ⟨v, e2, _⟩ := h1 d e; rw [e2]; rfl
theorem RK.len : ∀ {kds : List (Key × D)} {kvs : List (Key × V)}, RK K Hs kds kvs → kvs.length = kds.length
  | [], kvs, h => by simp only [RK] at h; subst h; rfl
  | (q, d0) :: r, kvs, h => by
    simp only [RK] at h
    obtain ⟨v, s, rfl, h1, h2⟩ := h
    simp [RK.len h2]
theorem RK.any : ∀ {kds : List (Key × D)} {kvs : List (Key × V)} (k : Key), RK K Hs kds kvs → (kvs.any fun q => decide (q.1 = k)) = (kds.any fun q => decide (q.1 = k))
  | [], kvs, k, h => by simp only [RK] at h; subst h; rfl
  | (q, d0) :: r, kvs, k, h => by
    simp only [RK] at h
    obtain ⟨v, s, rfl, h1, h2⟩ := h
    simp only [List.any_cons, RK.any k h2]
theorem RK.app : ∀ {kds : List (Key × D)} {kvs : List (Key × V)} {k : Key} {d : D} {v : V}, RK K Hs kds kvs → R K Hs d v → RK K Hs (kds ++ [(k, d)]) (kvs ++ [(k, v)])
  | [], kvs, k, d, v, h, g => by simp only [RK] at h; subst h; simp only [List.nil_append, RK]; exact ⟨v, [], rfl, g, rfl⟩
  | (q, d0) :: r, kvs, k, d, v, h, g => by
    simp only [RK] at h
    obtain ⟨u, s, rfl, h1, h2⟩ := h
    simp only [List.cons_append, RK]
    exact ⟨u, _, rfl, h1, RK.app h2 g⟩
theorem RK.mapPut : ∀ {kds : List (Key × D)} {kvs : List (Key × V)} {k : Key} {d : D} {v : V}, RK K Hs kds kvs → R K Hs d v → RK K Hs (kds.map fun q => if q.1 = k then (q.1, d) else q) (kvs.map fun q => if q.1 = k then (q.1, v) else q)
  | [], kvs, k, d, v, h, g => by simp only [RK] at h; subst h; simp only [List.map_nil, RK]
  | (q, d0) :: r, kvs, k, d, v, h, g => by
    simp only [RK] at h
    obtain ⟨u, s, rfl, h1, h2⟩ := h
    by_cases e : q = k
    · simp only [List.map_cons, if_pos e, RK]
      exact ⟨v, _, rfl, g, RK.mapPut h2 g⟩
    · simp only [List.map_cons, if_neg e, RK]
      exact ⟨u, _, rfl, h1, RK.mapPut h2 g⟩
theorem RK.put {kds : List (Key × D)} {kvs : List (Key × V)} {k : Key} {d : D} {v : V} (h : RK K Hs kds kvs) (g : R K Hs d v) : RK K Hs (dput kds k d) (putK kvs k v) := by
  unfold dput putK
  rw [RK.any k h]
  split
  · exact RK.mapPut h g
  · exact RK.app h g
end
section
variable {X : Cx} {K : PySem.W.Frag} {o i e f value : Expr} {td ty tv tx : DT} {pos pos' apos cpos : Pos}
/-- d[k], there -/
def dDGet (td ty : DT) : DT := fun ρ C P => td ρ C fun x C1 => ty ρ C1 fun y C2 => match vw C2 x with
  | .dic kds => opt (keyOf y) fun k => opt (dval kds k) fun d => P d C2
  | _ => False
theorem de_dget (hu : X.A.units + 1 < cLine) (ho : DE X o td) (hi : DE X i ty) (hs : NoSl i := by exact fun _ _ => rfl) : DE X (.Subscript o i pos) (dDGet td ty) :=
  pe_weak (pe_dget hu ho hi hs) fun σ H Q q => by
    obtain ⟨ρ, S, P, rfl, s, r, t, w⟩ := q
    refine ⟨ρ, S, _, rfl, s, r, t, fun v x S1 e1 rx t1 => ?_⟩
    refine ⟨ρ, S1, _, rfl, s.ext e1.ext, e1.ok, t1, fun u y S2 e2 ry t2 => ?_⟩
    have rx2 := R.ext e2.ext _ _ rx
    split at t2
    · rename_i kds e
      obtain ⟨k, ek, t2⟩ := opt_of t2
      obtain ⟨d, ed, t2⟩ := opt_of t2
      obtain ⟨a, ob, kvs, rfl, h1, h2, h3⟩ := vw_dic e2.ok rx2 e
      obtain ⟨z, k1, k2⟩ := (RK.val k h3).1 d ed
      exact ⟨a, z, rfl, .inl ⟨kvs, k, rd_core h1 h2, keyOf_R ry ek, k1.symm⟩, w z d S2 (e1.trans e2) k2 t2⟩
    · exact t2.elim
/-- k in d, k not in d -/
def dDIn (neg : Bool) (ty td : DT) : DT := fun ρ C P => ty ρ C fun y C1 => td ρ C1 fun x C2 => match vw C2 x with
  | .dic kds => opt (keyOf y) fun k => P (.bl (if neg then !(dval kds k).isSome else (dval kds k).isSome)) C2
  | _ => False
theorem lift_din {neg : Bool} {Z : Option V → V} (hz : ∀ kds kvs k Hs, RK K Hs kds kvs → Z (valV kvs k) = .bl (if neg then !(dval kds k).isSome else (dval kds k).isSome)) {σ : L2.St} {H : Hp} {Q : VK} (q : liftE K (dDIn neg ty td) σ H Q) :
    liftE K ty σ H fun y H1 => liftE K td σ H1 fun x H2 => ∃ a o, x = .ref a ∧ DGet H2 a y o ∧ Q (Z o) H2 := by
  obtain ⟨ρ, S, P, rfl, s, r, t, w⟩ := q
  refine ⟨ρ, S, _, rfl, s, r, t, fun u y S1 e1 ry t1 => ?_⟩
  refine ⟨ρ, S1, _, rfl, s.ext e1.ext, e1.ok, t1, fun v x S2 e2 rx t2 => ?_⟩
  split at t2
  · rename_i kds e
    obtain ⟨k, ek, t2⟩ := opt_of t2
    obtain ⟨a, ob, kvs, rfl, h1, h2, h3⟩ := vw_dic e2.ok rx e
    refine ⟨a, valV kvs k, rfl, .inl ⟨kvs, k, rd_core h1 h2, keyOf_R (R.ext e2.ext _ _ ry) ek, rfl⟩, ?_⟩
    rw [hz kds kvs k _ h3]
    exact w _ _ S2 (e1.trans e2) R_bl t2
  · exact t2.elim
theorem de_din (hu : X.A.units + 1 < cLine) (hi : DE X i ty) (ho : DE X o td) (hm : behindInMarks .In o = false := by rfl) : DE X (.Compare i [.In] [o] pos) (dDIn false ty td) :=
  pe_weak (pe_cmp (pc_din hu hi ho) hm) fun σ H Q q => lift_din (K := X.K) (neg := false) (Z := fun o => .bl o.isSome) (fun kds kvs k Hs h => by rw [RK.has k h]; rfl) q
theorem de_dnotin (hu : X.A.units + 1 < cLine) (hi : DE X i ty) (ho : DE X o td) (hm : behindInMarks .NotIn o = false := by rfl) : DE X (.Compare i [.NotIn] [o] pos) (dDIn true ty td) :=
  pe_weak (pe_cmp (pc_dnotin hu hi ho) hm) fun σ H Q q => lift_din (K := X.K) (neg := true) (Z := fun o => .bl (!o.isSome)) (fun kds kvs k Hs h => by rw [RK.has k h]; rfl) q
theorem dt_din (hu : X.A.units + 1 < cLine) (hi : DE X i ty) (ho : DE X o td) (hm : behindInMarks .In o = false := by rfl) : DC X (.Compare i [.In] [o] pos) (dTest (dDIn false ty td)) :=
  pt_weak (pt_cmp (pc_din hu hi ho) hm) fun σ H Q q => lift_test (fun _ _ _ q => lift_din (K := X.K) (neg := false) (Z := fun o => .bl o.isSome) (fun kds kvs k Hs h => by rw [RK.has k h]; rfl) q) q
theorem dt_dnotin (hu : X.A.units + 1 < cLine) (hi : DE X i ty) (ho : DE X o td) (hm : behindInMarks .NotIn o = false := by rfl) : DC X (.Compare i [.NotIn] [o] pos) (dTest (dDIn true ty td)) :=
  pt_weak (pt_cmp (pc_dnotin hu hi ho) hm) fun σ H Q q => lift_test (fun _ _ _ q => lift_din (K := X.K) (neg := true) (Z := fun o => .bl (!o.isSome)) (fun kds kvs k Hs h => by rw [RK.has k h]; rfl) q) q
/-- d[k] = e of a cell -/
def dDPut (td ty tv : DT) : DS := fun E ρ C => tv ρ C fun d C1 => td ρ C1 fun x C2 => ty ρ C2 fun y C3 => match x with
  | .cell a => (match C3 a with
    | some (.dic kds) => opt (keyOf y) fun k => kds.length < 1000000 ∧ E.nx ρ (cset C3 a (.dic (dput kds k d)))
    | _ => False)
  | _ => False
theorem ds_dput (hu : X.A.units + 1 < cLine) (ho : DE X o td) (hi : DE X i ty) (hv : DE X value tv) (hs : swapsWith value (some (.Subscript o i pos')) pos.line X.env = pure false := by rfl) : DSt X (.Assign [.Subscript o i pos'] value pos) (dDPut td ty tv) :=
  ps_weak (ps_dput hu ho hi hv hs) fun F σ H q => by
    obtain ⟨ρ, S, E, rfl, s, r, t, w⟩ := q
    refine ⟨ρ, S, _, rfl, s, r, t, fun v d S1 e1 rd t1 => ?_⟩
    refine ⟨ρ, S1, _, rfl, s.ext e1.ext, e1.ok, t1, fun u x S2 e2 rx t2 => ?_⟩
    refine ⟨ρ, S2, _, rfl, s.ext (e1.trans e2).ext, e2.ok, t2, fun z y S3 e3 ry t3 => ?_⟩
    split at t3
    · rename_i a
      simp only [R] at rx; subst rx
      split at t3
      · rename_i kds e
        obtain ⟨k, ek, hl, t3⟩ := opt_of t3
        obtain ⟨_, kvs, h1, h2⟩ := e3.ok.cell a _ e
        have rd' := R.ext (e2.trans e3).ext _ _ rd
        have st := e3.ok.setC (o := .dK (putK kvs k v)) (c := .dic (dput kds k d)) e ⟨_, upd_same, RK.put h2 rd'⟩
        have e4 := e1.trans (e2.trans (e3.trans st))
        refine ⟨a, _, rfl, ?_, w.nx ρ σ _ e4 (s.ext e4.ext) t3⟩
        rw [keyOf_R ry ek]
        exact DPut.k h1 (by rw [RK.len h2, sizeLine_eq]; omega)
      · exact t3.elim
    · exact t3.elim
/-- d.get(k, x) -/
def dDGet2 (td ty tx : DT) : DT := fun ρ C P => td ρ C fun x C1 => (∃ kds, vw C1 x = .dic kds) ∧ ty ρ C1 fun y C2 => tx ρ C2 fun z C3 => match vw C3 x with
  | .dic kds => opt (keyOf y) fun k => P ((dval kds k).getD z) C3
  | _ => False
theorem de_dget2 (hu : X.A.units + 1 < cLine) (ho : DE X o td) (he : DE X e ty) (hf : DE X f tx) (m : M2 X o "get" apos e f cpos := by exact ⟨rfl, rfl, rfl, rfl⟩) : DE X (.Call (.Attribute o "get" apos) [e, f] [] cpos) (dDGet2 td ty tx) :=
  pe_weak (pe_dget2 hu ho he hf m) fun σ H Q q => by
    obtain ⟨ρ, S, P, rfl, s, r, t, w⟩ := q
    refine ⟨ρ, S, _, rfl, s, r, t, fun v x S1 e1 rx t1 => ?_⟩
    obtain ⟨⟨kds0, e0⟩, t1⟩ := t1
    obtain ⟨a, ob, kvs0, rfl, g1, g2, g3⟩ := vw_dic e1.ok rx e0
    refine ⟨a, rfl, .inl ⟨kvs0, rd_core g1 g2⟩, ρ, S1, _, rfl, s.ext e1.ext, e1.ok, t1, fun u y S2 e2 ry t2 => ?_⟩
    refine ⟨ρ, S2, _, rfl, s.ext (e1.trans e2).ext, e2.ok, t2, fun z dz S3 e3 rz t3 => ?_⟩
    have rx3 := R.ext (e2.trans e3).ext _ _ rx
    split at t3
    · rename_i kds e
      obtain ⟨k, ek, t3⟩ := opt_of t3
      obtain ⟨a', ob, kvs, ea, h1, h2, h3⟩ := vw_dic e3.ok rx3 e
      cases ea
      refine ⟨valV kvs k, .inl ⟨kvs, k, rd_core h1 h2, keyOf_R (R.ext e3.ext _ _ ry) ek, rfl⟩, ?_⟩
      obtain ⟨k1, k2⟩ := RK.val k h3
      cases ed : dval kds k with
      | none =>
        rw [k2 ed]
        rw [ed] at t3
        exact w z dz S3 (e1.trans (e2.trans e3)) rz t3
      | some d =>
        obtain ⟨zz, k3, k4⟩ := k1 d ed
        rw [k3]
        rw [ed] at t3
        exact w zz d S3 (e1.trans (e2.trans e3)) k4 t3
    · exact t3.elim
/-- dict([]): a new dict, a cell -/
def kDict0 : D → Cells → DK → Prop := fun x C P => match x with
  | .lst [] => ∀ p, C p = none → P (.cell p) (cset C p (.dic []))
  | _ => False
theorem cl_dict0 : ClS K (fun xs H Q => ∃ (a : Addr) (ps : List Addr) (kvs : List (Key × V)), xs = [.ref a] ∧ SqL K H a (ps.map V.ref) ∧ Paired (fun p kv => SqT K H p [kV kv.1, kv.2]) ps kvs ∧ ∀ p, H p = none → Q (.ref p) (upd H p (.dK (mergeK [] kvs)))) (d1 kDict0) := cl1 fun x v S P Q ok rx t w => by
  unfold kDict0 at t
  split at t
  · simp only [R] at rx
    obtain ⟨a, vs, rfl, h1, h2⟩ := rx
    simp only [RA] at h2; subst h2
    refine ⟨a, [], [], rfl, SqL.of (ok.le _ _ h1), .nil, fun p hp => ?_⟩
    have st := ok.newC (o := .dK []) (c := .dic []) hp ⟨[], upd_same, by simp only [RK]⟩
    exact w _ (.cell p) _ st (by simp only [R]) (t p (ok.freshC hp))
  · exact t.elim
end
end DL

set_option Elab.async false
set_option linter.all false
set_option maxRecDepth 100000
set_option maxHeartbeats 1000000
namespace DL
open PySem PySem.Spec PyProof.Rows L2
/-! ### what a text's facts are told by -/
def fa (mg : Str → Option Value) (x : Str) : Addr := match mg x with
  | some (.ref a) => a
  | _ => 0
def ma (K : PySem.W.Frag) (C : Addr) (m : Str) : Addr := match PySem.W.findIn K (.ref C) m with
  | some (some (.ref f)) => f
  | _ => 0
/-- a def of the module: where it stands, what it is, how its arguments bind -/
structure Df (K : PySem.W.Frag) (mg : Str → Option Value) (x : Str) (st : Stmt) (ps : List Str) : Prop where
  m : mg x = some (.ref (fa mg x))
  d : ∃ fd, Fun K x x st (fa mg x) fd ∧ Binds K fd ps []
/-- a method -/
structure Mf (K : PySem.W.Frag) (C : Addr) (m qual : Str) (st : Stmt) (ps : List Str) : Prop where
  me : Meth K C m (ma K C m)
  d : ∃ fd, Fun K m qual st (ma K C m) fd ∧ Binds K fd ps []
section
variable {P : Program} {w : World} {K : PySem.W.Frag} {mg : Str → Option Value} {base : Heap}
theorem fn_df {x : Str} {st : Stmt} {ps N : List Str} {k : Nat} {p : DSp} (F : Df K mg x st ps) (S : FnScope N ps (defScope st)) (len : ∀ ds C Q, p ds C Q → ds.length = ps.length)
    (hbody : ∀ (cdv : Value) (A : Around) (outer : List PySem.Env) (s : Shared) (H : Hp) (E : XK), Room k (A.deeper (envOfC x (defScope st) s.heap.objs.size (fa mg x) cdv)) →
      ∃ t, DSs (cxOf CX0 P w K mg base N x (defScope st) (fa mg x) cdv A outer s H E).nox (defBody st) t ∧ ∀ ds C Q, p ds C Q → t (endsOf Q) (startD N ds) C) : Fn P w K mg base (k + 1) (fa mg x) [] p := by
  obtain ⟨fd, F1, b⟩ := F.d
  exact fnd F1 S b .nil (fun _ => RA.nil) len hbody
theorem fn_mf {C : Addr} {m qual : Str} {st : Stmt} {ps N : List Str} {k : Nat} {p : DSp} (F : Mf K C m qual st ps) (S : FnScope N ps (defScope st)) (len : ∀ ds C Q, p ds C Q → ds.length = ps.length)
    (hbody : ∀ (cdv : Value) (A : Around) (outer : List PySem.Env) (s : Shared) (H : Hp) (E : XK), Room k (A.deeper (envOfC qual (defScope st) s.heap.objs.size (ma K C m) cdv)) →
      ∃ t, DSs (cxOf CX0 P w K mg base N qual (defScope st) (ma K C m) cdv A outer s H E).nox (defBody st) t ∧ ∀ ds C Q, p ds C Q → t (endsOf Q) (startD N ds) C) : Fn P w K mg base (k + 1) (ma K C m) [] p := by
  obtain ⟨fd, F1, b⟩ := F.d
  exact fnd F1 S b .nil (fun _ => RA.nil) len hbody
/-- nothing can be asked at level 0 -/
theorem fn_zero {f : Addr} {ps : List Str} {p : DSp} (F : ∃ fd, PySem.W.keepIn K (.ref f) = true ∧ Binds K fd ps []) (no : ∀ ds C Q, ¬ p ds C Q) : Fn P w K mg base 0 f [] p := by
  obtain ⟨fd, hk, hb⟩ := F
  have no' : ∀ vs H Q E, ¬ spOf K p vs H Q E := fun vs H Q E h => by
    obtain ⟨ds, S, P, _, _, _, t, _⟩ := h
    exact no _ _ _ t
  exact ⟨fd, ps, [], [], hk, hb, .nil, fun _ => RA.nil, ⟨fun vs H Q E h => (no' vs H Q E h).elim, fun A outer s H args us vs Q E _ _ _ _ h => (no' vs H Q E h).elim⟩⟩
theorem Df.z {x : Str} {st : Stmt} {ps : List Str} (F : Df K mg x st ps) : ∃ fd, PySem.W.keepIn K (.ref (fa mg x)) = true ∧ Binds K fd ps [] := by
  obtain ⟨fd, F1, b⟩ := F.d
  exact ⟨fd, F1.kp, b⟩
end
/-! -a -/
def dNeg (t : DT) : DT := fun ρ C P => t ρ C fun x C1 => match x with
  | .int i => P (.int (-i)) C1
  | _ => False
theorem de_un {X : Cx} {e : Expr} {t : DT} {pos : Pos} (h : DE X e t) : DE X (.UnaryOp .USub e pos) (dNeg t) := pe_weak (pe_un un_neg h) fun σ H Q q => by
  obtain ⟨ρ, S, P, rfl, s, r, t, w⟩ := q
  refine ⟨ρ, S, _, rfl, s, r, t, fun v x S1 e1 rx t1 => ?_⟩
  cases x with
  | int i => exact ⟨i, by simpa [R] using rx, w _ _ S1 e1 R_int t1⟩
  | _ => exact t1.elim
theorem bt_len : bootBuiltins "len" = some (.builtin "len") := by decide +kernel
theorem bt_abs : bootBuiltins "abs" = some (.builtin "abs") := by decide +kernel
theorem bt_sum : bootBuiltins "sum" = some (.builtin "sum") := by decide +kernel
theorem bt_max : bootBuiltins "max" = some (.builtin "max") := by decide +kernel
theorem bt_min : bootBuiltins "min" = some (.builtin "min") := by decide +kernel
theorem bt_repr : bootBuiltins "repr" = some (.builtin "repr") := by decide +kernel
theorem bt_isinstance : bootBuiltins "isinstance" = some (.builtin "isinstance") := by decide +kernel
theorem bt_str : bootBuiltins "str" = some (.type "str") := by decide +kernel
theorem bt_int : bootBuiltins "int" = some (.type "int") := by decide +kernel
theorem bt_bool : bootBuiltins "bool" = some (.type "bool") := by decide +kernel
theorem bt_list : bootBuiltins "list" = some (.type "list") := by decide +kernel
theorem bt_tuple : bootBuiltins "tuple" = some (.type "tuple") := by decide +kernel
theorem bt_dict : bootBuiltins "dict" = some (.type "dict") := by decide +kernel
end DL

set_option Elab.async false
set_option linter.all false
set_option maxRecDepth 100000
set_option maxHeartbeats 1000000
namespace DL
open PySem PySem.Spec PyProof.Rows L2
/-! ### for the opening of readings -/
section
variable {C : Cells} {a : Addr}
theorem vw_non : vw C .non = .non := rfl
theorem vw_bl {b} : vw C (.bl b) = .bl b := rfl
theorem vw_i {b} : vw C (.int b) = .int b := rfl
theorem vw_s {b} : vw C (.str b) = .str b := rfl
theorem vw_l {b} : vw C (.lst b) = .lst b := rfl
theorem vw_t {b} : vw C (.tup b) = .tup b := rfl
theorem vw_d {b} : vw C (.dic b) = .dic b := rfl
theorem vw_n {b c} : vw C (.ins b c) = .ins b c := rfl
theorem vw_f {b} : vw C (.fro b) = .fro b := rfl
theorem vw_v {b} : vw C (.val b) = .val b := rfl
theorem vw_cl {ds} (h : C a = some (.lst ds)) : vw C (.cell a) = .lst ds := by simp [vw, h]
theorem vw_cd {ds} (h : C a = some (.dic ds)) : vw C (.cell a) = .dic ds := by simp [vw, h]
theorem vw_cn {c ds} (h : C a = some (.ins c ds)) : vw C (.cell a) = .ins c ds := by simp [vw, h]
end
/-- done with a def -/
theorem fin {Q : DK} {d : D} {C : Cells} (h : Q d C) : ∃ C'', Gh C C'' ∧ Q d C'' := ⟨C, Gh.refl C, h⟩
theorem fin_sub {Q : DK} {d : D} {C C' : Cells} (h : Q d C) (s : Sub C C') : ∃ C'', Gh C' C'' ∧ Q d C'' := ⟨C, Gh.sub s, h⟩
theorem compN_none {ds : List D} {j : Nat} {tt : DB} {te : DT} {ρ : DL.Env} {C : Cells} {P : DK} (h : ∀ (i : Nat) d (P' : Bool → Cells → Prop), ds[i]? = some d → P' false C → tt (ρ.set j (some d)) C P') (q : P (.lst []) C) : compN ds j tt te ρ C P := by
  refine ⟨fun i acc C' => acc = [] ∧ C' = C, ⟨rfl, rfl⟩, fun i d acc C' e p => ?_, fun acc C' p => ?_⟩
  · obtain ⟨rfl, rfl⟩ := p
    exact h i d _ e ⟨C', Gh.refl C', rfl, rfl⟩
  · obtain ⟨rfl, rfl⟩ := p
    exact q
theorem compN_map {ds : List D} {j : Nat} {te : DT} {ρ : DL.Env} {C : Cells} {P : DK} (f : D → D) (hl : ds.length ≤ 1000000)
    (k : ∀ (i : Nat) d (P' : DK), ds[i]? = some d → P' (f d) C → te (ρ.set j (some d)) C P') (q : P (.lst (ds.map f)) C) : compN ds j dYes te ρ C P := by
  refine compN_det (fun _ => true) f hl (fun i d P' e p => p) (fun i d P' e _ p => k i d P' e p) ?_
  rw [List.filter_eq_self.mpr (fun _ _ => rfl)]
  exact q
theorem eqD_nil (xs : List D) : eqD (.lst xs) (.lst []) = xs.isEmpty := by
  cases xs with
  | nil => simp [eqD, toPy, toPys, PyData.eqv, PyData.eqvAll]
  | cons x r => simp [eqD, toPy, toPys, PyData.eqv, PyData.eqvAll]
theorem okD_nil : okD (.lst []) := by
  refine ⟨by simp [isPy, isPys], ?_⟩
  simp [SeqAt.shaped, toPy, toPys, PyData.canLay0, PyData.canLayAll0, PyData.depth, PyData.depthAll]
end DL

set_option Elab.async false
set_option linter.all false
set_option maxRecDepth 100000
set_option maxHeartbeats 1000000
namespace DL
open PySem PySem.Spec PyProof.Rows L2
/-! list(..) of a list, a tuple -/
def kListOf : D → Cells → DK → Prop := fun x C P => match vw C x with
  | .lst ds => P (.lst ds) C
  | .tup ds => P (.lst ds) C
  | _ => False
theorem cl_listOf {K : PySem.W.Frag} : ClS K (fun xs H Q => ∃ p ys, xs = [.ref p] ∧ (SqL K H p ys ∨ SqT K H p ys) ∧ ∀ l, H l = none → Q (.ref l) (upd H l (.lst ys))) (d1 kListOf) := cl1 fun x v S P Q ok rx t w => by
  unfold kListOf at t
  split at t
  · rename_i ds e
    obtain ⟨a, vs, rfl, h1, h2⟩ := vw_lst ok rx e
    refine ⟨a, vs, rfl, .inl (SqL.of h1), fun p hp => ?_⟩
    have st := ok.new (o := .lst vs) hp
    exact w _ (.lst ds) _ st (by simp only [R]; exact ⟨p, _, rfl, upd_same, RA.ext st.ext _ _ h2⟩) t
  · rename_i ds e
    obtain ⟨a, vs, rfl, h1, h2⟩ := vw_tup ok rx e
    refine ⟨a, vs, rfl, .inr (SqT.of h1), fun p hp => ?_⟩
    have st := ok.new (o := .lst vs) hp
    exact w _ (.lst ds) _ st (by simp only [R]; exact ⟨p, _, rfl, upd_same, RA.ext st.ext _ _ h2⟩) t
  · exact t.elim
end DL

set_option Elab.async false
set_option linter.all false
set_option maxRecDepth 100000
set_option maxHeartbeats 1000000
namespace DL
open PySem PySem.Spec PyProof.Rows L2
/-! repr of a list, a tuple of data (where no repr is under way) -/
def okS (d : PyData) : Prop := d.showable = true ∧ d.canLay0 = true ∧ d.depth ≤ 40 ∧ d.shown.length ≤ sizeLine
theorem call_reprD {X : Cx} (hu : X.A.units + 64 < cLine) (hg : X.A.guards = some []) :
    CallR X (.builtin "repr") (fun xs H Q => ∃ (a : Addr) (d : PyData), xs = [V.ref a] ∧ Dp X.K H (V.ref a) d ∧ okS d ∧ Q (.str d.shown) H) := by
  intro pins s σ H xs us Q I hv h
  obtain ⟨a, d, rfl, hd, ⟨hs, hc, hp, hz⟩, q⟩ := h
  cases hv with
  | cons r rest =>
    cases rest
    cases r
    obtain ⟨as, rd⟩ := Dp.reads I d (V.ref a) (.ref a) hd rfl
    exact repr_of_reads' rd hs (PyData.noDict_hsm (PyData.hasDict_of_canLay d hc)) hg (by omega) (fun _ _ e => e) (fun h' u tk hk => ⟨.str d.shown, H, I.kept hk, ⟨_, rfl⟩, q⟩) hz
def kRepr : D → Cells → DK → Prop := fun x C P => match x with
  | .lst ds => isPy (.lst ds) = true ∧ okS (toPy (.lst ds)) ∧ P (.str (toPy (.lst ds)).shown) C
  | .tup ds => isPy (.tup ds) = true ∧ okS (toPy (.tup ds)) ∧ P (.str (toPy (.tup ds)).shown) C
  | _ => False
theorem cl_repr {K : PySem.W.Frag} : ClS K (fun xs H Q => ∃ (a : Addr) (d : PyData), xs = [V.ref a] ∧ Dp K H (V.ref a) d ∧ okS d ∧ Q (.str d.shown) H) (d1 kRepr) := cl1 fun x v S P Q ok rx t w => by
  unfold kRepr at t
  split at t
  · rename_i ds
    obtain ⟨p, o, t⟩ := t
    obtain ⟨a, vs, rfl, h1, h2⟩ := vw_lst (x := .lst ds) ok rx rfl
    exact ⟨a, _, rfl, dp_of ok.le _ _ p rx, o, w _ _ S (.refl ok) R_str t⟩
  · rename_i ds
    obtain ⟨p, o, t⟩ := t
    obtain ⟨a, vs, rfl, h1, h2⟩ := vw_tup (x := .tup ds) ok rx rfl
    exact ⟨a, _, rfl, dp_of ok.le _ _ p rx, o, w _ _ S (.refl ok) R_str t⟩
  · exact t.elim
end DL

set_option Elab.async false
set_option linter.all false
set_option maxRecDepth 100000
set_option maxHeartbeats 1000000
namespace DL
open PySem PySem.Spec PyProof.Rows L2
/-! == of two instances by their class's own __eq__ -/
def dEqP (C0 : Addr) (sp : DSp) : D2 := fun x y C P => match vw C x, vw C y with
  | .ins c _, .ins c' _ => c = C0 ∧ c' = C0 ∧ sp [x, y] C fun d C' => (∃ b, d = .bl b) ∧ P d C'
  | _, _ => False
theorem ops_eqP {K : PySem.W.Frag} {C0 : Addr} {sp : DSp} : OpS K (rEqO K C0 (spOf K sp)) (dEqP C0 sp) := by
  intro x y v u S P Q ok rx ry t w
  unfold dEqP at t
  split at t
  · rename_i c fs c' gs e1 e2
    obtain ⟨rfl, rfl, t⟩ := t
    obtain ⟨a, dx, vs, rfl, h1, _⟩ := vw_ins ok rx e1
    obtain ⟨b, dy, us, rfl, h2, _⟩ := vw_ins ok ry e2
    refine ⟨a, b, dx, dy, vs, us, rfl, rfl, h1, h2, [x, y], S, _, rfl, RA.cons rx (RA.cons ry RA.nil), ok, t, fun z d S1 e1 rz t1 => ?_⟩
    obtain ⟨⟨k, rfl⟩, t1⟩ := t1
    simp only [R] at rz
    exact ⟨k, rz, w _ _ S1 e1 (by simpa only [R] using rz) t1⟩
  · exact t.elim
theorem de_eqOwn {X : Cx} {C0 fA : Addr} {k : Nat} {sp : DSp} {a b : Expr} {ta tb : DT} {pos : Pos} (c : Fn X.prog X.w X.K X.mg X.base k fA [] sp) (m : Meth X.K C0 "__eq__" fA) (hr : Room k X.A) (ha : DE X a ta) (hb : DE X b tb)
    (hm : behindInMarks .Eq b = false) : DE X (.Compare a [.Eq] [b] pos) (dOp (dEqP C0 sp) ta tb) := by
  obtain ⟨fd, ps, ds, dvs, hk, hb', hd, hdd, F⟩ := c.ex
  have e : dvs = [] := by simpa only [RA] using hdd fun _ => none
  subst e
  cases hd
  exact de_cmp (op_eqO F hb' m.at_ m.fn hr) ops_eqP ha hb hm
end DL

set_option Elab.async false
set_option linter.all false
set_option maxRecDepth 100000
set_option maxHeartbeats 1000000
namespace K94
open PySem L2 DL
def top (i : Nat) : Stmt := PySem.Challenge.pw_whosepace_k94_whole_texts_of_all_small_t.main.body.getD i (.Pass ⟨0, 0, 0, 0⟩)
abbrev s_is_name : Stmt := top 7
abbrev N_is_name : List Str := ["value", "sign"]
abbrev P_is_name : List Str := ["value"]
theorem sc_is_name : FnScope N_is_name P_is_name (defScope s_is_name) := ⟨rfl, rfl, rfl, by decide +kernel, rfl, by decide +kernel, by decide +kernel⟩
abbrev s_is_whole : Stmt := top 8
abbrev N_is_whole : List Str := ["value"]
abbrev P_is_whole : List Str := ["value"]
theorem sc_is_whole : FnScope N_is_whole P_is_whole (defScope s_is_whole) := ⟨rfl, rfl, rfl, by decide +kernel, rfl, by decide +kernel, by decide +kernel⟩
abbrev s_are_terms : Stmt := top 11
abbrev N_are_terms : List Str := ["value", "one"]
abbrev P_are_terms : List Str := ["value"]
theorem sc_are_terms : FnScope N_are_terms P_are_terms (defScope s_are_terms) := ⟨rfl, rfl, rfl, by decide +kernel, rfl, by decide +kernel, by decide +kernel⟩
abbrev s_is_term : Stmt := top 12
abbrev N_is_term : List Str := ["value"]
abbrev P_is_term : List Str := ["value"]
theorem sc_is_term : FnScope N_is_term P_is_term (defScope s_is_term) := ⟨rfl, rfl, rfl, by decide +kernel, rfl, by decide +kernel, by decide +kernel⟩
abbrev s_is_part : Stmt := top 13
abbrev N_is_part : List Str := ["term"]
abbrev P_is_part : List Str := ["term"]
theorem sc_is_part : FnScope N_is_part P_is_part (defScope s_is_part) := ⟨rfl, rfl, rfl, by decide +kernel, rfl, by decide +kernel, by decide +kernel⟩
abbrev s_with_inside : Stmt := top 14
abbrev N_with_inside : List Str := ["term", "inner"]
abbrev P_with_inside : List Str := ["term", "inner"]
theorem sc_with_inside : FnScope N_with_inside P_with_inside (defScope s_with_inside) := ⟨rfl, rfl, rfl, by decide +kernel, rfl, by decide +kernel, by decide +kernel⟩
abbrev s_copied : Stmt := top 15
abbrev N_copied : List Str := ["term", "one"]
abbrev P_copied : List Str := ["term"]
theorem sc_copied : FnScope N_copied P_copied (defScope s_copied) := ⟨rfl, rfl, rfl, by decide +kernel, rfl, by decide +kernel, by decide +kernel⟩
abbrev s_check_rule : Stmt := top 16
abbrev N_check_rule : List Str := ["value"]
abbrev P_check_rule : List Str := ["value"]
theorem sc_check_rule : FnScope N_check_rule P_check_rule (defScope s_check_rule) := ⟨rfl, rfl, rfl, by decide +kernel, rfl, by decide +kernel, by decide +kernel⟩
abbrev s_whole_of : Stmt := top 18
abbrev N_whole_of : List Str := ["word", "digits", "sign"]
abbrev P_whole_of : List Str := ["word"]
theorem sc_whole_of : FnScope N_whole_of P_whole_of (defScope s_whole_of) := ⟨rfl, rfl, rfl, by decide +kernel, rfl, by decide +kernel, by decide +kernel⟩
abbrev s_term_text : Stmt := top 19
abbrev N_term_text : List Str := ["term", "word", "inner"]
abbrev P_term_text : List Str := ["term"]
theorem sc_term_text : FnScope N_term_text P_term_text (defScope s_term_text) := ⟨rfl, rfl, rfl, by decide +kernel, rfl, by decide +kernel, by decide +kernel⟩
abbrev s_named_at : Stmt := top 20
abbrev N_named_at : List Str := ["text", "at", "end", "last", "number"]
abbrev P_named_at : List Str := ["text", "at"]
theorem sc_named_at : FnScope N_named_at P_named_at (defScope s_named_at) := ⟨rfl, rfl, rfl, by decide +kernel, rfl, by decide +kernel, by decide +kernel⟩
abbrev s_terms_at : Stmt := top 21
abbrev N_terms_at : List Str := ["text", "at", "found", "one"]
abbrev P_terms_at : List Str := ["text", "at"]
theorem sc_terms_at : FnScope N_terms_at P_terms_at (defScope s_terms_at) := ⟨rfl, rfl, rfl, by decide +kernel, rfl, by decide +kernel, by decide +kernel⟩
abbrev s_term_at : Stmt := top 22
abbrev N_term_at : List Str := ["text", "at", "word", "inner", "part"]
abbrev P_term_at : List Str := ["text", "at"]
theorem sc_term_at : FnScope N_term_at P_term_at (defScope s_term_at) := ⟨rfl, rfl, rfl, by decide +kernel, rfl, by decide +kernel, by decide +kernel⟩
abbrev s_rule_in : Stmt := top 23
abbrev N_rule_in : List Str := ["text", "found"]
abbrev P_rule_in : List Str := ["text"]
theorem sc_rule_in : FnScope N_rule_in P_rule_in (defScope s_rule_in) := ⟨rfl, rfl, rfl, by decide +kernel, rfl, by decide +kernel, by decide +kernel⟩
abbrev s_rule_text : Stmt := top 24
abbrev N_rule_text : List Str := ["rule"]
abbrev P_rule_text : List Str := ["rule"]
theorem sc_rule_text : FnScope N_rule_text P_rule_text (defScope s_rule_text) := ⟨rfl, rfl, rfl, by decide +kernel, rfl, by decide +kernel, by decide +kernel⟩
abbrev s_read_by : Stmt := top 25
abbrev N_read_by : List Str := ["inner", "text", "found"]
abbrev P_read_by : List Str := ["inner", "text"]
theorem sc_read_by : FnScope N_read_by P_read_by (defScope s_read_by) := ⟨rfl, rfl, rfl, by decide +kernel, rfl, by decide +kernel, by decide +kernel⟩
abbrev s_read_rule : Stmt := top 26
abbrev N_read_rule : List Str := ["text"]
abbrev P_read_rule : List Str := ["text"]
theorem sc_read_rule : FnScope N_read_rule P_read_rule (defScope s_read_rule) := ⟨rfl, rfl, rfl, by decide +kernel, rfl, by decide +kernel, by decide +kernel⟩
abbrev s__law_purse : Stmt := top 28
abbrev N__law_purse : List Str := ["script", "at", "seed"]
abbrev P__law_purse : List Str := ["script", "at"]
theorem sc__law_purse : FnScope N__law_purse P__law_purse (defScope s__law_purse) := ⟨rfl, rfl, rfl, by decide +kernel, rfl, by decide +kernel, by decide +kernel⟩
abbrev s__law_mixed : Stmt := top 29
abbrev N__law_mixed : List Str := ["seed", "turn", "at", "mixed"]
abbrev P__law_mixed : List Str := ["seed", "turn", "at"]
theorem sc__law_mixed : FnScope N__law_mixed P__law_mixed (defScope s__law_mixed) := ⟨rfl, rfl, rfl, by decide +kernel, rfl, by decide +kernel, by decide +kernel⟩
abbrev s__law_draw : Stmt := top 30
abbrev N__law_draw : List Str := ["purse", "many", "drawn", "found", "piece"]
abbrev P__law_draw : List Str := ["purse", "many"]
theorem sc__law_draw : FnScope N__law_draw P__law_draw (defScope s__law_draw) := ⟨rfl, rfl, rfl, by decide +kernel, rfl, by decide +kernel, by decide +kernel⟩
abbrev s__law_purses : Stmt := top 31
abbrev N__law_purses : List Str := ["script", "few", "at"]
abbrev P__law_purses : List Str := ["script", "few"]
theorem sc__law_purses : FnScope N__law_purses P__law_purses (defScope s__law_purses) := ⟨rfl, rfl, rfl, by decide +kernel, rfl, by decide +kernel, by decide +kernel⟩
abbrev s__law_one_of : Stmt := top 32
abbrev N__law_one_of : List Str := ["purse", "some"]
abbrev P__law_one_of : List Str := ["purse", "some"]
theorem sc__law_one_of : FnScope N__law_one_of P__law_one_of (defScope s__law_one_of) := ⟨rfl, rfl, rfl, by decide +kernel, rfl, by decide +kernel, by decide +kernel⟩
abbrev s__law_shuffled : Stmt := top 33
abbrev N__law_shuffled : List Str := ["purse", "some", "found", "item"]
abbrev P__law_shuffled : List Str := ["purse", "some"]
theorem sc__law_shuffled : FnScope N__law_shuffled P__law_shuffled (defScope s__law_shuffled) := ⟨rfl, rfl, rfl, by decide +kernel, rfl, by decide +kernel, by decide +kernel⟩
abbrev s__law_word : Stmt := top 34
abbrev N__law_word : List Str := ["purse", "found", "turn"]
abbrev P__law_word : List Str := ["purse"]
theorem sc__law_word : FnScope N__law_word P__law_word (defScope s__law_word) := ⟨rfl, rfl, rfl, by decide +kernel, rfl, by decide +kernel, by decide +kernel⟩
abbrev s__law_wait : Stmt := top 35
abbrev N__law_wait : List Str := ["purse", "some"]
abbrev P__law_wait : List Str := ["purse"]
theorem sc__law_wait : FnScope N__law_wait P__law_wait (defScope s__law_wait) := ⟨rfl, rfl, rfl, by decide +kernel, rfl, by decide +kernel, by decide +kernel⟩
abbrev s__law_number_text : Stmt := top 36
abbrev N__law_number_text : List Str := ["number", "digits", "left"]
abbrev P__law_number_text : List Str := ["number"]
theorem sc__law_number_text : FnScope N__law_number_text P__law_number_text (defScope s__law_number_text) := ⟨rfl, rfl, rfl, by decide +kernel, rfl, by decide +kernel, by decide +kernel⟩
abbrev s__law_term_text : Stmt := top 37
abbrev N__law_term_text : List Str := ["term", "word", "one"]
abbrev P__law_term_text : List Str := ["term"]
theorem sc__law_term_text : FnScope N__law_term_text P__law_term_text (defScope s__law_term_text) := ⟨rfl, rfl, rfl, by decide +kernel, rfl, by decide +kernel, by decide +kernel⟩
abbrev s__law_over : Stmt := top 38
abbrev N__law_over : List Str := ["inner", "found", "at"]
abbrev P__law_over : List Str := ["inner"]
theorem sc__law_over : FnScope N__law_over P__law_over (defScope s__law_over) := ⟨rfl, rfl, rfl, by decide +kernel, rfl, by decide +kernel, by decide +kernel⟩
abbrev s__law_terms : Stmt := top 39
abbrev N__law_terms : List Str := ["purse", "names", "waits", "parts_here", "kind", "name", "found", "one", "other", "inner", "wait"]
abbrev P__law_terms : List Str := ["purse"]
theorem sc__law_terms : FnScope N__law_terms P__law_terms (defScope s__law_terms) := ⟨rfl, rfl, rfl, by decide +kernel, rfl, by decide +kernel, by decide +kernel⟩
abbrev s_law : Stmt := top 40
abbrev N_law : List Str := ["script", "purse", "texts", "terms", "unlike", "term", "text", "one", "other"]
abbrev P_law : List Str := ["script"]
theorem sc_law : FnScope N_law P_law (defScope s_law) := ⟨rfl, rfl, rfl, by decide +kernel, rfl, by decide +kernel, by decide +kernel⟩
abbrev s_Rule___init__ : Stmt := inClass (top 10) 0
abbrev N_Rule___init__ : List Str := ["self", "term"]
abbrev P_Rule___init__ : List Str := ["self", "term"]
theorem sc_Rule___init__ : FnScope N_Rule___init__ P_Rule___init__ (defScope s_Rule___init__) := ⟨rfl, rfl, rfl, by decide +kernel, rfl, by decide +kernel, by decide +kernel⟩
abbrev s_Rule_term : Stmt := inClass (top 10) 1
abbrev N_Rule_term : List Str := ["self"]
abbrev P_Rule_term : List Str := ["self"]
theorem sc_Rule_term : FnScope N_Rule_term P_Rule_term (defScope s_Rule_term) := ⟨rfl, rfl, rfl, by decide +kernel, rfl, by decide +kernel, by decide +kernel⟩
abbrev s_Rule___eq__ : Stmt := inClass (top 10) 2
abbrev N_Rule___eq__ : List Str := ["self", "other"]
abbrev P_Rule___eq__ : List Str := ["self", "other"]
theorem sc_Rule___eq__ : FnScope N_Rule___eq__ P_Rule___eq__ (defScope s_Rule___eq__) := ⟨rfl, rfl, rfl, by decide +kernel, rfl, by decide +kernel, by decide +kernel⟩
structure Txt (K : PySem.W.Frag) (mg : Str → Option Value) : Prop where
  isinstance : mg "isinstance" = none
  len : mg "len" = none
  str : mg "str" = none
  int : mg "int" = none
  bool : mg "bool" = none
  list : mg "list" = none
  tuple : mg "tuple" = none
  dict : mg "dict" = none
  repr : mg "repr" = none
  range : mg "range" = none
  max : mg "max" = none
  min : mg "min" = none
  abs : mg "abs" = none
  sum : mg "sum" = none
  v_LETTERS : ∃ t, mg "LETTERS" = some (.str "abcdefghijklmnopqrstuvwxyz" t)
  d_is_name : Df K mg "is_name" s_is_name P_is_name
  d_is_whole : Df K mg "is_whole" s_is_whole P_is_whole
  d_are_terms : Df K mg "are_terms" s_are_terms P_are_terms
  d_is_term : Df K mg "is_term" s_is_term P_is_term
  d_is_part : Df K mg "is_part" s_is_part P_is_part
  d_with_inside : Df K mg "with_inside" s_with_inside P_with_inside
  d_copied : Df K mg "copied" s_copied P_copied
  d_check_rule : Df K mg "check_rule" s_check_rule P_check_rule
  d_whole_of : Df K mg "whole_of" s_whole_of P_whole_of
  d_term_text : Df K mg "term_text" s_term_text P_term_text
  d_named_at : Df K mg "named_at" s_named_at P_named_at
  d_terms_at : Df K mg "terms_at" s_terms_at P_terms_at
  d_term_at : Df K mg "term_at" s_term_at P_term_at
  d_rule_in : Df K mg "rule_in" s_rule_in P_rule_in
  d_rule_text : Df K mg "rule_text" s_rule_text P_rule_text
  d_read_by : Df K mg "read_by" s_read_by P_read_by
  d_read_rule : Df K mg "read_rule" s_read_rule P_read_rule
  d__law_purse : Df K mg "_law_purse" s__law_purse P__law_purse
  d__law_mixed : Df K mg "_law_mixed" s__law_mixed P__law_mixed
  d__law_draw : Df K mg "_law_draw" s__law_draw P__law_draw
  d__law_purses : Df K mg "_law_purses" s__law_purses P__law_purses
  d__law_one_of : Df K mg "_law_one_of" s__law_one_of P__law_one_of
  d__law_shuffled : Df K mg "_law_shuffled" s__law_shuffled P__law_shuffled
  d__law_word : Df K mg "_law_word" s__law_word P__law_word
  d__law_wait : Df K mg "_law_wait" s__law_wait P__law_wait
  d__law_number_text : Df K mg "_law_number_text" s__law_number_text P__law_number_text
  d__law_term_text : Df K mg "_law_term_text" s__law_term_text P__law_term_text
  d__law_over : Df K mg "_law_over" s__law_over P__law_over
  d__law_terms : Df K mg "_law_terms" s__law_terms P__law_terms
  d_law : Df K mg "law" s_law P_law
  m_Rule : mg "Rule" = some (.ref (fa mg "Rule"))
  c_Rule : ClsI K (fa mg "Rule")
  n_Rule_form : NoAttr K (fa mg "Rule") "form"
  d_Rule___init__ : Mf K (fa mg "Rule") "__init__" "Rule.__init__" s_Rule___init__ P_Rule___init__
  d_Rule_term : Mf K (fa mg "Rule") "term" "Rule.term" s_Rule_term P_Rule_term
  d_Rule___eq__ : Mf K (fa mg "Rule") "__eq__" "Rule.__eq__" s_Rule___eq__ P_Rule___eq__
  k_Rule : Mk K (fa mg "Rule") (ma K (fa mg "Rule") "__init__")
end K94

set_option Elab.async false
set_option linter.all false
set_option maxRecDepth 100000
set_option maxHeartbeats 1000000
namespace K94
open PySem L2 DL
local macro_rules | `(tactic| walk_at "dl") => `(tactic| simp only [dSeq, dIfS, dOr, dAnd, dNot, dTest, dCB, d1, d2, kIsi, kIsO, kLen, kStr, kIntT, kAbs, kI2, kSum, dCons, dNil, dVar, dC, slot, tyD, opt_some, kitB_ss, kitB_is, kitB_ii, kitB_ib, kitB_si, kitB_tt, kitB_ll, kitB_dd, kitB_tl, kitB_lt, kitB_ts, kitB_bb, kitB_bi,
  vw_non, vw_bl, vw_i, vw_s, vw_l, vw_t, vw_d, vw_n, vw_f, vw_v, asB, dAndV, dOrV, dNotV, dIf, dOp, dI2, dSub, dMul, dFdiv, dMod, dPow, dLt, dLe, dGt, dGe, dAdd, dRet, dRetN, dNext, dLst, dTup, dLstC, dCall, dDrop, dAsg, dName, dPar, dSets, dGTup, dIx, dSl, dPart, dNoP, dInN, dIsN, dEqN, dNeg, dFz, frz1, dFzS, dFld, dSetFld, dMth, dMake, dCallL, dChain, endsOf, dLcL, dLcS, dLcR1, dYes, dBM, mAppend, mInsert, mStarts3, mJoin, tyM, dBits, dForL, dForT, dForR1, int1, dDGet, dDIn, dDPut, dDGet2, kDict0, keyOf, kListOf, kRepr, dEqP, kMax, kMin, isN, fget, fput,
  List.set_cons_zero, List.set_cons_succ, List.length_cons, List.length_nil, Bool.not_true, Bool.not_false, List.append_nil,
  if_true, if_false, Bool.false_eq_true, Bool.true_eq_false, ite_true, ite_false, true_and, and_true, reduceIte, List.nil_append, List.cons_append, atI_0, atI_1, atI_2, atI_3, atI_m1, List.getElem?_cons_zero, List.getElem?_cons_succ, List.getLast?_cons_cons, List.getLast?_singleton, Nat.zero_add, Nat.reduceAdd, Int.cast_ofNat_Int, Int.natCast_add, Int.natCast_one, Nat.reduceLeDiff, Int.reduceLT, Int.reduceLE, Int.reduceEq, decide_true, decide_false, Int.reduceAdd, Int.reduceNeg, Int.reduceSub, Int.reduceToNat, eq_self, ne_eq, not_true_eq_false, not_false_eq_true, List.map_cons, List.map_nil, Option.getD_some, Option.getD_none, Option.isSome_some, Option.isSome_none])
/-! names, numbers -/
section
variable {P : Program} {w : World} {K : PySem.W.Frag} {mg : Str → Option Value} {base : Heap}
def abc : Str := "abcdefghijklmnopqrstuvwxyz"
def isLetter (c : Nat) : Bool := decide (c ∈ abc.cps.toList)
def letters (z : Str) : Prop := ∀ c ∈ z.cps.toList, isLetter c = true
theorem subS_letter {c : Nat} (h : isLetter c = true) : subS ⟨#[c]⟩ "abcdefghijklmnopqrstuvwxyz" = true := by
  rw [subS_one]; exact h
theorem chars_get {z : Str} {i : Nat} {d : D} (h : (chars z)[i]? = some d) : ∃ c, c ∈ z.cps.toList ∧ d = .str ⟨#[c]⟩ := by
  unfold chars at h
  rw [List.getElem?_map] at h
  cases e : z.cps.toList[i]? with
  | none => rw [e] at h; cases h
  | some c => rw [e] at h; cases h; exact ⟨c, List.mem_of_getElem? e, rfl⟩
def sp_is_name : DSp := fun ds C Q => match ds with
  | [.str z] => z.length ≤ 1000000 ∧ letters z ∧ Q (.bl (decide (1 ≤ z.length ∧ z.length ≤ 8))) C
  | _ => False
theorem ok_is_name (T : Txt K mg) : Fn P w K mg base 1 (fa mg "is_name") [] sp_is_name := by
  refine fn_df T.d_is_name sc_is_name (fun ds C Q h => ?_) (fun cdv A outer s H E hr => ?_)
  · (unfold sp_is_name at h; split at h <;> first | rfl | exact h.elim)
  have hu := hr.units
  have hu1 := hu_of hr
  have nd := sc_is_name.nd
  refine ⟨_, (ds_cons (ds_if (dt_pw (dw_or (dt_not (dt_val (de_cb call_isi (cl_isi (n := "str")) T.isinstance bt_isinstance (da_cons (dv 0) (da_cons (dg_ty T.str bt_str) da_nil))))) (dw_or (dt_cmp op_lt ops_B0 (de_cb call_lenA cl_len T.len bt_len (da_cons (dv 0) da_nil)) dc_int (nomark _)) (dw_or1 (dt_cmp op_gt ops_B0 (de_cb call_lenA cl_len T.len bt_len (da_cons (dv 0) da_nil)) dc_int (nomark _)))))) (ds_one (ds_ret dc_bl)) ds_nil)
    (ds_one (ds_ret (de_cmp (op_eqA hu) ops_eq (de_lcS rfl nd (dv 0) (by first | (change blkC N_is_name (defScope s_is_name) _ _ = true; decide +kernel) | rfl) (fun _ _ _ _ _ => pg_name (i := 1) nd rfl (Or.inl rfl)) (fun _ _ _ _ _ => (dp_one (dt_cmp op_notInA ops_in (dv 1) (dg_str T.v_LETTERS) rfl))) (fun _ _ _ _ _ => (dv 1))) (de_lst da_nil) (nomark _))))), fun ds C Q h => ?_⟩
  unfold sp_is_name at h
  split at h
  · rename_i z
    obtain ⟨hz, hl, h⟩ := h
    rw [show startD N_is_name [D.str z] = [some (D.str z), none] from rfl]
    walk_at "dl"
    refine ⟨hz, ?_⟩
    by_cases h1 : ((z.length : Nat) : Int) < 1
    · rw [if_pos (decide_eq_true h1)]
      rw [decide_eq_false (by omega)] at h
      exact fin h
    rw [if_neg (by simpa using h1)]
    refine ⟨hz, ?_⟩
    by_cases h2 : (8 : Int) < ((z.length : Nat) : Int)
    · rw [if_pos (decide_eq_true h2)]
      rw [decide_eq_false (by omega)] at h
      exact fin h
    rw [if_neg (by simpa using h2)]
    rw [decide_eq_true (by omega)] at h
    refine compN_none (fun i d P' e p => ?_) ?_
    · obtain ⟨c, hc, rfl⟩ := chars_get e
      walk_at "dl"
      rw [subS_letter (hl c hc)]
      exact p
    · refine ⟨okD_nil, okD_nil, ?_⟩
      rw [vw_l, eqD_nil]
      exact fin h
  · exact h.elim
def sp_is_whole : DSp := fun ds C Q => match ds with
  | [.int _] => Q (.bl true) C
  | _ => False
theorem ok_is_whole (T : Txt K mg) : Fn P w K mg base 1 (fa mg "is_whole") [] sp_is_whole := by
  refine fn_df T.d_is_whole sc_is_whole (fun ds C Q h => ?_) (fun cdv A outer s H E hr => ?_)
  · (unfold sp_is_whole at h; split at h <;> first | rfl | exact h.elim)
  have hu := hr.units
  have hu1 := hu_of hr
  have nd := sc_is_whole.nd
  refine ⟨_, (ds_one (ds_ret (de_and (de_cb call_isi (cl_isi (n := "int")) T.isinstance bt_isinstance (da_cons (dv 0) (da_cons (dg_ty T.int bt_int) da_nil))) (de_one (de_not (de_cb call_isi (cl_isi (n := "bool")) T.isinstance bt_isinstance (da_cons (dv 0) (da_cons (dg_ty T.bool bt_bool) da_nil)))))))), fun ds C Q h => ?_⟩
  unfold sp_is_whole at h
  split at h
  · rename_i z
    rw [show startD N_is_whole [D.int z] = [some (D.int z)] from rfl]
    walk_at "dl"
    exact fin h
  · exact h.elim
end

end K94

set_option Elab.async false
set_option linter.all false
set_option maxRecDepth 100000
set_option maxHeartbeats 1000000
namespace K94
open PySem L2 DL
/-! ### terms as plain data -/
inductive Kd where
  | first | last | rank (k : Int)
inductive Tm where
  | pt (now : Bool) (n : Str) (w : Int)
  | nd (kd : Kd) (ts : List Tm)
def wordOf (now : Bool) : Str := if now then "now" else "of"
def ndD (kd : Kd) (xs : List D) : D := match kd with
  | .first => .tup [.str "first", .lst xs]
  | .last => .tup [.str "last", .lst xs]
  | .rank k => .tup [.str "rank", .int k, .lst xs]
mutual
def toD : Tm → D
  | .pt b n w => .tup [.str (wordOf b), .str n, .int w]
  | .nd kd ts => ndD kd (toDs ts)
def toDs : List Tm → List D
  | [] => []
  | t :: ts => toD t :: toDs ts
end
theorem toDs_map : ∀ ts : List Tm, toDs ts = ts.map toD
  | [] => by simp [toDs]
  | t :: ts => by simp [toDs, toDs_map ts]
def kdOk (kd : Kd) (n : Nat) : Prop := match kd with
  | .rank k => 1 ≤ k ∧ k ≤ (n : Int)
  | _ => True
mutual
def WF : Tm → Prop
  | .pt _ n w => letters n ∧ 1 ≤ n.length ∧ n.length ≤ 8 ∧ w.natAbs < 10 ^ 15
  | .nd kd ts => ts ≠ [] ∧ ts.length ≤ 1000 ∧ kdOk kd ts.length ∧ WFs ts
def WFs : List Tm → Prop
  | [] => True
  | t :: ts => WF t ∧ WFs ts
end
theorem WFs_all : ∀ {ts : List Tm}, WFs ts → ∀ t ∈ ts, WF t
  | [], _, t, h => by simp at h
  | x :: ts, w, t, h => by
    simp only [WFs] at w
    rcases List.mem_cons.mp h with rfl | h
    · exact w.1
    · exact WFs_all w.2 t h
theorem WFs_of : ∀ {ts : List Tm}, (∀ t ∈ ts, WF t) → WFs ts
  | [], _ => by simp [WFs]
  | x :: ts, h => by
    simp only [WFs]
    exact ⟨h x (by simp), WFs_of fun t ht => h t (by simp [ht])⟩
/-- at most n deep -/
def hle : Nat → Tm → Prop
  | _, .pt _ _ _ => True
  | 0, .nd _ _ => False
  | n + 1, .nd _ ts => ∀ t ∈ ts, hle n t
theorem hle_mono : ∀ {n m : Nat} {t : Tm}, hle n t → n ≤ m → hle m t
  | n, m, .pt _ _ _, _, _ => by cases m <;> simp [hle]
  | 0, m, .nd _ _, h, _ => by simp [hle] at h
  | n + 1, 0, .nd _ ts, h, l => by omega
  | n + 1, m + 1, .nd _ ts, h, l => by
    simp only [hle] at h ⊢
    exact fun t ht => hle_mono (h t ht) (by omega)
def isPt : Tm → Bool
  | .pt _ _ _ => true
  | .nd _ _ => false
theorem toD_tup : ∀ t : Tm, ∃ xs, toD t = .tup xs
  | .pt b n w => ⟨[.str (wordOf b), .str n, .int w], by simp only [toD]⟩
  | .nd kd ts => by
    simp only [toD]
    cases kd with
    | first => exact ⟨_, rfl⟩
    | last => exact ⟨_, rfl⟩
    | rank k => exact ⟨_, rfl⟩
theorem eq_tm (neg : Bool) (t u : Tm) (C : Cells) (P : DK) (h1 : okD (toD t)) (h2 : okD (toD u)) (h : P (.bl (if neg then !eqD (toD t) (toD u) else eqD (toD t) (toD u))) C) : dEqN neg (toD t) (toD u) C P := by
  obtain ⟨xs, ex⟩ := toD_tup t
  obtain ⟨ys, ey⟩ := toD_tup u
  rw [ex] at h1 h ⊢
  rw [ey] at h2 h ⊢
  exact ⟨h1, h2, h⟩
/-! words -/
theorem in2_w (b : Bool) : inD (.str (wordOf b)) [.str "of", .str "now"] = true := by cases b <;> decide +kernel
theorem in2_f : inD (.str "first") [.str "of", .str "now"] = false := by decide +kernel
theorem in2_l : inD (.str "last") [.str "of", .str "now"] = false := by decide +kernel
theorem in2_r : inD (.str "rank") [.str "of", .str "now"] = false := by decide +kernel
theorem in3_f : inD (.str "first") [.str "first", .str "last"] = true := by decide +kernel
theorem in3_l : inD (.str "last") [.str "first", .str "last"] = true := by decide +kernel
theorem in3_r : inD (.str "rank") [.str "first", .str "last"] = false := by decide +kernel
theorem fl2 : [D.str "of", D.str "now"].all flatD = true := rfl
theorem fl3 : [D.str "first", D.str "last"].all flatD = true := rfl
theorem fls (x : Str) : flatD (.str x) = true := rfl
theorem w_now : (wordOf true) = ("now" : Str) := rfl
theorem w_of : (wordOf false) = ("of" : Str) := rfl
/-! terms may be compared, shown -/
theorem letter_lt {c : Nat} (h : isLetter c = true) : c < 128 := by
  unfold isLetter at h
  have h := of_decide_eq_true h
  have e : abc.cps.toList = [97, 98, 99, 100, 101, 102, 103, 104, 105, 106, 107, 108, 109, 110, 111, 112, 113, 114, 115, 116, 117, 118, 119, 120, 121, 122] := by decide +kernel
  rw [e] at h
  simp only [List.mem_cons, List.not_mem_nil, or_false] at h
  omega
theorem strOk_of {z : Str} (h : ∀ c ∈ z.cps.toList, c < 128) : PyData.strOk z = true := by
  unfold PyData.strOk
  rw [← Array.all_toList, List.all_eq_true]
  exact fun c hc => decide_eq_true (by have := h c hc; omega)
theorem strOk_w (b : Bool) : PyData.strOk (wordOf b) = true := by cases b <;> decide +kernel
theorem toPys_map : ∀ xs : List D, toPys xs = xs.map toPy
  | [] => by simp [toPys]
  | x :: xs => by simp [toPys, toPys_map xs]
theorem isPys_all : ∀ xs : List D, (∀ x ∈ xs, isPy x = true) → isPys xs = true
  | [], _ => by simp [isPys]
  | x :: xs, h => by
    simp only [isPys, Bool.and_eq_true]
    exact ⟨h x (by simp), isPys_all xs fun y hy => h y (by simp [hy])⟩
theorem canLayAll_all : ∀ xs : List PyData, (∀ x ∈ xs, x.canLay0 = true) → PyData.canLayAll0 xs = true
  | [], _ => by simp [PyData.canLayAll0]
  | x :: xs, h => by
    simp only [PyData.canLayAll0, Bool.and_eq_true]
    exact ⟨h x (by simp), canLayAll_all xs fun y hy => h y (by simp [hy])⟩
theorem depthAll_le {m : Nat} : ∀ xs : List PyData, (∀ x ∈ xs, x.depth ≤ m) → PyData.depthAll xs ≤ m
  | [], _ => by simp [PyData.depthAll]
  | x :: xs, h => by
    simp only [PyData.depthAll]
    have h1 := h x (by simp)
    have h2 := depthAll_le xs fun y hy => h y (by simp [hy])
    omega
/-- what is asked of data for == -/
structure Nice (d : D) (m : Nat) : Prop where
  py : isPy d = true
  lay : (toPy d).canLay0 = true
  dep : (toPy d).depth ≤ m
theorem Nice.ok {d : D} {m : Nat} (h : Nice d m) (hm : m ≤ 64) : okD d := ⟨h.py, by
  unfold SeqAt.shaped
  rw [h.lay, Bool.true_and]
  exact decide_eq_true (Nat.le_trans h.dep hm)⟩
theorem Nice.lst {ds : List D} {m : Nat} (h : ∀ d ∈ ds, Nice d m) : Nice (.lst ds) (m + 1) := by
  refine ⟨by simp only [isPy]; exact isPys_all _ fun x hx => (h x hx).py, ?_, ?_⟩
  · simp only [toPy, PyData.canLay0, toPys_map]
    refine canLayAll_all _ fun x hx => ?_
    obtain ⟨y, hy, rfl⟩ := List.mem_map.mp hx
    exact (h y hy).lay
  · simp only [toPy, PyData.depth, toPys_map]
    refine Nat.succ_le_succ (depthAll_le _ fun x hx => ?_)
    obtain ⟨y, hy, rfl⟩ := List.mem_map.mp hx
    exact (h y hy).dep
theorem Nice.tup {ds : List D} {m : Nat} (h : ∀ d ∈ ds, Nice d m) : Nice (.tup ds) (m + 1) := by
  refine ⟨by simp only [isPy]; exact isPys_all _ fun x hx => (h x hx).py, ?_, ?_⟩
  · simp only [toPy, PyData.canLay0, toPys_map]
    refine canLayAll_all _ fun x hx => ?_
    obtain ⟨y, hy, rfl⟩ := List.mem_map.mp hx
    exact (h y hy).lay
  · simp only [toPy, PyData.depth, toPys_map]
    refine Nat.succ_le_succ (depthAll_le _ fun x hx => ?_)
    obtain ⟨y, hy, rfl⟩ := List.mem_map.mp hx
    exact (h y hy).dep
theorem Nice.mono {d : D} {m k : Nat} (h : Nice d m) (l : m ≤ k) : Nice d k := ⟨h.py, h.lay, Nat.le_trans h.dep l⟩
theorem nice_str {z : Str} {m : Nat} (h : PyData.strOk z = true) : Nice (.str z) m := ⟨rfl, by simpa [toPy, PyData.canLay0] using h, by simp [toPy, PyData.depth]⟩
theorem nice_int {z : Int} {m : Nat} : Nice (.int z) m := ⟨rfl, by simp [toPy, PyData.canLay0], by simp [toPy, PyData.depth]⟩
theorem nice_tm : ∀ (n : Nat) (t : Tm), WF t → hle n t → Nice (toD t) (2 * n + 1)
  | n, .pt b nm wt, w, _ => by
    simp only [WF] at w
    simp only [toD]
    refine Nice.tup (m := 2 * n) fun d hd => ?_
    simp only [List.mem_cons, List.not_mem_nil, or_false] at hd
    rcases hd with rfl | rfl | rfl
    · exact nice_str (strOk_w b)
    · exact nice_str (strOk_of fun c hc => letter_lt (w.1 c hc))
    · exact nice_int
  | 0, .nd kd ts, w, h => by simp [hle] at h
  | n + 1, .nd kd ts, w, h => by
    simp only [WF] at w
    simp only [hle] at h
    simp only [toD, toDs_map]
    have hl : Nice (.lst (ts.map toD)) (2 * n + 2) := Nice.lst fun d hd => by
      obtain ⟨t, ht, rfl⟩ := List.mem_map.mp hd
      exact nice_tm n t (WFs_all w.2.2.2 t ht) (h t ht)
    have e : 2 * (n + 1) + 1 = (2 * n + 2) + 1 := by omega
    rw [e]
    cases kd with
    | first =>
      refine Nice.tup fun d hd => ?_
      simp only [List.mem_cons, List.not_mem_nil, or_false] at hd
      rcases hd with rfl | rfl
      · exact nice_str (by decide +kernel)
      · exact hl
    | last =>
      refine Nice.tup fun d hd => ?_
      simp only [List.mem_cons, List.not_mem_nil, or_false] at hd
      rcases hd with rfl | rfl
      · exact nice_str (by decide +kernel)
      · exact hl
    | rank k =>
      refine Nice.tup fun d hd => ?_
      simp only [List.mem_cons, List.not_mem_nil, or_false] at hd
      rcases hd with rfl | rfl | rfl
      · exact nice_str (by decide +kernel)
      · exact nice_int
      · exact hl
theorem ok_tms {n : Nat} {ts : List Tm} (hn : n ≤ 20) (h : ∀ t ∈ ts, WF t ∧ hle n t) : okD (.lst (ts.map toD)) := by
  refine (Nice.lst (m := 2 * n + 1) fun d hd => ?_).ok (by omega)
  obtain ⟨t, ht, rfl⟩ := List.mem_map.mp hd
  exact nice_tm n t (h t ht).1 (h t ht).2
end K94

set_option Elab.async false
set_option linter.all false
set_option maxRecDepth 100000
set_option maxHeartbeats 1000000
namespace K94
open PySem L2 DL
local macro_rules | `(tactic| walk_at "dl") => `(tactic| simp only [dSeq, dIfS, dOr, dAnd, dNot, dTest, dCB, d1, d2, kIsi, kIsO, kLen, kStr, kIntT, kAbs, kI2, kSum, dCons, dNil, dVar, dC, slot, tyD, opt_some, kitB_ss, kitB_is, kitB_ii, kitB_ib, kitB_si, kitB_tt, kitB_ll, kitB_dd, kitB_tl, kitB_lt, kitB_ts, kitB_bb, kitB_bi,
  vw_non, vw_bl, vw_i, vw_s, vw_l, vw_t, vw_d, vw_n, vw_f, vw_v, asB, dAndV, dOrV, dNotV, dIf, dOp, dI2, dSub, dMul, dFdiv, dMod, dPow, dLt, dLe, dGt, dGe, dAdd, dRet, dRetN, dNext, dLst, dTup, dLstC, dCall, dDrop, dAsg, dName, dPar, dSets, dGTup, dIx, dSl, dPart, dNoP, dInN, dIsN, dEqN, dNeg, dFz, frz1, dFzS, dFld, dSetFld, dMth, dMake, dCallL, dChain, endsOf, dLcL, dLcS, dLcR1, dYes, dBM, mAppend, mInsert, mStarts3, mJoin, tyM, dBits, dForL, dForT, dForR1, int1, dDGet, dDIn, dDPut, dDGet2, kDict0, keyOf, kListOf, kRepr, dEqP, kMax, kMin, isN, fget, fput,
  List.set_cons_zero, List.set_cons_succ, List.length_cons, List.length_nil, Bool.not_true, Bool.not_false, List.append_nil,
  if_true, if_false, Bool.false_eq_true, Bool.true_eq_false, ite_true, ite_false, true_and, and_true, reduceIte, List.nil_append, List.cons_append, atI_0, atI_1, atI_2, atI_3, atI_m1, List.getElem?_cons_zero, List.getElem?_cons_succ, List.getLast?_cons_cons, List.getLast?_singleton, Nat.zero_add, Nat.reduceAdd, Int.cast_ofNat_Int, Int.natCast_add, Int.natCast_one, Nat.reduceLeDiff, Int.reduceLT, Int.reduceLE, Int.reduceEq, decide_true, decide_false, Int.reduceAdd, Int.reduceNeg, Int.reduceSub, Int.reduceToNat, eq_self, ne_eq, not_true_eq_false, not_false_eq_true, List.map_cons, List.map_nil, Option.getD_some, Option.getD_none, Option.isSome_some, Option.isSome_none])
section
variable {P : Program} {w : World} {K : PySem.W.Frag} {mg : Str → Option Value} {base : Heap}
/-! is_term, are_terms: one for the other, by the depth -/
def sp_is_term (n : Nat) : DSp := fun ds C Q => ∃ t, ds = [toD t] ∧ WF t ∧ hle n t ∧ Q (.bl true) C
def sp_are_terms (n : Nat) : DSp := fun ds C Q => ∃ ts, ds = [.lst (ts.map toD)] ∧ ts ≠ [] ∧ ts.length ≤ 1000 ∧ (∀ t ∈ ts, WF t ∧ hle n t) ∧ Q (.bl true) C
theorem map_get {ts : List Tm} {i : Nat} {d : D} (h : (ts.map toD)[i]? = some d) : ∃ t, t ∈ ts ∧ d = toD t := by
  rw [List.getElem?_map] at h
  cases e : ts[i]? with
  | none => rw [e] at h; cases h
  | some t => rw [e] at h; cases h; exact ⟨t, List.mem_of_getElem? e, rfl⟩
theorem empty_map {ts : List Tm} (h : ts ≠ []) : (ts.map toD).isEmpty = false := by
  cases ts with
  | nil => exact absurd rfl h
  | cons t r => rfl
theorem ok_are_terms (T : Txt K mg) {k n : Nat} (hn : n ≤ 20) (G_is_term : Fn P w K mg base k (fa mg "is_term") [] (sp_is_term n)) : Fn P w K mg base (k + 1) (fa mg "are_terms") [] (sp_are_terms n) := by
  refine fn_df T.d_are_terms sc_are_terms (fun ds C Q h => ?_) (fun cdv A outer s H E hr => ?_)
  · (obtain ⟨_, rfl, _⟩ := h; rfl)
  have hu := hr.units
  have hu1 := hu_of hr
  have nd := sc_are_terms.nd
  refine ⟨_, (ds_cons (ds_if (dt_pw (dw_or (dt_not (dt_val (de_cb call_isi (cl_isi (n := "list")) T.isinstance bt_isinstance (da_cons (dv 0) (da_cons (dg_ty T.list bt_list) da_nil))))) (dw_or1 (dt_cmp (op_eqA hu) ops_eq (dv 0) (de_lst da_nil) (nomark _))))) (ds_one (ds_ret dc_bl)) ds_nil)
    (ds_one (ds_ret (de_cmp (op_eqA hu) ops_eq (de_lcL rfl nd (dv 0) (by first | (change blkC N_are_terms (defScope s_are_terms) _ _ = true; decide +kernel) | rfl) (fun _ _ _ _ _ => pg_name (i := 1) nd rfl (Or.inl rfl)) (fun _ _ _ _ _ => (dp_one (dt_not (dt_val (de_call G_is_term T.d_is_term.m (hr.mono (by omega)) (da_cons (dv 1) da_nil)))))) (fun _ _ _ _ _ => (dv 1))) (de_lst da_nil) (nomark _))))), fun ds C Q h => ?_⟩
  obtain ⟨ts, rfl, hne, hl, hw, h⟩ := h
  rw [show startD N_are_terms [D.lst (ts.map toD)] = [some (D.lst (ts.map toD)), none] from rfl]
  walk_at "dl"
  refine ⟨ok_tms hn hw, okD_nil, ?_⟩
  rw [eqD_nil, empty_map hne]
  walk_at "dl"
  refine compN_none (fun i d P' e p => ?_) ⟨okD_nil, okD_nil, ?_⟩
  · obtain ⟨t, ht, rfl⟩ := map_get e
    exact ⟨t, rfl, (hw t ht).1, (hw t ht).2, p⟩
  · walk_at "dl"
    rw [eqD_nil]
    exact fin h
theorem ok_is_term1 (T : Txt K mg) {k n : Nat} {q : DSp} (hn : n ≤ 20) (G_are_terms : Fn P w K mg base k (fa mg "are_terms") [] q) (hk : 1 ≤ k)
    (hq : ∀ ts C Q, ts ≠ [] → ts.length ≤ 1000 → (∀ t ∈ ts, WF t ∧ 1 ≤ n ∧ hle (n - 1) t) → Q (.bl true) C → q [.lst (ts.map toD)] C Q) : Fn P w K mg base (k + 1) (fa mg "is_term") [] (sp_is_term n) := by
  have G_is_name := ok_is_name (P := P) (w := w) (base := base) T
  have G_is_whole := ok_is_whole (P := P) (w := w) (base := base) T
  refine fn_df T.d_is_term sc_is_term (fun ds C Q h => ?_) (fun cdv A outer s H E hr => ?_)
  · (obtain ⟨_, rfl, _⟩ := h; rfl)
  have hu := hr.units
  have hu1 := hu_of hr
  have nd := sc_is_term.nd
  refine ⟨_, (ds_cons (ds_if (dt_pw (dw_or (dt_not (dt_val (de_cb call_isi (cl_isi (n := "tuple")) T.isinstance bt_isinstance (da_cons (dv 0) (da_cons (dg_ty T.tuple bt_tuple) da_nil))))) (dw_or (dt_cmp op_lt ops_B0 (de_cb call_lenA cl_len T.len bt_len (da_cons (dv 0) da_nil)) dc_int (nomark _)) (dw_or1 (dt_not (dt_val (de_cb call_isi (cl_isi (n := "str")) T.isinstance bt_isinstance (da_cons (de_ix (dv 0) dc_int) (da_cons (dg_ty T.str bt_str) da_nil))))))))) (ds_one (ds_ret dc_bl)) ds_nil)
    (ds_cons (ds_if (dt_cmp op_inA ops_in (de_ix (dv 0) dc_int) (de_tup (da_cons dc_str (da_cons dc_str da_nil))) rfl) (ds_one (ds_ret (de_and (de_cmp (op_eqA hu) ops_eq (de_cb call_lenA cl_len T.len bt_len (da_cons (dv 0) da_nil)) dc_int (nomark _)) (de_and (de_call G_is_name T.d_is_name.m (hr.mono (by omega)) (da_cons (de_ix (dv 0) dc_int) da_nil)) (de_one (de_call G_is_whole T.d_is_whole.m (hr.mono (by omega)) (da_cons (de_ix (dv 0) dc_int) da_nil))))))) ds_nil)
    (ds_cons (ds_if (dt_cmp op_inA ops_in (de_ix (dv 0) dc_int) (de_tup (da_cons dc_str (da_cons dc_str da_nil))) rfl) (ds_one (ds_ret (de_and (de_cmp (op_eqA hu) ops_eq (de_cb call_lenA cl_len T.len bt_len (da_cons (dv 0) da_nil)) dc_int (nomark _)) (de_one (de_call G_are_terms T.d_are_terms.m (hr.mono (by omega)) (da_cons (de_ix (dv 0) dc_int) da_nil)))))) ds_nil)
    (ds_cons (ds_if (dt_pw (dw_or (dt_cmp (op_neA hu) ops_ne (de_ix (dv 0) dc_int) dc_str (nomark _)) (dw_or (dt_cmp (op_neA hu) ops_ne (de_cb call_lenA cl_len T.len bt_len (da_cons (dv 0) da_nil)) dc_int (nomark _)) (dw_or (dt_not (dt_val (de_call G_is_whole T.d_is_whole.m (hr.mono (by omega)) (da_cons (de_ix (dv 0) dc_int) da_nil)))) (dw_or1 (dt_not (dt_val (de_call G_are_terms T.d_are_terms.m (hr.mono (by omega)) (da_cons (de_ix (dv 0) dc_int) da_nil))))))))) (ds_one (ds_ret dc_bl)) ds_nil)
    (ds_one (ds_ret (de_chain op_le op_le ops_B0 ops_B0 dc_int (de_ix (dv 0) dc_int) (de_cb call_lenA cl_len T.len bt_len (da_cons (de_ix (dv 0) dc_int) da_nil))))))))), fun ds C Q h => ?_⟩
  obtain ⟨t, rfl, hw, hh, h⟩ := h
  rw [show startD N_is_term [toD t] = [some (toD t)] from rfl]
  cases t with
  | pt b nm wt =>
    simp only [WF] at hw
    simp only [toD]
    walk_at "dl"
    refine ⟨rfl, rfl, ?_⟩
    rw [in2_w]
    walk_at "dl"
    refine ⟨by omega, hw.1, ?_⟩
    rw [decide_eq_true (by omega)]
    walk_at "dl"
    exact fin h
  | nd kd ts =>
    simp only [WF] at hw
    have hts : ∀ t ∈ ts, WF t ∧ 1 ≤ n ∧ hle (n - 1) t := fun t ht => by
      cases n with
      | zero => simp [hle] at hh
      | succ m => simp only [hle] at hh; exact ⟨WFs_all hw.2.2.2 t ht, by omega, hh t ht⟩
    simp only [toD, toDs_map]
    cases kd with
    | first =>
      simp only [ndD]
      walk_at "dl"
      refine ⟨rfl, rfl, ?_⟩
      rw [in2_f]
      walk_at "dl"
      refine ⟨rfl, rfl, ?_⟩
      rw [in3_f]
      walk_at "dl"
      exact hq ts C _ hw.1 hw.2.1 hts (fin h)
    | last =>
      simp only [ndD]
      walk_at "dl"
      refine ⟨rfl, rfl, ?_⟩
      rw [in2_l]
      walk_at "dl"
      refine ⟨rfl, rfl, ?_⟩
      rw [in3_l]
      walk_at "dl"
      exact hq ts C _ hw.1 hw.2.1 hts (fin h)
    | rank k =>
      simp only [ndD]
      walk_at "dl"
      refine ⟨rfl, rfl, ?_⟩
      rw [in2_r]
      walk_at "dl"
      refine ⟨rfl, rfl, ?_⟩
      rw [in3_r]
      walk_at "dl"
      refine hq ts C _ hw.1 hw.2.1 hts ?_
      walk_at "dl"
      have hk2 : 1 ≤ k ∧ k ≤ (ts.length : Int) := hw.2.2.1
      rw [decide_eq_true hk2.1, List.length_map, decide_eq_true hk2.2]
      walk_at "dl"
      exact fin h
/-- both, by the depth -/
theorem ok_terms (T : Txt K mg) : ∀ n, n ≤ 20 → Fn P w K mg base (2 * n + 2) (fa mg "is_term") [] (sp_is_term n) ∧ Fn P w K mg base (2 * n + 3) (fa mg "are_terms") [] (sp_are_terms n)
  | 0, h => by
    have a := ok_is_term1 (P := P) (w := w) (base := base) (n := 0) (q := fun _ _ _ => False) T h ((fn_zero T.d_are_terms.z fun _ _ _ h => h).mono (by omega : 0 ≤ 1)) (Nat.le_refl 1) fun ts C Q hne _ ht _ => by
      cases ts with
      | nil => exact hne rfl
      | cons t r => have := (ht t (by simp)).2.1; omega
    exact ⟨a, ok_are_terms T h a⟩
  | n + 1, h => by
    have ih := (ok_terms T n (by omega)).2
    have a := ok_is_term1 (P := P) (w := w) (base := base) (n := n + 1) T h ih (by omega) fun ts C Q hne hl ht q => ⟨ts, rfl, hne, hl, fun t h => ⟨(ht t h).1, (ht t h).2.2⟩, q⟩
    exact ⟨a, ok_are_terms T h a⟩
end

end K94

set_option Elab.async false
set_option linter.all false
set_option maxRecDepth 100000
set_option maxHeartbeats 1000000
namespace K94
open PySem L2 DL
local macro_rules | `(tactic| walk_at "dl") => `(tactic| simp only [dSeq, dIfS, dOr, dAnd, dNot, dTest, dCB, d1, d2, kIsi, kIsO, kLen, kStr, kIntT, kAbs, kI2, kSum, dCons, dNil, dVar, dC, slot, tyD, opt_some, kitB_ss, kitB_is, kitB_ii, kitB_ib, kitB_si, kitB_tt, kitB_ll, kitB_dd, kitB_tl, kitB_lt, kitB_ts, kitB_bb, kitB_bi,
  vw_non, vw_bl, vw_i, vw_s, vw_l, vw_t, vw_d, vw_n, vw_f, vw_v, asB, dAndV, dOrV, dNotV, dIf, dOp, dI2, dSub, dMul, dFdiv, dMod, dPow, dLt, dLe, dGt, dGe, dAdd, dRet, dRetN, dNext, dLst, dTup, dLstC, dCall, dDrop, dAsg, dName, dPar, dSets, dGTup, dIx, dSl, dPart, dNoP, dInN, dIsN, dEqN, dNeg, dFz, frz1, dFzS, dFld, dSetFld, dMth, dMake, dCallL, dChain, endsOf, dLcL, dLcS, dLcR1, dYes, dBM, mAppend, mInsert, mStarts3, mJoin, tyM, dBits, dForL, dForT, dForR1, int1, dDGet, dDIn, dDPut, dDGet2, kDict0, keyOf, kListOf, kRepr, dEqP, kMax, kMin, isN, fget, fput,
  List.set_cons_zero, List.set_cons_succ, List.length_cons, List.length_nil, Bool.not_true, Bool.not_false, List.append_nil,
  if_true, if_false, Bool.false_eq_true, Bool.true_eq_false, ite_true, ite_false, true_and, and_true, reduceIte, List.nil_append, List.cons_append, atI_0, atI_1, atI_2, atI_3, atI_m1, List.getElem?_cons_zero, List.getElem?_cons_succ, List.getLast?_cons_cons, List.getLast?_singleton, Nat.zero_add, Nat.reduceAdd, Int.cast_ofNat_Int, Int.natCast_add, Int.natCast_one, Nat.reduceLeDiff, Int.reduceLT, Int.reduceLE, Int.reduceEq, decide_true, decide_false, Int.reduceAdd, Int.reduceNeg, Int.reduceSub, Int.reduceToNat, eq_self, ne_eq, not_true_eq_false, not_false_eq_true, List.map_cons, List.map_nil, Option.getD_some, Option.getD_none, Option.isSome_some, Option.isSome_none])
section
variable {P : Program} {w : World} {K : PySem.W.Frag} {mg : Str → Option Value} {base : Heap}
/-! Rule -/
def sp_is_part : DSp := fun ds C Q => ∃ t, ds = [toD t] ∧ Q (.bl (isPt t)) C
theorem ok_is_part (T : Txt K mg) : Fn P w K mg base 1 (fa mg "is_part") [] sp_is_part := by
  refine fn_df T.d_is_part sc_is_part (fun ds C Q h => ?_) (fun cdv A outer s H E hr => ?_)
  · (obtain ⟨_, rfl, _⟩ := h; rfl)
  have hu := hr.units
  have hu1 := hu_of hr
  have nd := sc_is_part.nd
  refine ⟨_, (ds_one (ds_ret (de_cmp op_inA ops_in (de_ix (dv 0) dc_int) (de_tup (da_cons dc_str (da_cons dc_str da_nil))) rfl))), fun ds C Q h => ?_⟩
  obtain ⟨t, rfl, h⟩ := h
  rw [show startD N_is_part [toD t] = [some (toD t)] from rfl]
  cases t with
  | pt b nm wt =>
    simp only [toD, isPt] at h ⊢
    walk_at "dl"
    refine ⟨rfl, rfl, ?_⟩
    rw [in2_w]
    exact fin h
  | nd kd ts =>
    simp only [toD, isPt] at h ⊢
    cases kd with
    | first => simp only [ndD]; walk_at "dl"; refine ⟨rfl, rfl, ?_⟩; rw [in2_f]; exact fin h
    | last => simp only [ndD]; walk_at "dl"; refine ⟨rfl, rfl, ?_⟩; rw [in2_l]; exact fin h
    | rank k => simp only [ndD]; walk_at "dl"; refine ⟨rfl, rfl, ?_⟩; rw [in2_r]; exact fin h
def sp_with_inside : DSp := fun ds C Q => match ds with
  | [.tup [a, _], d] => Q (.tup [a, d]) C
  | [.tup [a, b, _], d] => Q (.tup [a, b, d]) C
  | _ => False
theorem ok_with_inside (T : Txt K mg) : Fn P w K mg base 1 (fa mg "with_inside") [] sp_with_inside := by
  refine fn_df T.d_with_inside sc_with_inside (fun ds C Q h => ?_) (fun cdv A outer s H E hr => ?_)
  · (unfold sp_with_inside at h; split at h <;> first | rfl | exact h.elim)
  have hu := hr.units
  have hu1 := hu_of hr
  have nd := sc_with_inside.nd
  refine ⟨_, (ds_one (ds_ret (de_op op_addA ops_add (de_sl (dv 0) dp_none (dp_some (de_un dc_int))) (de_tup (da_cons (dv 1) da_nil))))), fun ds C Q h => ?_⟩
  unfold sp_with_inside at h
  split at h
  · rename_i a x d
    rw [show startD N_with_inside [D.tup [a, x], d] = [some (.tup [a, x]), some d] from rfl]
    walk_at "dl"
    rw [show cutD [a, x] none (some (-1)) = [a] from rfl]
    walk_at "dl"
    exact ⟨by decide, nofun, nofun, fin h⟩
  · rename_i a b x d
    rw [show startD N_with_inside [D.tup [a, b, x], d] = [some (.tup [a, b, x]), some d] from rfl]
    walk_at "dl"
    rw [show cutD [a, b, x] none (some (-1)) = [a, b] from rfl]
    walk_at "dl"
    exact ⟨by decide, nofun, nofun, fin h⟩
  · exact h.elim
def sp_copied (n : Nat) : DSp := fun ds C Q => ∃ t, ds = [toD t] ∧ WF t ∧ hle n t ∧ Q (toD t) C
theorem ok_copied1 (T : Txt K mg) {k n : Nat} {q : DSp} (G_copied : Fn P w K mg base k (fa mg "copied") [] q) (hk : 1 ≤ k)
    (hq : ∀ t C Q, WF t → 1 ≤ n → hle (n - 1) t → Q (toD t) C → q [toD t] C Q) : Fn P w K mg base (k + 1) (fa mg "copied") [] (sp_copied n) := by
  have G_is_part := ok_is_part (P := P) (w := w) (base := base) T
  have G_with_inside := ok_with_inside (P := P) (w := w) (base := base) T
  refine fn_df T.d_copied sc_copied (fun ds C Q h => ?_) (fun cdv A outer s H E hr => ?_)
  · (obtain ⟨_, rfl, _⟩ := h; rfl)
  have hu := hr.units
  have hu1 := hu_of hr
  have nd := sc_copied.nd
  refine ⟨_, (ds_one (ds_ret (de_if (dt_val (de_call G_is_part T.d_is_part.m (hr.mono (by omega)) (da_cons (dv 0) da_nil))) (dv 0) (de_call G_with_inside T.d_with_inside.m (hr.mono (by omega)) (da_cons (dv 0) (da_cons (de_lcL rfl nd (de_ix (dv 0) (de_un dc_int)) (by first | (change blkC N_copied (defScope s_copied) _ _ = true; decide +kernel) | rfl) (fun _ _ _ _ _ => pg_name (i := 1) nd rfl (Or.inl rfl)) (fun _ _ _ _ _ => dp_nil) (fun _ _ _ _ _ => (de_call G_copied T.d_copied.m (hr.mono (by omega)) (da_cons (dv 1) da_nil)))) da_nil)))))), fun ds C Q h => ?_⟩
  obtain ⟨t, rfl, hw, hh, h⟩ := h
  rw [show startD N_copied [toD t] = [some (toD t), none] from rfl]
  walk_at "dl"
  refine ⟨t, rfl, ?_⟩
  cases t with
  | pt b nm wt =>
    simp only [isPt]
    walk_at "dl"
    exact fin h
  | nd kd ts =>
    simp only [WF] at hw
    have hts : ∀ t ∈ ts, WF t ∧ 1 ≤ n ∧ hle (n - 1) t := fun t ht => by
      cases n with
      | zero => simp [hle] at hh
      | succ m => simp only [hle] at hh; exact ⟨WFs_all hw.2.2.2 t ht, by omega, hh t ht⟩
    have hm : (ts.map toD).map _root_.id = ts.map toD := List.map_id _
    simp only [isPt, toD, toDs_map] at h ⊢
    cases kd with
    | first =>
      simp only [ndD] at h ⊢
      walk_at "dl"
      refine compN_map _root_.id (by rw [List.length_map]; omega) (fun i d P' e p => ?_) ?_
      · obtain ⟨t, ht, rfl⟩ := map_get e
        exact hq t C _ (hts t ht).1 (hts t ht).2.1 (hts t ht).2.2 p
      · rw [hm]; exact fin h
    | last =>
      simp only [ndD] at h ⊢
      walk_at "dl"
      refine compN_map _root_.id (by rw [List.length_map]; omega) (fun i d P' e p => ?_) ?_
      · obtain ⟨t, ht, rfl⟩ := map_get e
        exact hq t C _ (hts t ht).1 (hts t ht).2.1 (hts t ht).2.2 p
      · rw [hm]; exact fin h
    | rank k =>
      simp only [ndD] at h ⊢
      walk_at "dl"
      refine compN_map _root_.id (by rw [List.length_map]; omega) (fun i d P' e p => ?_) ?_
      · obtain ⟨t, ht, rfl⟩ := map_get e
        exact hq t C _ (hts t ht).1 (hts t ht).2.1 (hts t ht).2.2 p
      · rw [hm]; exact fin h
theorem ok_copied (T : Txt K mg) : ∀ n, Fn P w K mg base (n + 2) (fa mg "copied") [] (sp_copied n)
  | 0 => ok_copied1 (q := fun _ _ _ => False) T ((fn_zero T.d_copied.z fun _ _ _ h => h).mono (by omega : 0 ≤ 1)) (Nat.le_refl 1) fun t C Q _ h => by omega
  | n + 1 => ok_copied1 T (ok_copied T n) (by omega) fun t C Q hw _ hh q => ⟨t, rfl, hw, hh, q⟩
def ruleD (mg : Str → Option Value) (t : Tm) : D := .ins (fa mg "Rule") [("form", toD t)]
def sp_check_rule (mg : Str → Option Value) : DSp := fun ds C Q => ∃ t, ds = [ruleD mg t] ∧ Q .non C
theorem ok_check_rule (T : Txt K mg) : Fn P w K mg base 1 (fa mg "check_rule") [] (sp_check_rule mg) := by
  refine fn_df T.d_check_rule sc_check_rule (fun ds C Q h => ?_) (fun cdv A outer s H E hr => ?_)
  · (obtain ⟨_, rfl, _⟩ := h; rfl)
  have hu := hr.units
  have hu1 := hu_of hr
  have nd := sc_check_rule.nd
  refine ⟨_, (ds_one (ds_if (dt_not (dt_val (de_cb call_isi (cl_isO T.c_Rule) T.isinstance bt_isinstance (da_cons (dv 0) (da_cons (dg_ref T.m_Rule) da_nil))))) (ds_one ds_never) ds_nil)), fun ds C Q h => ?_⟩
  obtain ⟨t, rfl, h⟩ := h
  rw [show startD N_check_rule [ruleD mg t] = [some (ruleD mg t)] from rfl]
  simp only [ruleD]
  walk_at "dl"
  exact fin h
/-- Rule(term): the new instance's __init__ -/
def sp_Rule___init__ (mg : Str → Option Value) : DSp := fun ds C Q => ∃ a t, ds = [.cell a, toD t] ∧ C a = some (.ins (fa mg "Rule") []) ∧ WF t ∧ hle 3 t ∧ Q .non (cset C a (.ins (fa mg "Rule") [("form", toD t)]))
theorem ok_init (T : Txt K mg) : Fn P w K mg base 9 (ma K (fa mg "Rule") "__init__") [] (sp_Rule___init__ mg) := by
  have G_is_term := (ok_terms (P := P) (w := w) (base := base) T 3 (by omega)).1
  have G_copied := ok_copied (P := P) (w := w) (base := base) T 3
  refine fn_mf T.d_Rule___init__ sc_Rule___init__ (fun ds C Q h => ?_) (fun cdv A outer s H E hr => ?_)
  · (obtain ⟨_, _, rfl, _⟩ := h; rfl)
  have hu := hr.units
  have hu1 := hu_of hr
  have nd := sc_Rule___init__.nd
  refine ⟨_, (ds_cons (ds_if (dt_not (dt_val (de_call G_is_term T.d_is_term.m (hr.mono (by omega)) (da_cons (dv 1) da_nil)))) (ds_one ds_never) ds_nil)
    (ds_one (ds_setfld T.c_Rule.cl T.n_Rule_form (dv 0) (de_call G_copied T.d_copied.m (hr.mono (by omega)) (da_cons (dv 1) da_nil))))), fun ds C Q h => ?_⟩
  obtain ⟨a, t, rfl, hc, hw, hh, h⟩ := h
  rw [show startD N_Rule___init__ [.cell a, toD t] = [some (.cell a), some (toD t)] from rfl]
  walk_at "dl"
  refine ⟨t, rfl, hw, hh, ?_⟩
  walk_at "dl"
  refine ⟨t, rfl, hw, hh, ?_⟩
  simp only [hc]
  walk_at "dl"
  exact ⟨by omega, fin h⟩
def sp_Rule_term (mg : Str → Option Value) : DSp := fun ds C Q => ∃ t, ds = [ruleD mg t] ∧ WF t ∧ hle 3 t ∧ Q (toD t) C
theorem ok_term (T : Txt K mg) : Fn P w K mg base 6 (ma K (fa mg "Rule") "term") [] (sp_Rule_term mg) := by
  have G_copied := ok_copied (P := P) (w := w) (base := base) T 3
  refine fn_mf T.d_Rule_term sc_Rule_term (fun ds C Q h => ?_) (fun cdv A outer s H E hr => ?_)
  · (obtain ⟨_, rfl, _⟩ := h; rfl)
  have hu := hr.units
  have hu1 := hu_of hr
  have nd := sc_Rule_term.nd
  refine ⟨_, (ds_one (ds_ret (de_call G_copied T.d_copied.m (hr.mono (by omega)) (da_cons (de_fld T.c_Rule.cl T.n_Rule_form (dv 0)) da_nil)))), fun ds C Q h => ?_⟩
  obtain ⟨t, rfl, hw, hh, h⟩ := h
  rw [show startD N_Rule_term [ruleD mg t] = [some (ruleD mg t)] from rfl]
  simp only [ruleD]
  walk_at "dl"
  exact ⟨t, rfl, hw, hh, fin h⟩
def sp_Rule___eq__ (mg : Str → Option Value) : DSp := fun ds C Q => ∃ t u, ds = [ruleD mg t, ruleD mg u] ∧ okD (toD t) ∧ okD (toD u) ∧ (∀ b, b = eqD (toD t) (toD u) → Q (.bl b) C)
theorem ok_eq (T : Txt K mg) : Fn P w K mg base 1 (ma K (fa mg "Rule") "__eq__") [] (sp_Rule___eq__ mg) := by
  refine fn_mf T.d_Rule___eq__ sc_Rule___eq__ (fun ds C Q h => ?_) (fun cdv A outer s H E hr => ?_)
  · (obtain ⟨_, _, rfl, _⟩ := h; rfl)
  have hu := hr.units
  have hu1 := hu_of hr
  have nd := sc_Rule___eq__.nd
  refine ⟨_, (ds_one (ds_ret (de_and (de_cb call_isi (cl_isO T.c_Rule) T.isinstance bt_isinstance (da_cons (dv 1) (da_cons (dg_ref T.m_Rule) da_nil))) (de_one (de_cmp (op_eqA hu) ops_eq (de_fld T.c_Rule.cl T.n_Rule_form (dv 0)) (de_fld T.c_Rule.cl T.n_Rule_form (dv 1)) (nomark _)))))), fun ds C Q h => ?_⟩
  obtain ⟨t, u, rfl, h1, h2, h⟩ := h
  rw [show startD N_Rule___eq__ [ruleD mg t, ruleD mg u] = [some (ruleD mg t), some (ruleD mg u)] from rfl]
  simp only [ruleD]
  walk_at "dl"
  exact eq_tm false t u C _ h1 h2 (fin (h _ rfl))
end

end K94

set_option Elab.async false
set_option linter.all false
set_option maxRecDepth 100000
set_option maxHeartbeats 1000000
namespace K94
open PySem L2 DL
local macro_rules | `(tactic| walk_at "dl") => `(tactic| simp only [dSeq, dIfS, dOr, dAnd, dNot, dTest, dCB, d1, d2, kIsi, kIsO, kLen, kStr, kIntT, kAbs, kI2, kSum, dCons, dNil, dVar, dC, slot, tyD, opt_some, kitB_ss, kitB_is, kitB_ii, kitB_ib, kitB_si, kitB_tt, kitB_ll, kitB_dd, kitB_tl, kitB_lt, kitB_ts, kitB_bb, kitB_bi,
  vw_non, vw_bl, vw_i, vw_s, vw_l, vw_t, vw_d, vw_n, vw_f, vw_v, asB, dAndV, dOrV, dNotV, dIf, dOp, dI2, dSub, dMul, dFdiv, dMod, dPow, dLt, dLe, dGt, dGe, dAdd, dRet, dRetN, dNext, dLst, dTup, dLstC, dCall, dDrop, dAsg, dName, dPar, dSets, dGTup, dIx, dSl, dPart, dNoP, dInN, dIsN, dEqN, dNeg, dFz, frz1, dFzS, dFld, dSetFld, dMth, dMake, dCallL, dChain, endsOf, dLcL, dLcS, dLcR1, dYes, dBM, mAppend, mInsert, mStarts3, mJoin, tyM, dBits, dForL, dForT, dForR1, int1, dDGet, dDIn, dDPut, dDGet2, kDict0, keyOf, kListOf, kRepr, dEqP, kMax, kMin, isN, fget, fput,
  List.set_cons_zero, List.set_cons_succ, List.length_cons, List.length_nil, Bool.not_true, Bool.not_false, List.append_nil,
  if_true, if_false, Bool.false_eq_true, Bool.true_eq_false, ite_true, ite_false, true_and, and_true, reduceIte, List.nil_append, List.cons_append, atI_0, atI_1, atI_2, atI_3, atI_m1, List.getElem?_cons_zero, List.getElem?_cons_succ, List.getLast?_cons_cons, List.getLast?_singleton, Nat.zero_add, Nat.reduceAdd, Int.cast_ofNat_Int, Int.natCast_add, Int.natCast_one, Nat.reduceLeDiff, Int.reduceLT, Int.reduceLE, Int.reduceEq, decide_true, decide_false, Int.reduceAdd, Int.reduceNeg, Int.reduceSub, Int.reduceToNat, eq_self, ne_eq, not_true_eq_false, not_false_eq_true, List.map_cons, List.map_nil, Option.getD_some, Option.getD_none, Option.isSome_some, Option.isSome_none])
/-! ### the text of a term, plainly: lists of signs -/
open TL PySem.NumText
def numZ (w : Int) : List Nat := if w < 0 then 45 :: numL w.natAbs else numL w.natAbs
def S (l : List Nat) : Str := ⟨l.toArray⟩
def kdL (kd : Kd) : List Nat := match kd with
  | .first => [102, 105, 114, 115, 116]
  | .last => [108, 97, 115, 116]
  | .rank k => [114, 97, 110, 107, 32] ++ numZ k
def nowL (b : Bool) : List Nat := if b then [110, 111, 119, 32] else []
def cs : List Nat := [44, 32]
mutual
def txtL : Tm → List Nat
  | .pt b n w => nowL b ++ (tl n ++ 32 :: numZ w)
  | .nd kd ts => kdL kd ++ (40 :: (joinL cs (txtsL ts) ++ [41]))
def txtsL : List Tm → List (List Nat)
  | [] => []
  | t :: ts => txtL t :: txtsL ts
end
theorem txtsL_map : ∀ ts : List Tm, txtsL ts = ts.map txtL
  | [] => by simp [txtsL]
  | t :: ts => by simp [txtsL, txtsL_map ts]
def txt (t : Tm) : Str := S (txtL t)
theorem tl_S (l : List Nat) : tl (S l) = l := rfl
theorem S_tl (z : Str) : S (tl z) = z := ext_tl rfl
theorem S_app (a b : List Nat) : S a ++ S b = S (a ++ b) := ext_tl (by rw [tl_append, tl_S, tl_S, tl_S])
theorem S_len (a : List Nat) : (S a).length = a.length := by rw [len_tl, tl_S]
theorem S_inj {a b : List Nat} : S a = S b ↔ a = b := ⟨fun h => by have := congrArg tl h; rwa [tl_S, tl_S] at this, fun h => h ▸ rfl⟩
theorem q_emp : ("" : Str) = S [] := by decide +kernel
theorem q_lp : ("(" : Str) = S [40] := by decide +kernel
theorem q_rp : (")" : Str) = S [41] := by decide +kernel
theorem q_sp : (" " : Str) = S [32] := by decide +kernel
theorem q_zero : ("0" : Str) = S [48] := by decide +kernel
theorem q_mi : ("-" : Str) = S [45] := by decide +kernel
theorem q_cs : (", " : Str) = S [44, 32] := by decide +kernel
theorem q_of : ("of" : Str) = S [111, 102] := by decide +kernel
theorem q_now : ("now" : Str) = S [110, 111, 119] := by decide +kernel
theorem q_nows : ("now " : Str) = S [110, 111, 119, 32] := by decide +kernel
theorem q_first : ("first" : Str) = S [102, 105, 114, 115, 116] := by decide +kernel
theorem q_last : ("last" : Str) = S [108, 97, 115, 116] := by decide +kernel
theorem q_rank : ("rank" : Str) = S [114, 97, 110, 107] := by decide +kernel
theorem q_ranks : ("rank " : Str) = S [114, 97, 110, 107, 32] := by decide +kernel
theorem q_dg : tl ("0123456789" : Str) = [48, 49, 50, 51, 52, 53, 54, 55, 56, 57] := by decide +kernel
theorem q_dm : tl ("-0123456789" : Str) = [45, 48, 49, 50, 51, 52, 53, 54, 55, 56, 57] := by decide +kernel
theorem q_ab : tl ("abcdefghijklmnopqrstuvwxyz" : Str) = [97, 98, 99, 100, 101, 102, 103, 104, 105, 106, 107, 108, 109, 110, 111, 112, 113, 114, 115, 116, 117, 118, 119, 120, 121, 122] := by decide +kernel
/-- letters, digits as ranges -/
theorem letter_iff (c : Nat) : isLetter c = true ↔ 97 ≤ c ∧ c ≤ 122 := by
  unfold isLetter
  rw [decide_eq_true_iff, show abc.cps.toList = _ from q_ab]
  simp only [List.mem_cons, List.not_mem_nil, or_false]
  omega
def isNum (c : Nat) : Bool := decide (c = 45 ∨ (48 ≤ c ∧ c ≤ 57))
theorem sub_let (c : Nat) : subS ⟨#[c]⟩ "abcdefghijklmnopqrstuvwxyz" = isLetter c := by rw [subS_one]; rfl
theorem sub_dm (c : Nat) : subS ⟨#[c]⟩ "-0123456789" = isNum c := by
  rw [subS_one, show ("-0123456789" : Str).cps.toList = _ from q_dm]
  unfold isNum
  simp only [List.mem_cons, List.not_mem_nil, or_false]
  rw [decide_eq_decide]
  omega
theorem sub_dg (c : Nat) : subS ⟨#[c]⟩ "0123456789" = decide (48 ≤ c ∧ c ≤ 57) := by
  rw [subS_one, show ("0123456789" : Str).cps.toList = _ from q_dg]
  simp only [List.mem_cons, List.not_mem_nil, or_false]
  rw [decide_eq_decide]
  omega
theorem numZ_num (w : Int) : ∀ c ∈ numZ w, isNum c = true := by
  intro c h
  unfold isNum
  rw [decide_eq_true_iff]
  unfold numZ at h
  split at h
  · rcases List.mem_cons.mp h with rfl | h
    · exact .inl rfl
    · exact .inr (numL_digits _ c h)
  · exact .inr (numL_digits _ c h)
theorem numZ_ne (w : Int) : numZ w ≠ [] := by
  unfold numZ
  split
  · simp
  · exact numL_ne _
theorem numZ_len {w : Int} (h : w.natAbs < 10 ^ 15) : (numZ w).length ≤ 16 := by
  have := numL_len (k := 15) (by omega) h
  unfold numZ
  split
  · simp only [List.length_cons]; omega
  · omega
theorem numZ_nat (n : Nat) : numZ (n : Int) = numL n := by
  unfold numZ
  rw [if_neg (by omega)]
  rfl
theorem tl_toS (w : Int) : tl (Str.ofString (toString w)) = numZ w := by
  cases w with
  | ofNat n => exact (tl_num n).trans (numZ_nat n).symm
  | negSucc n =>
    have h : numZ (Int.negSucc n) = 45 :: numL (n + 1) := by
      unfold numZ
      rw [if_pos (by omega)]
      rfl
    rw [h]
    have h2 := tl_num (n + 1)
    rw [tl_ofString] at h2 ⊢
    have e : toString (Int.negSucc n) = "-" ++ toString (((n + 1 : Nat)) : Int) := rfl
    rw [e, String.toList_append, List.map_append, h2]
    rfl
/-- the numbers' texts start with neither 0 nor - but for 0 itself -/
theorem numL_head : ∀ {n : Nat}, 0 < n → ∃ c r, numL n = c :: r ∧ 49 ≤ c ∧ c ≤ 57 := by
  intro n
  induction n using Nat.strongRecOn with
  | _ n ih =>
    intro h0
    by_cases h : n < 10
    · exact ⟨48 + n, [], numL_lt h, by omega, by omega⟩
    · obtain ⟨c, r, e, h1, h2⟩ := ih (n / 10) (by omega) (by omega)
      exact ⟨c, r ++ [48 + n % 10], by rw [numL_step (by omega), e]; rfl, h1, h2⟩
theorem numL_zero : numL 0 = [48] := numL_lt (by omega)
theorem intT_S {w : Int} (h : w.natAbs < 10 ^ 15) : PySem.intText? (S (numZ w)) = some w := by
  have hl := numZ_len h
  by_cases hw : w < 0
  · have e : numZ w = 45 :: numL w.natAbs := by unfold numZ; rw [if_pos hw]
    have := PySem.intText_neg (x := S (numZ w)) e (numL_digits _) (numL_ne _) (by rw [S_len]; omega)
    rw [this, numL_val]
    congr 1
    omega
  · have e : numZ w = numL w.natAbs := by unfold numZ; rw [if_neg hw]
    have := PySem.intText_digits (x := S (numZ w)) (by rw [show (S (numZ w)).cps.toList = numZ w from rfl, e]; exact numL_digits _) (by rw [show (S (numZ w)).cps.toList = numZ w from rfl]; exact numZ_ne w) (by rw [S_len]; omega)
    rw [this, show (S (numZ w)).cps.toList = numZ w from rfl, e, numL_val]
    congr 1
    omega
/-! slices -/
theorem cutS_at {z : Str} {a : Nat} {u v : List Nat} (h : (tl z).drop a = u ++ v) {i j : Int} (hi : i = (a : Int)) (hj : j = (a : Int) + (u.length : Int)) : cutS z (some i) (some j) = S u := by
  subst hi hj
  apply ext_tl
  rw [show (a : Int) + (u.length : Int) = ((a + u.length : Nat) : Int) by omega]
  show ((tl z).drop (HT.sIx z.length 0 (some (a : Int)))).take (HT.sIx z.length z.length (some ((a + u.length : Nat) : Int)) - HT.sIx z.length 0 (some (a : Int))) = u
  rw [HT.sIx_nat, HT.sIx_nat]
  have hl := congrArg List.length h
  rw [List.length_drop, List.length_append] at hl
  have hz := len_tl z
  by_cases ha : a ≤ z.length
  · rw [Nat.min_eq_left ha, h, Nat.min_eq_left (by omega), Nat.add_sub_cancel_left, List.take_left]
  · have hu : u = [] := List.eq_nil_of_length_eq_zero (by omega)
    subst hu
    have m1 : min (a + ([] : List Nat).length) z.length = z.length := Nat.min_eq_right (Nat.le_trans (by omega : z.length ≤ a) (Nat.le_add_right _ _))
    rw [m1, Nat.min_eq_right (by omega), Nat.sub_self]
    rfl
theorem cutS_one {z : Str} {a : Nat} {v : List Nat} (h : (tl z).drop a = v) {i j : Int} (hi : i = (a : Int)) (hj : j = (a : Int) + 1) : cutS z (some i) (some j) = S (v.take 1) := by
  cases v with
  | nil =>
    have hl := congrArg List.length h
    rw [List.length_drop, List.length_nil] at hl
    have hz := len_tl z
    subst hi hj
    apply ext_tl
    rw [show (a : Int) + 1 = ((a + 1 : Nat) : Int) by omega]
    show ((tl z).drop (HT.sIx z.length 0 (some (a : Int)))).take (HT.sIx z.length z.length (some ((a + 1 : Nat) : Int)) - HT.sIx z.length 0 (some (a : Int))) = []
    rw [HT.sIx_nat, HT.sIx_nat, Nat.min_eq_right (by omega), Nat.min_eq_right (by omega), Nat.sub_self]
    rfl
  | cons c v => exact cutS_at (u := [c]) (v := v) h hi hj
theorem drop_add {L u v : List Nat} {a : Nat} (h : L.drop a = u ++ v) : L.drop (a + u.length) = v := by
  rw [← List.drop_drop, h, List.drop_left]
theorem starts_at {z : Str} {a : Nat} {v p : List Nat} (h : (tl z).drop a = v) (hz : a ≤ (tl z).length) {i : Int} (hi : i = (a : Int)) : Txt.startswith3 z (S p) i = decide (v.take p.length = p) := by
  subst hi
  unfold Txt.startswith3
  have e : fromIndex z.length (a : Int) = a := by
    unfold fromIndex
    rw [if_neg (by omega)]
    omega
  rw [e, PySem.StrLaws.subAt_eq, show (S p).cps.toList = p from rfl, S_len]
  have h' : List.drop a z.cps.toList = v := h
  rw [h']
  have hl := congrArg List.length h
  rw [List.length_drop] at hl
  have hz' := len_tl z
  by_cases c : v.take p.length = p
  · have := congrArg List.length c
    rw [List.length_take] at this
    rw [decide_eq_true c, c, decide_eq_true (by omega : a + p.length ≤ z.length)]
    simp
  · rw [decide_eq_false c]
    simp [c]
/-! marks of a text's start -/
theorem no_par : ∀ {p m : List Nat} {r r' : List Nat}, (∀ c ∈ p, c ≠ 32) → (∀ c ∈ m, c ≠ 40) → (m ++ 32 :: r).take (p ++ [40]).length ≠ p ++ [40]
  | [], [], r, r', _, _, h => by simp at h
  | [], c :: m, r, r', _, hm, h => by
    simp at h
    exact hm c (by simp) h
  | d :: p, [], r, r', hp, _, h => by
    simp at h
    exact hp d (by simp) h.1.symm
  | d :: p, c :: m, r, r', hp, hm, h => by
    simp only [List.cons_append, List.length_cons, List.take_succ_cons, List.cons.injEq] at h
    exact no_par (r := r) (r' := r') (fun x hx => hp x (by simp [hx])) (fun x hx => hm x (by simp [hx])) h.2
theorem word_sp : ∀ {p m : List Nat} {r r' : List Nat}, (∀ c ∈ p, c ≠ 32) → (∀ c ∈ m, c ≠ 32) → (m ++ 32 :: r).take (p ++ [32]).length = p ++ [32] → m = p
  | [], [], r, r', _, _, h => rfl
  | [], c :: m, r, r', _, hm, h => by
    simp at h
    exact absurd h (hm c (by simp))
  | d :: p, [], r, r', hp, _, h => by
    simp at h
    exact absurd h.1.symm (hp d (by simp))
  | d :: p, c :: m, r, r', hp, hm, h => by
    simp only [List.cons_append, List.length_cons, List.take_succ_cons, List.cons.injEq] at h
    rw [h.1, word_sp (r := r) (r' := r') (fun x hx => hp x (by simp [hx])) (fun x hx => hm x (by simp [hx])) h.2]
/-! what may follow -/
def stop (l : List Nat) : Prop := l = [] ∨ ∃ c r, l = c :: r ∧ (c = 44 ∨ c = 41)
def stopN (l : List Nat) : Prop := l = [] ∨ ∃ c r, l = c :: r ∧ isNum c = false
theorem stop.n {l : List Nat} (h : stop l) : stopN l := by
  rcases h with h | ⟨c, r, e, h⟩
  · exact .inl h
  · exact .inr ⟨c, r, e, by rcases h with rfl | rfl <;> rfl⟩
theorem stop.take {l : List Nat} (h : stop l) : S (l.take 1) ≠ S [40] := fun e => by
  rw [S_inj] at e
  rcases h with rfl | ⟨c, r, rfl, h⟩
  · simp at e
  · simp at e; omega

end K94

set_option Elab.async false
set_option linter.all false
set_option maxRecDepth 100000
set_option maxHeartbeats 1000000
namespace K94
open PySem L2 DL
local macro_rules | `(tactic| walk_at "dl") => `(tactic| simp only [dSeq, dIfS, dOr, dAnd, dNot, dTest, dCB, d1, d2, kIsi, kIsO, kLen, kStr, kIntT, kAbs, kI2, kSum, dCons, dNil, dVar, dC, slot, tyD, opt_some, kitB_ss, kitB_is, kitB_ii, kitB_ib, kitB_si, kitB_tt, kitB_ll, kitB_dd, kitB_tl, kitB_lt, kitB_ts, kitB_bb, kitB_bi,
  vw_non, vw_bl, vw_i, vw_s, vw_l, vw_t, vw_d, vw_n, vw_f, vw_v, asB, dAndV, dOrV, dNotV, dIf, dOp, dI2, dSub, dMul, dFdiv, dMod, dPow, dLt, dLe, dGt, dGe, dAdd, dRet, dRetN, dNext, dLst, dTup, dLstC, dCall, dDrop, dAsg, dName, dPar, dSets, dGTup, dIx, dSl, dPart, dNoP, dInN, dIsN, dEqN, dNeg, dFz, frz1, dFzS, dFld, dSetFld, dMth, dMake, dCallL, dChain, endsOf, dLcL, dLcS, dLcR1, dYes, dBM, mAppend, mInsert, mStarts3, mJoin, tyM, dBits, dForL, dForT, dForR1, int1, dDGet, dDIn, dDPut, dDGet2, kDict0, keyOf, kListOf, kRepr, dEqP, kMax, kMin, isN, fget, fput,
  List.set_cons_zero, List.set_cons_succ, List.length_cons, List.length_nil, Bool.not_true, Bool.not_false, List.append_nil,
  if_true, if_false, Bool.false_eq_true, Bool.true_eq_false, ite_true, ite_false, true_and, and_true, reduceIte, List.nil_append, List.cons_append, atI_0, atI_1, atI_2, atI_3, atI_m1, List.getElem?_cons_zero, List.getElem?_cons_succ, List.getLast?_cons_cons, List.getLast?_singleton, Nat.zero_add, Nat.reduceAdd, Int.cast_ofNat_Int, Int.natCast_add, Int.natCast_one, Nat.reduceLeDiff, Int.reduceLT, Int.reduceLE, Int.reduceEq, decide_true, decide_false, Int.reduceAdd, Int.reduceNeg, Int.reduceSub, Int.reduceToNat, eq_self, ne_eq, not_true_eq_false, not_false_eq_true, List.map_cons, List.map_nil, Option.getD_some, Option.getD_none, Option.isSome_some, Option.isSome_none])
open TL PySem.NumText
section
variable {P : Program} {w : World} {K : PySem.W.Frag} {mg : Str → Option Value} {base : Heap}
theorem cutS_hd {z : Str} {v : List Nat} (h : tl z = v) : cutS z none (some 1) = S (v.take 1) := by
  apply ext_tl
  show ((tl z).drop 0).take (HT.sIx z.length z.length (some ((1 : Nat) : Int)) - 0) = _
  rw [HT.sIx_nat, len_tl, h, List.drop_zero, Nat.sub_zero, tl_S]
  cases v with
  | nil => rfl
  | cons c v => rw [Nat.min_eq_left (by simp)]
theorem cutS_tl {z : Str} {v : List Nat} (h : tl z = v) : cutS z (some 1) none = S (v.drop 1) := by
  apply ext_tl
  show ((tl z).drop (HT.sIx z.length 0 (some ((1 : Nat) : Int)))).take (z.length - HT.sIx z.length 0 (some ((1 : Nat) : Int))) = _
  rw [HT.sIx_nat, len_tl, h, tl_S]
  cases v with
  | nil => rfl
  | cons c v =>
    rw [Nat.min_eq_left (by simp)]
    exact List.take_of_length_le (by simp)
def sp_whole_of : DSp := fun ds C Q => ∃ x, ds = [.str (S (numZ x))] ∧ x.natAbs < 10 ^ 15 ∧ Q (.int x) C
theorem chars_S (l : List Nat) : chars (S l) = l.map fun c => D.str (S [c]) := rfl
theorem ok_whole_of (T : Txt K mg) : Fn P w K mg base 1 (fa mg "whole_of") [] sp_whole_of := by
  refine fn_df T.d_whole_of sc_whole_of (fun ds C Q h => ?_) (fun cdv A outer s H E hr => ?_)
  · (obtain ⟨_, rfl, _⟩ := h; rfl)
  have hu := hr.units
  have hu1 := hu_of hr
  have nd := sc_whole_of.nd
  refine ⟨_, (ds_cons (ds_set (i := 1) nd (de_if (dt_cmp (op_eqA hu) ops_eq (de_sl (dv 0) dp_none (dp_some dc_int)) dc_str (nomark _)) (de_sl (dv 0) (dp_some dc_int) dp_none) (dv 0)))
    (ds_cons (ds_if (dt_pw (dw_or (dt_cmp (op_eqA hu) ops_eq (dv 1) dc_str (nomark _)) (dw_or1 (dt_cmp (op_neA hu) ops_ne (de_lcS rfl nd (dv 1) (by first | (change blkC N_whole_of (defScope s_whole_of) _ _ = true; decide +kernel) | rfl) (fun _ _ _ _ _ => pg_name (i := 2) nd rfl (Or.inl rfl)) (fun _ _ _ _ _ => (dp_one (dt_cmp op_notInA ops_in (dv 2) dc_str rfl))) (fun _ _ _ _ _ => (dv 2))) (de_lst da_nil) (nomark _))))) (ds_one (ds_ret dc_non)) ds_nil)
    (ds_one (ds_ret (de_if (dt_pw (dw_and (dt_cmp (op_eqA hu) ops_eq (de_ix (dv 1) dc_int) dc_str (nomark _)) (dw_and1 (dt_cmp (op_neA hu) ops_ne (dv 0) dc_str (nomark _))))) dc_non (de_ct call_int_str cl_intT T.int bt_int (da_cons (dv 0) da_nil))))))), fun ds C Q h => ?_⟩
  obtain ⟨x, rfl, hx, h⟩ := h
  rw [show startD N_whole_of [D.str (S (numZ x))] = [some (.str (S (numZ x))), none, none] from rfl]
  walk_at "dl"
  have hl := numZ_len hx
  have hz : (S (numZ x)).length ≤ 1000000 := by rw [S_len]; omega
  refine ⟨hz, ?_⟩
  rw [cutS_hd (tl_S _), q_mi]
  simp only [S_inj, decide_eq_true_eq]
  by_cases hw : x < 0
  · have e : numZ x = 45 :: numL x.natAbs := by unfold numZ; rw [if_pos hw]
    rw [e]
    simp only [List.take_succ_cons, List.take_zero, if_true]
    refine ⟨by rw [S_len, ← e]; omega, ?_⟩
    rw [cutS_tl (tl_S _), List.drop_succ_cons, List.drop_zero]
    rw [if_neg (by rw [q_emp, S_inj]; exact numL_ne _)]
    refine compN_none (fun i d P' e p => ?_) ⟨okD_nil, okD_nil, ?_⟩
    · obtain ⟨c, hc, rfl⟩ := chars_get e
      walk_at "dl"
      rw [sub_dg, decide_eq_true (numL_digits _ c hc)]
      exact p
    · rw [vw_l, eqD_nil]
      simp only [List.isEmpty_nil, Bool.not_true, Bool.false_eq_true, if_false]
      refine ⟨by rw [S_len]; have := congrArg List.length e; simp only [List.length_cons] at this; omega, ?_⟩
      rw [show (S (numL x.natAbs)).cps.toList = numL x.natAbs from rfl]
      have z : Q (.int x) C → (S (45 :: numL x.natAbs)).length ≤ 640 ∧ opt (intText? (S (45 :: numL x.natAbs))) fun n => ∃ C'', Gh C C'' ∧ Q (D.int n) C'' := fun h => ⟨by rw [S_len, ← e]; omega, by rw [← e, intT_S hx]; exact fin h⟩
      obtain ⟨c, r, e2, h1, h2⟩ := numL_head (n := x.natAbs) (by omega)
      rw [e2] at z ⊢
      simp only [List.getElem?_cons_zero]
      show (if S [c] = "0" then _ else _)
      rw [if_neg (by rw [q_zero, S_inj]; simp; omega)]
      exact z h
  · have e : numZ x = numL x.natAbs := by unfold numZ; rw [if_neg hw]
    rw [e]
    have hd : ¬ (List.take 1 (numL x.natAbs) = [45]) := fun h => by
      cases e2 : numL x.natAbs with
      | nil => exact numL_ne _ e2
      | cons c r =>
        rw [e2] at h
        simp at h
        have := numL_digits x.natAbs c (by rw [e2]; simp)
        omega
    rw [if_neg hd]
    rw [if_neg (by rw [q_emp, S_inj]; exact numL_ne _)]
    refine compN_none (fun i d P' e p => ?_) ⟨okD_nil, okD_nil, ?_⟩
    · obtain ⟨c, hc, rfl⟩ := chars_get e
      walk_at "dl"
      rw [sub_dg, decide_eq_true (numL_digits _ c hc)]
      exact p
    · rw [vw_l, eqD_nil]
      simp only [List.isEmpty_nil, Bool.not_true, Bool.false_eq_true, if_false]
      refine ⟨by rw [S_len]; rw [← e]; omega, ?_⟩
      rw [show (S (numL x.natAbs)).cps.toList = numL x.natAbs from rfl]
      have z : Q (.int x) C → (S (numL x.natAbs)).length ≤ 640 ∧ opt (intText? (S (numL x.natAbs))) fun n => ∃ C'', Gh C C'' ∧ Q (D.int n) C'' := fun h => ⟨by rw [S_len, ← e]; omega, by rw [← e, intT_S hx]; exact fin h⟩
      by_cases h0 : x.natAbs = 0
      · rw [h0, numL_zero] at z ⊢
        simp only [List.getElem?_cons_zero, opt_some]
        rw [if_pos (show (⟨#[48]⟩ : Str) = "0" by decide +kernel), show (!decide (S [48] = ("0" : Str))) = false by rw [q_zero]; simp]
        simp only [Bool.false_eq_true, if_false]
        exact z h
      · obtain ⟨c, r, e2, h1, h2⟩ := numL_head (n := x.natAbs) (by omega)
        rw [e2] at z ⊢
        simp only [List.getElem?_cons_zero, opt_some]
        show (if S [c] = "0" then _ else _)
        rw [if_neg (by rw [q_zero, S_inj]; simp; omega)]
        exact z h
end

end K94

set_option Elab.async false
set_option linter.all false
set_option maxRecDepth 100000
set_option maxHeartbeats 1000000
namespace K94
open PySem L2 DL
local macro_rules | `(tactic| walk_at "dl") => `(tactic| simp only [dSeq, dIfS, dOr, dAnd, dNot, dTest, dCB, d1, d2, kIsi, kIsO, kLen, kStr, kIntT, kAbs, kI2, kSum, dCons, dNil, dVar, dC, slot, tyD, opt_some, kitB_ss, kitB_is, kitB_ii, kitB_ib, kitB_si, kitB_tt, kitB_ll, kitB_dd, kitB_tl, kitB_lt, kitB_ts, kitB_bb, kitB_bi,
  vw_non, vw_bl, vw_i, vw_s, vw_l, vw_t, vw_d, vw_n, vw_f, vw_v, asB, dAndV, dOrV, dNotV, dIf, dOp, dI2, dSub, dMul, dFdiv, dMod, dPow, dLt, dLe, dGt, dGe, dAdd, dRet, dRetN, dNext, dLst, dTup, dLstC, dCall, dDrop, dAsg, dName, dPar, dSets, dGTup, dIx, dSl, dPart, dNoP, dInN, dIsN, dEqN, dNeg, dFz, frz1, dFzS, dFld, dSetFld, dMth, dMake, dCallL, dChain, endsOf, dLcL, dLcS, dLcR1, dYes, dBM, mAppend, mInsert, mStarts3, mJoin, tyM, dBits, dForL, dForT, dForR1, int1, dDGet, dDIn, dDPut, dDGet2, kDict0, keyOf, kListOf, kRepr, dEqP, kMax, kMin, isN, fget, fput,
  List.set_cons_zero, List.set_cons_succ, List.length_cons, List.length_nil, Bool.not_true, Bool.not_false, List.append_nil,
  if_true, if_false, Bool.false_eq_true, Bool.true_eq_false, ite_true, ite_false, true_and, and_true, reduceIte, List.nil_append, List.cons_append, atI_0, atI_1, atI_2, atI_3, atI_m1, List.getElem?_cons_zero, List.getElem?_cons_succ, List.getLast?_cons_cons, List.getLast?_singleton, Nat.zero_add, Nat.reduceAdd, Int.cast_ofNat_Int, Int.natCast_add, Int.natCast_one, Nat.reduceLeDiff, Int.reduceLT, Int.reduceLE, Int.reduceEq, decide_true, decide_false, Int.reduceAdd, Int.reduceNeg, Int.reduceSub, Int.reduceToNat, eq_self, ne_eq, not_true_eq_false, not_false_eq_true, List.map_cons, List.map_nil, Option.getD_some, Option.getD_none, Option.isSome_some, Option.isSome_none])
open TL PySem.NumText
section
theorem toS (w : Int) : Str.ofString (toString w) = S (numZ w) := ext_tl (by rw [tl_toS, tl_S])
theorem log_ok {w : Int} (h : w.natAbs < 10 ^ 15) : w.natAbs.log2 < 1920 := PySem.Flt.log2_lt_of (by decide) (Nat.lt_trans h (show 10 ^ 15 < 2 ^ 1920 by decide +kernel))
theorem sub_q {Q : DK} {C : Cells} {a b : List Nat} (h : Q (.str (S b)) C) (e : a = b) : ∃ C'', Gh C C'' ∧ Q (.str (S a)) C'' := ⟨C, Gh.refl C, e ▸ h⟩
theorem join_S (ls : List (List Nat)) : Txt.join (S cs) (ls.map S) = S (joinL cs ls) := ext_tl (by
  rw [join_eq, tl_join, tl_S, tl_S, List.map_map]
  congr 1
  exact List.map_id _)
theorem sum_joinL (c : List Nat) : ∀ ls : List (List Nat), ((ls.map S).map fun x => x.length).sum ≤ (joinL c ls).length
  | [] => by simp
  | [p] => by simp [joinL, S_len]
  | p :: q :: r => by
    have := sum_joinL c (q :: r)
    simp only [List.map_cons, List.sum_cons, joinL, List.length_append, S_len] at this ⊢
    omega
theorem compN_ts {ts : List Tm} {j : Nat} {te : DT} {ρ : DL.Env} {C : Cells} {P : DK} (g : Tm → D) (hl : ts.length ≤ 1000)
    (k : ∀ t, t ∈ ts → ∀ P' : DK, P' (g t) C → te (ρ.set j (some (toD t))) C P') (q : P (.lst (ts.map g)) C) : compN (ts.map toD) j dYes te ρ C P := by
  refine ⟨fun i acc C' => acc = (ts.take i).map g ∧ C' = C, ⟨rfl, rfl⟩, fun i d acc C' e p => ?_, fun acc C' p => ?_⟩
  · obtain ⟨rfl, rfl⟩ := p
    rw [List.getElem?_map] at e
    cases e2 : ts[i]? with
    | none => rw [e2] at e; cases e
    | some t =>
      rw [e2] at e
      cases e
      simp only [dYes, if_true]
      refine k t (List.mem_of_getElem? e2) _ ⟨?_, C', Gh.refl C', ?_, rfl⟩
      · rw [List.length_map]
        have := List.length_take_le i ts
        have := List.length_take_le' i ts
        omega
      · rw [List.take_add_one, e2, List.map_append]
        rfl
  · obtain ⟨rfl, rfl⟩ := p
    rw [List.length_map, List.take_length]
    exact q
theorem maps {ts : List Tm} : ts.map (fun t => D.str (txt t)) = ((ts.map txtL).map S).map D.str := by
  rw [List.map_map, List.map_map]
  rfl
variable {P : Program} {w : World} {K : PySem.W.Frag} {mg : Str → Option Value} {base : Heap}
/-! term_text -/
def sp_term_text (n : Nat) : DSp := fun ds C Q => ∃ t, ds = [toD t] ∧ WF t ∧ hle n t ∧ (txtL t).length ≤ 100000 ∧ Q (.str (txt t)) C
theorem len_nd {kd : Kd} {ts : List Tm} (h : (txtL (.nd kd ts)).length ≤ 100000) : (joinL cs (ts.map txtL)).length ≤ 100000 := by
  simp only [txtL, txtsL_map, List.length_append, List.length_cons] at h
  omega
theorem mem_joinL (c : List Nat) : ∀ {ls : List (List Nat)} {l : List Nat}, l ∈ ls → l.length ≤ (joinL c ls).length
  | [p], l, h => by simp at h; subst h; simp [joinL]
  | p :: q :: r, l, h => by
    rcases List.mem_cons.mp h with rfl | h
    · simp only [joinL, List.length_append]; omega
    · have := mem_joinL c h
      simp only [joinL, List.length_append]
      omega
theorem len_in {kd : Kd} {ts : List Tm} {t : Tm} (h : (txtL (.nd kd ts)).length ≤ 100000) (ht : t ∈ ts) : (txtL t).length ≤ 100000 := by
  have h1 := len_nd h
  have h2 := mem_joinL cs (List.mem_map_of_mem (f := txtL) ht)
  omega
theorem ok_term_text1 (T : Txt K mg) {k n : Nat} {q : DSp} (G_term_text : Fn P w K mg base k (fa mg "term_text") [] q)
    (hq : ∀ t C Q, WF t → 1 ≤ n → hle (n - 1) t → (txtL t).length ≤ 100000 → Q (.str (txt t)) C → q [toD t] C Q) : Fn P w K mg base (k + 1) (fa mg "term_text") [] (sp_term_text n) := by
  refine fn_df T.d_term_text sc_term_text (fun ds C Q h => ?_) (fun cdv A outer s H E hr => ?_)
  · (obtain ⟨_, rfl, _⟩ := h; rfl)
  have hu := hr.units
  have hu1 := hu_of hr
  have nd := sc_term_text.nd
  refine ⟨_, (ds_cons (ds_if (dt_cmp (op_eqA hu) ops_eq (de_ix (dv 0) dc_int) dc_str (nomark _)) (ds_one (ds_ret (de_op op_addA ops_add (de_op op_addA ops_add (de_ix (dv 0) dc_int) dc_str) (de_ct call_str_int cl_str T.str bt_str (da_cons (de_ix (dv 0) dc_int) da_nil))))) ds_nil)
    (ds_cons (ds_if (dt_cmp (op_eqA hu) ops_eq (de_ix (dv 0) dc_int) dc_str (nomark _)) (ds_one (ds_ret (de_op op_addA ops_add (de_op op_addA ops_add (de_op op_addA ops_add dc_str (de_ix (dv 0) dc_int)) dc_str) (de_ct call_str_int cl_str T.str bt_str (da_cons (de_ix (dv 0) dc_int) da_nil))))) ds_nil)
    (ds_cons (ds_set (i := 1) nd (de_if (dt_cmp (op_eqA hu) ops_eq (de_ix (dv 0) dc_int) dc_str (nomark _)) (de_op op_addA ops_add dc_str (de_ct call_str_int cl_str T.str bt_str (da_cons (de_ix (dv 0) dc_int) da_nil))) (de_ix (dv 0) dc_int)))
    (ds_one (ds_ret (de_op op_addA ops_add (de_op op_addA ops_add (de_op op_addA ops_add (dv 1) dc_str) (de_bm PySem.F.plainAttrs_str PySem.F.slot_str_join PySem.F.type_str_join mt_join ms_join dc_str (da_cons (de_lcL rfl nd (de_ix (dv 0) (de_un dc_int)) (by first | (change blkC N_term_text (defScope s_term_text) _ _ = true; decide +kernel) | rfl) (fun _ _ _ _ _ => pg_name (i := 2) nd rfl (Or.inl rfl)) (fun _ _ _ _ _ => dp_nil) (fun _ _ _ _ _ => (de_call G_term_text T.d_term_text.m (hr.mono (by omega)) (da_cons (dv 2) da_nil)))) da_nil))) dc_str)))))), fun ds C Q h => ?_⟩
  obtain ⟨t, rfl, hw, hh, hl, h⟩ := h
  rw [show startD N_term_text [toD t] = [some (toD t), none, none] from rfl]
  cases t with
  | pt b nm wt =>
    simp only [WF] at hw
    obtain ⟨l, rfl⟩ : ∃ l, nm = S l := ⟨tl nm, (S_tl nm).symm⟩
    have h8 := hw.2.2.1
    have h16 := numZ_len hw.2.2.2
    rw [S_len] at h8
    cases b with
    | true =>
      simp only [toD, w_now]
      walk_at "dl"
      simp only [q_now, q_of, q_sp, q_nows, toS, S_app, S_len, S_inj, List.length_append, List.length_cons, List.length_nil]
      rw [if_neg (by decide)]
      refine ⟨by omega, by omega, log_ok hw.2.2.2, by omega, sub_q h ?_⟩
      simp [txtL, nowL, tl_S]
    | false =>
      simp only [toD, w_of]
      walk_at "dl"
      simp only [q_now, q_of, q_sp, q_nows, toS, S_app, S_len, S_inj, List.length_append, List.length_cons, List.length_nil]
      refine ⟨by omega, log_ok hw.2.2.2, by omega, sub_q h ?_⟩
      simp [txtL, nowL, tl_S]
  | nd kd ts =>
    simp only [WF] at hw
    have hts : ∀ t ∈ ts, WF t ∧ 1 ≤ n ∧ hle (n - 1) t := fun t ht => by
      cases n with
      | zero => simp [hle] at hh
      | succ m => simp only [hle] at hh; exact ⟨WFs_all hw.2.2.2 t ht, by omega, hh t ht⟩
    have hj := len_nd hl
    have hs := sum_joinL cs (ts.map txtL)
    simp only [toD, toDs_map]
    cases kd with
    | first =>
      simp only [ndD]
      walk_at "dl"
      simp only [q_now, q_of, q_sp, q_nows, q_lp, q_rp, q_first, q_last, q_rank, q_ranks, q_cs, toS, S_app, S_len, S_inj, List.length_append, List.length_cons, List.length_nil]
      rw [if_neg (by decide), if_neg (by decide), if_neg (by decide)]
      refine ⟨by omega, compN_ts (fun t => .str (txt t)) hw.2.1 (fun t ht P' p => hq t C _ (hts t ht).1 (hts t ht).2.1 (hts t ht).2.2 (len_in hl ht) p) ?_⟩
      rw [maps, vw_l]
      simp only [strsOf_map, opt_some, List.length_map]
      rw [show [44, 32] = cs from rfl, join_S]
      simp only [S_app, S_len, List.length_append, List.length_cons, List.length_nil]
      refine ⟨by omega, by omega, by omega, sub_q h ?_⟩
      simp [txtL, kdL, txtsL_map]
    | last =>
      simp only [ndD]
      walk_at "dl"
      simp only [q_now, q_of, q_sp, q_nows, q_lp, q_rp, q_first, q_last, q_rank, q_ranks, q_cs, toS, S_app, S_len, S_inj, List.length_append, List.length_cons, List.length_nil]
      rw [if_neg (by decide), if_neg (by decide), if_neg (by decide)]
      refine ⟨by omega, compN_ts (fun t => .str (txt t)) hw.2.1 (fun t ht P' p => hq t C _ (hts t ht).1 (hts t ht).2.1 (hts t ht).2.2 (len_in hl ht) p) ?_⟩
      rw [maps, vw_l]
      simp only [strsOf_map, opt_some, List.length_map]
      rw [show [44, 32] = cs from rfl, join_S]
      simp only [S_app, S_len, List.length_append, List.length_cons, List.length_nil]
      refine ⟨by omega, by omega, by omega, sub_q h ?_⟩
      simp [txtL, kdL, txtsL_map]
    | rank k =>
      have hk : k.natAbs < 10 ^ 15 := by
        have := hw.2.2.1
        simp only [kdOk] at this
        omega
      have h16 := numZ_len hk
      simp only [ndD]
      walk_at "dl"
      simp only [q_now, q_of, q_sp, q_nows, q_lp, q_rp, q_first, q_last, q_rank, q_ranks, q_cs, toS, S_app, S_len, S_inj, List.length_append, List.length_cons, List.length_nil]
      rw [if_neg (by decide), if_neg (by decide)]
      refine ⟨log_ok hk, by omega, by omega, compN_ts (fun t => .str (txt t)) hw.2.1 (fun t ht P' p => hq t C _ (hts t ht).1 (hts t ht).2.1 (hts t ht).2.2 (len_in hl ht) p) ?_⟩
      rw [maps, vw_l]
      simp only [strsOf_map, opt_some, List.length_map]
      rw [show [44, 32] = cs from rfl, join_S]
      simp only [S_app, S_len, List.length_append, List.length_cons, List.length_nil]
      refine ⟨by omega, by omega, by omega, sub_q h ?_⟩
      simp [txtL, kdL, txtsL_map]
theorem ok_term_text (T : Txt K mg) : ∀ n, Fn P w K mg base (n + 1) (fa mg "term_text") [] (sp_term_text n)
  | 0 => ok_term_text1 (n := 0) (q := fun _ _ _ => False) T (fn_zero T.d_term_text.z fun _ _ _ h => h) fun t C Q _ h _ _ _ => by omega
  | n + 1 => ok_term_text1 (n := n + 1) T (ok_term_text T n) fun t C Q hw _ hh hl q => ⟨t, rfl, hw, hh, hl, q⟩
def sp_rule_text (mg : Str → Option Value) : DSp := fun ds C Q => ∃ t, ds = [ruleD mg t] ∧ WF t ∧ hle 3 t ∧ (txtL t).length ≤ 100000 ∧ Q (.str (txt t)) C
theorem ok_rule_text (T : Txt K mg) : Fn P w K mg base 8 (fa mg "rule_text") [] (sp_rule_text mg) := by
  have G_check_rule := ok_check_rule (P := P) (w := w) (base := base) T
  have G_term_text := ok_term_text (P := P) (w := w) (base := base) T 3
  have G_Rule_term := ok_term (P := P) (w := w) (base := base) T
  refine fn_df T.d_rule_text sc_rule_text (fun ds C Q h => ?_) (fun cdv A outer s H E hr => ?_)
  · (obtain ⟨_, rfl, _⟩ := h; rfl)
  have hu := hr.units
  have hu1 := hu_of hr
  have nd := sc_rule_text.nd
  refine ⟨_, (ds_cons (ds_expr (de_call G_check_rule T.d_check_rule.m (hr.mono (by omega)) (da_cons (dv 0) da_nil)))
    (ds_one (ds_ret (de_call G_term_text T.d_term_text.m (hr.mono (by omega)) (da_cons (de_mth0 G_Rule_term T.c_Rule.cl T.d_Rule_term.me (hr.mono (by omega)) (dv 0)) da_nil))))), fun ds C Q h => ?_⟩
  obtain ⟨t, rfl, hw, hh, hl, h⟩ := h
  rw [show startD N_rule_text [ruleD mg t] = [some (ruleD mg t)] from rfl]
  walk_at "dl"
  refine ⟨t, rfl, ?_⟩
  simp only [ruleD]
  walk_at "dl"
  exact ⟨if_neg (by decide +kernel), t, rfl, hw, hh, t, rfl, hw, hh, hl, fin h⟩
end

end K94

set_option Elab.async false
set_option linter.all false
set_option maxRecDepth 100000
set_option maxHeartbeats 1000000
namespace K94
open PySem L2 DL
local macro_rules | `(tactic| walk_at "dl") => `(tactic| simp only [dSeq, dIfS, dOr, dAnd, dNot, dTest, dCB, d1, d2, kIsi, kIsO, kLen, kStr, kIntT, kAbs, kI2, kSum, dCons, dNil, dVar, dC, slot, tyD, opt_some, kitB_ss, kitB_is, kitB_ii, kitB_ib, kitB_si, kitB_tt, kitB_ll, kitB_dd, kitB_tl, kitB_lt, kitB_ts, kitB_bb, kitB_bi,
  vw_non, vw_bl, vw_i, vw_s, vw_l, vw_t, vw_d, vw_n, vw_f, vw_v, asB, dAndV, dOrV, dNotV, dIf, dOp, dI2, dSub, dMul, dFdiv, dMod, dPow, dLt, dLe, dGt, dGe, dAdd, dRet, dRetN, dNext, dLst, dTup, dLstC, dCall, dDrop, dAsg, dName, dPar, dSets, dGTup, dIx, dSl, dPart, dNoP, dInN, dIsN, dEqN, dNeg, dFz, frz1, dFzS, dFld, dSetFld, dMth, dMake, dCallL, dChain, endsOf, dLcL, dLcS, dLcR1, dYes, dBM, mAppend, mInsert, mStarts3, mJoin, tyM, dBits, dForL, dForT, dForR1, int1, dDGet, dDIn, dDPut, dDGet2, kDict0, keyOf, kListOf, kRepr, dEqP, kMax, kMin, isN, fget, fput,
  List.set_cons_zero, List.set_cons_succ, List.length_cons, List.length_nil, Bool.not_true, Bool.not_false, List.append_nil,
  if_true, if_false, Bool.false_eq_true, Bool.true_eq_false, ite_true, ite_false, true_and, and_true, reduceIte, List.nil_append, List.cons_append, atI_0, atI_1, atI_2, atI_3, atI_m1, List.getElem?_cons_zero, List.getElem?_cons_succ, List.getLast?_cons_cons, List.getLast?_singleton, Nat.zero_add, Nat.reduceAdd, Int.cast_ofNat_Int, Int.natCast_add, Int.natCast_one, Nat.reduceLeDiff, Int.reduceLT, Int.reduceLE, Int.reduceEq, decide_true, decide_false, Int.reduceAdd, Int.reduceNeg, Int.reduceSub, Int.reduceToNat, eq_self, ne_eq, not_true_eq_false, not_false_eq_true, List.map_cons, List.map_nil, Option.getD_some, Option.getD_none, Option.isSome_some, Option.isSome_none])
open TL PySem.NumText
section
variable {P : Program} {w : World} {K : PySem.W.Frag} {mg : Str → Option Value} {base : Heap}
/-! named_at -/
theorem atI_at {α : Type} (xs : List α) {j : Int} (n : Nat) (h : j = (n : Int)) : atI xs j = xs[n]? := by rw [h, atI_nat']
theorem get_at {L v : List Nat} {a : Nat} (h : L.drop a = v) (i : Nat) : L[a + i]? = v[i]? := by rw [← h, List.getElem?_drop]
theorem sub_letC (c : Nat) : subS { cps := #[c] } (Str.ofString "abcdefghijklmnopqrstuvwxyz") = isLetter c := sub_let c
theorem sub_dmC (c : Nat) : subS { cps := #[c] } (Str.ofString "-0123456789") = isNum c := sub_dm c

theorem scan_end {z : Str} {n : Nat} {j : Int} {post : List Nat} (hd : (tl z).drop n = post) (hp : stopN post) (hj : j = (n : Int)) (hn : n ≤ z.length) (hz : z.length ≤ 500000) {Y : Prop} {X : Nat → Prop} (y : Y) :
    if decide (j < (z.length : Int)) = true then z.length ≤ 1000000 ∧ opt (atI z.cps.toList j) fun c => if subS { cps := #[c] } (Str.ofString "-0123456789") = true then X c else Y else Y := by
  have hlen := congrArg List.length hd
  rw [List.length_drop] at hlen
  have hzt := len_tl z
  rcases hp with rfl | ⟨c, r, rfl, hc⟩
  · rw [if_neg (by rw [decide_eq_true_iff]; simp only [List.length_nil] at hlen; omega)]
    exact y
  · rw [if_pos (by rw [decide_eq_true_iff]; simp only [List.length_cons] at hlen; omega)]
    refine ⟨by omega, ?_⟩
    rw [atI_at _ (n + 0) (by omega), show z.cps.toList[n + 0]? = _ from get_at hd 0, List.getElem?_cons_zero, opt_some, sub_dmC, hc, if_neg Bool.false_ne_true]
    exact y
def sp_named_at : DSp := fun ds C Q => ∃ z, ∃ a : Nat, ∃ l x post, ds = [.str z, .int (a : Int)] ∧ z.length ≤ 500000 ∧ (tl z).drop a = l ++ 32 :: (numZ x ++ post) ∧ letters (S l) ∧ 1 ≤ l.length ∧ l.length ≤ 8 ∧ x.natAbs < 10 ^ 15 ∧ stopN post ∧
  Q (.tup [.str (S l), .int x, .int ((a + (l.length + (1 + (numZ x).length)) : Nat) : Int)]) C
theorem ok_named_at (T : Txt K mg) : Fn P w K mg base 2 (fa mg "named_at") [] sp_named_at := by
  have G_is_name := ok_is_name (P := P) (w := w) (base := base) T
  have G_whole_of := ok_whole_of (P := P) (w := w) (base := base) T
  refine fn_df T.d_named_at sc_named_at (fun ds C Q h => ?_) (fun cdv A outer s H E hr => ?_)
  · (obtain ⟨_, _, _, _, _, rfl, _⟩ := h; rfl)
  have hu := hr.units
  have hu1 := hu_of hr
  have nd := sc_named_at.nd
  refine ⟨_, (ds_cons (ds_set (i := 2) nd (dv 1))
    (ds_cons (ds_while (dt_pw (dw_and (dt_cmp op_lt ops_B0 (dv 2) (de_cb call_lenA cl_len T.len bt_len (da_cons (dv 0) da_nil)) (nomark _)) (dw_and1 (dt_cmp op_inA ops_in (de_ix (dv 0) (dv 2)) (dg_str T.v_LETTERS) rfl)))) (ds_one (ds_set (i := 2) nd (de_op op_addA ops_add (dv 2) dc_int))))
    (ds_cons (ds_set (i := 3) nd (de_op op_addA ops_add (dv 2) dc_int))
    (ds_cons (ds_while (dt_pw (dw_and (dt_cmp op_lt ops_B0 (dv 3) (de_cb call_lenA cl_len T.len bt_len (da_cons (dv 0) da_nil)) (nomark _)) (dw_and1 (dt_cmp op_inA ops_in (de_ix (dv 0) (dv 3)) dc_str rfl)))) (ds_one (ds_set (i := 3) nd (de_op op_addA ops_add (dv 3) dc_int))))
    (ds_cons (ds_set (i := 4) nd (de_call G_whole_of T.d_whole_of.m (hr.mono (by omega)) (da_cons (de_sl (dv 0) (dp_some (de_op op_addA ops_add (dv 2) dc_int)) (dp_some (dv 3))) da_nil)))
    (ds_cons (ds_if (dt_pw (dw_or (dt_not (dt_val (de_call G_is_name T.d_is_name.m (hr.mono (by omega)) (da_cons (de_sl (dv 0) (dp_some (dv 1)) (dp_some (dv 2))) da_nil)))) (dw_or (dt_cmp (op_neA hu) ops_ne (de_sl (dv 0) (dp_some (dv 2)) (dp_some (de_op op_addA ops_add (dv 2) dc_int))) dc_str (nomark _)) (dw_or1 (dt_cmp op_isN ops_isN (dv 4) dc_non (nomark _)))))) (ds_one (ds_ret dc_non)) ds_nil)
    (ds_one (ds_ret (de_tup (da_cons (de_sl (dv 0) (dp_some (dv 1)) (dp_some (dv 2))) (da_cons (dv 4) (da_cons (dv 3) da_nil)))))))))))), fun ds C Q h => ?_⟩
  obtain ⟨z, a, l, x, post, rfl, hz, hd, hl, h1, h8, hx, hp, h⟩ := h
  rw [show startD N_named_at [D.str z, .int (a : Int)] = [some (.str z), some (.int (a : Int)), none, none, none] from rfl]
  walk_at "dl"
  have hlen := congrArg List.length hd
  rw [List.length_drop] at hlen
  simp only [List.length_append, List.length_cons] at hlen
  have hzt := len_tl z
  refine ⟨fun m ρ C' => C' = C ∧ ∃ i, i ≤ l.length ∧ m = l.length - i ∧ ρ = [some (.str z), some (.int (a : Int)), some (.int ((a : Int) + (i : Int))), none, none], ⟨l.length, rfl, 0, by omega, by omega, by rw [Int.natCast_zero, Int.add_zero]⟩, ?_⟩
  rintro m ρ C' ⟨rfl, i, hi, rfl, rfl⟩
  walk_at "dl"
  refine ⟨by omega, ?_⟩
  rw [if_pos (by rw [decide_eq_true_iff]; omega)]
  refine ⟨by omega, ?_⟩
  rw [atI_at _ (a + i) (by omega), show z.cps.toList[a + i]? = _ from get_at hd i]
  by_cases hi2 : i < l.length
  · obtain ⟨c, hc⟩ : ∃ c, l[i]? = some c := ⟨l[i], List.getElem?_eq_getElem hi2⟩
    rw [List.getElem?_append_left hi2, hc, opt_some, sub_letC, show isLetter c = true from hl c (List.mem_of_getElem? hc), if_pos rfl]
    exact .of ⟨l.length - (i + 1), by omega, rfl, i + 1, by omega, rfl, by rw [Int.natCast_add, Int.natCast_one, Int.add_assoc]⟩
  have hi3 : i = l.length := by omega
  subst hi3
  rw [List.getElem?_append_right (Nat.le_refl _), Nat.sub_self, List.getElem?_cons_zero, opt_some, sub_letC, show isLetter 32 = false by rw [Bool.eq_false_iff, ne_eq, letter_iff]; omega, if_neg Bool.false_ne_true]
  have hd2 : (tl z).drop (a + l.length) = 32 :: (numZ x ++ post) := drop_add hd
  have hd3 : (tl z).drop (a + l.length + 1) = numZ x ++ post := drop_add (u := [32]) hd2
  have h16 := numZ_len hx
  refine ⟨fun m ρ C => C = C' ∧ ∃ i, i ≤ (numZ x).length ∧ m = (numZ x).length - i ∧ ρ = [some (.str z), some (.int (a : Int)), some (.int ((a : Int) + (l.length : Int))), some (.int ((a : Int) + (l.length : Int) + 1 + (i : Int))), none],
    ⟨(numZ x).length, rfl, 0, by omega, by omega, by rw [Int.natCast_zero, Int.add_zero]⟩, ?_⟩
  rintro m ρ C' ⟨rfl, i, hi, rfl, rfl⟩
  walk_at "dl"
  refine ⟨by omega, ?_⟩
  by_cases hi2 : i < (numZ x).length
  · rw [if_pos (by rw [decide_eq_true_iff]; omega)]
    refine ⟨by omega, ?_⟩
    rw [atI_at _ (a + l.length + 1 + i) (by omega), show z.cps.toList[a + l.length + 1 + i]? = _ from get_at hd3 i]
    obtain ⟨c, hc⟩ : ∃ c, (numZ x)[i]? = some c := ⟨(numZ x)[i], List.getElem?_eq_getElem hi2⟩
    rw [List.getElem?_append_left hi2, hc, opt_some, sub_dmC, numZ_num x c (List.mem_of_getElem? hc), if_pos rfl]
    exact .of ⟨(numZ x).length - (i + 1), by omega, rfl, i + 1, by omega, rfl, by rw [Int.natCast_add, Int.natCast_one, ← Int.add_assoc]⟩
  have hi3 : i = (numZ x).length := by omega
  subst hi3
  refine scan_end (drop_add hd3) hp (by omega) (by omega) hz ?_
  refine ⟨by omega, ?_⟩
  rw [cutS_at hd3 (by omega) (by omega)]
  refine ⟨x, rfl, hx, ?_⟩
  walk_at "dl"
  refine ⟨by omega, ?_⟩
  rw [cutS_at hd (by omega) (by omega)]
  refine ⟨by rw [S_len]; omega, hl, ?_⟩
  rw [decide_eq_true (p := 1 ≤ (S l).length ∧ (S l).length ≤ 8) (by rw [S_len]; omega)]
  walk_at "dl"
  refine ⟨by omega, ?_⟩
  rw [cutS_one hd2 (by omega) (by omega)]
  rw [if_neg (by rw [q_sp, List.take_succ_cons, List.take_zero]; simp)]
  refine ⟨by omega, ?_⟩
  rw [show (a : Int) + (l.length : Int) + 1 + ((numZ x).length : Int) = ((a + (l.length + (1 + (numZ x).length)) : Nat) : Int) by omega]
  exact fin h
end

end K94

set_option Elab.async false
set_option linter.all false
set_option maxRecDepth 100000
set_option maxHeartbeats 1000000
namespace K94
open PySem L2 DL
local macro_rules | `(tactic| walk_at "dl") => `(tactic| simp only [dSeq, dIfS, dOr, dAnd, dNot, dTest, dCB, d1, d2, kIsi, kIsO, kLen, kStr, kIntT, kAbs, kI2, kSum, dCons, dNil, dVar, dC, slot, tyD, opt_some, kitB_ss, kitB_is, kitB_ii, kitB_ib, kitB_si, kitB_tt, kitB_ll, kitB_dd, kitB_tl, kitB_lt, kitB_ts, kitB_bb, kitB_bi,
  vw_non, vw_bl, vw_i, vw_s, vw_l, vw_t, vw_d, vw_n, vw_f, vw_v, asB, dAndV, dOrV, dNotV, dIf, dOp, dI2, dSub, dMul, dFdiv, dMod, dPow, dLt, dLe, dGt, dGe, dAdd, dRet, dRetN, dNext, dLst, dTup, dLstC, dCall, dDrop, dAsg, dName, dPar, dSets, dGTup, dIx, dSl, dPart, dNoP, dInN, dIsN, dEqN, dNeg, dFz, frz1, dFzS, dFld, dSetFld, dMth, dMake, dCallL, dChain, endsOf, dLcL, dLcS, dLcR1, dYes, dBM, mAppend, mInsert, mStarts3, mJoin, tyM, dBits, dForL, dForT, dForR1, int1, dDGet, dDIn, dDPut, dDGet2, kDict0, keyOf, kListOf, kRepr, dEqP, kMax, kMin, isN, fget, fput,
  List.set_cons_zero, List.set_cons_succ, List.length_cons, List.length_nil, Bool.not_true, Bool.not_false, List.append_nil,
  if_true, if_false, Bool.false_eq_true, Bool.true_eq_false, ite_true, ite_false, true_and, and_true, reduceIte, List.nil_append, List.cons_append, atI_0, atI_1, atI_2, atI_3, atI_m1, List.getElem?_cons_zero, List.getElem?_cons_succ, List.getLast?_cons_cons, List.getLast?_singleton, Nat.zero_add, Nat.reduceAdd, Int.cast_ofNat_Int, Int.natCast_add, Int.natCast_one, Nat.reduceLeDiff, Int.reduceLT, Int.reduceLE, Int.reduceEq, decide_true, decide_false, Int.reduceAdd, Int.reduceNeg, Int.reduceSub, Int.reduceToNat, eq_self, ne_eq, not_true_eq_false, not_false_eq_true, List.map_cons, List.map_nil, Option.getD_some, Option.getD_none, Option.isSome_some, Option.isSome_none])
open TL PySem.NumText
section
variable {P : Program} {w : World} {K : PySem.W.Frag} {mg : Str → Option Value} {base : Heap}
theorem seq_g {a b : DS} {E : DEnds} {ρ : DL.Env} {C : Cells} (h : ∀ N : DL.Env → Cells → Prop, (∀ ρ C, b E ρ C → N ρ C) → a { E with nx := N } ρ C) : dSeq a b E ρ C := h (b E) fun _ _ h => h
theorem wh_g {c : DB} {tb : DS} {E : DEnds} {ρ : DL.Env} {C : Cells} (I : Nat → DL.Env → Cells → Prop) (i0 : ∃ m, I m ρ C)
    (h : ∀ m ρ C, I m ρ C → ∀ B N : Cells → Prop, (∀ C1, tb { nx := Wk fun ρ C => ∃ m', m' < m ∧ I m' ρ C, rt := E.rt, bk := E.nx, ct := Wk fun ρ C => ∃ m', m' < m ∧ I m' ρ C } ρ C1 → B C1) → (∀ C1, E.nx ρ C1 → N C1) →
      c ρ C fun b C1 => if b = true then B C1 else N C1) : dWhile c tb E ρ C := ⟨I, i0, fun m ρ C i => h m ρ C i _ _ (fun _ h => h) fun _ h => h⟩
theorem vw_cl {C : Cells} {p : Addr} {ds : List D} : vw (cset C p (.lst ds)) (.cell p) = .lst ds := by simp [vw, cset_same]
theorem sub_del {C : Cells} {p : Addr} {c : Cell} (h : C p = none) : Sub C (cdel (cset C p c) p) := fun b d e => by
  unfold cdel cset
  have : b ≠ p := fun x => by rw [x, h] at e; cases e
  rw [if_neg this, if_neg this]
  exact e
theorem sub_letS (c : Nat) : subS (S [c]) (Str.ofString "abcdefghijklmnopqrstuvwxyz") = isLetter c := sub_let c
def sp_term_at (n : Nat) : DSp := fun ds C Q => ∃ z, ∃ a : Nat, ∃ t post, ds = [.str z, .int (a : Int)] ∧ z.length ≤ 500000 ∧ (tl z).drop a = txtL t ++ post ∧ WF t ∧ hle n t ∧ stop post ∧
  Q (.tup [toD t, .int ((a + (txtL t).length : Nat) : Int)]) C
def sp_terms_at (n : Nat) : DSp := fun ds C Q => ∃ z, ∃ a : Nat, ∃ ts post, ds = [.str z, .int (a : Int)] ∧ z.length ≤ 500000 ∧ (tl z).drop a = joinL cs (ts.map txtL) ++ 41 :: post ∧ ts ≠ [] ∧ ts.length ≤ 1000 ∧ (∀ t ∈ ts, WF t ∧ hle n t) ∧
  Q (.tup [.lst (ts.map toD), .int ((a + ((joinL cs (ts.map txtL)).length + 1) : Nat) : Int)]) C
theorem ok_terms_at (T : Txt K mg) {k n : Nat} (hn : n ≤ 20) (G_term_at : Fn P w K mg base k (fa mg "term_at") [] (sp_term_at n)) : Fn P w K mg base (k + 1) (fa mg "terms_at") [] (sp_terms_at n) := by
  refine fn_df T.d_terms_at sc_terms_at (fun ds C Q h => ?_) (fun cdv A outer s H E hr => ?_)
  · (obtain ⟨_, _, _, _, rfl, _⟩ := h; rfl)
  have hu := hr.units
  have hu1 := hu_of hr
  have nd := sc_terms_at.nd
  refine ⟨_, (ds_cons (ds_set (i := 2) nd (de_lstC da_nil))
    (ds_cons (ds_while (dt_pw (dw_or (dt_cmp (op_eqA hu) ops_eq (dv 2) (de_lst da_nil) (nomark _)) (dw_or1 (dt_cmp (op_eqA hu) ops_eq (de_sl (dv 0) (dp_some (de_op op_sub ops_I0 (dv 1) dc_int)) (dp_some (dv 1))) dc_str (nomark _))))) (ds_cons (ds_set (i := 3) nd (de_call G_term_at T.d_term_at.m (hr.mono (by omega)) (da_cons (dv 0) (da_cons (dv 1) da_nil))))
    (ds_cons (ds_if (dt_cmp op_isN ops_isN (dv 3) dc_non (nomark _)) (ds_one (ds_ret dc_non)) ds_nil)
    (ds_cons (ds_expr (de_bm PySem.F.plainAttrs_list PySem.F.slot_list_append PySem.F.type_list_append mt_append ms_append (dv 2) (da_cons (de_ix (dv 3) dc_int) da_nil)))
    (ds_cons (ds_if (dt_cmp (op_eqA hu) ops_eq (de_sl (dv 0) (dp_some (de_ix (dv 3) dc_int)) (dp_some (de_op op_addA ops_add (de_ix (dv 3) dc_int) dc_int))) dc_str (nomark _)) (ds_one (ds_ret (de_tup (da_cons (de_fz (dv 2)) (da_cons (de_op op_addA ops_add (de_ix (dv 3) dc_int) dc_int) da_nil))))) ds_nil)
    (ds_one (ds_set (i := 1) nd (de_op op_addA ops_add (de_ix (dv 3) dc_int) dc_int))))))))
    (ds_one (ds_ret dc_non)))), fun ds C Q h => ?_⟩
  obtain ⟨z, a, ts, post, rfl, hz, hd, hne, hl, hw, h⟩ := h
  rw [show startD N_terms_at [D.str z, .int (a : Int)] = [some (.str z), some (.int (a : Int)), none, none] from rfl]
  refine seq_g fun N hN => ?_
  walk_at "dl"
  intro p hp
  refine hN _ _ ?_
  refine seq_g fun N hN => ?_
  refine wh_g (fun m ρ C' => ∃ ds us, ∃ b : Nat, m = us.length ∧ us ≠ [] ∧ ts = ds ++ us ∧ C' = cset C p (.lst (ds.map toD)) ∧ (∃ o, ρ = [some (.str z), some (.int (b : Int)), some (.cell p), o]) ∧ (tl z).drop b = joinL cs (us.map txtL) ++ 41 :: post ∧
      b + (joinL cs (us.map txtL)).length = a + (joinL cs (ts.map txtL)).length ∧ (ds ≠ [] → ∃ c, b = c + 2 ∧ (tl z).drop c = cs ++ (joinL cs (us.map txtL) ++ 41 :: post))) ⟨ts.length, [], ts, a, rfl, hne, rfl, rfl, ⟨_, rfl⟩, hd, rfl, fun h => absurd rfl h⟩ ?_
  rintro m ρ C' ⟨ds, us, b, rfl, hu1, hts, rfl, ⟨o, rfl⟩, hb, hlen, hcs⟩ B N2 hB hN2
  have hbB : B (cset C p (.lst (ds.map toD))) := by
    refine hB _ ?_
    obtain ⟨t, us', rfl⟩ : ∃ t us', us = t :: us' := by
      cases us with
      | nil => exact absurd rfl hu1
      | cons t us' => exact ⟨t, us', rfl⟩
    have hwt := hw t (by rw [hts]; simp)
    have hbl := congrArg List.length hb
    rw [List.length_drop] at hbl
    have hzt := len_tl z
    obtain ⟨po, e1, hst⟩ : ∃ po, joinL cs ((t :: us').map txtL) ++ 41 :: post = txtL t ++ po ∧ ((us' = [] ∧ po = 41 :: post) ∨ (us' ≠ [] ∧ po = cs ++ (joinL cs (us'.map txtL) ++ 41 :: post))) := by
      cases us' with
      | nil => exact ⟨_, rfl, .inl ⟨rfl, rfl⟩⟩
      | cons u r => exact ⟨_, by simp only [List.map_cons, joinL, List.append_assoc], .inr ⟨by simp, rfl⟩⟩
    have hp2 : stop po := by
      rcases hst with ⟨_, rfl⟩ | ⟨_, rfl⟩
      · exact .inr ⟨_, _, rfl, .inr rfl⟩
      · exact .inr ⟨44, _, rfl, .inl rfl⟩
    have hd2 : (tl z).drop (b + (txtL t).length) = po := drop_add (hb.trans e1)
    refine seq_g fun N hN => ?_
    walk_at "dl"
    refine ⟨z, b, t, po, rfl, hz, hb.trans e1, hwt.1, hwt.2, hp2, ?_⟩
    refine hN _ _ ?_
    refine seq_g fun N hN => ?_
    walk_at "dl"
    refine hN _ _ ?_
    refine seq_g fun N hN => ?_
    walk_at "dl"
    rw [vw_cl, cset_same]
    refine ⟨trivial, by rw [List.length_map]; rw [hts, List.length_append] at hl; omega, ?_⟩
    rw [cset_cset]
    refine hN _ _ ?_
    refine seq_g fun N hN => ?_
    walk_at "dl"
    refine ⟨by omega, ?_⟩
    rw [cutS_one hd2 (by omega) (by omega)]
    rcases hst with ⟨rfl, rfl⟩ | ⟨hne', rfl⟩
    · rw [List.take_succ_cons, List.take_zero, q_rp, if_pos (by simp), cset_same]
      walk_at "dl"
      rw [show ds.map toD ++ [toD t] = ts.map toD by rw [hts, List.map_append]; rfl]
      rw [show (b : Int) + ((txtL t).length : Int) + 1 = ((a + ((joinL cs (ts.map txtL)).length + 1) : Nat) : Int) by
        have : (joinL cs ([t].map txtL)).length = (txtL t).length := rfl
        omega]
      exact fin_sub h (sub_del hp)
    · rw [if_neg (by rw [q_rp]; simp [S_inj, cs])]
      refine hN _ _ ?_
      walk_at "dl"
      have e3 : (joinL cs ((t :: us').map txtL)).length = (txtL t).length + (2 + (joinL cs (us'.map txtL)).length) := by
        have := congrArg List.length e1
        simp only [List.length_append, List.length_cons, show cs.length = 2 from rfl] at this
        omega
      refine .of ⟨us'.length, by simp, ds ++ [t], us', b + (txtL t).length + 2, rfl, hne', by rw [hts, List.append_assoc]; rfl, by rw [List.map_append]; rfl, ⟨_, by simp only [Int.natCast_add]; rfl⟩, drop_add (u := cs) hd2, by omega, fun _ => ⟨_, rfl, hd2⟩⟩
  walk_at "dl"
  rw [vw_cl, eqD_nil]
  refine ⟨ok_tms hn fun t ht => hw t (by rw [hts]; simp [ht]), okD_nil, ?_⟩
  cases ds with
  | nil => exact hbB
  | cons d ds =>
    rw [if_neg (by simp)]
    obtain ⟨c, rfl, hc⟩ := hcs (by simp)
    refine ⟨by omega, ?_⟩
    rw [cutS_at hc (by omega) (by rw [Int.natCast_add]; rfl), q_cs, if_pos (by simp [cs])]
    exact hbB
theorem txt_word {t : Tm} (hw : WF t) (h : ∀ ts, t ≠ .nd .first ts ∧ t ≠ .nd .last ts) (post : List Nat) : ∃ m r, txtL t ++ post = m ++ 32 :: r ∧ ∀ c ∈ m, c ≠ 40 := by
  cases t with
  | pt b n wt =>
    simp only [WF] at hw
    cases b with
    | true => exact ⟨[110, 111, 119], tl n ++ 32 :: (numZ wt ++ post), by simp [txtL, nowL], by decide⟩
    | false => exact ⟨tl n, numZ wt ++ post, by simp [txtL, nowL], fun c hc e => by
        have := (letter_iff c).mp (hw.1 c hc)
        omega⟩
  | nd kd ts =>
    cases kd with
    | first => exact absurd rfl (h ts).1
    | last => exact absurd rfl (h ts).2
    | rank k => exact ⟨[114, 97, 110, 107], numZ k ++ (40 :: (joinL cs (txtsL ts) ++ [41] ++ post)), by simp [txtL, kdL], by decide⟩
theorem txtL_pos (t : Tm) : 1 ≤ (txtL t).length := by
  cases t with
  | pt b n wt => simp only [txtL, List.length_append, List.length_cons]; omega
  | nd kd ts => simp only [txtL, List.length_append, List.length_cons]; omega
theorem fin_at {Q : DK} {C : Cells} {x : D} {j : Int} {m : Nat} (h : Q (.tup [x, .int (m : Int)]) C) (e : j = (m : Int)) : ∃ C'', Gh C C'' ∧ Q (.tup [x, .int j]) C'' := ⟨C, Gh.refl C, e ▸ h⟩
theorem no_first {t : Tm} (hw : WF t) (h : ∀ ts, t ≠ .nd .first ts ∧ t ≠ .nd .last ts) (post : List Nat) {p : List Nat} (hp : ∀ c ∈ p, c ≠ 32) : ¬ ((txtL t ++ post).take (p ++ [40]).length = p ++ [40]) := by
  obtain ⟨m, r, e, hm⟩ := txt_word hw h post
  rw [e]
  exact no_par (r' := r) hp hm
theorem ok_term_at1 (T : Txt K mg) {k n : Nat} {q : DSp} (hn : n ≤ 20) (G_terms_at : Fn P w K mg base k (fa mg "terms_at") [] q) (hk : 2 ≤ k)
    (hq : ∀ z (a : Nat) ts post C Q, z.length ≤ 500000 → (tl z).drop a = joinL cs (ts.map txtL) ++ 41 :: post → ts ≠ [] → ts.length ≤ 1000 → (∀ t ∈ ts, WF t ∧ 1 ≤ n ∧ hle (n - 1) t) → Q (.tup [.lst (ts.map toD), .int ((a + ((joinL cs (ts.map txtL)).length + 1) : Nat) : Int)]) C → q [.str z, .int (a : Int)] C Q) :
    Fn P w K mg base (k + 1) (fa mg "term_at") [] (sp_term_at n) := by
  have G_named_at := ok_named_at (P := P) (w := w) (base := base) T
  refine fn_df T.d_term_at sc_term_at (fun ds C Q h => ?_) (fun cdv A outer s H E hr => ?_)
  · (obtain ⟨_, _, _, _, rfl, _⟩ := h; rfl)
  have hu := hr.units
  have hu1 := hu_of hr
  have nd := sc_term_at.nd
  refine ⟨_, (ds_cons (ds_forT rfl (de_tup (da_cons dc_str (da_cons dc_str da_nil))) (dg_name (i := 2) nd) (ds_one (ds_if (dt_val (de_bm PySem.F.plainAttrs_str PySem.F.slot_str_startswith PySem.F.type_str_startswith mt_startswith3 ms_starts3 (dv 0) (da_cons (de_op op_addA ops_add (dv 2) dc_str) (da_cons (dv 1) da_nil)))) (ds_cons (ds_set (i := 3) nd (de_call G_terms_at T.d_terms_at.m (hr.mono (by omega)) (da_cons (dv 0) (da_cons (de_op op_addA ops_add (de_op op_addA ops_add (dv 1) (de_cb call_lenA cl_len T.len bt_len (da_cons (dv 2) da_nil))) dc_int) da_nil))))
    (ds_one (ds_ret (de_if (dt_cmp op_isN ops_isN (dv 3) dc_non (nomark _)) dc_non (de_tup (da_cons (de_tup (da_cons (dv 2) (da_cons (de_ix (dv 3) dc_int) da_nil))) (da_cons (de_ix (dv 3) dc_int) da_nil))))))) ds_nil)))
    (ds_cons (ds_if (dt_pw (dw_and (dt_val (de_bm PySem.F.plainAttrs_str PySem.F.slot_str_startswith PySem.F.type_str_startswith mt_startswith3 ms_starts3 (dv 0) (da_cons dc_str (da_cons (dv 1) da_nil)))) (dw_and1 (dt_cmp op_inA ops_in (de_sl (dv 0) (dp_some (de_op op_addA ops_add (dv 1) dc_int)) (dp_some (de_op op_addA ops_add (dv 1) dc_int))) (dg_str T.v_LETTERS) rfl)))) (ds_cons (ds_set (i := 4) nd (de_call G_named_at T.d_named_at.m (hr.mono (by omega)) (da_cons (dv 0) (da_cons (de_op op_addA ops_add (dv 1) dc_int) da_nil))))
    (ds_one (ds_ret (de_if (dt_cmp op_isN ops_isN (dv 4) dc_non (nomark _)) dc_non (de_tup (da_cons (de_tup (da_cons dc_str (da_cons (de_ix (dv 4) dc_int) (da_cons (de_ix (dv 4) dc_int) da_nil)))) (da_cons (de_ix (dv 4) dc_int) da_nil))))))) ds_nil)
    (ds_cons (ds_set (i := 4) nd (de_call G_named_at T.d_named_at.m (hr.mono (by omega)) (da_cons (dv 0) (da_cons (dv 1) da_nil))))
    (ds_cons (ds_if (dt_pw (dw_or (dt_cmp op_isN ops_isN (dv 4) dc_non (nomark _)) (dw_or (dt_cmp (op_neA hu) ops_ne (de_ix (dv 4) dc_int) dc_str (nomark _)) (dw_or1 (dt_cmp (op_neA hu) ops_ne (de_sl (dv 0) (dp_some (de_ix (dv 4) dc_int)) (dp_some (de_op op_addA ops_add (de_ix (dv 4) dc_int) dc_int))) dc_str (nomark _)))))) (ds_one (ds_ret (de_if (dt_cmp op_isN ops_isN (dv 4) dc_non (nomark _)) dc_non (de_tup (da_cons (de_tup (da_cons dc_str (da_cons (de_ix (dv 4) dc_int) (da_cons (de_ix (dv 4) dc_int) da_nil)))) (da_cons (de_ix (dv 4) dc_int) da_nil)))))) ds_nil)
    (ds_cons (ds_set (i := 3) nd (de_call G_terms_at T.d_terms_at.m (hr.mono (by omega)) (da_cons (dv 0) (da_cons (de_op op_addA ops_add (de_ix (dv 4) dc_int) dc_int) da_nil))))
    (ds_cons (ds_if (dt_pw (dw_or (dt_cmp op_isN ops_isN (dv 3) dc_non (nomark _)) (dw_or (dt_cmp op_lt ops_B0 (de_ix (dv 4) dc_int) dc_int (nomark _)) (dw_or1 (dt_cmp op_gt ops_B0 (de_ix (dv 4) dc_int) (de_cb call_lenA cl_len T.len bt_len (da_cons (de_ix (dv 3) dc_int) da_nil)) (nomark _)))))) (ds_one (ds_ret dc_non)) ds_nil)
    (ds_one (ds_ret (de_tup (da_cons (de_tup (da_cons dc_str (da_cons (de_ix (dv 4) dc_int) (da_cons (de_ix (dv 3) dc_int) da_nil)))) (da_cons (de_ix (dv 3) dc_int) da_nil))))))))))), fun ds C Q h => ?_⟩
  obtain ⟨z, a, t, post, rfl, hz, hd, hw, hh, hs, h⟩ := h
  rw [show startD N_term_at [D.str z, .int (a : Int)] = [some (.str z), some (.int (a : Int)), none, none, none] from rfl]
  have hdl := congrArg List.length hd
  rw [List.length_drop, List.length_append] at hdl
  have hzt := len_tl z
  have h1l := txtL_pos t
  have ha : a ≤ (tl z).length := by omega
  refine seq_g fun N hN => ?_
  walk_at "dl"
  have skip : (∀ ts, t ≠ .nd .first ts ∧ t ≠ .nd .last ts) → (∀ o, N [some (.str z), some (.int (a : Int)), o, none, none] C) → loopN [D.str (Str.ofString "first"), D.str (Str.ofString "last")] (dName 2)
    (dIfS
      (dTest
        (dBM "str" mStarts3 (dVar 0) (dCons (dOp dAdd (dVar 2) (dC (D.str (Str.ofString "(")))) (dCons (dVar 1) dNil))))
      (dSeq
        (dAsg
          (dCall q []
            (dCons (dVar 0)
              (dCons (dOp dAdd (dOp dAdd (dVar 1) (dCB (d1 kLen) (dCons (dVar 2) dNil))) (dC (D.int 1))) dNil)))
          (dName 3))
        (dRet
          (dIf (dTest (dOp (dIsN false) (dVar 3) (dC D.non))) (dC D.non)
            (dTup
              (dCons (dTup (dCons (dVar 2) (dCons (dOp dIx (dVar 3) (dC (D.int 0))) dNil)))
                (dCons (dOp dIx (dVar 3) (dC (D.int 1))) dNil))))))
      dNext)
    { nx := N, rt := fun d C' => ∃ C'', Gh C' C'' ∧ Q d C'' } [some (D.str z), some (D.int (a : Int)), none, none, none] C := by
    intro hnl hN2
    refine ⟨fun i ρ C' => C' = C ∧ ∃ o, ρ = [some (.str z), some (.int (a : Int)), o, none, none], ⟨rfl, _, rfl⟩, ?_, ?_⟩
    · rintro i d ρ C' e ⟨rfl, o, rfl⟩
      match i, e with
      | 0, e =>
        cases e
        walk_at "dl"
        rw [q_first, q_lp, S_app, starts_at hd ha rfl, if_neg (by rw [decide_eq_true_iff]; exact no_first hw hnl post (p := [102, 105, 114, 115, 116]) (by decide))]
        exact ⟨by decide, .of ⟨rfl, _, rfl⟩⟩
      | 1, e =>
        cases e
        walk_at "dl"
        rw [q_last, q_lp, S_app, starts_at hd ha rfl, if_neg (by rw [decide_eq_true_iff]; exact no_first hw hnl post (p := [108, 97, 115, 116]) (by decide))]
        exact ⟨by decide, .of ⟨rfl, _, rfl⟩⟩
      | i + 2, e => simp at e
    · rintro ρ C' ⟨rfl, o, rfl⟩
      exact hN2 o
  cases t with
  | nd kd ts =>
    simp only [WF] at hw
    have hts : ∀ t ∈ ts, WF t ∧ 1 ≤ n ∧ hle (n - 1) t := fun t ht => by
      cases n with
      | zero => simp [hle] at hh
      | succ m => simp only [hle] at hh; exact ⟨WFs_all hw.2.2.2 t ht, by omega, hh t ht⟩
    simp only [toD, toDs_map] at h
    simp only [txtL, txtsL_map] at hd hdl h
    cases kd with
    | first =>
      clear skip
      simp only [ndD, kdL] at hd hdl h
      refine ⟨fun i ρ C' => i = 0 ∧ C' = C ∧ ρ = [some (.str z), some (.int (a : Int)), none, none, none], ⟨rfl, rfl, rfl⟩, ?_, fun ρ C' p => absurd p.1 (by decide)⟩
      rintro i d ρ C' e ⟨rfl, rfl, rfl⟩
      cases e
      walk_at "dl"
      rw [q_first] at h ⊢
      rw [q_lp, S_app, starts_at hd ha rfl, if_pos (by rw [decide_eq_true_iff]; rfl)]
      refine ⟨by decide, by decide, ?_⟩
      rw [show (a : Int) + ((S [102, 105, 114, 115, 116]).length : Int) + 1 = ((a + 6 : Nat) : Int) by rw [S_len]; simp only [List.length_cons, List.length_nil]; omega]
      refine hq z (a + 6) ts post _ _ hz (drop_add (u := [102, 105, 114, 115, 116, 40]) (hd.trans (by simp))) hw.1 hw.2.1 hts ?_
      walk_at "dl"
      refine fin_at h ?_
      simp only [List.length_append, List.length_cons, List.length_nil]
      omega
    | last =>
      clear skip
      simp only [ndD, kdL] at hd hdl h
      refine ⟨fun i ρ C' => i ≤ 1 ∧ C' = C ∧ ∃ o, ρ = [some (.str z), some (.int (a : Int)), o, none, none], ⟨by omega, rfl, _, rfl⟩, ?_, fun ρ C' p => absurd p.1 (by decide)⟩
      rintro i d ρ C' e ⟨hi, rfl, o, rfl⟩
      by_cases i0 : i = 0
      · subst i0
        cases e
        walk_at "dl"
        rw [q_first, q_lp, S_app, starts_at hd ha rfl, if_neg (by rw [decide_eq_true_iff]; simp)]
        exact ⟨by decide, .of ⟨rfl, _, rfl⟩⟩
      have i1 : i = 1 := by omega
      subst i1
      cases e
      walk_at "dl"
      rw [q_last] at h ⊢
      rw [q_lp, S_app, starts_at hd ha rfl, if_pos (by rw [decide_eq_true_iff]; rfl)]
      refine ⟨by decide, by decide, ?_⟩
      rw [show (a : Int) + ((S [108, 97, 115, 116]).length : Int) + 1 = ((a + 5 : Nat) : Int) by rw [S_len]; simp only [List.length_cons, List.length_nil]; omega]
      refine hq z (a + 5) ts post _ _ hz (drop_add (u := [108, 97, 115, 116, 40]) (hd.trans (by simp))) hw.1 hw.2.1 hts ?_
      walk_at "dl"
      refine fin_at h ?_
      simp only [List.length_append, List.length_cons, List.length_nil]
      omega
    | rank k =>
      refine skip (fun ts => ⟨by simp, by simp⟩) fun o => hN _ _ ?_
      clear skip hN
      have hk1 : 1 ≤ k ∧ k ≤ (ts.length : Int) := hw.2.2.1
      simp only [ndD, kdL] at hd hdl h
      have hd' : (tl z).drop a = [114, 97, 110, 107] ++ 32 :: (numZ k ++ (40 :: (joinL cs (ts.map txtL) ++ 41 :: post))) := hd.trans (by simp)
      have hd2 : (tl z).drop (a + (4 + (1 + (numZ k).length))) = 40 :: (joinL cs (ts.map txtL) ++ 41 :: post) := by
        have e := drop_add (u := [114, 97, 110, 107, 32] ++ numZ k) (v := 40 :: (joinL cs (ts.map txtL) ++ 41 :: post)) (hd'.trans (by simp))
        rw [← e]
        congr 1
        simp only [List.length_append, List.length_cons, List.length_nil]
        omega
      have hd3 : (tl z).drop (a + (4 + (1 + (numZ k).length)) + 1) = joinL cs (ts.map txtL) ++ 41 :: post := drop_add (u := [40]) hd2
      refine seq_g fun N hN => ?_
      walk_at "dl"
      rw [q_nows, starts_at hd ha rfl, if_neg (by rw [decide_eq_true_iff]; simp)]
      refine hN _ _ ?_
      clear hN
      refine seq_g fun N hN => ?_
      walk_at "dl"
      refine ⟨z, a, [114, 97, 110, 107], k, _, rfl, hz, hd', by intro c hc; rw [letter_iff]; have hc : c ∈ [114, 97, 110, 107] := hc; simp only [List.mem_cons, List.not_mem_nil, or_false] at hc; omega, by simp, by simp, by omega, .inr ⟨40, _, rfl, rfl⟩, hN _ _ ?_⟩
      clear hN
      refine seq_g fun N hN => ?_
      walk_at "dl"
      rw [if_neg (by rw [q_rank]; simp)]
      refine ⟨by omega, ?_⟩
      rw [cutS_one hd2 (by omega) (by omega), if_neg (by rw [q_lp]; simp)]
      refine hN _ _ ?_
      clear hN
      refine seq_g fun N hN => ?_
      walk_at "dl"
      rw [show (a : Int) + (4 + (1 + ((numZ k).length : Int))) + 1 = ((a + (4 + (1 + (numZ k).length)) + 1 : Nat) : Int) by omega]
      refine hq z _ ts post _ _ hz hd3 hw.1 hw.2.1 hts (hN _ _ ?_)
      clear hN
      refine seq_g fun N hN => ?_
      walk_at "dl"
      rw [if_neg (by rw [decide_eq_true_iff]; omega), if_neg (by rw [decide_eq_true_iff, List.length_map]; omega)]
      refine hN _ _ ?_
      clear hN
      walk_at "dl"
      refine fin_at h ?_
      simp only [List.length_append, List.length_cons, List.length_nil]
      omega
  | pt b nm wt =>
    refine skip (fun ts => ⟨by simp, by simp⟩) fun o => hN _ _ ?_
    clear skip hN
    simp only [WF] at hw
    obtain ⟨l, rfl⟩ : ∃ l, nm = S l := ⟨tl nm, (S_tl nm).symm⟩
    have hl1 := hw.2.1
    have hl8 := hw.2.2.1
    rw [S_len] at hl1 hl8
    cases b with
    | true =>
      simp only [toD, w_now] at h
      simp only [txtL, nowL, if_true, tl_S] at hd hdl h
      have hd2 : (tl z).drop (a + 4) = l ++ 32 :: (numZ wt ++ post) := drop_add (u := [110, 111, 119, 32]) (hd.trans (by simp))
      refine seq_g fun N hN => ?_
      walk_at "dl"
      rw [q_nows, starts_at hd ha rfl, if_pos (by rw [decide_eq_true_iff]; rfl)]
      refine ⟨by omega, ?_⟩
      rw [cutS_one hd2 (by omega) (by omega)]
      obtain ⟨c, l', rfl⟩ : ∃ c l', l = c :: l' := by
        cases l with
        | nil => simp at hl1
        | cons c l' => exact ⟨c, l', rfl⟩
      rw [List.cons_append, List.take_succ_cons, List.take_zero, sub_letS, if_pos (hw.1 c (by show c ∈ c :: l'; simp))]
      rw [show (a : Int) + 4 = ((a + 4 : Nat) : Int) by omega]
      refine ⟨z, a + 4, c :: l', wt, post, rfl, hz, hd2, hw.1, hl1, hl8, hw.2.2.2, hs.n, ?_⟩
      walk_at "dl"
      refine fin_at h ?_
      simp only [List.length_append, List.length_cons, List.length_nil]
      omega
    | false =>
      simp only [toD, w_of] at h
      simp only [txtL, nowL, Bool.false_eq_true, if_false, tl_S, List.nil_append] at hd hdl h
      have hd' : (tl z).drop a = l ++ 32 :: (numZ wt ++ post) := hd.trans (by simp)
      have hd2 : (tl z).drop (a + (l.length + (1 + (numZ wt).length))) = post := by
        have e := drop_add hd
        rw [← e]
        congr 1
        simp only [List.length_append, List.length_cons, List.length_nil]
        omega
      refine seq_g fun N hN => ?_
      walk_at "dl"
      rw [q_nows, starts_at hd' ha rfl]
      have go : N [some (.str z), some (.int (a : Int)), o, none, none] C := by
        refine hN _ _ ?_
        clear hN
        refine seq_g fun N hN => ?_
        walk_at "dl"
        refine ⟨z, a, l, wt, post, rfl, hz, hd', hw.1, hl1, hl8, hw.2.2.2, hs.n, hN _ _ ?_⟩
        clear hN
        refine seq_g fun N hN => ?_
        walk_at "dl"
        have fi : ∃ C'', Gh C C'' ∧ Q (.tup [.tup [.str (Str.ofString "of"), .str (S l), .int wt], .int ((a : Int) + ((l.length : Int) + (1 + ((numZ wt).length : Int))))]) C'' := by
          refine fin_at h ?_
          simp only [List.length_append, List.length_cons, List.length_nil]
          omega
        by_cases hr : (!decide (S l = Str.ofString "rank")) = true
        · rw [if_pos hr]
          exact fi
        · rw [if_neg hr]
          refine ⟨by omega, ?_⟩
          rw [cutS_one hd2 (by omega) (by omega), if_pos (by rw [q_lp, decide_eq_false hs.take]; rfl)]
          exact fi
      by_cases hnow : (l ++ 32 :: (numZ wt ++ post)).take [110, 111, 119, 32].length = [110, 111, 119, 32]
      · have e := word_sp (p := [110, 111, 119]) (r' := []) (by decide) (fun c hc e => by
          have := (letter_iff c).mp (hw.1 c hc)
          omega) hnow
        subst e
        rw [if_pos (by rw [decide_eq_true_iff]; exact hnow)]
        have hd3 : (tl z).drop (a + 4) = numZ wt ++ post := drop_add (u := [110, 111, 119, 32]) (hd'.trans (by simp))
        refine ⟨by omega, ?_⟩
        rw [cutS_one hd3 (by omega) (by omega)]
        obtain ⟨c, l', e⟩ : ∃ c l', numZ wt = c :: l' := by
          cases e : numZ wt with
          | nil => exact absurd e (numZ_ne wt)
          | cons c l' => exact ⟨c, l', rfl⟩
        have hc := numZ_num wt c (by rw [e]; simp)
        unfold isNum at hc
        rw [decide_eq_true_iff] at hc
        rw [e, List.cons_append, List.take_succ_cons, List.take_zero, sub_letS, if_neg (by rw [letter_iff]; omega)]
        exact go
      · rw [if_neg (by rw [decide_eq_true_iff]; exact hnow)]
        exact go
/-- both, by the depth -/
theorem ok_parse (T : Txt K mg) : ∀ n, n ≤ 20 → Fn P w K mg base (2 * n + 3) (fa mg "term_at") [] (sp_term_at n) ∧ Fn P w K mg base (2 * n + 4) (fa mg "terms_at") [] (sp_terms_at n)
  | 0, h => by
    have a := ok_term_at1 (P := P) (w := w) (base := base) (n := 0) (q := fun _ _ _ => False) T h ((fn_zero T.d_terms_at.z fun _ _ _ h => h).mono (by omega : 0 ≤ 2)) (Nat.le_refl 2) fun z a ts post C Q _ _ hne _ ht _ => by
      cases ts with
      | nil => exact hne rfl
      | cons t r => have := (ht t (by simp)).2.1; omega
    exact ⟨a, ok_terms_at T h a⟩
  | n + 1, h => by
    have ih := (ok_parse T n (by omega)).2
    have a := ok_term_at1 (P := P) (w := w) (base := base) (n := n + 1) T h ih (by omega) fun z a ts post C Q hz hd hne hl ht q => ⟨z, a, ts, post, rfl, hz, hd, hne, hl, fun t h => ⟨(ht t h).1, (ht t h).2.2⟩, q⟩
    exact ⟨a, ok_terms_at T h a⟩
/-! rule_in, read_rule -/
def sp_rule_in (mg : Str → Option Value) : DSp := fun ds C Q => ∃ t, ds = [.str (txt t)] ∧ WF t ∧ hle 3 t ∧ (txtL t).length ≤ 100000 ∧ Q (ruleD mg t) C
theorem ok_rule_in (T : Txt K mg) : Fn P w K mg base 11 (fa mg "rule_in") [] (sp_rule_in mg) := by
  have G_term_at := (ok_parse (P := P) (w := w) (base := base) T 3 (by omega)).1
  have G_Rule___init__ := ok_init (P := P) (w := w) (base := base) T
  refine fn_df T.d_rule_in sc_rule_in (fun ds C Q h => ?_) (fun cdv A outer s H E hr => ?_)
  · (obtain ⟨_, rfl, _⟩ := h; rfl)
  have hu := hr.units
  have hu1 := hu_of hr
  have nd := sc_rule_in.nd
  refine ⟨_, (ds_cons (ds_set (i := 1) nd (de_call G_term_at T.d_term_at.m (hr.mono (by omega)) (da_cons (dv 0) (da_cons dc_int da_nil))))
    (ds_one (ds_ret (de_if (dt_pw (dw_or (dt_cmp op_isN ops_isN (dv 1) dc_non (nomark _)) (dw_or1 (dt_cmp (op_neA hu) ops_ne (de_ix (dv 1) dc_int) (de_cb call_lenA cl_len T.len bt_len (da_cons (dv 0) da_nil)) (nomark _))))) dc_non (de_fz (de_make T.k_Rule G_Rule___init__ T.m_Rule (hr.mono (by omega)) (da_cons (de_ix (dv 1) dc_int) da_nil))))))), fun ds C Q h => ?_⟩
  obtain ⟨t, rfl, hw, hh, hl, h⟩ := h
  rw [show startD N_rule_in [.str (txt t)] = [some (.str (txt t)), none] from rfl]
  refine seq_g fun N hN => ?_
  walk_at "dl"
  refine ⟨txt t, 0, t, [], rfl, by show (S (txtL t)).length ≤ _; rw [S_len]; omega, by rw [List.drop_zero, List.append_nil]; rfl, hw, hh, .inl rfl, hN _ _ ?_⟩
  clear hN
  walk_at "dl"
  rw [show (txt t).length = (txtL t).length from S_len _]
  refine ⟨by omega, ?_⟩
  rw [if_neg (by simp)]
  intro b hb
  refine ⟨b, t, rfl, cset_same, hw, hh, ?_⟩
  simp only [cset_cset, cset_same]
  exact ⟨trivial, fin_sub h (sub_del hb)⟩
def sp_read_by (mg : Str → Option Value) : DSp := fun ds C Q => ∃ t, ds = [.val (.ref (fa mg "rule_in")), .str (txt t)] ∧ WF t ∧ hle 3 t ∧ (txtL t).length ≤ 100000 ∧ Q (ruleD mg t) C
theorem ok_read_by (T : Txt K mg) : Fn P w K mg base 12 (fa mg "read_by") [] (sp_read_by mg) := by
  have G_inner := ok_rule_in (P := P) (w := w) (base := base) T
  refine fn_df T.d_read_by sc_read_by (fun ds C Q h => ?_) (fun cdv A outer s H E hr => ?_)
  · (obtain ⟨_, rfl, _⟩ := h; rfl)
  have hu := hr.units
  have hu1 := hu_of hr
  have nd := sc_read_by.nd
  refine ⟨_, (ds_cons (ds_set (i := 2) nd dc_non)
    (ds_cons (ds_if (dt_val (de_cb call_isi (cl_isi (n := "str")) T.isinstance bt_isinstance (da_cons (dv 1) (da_cons (dg_ty T.str bt_str) da_nil)))) (ds_one (ds_try (ds_one (ds_set (i := 2) nd (de_callL (i := 0) G_inner (hr.mono (by omega)) (da_cons (dv 1) da_nil)))))) ds_nil)
    (ds_cons (ds_if (dt_cmp op_isN ops_isN (dv 2) dc_non (nomark _)) (ds_one ds_never) ds_nil)
    (ds_one (ds_ret (dv 2)))))), fun ds C Q h => ?_⟩
  obtain ⟨t, rfl, hw, hh, hl, h⟩ := h
  rw [show startD N_read_by [.val (.ref (fa mg "rule_in")), .str (txt t)] = [some (.val (.ref (fa mg "rule_in"))), some (.str (txt t)), none] from rfl]
  walk_at "dl"
  refine ⟨t, rfl, hw, hh, hl, ?_⟩
  simp only [ruleD]
  walk_at "dl"
  exact fin h
def sp_read_rule (mg : Str → Option Value) : DSp := fun ds C Q => ∃ t, ds = [.str (txt t)] ∧ WF t ∧ hle 3 t ∧ (txtL t).length ≤ 100000 ∧ Q (ruleD mg t) C
theorem ok_read_rule (T : Txt K mg) : Fn P w K mg base 13 (fa mg "read_rule") [] (sp_read_rule mg) := by
  have G_read_by := ok_read_by (P := P) (w := w) (base := base) T
  refine fn_df T.d_read_rule sc_read_rule (fun ds C Q h => ?_) (fun cdv A outer s H E hr => ?_)
  · (obtain ⟨_, rfl, _⟩ := h; rfl)
  have hu := hr.units
  have hu1 := hu_of hr
  have nd := sc_read_rule.nd
  refine ⟨_, (ds_one (ds_ret (de_call G_read_by T.d_read_by.m (hr.mono (by omega)) (da_cons (dg_ref T.d_rule_in.m) (da_cons (dv 0) da_nil))))), fun ds C Q h => ?_⟩
  obtain ⟨t, rfl, hw, hh, hl, h⟩ := h
  rw [show startD N_read_rule [.str (txt t)] = [some (.str (txt t))] from rfl]
  walk_at "dl"
  exact ⟨t, rfl, hw, hh, hl, fin h⟩
end

end K94

set_option Elab.async false
set_option linter.all false
set_option maxRecDepth 100000
set_option maxHeartbeats 1000000
namespace K94
open PySem L2 DL
local macro_rules | `(tactic| walk_at "dl") => `(tactic| simp only [dSeq, dIfS, dOr, dAnd, dNot, dTest, dCB, d1, d2, kIsi, kIsO, kLen, kStr, kIntT, kAbs, kI2, kSum, dCons, dNil, dVar, dC, slot, tyD, opt_some, kitB_ss, kitB_is, kitB_ii, kitB_ib, kitB_si, kitB_tt, kitB_ll, kitB_dd, kitB_tl, kitB_lt, kitB_ts, kitB_bb, kitB_bi,
  vw_non, vw_bl, vw_i, vw_s, vw_l, vw_t, vw_d, vw_n, vw_f, vw_v, asB, dAndV, dOrV, dNotV, dIf, dOp, dI2, dSub, dMul, dFdiv, dMod, dPow, dLt, dLe, dGt, dGe, dAdd, dRet, dRetN, dNext, dLst, dTup, dLstC, dCall, dDrop, dAsg, dName, dPar, dSets, dGTup, dIx, dSl, dPart, dNoP, dInN, dIsN, dEqN, dNeg, dFz, frz1, dFzS, dFld, dSetFld, dMth, dMake, dCallL, dChain, endsOf, dLcL, dLcS, dLcR1, dYes, dBM, mAppend, mInsert, mStarts3, mJoin, tyM, dBits, dForL, dForT, dForR1, int1, dDGet, dDIn, dDPut, dDGet2, kDict0, keyOf, kListOf, kRepr, dEqP, kMax, kMin, isN, fget, fput,
  List.set_cons_zero, List.set_cons_succ, List.length_cons, List.length_nil, Bool.not_true, Bool.not_false, List.append_nil,
  if_true, if_false, Bool.false_eq_true, Bool.true_eq_false, ite_true, ite_false, true_and, and_true, reduceIte, List.nil_append, List.cons_append, atI_0, atI_1, atI_2, atI_3, atI_m1, List.getElem?_cons_zero, List.getElem?_cons_succ, List.getLast?_cons_cons, List.getLast?_singleton, Nat.zero_add, Nat.reduceAdd, Int.cast_ofNat_Int, Int.natCast_add, Int.natCast_one, Nat.reduceLeDiff, Int.reduceLT, Int.reduceLE, Int.reduceEq, decide_true, decide_false, Int.reduceAdd, Int.reduceNeg, Int.reduceSub, Int.reduceToNat, eq_self, ne_eq, not_true_eq_false, not_false_eq_true, List.map_cons, List.map_nil, Option.getD_some, Option.getD_none, Option.isSome_some, Option.isSome_none])
open TL PySem.NumText
section
variable {P : Program} {w : World} {K : PySem.W.Frag} {mg : Str → Option Value} {base : Heap}
/-! _law_number_text, _law_term_text -/
theorem dig_at : ∀ d : Nat, d < 10 → (Str.ofString "0123456789").cps.toList[d]? = some (48 + d) := by
  intro d hd
  rw [show (Str.ofString "0123456789").cps.toList = _ from q_dg]
  match d, hd with
  | 0, _ => rfl
  | 1, _ => rfl
  | 2, _ => rfl
  | 3, _ => rfl
  | 4, _ => rfl
  | 5, _ => rfl
  | 6, _ => rfl
  | 7, _ => rfl
  | 8, _ => rfl
  | 9, _ => rfl
def sp__law_number_text : DSp := fun ds C Q => ∃ x, ds = [.int x] ∧ x.natAbs < 10 ^ 15 ∧ Q (.str (S (numZ x))) C
theorem ok__law_number_text (T : Txt K mg) : Fn P w K mg base 1 (fa mg "_law_number_text") [] sp__law_number_text := by
  refine fn_df T.d__law_number_text sc__law_number_text (fun ds C Q h => ?_) (fun cdv A outer s H E hr => ?_)
  · (obtain ⟨_, rfl, _⟩ := h; rfl)
  have hu := hr.units
  have hu1 := hu_of hr
  have nd := sc__law_number_text.nd
  refine ⟨_, (ds_cons (ds_par (i := 1) (j := 2) rfl nd (da_cons dc_str (da_cons (de_cb call_abs cl_abs T.abs bt_abs (da_cons (dv 0) da_nil)) da_nil)))
    (ds_cons (ds_while (dt_pw (dw_or (dt_cmp op_gt ops_B0 (dv 2) dc_int (nomark _)) (dw_or1 (dt_cmp (op_eqA hu) ops_eq (dv 1) dc_str (nomark _))))) (ds_one (ds_par (i := 1) (j := 2) rfl nd (da_cons (de_op op_addA ops_add (de_ix dc_str (de_op op_mod ops_I (dv 2) dc_int)) (dv 1)) (da_cons (de_op op_fdivW ops_I (dv 2) dc_int) da_nil)))))
    (ds_one (ds_ret (de_if (dt_cmp op_lt ops_B0 (dv 0) dc_int (nomark _)) (de_op op_addA ops_add dc_str (dv 1)) (dv 1)))))), fun ds C Q h => ?_⟩
  obtain ⟨x, rfl, hx, h⟩ := h
  rw [show startD N__law_number_text [.int x] = [some (.int x), none, none] from rfl]
  refine seq_g fun N hN => ?_
  walk_at "dl"
  refine hN _ _ ?_
  clear hN
  refine seq_g fun N hN => ?_
  rw [show (if x < 0 then -x else x) = ((x.natAbs : Nat) : Int) by omega]
  refine wh_g (fun m ρ C' => C' = C ∧ ∃ l : List Nat, ∃ n : Nat, m = n + (if l = [] then 1 else 0) ∧ l.length ≤ 100 ∧ ρ = [some (.int x), some (.str (S l)), some (.int (n : Int))] ∧ ((l = [] ∧ n = x.natAbs) ∨ (l ≠ [] ∧ numL x.natAbs = (if n = 0 then [] else numL n) ++ l)))
    ⟨x.natAbs + 1, rfl, [], x.natAbs, rfl, by simp, rfl, .inl ⟨rfl, rfl⟩⟩ ?_
  rintro m ρ C' ⟨rfl, l, n, rfl, hl, rfl, hln⟩ B N2 hB hN2
  have hb15 : (numL x.natAbs).length ≤ 15 := numL_len (k := 15) (by omega) hx
  have more : (l = [] ∨ 0 < n) → B C' := by
    intro hm
    refine hB _ ?_
    walk_at "dl"
    have hm10 : n % 10 < 10 := Nat.mod_lt n (by decide)
    have hl' : l.length ≤ 15 := by
      rcases hln with ⟨rfl, _⟩ | ⟨_, e⟩
      · simp
      · have := congrArg List.length e
        rw [List.length_append] at this
        omega
    have step : numL n = (if n / 10 = 0 then [] else numL (n / 10)) ++ [48 + n % 10] := by
      by_cases h10 : n < 10
      · rw [numL_lt h10, if_pos (by omega), List.nil_append, Nat.mod_eq_of_lt h10]
      · rw [if_neg (by omega)]
        exact numL_step (by omega)
    rw [atI_at _ (n % 10) (by omega), dig_at _ hm10, opt_some, show (⟨#[48 + n % 10]⟩ : Str) = S [48 + n % 10] from rfl, S_app]
    refine ⟨by decide +kernel, by simp only [S_len, List.length_cons, List.length_nil]; omega, ?_, .of ⟨n / 10 + 0, ?_, rfl, (48 + n % 10) :: l, n / 10, by simp, by simp only [List.length_cons]; omega, rfl, .inr ⟨by simp, ?_⟩⟩⟩
    · exact wide_div (by decide) (b := 10) (by decide) (by decide) (by decide)
    · split
      · omega
      · have := hm.resolve_left (by assumption)
        omega
    · rcases hln with ⟨rfl, rfl⟩ | ⟨hne, e⟩
      · exact step
      · rw [e, if_neg (by have := hm.resolve_left hne; omega), step, List.append_assoc]
        rfl
  walk_at "dl"
  by_cases h1 : 0 < n
  · rw [if_pos (by rw [decide_eq_true_iff]; omega)]
    exact more (.inr h1)
  rw [if_neg (by rw [decide_eq_true_iff]; omega)]
  by_cases h2 : l = []
  · rw [if_pos (by rw [decide_eq_true_iff, q_emp, S_inj]; exact h2)]
    exact more (.inl h2)
  rw [if_neg (by rw [decide_eq_true_iff, q_emp, S_inj]; exact h2)]
  refine hN2 _ (hN _ _ ?_)
  have e := (hln.resolve_left fun p => h2 p.1).2
  rw [if_pos (by omega), List.nil_append] at e
  walk_at "dl"
  by_cases hx0 : x < 0
  · rw [if_pos (decide_eq_true hx0)]
    simp only [q_mi, S_app, S_len]
    refine ⟨by rw [← e]; simp only [List.length_cons, List.length_nil]; omega, sub_q h ?_⟩
    unfold numZ
    rw [if_pos hx0, e]
    rfl
  · rw [if_neg (by rw [decide_eq_true_iff]; exact hx0)]
    refine sub_q h ?_
    unfold numZ
    rw [if_neg hx0, e]
def sp__law_term_text (n : Nat) : DSp := fun ds C Q => ∃ t, ds = [toD t] ∧ WF t ∧ hle n t ∧ (txtL t).length ≤ 100000 ∧ Q (.str (txt t)) C
theorem ok__law_term_text1 (T : Txt K mg) {k n : Nat} {q : DSp} (hk1 : 1 ≤ k) (G__law_term_text : Fn P w K mg base k (fa mg "_law_term_text") [] q)
    (hq : ∀ t C Q, WF t → 1 ≤ n → hle (n - 1) t → (txtL t).length ≤ 100000 → Q (.str (txt t)) C → q [toD t] C Q) : Fn P w K mg base (k + 1) (fa mg "_law_term_text") [] (sp__law_term_text n) := by
  have G__law_number_text := ok__law_number_text (P := P) (w := w) (base := base) T
  refine fn_df T.d__law_term_text sc__law_term_text (fun ds C Q h => ?_) (fun cdv A outer s H E hr => ?_)
  · (obtain ⟨_, rfl, _⟩ := h; rfl)
  have hu := hr.units
  have hu1 := hu_of hr
  have nd := sc__law_term_text.nd
  refine ⟨_, (ds_cons (ds_if (dt_cmp (op_eqA hu) ops_eq (de_ix (dv 0) dc_int) dc_str (nomark _)) (ds_one (ds_ret (de_op op_addA ops_add (de_op op_addA ops_add (de_ix (dv 0) dc_int) dc_str) (de_call G__law_number_text T.d__law_number_text.m (hr.mono (by omega)) (da_cons (de_ix (dv 0) dc_int) da_nil))))) ds_nil)
    (ds_cons (ds_if (dt_cmp (op_eqA hu) ops_eq (de_ix (dv 0) dc_int) dc_str (nomark _)) (ds_one (ds_ret (de_op op_addA ops_add (de_op op_addA ops_add (de_op op_addA ops_add dc_str (de_ix (dv 0) dc_int)) dc_str) (de_call G__law_number_text T.d__law_number_text.m (hr.mono (by omega)) (da_cons (de_ix (dv 0) dc_int) da_nil))))) ds_nil)
    (ds_cons (ds_set (i := 1) nd (de_if (dt_cmp (op_eqA hu) ops_eq (de_ix (dv 0) dc_int) dc_str (nomark _)) (de_op op_addA ops_add (de_op op_addA ops_add (de_ix (dv 0) dc_int) dc_str) (de_call G__law_number_text T.d__law_number_text.m (hr.mono (by omega)) (da_cons (de_ix (dv 0) dc_int) da_nil))) (de_ix (dv 0) dc_int)))
    (ds_one (ds_ret (de_op op_addA ops_add (de_op op_addA ops_add (de_op op_addA ops_add (dv 1) dc_str) (de_bm PySem.F.plainAttrs_str PySem.F.slot_str_join PySem.F.type_str_join mt_join ms_join dc_str (da_cons (de_lcL rfl nd (de_ix (dv 0) (de_un dc_int)) (by first | (change blkC N__law_term_text (defScope s__law_term_text) _ _ = true; decide +kernel) | rfl) (fun _ _ _ _ _ => pg_name (i := 2) nd rfl (Or.inl rfl)) (fun _ _ _ _ _ => dp_nil) (fun _ _ _ _ _ => (de_call G__law_term_text T.d__law_term_text.m (hr.mono (by omega)) (da_cons (dv 2) da_nil)))) da_nil))) dc_str)))))), fun ds C Q h => ?_⟩
  obtain ⟨t, rfl, hw, hh, hl, h⟩ := h
  rw [show startD N__law_term_text [toD t] = [some (toD t), none, none] from rfl]
  cases t with
  | pt b nm wt =>
    simp only [WF] at hw
    obtain ⟨l, rfl⟩ : ∃ l, nm = S l := ⟨tl nm, (S_tl nm).symm⟩
    have h8 := hw.2.2.1
    have h16 := numZ_len hw.2.2.2
    rw [S_len] at h8
    cases b with
    | true =>
      simp only [toD, w_now]
      walk_at "dl"
      simp only [q_now, q_of, q_sp, q_nows, toS, S_app, S_len, S_inj, List.length_append, List.length_cons, List.length_nil]
      rw [if_neg (by decide)]
      refine ⟨by omega, by omega, wt, rfl, hw.2.2.2, ?_⟩
      walk_at "dl"
      simp only [S_app, S_len, List.length_append, List.length_cons, List.length_nil]
      refine ⟨by omega, sub_q h ?_⟩
      simp [txtL, nowL, tl_S]
    | false =>
      simp only [toD, w_of]
      walk_at "dl"
      simp only [q_now, q_of, q_sp, q_nows, toS, S_app, S_len, S_inj, List.length_append, List.length_cons, List.length_nil]
      refine ⟨by omega, wt, rfl, hw.2.2.2, ?_⟩
      walk_at "dl"
      simp only [S_app, S_len, List.length_append, List.length_cons, List.length_nil]
      refine ⟨by omega, sub_q h ?_⟩
      simp [txtL, nowL, tl_S]
  | nd kd ts =>
    simp only [WF] at hw
    have hts : ∀ t ∈ ts, WF t ∧ 1 ≤ n ∧ hle (n - 1) t := fun t ht => by
      cases n with
      | zero => simp [hle] at hh
      | succ m => simp only [hle] at hh; exact ⟨WFs_all hw.2.2.2 t ht, by omega, hh t ht⟩
    have hj := len_nd hl
    have hs := sum_joinL cs (ts.map txtL)
    simp only [toD, toDs_map]
    cases kd with
    | first =>
      simp only [ndD]
      walk_at "dl"
      simp only [q_now, q_of, q_sp, q_nows, q_lp, q_rp, q_first, q_last, q_rank, q_ranks, q_cs, toS, S_app, S_len, S_inj, List.length_append, List.length_cons, List.length_nil]
      rw [if_neg (by decide), if_neg (by decide), if_neg (by decide)]
      refine ⟨by omega, compN_ts (fun t => .str (txt t)) hw.2.1 (fun t ht P' p => hq t C _ (hts t ht).1 (hts t ht).2.1 (hts t ht).2.2 (len_in hl ht) p) ?_⟩
      rw [maps, vw_l]
      simp only [strsOf_map, opt_some, List.length_map]
      rw [show [44, 32] = cs from rfl, join_S]
      simp only [S_app, S_len, List.length_append, List.length_cons, List.length_nil]
      refine ⟨by omega, by omega, by omega, sub_q h ?_⟩
      simp [txtL, kdL, txtsL_map]
    | last =>
      simp only [ndD]
      walk_at "dl"
      simp only [q_now, q_of, q_sp, q_nows, q_lp, q_rp, q_first, q_last, q_rank, q_ranks, q_cs, toS, S_app, S_len, S_inj, List.length_append, List.length_cons, List.length_nil]
      rw [if_neg (by decide), if_neg (by decide), if_neg (by decide)]
      refine ⟨by omega, compN_ts (fun t => .str (txt t)) hw.2.1 (fun t ht P' p => hq t C _ (hts t ht).1 (hts t ht).2.1 (hts t ht).2.2 (len_in hl ht) p) ?_⟩
      rw [maps, vw_l]
      simp only [strsOf_map, opt_some, List.length_map]
      rw [show [44, 32] = cs from rfl, join_S]
      simp only [S_app, S_len, List.length_append, List.length_cons, List.length_nil]
      refine ⟨by omega, by omega, by omega, sub_q h ?_⟩
      simp [txtL, kdL, txtsL_map]
    | rank k =>
      have hk : k.natAbs < 10 ^ 15 := by
        have := hw.2.2.1
        simp only [kdOk] at this
        omega
      have h16 := numZ_len hk
      simp only [ndD]
      walk_at "dl"
      simp only [q_now, q_of, q_sp, q_nows, q_lp, q_rp, q_first, q_last, q_rank, q_ranks, q_cs, toS, S_app, S_len, S_inj, List.length_append, List.length_cons, List.length_nil]
      rw [if_neg (by decide), if_neg (by decide)]
      refine ⟨by omega, k, rfl, hk, ?_⟩
      walk_at "dl"
      simp only [S_app, S_len, List.length_append, List.length_cons, List.length_nil]
      refine ⟨by omega, by omega, compN_ts (fun t => .str (txt t)) hw.2.1 (fun t ht P' p => hq t C _ (hts t ht).1 (hts t ht).2.1 (hts t ht).2.2 (len_in hl ht) p) ?_⟩
      rw [maps, vw_l]
      simp only [strsOf_map, opt_some, List.length_map]
      rw [show [44, 32] = cs from rfl, join_S]
      simp only [S_app, S_len, List.length_append, List.length_cons, List.length_nil]
      refine ⟨by omega, by omega, by omega, sub_q h ?_⟩
      simp [txtL, kdL, txtsL_map]
theorem ok__law_term_text (T : Txt K mg) : ∀ n, Fn P w K mg base (n + 2) (fa mg "_law_term_text") [] (sp__law_term_text n)
  | 0 => ok__law_term_text1 (n := 0) (q := fun _ _ _ => False) T (Nat.le_refl 1) ((fn_zero T.d__law_term_text.z fun _ _ _ h => h).mono (by omega : 0 ≤ 1)) fun t C Q _ h _ _ _ => by omega
  | n + 1 => ok__law_term_text1 (n := n + 1) T (by omega) (ok__law_term_text T n) fun t C Q hw _ hh hl q => ⟨t, rfl, hw, hh, hl, q⟩
end

end K94

set_option Elab.async false
set_option linter.all false
set_option maxRecDepth 100000
set_option maxHeartbeats 1000000
namespace K94
open PySem L2 DL
local macro_rules | `(tactic| walk_at "dl") => `(tactic| simp only [dSeq, dIfS, dOr, dAnd, dNot, dTest, dCB, d1, d2, kIsi, kIsO, kLen, kStr, kIntT, kAbs, kI2, kSum, dCons, dNil, dVar, dC, slot, tyD, opt_some, kitB_ss, kitB_is, kitB_ii, kitB_ib, kitB_si, kitB_tt, kitB_ll, kitB_dd, kitB_tl, kitB_lt, kitB_ts, kitB_bb, kitB_bi,
  vw_non, vw_bl, vw_i, vw_s, vw_l, vw_t, vw_d, vw_n, vw_f, vw_v, asB, dAndV, dOrV, dNotV, dIf, dOp, dI2, dSub, dMul, dFdiv, dMod, dPow, dLt, dLe, dGt, dGe, dAdd, dRet, dRetN, dNext, dLst, dTup, dLstC, dCall, dDrop, dAsg, dName, dPar, dSets, dGTup, dIx, dSl, dPart, dNoP, dInN, dIsN, dEqN, dNeg, dFz, frz1, dFzS, dFld, dSetFld, dMth, dMake, dCallL, dChain, endsOf, dLcL, dLcS, dLcR1, dYes, dBM, mAppend, mInsert, mStarts3, mJoin, tyM, dBits, dForL, dForT, dForR1, int1, dDGet, dDIn, dDPut, dDGet2, kDict0, keyOf, kListOf, kRepr, dEqP, kMax, kMin, isN, fget, fput,
  List.set_cons_zero, List.set_cons_succ, List.length_cons, List.length_nil, Bool.not_true, Bool.not_false, List.append_nil,
  if_true, if_false, Bool.false_eq_true, Bool.true_eq_false, ite_true, ite_false, true_and, and_true, reduceIte, List.nil_append, List.cons_append, atI_0, atI_1, atI_2, atI_3, atI_m1, List.getElem?_cons_zero, List.getElem?_cons_succ, List.getLast?_cons_cons, List.getLast?_singleton, Nat.zero_add, Nat.reduceAdd, Int.cast_ofNat_Int, Int.natCast_add, Int.natCast_one, Nat.reduceLeDiff, Int.reduceLT, Int.reduceLE, Int.reduceEq, decide_true, decide_false, Int.reduceAdd, Int.reduceNeg, Int.reduceSub, Int.reduceToNat, eq_self, ne_eq, not_true_eq_false, not_false_eq_true, List.map_cons, List.map_nil, Option.getD_some, Option.getD_none, Option.isSome_some, Option.isSome_none])
open TL PySem.NumText
section
variable {P : Program} {w : World} {K : PySem.W.Frag} {mg : Str → Option Value} {base : Heap}
/-! the law's purse -/
theorem name_g {j : Nat} {d : D} {ρ : DL.Env} {C : Cells} {Q : DL.Env → Cells → Prop} (h : Q (ρ.set j (some d)) C) : dName j d ρ C Q := h
def PU (N : Nat) (x : Cell) : Prop := ∃ p0 p1 p2 p3 : Int, x = .lst [.int p0, .int p1, .int p2, .int p3] ∧ 0 ≤ p0 ∧ (0 ≤ p1 ∧ p1 < 2147483629) ∧ (0 ≤ p2 ∧ p2 ≤ (N : Int)) ∧ 0 ≤ p3 ∧ p3 ≤ 10
theorem mulW {i j : Int} (a b : Nat) (hi : 0 ≤ i ∧ i < 2 ^ a) (hj : 0 ≤ j ∧ j < 2 ^ b) (ha : 0 < a) (hb : 0 < b) (h : a + b ≤ 1000000) : CMulW i j := by
  have h1 : i.natAbs < 2 ^ a := by have := Int.natCast_pow 2 a; have e : ((2 ^ a : Nat) : Int) = (2 : Int) ^ a := by simp
                                   omega
  have h2 : j.natAbs < 2 ^ b := by have e : ((2 ^ b : Nat) : Int) = (2 : Int) ^ b := by simp
                                   omega
  have a1 := PySem.Flt.log2_lt_of ha h1
  have a2 := PySem.Flt.log2_lt_of hb h2
  unfold CMulW
  omega
def sp__law_mixed : DSp := fun ds C Q => ∃ s t a, ds = [.int s, .int t, .int a] ∧ (0 ≤ s ∧ s < 2147483629) ∧ (0 ≤ t ∧ t ≤ 1000000) ∧ (0 ≤ a ∧ a ≤ 10) ∧ ∀ r, 0 ≤ r → r < 2147483587 → Q (.int r) C
theorem ok__law_mixed (T : Txt K mg) : Fn P w K mg base 1 (fa mg "_law_mixed") [] sp__law_mixed := by
  refine fn_df T.d__law_mixed sc__law_mixed (fun ds C Q h => ?_) (fun cdv A outer s H E hr => ?_)
  · (obtain ⟨_, _, _, rfl, _⟩ := h; rfl)
  have hu := hr.units
  have hu1 := hu_of hr
  have nd := sc__law_mixed.nd
  refine ⟨_, (ds_cons (ds_set (i := 3) nd (de_op op_addA ops_add (de_op op_mulW ops_I (dv 0) dc_int) (de_op op_mulW ops_I (de_op op_mulW ops_I dc_int (dv 1)) (dv 1))))
    (ds_cons (ds_set (i := 3) nd (de_op op_mod ops_I (de_op op_addA ops_add (de_op op_addA ops_add (dv 3) (de_op op_mulW ops_I dc_int (dv 2))) (dv 1)) dc_int))
    (ds_cons (ds_set (i := 3) nd (de_op op_mod ops_I (de_op op_addA ops_add (de_op op_mulW ops_I (dv 3) (dv 3)) dc_int) dc_int))
    (ds_one (ds_ret (de_op op_mod ops_I (de_op op_mulW ops_I (dv 3) dc_int) dc_int)))))), fun ds C Q h => ?_⟩
  obtain ⟨s, t, a, rfl, hs, ht, ha, h⟩ := h
  rw [show startD N__law_mixed [.int s, .int t, .int a] = [some (.int s), some (.int t), some (.int a), none] from rfl]
  walk_at "dl"
  have m1 : ∀ z : Int, 0 ≤ z % 2147483647 ∧ z % 2147483647 < 2 ^ 31 := fun z => by omega
  have m2 : ∀ z : Int, 0 ≤ z % 2147483629 ∧ z % 2147483629 < 2 ^ 31 := fun z => by omega
  refine ⟨mulW 31 17 (by omega) (by omega) (by decide) (by decide) (by decide), mulW 17 20 (by omega) (by omega) (by decide) (by decide) (by decide), mulW 40 20 (by omega) (by omega) (by decide) (by decide) (by decide), mulW 13 4 (by omega) (by omega) (by decide) (by decide) (by decide),
    mulW 31 31 (m1 _) (m1 _) (by decide) (by decide) (by decide), mulW 31 16 (m2 _) (by omega) (by decide) (by decide) (by decide), fin (h _ (by omega) (by omega))⟩
theorem cset_id {C : Cells} {a : Addr} {c : Cell} (h : C a = some c) : cset C a c = C := by
  funext b
  unfold cset
  split
  · rename_i e
    rw [e, h]
  · rfl
theorem bits_le {m : Int} (h1 : 1 ≤ m) (h2 : m < 2 ^ 56) : Builtin.Int.intBits m ≤ 56 := by
  have h : m.natAbs < 2 ^ 56 := by omega
  have := PySem.Flt.log2_lt_of (by decide : 0 < 56) h
  unfold Builtin.Int.intBits
  split <;> omega
def sp__law_draw : DSp := fun ds C Q => ∃ a m x N, ds = [.cell a, .int m] ∧ C a = some x ∧ PU N x ∧ 1 ≤ m ∧ m < 2 ^ 56 ∧ N ≤ 100000 ∧ ∀ r y, 0 ≤ r → r < m → PU (N + 3) y → Q (.int r) (cset C a y)
theorem ok__law_draw (T : Txt K mg) : Fn P w K mg base 2 (fa mg "_law_draw") [] sp__law_draw := by
  have G__law_mixed := ok__law_mixed (P := P) (w := w) (base := base) T
  refine fn_df T.d__law_draw sc__law_draw (fun ds C Q h => ?_) (fun cdv A outer s H E hr => ?_)
  · (obtain ⟨_, _, _, _, rfl, _⟩ := h; rfl)
  have hu := hr.units
  have hu1 := hu_of hr
  have nd := sc__law_draw.nd
  refine ⟨_, (ds_cons (ds_if (dt_cmp op_gt ops_B0 (de_ix (dv 0) dc_int) dc_int (nomark _)) (ds_cons (ds_set (i := 2) nd (de_op op_mod ops_I (de_ix (dv 0) dc_int) (dv 1)))
    (ds_cons (ds_asg (de_op op_fdivW ops_I (de_ix (dv 0) dc_int) (dv 1)) (dg_subL (dv 0) dc_int))
    (ds_one (ds_ret (dv 2))))) ds_nil)
    (ds_cons (ds_set (i := 3) nd dc_int)
    (ds_cons (ds_forR1 rfl T.range (da_cons (de_op op_addA ops_add dc_int (de_op op_fdivW ops_I (de_bits (dv 1)) dc_int)) da_nil) (dg_name (i := 4) nd) (ds_cons (ds_asg (de_op op_addA ops_add (de_ix (dv 0) dc_int) dc_int) (dg_subL (dv 0) dc_int))
    (ds_one (ds_set (i := 3) nd (de_op op_addA ops_add (de_op op_mulW ops_I (dv 3) dc_int) (de_call G__law_mixed T.d__law_mixed.m (hr.mono (by omega)) (da_cons (de_ix (dv 0) dc_int) (da_cons (de_ix (dv 0) dc_int) (da_cons (de_ix (dv 0) dc_int) da_nil)))))))))
    (ds_one (ds_ret (de_op op_mod ops_I (dv 3) (dv 1))))))), fun ds C Q h => ?_⟩
  obtain ⟨a, m, _, N, rfl, hc, ⟨p0, p1, p2, p3, rfl, h0, h1, h2, h3⟩, hm1, hm2, hN, h⟩ := h
  rw [show startD N__law_draw [.cell a, .int m] = [some (.cell a), some (.int m), none, none, none] from rfl]
  have hv : vw C (.cell a) = .lst [.int p0, .int p1, .int p2, .int p3] := by simp only [vw, hc]
  refine seq_g fun NX hNX => ?_
  walk_at "dl"
  simp only [hv, hc]
  walk_at "dl"
  by_cases hp : 0 < p0
  · rw [if_pos (decide_eq_true hp)]
    refine ⟨by omega, wide_div (by omega) (b := 56) (by omega) (by decide) (by decide), ?_⟩
    unfold dSubL
    walk_at "dl"
    simp only [hv, hc]
    walk_at "dl"
    rw [show ixN 4 0 = some 0 from rfl, opt_some]
    exact fin (h _ _ (Int.emod_nonneg _ (by omega)) (Int.emod_lt_of_pos _ (by omega)) ⟨p0 / m, p1, p2, p3, rfl, Int.ediv_nonneg h0 (by omega), h1, by omega, h3⟩)
  rw [if_neg (by rw [decide_eq_true_iff]; exact hp)]
  refine hNX _ _ ?_
  clear hNX
  refine seq_g fun NX hNX => ?_
  walk_at "dl"
  refine hNX _ _ ?_
  clear hNX
  refine seq_g fun NX hNX => ?_
  walk_at "dl"
  have hbt := bits_le hm1 hm2
  generalize Builtin.Int.intBits m = bt at hbt ⊢
  refine ⟨wide_div (by decide) (b := 10) (by decide) (by decide) (by decide), by omega, by omega, ?_⟩
  have hrt : ((1 : Int) + (bt : Int) / 28).toNat = 1 + bt / 28 := by omega
  rw [hrt]
  refine ⟨fun i ρ C' => i ≤ 3 ∧ ∃ f : Int, ∃ o, 0 ≤ f ∧ f < 2147483587 ^ i ∧ C' = cset C a (.lst [.int p0, .int p1, .int (p2 + (i : Int)), .int p3]) ∧ ρ = [some (.cell a), some (.int m), none, some (.int f), o],
    ⟨by omega, 0, _, by omega, by decide, by rw [Int.natCast_zero, Int.add_zero]; exact (cset_id hc).symm, rfl⟩, ?_, ?_⟩
  · rintro i d ρ C' e ⟨hi, f, o, hf0, hf1, rfl, rfl⟩
    have hi2 : i ≤ 2 := by
      have := (List.getElem?_eq_some_iff.mp e).1
      rw [List.length_map, List.length_range] at this
      omega
    have hb : CMulW f 2147483587 := mulW 100 32 ⟨hf0, by
      match i, hi2, hf1 with
      | 0, _, h => exact Int.lt_trans h (by decide)
      | 1, _, h => exact Int.lt_trans h (by decide)
      | 2, _, h => exact Int.lt_trans h (by decide)⟩ (by decide) (by decide) (by decide) (by decide)
    have hv2 : ∀ q : Int, vw (cset C a (.lst [.int p0, .int p1, .int q, .int p3])) (.cell a) = .lst [.int p0, .int p1, .int q, .int p3] := fun q => vw_cl
    refine name_g ?_
    simp only [List.set_cons_succ, List.set_cons_zero]
    refine seq_g fun NX hNX => ?_
    walk_at "dl"
    simp only [hv2]
    walk_at "dl"
    unfold dSubL
    walk_at "dl"
    rw [cset_same]
    walk_at "dl"
    rw [show ixN 4 2 = some 2 from rfl, opt_some, cset_cset]
    refine hNX _ _ ?_
    clear hNX
    walk_at "dl"
    refine ⟨hb, ?_⟩
    simp only [hv2]
    walk_at "dl"
    refine ⟨p1, _, p3, rfl, h1, by omega, h3, fun r r0 r1 => ?_⟩
    walk_at "dl"
    refine .of ⟨by omega, _, _, by omega, ?_, by rw [Int.add_assoc], rfl⟩
    rw [Int.pow_succ]
    omega
  · rintro ρ C' ⟨hi, f, o, hf0, hf1, rfl, rfl⟩
    rw [List.length_map, List.length_range] at hi ⊢
    refine hNX _ _ ?_
    walk_at "dl"
    refine ⟨by omega, fin (h _ _ (Int.emod_nonneg _ (by omega)) (Int.emod_lt_of_pos _ (by omega)) ⟨p0, p1, _, p3, rfl, h0, h1, by omega, h3⟩)⟩
def sp__law_purse : DSp := fun ds C Q => ∃ xs : List Int, ∃ i : Nat, ds = [.fro (xs.map D.int), .int (i : Int)] ∧ i ≤ 1 ∧ xs.length ≤ 1000000 ∧ ∀ a y, C a = none → PU 0 y → Q (.cell a) (cset C a y)
theorem ok__law_purse (T : Txt K mg) : Fn P w K mg base 1 (fa mg "_law_purse") [] sp__law_purse := by
  refine fn_df T.d__law_purse sc__law_purse (fun ds C Q h => ?_) (fun cdv A outer s H E hr => ?_)
  · (obtain ⟨_, _, rfl, _⟩ := h; rfl)
  have hu := hr.units
  have hu1 := hu_of hr
  have nd := sc__law_purse.nd
  refine ⟨_, (ds_cons (ds_set (i := 2) nd (de_cb (cr_sum rfl) cl_sum T.sum bt_sum (da_cons (de_sl (dv 0) (dp_some (dv 1)) (dp_some (de_op op_addA ops_add (dv 1) dc_int))) da_nil)))
    (ds_one (ds_ret (de_lstC (da_cons (de_op op_mod ops_I (de_cb (call_max2 rfl) cl_I2 T.max bt_max (da_cons (de_op op_sub ops_I0 (dv 2) (de_op op_powW ops_I dc_int dc_int)) (da_cons dc_int da_nil))) (de_op op_powW ops_I (de_op op_powW ops_I dc_int dc_int) dc_int)) (da_cons (de_op op_mod ops_I (dv 2) dc_int) (da_cons dc_int (da_cons (dv 1) da_nil)))))))), fun ds C Q h => ?_⟩
  obtain ⟨xs, i, rfl, hi, hx, h⟩ := h
  rw [show startD N__law_purse [.fro (xs.map D.int), .int (i : Int)] = [some (.fro (xs.map D.int)), some (.int (i : Int)), none] from rfl]
  walk_at "dl"
  have e : cutD (xs.map D.int) (some (i : Int)) (some ((i : Int) + 1)) = ((xs.drop i).take 1).map D.int := by
    rw [show (i : Int) + 1 = ((i + 1 : Nat) : Int) by omega]
    unfold cutD
    rw [HT.sIx_nat, HT.sIx_nat, List.length_map, List.map_take, List.map_drop]
    by_cases hl : i < xs.length
    · rw [Nat.min_eq_left (by omega), Nat.min_eq_left (by omega), Nat.add_sub_cancel_left]
    · rw [Nat.min_eq_right (by omega), Nat.min_eq_right (by omega), Nat.sub_self, List.take_zero, List.drop_eq_nil_of_le (by rw [List.length_map]; omega)]
      rfl
  rw [e, intsOf_map, opt_some]
  refine ⟨by unfold CPowW; decide +kernel, by unfold CPowW; decide +kernel, by unfold CPowW; decide +kernel, by decide +kernel, fun p hp => fin (h _ _ hp ⟨_, _, 0, i, rfl, Int.emod_nonneg _ (by decide +kernel), by omega, by omega, by omega, by omega⟩)⟩
end

end K94

set_option Elab.async false
set_option linter.all false
set_option maxRecDepth 100000
set_option maxHeartbeats 1000000
namespace K94
open PySem L2 DL
local macro_rules | `(tactic| walk_at "dl") => `(tactic| simp only [dSeq, dIfS, dOr, dAnd, dNot, dTest, dCB, d1, d2, kIsi, kIsO, kLen, kStr, kIntT, kAbs, kI2, kSum, dCons, dNil, dVar, dC, slot, tyD, opt_some, kitB_ss, kitB_is, kitB_ii, kitB_ib, kitB_si, kitB_tt, kitB_ll, kitB_dd, kitB_tl, kitB_lt, kitB_ts, kitB_bb, kitB_bi,
  vw_non, vw_bl, vw_i, vw_s, vw_l, vw_t, vw_d, vw_n, vw_f, vw_v, asB, dAndV, dOrV, dNotV, dIf, dOp, dI2, dSub, dMul, dFdiv, dMod, dPow, dLt, dLe, dGt, dGe, dAdd, dRet, dRetN, dNext, dLst, dTup, dLstC, dCall, dDrop, dAsg, dName, dPar, dSets, dGTup, dIx, dSl, dPart, dNoP, dInN, dIsN, dEqN, dNeg, dFz, frz1, dFzS, dFld, dSetFld, dMth, dMake, dCallL, dChain, endsOf, dLcL, dLcS, dLcR1, dYes, dBM, mAppend, mInsert, mStarts3, mJoin, tyM, dBits, dForL, dForT, dForR1, int1, dDGet, dDIn, dDPut, dDGet2, kDict0, keyOf, kListOf, kRepr, dEqP, kMax, kMin, isN, fget, fput,
  List.set_cons_zero, List.set_cons_succ, List.length_cons, List.length_nil, Bool.not_true, Bool.not_false, List.append_nil,
  if_true, if_false, Bool.false_eq_true, Bool.true_eq_false, ite_true, ite_false, true_and, and_true, reduceIte, List.nil_append, List.cons_append, atI_0, atI_1, atI_2, atI_3, atI_m1, List.getElem?_cons_zero, List.getElem?_cons_succ, List.getLast?_cons_cons, List.getLast?_singleton, Nat.zero_add, Nat.reduceAdd, Int.cast_ofNat_Int, Int.natCast_add, Int.natCast_one, Nat.reduceLeDiff, Int.reduceLT, Int.reduceLE, Int.reduceEq, decide_true, decide_false, Int.reduceAdd, Int.reduceNeg, Int.reduceSub, Int.reduceToNat, eq_self, ne_eq, not_true_eq_false, not_false_eq_true, List.map_cons, List.map_nil, Option.getD_some, Option.getD_none, Option.isSome_some, Option.isSome_none])
open TL PySem.NumText
section
variable {P : Program} {w : World} {K : PySem.W.Frag} {mg : Str → Option Value} {base : Heap}
theorem PU.mono {N M : Nat} {x : Cell} (h : PU N x) (l : N ≤ M) : PU M x := by
  obtain ⟨p0, p1, p2, p3, e, h0, h1, h2, h3⟩ := h
  exact ⟨p0, p1, p2, p3, e, h0, h1, by omega, h3⟩
theorem cset_3 {C : Cells} {a p : Addr} {y y2 L L' : Cell} (h : p ≠ a) : cset (cset (cset (cset C a y) p L) a y2) p L' = cset (cset C a y2) p L' := by
  funext b
  unfold cset
  by_cases h1 : b = p
  · simp only [if_pos h1]
  · simp only [if_neg h1]
    by_cases h2 : b = a
    · simp only [if_pos h2]
    · simp only [if_neg h2, if_neg h1]
theorem cut_mem {α : Type} {xs : List α} {lo hi : Option Int} {d : α} (h : d ∈ cutD xs lo hi) : d ∈ xs := List.mem_of_mem_drop (List.mem_of_mem_take h)
theorem cut_len {α : Type} (xs : List α) (lo hi : Option Int) : (cutD xs lo hi).length ≤ xs.length := by
  unfold cutD
  rw [List.length_take, List.length_drop]
  omega
/-! one drawn thing -/
def sp__law_one_of : DSp := fun ds C Q => ∃ a xs x N, ds = [.cell a, .lst xs] ∧ C a = some x ∧ PU N x ∧ xs ≠ [] ∧ xs.length ≤ 1000 ∧ N ≤ 100000 ∧ ∀ d y, d ∈ xs → PU (N + 3) y → Q d (cset C a y)
theorem ok__law_one_of (T : Txt K mg) : Fn P w K mg base 3 (fa mg "_law_one_of") [] sp__law_one_of := by
  have G__law_draw := ok__law_draw (P := P) (w := w) (base := base) T
  refine fn_df T.d__law_one_of sc__law_one_of (fun ds C Q h => ?_) (fun cdv A outer s H E hr => ?_)
  · (obtain ⟨_, _, _, _, rfl, _⟩ := h; rfl)
  have hu := hr.units
  have hu1 := hu_of hr
  have nd := sc__law_one_of.nd
  refine ⟨_, (ds_one (ds_ret (de_ix (dv 1) (de_call G__law_draw T.d__law_draw.m (hr.mono (by omega)) (da_cons (dv 0) (da_cons (de_cb call_lenA cl_len T.len bt_len (da_cons (dv 1) da_nil)) da_nil)))))), fun ds C Q h => ?_⟩
  obtain ⟨a, xs, x, N, rfl, hc, hx, hne, hl, hN, h⟩ := h
  rw [show startD N__law_one_of [.cell a, .lst xs] = [some (.cell a), some (.lst xs)] from rfl]
  walk_at "dl"
  have hl1 : 1 ≤ xs.length := by cases xs with
    | nil => exact absurd rfl hne
    | cons _ _ => simp
  refine ⟨a, _, x, N, rfl, hc, hx, by omega, by omega, hN, fun r y r0 r1 hy => ?_⟩
  walk_at "dl"
  rw [atI_at _ r.toNat (by omega), List.getElem?_eq_getElem (by omega), opt_some]
  exact fin (h _ y (List.getElem_mem _) hy)
def sp__law_shuffled : DSp := fun ds C Q => ∃ a xs x N, ds = [.cell a, .lst xs] ∧ C a = some x ∧ PU N x ∧ xs.length ≤ 1000 ∧ N ≤ 50000 ∧ ∀ zs y, zs.length = xs.length → (∀ d ∈ zs, d ∈ xs) → PU (N + 3 * xs.length) y → Q (.lst zs) (cset C a y)
theorem ok__law_shuffled (T : Txt K mg) : Fn P w K mg base 3 (fa mg "_law_shuffled") [] sp__law_shuffled := by
  have G__law_draw := ok__law_draw (P := P) (w := w) (base := base) T
  refine fn_df T.d__law_shuffled sc__law_shuffled (fun ds C Q h => ?_) (fun cdv A outer s H E hr => ?_)
  · (obtain ⟨_, _, _, _, rfl, _⟩ := h; rfl)
  have hu := hr.units
  have hu1 := hu_of hr
  have nd := sc__law_shuffled.nd
  refine ⟨_, (ds_cons (ds_set (i := 2) nd (de_lstC da_nil))
    (ds_cons (ds_forL rfl (dv 1) (dg_name (i := 3) nd) (ds_one (ds_expr (de_bm PySem.F.plainAttrs_list PySem.F.slot_list_insert PySem.F.type_list_insert mt_insert ms_insert (dv 2) (da_cons (de_call G__law_draw T.d__law_draw.m (hr.mono (by omega)) (da_cons (dv 0) (da_cons (de_op op_addA ops_add (de_cb call_lenA cl_len T.len bt_len (da_cons (dv 2) da_nil)) dc_int) da_nil))) (da_cons (dv 3) da_nil))))))
    (ds_one (ds_ret (de_fz (dv 2)))))), fun ds C Q h => ?_⟩
  obtain ⟨a, xs, x, N, rfl, hc, hx, hl, hN, h⟩ := h
  rw [show startD N__law_shuffled [.cell a, .lst xs] = [some (.cell a), some (.lst xs), none, none] from rfl]
  refine seq_g fun NX hNX => ?_
  walk_at "dl"
  intro p hp
  have hpa : p ≠ a := fun e => by rw [e, hc] at hp; cases hp
  refine hNX _ _ ?_
  clear hNX
  refine seq_g fun NX hNX => ?_
  walk_at "dl"
  refine ⟨fun i ρ C' => ∃ zs y o, zs.length = i ∧ (∀ d ∈ zs, d ∈ xs) ∧ PU (N + 3 * i) y ∧ C' = cset (cset C a y) p (.lst zs) ∧ ρ = [some (.cell a), some (.lst xs), some (.cell p), o], ⟨[], x, _, rfl, by simp, hx, by rw [cset_id hc], rfl⟩, ?_, ?_⟩
  · rintro i d ρ C' e ⟨zs, y, o, rfl, hz, hy, rfl, rfl⟩
    have hi := (List.getElem?_eq_some_iff.mp e).1
    refine name_g ?_
    simp only [List.set_cons_succ, List.set_cons_zero]
    walk_at "dl"
    rw [vw_cl]
    walk_at "dl"
    refine ⟨a, _, y, _, rfl, by rw [cset_ne (Ne.symm hpa), cset_same], hy, by omega, by omega, by omega, fun r y2 r0 r1 hy2 => ?_⟩
    walk_at "dl"
    rw [cset_ne hpa, cset_same]
    refine ⟨by omega, by omega, by omega, .of ⟨_, y2, _, ?_, ?_, hy2, cset_3 hpa, rfl⟩⟩
    · simp only [List.length_append, List.length_cons, List.length_nil, List.length_take, List.length_drop]
      omega
    · intro b hb
      simp only [List.mem_append, List.mem_singleton] at hb
      rcases hb with (hb | rfl) | hb
      · exact hz b (List.mem_of_mem_take hb)
      · exact List.mem_of_getElem? e
      · exact hz b (List.mem_of_mem_drop hb)
  · rintro ρ C' ⟨zs, y, o, hlz, hz, hy, rfl, rfl⟩
    refine hNX _ _ ?_
    walk_at "dl"
    rw [cset_same]
    walk_at "dl"
    exact fin_sub (h zs y hlz hz hy) (sub_del (by rw [cset_ne hpa, hp]))
def sp__law_word : DSp := fun ds C Q => ∃ a x N, ds = [.cell a] ∧ C a = some x ∧ PU N x ∧ N ≤ 50000 ∧ ∀ l y, letters (S l) → 1 ≤ l.length → l.length ≤ 8 → PU (N + 27) y → Q (.str (S l)) (cset C a y)
theorem ok__law_word (T : Txt K mg) : Fn P w K mg base 3 (fa mg "_law_word") [] sp__law_word := by
  have G__law_draw := ok__law_draw (P := P) (w := w) (base := base) T
  refine fn_df T.d__law_word sc__law_word (fun ds C Q h => ?_) (fun cdv A outer s H E hr => ?_)
  · (obtain ⟨_, _, _, rfl, _⟩ := h; rfl)
  have hu := hr.units
  have hu1 := hu_of hr
  have nd := sc__law_word.nd
  refine ⟨_, (ds_cons (ds_set (i := 1) nd dc_str)
    (ds_cons (ds_forR1 rfl T.range (da_cons (de_op op_addA ops_add dc_int (de_call G__law_draw T.d__law_draw.m (hr.mono (by omega)) (da_cons (dv 0) (da_cons dc_int da_nil)))) da_nil) (dg_name (i := 2) nd) (ds_one (ds_set (i := 1) nd (de_op op_addA ops_add (dv 1) (de_ix dc_str (de_call G__law_draw T.d__law_draw.m (hr.mono (by omega)) (da_cons (dv 0) (da_cons dc_int da_nil))))))))
    (ds_one (ds_ret (dv 1))))), fun ds C Q h => ?_⟩
  obtain ⟨a, x, N, rfl, hc, hx, hN, h⟩ := h
  rw [show startD N__law_word [.cell a] = [some (.cell a), none, none] from rfl]
  refine seq_g fun NX hNX => ?_
  walk_at "dl"
  refine hNX _ _ ?_
  clear hNX
  refine seq_g fun NX hNX => ?_
  walk_at "dl"
  refine ⟨a, 8, x, N, rfl, hc, hx, by omega, by omega, by omega, fun k y k0 k1 hy => ?_⟩
  walk_at "dl"
  refine ⟨by omega, by omega, ?_⟩
  refine ⟨fun i ρ C' => ∃ l y o, l.length = i ∧ letters (S l) ∧ PU (N + 3 + 3 * i) y ∧ C' = cset C a y ∧ ρ = [some (.cell a), some (.str (S l)), o], ⟨[], y, _, rfl, (by intro c hc; cases hc), hy, rfl, by rw [q_emp]⟩, ?_, ?_⟩
  · rintro i d ρ C' e ⟨l, y, o, rfl, hl, hy, rfl, rfl⟩
    have hi := (List.getElem?_eq_some_iff.mp e).1
    rw [List.length_map, List.length_range] at hi
    refine name_g ?_
    simp only [List.set_cons_succ, List.set_cons_zero]
    walk_at "dl"
    refine ⟨a, 26, y, _, rfl, cset_same, hy, by omega, by omega, by omega, fun r y2 r0 r1 hy2 => ?_⟩
    walk_at "dl"
    have h26 := q_ab
    have hlen26 := congrArg List.length h26
    rw [atI_at _ r.toNat (by omega), List.getElem?_eq_getElem (by show r.toNat < (tl _).length; rw [hlen26]; simp only [List.length_cons, List.length_nil]; omega), opt_some, cset_cset]
    refine ⟨by decide +kernel, by rw [S_len]; show l.length + (S [_]).length ≤ _; rw [S_len]; simp only [List.length_cons, List.length_nil]; omega, .of ⟨l ++ [(tl (Str.ofString "abcdefghijklmnopqrstuvwxyz"))[r.toNat]'(by rw [hlen26]; simp only [List.length_cons, List.length_nil]; omega)], y2, _, by simp, ?_, hy2, rfl, by rw [← S_app]; rfl⟩⟩
    intro c hc
    have hc : c ∈ l ++ [_] := hc
    rcases List.mem_append.mp hc with hc | hc
    · exact hl c hc
    · rw [List.mem_singleton.mp hc]
      exact decide_eq_true (List.getElem_mem _)
  · rintro ρ C' ⟨l, y, o, hll, hl, hy, rfl, rfl⟩
    rw [List.length_map, List.length_range] at hll hy
    refine hNX _ _ ?_
    walk_at "dl"
    exact fin (h l y hl (by omega) (by omega) (hy.mono (by omega)))
def sp__law_wait : DSp := fun ds C Q => ∃ a x N, ds = [.cell a] ∧ C a = some x ∧ PU N x ∧ N ≤ 50000 ∧ ∀ (z : Int) y, z.natAbs < 10 ^ 15 → PU (N + 15) y → Q (.int z) (cset C a y)
theorem ok__law_wait (T : Txt K mg) : Fn P w K mg base 4 (fa mg "_law_wait") [] sp__law_wait := by
  have G__law_draw := ok__law_draw (P := P) (w := w) (base := base) T
  have G__law_one_of := ok__law_one_of (P := P) (w := w) (base := base) T
  refine fn_df T.d__law_wait sc__law_wait (fun ds C Q h => ?_) (fun cdv A outer s H E hr => ?_)
  · (obtain ⟨_, _, _, rfl, _⟩ := h; rfl)
  have hu := hr.units
  have hu1 := hu_of hr
  have nd := sc__law_wait.nd
  refine ⟨_, (ds_cons (ds_set (i := 1) nd (de_lst (da_cons dc_int (da_cons dc_int (da_cons dc_int (da_cons dc_int (da_cons dc_int (da_cons (de_un dc_int) (da_cons (de_un dc_int) (da_cons (de_op op_sub ops_I0 (de_call G__law_draw T.d__law_draw.m (hr.mono (by omega)) (da_cons (dv 0) (da_cons dc_int da_nil))) dc_int) da_nil))))))))))
    (ds_cons (ds_set (i := 1) nd (de_op op_addA ops_add (dv 1) (de_lst (da_cons (de_op op_sub ops_I0 (de_call G__law_draw T.d__law_draw.m (hr.mono (by omega)) (da_cons (dv 0) (da_cons (de_op op_powW ops_I dc_int dc_int) da_nil))) (de_op op_powW ops_I dc_int dc_int)) (da_cons (de_op op_addA ops_add (de_op op_powW ops_I dc_int dc_int) (de_call G__law_draw T.d__law_draw.m (hr.mono (by omega)) (da_cons (dv 0) (da_cons dc_int da_nil)))) da_nil)))))
    (ds_one (ds_ret (de_call G__law_one_of T.d__law_one_of.m (hr.mono (by omega)) (da_cons (dv 0) (da_cons (de_sl (dv 1) dp_none (dp_some (de_op op_addA ops_add dc_int (de_call G__law_draw T.d__law_draw.m (hr.mono (by omega)) (da_cons (dv 0) (da_cons dc_int da_nil)))))) da_nil))))))), fun ds C Q h => ?_⟩
  obtain ⟨a, x, N, rfl, hc, hx, hN, h⟩ := h
  rw [show startD N__law_wait [.cell a] = [some (.cell a), none] from rfl]
  refine seq_g fun NX hNX => ?_
  walk_at "dl"
  refine ⟨a, 19, x, N, rfl, hc, hx, by omega, by omega, by omega, fun r1 y1 r10 r11 hy1 => ?_⟩
  walk_at "dl"
  refine hNX _ _ ?_
  clear hNX
  refine seq_g fun NX hNX => ?_
  walk_at "dl"
  refine ⟨by unfold CPowW; decide +kernel, a, _, y1, _, rfl, cset_same, hy1, by decide, by decide, by omega, fun r2 y2 r20 r21 hy2 => ?_⟩
  walk_at "dl"
  refine ⟨by unfold CPowW; decide +kernel, by unfold CPowW; decide +kernel, a, _, y2, _, rfl, by rw [cset_cset, cset_same], hy2, by decide, by decide, by omega, fun r3 y3 r30 r31 hy3 => ?_⟩
  walk_at "dl"
  refine hNX _ _ ?_
  clear hNX
  simp only [cset_cset]
  walk_at "dl"
  refine ⟨a, _, y3, _, rfl, cset_same, hy3, by decide, by decide, by omega, fun r4 y4 r40 r41 hy4 => ?_⟩
  walk_at "dl"
  refine ⟨a, _, y4, _, rfl, cset_same, hy4, ?_, Nat.le_trans (cut_len _ _ _) (by simp), by omega, fun d y5 hd hy5 => ?_⟩
  · obtain ⟨k, rfl⟩ := Int.eq_ofNat_of_zero_le r40
    intro h
    have := congrArg List.length h
    rw [show (7 : Int) + (k : Int) = ((7 + k : Nat) : Int) by omega] at this
    unfold cutD at this
    rw [HT.sIx_nat, HT.sIx_none, List.length_take] at this
    simp only [List.drop_zero, List.length_cons, List.length_nil] at this
    omega
  · have hd := cut_mem hd
    simp only [cset_cset]
    have hy6 := hy5.mono (by omega : N + 3 + 3 + 3 + 3 + 3 ≤ N + 15)
    have go : ∀ z : Int, z.natAbs < 10 ^ 15 → d = .int z → ∃ C'', Gh (cset C a y5) C'' ∧ Q d C'' := fun z hz e => by
      subst e
      exact fin (h z y5 hz hy6)
    simp only [List.mem_cons, List.not_mem_nil, or_false] at hd
    rcases hd with e | e | e | e | e | e | e | e | e | e
    all_goals exact go _ (by omega) e
end

end K94

set_option Elab.async false
set_option linter.all false
set_option maxRecDepth 100000
set_option maxHeartbeats 1000000
namespace K94
open PySem L2 DL
local macro_rules | `(tactic| walk_at "dl") => `(tactic| simp only [dSeq, dIfS, dOr, dAnd, dNot, dTest, dCB, d1, d2, kIsi, kIsO, kLen, kStr, kIntT, kAbs, kI2, kSum, dCons, dNil, dVar, dC, slot, tyD, opt_some, kitB_ss, kitB_is, kitB_ii, kitB_ib, kitB_si, kitB_tt, kitB_ll, kitB_dd, kitB_tl, kitB_lt, kitB_ts, kitB_bb, kitB_bi,
  vw_non, vw_bl, vw_i, vw_s, vw_l, vw_t, vw_d, vw_n, vw_f, vw_v, asB, dAndV, dOrV, dNotV, dIf, dOp, dI2, dSub, dMul, dFdiv, dMod, dPow, dLt, dLe, dGt, dGe, dAdd, dRet, dRetN, dNext, dLst, dTup, dLstC, dCall, dDrop, dAsg, dName, dPar, dSets, dGTup, dIx, dSl, dPart, dNoP, dInN, dIsN, dEqN, dNeg, dFz, frz1, dFzS, dFld, dSetFld, dMth, dMake, dCallL, dChain, endsOf, dLcL, dLcS, dLcR1, dYes, dBM, mAppend, mInsert, mStarts3, mJoin, tyM, dBits, dForL, dForT, dForR1, int1, dDGet, dDIn, dDPut, dDGet2, kDict0, keyOf, kListOf, kRepr, dEqP, kMax, kMin, isN, fget, fput,
  List.set_cons_zero, List.set_cons_succ, List.length_cons, List.length_nil, Bool.not_true, Bool.not_false, List.append_nil,
  if_true, if_false, Bool.false_eq_true, Bool.true_eq_false, ite_true, ite_false, true_and, and_true, reduceIte, List.nil_append, List.cons_append, atI_0, atI_1, atI_2, atI_3, atI_m1, List.getElem?_cons_zero, List.getElem?_cons_succ, List.getLast?_cons_cons, List.getLast?_singleton, Nat.zero_add, Nat.reduceAdd, Int.cast_ofNat_Int, Int.natCast_add, Int.natCast_one, Nat.reduceLeDiff, Int.reduceLT, Int.reduceLE, Int.reduceEq, decide_true, decide_false, Int.reduceAdd, Int.reduceNeg, Int.reduceSub, Int.reduceToNat, eq_self, ne_eq, not_true_eq_false, not_false_eq_true, List.map_cons, List.map_nil, Option.getD_some, Option.getD_none, Option.isSome_some, Option.isSome_none])
open TL PySem.NumText
section
/-! what the law makes of a list of terms -/
def overs (ts : List Tm) : List Tm := .nd .first ts :: .nd .last ts :: (List.range ts.length).map fun (i : Nat) => .nd (.rank ((i : Int) + 1)) ts
def Gd (d L : Nat) (t : Tm) : Prop := WF t ∧ hle d t ∧ (txtL t).length ≤ L
theorem joinL_le {L : Nat} : ∀ ls : List (List Nat), (∀ l ∈ ls, l.length ≤ L) → (joinL cs ls).length ≤ ls.length * (L + 2)
  | [], _ => by simp [joinL]
  | [p], h => by
    have := h p (by simp)
    simp only [joinL, List.length_cons, List.length_nil]
    omega
  | p :: q :: r, h => by
    have h1 := h p (by simp)
    have h2 := joinL_le (q :: r) fun l hl => h l (by simp [hl])
    simp only [joinL, List.length_append, show cs.length = 2 from rfl, List.length_cons] at h2 ⊢
    rw [Nat.succ_mul]
    omega
theorem nd_good {ts : List Tm} {d L : Nat} (kd : Kd) (h : ∀ t ∈ ts, Gd d L t) (h1 : 1 ≤ ts.length) (h2 : ts.length ≤ 2) (hk : kdOk kd ts.length) : Gd (d + 1) (2 * L + 30) (.nd kd ts) := by
  refine ⟨?_, ?_, ?_⟩
  · simp only [WF]
    exact ⟨fun e => by rw [e] at h1; simp at h1, by omega, hk, WFs_of fun t ht => (h t ht).1⟩
  · simp only [hle]
    exact fun t ht => (h t ht).2.1
  · have hj := joinL_le (L := L) (ts.map txtL) fun l hl => by
      obtain ⟨t, ht, rfl⟩ := List.mem_map.mp hl
      exact (h t ht).2.2
    rw [List.length_map] at hj
    have hm : ts.length * (L + 2) ≤ 2 * (L + 2) := Nat.mul_le_mul_right _ h2
    have hkl : (kdL kd).length ≤ 21 := by
      cases kd with
      | first => simp [kdL]
      | last => simp [kdL]
      | rank k =>
        have := numZ_len (w := k) (by simp only [kdOk] at hk; omega)
        simp only [kdL, List.length_append, List.length_cons, List.length_nil]
        omega
    simp only [txtL, txtsL_map, List.length_append, List.length_cons, List.length_nil]
    omega
theorem overs_good {ts : List Tm} {d L : Nat} (h : ∀ t ∈ ts, Gd d L t) (h1 : 1 ≤ ts.length) (h2 : ts.length ≤ 2) : ∀ t ∈ overs ts, Gd (d + 1) (2 * L + 30) t := by
  intro t ht
  unfold overs at ht
  simp only [List.mem_cons, List.mem_map, List.mem_range] at ht
  rcases ht with rfl | rfl | ⟨i, hi, rfl⟩
  · exact nd_good _ h h1 h2 trivial
  · exact nd_good _ h h1 h2 trivial
  · exact nd_good _ h h1 h2 (by simp only [kdOk]; omega)
theorem overs_len (ts : List Tm) : (overs ts).length = ts.length + 2 := by simp [overs]
theorem Gd.mono {d L d' L' : Nat} {t : Tm} (h : Gd d L t) (a : d ≤ d') (b : L ≤ L') : Gd d' L' t := ⟨h.1, hle_mono h.2.1 a, Nat.le_trans h.2.2 b⟩
variable {P : Program} {w : World} {K : PySem.W.Frag} {mg : Str → Option Value} {base : Heap}
def dPlus : D → D
  | .int i => .int (i + 1)
  | d => d
def sp__law_over : DSp := fun ds C Q => ∃ ts, ds = [.lst (ts.map toD)] ∧ ts.length ≤ 1000 ∧ Q (.lst ((overs ts).map toD)) C
theorem ok__law_over (T : Txt K mg) : Fn P w K mg base 1 (fa mg "_law_over") [] sp__law_over := by
  refine fn_df T.d__law_over sc__law_over (fun ds C Q h => ?_) (fun cdv A outer s H E hr => ?_)
  · (obtain ⟨_, rfl, _⟩ := h; rfl)
  have hu := hr.units
  have hu1 := hu_of hr
  have nd := sc__law_over.nd
  refine ⟨_, (ds_cons (ds_set (i := 1) nd (de_lst (da_cons (de_tup (da_cons dc_str (da_cons (dv 0) da_nil))) (da_cons (de_tup (da_cons dc_str (da_cons (dv 0) da_nil))) da_nil))))
    (ds_one (ds_ret (de_op op_addA ops_add (dv 1) (de_lcR1 rfl nd T.range (da_cons (de_cb call_lenA cl_len T.len bt_len (da_cons (dv 0) da_nil)) da_nil) (by first | (change blkC N__law_over (defScope s__law_over) _ _ = true; decide +kernel) | rfl) (fun _ _ _ _ _ => pg_name (i := 2) nd rfl (Or.inl rfl)) (fun _ _ _ _ _ => dp_nil) (fun _ _ _ _ _ => (de_tup (da_cons dc_str (da_cons (de_op op_addA ops_add (dv 2) dc_int) (da_cons (dv 0) da_nil)))))))))), fun ds C Q h => ?_⟩
  obtain ⟨ts, rfl, hl, h⟩ := h
  rw [show startD N__law_over [.lst (ts.map toD)] = [some (.lst (ts.map toD)), none, none] from rfl]
  refine seq_g fun NX hNX => ?_
  walk_at "dl"
  refine hNX _ _ ?_
  clear hNX
  walk_at "dl"
  rw [List.length_map, Int.toNat_natCast]
  refine ⟨by omega, by omega, compN_map (fun d => .tup [.str "rank", dPlus d, .lst (ts.map toD)]) (by simp; omega) (fun i d P' e p => ?_) ?_⟩
  · rw [List.getElem?_map] at e
    cases e2 : (List.range ts.length)[i]? with
    | none => rw [e2] at e; cases e
    | some j =>
      rw [e2] at e
      cases e
      walk_at "dl"
      exact p
  · walk_at "dl"
    refine ⟨by simp only [List.length_map, List.length_range]; omega, ?_⟩
    have e : (overs ts).map toD = [D.tup [D.str (Str.ofString "first"), D.lst (List.map toD ts)], D.tup [D.str (Str.ofString "last"), D.lst (List.map toD ts)]] ++ ((List.range ts.length).map fun (i : Nat) => D.int (i : Int)).map (fun d => .tup [.str "rank", dPlus d, .lst (ts.map toD)]) := by
      unfold overs
      rw [List.map_cons, List.map_cons, List.map_map, List.map_map]
      simp only [toD, toDs_map, ndD]
      congr 3
      funext i
      simp [toD, toDs_map, ndD, dPlus]
    rw [e] at h
    exact fin h
def nameD (d : D) : Prop := ∃ l, d = .str (S l) ∧ letters (S l) ∧ 1 ≤ l.length ∧ l.length ≤ 8
def sp__law_terms : DSp := fun ds C Q => ∃ a x N, ds = [.cell a] ∧ C a = some x ∧ PU N x ∧ N ≤ 1000 ∧ ∀ (ts : List Tm) y, 1 ≤ ts.length → ts.length ≤ 1000 → (∀ t ∈ ts, Gd 2 300 t) → PU (N + 100) y → Q (.lst (ts.map toD)) (cset C a y)
theorem ok__law_terms (T : Txt K mg) : Fn P w K mg base 6 (fa mg "_law_terms") [] sp__law_terms := by
  have G__law_shuffled := ok__law_shuffled (P := P) (w := w) (base := base) T
  have G__law_word := ok__law_word (P := P) (w := w) (base := base) T
  have G__law_wait := ok__law_wait (P := P) (w := w) (base := base) T
  have G__law_over := ok__law_over (P := P) (w := w) (base := base) T
  refine fn_df T.d__law_terms sc__law_terms (fun ds C Q h => ?_) (fun cdv A outer s H E hr => ?_)
  · (obtain ⟨_, _, _, rfl, _⟩ := h; rfl)
  have hu := hr.units
  have hu1 := hu_of hr
  have nd := sc__law_terms.nd
  refine ⟨_, (ds_cons (ds_par (i := 1) (j := 2) rfl nd (da_cons (de_sl (de_call G__law_shuffled T.d__law_shuffled.m (hr.mono (by omega)) (da_cons (dv 0) (da_cons (de_lst (da_cons dc_str (da_cons dc_str (da_cons dc_str (da_cons dc_str (da_cons (de_call G__law_word T.d__law_word.m (hr.mono (by omega)) (da_cons (dv 0) da_nil)) da_nil)))))) da_nil))) dp_none (dp_some dc_int)) (da_cons (de_lst (da_cons dc_int (da_cons (de_call G__law_wait T.d__law_wait.m (hr.mono (by omega)) (da_cons (dv 0) da_nil)) da_nil))) da_nil)))
    (ds_cons (ds_set (i := 3) nd (de_lst da_nil))
    (ds_cons (ds_forT rfl (de_tup (da_cons dc_str (da_cons dc_str da_nil))) (dg_name (i := 4) nd) (ds_one (ds_forL rfl (dv 1) (dg_name (i := 5) nd) (ds_one (ds_set (i := 3) nd (de_op op_addA ops_add (dv 3) (de_lcL rfl nd (dv 2) (by first | (change blkC N__law_terms (defScope s__law_terms) _ _ = true; decide +kernel) | rfl) (fun _ _ _ _ _ => pg_name (i := 10) nd rfl (Or.inl rfl)) (fun _ _ _ _ _ => dp_nil) (fun _ _ _ _ _ => (de_tup (da_cons (dv 4) (da_cons (dv 5) (da_cons (dv 10) da_nil))))))))))))
    (ds_cons (ds_set (i := 6) nd (de_ct call_list_of cl_listOf T.list bt_list (da_cons (dv 3) da_nil)))
    (ds_cons (ds_forL rfl (dv 3) (dg_name (i := 7) nd) (ds_one (ds_set (i := 6) nd (de_op op_addA ops_add (dv 6) (de_call G__law_over T.d__law_over.m (hr.mono (by omega)) (da_cons (de_lst (da_cons (dv 7) da_nil)) da_nil))))))
    (ds_cons (ds_forL rfl (de_sl (dv 3) dp_none (dp_some dc_int)) (dg_name (i := 7) nd) (ds_one (ds_forL rfl (de_sl (dv 3) (dp_some dc_int) (dp_some dc_int)) (dg_name (i := 8) nd) (ds_one (ds_set (i := 6) nd (de_op op_addA ops_add (dv 6) (de_call G__law_over T.d__law_over.m (hr.mono (by omega)) (da_cons (de_lst (da_cons (dv 7) (da_cons (dv 8) da_nil))) da_nil))))))))
    (ds_cons (ds_forL rfl (de_call G__law_over T.d__law_over.m (hr.mono (by omega)) (da_cons (de_lst (da_cons (de_ix (dv 3) dc_int) (da_cons (de_ix (dv 3) dc_int) da_nil))) da_nil)) (dg_name (i := 9) nd) (ds_one (ds_set (i := 6) nd (de_op op_addA ops_add (de_op op_addA ops_add (de_op op_addA ops_add (dv 6) (de_call G__law_over T.d__law_over.m (hr.mono (by omega)) (da_cons (de_lst (da_cons (dv 9) da_nil)) da_nil))) (de_call G__law_over T.d__law_over.m (hr.mono (by omega)) (da_cons (de_lst (da_cons (dv 9) (da_cons (de_ix (dv 3) (de_un dc_int)) da_nil))) da_nil))) (de_call G__law_over T.d__law_over.m (hr.mono (by omega)) (da_cons (de_lst (da_cons (de_ix (dv 3) (de_un dc_int)) (da_cons (dv 9) da_nil))) da_nil))))))
    (ds_one (ds_ret (dv 6)))))))))), fun ds C Q h => ?_⟩
  obtain ⟨a, x, N, rfl, hc, hx, hN, h⟩ := h
  rw [show startD N__law_terms [.cell a] = [some (.cell a), none, none, none, none, none, none, none, none, none, none] from rfl]
  refine seq_g fun NX hNX => ?_
  walk_at "dl"
  refine ⟨a, x, N, rfl, hc, hx, by omega, fun l y hl h1 h8 hy => ?_⟩
  walk_at "dl"
  refine ⟨a, _, y, _, rfl, cset_same, hy, by simp, by omega, fun zs y2 hzl hz hy2 => ?_⟩
  have hnm : ∀ d ∈ zs, nameD d := fun d hd => by
    have := hz d hd
    simp only [List.mem_cons, List.not_mem_nil, or_false] at this
    rcases this with rfl | rfl | rfl | rfl | rfl
    · exact ⟨[110, 111, 119], by rw [q_now], by intro c hc; rw [letter_iff]; have hc : c ∈ [110, 111, 119] := hc; simp only [List.mem_cons, List.not_mem_nil, or_false] at hc; omega, by decide, by decide⟩
    · exact ⟨[114, 97, 110, 107], by rw [q_rank], by intro c hc; rw [letter_iff]; have hc : c ∈ [114, 97, 110, 107] := hc; simp only [List.mem_cons, List.not_mem_nil, or_false] at hc; omega, by decide, by decide⟩
    · exact ⟨[102, 105, 114, 115, 116], by rw [q_first], by intro c hc; rw [letter_iff]; have hc : c ∈ [102, 105, 114, 115, 116] := hc; simp only [List.mem_cons, List.not_mem_nil, or_false] at hc; omega, by decide, by decide⟩
    · exact ⟨[97], by rw [show ("a" : Str) = S [97] by decide +kernel], by intro c hc; rw [letter_iff]; have hc : c ∈ [97] := hc; simp only [List.mem_cons, List.not_mem_nil, or_false] at hc; omega, by decide, by decide⟩
    · exact ⟨l, rfl, hl, h1, h8⟩
  obtain ⟨n1, n2, zr, rfl⟩ : ∃ n1 n2 zr, zs = n1 :: n2 :: zr := by
    match zs, hzl with
    | n1 :: n2 :: zr, _ => exact ⟨n1, n2, zr, rfl⟩
    | [], h => simp at h
    | [x], h => simp at h
  have hn1 := hnm n1 (by simp)
  have hn2 := hnm n2 (by simp)
  clear hnm hz
  have ecut : cutD (n1 :: n2 :: zr) none (some 2) = [n1, n2] := by
    unfold cutD
    rw [show (2 : Int) = ((2 : Nat) : Int) from rfl, HT.sIx_nat, HT.sIx_none, List.drop_zero, Nat.sub_zero, Nat.min_eq_left (by simp)]
    rfl
  walk_at "dl"
  rw [ecut]
  refine ⟨a, y2, _, rfl, by rw [cset_cset, cset_same], hy2, by simp; omega, fun wz y3 hwz hy3 => ?_⟩
  walk_at "dl"
  refine hNX _ _ ?_
  clear hNX
  simp only [cset_cset]
  refine seq_g fun NX hNX => ?_
  walk_at "dl"
  refine hNX _ _ ?_
  clear hNX
  refine seq_g fun NX hNX => ?_
  walk_at "dl"
  refine ⟨fun i ρ C' => C' = cset C a y3 ∧ ∃ (ps : List Tm), ∃ o4 o5, ps.length = 4 * i ∧ (∀ t ∈ ps, Gd 0 30 t) ∧ ρ = [some (.cell a), some (.lst [n1, n2]), some (.lst [.int 0, .int wz]), some (.lst (ps.map toD)), o4, o5, none, none, none, none, none], ⟨rfl, [], _, _, rfl, by simp, rfl⟩, ?_, ?_⟩
  · rintro i d ρ C' e ⟨rfl, ps, o4, o5, hpl, hps, rfl⟩
    have hb : ∃ b, d = .str (wordOf b) := by
      match i, e with
      | 0, e => cases e; exact ⟨false, rfl⟩
      | 1, e => cases e; exact ⟨true, rfl⟩
      | i + 2, e => simp at e
    obtain ⟨b, rfl⟩ := hb
    have hi : i < 2 := (List.getElem?_eq_some_iff.mp e).1
    refine name_g ?_
    simp only [List.set_cons_succ, List.set_cons_zero]
    walk_at "dl"
    refine ⟨fun j ρ C' => C' = cset C a y3 ∧ ∃ (ps : List Tm), ∃ o5, ps.length = 4 * i + 2 * j ∧ (∀ t ∈ ps, Gd 0 30 t) ∧ ρ = [some (.cell a), some (.lst [n1, n2]), some (.lst [.int 0, .int wz]), some (.lst (ps.map toD)), some (.str (wordOf b)), o5, none, none, none, none, none], ⟨rfl, ps, _, hpl, hps, rfl⟩, ?_, ?_⟩
    · rintro j d ρ C' e ⟨rfl, ps, o5, hpl, hps, rfl⟩
      have hj : j < 2 := (List.getElem?_eq_some_iff.mp e).1
      have hd : nameD d := by
        match j, e with
        | 0, e => cases e; exact hn1
        | 1, e => cases e; exact hn2
        | j + 2, e => simp at e
      obtain ⟨m, rfl, hm, hm1, hm8⟩ := hd
      refine name_g ?_
      simp only [List.set_cons_succ, List.set_cons_zero]
      walk_at "dl"
      refine compN_map (fun d => .tup [.str (wordOf b), .str (S m), d]) (by simp) (fun i d P' e p => ?_) ?_
      · walk_at "dl"
        exact p
      · walk_at "dl"
        have hg : ∀ z : Int, z.natAbs < 10 ^ 15 → Gd 0 30 (.pt b (S m) z) := fun z hz => ⟨by simp only [WF]; exact ⟨hm, by rw [S_len]; omega, by rw [S_len]; omega, hz⟩, by simp [hle], by
          have := numZ_len hz
          simp only [txtL, tl_S, List.length_append, List.length_cons]
          cases b <;> simp [nowL] <;> omega⟩
        refine ⟨by rw [List.length_map]; omega, .of ⟨rfl, ps ++ [.pt b (S m) 0, .pt b (S m) wz], _, by rw [List.length_append, hpl]; simp; omega, fun t ht => ?_, by rw [List.map_append]; simp only [List.map_cons, List.map_nil, toD]; rfl⟩⟩
        rcases List.mem_append.mp ht with ht | ht
        · exact hps t ht
        · simp only [List.mem_cons, List.not_mem_nil, or_false] at ht
          rcases ht with rfl | rfl
          · exact hg 0 (by decide)
          · exact hg wz hwz
    · rintro ρ C' ⟨rfl, ps, o5, hpl, hps, rfl⟩
      exact .of ⟨rfl, ps, _, _, by rw [hpl]; simp; omega, hps, rfl⟩
  · rintro ρ C' ⟨rfl, ps, o4, o5, hpl, hps, rfl⟩
    refine hNX _ _ ?_
    clear hNX
    refine seq_g fun NX hNX => ?_
    walk_at "dl"
    refine hNX _ _ ?_
    clear hNX
    have hpl : ps.length = 8 := hpl
    refine seq_g fun NX hNX => ?_
    walk_at "dl"
    have hps2 : ∀ t ∈ ps, Gd 2 300 t := fun t ht => (hps t ht).mono (by omega) (by omega)
    -- one part over
    refine ⟨fun i ρ C' => C' = cset C a y3 ∧ ∃ (fs : List Tm), ∃ o7, fs.length = 8 + 3 * i ∧ (∀ t ∈ fs, Gd 2 300 t) ∧ ρ = [some (.cell a), some (.lst [n1, n2]), some (.lst [.int 0, .int wz]), some (.lst (ps.map toD)), o4, o5, some (.lst (fs.map toD)), o7, none, none, none],
      ⟨rfl, ps, _, by omega, hps2, rfl⟩, ?_, ?_⟩
    · rintro i d ρ C' e ⟨rfl, fs, o7, hfl, hfs, rfl⟩
      obtain ⟨t, ht, rfl⟩ := map_get e
      have hi := (List.getElem?_eq_some_iff.mp e).1
      rw [List.length_map] at hi
      refine name_g ?_
      simp only [List.set_cons_succ, List.set_cons_zero]
      walk_at "dl"
      refine ⟨[t], rfl, by simp, ?_⟩
      walk_at "dl"
      refine ⟨by rw [List.length_map, List.length_map, overs_len]; simp only [List.length_cons, List.length_nil]; omega, .of ⟨rfl, fs ++ overs [t], _, by rw [List.length_append, overs_len, hfl]; simp only [List.length_cons, List.length_nil]; omega, fun u hu => ?_, by rw [List.map_append]⟩⟩
      rcases List.mem_append.mp hu with hu | hu
      · exact hfs u hu
      · exact (overs_good (d := 0) (L := 30) (fun v hv => by rw [List.mem_singleton.mp hv]; exact hps t ht) (by simp) (by simp) u hu).mono (by omega) (by omega)
    rintro ρ C' ⟨rfl, fs, o7, hfl, hfs, rfl⟩
    rw [List.length_map, hpl] at hfl
    refine hNX _ _ ?_
    clear hNX
    refine seq_g fun NX hNX => ?_
    walk_at "dl"
    -- two parts over
    refine ⟨fun i ρ C' => C' = cset C a y3 ∧ ∃ (fs : List Tm), ∃ o7 o8, 1 ≤ fs.length ∧ fs.length ≤ 32 + 32 * i ∧ (∀ t ∈ fs, Gd 2 300 t) ∧ ρ = [some (.cell a), some (.lst [n1, n2]), some (.lst [.int 0, .int wz]), some (.lst (ps.map toD)), o4, o5, some (.lst (fs.map toD)), o7, o8, none, none],
      ⟨rfl, fs, _, _, by omega, by omega, hfs, rfl⟩, ?_, ?_⟩
    · rintro i d ρ C' e ⟨rfl, fs, o7, o8, hf1, hfl, hfs, rfl⟩
      obtain ⟨t, ht, rfl⟩ := List.mem_map.mp (cut_mem (List.mem_of_getElem? e))
      have hi := (List.getElem?_eq_some_iff.mp e).1
      have hcl := cut_len (ps.map toD) none (some 3)
      rw [List.length_map] at hcl
      refine name_g ?_
      simp only [List.set_cons_succ, List.set_cons_zero]
      walk_at "dl"
      refine ⟨fun j ρ C' => C' = cset C a y3 ∧ ∃ (fs : List Tm), ∃ o8, 1 ≤ fs.length ∧ fs.length ≤ 32 + 32 * i + 4 * j ∧ (∀ t ∈ fs, Gd 2 300 t) ∧ ρ = [some (.cell a), some (.lst [n1, n2]), some (.lst [.int 0, .int wz]), some (.lst (ps.map toD)), o4, o5, some (.lst (fs.map toD)), some (toD t), o8, none, none],
        ⟨rfl, fs, _, hf1, hfl, hfs, rfl⟩, ?_, ?_⟩
      · rintro j d ρ C' e ⟨rfl, fs, o8, hf1, hfl, hfs, rfl⟩
        obtain ⟨t2, ht2, rfl⟩ := List.mem_map.mp (cut_mem (List.mem_of_getElem? e))
        have hj := (List.getElem?_eq_some_iff.mp e).1
        have hcl2 := cut_len (ps.map toD) (some 2) (some 5)
        rw [List.length_map] at hcl2
        refine name_g ?_
        simp only [List.set_cons_succ, List.set_cons_zero]
        walk_at "dl"
        refine ⟨[t, t2], rfl, by simp, ?_⟩
        walk_at "dl"
        refine ⟨by rw [List.length_map, List.length_map, overs_len]; simp only [List.length_cons, List.length_nil]; omega, .of ⟨rfl, fs ++ overs [t, t2], _, by rw [List.length_append]; omega, by rw [List.length_append, overs_len]; simp only [List.length_cons, List.length_nil]; omega, fun u hu => ?_, by rw [List.map_append]⟩⟩
        rcases List.mem_append.mp hu with hu | hu
        · exact hfs u hu
        · exact (overs_good (d := 0) (L := 30) (fun v hv => by
            simp only [List.mem_cons, List.not_mem_nil, or_false] at hv
            rcases hv with rfl | rfl
            · exact hps _ ht
            · exact hps _ ht2) (by simp) (by simp) u hu).mono (by omega) (by omega)
      · rintro ρ C' ⟨rfl, fs, o8, hf1, hfl, hfs, rfl⟩
        have hcl2 := cut_len (ps.map toD) (some 2) (some 5)
        rw [List.length_map] at hcl2
        exact .of ⟨rfl, fs, _, _, hf1, by omega, hfs, rfl⟩
    rintro ρ C' ⟨rfl, fs, o7, o8, hf1, hfl, hfs, rfl⟩
    have hcl := cut_len (ps.map toD) none (some 3)
    rw [List.length_map] at hcl
    refine hNX _ _ ?_
    clear hNX
    refine seq_g fun NX hNX => ?_
    obtain ⟨p0, e0⟩ : ∃ p0, ps[0]? = some p0 := ⟨_, List.getElem?_eq_getElem (by omega)⟩
    obtain ⟨p1, e1⟩ : ∃ p1, ps[1]? = some p1 := ⟨_, List.getElem?_eq_getElem (by omega)⟩
    obtain ⟨pl, el⟩ : ∃ pl, ps.getLast? = some pl := ⟨_, List.getLast?_eq_some_getLast (fun e => by rw [e] at hpl; simp at hpl)⟩
    have m0 := hps p0 (List.mem_of_getElem? e0)
    have m1 := hps p1 (List.mem_of_getElem? e1)
    have ml := hps pl (List.mem_of_getLast? el)
    have f0 : (ps.map toD)[0]? = some (toD p0) := by rw [List.getElem?_map, e0]; rfl
    have f1 : (ps.map toD)[1]? = some (toD p1) := by rw [List.getElem?_map, e1]; rfl
    have fl : (ps.map toD).getLast? = some (toD pl) := by rw [List.getLast?_map, el]; rfl
    walk_at "dl"
    simp only [f0, f1, opt_some]
    refine ⟨[p0, p1], rfl, by simp, ?_⟩
    walk_at "dl"
    have mo := overs_good (ts := [p0, p1]) (d := 0) (L := 30) (fun v hv => by
      simp only [List.mem_cons, List.not_mem_nil, or_false] at hv
      rcases hv with rfl | rfl
      · exact m0
      · exact m1) (by simp) (by simp)
    have lo : (overs [p0, p1]).length = 4 := overs_len _
    generalize overs [p0, p1] = os at mo lo ⊢
    refine ⟨fun i ρ C' => C' = cset C a y3 ∧ ∃ (fs : List Tm), ∃ o9, 1 ≤ fs.length ∧ fs.length ≤ 288 + 11 * i ∧ (∀ t ∈ fs, Gd 2 300 t) ∧ ρ = [some (.cell a), some (.lst [n1, n2]), some (.lst [.int 0, .int wz]), some (.lst (ps.map toD)), o4, o5, some (.lst (fs.map toD)), o7, o8, o9, none],
      ⟨rfl, fs, _, hf1, by omega, hfs, rfl⟩, ?_, ?_⟩
    · rintro i d ρ C' e ⟨rfl, fs, o9, hf1, hfl, hfs, rfl⟩
      obtain ⟨t, ht, rfl⟩ := map_get e
      have hi := (List.getElem?_eq_some_iff.mp e).1
      rw [List.length_map, lo] at hi
      have mt := mo t ht
      have ml' := ml.mono (by omega : 0 ≤ 1) (by omega : 30 ≤ 90)
      refine name_g ?_
      simp only [List.set_cons_succ, List.set_cons_zero]
      walk_at "dl"
      refine ⟨[t], rfl, by simp, ?_⟩
      walk_at "dl"
      simp only [fl, opt_some]
      refine ⟨by rw [List.length_map, List.length_map, overs_len]; simp only [List.length_cons, List.length_nil]; omega, [t, pl], rfl, by simp, ?_⟩
      walk_at "dl"
      refine ⟨by simp only [List.length_append, List.length_map, overs_len, List.length_cons, List.length_nil]; omega, [pl, t], rfl, by simp, ?_⟩
      walk_at "dl"
      refine ⟨by simp only [List.length_append, List.length_map, overs_len, List.length_cons, List.length_nil]; omega, .of ⟨rfl, fs ++ overs [t] ++ overs [t, pl] ++ overs [pl, t], _, by simp only [List.length_append]; omega, by simp only [List.length_append, overs_len, List.length_cons, List.length_nil]; omega, fun u hu => ?_, by simp only [List.map_append]; rfl⟩⟩
      have two : ∀ us : List Tm, (∀ v ∈ us, v = t ∨ v = pl) → 1 ≤ us.length → us.length ≤ 2 → u ∈ overs us → Gd 2 300 u := fun us hus h1 h2 hu =>
        (overs_good (d := 1) (L := 90) (fun v hv => by
          rcases hus v hv with rfl | rfl
          · exact mt
          · exact ml') h1 h2 u hu).mono (by omega) (by omega)
      simp only [List.mem_append] at hu
      rcases hu with ((hu | hu) | hu) | hu
      · exact hfs u hu
      · exact two _ (by simp) (by simp) (by simp) hu
      · exact two _ (by simp) (by simp) (by simp) hu
      · exact two _ (by simp) (by simp) (by simp) hu
    rintro ρ C' ⟨rfl, fs, o9, hf1, hfl, hfs, rfl⟩
    rw [List.length_map, lo] at hfl
    refine hNX _ _ ?_
    walk_at "dl"
    exact fin (h fs y3 hf1 (by omega) hfs (hy3.mono (by simp only [List.length_cons, List.length_nil]; omega)))
end

end K94

set_option Elab.async false
set_option linter.all false
set_option maxRecDepth 100000
set_option maxHeartbeats 1000000
namespace K94
open PySem L2 DL
local macro_rules | `(tactic| walk_at "dl") => `(tactic| simp only [dSeq, dIfS, dOr, dAnd, dNot, dTest, dCB, d1, d2, kIsi, kIsO, kLen, kStr, kIntT, kAbs, kI2, kSum, dCons, dNil, dVar, dC, slot, tyD, opt_some, kitB_ss, kitB_is, kitB_ii, kitB_ib, kitB_si, kitB_tt, kitB_ll, kitB_dd, kitB_tl, kitB_lt, kitB_ts, kitB_bb, kitB_bi,
  vw_non, vw_bl, vw_i, vw_s, vw_l, vw_t, vw_d, vw_n, vw_f, vw_v, asB, dAndV, dOrV, dNotV, dIf, dOp, dI2, dSub, dMul, dFdiv, dMod, dPow, dLt, dLe, dGt, dGe, dAdd, dRet, dRetN, dNext, dLst, dTup, dLstC, dCall, dDrop, dAsg, dName, dPar, dSets, dGTup, dIx, dSl, dPart, dNoP, dInN, dIsN, dEqN, dNeg, dFz, frz1, dFzS, dFld, dSetFld, dMth, dMake, dCallL, dChain, endsOf, dLcL, dLcS, dLcR1, dYes, dBM, mAppend, mInsert, mStarts3, mJoin, tyM, dBits, dForL, dForT, dForR1, int1, dDGet, dDIn, dDPut, dDGet2, kDict0, keyOf, kListOf, kRepr, dEqP, kMax, kMin, isN, fget, fput,
  List.set_cons_zero, List.set_cons_succ, List.length_cons, List.length_nil, Bool.not_true, Bool.not_false, List.append_nil,
  if_true, if_false, Bool.false_eq_true, Bool.true_eq_false, ite_true, ite_false, true_and, and_true, reduceIte, List.nil_append, List.cons_append, atI_0, atI_1, atI_2, atI_3, atI_m1, List.getElem?_cons_zero, List.getElem?_cons_succ, List.getLast?_cons_cons, List.getLast?_singleton, Nat.zero_add, Nat.reduceAdd, Int.cast_ofNat_Int, Int.natCast_add, Int.natCast_one, Nat.reduceLeDiff, Int.reduceLT, Int.reduceLE, Int.reduceEq, decide_true, decide_false, Int.reduceAdd, Int.reduceNeg, Int.reduceSub, Int.reduceToNat, eq_self, ne_eq, not_true_eq_false, not_false_eq_true, List.map_cons, List.map_nil, Option.getD_some, Option.getD_none, Option.isSome_some, Option.isSome_none])
open TL PySem.NumText
/-! ### repr of a term: not long -/
theorem tf_len : ∀ (ts : List Str) (k : Nat) (acc : Str), (textFrom k acc ts).length ≤ acc.length + (ts.map fun t => t.length + 2).sum
  | [], k, acc => by simp [textFrom]
  | t :: ts, k, acc => by
    have ih := tf_len ts (k + 1) (acc ++ (if k > 0 then ", " else "" : String) ++ t)
    have e : (acc ++ (if k > 0 then ", " else "" : String) ++ t).length ≤ acc.length + 2 + t.length := by
      rw [strLen_append, strLen_append]
      split
      · exact Nat.le_refl _
      · show acc.length + 0 + t.length ≤ _
        omega
    simp only [List.map_cons, List.sum_cons]
    show (textFrom (k + 1) _ ts).length ≤ _
    omega
theorem lt_len (ts : List Str) : (listText ts).length ≤ 2 + (ts.map fun t => t.length + 2).sum := by
  have h := tf_len ts 0 "["
  unfold listText
  rw [strLen_append]
  have e1 : ("[" : Str).length = 1 := by decide +kernel
  have e2 : ("]" : Str).length = 1 := by decide +kernel
  omega
theorem jn_len : ∀ ts : List Str, (Str.join ", " ts).length ≤ (ts.map fun t => t.length + 2).sum
  | [] => by simp [Str.join]; decide +kernel
  | [x] => by show x.length ≤ _; simp
  | x :: y :: r => by
    have ih := jn_len (y :: r)
    show (x ++ ", " ++ Str.join ", " (y :: r)).length ≤ _
    rw [strLen_append, strLen_append]
    have e1 : (", " : Str).length = 2 := by decide +kernel
    simp only [List.map_cons, List.sum_cons] at ih ⊢
    omega
theorem tt_len (ts : List Str) : (tupleText ts).length ≤ 3 + (ts.map fun t => t.length + 2).sum := by
  have h := jn_len ts
  unfold tupleText
  rw [strLen_append, strLen_append]
  have e1 : ("(" : Str).length = 1 := by decide +kernel
  have e2 : ((if ts.length == 1 then ",)" else ")" : String) : Str).length ≤ 2 := by
    split
    · decide +kernel
    · decide +kernel
  omega
theorem rp_len {z : Str} (h : ∀ c ∈ z.cps.toList, c < 128) : (reprText z).length ≤ 10 * z.length + 2 := StrLaws.reprText_len z fun c hc => by have := h c hc; omega

theorem shownAll_map : ∀ ds : List PyData, PyData.shownAll ds = ds.map PyData.shown
  | [] => by simp [PyData.shownAll]
  | d :: ds => by simp [PyData.shownAll, shownAll_map ds]
def shT (t : Tm) : Nat := (toPy (toD t)).shown.length
theorem sum_le {α : Type} {f g : α → Nat} : ∀ {xs : List α}, (∀ x ∈ xs, f x ≤ g x) → (xs.map f).sum ≤ (xs.map g).sum
  | [], _ => Nat.le_refl _
  | x :: xs, h => by
    have h1 := h x (by simp)
    have h2 := sum_le (xs := xs) fun y hy => h y (by simp [hy])
    simp only [List.map_cons, List.sum_cons]
    omega
theorem sumL (c : List Nat) : ∀ ls : List (List Nat), (ls.map fun l => l.length).sum ≤ (joinL c ls).length
  | [] => by simp
  | [p] => by simp [joinL]
  | p :: q :: r => by
    have := sumL c (q :: r)
    simp only [List.map_cons, List.sum_cons, joinL, List.length_append] at this ⊢
    omega
theorem lower_ok {z : Str} (h : letters z) : ∀ c ∈ z.cps.toList, c < 128 := fun c hc => letter_lt (h c hc)
theorem sh_str {z : Str} : (PyData.shown (.str z)) = reprText z := by simp [PyData.shown]
theorem sh_int {z : Int} (h : z.natAbs < 10 ^ 15) : (PyData.shown (.int z)).length ≤ 16 := by
  have : PyData.shown (.int z) = S (numZ z) := by simp only [PyData.shown]; exact toS z
  rw [this, S_len]
  exact numZ_len h
theorem mul_sum (k : Nat) : ∀ ns : List Nat, (ns.map fun n => k * n).sum = k * ns.sum
  | [] => rfl
  | n :: ns => by simp only [List.map_cons, List.sum_cons, mul_sum k ns, Nat.mul_add]
theorem kd_sh {kd : Kd} {ts : List Tm} (hk : kdOk kd ts.length) (hl : ts.length ≤ 1000) : (toPy (toD (.nd kd ts))).shown.length ≤ 94 + (ts.map fun t => shT t + 2).sum := by
  have hL := lt_len (ts.map fun t => (toPy (toD t)).shown)
  rw [List.map_map] at hL
  have hL2 : (PyData.shown (toPy (.lst (ts.map toD)))).length ≤ 2 + (ts.map fun t => shT t + 2).sum := by
    simp only [toPy, PyData.shown, shownAll_map, toPys_map, List.map_map]
    exact hL
  have w1 : (reprText ("first" : Str)).length ≤ 52 := rp_len (by rw [q_first]; intro c hc; have hc : c ∈ [102, 105, 114, 115, 116] := hc; simp only [List.mem_cons, List.not_mem_nil, or_false] at hc; omega)
  have w2 : (reprText ("last" : Str)).length ≤ 42 := rp_len (by rw [q_last]; intro c hc; have hc : c ∈ [108, 97, 115, 116] := hc; simp only [List.mem_cons, List.not_mem_nil, or_false] at hc; omega)
  have w3 : (reprText ("rank" : Str)).length ≤ 42 := rp_len (by rw [q_rank]; intro c hc; have hc : c ∈ [114, 97, 110, 107] := hc; simp only [List.mem_cons, List.not_mem_nil, or_false] at hc; omega)
  simp only [toD, toDs_map]
  cases kd with
  | first =>
    have e : toPy (ndD .first (ts.map toD)) = .tuple [.str "first", toPy (.lst (ts.map toD))] := by simp [ndD, toPy, toPys]
    rw [e]
    simp only [PyData.shown, shownAll_map, List.map_cons, List.map_nil]
    have h := tt_len [reprText ("first" : Str), (toPy (.lst (ts.map toD))).shown]
    simp only [List.map_cons, List.map_nil, List.sum_cons, List.sum_nil] at h
    omega
  | last =>
    have e : toPy (ndD .last (ts.map toD)) = .tuple [.str "last", toPy (.lst (ts.map toD))] := by simp [ndD, toPy, toPys]
    rw [e]
    simp only [PyData.shown, shownAll_map, List.map_cons, List.map_nil]
    have h := tt_len [reprText ("last" : Str), (toPy (.lst (ts.map toD))).shown]
    simp only [List.map_cons, List.map_nil, List.sum_cons, List.sum_nil] at h
    omega
  | rank k =>
    have e : toPy (ndD (.rank k) (ts.map toD)) = .tuple [.str "rank", .int k, toPy (.lst (ts.map toD))] := by simp [ndD, toPy, toPys]
    rw [e]
    have hk15 : k.natAbs < 10 ^ 15 := by simp only [kdOk] at hk; omega
    have hi := sh_int hk15
    have h := tt_len [reprText ("rank" : Str), (PyData.int k).shown, (toPy (.lst (ts.map toD))).shown]
    have e2 : (PyData.tuple [.str "rank", .int k, toPy (.lst (ts.map toD))]).shown = tupleText [reprText ("rank" : Str), (PyData.int k).shown, (toPy (.lst (ts.map toD))).shown] := by
      simp only [PyData.shown, shownAll_map, List.map_cons, List.map_nil]
    rw [e2]
    simp only [List.map_cons, List.map_nil, List.sum_cons, List.sum_nil] at h
    omega
theorem pt_sh {b : Bool} {n : Str} {w : Int} (h : WF (.pt b n w)) : shT (.pt b n w) ≤ 150 := by
  simp only [WF] at h
  have hi := sh_int h.2.2.2
  have w1 : (reprText (wordOf b)).length ≤ 32 := by
    refine Nat.le_trans (rp_len ?_) ?_
    · cases b with
      | true => rw [w_now, q_now]; intro c hc; have hc : c ∈ [110, 111, 119] := hc; simp only [List.mem_cons, List.not_mem_nil, or_false] at hc; omega
      | false => rw [w_of, q_of]; intro c hc; have hc : c ∈ [111, 102] := hc; simp only [List.mem_cons, List.not_mem_nil, or_false] at hc; omega
    · cases b with
      | true => rw [w_now, q_now, S_len]; simp
      | false => rw [w_of, q_of, S_len]; simp
  have w2 := rp_len (lower_ok h.1)
  have e : toPy (toD (.pt b n w)) = .tuple [.str (wordOf b), .str n, .int w] := by simp [toD, toPy, toPys]
  have t := tt_len [reprText (wordOf b), reprText n, (PyData.int w).shown]
  have e2 : (PyData.tuple [.str (wordOf b), .str n, .int w]).shown = tupleText [reprText (wordOf b), reprText n, (PyData.int w).shown] := by
    simp only [PyData.shown, shownAll_map, List.map_cons, List.map_nil]
  unfold shT
  rw [e, e2]
  simp only [List.map_cons, List.map_nil, List.sum_cons, List.sum_nil] at t
  omega
theorem sh_len : ∀ (n : Nat) (t : Tm), WF t → hle n t → shT t + 2 ≤ 100 * (txtL t).length
  | n, .pt b nm w, h, _ => by
    have h1 := pt_sh h
    simp only [WF] at h
    have h2 : 1 ≤ (numZ w).length := by
      cases e : numZ w with
      | nil => exact absurd e (numZ_ne w)
      | cons _ _ => simp
    have h3 := len_tl nm
    simp only [txtL, List.length_append, List.length_cons]
    omega
  | 0, .nd kd ts, _, h => by simp [hle] at h
  | n + 1, .nd kd ts, h, hh => by
    simp only [WF] at h
    simp only [hle] at hh
    have h1 := kd_sh (kd := kd) (ts := ts) h.2.2.1 h.2.1
    have h2 : (ts.map fun t => shT t + 2).sum ≤ (ts.map fun t => 100 * (txtL t).length).sum := sum_le fun t ht => sh_len n t (WFs_all h.2.2.2 t ht) (hh t ht)
    have h3 : (ts.map fun t => 100 * (txtL t).length) = ((ts.map fun t => (txtL t).length).map fun n => 100 * n) := by rw [List.map_map]; rfl
    rw [h3, mul_sum] at h2
    have h4 := sumL cs (ts.map txtL)
    rw [List.map_map] at h4
    have h4 : (ts.map fun t => (txtL t).length).sum ≤ (joinL cs (ts.map txtL)).length := h4
    have h5 : 4 ≤ (kdL kd).length := by
      cases kd with
      | first => simp [kdL]
      | last => simp [kdL]
      | rank k => simp only [kdL, List.length_append, List.length_cons, List.length_nil]; omega
    unfold shT
    simp only [txtL, txtsL_map, List.length_append, List.length_cons, List.length_nil]
    omega
theorem showAll_of : ∀ ds : List PyData, (∀ d ∈ ds, d.showable = true) → PyData.showableAll ds = true
  | [], _ => by simp [PyData.showableAll]
  | d :: ds, h => by
    simp only [PyData.showableAll, Bool.and_eq_true]
    exact ⟨h d (by simp), showAll_of ds fun x hx => h x (by simp [hx])⟩
theorem can_show : ∀ (n : Nat) (t : Tm), WF t → hle n t → (toPy (toD t)).showable = true
  | n, .pt b nm w, h, _ => by
    simp only [WF] at h
    simp only [toD, toPy, toPys, PyData.showable, PyData.showableAll, Bool.true_and, Bool.and_true]
    exact decide_eq_true (log_ok h.2.2.2)
  | 0, .nd kd ts, _, h => by simp [hle] at h
  | n + 1, .nd kd ts, h, hh => by
    simp only [WF] at h
    simp only [hle] at hh
    have hl : (toPy (.lst (ts.map toD))).showable = true := by
      simp only [toPy, PyData.showable, toPys_map]
      refine showAll_of _ fun d hd => ?_
      rw [List.map_map] at hd
      obtain ⟨t, ht, rfl⟩ := List.mem_map.mp hd
      exact can_show n t (WFs_all h.2.2.2 t ht) (hh t ht)
    simp only [toD, toDs_map]
    generalize (ts.map toD) = xs at hl
    cases kd with
    | first => simp only [ndD, toPy, toPys, PyData.showable, PyData.showableAll, Bool.true_and, Bool.and_true] at hl ⊢; exact hl
    | last => simp only [ndD, toPy, toPys, PyData.showable, PyData.showableAll, Bool.true_and, Bool.and_true] at hl ⊢; exact hl
    | rank k =>
      have hk := h.2.2.1
      simp only [kdOk] at hk
      simp only [ndD, toPy, toPys, PyData.showable, PyData.showableAll, Bool.true_and, Bool.and_true, Bool.and_eq_true] at hl ⊢
      exact ⟨decide_eq_true (log_ok (by omega)), hl⟩
theorem okS_tm {t : Tm} (h : Gd 2 300 t) : okS (toPy (toD t)) := by
  have n := nice_tm 2 t h.1 h.2.1
  have l := sh_len 2 t h.1 h.2.1
  refine ⟨can_show 2 t h.1 h.2.1, n.lay, by have := n.dep; omega, ?_⟩
  have h3 := h.2.2
  have e : sizeLine = 16777216 := sizeLine_eq
  unfold shT at l
  omega
theorem repr_tm {t : Tm} {C : Cells} {Q : DK} (h : Gd 2 300 t) (q : Q (.str (toPy (toD t)).shown) C) : kRepr (toD t) C Q := by
  obtain ⟨xs, e⟩ := toD_tup t
  have o := okS_tm h
  have n := (nice_tm 2 t h.1 h.2.1).py
  rw [e] at o n q ⊢
  exact ⟨n, o, q⟩

end K94

set_option Elab.async false
set_option linter.all false
set_option maxRecDepth 100000
set_option maxHeartbeats 1000000
namespace K94
open PySem L2 DL
local macro_rules | `(tactic| walk_at "dl") => `(tactic| simp only [dSeq, dIfS, dOr, dAnd, dNot, dTest, dCB, d1, d2, kIsi, kIsO, kLen, kStr, kIntT, kAbs, kI2, kSum, dCons, dNil, dVar, dC, slot, tyD, opt_some, kitB_ss, kitB_is, kitB_ii, kitB_ib, kitB_si, kitB_tt, kitB_ll, kitB_dd, kitB_tl, kitB_lt, kitB_ts, kitB_bb, kitB_bi,
  vw_non, vw_bl, vw_i, vw_s, vw_l, vw_t, vw_d, vw_n, vw_f, vw_v, asB, dAndV, dOrV, dNotV, dIf, dOp, dI2, dSub, dMul, dFdiv, dMod, dPow, dLt, dLe, dGt, dGe, dAdd, dRet, dRetN, dNext, dLst, dTup, dLstC, dCall, dDrop, dAsg, dName, dPar, dSets, dGTup, dIx, dSl, dPart, dNoP, dInN, dIsN, dEqN, dNeg, dFz, frz1, dFzS, dFld, dSetFld, dMth, dMake, dCallL, dChain, endsOf, dLcL, dLcS, dLcR1, dYes, dBM, mAppend, mInsert, mStarts3, mJoin, tyM, dBits, dForL, dForT, dForR1, int1, dDGet, dDIn, dDPut, dDGet2, kDict0, keyOf, kListOf, kRepr, dEqP, kMax, kMin, isN, fget, fput,
  List.set_cons_zero, List.set_cons_succ, List.length_cons, List.length_nil, Bool.not_true, Bool.not_false, List.append_nil,
  if_true, if_false, Bool.false_eq_true, Bool.true_eq_false, ite_true, ite_false, true_and, and_true, reduceIte, List.nil_append, List.cons_append, atI_0, atI_1, atI_2, atI_3, atI_m1, List.getElem?_cons_zero, List.getElem?_cons_succ, List.getLast?_cons_cons, List.getLast?_singleton, Nat.zero_add, Nat.reduceAdd, Int.cast_ofNat_Int, Int.natCast_add, Int.natCast_one, Nat.reduceLeDiff, Int.reduceLT, Int.reduceLE, Int.reduceEq, decide_true, decide_false, Int.reduceAdd, Int.reduceNeg, Int.reduceSub, Int.reduceToNat, eq_self, ne_eq, not_true_eq_false, not_false_eq_true, List.map_cons, List.map_nil, Option.getD_some, Option.getD_none, Option.isSome_some, Option.isSome_none])
open TL PySem.NumText
/-! ### one text, one term -/
theorem span_eq {f : Nat → Bool} : ∀ {a b p q : List Nat}, (∀ c ∈ a, f c = true) → (∀ c ∈ b, f c = true) → (∀ c r, p = c :: r → f c = false) → (∀ c r, q = c :: r → f c = false) → a ++ p = b ++ q → a = b ∧ p = q
  | [], [], p, q, _, _, _, _, h => ⟨rfl, h⟩
  | [], d :: b, p, q, _, hb, hp, _, h => by
    have := hp d (b ++ q) h
    rw [hb d (by simp)] at this
    cases this
  | c :: a, [], p, q, ha, _, _, hq, h => by
    have := hq c (a ++ p) h.symm
    rw [ha c (by simp)] at this
    cases this
  | c :: a, d :: b, p, q, ha, hb, hp, hq, h => by
    simp only [List.cons_append, List.cons.injEq] at h
    obtain ⟨e1, e2⟩ := span_eq (fun x hx => ha x (by simp [hx])) (fun x hx => hb x (by simp [hx])) hp hq h.2
    exact ⟨by rw [h.1, e1], e2⟩
theorem stopN.f {p : List Nat} (h : stopN p) : ∀ c r, p = c :: r → isNum c = false := fun c r e => by
  rcases h with rfl | ⟨d, s, rfl, h⟩
  · cases e
  · cases e; exact h
theorem num_eq {x y : Int} {p q : List Nat} (hx : x.natAbs < 10 ^ 15) (hy : y.natAbs < 10 ^ 15) (hp : stopN p) (hq : stopN q) (h : numZ x ++ p = numZ y ++ q) : x = y ∧ p = q := by
  obtain ⟨e1, e2⟩ := span_eq (numZ_num x) (numZ_num y) hp.f hq.f h
  have a := intT_S hx
  rw [e1, intT_S hy] at a
  cases a
  exact ⟨rfl, e2⟩
theorem sep_eq {a b p q : List Nat} {s t : Nat} (ha : ∀ c ∈ a, isLetter c = true) (hb : ∀ c ∈ b, isLetter c = true) (hs : isLetter s = false) (ht : isLetter t = false) (h : a ++ s :: p = b ++ t :: q) : a = b ∧ s = t ∧ p = q := by
  obtain ⟨e1, e2⟩ := span_eq ha hb (fun c r e => by cases e; exact hs) (fun c r e => by cases e; exact ht) h
  cases e2
  exact ⟨e1, rfl, rfl⟩
/-- word, mark, rest -/
def hdW : Tm → List Nat
  | .pt true _ _ => [110, 111, 119]
  | .pt false n _ => tl n
  | .nd .first _ => [102, 105, 114, 115, 116]
  | .nd .last _ => [108, 97, 115, 116]
  | .nd (.rank _) _ => [114, 97, 110, 107]
def hdS : Tm → Nat
  | .nd .first _ => 40
  | .nd .last _ => 40
  | _ => 32
def hdR : Tm → List Nat
  | .pt true n w => tl n ++ 32 :: numZ w
  | .pt false _ w => numZ w
  | .nd (.rank k) ts => numZ k ++ 40 :: (joinL cs (ts.map txtL) ++ [41])
  | .nd _ ts => joinL cs (ts.map txtL) ++ [41]
theorem hd_eq (t : Tm) : txtL t = hdW t ++ hdS t :: hdR t := by
  cases t with
  | pt b n w => cases b <;> simp [txtL, hdW, hdS, hdR, nowL]
  | nd kd ts => cases kd <;> simp [txtL, hdW, hdS, hdR, kdL, txtsL_map]
theorem hdW_ok {t : Tm} (h : WF t) : ∀ c ∈ hdW t, isLetter c = true := by
  intro c hc
  cases t with
  | pt b n w =>
    simp only [WF] at h
    cases b with
    | true => simp only [hdW, List.mem_cons, List.not_mem_nil, or_false] at hc; rw [letter_iff]; omega
    | false => exact h.1 c hc
  | nd kd ts => cases kd <;> (simp only [hdW, List.mem_cons, List.not_mem_nil, or_false] at hc; rw [letter_iff]; omega)
theorem hdS_ok (t : Tm) : isLetter (hdS t) = false := by
  have : ∀ c : Nat, c < 97 → isLetter c = false := fun c hc => by rw [Bool.eq_false_iff, ne_eq, letter_iff]; omega
  cases t with
  | pt b n w => cases b <;> exact this _ (by simp [hdS])
  | nd kd ts => cases kd <;> exact this _ (by simp [hdS])
theorem head_no {n : Str} {w : Int} {p q : List Nat} (hn : letters n) (h1 : 1 ≤ n.length) (h : tl n ++ p = numZ w ++ q) : False := by
  rw [len_tl] at h1
  cases e : tl n with
  | nil => rw [e] at h1; simp at h1
  | cons c r =>
    cases e2 : numZ w with
    | nil => exact numZ_ne w e2
    | cons d s =>
      rw [e, e2] at h
      simp only [List.cons_append, List.cons.injEq] at h
      have a := (letter_iff c).mp (hn c (by show c ∈ tl n; rw [e]; simp))
      have b := numZ_num w d (by rw [e2]; simp)
      unfold isNum at b
      rw [decide_eq_true_iff] at b
      omega
def TE (n : Nat) : Prop := ∀ (t u : Tm) (p q : List Nat), WF t → WF u → hle n t → hle n u → stop p → stop q → txtL t ++ p = txtL u ++ q → t = u ∧ p = q
theorem list_eq {n : Nat} (ih : TE n) : ∀ (ts us : List Tm) (p q : List Nat), ts ≠ [] → us ≠ [] → (∀ t ∈ ts, WF t ∧ hle n t) → (∀ t ∈ us, WF t ∧ hle n t) →
    joinL cs (ts.map txtL) ++ 41 :: p = joinL cs (us.map txtL) ++ 41 :: q → ts = us ∧ p = q
  | [], _, _, _, h, _, _, _, _ => absurd rfl h
  | _ :: _, [], _, _, _, h, _, _, _ => absurd rfl h
  | [t], [u], p, q, _, _, ht, hu, h => by
    have a := ht t (by simp)
    have b := hu u (by simp)
    obtain ⟨rfl, e⟩ := ih t u _ _ a.1 b.1 a.2 b.2 (.inr ⟨_, _, rfl, .inr rfl⟩) (.inr ⟨_, _, rfl, .inr rfl⟩) h
    cases e
    exact ⟨rfl, rfl⟩
  | [t], u :: u2 :: us, p, q, _, _, ht, hu, h => by
    have a := ht t (by simp)
    have b := hu u (by simp)
    simp only [List.map_cons, joinL, List.append_assoc] at h
    obtain ⟨rfl, e⟩ := ih t u _ _ a.1 b.1 a.2 b.2 (.inr ⟨_, _, rfl, .inr rfl⟩) (.inr ⟨44, _, rfl, .inl rfl⟩) h
    cases e
  | t :: t2 :: ts, [u], p, q, _, _, ht, hu, h => by
    have a := ht t (by simp)
    have b := hu u (by simp)
    simp only [List.map_cons, joinL, List.append_assoc] at h
    obtain ⟨rfl, e⟩ := ih t u _ _ a.1 b.1 a.2 b.2 (.inr ⟨44, _, rfl, .inl rfl⟩) (.inr ⟨_, _, rfl, .inr rfl⟩) h
    cases e
  | t :: t2 :: ts, u :: u2 :: us, p, q, _, _, ht, hu, h => by
    have a := ht t (by simp)
    have b := hu u (by simp)
    simp only [List.map_cons, joinL, List.append_assoc] at h
    obtain ⟨rfl, e⟩ := ih t u _ _ a.1 b.1 a.2 b.2 (.inr ⟨44, _, rfl, .inl rfl⟩) (.inr ⟨44, _, rfl, .inl rfl⟩) h
    have e := List.append_cancel_left (as := cs) e
    obtain ⟨e1, e2⟩ := list_eq ih (t2 :: ts) (u2 :: us) p q (by simp) (by simp) (fun x hx => ht x (by simp [hx])) (fun x hx => hu x (by simp [hx])) e
    exact ⟨by rw [e1], e2⟩
theorem nd_up {n : Nat} {kd : Kd} {ts : List Tm} (h : hle n (.nd kd ts)) : ∃ m, n = m + 1 ∧ ∀ t ∈ ts, hle m t := by
  cases n with
  | zero => simp [hle] at h
  | succ m => exact ⟨m, rfl, by simpa only [hle] using h⟩
theorem tm_core (n : Nat) (ih : ∀ m, n = m + 1 → TE m) : TE n := by
  intro t u p q ht hu hn hm hp hq h
  rw [hd_eq t, hd_eq u, List.append_assoc, List.append_assoc, List.cons_append, List.cons_append] at h
  obtain ⟨e1, e2, e3⟩ := sep_eq (hdW_ok ht) (hdW_ok hu) (hdS_ok t) (hdS_ok u) h
  clear h
  have lists : ∀ kd kd' ts us (p q : List Nat), WF (.nd kd ts) → WF (.nd kd' us) → hle n (.nd kd ts) → hle n (.nd kd' us) → joinL cs (ts.map txtL) ++ 41 :: p = joinL cs (us.map txtL) ++ 41 :: q → ts = us ∧ p = q := by
    intro kd kd' ts us p q w1 w2 h1 h2 e
    obtain ⟨m, rfl, k1⟩ := nd_up h1
    obtain ⟨m', em, k2⟩ := nd_up h2
    obtain rfl : m = m' := by omega
    simp only [WF] at w1 w2
    exact list_eq (ih m rfl) ts us p q w1.1 w2.1 (fun t ht => ⟨WFs_all w1.2.2.2 t ht, k1 t ht⟩) (fun t ht => ⟨WFs_all w2.2.2.2 t ht, k2 t ht⟩) e
  have krank : ∀ k ts, WF (.nd (.rank k) ts) → k.natAbs < 10 ^ 15 := fun k ts w => by
    simp only [WF, kdOk] at w
    omega
  cases t with
  | pt b n1 w1 =>
    cases u with
    | pt b' n2 w2 =>
      have ht' := ht
      have hu' := hu
      simp only [WF] at ht' hu'
      cases b with
      | true =>
        cases b' with
        | true =>
          simp only [hdR, List.append_assoc, List.cons_append] at e3
          obtain ⟨e4, _, e5⟩ := sep_eq (s := 32) (t := 32) ht'.1 hu'.1 (hdS_ok (.pt true n1 w1)) (hdS_ok (.pt true n1 w1)) e3
          obtain ⟨rfl, rfl⟩ := num_eq ht'.2.2.2 hu'.2.2.2 hp.n hq.n e5
          rw [ext_tl e4]
          exact ⟨rfl, rfl⟩
        | false =>
          simp only [hdR, List.append_assoc, List.cons_append] at e3
          exact (head_no ht'.1 ht'.2.1 e3).elim
      | false =>
        cases b' with
        | true =>
          simp only [hdR, List.append_assoc, List.cons_append] at e3
          exact (head_no hu'.1 hu'.2.1 e3.symm).elim
        | false =>
          simp only [hdR] at e3
          obtain ⟨rfl, rfl⟩ := num_eq ht'.2.2.2 hu'.2.2.2 hp.n hq.n e3
          rw [ext_tl e1]
          exact ⟨rfl, rfl⟩
    | nd kd us =>
      cases kd with
      | first => cases b <;> simp [hdS] at e2
      | last => cases b <;> simp [hdS] at e2
      | rank k =>
        cases b with
        | true => simp [hdW] at e1
        | false =>
          simp only [WF] at ht
          simp only [hdR, List.append_assoc, List.cons_append] at e3
          obtain ⟨_, e4⟩ := num_eq ht.2.2.2 (krank k us hu) hp.n (.inr ⟨_, _, rfl, rfl⟩) e3
          exact (hp.take (by rw [e4]; rfl)).elim
  | nd kd ts =>
    cases u with
    | pt b n2 w2 =>
      cases kd with
      | first => cases b <;> simp [hdS] at e2
      | last => cases b <;> simp [hdS] at e2
      | rank k =>
        cases b with
        | true => simp [hdW] at e1
        | false =>
          simp only [WF] at hu
          simp only [hdR, List.append_assoc, List.cons_append] at e3
          obtain ⟨_, e4⟩ := num_eq (krank k ts ht) hu.2.2.2 (.inr ⟨_, _, rfl, rfl⟩) hq.n e3
          exact (hq.take (by rw [← e4]; rfl)).elim
    | nd kd' us =>
      cases kd with
      | first =>
        cases kd' with
        | first =>
          simp only [hdR, List.append_assoc, List.cons_append, List.nil_append] at e3
          obtain ⟨rfl, rfl⟩ := lists _ _ ts us p q ht hu hn hm e3
          exact ⟨rfl, rfl⟩
        | last => simp [hdW] at e1
        | rank k => simp [hdS] at e2
      | last =>
        cases kd' with
        | first => simp [hdW] at e1
        | last =>
          simp only [hdR, List.append_assoc, List.cons_append, List.nil_append] at e3
          obtain ⟨rfl, rfl⟩ := lists _ _ ts us p q ht hu hn hm e3
          exact ⟨rfl, rfl⟩
        | rank k => simp [hdS] at e2
      | rank k =>
        cases kd' with
        | first => simp [hdS] at e2
        | last => simp [hdS] at e2
        | rank k' =>
          simp only [hdR, List.append_assoc, List.cons_append, List.nil_append] at e3
          obtain ⟨rfl, e4⟩ := num_eq (krank k ts ht) (krank k' us hu) (.inr ⟨_, _, rfl, rfl⟩) (.inr ⟨_, _, rfl, rfl⟩) e3
          simp only [List.cons.injEq, true_and] at e4
          obtain ⟨rfl, rfl⟩ := lists _ _ ts us p q ht hu hn hm e4
          exact ⟨rfl, rfl⟩
theorem tm_eq : ∀ n, TE n
  | 0 => tm_core 0 fun m h => by omega
  | n + 1 => tm_core (n + 1) fun m h => by
    obtain rfl : n = m := by omega
    exact tm_eq n
theorem txt_inj {t u : Tm} (ht : Gd 2 300 t) (hu : Gd 2 300 u) (h : txt t = txt u) : t = u := by
  have h := S_inj.mp h
  exact (tm_eq 2 t u [] [] ht.1 hu.1 ht.2.1 hu.2.1 (.inl rfl) (.inl rfl) (by rw [List.append_nil, List.append_nil]; exact h)).1
/-! == of terms -/
theorem eqv_self {t : Tm} (h : Gd 2 300 t) : eqD (toD t) (toD t) = true := PySem.SeqAt.eqv_refl _ (nice_tm 2 t h.1 h.2.1).lay
theorem word_inj {b c : Bool} (h : wordOf b = wordOf c) : b = c := by
  cases b <;> cases c <;> first | rfl | (exfalso; revert h; decide +kernel)
theorem eqvs_eq {n : Nat} (ih : ∀ t u, hle n t → hle n u → eqD (toD t) (toD u) = true → t = u) : ∀ ts us : List Tm, (∀ t ∈ ts, hle n t) → (∀ t ∈ us, hle n t) → PyData.eqvAll (toPys (ts.map toD)) (toPys (us.map toD)) = true → ts = us
  | [], [], _, _, _ => rfl
  | [], u :: us, _, _, h => by simp [toPys, PyData.eqvAll] at h
  | t :: ts, [], _, _, h => by simp [toPys, PyData.eqvAll] at h
  | t :: ts, u :: us, h1, h2, h => by
    simp only [List.map_cons, toPys, PyData.eqvAll, Bool.and_eq_true] at h
    rw [ih t u (h1 t (by simp)) (h2 u (by simp)) h.1, eqvs_eq ih ts us (fun x hx => h1 x (by simp [hx])) (fun x hx => h2 x (by simp [hx])) h.2]
theorem eqv_core (n : Nat) (ih : ∀ m, n = m + 1 → ∀ t u, hle m t → hle m u → eqD (toD t) (toD u) = true → t = u) (t u : Tm) (ht : hle n t) (hu : hle n u) (h : eqD (toD t) (toD u) = true) : t = u := by
  have lists : ∀ kd kd' ts us, hle n (.nd kd ts) → hle n (.nd kd' us) → PyData.eqvAll (toPys (ts.map toD)) (toPys (us.map toD)) = true → ts = us := by
    intro kd kd' ts us h1 h2 e
    obtain ⟨m, rfl, k1⟩ := nd_up h1
    obtain ⟨m', em, k2⟩ := nd_up h2
    obtain rfl : m = m' := by omega
    exact eqvs_eq (ih m rfl) ts us k1 k2 e
  have nw : ∀ b, wordOf b ≠ "first" ∧ wordOf b ≠ "last" ∧ wordOf b ≠ "rank" := fun b => by cases b <;> decide +kernel
  have n1 : ("first" : Str) ≠ "last" := by decide +kernel
  cases t with
  | pt b nm x =>
    cases u with
    | pt b' nm' x' =>
      simp only [toD, eqD, toPy, toPys, PyData.eqv, PyData.eqvAll, Bool.and_eq_true, beq_iff_eq, and_true] at h
      rw [word_inj h.1, h.2.1, h.2.2]
    | nd kd us => cases kd <;> simp [toD, ndD, eqD, toPy, toPys, PyData.eqv, PyData.eqvAll] at h
  | nd kd ts =>
    cases u with
    | pt b' nm' x' => cases kd <;> simp [toD, ndD, eqD, toPy, toPys, PyData.eqv, PyData.eqvAll] at h
    | nd kd' us =>
      simp only [toD, toDs_map] at h
      cases kd with
      | first =>
        cases kd' with
        | first =>
          simp only [ndD, eqD, toPy, toPys, PyData.eqv, PyData.eqvAll, Bool.and_eq_true, beq_iff_eq, and_true] at h
          rw [lists _ _ _ _ ht hu h.2]
        | last =>
          simp only [ndD, eqD, toPy, toPys, PyData.eqv, PyData.eqvAll, Bool.and_eq_true, beq_iff_eq, and_true] at h
          exact absurd h.1 n1
        | rank k => simp [ndD, eqD, toPy, toPys, PyData.eqv, PyData.eqvAll] at h
      | last =>
        cases kd' with
        | first =>
          simp only [ndD, eqD, toPy, toPys, PyData.eqv, PyData.eqvAll, Bool.and_eq_true, beq_iff_eq, and_true] at h
          exact absurd h.1.symm n1
        | last =>
          simp only [ndD, eqD, toPy, toPys, PyData.eqv, PyData.eqvAll, Bool.and_eq_true, beq_iff_eq, and_true] at h
          rw [lists _ _ _ _ ht hu h.2]
        | rank k => simp [ndD, eqD, toPy, toPys, PyData.eqv, PyData.eqvAll] at h
      | rank k =>
        cases kd' with
        | first => simp [ndD, eqD, toPy, toPys, PyData.eqv, PyData.eqvAll] at h
        | last => simp [ndD, eqD, toPy, toPys, PyData.eqv, PyData.eqvAll] at h
        | rank k' =>
          simp only [ndD, eqD, toPy, toPys, PyData.eqv, PyData.eqvAll, Bool.and_eq_true, beq_iff_eq, and_true] at h
          rw [lists _ _ _ _ ht hu h.2.2, h.2.1]
theorem eqv_tm : ∀ n t u, hle n t → hle n u → eqD (toD t) (toD u) = true → t = u
  | 0 => eqv_core 0 fun m h => by omega
  | n + 1 => eqv_core (n + 1) fun m h => by
    obtain rfl : n = m := by omega
    exact eqv_tm n
theorem eqD_txt {t u : Tm} (ht : Gd 2 300 t) (hu : Gd 2 300 u) : eqD (toD t) (toD u) = decide (txt t = txt u) := by
  by_cases h : txt t = txt u
  · rw [decide_eq_true h, txt_inj ht hu h]
    exact eqv_self hu
  · rw [decide_eq_false h, Bool.eq_false_iff]
    intro e
    exact h (by rw [eqv_tm 2 t u ht.2.1 hu.2.1 e])

end K94

set_option Elab.async false
set_option linter.all false
set_option maxRecDepth 100000
set_option maxHeartbeats 1000000
namespace K94
open PySem L2 DL
local macro_rules | `(tactic| walk_at "dl") => `(tactic| simp only [dSeq, dIfS, dOr, dAnd, dNot, dTest, dCB, d1, d2, kIsi, kIsO, kLen, kStr, kIntT, kAbs, kI2, kSum, dCons, dNil, dVar, dC, slot, tyD, opt_some, kitB_ss, kitB_is, kitB_ii, kitB_ib, kitB_si, kitB_tt, kitB_ll, kitB_dd, kitB_tl, kitB_lt, kitB_ts, kitB_bb, kitB_bi,
  vw_non, vw_bl, vw_i, vw_s, vw_l, vw_t, vw_d, vw_n, vw_f, vw_v, asB, dAndV, dOrV, dNotV, dIf, dOp, dI2, dSub, dMul, dFdiv, dMod, dPow, dLt, dLe, dGt, dGe, dAdd, dRet, dRetN, dNext, dLst, dTup, dLstC, dCall, dDrop, dAsg, dName, dPar, dSets, dGTup, dIx, dSl, dPart, dNoP, dInN, dIsN, dEqN, dNeg, dFz, frz1, dFzS, dFld, dSetFld, dMth, dMake, dCallL, dChain, endsOf, dLcL, dLcS, dLcR1, dYes, dBM, mAppend, mInsert, mStarts3, mJoin, tyM, dBits, dForL, dForT, dForR1, int1, dDGet, dDIn, dDPut, dDGet2, kDict0, keyOf, kListOf, kRepr, dEqP, kMax, kMin, isN, fget, fput,
  List.set_cons_zero, List.set_cons_succ, List.length_cons, List.length_nil, Bool.not_true, Bool.not_false, List.append_nil,
  if_true, if_false, Bool.false_eq_true, Bool.true_eq_false, ite_true, ite_false, true_and, and_true, reduceIte, List.nil_append, List.cons_append, atI_0, atI_1, atI_2, atI_3, atI_m1, List.getElem?_cons_zero, List.getElem?_cons_succ, List.getLast?_cons_cons, List.getLast?_singleton, Nat.zero_add, Nat.reduceAdd, Int.cast_ofNat_Int, Int.natCast_add, Int.natCast_one, Nat.reduceLeDiff, Int.reduceLT, Int.reduceLE, Int.reduceEq, decide_true, decide_false, Int.reduceAdd, Int.reduceNeg, Int.reduceSub, Int.reduceToNat, eq_self, ne_eq, not_true_eq_false, not_false_eq_true, List.map_cons, List.map_nil, Option.getD_some, Option.getD_none, Option.isSome_some, Option.isSome_none])
open TL PySem.NumText
section
variable {P : Program} {w : World} {K : PySem.W.Frag} {mg : Str → Option Value} {base : Heap}
/-! the purses -/
def sp__law_purses : DSp := fun ds C Q => ∃ xs : List Int, ds = [.fro (xs.map D.int), .int 2] ∧ xs.length ≤ 1000000 ∧ ∀ (as : List Addr) C', as.Nodup → (∀ a ∈ as, C a = none ∧ ∃ y, C' a = some y ∧ PU 0 y) → Sub C C' → Q (.lst (as.map D.cell)) C'
theorem ok__law_purses (T : Txt K mg) : Fn P w K mg base 2 (fa mg "_law_purses") [] sp__law_purses := by
  have G__law_purse := ok__law_purse (P := P) (w := w) (base := base) T
  refine fn_df T.d__law_purses sc__law_purses (fun ds C Q h => ?_) (fun cdv A outer s H E hr => ?_)
  · (obtain ⟨_, rfl, _⟩ := h; rfl)
  have hu := hr.units
  have hu1 := hu_of hr
  have nd := sc__law_purses.nd
  refine ⟨_, (ds_one (ds_ret (de_lcR1 rfl nd T.range (da_cons (de_cb (call_max2 rfl) cl_I2 T.max bt_max (da_cons dc_int (da_cons (de_cb (call_min2 rfl) cl_I2 T.min bt_min (da_cons (dv 1) (da_cons (de_cb call_lenA cl_len T.len bt_len (da_cons (dv 0) da_nil)) da_nil))) da_nil))) da_nil) (by first | (change blkC N__law_purses (defScope s__law_purses) _ _ = true; decide +kernel) | rfl) (fun _ _ _ _ _ => pg_name (i := 2) nd rfl (Or.inl rfl)) (fun _ _ _ _ _ => dp_nil) (fun _ _ _ _ _ => (de_call G__law_purse T.d__law_purse.m (hr.mono (by omega)) (da_cons (dv 0) (da_cons (dv 2) da_nil))))))), fun ds C Q h => ?_⟩
  obtain ⟨xs, rfl, hl, h⟩ := h
  rw [show startD N__law_purses [.fro (xs.map D.int), .int 2] = [some (.fro (xs.map D.int)), some (.int 2), none] from rfl]
  walk_at "dl"
  have hn : ∃ n : Nat, n ≤ 2 ∧ (if (if ((xs.map D.int).length : Int) < 2 then ((xs.map D.int).length : Int) else 2) > 1 then if ((xs.map D.int).length : Int) < 2 then ((xs.map D.int).length : Int) else 2 else 1) = (n : Int) := by
    generalize (xs.map D.int).length = m
    by_cases h1 : m < 2
    · exact ⟨1, by omega, by split <;> split <;> omega⟩
    · exact ⟨2, by omega, by split <;> split <;> omega⟩
  obtain ⟨n, hn2, en⟩ := hn
  rw [en]
  refine ⟨by omega, by omega, ?_⟩
  rw [Int.toNat_natCast]
  refine ⟨fun i acc C' => ∃ as : List Addr, acc = as.map D.cell ∧ as.length = i ∧ as.Nodup ∧ (∀ a ∈ as, C a = none ∧ ∃ y, C' a = some y ∧ PU 0 y) ∧ Sub C C', ⟨[], rfl, rfl, List.nodup_nil, by simp, fun _ _ e => e⟩, fun i d acc C' e p => ?_, fun acc C' p => ?_⟩
  · obtain ⟨as, rfl, hi, nod, has, sub⟩ := p
    rw [List.getElem?_map] at e
    cases e2 : (List.range n)[i]? with
    | none => rw [e2] at e; cases e
    | some j =>
      rw [e2] at e
      cases e
      obtain ⟨hlt, ej⟩ := List.getElem?_eq_some_iff.mp e2
      rw [List.length_range] at hlt
      rw [List.getElem_range] at ej
      subst ej
      walk_at "dl"
      refine ⟨xs, i, rfl, by omega, hl, fun b y hb hy => ?_⟩
      have hnb : b ∉ as := fun hm => by
        obtain ⟨_, z, e, _⟩ := has b hm
        rw [hb] at e
        cases e
      have hCb : C b = none := by
        cases q : C b with
        | none => rfl
        | some c => rw [sub b c q] at hb; cases hb
      walk_at "dl"
      refine ⟨by rw [List.length_map]; omega, _, Gh.refl _, as ++ [b], by rw [List.map_append]; rfl, by simp; omega, List.nodup_append.mpr ⟨nod, by simp, fun x hx z hz e => hnb (by rw [List.mem_singleton.mp hz] at e; rw [← e]; exact hx)⟩, fun x hx => ?_, fun x c e => ?_⟩
      · rcases List.mem_append.mp hx with hx | hx
        · obtain ⟨k1, z, k2, k3⟩ := has x hx
          exact ⟨k1, z, by rw [cset_ne (fun e => hnb (by rw [← e]; exact hx))]; exact k2, k3⟩
        · rw [List.mem_singleton.mp hx]
          exact ⟨hCb, y, cset_same, hy⟩
      · rw [cset_ne (fun z => by rw [z, hCb] at e; cases e)]
        exact sub x c e
  · obtain ⟨as, rfl, hi, nod, has, sub⟩ := p
    exact fin (h as C' nod has sub)
/-! a dict's places -/
theorem dval_mapP (k : Key) (d : D) (k' : Key) : ∀ kds : List (Key × D), dval (kds.map fun q => if q.1 = k then (q.1, d) else q) k' = if k' = k then (dval kds k').map fun _ => d else dval kds k'
  | [] => by simp [dval]
  | (c, e) :: r => by
    have ih := dval_mapP k d k' r
    simp only [List.map_cons]
    by_cases h1 : c = k
    · subst h1
      simp only [if_true, dval]
      by_cases h2 : c = k'
      · subst h2
        simp
      · rw [if_neg h2, if_neg h2]
        exact ih
    · simp only [if_neg h1, dval]
      by_cases h2 : c = k'
      · subst h2
        simp [h1]
      · rw [if_neg h2, if_neg h2]
        exact ih
theorem dval_app (k : Key) (d : D) (k' : Key) : ∀ kds : List (Key × D), dval (kds ++ [(k, d)]) k' = match dval kds k' with | some e => some e | none => if k = k' then some d else none
  | [] => by simp [dval]
  | (c, e) :: r => by
    simp only [List.cons_append, dval]
    by_cases h : c = k'
    · rw [if_pos h, if_pos h]
    · rw [if_neg h, if_neg h]
      exact dval_app k d k' r
theorem dval_any (k : Key) : ∀ kds : List (Key × D), (kds.any fun q => decide (q.1 = k)) = (dval kds k).isSome
  | [] => rfl
  | (c, e) :: r => by
    simp only [List.any_cons, dval]
    by_cases h : c = k
    · simp [h]
    · simp [h, dval_any k r]
theorem dval_dput (kds : List (Key × D)) (k : Key) (d : D) (k' : Key) : dval (dput kds k d) k' = if k' = k then some d else dval kds k' := by
  unfold dput
  rw [dval_any]
  cases e : dval kds k with
  | none =>
    simp only [Option.isSome_none, Bool.false_eq_true, if_false]
    rw [dval_app]
    by_cases h : k' = k
    · subst h
      simp [e]
    · rw [if_neg h]
      cases dval kds k' with
      | none => simp [Ne.symm h]
      | some e => rfl
  | some c =>
    simp only [Option.isSome_some, if_true]
    rw [dval_mapP]
    by_cases h : k' = k
    · subst h
      rw [e]
      simp
    · rw [if_neg h, if_neg h]
theorem len_dput (kds : List (Key × D)) (k : Key) (d : D) : (dput kds k d).length ≤ kds.length + 1 := by
  unfold dput
  split
  · rw [List.length_map]; omega
  · rw [List.length_append]; exact Nat.le_refl _
/-! the cells of a turn -/
def ZC (C : Cells) (p : Addr) (K : Cell) (a : Addr) (y : Cell) (q : Addr) (L : Cell) : Cells := cset (cset (cset C p K) a y) q L
section
variable {C : Cells} {p a q : Addr} {K y L : Cell}
theorem ZC.q_ : ZC C p K a y q L q = some L := cset_same
theorem ZC.a_ (h : a ≠ q) : ZC C p K a y q L a = some y := (cset_ne h).trans cset_same
theorem ZC.p_ (h : p ≠ q) (h' : p ≠ a) : ZC C p K a y q L p = some K := (cset_ne h).trans ((cset_ne h').trans cset_same)
theorem ZC.setq (L' : Cell) : cset (ZC C p K a y q L) q L' = ZC C p K a y q L' := cset_cset
theorem ZC.seta (y' : Cell) (h : a ≠ q) : cset (ZC C p K a y q L) a y' = ZC C p K a y' q L := by
  funext b
  unfold ZC cset
  by_cases h1 : b = a
  · subst h1
    simp [h]
  · simp only [if_neg h1]
theorem ZC.setp (K' : Cell) (h : p ≠ q) (h' : p ≠ a) : cset (ZC C p K a y q L) p K' = ZC C p K' a y q L := by
  funext b
  unfold ZC cset
  by_cases h1 : b = p
  · subst h1
    simp [h, h']
  · simp only [if_neg h1]
theorem cdel_new {r : Addr} {c : Cell} (h : C r = none) : cdel (cset C r c) r = C := by
  funext b
  unfold cdel cset
  by_cases h1 : b = r
  · subst h1
    rw [if_pos rfl, h]
  · simp only [if_neg h1]
end
theorem fz_g {i : Nat} {t : DS} {E : DEnds} {ρ : DL.Env} {C : Cells} {a : Addr} {ds : List D} (h1 : slot ρ i = some (.cell a)) (h2 : C a = some (.lst ds)) (h : t E (ρ.set i (some (.lst ds))) (cdel C a)) : dFzS i t E ρ C := by
  unfold dFzS
  rw [h1]
  unfold frz1
  simp only [h2]
  exact h
def KI (n : Nat) (kds : List (Key × D)) (ls : List D) : Prop := (∀ k d, dval kds k = some d → ∃ t m, Gd 2 300 t ∧ k = .inr (txt t) ∧ d = .lst (List.replicate (m + 1) (toD t)) ∧ m < n) ∧ (∀ l ∈ ls, ∃ z d, l = .str z ∧ dval kds (.inr z) = some d) ∧ ls.length ≤ n ∧ kds.length ≤ n
theorem KI.up {n : Nat} {kds : List (Key × D)} {ls : List D} {t : Tm} (h : KI n kds ls) (g : Gd 2 300 t) :
    ∃ m, m ≤ n ∧ (dval kds (.inr (txt t))).getD (.lst []) = .lst (List.replicate m (toD t)) ∧ ∀ ls', (∀ l ∈ ls', l ∈ ls ∨ l = .str (txt t)) → ls'.length ≤ n + 1 → KI (n + 1) (dput kds (.inr (txt t)) (.lst (List.replicate m (toD t) ++ [toD t]))) ls' := by
  have main : ∀ m, m ≤ n → ∀ ls', (∀ l ∈ ls', l ∈ ls ∨ l = .str (txt t)) → ls'.length ≤ n + 1 → KI (n + 1) (dput kds (.inr (txt t)) (.lst (List.replicate m (toD t) ++ [toD t]))) ls' := by
    intro m hm ls' hls hll
    refine ⟨fun k d e => ?_, fun l hl => ?_, hll, Nat.le_trans (len_dput _ _ _) (by have := h.2.2.2; omega)⟩
    · rw [dval_dput] at e
      split at e
      · rename_i ek
        cases e
        exact ⟨t, m, g, ek, by rw [List.replicate_succ'], by omega⟩
      · obtain ⟨u, m', g1, g2, g3, g4⟩ := h.1 k d e
        exact ⟨u, m', g1, g2, g3, by omega⟩
    · have hz : ∀ z : Str, (∃ d, dval kds (.inr z) = some d) ∨ z = txt t → ∃ d, dval (dput kds (.inr (txt t)) (.lst (List.replicate m (toD t) ++ [toD t]))) (.inr z) = some d := fun z hz => by
        rw [dval_dput]
        split
        · exact ⟨_, rfl⟩
        · rename_i ne
          rcases hz with hz | rfl
          · exact hz
          · exact absurd rfl ne
      rcases hls l hl with hl | rfl
      · obtain ⟨z, d, rfl, e⟩ := h.2.1 l hl
        obtain ⟨d', e'⟩ := hz z (.inl ⟨d, e⟩)
        exact ⟨z, d', rfl, e'⟩
      · obtain ⟨d', e'⟩ := hz _ (.inr rfl)
        exact ⟨_, d', rfl, e'⟩
  cases e : dval kds (.inr (txt t)) with
  | none => exact ⟨0, by omega, rfl, main 0 (by omega)⟩
  | some d =>
    obtain ⟨u, m, g1, g2, g3, g4⟩ := h.1 _ d e
    have eu : txt t = txt u := Sum.inr.inj g2
    have := txt_inj g g1 eu
    subst this
    exact ⟨m + 1, by omega, by rw [g3]; rfl, main (m + 1) (by omega)⟩
theorem mk_rule {i : Nat} {t : Tm} {ρ : DL.Env} {C : Cells} {P : DK} (hs : slot ρ i = some (toD t)) (g : Gd 2 300 t) (h : P (ruleD mg t) C) : dFz (dMake (fa mg "Rule") (sp_Rule___init__ mg) [] (dCons (dVar i) dNil)) ρ C P := by
  unfold dFz dMake dCons dVar dNil
  simp only [hs, opt_some]
  intro r hr
  refine ⟨r, t, rfl, cset_same, g.1, hle_mono g.2.1 (by omega), ?_⟩
  simp only [cset_cset, cset_same, frz1, cdel_new hr]
  exact ⟨trivial, h⟩
/-! the law -/
def sp_law : DSp := fun ds C Q => ∃ xs : List Int, ds = [.fro (xs.map D.int)] ∧ xs.length ≤ 1000000 ∧ Q (.bl true) C
theorem body_law (T : Txt K mg) (cdv : Value) (A : Around) (outer : List PySem.Env) (s : Shared) (H : Hp) (E : XK) (hr : Room 13 (A.deeper (PyProof.Rows.envOfC "law" (defScope s_law) s.heap.objs.size (fa mg "law") cdv)))
    (hgd : (A.deeper (PyProof.Rows.envOfC "law" (defScope s_law) s.heap.objs.size (fa mg "law") cdv)).guards = some []) :
    ∃ t, DSs (cxOf CX0 P w K mg base N_law "law" (defScope s_law) (fa mg "law") cdv A outer s H E).nox (defBody s_law) t ∧ ∀ ds C Q, sp_law ds C Q → t (endsOf Q) (startD N_law ds) C := by
  have G__law_purses := ok__law_purses (P := P) (w := w) (base := base) T
  have G__law_terms := ok__law_terms (P := P) (w := w) (base := base) T
  have G_rule_text := ok_rule_text (P := P) (w := w) (base := base) T
  have G_Rule___init__ := ok_init (P := P) (w := w) (base := base) T
  have G__law_term_text := ok__law_term_text (P := P) (w := w) (base := base) T 3
  have G_Rule_term := ok_term (P := P) (w := w) (base := base) T
  have G_read_rule := ok_read_rule (P := P) (w := w) (base := base) T
  have G__law_one_of := ok__law_one_of (P := P) (w := w) (base := base) T
  have G_Rule___eq__ := ok_eq (P := P) (w := w) (base := base) T
  have hu := hr.units
  have hu1 := hu_of hr
  have nd := sc_law.nd
  refine ⟨_, (ds_cons (ds_forL rfl (de_call G__law_purses T.d__law_purses.m (hr.mono (by omega)) (da_cons (dv 0) (da_cons dc_int da_nil))) (dg_name (i := 1) nd) (ds_cons (ds_asg (de_tup (da_cons (de_ct (call_dictP rfl) cl_dict0 T.dict bt_dict (da_cons (de_lst da_nil) da_nil)) (da_cons (de_call G__law_terms T.d__law_terms.m (hr.mono (by omega)) (da_cons (dv 1) da_nil)) (da_cons (de_lstC da_nil) da_nil)))) (dg_tup rfl (gn_cons (i := 2) nd (gn_cons (i := 3) nd (gn_cons (i := 4) nd gn_nil)))))
    (ds_cons (ds_forL rfl (dv 3) (dg_name (i := 5) nd) (ds_cons (ds_set (i := 6) nd (de_call G_rule_text T.d_rule_text.m (hr.mono (by omega)) (da_cons (de_fz (de_make T.k_Rule G_Rule___init__ T.m_Rule (hr.mono (by omega)) (da_cons (dv 5) da_nil))) da_nil)))
    (ds_cons (ds_if (dt_pw (dw_or (dt_cmp (op_neA hu) ops_ne (dv 6) (de_call G__law_term_text T.d__law_term_text.m (hr.mono (by omega)) (da_cons (dv 5) da_nil)) (nomark _)) (dw_or1 (dt_cmp (op_neA hu) ops_ne (de_cb (call_reprD hu hgd) cl_repr T.repr bt_repr (da_cons (de_mth0 G_Rule_term T.c_Rule.cl T.d_Rule_term.me (hr.mono (by omega)) (de_call G_read_rule T.d_read_rule.m (hr.mono (by omega)) (da_cons (dv 6) da_nil))) da_nil)) (de_cb (call_reprD hu hgd) cl_repr T.repr bt_repr (da_cons (dv 5) da_nil)) (nomark _))))) (ds_one (ds_ret dc_bl)) ds_nil)
    (ds_cons (ds_if (dt_dnotin hu1 (dv 6) (dv 2)) (ds_one (ds_expr (de_bm PySem.F.plainAttrs_list PySem.F.slot_list_append PySem.F.type_list_append mt_append ms_append (dv 4) (da_cons (dv 6) da_nil)))) ds_nil)
    (ds_one (ds_dput hu1 (dv 2) (dv 6) (de_op op_addA ops_add (de_dget2 hu1 (dv 2) (dv 6) (de_lst da_nil)) (de_lst (da_cons (dv 5) da_nil)))))))))
    (dss_fz 4 (ds_cons (ds_if (dt_cmp (op_neA hu) ops_ne (de_lcL rfl nd (dv 4) (by first | (change blkC N_law (defScope s_law) _ _ = true; decide +kernel) | rfl) (fun _ _ _ _ _ => pg_name (i := 6) nd rfl (Or.inr rfl)) (fun _ _ _ _ _ => (dp_one (dt_cmp (op_neA hu) ops_ne (de_lcL rfl nd (de_dget hu1 (dv 2) (dv 6)) (by first | (change blkC N_law (defScope s_law) _ _ = true; decide +kernel) | rfl) (fun _ _ _ _ _ => pg_name (i := 5) nd rfl (Or.inl rfl)) (fun _ _ _ _ _ => (dp_one (dt_cmp (op_neA hu) ops_ne (dv 5) (de_ix (de_dget hu1 (dv 2) (dv 6)) dc_int) (nomark _)))) (fun _ _ _ _ _ => (dv 5))) (de_lst da_nil) (nomark _)))) (fun _ _ _ _ _ => (dv 6))) (de_lst da_nil) (nomark _)) (ds_one (ds_ret dc_bl)) ds_nil)
    (ds_cons (ds_par (i := 7) (j := 8) rfl nd (da_cons (de_call G__law_one_of T.d__law_one_of.m (hr.mono (by omega)) (da_cons (dv 1) (da_cons (dv 3) da_nil))) (da_cons (de_call G__law_one_of T.d__law_one_of.m (hr.mono (by omega)) (da_cons (dv 1) (da_cons (dv 3) da_nil))) da_nil)))
    (ds_one (ds_if (dt_cmp (op_neA hu) ops_ne (de_eqOwn G_Rule___eq__ T.d_Rule___eq__.me (hr.mono (by omega)) (de_fz (de_make T.k_Rule G_Rule___init__ T.m_Rule (hr.mono (by omega)) (da_cons (dv 7) da_nil))) (de_fz (de_make T.k_Rule G_Rule___init__ T.m_Rule (hr.mono (by omega)) (da_cons (dv 8) da_nil))) (nomark _)) (de_cmp (op_eqA hu) ops_eq (de_call G_rule_text T.d_rule_text.m (hr.mono (by omega)) (da_cons (de_fz (de_make T.k_Rule G_Rule___init__ T.m_Rule (hr.mono (by omega)) (da_cons (dv 7) da_nil))) da_nil)) (de_call G_rule_text T.d_rule_text.m (hr.mono (by omega)) (da_cons (de_fz (de_make T.k_Rule G_Rule___init__ T.m_Rule (hr.mono (by omega)) (da_cons (dv 8) da_nil))) da_nil)) (nomark _)) (nomark _)) (ds_one (ds_ret dc_bl)) ds_nil))))))))
    (ds_one (ds_ret dc_bl))), fun ds C Q h => ?_⟩
  obtain ⟨xs, rfl, hl, h⟩ := h
  rw [show startD N_law [.fro (xs.map D.int)] = [some (.fro (xs.map D.int)), none, none, none, none, none, none, none, none] from rfl]
  refine seq_g fun NX hNX => ?_
  walk_at "dl"
  refine ⟨xs, rfl, hl, fun as C1 nod has sub => ?_⟩
  walk_at "dl"
  refine ⟨fun i ρ C' => (∃ o1 o2 o3 o4 o5 o6 o7 o8, ρ = [some (.fro (xs.map D.int)), o1, o2, o3, o4, o5, o6, o7, o8]) ∧ (∀ j a, i ≤ j → as[j]? = some a → ∃ y, C' a = some y ∧ PU 0 y) ∧ Sub C C',
    ⟨⟨_, _, _, _, _, _, _, _, rfl⟩, fun j a _ e => (has a (List.mem_of_getElem? e)).2, sub⟩, ?_, ?_⟩
  · rintro i d ρ C0 e ⟨⟨o1, o2, o3, o4, o5, o6, o7, o8, rfl⟩, hpu, sub0⟩
    rw [List.getElem?_map] at e
    obtain ⟨a, ea, rfl⟩ : ∃ a, as[i]? = some a ∧ d = .cell a := by
      cases e2 : as[i]? with
      | none => rw [e2] at e; cases e
      | some a => rw [e2] at e; cases e; exact ⟨a, rfl, rfl⟩
    obtain ⟨y0, hy0, py0⟩ := hpu i a (Nat.le_refl i) ea
    have hCa := (has a (List.mem_of_getElem? ea)).1
    -- the turn's end: what it leaves is forgotten
    have done : ∀ ρ' C', (∃ o1 o2 o3 o4 o5 o6 o7 o8, ρ' = [some (.fro (xs.map D.int)), o1, o2, o3, o4, o5, o6, o7, o8]) → Sub (cdel C0 a) C' → Wk (fun ρ C' => (∃ o1 o2 o3 o4 o5 o6 o7 o8, ρ = [some (.fro (xs.map D.int)), o1, o2, o3, o4, o5, o6, o7, o8]) ∧ (∀ j a, i + 1 ≤ j → as[j]? = some a → ∃ y, C' a = some y ∧ PU 0 y) ∧ Sub C C') ρ' C' := by
      intro ρ' C' hρ hs
      refine ⟨ρ', cdel C0 a, Fg.refl _, Gh.sub hs, hρ, fun j b hj eb => ?_, fun b c e => ?_⟩
      · have hne : b ≠ a := fun e => by
          subst e
          have := (List.getElem?_inj (List.getElem?_eq_some_iff.mp ea).1 nod).mp (ea.trans eb.symm)
          omega
        obtain ⟨y, h1, h2⟩ := hpu j b (by omega) eb
        exact ⟨y, by unfold cdel; rw [if_neg hne]; exact h1, h2⟩
      · unfold cdel
        rw [if_neg (fun z => by rw [z, hCa] at e; cases e)]
        exact sub0 b c e
    refine name_g ?_
    simp only [List.set_cons_succ, List.set_cons_zero]
    refine seq_g fun NX hNX => ?_
    walk_at "dl"
    intro p hp
    have hpa : p ≠ a := fun e => by rw [e, hy0] at hp; cases hp
    refine ⟨a, y0, 0, rfl, by rw [cset_ne (Ne.symm hpa)]; exact hy0, py0, by omega, fun ts y1 hts1 hts2 hts hy1 => ?_⟩
    walk_at "dl"
    intro q hq
    have hqa : q ≠ a := fun e => by rw [e, cset_same] at hq; cases hq
    rw [cset_ne hqa] at hq
    have hqp : q ≠ p := fun e => by rw [e, cset_same] at hq; cases hq
    rw [cset_ne hqp] at hq
    refine hNX _ _ ?_
    clear hNX
    rw [show cset (cset (cset C0 p (.dic [])) a y1) q (.lst []) = ZC C0 p (.dic []) a y1 q (.lst []) from rfl]
    refine seq_g fun NX hNX => ?_
    walk_at "dl"
    refine ⟨fun i ρ C' => ∃ kds ls o5 o6 o7 o8, KI i kds ls ∧ C' = ZC C0 p (.dic kds) a y1 q (.lst ls) ∧ ρ = [some (.fro (xs.map D.int)), some (.cell a), some (.cell p), some (.lst (ts.map toD)), some (.cell q), o5, o6, o7, o8],
      ⟨[], [], _, _, _, _, ⟨fun k d e => (by cases e), by simp, by simp, by simp⟩, rfl, rfl⟩, ?_, ?_⟩
    · rintro j d ρ C' e ⟨kds, ls, o5, o6, o7, o8, ki, rfl, rfl⟩
      obtain ⟨t, ht, rfl⟩ := map_get e
      have hj := (List.getElem?_eq_some_iff.mp e).1
      rw [List.length_map] at hj
      have gt := hts t ht
      have w1 := gt.1
      have w2 : hle 3 t := hle_mono gt.2.1 (by omega)
      have w3 : (txtL t).length ≤ 100000 := Nat.le_trans gt.2.2 (by omega)
      refine name_g ?_
      simp only [List.set_cons_succ, List.set_cons_zero]
      refine seq_g fun NX hNX => ?_
      walk_at "dl"
      intro r hr0
      refine ⟨r, t, rfl, cset_same, w1, w2, ?_⟩
      simp only [cset_cset, cset_same, cdel_new hr0]
      refine ⟨trivial, t, rfl, w1, w2, w3, hNX _ _ ?_⟩
      clear hNX
      refine seq_g fun NX hNX => ?_
      walk_at "dl"
      refine ⟨t, rfl, w1, w2, w3, ?_⟩
      walk_at "dl"
      refine ⟨t, rfl, w1, w2, w3, ?_⟩
      simp only [ruleD]
      walk_at "dl"
      refine ⟨if_neg (by decide +kernel), t, rfl, w1, w2, ?_⟩
      obtain ⟨xs', ex⟩ := toD_tup t
      have oS := okS_tm gt
      have nS := (nice_tm 2 t gt.1 gt.2.1).py
      rw [ex] at oS nS
      simp only [ex]
      refine ⟨nS, oS, nS, oS, ?_⟩
      rw [if_neg (by simp)]
      simp only [← ex]
      refine hNX _ _ ?_
      clear hNX
      have hpq : p ≠ q := Ne.symm hqp
      have vp : ∀ K L, vw (ZC C0 p (.dic K) a y1 q L) (.cell p) = .dic K := fun K L => by simp only [vw, ZC.p_ hpq hpa]
      have vq : ∀ K L, vw (ZC C0 p K a y1 q (.lst L)) (.cell q) = .lst L := fun K L => by simp only [vw, ZC.q_]
      refine seq_g fun NX hNX => ?_
      walk_at "dl"
      simp only [vp]
      obtain ⟨m, hm, em, kup⟩ := ki.up gt
      have next : ∀ ls', (∀ l ∈ ls', l ∈ ls ∨ l = .str (txt t)) → ls'.length ≤ j + 1 → NX [some (.fro (xs.map D.int)), some (.cell a), some (.cell p), some (.lst (ts.map toD)), some (.cell q), some (toD t), some (.str (txt t)), o7, o8] (ZC C0 p (.dic kds) a y1 q (.lst ls')) := by
        intro ls' h1 h2
        refine hNX _ _ ?_
        clear hNX
        walk_at "dl"
        simp only [vp]
        refine ⟨⟨_, rfl⟩, ?_⟩
        rw [em, vw_l, ZC.p_ hpq hpa]
        refine ⟨by rw [List.length_replicate]; simp only [List.length_cons, List.length_nil]; omega, by have := ki.2.2.2; omega, .of ⟨_, ls', _, _, _, _, kup ls' h1 h2, ZC.setp _ hpq hpa, rfl⟩⟩
      by_cases hin : (dval kds (.inr (txt t))).isSome = true
      · rw [hin]
        exact next ls (fun l hl => .inl hl) (by have := ki.2.2.1; omega)
      · rw [if_pos (by simp [hin]), vq, ZC.q_]
        refine ⟨trivial, by have := ki.2.2.1; omega, ?_⟩
        rw [ZC.setq]
        exact next _ (fun l hl => by
          rcases List.mem_append.mp hl with hl | hl
          · exact .inl hl
          · exact .inr (List.mem_singleton.mp hl)) (by rw [List.length_append]; have := ki.2.2.1; simp; omega)
    · rintro ρ C' ⟨kds, ls, o5, o6, o7, o8, ki, rfl, rfl⟩
      refine hNX _ _ ?_
      clear hNX
      rw [List.length_map] at ki
      refine fz_g rfl ZC.q_ ?_
      simp only [List.set_cons_succ, List.set_cons_zero]
      refine seq_g fun NX hNX => ?_
      have hpq : p ≠ q := Ne.symm hqp
      have hCf : ∀ b c, b ≠ a → C0 b = some c → cdel (ZC C0 p (.dic kds) a y1 q (.lst ls)) q b = some c := fun b c hb e => by
        have h1 : b ≠ p := fun z => by rw [z, hp] at e; cases e
        have h2 : b ≠ q := fun z => by rw [z, hq] at e; cases e
        unfold cdel ZC
        rw [if_neg h2, cset_ne h2, cset_ne hb, cset_ne h1]
        exact e
      have ca : cdel (ZC C0 p (.dic kds) a y1 q (.lst ls)) q a = some y1 := by
        unfold cdel
        rw [if_neg (Ne.symm hqa)]
        exact ZC.a_ (Ne.symm hqa)
      have cp : cdel (ZC C0 p (.dic kds) a y1 q (.lst ls)) q p = some (.dic kds) := by
        unfold cdel
        rw [if_neg hpq]
        exact ZC.p_ hpq hpa
      generalize cdel (ZC C0 p (.dic kds) a y1 q (.lst ls)) q = Cf at hCf ca cp ⊢
      have vp : vw Cf (.cell p) = .dic kds := by simp only [vw, cp]
      walk_at "dl"
      refine compN_none (fun i d P' e pf => ?_) ⟨okD_nil, okD_nil, ?_⟩
      · obtain ⟨z, dz, rfl, ez⟩ := ki.2.1 d (List.mem_of_getElem? e)
        obtain ⟨t, m, gt, _, rfl, _⟩ := ki.1 _ _ ez
        walk_at "dl"
        simp only [vp]
        rw [ez, opt_some]
        refine compN_none (fun i d P2 e p2 => ?_) ⟨okD_nil, okD_nil, ?_⟩
        · have ed := List.eq_of_mem_replicate (List.mem_of_getElem? e)
          subst ed
          walk_at "dl"
          simp only [vp]
          rw [ez, opt_some]
          simp only [vw_l, List.replicate_succ, atI_0, List.getElem?_cons_zero, opt_some]
          have o := (nice_tm 2 t gt.1 gt.2.1).ok (by omega)
          refine eq_tm true t t Cf _ o o ?_
          rw [eqv_self gt]
          exact p2
        · rw [vw_l, eqD_nil]
          exact pf
      · rw [vw_l, eqD_nil, if_neg (by simp)]
        refine hNX _ _ ?_
        clear hNX
        refine seq_g fun NX hNX => ?_
        have hne : ts.map toD ≠ [] := fun e => by
          have := congrArg List.length e
          rw [List.length_map] at this
          simp at this
          rw [this] at hts1
          simp at hts1
        walk_at "dl"
        refine ⟨a, _, y1, _, rfl, ca, hy1, hne, by rw [List.length_map]; exact hts2, by omega, fun d1 y2 hd1 hy2 => ?_⟩
        refine ⟨a, _, y2, _, rfl, cset_same, hy2, hne, by rw [List.length_map]; exact hts2, by omega, fun d2 y3 hd2 hy3 => ?_⟩
        obtain ⟨t1, ht1, rfl⟩ := List.mem_map.mp hd1
        obtain ⟨t2, ht2, rfl⟩ := List.mem_map.mp hd2
        rw [cset_cset]
        refine hNX _ _ ?_
        clear hNX
        have g1 := hts t1 ht1
        have g2 := hts t2 ht2
        have h31 : hle 3 t1 := hle_mono g1.2.1 (by omega)
        have h32 : hle 3 t2 := hle_mono g2.2.1 (by omega)
        have hCg : Sub (cdel C0 a) (cset Cf a y3) := fun b c e => by
          unfold cdel at e
          split at e
          · cases e
          · rename_i hb
            rw [cset_ne hb]
            exact hCf b c hb e
        generalize cset Cf a y3 = Cg at hCg ⊢
        generalize hEnd : (Wk _ : DL.Env → Cells → Prop) = END at done ⊢
        have fini := done [some (.fro (xs.map D.int)), some (.cell a), some (.cell p), some (.lst (ts.map toD)), some (.lst ls), o5, o6, some (toD t1), some (toD t2)] Cg ⟨_, _, _, _, _, _, _, _, rfl⟩ hCg
        simp only [dIfS, dTest, dOp, dCall]
        refine mk_rule rfl g1 (mk_rule rfl g2 ⟨rfl, rfl, t1, t2, rfl, (nice_tm 2 t1 g1.1 g1.2.1).ok (by omega), (nice_tm 2 t2 g2.1 g2.2.1).ok (by omega), fun b eb => ⟨⟨_, rfl⟩, ?_⟩⟩)
        refine mk_rule rfl g1 ⟨t1, rfl, g1.1, h31, Nat.le_trans g1.2.2 (by omega), mk_rule rfl g2 ⟨t2, rfl, g2.1, h32, Nat.le_trans g2.2.2 (by omega), ?_⟩⟩
        walk_at "dl"
        rw [eb, eqD_txt g1 g2, if_neg (by simp)]
        exact fini
  · rintro ρ C' ⟨⟨o1, o2, o3, o4, o5, o6, o7, o8, rfl⟩, _, s⟩
    refine hNX _ _ ?_
    walk_at "dl"
    exact fin_sub h s
end

end K94

set_option Elab.async false
set_option linter.all false
set_option maxRecDepth 100000
set_option maxHeartbeats 1000000
namespace K94
open PySem L2 DL
local macro_rules | `(tactic| walk_at "dl") => `(tactic| simp only [dSeq, dIfS, dOr, dAnd, dNot, dTest, dCB, d1, d2, kIsi, kIsO, kLen, kStr, kIntT, kAbs, kI2, kSum, dCons, dNil, dVar, dC, slot, tyD, opt_some, kitB_ss, kitB_is, kitB_ii, kitB_ib, kitB_si, kitB_tt, kitB_ll, kitB_dd, kitB_tl, kitB_lt, kitB_ts, kitB_bb, kitB_bi,
  vw_non, vw_bl, vw_i, vw_s, vw_l, vw_t, vw_d, vw_n, vw_f, vw_v, asB, dAndV, dOrV, dNotV, dIf, dOp, dI2, dSub, dMul, dFdiv, dMod, dPow, dLt, dLe, dGt, dGe, dAdd, dRet, dRetN, dNext, dLst, dTup, dLstC, dCall, dDrop, dAsg, dName, dPar, dSets, dGTup, dIx, dSl, dPart, dNoP, dInN, dIsN, dEqN, dNeg, dFz, frz1, dFzS, dFld, dSetFld, dMth, dMake, dCallL, dChain, endsOf, dLcL, dLcS, dLcR1, dYes, dBM, mAppend, mInsert, mStarts3, mJoin, tyM, dBits, dForL, dForT, dForR1, int1, dDGet, dDIn, dDPut, dDGet2, kDict0, keyOf, kListOf, kRepr, dEqP, kMax, kMin, isN, fget, fput,
  List.set_cons_zero, List.set_cons_succ, List.length_cons, List.length_nil, Bool.not_true, Bool.not_false, List.append_nil,
  if_true, if_false, Bool.false_eq_true, Bool.true_eq_false, ite_true, ite_false, true_and, and_true, reduceIte, List.nil_append, List.cons_append, atI_0, atI_1, atI_2, atI_3, atI_m1, List.getElem?_cons_zero, List.getElem?_cons_succ, List.getLast?_cons_cons, List.getLast?_singleton, Nat.zero_add, Nat.reduceAdd, Int.cast_ofNat_Int, Int.natCast_add, Int.natCast_one, Nat.reduceLeDiff, Int.reduceLT, Int.reduceLE, Int.reduceEq, decide_true, decide_false, Int.reduceAdd, Int.reduceNeg, Int.reduceSub, Int.reduceToNat, eq_self, ne_eq, not_true_eq_false, not_false_eq_true, List.map_cons, List.map_nil, Option.getD_some, Option.getD_none, Option.isSome_some, Option.isSome_none])
section
/-! ### the law's call, where the caller is the claim's own (no repr under way) -/
open PySem.Spec PyProof.Rows
theorem go_def {P : Program} {w : World} {K : PySem.W.Frag} {mg : Str → Option Value} {base : Heap} {N ps : List Str} {x qual : Str} {st : Stmt} {f : Addr} {fd : FuncData} {k : Nat} {A : Around} {outer : List PySem.Env} {s : Shared} {H : Hp} {args : Args} {us : List Value} {vs : List V} {Q : VK} {E : XK}
    (F : Fun K x qual st f fd) (S : FnScope N ps (defScope st)) (room : Room (k + 1) A) (e0 : Env0 P w K mg base A outer s H) (hb : BindsTo s fd args (ps.zip us)) (rv : Vals vs us) (hl : vs.length = ps.length)
    (body : ∀ cdv : Value, Room k (A.deeper (envOfC qual (defScope st) s.heap.objs.size f cdv)) → ∃ t, PSs (cxOf CX0 P w K mg base N qual (defScope st) f cdv A outer s H E) (defBody st) t ∧ t { nx := fun _ h => Q .non h, rt := Q } (start N vs) H) :
    codeAny (model P w) A (.call (.ref f) args) (CR CX0 outer P w H s Q E) s := by
  obtain ⟨c0, d0, k0, m0, p0, n0, cdv, t0, l0, e, lk, code⟩ := F.ex
  subst e
  have inS : K.In s.heap := e0.mod.kin.keeps fun b o z => (e0.bs b o z).1
  have kinds : ∀ y ∈ ps.zip us, (defScope st).names.lookup y.1 = some .local ∨ ((defScope st).names.lookup y.1 = some .cell ∧ ((cellsFrom (s.heap.objs.size + 1) (defScope st).names []).lookup y.1).isSome = true) := by
    rintro ⟨n, v⟩ hy
    rcases S.par n (List.of_mem_zip hy).1 with z | z
    · exact Or.inl z
    · exact Or.inr ⟨z, PySem.W.cellsFrom_some _ _ _ (Or.inl z)⟩
  refine codeAny_call_function room.depth (inS f _ lk) rfl S.co S.gen rfl (PySem.W.codeRec_of inS code) (hb _ _ _ _ (wpAny_newFunctionEnv_cells S.kind kinds fun env ee s1 ic => ?_))
  subst ee
  obtain ⟨t, ht, start0⟩ := body cdv (room.deeper _)
  refine ⟨(e0.mod.nolimit.keeps fun b o z => (e0.bs b o z).1).keeps ic.toInCall.keep, codeAny_func ?_⟩
  have first : Inv (cxOf CX0 P w K mg base N qual (defScope st) f cdv A outer s H E) [] (start N vs) H s1 := inv_start S room.hd e0 hl rv ic
  have last : ∀ {σ2 : L2.St} {H2 : Hp} {v : V} {u : Value} {s2 : Shared}, Inv (cxOf CX0 P w K mg base N qual (defScope st) f cdv A outer s H E) [] σ2 H2 s2 → RelV v u → Q v H2 → CE outer P w H s Q u s2 := by
    intro σ2 H2 v u s2 J r q
    exact ⟨v, H2, J.os, J.bare, J.base, J.hok, r, q⟩
  refine wpAny_mono (ht.run [] s1 (start N vs) H _ first start0) ?_ (fun _ _ z => z)
  intro fl s2 z
  cases fl with
  | next => obtain ⟨_, _, J, q⟩ := z; exact last (v := V.non) (u := Value.none) J rfl q
  | ret u => obtain ⟨v, _, _, J, r, q⟩ := z; exact last J r q
  | brk => obtain ⟨_, _, _, q⟩ := z; exact q.elim
  | cont => obtain ⟨_, _, _, q⟩ := z; exact q.elim
/-- the heap's part that is told of: the script, unless the module holds it -/
theorem script_told {K : PySem.W.Frag} {P : Program} {w : World} {h : Heap} {a : Addr} {vs : List Value} {ns : List Int} (inH : K.In h) (at_ : h.get? a = some { cls := .type "list", data := .seq vs.toArray }) (allInt : IntsAre vs ns) (short : ns.length ≤ sizeLine) :
    ∃ H : Hp, (∀ b, H b = none ∨ (b = a ∧ K.lookup a = none ∧ H b = some (.frz { cls := .type "list", data := .seq vs.toArray } (.lst (ns.map V.int))))) ∧ SqL K H a (ns.map V.int) ∧ HOk P w H h := by
  have vi := vals_ints allInt
  have same := allInt.length
  cases known : K.lookup a with
  | some o =>
    have there := inH a o known
    rw [at_] at there
    obtain rfl := Option.some.inj there
    exact ⟨fun _ => none, fun _ => Or.inl rfl, Or.inr ⟨_, vs.toArray, _, known, rfl, rfl, rfl, by rw [List.size_toArray, same]; exact short, by simpa using vi⟩, fun b u z => nomatch z⟩
  | none =>
    refine ⟨fun b => if b = a then some (.frz { cls := .type "list", data := .seq vs.toArray } (.lst (ns.map V.int))) else none, fun b => ?_, Or.inl (Or.inr ⟨_, if_pos rfl⟩), fun b u z => ?_⟩
    · by_cases e : b = a
      · exact Or.inr ⟨e, rfl, if_pos e⟩
      · exact Or.inl (if_neg e)
    · by_cases e : b = a
      · obtain rfl := Option.some.inj ((if_pos e).symm.trans z)
        subst e
        exact ⟨at_, by rw [List.length_map]; exact short, vs, _, vi, at_⟩
      · exact nomatch (if_neg e).symm.trans z
theorem ra_ints {K : PySem.W.Frag} {H : Hp} : ∀ ns : List Int, RA K H (ns.map D.int) (ns.map V.int)
  | [] => RA.nil
  | n :: ns => RA.cons (by simp only [R]) (ra_ints ns)
/-- the call by the claim's own caller -/
theorem own_call {P : Program} {w : World} {K : PySem.W.Frag} {mg mb : Str → Option Value} {k : Nat} {st : Stmt} {fa a : Addr} {fd : FuncData} {N : List Str} {x : Str} {p : DSp} {s₁ : Shared} {vs : List Value} {ns : List Int}
    (inH : K.In s₁.heap) (gM : s₁.heap.Ns mainGlobals mg) (gB : s₁.heap.Ns builtinsNs mb) (boot : ∀ y : Str, y ≠ "__name__" → mb y = bootBuiltins y) (nolim : s₁.heap.NoLimit) (nog : s₁.gens = #[])
    (at_ : s₁.heap.get? a = some { cls := .type "list", data := .seq vs.toArray }) (allInt : IntsAre vs ns) (short : ns.length ≤ 63) (room : Room (k + 1) callerA)
    (F : Fun K "law" "law" st fa fd) (S : FnScope N [x] (defScope st)) (binds : ∀ (s : Shared) (u : Value), BindsTo s fd ⟨[u], []⟩ [(x, u)])
    (body : ∀ base : Heap, base.Ns mainGlobals mg → ∀ (cdv : Value) (outer : List PySem.Env) (s : Shared) (H : Hp) (E : XK), Room k (callerA.deeper (envOfC "law" (defScope st) s.heap.objs.size fa cdv)) → (callerA.deeper (envOfC "law" (defScope st) s.heap.objs.size fa cdv)).guards = some [] →
      ∃ t, DSs (cxOf CX0 P w K mg base N "law" (defScope st) fa cdv callerA outer s H E).nox (defBody st) t ∧ ∀ ds C Q, p ds C Q → t (endsOf Q) (startD N ds) C)
    (want : ∀ C Q, Q (.bl true) C → p [.fro (ns.map D.int)] C Q) :
    codeAny (model P w) callerA (.call (.ref fa) ⟨[.ref a], []⟩) (fun r s' => r = .ok (.ret (.bool true)) ∧ OldK s₁.heap s'.heap ∧ s'.os = s₁.os ∧ AllBare s'.gens) s₁ := by
  obtain ⟨H, hH, sq, ok0⟩ := script_told (P := P) (w := w) inH at_ allInt (Nat.le_trans short (by decide))
  have keepB : ∀ b o, s₁.heap.get? b = some o → (b = a → K.lookup a ≠ none) → (hidT s₁.heap H).get? b = some o := fun b o e ne => by
    rcases hH b with z | ⟨rfl, z, _⟩
    · exact hidT_get e z
    · exact absurd z (ne rfl)
  have notA : ∀ b o es ep, s₁.heap.get? b = some o → o.data = .dict es ep → b ≠ a := fun b o es ep e d z => by
    subst z
    rw [at_] at e
    obtain rfl := Option.some.inj e
    cases d
  have inB : K.In (hidT s₁.heap H) := fun b o e => keepB b o (inH b o e) fun z => by
    subst z
    rw [e]
    exact nofun
  have nsB : ∀ {b : Addr} {m : Str → Option Value}, s₁.heap.Ns b m → (hidT s₁.heap H).Ns b m := by
    rintro b m ⟨o, es, ep, e, d, r⟩
    exact ⟨o, es, ep, keepB b o e fun z => absurd z (notA b o es ep e d), d, r⟩
  have limB : (hidT s₁.heap H).NoLimit := by
    obtain ⟨m, h1, h2⟩ := nolim
    exact ⟨m, nsB h1, h2⟩
  have e0 : Env0 P w K mg (hidT s₁.heap H) callerA [] s₁ H :=
    { frames := rfl, mod := ⟨inB, nsB gM, ⟨mb, nsB gB, boot⟩, limB⟩, bs := fun b o e => of_hidT e, bsz := Nat.le_of_eq (hidT_size _ _), funs := trivial, frf := (fun b z => nomatch z), hok := ok0, bare := .of_eq nog }
  have told : DL.Ok K ⟨H, fun _ => none, H⟩ := ⟨fun _ _ e => e, fun b c e => nomatch e⟩
  have run := go_def (Q := fun v _ => v = .bl true) (E := fun _ _ _ => False) F S room e0 (binds s₁ (.ref a)) (us := [.ref a]) (vs := [.ref a]) (.cons rfl .nil) rfl fun cdv r => by
    obtain ⟨t, h1, h2⟩ := body _ (nsB gM) cdv [] s₁ H (fun _ _ _ => False) r rfl
    have rs : RA K H [.fro (ns.map D.int)] [.ref a] := RA.cons (by simp only [R]; exact ⟨a, _, rfl, sq, ra_ints ns⟩) RA.nil
    refine ⟨_, PSs.nox h1, startD N [.fro (ns.map D.int)], ⟨H, fun _ => none, H⟩, endsOf fun d _ => d = .bl true, rfl, sl_start rs, told, h2 _ _ _ (want _ _ rfl), ⟨fun ρ' σ' S' e1 s1 t1 => ?_, fun v d S' e1 rd t1 => ?_, fun ρ' σ' S' e1 s1 t1 => t1.elim, fun ρ' σ' S' e1 s1 t1 => t1.elim⟩⟩
    · obtain ⟨_, _, q⟩ := t1
      cases q
    · obtain ⟨_, _, q⟩ := t1
      have q : d = .bl true := q
      subst q
      simpa only [R] using rd
  refine codeAny_mono run fun r s2 z => ?_
  match r, z with
  | .ok (.ret u), z =>
    obtain ⟨v, H2, os, bare, un, ok2, rv, q⟩ := z
    have q : v = .bl true := q
    subst q
    obtain rfl : u = Value.bool true := rv
    refine ⟨rfl, OldK.of_keep fun b o e => ?_, os, bare⟩
    rcases hH b with none | ⟨rfl, _, frz⟩
    · exact un.keep b o e none (fun z => nomatch z) fun z => nomatch z
    · obtain ⟨e2, _⟩ := ok2 b _ (un.frzs b _ _ frz)
      rw [at_] at e
      obtain rfl := Option.some.inj e
      exact e2
theorem walk94 {l : PySem.W.OpenLaw} {q : Program} {loose : List Str} {XP : (Str → Option Value) → Heap → Prop} {YP : World → Heap → Prop} {d : DefRec} {K : Params → PySem.W.Frag} (hn : l.most = some 63) (hdf : d.params.defaults = []) (hdn : d.name = "law")
    (hY : ∀ (w : World) (h : Heap), YP w h → (K w.params).In h) (F : ∀ (w : World) (mg : Str → Option Value) (h : Heap), (K w.params).In h → h.Ns mainGlobals mg → Txt (K w.params) mg) : PySem.W.WalkO q loose XP YP l.row.toRowW d [] (fun f vs => PySem.call f vs) := by
  refine Att.attach_call hn hdf fun w s₀ s₁ mg mb f o pm cd doc a vs ns G Y ho hd hcd hmg hobj allInt hlen hg => ?_
  have inH := hY w _ Y
  have T := F w mg _ inH G.T.g
  obtain ⟨fd, Fl, _⟩ := T.d_law.d
  rw [hdn, T.d_law.m] at hmg
  cases hmg
  refine own_call (k := 13) (x := "script") (p := sp_law) inH G.T.g G.T.b G.T.builtins G.T.nolimit hg hobj allInt hlen ⟨rfl, by decide, by decide⟩ Fl sc_law ?_ (fun base _ cdv outer s H E hr hgd => body_law T cdv callerA outer s H E hr hgd) fun C Q q => ⟨ns, rfl, by omega, q⟩
  obtain ⟨c0, d0, k0, m0, p0, n0, cdv, t0, l0, e, _, _⟩ := Fl.ex
  subst e
  exact fun s u => .of_eq rfl
/-! what the top has written -/
section
variable {K : PySem.W.Frag} {mg : Str → Option Value} {h : Heap}
theorem df_of {x : Str} {st : Stmt} {ps : List Str} {f : Addr} {oc kV dc pm cd ct : Value} {od an : Option Addr} {sl : Array (Option Value)} (X : K.In h) (G : h.Ns mainGlobals mg)
    (b : ∀ (kV doc pm : Value) (an : Option Addr) (cdv ct : Value) (us : List Value), us.length = ps.length → bindArgs (PySem.W.fnOf x x (defArgs st) (defBody st) (defScope st) .none kV doc pm an cdv ct) ⟨us, []⟩ = pure (ps.zip us))
    (a : PySem.W.nsIn K mainGlobals x = some (some (.ref f))) (l : K.lookup f = some ⟨oc, od, .func (PySem.W.fnOf x x (defArgs st) (defBody st) (defScope st) .none kV dc pm an cd ct), sl⟩) (c : PySem.W.codeIn K cd x = true) (k : PySem.W.keepIn K (.ref f) = true) : Df K mg x st ps := by
  have m := PySem.W.mg_of X G a
  have e : fa mg x = f := by unfold fa; rw [m]
  have F := fun_mk (st := st) l c k
  exact ⟨by rw [e]; exact m, _, by rw [e]; exact F, F.binds b⟩
theorem mf_of {C : Addr} {m qual : Str} {st : Stmt} {ps : List Str} {f : Addr} {oc kV dc pm cd ct : Value} {od an : Option Addr} {sl : Array (Option Value)}
    (b : ∀ (kV doc pm : Value) (an : Option Addr) (cdv ct : Value) (us : List Value), us.length = ps.length → bindArgs (PySem.W.fnOf m qual (defArgs st) (defBody st) (defScope st) .none kV doc pm an cdv ct) ⟨us, []⟩ = pure (ps.zip us))
    (a : PySem.W.findIn K (.ref C) m = some (some (.ref f))) (i : PySem.W.isFn K (.ref f) = true) (l : K.lookup f = some ⟨oc, od, .func (PySem.W.fnOf m qual (defArgs st) (defBody st) (defScope st) .none kV dc pm an cd ct), sl⟩) (c : PySem.W.codeIn K cd qual = true) (k : PySem.W.keepIn K (.ref f) = true) : Mf K C m qual st ps := by
  have e : ma K C m = f := by unfold ma; rw [a]
  have F := fun_mk (st := st) l c k
  exact ⟨by rw [e]; exact ⟨a, i, k⟩, _, by rw [e]; exact F, F.binds b⟩
end
end

end K94

set_option Elab.async false
set_option linter.all false
set_option maxRecDepth 100000
set_option maxHeartbeats 1000000
namespace K94
open PySem PySem.Spec L2 DL
theorem all_mk {K : PySem.W.Frag} {mg : Str → Option Value} {h : Heap} {cR : Addr} {tL : Tok} (X : K.In h) (G : h.Ns mainGlobals mg)
    {f1 : Addr} {oc1 kV1 dc1 pm1 cd1 ct1 : Value} {od1 an1 : Option Addr} {sl1 : Array (Option Value)}
    {f2 : Addr} {oc2 kV2 dc2 pm2 cd2 ct2 : Value} {od2 an2 : Option Addr} {sl2 : Array (Option Value)}
    {f3 : Addr} {oc3 kV3 dc3 pm3 cd3 ct3 : Value} {od3 an3 : Option Addr} {sl3 : Array (Option Value)}
    {f4 : Addr} {oc4 kV4 dc4 pm4 cd4 ct4 : Value} {od4 an4 : Option Addr} {sl4 : Array (Option Value)}
    {f5 : Addr} {oc5 kV5 dc5 pm5 cd5 ct5 : Value} {od5 an5 : Option Addr} {sl5 : Array (Option Value)}
    {f6 : Addr} {oc6 kV6 dc6 pm6 cd6 ct6 : Value} {od6 an6 : Option Addr} {sl6 : Array (Option Value)}
    {f7 : Addr} {oc7 kV7 dc7 pm7 cd7 ct7 : Value} {od7 an7 : Option Addr} {sl7 : Array (Option Value)}
    {f8 : Addr} {oc8 kV8 dc8 pm8 cd8 ct8 : Value} {od8 an8 : Option Addr} {sl8 : Array (Option Value)}
    {f9 : Addr} {oc9 kV9 dc9 pm9 cd9 ct9 : Value} {od9 an9 : Option Addr} {sl9 : Array (Option Value)}
    {f10 : Addr} {oc10 kV10 dc10 pm10 cd10 ct10 : Value} {od10 an10 : Option Addr} {sl10 : Array (Option Value)}
    {f11 : Addr} {oc11 kV11 dc11 pm11 cd11 ct11 : Value} {od11 an11 : Option Addr} {sl11 : Array (Option Value)}
    {f12 : Addr} {oc12 kV12 dc12 pm12 cd12 ct12 : Value} {od12 an12 : Option Addr} {sl12 : Array (Option Value)}
    {f13 : Addr} {oc13 kV13 dc13 pm13 cd13 ct13 : Value} {od13 an13 : Option Addr} {sl13 : Array (Option Value)}
    {f14 : Addr} {oc14 kV14 dc14 pm14 cd14 ct14 : Value} {od14 an14 : Option Addr} {sl14 : Array (Option Value)}
    {f15 : Addr} {oc15 kV15 dc15 pm15 cd15 ct15 : Value} {od15 an15 : Option Addr} {sl15 : Array (Option Value)}
    {f16 : Addr} {oc16 kV16 dc16 pm16 cd16 ct16 : Value} {od16 an16 : Option Addr} {sl16 : Array (Option Value)}
    {f17 : Addr} {oc17 kV17 dc17 pm17 cd17 ct17 : Value} {od17 an17 : Option Addr} {sl17 : Array (Option Value)}
    {f18 : Addr} {oc18 kV18 dc18 pm18 cd18 ct18 : Value} {od18 an18 : Option Addr} {sl18 : Array (Option Value)}
    {f19 : Addr} {oc19 kV19 dc19 pm19 cd19 ct19 : Value} {od19 an19 : Option Addr} {sl19 : Array (Option Value)}
    {f20 : Addr} {oc20 kV20 dc20 pm20 cd20 ct20 : Value} {od20 an20 : Option Addr} {sl20 : Array (Option Value)}
    {f21 : Addr} {oc21 kV21 dc21 pm21 cd21 ct21 : Value} {od21 an21 : Option Addr} {sl21 : Array (Option Value)}
    {f22 : Addr} {oc22 kV22 dc22 pm22 cd22 ct22 : Value} {od22 an22 : Option Addr} {sl22 : Array (Option Value)}
    {f23 : Addr} {oc23 kV23 dc23 pm23 cd23 ct23 : Value} {od23 an23 : Option Addr} {sl23 : Array (Option Value)}
    {f24 : Addr} {oc24 kV24 dc24 pm24 cd24 ct24 : Value} {od24 an24 : Option Addr} {sl24 : Array (Option Value)}
    {f25 : Addr} {oc25 kV25 dc25 pm25 cd25 ct25 : Value} {od25 an25 : Option Addr} {sl25 : Array (Option Value)}
    {f26 : Addr} {oc26 kV26 dc26 pm26 cd26 ct26 : Value} {od26 an26 : Option Addr} {sl26 : Array (Option Value)}
    {f27 : Addr} {oc27 kV27 dc27 pm27 cd27 ct27 : Value} {od27 an27 : Option Addr} {sl27 : Array (Option Value)}
    {f28 : Addr} {oc28 kV28 dc28 pm28 cd28 ct28 : Value} {od28 an28 : Option Addr} {sl28 : Array (Option Value)}
    {f29 : Addr} {oc29 kV29 dc29 pm29 cd29 ct29 : Value} {od29 an29 : Option Addr} {sl29 : Array (Option Value)}
    {f30 : Addr} {oc30 kV30 dc30 pm30 cd30 ct30 : Value} {od30 an30 : Option Addr} {sl30 : Array (Option Value)}
    {f31 : Addr} {oc31 kV31 dc31 pm31 cd31 ct31 : Value} {od31 an31 : Option Addr} {sl31 : Array (Option Value)}
    {f32 : Addr} {oc32 kV32 dc32 pm32 cd32 ct32 : Value} {od32 an32 : Option Addr} {sl32 : Array (Option Value)}
    {f33 : Addr} {oc33 kV33 dc33 pm33 cd33 ct33 : Value} {od33 an33 : Option Addr} {sl33 : Array (Option Value)}
    (aR : PySem.W.nsIn K mainGlobals "Rule" = some (some (.ref cR)))
    (a1 : PySem.W.nsIn K mainGlobals "is_name" = some (some (.ref f1)))
    (l1 : K.lookup f1 = some ⟨oc1, od1, .func (PySem.W.fnOf "is_name" "is_name" (defArgs s_is_name) (defBody s_is_name) (defScope s_is_name) .none kV1 dc1 pm1 an1 cd1 ct1), sl1⟩)
    (c1 : PySem.W.codeIn K cd1 "is_name" = true)
    (k1 : PySem.W.keepIn K (.ref f1) = true)
    (a2 : PySem.W.nsIn K mainGlobals "is_whole" = some (some (.ref f2)))
    (l2 : K.lookup f2 = some ⟨oc2, od2, .func (PySem.W.fnOf "is_whole" "is_whole" (defArgs s_is_whole) (defBody s_is_whole) (defScope s_is_whole) .none kV2 dc2 pm2 an2 cd2 ct2), sl2⟩)
    (c2 : PySem.W.codeIn K cd2 "is_whole" = true)
    (k2 : PySem.W.keepIn K (.ref f2) = true)
    (a3 : PySem.W.nsIn K mainGlobals "are_terms" = some (some (.ref f3)))
    (l3 : K.lookup f3 = some ⟨oc3, od3, .func (PySem.W.fnOf "are_terms" "are_terms" (defArgs s_are_terms) (defBody s_are_terms) (defScope s_are_terms) .none kV3 dc3 pm3 an3 cd3 ct3), sl3⟩)
    (c3 : PySem.W.codeIn K cd3 "are_terms" = true)
    (k3 : PySem.W.keepIn K (.ref f3) = true)
    (a4 : PySem.W.nsIn K mainGlobals "is_term" = some (some (.ref f4)))
    (l4 : K.lookup f4 = some ⟨oc4, od4, .func (PySem.W.fnOf "is_term" "is_term" (defArgs s_is_term) (defBody s_is_term) (defScope s_is_term) .none kV4 dc4 pm4 an4 cd4 ct4), sl4⟩)
    (c4 : PySem.W.codeIn K cd4 "is_term" = true)
    (k4 : PySem.W.keepIn K (.ref f4) = true)
    (a5 : PySem.W.nsIn K mainGlobals "is_part" = some (some (.ref f5)))
    (l5 : K.lookup f5 = some ⟨oc5, od5, .func (PySem.W.fnOf "is_part" "is_part" (defArgs s_is_part) (defBody s_is_part) (defScope s_is_part) .none kV5 dc5 pm5 an5 cd5 ct5), sl5⟩)
    (c5 : PySem.W.codeIn K cd5 "is_part" = true)
    (k5 : PySem.W.keepIn K (.ref f5) = true)
    (a6 : PySem.W.nsIn K mainGlobals "with_inside" = some (some (.ref f6)))
    (l6 : K.lookup f6 = some ⟨oc6, od6, .func (PySem.W.fnOf "with_inside" "with_inside" (defArgs s_with_inside) (defBody s_with_inside) (defScope s_with_inside) .none kV6 dc6 pm6 an6 cd6 ct6), sl6⟩)
    (c6 : PySem.W.codeIn K cd6 "with_inside" = true)
    (k6 : PySem.W.keepIn K (.ref f6) = true)
    (a7 : PySem.W.nsIn K mainGlobals "copied" = some (some (.ref f7)))
    (l7 : K.lookup f7 = some ⟨oc7, od7, .func (PySem.W.fnOf "copied" "copied" (defArgs s_copied) (defBody s_copied) (defScope s_copied) .none kV7 dc7 pm7 an7 cd7 ct7), sl7⟩)
    (c7 : PySem.W.codeIn K cd7 "copied" = true)
    (k7 : PySem.W.keepIn K (.ref f7) = true)
    (a8 : PySem.W.nsIn K mainGlobals "check_rule" = some (some (.ref f8)))
    (l8 : K.lookup f8 = some ⟨oc8, od8, .func (PySem.W.fnOf "check_rule" "check_rule" (defArgs s_check_rule) (defBody s_check_rule) (defScope s_check_rule) .none kV8 dc8 pm8 an8 cd8 ct8), sl8⟩)
    (c8 : PySem.W.codeIn K cd8 "check_rule" = true)
    (k8 : PySem.W.keepIn K (.ref f8) = true)
    (a9 : PySem.W.nsIn K mainGlobals "whole_of" = some (some (.ref f9)))
    (l9 : K.lookup f9 = some ⟨oc9, od9, .func (PySem.W.fnOf "whole_of" "whole_of" (defArgs s_whole_of) (defBody s_whole_of) (defScope s_whole_of) .none kV9 dc9 pm9 an9 cd9 ct9), sl9⟩)
    (c9 : PySem.W.codeIn K cd9 "whole_of" = true)
    (k9 : PySem.W.keepIn K (.ref f9) = true)
    (a10 : PySem.W.nsIn K mainGlobals "term_text" = some (some (.ref f10)))
    (l10 : K.lookup f10 = some ⟨oc10, od10, .func (PySem.W.fnOf "term_text" "term_text" (defArgs s_term_text) (defBody s_term_text) (defScope s_term_text) .none kV10 dc10 pm10 an10 cd10 ct10), sl10⟩)
    (c10 : PySem.W.codeIn K cd10 "term_text" = true)
    (k10 : PySem.W.keepIn K (.ref f10) = true)
    (a11 : PySem.W.nsIn K mainGlobals "named_at" = some (some (.ref f11)))
    (l11 : K.lookup f11 = some ⟨oc11, od11, .func (PySem.W.fnOf "named_at" "named_at" (defArgs s_named_at) (defBody s_named_at) (defScope s_named_at) .none kV11 dc11 pm11 an11 cd11 ct11), sl11⟩)
    (c11 : PySem.W.codeIn K cd11 "named_at" = true)
    (k11 : PySem.W.keepIn K (.ref f11) = true)
    (a12 : PySem.W.nsIn K mainGlobals "terms_at" = some (some (.ref f12)))
    (l12 : K.lookup f12 = some ⟨oc12, od12, .func (PySem.W.fnOf "terms_at" "terms_at" (defArgs s_terms_at) (defBody s_terms_at) (defScope s_terms_at) .none kV12 dc12 pm12 an12 cd12 ct12), sl12⟩)
    (c12 : PySem.W.codeIn K cd12 "terms_at" = true)
    (k12 : PySem.W.keepIn K (.ref f12) = true)
    (a13 : PySem.W.nsIn K mainGlobals "term_at" = some (some (.ref f13)))
    (l13 : K.lookup f13 = some ⟨oc13, od13, .func (PySem.W.fnOf "term_at" "term_at" (defArgs s_term_at) (defBody s_term_at) (defScope s_term_at) .none kV13 dc13 pm13 an13 cd13 ct13), sl13⟩)
    (c13 : PySem.W.codeIn K cd13 "term_at" = true)
    (k13 : PySem.W.keepIn K (.ref f13) = true)
    (a14 : PySem.W.nsIn K mainGlobals "rule_in" = some (some (.ref f14)))
    (l14 : K.lookup f14 = some ⟨oc14, od14, .func (PySem.W.fnOf "rule_in" "rule_in" (defArgs s_rule_in) (defBody s_rule_in) (defScope s_rule_in) .none kV14 dc14 pm14 an14 cd14 ct14), sl14⟩)
    (c14 : PySem.W.codeIn K cd14 "rule_in" = true)
    (k14 : PySem.W.keepIn K (.ref f14) = true)
    (a15 : PySem.W.nsIn K mainGlobals "rule_text" = some (some (.ref f15)))
    (l15 : K.lookup f15 = some ⟨oc15, od15, .func (PySem.W.fnOf "rule_text" "rule_text" (defArgs s_rule_text) (defBody s_rule_text) (defScope s_rule_text) .none kV15 dc15 pm15 an15 cd15 ct15), sl15⟩)
    (c15 : PySem.W.codeIn K cd15 "rule_text" = true)
    (k15 : PySem.W.keepIn K (.ref f15) = true)
    (a16 : PySem.W.nsIn K mainGlobals "read_by" = some (some (.ref f16)))
    (l16 : K.lookup f16 = some ⟨oc16, od16, .func (PySem.W.fnOf "read_by" "read_by" (defArgs s_read_by) (defBody s_read_by) (defScope s_read_by) .none kV16 dc16 pm16 an16 cd16 ct16), sl16⟩)
    (c16 : PySem.W.codeIn K cd16 "read_by" = true)
    (k16 : PySem.W.keepIn K (.ref f16) = true)
    (a17 : PySem.W.nsIn K mainGlobals "read_rule" = some (some (.ref f17)))
    (l17 : K.lookup f17 = some ⟨oc17, od17, .func (PySem.W.fnOf "read_rule" "read_rule" (defArgs s_read_rule) (defBody s_read_rule) (defScope s_read_rule) .none kV17 dc17 pm17 an17 cd17 ct17), sl17⟩)
    (c17 : PySem.W.codeIn K cd17 "read_rule" = true)
    (k17 : PySem.W.keepIn K (.ref f17) = true)
    (a18 : PySem.W.nsIn K mainGlobals "_law_purse" = some (some (.ref f18)))
    (l18 : K.lookup f18 = some ⟨oc18, od18, .func (PySem.W.fnOf "_law_purse" "_law_purse" (defArgs s__law_purse) (defBody s__law_purse) (defScope s__law_purse) .none kV18 dc18 pm18 an18 cd18 ct18), sl18⟩)
    (c18 : PySem.W.codeIn K cd18 "_law_purse" = true)
    (k18 : PySem.W.keepIn K (.ref f18) = true)
    (a19 : PySem.W.nsIn K mainGlobals "_law_mixed" = some (some (.ref f19)))
    (l19 : K.lookup f19 = some ⟨oc19, od19, .func (PySem.W.fnOf "_law_mixed" "_law_mixed" (defArgs s__law_mixed) (defBody s__law_mixed) (defScope s__law_mixed) .none kV19 dc19 pm19 an19 cd19 ct19), sl19⟩)
    (c19 : PySem.W.codeIn K cd19 "_law_mixed" = true)
    (k19 : PySem.W.keepIn K (.ref f19) = true)
    (a20 : PySem.W.nsIn K mainGlobals "_law_draw" = some (some (.ref f20)))
    (l20 : K.lookup f20 = some ⟨oc20, od20, .func (PySem.W.fnOf "_law_draw" "_law_draw" (defArgs s__law_draw) (defBody s__law_draw) (defScope s__law_draw) .none kV20 dc20 pm20 an20 cd20 ct20), sl20⟩)
    (c20 : PySem.W.codeIn K cd20 "_law_draw" = true)
    (k20 : PySem.W.keepIn K (.ref f20) = true)
    (a21 : PySem.W.nsIn K mainGlobals "_law_purses" = some (some (.ref f21)))
    (l21 : K.lookup f21 = some ⟨oc21, od21, .func (PySem.W.fnOf "_law_purses" "_law_purses" (defArgs s__law_purses) (defBody s__law_purses) (defScope s__law_purses) .none kV21 dc21 pm21 an21 cd21 ct21), sl21⟩)
    (c21 : PySem.W.codeIn K cd21 "_law_purses" = true)
    (k21 : PySem.W.keepIn K (.ref f21) = true)
    (a22 : PySem.W.nsIn K mainGlobals "_law_one_of" = some (some (.ref f22)))
    (l22 : K.lookup f22 = some ⟨oc22, od22, .func (PySem.W.fnOf "_law_one_of" "_law_one_of" (defArgs s__law_one_of) (defBody s__law_one_of) (defScope s__law_one_of) .none kV22 dc22 pm22 an22 cd22 ct22), sl22⟩)
    (c22 : PySem.W.codeIn K cd22 "_law_one_of" = true)
    (k22 : PySem.W.keepIn K (.ref f22) = true)
    (a23 : PySem.W.nsIn K mainGlobals "_law_shuffled" = some (some (.ref f23)))
    (l23 : K.lookup f23 = some ⟨oc23, od23, .func (PySem.W.fnOf "_law_shuffled" "_law_shuffled" (defArgs s__law_shuffled) (defBody s__law_shuffled) (defScope s__law_shuffled) .none kV23 dc23 pm23 an23 cd23 ct23), sl23⟩)
    (c23 : PySem.W.codeIn K cd23 "_law_shuffled" = true)
    (k23 : PySem.W.keepIn K (.ref f23) = true)
    (a24 : PySem.W.nsIn K mainGlobals "_law_word" = some (some (.ref f24)))
    (l24 : K.lookup f24 = some ⟨oc24, od24, .func (PySem.W.fnOf "_law_word" "_law_word" (defArgs s__law_word) (defBody s__law_word) (defScope s__law_word) .none kV24 dc24 pm24 an24 cd24 ct24), sl24⟩)
    (c24 : PySem.W.codeIn K cd24 "_law_word" = true)
    (k24 : PySem.W.keepIn K (.ref f24) = true)
    (a25 : PySem.W.nsIn K mainGlobals "_law_wait" = some (some (.ref f25)))
    (l25 : K.lookup f25 = some ⟨oc25, od25, .func (PySem.W.fnOf "_law_wait" "_law_wait" (defArgs s__law_wait) (defBody s__law_wait) (defScope s__law_wait) .none kV25 dc25 pm25 an25 cd25 ct25), sl25⟩)
    (c25 : PySem.W.codeIn K cd25 "_law_wait" = true)
    (k25 : PySem.W.keepIn K (.ref f25) = true)
    (a26 : PySem.W.nsIn K mainGlobals "_law_number_text" = some (some (.ref f26)))
    (l26 : K.lookup f26 = some ⟨oc26, od26, .func (PySem.W.fnOf "_law_number_text" "_law_number_text" (defArgs s__law_number_text) (defBody s__law_number_text) (defScope s__law_number_text) .none kV26 dc26 pm26 an26 cd26 ct26), sl26⟩)
    (c26 : PySem.W.codeIn K cd26 "_law_number_text" = true)
    (k26 : PySem.W.keepIn K (.ref f26) = true)
    (a27 : PySem.W.nsIn K mainGlobals "_law_term_text" = some (some (.ref f27)))
    (l27 : K.lookup f27 = some ⟨oc27, od27, .func (PySem.W.fnOf "_law_term_text" "_law_term_text" (defArgs s__law_term_text) (defBody s__law_term_text) (defScope s__law_term_text) .none kV27 dc27 pm27 an27 cd27 ct27), sl27⟩)
    (c27 : PySem.W.codeIn K cd27 "_law_term_text" = true)
    (k27 : PySem.W.keepIn K (.ref f27) = true)
    (a28 : PySem.W.nsIn K mainGlobals "_law_over" = some (some (.ref f28)))
    (l28 : K.lookup f28 = some ⟨oc28, od28, .func (PySem.W.fnOf "_law_over" "_law_over" (defArgs s__law_over) (defBody s__law_over) (defScope s__law_over) .none kV28 dc28 pm28 an28 cd28 ct28), sl28⟩)
    (c28 : PySem.W.codeIn K cd28 "_law_over" = true)
    (k28 : PySem.W.keepIn K (.ref f28) = true)
    (a29 : PySem.W.nsIn K mainGlobals "_law_terms" = some (some (.ref f29)))
    (l29 : K.lookup f29 = some ⟨oc29, od29, .func (PySem.W.fnOf "_law_terms" "_law_terms" (defArgs s__law_terms) (defBody s__law_terms) (defScope s__law_terms) .none kV29 dc29 pm29 an29 cd29 ct29), sl29⟩)
    (c29 : PySem.W.codeIn K cd29 "_law_terms" = true)
    (k29 : PySem.W.keepIn K (.ref f29) = true)
    (a30 : PySem.W.nsIn K mainGlobals "law" = some (some (.ref f30)))
    (l30 : K.lookup f30 = some ⟨oc30, od30, .func (PySem.W.fnOf "law" "law" (defArgs s_law) (defBody s_law) (defScope s_law) .none kV30 dc30 pm30 an30 cd30 ct30), sl30⟩)
    (c30 : PySem.W.codeIn K cd30 "law" = true)
    (k30 : PySem.W.keepIn K (.ref f30) = true)
    (a31 : PySem.W.findIn K (.ref cR) "__init__" = some (some (.ref f31)))
    (i31 : PySem.W.isFn K (.ref f31) = true)
    (l31 : K.lookup f31 = some ⟨oc31, od31, .func (PySem.W.fnOf "__init__" "Rule.__init__" (defArgs s_Rule___init__) (defBody s_Rule___init__) (defScope s_Rule___init__) .none kV31 dc31 pm31 an31 cd31 ct31), sl31⟩)
    (c31 : PySem.W.codeIn K cd31 "Rule.__init__" = true)
    (k31 : PySem.W.keepIn K (.ref f31) = true)
    (a32 : PySem.W.findIn K (.ref cR) "term" = some (some (.ref f32)))
    (i32 : PySem.W.isFn K (.ref f32) = true)
    (l32 : K.lookup f32 = some ⟨oc32, od32, .func (PySem.W.fnOf "term" "Rule.term" (defArgs s_Rule_term) (defBody s_Rule_term) (defScope s_Rule_term) .none kV32 dc32 pm32 an32 cd32 ct32), sl32⟩)
    (c32 : PySem.W.codeIn K cd32 "Rule.term" = true)
    (k32 : PySem.W.keepIn K (.ref f32) = true)
    (a33 : PySem.W.findIn K (.ref cR) "__eq__" = some (some (.ref f33)))
    (i33 : PySem.W.isFn K (.ref f33) = true)
    (l33 : K.lookup f33 = some ⟨oc33, od33, .func (PySem.W.fnOf "__eq__" "Rule.__eq__" (defArgs s_Rule___eq__) (defBody s_Rule___eq__) (defScope s_Rule___eq__) .none kV33 dc33 pm33 an33 cd33 ct33), sl33⟩)
    (c33 : PySem.W.codeIn K cd33 "Rule.__eq__" = true)
    (k33 : PySem.W.keepIn K (.ref f33) = true)
    (pg : PySem.W.plainGet K cR Str.empty = true)
    (hd : PySem.W.hasDictIn K cR = true)
    (po : PySem.W.plainOver K cR = true)
    (sa : PySem.W.findIn K (.ref cR) "__setattr__" = some (some (.builtin "object.__setattr__")))
    (ha : PySem.W.findIn K (.ref cR) "__class__" = some (some (.builtin "object.__class__")))
    (hn : PySem.W.specialIn K (.builtin "object.__class__") "__get__" = some (some (.builtin "getset_descriptor.__get__")))
    (ht : PySem.W.takesIn K (.builtin "object.__class__") = some true)
    (hm : PySem.W.mroIn K cR (.type "object") = some true)
    (mk : PySem.W.makesIn K cR = true)
    (kc : PySem.W.keepIn K (.ref cR) = true)
    (nF : PySem.W.findIn K (.ref cR) "form" = some none)
    (vL : PySem.W.nsIn K mainGlobals "LETTERS" = some (some (.str "abcdefghijklmnopqrstuvwxyz" tL)))
    (z_isinstance : PySem.W.nsIn K mainGlobals "isinstance" = some none)
    (z_len : PySem.W.nsIn K mainGlobals "len" = some none)
    (z_str : PySem.W.nsIn K mainGlobals "str" = some none)
    (z_int : PySem.W.nsIn K mainGlobals "int" = some none)
    (z_bool : PySem.W.nsIn K mainGlobals "bool" = some none)
    (z_list : PySem.W.nsIn K mainGlobals "list" = some none)
    (z_tuple : PySem.W.nsIn K mainGlobals "tuple" = some none)
    (z_dict : PySem.W.nsIn K mainGlobals "dict" = some none)
    (z_repr : PySem.W.nsIn K mainGlobals "repr" = some none)
    (z_range : PySem.W.nsIn K mainGlobals "range" = some none)
    (z_max : PySem.W.nsIn K mainGlobals "max" = some none)
    (z_min : PySem.W.nsIn K mainGlobals "min" = some none)
    (z_abs : PySem.W.nsIn K mainGlobals "abs" = some none)
    (z_sum : PySem.W.nsIn K mainGlobals "sum" = some none) : Txt K mg := by
  have eR : fa mg "Rule" = cR := by unfold fa; rw [PySem.W.mg_of X G aR]
  exact
    { d_is_name := df_of X G (fun _ _ _ _ _ _ us hl => match us, hl with | [_], _ => rfl) a1 l1 c1 k1
      d_is_whole := df_of X G (fun _ _ _ _ _ _ us hl => match us, hl with | [_], _ => rfl) a2 l2 c2 k2
      d_are_terms := df_of X G (fun _ _ _ _ _ _ us hl => match us, hl with | [_], _ => rfl) a3 l3 c3 k3
      d_is_term := df_of X G (fun _ _ _ _ _ _ us hl => match us, hl with | [_], _ => rfl) a4 l4 c4 k4
      d_is_part := df_of X G (fun _ _ _ _ _ _ us hl => match us, hl with | [_], _ => rfl) a5 l5 c5 k5
      d_with_inside := df_of X G (fun _ _ _ _ _ _ us hl => match us, hl with | [_, _], _ => rfl) a6 l6 c6 k6
      d_copied := df_of X G (fun _ _ _ _ _ _ us hl => match us, hl with | [_], _ => rfl) a7 l7 c7 k7
      d_check_rule := df_of X G (fun _ _ _ _ _ _ us hl => match us, hl with | [_], _ => rfl) a8 l8 c8 k8
      d_whole_of := df_of X G (fun _ _ _ _ _ _ us hl => match us, hl with | [_], _ => rfl) a9 l9 c9 k9
      d_term_text := df_of X G (fun _ _ _ _ _ _ us hl => match us, hl with | [_], _ => rfl) a10 l10 c10 k10
      d_named_at := df_of X G (fun _ _ _ _ _ _ us hl => match us, hl with | [_, _], _ => rfl) a11 l11 c11 k11
      d_terms_at := df_of X G (fun _ _ _ _ _ _ us hl => match us, hl with | [_, _], _ => rfl) a12 l12 c12 k12
      d_term_at := df_of X G (fun _ _ _ _ _ _ us hl => match us, hl with | [_, _], _ => rfl) a13 l13 c13 k13
      d_rule_in := df_of X G (fun _ _ _ _ _ _ us hl => match us, hl with | [_], _ => rfl) a14 l14 c14 k14
      d_rule_text := df_of X G (fun _ _ _ _ _ _ us hl => match us, hl with | [_], _ => rfl) a15 l15 c15 k15
      d_read_by := df_of X G (fun _ _ _ _ _ _ us hl => match us, hl with | [_, _], _ => rfl) a16 l16 c16 k16
      d_read_rule := df_of X G (fun _ _ _ _ _ _ us hl => match us, hl with | [_], _ => rfl) a17 l17 c17 k17
      d__law_purse := df_of X G (fun _ _ _ _ _ _ us hl => match us, hl with | [_, _], _ => rfl) a18 l18 c18 k18
      d__law_mixed := df_of X G (fun _ _ _ _ _ _ us hl => match us, hl with | [_, _, _], _ => rfl) a19 l19 c19 k19
      d__law_draw := df_of X G (fun _ _ _ _ _ _ us hl => match us, hl with | [_, _], _ => rfl) a20 l20 c20 k20
      d__law_purses := df_of X G (fun _ _ _ _ _ _ us hl => match us, hl with | [_, _], _ => rfl) a21 l21 c21 k21
      d__law_one_of := df_of X G (fun _ _ _ _ _ _ us hl => match us, hl with | [_, _], _ => rfl) a22 l22 c22 k22
      d__law_shuffled := df_of X G (fun _ _ _ _ _ _ us hl => match us, hl with | [_, _], _ => rfl) a23 l23 c23 k23
      d__law_word := df_of X G (fun _ _ _ _ _ _ us hl => match us, hl with | [_], _ => rfl) a24 l24 c24 k24
      d__law_wait := df_of X G (fun _ _ _ _ _ _ us hl => match us, hl with | [_], _ => rfl) a25 l25 c25 k25
      d__law_number_text := df_of X G (fun _ _ _ _ _ _ us hl => match us, hl with | [_], _ => rfl) a26 l26 c26 k26
      d__law_term_text := df_of X G (fun _ _ _ _ _ _ us hl => match us, hl with | [_], _ => rfl) a27 l27 c27 k27
      d__law_over := df_of X G (fun _ _ _ _ _ _ us hl => match us, hl with | [_], _ => rfl) a28 l28 c28 k28
      d__law_terms := df_of X G (fun _ _ _ _ _ _ us hl => match us, hl with | [_], _ => rfl) a29 l29 c29 k29
      d_law := df_of X G (fun _ _ _ _ _ _ us hl => match us, hl with | [_], _ => rfl) a30 l30 c30 k30
      d_Rule___init__ := by rw [eR]; exact mf_of (fun _ _ _ _ _ _ us hl => match us, hl with | [_, _], _ => rfl) a31 i31 l31 c31 k31
      d_Rule_term := by rw [eR]; exact mf_of (fun _ _ _ _ _ _ us hl => match us, hl with | [_], _ => rfl) a32 i32 l32 c32 k32
      d_Rule___eq__ := by rw [eR]; exact mf_of (fun _ _ _ _ _ _ us hl => match us, hl with | [_, _], _ => rfl) a33 i33 l33 c33 k33
      isinstance := PySem.W.mg_none_of X G z_isinstance
      len := PySem.W.mg_none_of X G z_len
      str := PySem.W.mg_none_of X G z_str
      int := PySem.W.mg_none_of X G z_int
      bool := PySem.W.mg_none_of X G z_bool
      list := PySem.W.mg_none_of X G z_list
      tuple := PySem.W.mg_none_of X G z_tuple
      dict := PySem.W.mg_none_of X G z_dict
      repr := PySem.W.mg_none_of X G z_repr
      range := PySem.W.mg_none_of X G z_range
      max := PySem.W.mg_none_of X G z_max
      min := PySem.W.mg_none_of X G z_min
      abs := PySem.W.mg_none_of X G z_abs
      sum := PySem.W.mg_none_of X G z_sum
      v_LETTERS := ⟨tL, PySem.W.mg_of X G vL⟩
      m_Rule := by rw [eR]; exact PySem.W.mg_of X G aR
      c_Rule := by rw [eR]; exact ⟨⟨pg, hd, po, sa⟩, ha, hn, ht, hm⟩
      n_Rule_form := by rw [eR]; exact nF
      k_Rule := by rw [eR, show ma K cR "__init__" = f31 by unfold ma; rw [a31]]; exact ⟨mk, a31, i31, kc⟩ }
end K94
open PySem PySem.W PyProof.Rows in
set_option maxRecDepth 100000 in
set_option maxHeartbeats 0 in
theorem PySem.Challenge.cw_whosepace_k94_whole_texts_of_all_small_t_holds : PySem.Challenge.rw_whosepace_k94_whole_texts_of_all_small_t.Holds := by
  w_on; o_law; k_head; (case hw => w_witness2)
  k_fill
  refine K94.walk94 (l := PySem.Challenge.rw_whosepace_k94_whole_texts_of_all_small_t) rfl rfl rfl (fun w h Y => PySem.W.kIn_of Y) ?F
  case F =>
    intro w mg h X G
    refine' K94.all_mk X G ?aR ?a1 ?l1 ?c1 ?k1 ?a2 ?l2 ?c2 ?k2 ?a3 ?l3 ?c3 ?k3 ?a4 ?l4 ?c4 ?k4 ?a5 ?l5 ?c5 ?k5 ?a6 ?l6 ?c6 ?k6 ?a7 ?l7 ?c7 ?k7 ?a8 ?l8 ?c8 ?k8 ?a9 ?l9 ?c9 ?k9 ?a10 ?l10 ?c10 ?k10 ?a11 ?l11 ?c11 ?k11 ?a12 ?l12 ?c12 ?k12 ?a13 ?l13 ?c13 ?k13 ?a14 ?l14 ?c14 ?k14 ?a15 ?l15 ?c15 ?k15 ?a16 ?l16 ?c16 ?k16 ?a17 ?l17 ?c17 ?k17 ?a18 ?l18 ?c18 ?k18 ?a19 ?l19 ?c19 ?k19 ?a20 ?l20 ?c20 ?k20 ?a21 ?l21 ?c21 ?k21 ?a22 ?l22 ?c22 ?k22 ?a23 ?l23 ?c23 ?k23 ?a24 ?l24 ?c24 ?k24 ?a25 ?l25 ?c25 ?k25 ?a26 ?l26 ?c26 ?k26 ?a27 ?l27 ?c27 ?k27 ?a28 ?l28 ?c28 ?k28 ?a29 ?l29 ?c29 ?k29 ?a30 ?l30 ?c30 ?k30 ?a31 ?i31 ?l31 ?c31 ?k31 ?a32 ?i32 ?l32 ?c32 ?k32 ?a33 ?i33 ?l33 ?c33 ?k33 ?pg ?hd ?po ?sa ?ha ?hn ?ht ?hm ?mk ?kc ?nF ?vL ?z_isinstance ?z_len ?z_str ?z_int ?z_bool ?z_list ?z_tuple ?z_dict ?z_repr ?z_range ?z_max ?z_min ?z_abs ?z_sum
    (case aR => k_is)
    (case a1 => k_is)
    (case l1 => k_is)
    (case c1 => k_is)
    (case k1 => k_is)
    (case a2 => k_is)
    (case l2 => k_is)
    (case c2 => k_is)
    (case k2 => k_is)
    (case a3 => k_is)
    (case l3 => k_is)
    (case c3 => k_is)
    (case k3 => k_is)
    (case a4 => k_is)
    (case l4 => k_is)
    (case c4 => k_is)
    (case k4 => k_is)
    (case a5 => k_is)
    (case l5 => k_is)
    (case c5 => k_is)
    (case k5 => k_is)
    (case a6 => k_is)
    (case l6 => k_is)
    (case c6 => k_is)
    (case k6 => k_is)
    (case a7 => k_is)
    (case l7 => k_is)
    (case c7 => k_is)
    (case k7 => k_is)
    (case a8 => k_is)
    (case l8 => k_is)
    (case c8 => k_is)
    (case k8 => k_is)
    (case a9 => k_is)
    (case l9 => k_is)
    (case c9 => k_is)
    (case k9 => k_is)
    (case a10 => k_is)
    (case l10 => k_is)
    (case c10 => k_is)
    (case k10 => k_is)
    (case a11 => k_is)
    (case l11 => k_is)
    (case c11 => k_is)
    (case k11 => k_is)
    (case a12 => k_is)
    (case l12 => k_is)
    (case c12 => k_is)
    (case k12 => k_is)
    (case a13 => k_is)
    (case l13 => k_is)
    (case c13 => k_is)
    (case k13 => k_is)
    (case a14 => k_is)
    (case l14 => k_is)
    (case c14 => k_is)
    (case k14 => k_is)
    (case a15 => k_is)
    (case l15 => k_is)
    (case c15 => k_is)
    (case k15 => k_is)
    (case a16 => k_is)
    (case l16 => k_is)
    (case c16 => k_is)
    (case k16 => k_is)
    (case a17 => k_is)
    (case l17 => k_is)
    (case c17 => k_is)
    (case k17 => k_is)
    (case a18 => k_is)
    (case l18 => k_is)
    (case c18 => k_is)
    (case k18 => k_is)
    (case a19 => k_is)
    (case l19 => k_is)
    (case c19 => k_is)
    (case k19 => k_is)
    (case a20 => k_is)
    (case l20 => k_is)
    (case c20 => k_is)
    (case k20 => k_is)
    (case a21 => k_is)
    (case l21 => k_is)
    (case c21 => k_is)
    (case k21 => k_is)
    (case a22 => k_is)
    (case l22 => k_is)
    (case c22 => k_is)
    (case k22 => k_is)
    (case a23 => k_is)
    (case l23 => k_is)
    (case c23 => k_is)
    (case k23 => k_is)
    (case a24 => k_is)
    (case l24 => k_is)
    (case c24 => k_is)
    (case k24 => k_is)
    (case a25 => k_is)
    (case l25 => k_is)
    (case c25 => k_is)
    (case k25 => k_is)
    (case a26 => k_is)
    (case l26 => k_is)
    (case c26 => k_is)
    (case k26 => k_is)
    (case a27 => k_is)
    (case l27 => k_is)
    (case c27 => k_is)
    (case k27 => k_is)
    (case a28 => k_is)
    (case l28 => k_is)
    (case c28 => k_is)
    (case k28 => k_is)
    (case a29 => k_is)
    (case l29 => k_is)
    (case c29 => k_is)
    (case k29 => k_is)
    (case a30 => k_is)
    (case l30 => k_is)
    (case c30 => k_is)
    (case k30 => k_is)
    (case a31 => k_is)
    (case i31 => k_is)
    (case l31 => k_is)
    (case c31 => k_is)
    (case k31 => k_is)
    (case a32 => k_is)
    (case i32 => k_is)
    (case l32 => k_is)
    (case c32 => k_is)
    (case k32 => k_is)
    (case a33 => k_is)
    (case i33 => k_is)
    (case l33 => k_is)
    (case c33 => k_is)
    (case k33 => k_is)
    (case pg => k_is)
    (case hd => k_is)
    (case po => k_is)
    (case sa => k_is)
    (case ha => k_is)
    (case hn => k_is)
    (case ht => k_is)
    (case hm => k_is)
    (case mk => k_is)
    (case kc => k_is)
    (case nF => k_is)
    (case vL => k_is)
    (case z_isinstance => k_is)
    (case z_len => k_is)
    (case z_str => k_is)
    (case z_int => k_is)
    (case z_bool => k_is)
    (case z_list => k_is)
    (case z_tuple => k_is)
    (case z_dict => k_is)
    (case z_repr => k_is)
    (case z_range => k_is)
    (case z_max => k_is)
    (case z_min => k_is)
    (case z_abs => k_is)
    (case z_sum => k_is)

