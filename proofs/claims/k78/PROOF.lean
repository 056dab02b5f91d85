import PyProof.Rows.All
import Wide.All
import OpenK.AllK
import Wide.FinOn
import HandS.ForMost
import HandS.More
import HandS.Wide
import HandS.WideBits
import HandS.IsInst
import HandS.CallLocal
import HandS.OwnEq
import HandS.Exc
import HandS.TryOnly
import HandS.RaiseMore
import HandS.StrMore
import HandS.Flow
import HandS.Style
import HandS.Set
import HandS.SetFor
import HandS.Strs
import HandS.Iter
import HandS.DictComp
import HandS.Comp
import HandS.Deep
import HandS.TupAny
import HandS.Defaults
import PyProof.NeKinds
import PySem.Challenge.RW_whosepace_k78_whole_rounds_and_lates
set_option Elab.async false
set_option linter.all false
set_option maxRecDepth 100000
set_option maxHeartbeats 4000000
/-! DL: a layer over the hand layer in which a def is walked over plain trees of data: no address is named, but those of cells (what is changed in place). -/
namespace DL
open PySem L2

/-! ### data -/
inductive D where
  | non
  | bl (b : Bool)
  | int (i : Int)
  | str (x : Str)
  | lst (xs : List D)
  | tup (xs : List D)
  | dic (kvs : List (Key × D))
  | ins (C : Addr) (fs : List (Str × D))
  | cell (a : Addr)
  | fro (xs : List D)
  | val (v : V)

def core : HO → HO
  | .frz _ (.dK k) => .dK k
  | .frz _ (.dT k) => .dT k
  | o => o
theorem core_lst {o : HO} {vs : List V} (h : core o = .lst vs) : o = .lst vs := by
  cases o with
  | frz ob u => cases u <;> simp [core] at h
  | _ => simp [core] at h <;> simp [h]
theorem core_tup {o : HO} {vs : List V} (h : core o = .tup vs) : o = .tup vs := by
  cases o with
  | frz ob u => cases u <;> simp [core] at h
  | _ => simp [core] at h <;> simp [h]
theorem core_ins {o : HO} {C dx : Addr} {fs : List (Str × V)} (h : core o = .ins C dx fs) : o = .ins C dx fs := by
  cases o with
  | frz ob u => cases u <;> simp [core] at h
  | _ => simp [core] at h <;> simp [h]
theorem core_frl {o : HO} {ob : Obj} {vs : List V} (h : core o = core (.frz ob (.lst vs))) : o = .frz ob (.lst vs) := by
  cases o with
  | frz ob u => cases u <;> simp [core] at h <;> simp [h]
  | _ => simp [core] at h
/-- what is shared may grow (and be locked; what is locked stays so) -/
def Ext (A B : Hp) : Prop := ∀ a o, A a = some o → ∃ o', B a = some o' ∧ core o' = core o ∧ ∀ ob u, o = .frz ob u → o' = o
theorem Ext.refl (A : Hp) : Ext A A := fun _ o h => ⟨o, h, rfl, fun _ _ _ => rfl⟩
theorem Ext.trans {A B C : Hp} (h : Ext A B) (k : Ext B C) : Ext A C := fun a o e => by
  obtain ⟨o1, e1, c1, f1⟩ := h a o e
  obtain ⟨o2, e2, c2, f2⟩ := k a o1 e1
  refine ⟨o2, e2, c2.trans c1, fun ob u q => ?_⟩
  have q1 := f1 ob u q
  have q2 := f2 ob u (q1.trans q)
  exact q2.trans q1
theorem Ext.new {A : Hp} {p : Addr} {o : HO} (h : A p = none) : Ext A (upd A p o) := fun a u e => ⟨u, by rw [upd_ne (ne_of_none e h)]; exact e, rfl, fun _ _ _ => rfl⟩
theorem Ext.lst {A B : Hp} (e : Ext A B) {a : Addr} {vs : List V} (h : A a = some (.lst vs)) : B a = some (.lst vs) := by
  obtain ⟨o, h1, h2, _⟩ := e a _ h
  rw [core_lst h2] at h1; exact h1
theorem Ext.tup {A B : Hp} (e : Ext A B) {a : Addr} {vs : List V} (h : A a = some (.tup vs)) : B a = some (.tup vs) := by
  obtain ⟨o, h1, h2, _⟩ := e a _ h
  rw [core_tup h2] at h1; exact h1
theorem Ext.ins {A B : Hp} (e : Ext A B) {a C dx : Addr} {fs : List (Str × V)} (h : A a = some (.ins C dx fs)) : B a = some (.ins C dx fs) := by
  obtain ⟨o, h1, h2, _⟩ := e a _ h
  rw [core_ins h2] at h1; exact h1
theorem Ext.frz {A B : Hp} (e : Ext A B) {a : Addr} {ob : Obj} {u : HO} (h : A a = some (.frz ob u)) : B a = some (.frz ob u) := by
  obtain ⟨o, h1, _, h3⟩ := e a _ h
  rw [h3 ob u rfl] at h1; exact h1
theorem Ext.sq {K : PySem.W.Frag} {A B : Hp} (e : Ext A B) {a : Addr} {vs : List V} (h : SqL K A a vs) : SqL K B a vs := by
  rcases h with (h | ⟨o, h⟩) | h
  · exact .inl (.inl (e.lst h))
  · exact .inl (.inr ⟨o, e.frz h⟩)
  · exact .inr h

/-! ### a value stands for data -/
mutual
def R (K : PySem.W.Frag) (Hs : Hp) : D → V → Prop
  | .non, v => v = .non
  | .bl b, v => v = .bl b
  | .int i, v => v = .int i
  | .str x, v => v = .str x
  | .lst ds, v => ∃ a vs, v = .ref a ∧ Hs a = some (.lst vs) ∧ RA K Hs ds vs
  | .tup ds, v => ∃ a vs, v = .ref a ∧ Hs a = some (.tup vs) ∧ RA K Hs ds vs
  | .dic kds, v => ∃ a o kvs, v = .ref a ∧ Hs a = some o ∧ core o = .dK kvs ∧ RK K Hs kds kvs
  | .ins C fds, v => ∃ a dx fs, v = .ref a ∧ Hs a = some (.ins C dx fs) ∧ RF K Hs fds fs
  | .cell a, v => v = .ref a
  | .fro ds, v => ∃ a vs, v = .ref a ∧ SqL K Hs a vs ∧ RA K Hs ds vs
  | .val u, v => v = u
def RA (K : PySem.W.Frag) (Hs : Hp) : List D → List V → Prop
  | [], vs => vs = []
  | d :: ds, vs => ∃ v r, vs = v :: r ∧ R K Hs d v ∧ RA K Hs ds r
def RK (K : PySem.W.Frag) (Hs : Hp) : List (Key × D) → List (Key × V) → Prop
  | [], vs => vs = []
  | (k, d) :: ds, vs => ∃ v r, vs = (k, v) :: r ∧ R K Hs d v ∧ RK K Hs ds r
def RF (K : PySem.W.Frag) (Hs : Hp) : List (Str × D) → List (Str × V) → Prop
  | [], vs => vs = []
  | (k, d) :: ds, vs => ∃ v r, vs = (k, v) :: r ∧ R K Hs d v ∧ RF K Hs ds r
end
section
variable {K : PySem.W.Frag} {A B : Hp}
mutual
theorem R.ext (e : Ext A B) : ∀ (d : D) (v : V), R K A d v → R K B d v
  | .non, v, h => h
  | .bl b, v, h => h
  | .int i, v, h => h
  | .str x, v, h => h
  | .lst ds, v, h => by
    simp only [R] at h ⊢
    obtain ⟨a, vs, h1, h2, h3⟩ := h
    exact ⟨a, vs, h1, e.lst h2, RA.ext e ds vs h3⟩
  | .tup ds, v, h => by
    simp only [R] at h ⊢
    obtain ⟨a, vs, h1, h2, h3⟩ := h
    exact ⟨a, vs, h1, e.tup h2, RA.ext e ds vs h3⟩
  | .dic kds, v, h => by
    simp only [R] at h ⊢
    obtain ⟨a, o, kvs, h1, h2, h3, h4⟩ := h
    obtain ⟨o', q1, q2, _⟩ := e a o h2
    exact ⟨a, o', kvs, h1, q1, q2.trans h3, RK.ext e kds kvs h4⟩
  | .ins C fds, v, h => by
    simp only [R] at h ⊢
    obtain ⟨a, dx, fs, h1, h2, h3⟩ := h
    exact ⟨a, dx, fs, h1, e.ins h2, RF.ext e fds fs h3⟩
  | .cell a, v, h => h
  | .fro ds, v, h => by
    simp only [R] at h ⊢
    obtain ⟨a, vs, h1, h2, h3⟩ := h
    exact ⟨a, vs, h1, e.sq h2, RA.ext e ds vs h3⟩
  | .val u, v, h => h
theorem RA.ext (e : Ext A B) : ∀ (ds : List D) (vs : List V), RA K A ds vs → RA K B ds vs
  | [], vs, h => h
  | d :: ds, vs, h => by
    simp only [RA] at h ⊢
    obtain ⟨v, r, h1, h2, h3⟩ := h
    exact ⟨v, r, h1, R.ext e d v h2, RA.ext e ds r h3⟩
theorem RK.ext (e : Ext A B) : ∀ (ds : List (Key × D)) (vs : List (Key × V)), RK K A ds vs → RK K B ds vs
  | [], vs, h => h
  | (k, d) :: ds, vs, h => by
    simp only [RK] at h ⊢
    obtain ⟨v, r, h1, h2, h3⟩ := h
    exact ⟨v, r, h1, R.ext e d v h2, RK.ext e ds r h3⟩
theorem RF.ext (e : Ext A B) : ∀ (ds : List (Str × D)) (vs : List (Str × V)), RF K A ds vs → RF K B ds vs
  | [], vs, h => h
  | (k, d) :: ds, vs, h => by
    simp only [RF] at h ⊢
    obtain ⟨v, r, h1, h2, h3⟩ := h
    exact ⟨v, r, h1, R.ext e d v h2, RF.ext e ds r h3⟩
end
end

/-! ### lists of data -/
section
variable {K : PySem.W.Frag} {A : Hp}
theorem R_bl {b : Bool} : R K A (.bl b) (.bl b) := by simp only [R]
theorem R_int {i : Int} : R K A (.int i) (.int i) := by simp only [R]
theorem R_str {x : Str} : R K A (.str x) (.str x) := by simp only [R]
theorem R_non : R K A .non .non := by simp only [R]
theorem RA.nil : RA K A [] [] := by simp only [RA]
theorem RA.cons {d : D} {v : V} {ds : List D} {vs : List V} (h : R K A d v) (r : RA K A ds vs) : RA K A (d :: ds) (v :: vs) := by
  simp only [RA]
  exact ⟨v, vs, rfl, h, r⟩
theorem RA.len : ∀ {ds : List D} {vs : List V}, RA K A ds vs → vs.length = ds.length
  | [], vs, h => by simp only [RA] at h; rw [h]; rfl
  | d :: ds, vs, h => by
    simp only [RA] at h
    obtain ⟨v, r, rfl, _, h3⟩ := h
    simp [RA.len h3]
theorem RA.get : ∀ {ds : List D} {vs : List V} {i : Nat} {d : D}, RA K A ds vs → ds[i]? = some d → ∃ v, vs[i]? = some v ∧ R K A d v
  | [], vs, i, d, h, e => by simp at e
  | x :: ds, vs, 0, d, h, e => by
    simp only [RA] at h
    obtain ⟨v, r, rfl, h2, h3⟩ := h
    simp at e; subst e
    exact ⟨v, rfl, h2⟩
  | x :: ds, vs, i + 1, d, h, e => by
    simp only [RA] at h
    obtain ⟨v, r, rfl, h2, h3⟩ := h
    obtain ⟨w, q1, q2⟩ := RA.get (i := i) (d := d) h3 (by simpa using e)
    exact ⟨w, by simpa using q1, q2⟩
theorem RA.getV : ∀ {ds : List D} {vs : List V} {i : Nat} {v : V}, RA K A ds vs → vs[i]? = some v → ∃ d, ds[i]? = some d ∧ R K A d v
  | [], vs, i, d, h, e => by simp only [RA] at h; subst h; simp at e
  | x :: ds, vs, 0, d, h, e => by
    simp only [RA] at h
    obtain ⟨v, r, rfl, h2, h3⟩ := h
    simp at e; subst e
    exact ⟨x, rfl, h2⟩
  | x :: ds, vs, i + 1, d, h, e => by
    simp only [RA] at h
    obtain ⟨v, r, rfl, h2, h3⟩ := h
    obtain ⟨w, q1, q2⟩ := RA.getV (i := i) h3 (by simpa using e)
    exact ⟨w, by simpa using q1, q2⟩
theorem RA.append : ∀ {ds es : List D} {vs ws : List V}, RA K A ds vs → RA K A es ws → RA K A (ds ++ es) (vs ++ ws)
  | [], es, vs, ws, h, k => by simp only [RA] at h; subst h; exact k
  | d :: ds, es, vs, ws, h, k => by
    simp only [RA] at h
    obtain ⟨v, r, rfl, h2, h3⟩ := h
    exact RA.cons h2 (RA.append h3 k)
theorem RA.take : ∀ {ds : List D} {vs : List V} (n : Nat), RA K A ds vs → RA K A (ds.take n) (vs.take n)
  | [], vs, n, h => by simp only [RA] at h; subst h; simp [RA]
  | d :: ds, vs, 0, h => by simp [RA]
  | d :: ds, vs, n + 1, h => by
    simp only [RA] at h
    obtain ⟨v, r, rfl, h2, h3⟩ := h
    exact RA.cons h2 (RA.take n h3)
theorem RA.drop : ∀ {ds : List D} {vs : List V} (n : Nat), RA K A ds vs → RA K A (ds.drop n) (vs.drop n)
  | [], vs, n, h => by simp only [RA] at h; subst h; simp [RA]
  | d :: ds, vs, 0, h => h
  | d :: ds, vs, n + 1, h => by
    simp only [RA] at h
    obtain ⟨v, r, rfl, h2, h3⟩ := h
    exact RA.drop n h3
theorem RA.set : ∀ {ds : List D} {vs : List V} {d : D} {v : V} (n : Nat), RA K A ds vs → R K A d v → RA K A (ds.set n d) (vs.set n v)
  | [], vs, d, v, n, h, k => by simp only [RA] at h; subst h; simp [RA]
  | x :: ds, vs, d, v, 0, h, k => by
    simp only [RA] at h
    obtain ⟨w, r, rfl, h2, h3⟩ := h
    exact RA.cons k h3
  | x :: ds, vs, d, v, n + 1, h, k => by
    simp only [RA] at h
    obtain ⟨w, r, rfl, h2, h3⟩ := h
    exact RA.cons h2 (RA.set n h3 k)
theorem RA.rev : ∀ {ds : List D} {vs : List V}, RA K A ds vs → RA K A ds.reverse vs.reverse
  | [], vs, h => by simp only [RA] at h; subst h; simp [RA]
  | x :: ds, vs, h => by
    simp only [RA] at h
    obtain ⟨w, r, rfl, h2, h3⟩ := h
    rw [List.reverse_cons, List.reverse_cons]
    exact RA.append (RA.rev h3) (RA.cons h2 RA.nil)
/-- lists of texts, of ints -/
theorem RA.strs : ∀ {xs : List Str} {vs : List V}, RA K A (xs.map D.str) vs → vs = xs.map V.str
  | [], vs, h => by simpa [RA] using h
  | x :: xs, vs, h => by
    simp only [List.map_cons, RA, R] at h
    obtain ⟨v, r, rfl, rfl, h3⟩ := h
    rw [RA.strs h3]; rfl
theorem RA.of_strs : ∀ (xs : List Str), RA K A (xs.map D.str) (xs.map V.str)
  | [] => by simp [RA]
  | x :: xs => RA.cons (by simp [R]) (RA.of_strs xs)
theorem RA.ints : ∀ {xs : List Int} {vs : List V}, RA K A (xs.map D.int) vs → vs = xs.map V.int
  | [], vs, h => by simpa [RA] using h
  | x :: xs, vs, h => by
    simp only [List.map_cons, RA, R] at h
    obtain ⟨v, r, rfl, rfl, h3⟩ := h
    rw [RA.ints h3]; rfl
theorem RA.of_ints : ∀ (xs : List Int), RA K A (xs.map D.int) (xs.map V.int)
  | [] => by simp [RA]
  | x :: xs => RA.cons (by simp [R]) (RA.of_ints xs)
end

/-! ### cells -/
inductive Cell where
  | lst (ds : List D)
  | dic (kvs : List (Key × D))
  | ins (C : Addr) (fs : List (Str × D))
  | inv (P : List V → Prop)
abbrev Cells := Addr → Option Cell
def cset (C : Cells) (a : Addr) (c : Cell) : Cells := fun b => if b = a then some c else C b
def cdel (C : Cells) (a : Addr) : Cells := fun b => if b = a then none else C b
theorem cset_same {C : Cells} {a : Addr} {c : Cell} : cset C a c a = some c := by simp [cset]
theorem cset_ne {C : Cells} {a b : Addr} {c : Cell} (h : b ≠ a) : cset C a c b = C b := by simp [cset, h]
theorem cset_cset {C : Cells} {a : Addr} {c d : Cell} : cset (cset C a c) a d = cset C a d := by
  funext b; unfold cset; split <;> rfl
def Sub (C C' : Cells) : Prop := ∀ a c, C a = some c → C' a = some c
theorem Sub.refl (C : Cells) : Sub C C := fun _ _ h => h
theorem Sub.trans {A B C : Cells} (h : Sub A B) (k : Sub B C) : Sub A C := fun a c e => k a c (h a c e)
theorem Sub.cset {C C' : Cells} {a : Addr} {c : Cell} (h : Sub C C') (n : C a = none) : Sub C (cset C' a c) := fun b d e => by
  have : b ≠ a := fun z => by rw [z, n] at e; cases e
  rw [cset_ne this]; exact h b d e
theorem Sub.cdel {C C' : Cells} {a : Addr} (h : Sub C C') (n : C a = none) : Sub C (cdel C' a) := fun b d e => by
  have : b ≠ a := fun z => by rw [z, n] at e; cases e
  unfold DL.cdel; rw [if_neg this]; exact h b d e
theorem Sub.cset_same {C C' : Cells} {a : Addr} {c : Cell} (h : Sub C C') : Sub (DL.cset C a c) (DL.cset C' a c) := fun b d e => by
  unfold DL.cset at e ⊢
  split
  · rename_i q; rw [if_pos q] at e; exact e
  · rename_i q; rw [if_neg q] at e; exact h b d e

def CellOk (K : PySem.W.Frag) (Hs H : Hp) (a : Addr) : Cell → Prop
  | .lst ds => ∃ vs, H a = some (.lst vs) ∧ RA K Hs ds vs
  | .dic kds => ∃ kvs, H a = some (.dK kvs) ∧ RK K Hs kds kvs
  | .ins C fds => ∃ dx fs, H a = some (.ins C dx fs) ∧ RF K Hs fds fs
  | .inv P => ∃ vs, H a = some (.lst vs) ∧ P vs
structure W where
  hs : Hp
  c : Cells
  h : Hp
structure Ok (K : PySem.W.Frag) (S : W) : Prop where
  le : ∀ a o, S.hs a = some o → S.h a = some o
  cell : ∀ a c, S.c a = some c → S.hs a = none ∧ CellOk K S.hs S.h a c
/-- from S to S': what is shared grows, what is neither shared nor a cell stays -/
structure Step (K : PySem.W.Frag) (S S' : W) : Prop where
  ext : Ext S.hs S'.hs
  fr : ∀ b o, S.h b = some o → S.hs b = none → S.c b = none → S'.h b = some o ∧ S'.hs b = none ∧ S'.c b = none
  ok : Ok K S'
section
variable {K : PySem.W.Frag} {S S' S2 : W} {Hs Hs' H H' : Hp} {C C' : Cells} {a : Addr} {o : HO} {c : Cell}
theorem Step.refl (k : Ok K S) : Step K S S := ⟨Ext.refl _, fun _ _ h1 h2 h3 => ⟨h1, h2, h3⟩, k⟩
theorem Step.trans (s : Step K S S') (t : Step K S' S2) : Step K S S2 := ⟨s.ext.trans t.ext, fun b o h1 h2 h3 => by
  obtain ⟨q1, q2, q3⟩ := s.fr b o h1 h2 h3
  exact t.fr b o q1 q2 q3, t.ok⟩
theorem CellOk.there (h : CellOk K Hs H a c) : ∃ o, H a = some o := by
  cases c with
  | lst ds => obtain ⟨vs, e, _⟩ := h; exact ⟨_, e⟩
  | dic ds => obtain ⟨vs, e, _⟩ := h; exact ⟨_, e⟩
  | ins C ds => obtain ⟨_, vs, e, _⟩ := h; exact ⟨_, e⟩
  | inv P => obtain ⟨vs, e, _⟩ := h; exact ⟨_, e⟩
theorem CellOk.move (h : CellOk K Hs H a c) (e : Ext Hs Hs') (k : H' a = H a) : CellOk K Hs' H' a c := by
  cases c with
  | lst ds => obtain ⟨vs, q, r⟩ := h; exact ⟨vs, k.trans q, RA.ext e _ _ r⟩
  | dic ds => obtain ⟨vs, q, r⟩ := h; exact ⟨vs, k.trans q, RK.ext e _ _ r⟩
  | ins C ds => obtain ⟨dx, vs, q, r⟩ := h; exact ⟨dx, vs, k.trans q, RF.ext e _ _ r⟩
  | inv P => obtain ⟨vs, q, r⟩ := h; exact ⟨vs, k.trans q, r⟩
theorem Ok.fresh (r : Ok K S) (n : S.h a = none) : S.hs a = none := by
  cases q : S.hs a with
  | none => rfl
  | some o => rw [r.le a o q] at n; cases n
theorem Ok.freshC (r : Ok K S) (n : S.h a = none) : S.c a = none := by
  cases q : S.c a with
  | none => rfl
  | some c => obtain ⟨_, k⟩ := r.cell a c q; obtain ⟨o, e⟩ := k.there; rw [e] at n; cases n
theorem Ok.sub (r : Ok K S) (s : Sub C S.c) : Step K S ⟨S.hs, C, S.h⟩ := by
  refine ⟨Ext.refl _, fun b o h1 h2 h3 => ⟨h1, h2, ?_⟩, ⟨r.le, fun a c e => r.cell a c (s a c e)⟩⟩
  show C b = none
  cases q : C b with
  | none => rfl
  | some c => rw [s b c q] at h3; cases h3
/-- a new shared object -/
theorem Ok.new (r : Ok K S) (n : S.h a = none) : Step K S ⟨upd S.hs a o, S.c, upd S.h a o⟩ := by
  refine ⟨Ext.new (r.fresh n), fun b u h1 h2 h3 => ?_, ⟨fun b u e => ?_, fun b c e => ?_⟩⟩
  · have hb : b ≠ a := ne_of_none h1 n
    exact ⟨(upd_ne hb).trans h1, (upd_ne hb).trans h2, h3⟩
  · show upd S.h a o b = some u
    have e' : upd S.hs a o b = some u := e
    by_cases hb : b = a
    · subst hb; rw [upd_same] at e' ⊢; exact e'
    · rw [upd_ne hb] at e' ⊢; exact r.le b u e'
  · have hb : b ≠ a := fun z => by rw [z, r.freshC n] at e; cases e
    obtain ⟨k1, k2⟩ := r.cell b c e
    exact ⟨by show upd S.hs a o b = none; rw [upd_ne hb]; exact k1, k2.move (Ext.new (r.fresh n)) (upd_ne hb)⟩
/-- a new cell -/
theorem Ok.newC (r : Ok K S) (n : S.h a = none) (k : CellOk K S.hs (upd S.h a o) a c) : Step K S ⟨S.hs, cset S.c a c, upd S.h a o⟩ := by
  have n' := r.fresh n
  refine ⟨Ext.refl _, fun b u h1 h2 h3 => ?_, ⟨fun b u e => ?_, fun b d e => ?_⟩⟩
  · have hb : b ≠ a := ne_of_none h1 n
    exact ⟨(upd_ne hb).trans h1, h2, by show cset S.c a c b = none; rw [cset_ne hb]; exact h3⟩
  · show upd S.h a o b = some u
    rw [upd_ne (ne_of_none e n')]; exact r.le b u e
  · have e' : cset S.c a c b = some d := e
    by_cases hb : b = a
    · subst hb; rw [cset_same] at e'; cases e'; exact ⟨n', k⟩
    · rw [cset_ne hb] at e'
      obtain ⟨k1, k2⟩ := r.cell b d e'
      exact ⟨k1, k2.move (Ext.refl _) (upd_ne hb)⟩
/-- a cell is changed -/
theorem Ok.setC {c0 : Cell} (r : Ok K S) (e0 : S.c a = some c0) (k : CellOk K S.hs (upd S.h a o) a c) : Step K S ⟨S.hs, cset S.c a c, upd S.h a o⟩ := by
  obtain ⟨n', _⟩ := r.cell a c0 e0
  refine ⟨Ext.refl _, fun b u h1 h2 h3 => ?_, ⟨fun b u e => ?_, fun b d e => ?_⟩⟩
  · have hb : b ≠ a := fun z => by rw [z, e0] at h3; cases h3
    exact ⟨(upd_ne hb).trans h1, h2, by show cset S.c a c b = none; rw [cset_ne hb]; exact h3⟩
  · show upd S.h a o b = some u
    rw [upd_ne (ne_of_none e n')]; exact r.le b u e
  · have e' : cset S.c a c b = some d := e
    by_cases hb : b = a
    · subst hb; rw [cset_same] at e'; cases e'; exact ⟨n', k⟩
    · rw [cset_ne hb] at e'
      obtain ⟨k1, k2⟩ := r.cell b d e'
      exact ⟨k1, k2.move (Ext.refl _) (upd_ne hb)⟩
/-- a cell of which an invariant is told is changed within it -/
theorem Ok.setI {P : List V → Prop} {vs : List V} (r : Ok K S) (e0 : S.c a = some (.inv P)) (k : P vs) : Step K S ⟨S.hs, S.c, upd S.h a (.lst vs)⟩ := by
  have h := r.setC (o := .lst vs) (c := .inv P) e0 ⟨vs, upd_same, k⟩
  have e : cset S.c a (.inv P) = S.c := by
    funext b
    unfold cset
    split
    · rename_i q; rw [q, e0]
    · rfl
  rw [e] at h
  exact h
/-- a cell is shared from now on -/
theorem Ok.share (r : Ok K S) (e0 : S.c a = some c) (e : S.h a = some o) : Step K S ⟨upd S.hs a o, cdel S.c a, S.h⟩ := by
  obtain ⟨n', _⟩ := r.cell a c e0
  refine ⟨Ext.new n', fun b u h1 h2 h3 => ?_, ⟨fun b u q => ?_, fun b d q => ?_⟩⟩
  · have hb : b ≠ a := fun z => by rw [z, e0] at h3; cases h3
    refine ⟨h1, by show upd S.hs a o b = none; rw [upd_ne hb]; exact h2, ?_⟩
    show cdel S.c a b = none
    unfold cdel; rw [if_neg hb]; exact h3
  · have q' : upd S.hs a o b = some u := q
    by_cases hb : b = a
    · subst hb; rw [upd_same] at q'; cases q'; exact e
    · rw [upd_ne hb] at q'; exact r.le b u q'
  · have q' : cdel S.c a b = some d := q
    unfold cdel at q'
    by_cases hb : b = a
    · rw [if_pos hb] at q'; cases q'
    · rw [if_neg hb] at q'
      obtain ⟨k1, k2⟩ := r.cell b d q'
      exact ⟨by show upd S.hs a o b = none; rw [upd_ne hb]; exact k1, k2.move (Ext.new n') rfl⟩
/-- something that is neither shared nor a cell is changed -/
theorem Ok.other (r : Ok K S) (n1 : S.hs a = none) (n2 : S.c a = none) : Ok K ⟨S.hs, S.c, upd S.h a o⟩ := by
  refine ⟨fun b u e => ?_, fun b d e => ?_⟩
  · show upd S.h a o b = some u
    rw [upd_ne (ne_of_none e n1)]; exact r.le b u e
  · have hb : b ≠ a := fun z => by
      have e' : S.c b = some d := e
      rw [z, n2] at e'; cases e'
    obtain ⟨k1, k2⟩ := r.cell b d e
    exact ⟨k1, k2.move (Ext.refl _) (upd_ne hb)⟩
end

/-! ### what is told of cells may change without a step of the program -/
def Gh (C C' : Cells) : Prop := ∀ (K : PySem.W.Frag) (S : W), Ok K S → S.c = C → Step K S ⟨S.hs, C', S.h⟩
theorem Gh.refl (C : Cells) : Gh C C := fun K S ok e => by
  subst e
  exact Step.refl ok
theorem Gh.sub {C C' : Cells} (h : Sub C' C) : Gh C C' := fun K S ok e => ok.sub (by rw [e]; exact h)
theorem Gh.trans {A B C : Cells} (h : Gh A B) (k : Gh B C) : Gh A C := fun K S ok e => by
  have s1 := h K S ok e
  exact s1.trans (k K _ s1.ok rfl)
/-- a list's cell of which an invariant is told from here on -/
theorem Gh.close {C : Cells} {a : Addr} {xs : List D} {P : List V → Prop} (e : C a = some (.lst xs)) (h : ∀ K Hs vs, RA K Hs xs vs → P vs) : Gh C (cset C a (.inv P)) := fun K S ok ec => by
  subst ec
  obtain ⟨n', vs, h1, h2⟩ := ok.cell a _ e
  refine ⟨Ext.refl _, fun b u g1 g2 g3 => ⟨g1, g2, ?_⟩, ⟨ok.le, fun b d g => ?_⟩⟩
  · have hb : b ≠ a := fun z => by rw [z, e] at g3; cases g3
    exact (cset_ne hb).trans g3
  · have g' : cset S.c a (.inv P) b = some d := g
    by_cases hb : b = a
    · subst hb; rw [cset_same] at g'; cases g'; exact ⟨n', vs, h1, h K _ _ h2⟩
    · rw [cset_ne hb] at g'; exact ok.cell b d g'
theorem Ok.gh {K : PySem.W.Frag} {S : W} {C : Cells} (ok : Ok K S) (h : Gh S.c C) : Step K S ⟨S.hs, C, S.h⟩ := h K S ok rfl

/-! ### the names' data -/
abbrev Env := List (Option D)
def slot : Env → Nat → Option D
  | [], _ => none
  | x :: _, 0 => x
  | _ :: r, i + 1 => slot r i
theorem slot_eq : ∀ (ρ : Env) (i : Nat) (d : D), slot ρ i = some d ↔ ρ[i]? = some (some d)
  | [], i, d => by simp [slot]
  | x :: r, 0, d => by simp [slot]
  | x :: r, i + 1, d => by simp [slot, slot_eq r i d]
structure Sl (K : PySem.W.Frag) (Hs : Hp) (σ : St) (ρ : Env) : Prop where
  len : σ.length = ρ.length
  get : ∀ (i : Nat) (d : D), ρ[i]? = some (some d) → ∃ v, σ[i]? = some (some v) ∧ R K Hs d v
section
variable {K : PySem.W.Frag} {Hs Hs' : Hp} {σ : St} {ρ : Env}
theorem Sl.ext (s : Sl K Hs σ ρ) (e : Ext Hs Hs') : Sl K Hs' σ ρ := ⟨s.len, fun i d h => let ⟨v, h1, h2⟩ := s.get i d h; ⟨v, h1, R.ext e d v h2⟩⟩
theorem Sl.set (s : Sl K Hs σ ρ) {i : Nat} {d : D} {v : V} (h : R K Hs d v) : Sl K Hs (σ.set i (some v)) (ρ.set i (some d)) := by
  refine ⟨by simpa using s.len, fun j e q => ?_⟩
  by_cases hj : i = j
  · subst hj
    have hi : i < ρ.length := by
      have := (List.getElem?_eq_some_iff.mp q).1
      simpa using this
    rw [List.getElem?_set_self hi] at q
    cases q
    exact ⟨v, List.getElem?_set_self (by rw [s.len]; exact hi), h⟩
  · rw [List.getElem?_set_ne hj] at q
    obtain ⟨w, h1, h2⟩ := s.get j e q
    exact ⟨w, by rw [List.getElem?_set_ne hj]; exact h1, h2⟩
/-- another word for a slot's data -/
theorem Sl.reword (s : Sl K Hs σ ρ) {i : Nat} {d : D} (h : ∀ v, σ[i]? = some (some v) → R K Hs d v) (h2 : ∃ e, ρ[i]? = some (some e)) : Sl K Hs σ (ρ.set i (some d)) := by
  refine ⟨by simpa using s.len, fun j e q => ?_⟩
  by_cases hj : i = j
  · subst hj
    obtain ⟨e0, h2⟩ := h2
    obtain ⟨v, h3, _⟩ := s.get i e0 h2
    have hi : i < ρ.length := (List.getElem?_eq_some_iff.mp h2).1
    rw [List.getElem?_set_self hi] at q
    cases q
    exact ⟨v, h3, h v h3⟩
  · rw [List.getElem?_set_ne hj] at q
    exact s.get j e q
/-- the second has all that the first tells -/
def Fg : Env → Env → Prop
  | [], [] => True
  | none :: r, _ :: s => Fg r s
  | some d :: r, y :: s => y = some d ∧ Fg r s
  | _, _ => False
theorem Fg.spec : ∀ {ρ ρ' : Env}, Fg ρ ρ' → ρ.length = ρ'.length ∧ ∀ (i : Nat) d, ρ[i]? = some (some d) → ρ'[i]? = some (some d)
  | [], [], _ => ⟨rfl, fun i d h => by simp at h⟩
  | none :: r, y :: s, h => by
    obtain ⟨h1, h2⟩ := Fg.spec (ρ := r) (ρ' := s) h
    refine ⟨by simp [h1], fun i d q => ?_⟩
    cases i with
    | zero => simp at q
    | succ i => simpa using h2 i d (by simpa using q)
  | some d :: r, y :: s, h => by
    obtain ⟨h0, h⟩ := h
    obtain ⟨h1, h2⟩ := Fg.spec (ρ := r) (ρ' := s) h
    refine ⟨by simp [h1], fun i d q => ?_⟩
    cases i with
    | zero => subst h0; simpa using q
    | succ i => simpa using h2 i d (by simpa using q)
  | [], _ :: _, h => h.elim
  | none :: _, [], h => h.elim
  | some _ :: _, [], h => h.elim
theorem Fg.refl : ∀ ρ : Env, Fg ρ ρ
  | [] => trivial
  | none :: r => Fg.refl r
  | some d :: r => ⟨rfl, Fg.refl r⟩
theorem Sl.fg {ρ' : Env} (s : Sl K Hs σ ρ') (h : Fg ρ ρ') : Sl K Hs σ ρ := by
  obtain ⟨h1, h2⟩ := h.spec
  exact ⟨s.len.trans h1.symm, fun i d q => s.get i d (h2 i d q)⟩
end
end DL

set_option Elab.async false
set_option linter.all false
set_option maxRecDepth 100000
set_option maxHeartbeats 4000000
namespace DL
open PySem L2

/-! ### readings over data -/
abbrev DK := D → Cells → Prop
abbrev DT := Env → Cells → DK → Prop
abbrev DB := Env → Cells → (Bool → Cells → Prop) → Prop
abbrev DA := Env → Cells → (List D → Cells → Prop) → Prop
structure DEnds where
  nx : Env → Cells → Prop
  rt : DK
  bk : Env → Cells → Prop := fun _ _ => False
  ct : Env → Cells → Prop := fun _ _ => False
abbrev DS := DEnds → Env → Cells → Prop

/-- what is wanted behind S -/
def Wish (K : PySem.W.Frag) (S : W) (P : DK) (Q : VK) : Prop := ∀ v d S', Step K S S' → R K S'.hs d v → P d S'.c → Q v S'.h
def WishB (K : PySem.W.Frag) (S : W) (P : Bool → Cells → Prop) (Q : Bool → Hp → Prop) : Prop := ∀ b S', Step K S S' → P b S'.c → Q b S'.h
def WishA (K : PySem.W.Frag) (S : W) (P : List D → Cells → Prop) (Q : List V → Hp → Prop) : Prop := ∀ vs ds S', Step K S S' → RA K S'.hs ds vs → P ds S'.c → Q vs S'.h
def WishN (K : PySem.W.Frag) (S : W) (P : Env → Cells → Prop) (Q : St → Hp → Prop) : Prop := ∀ ρ' σ' S', Step K S S' → Sl K S'.hs σ' ρ' → P ρ' S'.c → Q σ' S'.h
structure EndsOk (K : PySem.W.Frag) (S : W) (D : DEnds) (E : Ends) : Prop where
  nx : WishN K S D.nx E.nx
  rt : Wish K S D.rt E.rt
  bk : WishN K S D.bk E.bk
  ct : WishN K S D.ct E.ct
section
variable {K : PySem.W.Frag} {S S' : W}
theorem Wish.st {P : DK} {Q : VK} (w : Wish K S P Q) (e : Step K S S') : Wish K S' P Q := fun v d S2 x => w v d S2 (e.trans x)
theorem WishB.st {P : Bool → Cells → Prop} {Q : Bool → Hp → Prop} (w : WishB K S P Q) (e : Step K S S') : WishB K S' P Q := fun b S2 x => w b S2 (e.trans x)
theorem WishA.st {P : List D → Cells → Prop} {Q : List V → Hp → Prop} (w : WishA K S P Q) (e : Step K S S') : WishA K S' P Q := fun v d S2 x => w v d S2 (e.trans x)
theorem WishN.st {P : Env → Cells → Prop} {Q : St → Hp → Prop} (w : WishN K S P Q) (e : Step K S S') : WishN K S' P Q := fun a b S2 x => w a b S2 (e.trans x)
theorem EndsOk.st {D : DEnds} {E : Ends} (w : EndsOk K S D E) (e : Step K S S') : EndsOk K S' D E := ⟨w.nx.st e, w.rt.st e, w.bk.st e, w.ct.st e⟩
end

structure LE (K : PySem.W.Frag) (t : DT) (σ : St) (Q : VK) (S : W) : Prop where
  ex : ∃ ρ P, Sl K S.hs σ ρ ∧ Ok K S ∧ t ρ S.c P ∧ Wish K S P Q
def liftE (K : PySem.W.Frag) (t : DT) : TE := fun σ H Q => ∃ ρ S P, S.h = H ∧ Sl K S.hs σ ρ ∧ Ok K S ∧ t ρ S.c P ∧ Wish K S P Q
def liftB (K : PySem.W.Frag) (t : DB) : TT := fun σ H Q => ∃ ρ S P, S.h = H ∧ Sl K S.hs σ ρ ∧ Ok K S ∧ t ρ S.c P ∧ WishB K S P Q
def liftA (K : PySem.W.Frag) (t : DA) : TA := fun σ H Q => ∃ ρ S P, S.h = H ∧ Sl K S.hs σ ρ ∧ Ok K S ∧ t ρ S.c P ∧ WishA K S P Q
def liftS (K : PySem.W.Frag) (t : DS) : TS := fun E σ H => ∃ ρ S D, S.h = H ∧ Sl K S.hs σ ρ ∧ Ok K S ∧ t D ρ S.c ∧ EndsOk K S D E

def DE (X : Cx) (e : Expr) (t : DT) : Prop := PE X e (liftE X.K t)
def DC (X : Cx) (e : Expr) (t : DB) : Prop := PT X e (liftB X.K t)
def DCW (X : Cx) (e : Expr) (t : DB) : Prop := PW X e (liftB X.K t)
def DAs (X : Cx) (es : List Expr) (t : DA) : Prop := PA X es (liftA X.K t)
def DSt (X : Cx) (st : Stmt) (t : DS) : Prop := PS X st (liftS X.K t)
def DSs (X : Cx) (st : List Stmt) (t : DS) : Prop := PSs X st (liftS X.K t)

theorem pe_weak {X : Cx} {e : Expr} {t t' : TE} (h : PE X e t) (w : ∀ σ H Q, t' σ H Q → t σ H Q) : PE X e t' := ⟨fun pins s σ H Q I q => h.run pins s σ H Q I (w σ H Q q)⟩
theorem pt_weak {X : Cx} {e : Expr} {t t' : TT} (h : PT X e t) (w : ∀ σ H Q, t' σ H Q → t σ H Q) : PT X e t' := ⟨fun pins s σ H Q I q => h.run pins s σ H Q I (w σ H Q q)⟩
theorem pw_weak {X : Cx} {e : Expr} {t t' : TT} (h : PW X e t) (w : ∀ σ H Q, t' σ H Q → t σ H Q) : PW X e t' := ⟨fun wh pins s σ H Q I q => h.run wh pins s σ H Q I (w σ H Q q)⟩
theorem pa_weak {X : Cx} {e : List Expr} {t t' : TA} (h : PA X e t) (w : ∀ σ H Q, t' σ H Q → t σ H Q) : PA X e t' := ⟨fun pos pins s σ H Q I q => h.run pos pins s σ H Q I (w σ H Q q)⟩
theorem ps_weak {X : Cx} {e : Stmt} {t t' : TS} (h : PS X e t) (w : ∀ E σ H, t' E σ H → t E σ H) : PS X e t' := ⟨fun pins s σ H Q I q => h.run pins s σ H Q I (w Q σ H q)⟩
theorem pss_weak {X : Cx} {e : List Stmt} {t t' : TS} (h : PSs X e t) (w : ∀ E σ H, t' E σ H → t E σ H) : PSs X e t' := ⟨fun pins s σ H Q I q => h.run pins s σ H Q I (w Q σ H q)⟩

/-! ### names, constants -/
def dVar (i : Nat) : DT := fun ρ C P => match slot ρ i with
  | some d => P d C
  | none => False
def dC (d : D) : DT := fun _ C P => P d C
section
variable {X : Cx} {pos : Pos}
theorem dv (i : Nat) {x : Str} (hN : X.N[i]? = some x := by rfl) (hv : Vis X.env.scope x := by first | exact Or.inl rfl | exact Or.inr (Or.inl rfl) | exact Or.inr (Or.inr rfl)) (hd : (x == ("__debug__" : Str)) = false := by decide)
    (hcd : (x == ("__classdict__" : Str)) = false := by decide) : DE X (.Name x pos) (dVar i) := by
  refine pe_weak (pe_var hN hv hd hcd) fun σ H Q h => ?_
  obtain ⟨ρ, S, P, rfl, s, r, t, w⟩ := h
  unfold dVar at t
  split at t
  · rename_i d e
    obtain ⟨v, h1, h2⟩ := s.get i d ((slot_eq ρ i d).mp e)
    exact ⟨v, h1, w v d S (.refl r) h2 t⟩
  · exact t.elim
theorem lift_c {K : PySem.W.Frag} {d : D} {v : V} (h : ∀ Hs, R K Hs d v) {σ : St} {H : Hp} {Q : VK} (q : liftE K (dC d) σ H Q) : Q v H := by
  obtain ⟨ρ, S, P, rfl, s, r, t, w⟩ := q
  exact w v d S (.refl r) (h _) t
theorem dc_int {i j} : DE X (.Constant (.int i) j pos) (dC (.int i)) := pe_weak pe_int fun σ H Q h => lift_c (v := .int i) (fun _ => by simp [R]) h
theorem dc_bl {b j} : DE X (.Constant (.bool b) j pos) (dC (.bl b)) := pe_weak pe_bl fun σ H Q h => lift_c (v := .bl b) (fun _ => by simp [R]) h
theorem dc_non {j} : DE X (.Constant .none j pos) (dC .non) := pe_weak pe_non fun σ H Q h => lift_c (v := .non) (fun _ => by simp [R]) h
theorem dc_str {x j} : DE X (.Constant (.str x) j pos) (dC (.str x)) := pe_weak pe_str fun σ H Q h => lift_c (v := .str x) (fun _ => by simp [R]) h
/-- a module's text -/
theorem dg_str {x y : Str} (hm : ∃ t, X.mg x = some (.str y t)) (hg : Gl X x := by rfl) (hd : (x == ("__debug__" : Str)) = false := by decide) : DE X (.Name x pos) (dC (.str y)) :=
  let ⟨_, hm⟩ := hm
  pe_weak (pe_glob (v := .str y) hg hm ⟨_, rfl⟩ hd) fun σ H Q h => lift_c (v := .str y) (fun _ => by simp [R]) h
/-- a def, a class of the module -/
theorem dg_ref {x : Str} {a : Addr} (hm : X.mg x = some (.ref a)) (hg : Gl X x := by rfl) (hd : (x == ("__debug__" : Str)) = false := by decide) : DE X (.Name x pos) (dC (.val (.ref a))) :=
  pe_weak (pe_glob (v := .ref a) hg hm rfl hd) fun σ H Q h => lift_c (v := .ref a) (fun _ => by simp [R]) h
/-- a built-in class -/
theorem dg_ty {x : Str} {n : String} (hm : X.mg x = none) (hv : bootBuiltins x = some (.type n)) (hg : Gl X x := by rfl) (hn : x ≠ "__name__" := by decide) (hd : (x == ("__debug__" : Str)) = false := by decide) : DE X (.Name x pos) (dC (.val (.ty n))) :=
  pe_weak (pe_bltn (v := .ty n) hg hm hv rfl hn hd) fun σ H Q h => lift_c (v := .ty n) (fun _ => by simp [R]) h
end

/-! ### operators by values -/
abbrev D2 := D → D → Cells → DK → Prop
def dOp (r : D2) (a b : DT) : DT := fun ρ C P => a ρ C fun x C1 => b ρ C1 fun y C2 => r x y C2 P
/-- r by data stands for r' by values -/
def OpS (K : PySem.W.Frag) (r' : R2) (r : D2) : Prop := ∀ x y v u S P Q, Ok K S → R K S.hs x v → R K S.hs y u → r x y S.c P → Wish K S P Q → r' v u S.h Q
theorem lift_op {K : PySem.W.Frag} {r' : R2} {r : D2} {a b : DT} (h : OpS K r' r) {σ : St} {H : Hp} {Q : VK} (q : liftE K (dOp r a b) σ H Q) : tOp r' (liftE K a) (liftE K b) σ H Q := by
  obtain ⟨ρ, S, P, rfl, s, rp, t, w⟩ := q
  refine ⟨ρ, S, _, rfl, s, rp, t, fun v x S1 e1 rx t1 => ?_⟩
  refine ⟨ρ, S1, _, rfl, s.ext e1.ext, e1.ok, t1, fun u y S2 e2 ry t2 => ?_⟩
  exact h x y v u S2 P Q e2.ok (R.ext e2.ext _ _ rx) ry t2 (w.st (e1.trans e2))
section
variable {X : Cx} {a b : Expr} {ta tb : DT} {pos : Pos}
theorem de_op {op : Operator} {r' : R2} {r : D2} (ho : OpR X (binaryOp op) r') (hs : OpS X.K r' r) (ha : DE X a ta) (hb : DE X b tb) : DE X (.BinOp a op b pos) (dOp r ta tb) :=
  pe_weak (pe_op ho ha hb) fun σ H Q h => lift_op hs h
theorem de_cmp {op : CmpOp} {r' : R2} {r : D2} (ho : OpR X (compareOp op) r') (hs : OpS X.K r' r) (ha : DE X a ta) (hb : DE X b tb) (hm : behindInMarks op b = false) : DE X (.Compare a [op] [b] pos) (dOp r ta tb) :=
  pe_weak (pe_cmpR ho ha hb hm) fun σ H Q h => lift_op hs h
/-- a comparison as a test -/
def asB (d : D) (k : Bool → Prop) : Prop := match d with
  | .bl b => k b
  | _ => False
def dTest (t : DT) : DB := fun ρ C P => t ρ C fun d C1 => asB d fun b => P b C1
theorem lift_test {K : PySem.W.Frag} {t : DT} {t' : TE} (h : ∀ σ H Q, liftE K t σ H Q → t' σ H Q) {σ : St} {H : Hp} {Q : Bool → Hp → Prop} (q : liftB K (dTest t) σ H Q) : t' σ H (fun x H' => ∃ k, x = .bl k ∧ Q k H') := by
  obtain ⟨ρ, S, P, rfl, s, rp, t1, w⟩ := q
  refine h _ _ _ ⟨ρ, S, _, rfl, s, rp, t1, fun v x S1 e1 rx t2 => ?_⟩
  cases x with
  | bl b => exact ⟨b, by simpa [R] using rx, w b S1 e1 t2⟩
  | _ => exact t2.elim
theorem dt_cmp {op : CmpOp} {r' : R2} {r : D2} (ho : OpR X (compareOp op) r') (hs : OpS X.K r' r) (ha : DE X a ta) (hb : DE X b tb) (hm : behindInMarks op b = false) : DC X (.Compare a [op] [b] pos) (dTest (dOp r ta tb)) :=
  pt_weak (pt_cmpR ho ha hb hm) fun σ H Q h => lift_test (fun _ _ _ q => lift_op hs q) h
/-- an expression that gives a bool, as a test -/
theorem dt_val {e : Expr} {t : DT} (h : DE X e t) (he : ∀ whole, isTrue e X.env whole = (do let v ← whole; standAt e.pos; holding [v] (truthy v)) := by intro _; rfl) : DC X e (dTest t) :=
  pt_weak (pt_val h he) fun σ H Q q => lift_test (fun _ _ _ q => q) q
end

/-! ### and, or, not, if -/
section
variable {X : Cx} {a b : Expr} {rest : List Expr} {ta tb : DT} {tA tB : DB} {pos : Pos}
def dAnd (t u : DB) : DB := fun ρ C P => t ρ C fun b C1 => if b = true then u ρ C1 P else P false C1
def dOr (t u : DB) : DB := fun ρ C P => t ρ C fun b C1 => if b = true then P true C1 else u ρ C1 P
def dNot (t : DB) : DB := fun ρ C P => t ρ C fun b C1 => P (!b) C1
theorem dw_and1 (h : DC X a tA) : DCW X (.BoolOp .And [a] pos) tA := pw_and1 h
theorem dw_or1 (h : DC X a tA) : DCW X (.BoolOp .Or [a] pos) tA := pw_or1 h
theorem dw_and (h : DC X a tA) (k : DCW X (.BoolOp .And (b :: rest) pos) tB) : DCW X (.BoolOp .And (a :: b :: rest) pos) (dAnd tA tB) := by
  refine pw_weak (pw_and h k) fun σ H Q q => ?_
  obtain ⟨ρ, S, P, rfl, s, rp, t1, w⟩ := q
  refine ⟨ρ, S, _, rfl, s, rp, t1, fun c S1 e1 t2 => ?_⟩
  cases c with
  | true => exact ⟨ρ, S1, P, rfl, s.ext e1.ext, e1.ok, by simpa using t2, w.st e1⟩
  | false => exact w false S1 e1 (by simpa using t2)
theorem dw_or (h : DC X a tA) (k : DCW X (.BoolOp .Or (b :: rest) pos) tB) : DCW X (.BoolOp .Or (a :: b :: rest) pos) (dOr tA tB) := by
  refine pw_weak (pw_or h k) fun σ H Q q => ?_
  obtain ⟨ρ, S, P, rfl, s, rp, t1, w⟩ := q
  refine ⟨ρ, S, _, rfl, s, rp, t1, fun c S1 e1 t2 => ?_⟩
  cases c with
  | true => exact w true S1 e1 (by simpa using t2)
  | false => exact ⟨ρ, S1, P, rfl, s.ext e1.ext, e1.ok, by simpa using t2, w.st e1⟩
theorem dt_pw {e : Expr} {t : DB} (h : DCW X e t) : DC X e t := h.pt
theorem dt_not (h : DC X a tA) : DC X (.UnaryOp .Not a pos) (dNot tA) := by
  refine pt_weak (pt_not h) fun σ H Q q => ?_
  obtain ⟨ρ, S, P, rfl, s, rp, t1, w⟩ := q
  exact ⟨ρ, S, _, rfl, s, rp, t1, fun c S1 e1 t2 => w (!c) S1 e1 t2⟩
def dAndV (t u : DT) : DT := fun ρ C P => t ρ C fun d C1 => asB d fun b => if b = true then u ρ C1 P else P (.bl false) C1
def dOrV (t u : DT) : DT := fun ρ C P => t ρ C fun d C1 => asB d fun b => if b = true then P (.bl true) C1 else u ρ C1 P
def dNotV (t : DT) : DT := fun ρ C P => t ρ C fun d C1 => asB d fun b => P (.bl (!b)) C1
theorem de_one {op} {t : DT} (h : DE X a t) : DE X (.BoolOp op [a] pos) t := pe_one h
theorem de_and (h : DE X a ta) (k : DE X (.BoolOp .And (b :: rest) pos) tb) : DE X (.BoolOp .And (a :: b :: rest) pos) (dAndV ta tb) := by
  refine pe_weak (pe_and h k) fun σ H Q q => ?_
  obtain ⟨ρ, S, P, rfl, s, rp, t1, w⟩ := q
  refine ⟨ρ, S, _, rfl, s, rp, t1, fun v d S1 e1 rd t2 => ?_⟩
  cases d with
  | bl c =>
    refine ⟨c, by simpa [R] using rd, ?_⟩
    cases c with
    | true => exact ⟨ρ, S1, P, rfl, s.ext e1.ext, e1.ok, by simpa [asB] using t2, w.st e1⟩
    | false => exact w (.bl false) (.bl false) S1 e1 (by simp [R]) (by simpa [asB] using t2)
  | _ => exact t2.elim
theorem de_or (h : DE X a ta) (k : DE X (.BoolOp .Or (b :: rest) pos) tb) : DE X (.BoolOp .Or (a :: b :: rest) pos) (dOrV ta tb) := by
  refine pe_weak (pe_or h k) fun σ H Q q => ?_
  obtain ⟨ρ, S, P, rfl, s, rp, t1, w⟩ := q
  refine ⟨ρ, S, _, rfl, s, rp, t1, fun v d S1 e1 rd t2 => ?_⟩
  cases d with
  | bl c =>
    refine ⟨c, by simpa [R] using rd, ?_⟩
    cases c with
    | false => exact ⟨ρ, S1, P, rfl, s.ext e1.ext, e1.ok, by simpa [asB] using t2, w.st e1⟩
    | true => exact w (.bl true) (.bl true) S1 e1 (by simp [R]) (by simpa [asB] using t2)
  | _ => exact t2.elim
theorem de_not (h : DE X a ta) : DE X (.UnaryOp .Not a pos) (dNotV ta) := by
  refine pe_weak (pe_not h) fun σ H Q q => ?_
  obtain ⟨ρ, S, P, rfl, s, rp, t1, w⟩ := q
  refine ⟨ρ, S, _, rfl, s, rp, t1, fun v d S1 e1 rd t2 => ?_⟩
  cases d with
  | bl c => exact ⟨c, by simpa [R] using rd, w (.bl (!c)) (.bl (!c)) S1 e1 (by simp [R]) t2⟩
  | _ => exact t2.elim
def dIf (t : DB) (u v : DT) : DT := fun ρ C P => t ρ C fun b C1 => if b = true then u ρ C1 P else v ρ C1 P
theorem de_if {c : Expr} (hc : DC X c tA) (ha : DE X a ta) (hb : DE X b tb) : DE X (.IfExp c a b pos) (dIf tA ta tb) := by
  refine pe_weak (pe_ifExp hc ha hb) fun σ H Q q => ?_
  obtain ⟨ρ, S, P, rfl, s, rp, t1, w⟩ := q
  refine ⟨ρ, S, _, rfl, s, rp, t1, fun c S1 e1 t2 => ?_⟩
  cases c with
  | true => exact ⟨ρ, S1, P, rfl, s.ext e1.ext, e1.ok, by simpa using t2, w.st e1⟩
  | false => exact ⟨ρ, S1, P, rfl, s.ext e1.ext, e1.ok, by simpa using t2, w.st e1⟩
end

/-! ### argument lists, displays -/
def dNil : DA := fun _ C P => P [] C
def dCons (a : DT) (r : DA) : DA := fun ρ C P => a ρ C fun d C1 => r ρ C1 fun ds C2 => P (d :: ds) C2
def dLst (a : DA) : DT := fun ρ C P => a ρ C fun ds C1 => ds.length ≤ 1000000 ∧ P (.lst ds) C1
def dTup (a : DA) : DT := fun ρ C P => a ρ C fun ds C1 => ds.length ≤ 1000000 ∧ P (.tup ds) C1
/-- a list that is to be changed in place -/
def dLstC (a : DA) : DT := fun ρ C P => a ρ C fun ds C1 => ds.length ≤ 1000000 ∧ ∀ p, C1 p = none → P (.cell p) (cset C1 p (.lst ds))
theorem mil {n : Nat} (h : n ≤ 1000000) : n ≤ sizeLine := by rw [sizeLine_eq]; omega
section
variable {X : Cx} {e : Expr} {es : List Expr} {te : DT} {t : DA} {pos : Pos}
theorem da_nil : DAs X [] dNil := by
  refine pa_weak pa_nil fun σ H Q h => ?_
  obtain ⟨ρ, S, P, rfl, s, r, t, w⟩ := h
  exact w [] [] S (.refl r) RA.nil t
theorem da_cons (ha : DE X e te) (hr : DAs X es t) (hs : starEach (e :: es) X.env = (false, eval e X.env) :: starEach es X.env := by rfl) : DAs X (e :: es) (dCons te t) := by
  refine pa_weak (pa_cons ha hr hs) fun σ H Q h => ?_
  obtain ⟨ρ, S, P, rfl, s, r, t, w⟩ := h
  refine ⟨ρ, S, _, rfl, s, r, t, fun v d S1 e1 rd t1 => ?_⟩
  refine ⟨ρ, S1, _, rfl, s.ext e1.ext, e1.ok, t1, fun vs ds S2 e2 rs t2 => ?_⟩
  exact w _ _ S2 (e1.trans e2) (RA.cons (R.ext e2.ext _ _ rd) rs) t2
theorem de_lst (h : DAs X es t) : DE X (.List es pos) (dLst t) := by
  refine pe_weak (pe_lst h) fun σ H Q q => ?_
  obtain ⟨ρ, S, P, rfl, s, r, t, w⟩ := q
  refine ⟨ρ, S, _, rfl, s, r, t, fun vs ds S1 e1 rs t1 => ?_⟩
  obtain ⟨z, t1⟩ := t1
  refine ⟨by rw [rs.len]; exact mil z, fun p hp => ?_⟩
  have x := e1.ok.new (o := .lst vs) hp
  exact w _ (.lst ds) _ (e1.trans x) (by simp only [R]; exact ⟨p, vs, rfl, upd_same, RA.ext x.ext _ _ rs⟩) t1
theorem de_lstC (h : DAs X es t) : DE X (.List es pos) (dLstC t) := by
  refine pe_weak (pe_lst h) fun σ H Q q => ?_
  obtain ⟨ρ, S, P, rfl, s, r, t, w⟩ := q
  refine ⟨ρ, S, _, rfl, s, r, t, fun vs ds S1 e1 rs t1 => ?_⟩
  obtain ⟨z, t1⟩ := t1
  refine ⟨by rw [rs.len]; exact mil z, fun p hp => ?_⟩
  have x := e1.ok.newC (o := .lst vs) (c := .lst ds) hp ⟨vs, upd_same, rs⟩
  exact w _ (.cell p) _ (e1.trans x) (by simp only [R]) (t1 p (e1.ok.freshC hp))
theorem de_tup {x1} (h : DAs X es t) : DE X (.Tuple es x1 pos) (dTup t) := by
  refine pe_weak (pe_tup h) fun σ H Q q => ?_
  obtain ⟨ρ, S, P, rfl, s, r, t, w⟩ := q
  refine ⟨ρ, S, _, rfl, s, r, t, fun vs ds S1 e1 rs t1 => ?_⟩
  obtain ⟨z, t1⟩ := t1
  refine ⟨by rw [rs.len]; exact mil z, fun p hp => ?_⟩
  have x := e1.ok.new (o := .tup vs) hp
  exact w _ (.tup ds) _ (e1.trans x) (by simp only [R]; exact ⟨p, vs, rfl, upd_same, RA.ext x.ext _ _ rs⟩) t1
end

/-! ### defs and calls -/
abbrev DSp := List D → Cells → DK → Prop
def spOf (K : PySem.W.Frag) (p : DSp) : Sp := fun vs H Q _ => ∃ ds S P, S.h = H ∧ RA K S.hs ds vs ∧ Ok K S ∧ p ds S.c P ∧ Wish K S P Q
/-- a def as its callers see it; dds: its defaults -/
structure Fn (P : Program) (w : World) (K : PySem.W.Frag) (mg : Str → Option Value) (base : Heap) (k : Nat) (f : Addr) (dds : List D) (p : DSp) : Prop where
  ex : ∃ (fd : FuncData) (ps : List Str) (ds : List Value) (dvs : List V), PySem.W.keepIn K (.ref f) = true ∧ Binds K fd ps ds ∧ Vals dvs ds ∧ (∀ Hs, RA K Hs dds dvs) ∧ FnOk P w K mg base CX0 k f fd ps (spOf K p)
theorem Fn.mono {P : Program} {w : World} {K : PySem.W.Frag} {mg : Str → Option Value} {base : Heap} {j k : Nat} {f : Addr} {dds : List D} {p : DSp} (h : Fn P w K mg base j f dds p) (l : j ≤ k) : Fn P w K mg base k f dds p := by
  obtain ⟨fd, ps, ds, dvs, h1, h2, h3, h4, h5⟩ := h.ex
  exact ⟨fd, ps, ds, dvs, h1, h2, h3, h4, h5.mono l⟩
theorem Fn.imp {P : Program} {w : World} {K : PySem.W.Frag} {mg : Str → Option Value} {base : Heap} {k : Nat} {f : Addr} {dds : List D} {p q : DSp} (h : Fn P w K mg base k f dds p) (l : ∀ ds C P, q ds C P → p ds C P) : Fn P w K mg base k f dds q := by
  obtain ⟨fd, ps, ds, dvs, h1, h2, h3, h4, h5⟩ := h.ex
  exact ⟨fd, ps, ds, dvs, h1, h2, h3, h4, h5.imp fun vs H Q E z => let ⟨ds, S, P, a, b, c, d, e⟩ := z; ⟨ds, S, P, a, b, c, l _ _ _ d, e⟩⟩
def dCall (p : DSp) (dds : List D) (a : DA) : DT := fun ρ C P => a ρ C fun ds C1 => p (ds ++ dds) C1 P
theorem lift_call {K : PySem.W.Frag} {p : DSp} {dds : List D} {dvs : List V} {a : DA} (hd : ∀ Hs, RA K Hs dds dvs) {E : XK} {σ : St} {H : Hp} {Q : VK} (q : liftE K (dCall p dds a) σ H Q) : tCall (spOf K p) dvs E (liftA K a) σ H Q := by
  obtain ⟨ρ, S, P, rfl, s, r, t, w⟩ := q
  refine ⟨ρ, S, _, rfl, s, r, t, fun vs ds S1 e1 rs t1 => ?_⟩
  exact ⟨ds ++ dds, S1, P, rfl, rs.append (hd _), e1.ok, t1, w.st e1⟩
section
variable {X : Cx} {k : Nat} {f : Addr} {x : Str} {p pos : Pos} {e : Expr} {es : List Expr} {t : DA} {dds : List D} {sp : DSp}
theorem de_call (c : Fn X.prog X.w X.K X.mg X.base k f dds sp) (hm : X.mg x = some (.ref f)) (hr : Room k X.A) (ha : DAs X (e :: es) t) (hg : Gl X x := by rfl) (hdb : (x == ("__debug__" : Str)) = false := by decide)
    (he : starEach (e :: es) X.env = (false, eval e X.env) :: starEach es X.env := by rfl) (hpl : (backTo pos (starEach es X.env)).any (·.1) = false := by rfl) : DE X (.Call (.Name x p) (e :: es) [] pos) (dCall sp dds t) := by
  obtain ⟨fd, ps, ds, dvs, hk, hb, hd, hdd, F⟩ := c.ex
  exact pe_weak (pe_call F hr hg hm hk hb hd pass0 ha hdb he hpl) fun σ H Q q => lift_call hdd q
theorem de_call0 (c : Fn X.prog X.w X.K X.mg X.base k f dds sp) (hm : X.mg x = some (.ref f)) (hr : Room k X.A) (hg : Gl X x := by rfl) (hdb : (x == ("__debug__" : Str)) = false := by decide) : DE X (.Call (.Name x p) [] [] pos) (dCall sp dds dNil) := by
  obtain ⟨fd, ps, ds, dvs, hk, hb, hd, hdd, F⟩ := c.ex
  refine pe_weak (pe_call0 F hr hg hm hk hb hd pass0 hdb) fun σ H Q q => ?_
  obtain ⟨ρ, S, P, rfl, s, r, t, w⟩ := q
  exact ⟨[] ++ dds, S, P, rfl, hdd _, r, t, w⟩
end

/-! ### statements -/
section
variable {X : Cx} {st : Stmt} {rest : List Stmt} {t u : DS} {e : Expr} {te : DT} {pos : Pos}
def dNext : DS := fun D ρ C => D.nx ρ C
def dSeq (t u : DS) : DS := fun D ρ C => t { D with nx := u D } ρ C
theorem ds_nil : DSs X [] dNext := by
  refine pss_weak pss_nil fun E σ H q => ?_
  obtain ⟨ρ, S, D, rfl, s, r, t, w⟩ := q
  exact w.nx ρ σ S (.refl r) s t
theorem ds_cons (h1 : DSt X st t) (h2 : DSs X rest u) : DSs X (st :: rest) (dSeq t u) := by
  refine pss_weak (pss_cons h1 h2) fun E σ H q => ?_
  obtain ⟨ρ, S, D, rfl, s, r, t, w⟩ := q
  refine ⟨ρ, S, { D with nx := u D }, rfl, s, r, t, ⟨fun ρ' σ' S' e1 s1 t1 => ?_, w.rt, w.bk, w.ct⟩⟩
  exact ⟨ρ', S', D, rfl, s1, e1.ok, t1, w.st e1⟩
theorem ds_one (h1 : DSt X st t) : DSs X [st] t := pss_one h1
def dBreak : DS := fun D ρ C => D.bk ρ C
def dCont : DS := fun D ρ C => D.ct ρ C
theorem ds_pass : DSt X (.Pass pos) dNext := by
  refine ps_weak ps_pass fun E σ H q => ?_
  obtain ⟨ρ, S, D, rfl, s, r, t, w⟩ := q
  exact w.nx ρ σ S (.refl r) s t
theorem ds_break : DSt X (.Break pos) dBreak := by
  refine ps_weak ps_break fun E σ H q => ?_
  obtain ⟨ρ, S, D, rfl, s, r, t, w⟩ := q
  exact w.bk ρ σ S (.refl r) s t
theorem ds_cont : DSt X (.Continue pos) dCont := by
  refine ps_weak ps_continue fun E σ H q => ?_
  obtain ⟨ρ, S, D, rfl, s, r, t, w⟩ := q
  exact w.ct ρ σ S (.refl r) s t
def dDrop (te : DT) : DS := fun D ρ C => te ρ C fun _ C1 => D.nx ρ C1
theorem ds_expr (he : DE X e te) (hs : swapsWith e none pos.line X.env = pure false := by rfl) : DSt X (.Expr e pos) (dDrop te) := by
  refine ps_weak (ps_expr he hs) fun E σ H q => ?_
  obtain ⟨ρ, S, D, rfl, s, r, t, w⟩ := q
  exact ⟨ρ, S, _, rfl, s, r, t, fun v d S1 e1 rd t1 => w.nx ρ σ S1 e1 (s.ext e1.ext) t1⟩
def dRet (te : DT) : DS := fun D ρ C => te ρ C D.rt
theorem ds_ret (he : DE X e te) : DSt X (.Return (some e) pos) (dRet te) := by
  refine ps_weak (ps_ret he) fun E σ H q => ?_
  obtain ⟨ρ, S, D, rfl, s, r, t, w⟩ := q
  exact ⟨ρ, S, _, rfl, s, r, t, w.rt⟩
def dRetN : DS := fun D _ C => D.rt .non C
theorem ds_retN : DSt X (.Return none pos) dRetN := by
  refine ps_weak ps_retN fun E σ H q => ?_
  obtain ⟨ρ, S, D, rfl, s, r, t, w⟩ := q
  exact w.rt .non .non S (.refl r) (by simp [R]) t
def dIfS (c : DB) (t u : DS) : DS := fun D ρ C => c ρ C fun b C1 => if b = true then t D ρ C1 else u D ρ C1
theorem ds_if {c : Expr} {a b : List Stmt} {tc : DB} (hc : DC X c tc) (ha : DSs X a t) (hb : DSs X b u) : DSt X (.If c a b pos) (dIfS tc t u) := by
  refine ps_weak (ps_if hc ha hb) fun E σ H q => ?_
  obtain ⟨ρ, S, D, rfl, s, r, t, w⟩ := q
  refine ⟨ρ, S, _, rfl, s, r, t, fun b S1 e1 t1 => ?_⟩
  cases b with
  | true => exact ⟨ρ, S1, D, rfl, s.ext e1.ext, e1.ok, by simpa using t1, w.st e1⟩
  | false => exact ⟨ρ, S1, D, rfl, s.ext e1.ext, e1.ok, by simpa using t1, w.st e1⟩
def dNever : DS := fun _ _ _ => False
theorem lift_never {K : PySem.W.Frag} {E : Ends} {σ : St} {H : Hp} (q : liftS K dNever E σ H) : False := by
  obtain ⟨ρ, S, D, rfl, s, r, t, w⟩ := q
  exact t
theorem ds_never : DSt X st dNever := ps_weak ps_never fun E σ H q => lift_never q
theorem dss_never {sts : List Stmt} : DSs X sts dNever := pss_weak pss_never fun E σ H q => lift_never q

/-! ### targets -/
abbrev DG := D → Env → Cells → (Env → Cells → Prop) → Prop
def liftG (K : PySem.W.Frag) (g : DG) : TG := fun v σ H Q => ∃ ρ S d P, S.h = H ∧ Sl K S.hs σ ρ ∧ Ok K S ∧ R K S.hs d v ∧ g d ρ S.c P ∧ WishN K S P Q
def DGt (X : Cx) (target : Expr) (g : DG) : Prop := PG X target (liftG X.K g)
theorem pg_weak {target : Expr} {t t' : TG} (h : PG X target t) (w : ∀ v σ H Q, t' v σ H Q → t v σ H Q) : PG X target t' := ⟨fun pins s σ H v u Q I r q => h.run pins s σ H v u Q I r (w v σ H Q q)⟩
def dName (i : Nat) : DG := fun d ρ C P => P (ρ.set i (some d)) C
theorem dg_name {i : Nat} {x : Str} (hN : X.N.Nodup) (hi : X.N[i]? = some x := by rfl) (hx : Loc X.env.scope x := by first | exact Or.inl rfl | exact Or.inr rfl) (hf : X.fn x = true ∨ X.env.scope.names.lookup x = some .local := by first | exact .inl rfl | exact .inr rfl) : DGt X (.Name x pos) (dName i) := by
  refine pg_weak (pg_name hN hi hx hf) fun v σ H Q q => ?_
  obtain ⟨ρ, S, d, P, rfl, s, r, rd, t, w⟩ := q
  exact w _ _ S (.refl r) (s.set rd) t
/-- (a, b, ..) = a tuple -/
def dSets : List Nat → List D → Env → Env
  | i :: is, d :: ds, ρ => dSets is ds (ρ.set i (some d))
  | _, _, ρ => ρ
def dGTup (is : List Nat) : DG := fun d ρ C P => match d with
  | .tup ds => ds.length = is.length ∧ P (dSets is ds ρ) C
  | _ => False
/-- the names of a target tuple -/
def GNs (X : Cx) (es : List Expr) (is : List Nat) : Prop := ∃ g : TGs, PGs X es g ∧ ∀ vs σ H Q, vs.length = is.length → (∀ σ', (∀ K Hs ρ ds, Sl K Hs σ ρ → RA K Hs ds vs → Sl K Hs σ' (dSets is ds ρ)) → Q σ' H) → g vs σ H Q
theorem gn_nil : GNs X [] [] := ⟨gNil, pgs_nil, fun vs σ H Q h q => by
  cases vs with
  | nil => exact ⟨rfl, q σ fun K Hs ρ ds s r => by cases ds <;> exact s⟩
  | cons _ _ => simp at h⟩
theorem gn_cons {i : Nat} {is : List Nat} {x : Str} {p : Pos} {es : List Expr} (hN : X.N.Nodup) (k : GNs X es is) (hi : X.N[i]? = some x := by rfl) (hx : Loc X.env.scope x := by first | exact Or.inl rfl | exact Or.inr rfl) (hf : X.fn x = true ∨ X.env.scope.names.lookup x = some .local := by first | exact .inl rfl | exact .inr rfl)
    (hs : (assignEach (.Name x p :: es) X.env).map (·.2) = assign (.Name x p) X.env :: (assignEach es X.env).map (·.2) := by rfl) : GNs X (.Name x p :: es) (i :: is) := by
  obtain ⟨g, hg, hq⟩ := k
  refine ⟨_, pgs_cons (pg_name hN hi hx hf) hg hs, fun vs σ H Q h q => ?_⟩
  cases vs with
  | nil => simp at h
  | cons v vs =>
    refine ⟨v, vs, rfl, hq vs _ H Q (by simpa using h) fun σ' hσ => q σ' fun K Hs ρ ds s r => ?_⟩
    cases ds with
    | nil => simp only [RA] at r; cases r
    | cons d ds =>
      simp only [RA] at r
      obtain ⟨v', r', e1, e2, e3⟩ := r
      cases e1
      exact hσ K Hs _ ds (s.set e2) e3
theorem dg_tup {es : List Expr} {kk : Nat} {is : List Nat} (hc : X.calm = true) (h : GNs X es is) (hn : (assignEach es X.env).length = is.length := by rfl) (hst : (assignEach es X.env).findIdx? (·.1) = none := by rfl) : DGt X (.Tuple es kk pos) (dGTup is) := by
  obtain ⟨g, hg, hq⟩ := h
  refine pg_weak (pg_tup hc hg hn hst) fun v σ H Q q => ?_
  obtain ⟨ρ, S, d, P, rfl, s, r, rd, t, w⟩ := q
  cases d with
  | tup ds =>
    simp only [R] at rd
    obtain ⟨a, vs, rfl, e1, e2⟩ := rd
    obtain ⟨hl, t⟩ := t
    have hl2 : vs.length = is.length := by rw [e2.len]; exact hl
    refine ⟨a, vs, rfl, SqT.of (r.le _ _ e1), hl2, hq vs σ _ Q hl2 fun σ' hσ => ?_⟩
    exact w _ σ' S (.refl r) (hσ X.K S.hs ρ ds s e2) t
  | _ => exact t.elim
/-- target = value -/
def dAsg (te : DT) (g : DG) : DS := fun D ρ C => te ρ C fun d C1 => g d ρ C1 D.nx
theorem lift_asg {K : PySem.W.Frag} {te : DT} {g : DG} {E : Ends} {σ : St} {H : Hp} (q : liftS K (dAsg te g) E σ H) : tAsg (liftE K te) (liftG K g) E σ H := by
  obtain ⟨ρ, S, D, rfl, s, r, t, w⟩ := q
  exact ⟨ρ, S, _, rfl, s, r, t, fun v d S1 e1 rd t1 => ⟨ρ, S1, d, _, rfl, s.ext e1.ext, e1.ok, rd, t1, w.nx.st e1⟩⟩
theorem ds_asg {tg e : Expr} {te : DT} {g : DG} (he : DE X e te) (hg : DGt X tg g) (hs : swapsWithSole [tg] e pos.line X.env = pure false := by rfl) (hw : swappedStores [tg] e X.env = pure none := by rfl)
    (h1 : (assignEach [tg] X.env).map (·.2) = [assign tg X.env] := by rfl) : DSt X (.Assign [tg] e pos) (dAsg te g) :=
  ps_weak (ps_asg he hg hs hw h1) fun E σ H q => lift_asg q
theorem ds_set {i : Nat} {x : Str} {e : Expr} {te : DT} {pos' : Pos} (hN : X.N.Nodup) (he : DE X e te) (hi : X.N[i]? = some x := by rfl) (hx : Loc X.env.scope x := by first | exact Or.inl rfl | exact Or.inr rfl) (hs : swapsWith e (some (.Name x pos')) pos.line X.env = pure false := by rfl) (hf : X.fn x = true ∨ X.env.scope.names.lookup x = some .local := by first | exact .inl rfl | exact .inr rfl) :
    DSt X (.Assign [.Name x pos'] e pos) (dAsg te (dName i)) := by
  refine ps_weak (ps_set hN hi hx he hs hf) fun E σ H q => ?_
  obtain ⟨ρ, S, D, rfl, s, r, t, w⟩ := q
  exact ⟨ρ, S, _, rfl, s, r, t, fun v d S1 e1 rd t1 => w.nx _ _ S1 e1 ((s.ext e1.ext).set rd) t1⟩
/-- a, b = x, y with plain local names -/
def dPar (is : List Nat) (ta : DA) : DS := fun D ρ C => ta ρ C fun ds C1 => ds.length = is.length ∧ D.nx (dSets is ds ρ) C1
theorem ds_par {i j : Nat} {x y : Str} {a b : Expr} {ta : DA} {px py pt : Pos} {kt k2 pt2} (hc : X.calm = true) (hN : X.N.Nodup) (ha : DAs X [a, b] ta) (hij : i ≠ j := by decide) (hi : X.N[i]? = some x := by rfl) (hj : X.N[j]? = some y := by rfl)
    (hx : X.env.scope.names.lookup x = some .local := by rfl) (hy : X.env.scope.names.lookup y = some .local := by rfl)
    (hw : swappedStores [.Tuple [.Name x px, .Name y py] kt pt] (.Tuple [a, b] k2 pt2) X.env = pure (some [x, y]) := by rfl)
    (hs : swapsWithSole [.Tuple [.Name x px, .Name y py] kt pt] (.Tuple [a, b] k2 pt2) pos.line X.env = pure false := by rfl) :
    DSt X (.Assign [.Tuple [.Name x px, .Name y py] kt pt] (.Tuple [a, b] k2 pt2) pos) (dPar [i, j] ta) := by
  refine ps_weak (ps_par hc hN hi hj hij hx hy ha hw hs) fun E σ H q => ?_
  obtain ⟨ρ, S, D, rfl, s, r, t, w⟩ := q
  refine ⟨ρ, S, _, rfl, s, r, t, fun vs ds S1 e1 rs t1 => ?_⟩
  obtain ⟨hl, t1⟩ := t1
  match ds, hl, rs, t1 with
  | [d, e], _, rs, t1 =>
    simp only [RA] at rs
    obtain ⟨v, _, rfl, r1, u, _, rfl, r2, rfl⟩ := rs
    exact ⟨v, u, rfl, w.nx _ _ S1 e1 (((s.ext e1.ext).set r1).set r2) t1⟩
end
end DL

set_option Elab.async false
set_option linter.all false
set_option maxRecDepth 100000
set_option maxHeartbeats 4000000
namespace DL
open PySem L2

/-! ### what a cell holds, seen as data -/
def vw (C : Cells) : D → D
  | .cell a => match C a with
    | some (.lst ds) => .lst ds
    | some (.dic k) => .dic k
    | some (.ins c f) => .ins c f
    | _ => .cell a
  | d => d
section
variable {K : PySem.W.Frag} {S : W} {x : D} {v : V}
theorem vw_lst {ds : List D} (r : Ok K S) (h : R K S.hs x v) (e : vw S.c x = .lst ds) : ∃ a vs, v = .ref a ∧ S.h a = some (.lst vs) ∧ RA K S.hs ds vs := by
  cases x with
  | cell a =>
    simp only [vw] at e
    split at e
    · rename_i ds' q
      cases e
      obtain ⟨_, vs, q1, q2⟩ := r.cell a _ q
      simp only [R] at h
      exact ⟨a, vs, h, q1, q2⟩
    all_goals cases e
  | lst ds' =>
    cases e
    simp only [R] at h
    obtain ⟨a, vs, h1, h2, h3⟩ := h
    exact ⟨a, vs, h1, r.le _ _ h2, h3⟩
  | _ => cases e
theorem vw_tup {ds : List D} (r : Ok K S) (h : R K S.hs x v) (e : vw S.c x = .tup ds) : ∃ a vs, v = .ref a ∧ S.h a = some (.tup vs) ∧ RA K S.hs ds vs := by
  cases x with
  | cell a =>
    simp only [vw] at e
    split at e <;> cases e
  | tup ds' =>
    cases e
    simp only [R] at h
    obtain ⟨a, vs, h1, h2, h3⟩ := h
    exact ⟨a, vs, h1, r.le _ _ h2, h3⟩
  | _ => cases e
theorem vw_dic {ds : List (Key × D)} (r : Ok K S) (h : R K S.hs x v) (e : vw S.c x = .dic ds) : ∃ a o kvs, v = .ref a ∧ S.h a = some o ∧ core o = .dK kvs ∧ RK K S.hs ds kvs := by
  cases x with
  | cell a =>
    simp only [vw] at e
    split at e
    · cases e
    · rename_i ds' q
      cases e
      obtain ⟨_, vs, q1, q2⟩ := r.cell a _ q
      simp only [R] at h
      exact ⟨a, _, vs, h, q1, rfl, q2⟩
    all_goals cases e
  | dic ds' =>
    cases e
    simp only [R] at h
    obtain ⟨a, o, vs, h1, h2, h3, h4⟩ := h
    exact ⟨a, o, vs, h1, r.le _ _ h2, h3, h4⟩
  | _ => cases e
theorem vw_ins {c : Addr} {fds : List (Str × D)} (r : Ok K S) (h : R K S.hs x v) (e : vw S.c x = .ins c fds) : ∃ a dx fs, v = .ref a ∧ S.h a = some (.ins c dx fs) ∧ RF K S.hs fds fs := by
  cases x with
  | cell a =>
    simp only [vw] at e
    split at e
    · cases e
    · cases e
    · rename_i c' f' q
      cases e
      obtain ⟨_, dx, vs, q1, q2⟩ := r.cell a _ q
      simp only [R] at h
      exact ⟨a, dx, vs, h, q1, q2⟩
    · cases e
  | ins c' f' =>
    cases e
    simp only [R] at h
    obtain ⟨a, dx, vs, h1, h2, h3⟩ := h
    exact ⟨a, dx, vs, h1, r.le _ _ h2, h3⟩
  | _ => cases e
theorem rd_core {H : Hp} {a : Addr} {o : HO} {kvs : List (Key × V)} (h : H a = some o) (c : core o = .dK kvs) : Rd H a (.dK kvs) := by
  cases o with
  | frz ob u =>
    cases u <;> simp [core] at c
    subst c
    exact .inr ⟨ob, h⟩
  | dK k => simp [core] at c; subst c; exact .inl h
  | _ => simp [core] at c
end

/-! ### numbers -/
section
variable {K : PySem.W.Frag} {X : Cx}
/-- two ints -/
def dI2 (g : Int → Int → (D → Prop) → Prop) : D2 := fun x y C P => match x, y with
  | .int i, .int j => g i j fun d => P d C
  | _, _ => False
theorem ops_I {Cc : Int → Int → Prop} {g : Int → Int → Int} : OpS K (rI Cc fun i j => .int (g i j)) (dI2 fun i j k => Cc i j ∧ k (.int (g i j))) := by
  intro x y v u S P Q ok rx ry t w
  unfold dI2 at t
  split at t
  · simp only [R] at rx ry
    exact ⟨_, _, rx, ry, t.1, w _ _ S (.refl ok) R_int t.2⟩
  · exact t.elim
theorem ops_I0 {g : Int → Int → Int} : OpS K (rI0 fun i j => .int (g i j)) (dI2 fun i j k => k (.int (g i j))) := by
  intro x y v u S P Q ok rx ry t w
  unfold dI2 at t
  split at t
  · simp only [R] at rx ry
    exact ⟨_, _, rx, ry, w _ _ S (.refl ok) R_int t⟩
  · exact t.elim
theorem ops_B0 {g : Int → Int → Bool} : OpS K (rI0 fun i j => .bl (g i j)) (dI2 fun i j k => k (.bl (g i j))) := by
  intro x y v u S P Q ok rx ry t w
  unfold dI2 at t
  split at t
  · simp only [R] at rx ry
    exact ⟨_, _, rx, ry, w _ _ S (.refl ok) R_bl t⟩
  · exact t.elim
def dSub := dI2 fun i j k => k (.int (i - j))
def dMul := dI2 fun i j k => CMulW i j ∧ k (.int (i * j))
def dFdiv := dI2 fun i j k => CDivW i j ∧ k (.int (i / j))
def dMod := dI2 fun i j k => 0 < j ∧ k (.int (i % j))
def CPowW (i j : Int) : Prop := 0 ≤ j ∧ (Builtin.Int.intBits i : Int) * j ≤ 2 ^ 27
def dPow := dI2 fun i j k => CPowW i j ∧ k (.int (i ^ j.toNat))
theorem op_powW : OpR X (binaryOp .Pow) (rI CPowW fun i j => .int (i ^ j.toNat)) := opI fun _ _ _ _ _ _ _ hc q => PyProof.Rows.pow_int hc.1 hc.2 q
def dLt := dI2 fun i j k => k (.bl (decide (i < j)))
def dLe := dI2 fun i j k => k (.bl (decide (i ≤ j)))
def dGt := dI2 fun i j k => k (.bl (decide (j < i)))
def dGe := dI2 fun i j k => k (.bl (decide (j ≤ i)))
/-! ### + -/
def rAddA (K : PySem.W.Frag) : R2 := fun x y H Q => (∃ i j, x = .int i ∧ y = .int j ∧ Q (.int (i + j)) H) ∨ (∃ i j, x = .str i ∧ y = .str j ∧ i.length + j.length ≤ sizeLine ∧ Q (.str (i ++ j)) H) ∨
  (∃ l b xs zs, x = .ref l ∧ y = .ref b ∧ H l = some (.lst xs) ∧ H b = some (.lst zs) ∧ xs.length + zs.length ≤ sizeLine ∧ ∀ p, H p = none → Q (.ref p) (upd H p (.lst (xs ++ zs)))) ∨ rCatT K x y H Q
theorem op_addA : OpR X (binaryOp .Add) (rAddA X.K) := op_add.or (op_add_str.or (OpR.or (r := rCat) op_cat op_catT))
def dAdd : D2 := fun x y C P => match vw C x, vw C y with
  | .int i, .int j => P (.int (i + j)) C
  | .str s, .str t => s.length + t.length ≤ 1000000 ∧ P (.str (s ++ t)) C
  | .lst xs, .lst ys => xs.length + ys.length ≤ 1000000 ∧ P (.lst (xs ++ ys)) C
  | .tup xs, .tup ys => xs ≠ [] ∧ ys ≠ [] ∧ xs.length + ys.length ≤ 1000000 ∧ P (.tup (xs ++ ys)) C
  | _, _ => False
theorem vw_int {C : Cells} {x : D} {i : Int} (e : vw C x = .int i) : x = .int i := by
  cases x with
  | cell a =>
    simp only [vw] at e
    split at e <;> cases e
  | _ => exact e
theorem vw_str {C : Cells} {x : D} {i : Str} (e : vw C x = .str i) : x = .str i := by
  cases x with
  | cell a =>
    simp only [vw] at e
    split at e <;> cases e
  | _ => exact e
theorem ops_add : OpS K (rAddA K) dAdd := by
  intro x y v u S P Q ok rx ry t w
  unfold dAdd at t
  split at t
  · rename_i i j e1 e2
    rw [vw_int e1] at rx; rw [vw_int e2] at ry
    simp only [R] at rx ry
    exact .inl ⟨i, j, rx, ry, w _ _ S (.refl ok) R_int t⟩
  · rename_i i j e1 e2
    rw [vw_str e1] at rx; rw [vw_str e2] at ry
    simp only [R] at rx ry
    exact .inr (.inl ⟨i, j, rx, ry, mil t.1, w _ _ S (.refl ok) R_str t.2⟩)
  · rename_i xs ys e1 e2
    obtain ⟨a, vs, rfl, h1, h2⟩ := vw_lst ok rx e1
    obtain ⟨b, us, rfl, k1, k2⟩ := vw_lst ok ry e2
    refine .inr (.inr (.inl ⟨a, b, vs, us, rfl, rfl, h1, k1, by rw [h2.len, k2.len]; exact mil t.1, fun p hp => ?_⟩))
    have st := ok.new (o := .lst (vs ++ us)) hp
    exact w _ (.lst (xs ++ ys)) _ st (by simp only [R]; exact ⟨p, _, rfl, upd_same, RA.ext st.ext _ _ (h2.append k2)⟩) t.2
  · rename_i xs ys e1 e2
    obtain ⟨a, vs, rfl, h1, h2⟩ := vw_tup ok rx e1
    obtain ⟨b, us, rfl, k1, k2⟩ := vw_tup ok ry e2
    obtain ⟨n1, n2, z, t⟩ := t
    refine .inr (.inr (.inr ⟨a, b, vs, us, rfl, rfl, SqT.of h1, SqT.of k1, fun q => n1 ?_, by rw [h2.len, k2.len]; exact mil z, ?_⟩))
    · have := h2.len; rw [q] at this; exact List.eq_nil_of_length_eq_zero this.symm
    · have hu : us ≠ [] := fun q => n2 (by have := k2.len; rw [q] at this; exact List.eq_nil_of_length_eq_zero this.symm)
      have fin : ∀ p, S.h p = none → Q (.ref p) (upd S.h p (.tup (vs ++ us))) := fun p hp => by
        have st := ok.new (o := .tup (vs ++ us)) hp
        exact w _ (.tup (xs ++ ys)) _ st (by simp only [R]; exact ⟨p, _, rfl, upd_same, RA.ext st.ext _ _ (h2.append k2)⟩) t
      first | (rw [if_neg hu]; exact fin) | exact ⟨fun q => absurd q hu, fun _ => fin⟩ | exact .inr ⟨hu, fin⟩ | exact fin
  · exact t.elim
end
end DL

set_option Elab.async false
set_option linter.all false
set_option maxRecDepth 100000
set_option maxHeartbeats 4000000
namespace DL
open PySem L2

def opt {α : Type} (o : Option α) (k : α → Prop) : Prop := match o with
  | some a => k a
  | none => False
theorem opt_some {α : Type} {a : α} {k : α → Prop} : opt (some a) k = k a := rfl
theorem opt_of {α : Type} {o : Option α} {k : α → Prop} (h : opt o k) : ∃ a, o = some a ∧ k a := by
  cases o with
  | none => exact h.elim
  | some a => exact ⟨a, rfl, h⟩

/-! ### data as the library tells it -/
mutual
def toPy : D → PyData
  | .bl b => .bool b
  | .int i => .int i
  | .str x => .str x
  | .lst ds => .list (toPys ds)
  | .tup ds => .tuple (toPys ds)
  | _ => .none
def toPys : List D → List PyData
  | [] => []
  | d :: ds => toPy d :: toPys ds
end
mutual
def isPy : D → Bool
  | .non => true
  | .bl _ => true
  | .int _ => true
  | .str _ => true
  | .lst ds => isPys ds
  | .tup ds => isPys ds
  | _ => false
def isPys : List D → Bool
  | [] => true
  | d :: ds => isPy d && isPys ds
end
section
variable {K : PySem.W.Frag} {Hs H : Hp}
mutual
theorem dp_of (le : ∀ a o, Hs a = some o → H a = some o) : ∀ (d : D) (v : V), isPy d = true → R K Hs d v → Dp K H v (toPy d)
  | .non, v, _, h => by simp only [R] at h; subst h; exact .non
  | .bl b, v, _, h => by simp only [R] at h; subst h; exact .bl b
  | .int i, v, _, h => by simp only [R] at h; subst h; exact .int i
  | .str x, v, _, h => by simp only [R] at h; subst h; exact .str x
  | .lst ds, v, p, h => by
    simp only [R] at h
    obtain ⟨a, vs, rfl, h2, h3⟩ := h
    exact .lst (SqL.of (le _ _ h2)) (dps_of le ds vs (by simpa [isPy] using p) h3)
  | .tup ds, v, p, h => by
    simp only [R] at h
    obtain ⟨a, vs, rfl, h2, h3⟩ := h
    exact .tup (SqT.of (le _ _ h2)) (dps_of le ds vs (by simpa [isPy] using p) h3)
  | .dic _, _, p, _ => by simp [isPy] at p
  | .ins _ _, _, p, _ => by simp [isPy] at p
  | .cell _, _, p, _ => by simp [isPy] at p
  | .fro _, _, p, _ => by simp [isPy] at p
  | .val _, _, p, _ => by simp [isPy] at p
theorem dps_of (le : ∀ a o, Hs a = some o → H a = some o) : ∀ (ds : List D) (vs : List V), isPys ds = true → RA K Hs ds vs → DpAll K H vs (toPys ds)
  | [], vs, _, h => by simp only [RA] at h; subst h; exact .nil
  | d :: ds, vs, p, h => by
    simp only [RA] at h
    obtain ⟨v, r, rfl, h2, h3⟩ := h
    simp only [isPys, Bool.and_eq_true] at p
    exact .cons (dp_of le d v p.1 h2) (dps_of le ds r p.2 h3)
end
/-- .. with a cell's content -/
theorem dp_vw {S : W} (ok : Ok K S) {x : D} {v : V} (p : isPy (vw S.c x) = true) (h : R K S.hs x v) : Dp K S.h v (toPy (vw S.c x)) := by
  cases e : vw S.c x with
  | lst ds =>
    obtain ⟨a, vs, rfl, h1, h2⟩ := vw_lst ok h e
    rw [e] at p
    exact .lst (SqL.of h1) (dps_of ok.le ds vs (by simpa [isPy] using p) h2)
  | tup ds =>
    obtain ⟨a, vs, rfl, h1, h2⟩ := vw_tup ok h e
    rw [e] at p
    exact .tup (SqT.of h1) (dps_of ok.le ds vs (by simpa [isPy] using p) h2)
  | cell a => rw [e] at p; simp [isPy] at p
  | dic a => rw [e] at p; simp [isPy] at p
  | ins a b => rw [e] at p; simp [isPy] at p
  | fro a => rw [e] at p; simp [isPy] at p
  | val a => rw [e] at p; simp [isPy] at p
  | _ =>
    cases x with
    | cell b =>
      simp only [vw] at e
      split at e <;> cases e
    | _ =>
      have e' := e
      simp only [vw] at e'
      cases e' <;> exact dp_of ok.le _ v rfl h
end
/-! ### == -/
section
variable {K : PySem.W.Frag} {X : Cx}
def eqD (x y : D) : Bool := PyData.eqv (toPy x) (toPy y)
def okD (x : D) : Prop := isPy x = true ∧ SeqAt.shaped (toPy x) = true
def dEqN (neg : Bool) : D2 := fun x y C P => match x, y with
  | .str a, .str b => P (.bl (if neg then !decide (a = b) else decide (a = b))) C
  | .int a, .int b => P (.bl (if neg then !decide (a = b) else decide (a = b))) C
  | .bl a, .bl b => P (.bl (if neg then !decide (a = b) else decide (a = b))) C
  | x, y => okD (vw C x) ∧ okD (vw C y) ∧ P (.bl (if neg then !eqD (vw C x) (vw C y) else eqD (vw C x) (vw C y))) C
abbrev dEq := dEqN false
abbrev dNe := dEqN true
theorem ops_eq : OpS K (fun x y H Q => rEq x y H Q ∨ rEqD K x y H Q) dEq := by
  intro x y v u S P Q ok rx ry t w
  unfold dEq dEqN at t
  split at t
  · simp only [R] at rx ry; subst rx ry
    exact .inl ⟨rfl, w _ _ S (.refl ok) R_bl (by simpa using t)⟩
  · simp only [R] at rx ry; subst rx ry
    exact .inl ⟨rfl, w _ _ S (.refl ok) R_bl (by simpa using t)⟩
  · simp only [R] at rx ry; subst rx ry
    exact .inl ⟨rfl, w _ _ S (.refl ok) R_bl (by simpa using t)⟩
  · obtain ⟨⟨p1, s1⟩, ⟨p2, s2⟩, t⟩ := t
    exact .inr ⟨_, _, dp_vw ok p1 rx, dp_vw ok p2 ry, s1, s2, w _ _ S (.refl ok) R_bl (by simpa [eqD] using t)⟩
theorem ops_ne : OpS K (fun x y H Q => rNe x y H Q ∨ rNeD K x y H Q) dNe := by
  intro x y v u S P Q ok rx ry t w
  unfold dNe dEqN at t
  split at t
  · simp only [R] at rx ry; subst rx ry
    exact .inl ⟨rfl, w _ _ S (.refl ok) R_bl (by simpa using t)⟩
  · simp only [R] at rx ry; subst rx ry
    exact .inl ⟨rfl, w _ _ S (.refl ok) R_bl (by simpa using t)⟩
  · simp only [R] at rx ry; subst rx ry
    exact .inl ⟨rfl, w _ _ S (.refl ok) R_bl (by simpa using t)⟩
  · obtain ⟨⟨p1, s1⟩, ⟨p2, s2⟩, t⟩ := t
    exact .inr ⟨_, _, dp_vw ok p1 rx, dp_vw ok p2 ry, s1, s2, w _ _ S (.refl ok) R_bl (by simpa [eqD] using t)⟩
theorem op_eqA (hu : X.A.units + 64 < cLine) : OpR X (compareOp .Eq) (fun x y H Q => rEq x y H Q ∨ rEqD X.K x y H Q) := op_eq.or (op_eqD hu)
theorem op_neA (hu : X.A.units + 64 < cLine) : OpR X (compareOp .NotEq) (fun x y H Q => rNe x y H Q ∨ rNeD X.K x y H Q) := op_ne.or (op_neD hu)
/-- is None -/
def isN : D → Bool
  | .non => true
  | _ => false
def dIsN (neg : Bool) : D2 := fun x y C P => match y with
  | .non => (match x with | .val _ => False | _ => P (.bl (if neg then !isN x else isN x)) C)
  | _ => False
theorem isN_R {Hs : Hp} {x : D} {v : V} (h : R K Hs x v) (n : ∀ u, x ≠ .val u) : decide (v = .non) = isN x := by
  cases x with
  | non => simp only [R] at h; subst h; rfl
  | val u => exact absurd rfl (n u)
  | bl b => simp only [R] at h; subst h; rfl
  | int b => simp only [R] at h; subst h; rfl
  | str b => simp only [R] at h; subst h; rfl
  | cell b => simp only [R] at h; subst h; rfl
  | lst b => simp only [R] at h; obtain ⟨a, vs, rfl, _⟩ := h; rfl
  | tup b => simp only [R] at h; obtain ⟨a, vs, rfl, _⟩ := h; rfl
  | fro b => simp only [R] at h; obtain ⟨a, vs, rfl, _⟩ := h; rfl
  | dic b => simp only [R] at h; obtain ⟨a, o, vs, rfl, _⟩ := h; rfl
  | ins b c => simp only [R] at h; obtain ⟨a, o, vs, rfl, _⟩ := h; rfl
theorem ops_isN : OpS K (fun x y H Q => y = .non ∧ Q (.bl (decide (x = .non))) H) (dIsN false) := by
  intro x y v u S P Q ok rx ry t w
  unfold dIsN at t
  split at t
  · simp only [R] at ry
    refine ⟨ry, ?_⟩
    split at t
    · exact t.elim
    · rename_i n
      rw [isN_R rx n]
      exact w _ _ S (.refl ok) R_bl (by simpa using t)
  · exact t.elim
theorem ops_notN : OpS K (fun x y H Q => y = .non ∧ Q (.bl (!decide (x = .non))) H) (dIsN true) := by
  intro x y v u S P Q ok rx ry t w
  unfold dIsN at t
  split at t
  · simp only [R] at ry
    refine ⟨ry, ?_⟩
    split at t
    · exact t.elim
    · rename_i n
      rw [isN_R rx n]
      exact w _ _ S (.refl ok) R_bl (by simpa using t)
  · exact t.elim
/-! ### in -/
def flatD : D → Bool
  | .int _ => true
  | .str _ => true
  | _ => false
def eqF : D → D → Bool
  | .int a, .int b => a == b
  | .str a, .str b => a == b
  | _, _ => false
def inD (x : D) (ds : List D) : Bool := ds.any fun y => eqF y x
theorem flat_R {Hs : Hp} {x : D} {v : V} (h : R K Hs x v) (f : flatD x = true) : flatV v = true := by
  cases x <;> simp [flatD] at f <;> (simp only [R] at h; subst h; rfl)
theorem eqF_R {Hs : Hp} {x y : D} {v u : V} (h : R K Hs x v) (k : R K Hs y u) (f : flatD x = true) (g : flatD y = true) : eqV v u = eqF x y := by
  cases x <;> simp [flatD] at f <;> cases y <;> simp [flatD] at g <;> (simp only [R] at h k; subst h k; rfl)
theorem in_R {Hs : Hp} {x : D} {v : V} (h : R K Hs x v) (f : flatD x = true) : ∀ {ds : List D} {vs : List V}, RA K Hs ds vs → ds.all flatD = true → vs.all flatV = true ∧ inV v vs = inD x ds
  | [], vs, r, _ => by simp only [RA] at r; subst r; exact ⟨rfl, rfl⟩
  | d :: ds, vs, r, a => by
    simp only [RA] at r
    obtain ⟨u, s, rfl, r1, r2⟩ := r
    simp only [List.all_cons, Bool.and_eq_true] at a
    obtain ⟨h1, h2⟩ := in_R h f r2 a.2
    refine ⟨by simp [flat_R r1 a.1, h1], ?_⟩
    show (eqV u v || inV v s) = (eqF d x || inD x ds)
    rw [h2, eqF_R r1 h a.1 f]
def subS (a z : Str) : Bool := !(Builtin.Str.occurrences z a 0 z.length 1).isEmpty
def rInA (K : PySem.W.Frag) (neg : Bool) : R2 := fun x y H Q => rIn K neg x y H Q ∨ ∃ i j, x = .str i ∧ y = .str j ∧ Q (.bl (if neg then !subS i j else subS i j)) H
def dInN (neg : Bool) : D2 := fun x y C P => match vw C y with
  | .lst ds => flatD x = true ∧ ds.all flatD = true ∧ P (.bl (if neg then !inD x ds else inD x ds)) C
  | .tup ds => flatD x = true ∧ ds.all flatD = true ∧ P (.bl (if neg then !inD x ds else inD x ds)) C
  | .str z => (match x with | .str a => P (.bl (if neg then !subS a z else subS a z)) C | _ => False)
  | _ => False
theorem op_inA : OpR X (compareOp .In) (rInA X.K false) := by
  intro pins s σ H x y v u Q I rx ry h
  rcases h with h | ⟨i, j, e1, e2, h⟩
  · exact op_in_seq pins s σ H x y v u Q I rx ry h
  · exact op_in_str pins s σ H x y v u Q I rx ry ⟨i, j, e1, e2, by simpa [subS] using h⟩
theorem op_notInA : OpR X (compareOp .NotIn) (rInA X.K true) := by
  intro pins s σ H x y v u Q I rx ry h
  rcases h with h | ⟨i, j, e1, e2, h⟩
  · exact op_notIn_seq pins s σ H x y v u Q I rx ry h
  · exact op_notIn_str pins s σ H x y v u Q I rx ry ⟨i, j, e1, e2, by simpa [subS] using h⟩
theorem ops_in {neg : Bool} : OpS K (rInA K neg) (dInN neg) := by
  intro x y v u S P Q ok rx ry t w
  unfold dInN at t
  split at t
  · rename_i ds e
    obtain ⟨a, vs, rfl, h1, h2⟩ := vw_lst ok ry e
    obtain ⟨f, g, t⟩ := t
    obtain ⟨k1, k2⟩ := in_R rx f h2 g
    exact .inl ⟨a, vs, rfl, .inl (SqL.of h1), flat_R rx f, k1, by rw [k2]; exact w _ _ S (.refl ok) R_bl t⟩
  · rename_i ds e
    obtain ⟨a, vs, rfl, h1, h2⟩ := vw_tup ok ry e
    obtain ⟨f, g, t⟩ := t
    obtain ⟨k1, k2⟩ := in_R rx f h2 g
    exact .inl ⟨a, vs, rfl, .inr (SqT.of h1), flat_R rx f, k1, by rw [k2]; exact w _ _ S (.refl ok) R_bl t⟩
  · rename_i z e
    rw [vw_str e] at ry
    split at t
    · simp only [R] at rx ry
      exact .inr ⟨_, _, rx, ry, w _ _ S (.refl ok) R_bl t⟩
    · exact t.elim
  · exact t.elim
theorem subS_one (c : Nat) (z : Str) : subS ⟨#[c]⟩ z = decide (c ∈ z.cps.toList) := PySem.StrLaws.found_one z c
end

/-! ### items, slices -/
section
variable {K : PySem.W.Frag} {X : Cx}
theorem atI_R {Hs : Hp} {ds : List D} {vs : List V} {i : Int} {d : D} (r : RA K Hs ds vs) (h : atI ds i = some d) : ∃ v, atI vs i = some v ∧ R K Hs d v := by
  unfold atI at h ⊢
  rw [r.len]
  cases e : ixN ds.length i with
  | none => rw [e] at h; cases h
  | some j =>
    rw [e] at h
    exact r.get (i := j) h
theorem atI_0 {α : Type} (xs : List α) : atI xs 0 = xs[0]? := by
  unfold atI ixN
  cases xs with
  | nil => simp
  | cons x r => simp
theorem atI_nat' {α : Type} (xs : List α) (k : Nat) : atI xs (k : Int) = xs[k]? := by
  unfold atI ixN
  by_cases h : k < xs.length
  · simp [h]
  · simp [h, List.getElem?_eq_none (Nat.le_of_not_lt h)]
theorem atI_1 {α : Type} (xs : List α) : atI xs 1 = xs[1]? := atI_nat' xs 1
theorem atI_2 {α : Type} (xs : List α) : atI xs 2 = xs[2]? := atI_nat' xs 2
theorem atI_3 {α : Type} (xs : List α) : atI xs 3 = xs[3]? := atI_nat' xs 3
theorem atI_m1 {α : Type} (xs : List α) : atI xs (-1) = xs.getLast? := by
  unfold atI ixN
  cases xs with
  | nil => simp
  | cons x r =>
    have h1 : ¬ ((0 : Int) ≤ -1) := by omega
    have h2 : -(((x :: r).length : Nat) : Int) ≤ -1 := by simp only [List.length_cons]; omega
    rw [if_neg h1, if_pos h2]
    have h3 : (-1 + (((x :: r).length : Nat) : Int)).toNat = (x :: r).length - 1 := by simp only [List.length_cons]; omega
    rw [h3, List.getLast?_eq_getElem?]
    rfl
def dIx : D2 := fun x y C P => match vw C x, y with
  | .lst ds, .int i => opt (atI ds i) fun d => P d C
  | .tup ds, .int i => opt (atI ds i) fun d => P d C
  | .str z, .int i => z.length ≤ 1000000 ∧ opt (atI z.cps.toList i) fun c => P (.str ⟨#[c]⟩) C
  | _, _ => False
theorem ops_ix : OpS K (rIx K) dIx := by
  intro x y v u S P Q ok rx ry t w
  unfold dIx at t
  split at t
  · rename_i ds i e
    simp only [R] at ry
    obtain ⟨a, vs, rfl, h1, h2⟩ := vw_lst ok rx e
    obtain ⟨d, q, t⟩ := opt_of t
    obtain ⟨z, k1, k2⟩ := atI_R h2 q
    exact .inl ⟨a, vs, i, z, rfl, ry, SqL.of h1, k1, w _ d S (.refl ok) k2 t⟩
  · rename_i ds i e
    simp only [R] at ry
    obtain ⟨a, vs, rfl, h1, h2⟩ := vw_tup ok rx e
    obtain ⟨d, q, t⟩ := opt_of t
    obtain ⟨z, k1, k2⟩ := atI_R h2 q
    exact .inr (.inl ⟨a, vs, i, z, rfl, ry, SqT.of h1, k1, w _ d S (.refl ok) k2 t⟩)
  · rename_i z i e
    rw [vw_str e] at rx
    simp only [R] at rx ry
    obtain ⟨hz, t⟩ := t
    obtain ⟨c, q, t⟩ := opt_of t
    exact .inr (.inr ⟨z, i, c, rx, ry, mil hz, q, w _ _ S (.refl ok) R_str t⟩)
  · exact t.elim
theorem de_ix {a b : Expr} {ta tb : DT} {pos : Pos} (ha : DE X a ta) (hb : DE X b tb) (hs : PlainIx b := by exact fun _ _ => rfl) : DE X (.Subscript a b pos) (dOp dIx ta tb) :=
  pe_weak (pe_ix ix_seq ha hb hs) fun σ H Q h => lift_op ops_ix h
/-- an optional part of a slice -/
abbrev DO := Env → Cells → (Option Int → Cells → Prop) → Prop
def WishO (K : PySem.W.Frag) (S : W) (P : Option Int → Cells → Prop) (Q : Option Int → Hp → Prop) : Prop := ∀ o S', Step K S S' → P o S'.c → Q o S'.h
def liftO (K : PySem.W.Frag) (t : DO) : TO := fun σ H Q => ∃ ρ S P, S.h = H ∧ Sl K S.hs σ ρ ∧ Ok K S ∧ t ρ S.c P ∧ WishO K S P Q
def DPO (X : Cx) (e : Option Expr) (t : DO) : Prop := PO X e (liftO X.K t)
def dNoP : DO := fun _ C P => P none C
def dPart (t : DT) : DO := fun ρ C P => t ρ C fun d C1 => match d with
  | .int i => P (some i) C1
  | _ => False
theorem po_weak {e : Option Expr} {t t' : TO} (h : PO X e t) (w : ∀ σ H Q, t' σ H Q → t σ H Q) : PO X e t' := ⟨fun pins s σ H Q I q => h.run pins s σ H Q I (w σ H Q q)⟩
theorem dp_none : DPO X none dNoP := po_weak po_none fun σ H Q h => by
  obtain ⟨ρ, S, P, rfl, s, r, t, w⟩ := h
  exact w none S (.refl r) t
theorem dp_some {e : Expr} {t : DT} (h : DE X e t) : DPO X (some e) (dPart t) := po_weak (po_some h) fun σ H Q h => by
  obtain ⟨ρ, S, P, rfl, s, r, t, w⟩ := h
  refine ⟨ρ, S, _, rfl, s, r, t, fun v d S1 e1 rd t1 => ?_⟩
  cases d with
  | int i => exact ⟨i, by simpa [R] using rd, w (some i) S1 e1 t1⟩
  | _ => exact t1.elim
def cutD {α : Type} (xs : List α) (lo hi : Option Int) : List α := (xs.drop (HT.sIx xs.length 0 lo)).take (HT.sIx xs.length xs.length hi - HT.sIx xs.length 0 lo)
theorem cut_R {Hs : Hp} {ds : List D} {vs : List V} (r : RA K Hs ds vs) (lo hi : Option Int) : RA K Hs (cutD ds lo hi) (cutV vs lo hi) := by
  unfold cutD cutV
  rw [r.len]
  exact (r.drop _).take _
def dSl (t : DT) (lo hi : DO) : DT := fun ρ C P => t ρ C fun x C1 => lo ρ C1 fun l C2 => hi ρ C2 fun h C3 => match vw C3 x with
  | .lst ds => P (.lst (cutD ds l h)) C3
  | .fro ds => P (.lst (cutD ds l h)) C3
  | .tup ds => ¬ (HT.sIx ds.length 0 l = 0 ∧ HT.sIx ds.length ds.length h = ds.length) ∧ P (.tup (cutD ds l h)) C3
  | .str z => z.length ≤ 1000000 ∧ P (.str (cutS z l h)) C3
  | _ => False
def rSlA (K : PySem.W.Frag) : V → Option Int → Option Int → Hp → VK → Prop := fun x lo hi H Q => rSlL K x lo hi H Q ∨ rSlT K x lo hi H Q ∨ rSlS x lo hi H Q
theorem sl_all : SlR X (rSlA X.K) := sl_list.or (sl_tup.or sl_str)
theorem de_sl {e : Expr} {t : DT} {lo hi : Option Expr} {tl th : DO} {p2 pos : Pos} (h : DE X e t) (h1 : DPO X lo tl) (h2 : DPO X hi th) : DE X (.Subscript e (.Slice lo hi none p2) pos) (dSl t tl th) :=
  pe_weak (pe_slice sl_all h h1 h2) fun σ H Q q => by
    obtain ⟨ρ, S, P, rfl, s, r, t, w⟩ := q
    refine ⟨ρ, S, _, rfl, s, r, t, fun v x S1 e1 rx t1 => ?_⟩
    refine ⟨ρ, S1, _, rfl, s.ext e1.ext, e1.ok, t1, fun l S2 e2 t2 => ?_⟩
    refine ⟨ρ, S2, _, rfl, (s.ext e1.ext).ext e2.ext, e2.ok, t2, fun h S3 e3 t3 => ?_⟩
    have rx3 := R.ext (e2.trans e3).ext _ _ rx
    have w3 := w.st (e1.trans (e2.trans e3))
    split at t3
    · rename_i ds e
      obtain ⟨a, vs, rfl, k1, k2⟩ := vw_lst e3.ok rx3 e
      refine .inl ⟨a, vs, rfl, SqL.of k1, fun p hp => ?_⟩
      have st := e3.ok.new (o := .lst (cutV vs l h)) hp
      exact w3 _ (.lst (cutD ds l h)) _ st (by simp only [R]; exact ⟨p, _, rfl, upd_same, RA.ext st.ext _ _ (cut_R k2 l h)⟩) t3
    · rename_i ds e
      have ex : x = .fro ds := by
        cases x with
        | cell b =>
          simp only [vw] at e
          split at e <;> cases e
        | _ => exact e
      subst ex
      simp only [R] at rx3
      obtain ⟨a, vs, rfl, k1, k2⟩ := rx3
      have k1' : SqL X.K S3.h a vs := by
        rcases k1 with (k | ⟨o, k⟩) | k
        · exact .inl (.inl (e3.ok.le _ _ k))
        · exact .inl (.inr ⟨o, e3.ok.le _ _ k⟩)
        · exact .inr k
      refine .inl ⟨a, vs, rfl, k1', fun p hp => ?_⟩
      have st := e3.ok.new (o := .lst (cutV vs l h)) hp
      exact w3 _ (.lst (cutD ds l h)) _ st (by simp only [R]; exact ⟨p, _, rfl, upd_same, RA.ext st.ext _ _ (cut_R k2 l h)⟩) t3
    · rename_i ds e
      obtain ⟨a, vs, rfl, k1, k2⟩ := vw_tup e3.ok rx3 e
      obtain ⟨n, t3⟩ := t3
      refine .inr (.inl ⟨a, vs, rfl, SqT.of k1, by rw [k2.len]; exact n, fun p hp => ?_⟩)
      have st := e3.ok.new (o := .tup (cutV vs l h)) hp
      exact w3 _ (.tup (cutD ds l h)) _ st (by simp only [R]; exact ⟨p, _, rfl, upd_same, RA.ext st.ext _ _ (cut_R k2 l h)⟩) t3
    · rename_i z e
      rw [vw_str e] at rx3
      simp only [R] at rx3
      exact .inr (.inr ⟨z, rx3, mil t3.1, w3 _ _ S3 (.refl e3.ok) R_str t3.2⟩)
    · exact t3.elim
end

/-! ### built-in defs, classes, methods -/
abbrev DCl := List D → Cells → DK → Prop
def ClS (K : PySem.W.Frag) (r : List V → Hp → VK → Prop) (c : DCl) : Prop := ∀ ds vs S P Q, Ok K S → RA K S.hs ds vs → c ds S.c P → Wish K S P Q → r vs S.h Q
def dCB (c : DCl) (a : DA) : DT := fun ρ C P => a ρ C fun ds C1 => c ds C1 P
section
variable {X : Cx} {K : PySem.W.Frag} {r : List V → Hp → VK → Prop} {c : DCl} {x : Str} {e : Expr} {es : List Expr} {t : DA} {p pos : Pos}
theorem lift_cb (h : ClS K r c) {σ : St} {H : Hp} {Q : VK} (q : liftE K (dCB c t) σ H Q) : tCB r (liftA K t) σ H Q := by
  obtain ⟨ρ, S, P, rfl, s, rp, t, w⟩ := q
  exact ⟨ρ, S, _, rfl, s, rp, t, fun vs ds S1 e1 rs t1 => h ds vs S1 P Q e1.ok rs t1 (w.st e1)⟩
theorem de_cb {id : String} (hc : CallR X (.builtin id) r) (hs : ClS X.K r c) (hm : X.mg x = none) (hv : bootBuiltins x = some (.builtin id)) (ha : DAs X (e :: es) t) (hg : Gl X x := by rfl) (hn : x ≠ "__name__" := by decide) (hdb : (x == ("__debug__" : Str)) = false := by decide)
    (he : starEach (e :: es) X.env = (false, eval e X.env) :: starEach es X.env := by rfl) (hpl : (backTo pos (starEach es X.env)).any (·.1) = false := by rfl) : DE X (.Call (.Name x p) (e :: es) [] pos) (dCB c t) :=
  pe_weak (pe_callB hc hg hm hv ha hn hdb he hpl) fun σ H Q q => lift_cb hs q
theorem de_ct {T : String} (hc : CallR X (.type T) r) (hs : ClS X.K r c) (hm : X.mg x = none) (hv : bootBuiltins x = some (.type T)) (ha : DAs X (e :: es) t) (hg : Gl X x := by rfl) (hn : x ≠ "__name__" := by decide) (hdb : (x == ("__debug__" : Str)) = false := by decide)
    (he : starEach (e :: es) X.env = (false, eval e X.env) :: starEach es X.env := by rfl) (hpl : (backTo pos (starEach es X.env)).any (·.1) = false := by rfl) : DE X (.Call (.Name x p) (e :: es) [] pos) (dCB c t) :=
  pe_weak (pe_callTy hc hg hm hv ha hn hdb he hpl) fun σ H Q q => lift_cb hs q
end
end DL

set_option Elab.async false
set_option linter.all false
set_option maxRecDepth 100000
set_option maxHeartbeats 1000000
namespace DL
open PySem L2

/-- one argument, an int -/
def int1 (xs : List D) (k : Int → Prop) : Prop := match xs with
  | [.int n] => k n
  | _ => False
theorem int1_of {xs : List D} {k : Int → Prop} (h : int1 xs k) : ∃ n, xs = [.int n] ∧ k n := by
  unfold int1 at h
  split at h
  · exact ⟨_, rfl, h⟩
  · exact h.elim
/-! ### loops -/
/-- forgetting names and cells -/
def Wk (P : Env → Cells → Prop) : Env → Cells → Prop := fun ρ' C' => ∃ ρ C, Fg ρ ρ' ∧ Gh C' C ∧ P ρ C
theorem Wk.of {P : Env → Cells → Prop} {ρ : Env} {C : Cells} (h : P ρ C) : Wk P ρ C := ⟨ρ, C, Fg.refl ρ, Gh.refl C, h⟩
/-- the state of a loop: within the world that S0 grows to -/
def Turn (K : PySem.W.Frag) (S0 : W) (P : Env → Cells → Prop) (σ : St) (H : Hp) : Prop := ∃ ρ S, S.h = H ∧ Step K S0 S ∧ Sl K S.hs σ ρ ∧ P ρ S.c
theorem Turn.wk {K : PySem.W.Frag} {S0 S S' : W} {P : Env → Cells → Prop} {σ' : St} {ρ' : Env} (h0 : Step K S0 S) (e : Step K S S') (s : Sl K S'.hs σ' ρ') (h : Wk P ρ' S'.c) : Turn K S0 P σ' S'.h := by
  obtain ⟨ρ, C, f, b, p⟩ := h
  exact ⟨ρ, ⟨S'.hs, C, S'.h⟩, rfl, (h0.trans e).trans (e.ok.gh b), s.fg f, p⟩
/-- a loop over data, item by item -/
def loopN (ds : List D) (g : DG) (tb : DS) : DS := fun E ρ C => ∃ I : Nat → Env → Cells → Prop, I 0 ρ C ∧
  (∀ i d ρ C, ds[i]? = some d → I i ρ C → g d ρ C fun ρ1 C1 => tb { nx := Wk (I (i + 1)), rt := E.rt, bk := E.nx, ct := Wk (I (i + 1)) } ρ1 C1) ∧ ∀ ρ C, I ds.length ρ C → E.nx ρ C
/-- what a turn does, over the hand layer -/
theorem turn_ok {K : PySem.W.Frag} {g : DG} {tb : DS} {E : DEnds} {F : Ends} {S0 : W} (w : EndsOk K S0 E F) {Nx : Env → Cells → Prop} {d : D} {v : V} {σ : St} {ρ : Env} {S : W} (h0 : Step K S0 S) (s : Sl K S.hs σ ρ) (rd : R K S.hs d v)
    (t : g d ρ S.c fun ρ1 C1 => tb { nx := Wk Nx, rt := E.rt, bk := E.nx, ct := Wk Nx } ρ1 C1) :
    liftG K g v σ S.h fun σ2 H2 => liftS K tb { F with nx := Turn K S0 Nx, ct := Turn K S0 Nx, bk := F.nx } σ2 H2 := by
  refine ⟨ρ, S, d, _, rfl, s, h0.ok, rd, t, fun ρ1 σ1 S1 e1 s1 t1 => ?_⟩
  refine ⟨ρ1, S1, _, rfl, s1, e1.ok, t1, ⟨fun ρ2 σ2 S2 e2 s2 t2 => ?_, w.rt.st (h0.trans e1), w.nx.st (h0.trans e1), fun ρ2 σ2 S2 e2 s2 t2 => ?_⟩⟩
  · exact Turn.wk (h0.trans e1) e2 s2 t2
  · exact Turn.wk (h0.trans e1) e2 s2 t2
section
variable {X : Cx} {tg iter : Expr} {body : List Stmt} {g : DG} {tb : DS} {pos : Pos}
def dForL (t : DT) (g : DG) (tb : DS) : DS := fun E ρ C => t ρ C fun x C1 => match x with
  | .lst ds => loopN ds g tb E ρ C1
  | _ => False
def dForT (t : DT) (g : DG) (tb : DS) : DS := fun E ρ C => t ρ C fun x C1 => match x with
  | .tup ds => loopN ds g tb E ρ C1
  | _ => False
def dForR1 (t : DA) (g : DG) (tb : DS) : DS := fun E ρ C => t ρ C fun xs C1 => int1 xs fun n => n ≤ 1000000000 ∧ -1000000000 ≤ n ∧ loopN ((List.range n.toNat).map fun (i : Nat) => D.int (i : Int)) g tb E ρ C1
theorem ds_forL {t : DT} (hc : X.calm = true) (hi : DE X iter t) (hg : DGt X tg g) (hb : DSs X body tb) (hp : PassesOwn (model X.prog X.w) X.A X.env X.xe := by exact PassesOwn.never)
    (hs : ∀ x, foldedSetIterable iter X.env x = pure x := by intro _; rfl) : DSt X (.For tg iter body [] pos) (dForL t g tb) := by
  refine ps_weak (ps_for hp hc (pi_list hi) hg hb hs) fun F σ H q => ?_
  obtain ⟨ρ, S, E, rfl, s, r, t, w⟩ := q
  refine ⟨ρ, S, _, rfl, s, r, t, fun v d S1 e1 rd t1 => ?_⟩
  cases d with
  | lst ds =>
    have rd0 := rd
    simp only [R] at rd
    obtain ⟨a, vs, rfl, h1, h2⟩ := rd
    obtain ⟨I, i0, it, ie⟩ := t1
    refine ⟨a, rfl, ⟨vs, SqL.of (e1.ok.le _ _ h1)⟩, for_list (K := X.K) (a := a) (xs := vs) (fun i σ H => Turn X.K S1 (I i) σ H) ⟨ρ, S1, rfl, .refl e1.ok, s.ext e1.ext, i0⟩ (fun i σ' H' _ T => ?_) (fun i x σ' H' hx T => ?_) (fun σ' H' T => ?_)⟩
    · obtain ⟨ρ', S', rfl, st, _, _⟩ := T
      exact SqL.of (st.ok.le _ _ (st.ext.lst h1))
    · obtain ⟨ρ', S', rfl, st, s', p⟩ := T
      obtain ⟨d, hd, hr⟩ := h2.getV hx
      exact turn_ok (w.st e1) st s' (R.ext st.ext _ _ hr) (it i d ρ' _ hd p)
    · obtain ⟨ρ', S', rfl, st, s', p⟩ := T
      rw [h2.len] at p
      exact w.nx ρ' σ' S' (e1.trans st) s' (ie _ _ p)
  | _ => exact t1.elim
theorem ds_forT {t : DT} (hc : X.calm = true) (hi : DE X iter t) (hg : DGt X tg g) (hb : DSs X body tb) (hp : PassesOwn (model X.prog X.w) X.A X.env X.xe := by exact PassesOwn.never)
    (hs : ∀ x, foldedSetIterable iter X.env x = pure x := by intro _; rfl) : DSt X (.For tg iter body [] pos) (dForT t g tb) := by
  refine ps_weak (ps_for hp hc (pi_tup hi) hg hb hs) fun F σ H q => ?_
  obtain ⟨ρ, S, E, rfl, s, r, t, w⟩ := q
  refine ⟨ρ, S, _, rfl, s, r, t, fun v d S1 e1 rd t1 => ?_⟩
  cases d with
  | tup ds =>
    simp only [R] at rd
    obtain ⟨a, vs, rfl, h1, h2⟩ := rd
    obtain ⟨I, i0, it, ie⟩ := t1
    refine ⟨a, rfl, ⟨vs, SqT.of (e1.ok.le _ _ h1)⟩, for_tup (K := X.K) (a := a) (xs := vs) (fun i σ H => Turn X.K S1 (I i) σ H) ⟨ρ, S1, rfl, .refl e1.ok, s.ext e1.ext, i0⟩ (fun i σ' H' _ T => ?_) (fun i x σ' H' hx T => ?_) (fun σ' H' T => ?_)⟩
    · obtain ⟨ρ', S', rfl, st, _, _⟩ := T
      exact SqT.of (st.ok.le _ _ (st.ext.tup h1))
    · obtain ⟨ρ', S', rfl, st, s', p⟩ := T
      obtain ⟨d, hd, hr⟩ := h2.getV hx
      exact turn_ok (w.st e1) st s' (R.ext st.ext _ _ hr) (it i d ρ' _ hd p)
    · obtain ⟨ρ', S', rfl, st, s', p⟩ := T
      rw [h2.len] at p
      exact w.nx ρ' σ' S' (e1.trans st) s' (ie _ _ p)
  | _ => exact t1.elim
theorem ds_forR1 {a : Expr} {t : DA} {p : Pos} (hc : X.calm = true) (hm : X.mg "range" = none) (ha : DAs X [a] t) (hg : DGt X tg g) (hb : DSs X body tb) (hgl : Gl X "range" := by rfl) (hp : PassesOwn (model X.prog X.w) X.A X.env X.xe := by exact PassesOwn.never)
    (hse : starEach [a] X.env = [(false, eval a X.env)] := by rfl) (hs : ∀ x, foldedSetIterable (.Call (.Name "range" p) [a] [] pos) X.env x = pure x := by intro _; rfl) {pos' : Pos} : DSt X (.For tg (.Call (.Name "range" p) [a] [] pos) body [] pos') (dForR1 t g tb) := by
  refine ps_weak (ps_for hp hc (pi_range1 hgl hm ha hse) hg hb hs) fun F σ H q => ?_
  obtain ⟨ρ, S, E, rfl, s, r, t, w⟩ := q
  refine ⟨ρ, S, _, rfl, s, r, t, fun vs ds S1 e1 rs t1 => ?_⟩
  · obtain ⟨n, rfl, t1⟩ := int1_of t1
    simp only [RA, R] at rs
    obtain ⟨v, _, rfl, rfl, rfl⟩ := rs
    obtain ⟨z1, z2, I, i0, it, ie⟩ := t1
    refine ⟨n, rfl, by omega, by omega, for_range (lo := 0) (n := n.toNat) (fun i σ H => Turn X.K S1 (I i) σ H) ⟨ρ, S1, rfl, .refl e1.ok, s.ext e1.ext, i0⟩ (fun i σ' H' hx T => ?_) (fun σ' H' T => ?_)⟩
    · obtain ⟨ρ', S', rfl, st, s', p⟩ := T
      refine turn_ok (w.st e1) st s' (d := .int (i : Int)) (by rw [Int.zero_add]; exact R_int) (it i _ ρ' _ ?_ p)
      simp [hx]
    · obtain ⟨ρ', S', rfl, st, s', p⟩ := T
      refine w.nx ρ' σ' S' (e1.trans st) s' (ie _ _ ?_)
      simpa using p
/-- while -/
def dWhile (c : DB) (tb : DS) : DS := fun E ρ C => ∃ I : Nat → Env → Cells → Prop, (∃ m, I m ρ C) ∧ ∀ m ρ C, I m ρ C →
  c ρ C fun b C1 => if b = true then tb { nx := Wk fun ρ C => ∃ m', m' < m ∧ I m' ρ C, rt := E.rt, bk := E.nx, ct := Wk fun ρ C => ∃ m', m' < m ∧ I m' ρ C } ρ C1 else E.nx ρ C1
theorem ds_while {c : Expr} {tc : DB} (hc : DC X c tc) (hb : DSs X body tb) (hp : PassesOwn (model X.prog X.w) X.A X.env X.xe := by exact PassesOwn.never) : DSt X (.While c body [] pos) (dWhile tc tb) := by
  refine ps_weak (ps_while hp hc hb) fun F σ H q => ?_
  obtain ⟨ρ, S, E, rfl, s, r, ⟨I, ⟨m0, i0⟩, t⟩, w⟩ := q
  refine ⟨fun m σ H => Turn X.K S (I m) σ H, ⟨m0, ρ, S, rfl, .refl r, s, i0⟩, fun m σ' H' T => ?_⟩
  obtain ⟨ρ', S', rfl, st, s', p⟩ := T
  refine ⟨ρ', S', _, rfl, s', st.ok, t m ρ' _ p, fun b S1 e1 t1 => ?_⟩
  cases b with
  | true =>
    rw [if_pos rfl]
    refine ⟨Turn X.K S (fun ρ C => ∃ m', m' < m ∧ I m' ρ C), fun σ2 H2 T => ?_, ?_⟩
    · obtain ⟨ρ2, S2, rfl, st2, s2, m', hm, p2⟩ := T
      exact ⟨m', hm, ρ2, S2, rfl, st2, s2, p2⟩
    · refine ⟨ρ', S1, { nx := Wk fun ρ C => ∃ m', m' < m ∧ I m' ρ C, rt := E.rt, bk := E.nx, ct := Wk fun ρ C => ∃ m', m' < m ∧ I m' ρ C }, rfl, s'.ext e1.ext, e1.ok, by simpa using t1, ⟨fun ρ2 σ2 S2 e2 s2 t2 => ?_, w.rt.st (st.trans e1), w.nx.st (st.trans e1), fun ρ2 σ2 S2 e2 s2 t2 => ?_⟩⟩
      · exact Turn.wk (st.trans e1) e2 s2 t2
      · exact Turn.wk (st.trans e1) e2 s2 t2
  | false =>
    rw [if_neg Bool.false_ne_true]
    exact w.nx ρ' σ' S1 (st.trans e1) (s'.ext e1.ext) (by simpa using t1)
end

/-! ### list comprehensions with one name -/
def DPs (X : Cx) (ifs : List Expr) (t : DB) : Prop := PTs X ifs (liftB X.K t)
theorem pts_weak {X : Cx} {e : List Expr} {t t' : TT} (h : PTs X e t) (w : ∀ σ H Q, t' σ H Q → t σ H Q) : PTs X e t' := ⟨fun pins s σ H Q I q => h.run pins s σ H Q I (w σ H Q q)⟩
def dYes : DB := fun _ C P => P true C
section
variable {X : Cx}
theorem dp_nil : DPs X [] dYes := pts_weak pts_nil fun σ H Q h => by
  obtain ⟨ρ, S, P, rfl, s, r, t, w⟩ := h
  exact w true S (.refl r) t
theorem dp_one {c : Expr} {t : DB} (h : DC X c t) : DPs X [c] t := pts_one h
end
/-- item by item; j: the name's place -/
def compN (ds : List D) (j : Nat) (tt : DB) (te : DT) : DT := fun ρ C P => ∃ I : Nat → List D → Cells → Prop, I 0 [] C ∧
  (∀ i d acc C, ds[i]? = some d → I i acc C → tt (ρ.set j (some d)) C fun b C1 => if b = true then te (ρ.set j (some d)) C1 fun y C2 => acc.length < 1000000 ∧ ∃ C3, Gh C2 C3 ∧ I (i + 1) (acc ++ [y]) C3 else ∃ C3, Gh C1 C3 ∧ I (i + 1) acc C3) ∧ ∀ acc C', I ds.length acc C' → P (.lst acc) C'
/-- the comprehension's state: the list at Dl is neither shared nor a cell -/
def CTurn (K : PySem.W.Frag) (S0 : W) (Dl : Addr) (I : List D → Cells → Prop) (H : Hp) : Prop := ∃ S acc vs, S.h = H ∧ Step K S0 S ∧ S.h Dl = some (.lst vs) ∧ S.hs Dl = none ∧ S.c Dl = none ∧ S0.h Dl = none ∧ RA K S.hs acc vs ∧ I acc S.c
theorem slot_wipe {K : PySem.W.Frag} {Hs : Hp} {σ : St} {ρ : Env} {j : Nat} {d : D} {v : V} (s : Sl K Hs σ ρ) (h : R K Hs d v) : Sl K Hs ((wipe σ [j]).set j (some v)) (ρ.set j (some d)) := by
  have e : (wipe σ [j]).set j (some v) = σ.set j (some v) := by
    show (σ.set j none).set j (some v) = σ.set j (some v)
    rw [List.set_set]
  rw [e]
  exact s.set h
theorem wipe_back {σ : St} {j : Nat} {v : V} : wipe ((wipe σ [j]).set j (some v)) [j] = wipe σ [j] := by
  show ((σ.set j none).set j (some v)).set j none = σ.set j none
  rw [List.set_set, List.set_set]
/-- one turn -/
theorem cturn_ok {K : PySem.W.Frag} {tt : DB} {te : DT} {S0 : W} {Dl : Addr} {j : Nat} {ρ : Env} {σ : St} {I I' : List D → Cells → Prop} (s0 : Sl K S0.hs σ ρ) {d : D} {v : V} {H : Hp} (T : CTurn K S0 Dl I H) (rd : ∀ Hs, Ext S0.hs Hs → R K Hs d v)
    (t : ∀ acc C, I acc C → tt (ρ.set j (some d)) C fun b C1 => if b = true then te (ρ.set j (some d)) C1 fun y C2 => acc.length < 1000000 ∧ ∃ C3, Gh C2 C3 ∧ I' (acc ++ [y]) C3 else ∃ C3, Gh C1 C3 ∧ I' acc C3) :
    gName j v (wipe σ [j]) H fun σ2 H2 => wipe σ2 [j] = wipe σ [j] ∧ liftB K tt σ2 H2 fun b H3 => if b = true then liftE K te σ2 H3 fun y H4 => ∃ acc, H4 Dl = some (.lst acc) ∧ acc.length < sizeLine ∧ CTurn K S0 Dl I' (upd H4 Dl (.lst (acc ++ [y]))) else CTurn K S0 Dl I' H3 := by
  obtain ⟨S, acc, vs, rfl, st, h1, h2, h3, h5, ra, p⟩ := T
  refine ⟨wipe_back, ?_⟩
  have s1 : Sl K S.hs ((wipe σ [j]).set j (some v)) (ρ.set j (some d)) := slot_wipe (s0.ext st.ext) (rd _ st.ext)
  refine ⟨_, S, _, rfl, s1, st.ok, t acc S.c p, fun b S1 e1 t1 => ?_⟩
  obtain ⟨q1, q2, q3⟩ := e1.fr Dl _ h1 h2 h3
  cases b with
  | true =>
    rw [if_pos rfl] at t1
    rw [if_pos rfl]
    refine ⟨_, S1, _, rfl, s1.ext e1.ext, e1.ok, t1, fun y dy S2 e2 ry t2 => ?_⟩
    obtain ⟨hl, C3, gh, p2⟩ := t2
    have e3 := e2.ok.gh gh
    obtain ⟨k1, k2, k3⟩ := (e2.trans e3).fr Dl _ q1 q2 q3
    have z : vs.length < sizeLine := by rw [ra.len, sizeLine_eq]; omega
    have e4 := e1.trans (e2.trans e3)
    refine ⟨vs, k1, z, ⟨S2.hs, C3, upd S2.h Dl (.lst (vs ++ [y]))⟩, acc ++ [dy], vs ++ [y], rfl, ⟨st.ext.trans e4.ext, fun b o g1 g2 g3 => ?_, e3.ok.other k2 k3⟩, upd_same, k2, k3, h5, (RA.ext e4.ext _ _ ra).append (RA.cons (R.ext e3.ext _ _ ry) RA.nil), p2⟩
    have hb : b ≠ Dl := fun q => by rw [q, h5] at g1; cases g1
    obtain ⟨m1, m2, m3⟩ := (st.trans e4).fr b o g1 g2 g3
    exact ⟨(upd_ne hb).trans m1, m2, m3⟩
  | false =>
    rw [if_neg Bool.false_ne_true] at t1
    rw [if_neg Bool.false_ne_true]
    obtain ⟨C3, gh, p2⟩ := t1
    have e3 := e1.ok.gh gh
    obtain ⟨k1, k2, k3⟩ := e3.fr Dl _ q1 q2 q3
    exact ⟨⟨S1.hs, C3, S1.h⟩, acc, vs, rfl, st.trans (e1.trans e3), k1, k2, k3, h5, RA.ext (e1.trans e3).ext _ _ ra, p2⟩
theorem CTurn.start {K : PySem.W.Frag} {S0 : W} {Dl : Addr} {I : List D → Cells → Prop} (ok : Ok K S0) (h : S0.h Dl = none) (p : I [] S0.c) : CTurn K S0 Dl I (upd S0.h Dl (.lst [])) := by
  refine ⟨⟨S0.hs, S0.c, upd S0.h Dl (.lst [])⟩, [], [], rfl, ⟨Ext.refl _, fun b o g1 g2 g3 => ⟨(upd_ne (ne_of_none g1 h)).trans g1, g2, g3⟩, ok.other (ok.fresh h) (ok.freshC h)⟩, upd_same, ok.fresh h, ok.freshC h, h, RA.nil, p⟩
/-- the made list is shared -/
theorem CTurn.done {K : PySem.W.Frag} {S0 : W} {Dl : Addr} {I : List D → Cells → Prop} {H : Hp} {P : DK} {Q : VK} (T : CTurn K S0 Dl I H) (w : Wish K S0 P Q) (h : ∀ acc C, I acc C → P (.lst acc) C) : Q (.ref Dl) H := by
  obtain ⟨S, acc, vs, rfl, st, h1, h2, h3, h5, ra, p⟩ := T
  have hf : ∀ b u, upd S.hs Dl (.lst vs) b = some u → S.h b = some u := fun b u e => by
    by_cases hb : b = Dl
    · subst hb; rw [upd_same] at e; cases e; exact h1
    · rw [upd_ne hb] at e; exact st.ok.le b u e
  have x : Ext S.hs (upd S.hs Dl (.lst vs)) := Ext.new h2
  refine w (.ref Dl) (.lst acc) ⟨upd S.hs Dl (.lst vs), S.c, S.h⟩ ⟨st.ext.trans x, fun b o g1 g2 g3 => ?_, ⟨hf, fun b c g => ?_⟩⟩ ?_ (h acc _ p)
  · obtain ⟨m1, m2, m3⟩ := st.fr b o g1 g2 g3
    have hb : b ≠ Dl := fun q => by rw [q, h5] at g1; cases g1
    exact ⟨m1, (upd_ne hb).trans m2, m3⟩
  · have hb : b ≠ Dl := fun q => by
      have g' : S.c b = some c := g
      rw [q, h3] at g'; cases g'
    obtain ⟨k1, k2⟩ := st.ok.cell b c g
    exact ⟨(upd_ne hb).trans k1, k2.move x rfl⟩
  · simp only [R]
    exact ⟨Dl, vs, rfl, upd_same, RA.ext x _ _ ra⟩
section
variable {X : Cx} {elt tg iter : Expr} {ifs : List Expr} {scope : Scope} {pos : Pos} {j : Nat} {x : Str} {px : Pos} {tt : DB} {te : DT}
def dLcL (t : DT) (j : Nat) (tt : DB) (te : DT) : DT := fun ρ C P => t ρ C fun y C1 => match y with
  | .lst ds => compN ds j tt te ρ C1 P
  | _ => False
theorem iList_lift {t : DT} {σ : St} {H : Hp} {Q : VK} (q : liftE X.K (dLcL t j tt te) σ H Q) : tLc (iList X.K (liftE X.K t)) (gName j) (liftB X.K tt) (liftE X.K te) [j] σ H Q := by
  obtain ⟨ρ, S, P, rfl, s, r, t, w⟩ := q
  refine ⟨ρ, S, _, rfl, s, r, t, fun v d S1 e1 rd t1 => ?_⟩
  cases d with
  | lst ds =>
    simp only [R] at rd
    obtain ⟨a, vs, rfl, h1, h2⟩ := rd
    obtain ⟨I, i0, it, ie⟩ := t1
    refine ⟨a, rfl, ⟨vs, SqL.of (e1.ok.le _ _ h1)⟩, fun Dl hD => lc_list (K := X.K) (a := a) (xs := vs) (fun i H => CTurn X.K S1 Dl (I i) H) (CTurn.start e1.ok hD i0) (fun i H _ T => ?_) (fun i x H hx T => ?_) (fun H T => ?_)⟩
    · obtain ⟨S', _, _, rfl, st, _⟩ := T
      exact SqL.of (st.ok.le _ _ (st.ext.lst h1))
    · obtain ⟨d, hd, hr⟩ := h2.getV hx
      exact cturn_ok (s.ext e1.ext) T (fun Hs e => R.ext e _ _ hr) (fun acc C p => it i d acc C hd p)
    · refine T.done (w.st e1) fun acc C p => ie acc C ?_
      rw [h2.len] at p; exact p
  | _ => exact t1.elim
theorem de_lcL {t : DT} (hc : X.calm = true) (hN : X.N.Nodup) (hi : DE X iter t) (ok : blkC X.N X.env.scope scope [(x, j)] = true)
    (hg : ∀ (s : Shared) (H : Hp) (C : Addr) (cl : List (Str × Addr)) (fp : List Addr), PG (X.blk s H scope (compEnvC scope cl C X.env) fp) (.Name x px) (gName j))
    (ht : ∀ (s : Shared) (H : Hp) (C : Addr) (cl : List (Str × Addr)) (fp : List Addr), DPs (X.blk s H scope (compEnvC scope cl C X.env) fp) ifs tt)
    (he : ∀ (s : Shared) (H : Hp) (C : Addr) (cl : List (Str × Addr)) (fp : List Addr), DE (X.blk s H scope (compEnvC scope cl C X.env) fp) elt te) (hs : ∀ x, foldedSetIterable iter X.env x = pure x := by intro _; rfl) :
    DE X (.ListComp elt [⟨.Name x px, iter, ifs, 0⟩] scope pos) (dLcL t j tt te) :=
  pe_weak (pe_lc (own := [(x, j)]) (tt := liftB X.K tt) (te := liftE X.K te) hc hN (pi_list hi) (blkOk_by ok) hg ht he hs) fun σ H Q q => iList_lift q
theorem ds_setLcL {t : DT} {i : Nat} {y : Str} {py spos : Pos} (hc : X.calm = true) (hN : X.N.Nodup) (hi : DE X iter t) (ok : blkC X.N X.env.scope scope [(x, j)] = true)
    (hg : ∀ (s : Shared) (H : Hp) (C : Addr) (cl : List (Str × Addr)) (fp : List Addr), PG (X.blk s H scope (compEnvC scope cl C X.env) fp) (.Name x px) (gName j))
    (ht : ∀ (s : Shared) (H : Hp) (C : Addr) (cl : List (Str × Addr)) (fp : List Addr), DPs (X.blk s H scope (compEnvC scope cl C X.env) fp) ifs tt)
    (he : ∀ (s : Shared) (H : Hp) (C : Addr) (cl : List (Str × Addr)) (fp : List Addr), DE (X.blk s H scope (compEnvC scope cl C X.env) fp) elt te) (hy : X.N[i]? = some y := by rfl) (hyl : X.env.scope.names.lookup y = some .local := by rfl)
    (hsw : swapsWith (.ListComp elt [⟨.Name x px, iter, ifs, 0⟩] scope pos) (some (.Name y py)) spos.line X.env = pure true := by exact sw_true rfl rfl rfl (by decide +kernel)) (hs : ∀ x, foldedSetIterable iter X.env x = pure x := by intro _; rfl) :
    DSt X (.Assign [.Name y py] (.ListComp elt [⟨.Name x px, iter, ifs, 0⟩] scope pos) spos) (dAsg (dLcL t j tt te) (dName i)) := by
  refine ps_weak (ps_setLc (own := [(x, j)]) (tt := liftB X.K tt) (te := liftE X.K te) hc hN hy hyl hsw (pi_list hi) (blkOk_by ok) hg ht he hs) fun F σ H q => ?_
  obtain ⟨ρ, S, E, rfl, s, r, t, w⟩ := q
  refine iList_lift (X := X) ⟨ρ, S, _, rfl, s, r, t, fun v d S1 e1 rd t1 => ?_⟩
  exact w.nx _ _ S1 e1 ((s.ext e1.ext).set rd) t1
/-- over a range -/
def dLcR1 (t : DA) (j : Nat) (tt : DB) (te : DT) : DT := fun ρ C P => t ρ C fun ys C1 => int1 ys fun n => n ≤ 1000000 ∧ -1000000 ≤ n ∧ compN ((List.range n.toNat).map fun (i : Nat) => D.int (i : Int)) j tt te ρ C1 P
theorem iRng_lift {t : DA} {σ : St} {H : Hp} {Q : VK} (q : liftE X.K (dLcR1 t j tt te) σ H Q) : tLc (iRng1 (liftA X.K t)) (gName j) (liftB X.K tt) (liftE X.K te) [j] σ H Q := by
  obtain ⟨ρ, S, P, rfl, s, r, t, w⟩ := q
  refine ⟨ρ, S, _, rfl, s, r, t, fun vs ds S1 e1 rs t1 => ?_⟩
  · obtain ⟨n, rfl, t1⟩ := int1_of t1
    simp only [RA, R] at rs
    obtain ⟨v, _, rfl, rfl, rfl⟩ := rs
    obtain ⟨z1, z2, I, i0, it, ie⟩ := t1
    refine ⟨n, rfl, by omega, by omega, fun Dl hD => lc_range (lo := 0) (n := n.toNat) (fun i H => CTurn X.K S1 Dl (I i) H) (CTurn.start e1.ok hD i0) (fun i H hx T => ?_) (fun H T => ?_)⟩
    · refine cturn_ok (d := .int (i : Int)) (s.ext e1.ext) T (fun Hs e => by rw [Int.zero_add]; exact R_int) (fun acc C p => it i _ acc C ?_ p)
      simp [hx]
    · refine T.done (w.st e1) fun acc C p => ie acc C ?_
      simpa using p
theorem de_lcR1 {a : Expr} {t : DA} {p ipos : Pos} (hc : X.calm = true) (hN : X.N.Nodup) (hm : X.mg "range" = none) (ha : DAs X [a] t) (ok : blkC X.N X.env.scope scope [(x, j)] = true)
    (hg : ∀ (s : Shared) (H : Hp) (C : Addr) (cl : List (Str × Addr)) (fp : List Addr), PG (X.blk s H scope (compEnvC scope cl C X.env) fp) (.Name x px) (gName j))
    (ht : ∀ (s : Shared) (H : Hp) (C : Addr) (cl : List (Str × Addr)) (fp : List Addr), DPs (X.blk s H scope (compEnvC scope cl C X.env) fp) ifs tt)
    (he : ∀ (s : Shared) (H : Hp) (C : Addr) (cl : List (Str × Addr)) (fp : List Addr), DE (X.blk s H scope (compEnvC scope cl C X.env) fp) elt te) (hgl : Gl X "range" := by rfl) (hse : starEach [a] X.env = [(false, eval a X.env)] := by rfl)
    (hs : ∀ x, foldedSetIterable (.Call (.Name "range" p) [a] [] ipos) X.env x = pure x := by intro _; rfl) :
    DE X (.ListComp elt [⟨.Name x px, .Call (.Name "range" p) [a] [] ipos, ifs, 0⟩] scope pos) (dLcR1 t j tt te) :=
  pe_weak (pe_lc (own := [(x, j)]) (tt := liftB X.K tt) (te := liftE X.K te) hc hN (pi_range1 hgl hm ha hse) (blkOk_by ok) hg ht he hs) fun σ H Q q => iRng_lift q
/-- over a text, sign by sign -/
def chars (z : Str) : List D := z.cps.toList.map fun c => D.str ⟨#[c]⟩
def dLcS (t : DT) (j : Nat) (tt : DB) (te : DT) : DT := fun ρ C P => t ρ C fun y C1 => match y with
  | .str z => compN (chars z) j tt te ρ C1 P
  | _ => False
theorem de_lcS {t : DT} (hc : X.calm = true) (hN : X.N.Nodup) (hi : DE X iter t) (ok : blkC X.N X.env.scope scope [(x, j)] = true)
    (hg : ∀ (s : Shared) (H : Hp) (C : Addr) (cl : List (Str × Addr)) (fp : List Addr), PG (X.blk s H scope (compEnvC scope cl C X.env) fp) (.Name x px) (gName j))
    (ht : ∀ (s : Shared) (H : Hp) (C : Addr) (cl : List (Str × Addr)) (fp : List Addr), DPs (X.blk s H scope (compEnvC scope cl C X.env) fp) ifs tt)
    (he : ∀ (s : Shared) (H : Hp) (C : Addr) (cl : List (Str × Addr)) (fp : List Addr), DE (X.blk s H scope (compEnvC scope cl C X.env) fp) elt te) (hs : ∀ x, foldedSetIterable iter X.env x = pure x := by intro _; rfl) :
    DE X (.ListComp elt [⟨.Name x px, iter, ifs, 0⟩] scope pos) (dLcS t j tt te) :=
  pe_weak (pe_lc (own := [(x, j)]) (tt := liftB X.K tt) (te := liftE X.K te) hc hN (pi_str hi) (blkOk_by ok) hg ht he hs) fun σ H Q q => by
    obtain ⟨ρ, S, P, rfl, s, r, t, w⟩ := q
    refine ⟨ρ, S, _, rfl, s, r, t, fun v d S1 e1 rd t1 => ?_⟩
    cases d with
    | str z =>
      simp only [R] at rd
      subst rd
      obtain ⟨I, i0, it, ie⟩ := t1
      refine ⟨z, rfl, fun Dl hD => ⟨fun i m H => m = z.cps.size - i ∧ i ≤ z.cps.size ∧ CTurn X.K S1 Dl (I i) H, ⟨z.cps.size, by simp, Nat.zero_le _, CTurn.start e1.ok hD i0⟩, ?_⟩⟩
      rintro i m H ⟨rfl, hi', T⟩
      by_cases hlt : i < z.cps.size
      · refine .inr ⟨hlt, fun H' => CTurn X.K S1 Dl (I (i + 1)) H', fun H' p' => ⟨z.cps.size - (i + 1), by omega, rfl, hlt, p'⟩, fun x H' y => ?_⟩
        obtain ⟨rfl, c, hcc, rfl⟩ := y
        refine cturn_ok (d := .str ⟨#[c]⟩) (s.ext e1.ext) T (fun Hs e => R_str) (fun acc C p => it i _ acc C ?_ p)
        unfold chars
        rw [List.getElem?_map, Array.getElem?_toList, hcc]
        rfl
      · have e : i = z.cps.size := by omega
        subst e
        refine .inl ⟨Nat.le_refl _, T.done (w.st e1) fun acc C p => ie acc C ?_⟩
        simpa [chars] using p
    | _ => exact t1.elim
end
/-- a comprehension that gives a list told ahead, nothing drawn: from one function for the tests and one for the items -/
theorem compN_det {ds : List D} {j : Nat} {tt : DB} {te : DT} {ρ : Env} {C : Cells} {P : DK} (b : D → Bool) (f : D → D) (hl : ds.length ≤ 1000000)
    (h : ∀ (i : Nat) d (P' : Bool → Cells → Prop), ds[i]? = some d → P' (b d) C → tt (ρ.set j (some d)) C P')
    (k : ∀ (i : Nat) d (P' : DK), ds[i]? = some d → b d = true → P' (f d) C → te (ρ.set j (some d)) C P') (q : P (.lst ((ds.filter b).map f)) C) : compN ds j tt te ρ C P := by
  have hf : ∀ (i : Nat) d, ds[i]? = some d → (ds.take (i + 1)).filter b = (ds.take i).filter b ++ (if b d = true then [d] else []) := fun i d e => by
    rw [List.take_add_one, e, List.filter_append]
    congr 1
    simp only [Option.toList, List.filter_cons, List.filter_nil]
  refine ⟨fun i acc C' => acc = ((ds.take i).filter b).map f ∧ C' = C, ⟨by simp, rfl⟩, fun i d acc C' e p => ?_, fun acc C' p => ?_⟩
  · obtain ⟨p, rfl⟩ := p
    subst p
    refine h i d _ e ?_
    have h1 := hf i d e
    have h2 : (((ds.take i).filter b).map f).length < 1000000 := by
      have h3 : i < ds.length := (List.getElem?_eq_some_iff.mp e).1
      have h4 : ((ds.take i).filter b).length ≤ (ds.take i).length := List.length_filter_le _ _
      rw [List.length_take] at h4
      rw [List.length_map]
      omega
    cases hb : b d with
    | true =>
      rw [if_pos rfl]
      refine k i d _ e hb ⟨h2, C', Gh.refl C', ?_, rfl⟩
      show ((ds.take i).filter b).map f ++ [f d] = ((ds.take (i + 1)).filter b).map f
      rw [h1, hb, if_pos rfl, List.map_append]
      rfl
    | false =>
      rw [if_neg Bool.false_ne_true]
      refine ⟨C', Gh.refl C', ?_, rfl⟩
      show ((ds.take i).filter b).map f = ((ds.take (i + 1)).filter b).map f
      rw [h1, hb, if_neg Bool.false_ne_true, List.append_nil]
  · obtain ⟨p, rfl⟩ := p
    rw [p, List.take_length]
    exact q
end DL

set_option Elab.async false
set_option linter.all false
set_option maxRecDepth 100000
set_option maxHeartbeats 1000000
namespace DL
open PySem L2

/-! ### calls of built-ins -/
section
variable {K : PySem.W.Frag} {X : Cx}
def d1 (k : D → Cells → DK → Prop) : DCl := fun ds C P => match ds with
  | [x] => k x C P
  | _ => False
def d2 (k : D → D → Cells → DK → Prop) : DCl := fun ds C P => match ds with
  | [x, y] => k x y C P
  | _ => False
theorem cl1 {r : List V → Hp → VK → Prop} {k : D → Cells → DK → Prop} (h : ∀ x v S P Q, Ok K S → R K S.hs x v → k x S.c P → Wish K S P Q → r [v] S.h Q) : ClS K r (d1 k) := by
  intro ds vs S P Q ok rs t w
  unfold d1 at t
  split at t
  · simp only [RA] at rs
    obtain ⟨v, _, rfl, r1, rfl⟩ := rs
    exact h _ v S P Q ok r1 t w
  · exact t.elim
theorem cl2 {r : List V → Hp → VK → Prop} {k : D → D → Cells → DK → Prop} (h : ∀ x y v u S P Q, Ok K S → R K S.hs x v → R K S.hs y u → k x y S.c P → Wish K S P Q → r [v, u] S.h Q) : ClS K r (d2 k) := by
  intro ds vs S P Q ok rs t w
  unfold d2 at t
  split at t
  · simp only [RA] at rs
    obtain ⟨v, _, rfl, r1, u, _, rfl, r2, rfl⟩ := rs
    exact h _ _ v u S P Q ok r1 r2 t w
  · exact t.elim
/-- len -/
def kLen : D → Cells → DK → Prop := fun x C P => match vw C x with
  | .lst ds => P (.int ds.length) C
  | .tup ds => P (.int ds.length) C
  | .fro ds => P (.int ds.length) C
  | .str z => z.length ≤ 1000000 ∧ P (.int z.length) C
  | _ => False
def rLenA (K : PySem.W.Frag) : List V → Hp → VK → Prop := fun xs H Q => (∃ p ys, xs = [.ref p] ∧ (SqL K H p ys ∨ SqT K H p ys) ∧ Q (.int ys.length) H) ∨ ∃ z, xs = [.str z] ∧ z.length ≤ sizeLine ∧ Q (.int z.length) H
theorem call_lenA : CallR X (.builtin "len") (rLenA X.K) := call_len_seq.or call_len_str
theorem fro_sq {S : W} (ok : Ok K S) {a : Addr} {vs : List V} (h : SqL K S.hs a vs) : SqL K S.h a vs := by
  rcases h with (k | ⟨o, k⟩) | k
  · exact .inl (.inl (ok.le _ _ k))
  · exact .inl (.inr ⟨o, ok.le _ _ k⟩)
  · exact .inr k
theorem vw_fro {C : Cells} {x : D} {ds : List D} (e : vw C x = .fro ds) : x = .fro ds := by
  cases x with
  | cell a =>
    simp only [vw] at e
    split at e <;> cases e
  | _ => exact e
theorem cl_len : ClS K (rLenA K) (d1 kLen) := cl1 fun x v S P Q ok rx t w => by
  unfold kLen at t
  split at t
  · rename_i ds e
    obtain ⟨a, vs, rfl, h1, h2⟩ := vw_lst ok rx e
    exact .inl ⟨a, vs, rfl, .inl (SqL.of h1), by rw [h2.len]; exact w _ _ S (.refl ok) R_int t⟩
  · rename_i ds e
    obtain ⟨a, vs, rfl, h1, h2⟩ := vw_tup ok rx e
    exact .inl ⟨a, vs, rfl, .inr (SqT.of h1), by rw [h2.len]; exact w _ _ S (.refl ok) R_int t⟩
  · rename_i ds e
    have ex := vw_fro e
    subst ex
    simp only [R] at rx
    obtain ⟨a, vs, rfl, h1, h2⟩ := rx
    exact .inl ⟨a, vs, rfl, .inl (fro_sq ok h1), by rw [h2.len]; exact w _ _ S (.refl ok) R_int t⟩
  · rename_i z e
    rw [vw_str e] at rx
    simp only [R] at rx
    subst rx
    exact .inr ⟨z, rfl, mil t.1, w _ _ S (.refl ok) R_int t.2⟩
  · exact t.elim
/-- str of an int, int of a text, abs, max, min -/
def kStr : D → Cells → DK → Prop := fun x C P => match x with
  | .int i => i.natAbs.log2 < 1920 ∧ P (.str (toString i)) C
  | _ => False
theorem cl_str : ClS K (fun xs H Q => ∃ i, xs = [.int i] ∧ i.natAbs.log2 < 1920 ∧ Q (.str (toString i)) H) (d1 kStr) := cl1 fun x v S P Q ok rx t w => by
  unfold kStr at t
  split at t
  · simp only [R] at rx; subst rx
    exact ⟨_, rfl, t.1, w _ _ S (.refl ok) R_str t.2⟩
  · exact t.elim
def kIntT : D → Cells → DK → Prop := fun x C P => match x with
  | .str a => a.length ≤ 640 ∧ opt (PySem.intText? a) fun n => P (.int n) C
  | _ => False
theorem cl_intT : ClS K (fun xs H Q => ∃ a n, xs = [.str a] ∧ PySem.intText? a = some n ∧ a.length ≤ 640 ∧ Q (.int n) H) (d1 kIntT) := cl1 fun x v S P Q ok rx t w => by
  unfold kIntT at t
  split at t
  · simp only [R] at rx; subst rx
    obtain ⟨h, t⟩ := t
    obtain ⟨n, e, t⟩ := opt_of t
    exact ⟨_, n, rfl, e, h, w _ _ S (.refl ok) R_int t⟩
  · exact t.elim
def kAbs : D → Cells → DK → Prop := fun x C P => match x with
  | .int i => P (.int (if i < 0 then -i else i)) C
  | _ => False
theorem cl_abs : ClS K (fun xs H Q => ∃ i, xs = [.int i] ∧ Q (.int (if i < 0 then -i else i)) H) (d1 kAbs) := cl1 fun x v S P Q ok rx t w => by
  unfold kAbs at t
  split at t
  · simp only [R] at rx; subst rx
    exact ⟨_, rfl, w _ _ S (.refl ok) R_int t⟩
  · exact t.elim
def kI2 (g : Int → Int → Int) : D → D → Cells → DK → Prop := fun x y C P => match x, y with
  | .int i, .int j => P (.int (g i j)) C
  | _, _ => False
theorem cl_I2 {g : Int → Int → Int} : ClS K (fun xs H Q => ∃ i j, xs = [.int i, .int j] ∧ Q (.int (g i j)) H) (d2 (kI2 g)) := cl2 fun x y v u S P Q ok rx ry t w => by
  unfold kI2 at t
  split at t
  · simp only [R] at rx ry; subst rx ry
    exact ⟨_, _, rfl, w _ _ S (.refl ok) R_int t⟩
  · exact t.elim
def kMax := kI2 fun i j => if j > i then j else i
def kMin := kI2 fun i j => if j < i then j else i
/-- sum of a list of ints -/
def intsOf : List D → Option (List Int)
  | [] => some []
  | .int i :: r => (intsOf r).map (i :: ·)
  | _ :: _ => none
theorem intsOf_map (ns : List Int) : intsOf (ns.map D.int) = some ns := by
  induction ns with
  | nil => rfl
  | cons n ns ih => simp [intsOf, ih]
theorem intsOf_spec : ∀ {ds : List D} {ns : List Int}, intsOf ds = some ns → ds = ns.map D.int
  | [], ns, h => by simp [intsOf] at h; subst h; rfl
  | d :: ds, ns, h => by
    cases d with
    | int i =>
      simp only [intsOf, Option.map_eq_some_iff] at h
      obtain ⟨m, e, rfl⟩ := h
      rw [intsOf_spec e]; rfl
    | _ => simp [intsOf] at h
def kSum : D → Cells → DK → Prop := fun x C P => match vw C x with
  | .lst ds => opt (intsOf ds) fun ns => P (.int ns.sum) C
  | _ => False
theorem cl_sum : ClS K (rSum K) (d1 kSum) := cl1 fun x v S P Q ok rx t w => by
  unfold kSum at t
  split at t
  · rename_i ds e
    obtain ⟨a, vs, rfl, h1, h2⟩ := vw_lst ok rx e
    obtain ⟨ns, en, t⟩ := opt_of t
    rw [intsOf_spec en] at h2
    have := h2.ints
    subst this
    exact ⟨a, ns, rfl, SqL.of h1, w _ _ S (.refl ok) R_int t⟩
  · exact t.elim
/-- isinstance with a built-in class -/
def tyD : D → Option String
  | .non => some "NoneType"
  | .bl _ => some "bool"
  | .int _ => some "int"
  | .str _ => some "str"
  | .lst _ => some "list"
  | .tup _ => some "tuple"
  | .dic _ => some "dict"
  | _ => none
theorem tyD_ok {S : W} (ok : Ok K S) {x : D} {v : V} {n : String} (rx : R K S.hs x v) (h : tyD (vw S.c x) = some n) : TyX K S.h v (.type n) := by
  have fin : ∀ y, vw S.c x = y → (∀ b, y ≠ .cell b) → (∀ b, y ≠ .lst b) → (∀ b, y ≠ .dic b) → (∀ b, y ≠ .tup b) → (∀ b c, y ≠ .ins b c) → x = y := fun y e n0 n1 n2 n3 n4 => by
    cases x with
    | cell b =>
      simp only [vw] at e
      split at e
      · exact absurd e.symm (n1 _)
      · exact absurd e.symm (n2 _)
      · exact absurd e.symm (n4 _ _)
      · exact absurd e.symm (n0 _)
    | _ => exact e
  cases e : vw S.c x with
  | non => rw [e] at h; cases h; have q := fin _ e nofun nofun nofun nofun nofun; subst q; simp only [R] at rx; subst rx; exact .base .non
  | bl b => rw [e] at h; cases h; have q := fin _ e nofun nofun nofun nofun nofun; subst q; simp only [R] at rx; subst rx; exact .base (.bl b)
  | int b => rw [e] at h; cases h; have q := fin _ e nofun nofun nofun nofun nofun; subst q; simp only [R] at rx; subst rx; exact .base (.int b)
  | str b => rw [e] at h; cases h; have q := fin _ e nofun nofun nofun nofun nofun; subst q; simp only [R] at rx; subst rx; exact .base (.str b)
  | lst ds => rw [e] at h; cases h; obtain ⟨a, vs, rfl, h1, h2⟩ := vw_lst ok rx e; exact .base (.lst h1)
  | tup ds => rw [e] at h; cases h; obtain ⟨a, vs, rfl, h1, h2⟩ := vw_tup ok rx e; exact .base (.tup h1)
  | dic ds =>
    rw [e] at h; cases h
    obtain ⟨a, o, kvs, rfl, h1, h2, h3⟩ := vw_dic ok rx e
    rcases rd_core h1 h2 with q | ⟨ob, q⟩
    · exact .base (.dK q)
    · exact .fDict q
  | _ => rw [e] at h; cases h
def kIsi (n : String) : D → D → Cells → DK → Prop := fun x y C P => match y with
  | .val (.ty m) => m = n ∧ opt (tyD (vw C x)) fun t => opt (kitB t n) fun b => P (.bl b) C
  | _ => False
theorem cl_isi {n : String} : ClS K (rIsi K) (d2 (kIsi n)) := cl2 fun x y v u S P Q ok rx ry t w => by
  unfold kIsi at t
  split at t
  · simp only [R] at ry; subst ry
    obtain ⟨rfl, t⟩ := t
    obtain ⟨ty, e1, t⟩ := opt_of t
    obtain ⟨b, e2, t⟩ := opt_of t
    exact ⟨v, _, _, _, b, rfl, .ty _, tyD_ok ok rx e1, kit_ty e2, w _ _ S (.refl ok) R_bl t⟩
  · exact t.elim
theorem kitB_ss : kitB "str" "str" = some true := by decide +kernel
theorem kitB_is : kitB "int" "str" = some false := by decide +kernel
theorem kitB_ii : kitB "int" "int" = some true := by decide +kernel
theorem kitB_ib : kitB "int" "bool" = some false := by decide +kernel
theorem kitB_si : kitB "str" "int" = some false := by decide +kernel
theorem kitB_tt : kitB "tuple" "tuple" = some true := by decide +kernel
theorem kitB_ll : kitB "list" "list" = some true := by decide +kernel
theorem kitB_dd : kitB "dict" "dict" = some true := by decide +kernel
theorem kitB_tl : kitB "tuple" "list" = some false := by decide +kernel
theorem kitB_lt : kitB "list" "tuple" = some false := by decide +kernel
theorem kitB_ts : kitB "tuple" "str" = some false := by decide +kernel
theorem kitB_bb : kitB "bool" "bool" = some true := by decide +kernel
theorem kitB_bi : kitB "bool" "int" = some true := by decide +kernel
/-- isinstance with an own class: of its own instances -/
structure ClsI (K : PySem.W.Frag) (C : Addr) : Prop where
  cl : Cls K C
  ha : PySem.W.findIn K (.ref C) "__class__" = some (some (.builtin "object.__class__"))
  hn : PySem.W.specialIn K (.builtin "object.__class__") "__get__" = some (some (.builtin "getset_descriptor.__get__"))
  htk : PySem.W.takesIn K (.builtin "object.__class__") = some true
  hm : PySem.W.mroIn K C (.type "object") = some true
def kIsO (C0 : Addr) : D → D → Cells → DK → Prop := fun x y C P => match vw C x, y with
  | .ins c _, .val (.ref m) => c = C0 ∧ m = C0 ∧ P (.bl true) C
  | _, _ => False
theorem cl_isO {C0 : Addr} (ci : ClsI K C0) : ClS K (rIsi K) (d2 (kIsO C0)) := cl2 fun x y v u S P Q ok rx ry t w => by
  unfold kIsO at t
  split at t
  · rename_i c fds m e
    simp only [R] at ry; subst ry
    obtain ⟨rfl, rfl, t⟩ := t
    obtain ⟨a, dx, fs, rfl, h1, h2⟩ := vw_ins ok rx e
    exact ⟨_, _, _, _, true, rfl, .own _, .base (.ins h1 ci.cl ci.ha ci.hn ci.htk ci.hm), by simp [PySem.W.kitOne], w _ _ S (.refl ok) R_bl t⟩
  · exact t.elim
end

/-! ### methods of built-ins -/
abbrev DM := D → List D → Cells → DK → Prop
def MtS (K : PySem.W.Frag) (r : V → List V → Hp → VK → Prop) (m : DM) : Prop := ∀ x ds v vs S P Q, Ok K S → R K S.hs x v → RA K S.hs ds vs → m x ds S.c P → Wish K S P Q → r v vs S.h Q
def tyM (T : String) (x : D) (C : Cells) : Prop := match vw C x with
  | .lst _ => T = "list"
  | .str _ => T = "str"
  | .int _ => T = "int"
  | _ => False
theorem tyM_ok {K : PySem.W.Frag} {S : W} (ok : Ok K S) {T : String} {x : D} {v : V} (rx : R K S.hs x v) (h : tyM T x S.c) : tyV K T v S.h := by
  unfold tyM at h
  split at h
  · rename_i ds e
    obtain ⟨a, vs, rfl, h1, h2⟩ := vw_lst ok rx e
    exact .inl ⟨h, vs, SqL.of h1⟩
  · rename_i z e
    rw [vw_str e] at rx
    simp only [R] at rx; subst rx
    exact h
  · rename_i z e
    rw [vw_int e] at rx
    simp only [R] at rx; subst rx
    exact h
  · exact h.elim
def dBM (T : String) (m : DM) (t : DT) (a : DA) : DT := fun ρ C P => t ρ C fun x C1 => tyM T x C1 ∧ a ρ C1 fun ds C2 => m x ds C2 P
section
variable {X : Cx} {K : PySem.W.Frag} {o e : Expr} {es : List Expr} {to : DT} {t : DA} {name : Str} {apos cpos : Pos} {T id : String} {r : V → List V → Hp → VK → Prop} {m : DM}
theorem de_bm (pa : PlainAttrs T) (slot : Slot T name id) (hty : typeOf (.builtin id) = pure (.type "method_descriptor")) (hm : MtR X id r) (hs : MtS X.K r m) (ho : DE X o to) (ha : DAs X (e :: es) t)
    (hbase : attributeBase o name X.env (eval o X.env) = eval o X.env := by rfl)
    (hfew : ((backTo cpos (starEach (e :: es) X.env)).all (fun x => !x.1) && (backToKw cpos (keywordEach [] X.env)).all (fun x => x.1.isSome)
      && decide ((e :: es).length + ([] : List Keyword).length + (if ([] : List Keyword).isEmpty then 0 else 1) < 30)) = true := by rfl)
    (hline : (apos.endLine == cpos.line) = true := by rfl) (hse : starEach (e :: es) X.env = (false, eval e X.env) :: starEach es X.env := by rfl) (hplain : (backTo cpos (starEach es X.env)).any (·.1) = false := by rfl) :
    DE X (.Call (.Attribute o name apos) (e :: es) [] cpos) (dBM T m to t) :=
  pe_weak (pe_bm pa slot hty hm ho ha hbase hfew hline hse hplain) fun σ H Q q => by
    obtain ⟨ρ, S, P, rfl, s, r, t, w⟩ := q
    refine ⟨ρ, S, _, rfl, s, r, t, fun v x S1 e1 rx t1 => ⟨tyM_ok e1.ok rx t1.1, ?_⟩⟩
    refine ⟨ρ, S1, _, rfl, s.ext e1.ext, e1.ok, t1.2, fun vs ds S2 e2 rs t2 => ?_⟩
    exact hs x ds v vs S2 P Q e2.ok (R.ext e2.ext _ _ rx) rs t2 (w.st (e1.trans e2))
/-- xs.append(e) of a cell -/
def mAppend : DM := fun x ds C P => match x, ds with
  | .cell a, [y] => (match C a with
    | some (.lst xs) => xs.length < 1000000 ∧ P .non (cset C a (.lst (xs ++ [y])))
    | _ => False)
  | _, _ => False
theorem ms_append : MtS K rAppend mAppend := by
  intro x ds v vs S P Q ok rx rs t w
  unfold mAppend at t
  split at t
  · rename_i a y
    split at t
    · rename_i xs e
      simp only [R] at rx; subst rx
      simp only [RA] at rs
      obtain ⟨u, _, rfl, r1, rfl⟩ := rs
      obtain ⟨_, us, h1, h2⟩ := ok.cell a _ e
      refine ⟨a, us, u, rfl, rfl, h1, by rw [h2.len, sizeLine_eq]; omega, ?_⟩
      have st := ok.setC (o := .lst (us ++ [u])) (c := .lst (xs ++ [y])) e ⟨_, upd_same, h2.append (RA.cons r1 RA.nil)⟩
      exact w _ _ _ st R_non t.2
    · exact t.elim
  · exact t.elim
/-- xs.insert(i, e) of a cell -/
def mInsert : DM := fun x ds C P => match x, ds with
  | .cell a, [.int i, y] => (match C a with
    | some (.lst xs) => xs.length < 1000000 ∧ 0 ≤ i ∧ i < 1000000 ∧ P .non (cset C a (.lst (xs.take i.toNat ++ [y] ++ xs.drop i.toNat)))
    | _ => False)
  | _, _ => False
theorem ms_insert : MtS K (fun x vs H Q => ∃ (l : Addr) (xs : List V) (i : Int) (y : V), x = .ref l ∧ vs = [.int i, y] ∧ H l = some (.lst xs) ∧ xs.length < sizeLine ∧ 0 ≤ i ∧ i < 2 ^ 63 ∧
    Q .non (upd H l (.lst (xs.take i.toNat ++ [y] ++ xs.drop i.toNat)))) mInsert := by
  intro x ds v vs S P Q ok rx rs t w
  unfold mInsert at t
  split at t
  · rename_i a i y
    split at t
    · rename_i xs e
      simp only [R] at rx; subst rx
      simp only [RA, R] at rs
      obtain ⟨u, _, rfl, rfl, u2, _, rfl, r2, rfl⟩ := rs
      obtain ⟨_, us, h1, h2⟩ := ok.cell a _ e
      obtain ⟨z, z0, z1, t⟩ := t
      refine ⟨a, us, i, u2, rfl, rfl, h1, by rw [h2.len, sizeLine_eq]; omega, z0, by omega, ?_⟩
      have st := ok.setC (o := .lst (us.take i.toNat ++ [u2] ++ us.drop i.toNat)) (c := .lst (xs.take i.toNat ++ [y] ++ xs.drop i.toNat)) e ⟨_, upd_same, ((h2.take _).append (RA.cons r2 RA.nil)).append (h2.drop _)⟩
      exact w _ _ _ st R_non t
    · exact t.elim
  · exact t.elim
/-- s.startswith(t, i) -/
def mStarts3 : DM := fun x ds C P => match x, ds with
  | .str a, [.str b, .int i] => P (.bl (Txt.startswith3 a b i)) C
  | _, _ => False
theorem ms_starts3 : MtS K (fun x xs H Q => ∃ (a b : Str) (i : Int), x = .str a ∧ xs = [.str b, .int i] ∧ Q (.bl (Txt.startswith3 a b i)) H) mStarts3 := by
  intro x ds v vs S P Q ok rx rs t w
  unfold mStarts3 at t
  split at t
  · simp only [R] at rx; subst rx
    simp only [RA, R] at rs
    obtain ⟨u, _, rfl, rfl, u2, _, rfl, rfl, rfl⟩ := rs
    exact ⟨_, _, _, rfl, rfl, w _ _ S (.refl ok) R_bl t⟩
  · exact t.elim
/-- sep.join(texts) -/
def strsOf : List D → Option (List Str)
  | [] => some []
  | .str i :: r => (strsOf r).map (i :: ·)
  | _ :: _ => none
theorem strsOf_map (ns : List Str) : strsOf (ns.map D.str) = some ns := by
  induction ns with
  | nil => rfl
  | cons n ns ih => simp [strsOf, ih]
theorem strsOf_spec : ∀ {ds : List D} {ns : List Str}, strsOf ds = some ns → ds = ns.map D.str
  | [], ns, h => by simp [strsOf] at h; subst h; rfl
  | d :: ds, ns, h => by
    cases d with
    | str i =>
      simp only [strsOf, Option.map_eq_some_iff] at h
      obtain ⟨m, e, rfl⟩ := h
      rw [strsOf_spec e]; rfl
    | _ => simp [strsOf] at h
def mJoin : DM := fun x ds C P => match x, ds with
  | .str a, [y] => (match vw C y with
    | .lst xs => opt (strsOf xs) fun ys => (ys.map (·.length)).sum + ys.length * a.length ≤ 16777216 ∧ P (.str (Txt.join a ys)) C
    | _ => False)
  | _, _ => False
theorem ms_join : MtS K (fun x xs H Q => ∃ a p, ∃ ys : List Str, x = .str a ∧ xs = [.ref p] ∧ (SqL K H p (ys.map V.str) ∨ SqT K H p (ys.map V.str)) ∧
    (ys.map (·.length)).sum + ys.length * a.length ≤ 16777216 ∧ Q (.str (Txt.join a ys)) H) mJoin := by
  intro x ds v vs S P Q ok rx rs t w
  unfold mJoin at t
  split at t
  · simp only [R] at rx; subst rx
    simp only [RA] at rs
    obtain ⟨u, _, rfl, r1, rfl⟩ := rs
    split at t
    · rename_i xs e
      obtain ⟨a, vs, rfl, h1, h2⟩ := vw_lst ok r1 e
      obtain ⟨ys, ey, z, t⟩ := opt_of t
      rw [strsOf_spec ey] at h2
      have := h2.strs
      subst this
      exact ⟨_, a, ys, rfl, rfl, .inl (SqL.of h1), z, w _ _ S (.refl ok) R_str t⟩
    · exact t.elim
  · exact t.elim
/-- n.bit_length() -/
def dBits (t : DT) : DT := fun ρ C P => t ρ C fun x C1 => match x with
  | .int i => P (.int (Builtin.Int.intBits i : Nat)) C1
  | _ => False
theorem de_bits (ho : DE X o to) (hbase : attributeBase o "bit_length" X.env (eval o X.env) = eval o X.env := by rfl) (hline : (apos.endLine == cpos.line) = true := by rfl) : DE X (.Call (.Attribute o "bit_length" apos) [] [] cpos) (dBits to) :=
  pe_weak (pe_bits ho hbase hline) fun σ H Q q => by
    obtain ⟨ρ, S, P, rfl, s, r, t, w⟩ := q
    refine ⟨ρ, S, _, rfl, s, r, t, fun v x S1 e1 rx t1 => ?_⟩
    cases x with
    | int i => exact ⟨i, by simpa [R] using rx, w _ _ S1 e1 R_int t1⟩
    | _ => exact t1.elim
end

/-! ### chains -/
def dChain (r r' : D2) (a b c : DT) : DT := fun ρ C P => a ρ C fun x C1 => b ρ C1 fun y C2 => r x y C2 fun z C3 => asB z fun k => if k = true then c ρ C3 fun w C4 => r' y w C4 P else P (.bl false) C3
theorem lift_chain {K : PySem.W.Frag} {q q' : R2} {r r' : D2} {a b c : DT} (h : OpS K q r) (h' : OpS K q' r') {σ : St} {H : Hp} {Q : VK} (z : liftE K (dChain r r' a b c) σ H Q) : tChain q q' (liftE K a) (liftE K b) (liftE K c) σ H Q := by
  obtain ⟨ρ, S, P, rfl, s, rp, t, w⟩ := z
  refine ⟨ρ, S, _, rfl, s, rp, t, fun v x S1 e1 rx t1 => ?_⟩
  refine ⟨ρ, S1, _, rfl, s.ext e1.ext, e1.ok, t1, fun u y S2 e2 ry t2 => ?_⟩
  refine h x y v u S2 _ _ e2.ok (R.ext e2.ext _ _ rx) ry t2 fun z d S3 e3 rz t3 => ?_
  cases d with
  | bl k =>
    refine ⟨k, by simpa [R] using rz, ?_⟩
    cases k with
    | true =>
      rw [if_pos rfl]
      refine ⟨ρ, S3, _, rfl, (s.ext e1.ext).ext (e2.trans e3).ext, e3.ok, by simpa [asB] using t3, fun w' d' S4 e4 rw' t4 => ?_⟩
      exact h' y d' u w' S4 P Q e4.ok (R.ext (e3.trans e4).ext _ _ ry) rw' t4 (w.st (e1.trans (e2.trans (e3.trans e4))))
    | false =>
      rw [if_neg Bool.false_ne_true]
      exact w (.bl false) (.bl false) S3 (e1.trans (e2.trans e3)) R_bl (by simpa [asB] using t3)
  | _ => exact t3.elim
section
variable {X : Cx} {a b c : Expr} {ta tb tc : DT} {pos : Pos}
theorem de_chain {op op' : CmpOp} {q q' : R2} {r r' : D2} (ho : OpR X (compareOp op) q) (ho' : OpR X (compareOp op') q') (h : OpS X.K q r) (h' : OpS X.K q' r') (ha : DE X a ta) (hb : DE X b tb) (hc : DE X c tc)
    (hm : lastMarks [op, op'] [b, c] = false := by with_unfolding_all rfl) : DE X (.Compare a [op, op'] [b, c] pos) (dChain r r' ta tb tc) :=
  pe_weak (pe_chain ho ho' ha hb hc hm) fun σ H Q z => lift_chain h h' z
end
end DL

set_option Elab.async false
set_option linter.all false
set_option maxRecDepth 100000
set_option maxHeartbeats 1000000
namespace DL
open PySem L2

/-! ### a cell becomes shared -/
def frz1 (d : D) (C : Cells) (P : DK) : Prop := match d with
  | .cell a => (match C a with
    | some (.lst ds) => P (.lst ds) (cdel C a)
    | some (.dic k) => P (.dic k) (cdel C a)
    | some (.ins c f) => P (.ins c f) (cdel C a)
    | _ => P d C)
  | d => P d C
theorem frz1_ok {K : PySem.W.Frag} {S : W} {d : D} {v : V} {P : DK} {Q : VK} (ok : Ok K S) (rd : R K S.hs d v) (t : frz1 d S.c P) (w : Wish K S P Q) : Q v S.h := by
  unfold frz1 at t
  split at t
  · rename_i a
    simp only [R] at rd; subst rd
    split at t
    · rename_i ds e
      obtain ⟨_, vs, h1, h2⟩ := ok.cell a _ e
      have st := ok.share e h1
      exact w _ (.lst ds) ⟨upd S.hs a (.lst vs), cdel S.c a, S.h⟩ st (by simp only [R]; exact ⟨a, vs, rfl, upd_same, RA.ext st.ext _ _ h2⟩) t
    · rename_i ds e
      obtain ⟨_, vs, h1, h2⟩ := ok.cell a _ e
      have st := ok.share e h1
      exact w _ (.dic ds) ⟨upd S.hs a (.dK vs), cdel S.c a, S.h⟩ st (by simp only [R]; exact ⟨a, _, vs, rfl, upd_same, rfl, RK.ext st.ext _ _ h2⟩) t
    · rename_i c ds e
      obtain ⟨_, dx, vs, h1, h2⟩ := ok.cell a _ e
      have st := ok.share e h1
      exact w _ (.ins c ds) ⟨upd S.hs a (.ins c dx vs), cdel S.c a, S.h⟩ st (by simp only [R]; exact ⟨a, dx, vs, rfl, upd_same, RF.ext st.ext _ _ h2⟩) t
    · exact w _ _ S (.refl ok) (by simp only [R]) t
  · exact w _ _ S (.refl ok) rd t
def dFz (t : DT) : DT := fun ρ C P => t ρ C fun d C1 => frz1 d C1 P
theorem de_fz {X : Cx} {e : Expr} {t : DT} (h : DE X e t) : DE X e (dFz t) := pe_weak h fun σ H Q q => by
  obtain ⟨ρ, S, P, rfl, s, r, t, w⟩ := q
  exact ⟨ρ, S, _, rfl, s, r, t, fun v d S1 e1 rd t1 => frz1_ok e1.ok rd t1 (w.st e1)⟩
/-- ahead of a block: the name's cell is shared from here on -/
def dFzS (i : Nat) (t : DS) : DS := fun E ρ C => match slot ρ i with
  | some d => frz1 d C fun d' C' => t E (ρ.set i (some d')) C'
  | none => False
theorem dss_fz {X : Cx} {sts : List Stmt} {t : DS} (i : Nat) (h : DSs X sts t) : DSs X sts (dFzS i t) := pss_weak h fun F σ H q => by
  obtain ⟨ρ, S, E, rfl, s, r, t, w⟩ := q
  unfold dFzS at t
  split at t
  · rename_i d e
    have e' := (slot_eq ρ i d).mp e
    obtain ⟨v, h1, h2⟩ := s.get i d e'
    refine frz1_ok (Q := fun v' H' => v' = v → liftS X.K _ F σ H') r h2 t (fun v' d' S1 e1 rd t1 ev => ?_) rfl
    subst ev
    refine ⟨_, S1, E, rfl, (s.ext e1.ext).reword (fun u hu => ?_) ⟨d, e'⟩, e1.ok, t1, w.st e1⟩
    rw [h1] at hu; cases hu; exact rd
  · exact t.elim

/-! ### instances -/
section
variable {K : PySem.W.Frag} {Hs : Hp}
def fget (f : Str) : List (Str × D) → Option D
  | [] => none
  | (g, d) :: r => if f = g then some d else fget f r
def fput (f : Str) (d : D) : List (Str × D) → List (Str × D)
  | [] => [(f, d)]
  | (g, e) :: r => if g = f then (g, d) :: r else (g, e) :: fput f d r
theorem lookup_if {f g : Str} {v : V} {r : List (Str × V)} : ((g, v) :: r).lookup f = if f = g then some v else r.lookup f := by
  rw [List.lookup_cons]
  by_cases h : f = g
  · rw [if_pos h, h]; simp
  · rw [if_neg h]
    have : (f == g) = false := by simpa using h
    rw [this]
theorem RF.get : ∀ {fds : List (Str × D)} {fs : List (Str × V)} {f : Str}, RF K Hs fds fs → (∀ d, fget f fds = some d → ∃ v, fs.lookup f = some v ∧ R K Hs d v) ∧ (fget f fds = none → fs.lookup f = none)
  | [], fs, f, h => by simp only [RF] at h; subst h; exact ⟨fun d e => by simp [fget] at e, fun _ => rfl⟩
  | (g, d0) :: r, fs, f, h => by
    simp only [RF] at h
    obtain ⟨v, s, rfl, h1, h2⟩ := h
    obtain ⟨k1, k2⟩ := RF.get (f := f) h2
    rw [lookup_if]
    by_cases e : f = g
    · simp only [fget, if_pos e]
      exact ⟨fun d q => by cases q; exact ⟨v, rfl, h1⟩, fun q => by cases q⟩
    · simp only [fget, if_neg e]
      exact ⟨k1, k2⟩
theorem RF.put : ∀ {fds : List (Str × D)} {fs : List (Str × V)} {f : Str} {d : D} {v : V}, RF K Hs fds fs → R K Hs d v → RF K Hs (fput f d fds) (putF f v fs)
  | [], fs, f, d, v, h, k => by simp only [RF] at h; subst h; simp only [fput, putF, RF]; exact ⟨v, [], rfl, k, rfl⟩
  | (g, d0) :: r, fs, f, d, v, h, k => by
    simp only [RF] at h
    obtain ⟨u, s, rfl, h1, h2⟩ := h
    by_cases e : g = f
    · simp only [fput, putF, if_pos e, RF]
      exact ⟨v, s, rfl, k, h2⟩
    · simp only [fput, putF, if_neg e, RF]
      exact ⟨u, _, rfl, h1, RF.put h2 k⟩
theorem RF.len : ∀ {fds : List (Str × D)} {fs : List (Str × V)}, RF K Hs fds fs → fs.length = fds.length
  | [], fs, h => by simp only [RF] at h; subst h; rfl
  | (g, d0) :: r, fs, h => by
    simp only [RF] at h
    obtain ⟨u, s, rfl, h1, h2⟩ := h
    simp [RF.len h2]
end
section
variable {X : Cx} {o e value : Expr} {es : List Expr} {to tv : DT} {t : DA} {f m : Str} {pos pos' apos : Pos} {C0 fA : Addr} {k : Nat} {dds : List D} {sp : DSp}
/-- o.f -/
def dFld (C0 : Addr) (f : Str) (t : DT) : DT := fun ρ C P => t ρ C fun x C1 => match vw C1 x with
  | .ins c fds => c = C0 ∧ opt (fget f fds) fun d => P d C1
  | _ => False
theorem de_fld (hc : Cls X.K C0) (hn : NoAttr X.K C0 f) (ho : DE X o to) (hb : attributeBase o f X.env (eval o X.env) = eval o X.env := by rfl) : DE X (.Attribute o f pos) (dFld C0 f to) :=
  pe_weak (pe_fld ho hb) fun σ H Q q => by
    obtain ⟨ρ, S, P, rfl, s, r, t, w⟩ := q
    refine ⟨ρ, S, _, rfl, s, r, t, fun v x S1 e1 rx t1 => ?_⟩
    split at t1
    · rename_i c fds e
      obtain ⟨rfl, t1⟩ := t1
      obtain ⟨d, ed, t1⟩ := opt_of t1
      obtain ⟨a, dx, fs, rfl, h1, h2⟩ := vw_ins e1.ok rx e
      obtain ⟨u, k1, k2⟩ := (h2.get (f := f)).1 d ed
      exact ⟨a, c, dx, fs, u, rfl, h1, hc, hn, k1, w _ d S1 e1 k2 t1⟩
    · exact t1.elim
/-- o.f = e, o a cell -/
def dSetFld (C0 : Addr) (f : Str) (to tv : DT) : DS := fun E ρ C => tv ρ C fun y C1 => to ρ C1 fun x C2 => match x with
  | .cell a => (match C2 a with
    | some (.ins c fds) => c = C0 ∧ fds.length < 1000 ∧ E.nx ρ (cset C2 a (.ins c (fput f y fds)))
    | _ => False)
  | _ => False
theorem ds_setfld (hc : Cls X.K C0) (hn : NoAttr X.K C0 f) (ho : DE X o to) (hv : DE X value tv) (hs : swapsWith value (some (.Attribute o f pos')) pos.line X.env = pure false := by rfl) : DSt X (.Assign [.Attribute o f pos'] value pos) (dSetFld C0 f to tv) :=
  ps_weak (ps_fld ho hv hs) fun F σ H q => by
    obtain ⟨ρ, S, E, rfl, s, r, t, w⟩ := q
    refine ⟨ρ, S, _, rfl, s, r, t, fun u y S1 e1 ry t1 => ?_⟩
    refine ⟨ρ, S1, _, rfl, s.ext e1.ext, e1.ok, t1, fun v x S2 e2 rx t2 => ?_⟩
    split at t2
    · rename_i a
      simp only [R] at rx; subst rx
      split at t2
      · rename_i c fds e
        obtain ⟨rfl, hl, t2⟩ := t2
        obtain ⟨_, dx, fs, h1, h2⟩ := e2.ok.cell a _ e
        have ry' := R.ext e2.ext _ _ ry
        have st := e2.ok.setC (o := .ins c dx (putF f u fs)) (c := .ins c (fput f y fds)) e ⟨dx, _, upd_same, h2.put ry'⟩
        exact ⟨a, c, dx, fs, rfl, h1, hc, hn, by rw [h2.len]; exact hl, w.nx ρ σ _ (e1.trans (e2.trans st)) (s.ext (e1.trans (e2.trans st)).ext) t2⟩
      · exact t2.elim
    · exact t2.elim
/-- o.m(..) -/
def dMth (C0 : Addr) (m : Str) (sp : DSp) (dds : List D) (to : DT) (t : DA) : DT := fun ρ C P => to ρ C fun x C1 => match vw C1 x with
  | .ins c fds => c = C0 ∧ fget m fds = none ∧ t ρ C1 fun ds C2 => sp (x :: (ds ++ dds)) C2 P
  | _ => False
theorem lift_mth {K : PySem.W.Frag} {dvs : List V} (hd : ∀ Hs, RA K Hs dds dvs) {E : XK} {σ : St} {H : Hp} {Q : VK} (q : liftE K (dMth C0 m sp dds to t) σ H Q) : tMeth C0 m (spOf K sp) dvs E (liftE K to) (liftA K t) σ H Q := by
  obtain ⟨ρ, S, P, rfl, s, r, t, w⟩ := q
  refine ⟨ρ, S, _, rfl, s, r, t, fun v x S1 e1 rx t1 => ?_⟩
  split at t1
  · rename_i c fds e
    obtain ⟨rfl, hm, t1⟩ := t1
    obtain ⟨a, dx, fs, rfl, h1, h2⟩ := vw_ins e1.ok rx e
    refine ⟨a, dx, fs, rfl, h1, (h2.get (f := m)).2 hm, ρ, S1, _, rfl, s.ext e1.ext, e1.ok, t1, fun vs ds S2 e2 rs t2 => ?_⟩
    exact ⟨x :: (ds ++ dds), S2, P, rfl, RA.cons (R.ext e2.ext _ _ rx) (rs.append (hd _)), e2.ok, t2, w.st (e1.trans e2)⟩
  · exact t1.elim
theorem de_mth {pl : Sem Bool} (c : Fn X.prog X.w X.K X.mg X.base k fA dds sp) (hcl : Cls X.K C0) (hm : Meth X.K C0 m fA) (hr : Room k X.A) (ho : DE X o to) (ha : DAs X (e :: es) t)
    (he : starEach (e :: es) X.env = (false, eval e X.env) :: starEach es X.env := by rfl) (hpl : (backTo pos (starEach es X.env)).any (·.1) = false := by rfl)
    (ht : eval (.Call (.Attribute o m apos) (e :: es) [] pos) X.env = (do let q ← eval o X.env; standAt apos.atName; let (g, first) ← holding [q] (getMethod q m pl); callWith pos g first (backTo pos (starEach (e :: es) X.env)) (backToKw pos (keywordEach [] X.env))) := by rfl) :
    DE X (.Call (.Attribute o m apos) (e :: es) [] pos) (dMth C0 m sp dds to t) := by
  obtain ⟨fd, ps, ds, dvs, hk, hb', hd, hdd, F⟩ := c.ex
  exact pe_weak (pe_meth (pl := pl) ho hcl hm F hr hb' hd pass0 ha he hpl ht) fun σ H Q q => lift_mth hdd q
theorem lift_nil {K : PySem.W.Frag} {σ : St} {H : Hp} {Q : List V → Hp → Prop} (q : liftA K dNil σ H Q) : tNil σ H Q := by
  obtain ⟨ρ, S, P, rfl, s, r, t, w⟩ := q
  exact w [] [] S (.refl r) RA.nil t
theorem de_mth0 {pl : Sem Bool} (c : Fn X.prog X.w X.K X.mg X.base k fA dds sp) (hcl : Cls X.K C0) (hm : Meth X.K C0 m fA) (hr : Room k X.A) (ho : DE X o to)
    (ht : eval (.Call (.Attribute o m apos) [] [] pos) X.env = (do let q ← eval o X.env; standAt apos.atName; let (g, first) ← holding [q] (getMethod q m pl); callWith pos g first (backTo pos (starEach [] X.env)) (backToKw pos (keywordEach [] X.env))) := by rfl) :
    DE X (.Call (.Attribute o m apos) [] [] pos) (dMth C0 m sp dds to dNil) := by
  obtain ⟨fd, ps, ds, dvs, hk, hb', hd, hdd, F⟩ := c.ex
  refine pe_weak (pe_meth0 (pl := pl) ho hcl hm F hr hb' hd pass0 ht) fun σ H Q q => ?_
  have z := lift_mth (dvs := dvs) (E := E0) hdd q
  unfold tMeth at z ⊢
  obtain ⟨ρ, S, P, rfl, s, r, t, w⟩ := z
  refine ⟨ρ, S, P, rfl, s, r, t, fun v x S1 e1 rx t1 => ?_⟩
  obtain ⟨a, dx, fs, g1, g2, g3, g4⟩ := w v x S1 e1 rx t1
  exact ⟨a, dx, fs, g1, g2, g3, lift_nil g4⟩
/-- C(..): the new instance is a cell -/
def dMake (C0 : Addr) (sp : DSp) (dds : List D) (t : DA) : DT := fun ρ C P => t ρ C fun ds C1 => ∀ a, C1 a = none → sp (.cell a :: (ds ++ dds)) (cset C1 a (.ins C0 [])) fun d C2 => d = .non ∧ P (.cell a) C2
theorem Ok.own {K : PySem.W.Frag} {S : W} (ok : Ok K S) {p : Addr} {o : HO} (h : S.h p = none) : Step K S ⟨S.hs, S.c, upd S.h p o⟩ :=
  ⟨Ext.refl _, fun b u h1 h2 h3 => ⟨(upd_ne (ne_of_none h1 h)).trans h1, h2, h3⟩, ok.other (ok.fresh h) (ok.freshC h)⟩
theorem lift_make {K : PySem.W.Frag} {dvs : List V} (hd : ∀ Hs, RA K Hs dds dvs) {E : XK} {σ : St} {H : Hp} {Q : VK} (q : liftE K (dMake C0 sp dds t) σ H Q) : tMake C0 (spOf K sp) dvs E (liftA K t) σ H Q := by
  obtain ⟨ρ, S, P, rfl, s, r, t, w⟩ := q
  refine ⟨ρ, S, _, rfl, s, r, t, fun vs ds S1 e1 rs t1 => fun x dx hx hdx hne => ?_⟩
  have st1 := e1.ok.own (o := .own x) hdx
  have st2 : Step K _ _ := st1.ok.newC (a := x) (o := .ins C0 dx []) (c := .ins C0 []) (show upd S1.h dx (.own x) x = none by rw [upd_ne hne.symm]; exact hx) ⟨dx, [], upd_same, by simp only [RF]⟩
  refine ⟨.cell x :: (ds ++ dds), _, _, rfl, RA.cons (by simp only [R]) ((RA.ext (st1.trans st2).ext _ _ rs).append (hd _)), st2.ok, t1 x (e1.ok.freshC hx), fun v d S2 e2 rd t2 => ?_⟩
  obtain ⟨rfl, t2⟩ := t2
  simp only [R] at rd
  exact ⟨rd, w _ (.cell x) S2 (e1.trans (st1.trans (st2.trans e2))) (by simp only [R]) t2⟩
theorem de_make {x : Str} {p : Pos} (M : Mk X.K C0 fA) (c : Fn X.prog X.w X.K X.mg X.base k fA dds sp) (hm : X.mg x = some (.ref C0)) (hr : Room (k + 1) X.A) (ha : DAs X (e :: es) t) (hg : Gl X x := by rfl) (hdb : (x == ("__debug__" : Str)) = false := by decide)
    (he : starEach (e :: es) X.env = (false, eval e X.env) :: starEach es X.env := by rfl) (hpl : (backTo pos (starEach es X.env)).any (·.1) = false := by rfl) : DE X (.Call (.Name x p) (e :: es) [] pos) (dMake C0 sp dds t) := by
  obtain ⟨fd, ps, ds, dvs, hk, hb', hd, hdd, F⟩ := c.ex
  exact pe_weak (pe_make M F hr hg hm hb' hd pass0 ha hdb he hpl) fun σ H Q q => lift_make hdd q
/-- a local name that holds a def -/
def dCallL (i : Nat) (f : Addr) (sp : DSp) (dds : List D) (t : DA) : DT := fun ρ C P => slot ρ i = some (.val (.ref f)) ∧ t ρ C fun ds C1 => sp (ds ++ dds) C1 P
theorem de_callL {i : Nat} {x : Str} {p : Pos} (c : Fn X.prog X.w X.K X.mg X.base k fA dds sp) (hr : Room k X.A) (ha : DAs X (e :: es) t) (hN : X.N[i]? = some x := by rfl) (hv : Vis X.env.scope x := by first | exact Or.inl rfl | exact Or.inr (Or.inl rfl) | exact Or.inr (Or.inr rfl)) (hdb : (x == ("__debug__" : Str)) = false := by decide) (hcd : (x == ("__classdict__" : Str)) = false := by decide)
    (he : starEach (e :: es) X.env = (false, eval e X.env) :: starEach es X.env := by rfl) (hpl : (backTo pos (starEach es X.env)).any (·.1) = false := by rfl) : DE X (.Call (.Name x p) (e :: es) [] pos) (dCallL i fA sp dds t) := by
  obtain ⟨fd, ps, ds, dvs, hk, hb', hd, hdd, F⟩ := c.ex
  refine pe_weak (pe_callL (i := i) F hr hN hv hk hb' hd pass0 ha hdb hcd he hpl) fun σ H Q q => ?_
  obtain ⟨ρ, S, P, rfl, s, r, ⟨ts, t⟩, w⟩ := q
  obtain ⟨v, h1, h2⟩ := s.get i _ ((slot_eq ρ i _).mp ts)
  simp only [R] at h2; subst h2
  refine ⟨h1, ρ, S, _, rfl, s, r, t, fun vs ds S1 e1 rs t1 => ?_⟩
  exact ⟨ds ++ dds, S1, P, rfl, rs.append (hdd _), e1.ok, t1, w.st e1⟩
/-- == of two instances by an own __eq__ -/
def dEqO (C0 : Addr) (sp : DSp) : D2 := fun x y C P => match vw C x, vw C y with
  | .ins c _, .ins c' _ => c = C0 ∧ c' = C0 ∧ sp [x, y] C P
  | _, _ => False
def rEqO (K : PySem.W.Frag) (C0 : Addr) (sp : Sp) : R2 := fun x y H Q => ∃ a b dx dy fs gs, x = .ref a ∧ y = .ref b ∧ H a = some (.ins C0 dx fs) ∧ H b = some (.ins C0 dy gs) ∧ sp [x, y] H (fun v H' => ∃ k, v = .bl k ∧ Q v H') fun _ _ _ => False
theorem op_eqO {fd : FuncData} {ps : List Str} {sp' : Sp} (F : FnOk X.prog X.w X.K X.mg X.base CX0 k fA fd ps sp') (hb : Binds X.K fd ps []) (hs : PySem.W.findIn X.K (.ref C0) "__eq__" = some (some (.ref fA))) (hf : PySem.W.isFn X.K (.ref fA) = true) (hr : Room k X.A) : OpR X (compareOp .Eq) (rEqO X.K C0 sp') := by
  intro pins s σ H x y v u Q I rx ry h
  obtain ⟨a, b, dx, dy, fs, gs, rfl, rfl, ha, hb', hsp⟩ := h
  cases rx
  cases ry
  obtain ⟨mA, J, _⟩ := ins_get I.hok ha
  obtain ⟨mB, J', _⟩ := ins_get I.hok hb'
  obtain ⟨od, J, _⟩ := J.look
  obtain ⟨od', J', _⟩ := J'.look
  obtain ⟨m, hF⟩ := I.fr
  show wpAny (model X.prog X.w) X.A (richCompare .Eq (.ref a) (.ref b)) (EP X pins σ Q) X.xe s
  refine PySem.W.cmp_K (op := .Eq) (tb := .ref C0) hr.units0 hF I.ok.mod.kin J J'.type (by simp [PySem.W.notFirst]) hs hf ?_
  refine wpAny_mono (run_fn (dvs := []) (ds := []) F hr hb .nil pass0 I (us := [.ref a, .ref b]) (vs := [.ref a, .ref b]) (.cons rfl (.cons rfl .nil)) hsp) (fun r s' z => ?_) fun _ _ z => z
  obtain ⟨v, H', I', rv, ⟨kk, rfl, q⟩⟩ := z
  cases rv
  exact ⟨.bl kk, H', I', rfl, q⟩
end
end DL

set_option Elab.async false
set_option linter.all false
set_option maxRecDepth 100000
set_option maxHeartbeats 1000000
namespace DL
open PySem PySem.Spec PyProof.Rows L2

/-! ### a def's body -/
/-- what a def's end wants; what is told of cells may change once more -/
def endsOf (P : DK) : DEnds := { nx := fun _ C' => ∃ C'', Gh C' C'' ∧ P .non C'', rt := fun d C' => ∃ C'', Gh C' C'' ∧ P d C'' }
def startD (N : List Str) (ds : List D) : Env := ds.map some ++ List.replicate (N.length - ds.length) none
theorem sl_start {K : PySem.W.Frag} {Hs : Hp} {N : List Str} {ds : List D} {vs : List V} (r : RA K Hs ds vs) : Sl K Hs (L2.start N vs) (startD N ds) := by
  unfold L2.start startD
  refine ⟨by simp [r.len], fun i d h => ?_⟩
  by_cases hi : i < ds.length
  · rw [List.getElem?_append_left (by simpa using hi), List.getElem?_map] at h
    cases e : ds[i]? with
    | none => rw [e] at h; cases h
    | some d' =>
      rw [e] at h; cases h
      obtain ⟨v, k1, k2⟩ := r.get e
      refine ⟨v, ?_, k2⟩
      rw [List.getElem?_append_left (by rw [List.length_map, r.len]; exact hi), List.getElem?_map, k1]
      rfl
  · rw [List.getElem?_append_right (by simpa using Nat.le_of_not_lt hi), List.getElem?_replicate] at h
    split at h <;> cases h
section
variable {P : Program} {w : World} {K : PySem.W.Frag} {mg : Str → Option Value} {base : Heap}
/-- THE RULE for a def: its body, walked over data -/
theorem fnd {x qual : Str} {st : Stmt} {f : Addr} {fd : FuncData} {N ps : List Str} {k : Nat} {p : DSp} {dds : List D} {dvs : List V} {ds : List Value} (F : Fun K x qual st f fd) (S : FnScope N ps (defScope st)) (hb : Binds K fd ps ds) (hd : Vals dvs ds) (hdd : ∀ Hs, RA K Hs dds dvs)
    (len : ∀ ds C Q, p ds C Q → ds.length = ps.length)
    (hbody : ∀ (cdv : Value) (A : Around) (outer : List PySem.Env) (s : Shared) (H : Hp) (E : XK), Room k (A.deeper (envOfC qual (defScope st) s.heap.objs.size f cdv)) →
      ∃ t, DSs (cxOf CX0 P w K mg base N qual (defScope st) f cdv A outer s H E).nox (defBody st) t ∧ ∀ ds C Q, p ds C Q → t (endsOf Q) (startD N ds) C) : Fn P w K mg base (k + 1) f dds p := by
  refine ⟨fd, ps, ds, dvs, F.kp, hb, hd, hdd, F.ok S (fun vs H Q E h => ?_) (fun cdv A outer s H vs Q E hr h => ?_)⟩
  · obtain ⟨ds, S, P, rfl, r, ok, t, w⟩ := h
    rw [r.len]
    exact len _ _ _ t
  · obtain ⟨ds, S0, P0, rfl, r, ok, t, w⟩ := h
    obtain ⟨tt, h1, h2⟩ := hbody cdv A outer s S0.h E hr
    refine ⟨_, h1, startD N ds, S0, endsOf P0, rfl, sl_start r, ok, h2 ds _ _ t, ⟨fun ρ' σ' S' e1 s1 t1 => ?_, fun v d S' e1 rd t1 => ?_, fun ρ' σ' S' e1 s1 t1 => t1.elim, fun ρ' σ' S' e1 s1 t1 => t1.elim⟩⟩
    · obtain ⟨C'', gh, q⟩ := t1
      have e2 := e1.ok.gh gh
      exact w .non .non ⟨S'.hs, C'', S'.h⟩ (e1.trans e2) R_non q
    · obtain ⟨C'', gh, q⟩ := t1
      have e2 := e1.ok.gh gh
      exact w v d ⟨S'.hs, C'', S'.h⟩ (e1.trans e2) (R.ext e2.ext _ _ rd) q
/-- a cell of which an invariant is told, opened for a def -/
theorem Fn.open {k : Nat} {f : Addr} {dds : List D} {p1 p2 : DSp} (h : Fn P w K mg base k f dds p1)
    (l : ∀ ds C Q, p2 ds C Q → ∃ a PI, C a = some (.inv PI) ∧ ∀ vs, PI vs → ∃ xs : List D, (∀ K Hs, RA K Hs xs vs) ∧ p1 ds (cset C a (.lst xs)) fun d C' => ∃ C'', Gh C' C'' ∧ Q d C'') : Fn P w K mg base k f dds p2 := by
  obtain ⟨fd, ps, ds, dvs, h1, h2, h3, h4, h5⟩ := h.ex
  refine ⟨fd, ps, ds, dvs, h1, h2, h3, h4, h5.imp fun vs H Q E z => ?_⟩
  obtain ⟨ds, S, P, rfl, r, ok, t, w⟩ := z
  obtain ⟨a, PI, e, q⟩ := l ds S.c P t
  obtain ⟨n', us, k1, k2⟩ := ok.cell a _ e
  obtain ⟨xs, rx, q⟩ := q us k2
  have st : Step K S ⟨S.hs, cset S.c a (.lst xs), S.h⟩ := by
    refine ⟨Ext.refl _, fun b u g1 g2 g3 => ⟨g1, g2, ?_⟩, ⟨ok.le, fun b d g => ?_⟩⟩
    · have hb : b ≠ a := fun z => by rw [z, e] at g3; cases g3
      exact (cset_ne hb).trans g3
    · have g' : cset S.c a (.lst xs) b = some d := g
      by_cases hb : b = a
      · subst hb; rw [cset_same] at g'; cases g'; exact ⟨n', us, k1, rx _ _⟩
      · rw [cset_ne hb] at g'; exact ok.cell b d g'
  refine ⟨ds, ⟨S.hs, cset S.c a (.lst xs), S.h⟩, _, rfl, r, st.ok, q, fun v d S' e1 rd t1 => ?_⟩
  obtain ⟨C'', gh, t1⟩ := t1
  have e2 := e1.ok.gh gh
  exact w v d ⟨S'.hs, C'', S'.h⟩ (st.trans (e1.trans e2)) (R.ext e2.ext _ _ rd) t1
end

/-! ### try, where nothing is raised -/
section
variable {X : Cx} {body : List Stmt} {h0 : ExceptHandler} {hs : List ExceptHandler} {t : DS} {pos : Pos}
theorem ds_try (hb : DSs X.nox body t) : DSt X (.Try body (h0 :: hs) [] [] pos) t := ps_try_thru0 hb
end

/-! ### xs[i] = e of a cell -/
section
variable {X : Cx} {K : PySem.W.Frag}
def dSubL (to ti : DT) : DG := fun d ρ C P => to ρ C fun x C1 => ti ρ C1 fun i C2 => match x, i with
  | .cell a, .int k => (match C2 a with
    | some (.lst xs) => opt (ixN xs.length k) fun j => P ρ (cset C2 a (.lst (xs.set j d)))
    | _ => False)
  | _, _ => False
theorem dg_subL {o i : Expr} {to ti : DT} {pos : Pos} (ho : DE X o to) (hi : DE X i ti) (ha : ∀ v, assign (.Subscript o i pos) X.env v = (do
      let ov ← holding [v] (eval o X.env); let iv ← holding [v, ov] (eval i X.env); standAt pos; holding [v, ov, iv] (setItem ov iv v); release [v, ov, iv] []) := by intro _; rfl) : DGt X (.Subscript o i pos) (dSubL to ti) :=
  pg_weak (pg_sub ho hi set_list ha) fun v σ H Q q => by
    obtain ⟨ρ, S, d, P, rfl, s, r, rd, t, w⟩ := q
    refine ⟨ρ, S, _, rfl, s, r, t, fun u x S1 e1 rx t1 => ?_⟩
    refine ⟨ρ, S1, _, rfl, s.ext e1.ext, e1.ok, t1, fun z y S2 e2 ry t2 => ?_⟩
    split at t2
    · rename_i a k
      simp only [R] at ry; subst ry
      simp only [R] at rx; subst rx
      split at t2
      · rename_i xs e
        obtain ⟨j, ej, t2⟩ := opt_of t2
        obtain ⟨_, vs, h1, h2⟩ := e2.ok.cell a _ e
        have rd' := R.ext (e1.trans e2).ext _ _ rd
        have st := e2.ok.setC (o := .lst (vs.set j v)) (c := .lst (xs.set j d)) e ⟨_, upd_same, h2.set j rd'⟩
        exact ⟨a, vs, k, j, rfl, rfl, h1, by rw [h2.len]; exact ej, w ρ σ _ (e1.trans (e2.trans st)) (s.ext (e1.trans (e2.trans st)).ext) t2⟩
      · exact t2.elim
    · exact t2.elim
end

/-! ### dicts by text and number keys -/
def dval (kvs : List (Key × D)) (k : Key) : Option D := match kvs with
  | [] => none
  | (q, d) :: r => if q = k then some d else dval r k
def dput (kds : List (Key × D)) (k : Key) (d : D) : List (Key × D) := if (kds.any fun q => decide (q.1 = k)) = true then kds.map (fun q => if q.1 = k then (q.1, d) else q) else kds ++ [(k, d)]
def keyOf : D → Option Key
  | .int i => some (.inl i)
  | .str x => some (.inr x)
  | _ => none
section
variable {K : PySem.W.Frag} {Hs : Hp}
theorem keyOf_R {x : D} {v : V} {k : Key} (h : R K Hs x v) (e : keyOf x = some k) : v = kV k := by
  cases x <;> simp [keyOf] at e
  · subst e; simp only [R] at h; subst h; rfl
  · subst e; simp only [R] at h; subst h; rfl
theorem RK.val : ∀ {kds : List (Key × D)} {kvs : List (Key × V)} (k : Key), RK K Hs kds kvs → (∀ d, dval kds k = some d → ∃ v, valV kvs k = some v ∧ R K Hs d v) ∧ (dval kds k = none → valV kvs k = none)
  | [], kvs, k, h => by simp only [RK] at h; subst h; exact ⟨fun d e => by simp [dval] at e, fun _ => rfl⟩
  | (q, d0) :: r, kvs, k, h => by
    simp only [RK] at h
    obtain ⟨v, s, rfl, h1, h2⟩ := h
    obtain ⟨k1, k2⟩ := RK.val k h2
    by_cases e : q = k
    · have ev : valV ((q, v) :: s) k = some v := by simp [valV, List.find?, e]
      simp only [dval, if_pos e, ev]
      exact ⟨fun d q => by cases q; exact ⟨v, rfl, h1⟩, fun q => by cases q⟩
    · have ev : valV ((q, v) :: s) k = valV s k := by simp [valV, List.find?, e]
      simp only [dval, if_neg e, ev]
      exact ⟨k1, k2⟩
theorem RK.has {kds : List (Key × D)} {kvs : List (Key × V)} (k : Key) (h : RK K Hs kds kvs) : (valV kvs k).isSome = (dval kds k).isSome := by
  obtain ⟨h1, h2⟩ := RK.val k h
  cases e : dval kds k with
  | none => rw [h2 e]; rfl
  | some d => obtain ⟨v, e2, _⟩ := h1 d e; rw [e2]; rfl
theorem RK.len : ∀ {kds : List (Key × D)} {kvs : List (Key × V)}, RK K Hs kds kvs → kvs.length = kds.length
  | [], kvs, h => by simp only [RK] at h; subst h; rfl
  | (q, d0) :: r, kvs, h => by
    simp only [RK] at h
    obtain ⟨v, s, rfl, h1, h2⟩ := h
    simp [RK.len h2]
theorem RK.any : ∀ {kds : List (Key × D)} {kvs : List (Key × V)} (k : Key), RK K Hs kds kvs → (kvs.any fun q => decide (q.1 = k)) = (kds.any fun q => decide (q.1 = k))
  | [], kvs, k, h => by simp only [RK] at h; subst h; rfl
  | (q, d0) :: r, kvs, k, h => by
    simp only [RK] at h
    obtain ⟨v, s, rfl, h1, h2⟩ := h
    simp only [List.any_cons, RK.any k h2]
theorem RK.app : ∀ {kds : List (Key × D)} {kvs : List (Key × V)} {k : Key} {d : D} {v : V}, RK K Hs kds kvs → R K Hs d v → RK K Hs (kds ++ [(k, d)]) (kvs ++ [(k, v)])
  | [], kvs, k, d, v, h, g => by simp only [RK] at h; subst h; simp only [List.nil_append, RK]; exact ⟨v, [], rfl, g, rfl⟩
  | (q, d0) :: r, kvs, k, d, v, h, g => by
    simp only [RK] at h
    obtain ⟨u, s, rfl, h1, h2⟩ := h
    simp only [List.cons_append, RK]
    exact ⟨u, _, rfl, h1, RK.app h2 g⟩
theorem RK.mapPut : ∀ {kds : List (Key × D)} {kvs : List (Key × V)} {k : Key} {d : D} {v : V}, RK K Hs kds kvs → R K Hs d v → RK K Hs (kds.map fun q => if q.1 = k then (q.1, d) else q) (kvs.map fun q => if q.1 = k then (q.1, v) else q)
  | [], kvs, k, d, v, h, g => by simp only [RK] at h; subst h; simp only [List.map_nil, RK]
  | (q, d0) :: r, kvs, k, d, v, h, g => by
    simp only [RK] at h
    obtain ⟨u, s, rfl, h1, h2⟩ := h
    by_cases e : q = k
    · simp only [List.map_cons, if_pos e, RK]
      exact ⟨v, _, rfl, g, RK.mapPut h2 g⟩
    · simp only [List.map_cons, if_neg e, RK]
      exact ⟨u, _, rfl, h1, RK.mapPut h2 g⟩
theorem RK.put {kds : List (Key × D)} {kvs : List (Key × V)} {k : Key} {d : D} {v : V} (h : RK K Hs kds kvs) (g : R K Hs d v) : RK K Hs (dput kds k d) (putK kvs k v) := by
  unfold dput putK
  rw [RK.any k h]
  split
  · exact RK.mapPut h g
  · exact RK.app h g
end
section
variable {X : Cx} {K : PySem.W.Frag} {o i e f value : Expr} {td ty tv tx : DT} {pos pos' apos cpos : Pos}
/-- d[k], there -/
def dDGet (td ty : DT) : DT := fun ρ C P => td ρ C fun x C1 => ty ρ C1 fun y C2 => match vw C2 x with
  | .dic kds => opt (keyOf y) fun k => opt (dval kds k) fun d => P d C2
  | _ => False
theorem de_dget (hu : X.A.units + 1 < cLine) (ho : DE X o td) (hi : DE X i ty) (hs : NoSl i := by exact fun _ _ => rfl) : DE X (.Subscript o i pos) (dDGet td ty) :=
  pe_weak (pe_dget hu ho hi hs) fun σ H Q q => by
    obtain ⟨ρ, S, P, rfl, s, r, t, w⟩ := q
    refine ⟨ρ, S, _, rfl, s, r, t, fun v x S1 e1 rx t1 => ?_⟩
    refine ⟨ρ, S1, _, rfl, s.ext e1.ext, e1.ok, t1, fun u y S2 e2 ry t2 => ?_⟩
    have rx2 := R.ext e2.ext _ _ rx
    split at t2
    · rename_i kds e
      obtain ⟨k, ek, t2⟩ := opt_of t2
      obtain ⟨d, ed, t2⟩ := opt_of t2
      obtain ⟨a, ob, kvs, rfl, h1, h2, h3⟩ := vw_dic e2.ok rx2 e
      obtain ⟨z, k1, k2⟩ := (RK.val k h3).1 d ed
      exact ⟨a, z, rfl, .inl ⟨kvs, k, rd_core h1 h2, keyOf_R ry ek, k1.symm⟩, w z d S2 (e1.trans e2) k2 t2⟩
    · exact t2.elim
/-- k in d, k not in d -/
def dDIn (neg : Bool) (ty td : DT) : DT := fun ρ C P => ty ρ C fun y C1 => td ρ C1 fun x C2 => match vw C2 x with
  | .dic kds => opt (keyOf y) fun k => P (.bl (if neg then !(dval kds k).isSome else (dval kds k).isSome)) C2
  | _ => False
theorem lift_din {neg : Bool} {Z : Option V → V} (hz : ∀ kds kvs k Hs, RK K Hs kds kvs → Z (valV kvs k) = .bl (if neg then !(dval kds k).isSome else (dval kds k).isSome)) {σ : L2.St} {H : Hp} {Q : VK} (q : liftE K (dDIn neg ty td) σ H Q) :
    liftE K ty σ H fun y H1 => liftE K td σ H1 fun x H2 => ∃ a o, x = .ref a ∧ DGet H2 a y o ∧ Q (Z o) H2 := by
  obtain ⟨ρ, S, P, rfl, s, r, t, w⟩ := q
  refine ⟨ρ, S, _, rfl, s, r, t, fun u y S1 e1 ry t1 => ?_⟩
  refine ⟨ρ, S1, _, rfl, s.ext e1.ext, e1.ok, t1, fun v x S2 e2 rx t2 => ?_⟩
  split at t2
  · rename_i kds e
    obtain ⟨k, ek, t2⟩ := opt_of t2
    obtain ⟨a, ob, kvs, rfl, h1, h2, h3⟩ := vw_dic e2.ok rx e
    refine ⟨a, valV kvs k, rfl, .inl ⟨kvs, k, rd_core h1 h2, keyOf_R (R.ext e2.ext _ _ ry) ek, rfl⟩, ?_⟩
    rw [hz kds kvs k _ h3]
    exact w _ _ S2 (e1.trans e2) R_bl t2
  · exact t2.elim
theorem de_din (hu : X.A.units + 1 < cLine) (hi : DE X i ty) (ho : DE X o td) (hm : behindInMarks .In o = false := by rfl) : DE X (.Compare i [.In] [o] pos) (dDIn false ty td) :=
  pe_weak (pe_cmp (pc_din hu hi ho) hm) fun σ H Q q => lift_din (K := X.K) (neg := false) (Z := fun o => .bl o.isSome) (fun kds kvs k Hs h => by rw [RK.has k h]; rfl) q
theorem de_dnotin (hu : X.A.units + 1 < cLine) (hi : DE X i ty) (ho : DE X o td) (hm : behindInMarks .NotIn o = false := by rfl) : DE X (.Compare i [.NotIn] [o] pos) (dDIn true ty td) :=
  pe_weak (pe_cmp (pc_dnotin hu hi ho) hm) fun σ H Q q => lift_din (K := X.K) (neg := true) (Z := fun o => .bl (!o.isSome)) (fun kds kvs k Hs h => by rw [RK.has k h]; rfl) q
theorem dt_din (hu : X.A.units + 1 < cLine) (hi : DE X i ty) (ho : DE X o td) (hm : behindInMarks .In o = false := by rfl) : DC X (.Compare i [.In] [o] pos) (dTest (dDIn false ty td)) :=
  pt_weak (pt_cmp (pc_din hu hi ho) hm) fun σ H Q q => lift_test (fun _ _ _ q => lift_din (K := X.K) (neg := false) (Z := fun o => .bl o.isSome) (fun kds kvs k Hs h => by rw [RK.has k h]; rfl) q) q
theorem dt_dnotin (hu : X.A.units + 1 < cLine) (hi : DE X i ty) (ho : DE X o td) (hm : behindInMarks .NotIn o = false := by rfl) : DC X (.Compare i [.NotIn] [o] pos) (dTest (dDIn true ty td)) :=
  pt_weak (pt_cmp (pc_dnotin hu hi ho) hm) fun σ H Q q => lift_test (fun _ _ _ q => lift_din (K := X.K) (neg := true) (Z := fun o => .bl (!o.isSome)) (fun kds kvs k Hs h => by rw [RK.has k h]; rfl) q) q
/-- d[k] = e of a cell -/
def dDPut (td ty tv : DT) : DS := fun E ρ C => tv ρ C fun d C1 => td ρ C1 fun x C2 => ty ρ C2 fun y C3 => match x with
  | .cell a => (match C3 a with
    | some (.dic kds) => opt (keyOf y) fun k => kds.length < 1000000 ∧ E.nx ρ (cset C3 a (.dic (dput kds k d)))
    | _ => False)
  | _ => False
theorem ds_dput (hu : X.A.units + 1 < cLine) (ho : DE X o td) (hi : DE X i ty) (hv : DE X value tv) (hs : swapsWith value (some (.Subscript o i pos')) pos.line X.env = pure false := by rfl) : DSt X (.Assign [.Subscript o i pos'] value pos) (dDPut td ty tv) :=
  ps_weak (ps_dput hu ho hi hv hs) fun F σ H q => by
    obtain ⟨ρ, S, E, rfl, s, r, t, w⟩ := q
    refine ⟨ρ, S, _, rfl, s, r, t, fun v d S1 e1 rd t1 => ?_⟩
    refine ⟨ρ, S1, _, rfl, s.ext e1.ext, e1.ok, t1, fun u x S2 e2 rx t2 => ?_⟩
    refine ⟨ρ, S2, _, rfl, s.ext (e1.trans e2).ext, e2.ok, t2, fun z y S3 e3 ry t3 => ?_⟩
    split at t3
    · rename_i a
      simp only [R] at rx; subst rx
      split at t3
      · rename_i kds e
        obtain ⟨k, ek, hl, t3⟩ := opt_of t3
        obtain ⟨_, kvs, h1, h2⟩ := e3.ok.cell a _ e
        have rd' := R.ext (e2.trans e3).ext _ _ rd
        have st := e3.ok.setC (o := .dK (putK kvs k v)) (c := .dic (dput kds k d)) e ⟨_, upd_same, RK.put h2 rd'⟩
        have e4 := e1.trans (e2.trans (e3.trans st))
        refine ⟨a, _, rfl, ?_, w.nx ρ σ _ e4 (s.ext e4.ext) t3⟩
        rw [keyOf_R ry ek]
        exact DPut.k h1 (by rw [RK.len h2, sizeLine_eq]; omega)
      · exact t3.elim
    · exact t3.elim
/-- d.get(k, x) -/
def dDGet2 (td ty tx : DT) : DT := fun ρ C P => td ρ C fun x C1 => (∃ kds, vw C1 x = .dic kds) ∧ ty ρ C1 fun y C2 => tx ρ C2 fun z C3 => match vw C3 x with
  | .dic kds => opt (keyOf y) fun k => P ((dval kds k).getD z) C3
  | _ => False
theorem de_dget2 (hu : X.A.units + 1 < cLine) (ho : DE X o td) (he : DE X e ty) (hf : DE X f tx) (m : M2 X o "get" apos e f cpos := by exact ⟨rfl, rfl, rfl, rfl⟩) : DE X (.Call (.Attribute o "get" apos) [e, f] [] cpos) (dDGet2 td ty tx) :=
  pe_weak (pe_dget2 hu ho he hf m) fun σ H Q q => by
    obtain ⟨ρ, S, P, rfl, s, r, t, w⟩ := q
    refine ⟨ρ, S, _, rfl, s, r, t, fun v x S1 e1 rx t1 => ?_⟩
    obtain ⟨⟨kds0, e0⟩, t1⟩ := t1
    obtain ⟨a, ob, kvs0, rfl, g1, g2, g3⟩ := vw_dic e1.ok rx e0
    refine ⟨a, rfl, .inl ⟨kvs0, rd_core g1 g2⟩, ρ, S1, _, rfl, s.ext e1.ext, e1.ok, t1, fun u y S2 e2 ry t2 => ?_⟩
    refine ⟨ρ, S2, _, rfl, s.ext (e1.trans e2).ext, e2.ok, t2, fun z dz S3 e3 rz t3 => ?_⟩
    have rx3 := R.ext (e2.trans e3).ext _ _ rx
    split at t3
    · rename_i kds e
      obtain ⟨k, ek, t3⟩ := opt_of t3
      obtain ⟨a', ob, kvs, ea, h1, h2, h3⟩ := vw_dic e3.ok rx3 e
      cases ea
      refine ⟨valV kvs k, .inl ⟨kvs, k, rd_core h1 h2, keyOf_R (R.ext e3.ext _ _ ry) ek, rfl⟩, ?_⟩
      obtain ⟨k1, k2⟩ := RK.val k h3
      cases ed : dval kds k with
      | none =>
        rw [k2 ed]
        rw [ed] at t3
        exact w z dz S3 (e1.trans (e2.trans e3)) rz t3
      | some d =>
        obtain ⟨zz, k3, k4⟩ := k1 d ed
        rw [k3]
        rw [ed] at t3
        exact w zz d S3 (e1.trans (e2.trans e3)) k4 t3
    · exact t3.elim
/-- dict([]): a new dict, a cell -/
def kDict0 : D → Cells → DK → Prop := fun x C P => match x with
  | .lst [] => ∀ p, C p = none → P (.cell p) (cset C p (.dic []))
  | _ => False
theorem cl_dict0 : ClS K (fun xs H Q => ∃ (a : Addr) (ps : List Addr) (kvs : List (Key × V)), xs = [.ref a] ∧ SqL K H a (ps.map V.ref) ∧ Paired (fun p kv => SqT K H p [kV kv.1, kv.2]) ps kvs ∧ ∀ p, H p = none → Q (.ref p) (upd H p (.dK (mergeK [] kvs)))) (d1 kDict0) := cl1 fun x v S P Q ok rx t w => by
  unfold kDict0 at t
  split at t
  · simp only [R] at rx
    obtain ⟨a, vs, rfl, h1, h2⟩ := rx
    simp only [RA] at h2; subst h2
    refine ⟨a, [], [], rfl, SqL.of (ok.le _ _ h1), .nil, fun p hp => ?_⟩
    have st := ok.newC (o := .dK []) (c := .dic []) hp ⟨[], upd_same, by simp only [RK]⟩
    exact w _ (.cell p) _ st (by simp only [R]) (t p (ok.freshC hp))
  · exact t.elim
end
end DL

set_option Elab.async false
set_option linter.all false
set_option maxRecDepth 100000
set_option maxHeartbeats 1000000
namespace DL
open PySem PySem.Spec PyProof.Rows L2
/-! ### what a text's facts are told by -/
def fa (mg : Str → Option Value) (x : Str) : Addr := match mg x with
  | some (.ref a) => a
  | _ => 0
def ma (K : PySem.W.Frag) (C : Addr) (m : Str) : Addr := match PySem.W.findIn K (.ref C) m with
  | some (some (.ref f)) => f
  | _ => 0
/-- a def of the module: where it stands, what it is, how its arguments bind -/
structure Df (K : PySem.W.Frag) (mg : Str → Option Value) (x : Str) (st : Stmt) (ps : List Str) : Prop where
  m : mg x = some (.ref (fa mg x))
  d : ∃ fd, Fun K x x st (fa mg x) fd ∧ Binds K fd ps []
/-- a method -/
structure Mf (K : PySem.W.Frag) (C : Addr) (m qual : Str) (st : Stmt) (ps : List Str) : Prop where
  me : Meth K C m (ma K C m)
  d : ∃ fd, Fun K m qual st (ma K C m) fd ∧ Binds K fd ps []
section
variable {P : Program} {w : World} {K : PySem.W.Frag} {mg : Str → Option Value} {base : Heap}
theorem fn_df {x : Str} {st : Stmt} {ps N : List Str} {k : Nat} {p : DSp} (F : Df K mg x st ps) (S : FnScope N ps (defScope st)) (len : ∀ ds C Q, p ds C Q → ds.length = ps.length)
    (hbody : ∀ (cdv : Value) (A : Around) (outer : List PySem.Env) (s : Shared) (H : Hp) (E : XK), Room k (A.deeper (envOfC x (defScope st) s.heap.objs.size (fa mg x) cdv)) →
      ∃ t, DSs (cxOf CX0 P w K mg base N x (defScope st) (fa mg x) cdv A outer s H E).nox (defBody st) t ∧ ∀ ds C Q, p ds C Q → t (endsOf Q) (startD N ds) C) : Fn P w K mg base (k + 1) (fa mg x) [] p := by
  obtain ⟨fd, F1, b⟩ := F.d
  exact fnd F1 S b .nil (fun _ => RA.nil) len hbody
theorem fn_mf {C : Addr} {m qual : Str} {st : Stmt} {ps N : List Str} {k : Nat} {p : DSp} (F : Mf K C m qual st ps) (S : FnScope N ps (defScope st)) (len : ∀ ds C Q, p ds C Q → ds.length = ps.length)
    (hbody : ∀ (cdv : Value) (A : Around) (outer : List PySem.Env) (s : Shared) (H : Hp) (E : XK), Room k (A.deeper (envOfC qual (defScope st) s.heap.objs.size (ma K C m) cdv)) →
      ∃ t, DSs (cxOf CX0 P w K mg base N qual (defScope st) (ma K C m) cdv A outer s H E).nox (defBody st) t ∧ ∀ ds C Q, p ds C Q → t (endsOf Q) (startD N ds) C) : Fn P w K mg base (k + 1) (ma K C m) [] p := by
  obtain ⟨fd, F1, b⟩ := F.d
  exact fnd F1 S b .nil (fun _ => RA.nil) len hbody
/-- nothing can be asked at level 0 -/
theorem fn_zero {f : Addr} {ps : List Str} {p : DSp} (F : ∃ fd, PySem.W.keepIn K (.ref f) = true ∧ Binds K fd ps []) (no : ∀ ds C Q, ¬ p ds C Q) : Fn P w K mg base 0 f [] p := by
  obtain ⟨fd, hk, hb⟩ := F
  have no' : ∀ vs H Q E, ¬ spOf K p vs H Q E := fun vs H Q E h => by
    obtain ⟨ds, S, P, _, _, _, t, _⟩ := h
    exact no _ _ _ t
  exact ⟨fd, ps, [], [], hk, hb, .nil, fun _ => RA.nil, ⟨fun vs H Q E h => (no' vs H Q E h).elim, fun A outer s H args us vs Q E _ _ _ _ h => (no' vs H Q E h).elim⟩⟩
theorem Df.z {x : Str} {st : Stmt} {ps : List Str} (F : Df K mg x st ps) : ∃ fd, PySem.W.keepIn K (.ref (fa mg x)) = true ∧ Binds K fd ps [] := by
  obtain ⟨fd, F1, b⟩ := F.d
  exact ⟨fd, F1.kp, b⟩
end
/-! -a -/
def dNeg (t : DT) : DT := fun ρ C P => t ρ C fun x C1 => match x with
  | .int i => P (.int (-i)) C1
  | _ => False
theorem de_un {X : Cx} {e : Expr} {t : DT} {pos : Pos} (h : DE X e t) : DE X (.UnaryOp .USub e pos) (dNeg t) := pe_weak (pe_un un_neg h) fun σ H Q q => by
  obtain ⟨ρ, S, P, rfl, s, r, t, w⟩ := q
  refine ⟨ρ, S, _, rfl, s, r, t, fun v x S1 e1 rx t1 => ?_⟩
  cases x with
  | int i => exact ⟨i, by simpa [R] using rx, w _ _ S1 e1 R_int t1⟩
  | _ => exact t1.elim
theorem bt_len : bootBuiltins "len" = some (.builtin "len") := by decide +kernel
theorem bt_abs : bootBuiltins "abs" = some (.builtin "abs") := by decide +kernel
theorem bt_sum : bootBuiltins "sum" = some (.builtin "sum") := by decide +kernel
theorem bt_max : bootBuiltins "max" = some (.builtin "max") := by decide +kernel
theorem bt_min : bootBuiltins "min" = some (.builtin "min") := by decide +kernel
theorem bt_repr : bootBuiltins "repr" = some (.builtin "repr") := by decide +kernel
theorem bt_isinstance : bootBuiltins "isinstance" = some (.builtin "isinstance") := by decide +kernel
theorem bt_str : bootBuiltins "str" = some (.type "str") := by decide +kernel
theorem bt_int : bootBuiltins "int" = some (.type "int") := by decide +kernel
theorem bt_bool : bootBuiltins "bool" = some (.type "bool") := by decide +kernel
theorem bt_list : bootBuiltins "list" = some (.type "list") := by decide +kernel
theorem bt_tuple : bootBuiltins "tuple" = some (.type "tuple") := by decide +kernel
theorem bt_dict : bootBuiltins "dict" = some (.type "dict") := by decide +kernel
end DL

set_option Elab.async false
set_option linter.all false
set_option maxRecDepth 100000
set_option maxHeartbeats 1000000
namespace DL
open PySem PySem.Spec PyProof.Rows L2
/-! ### for the opening of readings -/
section
variable {C : Cells} {a : Addr}
theorem vw_non : vw C .non = .non := rfl
theorem vw_bl {b} : vw C (.bl b) = .bl b := rfl
theorem vw_i {b} : vw C (.int b) = .int b := rfl
theorem vw_s {b} : vw C (.str b) = .str b := rfl
theorem vw_l {b} : vw C (.lst b) = .lst b := rfl
theorem vw_t {b} : vw C (.tup b) = .tup b := rfl
theorem vw_d {b} : vw C (.dic b) = .dic b := rfl
theorem vw_n {b c} : vw C (.ins b c) = .ins b c := rfl
theorem vw_f {b} : vw C (.fro b) = .fro b := rfl
theorem vw_v {b} : vw C (.val b) = .val b := rfl
theorem vw_cl {ds} (h : C a = some (.lst ds)) : vw C (.cell a) = .lst ds := by simp [vw, h]
theorem vw_cd {ds} (h : C a = some (.dic ds)) : vw C (.cell a) = .dic ds := by simp [vw, h]
theorem vw_cn {c ds} (h : C a = some (.ins c ds)) : vw C (.cell a) = .ins c ds := by simp [vw, h]
end
/-- done with a def -/
theorem fin {Q : DK} {d : D} {C : Cells} (h : Q d C) : ∃ C'', Gh C C'' ∧ Q d C'' := ⟨C, Gh.refl C, h⟩
theorem fin_sub {Q : DK} {d : D} {C C' : Cells} (h : Q d C) (s : Sub C C') : ∃ C'', Gh C' C'' ∧ Q d C'' := ⟨C, Gh.sub s, h⟩
theorem compN_none {ds : List D} {j : Nat} {tt : DB} {te : DT} {ρ : DL.Env} {C : Cells} {P : DK} (h : ∀ (i : Nat) d (P' : Bool → Cells → Prop), ds[i]? = some d → P' false C → tt (ρ.set j (some d)) C P') (q : P (.lst []) C) : compN ds j tt te ρ C P := by
  refine ⟨fun i acc C' => acc = [] ∧ C' = C, ⟨rfl, rfl⟩, fun i d acc C' e p => ?_, fun acc C' p => ?_⟩
  · obtain ⟨rfl, rfl⟩ := p
    exact h i d _ e ⟨C', Gh.refl C', rfl, rfl⟩
  · obtain ⟨rfl, rfl⟩ := p
    exact q
theorem compN_map {ds : List D} {j : Nat} {te : DT} {ρ : DL.Env} {C : Cells} {P : DK} (f : D → D) (hl : ds.length ≤ 1000000)
    (k : ∀ (i : Nat) d (P' : DK), ds[i]? = some d → P' (f d) C → te (ρ.set j (some d)) C P') (q : P (.lst (ds.map f)) C) : compN ds j dYes te ρ C P := by
  refine compN_det (fun _ => true) f hl (fun i d P' e p => p) (fun i d P' e _ p => k i d P' e p) ?_
  rw [List.filter_eq_self.mpr (fun _ _ => rfl)]
  exact q
theorem eqD_nil (xs : List D) : eqD (.lst xs) (.lst []) = xs.isEmpty := by
  cases xs with
  | nil => simp [eqD, toPy, toPys, PyData.eqv, PyData.eqvAll]
  | cons x r => simp [eqD, toPy, toPys, PyData.eqv, PyData.eqvAll]
theorem okD_nil : okD (.lst []) := by
  refine ⟨by simp [isPy, isPys], ?_⟩
  simp [SeqAt.shaped, toPy, toPys, PyData.canLay0, PyData.canLayAll0, PyData.depth, PyData.depthAll]
end DL

set_option Elab.async false
set_option linter.all false
set_option maxRecDepth 100000
set_option maxHeartbeats 1000000
namespace DL
open PySem PySem.Spec PyProof.Rows L2
/-! list(..) of a list, a tuple -/
def kListOf : D → Cells → DK → Prop := fun x C P => match vw C x with
  | .lst ds => P (.lst ds) C
  | .tup ds => P (.lst ds) C
  | _ => False
theorem cl_listOf {K : PySem.W.Frag} : ClS K (fun xs H Q => ∃ p ys, xs = [.ref p] ∧ (SqL K H p ys ∨ SqT K H p ys) ∧ ∀ l, H l = none → Q (.ref l) (upd H l (.lst ys))) (d1 kListOf) := cl1 fun x v S P Q ok rx t w => by
  unfold kListOf at t
  split at t
  · rename_i ds e
    obtain ⟨a, vs, rfl, h1, h2⟩ := vw_lst ok rx e
    refine ⟨a, vs, rfl, .inl (SqL.of h1), fun p hp => ?_⟩
    have st := ok.new (o := .lst vs) hp
    exact w _ (.lst ds) _ st (by simp only [R]; exact ⟨p, _, rfl, upd_same, RA.ext st.ext _ _ h2⟩) t
  · rename_i ds e
    obtain ⟨a, vs, rfl, h1, h2⟩ := vw_tup ok rx e
    refine ⟨a, vs, rfl, .inr (SqT.of h1), fun p hp => ?_⟩
    have st := ok.new (o := .lst vs) hp
    exact w _ (.lst ds) _ st (by simp only [R]; exact ⟨p, _, rfl, upd_same, RA.ext st.ext _ _ h2⟩) t
  · exact t.elim
end DL

set_option Elab.async false
set_option linter.all false
set_option maxRecDepth 100000
set_option maxHeartbeats 1000000
namespace DL
open PySem PySem.Spec PyProof.Rows L2
/-! repr of a list, a tuple of data (where no repr is under way) -/
def okS (d : PyData) : Prop := d.showable = true ∧ d.canLay0 = true ∧ d.depth ≤ 40 ∧ d.shown.length ≤ sizeLine
theorem call_reprD {X : Cx} (hu : X.A.units + 64 < cLine) (hg : X.A.guards = some []) :
    CallR X (.builtin "repr") (fun xs H Q => ∃ (a : Addr) (d : PyData), xs = [V.ref a] ∧ Dp X.K H (V.ref a) d ∧ okS d ∧ Q (.str d.shown) H) := by
  intro pins s σ H xs us Q I hv h
  obtain ⟨a, d, rfl, hd, ⟨hs, hc, hp, hz⟩, q⟩ := h
  cases hv with
  | cons r rest =>
    cases rest
    cases r
    obtain ⟨as, rd⟩ := Dp.reads I d (V.ref a) (.ref a) hd rfl
    exact repr_of_reads' rd hs (PyData.noDict_hsm (PyData.hasDict_of_canLay d hc)) hg (by omega) (fun _ _ e => e) (fun h' u tk hk => ⟨.str d.shown, H, I.kept hk, ⟨_, rfl⟩, q⟩) hz
def kRepr : D → Cells → DK → Prop := fun x C P => match x with
  | .lst ds => isPy (.lst ds) = true ∧ okS (toPy (.lst ds)) ∧ P (.str (toPy (.lst ds)).shown) C
  | .tup ds => isPy (.tup ds) = true ∧ okS (toPy (.tup ds)) ∧ P (.str (toPy (.tup ds)).shown) C
  | _ => False
theorem cl_repr {K : PySem.W.Frag} : ClS K (fun xs H Q => ∃ (a : Addr) (d : PyData), xs = [V.ref a] ∧ Dp K H (V.ref a) d ∧ okS d ∧ Q (.str d.shown) H) (d1 kRepr) := cl1 fun x v S P Q ok rx t w => by
  unfold kRepr at t
  split at t
  · rename_i ds
    obtain ⟨p, o, t⟩ := t
    obtain ⟨a, vs, rfl, h1, h2⟩ := vw_lst (x := .lst ds) ok rx rfl
    exact ⟨a, _, rfl, dp_of ok.le _ _ p rx, o, w _ _ S (.refl ok) R_str t⟩
  · rename_i ds
    obtain ⟨p, o, t⟩ := t
    obtain ⟨a, vs, rfl, h1, h2⟩ := vw_tup (x := .tup ds) ok rx rfl
    exact ⟨a, _, rfl, dp_of ok.le _ _ p rx, o, w _ _ S (.refl ok) R_str t⟩
  · exact t.elim
end DL

set_option Elab.async false
set_option linter.all false
set_option maxRecDepth 100000
set_option maxHeartbeats 1000000
namespace DL
open PySem PySem.Spec PyProof.Rows L2
/-! == of two instances by their class's own __eq__ -/
def dEqP (C0 : Addr) (sp : DSp) : D2 := fun x y C P => match vw C x, vw C y with
  | .ins c _, .ins c' _ => c = C0 ∧ c' = C0 ∧ sp [x, y] C fun d C' => (∃ b, d = .bl b) ∧ P d C'
  | _, _ => False
theorem ops_eqP {K : PySem.W.Frag} {C0 : Addr} {sp : DSp} : OpS K (rEqO K C0 (spOf K sp)) (dEqP C0 sp) := by
  intro x y v u S P Q ok rx ry t w
  unfold dEqP at t
  split at t
  · rename_i c fs c' gs e1 e2
    obtain ⟨rfl, rfl, t⟩ := t
    obtain ⟨a, dx, vs, rfl, h1, _⟩ := vw_ins ok rx e1
    obtain ⟨b, dy, us, rfl, h2, _⟩ := vw_ins ok ry e2
    refine ⟨a, b, dx, dy, vs, us, rfl, rfl, h1, h2, [x, y], S, _, rfl, RA.cons rx (RA.cons ry RA.nil), ok, t, fun z d S1 e1 rz t1 => ?_⟩
    obtain ⟨⟨k, rfl⟩, t1⟩ := t1
    simp only [R] at rz
    exact ⟨k, rz, w _ _ S1 e1 (by simpa only [R] using rz) t1⟩
  · exact t.elim
theorem de_eqOwn {X : Cx} {C0 fA : Addr} {k : Nat} {sp : DSp} {a b : Expr} {ta tb : DT} {pos : Pos} (c : Fn X.prog X.w X.K X.mg X.base k fA [] sp) (m : Meth X.K C0 "__eq__" fA) (hr : Room k X.A) (ha : DE X a ta) (hb : DE X b tb)
    (hm : behindInMarks .Eq b = false) : DE X (.Compare a [.Eq] [b] pos) (dOp (dEqP C0 sp) ta tb) := by
  obtain ⟨fd, ps, ds, dvs, hk, hb', hd, hdd, F⟩ := c.ex
  have e : dvs = [] := by simpa only [RA] using hdd fun _ => none
  subst e
  cases hd
  exact de_cmp (op_eqO F hb' m.at_ m.fn hr) ops_eqP ha hb hm
end DL

set_option Elab.async false
set_option linter.all false
set_option maxRecDepth 100000
namespace DL
open PySem PySem.Spec PyProof.Rows L2
/-! defs and methods with defaults: which they are is told by the pieces dvs -/
structure Dd (K : PySem.W.Frag) (mg : Str → Option Value) (x : Str) (st : Stmt) (ps : List Str) : Prop where
  m : mg x = some (.ref (fa mg x))
  d : ∃ fd, Fun K x x st (fa mg x) fd
structure Md (K : PySem.W.Frag) (C : Addr) (m qual : Str) (st : Stmt) (ps : List Str) : Prop where
  me : Meth K C m (ma K C m)
  d : ∃ fd, Fun K m qual st (ma K C m) fd
end DL

set_option Elab.async false
set_option linter.all false
set_option maxRecDepth 100000
set_option maxHeartbeats 2000000
/-! set(list of texts), its length, sorted(..) of it -/
namespace DL
open PySem PySem.Spec PyProof.Rows L2
def txOf (e : Int × Value) : Str := match e.2 with | .str x _ => x | _ => Str.empty
def TxE (w : World) (e : Int × Value) : Prop := ∃ x tk, e.2 = Value.str x tk ∧ e.1 = hashStr w x
/-- the set of the texts L at a, each once -/
def TSet (w : World) (h : Heap) (a : Addr) (L : List Str) : Prop :=
  ∃ o es ep t, h.get? a = some o ∧ o.ExactSet ∧ o.data = .set es ep t ∧ (∀ e ∈ es.toList, TxE w e) ∧ (es.toList.map txOf).Perm L ∧ L.Nodup ∧
    L.length < scanBound ∧ t.fits es.size = true ∧ Ris t.place.toList ∧ (w.params.followText "set-order" = true ∨ t.led = true)
section
variable {P : Program} {w : World} {h h' : Heap} {a : Addr} {L : List Str}
theorem TSet.at (r : TSet w h a L) (k : ∀ o, h.get? a = some o → h'.get? a = some o) : TSet w h' a L :=
  let ⟨o, es, ep, t, ho, q⟩ := r
  ⟨o, es, ep, t, k o ho, q⟩
theorem tx_elems {l : List (Int × Value)} (g : ∀ e ∈ l, TxE w e) : ElemsOf (PySem.strKind P w) l := fun e he => by
  obtain ⟨x, tk, h1, h2⟩ := g e he
  refine ⟨⟨x, ?_, h2⟩, ?_⟩ <;> rw [h1]
  · exact PySem.strKind_is P w x tk
  · rfl
theorem tx_is {e : Int × Value} (g : TxE w e) (x : Str) : (PySem.strKind P w).is x e.2 = true ↔ txOf e = x := by
  obtain ⟨y, tk, h1, _⟩ := g
  unfold txOf
  rw [h1]
  constructor
  · intro z
    exact (PySem.strKind P w).inj _ _ _ (PySem.strKind_is P w y tk) z
  · rintro rfl
    exact PySem.strKind_is P w _ tk
theorem tx_mem {l : List (Int × Value)} (g : ∀ e ∈ l, TxE w e) (x : Str) : x ∈ l.map txOf ↔ ∃ e ∈ l, (PySem.strKind P w).is x e.2 = true := by
  rw [List.mem_map]
  exact ⟨fun ⟨e, he, q⟩ => ⟨e, he, (tx_is (g e he) x).2 q⟩, fun ⟨e, he, q⟩ => ⟨e, he, (tx_is (g e he) x).1 q⟩⟩
theorem TSet.size {es : Array (Int × Value)} (p : (es.toList.map txOf).Perm L) : es.size = L.length := by
  have := p.length_eq
  rw [List.length_map, Array.length_toList] at this
  exact this
end
section
variable {P : Program} {w : World} {A : Around} {E : Value → Shared → Prop} {s : Shared} {a : Addr} {L : List Str}
/-- what is stored behind an add -/
theorem tset_tail {g : Bool → Sem Unit} (hg : ∀ (b : Bool) (s1 : Shared) (Q' : Unit → Shared → Prop), Q' () s1 → wpAny (model P w) A (g b) Q' E s1)
    {o : Obj} {es : Array (Int × Value)} {ep : Nat} {t : SetTable} (ho : s.heap.get? a = some o) (hex : o.ExactSet) (hd : o.data = .set es ep t)
    {es1 : Array (Int × Value)} {t2 : SetTable} (g1 : ∀ e ∈ es1.toList, TxE w e) (p1 : (es1.toList.map txOf).Perm L) (nd : L.Nodup) (hb : L.length < scanBound)
    (hf2 : t2.fits es1.size = true) (hr : Ris t2.place.toList) (hl : w.params.followText "set-order" = true ∨ t2.led = true) {wd : Bool} {R : Option Bool → Shared → Prop}
    (hR : ∀ h', Heap.SameBut a s.heap h' → TSet w h' a L → R (some true) { s with heap := h' }) :
    wpAny (model P w) A (do
        storeSet a es1 t2
        if (!wd && t2.tooFull) = true then do
            g (relayAll t2 es1 (SetTable.grown es1.size)).2.2
            storeSet a (relayAll t2 es1 (SetTable.grown es1.size)).1 (relayAll t2 es1 (SetTable.grown es1.size)).2.1
            pure (some true)
          else pure (some true)) R E s := by
  have hs1 : es1.size < scanBound := by rw [TSet.size p1]; exact hb
  have o1 := L2.store_at (es' := es1) (t' := t2) ho hd
  have b1 := Heap.SameBut.update s.heap a (Obj.putSet es1 t2)
  refine wpAny_bind (wpAny_storeSet_of ho hd ?_ (fits_of_scanBound hs1))
  split
  case isFalse => exact wpAny_pure (hR _ b1 ⟨_, es1, _, t2, o1, hex, rfl, g1, p1, nd, hb, hf2, hr, hl⟩)
  case isTrue =>
    have q1 := relayAll_perm t2 es1 (SetTable.grown es1.size)
    have q2 := relayAll_fits t2 es1 (SetTable.grown es1.size)
    have q3 := L2.relayAll_ris t2 es1 (SetTable.grown es1.size)
    have q4 := L2.relayAll_led t2 es1 (SetTable.grown es1.size)
    generalize relayAll t2 es1 (SetTable.grown es1.size) = Z at q1 q2 q3 q4 ⊢
    obtain ⟨es2, t3, gv⟩ := Z
    dsimp only at q1 q2 q3 q4 ⊢
    have hs2 : es2.size < scanBound := by rw [← Array.length_toList, q1.length_eq, Array.length_toList]; exact hs1
    have o2 := L2.store_at (es' := es2) (t' := t3) o1 rfl
    refine wpAny_bind (hg _ _ _ (wpAny_bind (wpAny_storeSet_of o1 rfl ?_ (fits_of_scanBound hs2))))
    exact wpAny_pure (hR _ (b1.trans (Heap.SameBut.update _ a _)) ⟨_, es2, _, t3, o2, hex, rfl, fun e he => g1 e (q1.mem_iff.mp he), (q1.map txOf).trans p1, nd, hb, q2, q3,
      hl.imp _root_.id fun z => by rw [q4]; exact z⟩)
/-- one text more -/
theorem tset_add {x : Str} {tk : Tok} {Q : Bool → Shared → Prop} (r : TSet w s.heap a L) (room : L.length + 1 < scanBound)
    (hQ : ∀ h' b, Heap.SameBut a s.heap h' → TSet w h' a (if x ∈ L then L else x :: L) → Q b { s with heap := h' }) :
    wpAny (model P w) A (setAddHashed a (.str x tk) (hashStr w x)) Q E s := by
  obtain ⟨o, es, ep, t, ho, hex, hd, g, pm, nd, hb, hf, hr, hl⟩ := r
  have hk : (PySem.strKind P w).is x (.str x tk) = true := PySem.strKind_is P w x tk
  have hz : es.size < scanBound := by rw [TSet.size pm]; exact hb
  have el : ElemsOf (PySem.strKind P w) es.toList := tx_elems g
  have hsc : (Value.str x tk).scannable = true := rfl
  unfold setAddHashed setAddHashedIn
  refine wpAny_holding (wpAny_bind (wpAny_setState_of ho hd hf ?_))
  dsimp only
  rw [byScan_of hsc hz el]
  simp only [↓reduceIte]
  unfold setAddByScan
  refine wpAny_bind (wpAny_bind (wpAny_rule (wpAny_bind (wpAny_setScan_of hk ho hd hf el ?_))))
  cases hfi : List.findIdx? (fun e => (PySem.strKind P w).is x e.2) es.toList with
  | some j =>
    dsimp only
    obtain ⟨hj, pj, _⟩ := List.findIdx?_eq_some_iff_getElem.mp hfi
    have hin : x ∈ L := pm.mem_iff.mp ((tx_mem (P := P) g x).2 ⟨es.toList[j], List.getElem_mem hj, pj⟩)
    refine wpAny_pure (wpAny_pure ?_)
    refine hQ s.heap _ (Heap.SameBut.refl a s.heap) ?_
    rw [if_pos hin]
    exact ⟨o, es, ep, t, ho, hex, hd, g, pm, nd, hb, hf, hr, hl⟩
  | none =>
    dsimp only
    have hnot : x ∉ L := fun z => by
      obtain ⟨e, he, q⟩ := (tx_mem (P := P) g x).1 (pm.mem_iff.mpr z)
      have c := List.findIdx?_eq_none_iff.mp hfi e he
      rw [q] at c
      cases c
    have gw : ∀ (b : Bool) {s1 : Shared} {Q' : Unit → Shared → Prop}, Q' () s1 → wpAny (model P w) A (match b with | true => rule "set.scan.the-table-gave-way" | false => pure ()) Q' E s1 :=
      fun b s1 Q' q => match b with | true => wpAny_rule q | false => wpAny_pure q
    have k1 := layNew_perm t es (hashStr w x) (.str x tk)
    have k2 := layNew_fits t es (hashStr w x) (.str x tk)
    have k3 := L2.layNew_ris t es (hashStr w x) (.str x tk) hr
    have k4 := L2.layNew_led t es (hashStr w x) (.str x tk)
    generalize layNew t es (hashStr w x) (.str x tk) = Z at k1 k2 k3 k4 ⊢
    obtain ⟨es1, t1, wd, gave⟩ := Z
    dsimp only at k1 k2 k3 k4 ⊢
    rw [Array.toList_push] at k1
    have pc : es1.toList.Perm ((hashStr w x, Value.str x tk) :: es.toList) := k1.trans (List.perm_append_singleton _ _)
    have p1 : (es1.toList.map txOf).Perm (x :: L) := (pc.map txOf).trans (List.Perm.cons x pm)
    have g1 : ∀ e ∈ es1.toList, TxE w e := fun e he => by
      rcases List.mem_cons.mp (pc.mem_iff.mp he) with z | z
      · exact ⟨x, tk, by rw [z], by rw [z]⟩
      · exact g e z
    have nd1 : (x :: L).Nodup := List.nodup_cons.mpr ⟨hnot, nd⟩
    have led1 : w.params.followText "set-order" = true ∨ t1.led = true := hl.imp _root_.id fun z => by rw [k4]; exact z
    have fin : ∀ h', Heap.SameBut a s.heap h' → TSet w h' a (x :: L) → Q true { s with heap := h' } := fun h' sb q => by
      refine hQ h' _ sb ?_
      rw [if_neg hnot]
      exact q
    refine wpAny_bind (gw _ ?_)
    split
    · refine wpAny_bind ?_
      rw [hashByValue_scannable 8 hsc]
      refine wpAny_pure (tset_tail ?_ ho hex hd g1 p1 nd1 room ?_ ?_ ?_ ?_)
      · intro b s1 Q' q; cases b <;> first | exact wpAny_pure q | exact wpAny_rule q
      · first | (split <;> first | exact k2 | exact SetTable.fits_plain_off k2) | exact k2
      · first | (split <;> exact k3) | exact k3
      · first | (split <;> exact led1) | exact led1
      · intro h' sb q; dsimp only; exact wpAny_pure (fin h' sb q)
    · refine wpAny_bind (wpAny_pure ?_)
      simp only [↓reduceIte]
      refine tset_tail ?_ ho hex hd g1 p1 nd1 room k2 k3 led1 ?_
      · intro b s1 Q' q; cases b <;> first | exact wpAny_pure q | exact wpAny_rule q
      intro h' sb q; dsimp only; exact wpAny_pure (fin h' sb q)
/-- the texts of a list, met one by one -/
structure Met (xs : List Str) (i : Nat) (L : List Str) : Prop where
  mem : ∀ x, x ∈ L ↔ x ∈ xs.take i
  len : L.length ≤ i
theorem Met.next {xs L : List Str} {i : Nat} {x : Str} (m : Met xs i L) (h : xs[i]? = some x) : Met xs (i + 1) (if x ∈ L then L else x :: L) := by
  have e : xs.take (i + 1) = xs.take i ++ [x] := by
    rw [List.take_add_one, h]
    rfl
  have hl := m.len
  by_cases hx : x ∈ L
  · rw [if_pos hx]
    refine ⟨fun y => ?_, by omega⟩
    rw [e, List.mem_append, List.mem_singleton, m.mem]
    exact ⟨.inl, fun z => z.elim _root_.id fun q => by rw [q]; exact (m.mem x).1 hx⟩
  · rw [if_neg hx]
    refine ⟨fun y => ?_, by simp; omega⟩
    rw [e, List.mem_append, List.mem_singleton, List.mem_cons, m.mem]
    exact Or.comm
theorem tset_loop {I : Addr} {fp wr : List Addr} {G : Array GenState → Array GenState → Prop} {n : Nat} {Pv : Nat → Value → Prop} {St : Nat → Shared → Prop} {R : Result → Shared → Prop}
    (W : WalksS P w A.in1 I fp wr G n Pv St) (S : Addr) (hS : S ∉ fp) (xs : List Str) (hn : n = xs.length) (hb : n + 1 < scanBound) (hv : ∀ i v, Pv i v → ∃ x t, xs[i]? = some x ∧ v = .str x t) :
    ∀ (k i : Nat) (s : Shared), n - i = k → i ≤ n → St i s → (∃ L, Met xs i L ∧ TSet w s.heap S L) →
      (∀ s' L, Moved (S :: wr) G s s' → Met xs n L → TSet w s'.heap S L → R (.ok (.ret .none)) s') → codeAny (model P w) A (.builtin "set.update.loop" ⟨[.ref S, .ref I], []⟩) R s := by
  have nw : S ∉ wr := fun z => hS (W.sub _ z)
  have up : ∀ b ∈ wr, b ∈ S :: wr := fun b z => List.mem_cons_of_mem _ z
  intro k
  induction k with
  | zero =>
    intro i s ek hi st z out
    obtain ⟨L, m, ts⟩ := z
    obtain rfl : i = n := by omega
    refine codeAny_builtin F.entry_set_update_loop (by
      rw [Around.under_plainId F.plain_set_update_loop _]
      refine wpAny_bind (W.done s _ _ st fun s1 mv => wpAny_pure ?_)
      exact out s1 L (mv.mono up) m (ts.at fun o e => mv.heap S o nw e))
  | succ k ih =>
    intro i s ek hi st z out
    obtain ⟨L, m, ts⟩ := z
    have lt : i < n := by omega
    refine codeAny_builtin F.entry_set_update_loop (by
      rw [Around.under_plainId F.plain_set_update_loop _]
      refine wpAny_bind (W.item i s _ _ lt st fun v s1 pv st1 mv => ?_)
      obtain ⟨x, t, hx, rfl⟩ := hv i v pv
      have ts1 : TSet w s1.heap S L := ts.at fun o e => mv.heap S o nw e
      have hl := m.len
      refine wpAny_bind (wpAny_holding ?_)
      unfold setAdd
      refine wpAny_holding (wpAny_bind ((PySem.strKind P w).pyHash (k := x) (PySem.strKind_is _ _ _ _) ?_))
      refine tset_add (s := { s1 with toks := s1.toks + 1 }) ts1 (by omega) fun h2 bb sb ts2 => ?_
      refine wpAny_pure ⟨plainId_quiet F.plain_set_update_loop _, ih (i + 1) _ (by omega) lt (W.frame _ s1 _ _ st1 (Nat.le_succ _) fun b hb o e => ?_) ⟨_, m.next hx, ts2⟩ fun s3 L3 mv3 m3 ts3 => ?_⟩
      · exact (sb.2 b fun z => hS (by rw [← z]; exact hb)).trans e
      · refine out s3 L3 (Moved.trans W.gtrans ((mv.mono up).then_heap (Nat.le_succ _) fun b o hb e => ?_) mv3) m3 ts3
        exact (sb.2 b fun z => hb (by rw [z]; exact List.mem_cons_self)).trans e)
theorem tset_new {h : Heap} (ho : h.get? a = some { cls := .type "set", dict := none, data := .set #[] 0 (.fresh 0 0 (!w.params.followText "set-order")) }) : TSet w h a [] := by
  refine ⟨_, #[], 0, _, ho, ⟨rfl, rfl, rfl⟩, rfl, fun e he => by simp at he, List.Perm.refl _, List.nodup_nil, by decide, by rfl, List.Pairwise.nil, ?_⟩
  show _ ∨ (!w.params.followText "set-order") = true
  cases w.params.followText "set-order" with
  | true => exact .inl rfl
  | false => exact .inr rfl
abbrev freshSet (w : World) : Obj := { cls := .type "set", dict := none, data := .set #[] 0 (.fresh 0 0 (!w.params.followText "set-order")) }
theorem texts_at {us : List Value} {xs : List Str} (h : StrsAre us xs) : ∀ (i : Nat) (v : Value), us[i]? = some v → ∃ x t, xs[i]? = some x ∧ v = .str x t := by
  induction h with
  | nil => intro i v e; simp at e
  | cons x t r ih =>
    intro i v e
    cases i with
    | zero => simp at e; exact ⟨x, t, rfl, e.symm⟩
    | succ i => exact ih i v (by simpa using e)
set_option maxHeartbeats 6400000 in
theorem call_setL {l : Addr} {items : Array Value} (xs : List Str) {Q : Value → Shared → Prop} (hh : A.handled = none) (hl : s.heap.IsList l items) (hx : StrsAre items.toList xs) (hb : xs.length + 1 < scanBound)
    (fin : ∀ (h' : Heap) (tk : Nat) (L : List Str), TSet w h' s.heap.objs.size L → Met xs xs.length L → (∀ b o, s.heap.get? b = some o → h'.get? b = some o) → Q (.ref s.heap.objs.size) { s with heap := h', toks := tk }) :
    wpAny (model P w) A (call (.type "set") [.ref l]) Q E s := by
  have ez : items.size = xs.length := by have q := StrsAre.len_eq hx; rw [Array.length_toList] at q; first | exact q | exact q.symm
  obtain ⟨c, tl, hmro⟩ := F.called_set.mro
  have hmade := F.called_set.made; have hsub := F.called_set.sub; have h1 := F.called_set.notType; have h2 := F.called_set.canCreate
  have hct := F.typeCall_set_1 (.ref l)
  refine wpAny_call (codeAny_of_tree (show wpAny _ _ (callAny (.type "set") _) _ _ _ from wpAny_pure ⟨Code.quiet_builtin _ (by decide +kernel), codeAny_builtin F.entry_type_call ?_⟩))
  rw [Around.under_plain (weight_type_call_type "set" [.ref l] []) rfl]
  repeat (any_goals (first | assumption | wp_step))
  refine codeAny_mono (L2.code_set_led1 (.ref l) (E := E) (Q₁ := fun z s1 => z = .ref s.heap.objs.size ∧ s1 = { s with heap := s.heap.push (freshSet w) }) ⟨rfl, rfl⟩) fun r s1 hr => ?_
  cases r with
  | error e => exact hr
  | ok fl =>
    cases fl with
    | ret z =>
      obtain ⟨rfl, rfl⟩ := hr
      have sAt : (s.heap.push (freshSet w)).get? s.heap.objs.size = some (freshSet w) := Heap.get?_push_size _ rfl
      have sTy : Shared.TypeIs { s with heap := s.heap.push (freshSet w) } (.ref s.heap.objs.size) "set" := ⟨_, sAt, rfl⟩
      have hli := F.called_set.init.lookup; have hbi := F.called_set.init.bind (.ref s.heap.objs.size)
      repeat (any_goals (first | assumption | wp_step))
      refine codeAny_mono (codeAny_call_builtin (R := wants (fun r s2 => r = .none ∧ ∃ h' tk L, s2 = { s with heap := h', toks := tk } ∧ TSet w h' s.heap.objs.size L ∧ Met xs xs.length L ∧
          (∀ b o, s.heap.get? b = some o → h'.get? b = some o)) E) F.called_set.init.plain F.entry_set_init (check_set_init_1 sTy ?_)) fun r2 s2 hr2 => ?_
      · obtain ⟨⟨oc, od, odat, osl⟩, hol, hcl, nl, hdl⟩ := hl
        simp only at hcl hdl
        subst hcl hdl
        have hol' : (s.heap.push (freshSet w)).get? l = some { cls := .type "list", dict := od, data := .seq items nl, slots := osl } := Heap.get?_push_of_some _ hol
        have n1 := F.sub_list_set; have n2 := F.sub_list_frozenset
        have n3 : (Value.type "list" == Value.type "dict") = false := by decide
        have lAt : (s.heap.push (freshSet w)).IsList l items := ⟨_, hol', rfl, nl, rfl⟩
        unfold Builtin.«set.__init__» noKeywords Builtin.Frozenset.updateFrom
        generalize hPI : pyIter = PI
        wp_walk
        subst hPI
        refine wpAny_pyIter_list lAt (wpAny_bind (wpAny_runValue ?_))
        have lS : l < s.heap.objs.size := Heap.lt_size hol
        have hh3 : A.in1.in1.in1.handled = none := by simp [hh]
        have z1 : (s.heap.push (freshSet w)).objs.size = s.heap.objs.size + 1 := Heap.size_push ..
        have ne1 : l ≠ (s.heap.push (freshSet w)).objs.size := by rw [Heap.size_push]; exact Nat.ne_of_lt (Nat.lt_succ_of_lt lS)
        have ne2 : s.heap.objs.size ∉ [(s.heap.push (freshSet w)).objs.size, l] := by
          rw [Heap.size_push]; simp only [List.mem_cons, List.not_mem_nil, or_false, not_or]; exact ⟨Nat.ne_of_lt (Nat.lt_succ_self _), Nat.ne_of_gt lS⟩
        refine tset_loop ((Walks.list hh3 _ l ne1 items).toS) s.heap.objs.size ne2 xs ez (by rw [ez]; exact hb) (fun i v hv => texts_at hx i v (by rw [Array.getElem?_toList]; exact hv)) (items.size - 0) 0 _ (by omega) (Nat.zero_le _)
          ⟨⟨_, Heap.get?_push_size _ rfl, rfl, rfl⟩, (lAt.push _)⟩ ⟨[], ⟨fun x => by simp, Nat.le_refl _⟩, tset_new (Heap.get?_push_of_some _ sAt)⟩ ?_
        intro s3 L mv m ts
        obtain ⟨h3, g3, d3, tk3, os3⟩ := s3
        have eg : g3 = s.gens := mv.gens
        have ed : d3 = s.drawn := mv.drawn
        have eo : os3 = s.os := mv.os
        subst eg ed eo
        rw [ez] at m
        refine wpAny_pure (show wpAny _ _ (ret Value.none) _ _ _ from wpAny_pure ⟨rfl, h3, tk3, L, rfl, ts, m, fun b o e => ?_⟩)
        have hb0 : b < s.heap.objs.size := Heap.lt_size e
        refine mv.heap b o ?_ (Heap.get?_push_of_some _ (Heap.get?_push_of_some _ e))
        rw [Heap.size_push]; simp only [List.mem_cons, List.not_mem_nil, or_false, not_or]; exact ⟨Nat.ne_of_lt hb0, Nat.ne_of_lt (Nat.lt_succ_of_lt hb0)⟩
      · cases r2 with
        | error e => exact hr2
        | ok f2 =>
          cases f2 with
          | ret r =>
            obtain ⟨rfl, h', tk, L, rfl, ts, m, k'⟩ := hr2
            repeat (any_goals (first | assumption | wp_step))
            exact fin _ _ _ ts m k'
          | _ => exact hr2.elim
    | _ => exact hr.elim
/-- sorted(the set) -/
theorem sorted_tset {Q : Value → Shared → Prop} (r : TSet w s.heap a L) (hh : A.handled = none) (h64 : L.length < 64)
    (hQ : ∀ s' p (out : Array Value) (c : Nat) (ys : List Str), (∀ b o, s.heap.get? b = some o → s'.heap.get? b = some o) → s'.gens = s.gens → s'.os = s.os → s.heap.objs.size ≤ p →
      s'.heap.get? p = some (seqObj "list" out c) → StrsAre out.toList ys → ys.Perm L → sortedS ys = true → Q (.ref p) s') : wpAny (model P w) A (call (.builtin "sorted") [.ref a]) Q E s := by
  obtain ⟨o, es, ep, t, ho, hex, hd, g, pm, nd, hb, hf, hr, hl⟩ := r
  have hz : es.size < scanBound := by rw [TSet.size pm]; exact hb
  refine Calls.call_function_entry kind_sorted plain_sorted entry_sorted (args_sorted1 _) ?_
  unfold Builtin.«sorted»
  refine wpAny_bind (m := checkCount "sorted" 1 1 _) (wpAny_pure (wpAny_bind (L2.collect_set (A := A.in1) hh ⟨o, ho, hex.1, hd⟩ hf hz hr hl fun s1 vs k1 z1 g1 o1 p1 => ?_)))
  have ev : vs.length = L.length := by rw [p1.length_eq, List.length_map, Array.length_toList, TSet.size pm]
  have all : ∀ us : List Value, (∀ v ∈ us, ∃ x tk, v = Value.str x tk) → StrsAre us (us.map fun v => txOf (0, v)) := fun us => by
    induction us with
    | nil => intro _; exact .nil
    | cons v us ih =>
      intro q
      obtain ⟨x, tk, rfl⟩ := q v List.mem_cons_self
      exact .cons x tk (ih fun u hu => q u (List.mem_cons_of_mem _ hu))
  have hS : StrsAre vs (vs.map fun v => txOf (0, v)) := all vs fun v hv => by
    obtain ⟨e, he, q⟩ := List.mem_map.mp (p1.mem_iff.mp hv)
    obtain ⟨x, tk, e1, _⟩ := g e he
    exact ⟨x, tk, by rw [← q]; exact e1⟩
  have pk : (vs.map fun v => txOf (0, v)).Perm L := by
    have q := p1.map fun v => txOf (0, v)
    rw [List.map_map] at q
    exact q.trans pm
  refine wpAny_bind (wpAny_newList ?_ (by rw [ev, sizeLine_eq]; omega))
  have lAt : (s1.heap.push (seqObj "list" vs.toArray 0)).get? s1.heap.objs.size = some (seqObj "list" vs.toArray 0) := Heap.get?_push_size _ rfl
  refine wpAny_bind (wpAny_holding (wpAny_call_entry slot_list_sort ⟨_, lAt, rfl⟩ entry_list_sort
    (list_sort_treeK strKind_oneLt (s := { s1 with heap := s1.heap.push (seqObj "list" vs.toArray 0) }) lAt hS.keysOf (fun v1 v2 rest e => keyKind_strs (by rw [← e]; exact hS)) (by rw [ev]; exact h64) fun st' hp hs => ⟨_, rfl, ?_⟩) (args_list_sort _)))
  obtain ⟨ys, y1, y2, y3⟩ := sorted_out_str hS hp hs
  obtain ⟨c, hc⟩ := sortedHeap_at (vs := vs) (out := (arrOf st').map (·.2)) lAt
  refine wpAny_pure ⟨_, rfl, hQ _ s1.heap.objs.size _ c ys (fun b u e => ?_) g1 o1 z1 hc y1 (y2.trans pk) y3⟩
  have lt := Heap.lt_size (k1 b u e)
  exact (sortedHeap_old (Nat.ne_of_lt lt) (by rw [size_push']; exact Nat.lt_succ_of_lt lt)).trans (Heap.get?_push_of_some _ (k1 b u e))
end
/-! ### as rules -/
def TSetO (w : World) (a : Addr) (L : List Str) : HO := .ext fun h => TSet w h a L
section
variable {X : Cx}
theorem tsetO_new {P : Program} {w : World} {H : Hp} {h : Heap} {a : Addr} {L : List Str} (r : TSet w h a L) : ObjOk P w H h a (TSetO w a L) :=
  ⟨r, let ⟨o, _, _, _, ho, _⟩ := r; ⟨o, ho⟩, fun h1 h2 p k => TSet.at p k⟩
def rSetTx (K : PySem.W.Frag) (w : World) : List V → Hp → VK → Prop := fun vs H Q => ∃ (l : Addr) (xs : List Str), vs = [V.ref l] ∧ SqL K H l (xs.map V.str) ∧ xs.length ≤ 4000 ∧
  ∀ p L, H p = none → L.Nodup → (∀ x, x ∈ L ↔ x ∈ xs) → L.length ≤ xs.length → Q (.ref p) (upd H p (TSetO w p L))
theorem TSet.nodup {w : World} {h : Heap} {a : Addr} {L : List Str} (r : TSet w h a L) : L.Nodup := by
  obtain ⟨_, _, _, _, _, _, _, _, _, nd, _⟩ := r
  exact nd
theorem call_setTx (hc : X.calm = true) : CallR X (.type "set") (rSetTx X.K X.w) := by
  intro pins s σ H vs us Q I r h
  obtain ⟨l, xs, rfl, hq, hl, q⟩ := h
  rw [Vals.ref1 r]
  obtain ⟨its, rv, pl, hz⟩ := I.list hq
  refine call_setL (P := X.prog) xs (I.ok.hd hc) pl.isList (by simpa using strsAre_of rv) (by unfold scanBound; omega) fun h' tk L ts m k => ?_
  exact ⟨.ref s.heap.objs.size, _, I.laid (t' := tk) k (Nat.le_refl _) (tsetO_new ts), rfl, q _ L (I.hok.fresh (Nat.le_refl _)) ts.nodup (fun x => by have := m.mem x; rwa [List.take_length] at this) m.len⟩
theorem call_sortedTx (hc : X.calm = true) : CallR X (.builtin "sorted") (fun vs H Q => ∃ (a : Addr) (L : List Str), vs = [V.ref a] ∧ H a = some (TSetO X.w a L) ∧ L.length < 64 ∧
    ∀ ys p, ys.Perm L → sortedS ys = true → H p = none → Q (.ref p) (upd H p (.lst (ys.map V.str)))) := by
  intro pins s σ H vs us Q I r h
  obtain ⟨a, L, rfl, ha, h64, q⟩ := h
  have ts : TSet X.w s.heap a L := (I.hok a _ ha).1
  rw [Vals.ref1 r]
  refine sorted_tset (P := X.prog) ts (I.ok.hd hc) h64 fun s1 p out c ys k g o hp hg hi pm hs => ?_
  have ln : (ys.map V.str).length ≤ sizeLine := by rw [List.length_map, pm.length_eq, sizeLine_eq]; omega
  have hn : H p = none := I.hok.fresh hp
  have J : Inv X pins σ (upd H p (.lst (ys.map V.str))) { s with heap := s1.heap, gens := s1.gens, drawn := s1.drawn, toks := s1.toks } :=
    I.call (ch := []) (Un.laid k hp hn) (I.hok.laid k hp ⟨ln, out.toList, c, vals_of_strs hi, hg⟩) (by rw [g]; exact I.bare) (fun _ z => nomatch z)
  have e : s1 = { s with heap := s1.heap, gens := s1.gens, drawn := s1.drawn, toks := s1.toks } := by
    cases s1; cases s; cases o; rfl
  rw [e]
  exact ⟨.ref p, _, J, rfl, q ys p pm hs hn⟩
theorem call_lenTx : CallR X (.builtin "len") (fun vs H Q => ∃ (a : Addr) (L : List Str), vs = [V.ref a] ∧ H a = some (TSetO X.w a L) ∧ Q (.int L.length) H) := by
  intro pins s σ H vs us Q I r h
  obtain ⟨a, L, rfl, ha, q⟩ := h
  have ts : TSet X.w s.heap a L := (I.hok a _ ha).1
  rw [Vals.ref1 r]
  obtain ⟨o, es, ep, t, ho, hex, hd, g, pm, nd, hb, hf, hr, hl⟩ := ts
  have ez := TSet.size pm
  refine call_len_set ho hex hd hf (by unfold scanBound at hb; omega) ⟨.int L.length, H, (I.tok _).tok _, ⟨_, by rw [ez]⟩, q⟩
end
end DL

set_option Elab.async false
set_option linter.all false
set_option maxRecDepth 100000
set_option maxHeartbeats 2000000
/-! dicts walked, more comprehensions, more calls -/
namespace DL
open PySem PySem.Spec PyProof.Rows L2
abbrev St := L2.St
/-! ### a shared dict is locked, for ever -/
theorem Ok.lock {K : PySem.W.Frag} {S : W} {a : Addr} {kvs : List (Key × V)} (r : Ok K S) (e : S.hs a = some (.dK kvs)) (od : Obj) : Step K S ⟨upd S.hs a (.frz od (.dK kvs)), S.c, upd S.h a (.frz od (.dK kvs))⟩ := by
  have x : Ext S.hs (upd S.hs a (.frz od (.dK kvs))) := fun b o h => by
    by_cases hb : b = a
    · subst hb
      rw [e] at h
      cases h
      exact ⟨_, upd_same, rfl, fun ob u z => nomatch z⟩
    · exact ⟨o, by rw [upd_ne hb]; exact h, rfl, fun _ _ _ => rfl⟩
  refine ⟨x, fun b o h1 h2 h3 => ?_, ⟨fun b o h => ?_, fun b c h => ?_⟩⟩
  · have hb : b ≠ a := fun z => by rw [z, e] at h2; cases h2
    exact ⟨(upd_ne hb).trans h1, (upd_ne hb).trans h2, h3⟩
  · have h' : upd S.hs a (.frz od (.dK kvs)) b = some o := h
    show upd S.h a (.frz od (.dK kvs)) b = some o
    by_cases hb : b = a
    · subst hb; rw [upd_same] at h' ⊢; exact h'
    · rw [upd_ne hb] at h' ⊢; exact r.le b o h'
  · obtain ⟨k1, k2⟩ := r.cell b c h
    have hb : b ≠ a := fun z => by rw [z, e] at k1; cases k1
    exact ⟨(upd_ne hb).trans k1, k2.move x (upd_ne hb)⟩
def tLockV (t : TE) : TE := fun σ H Q => t σ H fun v H1 => ∃ a kvs, v = .ref a ∧ ((∃ o, H1 a = some (.frz o (.dK kvs)) ∧ Q v H1) ∨ (H1 a = some (.dK kvs) ∧ ∀ od, Q v (upd H1 a (.frz od (.dK kvs)))))
theorem pe_lockV {X : Cx} {e : Expr} {t : TE} (he : PE X e t) : PE X e (tLockV t) := by
  refine ⟨fun pins s σ H Q I h => ?_⟩
  refine thn (he.run pins s σ H _ I h) fun u s1 ⟨x, H1, I1, rx, a, kvs, ex, q⟩ => ?_
  rcases q with ⟨o, _, q⟩ | ⟨hd, q⟩
  · exact ⟨x, H1, I1, rx, q⟩
  · obtain ⟨od, I2⟩ := I1.lock hd (by trivial)
    exact ⟨x, _, I2, rx, q od⟩
/-- a shared dict, locked: from here on it can be walked -/
theorem lift_lock {K : PySem.W.Frag} {t : DT} {σ : St} {H : Hp} {Q : VK} {P' : List (Key × D) → Cells → Prop}
    (q : ∃ ρ S, S.h = H ∧ Sl K S.hs σ ρ ∧ Ok K S ∧ t ρ S.c (fun x C1 => match x with | .dic kds => P' kds C1 | _ => False) ∧
      ∀ d o kds kvs S', Step K S S' → S'.hs d = some (.frz o (.dK kvs)) → RK K S'.hs kds kvs → P' kds S'.c → Q (.ref d) S'.h) : tLockV (liftE K t) σ H Q := by
  obtain ⟨ρ, S, rfl, s, r, t, w⟩ := q
  refine ⟨ρ, S, _, rfl, s, r, t, fun v x S1 e1 rx t1 => ?_⟩
  cases x with
  | dic kds =>
    simp only [R] at rx
    obtain ⟨a, o, kvs, rfl, h1, h2, h3⟩ := rx
    cases o with
    | frz ob u =>
      cases u <;> simp [core] at h2
      subst h2
      exact ⟨a, _, rfl, .inl ⟨ob, e1.ok.le _ _ h1, w a ob kds _ S1 e1 h1 h3 t1⟩⟩
    | dK k =>
      simp [core] at h2
      subst h2
      refine ⟨a, k, rfl, .inr ⟨e1.ok.le _ _ h1, fun od => ?_⟩⟩
      have st := e1.ok.lock h1 od
      exact w a od kds k _ (e1.trans st) upd_same (RK.ext st.ext _ _ h3) t1
    | _ => simp [core] at h2
  | _ => exact t1.elim
def keyD : Key → D
  | .inl i => .int i
  | .inr x => .str x
def keysD (kds : List (Key × D)) : List D := kds.map fun q => keyD q.1
theorem keyD_R {K : PySem.W.Frag} {Hs : Hp} (k : Key) : R K Hs (keyD k) (kV k) := by
  cases k <;> simp only [keyD, R, kV]
theorem RK.keyAt {K : PySem.W.Frag} {Hs : Hp} : ∀ {kds : List (Key × D)} {kvs : List (Key × V)} {i : Nat} {k : Key} {v : V}, RK K Hs kds kvs → kvs[i]? = some (k, v) → (keysD kds)[i]? = some (keyD k)
  | [], kvs, i, k, v, h, e => by simp only [RK] at h; subst h; simp at e
  | (q, d) :: r, kvs, 0, k, v, h, e => by
    simp only [RK] at h
    obtain ⟨u, s, rfl, h1, h2⟩ := h
    simp at e
    simp [keysD, e.1]
  | (q, d) :: r, kvs, i + 1, k, v, h, e => by
    simp only [RK] at h
    obtain ⟨u, s, rfl, h1, h2⟩ := h
    have := RK.keyAt (i := i) h2 (by simpa using e)
    simpa [keysD] using this
theorem for_itk {d : Addr} {o : Obj} {kvs : List (Key × V)} {g : TG} {tb : TS} {E : Ends} {σ : St} {H : Hp} (Pv : Nat → St → Hp → Prop) (h0 : Pv 0 σ H) (hl : ∀ i σ H, Pv i σ H → H d = some (.frz o (.dK kvs)))
    (hs : ∀ i k v σ H, kvs[i]? = some (k, v) → Pv i σ H → g (kV k) σ H fun σ2 H2 => tb { E with nx := Pv (i + 1), ct := Pv (i + 1), bk := E.nx } σ2 H2) (hd : ∀ σ H, Pv kvs.length σ H → E.nx σ H) :
    ∃ Wv : Nat → Nat → St → Hp → Prop, (∃ m, Wv 0 m σ H) ∧ ∀ i m σ H, Wv i m σ H →
      ((Itk d o kvs).stop i H ∧ E.nx σ H) ∨ ((Itk d o kvs).go i H ∧ ∃ N : St → Hp → Prop, (∀ σ' H', N σ' H' → ∃ m', m' < m ∧ Wv (i + 1) m' σ' H') ∧ ∀ x H', (Itk d o kvs).yld i H x H' → g x σ H' fun σ2 H2 => tb { E with nx := N, ct := N, bk := E.nx } σ2 H2) := by
  refine ⟨fun i m σ H => m = kvs.length - i ∧ i ≤ kvs.length ∧ Pv i σ H, ⟨kvs.length, rfl, Nat.zero_le _, h0⟩, ?_⟩
  rintro i m σ H ⟨rfl, hi, p⟩
  have q := hl i σ H p
  by_cases lt : i < kvs.length
  · refine .inr ⟨⟨q, lt⟩, Pv (i + 1), fun σ' H' p' => ⟨kvs.length - (i + 1), by omega, rfl, lt, p'⟩, fun x H' y => ?_⟩
    obtain ⟨rfl, k, v, e, rfl⟩ := y
    exact hs i k v σ _ e p
  · obtain rfl : i = kvs.length := by omega
    exact .inl ⟨⟨q, Nat.le_refl _⟩, hd σ H p⟩
theorem lc_itk {d : Addr} {o : Obj} {kvs : List (Key × V)} {g : TG} {tt : TT} {te : TE} {vs : List Nat} {σ : St} {H1 : Hp} {Dl : Addr} {Qd : Hp → Prop} (Pv : Nat → Hp → Prop) (h0 : Pv 0 (upd H1 Dl (.lst []))) (hl : ∀ i H, Pv i H → H d = some (.frz o (.dK kvs)))
    (hs : ∀ i k v H, kvs[i]? = some (k, v) → Pv i H → g (kV k) (wipe σ vs) H fun σ2 H2 => wipe σ2 vs = wipe σ vs ∧ tt σ2 H2 fun b H3 =>
      if b = true then te σ2 H3 fun y H4 => ∃ acc, H4 Dl = some (.lst acc) ∧ acc.length < sizeLine ∧ Pv (i + 1) (upd H4 Dl (.lst (acc ++ [y]))) else Pv (i + 1) H3) (hd : ∀ H, Pv kvs.length H → Qd H) :
    ∃ Wv : Nat → Nat → Hp → Prop, (∃ m, Wv 0 m (upd H1 Dl (.lst []))) ∧ ∀ i m H, Wv i m H →
      ((Itk d o kvs).stop i H ∧ Qd H) ∨ ((Itk d o kvs).go i H ∧ ∃ Nx : Hp → Prop, (∀ H', Nx H' → ∃ m', m' < m ∧ Wv (i + 1) m' H') ∧ ∀ x H', (Itk d o kvs).yld i H x H' → g x (wipe σ vs) H' fun σ2 H2 => wipe σ2 vs = wipe σ vs ∧ tt σ2 H2 fun b H3 =>
        if b = true then te σ2 H3 fun y H4 => ∃ acc, H4 Dl = some (.lst acc) ∧ acc.length < sizeLine ∧ Nx (upd H4 Dl (.lst (acc ++ [y]))) else Nx H3) := by
  refine ⟨fun i m H => m = kvs.length - i ∧ i ≤ kvs.length ∧ Pv i H, ⟨kvs.length, rfl, Nat.zero_le _, h0⟩, ?_⟩
  rintro i m H ⟨rfl, hi, p⟩
  have q := hl i H p
  by_cases lt : i < kvs.length
  · refine .inr ⟨⟨q, lt⟩, Pv (i + 1), fun H' p' => ⟨kvs.length - (i + 1), by omega, rfl, lt, p'⟩, fun x H' y => ?_⟩
    obtain ⟨rfl, k, v, e, rfl⟩ := y
    exact hs i k v _ e p
  · obtain rfl : i = kvs.length := by omega
    exact .inl ⟨⟨q, Nat.le_refl _⟩, hd H p⟩
section
variable {X : Cx} {tg iter : Expr} {body : List Stmt} {g : DG} {tb : DS} {pos : Pos}
/-- for k in d -/
def dForD (t : DT) (g : DG) (tb : DS) : DS := fun E ρ C => t ρ C fun x C1 => match x with
  | .dic kds => loopN (keysD kds) g tb E ρ C1
  | _ => False
theorem ds_forD {t : DT} (hc : X.calm = true) (hi : DE X iter t) (hg : DGt X tg g) (hb : DSs X body tb) (hp : PassesOwn (model X.prog X.w) X.A X.env X.xe := by exact PassesOwn.never)
    (hs : ∀ x, foldedSetIterable iter X.env x = pure x := by intro _; rfl) : DSt X (.For tg iter body [] pos) (dForD t g tb) := by
  refine ps_weak (ps_for hp hc (pi_keys (pe_lockV hi)) hg hb hs) fun F σ H q => ?_
  obtain ⟨ρ, S, E, rfl, s, r, t, w⟩ := q
  refine lift_lock (P' := fun kds C1 => loopN (keysD kds) g tb E ρ C1) ⟨ρ, S, rfl, s, r, t, fun d o kds kvs S1 e1 h1 h2 t1 => ?_⟩
  obtain ⟨I, i0, it, ie⟩ := t1
  refine ⟨d, o, rfl, .inl ⟨kvs, e1.ok.le _ _ h1, for_itk (fun i σ H => Turn X.K S1 (I i) σ H) ⟨ρ, S1, rfl, .refl e1.ok, s.ext e1.ext, i0⟩ (fun i σ' H' T => ?_) (fun i k v σ' H' hx T => ?_) (fun σ' H' T => ?_)⟩⟩
  · obtain ⟨ρ', S', rfl, st, _, _⟩ := T
    exact st.ok.le _ _ (st.ext.frz h1)
  · obtain ⟨ρ', S', rfl, st, s', p⟩ := T
    exact turn_ok (w.st e1) st s' (keyD_R k) (it i _ ρ' _ (h2.keyAt hx) p)
  · obtain ⟨ρ', S', rfl, st, s', p⟩ := T
    refine w.nx ρ' σ' S' (e1.trans st) s' (ie _ _ ?_)
    rw [keysD, List.length_map, ← h2.len]
    exact p
end
section
variable {X : Cx} {elt tg iter : Expr} {ifs : List Expr} {scope : Scope} {pos : Pos} {j : Nat} {x : Str} {px : Pos} {tt : DB} {te : DT}
/-- [.. for k in d ..] -/
def dLcD (t : DT) (j : Nat) (tt : DB) (te : DT) : DT := fun ρ C P => t ρ C fun y C1 => match y with
  | .dic kds => compN (keysD kds) j tt te ρ C1 P
  | _ => False
theorem iKeys_lift {t : DT} {σ : St} {H : Hp} {Q : VK} (q : liftE X.K (dLcD t j tt te) σ H Q) : tLc (iKeys (tLockV (liftE X.K t))) (gName j) (liftB X.K tt) (liftE X.K te) [j] σ H Q := by
  obtain ⟨ρ, S, P, rfl, s, r, t, w⟩ := q
  refine lift_lock (P' := fun kds C1 => compN (keysD kds) j tt te ρ C1 P) ⟨ρ, S, rfl, s, r, t, fun d o kds kvs S1 e1 h1 h2 t1 => ?_⟩
  obtain ⟨I, i0, it, ie⟩ := t1
  refine ⟨d, o, rfl, .inl ⟨kvs, e1.ok.le _ _ h1, fun Dl hD => lc_itk (fun i H => CTurn X.K S1 Dl (I i) H) (CTurn.start e1.ok hD i0) (fun i H T => ?_) (fun i k v H hx T => ?_) (fun H T => ?_)⟩⟩
  · obtain ⟨S', _, _, rfl, st, _⟩ := T
    exact st.ok.le _ _ (st.ext.frz h1)
  · exact cturn_ok (s.ext e1.ext) T (fun Hs e => keyD_R k) (fun acc C p => it i _ acc C (h2.keyAt hx) p)
  · refine T.done (w.st e1) fun acc C p => ie acc C ?_
    rw [keysD, List.length_map, ← h2.len]
    exact p
theorem de_lcD {t : DT} (hc : X.calm = true) (hN : X.N.Nodup) (hi : DE X iter t) (ok : blkC X.N X.env.scope scope [(x, j)] = true)
    (hg : ∀ (s : Shared) (H : Hp) (C : Addr) (cl : List (Str × Addr)) (fp : List Addr), PG (X.blk s H scope (compEnvC scope cl C X.env) fp) (.Name x px) (gName j))
    (ht : ∀ (s : Shared) (H : Hp) (C : Addr) (cl : List (Str × Addr)) (fp : List Addr), DPs (X.blk s H scope (compEnvC scope cl C X.env) fp) ifs tt)
    (he : ∀ (s : Shared) (H : Hp) (C : Addr) (cl : List (Str × Addr)) (fp : List Addr), DE (X.blk s H scope (compEnvC scope cl C X.env) fp) elt te) (hs : ∀ x, foldedSetIterable iter X.env x = pure x := by intro _; rfl) :
    DE X (.ListComp elt [⟨.Name x px, iter, ifs, 0⟩] scope pos) (dLcD t j tt te) :=
  pe_weak (pe_lc (own := [(x, j)]) (tt := liftB X.K tt) (te := liftE X.K te) hc hN (pi_keys (pe_lockV hi)) (blkOk_by ok) hg ht he hs) fun σ H Q q => iKeys_lift q
theorem ds_setLcD {t : DT} {i : Nat} {y : Str} {py spos : Pos} (hc : X.calm = true) (hN : X.N.Nodup) (hi : DE X iter t) (ok : blkC X.N X.env.scope scope [(x, j)] = true)
    (hg : ∀ (s : Shared) (H : Hp) (C : Addr) (cl : List (Str × Addr)) (fp : List Addr), PG (X.blk s H scope (compEnvC scope cl C X.env) fp) (.Name x px) (gName j))
    (ht : ∀ (s : Shared) (H : Hp) (C : Addr) (cl : List (Str × Addr)) (fp : List Addr), DPs (X.blk s H scope (compEnvC scope cl C X.env) fp) ifs tt)
    (he : ∀ (s : Shared) (H : Hp) (C : Addr) (cl : List (Str × Addr)) (fp : List Addr), DE (X.blk s H scope (compEnvC scope cl C X.env) fp) elt te) (hy : X.N[i]? = some y := by rfl) (hyl : X.env.scope.names.lookup y = some .local := by rfl)
    (hsw : swapsWith (.ListComp elt [⟨.Name x px, iter, ifs, 0⟩] scope pos) (some (.Name y py)) spos.line X.env = pure true := by exact sw_true rfl rfl rfl (by decide +kernel)) (hs : ∀ x, foldedSetIterable iter X.env x = pure x := by intro _; rfl) :
    DSt X (.Assign [.Name y py] (.ListComp elt [⟨.Name x px, iter, ifs, 0⟩] scope pos) spos) (dAsg (dLcD t j tt te) (dName i)) := by
  refine ps_weak (ps_setLc (own := [(x, j)]) (tt := liftB X.K tt) (te := liftE X.K te) hc hN hy hyl hsw (pi_keys (pe_lockV hi)) (blkOk_by ok) hg ht he hs) fun F σ H q => ?_
  obtain ⟨ρ, S, E, rfl, s, r, t, w⟩ := q
  refine iKeys_lift (X := X) ⟨ρ, S, _, rfl, s, r, t, fun v d S1 e1 rd t1 => ?_⟩
  exact w.nx _ _ S1 e1 ((s.ext e1.ext).set rd) t1
end
/-! ### comprehensions whose target is a pair of names -/
def gPair (K : PySem.W.Frag) (i j : Nat) : TG := fun v σ H Q => ∃ a x y, v = .ref a ∧ SqT K H a [x, y] ∧ Q ((σ.set i (some x)).set j (some y)) H
theorem pg_pair {X : Cx} {i j : Nat} {x y : Str} {p1 p2 pos : Pos} {kk : Nat} (hc : X.calm = true) (h1 : PG X (.Name x p1) (gName i)) (h2 : PG X (.Name y p2) (gName j))
    (e1 : (assignEach [.Name x p1, .Name y p2] X.env).map (·.2) = assign (.Name x p1) X.env :: (assignEach [.Name y p2] X.env).map (·.2) := by rfl) (e2 : (assignEach [.Name y p2] X.env).map (·.2) = assign (.Name y p2) X.env :: (assignEach [] X.env).map (·.2) := by rfl)
    (hn : (assignEach [.Name x p1, .Name y p2] X.env).length = 2 := by rfl) (hst : (assignEach [.Name x p1, .Name y p2] X.env).findIdx? (·.1) = none := by rfl) : PG X (.Tuple [.Name x p1, .Name y p2] kk pos) (gPair X.K i j) := by
  refine pg_weak (pg_tup hc (pgs_cons h1 (pgs_cons h2 pgs_nil e2) e1) hn hst) fun v σ H Q q => ?_
  obtain ⟨a, u, z, rfl, h, q⟩ := q
  exact ⟨a, [u, z], rfl, h, rfl, u, [z], rfl, z, [], rfl, rfl, q⟩
/-- item by item; the items are pairs -/
def compP (ds : List D) (i j : Nat) (tt : DB) (te : DT) : DT := fun ρ C P => ∃ I : Nat → List D → Cells → Prop, I 0 [] C ∧
  (∀ n d acc C, ds[n]? = some d → I n acc C → ∃ a b, d = .tup [a, b] ∧ tt ((ρ.set i (some a)).set j (some b)) C fun bb C1 => if bb = true then te ((ρ.set i (some a)).set j (some b)) C1 fun y C2 => acc.length < 1000000 ∧ ∃ C3, Gh C2 C3 ∧ I (n + 1) (acc ++ [y]) C3 else ∃ C3, Gh C1 C3 ∧ I (n + 1) acc C3) ∧ ∀ acc C', I ds.length acc C' → P (.lst acc) C'
theorem Sl.wipeSet {K : PySem.W.Frag} {Hs : Hp} {σ : St} {ρ : DL.Env} {i j : Nat} {a b : D} {x y : V} (s : Sl K Hs σ ρ) (h1 : R K Hs a x) (h2 : R K Hs b y) (hij : i ≠ j) : Sl K Hs (((wipe σ [i, j]).set i (some x)).set j (some y)) ((ρ.set i (some a)).set j (some b)) := by
  have e : ((wipe σ [i, j]).set i (some x)).set j (some y) = (σ.set i (some x)).set j (some y) := by
    apply List.ext_getElem?
    intro n
    simp only [wipe, List.foldr, List.foldl, List.getElem?_set, List.length_set]
    by_cases h1 : j = n <;> by_cases h2 : i = n <;> simp [h1, h2]
  rw [e]
  exact (s.set h1).set h2
theorem wipe_pair {σ : St} {i j : Nat} {x y : V} (hij : i ≠ j) : wipe (((wipe σ [i, j]).set i (some x)).set j (some y)) [i, j] = wipe σ [i, j] := by
  apply List.ext_getElem?
  intro n
  simp only [wipe, List.foldr, List.foldl, List.getElem?_set, List.length_set]
  by_cases h1 : j = n <;> by_cases h2 : i = n <;> simp [h1, h2]
end DL

set_option Elab.async false
set_option linter.all false
set_option maxRecDepth 100000
set_option maxHeartbeats 2000000
namespace DL
open PySem PySem.Spec PyProof.Rows L2
section
variable {K : PySem.W.Frag} {tt : DB} {te : DT}
/-- the comprehension's state, with a part B of what is shared -/
def CT (K : PySem.W.Frag) (S0 : W) (B : Hp) (Dl : Addr) (I : List D → Cells → Prop) (H : Hp) : Prop := ∃ S acc vs, S.h = H ∧ Step K S0 S ∧ S.h Dl = some (.lst vs) ∧ S.hs Dl = none ∧ S.c Dl = none ∧ S0.h Dl = none ∧ RA K S.hs acc vs ∧ I acc S.c ∧ Ext B S.hs
theorem CT.out {S0 : W} {B : Hp} {Dl : Addr} {I : List D → Cells → Prop} {H : Hp} (T : CT K S0 B Dl I H) : CTurn K S0 Dl I H := by
  obtain ⟨S, acc, vs, h0, h1, h2, h3, h4, h5, h6, h7, _⟩ := T
  exact ⟨S, acc, vs, h0, h1, h2, h3, h4, h5, h6, h7⟩
/-- a turn, the names bound -/
theorem cturn_in {S0 S : W} {B : Hp} {Dl : Addr} {ρ : DL.Env} {σ : St} {I' : List D → Cells → Prop} {acc : List D} {vs : List V} (st : Step K S0 S) (h1 : S.h Dl = some (.lst vs)) (h2 : S.hs Dl = none) (h3 : S.c Dl = none) (h5 : S0.h Dl = none) (ra : RA K S.hs acc vs) (eb : Ext B S.hs) (s1 : Sl K S.hs σ ρ)
    (t : tt ρ S.c fun b C1 => if b = true then te ρ C1 fun y C2 => acc.length < 1000000 ∧ ∃ C3, Gh C2 C3 ∧ I' (acc ++ [y]) C3 else ∃ C3, Gh C1 C3 ∧ I' acc C3) :
    liftB K tt σ S.h fun b H3 => if b = true then liftE K te σ H3 fun y H4 => ∃ acc, H4 Dl = some (.lst acc) ∧ acc.length < sizeLine ∧ CT K S0 B Dl I' (upd H4 Dl (.lst (acc ++ [y]))) else CT K S0 B Dl I' H3 := by
  refine ⟨ρ, S, _, rfl, s1, st.ok, t, fun b S1 e1 t1 => ?_⟩
  obtain ⟨q1, q2, q3⟩ := e1.fr Dl _ h1 h2 h3
  cases b with
  | false =>
    rw [if_neg Bool.false_ne_true] at t1
    rw [if_neg Bool.false_ne_true]
    obtain ⟨C3, gh, p2⟩ := t1
    have e3 := e1.ok.gh gh
    obtain ⟨k1, k2, k3⟩ := e3.fr Dl _ q1 q2 q3
    exact ⟨⟨S1.hs, C3, S1.h⟩, acc, vs, rfl, st.trans (e1.trans e3), k1, k2, k3, h5, RA.ext (e1.trans e3).ext _ _ ra, p2, eb.trans (e1.trans e3).ext⟩
  | true =>
    rw [if_pos rfl] at t1
    rw [if_pos rfl]
    refine ⟨ρ, S1, _, rfl, s1.ext e1.ext, e1.ok, t1, fun y dy S2 e2 ry t2 => ?_⟩
    obtain ⟨hl, C3, gh, p2⟩ := t2
    have e3 := e2.ok.gh gh
    obtain ⟨k1, k2, k3⟩ := (e2.trans e3).fr Dl _ q1 q2 q3
    have e4 := e1.trans (e2.trans e3)
    refine ⟨vs, k1, by rw [ra.len, sizeLine_eq]; omega, ⟨S2.hs, C3, upd S2.h Dl (.lst (vs ++ [y]))⟩, acc ++ [dy], vs ++ [y], rfl, ⟨st.ext.trans e4.ext, fun b o g1 g2 g3 => ?_, e3.ok.other k2 k3⟩, upd_same, k2, k3, h5, (RA.ext e4.ext _ _ ra).append (RA.cons (R.ext e3.ext _ _ ry) RA.nil), p2, eb.trans e4.ext⟩
    have hb : b ≠ Dl := fun q => by rw [q, h5] at g1; cases g1
    obtain ⟨m1, m2, m3⟩ := (st.trans e4).fr b o g1 g2 g3
    exact ⟨(upd_ne hb).trans m1, m2, m3⟩
theorem liftE.mono {t : DT} {σ : St} {H : Hp} {Q Q' : VK} (h : liftE K t σ H Q) (w : ∀ v H, Q v H → Q' v H) : liftE K t σ H Q' := by
  obtain ⟨ρ, S, P, e, s, r, t, k⟩ := h
  exact ⟨ρ, S, P, e, s, r, t, fun v d S' e' rd p => w _ _ (k v d S' e' rd p)⟩
theorem liftB.mono {t : DB} {σ : St} {H : Hp} {Q Q' : Bool → Hp → Prop} (h : liftB K t σ H Q) (w : ∀ v H, Q v H → Q' v H) : liftB K t σ H Q' := by
  obtain ⟨ρ, S, P, e, s, r, t, k⟩ := h
  exact ⟨ρ, S, P, e, s, r, t, fun b S' e' p => w _ _ (k b S' e' p)⟩
theorem cturn_out {S0 : W} {B : Hp} {Dl : Addr} {σ : St} {H : Hp} {I' : List D → Cells → Prop} (h : liftB K tt σ H fun b H3 => if b = true then liftE K te σ H3 fun y H4 => ∃ acc, H4 Dl = some (.lst acc) ∧ acc.length < sizeLine ∧ CT K S0 B Dl I' (upd H4 Dl (.lst (acc ++ [y]))) else CT K S0 B Dl I' H3) :
    liftB K tt σ H fun b H3 => if b = true then liftE K te σ H3 fun y H4 => ∃ acc, H4 Dl = some (.lst acc) ∧ acc.length < sizeLine ∧ CTurn K S0 Dl I' (upd H4 Dl (.lst (acc ++ [y]))) else CTurn K S0 Dl I' H3 := by
  refine h.mono fun b H3 z => ?_
  cases b with
  | true =>
    rw [if_pos rfl] at z ⊢
    exact z.mono fun y H4 ⟨acc, q1, q2, q3⟩ => ⟨acc, q1, q2, q3.out⟩
  | false =>
    rw [if_neg Bool.false_ne_true] at z ⊢
    exact z.out
end
section
variable {X : Cx} {elt iter : Expr} {ifs : List Expr} {scope : Scope} {pos : Pos} {i j : Nat} {x y : Str} {px py pt : Pos} {kk : Nat} {tt : DB} {te : DT}
def dLcP (t : DT) (i j : Nat) (tt : DB) (te : DT) : DT := fun ρ C P => t ρ C fun y C1 => match vw C1 y with
  | .lst ds => (∃ ds, y = .lst ds) ∧ compP ds i j tt te ρ C1 P
  | _ => False
theorem iPairs_lift {t : DT} (hij : i ≠ j) {σ : St} {H : Hp} {Q : VK} (q : liftE X.K (dLcP t i j tt te) σ H Q) : tLc (iList X.K (liftE X.K t)) (gPair X.K i j) (liftB X.K tt) (liftE X.K te) [i, j] σ H Q := by
  obtain ⟨ρ, S, P, rfl, s, r, t, w⟩ := q
  refine ⟨ρ, S, _, rfl, s, r, t, fun v d S1 e1 rd t1 => ?_⟩
  split at t1
  · rename_i ds e
    obtain ⟨⟨ds', rfl⟩, I, i0, it, ie⟩ := t1
    cases e
    simp only [R] at rd
    obtain ⟨a, vs, rfl, h1, h2⟩ := rd
    refine ⟨a, rfl, ⟨vs, SqL.of (e1.ok.le _ _ h1)⟩, fun Dl hD => lc_list (K := X.K) (a := a) (xs := vs) (fun n H => CTurn X.K S1 Dl (I n) H) (CTurn.start e1.ok hD i0) (fun n H _ T => ?_) (fun n z H hx T => ?_) (fun H T => ?_)⟩
    · obtain ⟨S', _, _, rfl, st, _⟩ := T
      exact SqL.of (st.ok.le _ _ (st.ext.lst h1))
    · obtain ⟨d, hd, hr⟩ := h2.getV hx
      obtain ⟨S', acc, us, rfl, st, g1, g2, g3, g5, ra, p⟩ := T
      obtain ⟨a1, b1, rfl, t2⟩ := it n d acc _ hd p
      have hr' := R.ext st.ext _ _ hr
      simp only [R] at hr'
      obtain ⟨p0, ws, rfl, k1, k2⟩ := hr'
      simp only [RA] at k2
      obtain ⟨u1, _, rfl, r1, u2, _, rfl, r2, rfl⟩ := k2
      refine ⟨p0, u1, u2, rfl, SqT.of (st.ok.le _ _ k1), wipe_pair hij, ?_⟩
      exact cturn_out (cturn_in st g1 g2 g3 g5 ra (Ext.refl _) (((s.ext e1.ext).ext st.ext).wipeSet r1 r2 hij) t2)
    · refine T.done (w.st e1) fun acc C p => ie acc C ?_
      rw [h2.len] at p; exact p
  · exact t1.elim
theorem de_lcP {t : DT} (hc : X.calm = true) (hN : X.N.Nodup) (hi : DE X iter t) (ok : blkC X.N X.env.scope scope [(x, i), (y, j)] = true)
    (hg1 : ∀ (s : Shared) (H : Hp) (C : Addr) (cl : List (Str × Addr)) (fp : List Addr), PG (X.blk s H scope (compEnvC scope cl C X.env) fp) (.Name x px) (gName i))
    (hg2 : ∀ (s : Shared) (H : Hp) (C : Addr) (cl : List (Str × Addr)) (fp : List Addr), PG (X.blk s H scope (compEnvC scope cl C X.env) fp) (.Name y py) (gName j))
    (ht : ∀ (s : Shared) (H : Hp) (C : Addr) (cl : List (Str × Addr)) (fp : List Addr), DPs (X.blk s H scope (compEnvC scope cl C X.env) fp) ifs tt)
    (he : ∀ (s : Shared) (H : Hp) (C : Addr) (cl : List (Str × Addr)) (fp : List Addr), DE (X.blk s H scope (compEnvC scope cl C X.env) fp) elt te) (hij : i ≠ j := by decide) (hs : ∀ x, foldedSetIterable iter X.env x = pure x := by intro _; rfl) :
    DE X (.ListComp elt [⟨.Tuple [.Name x px, .Name y py] kk pt, iter, ifs, 0⟩] scope pos) (dLcP t i j tt te) :=
  pe_weak (pe_lc (own := [(x, i), (y, j)]) (tt := liftB X.K tt) (te := liftE X.K te) hc hN (pi_list hi) (blkOk_by ok) (fun s H C cl fp => pg_pair (X := X.blk s H scope (compEnvC scope cl C X.env) fp) hc (hg1 s H C cl fp) (hg2 s H C cl fp)) ht he hs) fun σ H Q q => iPairs_lift hij q
end
/-! ### [.. for a in xs for b in ys if ..] -/
def compN2 (ds : List D) (j j1 : Nat) (ti : DT) (tt1 : DB) (te : DT) : DT := fun ρ C P => ∃ I : Nat → List D → Cells → Prop, I 0 [] C ∧
  (∀ i d acc C, ds[i]? = some d → I i acc C → ti ((ρ.set j1 none).set j (some d)) C fun y C1 => match y with
    | .lst es => ∃ J : Nat → List D → Cells → Prop, J 0 acc C1 ∧ (∀ k e acc C, es[k]? = some e → J k acc C → tt1 (((ρ.set j1 none).set j (some d)).set j1 (some e)) C fun b C1 =>
        if b = true then te (((ρ.set j1 none).set j (some d)).set j1 (some e)) C1 fun z C2 => acc.length < 1000000 ∧ ∃ C3, Gh C2 C3 ∧ J (k + 1) (acc ++ [z]) C3 else ∃ C3, Gh C1 C3 ∧ J (k + 1) acc C3) ∧
        ∀ acc C, J es.length acc C → ∃ C3, Gh C C3 ∧ I (i + 1) acc C3
    | _ => False) ∧ ∀ acc C', I ds.length acc C' → P (.lst acc) C'
theorem Sl.forget {K : PySem.W.Frag} {Hs : Hp} {σ : St} {ρ : DL.Env} {i : Nat} (s : Sl K Hs σ ρ) : Sl K Hs (σ.set i none) (ρ.set i none) := by
  refine ⟨by simpa using s.len, fun n d h => ?_⟩
  by_cases hn : i = n
  · subst hn
    rw [List.getElem?_set] at h
    simp at h
  · rw [List.getElem?_set_ne hn] at h ⊢
    exact s.get n d h
section
variable {X : Cx} {elt iter iter1 : Expr} {ifs1 : List Expr} {scope : Scope} {pos : Pos} {j j1 : Nat} {x y : Str} {px py : Pos} {ti : DT} {tt1 : DB} {te : DT}
def dLc2 (t : DT) (j j1 : Nat) (ti : DT) (tt1 : DB) (te : DT) : DT := fun ρ C P => t ρ C fun y C1 => match y with
  | .lst ds => compN2 ds j j1 ti tt1 te ρ C1 P
  | _ => False
theorem lc2_lift {t : DT} (hjj : j ≠ j1) {σ : St} {H : Hp} {Q : VK} (q : liftE X.K (dLc2 t j j1 ti tt1 te) σ H Q) :
    tLc2 (iList X.K (liftE X.K t)) (gName j) (liftB X.K dYes) (iList X.K (liftE X.K ti)) (gName j1) (liftB X.K tt1) (liftE X.K te) [j, j1] [j1] σ H Q := by
  obtain ⟨ρ, S, P, rfl, s, r, t, w⟩ := q
  refine ⟨ρ, S, _, rfl, s, r, t, fun v d S1 e1 rd t1 => ?_⟩
  cases d with
  | lst ds =>
    simp only [R] at rd
    obtain ⟨a, vs, rfl, h1, h2⟩ := rd
    obtain ⟨I, i0, it, ie⟩ := t1
    refine ⟨a, rfl, ⟨vs, SqL.of (e1.ok.le _ _ h1)⟩, fun Dl hD => ⟨fun i m H => m = vs.length - i ∧ i ≤ vs.length ∧ CTurn X.K S1 Dl (I i) H, ⟨vs.length, rfl, Nat.zero_le _, CTurn.start e1.ok hD i0⟩, ?_⟩⟩
    rintro i m H ⟨rfl, hi, T⟩
    have sq : SqL X.K H a vs := by
      obtain ⟨S', _, _, rfl, st, _⟩ := T
      exact SqL.of (st.ok.le _ _ (st.ext.lst h1))
    by_cases lt : i < vs.length
    · refine .inr ⟨⟨vs, vs[i], sq, by simp [lt]⟩, fun H' => CTurn X.K S1 Dl (I (i + 1)) H', fun H' p' => ⟨vs.length - (i + 1), by omega, rfl, lt, p'⟩, fun z H' yy => ?_⟩
      obtain ⟨rfl, hz⟩ := yy
      have hz := hz vs sq
      obtain ⟨d, hd, hr⟩ := h2.getV hz
      obtain ⟨S', acc, us, rfl, st, g1, g2, g3, g5, ra, p⟩ := T
      have sb : Sl X.K S'.hs ((wipe σ [j, j1]).set j (some z)) ((ρ.set j1 none).set j (some d)) := by
        have e : (wipe σ [j, j1]).set j (some z) = (σ.set j1 none).set j (some z) := by
          show ((σ.set j1 none).set j none).set j (some z) = _
          rw [List.set_set]
        rw [e]
        exact (((s.ext e1.ext).ext st.ext).forget).set (R.ext st.ext _ _ hr)
      refine ⟨?_, _, S', _, rfl, sb, st.ok, (show dYes _ S'.c (fun b C => b = true ∧ C = S'.c) from ⟨rfl, rfl⟩), fun b S2 e2 q => ?_⟩
      · show (((((σ.set j1 none).set j none).set j (some z)).set j1 none).set j none) = (σ.set j1 none).set j none
        apply List.ext_getElem?
        intro n
        simp only [List.getElem?_set, List.length_set]
        by_cases q1 : j = n <;> by_cases q2 : j1 = n <;> simp [q1, q2]
      · obtain ⟨rfl, ec⟩ := q
        rw [if_pos rfl]
        have ti' := it i d acc _ hd p
        rw [← ec] at ti'
        refine ⟨_, S2, _, rfl, sb.ext e2.ext, e2.ok, ti', fun v2 d2 S3 e3 r3 t3 => ?_⟩
        cases d2 with
        | lst es =>
          simp only [R] at r3
          obtain ⟨b, ws, rfl, m1, m2⟩ := r3
          obtain ⟨J, j0, jt, je⟩ := t3
          obtain ⟨g1', g2', g3'⟩ := (e2.trans e3).fr Dl _ g1 g2 g3
          have T3 : CT X.K S1 S3.hs Dl (J 0) S3.h := ⟨S3, acc, us, rfl, st.trans (e2.trans e3), g1', g2', g3', g5, RA.ext (e2.trans e3).ext _ _ ra, j0, Ext.refl _⟩
          refine ⟨b, rfl, ⟨ws, SqL.of (e3.ok.le _ _ m1)⟩, fun k m H => m = ws.length - k ∧ k ≤ ws.length ∧ CT X.K S1 S3.hs Dl (J k) H, ⟨ws.length, rfl, Nat.zero_le _, T3⟩, ?_⟩
          rintro k m H ⟨rfl, hk, T⟩
          have sq2 : SqL X.K H b ws := by
            obtain ⟨S', _, _, rfl, st, _, _, _, _, _, _, eb⟩ := T
            exact SqL.of (st.ok.le _ _ (eb.lst m1))
          by_cases lk : k < ws.length
          · refine .inr ⟨⟨ws, ws[k], sq2, by simp [lk]⟩, fun H' => CT X.K S1 S3.hs Dl (J (k + 1)) H', fun H' p' => ⟨ws.length - (k + 1), by omega, rfl, lk, p'⟩, fun z2 H' yy => ?_⟩
            obtain ⟨rfl, hz2⟩ := yy
            obtain ⟨d2, hd2, hr2⟩ := m2.getV (hz2 ws sq2)
            obtain ⟨S4, acc4, us4, rfl, st4, n1, n2, n3, n5, ra4, p4, eb⟩ := T
            refine ⟨wipe_back, ?_⟩
            exact cturn_in st4 n1 n2 n3 n5 ra4 eb (slot_wipe ((sb.ext (e2.trans e3).ext).ext eb) (R.ext eb _ _ hr2)) (jt k d2 acc4 _ hd2 p4)
          · obtain rfl : k = ws.length := by omega
            refine .inl ⟨⟨ws, sq2, Nat.le_refl _⟩, ?_⟩
            obtain ⟨S4, acc4, us4, rfl, st4, n1, n2, n3, n5, ra4, p4, eb⟩ := T
            rw [m2.len] at p4
            obtain ⟨C3, gh, p5⟩ := je acc4 _ p4
            have e5 := st4.ok.gh gh
            obtain ⟨k1, k2, k3⟩ := e5.fr Dl _ n1 n2 n3
            exact ⟨⟨S4.hs, C3, S4.h⟩, acc4, us4, rfl, st4.trans e5, k1, k2, k3, n5, ra4, p5⟩
        | _ => exact t3.elim
    · obtain rfl : i = vs.length := by omega
      exact .inl ⟨⟨vs, sq, Nat.le_refl _⟩, T.done (w.st e1) fun acc C p => ie acc C (by rw [h2.len] at p; exact p)⟩
  | _ => exact t1.elim
theorem ds_setLc2 {t : DT} {i : Nat} {z : Str} {pz spos : Pos} (hc : X.calm = true) (hN : X.N.Nodup) (hi : DE X iter t) (ok : blkC X.N X.env.scope scope [(x, j), (y, j1)] = true)
    (hg : ∀ (s : Shared) (H : Hp) (C : Addr) (cl : List (Str × Addr)) (fp : List Addr), PG (X.blk s H scope (compEnvC scope cl C X.env) fp) (.Name x px) (gName j))
    (hi1 : ∀ (s : Shared) (H : Hp) (C : Addr) (cl : List (Str × Addr)) (fp : List Addr), DE (X.blk s H scope (compEnvC scope cl C X.env) fp) iter1 ti)
    (hg1 : ∀ (s : Shared) (H : Hp) (C : Addr) (cl : List (Str × Addr)) (fp : List Addr), PG (X.blk s H scope (compEnvC scope cl C X.env) fp) (.Name y py) (gName j1))
    (ht1 : ∀ (s : Shared) (H : Hp) (C : Addr) (cl : List (Str × Addr)) (fp : List Addr), DPs (X.blk s H scope (compEnvC scope cl C X.env) fp) ifs1 tt1)
    (he : ∀ (s : Shared) (H : Hp) (C : Addr) (cl : List (Str × Addr)) (fp : List Addr), DE (X.blk s H scope (compEnvC scope cl C X.env) fp) elt te) (hz : X.N[i]? = some z := by rfl) (hzl : X.env.scope.names.lookup z = some .local := by rfl) (hjj : j ≠ j1 := by decide)
    (hsw : swapsWith (.ListComp elt [⟨.Name x px, iter, [], 0⟩, ⟨.Name y py, iter1, ifs1, 0⟩] scope pos) (some (.Name z pz)) spos.line X.env = pure true := by exact sw_true rfl rfl rfl (by decide +kernel)) (hs : ∀ x, foldedSetIterable iter X.env x = pure x := by intro _; rfl) (hs1 : ∀ env x, foldedSetIterable iter1 env x = pure x := by intro _ _; rfl) :
    DSt X (.Assign [.Name z pz] (.ListComp elt [⟨.Name x px, iter, [], 0⟩, ⟨.Name y py, iter1, ifs1, 0⟩] scope pos) spos) (dAsg (dLc2 t j j1 ti tt1 te) (dName i)) := by
  refine ps_weak (ps_setLc2 (own := [(x, j), (y, j1)]) (vs1 := [j1]) (tt := liftB X.K dYes) (wi1 := iList X.K (liftE X.K ti)) (tt1 := liftB X.K tt1) (te := liftE X.K te) hc hN hz hzl hsw (pi_list hi) (blkOk_by ok) (by simp) hg (fun s H C cl fp => dp_nil (X := X.blk s H scope (compEnvC scope cl C X.env) fp)) (fun s H C cl fp => pi_list (hi1 s H C cl fp)) hg1 ht1 he hs hs1) fun F σ H q => ?_
  obtain ⟨ρ, S, E, rfl, s, r, t, w⟩ := q
  refine lc2_lift (X := X) hjj ⟨ρ, S, _, rfl, s, r, t, fun v d S1 e1 rd t1 => ?_⟩
  exact w.nx _ _ S1 e1 ((s.ext e1.ext).set rd) t1
end
end DL

set_option Elab.async false
set_option linter.all false
set_option maxRecDepth 100000
set_option maxHeartbeats 2000000
namespace DL
open PySem PySem.Spec PyProof.Rows L2
/-! ### for i, x in enumerate(xs) -/
def enumFrom' : Nat → List D → List D
  | _, [] => []
  | n, d :: ds => .tup [.int (n : Int), d] :: enumFrom' (n + 1) ds
theorem enum_get : ∀ (n : Nat) (ds : List D) (i : Nat) (d : D), ds[i]? = some d → (enumFrom' n ds)[i]? = some (.tup [.int ((n + i : Nat) : Int), d])
  | n, [], i, d, h => by simp at h
  | n, x :: ds, 0, d, h => by
    simp at h; subst h
    simp [enumFrom']
  | n, x :: ds, i + 1, d, h => by
    have := enum_get (n + 1) ds i d (by simpa using h)
    rw [show n + 1 + i = n + (i + 1) by omega] at this
    simpa [enumFrom'] using this
theorem enum_len : ∀ (n : Nat) (ds : List D), (enumFrom' n ds).length = ds.length
  | n, [] => rfl
  | n, x :: ds => by simp [enumFrom', enum_len (n + 1) ds]
theorem for_ite {K : PySem.W.Frag} {a : Addr} {xs : List V} {g : TG} {tb : TS} {E : Ends} {σ : St} {H : Hp} (Pv : Nat → St → Hp → Prop) (h0 : Pv 0 σ H) (hl : ∀ i σ H, i ≤ xs.length → Pv i σ H → SqL K H a xs)
    (hs : ∀ i x σ H p, xs[i]? = some x → Pv i σ H → H p = none → g (.ref p) σ (upd H p (.tup [.int (i : Nat), x])) fun σ2 H2 => tb { E with nx := Pv (i + 1), ct := Pv (i + 1), bk := E.nx } σ2 H2) (hd : ∀ σ H, Pv xs.length σ H → E.nx σ H) :
    ∃ Wv : Nat → Nat → St → Hp → Prop, (∃ m, Wv 0 m σ H) ∧ ∀ i m σ H, Wv i m σ H →
      ((Ite K a).stop i H ∧ E.nx σ H) ∨ ((Ite K a).go i H ∧ ∃ N : St → Hp → Prop, (∀ σ' H', N σ' H' → ∃ m', m' < m ∧ Wv (i + 1) m' σ' H') ∧ ∀ x H', (Ite K a).yld i H x H' → g x σ H' fun σ2 H2 => tb { E with nx := N, ct := N, bk := E.nx } σ2 H2) := by
  refine ⟨fun i m σ H => m = xs.length - i ∧ i ≤ xs.length ∧ Pv i σ H, ⟨xs.length, rfl, Nat.zero_le _, h0⟩, ?_⟩
  rintro i m σ H ⟨rfl, hi, p⟩
  have q := hl i σ H hi p
  by_cases lt : i < xs.length
  · refine .inr ⟨⟨xs, xs[i], q, by simp [lt]⟩, Pv (i + 1), fun σ' H' p' => ⟨xs.length - (i + 1), by omega, rfl, lt, p'⟩, fun x H' y => ?_⟩
    obtain ⟨T, z, rfl, hn, rfl, hz⟩ := y
    exact hs i z σ H T (hz xs q) p hn
  · obtain rfl : i = xs.length := by omega
    exact .inl ⟨⟨xs, q, Nat.le_refl _⟩, hd σ H p⟩
section
variable {X : Cx} {e : Expr} {elts : List Expr} {kk : Nat} {tpos : Pos} {body : List Stmt} {g : DG} {tb : DS} {p ipos pos : Pos}
def oneL (xs : List D) (k : List D → Prop) : Prop := match xs with
  | [.lst ds] => k ds
  | _ => False
theorem oneL_of {xs : List D} {k : List D → Prop} (h : oneL xs k) : ∃ ds, xs = [.lst ds] ∧ k ds := by
  unfold oneL at h
  split at h
  · exact ⟨_, rfl, h⟩
  · exact h.elim
def dForE (t : DT) (g : DG) (tb : DS) : DS := fun E ρ C => t ρ C fun x C1 => oneL [x] fun ds => loopN (enumFrom' 0 ds) g tb E ρ C1
theorem ds_forE {t : DT} (hc : X.calm = true) (hm : X.mg "enumerate" = none) (hi : DE X e t) (hg : DGt X (.Tuple elts kk tpos) g) (hb : DSs X body tb) (hgl : Gl X "enumerate" := by rfl) (hp : PassesOwn (model X.prog X.w) X.A X.env X.xe := by exact PassesOwn.never)
    (hse : starEach [e] X.env = (false, eval e X.env) :: starEach [] X.env := by rfl) (hse1 : starEach [e] X.env = [(false, eval e X.env)] := by rfl) (hs : ∀ x, foldedSetIterable (.Call (.Name "enumerate" p) [e] [] ipos) X.env x = pure x := by intro _; rfl) :
    DSt X (.For (.Tuple elts kk tpos) (.Call (.Name "enumerate" p) [e] [] ipos) body [] pos) (dForE t g tb) := by
  refine ps_weak (ps_for hp hc (pi_enum hgl hm (da_cons hi da_nil hse) hse1) hg hb hs) fun F σ H q => ?_
  obtain ⟨ρ, S, E, rfl, s, r, t, w⟩ := q
  refine ⟨ρ, S, (fun xs C => oneL xs fun ds => loopN (enumFrom' 0 ds) g tb E ρ C), rfl, s, r, t, fun vs ds S1 e1 rs t1 => ?_⟩
  · obtain ⟨ds, rfl, t1⟩ := oneL_of t1
    · simp only [RA, R] at rs
      obtain ⟨v, _, rfl, ⟨a, vs, rfl, h1, h2⟩, rfl⟩ := rs
      obtain ⟨I, i0, it, ie⟩ := t1
      refine ⟨a, vs, rfl, SqL.of (e1.ok.le _ _ h1), for_ite (K := X.K) (a := a) (xs := vs) (fun i σ H => Turn X.K S1 (I i) σ H) ⟨ρ, S1, rfl, .refl e1.ok, s.ext e1.ext, i0⟩ (fun i σ' H' _ T => ?_) (fun i x σ' H' pp hx T hpp => ?_) (fun σ' H' T => ?_)⟩
      · obtain ⟨ρ', S', rfl, st, _, _⟩ := T
        exact SqL.of (st.ok.le _ _ (st.ext.lst h1))
      · obtain ⟨ρ', S', rfl, st, s', pr⟩ := T
        obtain ⟨d, hd, hr⟩ := h2.getV hx
        have st2 := st.ok.new (o := .tup [.int (i : Nat), x]) hpp
        have hg' := enum_get 0 ds i d hd
        rw [Nat.zero_add] at hg'
        refine turn_ok (w.st e1) (st.trans st2) (s'.ext st2.ext) (d := .tup [.int ((i : Nat) : Int), d]) ?_ (it i _ ρ' _ hg' pr)
        simp only [R]
        exact ⟨pp, _, rfl, upd_same, RA.cons R_int (RA.cons (R.ext (st.trans st2).ext _ _ hr) RA.nil)⟩
      · obtain ⟨ρ', S', rfl, st, s', pr⟩ := T
        refine w.nx ρ' σ' S' (e1.trans st) s' (ie _ _ ?_)
        rw [enum_len, ← h2.len]
        exact pr
end
/-! ### {k: v for x in xs} -/
def DTurn (K : PySem.W.Frag) (S0 : W) (Dl : Addr) (I : List (Key × D) → Cells → Prop) (H : Hp) : Prop := ∃ S acc kvs, S.h = H ∧ Step K S0 S ∧ S.h Dl = some (.dK kvs) ∧ S.hs Dl = none ∧ S.c Dl = none ∧ S0.h Dl = none ∧ RK K S.hs acc kvs ∧ I acc S.c
theorem RK.ext' {K : PySem.W.Frag} {A B : Hp} (e : Ext A B) {ds : List (Key × D)} {vs : List (Key × V)} (h : RK K A ds vs) : RK K B ds vs := RK.ext e ds vs h
/-- what is neither shared nor a cell is shared from now on -/
theorem Step.adopt {K : PySem.W.Frag} {S0 S : W} {a : Addr} {o : HO} (st : Step K S0 S) (h1 : S.h a = some o) (h2 : S.hs a = none) (h3 : S.c a = none) (h5 : S0.h a = none) : Step K S0 ⟨upd S.hs a o, S.c, S.h⟩ := by
  have x : Ext S.hs (upd S.hs a o) := Ext.new h2
  refine ⟨st.ext.trans x, fun b u g1 g2 g3 => ?_, ⟨fun b u g => ?_, fun b c g => ?_⟩⟩
  · obtain ⟨m1, m2, m3⟩ := st.fr b u g1 g2 g3
    have hb : b ≠ a := fun q => by rw [q, h5] at g1; cases g1
    exact ⟨m1, (upd_ne hb).trans m2, m3⟩
  · have g' : upd S.hs a o b = some u := g
    by_cases hb : b = a
    · subst hb; rw [upd_same] at g'; cases g'; exact h1
    · rw [upd_ne hb] at g'; exact st.ok.le b u g'
  · have hb : b ≠ a := fun q => by
      have g' : S.c b = some c := g
      rw [q, h3] at g'; cases g'
    obtain ⟨k1, k2⟩ := st.ok.cell b c g
    exact ⟨(upd_ne hb).trans k1, k2.move x rfl⟩
def compD (ds : List D) (j : Nat) (tk tv : DT) : DT := fun ρ C P => ∃ I : Nat → List (Key × D) → Cells → Prop, I 0 [] C ∧
  (∀ i d acc C, ds[i]? = some d → I i acc C → tk (ρ.set j (some d)) C fun y C1 => tv (ρ.set j (some d)) C1 fun z C2 => opt (keyOf y) fun k => acc.length < 1000000 ∧ ∃ C3, Gh C2 C3 ∧ I (i + 1) (dput acc k z) C3) ∧
  ∀ acc C', I ds.length acc C' → P (.dic acc) C'
section
variable {X : Cx} {kx vx iter : Expr} {scope : Scope} {pos : Pos} {j : Nat} {x : Str} {px : Pos} {tk tv : DT}
def dDcL (t : DT) (j : Nat) (tk tv : DT) : DT := fun ρ C P => t ρ C fun y C1 => match y with
  | .lst ds => compD ds j tk tv ρ C1 P
  | _ => False
theorem dc_lift {t : DT} {σ : St} {H : Hp} {Q : VK} (q : liftE X.K (dDcL t j tk tv) σ H Q) : tDc (iList X.K (liftE X.K t)) (gName j) (liftB X.K dYes) (liftE X.K tk) (liftE X.K tv) [j] σ H Q := by
  obtain ⟨ρ, S, P, rfl, s, r, t, w⟩ := q
  refine ⟨ρ, S, _, rfl, s, r, t, fun v d S1 e1 rd t1 => ?_⟩
  cases d with
  | lst ds =>
    simp only [R] at rd
    obtain ⟨a, vs, rfl, h1, h2⟩ := rd
    obtain ⟨I, i0, it, ie⟩ := t1
    refine ⟨a, rfl, ⟨vs, SqL.of (e1.ok.le _ _ h1)⟩, fun Dl hD => ?_⟩
    have T0 : DTurn X.K S1 Dl (I 0) (upd S1.h Dl (.dK [])) := by
      refine ⟨⟨S1.hs, S1.c, upd S1.h Dl (.dK [])⟩, [], [], rfl, ⟨Ext.refl _, fun b o g1 g2 g3 => ⟨(upd_ne (ne_of_none g1 hD)).trans g1, g2, g3⟩, e1.ok.other (e1.ok.fresh hD) (e1.ok.freshC hD)⟩, upd_same, e1.ok.fresh hD, e1.ok.freshC hD, hD, ?_, i0⟩
      simp only [RK]
    refine ⟨fun i m H => m = vs.length - i ∧ i ≤ vs.length ∧ DTurn X.K S1 Dl (I i) H, ⟨vs.length, rfl, Nat.zero_le _, T0⟩, ?_⟩
    rintro i m H ⟨rfl, hi, T⟩
    have sq : SqL X.K H a vs := by
      obtain ⟨S', _, _, rfl, st, _⟩ := T
      exact SqL.of (st.ok.le _ _ (st.ext.lst h1))
    by_cases lt : i < vs.length
    · refine .inr ⟨⟨vs, vs[i], sq, by simp [lt]⟩, fun H' => DTurn X.K S1 Dl (I (i + 1)) H', fun H' p' => ⟨vs.length - (i + 1), by omega, rfl, lt, p'⟩, fun z H' yy => ?_⟩
      obtain ⟨rfl, hz⟩ := yy
      obtain ⟨d, hd, hr⟩ := h2.getV (hz vs sq)
      obtain ⟨S', acc, us, rfl, st, g1, g2, g3, g5, ra, p⟩ := T
      have sb : Sl X.K S'.hs ((wipe σ [j]).set j (some z)) (ρ.set j (some d)) := slot_wipe ((s.ext e1.ext).ext st.ext) (R.ext st.ext _ _ hr)
      refine ⟨wipe_back, _, S', _, rfl, sb, st.ok, (show dYes _ S'.c (fun b C => b = true ∧ C = S'.c) from ⟨rfl, rfl⟩), fun b S2 e2 q => ?_⟩
      obtain ⟨rfl, ec⟩ := q
      rw [if_pos rfl]
      have ti := it i d acc _ hd p
      rw [← ec] at ti
      refine ⟨_, S2, _, rfl, sb.ext e2.ext, e2.ok, ti, fun y dy S3 e3 ry t3 => ?_⟩
      refine ⟨_, S3, _, rfl, sb.ext (e2.trans e3).ext, e3.ok, t3, fun z2 dz S4 e4 rz t4 => ?_⟩
      obtain ⟨k, ek, hl, C5, gh, p5⟩ := opt_of t4
      have e5 := e4.ok.gh gh
      have e6 := e2.trans (e3.trans (e4.trans e5))
      obtain ⟨k1, k2, k3⟩ := (e2.trans (e3.trans e4)).fr Dl _ g1 g2 g3
      obtain ⟨m1, m2, m3⟩ := e5.fr Dl _ k1 k2 k3
      refine ⟨us, k, keyOf_R (R.ext e4.ext _ _ ry) ek, k1, by rw [ra.len, sizeLine_eq]; omega, ⟨S4.hs, C5, upd S4.h Dl (.dK (putK us k z2))⟩, dput acc k dz, putK us k z2, rfl, ⟨st.ext.trans e6.ext, fun b o f1 f2 f3 => ?_, e5.ok.other m2 m3⟩, upd_same, m2, m3, g5, RK.put (RK.ext' e6.ext ra) (R.ext e5.ext _ _ rz), p5⟩
      have hb : b ≠ Dl := fun q => by rw [q, g5] at f1; cases f1
      obtain ⟨n1, n2, n3⟩ := (st.trans e6).fr b o f1 f2 f3
      exact ⟨(upd_ne hb).trans n1, n2, n3⟩
    · obtain rfl : i = vs.length := by omega
      refine .inl ⟨⟨vs, sq, Nat.le_refl _⟩, ?_⟩
      obtain ⟨S', acc, us, rfl, st, g1, g2, g3, g5, ra, p⟩ := T
      have st2 := st.adopt g1 g2 g3 g5
      rw [h2.len] at p
      refine w (.ref Dl) (.dic acc) ⟨upd S'.hs Dl (.dK us), S'.c, S'.h⟩ (e1.trans st2) ?_ (ie acc _ p)
      simp only [R]
      exact ⟨Dl, _, us, rfl, upd_same, rfl, RK.ext' (Ext.new g2) ra⟩
  | _ => exact t1.elim
theorem de_dcL {t : DT} (hc : X.calm = true) (hN : X.N.Nodup) (hi : DE X iter t) (ok : blkC X.N X.env.scope scope [(x, j)] = true)
    (hg : ∀ (s : Shared) (H : Hp) (C : Addr) (cl : List (Str × Addr)) (fp : List Addr), PG (X.blk s H scope (compEnvC scope cl C X.env) fp) (.Name x px) (gName j))
    (hk : ∀ (s : Shared) (H : Hp) (C : Addr) (cl : List (Str × Addr)) (fp : List Addr), DE (X.blk s H scope (compEnvC scope cl C X.env) fp) kx tk)
    (he : ∀ (s : Shared) (H : Hp) (C : Addr) (cl : List (Str × Addr)) (fp : List Addr), DE (X.blk s H scope (compEnvC scope cl C X.env) fp) vx tv) (hs : ∀ x, foldedSetIterable iter X.env x = pure x := by intro _; rfl) :
    DE X (.DictComp kx vx [⟨.Name x px, iter, [], 0⟩] scope pos) (dDcL t j tk tv) :=
  pe_weak (pe_dc (own := [(x, j)]) (tt := liftB X.K dYes) (tk := liftE X.K tk) (tv := liftE X.K tv) hc hN (pi_list hi) (blkOk_by ok) hg (fun s H C cl fp => dp_nil (X := X.blk s H scope (compEnvC scope cl C X.env) fp)) hk he hs) fun σ H Q q => dc_lift q
end
end DL

set_option Elab.async false
set_option linter.all false
set_option maxRecDepth 100000
set_option maxHeartbeats 2000000
namespace DL
open PySem PySem.Spec PyProof.Rows L2
/-! ### calls -/
section
variable {K : PySem.W.Frag} {X : Cx}
/-- len, of dicts too -/
theorem call_lenD : CallR X (.builtin "len") (fun xs H Q => ∃ (a : Addr) (kvs : List (Key × V)), xs = [.ref a] ∧ Rd H a (.dK kvs) ∧ Q (.int kvs.length) H) := by
  intro pins s σ H vs us Q I r h
  obtain ⟨a, kvs, rfl, hd, q⟩ := h
  rw [Vals.ref1 r]
  exact d_len I hd fun t s' I' => ⟨.int kvs.length, H, I', ⟨t, rfl⟩, q⟩
def rLenB (K : PySem.W.Frag) : List V → Hp → VK → Prop := fun xs H Q => rLenA K xs H Q ∨ ∃ (a : Addr) (kvs : List (Key × V)), xs = [.ref a] ∧ Rd H a (.dK kvs) ∧ Q (.int kvs.length) H
theorem call_lenB : CallR X (.builtin "len") (rLenB X.K) := call_lenA.or call_lenD
def kLenB : D → Cells → DK → Prop := fun x C P => match vw C x with
  | .dic kds => P (.int kds.length) C
  | .lst ds => P (.int ds.length) C
  | .tup ds => P (.int ds.length) C
  | .fro ds => P (.int ds.length) C
  | .str z => z.length ≤ 1000000 ∧ P (.int z.length) C
  | _ => False
theorem cl_lenB : ClS K (rLenB K) (d1 kLenB) := cl1 fun x v S P Q ok rx t w => by
  unfold kLenB at t
  split at t
  · rename_i kds e
    obtain ⟨a, o, kvs, rfl, h1, h2, h3⟩ := vw_dic ok rx e
    exact .inr ⟨a, kvs, rfl, rd_core h1 h2, by rw [h3.len]; exact w _ _ S (.refl ok) R_int t⟩
  all_goals first | exact t.elim | skip
  all_goals
    rename_i e
    refine .inl (cl_len [x] [v] S P Q ok (RA.cons rx RA.nil) ?_ w)
    show kLen x S.c P
    unfold kLen
    rw [e]
    exact t
/-- sorted: ints; texts, the keys of a dict: in some order -/
def kSortI : D → Cells → DK → Prop := fun x C P => match vw C x with
  | .lst ds => opt (intsOf ds) fun ns => ns.length < 64 ∧ ∀ ns' : List Int, ns'.Perm ns → ns'.Pairwise (· ≤ ·) → P (.lst (ns'.map D.int)) C
  | _ => False
theorem cl_sortI : ClS K (rSorted K) (d1 kSortI) := cl1 fun x v S P Q ok rx t w => by
  unfold kSortI at t
  split at t
  · rename_i ds e
    obtain ⟨a, vs, rfl, h1, h2⟩ := vw_lst ok rx e
    obtain ⟨ns, en, h64, t⟩ := opt_of t
    rw [intsOf_spec en] at h2
    have := h2.ints
    subst this
    refine ⟨a, ns, rfl, SqL.of h1, h64, fun ns' p pm ps hp => ?_⟩
    have st := ok.new (o := .lst (ns'.map V.int)) hp
    exact w _ (.lst (ns'.map D.int)) _ st (by simp only [R]; exact ⟨p, _, rfl, upd_same, RA.of_ints _⟩) (t ns' pm ps)
  · exact t.elim
def txKeys : List (Key × D) → Option (List Str)
  | [] => some []
  | (.inr x, _) :: r => (txKeys r).map (x :: ·)
  | _ :: _ => none
theorem txKeys_spec : ∀ {kds : List (Key × D)} {ks : List Str}, txKeys kds = some ks → kds.map (·.1) = ks.map Sum.inr
  | [], ks, h => by simp [txKeys] at h; subst h; rfl
  | (k, d) :: r, ks, h => by
    cases k with
    | inl i => simp [txKeys] at h
    | inr x =>
      simp only [txKeys, Option.map_eq_some_iff] at h
      obtain ⟨m, e, rfl⟩ := h
      simp [txKeys_spec e]
theorem RK.keys {Hs : Hp} : ∀ {kds : List (Key × D)} {kvs : List (Key × V)}, RK K Hs kds kvs → kvs.map (·.1) = kds.map (·.1)
  | [], kvs, h => by simp only [RK] at h; subst h; rfl
  | (q, d) :: r, kvs, h => by
    simp only [RK] at h
    obtain ⟨u, s, rfl, h1, h2⟩ := h
    simp [RK.keys h2]
def rSortD : List V → Hp → VK → Prop := fun xs H Q => ∃ (a : Addr) (kvs : List (Key × V)) (ks : List Str), xs = [.ref a] ∧ Rd H a (.dK kvs) ∧ kvs.map (·.1) = ks.map Sum.inr ∧ ks.length < 64 ∧
    ∀ ys p, ys.Perm ks → sortedS ys = true → H p = none → Q (.ref p) (upd H p (.lst (ys.map V.str)))
def kSortD : D → Cells → DK → Prop := fun x C P => match vw C x with
  | .dic kds => opt (txKeys kds) fun ks => ks.length < 64 ∧ ∀ ys : List Str, ys.Perm ks → P (.lst (ys.map D.str)) C
  | _ => False
theorem cl_sortD : ClS K rSortD (d1 kSortD) := cl1 fun x v S P Q ok rx t w => by
  unfold kSortD at t
  split at t
  · rename_i kds e
    obtain ⟨a, o, kvs, rfl, h1, h2, h3⟩ := vw_dic ok rx e
    obtain ⟨ks, ek, h64, t⟩ := opt_of t
    refine ⟨a, kvs, ks, rfl, rd_core h1 h2, h3.keys.trans (txKeys_spec ek), h64, fun ys p pm _ hp => ?_⟩
    have st := ok.new (o := .lst (ys.map V.str)) hp
    exact w _ (.lst (ys.map D.str)) _ st (by simp only [R]; exact ⟨p, _, rfl, upd_same, RA.of_strs _⟩) (t ys pm)
  · exact t.elim
/-- dict(d): a new cell -/
def kDictD : D → Cells → DK → Prop := fun x C P => match vw C x with
  | .dic kds => ∀ p, C p = none → P (.cell p) (cset C p (.dic kds))
  | _ => False
theorem cl_dictD : ClS K (fun xs H Q => ∃ (a : Addr) (kvs : List (Key × V)), xs = [.ref a] ∧ Rd H a (.dK kvs) ∧ ∀ p, H p = none → Q (.ref p) (upd H p (.dK kvs))) (d1 kDictD) := cl1 fun x v S P Q ok rx t w => by
  unfold kDictD at t
  split at t
  · rename_i kds e
    obtain ⟨a, o, kvs, rfl, h1, h2, h3⟩ := vw_dic ok rx e
    refine ⟨a, kvs, rfl, rd_core h1 h2, fun p hp => ?_⟩
    have st := ok.newC (o := .dK kvs) (c := .dic kds) hp ⟨kvs, upd_same, h3⟩
    exact w _ (.cell p) _ st (by simp only [R]) (t p (ok.freshC hp))
  · exact t.elim
/-- dict(list of pairs) -/
def pairsD : List D → Option (List (Key × D))
  | [] => some []
  | .tup [k, d] :: r => match keyOf k, pairsD r with
    | some q, some s => some ((q, d) :: s)
    | _, _ => none
  | _ :: _ => none
def mergeD (acc more : List (Key × D)) : List (Key × D) := more.foldl (fun a q => dput a q.1 q.2) acc
theorem RK.merge {Hs : Hp} : ∀ {more : List (Key × D)} {mv : List (Key × V)} {kds : List (Key × D)} {kvs : List (Key × V)}, RK K Hs more mv → RK K Hs kds kvs → RK K Hs (mergeD kds more) (mergeK kvs mv)
  | [], mv, kds, kvs, h, g => by simp only [RK] at h; subst h; exact g
  | (q, d) :: r, mv, kds, kvs, h, g => by
    simp only [RK] at h
    obtain ⟨u, s, rfl, h1, h2⟩ := h
    exact RK.merge (kds := dput kds q d) (kvs := putK kvs q u) h2 (RK.put g h1)
theorem pairs_R {Hs H : Hp} (le : ∀ a o, Hs a = some o → H a = some o) : ∀ {ds : List D} {vs : List V} {kds : List (Key × D)}, RA K Hs ds vs → pairsD ds = some kds → ∃ (ps : List Addr) (kvs : List (Key × V)), vs = ps.map V.ref ∧ Paired (fun p kv => SqT K H p [kV kv.1, kv.2]) ps kvs ∧ RK K Hs kds kvs
  | [], vs, kds, h, e => by
    simp only [RA] at h
    subst h
    simp [pairsD] at e
    subst e
    exact ⟨[], [], rfl, .nil, by simp only [RK]⟩
  | d :: ds, vs, kds, h, e => by
    simp only [RA] at h
    obtain ⟨v, s, rfl, h1, h2⟩ := h
    unfold pairsD at e
    split at e
    · rename_i h'; cases h'
    · rename_i k d0 r h'
      cases h'
      split at e
      · rename_i q s' e1 e2
        cases e
        simp only [R] at h1
        obtain ⟨p, ws, rfl, k1, k2⟩ := h1
        simp only [RA] at k2
        obtain ⟨u1, _, rfl, r1, u2, _, rfl, r2, rfl⟩ := k2
        obtain ⟨ps, kvs, rfl, g2, g3⟩ := pairs_R le h2 e2
        refine ⟨p :: ps, (q, u2) :: kvs, rfl, .cons ?_ g2, ?_⟩
        · rw [keyOf_R r1 e1] at k1
          exact SqT.of (le _ _ k1)
        · simp only [RK]
          exact ⟨u2, kvs, rfl, r2, g3⟩
      · cases e
    · cases e
def kDictP : D → Cells → DK → Prop := fun x C P => match vw C x with
  | .lst ds => opt (pairsD ds) fun kds => ∀ p, C p = none → P (.cell p) (cset C p (.dic (mergeD [] kds)))
  | _ => False
theorem cl_dictP : ClS K (fun xs H Q => ∃ (a : Addr) (ps : List Addr) (kvs : List (Key × V)), xs = [.ref a] ∧ SqL K H a (ps.map V.ref) ∧ Paired (fun p kv => SqT K H p [kV kv.1, kv.2]) ps kvs ∧ ∀ p, H p = none → Q (.ref p) (upd H p (.dK (mergeK [] kvs)))) (d1 kDictP) := cl1 fun x v S P Q ok rx t w => by
  unfold kDictP at t
  split at t
  · rename_i ds e
    obtain ⟨a, vs, rfl, h1, h2⟩ := vw_lst ok rx e
    obtain ⟨kds, ek, t⟩ := opt_of t
    obtain ⟨ps, kvs, rfl, g2, g3⟩ := pairs_R ok.le h2 ek
    refine ⟨a, ps, kvs, rfl, SqL.of h1, g2, fun p hp => ?_⟩
    have g4 : RK K S.hs (mergeD [] kds) (mergeK [] kvs) := RK.merge g3 (by simp only [RK])
    have st := ok.newC (o := .dK (mergeK [] kvs)) (c := .dic (mergeD [] kds)) hp ⟨_, upd_same, g4⟩
    exact w _ (.cell p) _ st (by simp only [R]) (t p (ok.freshC hp))
  · exact t.elim
/-- int(bool) -/
def kIntB : D → Cells → DK → Prop := fun x C P => match x with
  | .bl b => P (.int (if b then 1 else 0)) C
  | .int i => P (.int i) C
  | _ => False
theorem cl_intB : ClS K (fun xs H Q => (∃ i, xs = [.int i] ∧ Q (.int i) H) ∨ ∃ k, xs = [.bl k] ∧ Q (.int (if k then 1 else 0)) H) (d1 kIntB) := cl1 fun x v S P Q ok rx t w => by
  unfold kIntB at t
  split at t
  · simp only [R] at rx; subst rx
    exact .inr ⟨_, rfl, w _ _ S (.refl ok) R_int t⟩
  · simp only [R] at rx; subst rx
    exact .inl ⟨_, rfl, w _ _ S (.refl ok) R_int t⟩
  · exact t.elim
end
/-! ### sorted(set(xs)), len(set(xs)) of texts -/
section
variable {X : Cx} {e : Expr} {t : DT} {p1 p2 q1 q2 : Pos}
def dSortSet (t : DT) : DT := fun ρ C P => t ρ C fun x C1 => match vw C1 x with
  | .lst ds => opt (strsOf ds) fun xs => xs.length < 64 ∧ ∀ ys : List Str, ys.Nodup → (∀ x, x ∈ ys ↔ x ∈ xs) → ys.length ≤ xs.length → P (.lst (ys.map D.str)) C1
  | _ => False
theorem de_sortSet (hc : X.calm = true) (hm : X.mg "sorted" = none) (hm2 : X.mg "set" = none) (b1 : bootBuiltins "sorted" = some (.builtin "sorted")) (b2 : bootBuiltins "set" = some (.type "set")) (h : DE X e t) (hg : Gl X "sorted" := by rfl) (hg2 : Gl X "set" := by rfl)
    (he : starEach [e] X.env = (false, eval e X.env) :: starEach [] X.env := by rfl)
    (he2 : starEach [.Call (.Name "set" p2) [e] [] q2] X.env = (false, eval (.Call (.Name "set" p2) [e] [] q2) X.env) :: starEach [] X.env := by rfl) : DE X (.Call (.Name "sorted" p1) [.Call (.Name "set" p2) [e] [] q2] [] q1) (dSortSet t) :=
  pe_weak (pe_callB (call_sortedTx hc) hg hm b1 (pa_cons (pe_callTy (call_setTx hc) hg2 hm2 b2 (pa_cons h pa_nil he) (he := he)) pa_nil he2) (he := he2)) fun σ H Q q => by
    obtain ⟨ρ, S, P, rfl, s, r, t, w⟩ := q
    refine ⟨ρ, S, _, rfl, s, r, t, fun v x S1 e1 rx t1 => ?_⟩
    split at t1
    · rename_i ds ev
      obtain ⟨a, vs, rfl, h1, h2⟩ := vw_lst e1.ok rx ev
      obtain ⟨xs, ex, hl, t1⟩ := opt_of t1
      rw [strsOf_spec ex] at h2
      have := h2.strs
      subst this
      refine ⟨a, xs, rfl, SqL.of h1, by omega, fun p L hp nd hm hz => ?_⟩
      have st := e1.ok.own (o := TSetO X.w p L) hp
      refine ⟨p, L, rfl, upd_same, by omega, fun ys p3 pm _ hp3 => ?_⟩
      have st2 := st.ok.new (o := .lst (ys.map V.str)) hp3
      exact w _ (.lst (ys.map D.str)) _ (e1.trans (st.trans st2)) (by simp only [R]; exact ⟨p3, _, rfl, upd_same, RA.of_strs _⟩) (t1 ys (pm.nodup_iff.mpr nd) (fun x => by rw [pm.mem_iff]; exact hm x) (by rw [pm.length_eq]; exact hz))
    · exact t1.elim
def dLenSet (t : DT) : DT := fun ρ C P => t ρ C fun x C1 => match vw C1 x with
  | .lst ds => opt (strsOf ds) fun xs => xs.length ≤ 4000 ∧ ∀ n : Nat, (xs.Nodup → n = xs.length) → P (.int n) C1
  | _ => False
theorem len_of_mem {xs L : List Str} (nd : L.Nodup) (hm : ∀ x, x ∈ L ↔ x ∈ xs) : xs.Nodup → L.length = xs.length := fun h =>
  ((List.perm_ext_iff_of_nodup nd h).mpr hm).length_eq
theorem de_lenSet (hc : X.calm = true) (hm : X.mg "len" = none) (hm2 : X.mg "set" = none) (b1 : bootBuiltins "len" = some (.builtin "len")) (b2 : bootBuiltins "set" = some (.type "set")) (h : DE X e t) (hg : Gl X "len" := by rfl) (hg2 : Gl X "set" := by rfl)
    (he : starEach [e] X.env = (false, eval e X.env) :: starEach [] X.env := by rfl)
    (he2 : starEach [.Call (.Name "set" p2) [e] [] q2] X.env = (false, eval (.Call (.Name "set" p2) [e] [] q2) X.env) :: starEach [] X.env := by rfl) : DE X (.Call (.Name "len" p1) [.Call (.Name "set" p2) [e] [] q2] [] q1) (dLenSet t) :=
  pe_weak (pe_callB call_lenTx hg hm b1 (pa_cons (pe_callTy (call_setTx hc) hg2 hm2 b2 (pa_cons h pa_nil he) (he := he)) pa_nil he2) (he := he2)) fun σ H Q q => by
    obtain ⟨ρ, S, P, rfl, s, r, t, w⟩ := q
    refine ⟨ρ, S, _, rfl, s, r, t, fun v x S1 e1 rx t1 => ?_⟩
    split at t1
    · rename_i ds ev
      obtain ⟨a, vs, rfl, h1, h2⟩ := vw_lst e1.ok rx ev
      obtain ⟨xs, ex, hl, t1⟩ := opt_of t1
      rw [strsOf_spec ex] at h2
      have := h2.strs
      subst this
      refine ⟨a, xs, rfl, SqL.of h1, by omega, fun p L hp nd hm hz => ?_⟩
      have st := e1.ok.own (o := TSetO X.w p L) hp
      exact ⟨p, L, rfl, upd_same, w _ (.int L.length) _ (e1.trans st) R_int (t1 _ (len_of_mem nd hm))⟩
    · exact t1.elim
end
theorem bt_sorted : bootBuiltins "sorted" = some (.builtin "sorted") := by decide +kernel
theorem bt_set : bootBuiltins "set" = some (.type "set") := by decide +kernel
end DL

set_option Elab.async false
set_option linter.all false
set_option maxRecDepth 100000
set_option maxHeartbeats 2000000
namespace DL
open PySem PySem.Spec PyProof.Rows L2
/-! ### operators -/
section
variable {K : PySem.W.Frag} {X : Cx}
/-- +, also of empty tuples -/
def rAddB (K : PySem.W.Frag) : R2 := fun x y H Q => rAddA K x y H Q ∨ rCatA K x y H Q
theorem op_addB : OpR X (binaryOp .Add) (rAddB X.K) := op_addA.or op_catA
def dAddT : D2 := fun x y C P => match x, y with
  | .tup xs, .tup ys => xs.length + ys.length ≤ 1000000 ∧ P (.tup (xs ++ ys)) C
  | _, _ => False
theorem ops_addT : OpS K (rCatA K) dAddT := by
  intro x y v u S P Q ok rx ry t w
  unfold dAddT at t
  split at t
  · rename_i xs ys
    have rx0 := rx
    have ry0 := ry
    simp only [R] at rx ry
    obtain ⟨a, vs, rfl, h1, h2⟩ := rx
    obtain ⟨b, us, rfl, k1, k2⟩ := ry
    refine ⟨a, b, vs, us, rfl, rfl, SqT.of (ok.le _ _ h1), SqT.of (ok.le _ _ k1), by rw [h2.len, k2.len]; exact mil t.1, fun e => ?_, fun _ e => ?_, fun _ _ p hp => ?_⟩
    · have : xs = [] := List.eq_nil_of_length_eq_zero (by rw [← h2.len, e]; rfl)
      subst this
      exact w _ (.tup ys) S (.refl ok) ry0 t.2
    · have : ys = [] := List.eq_nil_of_length_eq_zero (by rw [← k2.len, e]; rfl)
      subst this
      have t2 := t.2
      rw [List.append_nil] at t2
      exact w _ (.tup xs) S (.refl ok) rx0 t2
    · have st := ok.new (o := .tup (vs ++ us)) hp
      exact w _ (.tup (xs ++ ys)) _ st (by simp only [R]; exact ⟨p, _, rfl, upd_same, RA.ext st.ext _ _ (h2.append k2)⟩) t.2
  · exact t.elim
/-- xs * n -/
theorem RA.flat {Hs : Hp} {ds : List D} {vs : List V} (h : RA K Hs ds vs) : ∀ n : Nat, RA K Hs (List.replicate n ds).flatten (List.replicate n vs).flatten
  | 0 => by simp only [List.replicate_zero, List.flatten_nil, RA]
  | n + 1 => by
    simp only [List.replicate_succ, List.flatten_cons]
    exact h.append (RA.flat h n)
def dRep : D2 := fun x y C P => match vw C x, y with
  | .lst ds, .int k => -1000000 ≤ k ∧ k ≤ 1000000 ∧ ds.length * k.toNat ≤ 1000000 ∧ P (.lst (List.replicate k.toNat ds).flatten) C
  | _, _ => False
theorem ops_rep : OpS K rRep dRep := by
  intro x y v u S P Q ok rx ry t w
  unfold dRep at t
  split at t
  · rename_i ds k e
    simp only [R] at ry
    obtain ⟨a, vs, rfl, h1, h2⟩ := vw_lst ok rx e
    obtain ⟨z1, z2, z3, t⟩ := t
    refine ⟨a, k, vs, rfl, ry, h1, by omega, by omega, by rw [h2.len]; exact mil z3, fun p hp => ?_⟩
    have st := ok.new (o := .lst (List.replicate k.toNat vs).flatten) hp
    exact w _ (.lst (List.replicate k.toNat ds).flatten) _ st (by simp only [R]; exact ⟨p, _, rfl, upd_same, RA.ext st.ext _ _ (h2.flat _)⟩) t
  · exact t.elim
/-- x in xs, data of any depth -/
def dInDeep (neg : Bool) : D2 := fun x y C P => match vw C y with
  | .lst ds => okD (vw C x) ∧ okD (.lst ds) ∧ P (.bl (if neg then !(ds.any fun z => eqD z (vw C x)) else ds.any fun z => eqD z (vw C x))) C
  | _ => False
theorem any_toPys (ds : List D) (d : PyData) : ((toPys ds).any fun z => PyData.eqv z d) = ds.any fun z => PyData.eqv (toPy z) d := by
  induction ds with
  | nil => rfl
  | cons x r ih => simp only [toPys, List.any_cons, ih]
theorem ops_inDeep : OpS K (rInD K) (dInDeep false) := by
  intro x y v u S P Q ok rx ry t w
  unfold dInDeep at t
  split at t
  · rename_i ds e
    obtain ⟨⟨p1, s1⟩, ⟨p2, s2⟩, t⟩ := t
    have hy := dp_vw ok (x := y) (by rw [e]; exact p2) ry
    rw [e] at hy
    simp only [toPy] at hy s2
    refine ⟨_, _, dp_vw ok p1 rx, hy, s1, s2, ?_⟩
    rw [any_toPys]
    exact w _ _ S (.refl ok) R_bl (by simpa [eqD] using t)
  · exact t.elim
theorem ops_ninDeep : OpS K (rNotInD K) (dInDeep true) := by
  intro x y v u S P Q ok rx ry t w
  unfold dInDeep at t
  split at t
  · rename_i ds e
    obtain ⟨⟨p1, s1⟩, ⟨p2, s2⟩, t⟩ := t
    have hy := dp_vw ok (x := y) (by rw [e]; exact p2) ry
    rw [e] at hy
    simp only [toPy] at hy s2
    refine ⟨_, _, dp_vw ok p1 rx, hy, s1, s2, ?_⟩
    rw [any_toPys]
    exact w _ _ S (.refl ok) R_bl (by simpa [eqD] using t)
  · exact t.elim
/-- == of dicts that hold the same -/
def rSameD (b : Bool) : R2 := fun x y H Q => ∃ a c ks ls, x = .ref a ∧ y = .ref c ∧ Rd H a (.dK ks) ∧ Rd H c (.dK ls) ∧ ks.length = ls.length ∧ (∀ p ∈ ks, valV ls p.1 = some p.2 ∧ flatB p.2 = true) ∧ Q (.bl b) H
theorem op_eqSame (hu : X.A.units < cLine) : OpR X (compareOp .Eq) (rSameD true) := by
  intro pins s σ H x y v u Q I rx ry h
  obtain ⟨a, c, ks, ls, rfl, rfl, ea, ec, hl, hp, q⟩ := h
  cases rx
  cases ry
  obtain ⟨_, ya, va, ra, da⟩ := dk_rd I.hok ea
  obtain ⟨_, yb, vb, rb, db⟩ := dk_rd I.hok ec
  have hl2 : va.length = vb.length := by rw [← ra.length, ← rb.length]; exact hl
  exact PySem.W.keq_eq (knd := mixKind X.prog X.w) (r := true) ya yb da db hu (fun _ => hits_all rb ra hp) (fin_bl I q (by simp [hl2]))
theorem op_neSame (hu : X.A.units < cLine) : OpR X (compareOp .NotEq) (rSameD false) := by
  intro pins s σ H x y v u Q I rx ry h
  obtain ⟨a, c, ks, ls, rfl, rfl, ea, ec, hl, hp, q⟩ := h
  cases rx
  cases ry
  obtain ⟨_, ya, va, ra, da⟩ := dk_rd I.hok ea
  obtain ⟨_, yb, vb, rb, db⟩ := dk_rd I.hok ec
  have hl2 : va.length = vb.length := by rw [← ra.length, ← rb.length]; exact hl
  exact PySem.W.keq_ne (knd := mixKind X.prog X.w) (r := true) ya yb da db hu (fun _ => hits_all rb ra hp) (fin_bl I q (by simp [hl2]))
/-- ints, by key -/
def intVals : List (Key × D) → Bool
  | [] => true
  | (_, .int _) :: r => intVals r
  | _ :: _ => false
theorem intVals_get {Hs : Hp} : ∀ {kds : List (Key × D)} {kvs : List (Key × V)}, RK K Hs kds kvs → intVals kds = true → ∀ p ∈ kvs, ∃ i, p.2 = .int i ∧ (p.1, D.int i) ∈ kds
  | [], kvs, h, _ => by simp only [RK] at h; subst h; intro p hp; simp at hp
  | (k, d) :: r, kvs, h, f => by
    simp only [RK] at h
    obtain ⟨u, s, rfl, h1, h2⟩ := h
    cases d with
    | int i =>
      simp only [R] at h1
      subst h1
      intro p hp
      rcases List.mem_cons.mp hp with rfl | hp
      · exact ⟨i, rfl, by simp⟩
      · obtain ⟨j, e1, e2⟩ := intVals_get h2 (by simpa [intVals] using f) p hp
        exact ⟨j, e1, by simp [e2]⟩
    | _ => simp [intVals] at f
def dSame (b : Bool) : D2 := fun x y C P => match vw C x, vw C y with
  | .dic ks, .dic ls => ks.length = ls.length ∧ intVals ks = true ∧ (∀ p ∈ ks, dval ls p.1 = some p.2) ∧ P (.bl b) C
  | _, _ => False
theorem ops_same {b : Bool} : OpS K (rSameD b) (dSame b) := by
  intro x y v u S P Q ok rx ry t w
  unfold dSame at t
  split at t
  · rename_i ks ls e1 e2
    obtain ⟨z, iv, hp, t⟩ := t
    obtain ⟨a, o, kvs, rfl, h1, h2, h3⟩ := vw_dic ok rx e1
    obtain ⟨c, o', lvs, rfl, g1, g2, g3⟩ := vw_dic ok ry e2
    refine ⟨a, c, kvs, lvs, rfl, rfl, rd_core h1 h2, rd_core g1 g2, by rw [h3.len, g3.len]; exact z, fun p hp' => ?_, w _ _ S (.refl ok) R_bl t⟩
    obtain ⟨i, ei, em⟩ := intVals_get h3 iv p hp'
    have := hp _ em
    obtain ⟨v', k1, k2⟩ := (RK.val p.1 g3).1 _ this
    simp only [R] at k2
    subst k2
    exact ⟨by rw [k1, ei], by rw [ei]; rfl⟩
  · exact t.elim
end
/-! ### dict displays -/
section
variable {X : Cx} {pos : Pos}
/-- {}: a cell -/
def dDict0 : DT := fun _ C P => ∀ p, C p = none → P (.cell p) (cset C p (.dic []))
theorem de_dict0 : DE X (.Dict [] [] pos) dDict0 := pe_weak pe_dnewK fun σ H Q q => by
  obtain ⟨ρ, S, P, rfl, s, r, t, w⟩ := q
  intro p hp
  have st := r.newC (o := .dK []) (c := .dic []) hp ⟨[], upd_same, by simp only [RK]⟩
  exact w _ (.cell p) _ st (by simp only [R]) (t p (r.freshC hp))
/-- {k: v, ..} -/
abbrev DPr := DL.Env → Cells → (List (D × D) → Cells → Prop) → Prop
def dPair0 : DPr := fun _ C P => P [] C
def dPairS (tk tv : DT) (r : DPr) : DPr := fun ρ C P => tk ρ C fun x C1 => tv ρ C1 fun y C2 => r ρ C2 fun ps C3 => P ((x, y) :: ps) C3
def DPrs (X : Cx) (pos : Pos) (keys : List (Option Expr)) (values : List Expr) (t : DPr) : Prop := ∃ trs : List (TE × TE), PPs X pos keys values trs ∧
  ∀ (ρ : DL.Env) (σ : St) (S : W) (P : List (D × D) → Cells → Prop) (Q : List (V × V) → Hp → Prop), Sl X.K S.hs σ ρ → Ok X.K S → t ρ S.c P →
    (∀ vs ds S', Step X.K S S' → RA X.K S'.hs (ds.map (·.1)) (vs.map (·.1)) → RA X.K S'.hs (ds.map (·.2)) (vs.map (·.2)) → P ds S'.c → Q vs S'.h) → tPairs trs σ S.h Q
theorem dpr_nil : DPrs X pos [] [] dPair0 := ⟨[], pps_nil, fun ρ σ S P Q s ok t w => w [] [] S (.refl ok) RA.nil RA.nil t⟩
theorem dpr_cons {k v : Expr} {ks : List (Option Expr)} {vs : List Expr} {tk tv : DT} {r : DPr} (hk : DE X k tk) (hv : DE X v tv) (hr : DPrs X pos ks vs r) : DPrs X pos (some k :: ks) (v :: vs) (dPairS tk tv r) := by
  obtain ⟨trs, h1, h2⟩ := hr
  refine ⟨(liftE X.K tk, liftE X.K tv) :: trs, pps_cons hk hv h1, fun ρ σ S P Q s ok t w => ?_⟩
  refine ⟨ρ, S, _, rfl, s, ok, t, fun x dx S1 e1 rx t1 => ?_⟩
  refine ⟨ρ, S1, _, rfl, s.ext e1.ext, e1.ok, t1, fun y dy S2 e2 ry t2 => ?_⟩
  refine h2 ρ σ S2 _ _ (s.ext (e1.trans e2).ext) e2.ok t2 fun us ds S3 e3 r1 r2 t3 => ?_
  exact w ((x, y) :: us) ((dx, dy) :: ds) S3 (e1.trans (e2.trans e3)) (RA.cons (R.ext (e2.trans e3).ext _ _ rx) r1) (RA.cons (R.ext e3.ext _ _ ry) r2) t3
def keysOf' : List (D × D) → Option (List (Key × D))
  | [] => some []
  | (k, d) :: r => match keyOf k, keysOf' r with
    | some q, some s => some ((q, d) :: s)
    | _, _ => none
theorem disp_R {K : PySem.W.Frag} {Hs : Hp} : ∀ {ds : List (D × D)} {vs : List (V × V)} {kds : List (Key × D)}, RA K Hs (ds.map (·.1)) (vs.map (·.1)) → RA K Hs (ds.map (·.2)) (vs.map (·.2)) → keysOf' ds = some kds →
    ∃ kvs : List (Key × V), vs = kvs.map (fun kv => (kV kv.1, kv.2)) ∧ RK K Hs kds kvs
  | [], [], kds, _, _, e => by
    simp [keysOf'] at e
    subst e
    exact ⟨[], rfl, by simp only [RK]⟩
  | [], v :: vs, kds, h, _, _ => by simp [RA] at h
  | d :: ds, [], kds, h, _, _ => by simp [RA] at h
  | (k, d) :: ds, (a, b) :: vs, kds, h, g, e => by
    simp only [List.map_cons, RA] at h g
    obtain ⟨v, r, e1, h1, h2⟩ := h
    cases e1
    obtain ⟨v2, r2, e2, g1, g2⟩ := g
    cases e2
    unfold keysOf' at e
    split at e
    · rename_i q s' q1 q2
      cases e
      obtain ⟨kvs, ev, rk⟩ := disp_R h2 g2 q2
      exact ⟨(q, b) :: kvs, by rw [List.map_cons, ← ev, keyOf_R h1 q1], by simp only [RK]; exact ⟨b, kvs, rfl, g1, rk⟩⟩
    · cases e
def dDisp (t : DPr) : DT := fun ρ C P => t ρ C fun ps C1 => opt (keysOf' ps) fun kds => kds.length ≤ 15 ∧ P (.dic (mergeD [] kds)) C1
theorem de_disp {keys : List (Option Expr)} {values : List Expr} {t : DPr} (h : DPrs X pos keys values t) (hall : keys.all (·.isSome) = true := by rfl) (hl : keys.length = values.length := by rfl) (h0 : keys ≠ [] := by exact nofun) (h15 : keys.length ≤ 15 := by decide) :
    DE X (.Dict keys values pos) (dDisp t) := by
  obtain ⟨trs, h1, h2⟩ := h
  refine pe_weak (pe_disp h1 hall hl h0 h15) fun σ H Q q => ?_
  obtain ⟨ρ, S, P, rfl, s, r, t, w⟩ := q
  intro p hp
  have st := r.own (o := .dK []) hp
  refine h2 ρ σ ⟨S.hs, S.c, upd S.h p (.dK [])⟩ _ _ s st.ok t fun vs ds S' e1 r1 r2 t1 => ?_
  obtain ⟨kds, ek, hl, t1⟩ := opt_of t1
  obtain ⟨kvs, ev, rk⟩ := disp_R r1 r2 ek
  obtain ⟨g1, g2, g3⟩ := e1.fr p (.dK []) upd_same (r.fresh hp) (r.freshC hp)
  refine ⟨g1, kvs, ev, by rw [rk.len]; exact hl, ?_⟩
  have e2 : Step X.K S ⟨S'.hs, S'.c, upd S'.h p (.dK (mergeK [] kvs))⟩ := by
    refine ⟨(st.trans e1).ext, fun b o k1 k2 k3 => ?_, e1.ok.other g2 g3⟩
    have hb : b ≠ p := fun q => by rw [q, hp] at k1; cases k1
    obtain ⟨m1, m2, m3⟩ := (st.trans e1).fr b o k1 k2 k3
    exact ⟨(upd_ne hb).trans m1, m2, m3⟩
  have e3 := e2.adopt (a := p) upd_same g2 g3 hp
  refine w _ (.dic (mergeD [] kds)) _ e3 ?_ t1
  simp only [R]
  exact ⟨p, _, _, rfl, upd_same, rfl, RK.merge (RK.ext' (Ext.new g2) rk) (by simp only [RK])⟩
end
/-! ### a, b, c = x, y, z -/
section
variable {X : Cx} {i j l : Nat} {x y z : Str} {a b c : Expr} {ta : DA} {px py pz pt pos : Pos} {kt k2 pt2}
theorem ds_par3 (hc : X.calm = true) (hN : X.N.Nodup) (ha : DAs X [a, b, c] ta) (hij : i ≠ j := by decide) (hil : i ≠ l := by decide) (hjl : j ≠ l := by decide) (hi : X.N[i]? = some x := by rfl) (hj : X.N[j]? = some y := by rfl) (hl : X.N[l]? = some z := by rfl)
    (hx : X.env.scope.names.lookup x = some .local := by rfl) (hy : X.env.scope.names.lookup y = some .local := by rfl) (hz : X.env.scope.names.lookup z = some .local := by rfl)
    (hw : swappedStores [.Tuple [.Name x px, .Name y py, .Name z pz] kt pt] (.Tuple [a, b, c] k2 pt2) X.env = pure (some [x, y, z]) := by rfl)
    (hs : swapsWithSole [.Tuple [.Name x px, .Name y py, .Name z pz] kt pt] (.Tuple [a, b, c] k2 pt2) pos.line X.env = pure false := by rfl) :
    DSt X (.Assign [.Tuple [.Name x px, .Name y py, .Name z pz] kt pt] (.Tuple [a, b, c] k2 pt2) pos) (dPar [i, j, l] ta) := by
  refine ps_weak (ps_par3 hc hN hi hj hl hij hil hjl hx hy hz ha hw hs) fun E σ H q => ?_
  obtain ⟨ρ, S, D, rfl, s, r, t, w⟩ := q
  refine ⟨ρ, S, _, rfl, s, r, t, fun vs ds S1 e1 rs t1 => ?_⟩
  obtain ⟨hn, t1⟩ := t1
  match ds, hn, rs, t1 with
  | [d, e, f], _, rs, t1 =>
    simp only [RA] at rs
    obtain ⟨v, _, rfl, r1, u, _, rfl, r2, k, _, rfl, r3, rfl⟩ := rs
    exact ⟨v, u, k, rfl, w.nx _ _ S1 e1 ((((s.ext e1.ext).set r1).set r2).set r3) t1⟩
end
end DL

set_option Elab.async false
set_option linter.all false
set_option maxRecDepth 100000
set_option maxHeartbeats 2000000
namespace DL
open PySem PySem.Spec PyProof.Rows L2
/-! ### defs with defaults -/
structure DDef (K : PySem.W.Frag) (x qual : Str) (st : Stmt) (ps : List Str) (f : Addr) (dvs : List V) : Prop where
  d : ∃ fd, FunD K x qual (defArgs st) (defBody st) (defScope st) dvs [] f fd ∧ ∀ j, j ≤ dvs.length → ∃ ds, Vals (dvs.drop j) ds ∧ Binds K fd ps ds
structure Dde (K : PySem.W.Frag) (mg : Str → Option Value) (x : Str) (st : Stmt) (ps : List Str) (dvs : List V) : Prop where
  m : mg x = some (.ref (fa mg x))
  d : DDef K x x st ps (fa mg x) dvs
structure Mde (K : PySem.W.Frag) (C : Addr) (m qual : Str) (st : Stmt) (ps : List Str) (dvs : List V) : Prop where
  me : Meth K C m (ma K C m)
  d : DDef K m qual st ps (ma K C m) dvs
section
variable {P : Program} {w : World} {K : PySem.W.Frag} {mg : Str → Option Value} {base : Heap}
theorem fn_dd {x qual : Str} {st : Stmt} {f : Addr} {N ps : List Str} {k : Nat} {p : DSp} {dds : List D} {dvs : List V} (F : DDef K x qual st ps f dvs) (j : Nat) (hj : j ≤ dvs.length) (S : FnScope N ps (defScope st)) (hdd : ∀ Hs, RA K Hs dds (dvs.drop j))
    (len : ∀ ds C Q, p ds C Q → ds.length = ps.length)
    (hbody : ∀ (cdv : Value) (A : Around) (outer : List PySem.Env) (s : Shared) (H : Hp) (E : XK), Room k (A.deeper (envOfC qual (defScope st) s.heap.objs.size f cdv)) →
      ∃ t, DSs (cxOf CX0 P w K mg base N qual (defScope st) f cdv A outer s H E).nox (defBody st) t ∧ ∀ ds C Q, p ds C Q → t (endsOf Q) (startD N ds) C) : Fn P w K mg base (k + 1) f dds p := by
  obtain ⟨fd, F, hB⟩ := F.d
  obtain ⟨ds, hv, hb⟩ := hB j hj
  refine ⟨fd, ps, ds, _, F.kp, hb, hv, hdd, F.ok S (fun vs H Q E h => ?_) (fun cdv A outer s H vs Q E hr h => ?_)⟩
  · obtain ⟨ds, S, P, rfl, r, ok, t, w⟩ := h
    rw [r.len]
    exact len _ _ _ t
  · obtain ⟨ds, S0, P0, rfl, r, ok, t, w⟩ := h
    obtain ⟨tt, h1, h2⟩ := hbody cdv A outer s S0.h E hr
    refine ⟨_, PSs.nox h1, startD N ds, S0, endsOf P0, rfl, sl_start r, ok, h2 ds _ _ t, ⟨fun ρ' σ' S' e1 s1 t1 => ?_, fun v d S' e1 rd t1 => ?_, fun ρ' σ' S' e1 s1 t1 => t1.elim, fun ρ' σ' S' e1 s1 t1 => t1.elim⟩⟩
    · obtain ⟨C'', gh, q⟩ := t1
      have e2 := e1.ok.gh gh
      exact w .non .non ⟨S'.hs, C'', S'.h⟩ (e1.trans e2) R_non q
    · obtain ⟨C'', gh, q⟩ := t1
      have e2 := e1.ok.gh gh
      exact w v d ⟨S'.hs, C'', S'.h⟩ (e1.trans e2) (R.ext e2.ext _ _ rd) q
/-- which the pieces tell: dvs at the tuple T -/
theorem ddef_mk {x qual : Str} {st : Stmt} {ps : List Str} {f T : Addr} {dvs : List V} {its : List Value} {oc kV dc pm cd ct : Value} {od an : Option Addr} {sl : Array (Option Value)} {oT : Obj} {n : Nat}
    (l : K.lookup f = some ⟨oc, od, .func (PySem.W.fnOf x qual (defArgs st) (defBody st) (defScope st) (.ref T) kV dc pm an cd ct), sl⟩) (c : PySem.W.codeIn K cd qual = true) (k : PySem.W.keepIn K (.ref f) = true)
    (lT : K.lookup T = some oT) (dT : oT.data = .seq its.toArray n) (rT : Vals dvs its) (ne : dvs ≠ [])
    (h : ∀ (kV doc pm : Value) (an : Option Addr) (cdv ct : Value) (j : Nat) (us : List Value), j ≤ its.length → us.length + (its.length - j) = ps.length →
      ∃ q, bindArgs (PySem.W.fnOf x qual (defArgs st) (defBody st) (defScope st) (.ref T) kV doc pm an cdv ct) ⟨us, []⟩ = seqItems? (.ref T) >>= q ∧ q (some its.toArray) = pure (ps.zip (us ++ its.drop j))) : DDef K x qual st ps f dvs := by
  have hl : dvs.length = its.length := rT.length
  refine ⟨_, ⟨⟨oc, od, .ref T, kV, dc, pm, an, cd, ct, sl, rfl, l, c, .inr ⟨ne, T, oT, its, n, rfl, lT, dT, rT⟩, .inl rfl⟩, k⟩, fun j hj => ⟨its.drop j, ?_, fun s us X hlen => ?_⟩⟩
  · exact rT.drop j
  · have l2 : us.length + (its.length - j) = ps.length := by
      rw [List.length_append, List.length_drop] at hlen
      exact hlen
    obtain ⟨q, e1, e2⟩ := h kV dc pm an cd ct j us (by omega) l2
    refine BindsTo.of_looks fun M => ?_
    rw [e1]
    exact looks_items X lT dT (PySem.W.Looks.of_pure e2)
end
/-! ### comprehensions over lists told by a function -/
theorem compN_by {α : Type} {xs : List α} (g : α → D) {j : Nat} {tt : DB} {te : DT} {ρ : DL.Env} {C : Cells} {P : DK} (b : α → Bool) (f : α → D) (hl : xs.length ≤ 1000000)
    (h : ∀ x (P' : Bool → Cells → Prop), x ∈ xs → P' (b x) C → tt (ρ.set j (some (g x))) C P')
    (k : ∀ x (P' : DK), x ∈ xs → b x = true → P' (f x) C → te (ρ.set j (some (g x))) C P') (q : P (.lst ((xs.filter b).map f)) C) : compN (xs.map g) j tt te ρ C P := by
  refine ⟨fun i acc C' => acc = ((xs.take i).filter b).map f ∧ C' = C, ⟨by simp, rfl⟩, fun i d acc C' e p => ?_, fun acc C' p => ?_⟩
  · obtain ⟨rfl, rfl⟩ := p
    rw [List.getElem?_map] at e
    cases ex : xs[i]? with
    | none => rw [ex] at e; cases e
    | some x =>
      rw [ex] at e
      cases e
      have hx := List.mem_of_getElem? ex
      have hf : (xs.take (i + 1)).filter b = (xs.take i).filter b ++ (if b x = true then [x] else []) := by
        rw [List.take_add_one, ex, List.filter_append]
        congr 1
        simp only [Option.toList, List.filter_cons, List.filter_nil]
      have h2 : (((xs.take i).filter b).map f).length < 1000000 := by
        have h3 : i < xs.length := (List.getElem?_eq_some_iff.mp ex).1
        have h4 : ((xs.take i).filter b).length ≤ (xs.take i).length := List.length_filter_le _ _
        rw [List.length_take] at h4
        rw [List.length_map]
        omega
      refine h x _ hx ?_
      cases hb : b x with
      | true =>
        rw [if_pos rfl]
        refine k x _ hx hb ⟨h2, C', Gh.refl C', ?_, rfl⟩
        rw [hf, hb, if_pos rfl, List.map_append]
        rfl
      | false =>
        rw [if_neg Bool.false_ne_true]
        refine ⟨C', Gh.refl C', ?_, rfl⟩
        rw [hf, hb, if_neg Bool.false_ne_true, List.append_nil]
  · obtain ⟨rfl, rfl⟩ := p
    rw [List.length_map, List.take_length]
    exact q
theorem compP_by {α : Type} {xs : List α} (ga gb : α → D) {i j : Nat} {tt : DB} {te : DT} {ρ : DL.Env} {C : Cells} {P : DK} (b : α → Bool) (f : α → D) (hl : xs.length ≤ 1000000)
    (h : ∀ x (P' : Bool → Cells → Prop), x ∈ xs → P' (b x) C → tt ((ρ.set i (some (ga x))).set j (some (gb x))) C P')
    (k : ∀ x (P' : DK), x ∈ xs → b x = true → P' (f x) C → te ((ρ.set i (some (ga x))).set j (some (gb x))) C P') (q : P (.lst ((xs.filter b).map f)) C) : compP (xs.map fun x => .tup [ga x, gb x]) i j tt te ρ C P := by
  refine ⟨fun n acc C' => acc = ((xs.take n).filter b).map f ∧ C' = C, ⟨by simp, rfl⟩, fun n d acc C' e p => ?_, fun acc C' p => ?_⟩
  · obtain ⟨rfl, rfl⟩ := p
    rw [List.getElem?_map] at e
    cases ex : xs[n]? with
    | none => rw [ex] at e; cases e
    | some x =>
      rw [ex] at e
      cases e
      have hx := List.mem_of_getElem? ex
      have hf : (xs.take (n + 1)).filter b = (xs.take n).filter b ++ (if b x = true then [x] else []) := by
        rw [List.take_add_one, ex, List.filter_append]
        congr 1
        simp only [Option.toList, List.filter_cons, List.filter_nil]
      have h2 : (((xs.take n).filter b).map f).length < 1000000 := by
        have h3 : n < xs.length := (List.getElem?_eq_some_iff.mp ex).1
        have h4 : ((xs.take n).filter b).length ≤ (xs.take n).length := List.length_filter_le _ _
        rw [List.length_take] at h4
        rw [List.length_map]
        omega
      refine ⟨_, _, rfl, h x _ hx ?_⟩
      cases hb : b x with
      | true =>
        rw [if_pos rfl]
        refine k x _ hx hb ⟨h2, C', Gh.refl C', ?_, rfl⟩
        rw [hf, hb, if_pos rfl, List.map_append]
        rfl
      | false =>
        rw [if_neg Bool.false_ne_true]
        refine ⟨C', Gh.refl C', ?_, rfl⟩
        rw [hf, hb, if_neg Bool.false_ne_true, List.append_nil]
  · obtain ⟨rfl, rfl⟩ := p
    rw [List.length_map, List.take_length]
    exact q
/-- {k: v for x in xs}: keys told ahead -/
theorem compD_by {α : Type} {xs : List α} (g : α → D) {j : Nat} {tk tv : DT} {ρ : DL.Env} {C : Cells} {P : DK} (kf : α → Key) (f : α → D) (hl : xs.length ≤ 1000000) (nd : (xs.map kf).Nodup)
    (h : ∀ x (P' : DK), x ∈ xs → (∀ d, keyOf d = some (kf x) → P' d C) → tk (ρ.set j (some (g x))) C P')
    (k : ∀ x (P' : DK), x ∈ xs → P' (f x) C → tv (ρ.set j (some (g x))) C P') (q : P (.dic (xs.map fun x => (kf x, f x))) C) : compD (xs.map g) j tk tv ρ C P := by
  refine ⟨fun i acc C' => acc = (xs.take i).map (fun x => (kf x, f x)) ∧ C' = C, ⟨by simp, rfl⟩, fun i d acc C' e p => ?_, fun acc C' p => ?_⟩
  · obtain ⟨rfl, rfl⟩ := p
    rw [List.getElem?_map] at e
    cases ex : xs[i]? with
    | none => rw [ex] at e; cases e
    | some x =>
      rw [ex] at e
      cases e
      have hx := List.mem_of_getElem? ex
      have hi : i < xs.length := (List.getElem?_eq_some_iff.mp ex).1
      have et : xs.take (i + 1) = xs.take i ++ [x] := by rw [List.take_add_one, ex]; rfl
      refine h x _ hx fun d ed => k x _ hx ?_
      rw [ed]
      refine ⟨by rw [List.length_map, List.length_take]; omega, C', Gh.refl C', ?_, rfl⟩
      have no : (((xs.take i).map fun x => (kf x, f x)).any fun q => decide (q.1 = kf x)) = false := by
        cases hq : (((xs.take i).map fun x => (kf x, f x)).any fun q => decide (q.1 = kf x)) with
        | false => rfl
        | true =>
          obtain ⟨y, hy, e1⟩ := List.any_eq_true.mp hq
          obtain ⟨z, hz, rfl⟩ := List.mem_map.mp hy
          have e2 : kf z = kf x := of_decide_eq_true e1
          have n1 : (((xs.take i).map kf) ++ [kf x]).Nodup := by
            have n2 : ((xs.take (i + 1)).map kf).Nodup := by
              rw [List.map_take]
              exact nd.sublist (List.take_sublist _ _)
            rw [et, List.map_append] at n2
            exact n2
          rw [List.nodup_append] at n1
          exact absurd e2 (n1.2.2 _ (List.mem_map.mpr ⟨z, hz, rfl⟩) _ (by simp))
      rw [dput, no, et, List.map_append]
      rfl
  · obtain ⟨rfl, rfl⟩ := p
    rw [List.length_map, List.take_length]
    exact q
/-- cells that were laid and given away -/
theorem cdel_cset {C : Cells} {p : Addr} {c : Cell} (h : C p = none) : cdel (cset C p c) p = C := by
  funext b
  unfold cdel cset
  split
  · rename_i e
    rw [e, h]
  · rfl
theorem cset_of {C : Cells} {a : Addr} {c : Cell} (h : C a = some c) : cset C a c = C := by
  funext b
  unfold cset
  split
  · rename_i e
    rw [e, h]
  · rfl
theorem cset_comm {C : Cells} {a b : Addr} {c d : Cell} (h : a ≠ b) : cset (cset C a c) b d = cset (cset C b d) a c := by
  funext x
  unfold cset
  by_cases h1 : x = b
  · subst h1
    rw [if_pos rfl, if_neg (Ne.symm h), if_pos rfl]
  · rw [if_neg h1]
    by_cases h2 : x = a
    · rw [if_pos h2, if_pos h2]
    · rw [if_neg h2, if_neg h2, if_neg h1]
section
variable {X : Cx} {elt iter : Expr} {ifs : List Expr} {scope : Scope} {pos : Pos} {i j : Nat} {x y : Str} {px py pt : Pos} {kk : Nat} {tt : DB} {te : DT}
theorem ds_setLcP {t : DT} {n : Nat} {z : Str} {pz spos : Pos} (hc : X.calm = true) (hN : X.N.Nodup) (hi : DE X iter t) (ok : blkC X.N X.env.scope scope [(x, i), (y, j)] = true)
    (hg1 : ∀ (s : Shared) (H : Hp) (C : Addr) (cl : List (Str × Addr)) (fp : List Addr), PG (X.blk s H scope (compEnvC scope cl C X.env) fp) (.Name x px) (gName i))
    (hg2 : ∀ (s : Shared) (H : Hp) (C : Addr) (cl : List (Str × Addr)) (fp : List Addr), PG (X.blk s H scope (compEnvC scope cl C X.env) fp) (.Name y py) (gName j))
    (ht : ∀ (s : Shared) (H : Hp) (C : Addr) (cl : List (Str × Addr)) (fp : List Addr), DPs (X.blk s H scope (compEnvC scope cl C X.env) fp) ifs tt)
    (he : ∀ (s : Shared) (H : Hp) (C : Addr) (cl : List (Str × Addr)) (fp : List Addr), DE (X.blk s H scope (compEnvC scope cl C X.env) fp) elt te) (hz : X.N[n]? = some z := by rfl) (hzl : X.env.scope.names.lookup z = some .local := by rfl) (hij : i ≠ j := by decide)
    (hsw : swapsWith (.ListComp elt [⟨.Tuple [.Name x px, .Name y py] kk pt, iter, ifs, 0⟩] scope pos) (some (.Name z pz)) spos.line X.env = pure true := by exact sw_true rfl rfl rfl (by decide +kernel)) (hs : ∀ x, foldedSetIterable iter X.env x = pure x := by intro _; rfl) :
    DSt X (.Assign [.Name z pz] (.ListComp elt [⟨.Tuple [.Name x px, .Name y py] kk pt, iter, ifs, 0⟩] scope pos) spos) (dAsg (dLcP t i j tt te) (dName n)) := by
  refine ps_weak (ps_setLc (own := [(x, i), (y, j)]) (g := gPair X.K i j) (tt := liftB X.K tt) (te := liftE X.K te) hc hN hz hzl hsw (pi_list hi) (blkOk_by ok) (fun s H C cl fp => pg_pair (X := X.blk s H scope (compEnvC scope cl C X.env) fp) hc (hg1 s H C cl fp) (hg2 s H C cl fp)) ht he hs) fun F σ H q => ?_
  obtain ⟨ρ, S, E, rfl, s, r, t, w⟩ := q
  refine iPairs_lift (X := X) hij ⟨ρ, S, _, rfl, s, r, t, fun v d S1 e1 rd t1 => ?_⟩
  exact w.nx _ _ S1 e1 ((s.ext e1.ext).set rd) t1
end
end DL

set_option Elab.async false
set_option linter.all false
set_option maxRecDepth 100000
set_option maxHeartbeats 2000000
namespace DL
open PySem PySem.Spec PyProof.Rows L2
/-! ### xs == [], whatever stands in xs -/
section
variable {K : PySem.W.Frag} {X : Cx}
def rNilC (K : PySem.W.Frag) (neg : Bool) : R2 := fun x y H Q => ∃ a b xs, x = .ref a ∧ y = .ref b ∧ SqL K H a xs ∧ SqL K H b [] ∧ Q (.bl (if neg then !xs.isEmpty else xs.isEmpty)) H
theorem op_eqNil (hu : X.A.units < cLine) : OpR X (compareOp .Eq) (rNilC X.K false) := by
  intro pins s σ H x y v u Q I rx ry h
  obtain ⟨a, b, xs, rfl, rfl, ha, hb, q⟩ := h
  cases rx
  cases ry
  obtain ⟨i1, r1, p1, _⟩ := I.list ha
  obtain ⟨i2, r2, p2, _⟩ := I.list hb
  have e2 : i2 = [] := List.eq_nil_of_length_eq_zero (by rw [← r2.length]; rfl)
  subst e2
  cases xs with
  | nil =>
    have e1 : i1 = [] := List.eq_nil_of_length_eq_zero (by rw [← r1.length]; rfl)
    subst e1
    exact SeqAt.RcAt.lists (e := fun _ => true) p1.isList p2.isList rfl hu (fun j h1 h2 => absurd h1 (by simp)) _ _ _ _ (fin_bl I q (by simp))
  | cons z zs =>
    have hl := r1.length
    refine SeqAt.RcAt.lists_lengths p1.isList p2.isList ?_ hu _ _ _ _ (fin_bl I q rfl)
    simp only [List.size_toArray, ← hl, List.length_cons, List.length_nil]
    rfl
theorem op_neNil (hu : X.A.units < cLine) : OpR X (compareOp .NotEq) (rNilC X.K true) := by
  intro pins s σ H x y v u Q I rx ry h
  obtain ⟨a, b, xs, rfl, rfl, ha, hb, q⟩ := h
  cases rx
  cases ry
  obtain ⟨i1, r1, p1, _⟩ := I.list ha
  obtain ⟨i2, r2, p2, _⟩ := I.list hb
  have e2 : i2 = [] := List.eq_nil_of_length_eq_zero (by rw [← r2.length]; rfl)
  subst e2
  cases xs with
  | nil =>
    have e1 : i1 = [] := List.eq_nil_of_length_eq_zero (by rw [← r1.length]; rfl)
    subst e1
    exact SeqAt.RcNeAt.lists (e := fun _ => true) p1.isList p2.isList rfl hu (fun j h1 h2 => absurd h1 (by simp)) _ _ _ _ (fin_bl I q (by simp))
  | cons z zs =>
    have hl := r1.length
    refine SeqAt.RcNeAt.lists_lengths p1.isList p2.isList ?_ hu _ _ _ _ (fin_bl I q rfl)
    simp only [List.size_toArray, ← hl, List.length_cons, List.length_nil]
    rfl
def dNilC (neg : Bool) : D2 := fun x y C P => match vw C x, vw C y with
  | .lst ds, .lst [] => P (.bl (if neg then !ds.isEmpty else ds.isEmpty)) C
  | _, _ => False
theorem ops_nil {neg : Bool} : OpS K (rNilC K neg) (dNilC neg) := by
  intro x y v u S P Q ok rx ry t w
  unfold dNilC at t
  split at t
  · rename_i ds e1 e2
    obtain ⟨a, vs, rfl, h1, h2⟩ := vw_lst ok rx e1
    obtain ⟨b, us, rfl, g1, g2⟩ := vw_lst ok ry e2
    simp only [RA] at g2
    subst g2
    refine ⟨a, b, vs, rfl, rfl, SqL.of h1, SqL.of g1, ?_⟩
    have e : vs.isEmpty = ds.isEmpty := by
      have := h2.len
      cases vs <;> cases ds <;> simp_all
    rw [e]
    exact w _ _ S (.refl ok) R_bl t
  · exact t.elim
end
end DL

set_option Elab.async false
set_option linter.all false
set_option maxRecDepth 100000
set_option maxHeartbeats 2000000
namespace DL
open PySem PySem.Spec PyProof.Rows L2
/-! ### a comprehension whose list is changed later -/
def thaw (P : DK) : DK := fun d C => match d with
  | .lst acc => ∀ p, C p = none → P (.cell p) (cset C p (.lst acc))
  | _ => False
theorem CTurn.doneC {K : PySem.W.Frag} {S0 : W} {Dl : Addr} {I : List D → Cells → Prop} {H : Hp} {P : DK} {Q : VK} (T : CTurn K S0 Dl I H) (w : Wish K S0 P Q) (h : ∀ acc C, I acc C → thaw P (.lst acc) C) : Q (.ref Dl) H := by
  obtain ⟨S, acc, vs, rfl, st, h1, h2, h3, h5, ra, p⟩ := T
  refine w (.ref Dl) (.cell Dl) ⟨S.hs, cset S.c Dl (.lst acc), S.h⟩ ⟨st.ext, fun b o g1 g2 g3 => ?_, ⟨st.ok.le, fun b c g => ?_⟩⟩ (by simp only [R]) (h acc _ p Dl h3)
  · obtain ⟨m1, m2, m3⟩ := st.fr b o g1 g2 g3
    have hb : b ≠ Dl := fun q => by rw [q, h5] at g1; cases g1
    exact ⟨m1, m2, (cset_ne hb).trans m3⟩
  · have g' : cset S.c Dl (.lst acc) b = some c := g
    by_cases hb : b = Dl
    · subst hb
      rw [cset_same] at g'
      cases g'
      exact ⟨h2, vs, h1, ra⟩
    · rw [cset_ne hb] at g'
      exact st.ok.cell b c g'
section
variable {X : Cx} {elt : Expr} {ifs : List Expr} {scope : Scope} {pos : Pos} {j : Nat} {x : Str} {px : Pos} {tt : DB} {te : DT}
def dLcR1C (t : DA) (j : Nat) (tt : DB) (te : DT) : DT := fun ρ C P => t ρ C fun ys C1 => int1 ys fun n => n ≤ 1000000 ∧ -1000000 ≤ n ∧ compN ((List.range n.toNat).map fun (i : Nat) => D.int (i : Int)) j tt te ρ C1 (thaw P)
theorem iRngC_lift {t : DA} {σ : St} {H : Hp} {Q : VK} (q : liftE X.K (dLcR1C t j tt te) σ H Q) : tLc (iRng1 (liftA X.K t)) (gName j) (liftB X.K tt) (liftE X.K te) [j] σ H Q := by
  obtain ⟨ρ, S, P, rfl, s, r, t, w⟩ := q
  refine ⟨ρ, S, _, rfl, s, r, t, fun vs ds S1 e1 rs t1 => ?_⟩
  obtain ⟨n, rfl, t1⟩ := int1_of t1
  simp only [RA, R] at rs
  obtain ⟨v, _, rfl, rfl, rfl⟩ := rs
  obtain ⟨z1, z2, I, i0, it, ie⟩ := t1
  refine ⟨n, rfl, by omega, by omega, fun Dl hD => lc_range (lo := 0) (n := n.toNat) (fun i H => CTurn X.K S1 Dl (I i) H) (CTurn.start e1.ok hD i0) (fun i H hx T => ?_) (fun H T => ?_)⟩
  · refine cturn_ok (d := .int (i : Int)) (s.ext e1.ext) T (fun Hs e => by rw [Int.zero_add]; exact R_int) (fun acc C p => it i _ acc C ?_ p)
    simp [hx]
  · refine T.doneC (w.st e1) fun acc C p => ie acc C ?_
    simpa using p
theorem ds_setLcR1C {a : Expr} {t : DA} {p ipos : Pos} {i : Nat} {y : Str} {py spos : Pos} (hc : X.calm = true) (hN : X.N.Nodup) (hm : X.mg "range" = none) (ha : DAs X [a] t) (ok : blkC X.N X.env.scope scope [(x, j)] = true)
    (hg : ∀ (s : Shared) (H : Hp) (C : Addr) (cl : List (Str × Addr)) (fp : List Addr), PG (X.blk s H scope (compEnvC scope cl C X.env) fp) (.Name x px) (gName j))
    (ht : ∀ (s : Shared) (H : Hp) (C : Addr) (cl : List (Str × Addr)) (fp : List Addr), DPs (X.blk s H scope (compEnvC scope cl C X.env) fp) ifs tt)
    (he : ∀ (s : Shared) (H : Hp) (C : Addr) (cl : List (Str × Addr)) (fp : List Addr), DE (X.blk s H scope (compEnvC scope cl C X.env) fp) elt te) (hgl : Gl X "range" := by rfl) (hse : starEach [a] X.env = [(false, eval a X.env)] := by rfl) (hy : X.N[i]? = some y := by rfl) (hyl : X.env.scope.names.lookup y = some .local := by rfl)
    (hsw : swapsWith (.ListComp elt [⟨.Name x px, .Call (.Name "range" p) [a] [] ipos, ifs, 0⟩] scope pos) (some (.Name y py)) spos.line X.env = pure true := by exact sw_true rfl rfl rfl (by decide +kernel))
    (hs : ∀ x, foldedSetIterable (.Call (.Name "range" p) [a] [] ipos) X.env x = pure x := by intro _; rfl) :
    DSt X (.Assign [.Name y py] (.ListComp elt [⟨.Name x px, .Call (.Name "range" p) [a] [] ipos, ifs, 0⟩] scope pos) spos) (dAsg (dLcR1C t j tt te) (dName i)) := by
  refine ps_weak (ps_setLc (own := [(x, j)]) (tt := liftB X.K tt) (te := liftE X.K te) hc hN hy hyl hsw (pi_range1 hgl hm ha hse) (blkOk_by ok) hg ht he hs) fun F σ H q => ?_
  obtain ⟨ρ, S, E, rfl, s, r, t, w⟩ := q
  refine iRngC_lift (X := X) ⟨ρ, S, _, rfl, s, r, t, fun v d S1 e1 rd t1 => ?_⟩
  exact w.nx _ _ S1 e1 ((s.ext e1.ext).set rd) t1
end
end DL

set_option Elab.async false
set_option linter.all false
set_option maxRecDepth 100000
set_option maxHeartbeats 1000000
namespace K78
open PySem L2 DL
def top (i : Nat) : Stmt := PySem.Challenge.pw_whosepace_k78_whole_rounds_and_lates.main.body.getD i (.Pass ⟨0, 0, 0, 0⟩)
abbrev s_is_name : Stmt := top 12
abbrev N_is_name : List Str := ["value", "sign"]
abbrev P_is_name : List Str := ["value"]
theorem sc_is_name : FnScope N_is_name P_is_name (defScope s_is_name) := ⟨rfl, rfl, rfl, by decide +kernel, rfl, by decide +kernel, by decide +kernel⟩
abbrev s_is_whole : Stmt := top 13
abbrev N_is_whole : List Str := ["value"]
abbrev P_is_whole : List Str := ["value"]
theorem sc_is_whole : FnScope N_is_whole P_is_whole (defScope s_is_whole) := ⟨rfl, rfl, rfl, by decide +kernel, rfl, by decide +kernel, by decide +kernel⟩
abbrev s_is_count : Stmt := top 14
abbrev N_is_count : List Str := ["value"]
abbrev P_is_count : List Str := ["value"]
theorem sc_is_count : FnScope N_is_count P_is_count (defScope s_is_count) := ⟨rfl, rfl, rfl, by decide +kernel, rfl, by decide +kernel, by decide +kernel⟩
abbrev s_is_hours : Stmt := top 15
abbrev N_is_hours : List Str := ["value", "key"]
abbrev P_is_hours : List Str := ["value"]
theorem sc_is_hours : FnScope N_is_hours P_is_hours (defScope s_is_hours) := ⟨rfl, rfl, rfl, by decide +kernel, rfl, by decide +kernel, by decide +kernel⟩
abbrev s_check_count : Stmt := top 16
abbrev N_check_count : List Str := ["value", "least", "most"]
abbrev P_check_count : List Str := ["value", "least", "most"]
theorem sc_check_count : FnScope N_check_count P_check_count (defScope s_check_count) := ⟨rfl, rfl, rfl, by decide +kernel, rfl, by decide +kernel, by decide +kernel⟩
abbrev s_check_hours : Stmt := top 17
abbrev N_check_hours : List Str := ["value", "names", "name"]
abbrev P_check_hours : List Str := ["value", "names"]
theorem sc_check_hours : FnScope N_check_hours P_check_hours (defScope s_check_hours) := ⟨rfl, rfl, rfl, by decide +kernel, rfl, by decide +kernel, by decide +kernel⟩
abbrev s_check_just_hours : Stmt := top 18
abbrev N_check_just_hours : List Str := ["value", "names"]
abbrev P_check_just_hours : List Str := ["value", "names"]
theorem sc_check_just_hours : FnScope N_check_just_hours P_check_just_hours (defScope s_check_just_hours) := ⟨rfl, rfl, rfl, by decide +kernel, rfl, by decide +kernel, by decide +kernel⟩
abbrev s_check_known : Stmt := top 19
abbrev N_check_known : List Str := ["value", "names"]
abbrev P_check_known : List Str := ["value", "names"]
theorem sc_check_known : FnScope N_check_known P_check_known (defScope s_check_known) := ⟨rfl, rfl, rfl, by decide +kernel, rfl, by decide +kernel, by decide +kernel⟩
abbrev s_are_terms : Stmt := top 22
abbrev N_are_terms : List Str := ["value", "one"]
abbrev P_are_terms : List Str := ["value"]
theorem sc_are_terms : FnScope N_are_terms P_are_terms (defScope s_are_terms) := ⟨rfl, rfl, rfl, by decide +kernel, rfl, by decide +kernel, by decide +kernel⟩
abbrev s_is_term : Stmt := top 23
abbrev N_is_term : List Str := ["value"]
abbrev P_is_term : List Str := ["value"]
theorem sc_is_term : FnScope N_is_term P_is_term (defScope s_is_term) := ⟨rfl, rfl, rfl, by decide +kernel, rfl, by decide +kernel, by decide +kernel⟩
abbrev s_is_part : Stmt := top 24
abbrev N_is_part : List Str := ["term"]
abbrev P_is_part : List Str := ["term"]
theorem sc_is_part : FnScope N_is_part P_is_part (defScope s_is_part) := ⟨rfl, rfl, rfl, by decide +kernel, rfl, by decide +kernel, by decide +kernel⟩
abbrev s_with_inside : Stmt := top 25
abbrev N_with_inside : List Str := ["term", "inner"]
abbrev P_with_inside : List Str := ["term", "inner"]
theorem sc_with_inside : FnScope N_with_inside P_with_inside (defScope s_with_inside) := ⟨rfl, rfl, rfl, by decide +kernel, rfl, by decide +kernel, by decide +kernel⟩
abbrev s_copied : Stmt := top 26
abbrev N_copied : List Str := ["term", "one"]
abbrev P_copied : List Str := ["term"]
theorem sc_copied : FnScope N_copied P_copied (defScope s_copied) := ⟨rfl, rfl, rfl, by decide +kernel, rfl, by decide +kernel, by decide +kernel⟩
abbrev s_check_rule : Stmt := top 27
abbrev N_check_rule : List Str := ["value"]
abbrev P_check_rule : List Str := ["value"]
theorem sc_check_rule : FnScope N_check_rule P_check_rule (defScope s_check_rule) := ⟨rfl, rfl, rfl, by decide +kernel, rfl, by decide +kernel, by decide +kernel⟩
abbrev s_names_by : Stmt := top 28
abbrev N_names_by : List Str := ["term", "word", "path", "part"]
abbrev P_names_by : List Str := ["term", "word"]
theorem sc_names_by : FnScope N_names_by P_names_by (defScope s_names_by) := ⟨rfl, rfl, rfl, by decide +kernel, rfl, by decide +kernel, by decide +kernel⟩
abbrev s_check_told_hours : Stmt := top 29
abbrev N_check_told_hours : List Str := ["rule", "hours", "now", "hangs"]
abbrev P_check_told_hours : List Str := ["rule", "hours", "now"]
theorem sc_check_told_hours : FnScope N_check_told_hours P_check_told_hours (defScope s_check_told_hours) := ⟨rfl, rfl, rfl, by decide +kernel, rfl, by decide +kernel, by decide +kernel⟩
abbrev s_hour_of_term : Stmt := top 30
abbrev N_hour_of_term : List Str := ["term", "hours", "now", "found", "one"]
abbrev P_hour_of_term : List Str := ["term", "hours", "now"]
theorem sc_hour_of_term : FnScope N_hour_of_term P_hour_of_term (defScope s_hour_of_term) := ⟨rfl, rfl, rfl, by decide +kernel, rfl, by decide +kernel, by decide +kernel⟩
abbrev s_told : Stmt := top 31
abbrev N_told : List Str := ["rule", "hours", "now"]
abbrev P_told : List Str := ["rule", "hours", "now"]
theorem sc_told : FnScope N_told P_told (defScope s_told) := ⟨rfl, rfl, rfl, by decide +kernel, rfl, by decide +kernel, by decide +kernel⟩
abbrev s_named : Stmt := top 32
abbrev N_named : List Str := ["rule"]
abbrev P_named : List Str := ["rule"]
theorem sc_named : FnScope N_named P_named (defScope s_named) := ⟨rfl, rfl, rfl, by decide +kernel, rfl, by decide +kernel, by decide +kernel⟩
abbrev s_parts_from : Stmt := top 33
abbrev N_parts_from : List Str := ["term", "path", "found", "at", "one"]
abbrev P_parts_from : List Str := ["term", "path"]
theorem sc_parts_from : FnScope N_parts_from P_parts_from (defScope s_parts_from) := ⟨rfl, rfl, rfl, by decide +kernel, rfl, by decide +kernel, by decide +kernel⟩
abbrev s_are_rules : Stmt := top 35
abbrev N_are_rules : List Str := ["value", "entry", "name", "rule"]
abbrev P_are_rules : List Str := ["value"]
theorem sc_are_rules : FnScope N_are_rules P_are_rules (defScope s_are_rules) := ⟨rfl, rfl, rfl, by decide +kernel, rfl, by decide +kernel, by decide +kernel⟩
abbrev s_hangs_of : Stmt := top 36
abbrev N_hangs_of : List Str := ["every", "found", "name", "other"]
abbrev P_hangs_of : List Str := ["every"]
theorem sc_hangs_of : FnScope N_hangs_of P_hangs_of (defScope s_hangs_of) := ⟨rfl, rfl, rfl, by decide +kernel, rfl, by decide +kernel, by decide +kernel⟩
abbrev s_ring_of : Stmt := top 37
abbrev N_ring_of : List Str := ["hangs", "ways", "turn", "way", "name", "other"]
abbrev P_ring_of : List Str := ["hangs"]
theorem sc_ring_of : FnScope N_ring_of P_ring_of (defScope s_ring_of) := ⟨rfl, rfl, rfl, by decide +kernel, rfl, by decide +kernel, by decide +kernel⟩
abbrev s_are_whole : Stmt := top 38
abbrev N_are_whole : List Str := ["every", "name", "leant", "hung", "other"]
abbrev P_are_whole : List Str := ["every"]
theorem sc_are_whole : FnScope N_are_whole P_are_whole (defScope s_are_whole) := ⟨rfl, rfl, rfl, by decide +kernel, rfl, by decide +kernel, by decide +kernel⟩
abbrev s_in_turn : Stmt := top 39
abbrev N_in_turn : List Str := ["every", "hangs", "found", "later", "name", "one"]
abbrev P_in_turn : List Str := ["every"]
theorem sc_in_turn : FnScope N_in_turn P_in_turn (defScope s_in_turn) := ⟨rfl, rfl, rfl, by decide +kernel, rfl, by decide +kernel, by decide +kernel⟩
abbrev s_check_book : Stmt := top 41
abbrev N_check_book : List Str := ["value"]
abbrev P_check_book : List Str := ["value"]
theorem sc_check_book : FnScope N_check_book P_check_book (defScope s_check_book) := ⟨rfl, rfl, rfl, by decide +kernel, rfl, by decide +kernel, by decide +kernel⟩
abbrev s_next_hours : Stmt := top 42
abbrev N_next_hours : List Str := ["book", "hours", "now", "name"]
abbrev P_next_hours : List Str := ["book", "hours"]
theorem sc_next_hours : FnScope N_next_hours P_next_hours (defScope s_next_hours) := ⟨rfl, rfl, rfl, by decide +kernel, rfl, by decide +kernel, by decide +kernel⟩
abbrev s__law_purse : Stmt := top 47
abbrev N__law_purse : List Str := ["script", "at", "seed"]
abbrev P__law_purse : List Str := ["script", "at"]
theorem sc__law_purse : FnScope N__law_purse P__law_purse (defScope s__law_purse) := ⟨rfl, rfl, rfl, by decide +kernel, rfl, by decide +kernel, by decide +kernel⟩
abbrev s__law_mixed : Stmt := top 48
abbrev N__law_mixed : List Str := ["seed", "turn", "at", "mixed"]
abbrev P__law_mixed : List Str := ["seed", "turn", "at"]
theorem sc__law_mixed : FnScope N__law_mixed P__law_mixed (defScope s__law_mixed) := ⟨rfl, rfl, rfl, by decide +kernel, rfl, by decide +kernel, by decide +kernel⟩
abbrev s__law_draw : Stmt := top 49
abbrev N__law_draw : List Str := ["purse", "many", "drawn", "found", "piece"]
abbrev P__law_draw : List Str := ["purse", "many"]
theorem sc__law_draw : FnScope N__law_draw P__law_draw (defScope s__law_draw) := ⟨rfl, rfl, rfl, by decide +kernel, rfl, by decide +kernel, by decide +kernel⟩
abbrev s__law_purses : Stmt := top 50
abbrev N__law_purses : List Str := ["script", "few", "at"]
abbrev P__law_purses : List Str := ["script", "few"]
theorem sc__law_purses : FnScope N__law_purses P__law_purses (defScope s__law_purses) := ⟨rfl, rfl, rfl, by decide +kernel, rfl, by decide +kernel, by decide +kernel⟩
abbrev s__law_one_of : Stmt := top 51
abbrev N__law_one_of : List Str := ["purse", "some"]
abbrev P__law_one_of : List Str := ["purse", "some"]
theorem sc__law_one_of : FnScope N__law_one_of P__law_one_of (defScope s__law_one_of) := ⟨rfl, rfl, rfl, by decide +kernel, rfl, by decide +kernel, by decide +kernel⟩
abbrev s__law_shuffled : Stmt := top 52
abbrev N__law_shuffled : List Str := ["purse", "some", "found", "item"]
abbrev P__law_shuffled : List Str := ["purse", "some"]
theorem sc__law_shuffled : FnScope N__law_shuffled P__law_shuffled (defScope s__law_shuffled) := ⟨rfl, rfl, rfl, by decide +kernel, rfl, by decide +kernel, by decide +kernel⟩
abbrev s__law_word : Stmt := top 53
abbrev N__law_word : List Str := ["purse", "found", "turn"]
abbrev P__law_word : List Str := ["purse"]
theorem sc__law_word : FnScope N__law_word P__law_word (defScope s__law_word) := ⟨rfl, rfl, rfl, by decide +kernel, rfl, by decide +kernel, by decide +kernel⟩
abbrev s__law_names : Stmt := top 54
abbrev N__law_names : List Str := ["purse", "many", "some", "fresh", "word"]
abbrev P__law_names : List Str := ["purse", "many"]
theorem sc__law_names : FnScope N__law_names P__law_names (defScope s__law_names) := ⟨rfl, rfl, rfl, by decide +kernel, rfl, by decide +kernel, by decide +kernel⟩
abbrev s__law_wait : Stmt := top 55
abbrev N__law_wait : List Str := ["purse", "some"]
abbrev P__law_wait : List Str := ["purse"]
theorem sc__law_wait : FnScope N__law_wait P__law_wait (defScope s__law_wait) := ⟨rfl, rfl, rfl, by decide +kernel, rfl, by decide +kernel, by decide +kernel⟩
abbrev s__law_small_wait : Stmt := top 56
abbrev N__law_small_wait : List Str := ["purse"]
abbrev P__law_small_wait : List Str := ["purse"]
theorem sc__law_small_wait : FnScope N__law_small_wait P__law_small_wait (defScope s__law_small_wait) := ⟨rfl, rfl, rfl, by decide +kernel, rfl, by decide +kernel, by decide +kernel⟩
abbrev s__law_part : Stmt := top 57
abbrev N__law_part : List Str := ["purse", "names", "hung", "is_small", "wait"]
abbrev P__law_part : List Str := ["purse", "names", "hung", "is_small"]
theorem sc__law_part : FnScope N__law_part P__law_part (defScope s__law_part) := ⟨rfl, rfl, rfl, by decide +kernel, rfl, by decide +kernel, by decide +kernel⟩
abbrev s__law_term : Stmt := top 58
abbrev N__law_term : List Str := ["purse", "names", "hung", "many", "is_small", "word", "way", "count", "sizes", "turn", "at", "inner", "size"]
abbrev P__law_term : List Str := ["purse", "names", "hung", "many", "is_small"]
theorem sc__law_term : FnScope N__law_term P__law_term (defScope s__law_term) := ⟨rfl, rfl, rfl, by decide +kernel, rfl, by decide +kernel, by decide +kernel⟩
abbrev s__law_many_parts : Stmt := top 59
abbrev N__law_many_parts : List Str := ["purse", "most"]
abbrev P__law_many_parts : List Str := ["purse", "most"]
theorem sc__law_many_parts : FnScope N__law_many_parts P__law_many_parts (defScope s__law_many_parts) := ⟨rfl, rfl, rfl, by decide +kernel, rfl, by decide +kernel, by decide +kernel⟩
abbrev s__law_book_rules : Stmt := top 60
abbrev N__law_book_rules : List Str := ["purse", "names", "most", "is_small", "found", "hung", "name", "some"]
abbrev P__law_book_rules : List Str := ["purse", "names", "most", "is_small"]
theorem sc__law_book_rules : FnScope N__law_book_rules P__law_book_rules (defScope s__law_book_rules) := ⟨rfl, rfl, rfl, by decide +kernel, rfl, by decide +kernel, by decide +kernel⟩
abbrev s__law_hours : Stmt := top 61
abbrev N__law_hours : List Str := ["purse", "names", "wide", "name"]
abbrev P__law_hours : List Str := ["purse", "names"]
theorem sc__law_hours : FnScope N__law_hours P__law_hours (defScope s__law_hours) := ⟨rfl, rfl, rfl, by decide +kernel, rfl, by decide +kernel, by decide +kernel⟩
abbrev s__law_told : Stmt := top 62
abbrev N__law_told : List Str := ["term", "hours", "now", "found", "one"]
abbrev P__law_told : List Str := ["term", "hours", "now"]
theorem sc__law_told : FnScope N__law_told P__law_told (defScope s__law_told) := ⟨rfl, rfl, rfl, by decide +kernel, rfl, by decide +kernel, by decide +kernel⟩
abbrev s__law_words_of : Stmt := top 63
abbrev N__law_words_of : List Str := ["term", "found", "one", "key"]
abbrev P__law_words_of : List Str := ["term"]
theorem sc__law_words_of : FnScope N__law_words_of P__law_words_of (defScope s__law_words_of) := ⟨rfl, rfl, rfl, by decide +kernel, rfl, by decide +kernel, by decide +kernel⟩
abbrev s__law_turn : Stmt := top 64
abbrev N__law_turn : List Str := ["book", "left", "found", "turn", "name", "term", "hung", "rule", "kind", "word"]
abbrev P__law_turn : List Str := ["book"]
theorem sc__law_turn : FnScope N__law_turn P__law_turn (defScope s__law_turn) := ⟨rfl, rfl, rfl, by decide +kernel, rfl, by decide +kernel, by decide +kernel⟩
abbrev s__law_behind : Stmt := top 65
abbrev N__law_behind : List Str := ["book", "hours", "now", "terms", "name", "rule"]
abbrev P__law_behind : List Str := ["book", "hours"]
theorem sc__law_behind : FnScope N__law_behind P__law_behind (defScope s__law_behind) := ⟨rfl, rfl, rfl, by decide +kernel, rfl, by decide +kernel, by decide +kernel⟩
abbrev s__law_hall_world : Stmt := top 66
abbrev N__law_hall_world : List Str := ["purse", "many", "is_small", "names"]
abbrev P__law_hall_world : List Str := ["purse", "many", "is_small"]
theorem sc__law_hall_world : FnScope N__law_hall_world P__law_hall_world (defScope s__law_hall_world) := ⟨rfl, rfl, rfl, by decide +kernel, rfl, by decide +kernel, by decide +kernel⟩
abbrev s__law_moved : Stmt := top 67
abbrev N__law_moved : List Str := ["hours", "some", "by", "name"]
abbrev P__law_moved : List Str := ["hours", "some", "by"]
theorem sc__law_moved : FnScope N__law_moved P__law_moved (defScope s__law_moved) := ⟨rfl, rfl, rfl, by decide +kernel, rfl, by decide +kernel, by decide +kernel⟩
abbrev s__law_rounds_right : Stmt := top 68
abbrev N__law_rounds_right : List Str := ["purse", "rules", "hours", "book", "one", "two", "hall", "other", "third", "told_v", "first", "walked", "turn", "by", "moved", "name"]
abbrev P__law_rounds_right : List Str := ["purse", "rules", "hours"]
theorem sc__law_rounds_right : FnScope N__law_rounds_right P__law_rounds_right (defScope s__law_rounds_right) := ⟨rfl, rfl, rfl, by decide +kernel, rfl, by decide +kernel, by decide +kernel⟩
abbrev s__law_one_late_right : Stmt := top 69
abbrev N__law_one_late_right : List Str := ["purse", "rules", "hours", "name", "by", "part", "hall", "other", "twice", "turn", "early", "late_ones", "same", "before", "hung", "one"]
abbrev P__law_one_late_right : List Str := ["purse", "rules", "hours"]
theorem sc__law_one_late_right : FnScope N__law_one_late_right P__law_one_late_right (defScope s__law_one_late_right) := ⟨rfl, rfl, rfl, by decide +kernel, rfl, by decide +kernel, by decide +kernel⟩
abbrev s_law : Stmt := top 70
abbrev N_law : List Str := ["script", "purse", "rules", "hours", "pair", "hall"]
abbrev P_law : List Str := ["script"]
theorem sc_law : FnScope N_law P_law (defScope s_law) := ⟨rfl, rfl, rfl, by decide +kernel, rfl, by decide +kernel, by decide +kernel⟩
abbrev s_Rule___init__ : Stmt := inClass (top 21) 0
abbrev N_Rule___init__ : List Str := ["self", "term"]
abbrev P_Rule___init__ : List Str := ["self", "term"]
theorem sc_Rule___init__ : FnScope N_Rule___init__ P_Rule___init__ (defScope s_Rule___init__) := ⟨rfl, rfl, rfl, by decide +kernel, rfl, by decide +kernel, by decide +kernel⟩
abbrev s_Rule_term : Stmt := inClass (top 21) 1
abbrev N_Rule_term : List Str := ["self"]
abbrev P_Rule_term : List Str := ["self"]
theorem sc_Rule_term : FnScope N_Rule_term P_Rule_term (defScope s_Rule_term) := ⟨rfl, rfl, rfl, by decide +kernel, rfl, by decide +kernel, by decide +kernel⟩
abbrev s_Rule___eq__ : Stmt := inClass (top 21) 2
abbrev N_Rule___eq__ : List Str := ["self", "other"]
abbrev P_Rule___eq__ : List Str := ["self", "other"]
theorem sc_Rule___eq__ : FnScope N_Rule___eq__ P_Rule___eq__ (defScope s_Rule___eq__) := ⟨rfl, rfl, rfl, by decide +kernel, rfl, by decide +kernel, by decide +kernel⟩
abbrev s_Book___init__ : Stmt := inClass (top 40) 0
abbrev N_Book___init__ : List Str := ["self", "rules", "every", "name", "rule"]
abbrev P_Book___init__ : List Str := ["self", "rules"]
theorem sc_Book___init__ : FnScope N_Book___init__ P_Book___init__ (defScope s_Book___init__) := ⟨rfl, rfl, rfl, by decide +kernel, rfl, by decide +kernel, by decide +kernel⟩
abbrev s_Book_names : Stmt := inClass (top 40) 1
abbrev N_Book_names : List Str := ["self"]
abbrev P_Book_names : List Str := ["self"]
theorem sc_Book_names : FnScope N_Book_names P_Book_names (defScope s_Book_names) := ⟨rfl, rfl, rfl, by decide +kernel, rfl, by decide +kernel, by decide +kernel⟩
abbrev s_State___init__ : Stmt := inClass (top 44) 0
abbrev N_State___init__ : List Str := ["self", "book", "hours", "rounds"]
abbrev P_State___init__ : List Str := ["self", "book", "hours", "rounds"]
theorem sc_State___init__ : FnScope N_State___init__ P_State___init__ (defScope s_State___init__) := ⟨rfl, rfl, rfl, by decide +kernel, rfl, by decide +kernel, by decide +kernel⟩
abbrev s_Hall___init__ : Stmt := inClass (top 45) 0
abbrev N_Hall___init__ : List Str := ["self", "book", "hours"]
abbrev P_Hall___init__ : List Str := ["self", "book", "hours"]
theorem sc_Hall___init__ : FnScope N_Hall___init__ P_Hall___init__ (defScope s_Hall___init__) := ⟨rfl, rfl, rfl, by decide +kernel, rfl, by decide +kernel, by decide +kernel⟩
abbrev s_Hall_hours : Stmt := inClass (top 45) 2
abbrev N_Hall_hours : List Str := ["self"]
abbrev P_Hall_hours : List Str := ["self"]
theorem sc_Hall_hours : FnScope N_Hall_hours P_Hall_hours (defScope s_Hall_hours) := ⟨rfl, rfl, rfl, by decide +kernel, rfl, by decide +kernel, by decide +kernel⟩
abbrev s_Hall_rounds : Stmt := inClass (top 45) 3
abbrev N_Hall_rounds : List Str := ["self"]
abbrev P_Hall_rounds : List Str := ["self"]
theorem sc_Hall_rounds : FnScope N_Hall_rounds P_Hall_rounds (defScope s_Hall_rounds) := ⟨rfl, rfl, rfl, by decide +kernel, rfl, by decide +kernel, by decide +kernel⟩
abbrev s_Hall_made : Stmt := inClass (top 45) 5
abbrev N_Hall_made : List Str := ["self", "entry", "book", "hours", "rounds"]
abbrev P_Hall_made : List Str := ["self", "entry", "book", "hours", "rounds"]
theorem sc_Hall_made : FnScope N_Hall_made P_Hall_made (defScope s_Hall_made) := ⟨rfl, rfl, rfl, by decide +kernel, rfl, by decide +kernel, by decide +kernel⟩
abbrev s_Hall_round : Stmt := inClass (top 45) 6
abbrev N_Hall_round : List Str := ["self", "many", "hours", "turn"]
abbrev P_Hall_round : List Str := ["self", "many"]
theorem sc_Hall_round : FnScope N_Hall_round P_Hall_round (defScope s_Hall_round) := ⟨rfl, rfl, rfl, by decide +kernel, rfl, by decide +kernel, by decide +kernel⟩
abbrev s_Hall_late : Stmt := inClass (top 45) 7
abbrev N_Hall_late : List Str := ["self", "name", "by", "hours"]
abbrev P_Hall_late : List Str := ["self", "name", "by"]
theorem sc_Hall_late : FnScope N_Hall_late P_Hall_late (defScope s_Hall_late) := ⟨rfl, rfl, rfl, by decide +kernel, rfl, by decide +kernel, by decide +kernel⟩
abbrev s_Hall_log : Stmt := inClass (top 45) 11
abbrev N_Hall_log : List Str := ["self", "entry", "state"]
abbrev P_Hall_log : List Str := ["self"]
theorem sc_Hall_log : FnScope N_Hall_log P_Hall_log (defScope s_Hall_log) := ⟨rfl, rfl, rfl, by decide +kernel, rfl, by decide +kernel, by decide +kernel⟩
structure Txt (K : PySem.W.Frag) (mg : Str → Option Value) : Prop where
  isinstance : mg "isinstance" = none
  len : mg "len" = none
  str : mg "str" = none
  int : mg "int" = none
  bool : mg "bool" = none
  list : mg "list" = none
  tuple : mg "tuple" = none
  dict : mg "dict" = none
  set : mg "set" = none
  range : mg "range" = none
  max : mg "max" = none
  min : mg "min" = none
  sum : mg "sum" = none
  sorted : mg "sorted" = none
  enumerate : mg "enumerate" = none
  v_LETTERS : ∃ t, mg "LETTERS" = some (.str "abcdefghijklmnopqrstuvwxyz" t)
  d_is_name : Df K mg "is_name" s_is_name P_is_name
  d_is_whole : Df K mg "is_whole" s_is_whole P_is_whole
  d_is_count : Df K mg "is_count" s_is_count P_is_count
  d_is_hours : Df K mg "is_hours" s_is_hours P_is_hours
  d_check_count : Dde K mg "check_count" s_check_count P_check_count [.int 0, V.non]
  d_check_hours : Df K mg "check_hours" s_check_hours P_check_hours
  d_check_just_hours : Df K mg "check_just_hours" s_check_just_hours P_check_just_hours
  d_check_known : Df K mg "check_known" s_check_known P_check_known
  d_are_terms : Df K mg "are_terms" s_are_terms P_are_terms
  d_is_term : Df K mg "is_term" s_is_term P_is_term
  d_is_part : Df K mg "is_part" s_is_part P_is_part
  d_with_inside : Df K mg "with_inside" s_with_inside P_with_inside
  d_copied : Df K mg "copied" s_copied P_copied
  d_check_rule : Df K mg "check_rule" s_check_rule P_check_rule
  d_names_by : Df K mg "names_by" s_names_by P_names_by
  d_check_told_hours : Df K mg "check_told_hours" s_check_told_hours P_check_told_hours
  d_hour_of_term : Df K mg "hour_of_term" s_hour_of_term P_hour_of_term
  d_told : Dde K mg "told" s_told P_told [V.non]
  d_named : Df K mg "named" s_named P_named
  d_parts_from : Df K mg "parts_from" s_parts_from P_parts_from
  d_are_rules : Df K mg "are_rules" s_are_rules P_are_rules
  d_hangs_of : Df K mg "hangs_of" s_hangs_of P_hangs_of
  d_ring_of : Df K mg "ring_of" s_ring_of P_ring_of
  d_are_whole : Df K mg "are_whole" s_are_whole P_are_whole
  d_in_turn : Df K mg "in_turn" s_in_turn P_in_turn
  d_check_book : Df K mg "check_book" s_check_book P_check_book
  d_next_hours : Df K mg "next_hours" s_next_hours P_next_hours
  d__law_purse : Df K mg "_law_purse" s__law_purse P__law_purse
  d__law_mixed : Df K mg "_law_mixed" s__law_mixed P__law_mixed
  d__law_draw : Df K mg "_law_draw" s__law_draw P__law_draw
  d__law_purses : Df K mg "_law_purses" s__law_purses P__law_purses
  d__law_one_of : Df K mg "_law_one_of" s__law_one_of P__law_one_of
  d__law_shuffled : Df K mg "_law_shuffled" s__law_shuffled P__law_shuffled
  d__law_word : Df K mg "_law_word" s__law_word P__law_word
  d__law_names : Df K mg "_law_names" s__law_names P__law_names
  d__law_wait : Df K mg "_law_wait" s__law_wait P__law_wait
  d__law_small_wait : Df K mg "_law_small_wait" s__law_small_wait P__law_small_wait
  d__law_part : Df K mg "_law_part" s__law_part P__law_part
  d__law_term : Df K mg "_law_term" s__law_term P__law_term
  d__law_many_parts : Df K mg "_law_many_parts" s__law_many_parts P__law_many_parts
  d__law_book_rules : Df K mg "_law_book_rules" s__law_book_rules P__law_book_rules
  d__law_hours : Df K mg "_law_hours" s__law_hours P__law_hours
  d__law_told : Df K mg "_law_told" s__law_told P__law_told
  d__law_words_of : Df K mg "_law_words_of" s__law_words_of P__law_words_of
  d__law_turn : Df K mg "_law_turn" s__law_turn P__law_turn
  d__law_behind : Df K mg "_law_behind" s__law_behind P__law_behind
  d__law_hall_world : Df K mg "_law_hall_world" s__law_hall_world P__law_hall_world
  d__law_moved : Df K mg "_law_moved" s__law_moved P__law_moved
  d__law_rounds_right : Df K mg "_law_rounds_right" s__law_rounds_right P__law_rounds_right
  d__law_one_late_right : Df K mg "_law_one_late_right" s__law_one_late_right P__law_one_late_right
  d_law : Df K mg "law" s_law P_law
  m_Book : mg "Book" = some (.ref (fa mg "Book"))
  c_Book : ClsI K (fa mg "Book")
  n_Book_every : NoAttr K (fa mg "Book") "every"
  k_Book : Mk K (fa mg "Book") (ma K (fa mg "Book") "__init__")
  m_Hall : mg "Hall" = some (.ref (fa mg "Hall"))
  c_Hall : ClsI K (fa mg "Hall")
  n_Hall_later : NoAttr K (fa mg "Hall") "later"
  n_Hall_past : NoAttr K (fa mg "Hall") "past"
  n_Hall_state : NoAttr K (fa mg "Hall") "state"
  k_Hall : Mk K (fa mg "Hall") (ma K (fa mg "Hall") "__init__")
  m_Rule : mg "Rule" = some (.ref (fa mg "Rule"))
  c_Rule : ClsI K (fa mg "Rule")
  n_Rule_form : NoAttr K (fa mg "Rule") "form"
  k_Rule : Mk K (fa mg "Rule") (ma K (fa mg "Rule") "__init__")
  m_State : mg "State" = some (.ref (fa mg "State"))
  c_State : ClsI K (fa mg "State")
  n_State_book_now : NoAttr K (fa mg "State") "book_now"
  n_State_hours_now : NoAttr K (fa mg "State") "hours_now"
  n_State_rounds_now : NoAttr K (fa mg "State") "rounds_now"
  k_State : Mk K (fa mg "State") (ma K (fa mg "State") "__init__")
  d_Rule___init__ : Mf K (fa mg "Rule") "__init__" "Rule.__init__" s_Rule___init__ P_Rule___init__
  d_Rule_term : Mf K (fa mg "Rule") "term" "Rule.term" s_Rule_term P_Rule_term
  d_Rule___eq__ : Mf K (fa mg "Rule") "__eq__" "Rule.__eq__" s_Rule___eq__ P_Rule___eq__
  d_Book___init__ : Mf K (fa mg "Book") "__init__" "Book.__init__" s_Book___init__ P_Book___init__
  d_Book_names : Mf K (fa mg "Book") "names" "Book.names" s_Book_names P_Book_names
  d_State___init__ : Mf K (fa mg "State") "__init__" "State.__init__" s_State___init__ P_State___init__
  d_Hall___init__ : Mf K (fa mg "Hall") "__init__" "Hall.__init__" s_Hall___init__ P_Hall___init__
  d_Hall_hours : Mf K (fa mg "Hall") "hours" "Hall.hours" s_Hall_hours P_Hall_hours
  d_Hall_rounds : Mf K (fa mg "Hall") "rounds" "Hall.rounds" s_Hall_rounds P_Hall_rounds
  d_Hall_made : Mf K (fa mg "Hall") "made" "Hall.made" s_Hall_made P_Hall_made
  d_Hall_round : Mde K (fa mg "Hall") "round" "Hall.round" s_Hall_round P_Hall_round [.int 1]
  d_Hall_late : Mf K (fa mg "Hall") "late" "Hall.late" s_Hall_late P_Hall_late
  d_Hall_log : Mf K (fa mg "Hall") "log" "Hall.log" s_Hall_log P_Hall_log
end K78

set_option Elab.async false
set_option linter.all false
set_option maxRecDepth 100000
set_option maxHeartbeats 1000000
namespace HL
open PySem L2 DL
/-! names -/
def abc : Str := "abcdefghijklmnopqrstuvwxyz"
def isLetter (c : Nat) : Bool := decide (c ∈ abc.cps.toList)
def letters (z : Str) : Prop := ∀ c ∈ z.cps.toList, isLetter c = true
def nmOk (z : Str) : Prop := letters z ∧ 1 ≤ z.length ∧ z.length ≤ 8
theorem subS_letter {c : Nat} (h : isLetter c = true) : subS ⟨#[c]⟩ "abcdefghijklmnopqrstuvwxyz" = true := by
  rw [subS_one]; exact h
theorem chars_get {z : Str} {i : Nat} {d : D} (h : (chars z)[i]? = some d) : ∃ c, c ∈ z.cps.toList ∧ d = .str ⟨#[c]⟩ := by
  unfold chars at h
  rw [List.getElem?_map] at h
  cases e : z.cps.toList[i]? with
  | none => rw [e] at h; cases h
  | some c => rw [e] at h; cases h; exact ⟨c, List.mem_of_getElem? e, rfl⟩
/-! ### terms as plain data -/
inductive Kd where
  | first | last | rank (k : Int)
inductive Tm where
  | pt (now : Bool) (n : Str) (w : Int)
  | nd (kd : Kd) (ts : List Tm)
def wordOf (now : Bool) : Str := if now then "now" else "of"
def ndD (kd : Kd) (xs : List D) : D := match kd with
  | .first => .tup [.str "first", .lst xs]
  | .last => .tup [.str "last", .lst xs]
  | .rank k => .tup [.str "rank", .int k, .lst xs]
mutual
def toD : Tm → D
  | .pt b n w => .tup [.str (wordOf b), .str n, .int w]
  | .nd kd ts => ndD kd (toDs ts)
def toDs : List Tm → List D
  | [] => []
  | t :: ts => toD t :: toDs ts
end
theorem toDs_map : ∀ ts : List Tm, toDs ts = ts.map toD
  | [] => by simp [toDs]
  | t :: ts => by simp [toDs, toDs_map ts]
def kdOk (kd : Kd) (n : Nat) : Prop := match kd with
  | .rank k => 1 ≤ k ∧ k ≤ (n : Int)
  | _ => True
mutual
def WF : Tm → Prop
  | .pt _ n _ => nmOk n
  | .nd kd ts => ts ≠ [] ∧ ts.length ≤ 50 ∧ kdOk kd ts.length ∧ WFs ts
def WFs : List Tm → Prop
  | [] => True
  | t :: ts => WF t ∧ WFs ts
end
theorem WFs_all : ∀ {ts : List Tm}, WFs ts → ∀ t ∈ ts, WF t
  | [], _, t, h => by simp at h
  | x :: ts, w, t, h => by
    simp only [WFs] at w
    rcases List.mem_cons.mp h with rfl | h
    · exact w.1
    · exact WFs_all w.2 t h
theorem WFs_of : ∀ {ts : List Tm}, (∀ t ∈ ts, WF t) → WFs ts
  | [], _ => by simp [WFs]
  | x :: ts, h => by
    simp only [WFs]
    exact ⟨h x (by simp), WFs_of fun t ht => h t (by simp [ht])⟩
/-- at most n deep -/
def hle : Nat → Tm → Prop
  | _, .pt _ _ _ => True
  | 0, .nd _ _ => False
  | n + 1, .nd _ ts => ∀ t ∈ ts, hle n t
theorem hle_mono : ∀ {n m : Nat} {t : Tm}, hle n t → n ≤ m → hle m t
  | n, m, .pt _ _ _, _, _ => by cases m <;> simp [hle]
  | 0, m, .nd _ _, h, _ => by simp [hle] at h
  | n + 1, 0, .nd _ ts, h, l => by omega
  | n + 1, m + 1, .nd _ ts, h, l => by
    simp only [hle] at h ⊢
    exact fun t ht => hle_mono (h t ht) (by omega)
def isPt : Tm → Bool
  | .pt _ _ _ => true
  | .nd _ _ => false
theorem toD_tup : ∀ t : Tm, ∃ xs, toD t = .tup xs
  | .pt b n w => ⟨[.str (wordOf b), .str n, .int w], by simp only [toD]⟩
  | .nd kd ts => by
    simp only [toD]
    cases kd with
    | first => exact ⟨_, rfl⟩
    | last => exact ⟨_, rfl⟩
    | rank k => exact ⟨_, rfl⟩
theorem eq_tm (neg : Bool) (t u : Tm) (C : Cells) (P : DK) (h1 : okD (toD t)) (h2 : okD (toD u)) (h : P (.bl (if neg then !eqD (toD t) (toD u) else eqD (toD t) (toD u))) C) : dEqN neg (toD t) (toD u) C P := by
  obtain ⟨xs, ex⟩ := toD_tup t
  obtain ⟨ys, ey⟩ := toD_tup u
  rw [ex] at h1 h ⊢
  rw [ey] at h2 h ⊢
  exact ⟨h1, h2, h⟩
/-! words -/
theorem in2_w (b : Bool) : inD (.str (wordOf b)) [.str "of", .str "now"] = true := by cases b <;> decide +kernel
theorem in2_f : inD (.str "first") [.str "of", .str "now"] = false := by decide +kernel
theorem in2_l : inD (.str "last") [.str "of", .str "now"] = false := by decide +kernel
theorem in2_r : inD (.str "rank") [.str "of", .str "now"] = false := by decide +kernel
theorem in3_f : inD (.str "first") [.str "first", .str "last"] = true := by decide +kernel
theorem in3_l : inD (.str "last") [.str "first", .str "last"] = true := by decide +kernel
theorem in3_r : inD (.str "rank") [.str "first", .str "last"] = false := by decide +kernel
theorem fl2 : [D.str "of", D.str "now"].all flatD = true := rfl
theorem fl3 : [D.str "first", D.str "last"].all flatD = true := rfl
theorem fls (x : Str) : flatD (.str x) = true := rfl
theorem w_now : (wordOf true) = ("now" : Str) := rfl
theorem w_of : (wordOf false) = ("of" : Str) := rfl
/-! terms may be compared, shown -/
theorem letter_lt {c : Nat} (h : isLetter c = true) : c < 128 := by
  unfold isLetter at h
  have h := of_decide_eq_true h
  have e : abc.cps.toList = [97, 98, 99, 100, 101, 102, 103, 104, 105, 106, 107, 108, 109, 110, 111, 112, 113, 114, 115, 116, 117, 118, 119, 120, 121, 122] := by decide +kernel
  rw [e] at h
  simp only [List.mem_cons, List.not_mem_nil, or_false] at h
  omega
theorem strOk_of {z : Str} (h : ∀ c ∈ z.cps.toList, c < 128) : PyData.strOk z = true := by
  unfold PyData.strOk
  rw [← Array.all_toList, List.all_eq_true]
  exact fun c hc => decide_eq_true (by have := h c hc; omega)
theorem strOk_w (b : Bool) : PyData.strOk (wordOf b) = true := by cases b <;> decide +kernel
theorem toPys_map : ∀ xs : List D, toPys xs = xs.map toPy
  | [] => by simp [toPys]
  | x :: xs => by simp [toPys, toPys_map xs]
theorem isPys_all : ∀ xs : List D, (∀ x ∈ xs, isPy x = true) → isPys xs = true
  | [], _ => by simp [isPys]
  | x :: xs, h => by
    simp only [isPys, Bool.and_eq_true]
    exact ⟨h x (by simp), isPys_all xs fun y hy => h y (by simp [hy])⟩
theorem canLayAll_all : ∀ xs : List PyData, (∀ x ∈ xs, x.canLay0 = true) → PyData.canLayAll0 xs = true
  | [], _ => by simp [PyData.canLayAll0]
  | x :: xs, h => by
    simp only [PyData.canLayAll0, Bool.and_eq_true]
    exact ⟨h x (by simp), canLayAll_all xs fun y hy => h y (by simp [hy])⟩
theorem depthAll_le {m : Nat} : ∀ xs : List PyData, (∀ x ∈ xs, x.depth ≤ m) → PyData.depthAll xs ≤ m
  | [], _ => by simp [PyData.depthAll]
  | x :: xs, h => by
    simp only [PyData.depthAll]
    have h1 := h x (by simp)
    have h2 := depthAll_le xs fun y hy => h y (by simp [hy])
    omega
/-- what is asked of data for == -/
structure Nice (d : D) (m : Nat) : Prop where
  py : isPy d = true
  lay : (toPy d).canLay0 = true
  dep : (toPy d).depth ≤ m
theorem Nice.ok {d : D} {m : Nat} (h : Nice d m) (hm : m ≤ 64) : okD d := ⟨h.py, by
  unfold SeqAt.shaped
  rw [h.lay, Bool.true_and]
  exact decide_eq_true (Nat.le_trans h.dep hm)⟩
theorem Nice.lst {ds : List D} {m : Nat} (h : ∀ d ∈ ds, Nice d m) : Nice (.lst ds) (m + 1) := by
  refine ⟨by simp only [isPy]; exact isPys_all _ fun x hx => (h x hx).py, ?_, ?_⟩
  · simp only [toPy, PyData.canLay0, toPys_map]
    refine canLayAll_all _ fun x hx => ?_
    obtain ⟨y, hy, rfl⟩ := List.mem_map.mp hx
    exact (h y hy).lay
  · simp only [toPy, PyData.depth, toPys_map]
    refine Nat.succ_le_succ (depthAll_le _ fun x hx => ?_)
    obtain ⟨y, hy, rfl⟩ := List.mem_map.mp hx
    exact (h y hy).dep
theorem Nice.tup {ds : List D} {m : Nat} (h : ∀ d ∈ ds, Nice d m) : Nice (.tup ds) (m + 1) := by
  refine ⟨by simp only [isPy]; exact isPys_all _ fun x hx => (h x hx).py, ?_, ?_⟩
  · simp only [toPy, PyData.canLay0, toPys_map]
    refine canLayAll_all _ fun x hx => ?_
    obtain ⟨y, hy, rfl⟩ := List.mem_map.mp hx
    exact (h y hy).lay
  · simp only [toPy, PyData.depth, toPys_map]
    refine Nat.succ_le_succ (depthAll_le _ fun x hx => ?_)
    obtain ⟨y, hy, rfl⟩ := List.mem_map.mp hx
    exact (h y hy).dep
theorem Nice.mono {d : D} {m k : Nat} (h : Nice d m) (l : m ≤ k) : Nice d k := ⟨h.py, h.lay, Nat.le_trans h.dep l⟩
theorem nice_str {z : Str} {m : Nat} (h : PyData.strOk z = true) : Nice (.str z) m := ⟨rfl, by simpa [toPy, PyData.canLay0] using h, by simp [toPy, PyData.depth]⟩
theorem nice_int {z : Int} {m : Nat} : Nice (.int z) m := ⟨rfl, by simp [toPy, PyData.canLay0], by simp [toPy, PyData.depth]⟩
theorem nice_tm : ∀ (n : Nat) (t : Tm), WF t → hle n t → Nice (toD t) (2 * n + 1)
  | n, .pt b nm wt, w, _ => by
    simp only [WF] at w
    simp only [toD]
    refine Nice.tup (m := 2 * n) fun d hd => ?_
    simp only [List.mem_cons, List.not_mem_nil, or_false] at hd
    rcases hd with rfl | rfl | rfl
    · exact nice_str (strOk_w b)
    · exact nice_str (strOk_of fun c hc => letter_lt (w.1 c hc))
    · exact nice_int
  | 0, .nd kd ts, w, h => by simp [hle] at h
  | n + 1, .nd kd ts, w, h => by
    simp only [WF] at w
    simp only [hle] at h
    simp only [toD, toDs_map]
    have hl : Nice (.lst (ts.map toD)) (2 * n + 2) := Nice.lst fun d hd => by
      obtain ⟨t, ht, rfl⟩ := List.mem_map.mp hd
      exact nice_tm n t (WFs_all w.2.2.2 t ht) (h t ht)
    have e : 2 * (n + 1) + 1 = (2 * n + 2) + 1 := by omega
    rw [e]
    cases kd with
    | first =>
      refine Nice.tup fun d hd => ?_
      simp only [List.mem_cons, List.not_mem_nil, or_false] at hd
      rcases hd with rfl | rfl
      · exact nice_str (by decide +kernel)
      · exact hl
    | last =>
      refine Nice.tup fun d hd => ?_
      simp only [List.mem_cons, List.not_mem_nil, or_false] at hd
      rcases hd with rfl | rfl
      · exact nice_str (by decide +kernel)
      · exact hl
    | rank k =>
      refine Nice.tup fun d hd => ?_
      simp only [List.mem_cons, List.not_mem_nil, or_false] at hd
      rcases hd with rfl | rfl | rfl
      · exact nice_str (by decide +kernel)
      · exact nice_int
      · exact hl
theorem ok_tms {n : Nat} {ts : List Tm} (hn : n ≤ 20) (h : ∀ t ∈ ts, WF t ∧ hle n t) : okD (.lst (ts.map toD)) := by
  refine (Nice.lst (m := 2 * n + 1) fun d hd => ?_).ok (by omega)
  obtain ⟨t, ht, rfl⟩ := List.mem_map.mp hd
  exact nice_tm n t (h t ht).1 (h t ht).2
end HL

set_option Elab.async false
set_option linter.all false
set_option maxRecDepth 100000
set_option maxHeartbeats 1000000
namespace HL
open PySem L2 DL
/-! ### sorting -/
def ins (x : Int) : List Int → List Int
  | [] => [x]
  | a :: r => if x ≤ a then x :: a :: r else a :: ins x r
def isort : List Int → List Int
  | [] => []
  | x :: r => ins x (isort r)
theorem ins_perm (x : Int) : ∀ l, (ins x l).Perm (x :: l)
  | [] => List.Perm.refl _
  | a :: r => by
    unfold ins
    split
    · exact List.Perm.refl _
    · exact ((ins_perm x r).cons a).trans (List.Perm.swap ..)
theorem isort_perm : ∀ l, (isort l).Perm l
  | [] => List.Perm.refl _
  | x :: r => (ins_perm x _).trans ((isort_perm r).cons x)
theorem ins_sorted {x : Int} : ∀ {l : List Int}, l.Pairwise (· ≤ ·) → (ins x l).Pairwise (· ≤ ·)
  | [], _ => by simp [ins]
  | a :: r, h => by
    obtain ⟨h1, h2⟩ := List.pairwise_cons.mp h
    unfold ins
    split
    · rename_i hx
      refine List.pairwise_cons.mpr ⟨fun y hy => ?_, h⟩
      rcases List.mem_cons.mp hy with rfl | hy
      · exact hx
      · have := h1 y hy; omega
    · rename_i hx
      refine List.pairwise_cons.mpr ⟨fun y hy => ?_, ins_sorted h2⟩
      rcases List.mem_cons.mp ((ins_perm x r).mem_iff.mp hy) with rfl | hy
      · omega
      · exact h1 y hy
theorem isort_sorted : ∀ l, (isort l).Pairwise (· ≤ ·)
  | [] => List.Pairwise.nil
  | x :: r => ins_sorted (isort_sorted r)
theorem isort_eq {l l' : List Int} (p : l'.Perm l) (s : l'.Pairwise (· ≤ ·)) : l' = isort l :=
  List.Perm.eq_of_pairwise (fun a b _ _ h1 h2 => Int.le_antisymm h1 h2) s (isort_sorted l) (p.trans (isort_perm l).symm)
theorem isort_len (l : List Int) : (isort l).length = l.length := (isort_perm l).length_eq
/-- item by item not greater -/
inductive LeL : List Int → List Int → Prop
  | nil : LeL [] []
  | cons {a b : Int} {r s : List Int} : a ≤ b → LeL r s → LeL (a :: r) (b :: s)
theorem ins_id {a : Int} {r : List Int} (h : (a :: r).Pairwise (· ≤ ·)) : ins a r = a :: r := by
  obtain ⟨h1, _⟩ := List.pairwise_cons.mp h
  cases r with
  | nil => rfl
  | cons b s =>
    unfold ins
    rw [if_pos (h1 b (by simp))]
theorem ins_le : ∀ {r s : List Int} {x y : Int}, LeL r s → x ≤ y → r.Pairwise (· ≤ ·) → s.Pairwise (· ≤ ·) → LeL (ins x r) (ins y s)
  | _, _, x, y, .nil, h, _, _ => .cons h .nil
  | _, _, x, y, .cons (a := a) (b := b) (r := r) (s := s) hab hrs, h, h1, h2 => by
    have p1 := List.pairwise_cons.mp h1
    have p2 := List.pairwise_cons.mp h2
    unfold ins
    split
    · split
      · exact .cons h (.cons hab hrs)
      · rename_i q1 q2
        refine .cons (by omega) ?_
        have := ins_le (x := a) (y := y) hrs (by omega) p1.2 p2.2
        rwa [ins_id h1] at this
    · split
      · rename_i q1 q2
        refine .cons (by omega) ?_
        have := ins_le (x := x) (y := b) hrs (by omega) p1.2 p2.2
        rwa [ins_id h2] at this
      · exact .cons hab (ins_le hrs h p1.2 p2.2)
theorem isort_le : ∀ {r s : List Int}, LeL r s → LeL (isort r) (isort s)
  | _, _, .nil => .nil
  | _, _, .cons h t => ins_le (isort_le t) h (isort_sorted _) (isort_sorted _)
theorem LeL.get : ∀ {r s : List Int}, LeL r s → ∀ i, r.getD i 0 ≤ s.getD i 0
  | _, _, .nil, i => by simp
  | _, _, .cons h t, 0 => by simpa using h
  | _, _, .cons h t, i + 1 => by simpa using LeL.get t i
theorem LeL.len : ∀ {r s : List Int}, LeL r s → r.length = s.length
  | _, _, .nil => rfl
  | _, _, .cons h t => by simp [LeL.len t]
theorem ins_add (c x : Int) : ∀ l, ins (x + c) (l.map (· + c)) = (ins x l).map (· + c)
  | [] => rfl
  | a :: r => by
    simp only [List.map_cons, ins]
    by_cases h : x ≤ a
    · rw [if_pos h, if_pos (by omega)]; rfl
    · rw [if_neg h, if_neg (by omega), List.map_cons, ins_add c x r]
theorem isort_add (c : Int) : ∀ l, isort (l.map (· + c)) = (isort l).map (· + c)
  | [] => rfl
  | x :: r => by simp only [List.map_cons, isort, isort_add c r, ins_add]
/-! ### what a term tells -/
def pickN (kd : Kd) (n : Nat) : Nat := match kd with
  | .first => 0
  | .last => n - 1
  | .rank k => (k - 1).toNat
mutual
def ev : Tm → (Str → Int) → (Str → Int) → Int
  | .pt b n w, h, v => (if b then v n else h n) + w
  | .nd kd ts, h, v => (isort (evs ts h v)).getD (pickN kd ts.length) 0
def evs : List Tm → (Str → Int) → (Str → Int) → List Int
  | [], _, _ => []
  | t :: ts, h, v => ev t h v :: evs ts h v
end
theorem evs_map (h v : Str → Int) : ∀ ts, evs ts h v = ts.map fun t => ev t h v
  | [] => by simp [evs]
  | t :: ts => by simp [evs, evs_map h v ts]
mutual
/-- the parts, from the left -/
def leaves : Tm → List (Bool × Str × Int)
  | .pt b n w => [(b, n, w)]
  | .nd _ ts => leavess ts
def leavess : List Tm → List (Bool × Str × Int)
  | [] => []
  | t :: ts => leaves t ++ leavess ts
end
theorem leavess_mem {x : Bool × Str × Int} : ∀ {ts : List Tm}, x ∈ leavess ts ↔ ∃ t ∈ ts, x ∈ leaves t
  | [] => by simp [leavess]
  | t :: ts => by simp [leavess, leavess_mem (ts := ts)]
/-- the names told with a word -/
def nms (b : Bool) (t : Tm) : List Str := ((leaves t).filter fun q => q.1 == b).map fun q => q.2.1
theorem nms_mem {b : Bool} {t : Tm} {n : Str} : n ∈ nms b t ↔ ∃ w, (b, n, w) ∈ leaves t := by
  unfold nms
  simp only [List.mem_map, List.mem_filter]
  constructor
  · rintro ⟨⟨c, m, w⟩, ⟨h1, h2⟩, rfl⟩
    have : c = b := by simpa using h2
    subst this
    exact ⟨w, h1⟩
  · rintro ⟨w, h⟩
    exact ⟨(b, n, w), ⟨h, by simp⟩, rfl⟩
theorem nms_pt {b : Bool} {n : Str} {w : Int} : nms b (.pt b n w) = [n] := by simp [nms, leaves]
theorem nms_nd {b : Bool} {kd : Kd} {ts : List Tm} {n : Str} : n ∈ nms b (.nd kd ts) ↔ ∃ t ∈ ts, n ∈ nms b t := by
  simp only [nms_mem, leaves, leavess_mem]
  constructor
  · rintro ⟨w, t, ht, h⟩; exact ⟨t, ht, w, h⟩
  · rintro ⟨t, ht, w, h⟩; exact ⟨w, t, ht, h⟩
/-- only the hours of the named count -/
theorem ev_congr : ∀ (n : Nat) (t : Tm), hle n t → ∀ {h h' v v' : Str → Int}, (∀ x ∈ nms false t, h x = h' x) → (∀ x ∈ nms true t, v x = v' x) → ev t h v = ev t h' v'
  | n, .pt b m w, _, h, h', v, v', e1, e2 => by
    cases b with
    | true => simp only [ev, if_true]; rw [e2 m (by simp [nms_pt])]
    | false => simp only [ev, Bool.false_eq_true, if_false]; rw [e1 m (by simp [nms_pt])]
  | 0, .nd _ _, hh, _, _, _, _, _, _ => by simp [hle] at hh
  | n + 1, .nd kd ts, hh, h, h', v, v', e1, e2 => by
    simp only [hle] at hh
    simp only [ev, evs_map]
    rw [List.map_congr_left fun t ht => ev_congr n t (hh t ht) (fun x hx => e1 x (nms_nd.mpr ⟨t, ht, hx⟩)) (fun x hx => e2 x (nms_nd.mpr ⟨t, ht, hx⟩))]
theorem leL_map {α : Type} {f g : α → Int} : ∀ {l : List α}, (∀ x ∈ l, f x ≤ g x) → LeL (l.map f) (l.map g)
  | [], _ => .nil
  | x :: r, h => .cons (h x (by simp)) (leL_map fun y hy => h y (by simp [hy]))
/-- later hours, later told -/
theorem ev_mono : ∀ (n : Nat) (t : Tm), hle n t → ∀ {h h' v v' : Str → Int}, (∀ x ∈ nms false t, h x ≤ h' x) → (∀ x ∈ nms true t, v x ≤ v' x) → ev t h v ≤ ev t h' v'
  | n, .pt b m w, _, h, h', v, v', e1, e2 => by
    cases b with
    | true =>
      have := e2 m (by simp [nms_pt])
      simp only [ev, if_true]; omega
    | false =>
      have := e1 m (by simp [nms_pt])
      simp only [ev, Bool.false_eq_true, if_false]; omega
  | 0, .nd _ _, hh, _, _, _, _, _, _ => by simp [hle] at hh
  | n + 1, .nd kd ts, hh, h, h', v, v', e1, e2 => by
    simp only [hle] at hh
    simp only [ev, evs_map]
    exact (isort_le (leL_map fun t ht => ev_mono n t (hh t ht) (fun x hx => e1 x (nms_nd.mpr ⟨t, ht, hx⟩)) (fun x hx => e2 x (nms_nd.mpr ⟨t, ht, hx⟩)))).get _
theorem pick_lt {kd : Kd} {n : Nat} (h1 : 1 ≤ n) (hk : kdOk kd n) : pickN kd n < n := by
  cases kd with
  | first => exact h1
  | last => show n - 1 < n; omega
  | rank k =>
    simp only [kdOk] at hk
    show (k - 1).toNat < n
    omega
theorem getD_map_add (c : Int) : ∀ (l : List Int) (i : Nat), i < l.length → (l.map (· + c)).getD i 0 = l.getD i 0 + c
  | [], i, h => by simp at h
  | x :: r, 0, _ => by simp
  | x :: r, i + 1, h => by simpa using getD_map_add c r i (by simpa using h)
/-- all later by c: told later by c -/
theorem ev_add (c : Int) : ∀ (n : Nat) (t : Tm), hle n t → WF t → ∀ {h v : Str → Int}, ev t (fun x => h x + c) (fun x => v x + c) = ev t h v + c
  | n, .pt b m w, _, _, h, v => by
    cases b with
    | true => simp only [ev, if_true]; omega
    | false => simp only [ev, Bool.false_eq_true, if_false]; omega
  | 0, .nd _ _, hh, _, _, _ => by simp [hle] at hh
  | n + 1, .nd kd ts, hh, hw, h, v => by
    simp only [hle] at hh
    simp only [WF] at hw
    simp only [ev, evs_map]
    have e : (ts.map fun t => ev t (fun x => h x + c) (fun x => v x + c)) = (ts.map fun t => ev t h v).map (· + c) := by
      rw [List.map_map]
      exact List.map_congr_left fun t ht => ev_add c n t (hh t ht) (WFs_all hw.2.2.2 t ht)
    rw [e, isort_add]
    refine getD_map_add c _ _ ?_
    rw [isort_len, List.length_map]
    exact pick_lt (by cases ts with | nil => exact absurd rfl hw.1 | cons _ _ => simp) hw.2.2.1
/-! ### the parts with their ways -/
abbrev Part := List D × Bool × Str × Int
mutual
def partsP : Tm → List D → List Part
  | .pt b n w, p => [(p, b, n, w)]
  | .nd _ ts, p => partsPs ts 0 p
def partsPs : List Tm → Nat → List D → List Part
  | [], _, _ => []
  | t :: ts, i, p => partsP t (p ++ [.int (i : Int)]) ++ partsPs ts (i + 1) p
end
def partD (q : Part) : D := .tup [.tup q.1, .tup [.str (wordOf q.2.1), .str q.2.2.1, .int q.2.2.2]]
theorem partsPs_app : ∀ (xs ys : List Tm) (i : Nat) (p : List D), partsPs (xs ++ ys) i p = partsPs xs i p ++ partsPs ys (i + xs.length) p
  | [], ys, i, p => by simp [partsPs]
  | x :: xs, ys, i, p => by
    simp only [List.cons_append, partsPs, partsPs_app xs ys (i + 1) p, List.append_assoc, List.length_cons]
    rw [show i + 1 + xs.length = i + (xs.length + 1) by omega]
mutual
theorem partsP_leaves : ∀ (t : Tm) (p : List D), (partsP t p).map (·.2) = leaves t
  | .pt b n w, p => by simp [partsP, leaves]
  | .nd kd ts, p => by simp only [partsP, leaves]; exact partsPs_leaves ts 0 p
theorem partsPs_leaves : ∀ (ts : List Tm) (i : Nat) (p : List D), (partsPs ts i p).map (·.2) = leavess ts
  | [], i, p => by simp [partsPs, leavess]
  | t :: ts, i, p => by simp only [partsPs, leavess, List.map_append, partsP_leaves t, partsPs_leaves ts]
end
theorem partsP_len (t : Tm) (p : List D) : (partsP t p).length = (leaves t).length := by
  rw [← partsP_leaves t p, List.length_map]
theorem nms_parts (b : Bool) (t : Tm) (p : List D) : ((partsP t p).filter fun q => q.2.1 == b).map (fun q => q.2.2.1) = nms b t := by
  unfold nms
  rw [← partsP_leaves t p, List.filter_map, List.map_map]
  rfl
theorem nms_len (b : Bool) (t : Tm) : (nms b t).length ≤ (leaves t).length := by
  unfold nms
  rw [List.length_map]
  exact List.length_filter_le _ _
theorem leavess_le {t : Tm} : ∀ {ts : List Tm}, t ∈ ts → (leaves t).length ≤ (leavess ts).length
  | [], h => by simp at h
  | x :: r, h => by
    simp only [leavess, List.length_append]
    rcases List.mem_cons.mp h with rfl | h
    · omega
    · have := leavess_le h; omega
/-! ### books -/
abbrev Bk := List (Str × Tm)
def Bk.names (bk : Bk) : List Str := bk.map (·.1)
def Bk.tm : Bk → Str → Option Tm
  | [], _ => none
  | (m, t) :: r, n => if m = n then some t else Bk.tm r n
theorem Bk.tm_mem : ∀ {bk : Bk} {n : Str} {t : Tm}, bk.tm n = some t → (n, t) ∈ bk
  | [], n, t, h => by simp [Bk.tm] at h
  | (m, u) :: r, n, t, h => by
    unfold Bk.tm at h
    split at h
    · rename_i e; cases h; subst e; simp
    · exact List.mem_cons_of_mem _ (Bk.tm_mem h)
theorem Bk.mem_tm : ∀ {bk : Bk} {n : Str} {t : Tm}, bk.names.Nodup → (n, t) ∈ bk → bk.tm n = some t
  | [], n, t, _, h => by simp at h
  | (m, u) :: r, n, t, nd, h => by
    unfold Bk.names at nd
    rw [List.map_cons, List.nodup_cons] at nd
    unfold Bk.tm
    rcases List.mem_cons.mp h with e | h
    · cases e; rw [if_pos rfl]
    · rw [if_neg (fun e => nd.1 (by rw [show m = n from e]; exact List.mem_map.mpr ⟨_, h, rfl⟩))]
      exact Bk.mem_tm nd.2 h
theorem Bk.has {bk : Bk} {n : Str} (h : n ∈ bk.names) : ∃ t, (n, t) ∈ bk := by
  obtain ⟨⟨m, t⟩, h1, rfl⟩ := List.mem_map.mp h
  exact ⟨t, h1⟩
theorem Bk.mem {bk : Bk} {n : Str} {t : Tm} (h : (n, t) ∈ bk) : n ∈ bk.names := List.mem_map.mpr ⟨_, h, rfl⟩
structure BkOk (bk : Bk) (rk : Str → Nat) : Prop where
  nd : bk.names.Nodup
  ne : 1 ≤ bk.length
  le : bk.length ≤ 6
  tm : ∀ p ∈ bk, nmOk p.1 ∧ WF p.2 ∧ hle 3 p.2
  inn : ∀ p ∈ bk, ∀ b, ∀ n ∈ nms b p.2, n ∈ bk.names
  dn : ∀ p ∈ bk, ∀ n ∈ nms true p.2, rk n < rk p.1
  top : ∀ p ∈ bk, rk p.1 < 16
  lv : ∀ p ∈ bk, (leaves p.2).length < 64
/-- this round's hours, by so many steps -/
def vf (bk : Bk) (h : Str → Int) : Nat → Str → Int
  | 0, _ => 0
  | k + 1, n => match bk.tm n with
    | some t => ev t h (vf bk h k)
    | none => 0
def nx (bk : Bk) (h : Str → Int) : Str → Int := vf bk h 17
theorem vf_stable {bk : Bk} {rk : Str → Nat} (ok : BkOk bk rk) (h : Str → Int) : ∀ (k k' : Nat) (n : Str), n ∈ bk.names → rk n < k → rk n < k' → vf bk h k n = vf bk h k' n
  | 0, _, n, _, h1, _ => by omega
  | _, 0, n, _, _, h2 => by omega
  | k + 1, k' + 1, n, hn, h1, h2 => by
    obtain ⟨t, ht⟩ := Bk.has hn
    simp only [vf, Bk.mem_tm ok.nd ht]
    refine ev_congr 3 t (ok.tm _ ht).2.2 (fun _ _ => rfl) fun x hx => ?_
    have r := ok.dn _ ht x hx
    exact vf_stable ok h k k' x (ok.inn _ ht true x hx) (by simp only at r; omega) (by simp only at r; omega)
theorem nx_eq {bk : Bk} {rk : Str → Nat} (ok : BkOk bk rk) (h : Str → Int) {n : Str} {t : Tm} (ht : (n, t) ∈ bk) : nx bk h n = ev t h (nx bk h) := by
  have r0 := ok.top _ ht
  show vf bk h (16 + 1) n = _
  simp only [vf, Bk.mem_tm ok.nd ht]
  refine ev_congr 3 t (ok.tm _ ht).2.2 (fun _ _ => rfl) fun x hx => ?_
  have r := ok.dn _ ht x hx
  simp only at r r0
  exact vf_stable ok h 16 17 x (ok.inn _ ht true x hx) (by omega) (by omega)
/-- whoever goes by the rules goes so -/
theorem nx_uniq {bk : Bk} {rk : Str → Nat} (ok : BkOk bk rk) {h v : Str → Int} (hv : ∀ p ∈ bk, v p.1 = ev p.2 h v) : ∀ (k : Nat) (n : Str), n ∈ bk.names → rk n < k → v n = nx bk h n
  | 0, n, _, h1 => by omega
  | k + 1, n, hn, h1 => by
    obtain ⟨t, ht⟩ := Bk.has hn
    rw [nx_eq ok h ht, hv _ ht]
    refine ev_congr 3 t (ok.tm _ ht).2.2 (fun _ _ => rfl) fun x hx => ?_
    have r := ok.dn _ ht x hx
    exact nx_uniq ok hv k x (ok.inn _ ht true x hx) (by simp only at r; omega)
theorem nx_congr {bk : Bk} {rk : Str → Nat} (ok : BkOk bk rk) {h h' : Str → Int} (e : ∀ n ∈ bk.names, h n = h' n) : ∀ n ∈ bk.names, nx bk h n = nx bk h' n := fun n hn => by
  obtain ⟨t0, ht0⟩ := Bk.has hn
  refine nx_uniq ok (v := nx bk h) (fun p hp => ?_) 16 n hn (ok.top _ ht0)
  rw [nx_eq ok h (t := p.2) hp]
  exact ev_congr 3 _ (ok.tm _ hp).2.2 (fun x hx => e x (ok.inn _ hp false x hx)) fun _ _ => rfl
theorem nx_mono' {bk : Bk} {rk : Str → Nat} (ok : BkOk bk rk) {h h' : Str → Int} (e : ∀ n ∈ bk.names, h n ≤ h' n) : ∀ (k : Nat) (n : Str), n ∈ bk.names → rk n < k → nx bk h n ≤ nx bk h' n
  | 0, n, _, h1 => by omega
  | k + 1, n, hn, h1 => by
    obtain ⟨t, ht⟩ := Bk.has hn
    rw [nx_eq ok h ht, nx_eq ok h' ht]
    refine ev_mono 3 t (ok.tm _ ht).2.2 (fun x hx => e x (ok.inn _ ht false x hx)) fun x hx => ?_
    have r := ok.dn _ ht x hx
    exact nx_mono' ok e k x (ok.inn _ ht true x hx) (by simp only at r; omega)
theorem nx_mono {bk : Bk} {rk : Str → Nat} (ok : BkOk bk rk) {h h' : Str → Int} (e : ∀ n ∈ bk.names, h n ≤ h' n) : ∀ n ∈ bk.names, nx bk h n ≤ nx bk h' n := fun n hn => by
  obtain ⟨t, ht⟩ := Bk.has hn
  exact nx_mono' ok e 16 n hn (ok.top _ ht)
theorem nx_add {bk : Bk} {rk : Str → Nat} (ok : BkOk bk rk) (c : Int) {h : Str → Int} : ∀ n ∈ bk.names, nx bk (fun x => h x + c) n = nx bk h n + c := fun n hn => by
  obtain ⟨t0, ht0⟩ := Bk.has hn
  refine (nx_uniq ok (v := fun x => nx bk h x + c) (fun p hp => ?_) 16 n hn (ok.top _ ht0)).symm
  show nx bk h p.1 + c = _
  rw [nx_eq ok h (t := p.2) hp, ev_add c 3 p.2 (ok.tm _ hp).2.2 (ok.tm _ hp).2.1]
/-- so many rounds -/
def itn (bk : Bk) : Nat → (Str → Int) → Str → Int
  | 0, h => h
  | k + 1, h => nx bk (itn bk k h)
theorem itn_add (bk : Bk) (a : Nat) (h : Str → Int) : ∀ b, itn bk (a + b) h = itn bk b (itn bk a h)
  | 0 => rfl
  | b + 1 => by
    show nx bk (itn bk (a + b) h) = nx bk (itn bk b (itn bk a h))
    rw [itn_add bk a h b]
theorem itn_congr {bk : Bk} {rk : Str → Nat} (ok : BkOk bk rk) {h h' : Str → Int} (e : ∀ n ∈ bk.names, h n = h' n) : ∀ (k : Nat), ∀ n ∈ bk.names, itn bk k h n = itn bk k h' n
  | 0 => e
  | k + 1 => nx_congr ok (itn_congr ok e k)
theorem itn_mono {bk : Bk} {rk : Str → Nat} (ok : BkOk bk rk) {h h' : Str → Int} (e : ∀ n ∈ bk.names, h n ≤ h' n) : ∀ (k : Nat), ∀ n ∈ bk.names, itn bk k h n ≤ itn bk k h' n
  | 0 => e
  | k + 1 => nx_mono ok (itn_mono ok e k)
theorem itn_plus {bk : Bk} {rk : Str → Nat} (ok : BkOk bk rk) (c : Int) {h : Str → Int} : ∀ (k : Nat), ∀ n ∈ bk.names, itn bk k (fun x => h x + c) n = itn bk k h n + c
  | 0 => fun n _ => rfl
  | k + 1 => fun n hn => by
    show nx bk (itn bk k fun x => h x + c) n = nx bk (itn bk k h) n + c
    rw [nx_congr ok (itn_plus ok c k) n hn, nx_add ok c n hn]
end HL

set_option Elab.async false
set_option linter.all false
set_option maxRecDepth 100000
set_option maxHeartbeats 1000000
namespace HL
open PySem L2 DL
/-! ### lists of names -/
theorem nodup_le : ∀ {xs ys : List Str}, xs.Nodup → (∀ x ∈ xs, x ∈ ys) → xs.length ≤ ys.length
  | [], ys, _, _ => Nat.zero_le _
  | x :: xs, ys, nd, h => by
    obtain ⟨n1, n2⟩ := List.nodup_cons.mp nd
    have hx : x ∈ ys := h x (by simp)
    have := nodup_le (ys := ys.erase x) n2 fun y hy => (List.mem_erase_of_ne (fun e : y = x => n1 (by rw [← e]; exact hy))).mpr (h y (by simp [hy]))
    rw [List.length_erase_of_mem hx] at this
    have hp : 0 < ys.length := List.length_pos_of_mem hx
    simp only [List.length_cons]
    omega
theorem perm_of : ∀ {xs ys : List Str}, xs.Nodup → (∀ x ∈ xs, x ∈ ys) → ys.length ≤ xs.length → xs.Perm ys
  | [], ys, _, _, l => by
    have : ys = [] := List.eq_nil_of_length_eq_zero (by simpa using l)
    subst this
    exact List.Perm.refl _
  | x :: xs, ys, nd, h, l => by
    obtain ⟨n1, n2⟩ := List.nodup_cons.mp nd
    have hx : x ∈ ys := h x (by simp)
    have hp : 0 < ys.length := List.length_pos_of_mem hx
    have := perm_of (ys := ys.erase x) n2 (fun y hy => (List.mem_erase_of_ne (fun e : y = x => n1 (by rw [← e]; exact hy))).mpr (h y (by simp [hy]))) (by
      rw [List.length_erase_of_mem hx]
      simp only [List.length_cons] at l
      omega)
    exact (this.cons x).trans (List.perm_cons_erase hx).symm
/-- the least by a rank -/
theorem least (rk : Str → Nat) : ∀ {xs : List Str}, xs ≠ [] → ∃ x ∈ xs, ∀ y ∈ xs, rk x ≤ rk y
  | [], h => absurd rfl h
  | [x], _ => ⟨x, by simp, by simp⟩
  | x :: y :: r, _ => by
    obtain ⟨z, hz, hm⟩ := least rk (xs := y :: r) (by simp)
    by_cases h : rk x ≤ rk z
    · refine ⟨x, by simp, fun w hw => ?_⟩
      rcases List.mem_cons.mp hw with rfl | hw
      · exact Nat.le_refl _
      · exact Nat.le_trans h (hm w hw)
    · refine ⟨z, List.mem_cons_of_mem _ hz, fun w hw => ?_⟩
      rcases List.mem_cons.mp hw with rfl | hw
      · omega
      · exact hm w hw
/-! ### who hangs on whom -/
abbrev Hg := List (Str × List Str)
def Hg.keys (hs : Hg) : List Str := hs.map (·.1)
def hgK (hs : Hg) : List (Key × D) := hs.map fun q => (.inr q.1, .lst (q.2.map D.str))
def Hg.at (hs : Hg) (n : Str) : List Str := match hs with
  | [] => []
  | (m, l) :: r => if m = n then l else Hg.at r n
structure HgOk (bk : Bk) (hs : Hg) : Prop where
  pm : hs.keys.Perm bk.names
  ok : ∀ q ∈ hs, ∃ t, (q.1, t) ∈ bk ∧ (∀ x, x ∈ q.2 ↔ x ∈ nms true t) ∧ q.2.Nodup ∧ q.2.length < 64
theorem dval_hg : ∀ {hs : Hg} {n : Str}, n ∈ hs.keys → dval (hgK hs) (.inr n) = some (.lst ((hs.at n).map D.str))
  | [], n, h => by simp [Hg.keys] at h
  | (m, l) :: r, n, h => by
    simp only [hgK, List.map_cons, dval, Hg.at]
    by_cases e : m = n
    · subst e; rw [if_pos rfl, if_pos rfl]
    · rw [if_neg (fun q => e (Sum.inr.inj q)), if_neg e]
      rcases List.mem_cons.mp (show n ∈ m :: Hg.keys r from h) with rfl | h
      · exact absurd rfl e
      · exact dval_hg h
theorem hg_at : ∀ {hs : Hg} {n : Str}, n ∈ hs.keys → (n, hs.at n) ∈ hs
  | [], n, h => by simp [Hg.keys] at h
  | (m, l) :: r, n, h => by
    simp only [Hg.at]
    by_cases e : m = n
    · subst e; rw [if_pos rfl]; simp
    · rw [if_neg e]
      rcases List.mem_cons.mp (show n ∈ m :: Hg.keys r from h) with rfl | h
      · exact absurd rfl e
      · exact List.mem_cons_of_mem _ (hg_at h)
theorem HgOk.hang {bk : Bk} {rk : Str → Nat} {hs : Hg} (o : HgOk bk hs) (ok : BkOk bk rk) {n : Str} (h : n ∈ hs.keys) : (hs.at n).Nodup ∧ (hs.at n).length ≤ 6 ∧ ∀ x ∈ hs.at n, x ∈ hs.keys ∧ rk x < rk n := by
  obtain ⟨t, ht, hm, nd, _⟩ := o.ok _ (hg_at h)
  have hk : ∀ x ∈ hs.at n, x ∈ hs.keys ∧ rk x < rk n := fun x hx => by
    have h1 := (hm x).1 hx
    exact ⟨o.pm.mem_iff.mpr (ok.inn _ ht true x h1), ok.dn _ ht x h1⟩
  refine ⟨nd, ?_, hk⟩
  have h1 := nodup_le nd fun x hx => o.pm.mem_iff.mp (hk x hx).1
  have h2 : bk.names.length = bk.length := List.length_map ..
  rw [h2] at h1
  exact Nat.le_trans h1 ok.le
theorem HgOk.at_of {bk : Bk} {rk : Str → Nat} {hs : Hg} (o : HgOk bk hs) (ok : BkOk bk rk) {n : Str} {t : Tm} (ht : (n, t) ∈ bk) : ∀ x, x ∈ hs.at n ↔ x ∈ nms true t := by
  obtain ⟨t', ht', hm, _⟩ := o.ok _ (hg_at (o.pm.mem_iff.mpr (Bk.mem ht)))
  have e1 := Bk.mem_tm ok.nd ht
  have e2 := Bk.mem_tm ok.nd ht'
  rw [e1] at e2
  cases e2
  exact hm
theorem HgOk.len {bk : Bk} {rk : Str → Nat} {hs : Hg} (o : HgOk bk hs) (ok : BkOk bk rk) : hs.length ≤ 6 := by
  have := o.pm.length_eq
  unfold Hg.keys Bk.names at this
  rw [List.length_map, List.length_map] at this
  have := ok.le
  omega
/-- a way from one to those whom it waits for -/
structure Way (rk : Str → Nat) (ks : List Str) (w : List Str) : Prop where
  ne : w ≠ []
  inn : ∀ x ∈ w, x ∈ ks
  low : ∀ a b, w.head? = some a → w.getLast? = some b → rk b ≤ rk a
theorem Way.one {rk : Str → Nat} {ks : List Str} {n : Str} (h : n ∈ ks) : Way rk ks [n] :=
  ⟨by simp, fun x hx => by rw [List.mem_singleton.mp hx]; exact h, fun a b ha hb => by simp at ha hb; subst ha hb; exact Nat.le_refl _⟩
theorem Way.more {rk : Str → Nat} {ks w : List Str} {x b : Str} (h : Way rk ks w) (hb : w.getLast? = some b) (hx : x ∈ ks) (hl : rk x < rk b) : Way rk ks (w ++ [x]) := by
  refine ⟨by simp, fun y hy => ?_, fun a c ha hc => ?_⟩
  · rcases List.mem_append.mp hy with hy | hy
    · exact h.inn y hy
    · rw [List.mem_singleton.mp hy]; exact hx
  · have ha' : w.head? = some a := by
      cases w with
      | nil => exact absurd rfl h.ne
      | cons y r => simpa using ha
    have hc' : c = x := by simpa using hc.symm
    subst hc'
    exact Nat.le_of_lt (Nat.lt_of_lt_of_le hl (h.low a b ha' hb))
/-- those for whom one waits stand ahead -/
def Od (hs : Hg) (fs : List Str) : Prop := ∀ i n, fs[i]? = some n → ∀ x ∈ hs.at n, x ∈ fs.take i
theorem Od.app {hs : Hg} {fs gs : List Str} (h : Od hs fs) (hg : ∀ n ∈ gs, ∀ x ∈ hs.at n, x ∈ fs) : Od hs (fs ++ gs) := fun i n e x hx => by
  by_cases hi : i < fs.length
  · rw [List.getElem?_append_left hi] at e
    rw [List.take_append_of_le_length (Nat.le_of_lt hi)]
    exact h i n e x hx
  · rw [List.getElem?_append_right (Nat.le_of_not_lt hi)] at e
    have := hg n (List.mem_of_getElem? e) x hx
    rw [List.take_append]
    exact List.mem_append_left _ (by rw [List.take_of_length_le (Nat.le_of_not_lt hi)]; exact this)
end HL

set_option Elab.async false
set_option linter.all false
set_option maxRecDepth 100000
set_option maxHeartbeats 1000000
namespace K78
open PySem L2 DL
local macro_rules | `(tactic| walk_at "dl") => `(tactic| simp only [dSeq, dIfS, dOr, dAnd, dNot, dTest, dCB, d1, d2, kIsi, kIsO, kLen, kStr, kIntT, kAbs, kI2, kSum, dCons, dNil, dVar, dC, slot, tyD, opt_some, kitB_ss, kitB_is, kitB_ii, kitB_ib, kitB_si, kitB_tt, kitB_ll, kitB_dd, kitB_tl, kitB_lt, kitB_ts, kitB_bb, kitB_bi,
  vw_non, vw_bl, vw_i, vw_s, vw_l, vw_t, vw_d, vw_n, vw_f, vw_v, asB, dAndV, dOrV, dNotV, dIf, dOp, dI2, dSub, dMul, dFdiv, dMod, dPow, dLt, dLe, dGt, dGe, dAdd, dRet, dRetN, dNext, dLst, dTup, dLstC, dCall, dDrop, dAsg, dName, dPar, dSets, dGTup, dIx, dSl, dPart, dNoP, dInN, dIsN, dEqN, dNeg, dFz, frz1, dFzS, dFld, dSetFld, dMth, dMake, dCallL, dChain, endsOf, dLcL, dLcS, dLcR1, dYes, dBM, mAppend, mInsert, mStarts3, mJoin, tyM, dBits, dForL, dForT, dForR1, int1, dDGet, dDIn, dDPut, dDGet2, kDict0, DL.keyOf, kListOf, kRepr, dEqP, kMax, kMin, isN, fget, fput, dForD, dLcD, dLcP, dLc2, dForE, oneL, dDcL, kLenB, kSortI, kSortD, kDictD, kDictP, kIntB, dSortSet, dLenSet, dAddT, dRep, dInDeep, dSame, dNilC, dLcR1C, dDict0, dPair0, dPairS, dDisp, keysOf', keyD,
  List.set_cons_zero, List.set_cons_succ, List.length_cons, List.length_nil, Bool.not_true, Bool.not_false, List.append_nil,
  if_true, if_false, Bool.false_eq_true, Bool.true_eq_false, ite_true, ite_false, true_and, and_true, reduceIte, List.nil_append, List.cons_append, atI_0, atI_1, atI_2, atI_3, atI_m1, List.getElem?_cons_zero, List.getElem?_cons_succ, List.getLast?_cons_cons, List.getLast?_singleton, Nat.zero_add, Nat.reduceAdd, Int.cast_ofNat_Int, Int.natCast_add, Int.natCast_one, Nat.reduceLeDiff, Int.reduceLT, Int.reduceLE, Int.reduceEq, decide_true, decide_false, Int.reduceAdd, Int.reduceNeg, Int.reduceSub, Int.reduceToNat, eq_self, ne_eq, not_true_eq_false, not_false_eq_true, List.map_cons, List.map_nil, Option.getD_some, Option.getD_none, Option.isSome_some, Option.isSome_none])
open HL
section
variable {P : Program} {w : World} {K : PySem.W.Frag} {mg : Str → Option Value} {base : Heap}
/-! ### names, numbers, hours -/
def sp_is_name : DSp := fun ds C Q => ∃ z, ds = [.str z] ∧ nmOk z ∧ Q (.bl true) C
theorem ok_is_name (T : Txt K mg) : Fn P w K mg base 1 (fa mg "is_name") [] sp_is_name := by
  refine fn_df T.d_is_name sc_is_name (fun ds C Q h => ?_) (fun cdv A outer s H E hr => ?_)
  · (obtain ⟨_, rfl, _⟩ := h; rfl)
  have hu := hr.units
  have hu1 := hu_of hr
  have nd := sc_is_name.nd
  refine ⟨_, (ds_cons (ds_if (dt_pw (dw_or (dt_not (dt_val (de_cb call_isi (cl_isi (n := "str")) T.isinstance bt_isinstance (da_cons (dv 0) (da_cons (dg_ty T.str bt_str) da_nil))))) (dw_or (dt_cmp op_lt ops_B0 (de_cb call_lenB cl_lenB T.len bt_len (da_cons (dv 0) da_nil)) dc_int (nomark _)) (dw_or1 (dt_cmp op_gt ops_B0 (de_cb call_lenB cl_lenB T.len bt_len (da_cons (dv 0) da_nil)) dc_int (nomark _)))))) (ds_one (ds_ret dc_bl)) ds_nil)
    (ds_one (ds_ret (de_cmp (op_eqA hu) ops_eq (de_lcS rfl nd (dv 0) (by first | (change blkC N_is_name (defScope s_is_name) _ _ = true; decide +kernel) | rfl) (fun _ _ _ _ _ => pg_name (i := 1) nd rfl (Or.inl rfl)) (fun _ _ _ _ _ => (dp_one (dt_cmp op_notInA ops_in (dv 1) (dg_str T.v_LETTERS) rfl))) (fun _ _ _ _ _ => (dv 1))) (de_lst da_nil) (nomark _))))), fun ds C Q h => ?_⟩
  obtain ⟨z, rfl, ⟨hl, h1, h8⟩, h⟩ := h
  rw [show startD N_is_name [D.str z] = [some (D.str z), none] from rfl]
  try walk_at "dl"
  refine ⟨by omega, ?_⟩
  rw [if_neg (by simp only [decide_eq_true_eq]; omega)]
  refine ⟨by omega, ?_⟩
  rw [if_neg (by simp only [decide_eq_true_eq]; omega)]
  refine compN_none (fun i d P' e p => ?_) ⟨okD_nil, okD_nil, ?_⟩
  · obtain ⟨c, hc, rfl⟩ := chars_get e
    try walk_at "dl"
    rw [subS_letter (hl c hc)]
    exact p
  · rw [vw_l, eqD_nil]
    exact fin h
def sp_is_whole : DSp := fun ds C Q => ∃ i, ds = [.int i] ∧ Q (.bl true) C
theorem ok_is_whole (T : Txt K mg) : Fn P w K mg base 1 (fa mg "is_whole") [] sp_is_whole := by
  refine fn_df T.d_is_whole sc_is_whole (fun ds C Q h => ?_) (fun cdv A outer s H E hr => ?_)
  · (obtain ⟨_, rfl, _⟩ := h; rfl)
  have hu := hr.units
  have hu1 := hu_of hr
  have nd := sc_is_whole.nd
  refine ⟨_, (ds_one (ds_ret (de_and (de_cb call_isi (cl_isi (n := "int")) T.isinstance bt_isinstance (da_cons (dv 0) (da_cons (dg_ty T.int bt_int) da_nil))) (de_one (de_not (de_cb call_isi (cl_isi (n := "bool")) T.isinstance bt_isinstance (da_cons (dv 0) (da_cons (dg_ty T.bool bt_bool) da_nil)))))))), fun ds C Q h => ?_⟩
  obtain ⟨z, rfl, h⟩ := h
  rw [show startD N_is_whole [D.int z] = [some (D.int z)] from rfl]
  try walk_at "dl"
  exact fin h
def sp_is_count : DSp := fun ds C Q => ∃ i, ds = [.int i] ∧ 0 ≤ i ∧ Q (.bl true) C
theorem ok_is_count (T : Txt K mg) : Fn P w K mg base 2 (fa mg "is_count") [] sp_is_count := by
  have G_is_whole := ok_is_whole (P := P) (w := w) (base := base) T
  refine fn_df T.d_is_count sc_is_count (fun ds C Q h => ?_) (fun cdv A outer s H E hr => ?_)
  · (obtain ⟨_, rfl, _⟩ := h; rfl)
  have hu := hr.units
  have hu1 := hu_of hr
  have nd := sc_is_count.nd
  refine ⟨_, (ds_one (ds_ret (de_and (de_call G_is_whole T.d_is_whole.m (hr.mono (by omega)) (da_cons (dv 0) da_nil)) (de_one (de_cmp op_ge ops_B0 (dv 0) dc_int (nomark _)))))), fun ds C Q h => ?_⟩
  obtain ⟨z, rfl, hz, h⟩ := h
  rw [show startD N_is_count [D.int z] = [some (D.int z)] from rfl]
  try walk_at "dl"
  refine ⟨z, rfl, ?_⟩
  try walk_at "dl"
  rw [decide_eq_true hz]
  exact fin h
/-- hours, by the names in some order -/
def hK (ks : List Str) (h : Str → Int) : List (Key × D) := ks.map fun n => (.inr n, .int (h n))
def hD (ks : List Str) (h : Str → Int) : D := .dic (hK ks h)
theorem dval_map {α : Type} {f : Str → D} : ∀ {ks : List Str} {n : Str}, n ∈ ks → dval (ks.map fun n => ((.inr n : Key), f n)) (.inr n) = some (f n)
  | [], n, h => by simp at h
  | k :: ks, n, h => by
    simp only [List.map_cons, dval]
    by_cases e : k = n
    · subst e; rw [if_pos rfl]
    · rw [if_neg (fun q => e (Sum.inr.inj q))]
      rcases List.mem_cons.mp h with rfl | h
      · exact absurd rfl e
      · exact dval_map (α := α) h
theorem dval_no {f : Str → D} : ∀ {ks : List Str} {n : Str}, n ∉ ks → dval (ks.map fun n => ((.inr n : Key), f n)) (.inr n) = none
  | [], n, h => rfl
  | k :: ks, n, h => by
    simp only [List.map_cons, dval]
    rw [if_neg (fun q => h (by rw [Sum.inr.inj q]; simp))]
    exact dval_no fun q => h (by simp [q])
theorem dval_h {ks : List Str} {h : Str → Int} {n : Str} (m : n ∈ ks) : dval (hK ks h) (.inr n) = some (.int (h n)) := dval_map (α := Unit) (f := fun n => .int (h n)) m
theorem keys_h (ks : List Str) (h : Str → Int) : keysD (hK ks h) = ks.map D.str := by
  unfold keysD hK
  rw [List.map_map]
  rfl
theorem txKeys_map {f : Str → D} : ∀ ks : List Str, txKeys (ks.map fun n => ((.inr n : Key), f n)) = some ks
  | [] => rfl
  | k :: ks => by simp [txKeys, txKeys_map ks]
theorem txKeys_h (ks : List Str) (h : Str → Int) : txKeys (hK ks h) = some ks := txKeys_map ks
theorem keyOf_s (x : Str) : DL.keyOf (.str x) = some (.inr x) := rfl
theorem str_get {ks : List Str} {i : Nat} {d : D} (h : (ks.map D.str)[i]? = some d) : ∃ n, n ∈ ks ∧ d = .str n := by
  rw [List.getElem?_map] at h
  cases e : ks[i]? with
  | none => rw [e] at h; cases h
  | some n => rw [e] at h; cases h; exact ⟨n, List.mem_of_getElem? e, rfl⟩
def sp_is_hours : DSp := fun ds C Q => ∃ (ks : List Str) (h : Str → Int), ds = [hD ks h] ∧ (∀ n ∈ ks, nmOk n) ∧ Q (.bl true) C
theorem ok_is_hours (T : Txt K mg) : Fn P w K mg base 2 (fa mg "is_hours") [] sp_is_hours := by
  have G_is_name := ok_is_name (P := P) (w := w) (base := base) T
  have G_is_whole := ok_is_whole (P := P) (w := w) (base := base) T
  refine fn_df T.d_is_hours sc_is_hours (fun ds C Q h => ?_) (fun cdv A outer s H E hr => ?_)
  · (obtain ⟨_, _, rfl, _⟩ := h; rfl)
  have hu := hr.units
  have hu1 := hu_of hr
  have nd := sc_is_hours.nd
  refine ⟨_, (ds_cons (ds_if (dt_not (dt_val (de_cb call_isi (cl_isi (n := "dict")) T.isinstance bt_isinstance (da_cons (dv 0) (da_cons (dg_ty T.dict bt_dict) da_nil))))) (ds_one (ds_ret dc_bl)) ds_nil)
    (ds_one (ds_ret (de_cmp (op_eqA hu) ops_eq (de_lcD rfl nd (dv 0) (by first | (change blkC N_is_hours (defScope s_is_hours) _ _ = true; decide +kernel) | rfl) (fun _ _ _ _ _ => pg_name (i := 1) nd rfl (Or.inl rfl)) (fun _ _ _ _ _ => (dp_one (dt_pw (dw_or (dt_not (dt_val (de_call G_is_name T.d_is_name.m (hr.mono (by omega)) (da_cons (dv 1) da_nil)))) (dw_or1 (dt_not (dt_val (de_call G_is_whole T.d_is_whole.m (hr.mono (by omega)) (da_cons (de_dget hu1 (dv 0) (dv 1)) da_nil))))))))) (fun _ _ _ _ _ => (dv 1))) (de_lst da_nil) (nomark _))))), fun ds C Q h => ?_⟩
  obtain ⟨ks, hh, rfl, hn, h⟩ := h
  rw [show startD N_is_hours [hD ks hh] = [some (.dic (hK ks hh)), none] from rfl]
  try walk_at "dl"
  rw [keys_h]
  refine compN_none (fun i d P' e p => ?_) ⟨okD_nil, okD_nil, ?_⟩
  · obtain ⟨n, hm, rfl⟩ := str_get e
    try walk_at "dl"
    refine ⟨n, rfl, hn n hm, ?_⟩
    try walk_at "dl"
    rw [dval_h hm, opt_some]
    exact ⟨_, rfl, p⟩
  · rw [vw_l, eqD_nil]
    exact fin h
def sp_check_count2 : DSp := fun ds C Q => ∃ i, ds = [.int i, .int 0, .non] ∧ 0 ≤ i ∧ Q .non C
theorem ok_check_count2 (T : Txt K mg) : Fn P w K mg base 3 (fa mg "check_count") [.int 0, .non] sp_check_count2 := by
  have G_is_count := ok_is_count (P := P) (w := w) (base := base) T
  refine fn_dd T.d_check_count.d 0 (by decide) sc_check_count (fun _ => RA.cons R_int (RA.cons R_non RA.nil)) (fun ds C Q h => ?_) (fun cdv A outer s H E hr => ?_)
  · obtain ⟨_, rfl, _⟩ := h; rfl
  have hu := hr.units
  have hu1 := hu_of hr
  have nd := sc_check_count.nd
  refine ⟨_, (ds_one (ds_if (dt_pw (dw_or (dt_not (dt_val (de_call G_is_count T.d_is_count.m (hr.mono (by omega)) (da_cons (dv 0) da_nil)))) (dw_or (dt_cmp op_lt ops_B0 (dv 0) (dv 1) (nomark _)) (dw_or1 (dt_pw (dw_and (dt_cmp op_notN ops_notN (dv 2) dc_non (nomark _)) (dw_and1 (dt_cmp op_gt ops_B0 (dv 0) (dv 2) (nomark _))))))))) (ds_one ds_never) ds_nil)), fun ds C Q h => ?_⟩
  obtain ⟨z, rfl, hz, h⟩ := h
  rw [show startD N_check_count [D.int z, .int 0, .non] = [some (D.int z), some (.int 0), some .non] from rfl]
  try walk_at "dl"
  refine ⟨z, rfl, hz, ?_⟩
  try walk_at "dl"
  rw [if_neg (by simp only [decide_eq_true_eq]; omega)]
  exact fin h
def sp_check_hours : DSp := fun ds C Q => ∃ (ks : List Str) (h : Str → Int) (ns : List Str), ds = [hD ks h, .lst (ns.map D.str)] ∧ (∀ n ∈ ks, nmOk n) ∧ (∀ n ∈ ns, n ∈ ks) ∧ Q .non C
theorem ok_check_hours (T : Txt K mg) : Fn P w K mg base 3 (fa mg "check_hours") [] sp_check_hours := by
  have G_is_hours := ok_is_hours (P := P) (w := w) (base := base) T
  refine fn_df T.d_check_hours sc_check_hours (fun ds C Q h => ?_) (fun cdv A outer s H E hr => ?_)
  · (obtain ⟨_, _, _, rfl, _⟩ := h; rfl)
  have hu := hr.units
  have hu1 := hu_of hr
  have nd := sc_check_hours.nd
  refine ⟨_, (ds_one (ds_if (dt_pw (dw_or (dt_not (dt_val (de_call G_is_hours T.d_is_hours.m (hr.mono (by omega)) (da_cons (dv 0) da_nil)))) (dw_or1 (dt_cmp (op_neA hu) ops_ne (de_lcL rfl nd (dv 1) (by first | (change blkC N_check_hours (defScope s_check_hours) _ _ = true; decide +kernel) | rfl) (fun _ _ _ _ _ => pg_name (i := 2) nd rfl (Or.inl rfl)) (fun _ _ _ _ _ => (dp_one (dt_dnotin hu1 (dv 2) (dv 0)))) (fun _ _ _ _ _ => (dv 2))) (de_lst da_nil) (nomark _))))) (ds_one ds_never) ds_nil)), fun ds C Q h => ?_⟩
  obtain ⟨ks, hh, ns, rfl, hk, hn, h⟩ := h
  rw [show startD N_check_hours [hD ks hh, .lst (ns.map D.str)] = [some (.dic (hK ks hh)), some (.lst (ns.map D.str)), none] from rfl]
  try walk_at "dl"
  refine ⟨ks, hh, rfl, hk, ?_⟩
  try walk_at "dl"
  refine compN_none (fun i d P' e p => ?_) ⟨okD_nil, okD_nil, ?_⟩
  · obtain ⟨n, hm, rfl⟩ := str_get e
    try walk_at "dl"
    rw [dval_h (hn n hm)]
    exact p
  · rw [vw_l, eqD_nil]
    exact fin h
def sp_check_just_hours : DSp := fun ds C Q => ∃ (ks : List Str) (h : Str → Int) (ns : List Str), ds = [hD ks h, .lst (ns.map D.str)] ∧ (∀ n ∈ ks, nmOk n) ∧ (∀ n ∈ ns, n ∈ ks) ∧ ks.length = ns.length ∧ Q .non C
theorem ok_check_just_hours (T : Txt K mg) : Fn P w K mg base 4 (fa mg "check_just_hours") [] sp_check_just_hours := by
  have G_check_hours := ok_check_hours (P := P) (w := w) (base := base) T
  refine fn_df T.d_check_just_hours sc_check_just_hours (fun ds C Q h => ?_) (fun cdv A outer s H E hr => ?_)
  · (obtain ⟨_, _, _, rfl, _⟩ := h; rfl)
  have hu := hr.units
  have hu1 := hu_of hr
  have nd := sc_check_just_hours.nd
  refine ⟨_, (ds_cons (ds_expr (de_call G_check_hours T.d_check_hours.m (hr.mono (by omega)) (da_cons (dv 0) (da_cons (dv 1) da_nil))))
    (ds_one (ds_if (dt_cmp (op_neA hu) ops_ne (de_cb call_lenB cl_lenB T.len bt_len (da_cons (dv 0) da_nil)) (de_cb call_lenB cl_lenB T.len bt_len (da_cons (dv 1) da_nil)) (nomark _)) (ds_one ds_never) ds_nil))), fun ds C Q h => ?_⟩
  obtain ⟨ks, hh, ns, rfl, hk, hn, hl, h⟩ := h
  rw [show startD N_check_just_hours [hD ks hh, .lst (ns.map D.str)] = [some (.dic (hK ks hh)), some (.lst (ns.map D.str))] from rfl]
  try walk_at "dl"
  refine ⟨ks, hh, ns, rfl, hk, hn, ?_⟩
  try walk_at "dl"
  rw [show (hK ks hh).length = ns.length by simp [hK, hl], List.length_map]
  rw [if_neg (by simp)]
  exact fin h
def sp_check_known : DSp := fun ds C Q => ∃ (z : Str) (ns : List Str), ds = [.str z, .lst (ns.map D.str)] ∧ z ∈ ns ∧ Q .non C
theorem inD_strs {z : Str} {ns : List Str} : inD (.str z) (ns.map D.str) = decide (z ∈ ns) := by
  unfold inD
  rw [List.any_map]
  by_cases h : z ∈ ns
  · rw [decide_eq_true h, List.any_eq_true]
    exact ⟨z, h, by simp [eqF]⟩
  · rw [decide_eq_false h, List.any_eq_false]
    intro y hy e
    simp only [Function.comp, eqF, beq_iff_eq] at e
    exact h (e ▸ hy)
theorem flat_strsD (ns : List Str) : (ns.map D.str).all flatD = true := by
  rw [List.all_map]
  exact List.all_eq_true.mpr fun _ _ => rfl
theorem ok_check_known (T : Txt K mg) : Fn P w K mg base 1 (fa mg "check_known") [] sp_check_known := by
  refine fn_df T.d_check_known sc_check_known (fun ds C Q h => ?_) (fun cdv A outer s H E hr => ?_)
  · (obtain ⟨_, _, rfl, _⟩ := h; rfl)
  have hu := hr.units
  have hu1 := hu_of hr
  have nd := sc_check_known.nd
  refine ⟨_, (ds_one (ds_if (dt_pw (dw_or (dt_not (dt_val (de_cb call_isi (cl_isi (n := "str")) T.isinstance bt_isinstance (da_cons (dv 0) (da_cons (dg_ty T.str bt_str) da_nil))))) (dw_or1 (dt_cmp op_notInA ops_in (dv 0) (dv 1) rfl)))) (ds_one ds_never) ds_nil)), fun ds C Q h => ?_⟩
  obtain ⟨z, ns, rfl, hm, h⟩ := h
  rw [show startD N_check_known [.str z, .lst (ns.map D.str)] = [some (.str z), some (.lst (ns.map D.str))] from rfl]
  try walk_at "dl"
  refine ⟨rfl, flat_strsD ns, ?_⟩
  rw [inD_strs, decide_eq_true hm]
  exact fin h
end

end K78

set_option Elab.async false
set_option linter.all false
set_option maxRecDepth 100000
set_option maxHeartbeats 1000000
namespace K78
open PySem L2 DL
local macro_rules | `(tactic| walk_at "dl") => `(tactic| simp only [dSeq, dIfS, dOr, dAnd, dNot, dTest, dCB, d1, d2, kIsi, kIsO, kLen, kStr, kIntT, kAbs, kI2, kSum, dCons, dNil, dVar, dC, slot, tyD, opt_some, kitB_ss, kitB_is, kitB_ii, kitB_ib, kitB_si, kitB_tt, kitB_ll, kitB_dd, kitB_tl, kitB_lt, kitB_ts, kitB_bb, kitB_bi,
  vw_non, vw_bl, vw_i, vw_s, vw_l, vw_t, vw_d, vw_n, vw_f, vw_v, asB, dAndV, dOrV, dNotV, dIf, dOp, dI2, dSub, dMul, dFdiv, dMod, dPow, dLt, dLe, dGt, dGe, dAdd, dRet, dRetN, dNext, dLst, dTup, dLstC, dCall, dDrop, dAsg, dName, dPar, dSets, dGTup, dIx, dSl, dPart, dNoP, dInN, dIsN, dEqN, dNeg, dFz, frz1, dFzS, dFld, dSetFld, dMth, dMake, dCallL, dChain, endsOf, dLcL, dLcS, dLcR1, dYes, dBM, mAppend, mInsert, mStarts3, mJoin, tyM, dBits, dForL, dForT, dForR1, int1, dDGet, dDIn, dDPut, dDGet2, kDict0, DL.keyOf, kListOf, kRepr, dEqP, kMax, kMin, isN, fget, fput, dForD, dLcD, dLcP, dLc2, dForE, oneL, dDcL, kLenB, kSortI, kSortD, kDictD, kDictP, kIntB, dSortSet, dLenSet, dAddT, dRep, dInDeep, dSame, dNilC, dLcR1C, dDict0, dPair0, dPairS, dDisp, keysOf', keyD,
  List.set_cons_zero, List.set_cons_succ, List.length_cons, List.length_nil, Bool.not_true, Bool.not_false, List.append_nil,
  if_true, if_false, Bool.false_eq_true, Bool.true_eq_false, ite_true, ite_false, true_and, and_true, reduceIte, List.nil_append, List.cons_append, atI_0, atI_1, atI_2, atI_3, atI_m1, List.getElem?_cons_zero, List.getElem?_cons_succ, List.getLast?_cons_cons, List.getLast?_singleton, Nat.zero_add, Nat.reduceAdd, Int.cast_ofNat_Int, Int.natCast_add, Int.natCast_one, Nat.reduceLeDiff, Int.reduceLT, Int.reduceLE, Int.reduceEq, decide_true, decide_false, Int.reduceAdd, Int.reduceNeg, Int.reduceSub, Int.reduceToNat, eq_self, ne_eq, not_true_eq_false, not_false_eq_true, List.map_cons, List.map_nil, Option.getD_some, Option.getD_none, Option.isSome_some, Option.isSome_none])
open HL
section
variable {P : Program} {w : World} {K : PySem.W.Frag} {mg : Str → Option Value} {base : Heap}
/-! is_term, are_terms: one for the other, by the depth -/
def sp_is_term (n : Nat) : DSp := fun ds C Q => ∃ t, ds = [toD t] ∧ WF t ∧ hle n t ∧ Q (.bl true) C
def sp_are_terms (n : Nat) : DSp := fun ds C Q => ∃ ts, ds = [.lst (ts.map toD)] ∧ ts ≠ [] ∧ ts.length ≤ 50 ∧ (∀ t ∈ ts, WF t ∧ hle n t) ∧ Q (.bl true) C
theorem map_get {ts : List Tm} {i : Nat} {d : D} (h : (ts.map toD)[i]? = some d) : ∃ t, t ∈ ts ∧ d = toD t := by
  rw [List.getElem?_map] at h
  cases e : ts[i]? with
  | none => rw [e] at h; cases h
  | some t => rw [e] at h; cases h; exact ⟨t, List.mem_of_getElem? e, rfl⟩
theorem empty_map {ts : List Tm} (h : ts ≠ []) : (ts.map toD).isEmpty = false := by
  cases ts with
  | nil => exact absurd rfl h
  | cons t r => rfl
theorem ok_are_terms (T : Txt K mg) {k n : Nat} (hn : n ≤ 20) (G_is_term : Fn P w K mg base k (fa mg "is_term") [] (sp_is_term n)) : Fn P w K mg base (k + 1) (fa mg "are_terms") [] (sp_are_terms n) := by
  refine fn_df T.d_are_terms sc_are_terms (fun ds C Q h => ?_) (fun cdv A outer s H E hr => ?_)
  · (obtain ⟨_, rfl, _⟩ := h; rfl)
  have hu := hr.units
  have hu1 := hu_of hr
  have nd := sc_are_terms.nd
  refine ⟨_, (ds_cons (ds_if (dt_pw (dw_or (dt_not (dt_val (de_cb call_isi (cl_isi (n := "list")) T.isinstance bt_isinstance (da_cons (dv 0) (da_cons (dg_ty T.list bt_list) da_nil))))) (dw_or1 (dt_cmp (op_eqA hu) ops_eq (dv 0) (de_lst da_nil) (nomark _))))) (ds_one (ds_ret dc_bl)) ds_nil)
    (ds_one (ds_ret (de_cmp (op_eqA hu) ops_eq (de_lcL rfl nd (dv 0) (by first | (change blkC N_are_terms (defScope s_are_terms) _ _ = true; decide +kernel) | rfl) (fun _ _ _ _ _ => pg_name (i := 1) nd rfl (Or.inl rfl)) (fun _ _ _ _ _ => (dp_one (dt_not (dt_val (de_call G_is_term T.d_is_term.m (hr.mono (by omega)) (da_cons (dv 1) da_nil)))))) (fun _ _ _ _ _ => (dv 1))) (de_lst da_nil) (nomark _))))), fun ds C Q h => ?_⟩
  obtain ⟨ts, rfl, hne, hl, hw, h⟩ := h
  rw [show startD N_are_terms [D.lst (ts.map toD)] = [some (D.lst (ts.map toD)), none] from rfl]
  try walk_at "dl"
  refine ⟨ok_tms hn hw, okD_nil, ?_⟩
  rw [eqD_nil, empty_map hne]
  try walk_at "dl"
  refine compN_none (fun i d P' e p => ?_) ⟨okD_nil, okD_nil, ?_⟩
  · obtain ⟨t, ht, rfl⟩ := map_get e
    exact ⟨t, rfl, (hw t ht).1, (hw t ht).2, p⟩
  · try walk_at "dl"
    rw [eqD_nil]
    exact fin h
theorem ok_is_term1 (T : Txt K mg) {k n : Nat} {q : DSp} (hn : n ≤ 20) (G_are_terms : Fn P w K mg base k (fa mg "are_terms") [] q) (hk : 1 ≤ k)
    (hq : ∀ ts C Q, ts ≠ [] → ts.length ≤ 50 → (∀ t ∈ ts, WF t ∧ 1 ≤ n ∧ hle (n - 1) t) → Q (.bl true) C → q [.lst (ts.map toD)] C Q) : Fn P w K mg base (k + 1) (fa mg "is_term") [] (sp_is_term n) := by
  have G_is_name := ok_is_name (P := P) (w := w) (base := base) T
  have G_is_whole := ok_is_whole (P := P) (w := w) (base := base) T
  refine fn_df T.d_is_term sc_is_term (fun ds C Q h => ?_) (fun cdv A outer s H E hr => ?_)
  · (obtain ⟨_, rfl, _⟩ := h; rfl)
  have hu := hr.units
  have hu1 := hu_of hr
  have nd := sc_is_term.nd
  refine ⟨_, (ds_cons (ds_if (dt_pw (dw_or (dt_not (dt_val (de_cb call_isi (cl_isi (n := "tuple")) T.isinstance bt_isinstance (da_cons (dv 0) (da_cons (dg_ty T.tuple bt_tuple) da_nil))))) (dw_or (dt_cmp op_lt ops_B0 (de_cb call_lenB cl_lenB T.len bt_len (da_cons (dv 0) da_nil)) dc_int (nomark _)) (dw_or1 (dt_not (dt_val (de_cb call_isi (cl_isi (n := "str")) T.isinstance bt_isinstance (da_cons (de_ix (dv 0) dc_int) (da_cons (dg_ty T.str bt_str) da_nil))))))))) (ds_one (ds_ret dc_bl)) ds_nil)
    (ds_cons (ds_if (dt_cmp op_inA ops_in (de_ix (dv 0) dc_int) (de_tup (da_cons dc_str (da_cons dc_str da_nil))) rfl) (ds_one (ds_ret (de_and (de_cmp (op_eqA hu) ops_eq (de_cb call_lenB cl_lenB T.len bt_len (da_cons (dv 0) da_nil)) dc_int (nomark _)) (de_and (de_call G_is_name T.d_is_name.m (hr.mono (by omega)) (da_cons (de_ix (dv 0) dc_int) da_nil)) (de_one (de_call G_is_whole T.d_is_whole.m (hr.mono (by omega)) (da_cons (de_ix (dv 0) dc_int) da_nil))))))) ds_nil)
    (ds_cons (ds_if (dt_cmp op_inA ops_in (de_ix (dv 0) dc_int) (de_tup (da_cons dc_str (da_cons dc_str da_nil))) rfl) (ds_one (ds_ret (de_and (de_cmp (op_eqA hu) ops_eq (de_cb call_lenB cl_lenB T.len bt_len (da_cons (dv 0) da_nil)) dc_int (nomark _)) (de_one (de_call G_are_terms T.d_are_terms.m (hr.mono (by omega)) (da_cons (de_ix (dv 0) dc_int) da_nil)))))) ds_nil)
    (ds_cons (ds_if (dt_pw (dw_or (dt_cmp (op_neA hu) ops_ne (de_ix (dv 0) dc_int) dc_str (nomark _)) (dw_or (dt_cmp (op_neA hu) ops_ne (de_cb call_lenB cl_lenB T.len bt_len (da_cons (dv 0) da_nil)) dc_int (nomark _)) (dw_or (dt_not (dt_val (de_call G_is_whole T.d_is_whole.m (hr.mono (by omega)) (da_cons (de_ix (dv 0) dc_int) da_nil)))) (dw_or1 (dt_not (dt_val (de_call G_are_terms T.d_are_terms.m (hr.mono (by omega)) (da_cons (de_ix (dv 0) dc_int) da_nil))))))))) (ds_one (ds_ret dc_bl)) ds_nil)
    (ds_one (ds_ret (de_chain op_le op_le ops_B0 ops_B0 dc_int (de_ix (dv 0) dc_int) (de_cb call_lenB cl_lenB T.len bt_len (da_cons (de_ix (dv 0) dc_int) da_nil))))))))), fun ds C Q h => ?_⟩
  obtain ⟨t, rfl, hw, hh, h⟩ := h
  rw [show startD N_is_term [toD t] = [some (toD t)] from rfl]
  cases t with
  | pt b nm wt =>
    simp only [WF] at hw
    simp only [toD]
    try walk_at "dl"
    refine ⟨rfl, rfl, ?_⟩
    rw [in2_w]
    try walk_at "dl"
    refine ⟨nm, rfl, hw, ?_⟩
    try walk_at "dl"
    exact ⟨wt, rfl, fin h⟩
  | nd kd ts =>
    simp only [WF] at hw
    have hts : ∀ t ∈ ts, WF t ∧ 1 ≤ n ∧ hle (n - 1) t := fun t ht => by
      cases n with
      | zero => simp [hle] at hh
      | succ m => simp only [hle] at hh; exact ⟨WFs_all hw.2.2.2 t ht, by omega, hh t ht⟩
    simp only [toD, toDs_map]
    cases kd with
    | first =>
      simp only [ndD]
      try walk_at "dl"
      refine ⟨rfl, rfl, ?_⟩
      rw [in2_f]
      try walk_at "dl"
      refine ⟨rfl, rfl, ?_⟩
      rw [in3_f]
      try walk_at "dl"
      exact hq ts C _ hw.1 hw.2.1 hts (fin h)
    | last =>
      simp only [ndD]
      try walk_at "dl"
      refine ⟨rfl, rfl, ?_⟩
      rw [in2_l]
      try walk_at "dl"
      refine ⟨rfl, rfl, ?_⟩
      rw [in3_l]
      try walk_at "dl"
      exact hq ts C _ hw.1 hw.2.1 hts (fin h)
    | rank k =>
      simp only [ndD]
      try walk_at "dl"
      refine ⟨rfl, rfl, ?_⟩
      rw [in2_r]
      try walk_at "dl"
      refine ⟨rfl, rfl, ?_⟩
      rw [in3_r]
      try walk_at "dl"
      refine ⟨_, rfl, ?_⟩
      try walk_at "dl"
      refine hq ts C _ hw.1 hw.2.1 hts ?_
      try walk_at "dl"
      have hk2 : 1 ≤ k ∧ k ≤ (ts.length : Int) := hw.2.2.1
      rw [decide_eq_true hk2.1, List.length_map, decide_eq_true hk2.2]
      try walk_at "dl"
      exact fin h
/-- both, by the depth -/
theorem ok_terms (T : Txt K mg) : ∀ n, n ≤ 20 → Fn P w K mg base (2 * n + 2) (fa mg "is_term") [] (sp_is_term n) ∧ Fn P w K mg base (2 * n + 3) (fa mg "are_terms") [] (sp_are_terms n)
  | 0, h => by
    have a := ok_is_term1 (P := P) (w := w) (base := base) (n := 0) (q := fun _ _ _ => False) T h ((fn_zero T.d_are_terms.z fun _ _ _ h => h).mono (by omega : 0 ≤ 1)) (Nat.le_refl 1) fun ts C Q hne _ ht _ => by
      cases ts with
      | nil => exact hne rfl
      | cons t r => have := (ht t (by simp)).2.1; omega
    exact ⟨a, ok_are_terms T h a⟩
  | n + 1, h => by
    have ih := (ok_terms T n (by omega)).2
    have a := ok_is_term1 (P := P) (w := w) (base := base) (n := n + 1) T h ih (by omega) fun ts C Q hne hl ht q => ⟨ts, rfl, hne, hl, fun t h => ⟨(ht t h).1, (ht t h).2.2⟩, q⟩
    exact ⟨a, ok_are_terms T h a⟩
/-! Rule -/
def sp_is_part : DSp := fun ds C Q => ∃ t, ds = [toD t] ∧ Q (.bl (isPt t)) C
theorem ok_is_part (T : Txt K mg) : Fn P w K mg base 1 (fa mg "is_part") [] sp_is_part := by
  refine fn_df T.d_is_part sc_is_part (fun ds C Q h => ?_) (fun cdv A outer s H E hr => ?_)
  · (obtain ⟨_, rfl, _⟩ := h; rfl)
  have hu := hr.units
  have hu1 := hu_of hr
  have nd := sc_is_part.nd
  refine ⟨_, (ds_one (ds_ret (de_cmp op_inA ops_in (de_ix (dv 0) dc_int) (de_tup (da_cons dc_str (da_cons dc_str da_nil))) rfl))), fun ds C Q h => ?_⟩
  obtain ⟨t, rfl, h⟩ := h
  rw [show startD N_is_part [toD t] = [some (toD t)] from rfl]
  cases t with
  | pt b nm wt =>
    simp only [toD, isPt] at h ⊢
    try walk_at "dl"
    refine ⟨rfl, rfl, ?_⟩
    rw [in2_w]
    exact fin h
  | nd kd ts =>
    simp only [toD, isPt] at h ⊢
    cases kd with
    | first => simp only [ndD]; try walk_at "dl"; refine ⟨rfl, rfl, ?_⟩; rw [in2_f]; exact fin h
    | last => simp only [ndD]; try walk_at "dl"; refine ⟨rfl, rfl, ?_⟩; rw [in2_l]; exact fin h
    | rank k => simp only [ndD]; try walk_at "dl"; refine ⟨rfl, rfl, ?_⟩; rw [in2_r]; exact fin h
def sp_with_inside : DSp := fun ds C Q => match ds with
  | [.tup [a, _], d] => Q (.tup [a, d]) C
  | [.tup [a, b, _], d] => Q (.tup [a, b, d]) C
  | _ => False
theorem ok_with_inside (T : Txt K mg) : Fn P w K mg base 1 (fa mg "with_inside") [] sp_with_inside := by
  refine fn_df T.d_with_inside sc_with_inside (fun ds C Q h => ?_) (fun cdv A outer s H E hr => ?_)
  · (unfold sp_with_inside at h; split at h <;> first | rfl | exact h.elim)
  have hu := hr.units
  have hu1 := hu_of hr
  have nd := sc_with_inside.nd
  refine ⟨_, (ds_one (ds_ret (de_op op_addA ops_add (de_sl (dv 0) dp_none (dp_some (de_un dc_int))) (de_tup (da_cons (dv 1) da_nil))))), fun ds C Q h => ?_⟩
  unfold sp_with_inside at h
  split at h
  · rename_i a x d
    rw [show startD N_with_inside [D.tup [a, x], d] = [some (.tup [a, x]), some d] from rfl]
    try walk_at "dl"
    rw [show cutD [a, x] none (some (-1)) = [a] from rfl]
    try walk_at "dl"
    exact ⟨by decide, nofun, nofun, fin h⟩
  · rename_i a b x d
    rw [show startD N_with_inside [D.tup [a, b, x], d] = [some (.tup [a, b, x]), some d] from rfl]
    try walk_at "dl"
    rw [show cutD [a, b, x] none (some (-1)) = [a, b] from rfl]
    try walk_at "dl"
    exact ⟨by decide, nofun, nofun, fin h⟩
  · exact h.elim
def sp_copied (n : Nat) : DSp := fun ds C Q => ∃ t, ds = [toD t] ∧ WF t ∧ hle n t ∧ Q (toD t) C
theorem ok_copied1 (T : Txt K mg) {k n : Nat} {q : DSp} (G_copied : Fn P w K mg base k (fa mg "copied") [] q) (hk : 1 ≤ k)
    (hq : ∀ t C Q, WF t → 1 ≤ n → hle (n - 1) t → Q (toD t) C → q [toD t] C Q) : Fn P w K mg base (k + 1) (fa mg "copied") [] (sp_copied n) := by
  have G_is_part := ok_is_part (P := P) (w := w) (base := base) T
  have G_with_inside := ok_with_inside (P := P) (w := w) (base := base) T
  refine fn_df T.d_copied sc_copied (fun ds C Q h => ?_) (fun cdv A outer s H E hr => ?_)
  · (obtain ⟨_, rfl, _⟩ := h; rfl)
  have hu := hr.units
  have hu1 := hu_of hr
  have nd := sc_copied.nd
  refine ⟨_, (ds_one (ds_ret (de_if (dt_val (de_call G_is_part T.d_is_part.m (hr.mono (by omega)) (da_cons (dv 0) da_nil))) (dv 0) (de_call G_with_inside T.d_with_inside.m (hr.mono (by omega)) (da_cons (dv 0) (da_cons (de_lcL rfl nd (de_ix (dv 0) (de_un dc_int)) (by first | (change blkC N_copied (defScope s_copied) _ _ = true; decide +kernel) | rfl) (fun _ _ _ _ _ => pg_name (i := 1) nd rfl (Or.inl rfl)) (fun _ _ _ _ _ => dp_nil) (fun _ _ _ _ _ => (de_call G_copied T.d_copied.m (hr.mono (by omega)) (da_cons (dv 1) da_nil)))) da_nil)))))), fun ds C Q h => ?_⟩
  obtain ⟨t, rfl, hw, hh, h⟩ := h
  rw [show startD N_copied [toD t] = [some (toD t), none] from rfl]
  try walk_at "dl"
  refine ⟨t, rfl, ?_⟩
  cases t with
  | pt b nm wt =>
    simp only [isPt]
    try walk_at "dl"
    exact fin h
  | nd kd ts =>
    simp only [WF] at hw
    have hts : ∀ t ∈ ts, WF t ∧ 1 ≤ n ∧ hle (n - 1) t := fun t ht => by
      cases n with
      | zero => simp [hle] at hh
      | succ m => simp only [hle] at hh; exact ⟨WFs_all hw.2.2.2 t ht, by omega, hh t ht⟩
    have hm : (ts.map toD).map _root_.id = ts.map toD := List.map_id _
    simp only [isPt, toD, toDs_map] at h ⊢
    cases kd with
    | first =>
      simp only [ndD] at h ⊢
      try walk_at "dl"
      refine compN_map _root_.id (by rw [List.length_map]; omega) (fun i d P' e p => ?_) ?_
      · obtain ⟨t, ht, rfl⟩ := map_get e
        exact hq t C _ (hts t ht).1 (hts t ht).2.1 (hts t ht).2.2 p
      · rw [hm]; exact fin h
    | last =>
      simp only [ndD] at h ⊢
      try walk_at "dl"
      refine compN_map _root_.id (by rw [List.length_map]; omega) (fun i d P' e p => ?_) ?_
      · obtain ⟨t, ht, rfl⟩ := map_get e
        exact hq t C _ (hts t ht).1 (hts t ht).2.1 (hts t ht).2.2 p
      · rw [hm]; exact fin h
    | rank k =>
      simp only [ndD] at h ⊢
      try walk_at "dl"
      refine compN_map _root_.id (by rw [List.length_map]; omega) (fun i d P' e p => ?_) ?_
      · obtain ⟨t, ht, rfl⟩ := map_get e
        exact hq t C _ (hts t ht).1 (hts t ht).2.1 (hts t ht).2.2 p
      · rw [hm]; exact fin h
theorem ok_copied (T : Txt K mg) : ∀ n, Fn P w K mg base (n + 2) (fa mg "copied") [] (sp_copied n)
  | 0 => ok_copied1 (q := fun _ _ _ => False) T ((fn_zero T.d_copied.z fun _ _ _ h => h).mono (by omega : 0 ≤ 1)) (Nat.le_refl 1) fun t C Q _ h => by omega
  | n + 1 => ok_copied1 T (ok_copied T n) (by omega) fun t C Q hw _ hh q => ⟨t, rfl, hw, hh, q⟩
def ruleD (mg : Str → Option Value) (t : Tm) : D := .ins (fa mg "Rule") [("form", toD t)]
def sp_check_rule (mg : Str → Option Value) : DSp := fun ds C Q => ∃ t, ds = [ruleD mg t] ∧ Q .non C
theorem ok_check_rule (T : Txt K mg) : Fn P w K mg base 1 (fa mg "check_rule") [] (sp_check_rule mg) := by
  refine fn_df T.d_check_rule sc_check_rule (fun ds C Q h => ?_) (fun cdv A outer s H E hr => ?_)
  · (obtain ⟨_, rfl, _⟩ := h; rfl)
  have hu := hr.units
  have hu1 := hu_of hr
  have nd := sc_check_rule.nd
  refine ⟨_, (ds_one (ds_if (dt_not (dt_val (de_cb call_isi (cl_isO T.c_Rule) T.isinstance bt_isinstance (da_cons (dv 0) (da_cons (dg_ref T.m_Rule) da_nil))))) (ds_one ds_never) ds_nil)), fun ds C Q h => ?_⟩
  obtain ⟨t, rfl, h⟩ := h
  rw [show startD N_check_rule [ruleD mg t] = [some (ruleD mg t)] from rfl]
  simp only [ruleD]
  try walk_at "dl"
  exact fin h
/-- Rule(term): the new instance's __init__ -/
def sp_Rule___init__ (mg : Str → Option Value) : DSp := fun ds C Q => ∃ a t, ds = [.cell a, toD t] ∧ C a = some (.ins (fa mg "Rule") []) ∧ WF t ∧ hle 3 t ∧ Q .non (cset C a (.ins (fa mg "Rule") [("form", toD t)]))
theorem ok_init (T : Txt K mg) : Fn P w K mg base 9 (ma K (fa mg "Rule") "__init__") [] (sp_Rule___init__ mg) := by
  have G_is_term := (ok_terms (P := P) (w := w) (base := base) T 3 (by omega)).1
  have G_copied := ok_copied (P := P) (w := w) (base := base) T 3
  refine fn_mf T.d_Rule___init__ sc_Rule___init__ (fun ds C Q h => ?_) (fun cdv A outer s H E hr => ?_)
  · (obtain ⟨_, _, rfl, _⟩ := h; rfl)
  have hu := hr.units
  have hu1 := hu_of hr
  have nd := sc_Rule___init__.nd
  refine ⟨_, (ds_cons (ds_if (dt_not (dt_val (de_call G_is_term T.d_is_term.m (hr.mono (by omega)) (da_cons (dv 1) da_nil)))) (ds_one ds_never) ds_nil)
    (ds_one (ds_setfld T.c_Rule.cl T.n_Rule_form (dv 0) (de_call G_copied T.d_copied.m (hr.mono (by omega)) (da_cons (dv 1) da_nil))))), fun ds C Q h => ?_⟩
  obtain ⟨a, t, rfl, hc, hw, hh, h⟩ := h
  rw [show startD N_Rule___init__ [.cell a, toD t] = [some (.cell a), some (toD t)] from rfl]
  try walk_at "dl"
  refine ⟨t, rfl, hw, hh, ?_⟩
  try walk_at "dl"
  refine ⟨t, rfl, hw, hh, ?_⟩
  simp only [hc]
  try walk_at "dl"
  exact ⟨by omega, fin h⟩
def sp_Rule_term (mg : Str → Option Value) : DSp := fun ds C Q => ∃ t, ds = [ruleD mg t] ∧ WF t ∧ hle 3 t ∧ Q (toD t) C
theorem ok_term (T : Txt K mg) : Fn P w K mg base 6 (ma K (fa mg "Rule") "term") [] (sp_Rule_term mg) := by
  have G_copied := ok_copied (P := P) (w := w) (base := base) T 3
  refine fn_mf T.d_Rule_term sc_Rule_term (fun ds C Q h => ?_) (fun cdv A outer s H E hr => ?_)
  · (obtain ⟨_, rfl, _⟩ := h; rfl)
  have hu := hr.units
  have hu1 := hu_of hr
  have nd := sc_Rule_term.nd
  refine ⟨_, (ds_one (ds_ret (de_call G_copied T.d_copied.m (hr.mono (by omega)) (da_cons (de_fld T.c_Rule.cl T.n_Rule_form (dv 0)) da_nil)))), fun ds C Q h => ?_⟩
  obtain ⟨t, rfl, hw, hh, h⟩ := h
  rw [show startD N_Rule_term [ruleD mg t] = [some (ruleD mg t)] from rfl]
  simp only [ruleD]
  try walk_at "dl"
  exact ⟨t, rfl, hw, hh, fin h⟩
def sp_Rule___eq__ (mg : Str → Option Value) : DSp := fun ds C Q => ∃ t u, ds = [ruleD mg t, ruleD mg u] ∧ okD (toD t) ∧ okD (toD u) ∧ (∀ b, b = eqD (toD t) (toD u) → Q (.bl b) C)
theorem ok_eq (T : Txt K mg) : Fn P w K mg base 1 (ma K (fa mg "Rule") "__eq__") [] (sp_Rule___eq__ mg) := by
  refine fn_mf T.d_Rule___eq__ sc_Rule___eq__ (fun ds C Q h => ?_) (fun cdv A outer s H E hr => ?_)
  · (obtain ⟨_, _, rfl, _⟩ := h; rfl)
  have hu := hr.units
  have hu1 := hu_of hr
  have nd := sc_Rule___eq__.nd
  refine ⟨_, (ds_one (ds_ret (de_and (de_cb call_isi (cl_isO T.c_Rule) T.isinstance bt_isinstance (da_cons (dv 1) (da_cons (dg_ref T.m_Rule) da_nil))) (de_one (de_cmp (op_eqA hu) ops_eq (de_fld T.c_Rule.cl T.n_Rule_form (dv 0)) (de_fld T.c_Rule.cl T.n_Rule_form (dv 1)) (nomark _)))))), fun ds C Q h => ?_⟩
  obtain ⟨t, u, rfl, h1, h2, h⟩ := h
  rw [show startD N_Rule___eq__ [ruleD mg t, ruleD mg u] = [some (ruleD mg t), some (ruleD mg u)] from rfl]
  simp only [ruleD]
  try walk_at "dl"
  exact eq_tm false t u C _ h1 h2 (fin (h _ rfl))
end

end K78

set_option Elab.async false
set_option linter.all false
set_option maxRecDepth 100000
set_option maxHeartbeats 1000000
namespace K78
open PySem L2 DL
local macro_rules | `(tactic| walk_at "dl") => `(tactic| simp only [dSeq, dIfS, dOr, dAnd, dNot, dTest, dCB, d1, d2, kIsi, kIsO, kLen, kStr, kIntT, kAbs, kI2, kSum, dCons, dNil, dVar, dC, slot, tyD, opt_some, kitB_ss, kitB_is, kitB_ii, kitB_ib, kitB_si, kitB_tt, kitB_ll, kitB_dd, kitB_tl, kitB_lt, kitB_ts, kitB_bb, kitB_bi,
  vw_non, vw_bl, vw_i, vw_s, vw_l, vw_t, vw_d, vw_n, vw_f, vw_v, asB, dAndV, dOrV, dNotV, dIf, dOp, dI2, dSub, dMul, dFdiv, dMod, dPow, dLt, dLe, dGt, dGe, dAdd, dRet, dRetN, dNext, dLst, dTup, dLstC, dCall, dDrop, dAsg, dName, dPar, dSets, dGTup, dIx, dSl, dPart, dNoP, dInN, dIsN, dEqN, dNeg, dFz, frz1, dFzS, dFld, dSetFld, dMth, dMake, dCallL, dChain, endsOf, dLcL, dLcS, dLcR1, dYes, dBM, mAppend, mInsert, mStarts3, mJoin, tyM, dBits, dForL, dForT, dForR1, int1, dDGet, dDIn, dDPut, dDGet2, kDict0, DL.keyOf, kListOf, kRepr, dEqP, kMax, kMin, isN, fget, fput, dForD, dLcD, dLcP, dLc2, dForE, oneL, dDcL, kLenB, kSortI, kSortD, kDictD, kDictP, kIntB, dSortSet, dLenSet, dAddT, dRep, dInDeep, dSame, dNilC, dLcR1C, dDict0, dPair0, dPairS, dDisp, keysOf', keyD,
  List.set_cons_zero, List.set_cons_succ, List.length_cons, List.length_nil, Bool.not_true, Bool.not_false, List.append_nil,
  if_true, if_false, Bool.false_eq_true, Bool.true_eq_false, ite_true, ite_false, true_and, and_true, reduceIte, List.nil_append, List.cons_append, atI_0, atI_1, atI_2, atI_3, atI_m1, List.getElem?_cons_zero, List.getElem?_cons_succ, List.getLast?_cons_cons, List.getLast?_singleton, Nat.zero_add, Nat.reduceAdd, Int.cast_ofNat_Int, Int.natCast_add, Int.natCast_one, Nat.reduceLeDiff, Int.reduceLT, Int.reduceLE, Int.reduceEq, decide_true, decide_false, Int.reduceAdd, Int.reduceNeg, Int.reduceSub, Int.reduceToNat, eq_self, ne_eq, not_true_eq_false, not_false_eq_true, List.map_cons, List.map_nil, Option.getD_some, Option.getD_none, Option.isSome_some, Option.isSome_none])
open HL
section
variable {P : Program} {w : World} {K : PySem.W.Frag} {mg : Str → Option Value} {base : Heap}
theorem name_g {j : Nat} {d : D} {ρ : DL.Env} {C : Cells} {Q : DL.Env → Cells → Prop} (h : Q (ρ.set j (some d)) C) : dName j d ρ C Q := h
theorem seq_g {t u : DS} {E : DEnds} {ρ : DL.Env} {C : Cells} (h : ∀ N : DL.Env → Cells → Prop, (∀ ρ C, u E ρ C → N ρ C) → t { E with nx := N } ρ C) : dSeq t u E ρ C := h _ fun _ _ q => q
theorem enum_inv {ds : List D} {i : Nat} {d : D} (h : (enumFrom' 0 ds)[i]? = some d) : ∃ d0, ds[i]? = some d0 ∧ d = .tup [.int (i : Int), d0] := by
  have hi : i < ds.length := by
    have := (List.getElem?_eq_some_iff.mp h).1
    rwa [enum_len] at this
  have e := enum_get 0 ds i _ (List.getElem?_eq_getElem hi)
  rw [h, Nat.zero_add] at e
  exact ⟨_, List.getElem?_eq_getElem hi, Option.some.inj e⟩
theorem map_at {ts : List Tm} {i : Nat} {d : D} (h : (ts.map toD)[i]? = some d) : ∃ t, ts[i]? = some t ∧ d = toD t := by
  rw [List.getElem?_map] at h
  cases e : ts[i]? with
  | none => rw [e] at h; cases h
  | some t => rw [e] at h; cases h; exact ⟨t, rfl, rfl⟩
theorem okD_names {zs : List Str} (h : ∀ n ∈ zs, nmOk n) : okD (.lst (zs.map D.str)) := by
  refine (Nice.lst (m := 1) fun d hd => ?_).ok (by omega)
  obtain ⟨n, hn, rfl⟩ := List.mem_map.mp hd
  exact nice_str (strOk_of fun c hc => letter_lt ((h n hn).1 c hc))
/-! ### parts, names -/
def sp_parts_from (n : Nat) : DSp := fun ds C Q => ∃ t p, ds = [toD t, .tup p] ∧ WF t ∧ hle n t ∧ (leaves t).length < 64 ∧ p.length + n ≤ 10 ∧ Q (.lst ((partsP t p).map partD)) C
theorem ok_parts_from1 (T : Txt K mg) {k n : Nat} {q : DSp} (G_parts_from : Fn P w K mg base k (fa mg "parts_from") [] q) (hk : 1 ≤ k)
    (hq : ∀ t p C Q, WF t → 1 ≤ n → hle (n - 1) t → (leaves t).length < 64 → p.length + (n - 1) ≤ 10 → Q (.lst ((partsP t p).map partD)) C → q [toD t, .tup p] C Q) : Fn P w K mg base (k + 1) (fa mg "parts_from") [] (sp_parts_from n) := by
  have G_is_part := ok_is_part (P := P) (w := w) (base := base) T
  refine fn_df T.d_parts_from sc_parts_from (fun ds C Q h => ?_) (fun cdv A outer s H E hr => ?_)
  · (obtain ⟨_, _, rfl, _⟩ := h; rfl)
  have hu := hr.units
  have hu1 := hu_of hr
  have nd := sc_parts_from.nd
  refine ⟨_, (ds_cons (ds_if (dt_val (de_call G_is_part T.d_is_part.m (hr.mono (by omega)) (da_cons (dv 0) da_nil))) (ds_one (ds_ret (de_lst (da_cons (de_tup (da_cons (dv 1) (da_cons (dv 0) da_nil))) da_nil)))) ds_nil)
    (ds_cons (ds_set (i := 2) nd (de_lst da_nil))
    (ds_cons (ds_forE rfl T.enumerate (de_ix (dv 0) (de_un dc_int)) (dg_tup rfl (gn_cons (i := 3) nd (gn_cons (i := 4) nd gn_nil))) (ds_one (ds_set (i := 2) nd (de_op op_addA ops_add (dv 2) (de_call G_parts_from T.d_parts_from.m (hr.mono (by omega)) (da_cons (dv 4) (da_cons (de_op op_catA ops_addT (dv 1) (de_tup (da_cons (dv 3) da_nil))) da_nil)))))))
    (ds_one (ds_ret (dv 2)))))), fun ds C Q h => ?_⟩
  obtain ⟨t, p, rfl, hw, hh, hlv, hp, h⟩ := h
  rw [show startD N_parts_from [toD t, .tup p] = [some (toD t), some (.tup p), none, none, none] from rfl]
  cases t with
  | pt b nm wt =>
    try walk_at "dl"
    refine ⟨.pt b nm wt, rfl, ?_⟩
    simp only [isPt]
    try walk_at "dl"
    exact fin h
  | nd kd ts =>
    simp only [WF] at hw
    have hts : ∀ t ∈ ts, WF t ∧ 1 ≤ n ∧ hle (n - 1) t := fun t ht => by
      cases n with
      | zero => simp [hle] at hh
      | succ m => simp only [hle] at hh; exact ⟨WFs_all hw.2.2.2 t ht, by omega, hh t ht⟩
    have en : ∃ pre, toD (.nd kd ts) = .tup (pre ++ [.lst (ts.map toD)]) := by
      simp only [toD, toDs_map]
      cases kd with
      | first => exact ⟨[_], rfl⟩
      | last => exact ⟨[_], rfl⟩
      | rank k => exact ⟨[_, _], rfl⟩
    obtain ⟨pre, en⟩ := en
    rw [en]
    refine seq_g fun NX hNX => ?_
    try walk_at "dl"
    refine ⟨.nd kd ts, by rw [en], ?_⟩
    simp only [isPt]
    try walk_at "dl"
    refine hNX _ _ ?_
    clear hNX
    refine seq_g fun NX hNX => ?_
    try walk_at "dl"
    refine hNX _ _ ?_
    clear hNX
    refine seq_g fun NX hNX => ?_
    try walk_at "dl"
    rw [List.getLast?_append, List.getLast?_singleton]
    simp only [Option.some_or, opt_some]
    have hl1 : 1 ≤ ts.length := by cases ts with | nil => exact absurd rfl hw.1 | cons _ _ => simp
    refine ⟨fun i ρ C' => C' = C ∧ ∃ o1 o2, ρ = [some (.tup (pre ++ [.lst (ts.map toD)])), some (.tup p), some (.lst ((partsPs (ts.take i) 0 p).map partD)), o1, o2], ⟨rfl, none, none, by simp [partsPs]⟩, ?_, ?_⟩
    · rintro i d ρ C' e ⟨rfl, o1, o2, rfl⟩
      obtain ⟨d0, e0, rfl⟩ := enum_inv e
      obtain ⟨t, et, rfl⟩ := map_at e0
      have ht := List.mem_of_getElem? et
      have hi : i < ts.length := (List.getElem?_eq_some_iff.mp et).1
      have etk : partsPs (ts.take (i + 1)) 0 p = partsPs (ts.take i) 0 p ++ partsP t (p ++ [.int (i : Int)]) := by
        rw [List.take_add_one, et, partsPs_app]
        simp [partsPs, Nat.min_eq_left (Nat.le_of_lt hi)]
      have hlt : (partsPs (ts.take i) 0 p).length + (partsP t (p ++ [.int (i : Int)])).length ≤ 64 := by
        have h1 : (partsPs ts 0 p).length < 64 := by rw [← List.length_map (f := (·.2)), partsPs_leaves]; exact hlv
        have h2 : (partsPs (ts.take (i + 1)) 0 p).length ≤ (partsPs ts 0 p).length := by
          conv => rhs; rw [← List.take_append_drop (i + 1) ts, partsPs_app]
          rw [List.length_append]; omega
        rw [etk, List.length_append] at h2
        omega
      obtain ⟨q1, q2, q3⟩ := hts t ht
      try walk_at "dl"
      refine ⟨by omega, hq t (p ++ [.int (i : Int)]) C' _ q1 q2 q3 (Nat.lt_of_le_of_lt (leavess_le ht) hlv) (by simp; omega) ?_⟩
      try walk_at "dl"
      refine ⟨by simp only [List.length_map]; omega, .of ⟨rfl, some (.int (i : Int)), some (toD t), ?_⟩⟩
      rw [etk, List.map_append]
    · rintro ρ C' ⟨rfl, o1, o2, rfl⟩
      rw [enum_len, List.length_map, List.take_length]
      refine hNX _ _ ?_
      try walk_at "dl"
      exact fin h
theorem ok_parts_from (T : Txt K mg) : ∀ n, Fn P w K mg base (n + 2) (fa mg "parts_from") [] (sp_parts_from n)
  | 0 => ok_parts_from1 (q := fun _ _ _ => False) T ((fn_zero T.d_parts_from.z fun _ _ _ h => h).mono (by omega : 0 ≤ 1)) (Nat.le_refl 1) fun t p C Q _ h => by omega
  | n + 1 => ok_parts_from1 T (ok_parts_from T n) (by omega) fun t p C Q hw _ hh hl hp q => ⟨t, p, rfl, hw, hh, hl, hp, q⟩
/-- what is asked of a rule's term -/
structure TmOk (t : Tm) : Prop where
  wf : WF t
  dp : hle 3 t
  lv : (leaves t).length < 64
def sp_names_by : DSp := fun ds C Q => ∃ t b, ds = [toD t, .str (wordOf b)] ∧ TmOk t ∧ ∀ ys : List Str, ys.Nodup → (∀ x, x ∈ ys ↔ x ∈ nms b t) → ys.length < 64 → Q (.lst (ys.map D.str)) C
theorem word_eq (a b : Bool) : (decide (wordOf a = wordOf b)) = (a == b) := by
  cases a <;> cases b <;> decide +kernel
theorem ok_names_by (T : Txt K mg) : Fn P w K mg base 6 (fa mg "names_by") [] sp_names_by := by
  have G_parts_from := ok_parts_from (P := P) (w := w) (base := base) T 3
  refine fn_df T.d_names_by sc_names_by (fun ds C Q h => ?_) (fun cdv A outer s H E hr => ?_)
  · (obtain ⟨_, _, rfl, _⟩ := h; rfl)
  have hu := hr.units
  have hu1 := hu_of hr
  have nd := sc_names_by.nd
  refine ⟨_, (ds_one (ds_ret (de_sortSet rfl T.sorted T.set bt_sorted bt_set (de_lcP rfl nd (de_call G_parts_from T.d_parts_from.m (hr.mono (by omega)) (da_cons (dv 0) (da_cons (de_tup da_nil) da_nil))) (by first | (change blkC N_names_by (defScope s_names_by) _ _ = true; decide +kernel) | rfl) (fun _ _ _ _ _ => pg_name (i := 2) nd rfl (Or.inl rfl)) (fun _ _ _ _ _ => pg_name (i := 3) nd rfl (Or.inl rfl)) (fun _ _ _ _ _ => (dp_one (dt_cmp (op_eqA hu) ops_eq (de_ix (dv 3) dc_int) (dv 1) (nomark _)))) (fun _ _ _ _ _ => (de_ix (dv 3) dc_int)))))), fun ds C Q h => ?_⟩
  obtain ⟨t, b, rfl, ht, h⟩ := h
  rw [show startD N_names_by [toD t, .str (wordOf b)] = [some (toD t), some (.str (wordOf b)), none, none] from rfl]
  try walk_at "dl"
  refine ⟨t, [], rfl, ht.wf, ht.dp, ht.lv, by simp, ?_⟩
  try walk_at "dl"
  refine ⟨⟨_, rfl⟩, compP_by (xs := partsP t []) (fun q : Part => .tup q.1) (fun q : Part => .tup [.str (wordOf q.2.1), .str q.2.2.1, .int q.2.2.2]) (fun q : Part => q.2.1 == b) (fun q : Part => .str q.2.2.1) (by rw [partsP_len]; have := ht.lv; omega) (fun q P' _ p => ?_) (fun q P' _ _ p => ?_) ?_⟩
  · try walk_at "dl"
    rw [word_eq]
    exact p
  · try walk_at "dl"
    exact p
  · try walk_at "dl"
    have e : ((partsP t []).filter fun q : Part => q.2.1 == b).map (fun q : Part => D.str q.2.2.1) = (nms b t).map D.str := by
      rw [← nms_parts b t [], List.map_map]
      rfl
    rw [e, strsOf_map, opt_some]
    have l1 := nms_len b t
    have l2 := ht.lv
    exact ⟨by omega, fun ys nd hm hl => fin (h ys nd hm (by omega))⟩
def sp_named (mg : Str → Option Value) : DSp := fun ds C Q => ∃ t, ds = [ruleD mg t] ∧ TmOk t ∧ ∀ xs ys : List Str, xs.Nodup → (∀ x, x ∈ xs ↔ x ∈ nms false t) → xs.length < 64 → ys.Nodup → (∀ x, x ∈ ys ↔ x ∈ nms true t) → ys.length < 64 → Q (.tup [.lst (xs.map D.str), .lst (ys.map D.str)]) C
theorem ok_named (T : Txt K mg) : Fn P w K mg base 7 (fa mg "named") [] (sp_named mg) := by
  have G_check_rule := ok_check_rule (P := P) (w := w) (base := base) T
  have G_names_by := ok_names_by (P := P) (w := w) (base := base) T
  refine fn_df T.d_named sc_named (fun ds C Q h => ?_) (fun cdv A outer s H E hr => ?_)
  · (obtain ⟨_, rfl, _⟩ := h; rfl)
  have hu := hr.units
  have hu1 := hu_of hr
  have nd := sc_named.nd
  refine ⟨_, (ds_cons (ds_expr (de_call G_check_rule T.d_check_rule.m (hr.mono (by omega)) (da_cons (dv 0) da_nil)))
    (ds_one (ds_ret (de_tup (da_cons (de_call G_names_by T.d_names_by.m (hr.mono (by omega)) (da_cons (de_fld T.c_Rule.cl T.n_Rule_form (dv 0)) (da_cons dc_str da_nil))) (da_cons (de_call G_names_by T.d_names_by.m (hr.mono (by omega)) (da_cons (de_fld T.c_Rule.cl T.n_Rule_form (dv 0)) (da_cons dc_str da_nil))) da_nil)))))), fun ds C Q h => ?_⟩
  obtain ⟨t, rfl, ht, h⟩ := h
  rw [show startD N_named [ruleD mg t] = [some (ruleD mg t)] from rfl]
  try walk_at "dl"
  refine ⟨t, rfl, ?_⟩
  simp only [ruleD]
  try walk_at "dl"
  refine ⟨t, false, rfl, ht, fun xs nd hm hl => ?_⟩
  try walk_at "dl"
  refine ⟨t, true, rfl, ht, fun ys nd2 hm2 hl2 => ?_⟩
  try walk_at "dl"
  exact fin (h xs ys nd hm hl nd2 hm2 hl2)
def sp_check_told_hours (mg : Str → Option Value) : DSp := fun ds C Q => ∃ (t : Tm) (ks : List Str) (h : Str → Int) (ys : List Str) (v : Str → Int), ds = [ruleD mg t, hD ks h, hD ys v] ∧ TmOk t ∧ (∀ n ∈ ks, nmOk n) ∧ (∀ n ∈ ys, nmOk n) ∧ (∀ n ∈ nms false t, n ∈ ks) ∧ (∀ n ∈ nms true t, n ∈ ys) ∧ Q .non C
theorem ok_check_told_hours (T : Txt K mg) : Fn P w K mg base 7 (fa mg "check_told_hours") [] (sp_check_told_hours mg) := by
  have G_check_hours := ok_check_hours (P := P) (w := w) (base := base) T
  have G_names_by := ok_names_by (P := P) (w := w) (base := base) T
  refine fn_df T.d_check_told_hours sc_check_told_hours (fun ds C Q h => ?_) (fun cdv A outer s H E hr => ?_)
  · (obtain ⟨_, _, _, _, _, rfl, _⟩ := h; rfl)
  have hu := hr.units
  have hu1 := hu_of hr
  have nd := sc_check_told_hours.nd
  refine ⟨_, (ds_cons (ds_expr (de_call G_check_hours T.d_check_hours.m (hr.mono (by omega)) (da_cons (dv 1) (da_cons (de_call G_names_by T.d_names_by.m (hr.mono (by omega)) (da_cons (de_fld T.c_Rule.cl T.n_Rule_form (dv 0)) (da_cons dc_str da_nil))) da_nil))))
    (ds_cons (ds_set (i := 3) nd (de_call G_names_by T.d_names_by.m (hr.mono (by omega)) (da_cons (de_fld T.c_Rule.cl T.n_Rule_form (dv 0)) (da_cons dc_str da_nil))))
    (ds_one (ds_if (dt_pw (dw_or (dt_cmp (op_neA hu) ops_ne (dv 3) (de_lst da_nil) (nomark _)) (dw_or1 (dt_cmp op_notN ops_notN (dv 2) dc_non (nomark _))))) (ds_one (ds_expr (de_call G_check_hours T.d_check_hours.m (hr.mono (by omega)) (da_cons (dv 2) (da_cons (dv 3) da_nil))))) ds_nil)))), fun ds C Q h => ?_⟩
  obtain ⟨t, ks, hh, ys, v, rfl, ht, hk, hy, h1, h2, h⟩ := h
  rw [show startD N_check_told_hours [ruleD mg t, hD ks hh, hD ys v] = [some (ruleD mg t), some (hD ks hh), some (hD ys v), none] from rfl]
  simp only [ruleD]
  refine seq_g fun NX hNX => ?_
  try walk_at "dl"
  refine ⟨t, false, rfl, ht, fun xs nd hm hl => ?_⟩
  try walk_at "dl"
  refine ⟨ks, hh, xs, rfl, hk, fun n hn => h1 n ((hm n).1 hn), ?_⟩
  refine hNX _ _ ?_
  clear hNX
  refine seq_g fun NX hNX => ?_
  try walk_at "dl"
  refine ⟨t, true, rfl, ht, fun zs nd2 hm2 hl2 => ?_⟩
  try walk_at "dl"
  refine hNX _ _ ?_
  clear hNX
  try walk_at "dl"
  have go : sp_check_hours [hD ys v, .lst (zs.map D.str)] C fun x C1 => ∃ C'', Gh C1 C'' ∧ Q .non C'' := ⟨ys, v, zs, rfl, hy, fun n hn => h2 n ((hm2 n).1 hn), fin h⟩
  refine ⟨okD_names fun n hn => hy n (h2 n ((hm2 n).1 hn)), okD_nil, ?_⟩
  rw [eqD_nil]
  cases zs with
  | nil => try walk_at "dl"; exact go
  | cons z zr => try walk_at "dl"; exact go
end

end K78

set_option Elab.async false
set_option linter.all false
set_option maxRecDepth 100000
set_option maxHeartbeats 1000000
namespace K78
open PySem L2 DL
local macro_rules | `(tactic| walk_at "dl") => `(tactic| simp only [dSeq, dIfS, dOr, dAnd, dNot, dTest, dCB, d1, d2, kIsi, kIsO, kLen, kStr, kIntT, kAbs, kI2, kSum, dCons, dNil, dVar, dC, slot, tyD, opt_some, kitB_ss, kitB_is, kitB_ii, kitB_ib, kitB_si, kitB_tt, kitB_ll, kitB_dd, kitB_tl, kitB_lt, kitB_ts, kitB_bb, kitB_bi,
  vw_non, vw_bl, vw_i, vw_s, vw_l, vw_t, vw_d, vw_n, vw_f, vw_v, asB, dAndV, dOrV, dNotV, dIf, dOp, dI2, dSub, dMul, dFdiv, dMod, dPow, dLt, dLe, dGt, dGe, dAdd, dRet, dRetN, dNext, dLst, dTup, dLstC, dCall, dDrop, dAsg, dName, dPar, dSets, dGTup, dIx, dSl, dPart, dNoP, dInN, dIsN, dEqN, dNeg, dFz, frz1, dFzS, dFld, dSetFld, dMth, dMake, dCallL, dChain, endsOf, dLcL, dLcS, dLcR1, dYes, dBM, mAppend, mInsert, mStarts3, mJoin, tyM, dBits, dForL, dForT, dForR1, int1, dDGet, dDIn, dDPut, dDGet2, kDict0, DL.keyOf, kListOf, kRepr, dEqP, kMax, kMin, isN, fget, fput, dForD, dLcD, dLcP, dLc2, dForE, oneL, dDcL, kLenB, kSortI, kSortD, kDictD, kDictP, kIntB, dSortSet, dLenSet, dAddT, dRep, dInDeep, dSame, dNilC, dLcR1C, dDict0, dPair0, dPairS, dDisp, keysOf', keyD,
  List.set_cons_zero, List.set_cons_succ, List.length_cons, List.length_nil, Bool.not_true, Bool.not_false, List.append_nil,
  if_true, if_false, Bool.false_eq_true, Bool.true_eq_false, ite_true, ite_false, true_and, and_true, reduceIte, List.nil_append, List.cons_append, atI_0, atI_1, atI_2, atI_3, atI_m1, List.getElem?_cons_zero, List.getElem?_cons_succ, List.getLast?_cons_cons, List.getLast?_singleton, Nat.zero_add, Nat.reduceAdd, Int.cast_ofNat_Int, Int.natCast_add, Int.natCast_one, Nat.reduceLeDiff, Int.reduceLT, Int.reduceLE, Int.reduceEq, decide_true, decide_false, Int.reduceAdd, Int.reduceNeg, Int.reduceSub, Int.reduceToNat, eq_self, ne_eq, not_true_eq_false, not_false_eq_true, List.map_cons, List.map_nil, Option.getD_some, Option.getD_none, Option.isSome_some, Option.isSome_none])
open HL
section
variable {P : Program} {w : World} {K : PySem.W.Frag} {mg : Str → Option Value} {base : Heap}
/-! ### what a rule tells -/
def sp_hour (n : Nat) : DSp := fun ds C Q => ∃ (t : Tm) (x y : D) (ks : List Str) (h : Str → Int) (ys : List Str) (v : Str → Int), ds = [toD t, x, y] ∧ WF t ∧ hle n t ∧ vw C x = hD ks h ∧ (∀ m ∈ nms false t, m ∈ ks) ∧ vw C y = hD ys v ∧ (∀ m ∈ nms true t, m ∈ ys) ∧ Q (.int (ev t h v)) C
theorem ints_ev (ts : List Tm) (h v : Str → Int) : intsOf ((ts.filter fun _ => true).map fun t => D.int (ev t h v)) = some (evs ts h v) := by
  rw [List.filter_eq_self.mpr (fun _ _ => rfl), evs_map, show (fun t => D.int (ev t h v)) = D.int ∘ (fun t => ev t h v) from rfl, ← List.map_map]
  exact intsOf_map _
theorem atI_map_nat (l : List Int) (k : Nat) (h : k < l.length) : atI (l.map D.int) (k : Int) = some (.int (l.getD k 0)) := by
  rw [atI_nat', List.getElem?_map, List.getElem?_eq_getElem h, List.getD_eq_getElem?_getD, List.getElem?_eq_getElem h]
  rfl
theorem last_map (l : List Int) (h : 1 ≤ l.length) : (l.map D.int).getLast? = some (.int (l.getD (l.length - 1) 0)) := by
  rw [List.getLast?_eq_getElem?, List.length_map, List.getElem?_map, List.getElem?_eq_getElem (by omega), List.getD_eq_getElem?_getD, List.getElem?_eq_getElem (by omega)]
  rfl
theorem d_same (x : Str) : (decide (x = x)) = true := decide_eq_true rfl
theorem ok_hour1 (T : Txt K mg) {k n : Nat} {q : DSp} (G_hour_of_term : Fn P w K mg base k (fa mg "hour_of_term") [] q)
    (hq : ∀ (t : Tm) (x y : D) (ks : List Str) (h : Str → Int) (ys : List Str) (v : Str → Int) (C : Cells) (Q : DK), WF t → 1 ≤ n → hle (n - 1) t → vw C x = hD ks h → (∀ m ∈ nms false t, m ∈ ks) → vw C y = hD ys v → (∀ m ∈ nms true t, m ∈ ys) → Q (.int (ev t h v)) C → q [toD t, x, y] C Q) :
    Fn P w K mg base (k + 1) (fa mg "hour_of_term") [] (sp_hour n) := by
  refine fn_df T.d_hour_of_term sc_hour_of_term (fun ds C Q h => ?_) (fun cdv A outer s H E hr => ?_)
  · (obtain ⟨_, _, _, _, _, _, _, rfl, _⟩ := h; rfl)
  have hu := hr.units
  have hu1 := hu_of hr
  have nd := sc_hour_of_term.nd
  refine ⟨_, (ds_cons (ds_if (dt_cmp (op_eqA hu) ops_eq (de_ix (dv 0) dc_int) dc_str (nomark _)) (ds_one (ds_ret (de_op op_addA ops_add (de_dget hu1 (dv 1) (de_ix (dv 0) dc_int)) (de_ix (dv 0) dc_int)))) ds_nil)
    (ds_cons (ds_if (dt_cmp (op_eqA hu) ops_eq (de_ix (dv 0) dc_int) dc_str (nomark _)) (ds_one (ds_ret (de_op op_addA ops_add (de_dget hu1 (dv 2) (de_ix (dv 0) dc_int)) (de_ix (dv 0) dc_int)))) ds_nil)
    (ds_cons (ds_set (i := 3) nd (de_cb cr_sorted cl_sortI T.sorted bt_sorted (da_cons (de_lcL rfl nd (de_ix (dv 0) (de_un dc_int)) (by first | (change blkC N_hour_of_term (defScope s_hour_of_term) _ _ = true; decide +kernel) | rfl) (fun _ _ _ _ _ => pg_name (i := 4) nd rfl (Or.inl rfl)) (fun _ _ _ _ _ => dp_nil) (fun _ _ _ _ _ => (de_call G_hour_of_term T.d_hour_of_term.m (hr.mono (by omega)) (da_cons (dv 4) (da_cons (dv 1) (da_cons (dv 2) da_nil)))))) da_nil)))
    (ds_cons (ds_if (dt_cmp (op_eqA hu) ops_eq (de_ix (dv 0) dc_int) dc_str (nomark _)) (ds_one (ds_ret (de_ix (dv 3) (de_op op_sub ops_I0 (de_ix (dv 0) dc_int) dc_int)))) ds_nil)
    (ds_one (ds_ret (de_if (dt_cmp (op_eqA hu) ops_eq (de_ix (dv 0) dc_int) dc_str (nomark _)) (de_ix (dv 3) dc_int) (de_ix (dv 3) (de_un dc_int))))))))), fun ds C Q h => ?_⟩
  obtain ⟨t, x, y, ks, hh, ys, v, rfl, hw, hl, hx, h1, hy, h2, h⟩ := h
  rw [show startD N_hour_of_term [toD t, x, y] = [some (toD t), some x, some y, none, none] from rfl]
  cases t with
  | pt b nm wt =>
    simp only [toD]
    cases b with
    | false =>
      have hm : nm ∈ ks := h1 nm (by simp [nms_pt])
      simp only [ev, Bool.false_eq_true, if_false] at h
      try walk_at "dl"
      rw [w_of]
      try rw [d_same]
      try walk_at "dl"
      rw [hx]
      simp only [hD]
      try walk_at "dl"
      rw [dval_h hm, opt_some]
      exact fin h
    | true =>
      have hm : nm ∈ ys := h2 nm (by simp [nms_pt])
      simp only [ev, if_true] at h
      try walk_at "dl"
      rw [w_now]
      rw [show (decide (("now" : Str) = "of")) = false by decide +kernel]
      try rw [d_same]
      try walk_at "dl"
      rw [hy]
      simp only [hD]
      try walk_at "dl"
      rw [dval_h hm, opt_some]
      exact fin h
  | nd kd ts =>
    simp only [WF] at hw
    have hts : ∀ t ∈ ts, WF t ∧ 1 ≤ n ∧ hle (n - 1) t := fun t ht => by
      cases n with
      | zero => simp [hle] at hl
      | succ m => simp only [hle] at hl; exact ⟨WFs_all hw.2.2.2 t ht, by omega, hl t ht⟩
    have hl1 : 1 ≤ ts.length := by cases ts with | nil => exact absurd rfl hw.1 | cons _ _ => simp
    have hll : (isort (evs ts hh v)).length = ts.length := by rw [isort_len, evs_map, List.length_map]
    have el : (isort (evs ts hh v)).length - 1 = ts.length - 1 := by rw [hll]
    have comp : ∀ (C : Cells) (P' : DK), vw C x = hD ks hh → vw C y = hD ys v → P' (.lst ((ts.filter fun _ => true).map fun t => D.int (ev t hh v))) C →
        compN (ts.map toD) 4 dYes (dCall q [] (dCons (dVar 4) (dCons (dVar 1) (dCons (dVar 2) dNil)))) [some (toD (.nd kd ts)), some x, some y, none, none] C P' := fun C P' hx hy p => by
      refine compN_by toD (fun _ => true) _ (by omega) (fun t P' _ p => p) (fun t P' ht _ p => ?_) p
      obtain ⟨g1, g2, g3⟩ := hts t ht
      try walk_at "dl"
      exact hq t x y ks hh ys v C _ g1 g2 g3 hx (fun m hm => h1 m (nms_nd.mpr ⟨t, ht, hm⟩)) hy (fun m hm => h2 m (nms_nd.mpr ⟨t, ht, hm⟩)) p
    simp only [ev] at h
    simp only [toD, toDs_map] at comp ⊢
    cases kd with
    | first =>
      simp only [ndD] at comp ⊢
      try walk_at "dl"
      rw [show (decide (("first" : Str) = "of")) = false by decide +kernel, show (decide (("first" : Str) = "now")) = false by decide +kernel]
      try walk_at "dl"
      refine comp C _ hx hy ?_
      try walk_at "dl"
      rw [ints_ev, opt_some]
      refine ⟨by rw [evs_map, List.length_map]; omega, fun ns' pm ps => ?_⟩
      rw [isort_eq pm ps]
      try walk_at "dl"
      rw [show (decide (("first" : Str) = "rank")) = false by decide +kernel]
      try rw [d_same]
      try walk_at "dl"
      rw [← atI_0, show (0 : Int) = ((0 : Nat) : Int) from rfl, atI_map_nat _ 0 (by omega), opt_some]
      exact fin h
    | last =>
      simp only [ndD] at comp ⊢
      try walk_at "dl"
      rw [show (decide (("last" : Str) = "of")) = false by decide +kernel, show (decide (("last" : Str) = "now")) = false by decide +kernel]
      try walk_at "dl"
      refine comp C _ hx hy ?_
      try walk_at "dl"
      rw [ints_ev, opt_some]
      refine ⟨by rw [evs_map, List.length_map]; omega, fun ns' pm ps => ?_⟩
      rw [isort_eq pm ps]
      try walk_at "dl"
      rw [show (decide (("last" : Str) = "rank")) = false by decide +kernel, show (decide (("last" : Str) = "first")) = false by decide +kernel]
      try walk_at "dl"
      rw [last_map _ (by omega), opt_some, el]
      exact fin h
    | rank k =>
      have hk : 1 ≤ k ∧ k ≤ (ts.length : Int) := hw.2.2.1
      simp only [ndD] at comp ⊢
      try walk_at "dl"
      rw [show (decide (("rank" : Str) = "of")) = false by decide +kernel, show (decide (("rank" : Str) = "now")) = false by decide +kernel]
      try walk_at "dl"
      refine comp C _ hx hy ?_
      try walk_at "dl"
      rw [ints_ev, opt_some]
      refine ⟨by rw [evs_map, List.length_map]; omega, fun ns' pm ps => ?_⟩
      rw [isort_eq pm ps]
      try walk_at "dl"
      try rw [d_same]
      try walk_at "dl"
      rw [show k - 1 = (((k - 1).toNat : Nat) : Int) by omega, atI_map_nat _ _ (by omega), opt_some]
      exact fin h
theorem ok_hour (T : Txt K mg) : ∀ n, Fn P w K mg base (n + 1) (fa mg "hour_of_term") [] (sp_hour n)
  | 0 => ok_hour1 (q := fun _ _ _ => False) T (fn_zero T.d_hour_of_term.z fun _ _ _ h => h) fun t x y ks h ys v C Q _ h => by omega
  | n + 1 => ok_hour1 T (ok_hour T n) fun t x y ks h ys v C Q hw _ hl hx h1 hy h2 q => ⟨t, x, y, ks, h, ys, v, rfl, hw, hl, hx, h1, hy, h2, q⟩
def sp_told (mg : Str → Option Value) : DSp := fun ds C Q => ∃ (t : Tm) (ks : List Str) (h : Str → Int) (ys : List Str) (v : Str → Int), ds = [ruleD mg t, hD ks h, hD ys v] ∧ TmOk t ∧ (∀ n ∈ ks, nmOk n) ∧ (∀ n ∈ ys, nmOk n) ∧ (∀ n ∈ nms false t, n ∈ ks) ∧ (∀ n ∈ nms true t, n ∈ ys) ∧ Q (.int (ev t h v)) C
theorem ok_told (T : Txt K mg) : Fn P w K mg base 8 (fa mg "told") [] (sp_told mg) := by
  have G_check_rule := ok_check_rule (P := P) (w := w) (base := base) T
  have G_check_told_hours := ok_check_told_hours (P := P) (w := w) (base := base) T
  have G_hour_of_term := ok_hour (P := P) (w := w) (base := base) T 3
  refine fn_dd T.d_told.d 1 (by decide) sc_told (fun _ => RA.nil) (fun ds C Q h => ?_) (fun cdv A outer s H E hr => ?_)
  · obtain ⟨_, _, _, _, _, rfl, _⟩ := h; rfl
  have hu := hr.units
  have hu1 := hu_of hr
  have nd := sc_told.nd
  refine ⟨_, (ds_cons (ds_expr (de_call G_check_rule T.d_check_rule.m (hr.mono (by omega)) (da_cons (dv 0) da_nil)))
    (ds_cons (ds_expr (de_call G_check_told_hours T.d_check_told_hours.m (hr.mono (by omega)) (da_cons (dv 0) (da_cons (dv 1) (da_cons (dv 2) da_nil)))))
    (ds_one (ds_ret (de_call G_hour_of_term T.d_hour_of_term.m (hr.mono (by omega)) (da_cons (de_fld T.c_Rule.cl T.n_Rule_form (dv 0)) (da_cons (dv 1) (da_cons (dv 2) da_nil)))))))), fun ds C Q h => ?_⟩
  obtain ⟨t, ks, hh, ys, v, rfl, ht, hk, hy, h1, h2, h⟩ := h
  rw [show startD N_told [ruleD mg t, hD ks hh, hD ys v] = [some (ruleD mg t), some (hD ks hh), some (hD ys v)] from rfl]
  refine seq_g fun NX hNX => ?_
  try walk_at "dl"
  refine ⟨t, rfl, ?_⟩
  refine hNX _ _ ?_
  clear hNX
  refine seq_g fun NX hNX => ?_
  try walk_at "dl"
  refine ⟨t, ks, hh, ys, v, rfl, ht, hk, hy, h1, h2, ?_⟩
  refine hNX _ _ ?_
  clear hNX
  simp only [ruleD]
  try walk_at "dl"
  exact ⟨t, _, _, ks, hh, ys, v, rfl, ht.wf, ht.dp, rfl, h1, rfl, h2, fin h⟩
end

end K78

set_option Elab.async false
set_option linter.all false
set_option maxRecDepth 100000
set_option maxHeartbeats 1000000
namespace K78
open PySem L2 DL
local macro_rules | `(tactic| walk_at "dl") => `(tactic| simp only [dSeq, dIfS, dOr, dAnd, dNot, dTest, dCB, d1, d2, kIsi, kIsO, kLen, kStr, kIntT, kAbs, kI2, kSum, dCons, dNil, dVar, dC, slot, tyD, opt_some, kitB_ss, kitB_is, kitB_ii, kitB_ib, kitB_si, kitB_tt, kitB_ll, kitB_dd, kitB_tl, kitB_lt, kitB_ts, kitB_bb, kitB_bi,
  vw_non, vw_bl, vw_i, vw_s, vw_l, vw_t, vw_d, vw_n, vw_f, vw_v, asB, dAndV, dOrV, dNotV, dIf, dOp, dI2, dSub, dMul, dFdiv, dMod, dPow, dLt, dLe, dGt, dGe, dAdd, dRet, dRetN, dNext, dLst, dTup, dLstC, dCall, dDrop, dAsg, dName, dPar, dSets, dGTup, dIx, dSl, dPart, dNoP, dInN, dIsN, dEqN, dNeg, dFz, frz1, dFzS, dFld, dSetFld, dMth, dMake, dCallL, dChain, endsOf, dLcL, dLcS, dLcR1, dYes, dBM, mAppend, mInsert, mStarts3, mJoin, tyM, dBits, dForL, dForT, dForR1, int1, dDGet, dDIn, dDPut, dDGet2, kDict0, DL.keyOf, kListOf, kRepr, dEqP, kMax, kMin, isN, fget, fput, dForD, dLcD, dLcP, dLc2, dForE, oneL, dDcL, kLenB, kSortI, kSortD, kDictD, kDictP, kIntB, dSortSet, dLenSet, dAddT, dRep, dInDeep, dSame, dNilC, dLcR1C, dDict0, dPair0, dPairS, dDisp, keysOf', keyD,
  List.set_cons_zero, List.set_cons_succ, List.length_cons, List.length_nil, Bool.not_true, Bool.not_false, List.append_nil,
  if_true, if_false, Bool.false_eq_true, Bool.true_eq_false, ite_true, ite_false, true_and, and_true, reduceIte, List.nil_append, List.cons_append, atI_0, atI_1, atI_2, atI_3, atI_m1, List.getElem?_cons_zero, List.getElem?_cons_succ, List.getLast?_cons_cons, List.getLast?_singleton, Nat.zero_add, Nat.reduceAdd, Int.cast_ofNat_Int, Int.natCast_add, Int.natCast_one, Nat.reduceLeDiff, Int.reduceLT, Int.reduceLE, Int.reduceEq, decide_true, decide_false, Int.reduceAdd, Int.reduceNeg, Int.reduceSub, Int.reduceToNat, eq_self, ne_eq, not_true_eq_false, not_false_eq_true, List.map_cons, List.map_nil, Option.getD_some, Option.getD_none, Option.isSome_some, Option.isSome_none])
open HL
section
variable {P : Program} {w : World} {K : PySem.W.Frag} {mg : Str → Option Value} {base : Heap}
/-! ### books -/
def pairD (mg : Str → Option Value) (p : Str × Tm) : D := .tup [.str p.1, ruleD mg p.2]
def rulesD (mg : Str → Option Value) (bk : Bk) : D := .lst (bk.map (pairD mg))
def everyK (mg : Str → Option Value) (bk : Bk) : List (Key × D) := bk.map fun p => (.inr p.1, ruleD mg p.2)
theorem dval_every {n : Str} : ∀ {bk : Bk}, dval (everyK mg bk) (.inr n) = (bk.tm n).map (ruleD mg)
  | [] => rfl
  | (m, t) :: r => by
    simp only [everyK, List.map_cons, dval, Bk.tm]
    by_cases e : m = n
    · subst e; rw [if_pos rfl, if_pos rfl]; rfl
    · rw [if_neg (fun q => e (Sum.inr.inj q)), if_neg e]
      exact dval_every
theorem dval_ev {rk : Str → Nat} {bk : Bk} {n : Str} {t : Tm} (ok : BkOk bk rk) (h : (n, t) ∈ bk) : dval (everyK mg bk) (.inr n) = some (ruleD mg t) := by
  rw [dval_every, Bk.mem_tm ok.nd h]
  rfl
theorem keys_every (bk : Bk) : keysD (everyK mg bk) = bk.names.map D.str := by
  unfold keysD everyK Bk.names
  rw [List.map_map, List.map_map]
  rfl
theorem txKeys_every : ∀ bk : Bk, txKeys (everyK mg bk) = some bk.names
  | [] => rfl
  | (n, t) :: r => by
    simp only [everyK, List.map_cons, txKeys]
    rw [show (List.map (fun p : Str × Tm => ((Sum.inr p.1 : Key), ruleD mg p.2)) r) = everyK mg r from rfl, txKeys_every r]
    rfl
def sp_are_rules (mg : Str → Option Value) : DSp := fun ds C Q => ∃ (bk : Bk) (rk : Str → Nat), ds = [rulesD mg bk] ∧ BkOk bk rk ∧ Q (.bl true) C
theorem ok_are_rules (T : Txt K mg) : Fn P w K mg base 2 (fa mg "are_rules") [] (sp_are_rules mg) := by
  have G_is_name := ok_is_name (P := P) (w := w) (base := base) T
  refine fn_df T.d_are_rules sc_are_rules (fun ds C Q h => ?_) (fun cdv A outer s H E hr => ?_)
  · (obtain ⟨_, _, rfl, _⟩ := h; rfl)
  have hu := hr.units
  have hu1 := hu_of hr
  have nd := sc_are_rules.nd
  refine ⟨_, (ds_cons (ds_if (dt_pw (dw_or (dt_not (dt_val (de_cb call_isi (cl_isi (n := "list")) T.isinstance bt_isinstance (da_cons (dv 0) (da_cons (dg_ty T.list bt_list) da_nil))))) (dw_or1 (dt_cmp (op_eqNil hr.units0) ops_nil (dv 0) (de_lst da_nil) (nomark _))))) (ds_one (ds_ret dc_bl)) ds_nil)
    (ds_cons (ds_forL rfl (dv 0) (dg_name (i := 1) nd) (ds_cons (ds_if (dt_pw (dw_or (dt_not (dt_val (de_cb call_isi (cl_isi (n := "tuple")) T.isinstance bt_isinstance (da_cons (dv 1) (da_cons (dg_ty T.tuple bt_tuple) da_nil))))) (dw_or1 (dt_cmp (op_neA hu) ops_ne (de_cb call_lenB cl_lenB T.len bt_len (da_cons (dv 1) da_nil)) dc_int (nomark _))))) (ds_one (ds_ret dc_bl)) ds_nil)
    (ds_one (ds_if (dt_pw (dw_or (dt_not (dt_val (de_call G_is_name T.d_is_name.m (hr.mono (by omega)) (da_cons (de_ix (dv 1) dc_int) da_nil)))) (dw_or1 (dt_not (dt_val (de_cb call_isi (cl_isO T.c_Rule) T.isinstance bt_isinstance (da_cons (de_ix (dv 1) dc_int) (da_cons (dg_ref T.m_Rule) da_nil)))))))) (ds_one (ds_ret dc_bl)) ds_nil))))
    (ds_one (ds_ret (de_cmp (op_eqA hu) ops_eq (de_lenSet rfl T.len T.set bt_len bt_set (de_lcP rfl nd (dv 0) (by first | (change blkC N_are_rules (defScope s_are_rules) _ _ = true; decide +kernel) | rfl) (fun _ _ _ _ _ => pg_name (i := 2) nd rfl (Or.inl rfl)) (fun _ _ _ _ _ => pg_name (i := 3) nd rfl (Or.inl rfl)) (fun _ _ _ _ _ => dp_nil) (fun _ _ _ _ _ => (dv 2)))) (de_cb call_lenB cl_lenB T.len bt_len (da_cons (dv 0) da_nil)) (nomark _)))))), fun ds C Q h => ?_⟩
  obtain ⟨bk, rk, rfl, ok, h⟩ := h
  rw [show startD N_are_rules [rulesD mg bk] = [some (rulesD mg bk), none, none, none] from rfl]
  simp only [rulesD]
  refine seq_g fun NX hNX => ?_
  try walk_at "dl"
  have hne : (bk.map (pairD mg)).isEmpty = false := by
    have := ok.ne
    cases bk with
    | nil => simp at this
    | cons _ _ => rfl
  simp only [dNilC, vw_l, hne]
  try walk_at "dl"
  refine hNX _ _ ?_
  clear hNX
  refine seq_g fun NX hNX => ?_
  try walk_at "dl"
  refine ⟨fun i ρ C' => C' = C ∧ ∃ o1, ρ = [some (.lst (bk.map (pairD mg))), o1, none, none], ⟨rfl, none, rfl⟩, ?_, ?_⟩
  · rintro i d ρ C' e ⟨rfl, o1, rfl⟩
    rw [List.getElem?_map] at e
    cases ex : bk[i]? with
    | none => rw [ex] at e; cases e
    | some p =>
      rw [ex] at e
      cases e
      have hp := ok.tm p (List.mem_of_getElem? ex)
      refine name_g ?_
      simp only [pairD, ruleD]
      try walk_at "dl"
      refine ⟨p.1, rfl, hp.1, ?_⟩
      try walk_at "dl"
      exact .of ⟨rfl, _, rfl⟩
  · rintro ρ C' ⟨rfl, o1, rfl⟩
    refine hNX _ _ ?_
    try walk_at "dl"
    refine ⟨⟨_, rfl⟩, compP_by (xs := bk) (fun p : Str × Tm => .str p.1) (fun p : Str × Tm => ruleD mg p.2) (fun _ => true) (fun p => .str p.1) (by have := ok.le; omega) (fun p P' _ q => q) (fun p P' _ _ q => ?_) ?_⟩
    · try walk_at "dl"
      exact q
    · try walk_at "dl"
      have e : (bk.filter fun _ => true).map (fun p : Str × Tm => D.str p.1) = bk.names.map D.str := by
        rw [List.filter_eq_self.mpr (fun _ _ => rfl)]
        unfold Bk.names
        rw [List.map_map]
        rfl
      rw [e, strsOf_map, opt_some]
      have hl : bk.names.length = bk.length := List.length_map ..
      have := ok.le
      refine ⟨by omega, fun n h1 => ?_⟩
      rw [h1 ok.nd, hl, List.length_map]
      try walk_at "dl"
      exact fin h
end

end K78

set_option Elab.async false
set_option linter.all false
set_option maxRecDepth 100000
set_option maxHeartbeats 1000000
namespace K78
open PySem L2 DL
local macro_rules | `(tactic| walk_at "dl") => `(tactic| simp only [dSeq, dIfS, dOr, dAnd, dNot, dTest, dCB, d1, d2, kIsi, kIsO, kLen, kStr, kIntT, kAbs, kI2, kSum, dCons, dNil, dVar, dC, slot, tyD, opt_some, kitB_ss, kitB_is, kitB_ii, kitB_ib, kitB_si, kitB_tt, kitB_ll, kitB_dd, kitB_tl, kitB_lt, kitB_ts, kitB_bb, kitB_bi,
  vw_non, vw_bl, vw_i, vw_s, vw_l, vw_t, vw_d, vw_n, vw_f, vw_v, asB, dAndV, dOrV, dNotV, dIf, dOp, dI2, dSub, dMul, dFdiv, dMod, dPow, dLt, dLe, dGt, dGe, dAdd, dRet, dRetN, dNext, dLst, dTup, dLstC, dCall, dDrop, dAsg, dName, dPar, dSets, dGTup, dIx, dSl, dPart, dNoP, dInN, dIsN, dEqN, dNeg, dFz, frz1, dFzS, dFld, dSetFld, dMth, dMake, dCallL, dChain, endsOf, dLcL, dLcS, dLcR1, dYes, dBM, mAppend, mInsert, mStarts3, mJoin, tyM, dBits, dForL, dForT, dForR1, int1, dDGet, dDIn, dDPut, dDGet2, kDict0, DL.keyOf, kListOf, kRepr, dEqP, kMax, kMin, isN, fget, fput, dForD, dLcD, dLcP, dLc2, dForE, oneL, dDcL, kLenB, kSortI, kSortD, kDictD, kDictP, kIntB, dSortSet, dLenSet, dAddT, dRep, dInDeep, dSame, dNilC, dLcR1C, dDict0, dPair0, dPairS, dDisp, keysOf', keyD,
  List.set_cons_zero, List.set_cons_succ, List.length_cons, List.length_nil, Bool.not_true, Bool.not_false, List.append_nil,
  if_true, if_false, Bool.false_eq_true, Bool.true_eq_false, ite_true, ite_false, true_and, and_true, reduceIte, List.nil_append, List.cons_append, atI_0, atI_1, atI_2, atI_3, atI_m1, List.getElem?_cons_zero, List.getElem?_cons_succ, List.getLast?_cons_cons, List.getLast?_singleton, Nat.zero_add, Nat.reduceAdd, Int.cast_ofNat_Int, Int.natCast_add, Int.natCast_one, Nat.reduceLeDiff, Int.reduceLT, Int.reduceLE, Int.reduceEq, decide_true, decide_false, Int.reduceAdd, Int.reduceNeg, Int.reduceSub, Int.reduceToNat, eq_self, ne_eq, not_true_eq_false, not_false_eq_true, List.map_cons, List.map_nil, Option.getD_some, Option.getD_none, Option.isSome_some, Option.isSome_none])
open HL
section
variable {P : Program} {w : World} {K : PySem.W.Frag} {mg : Str → Option Value} {base : Heap}
theorem dput_new {kds : List (Key × D)} {k : Key} {d : D} (h : k ∉ kds.map (·.1)) : dput kds k d = kds ++ [(k, d)] := by
  have no : (kds.any fun q => decide (q.1 = k)) = false := by
    cases hq : kds.any fun q => decide (q.1 = k) with
    | false => rfl
    | true =>
      obtain ⟨y, hy, e1⟩ := List.any_eq_true.mp hq
      exact absurd (List.mem_map.mpr ⟨y, hy, of_decide_eq_true e1⟩) h
  unfold dput
  rw [no]
  rfl
theorem keys_hg (hs : Hg) : keysD (hgK hs) = hs.keys.map D.str := by
  unfold keysD hgK Hg.keys
  rw [List.map_map, List.map_map]
  rfl
theorem txKeys_hg : ∀ hs : Hg, txKeys (hgK hs) = some hs.keys
  | [] => rfl
  | (n, t) :: r => by
    simp only [hgK, List.map_cons, txKeys]
    rw [show (List.map (fun q : Str × List Str => ((Sum.inr q.1 : Key), D.lst (q.2.map D.str))) r) = hgK r from rfl, txKeys_hg r]
    rfl
theorem filt_all {α : Type} {l : List α} {p : α → Bool} (h : ∀ x ∈ l, p x = true) : l.filter p = l := List.filter_eq_self.mpr h
def sp_hangs_of (mg : Str → Option Value) : DSp := fun ds C Q => ∃ (bk : Bk) (rk : Str → Nat), ds = [.dic (everyK mg bk)] ∧ BkOk bk rk ∧ ∀ hs : Hg, HgOk bk hs → Q (.dic (hgK hs)) C
theorem ok_hangs_of (T : Txt K mg) : Fn P w K mg base 8 (fa mg "hangs_of") [] (sp_hangs_of mg) := by
  have G_named := ok_named (P := P) (w := w) (base := base) T
  refine fn_df T.d_hangs_of sc_hangs_of (fun ds C Q h => ?_) (fun cdv A outer s H E hr => ?_)
  · (obtain ⟨_, _, rfl, _⟩ := h; rfl)
  have hu := hr.units
  have hu1 := hu_of hr
  have nd := sc_hangs_of.nd
  refine ⟨_, (ds_cons (ds_set (i := 1) nd de_dict0)
    (ds_cons (ds_forL rfl (de_cb (call_sortedD rfl) cl_sortD T.sorted bt_sorted (da_cons (dv 0) da_nil)) (dg_name (i := 2) nd) (ds_one (ds_dput hu1 (dv 1) (dv 2) (de_lcL rfl nd (de_ix (de_call G_named T.d_named.m (hr.mono (by omega)) (da_cons (de_dget hu1 (dv 0) (dv 2)) da_nil)) dc_int) (by first | (change blkC N_hangs_of (defScope s_hangs_of) _ _ = true; decide +kernel) | rfl) (fun _ _ _ _ _ => pg_name (i := 3) nd rfl (Or.inl rfl)) (fun _ _ _ _ _ => (dp_one (dt_din hu1 (dv 3) (dv 0)))) (fun _ _ _ _ _ => (dv 3))))))
    (ds_one (ds_ret (de_fz (dv 1)))))), fun ds C Q h => ?_⟩
  obtain ⟨bk, rk, rfl, ok, h⟩ := h
  rw [show startD N_hangs_of [.dic (everyK mg bk)] = [some (.dic (everyK mg bk)), none, none, none] from rfl]
  refine seq_g fun NX hNX => ?_
  try walk_at "dl"
  intro p hp
  refine hNX _ _ ?_
  clear hNX
  refine seq_g fun NX hNX => ?_
  try walk_at "dl"
  rw [txKeys_every, opt_some]
  have hnl : bk.names.length = bk.length := List.length_map ..
  have hle := ok.le
  refine ⟨by omega, fun ys pm => ?_⟩
  try walk_at "dl"
  have ndy : ys.Nodup := pm.nodup_iff.mpr ok.nd
  refine ⟨fun i ρ C' => ∃ (hs : Hg) (o1 : Option D), C' = cset C p (.dic (hgK hs)) ∧ ρ = [some (.dic (everyK mg bk)), some (.cell p), o1, none] ∧ hs.keys = ys.take i ∧ ∀ q ∈ hs, ∃ t, (q.1, t) ∈ bk ∧ (∀ x, x ∈ q.2 ↔ x ∈ nms true t) ∧ q.2.Nodup ∧ q.2.length < 64, ⟨[], none, rfl, rfl, rfl, by simp⟩, ?_, ?_⟩
  · rintro i d ρ C' e ⟨hs, o1, rfl, rfl, hk, ho⟩
    rw [List.getElem?_map] at e
    cases ex : ys[i]? with
    | none => rw [ex] at e; cases e
    | some n =>
      rw [ex] at e
      cases e
      have hi : i < ys.length := (List.getElem?_eq_some_iff.mp ex).1
      obtain ⟨t, ht⟩ := Bk.has (pm.mem_iff.mp (List.mem_of_getElem? ex))
      have htm := ok.tm _ ht
      refine name_g ?_
      try walk_at "dl"
      rw [dval_ev ok ht, opt_some]
      refine ⟨t, rfl, ⟨htm.2.1, htm.2.2, ok.lv _ ht⟩, fun xs zs _ _ _ nd hm hl => ?_⟩
      try walk_at "dl"
      refine compN_by D.str (fun _ => true) D.str (by omega) (fun z P' hz q => ?_) (fun z P' _ _ q => ?_) ?_
      · try walk_at "dl"
        obtain ⟨tz, htz⟩ := Bk.has (ok.inn _ ht true z ((hm z).1 hz))
        rw [dval_ev ok htz]
        exact q
      · try walk_at "dl"
        exact q
      · rw [filt_all fun _ _ => rfl]
        try walk_at "dl"
        rw [cset_same]
        have hnew : (Sum.inr n : Key) ∉ (hgK hs).map (·.1) := fun hn => by
          have e2 : (hgK hs).map (·.1) = hs.keys.map Sum.inr := by
            unfold hgK Hg.keys
            rw [List.map_map, List.map_map]
            rfl
          rw [e2, List.mem_map] at hn
          obtain ⟨m, hm1, hm2⟩ := hn
          cases hm2
          rw [hk] at hm1
          obtain ⟨j, hj⟩ := List.mem_iff_getElem?.mp hm1
          rw [List.getElem?_take] at hj
          split at hj
          · rename_i hji
            have hjl := (List.getElem?_eq_some_iff.mp hj).1
            have := (List.getElem?_inj hjl ndy).mp (hj.trans ex.symm)
            omega
          · cases hj
        have hkl : hs.length ≤ 6 := by
          have := congrArg List.length hk
          unfold Hg.keys at this
          rw [List.length_map, List.length_take] at this
          have := pm.length_eq
          omega
        refine ⟨by rw [hgK, List.length_map]; omega, .of ⟨hs ++ [(n, zs)], _, ?_, rfl, ?_, ?_⟩⟩
        · rw [cset_cset, dput_new hnew]
          unfold hgK
          rw [List.map_append]
          rfl
        · unfold Hg.keys at hk ⊢
          rw [List.map_append, hk, List.take_add_one, ex]
          rfl
        · intro q hq
          rcases List.mem_append.mp hq with hq | hq
          · exact ho q hq
          · rw [List.mem_singleton.mp hq]
            exact ⟨t, ht, hm, nd, hl⟩
  · rintro ρ C' ⟨hs, o1, rfl, rfl, hk, ho⟩
    rw [List.length_map, List.take_length] at hk
    refine hNX _ _ ?_
    try walk_at "dl"
    rw [cset_same]
    try walk_at "dl"
    rw [cdel_cset hp]
    exact fin (h hs ⟨by rw [hk]; exact pm, ho⟩)
/-! ### no ring -/
def waysD (ws : List (List Str)) : D := .lst (ws.map fun w => .lst (w.map D.str))
def sp_ring_of : DSp := fun ds C Q => ∃ (bk : Bk) (rk : Str → Nat) (hs : Hg), ds = [.dic (hgK hs)] ∧ BkOk bk rk ∧ HgOk bk hs ∧ Q .non C
theorem way_get {ws : List (List Str)} {i : Nat} {d : D} (h : (ws.map fun w => D.lst (w.map D.str))[i]? = some d) : ∃ w, w ∈ ws ∧ d = .lst (w.map D.str) := by
  rw [List.getElem?_map] at h
  cases e : ws[i]? with
  | none => rw [e] at h; cases h
  | some w => rw [e] at h; cases h; exact ⟨w, List.mem_of_getElem? e, rfl⟩
theorem head_at {w : List Str} (h : w ≠ []) : ∃ a b, w.head? = some a ∧ w.getLast? = some b ∧ (w.map D.str)[0]? = some (.str a) ∧ (w.map D.str).getLast? = some (.str b) := by
  cases w with
  | nil => exact absurd rfl h
  | cons a r =>
    refine ⟨a, (a :: r).getLast (by simp), rfl, List.getLast?_eq_some_getLast _, rfl, ?_⟩
    rw [List.getLast?_map, List.getLast?_eq_some_getLast (by simp)]
    rfl
theorem ok_ring_of (T : Txt K mg) : Fn P w K mg base 1 (fa mg "ring_of") [] sp_ring_of := by
  refine fn_df T.d_ring_of sc_ring_of (fun ds C Q h => ?_) (fun cdv A outer s H E hr => ?_)
  · (obtain ⟨_, _, _, rfl, _⟩ := h; rfl)
  have hu := hr.units
  have hu1 := hu_of hr
  have nd := sc_ring_of.nd
  refine ⟨_, (ds_cons (ds_setLcL (i := 1) rfl nd (de_cb (call_sortedD rfl) cl_sortD T.sorted bt_sorted (da_cons (dv 0) da_nil)) (by first | (change blkC N_ring_of (defScope s_ring_of) _ _ = true; decide +kernel) | rfl) (fun _ _ _ _ _ => pg_name (i := 4) nd rfl (Or.inl rfl)) (fun _ _ _ _ _ => dp_nil) (fun _ _ _ _ _ => (de_lst (da_cons (dv 4) da_nil))))
    (ds_cons (ds_forR1 rfl T.range (da_cons (de_cb call_lenB cl_lenB T.len bt_len (da_cons (dv 0) da_nil)) da_nil) (dg_name (i := 2) nd) (ds_cons (ds_forL rfl (dv 1) (dg_name (i := 3) nd) (ds_one (ds_if (dt_cmp op_inA ops_in (de_ix (dv 3) dc_int) (de_dget hu1 (dv 0) (de_ix (dv 3) (de_un dc_int))) rfl) (ds_one (ds_ret (dv 3))) ds_nil)))
    (ds_one (ds_setLc2 (i := 1) rfl nd (dv 1) (by first | (change blkC N_ring_of (defScope s_ring_of) _ _ = true; decide +kernel) | rfl) (fun _ _ _ _ _ => pg_name (i := 3) nd rfl (Or.inl rfl)) (fun _ _ _ _ _ => (de_dget hu1 (dv 0) (de_ix (dv 3) (de_un dc_int)))) (fun _ _ _ _ _ => pg_name (i := 5) nd rfl (Or.inl rfl)) (fun _ _ _ _ _ => (dp_one (dt_cmp op_notInA ops_in (dv 5) (dv 3) rfl))) (fun _ _ _ _ _ => (de_op op_addA ops_add (dv 3) (de_lst (da_cons (dv 5) da_nil))))))))
    (ds_one (ds_ret dc_non)))), fun ds C Q h => ?_⟩
  obtain ⟨bk, rk, hs, rfl, ok, ho, h⟩ := h
  rw [show startD N_ring_of [.dic (hgK hs)] = [some (.dic (hgK hs)), none, none, none, none, none] from rfl]
  have hl6 := ho.len ok
  have hkl : hs.keys.length = hs.length := List.length_map ..
  refine seq_g fun NX hNX => ?_
  try walk_at "dl"
  rw [txKeys_hg, opt_some]
  refine ⟨by omega, fun ys pm => ?_⟩
  try walk_at "dl"
  have hyl := pm.length_eq
  refine compN_by D.str (fun _ => true) (fun n => .lst [.str n]) (by omega) (fun z P' hz q => q) (fun z P' _ _ q => ?_) ?_
  · try walk_at "dl"
    exact q
  rw [filt_all fun _ _ => rfl]
  try walk_at "dl"
  refine hNX _ _ ?_
  clear hNX
  refine seq_g fun NX hNX => ?_
  try walk_at "dl"
  rw [show (hgK hs).length = hs.length by simp [hgK], Int.toNat_natCast]
  refine ⟨by omega, by omega, fun i ρ C' => C' = C ∧ ∃ (ws : List (List Str)) (o1 o2 : Option D), ρ = [some (.dic (hgK hs)), some (waysD ws), o1, o2, none, none] ∧ (∀ w ∈ ws, Way rk hs.keys w ∧ w.length ≤ i + 1) ∧ ws.length ≤ 6 ^ (i + 1), ⟨rfl, ys.map fun n => [n], none, none, ?_, ?_, ?_⟩, ?_, ?_⟩
  · unfold waysD
    rw [List.map_map]
    rfl
  · intro w hw
    obtain ⟨n, hn, rfl⟩ := List.mem_map.mp hw
    exact ⟨.one (pm.mem_iff.mp hn), by simp⟩
  · rw [List.length_map]; omega
  · rintro i d ρ C' e ⟨rfl, ws, o1, o2, rfl, hw, hwl⟩
    have hi : i < 6 := by
      have := (List.getElem?_eq_some_iff.mp e).1
      rw [List.length_map, List.length_range] at this
      omega
    have hwl2 : ws.length ≤ 46656 := Nat.le_trans hwl (Nat.pow_le_pow_right (by omega) (by omega : i + 1 ≤ 6))
    refine name_g ?_
    simp only [List.set_cons_succ, List.set_cons_zero]
    refine seq_g fun NY hNY => ?_
    simp only [waysD]
    try walk_at "dl"
    refine ⟨fun j ρ C2 => C2 = C' ∧ ∃ o1 o2, ρ = [some (.dic (hgK hs)), some (waysD ws), o1, o2, none, none], ⟨rfl, _, _, rfl⟩, ?_, ?_⟩
    · rintro j d ρ C' e ⟨rfl, o1, o2, rfl⟩
      obtain ⟨w, hwm, rfl⟩ := way_get e
      obtain ⟨wy, wl⟩ := hw w hwm
      obtain ⟨a, b, ha, hb, ha', hb'⟩ := head_at wy.ne
      have hbk : b ∈ hs.keys := wy.inn b (List.mem_of_getLast? hb)
      obtain ⟨_, _, hh⟩ := ho.hang ok hbk
      refine name_g ?_
      try walk_at "dl"
      rw [ha', opt_some, hb', opt_some]
      try walk_at "dl"
      rw [dval_hg hbk, opt_some]
      try walk_at "dl"
      refine ⟨rfl, flat_strsD _, ?_⟩
      rw [inD_strs, decide_eq_false fun hm => by
        have h1 := (hh a hm).2
        have h2 := wy.low a b ha hb
        omega]
      try walk_at "dl"
      exact .of ⟨rfl, _, _, rfl⟩
    · rintro ρ C' ⟨rfl, o1, o2, rfl⟩
      refine hNY _ _ ?_
      clear hNY
      simp only [waysD]
      try walk_at "dl"
      refine ⟨fun n acc C2 => C2 = C' ∧ ∃ vs : List (List Str), acc = vs.map (fun w => D.lst (w.map D.str)) ∧ vs.length ≤ 6 * n ∧ ∀ w ∈ vs, Way rk hs.keys w ∧ w.length ≤ i + 2, ⟨rfl, [], rfl, by simp, by simp⟩, ?_, ?_⟩
      · rintro n d acc C2 e ⟨rfl, vs, rfl, hvl, hv⟩
        have hn : n < 46656 := by
          have := (List.getElem?_eq_some_iff.mp e).1
          rw [List.length_map] at this
          omega
        obtain ⟨w, hwm, rfl⟩ := way_get e
        obtain ⟨wy, wl⟩ := hw w hwm
        obtain ⟨a, b, ha, hb, ha', hb'⟩ := head_at wy.ne
        have hbk : b ∈ hs.keys := wy.inn b (List.mem_of_getLast? hb)
        obtain ⟨_, h6, hh⟩ := ho.hang ok hbk
        try walk_at "dl"
        rw [hb', opt_some]
        try walk_at "dl"
        rw [dval_hg hbk, opt_some]
        refine ⟨fun k acc C3 => C3 = C2 ∧ ∃ vs : List (List Str), acc = vs.map (fun w => D.lst (w.map D.str)) ∧ vs.length ≤ 6 * n + k ∧ ∀ w ∈ vs, Way rk hs.keys w ∧ w.length ≤ i + 2, ⟨rfl, vs, rfl, by omega, hv⟩, ?_, ?_⟩
        · rintro k d acc C3 e ⟨rfl, us, rfl, hul, hu2⟩
          obtain ⟨x, hx, rfl⟩ := str_get e
          have hk6 : k < 6 := by
            have := (List.getElem?_eq_some_iff.mp e).1
            rw [List.length_map] at this
            omega
          try walk_at "dl"
          refine ⟨rfl, flat_strsD _, ?_⟩
          rw [inD_strs]
          by_cases hxw : x ∈ w
          · rw [decide_eq_true hxw]
            exact ⟨_, Gh.refl _, rfl, us, rfl, by omega, hu2⟩
          · rw [decide_eq_false hxw]
            simp only [Bool.not_false, if_true]
            refine ⟨by rw [List.length_map]; omega, by rw [List.length_map]; omega, _, Gh.refl _, rfl, us ++ [w ++ [x]], by simp, by simp; omega, fun v hv' => ?_⟩
            rcases List.mem_append.mp hv' with hv' | hv'
            · exact hu2 v hv'
            · rw [List.mem_singleton.mp hv']
              exact ⟨wy.more hb (hh x hx).1 (hh x hx).2, by simp; omega⟩
        · rintro acc C3 ⟨rfl, us, rfl, hul, hu2⟩
          rw [List.length_map] at hul
          exact ⟨_, Gh.refl _, rfl, us, rfl, by omega, hu2⟩
      · rintro acc C2 ⟨rfl, vs, rfl, hvl, hv⟩
        rw [List.length_map] at hvl
        try walk_at "dl"
        refine .of ⟨rfl, vs, _, _, rfl, hv, ?_⟩
        rw [Nat.pow_succ]
        omega
  · rintro ρ C' ⟨rfl, ws, o1, o2, rfl, hw, hwl⟩
    refine hNX _ _ ?_
    try walk_at "dl"
    exact fin h
end

end K78

set_option Elab.async false
set_option linter.all false
set_option maxRecDepth 100000
set_option maxHeartbeats 1000000
namespace K78
open PySem L2 DL
local macro_rules | `(tactic| walk_at "dl") => `(tactic| simp only [dSeq, dIfS, dOr, dAnd, dNot, dTest, dCB, d1, d2, kIsi, kIsO, kLen, kStr, kIntT, kAbs, kI2, kSum, dCons, dNil, dVar, dC, slot, tyD, opt_some, kitB_ss, kitB_is, kitB_ii, kitB_ib, kitB_si, kitB_tt, kitB_ll, kitB_dd, kitB_tl, kitB_lt, kitB_ts, kitB_bb, kitB_bi,
  vw_non, vw_bl, vw_i, vw_s, vw_l, vw_t, vw_d, vw_n, vw_f, vw_v, asB, dAndV, dOrV, dNotV, dIf, dOp, dI2, dSub, dMul, dFdiv, dMod, dPow, dLt, dLe, dGt, dGe, dAdd, dRet, dRetN, dNext, dLst, dTup, dLstC, dCall, dDrop, dAsg, dName, dPar, dSets, dGTup, dIx, dSl, dPart, dNoP, dInN, dIsN, dEqN, dNeg, dFz, frz1, dFzS, dFld, dSetFld, dMth, dMake, dCallL, dChain, endsOf, dLcL, dLcS, dLcR1, dYes, dBM, mAppend, mInsert, mStarts3, mJoin, tyM, dBits, dForL, dForT, dForR1, int1, dDGet, dDIn, dDPut, dDGet2, kDict0, DL.keyOf, kListOf, kRepr, dEqP, kMax, kMin, isN, fget, fput, dForD, dLcD, dLcP, dLc2, dForE, oneL, dDcL, kLenB, kSortI, kSortD, kDictD, kDictP, kIntB, dSortSet, dLenSet, dAddT, dRep, dInDeep, dSame, dNilC, dLcR1C, dDict0, dPair0, dPairS, dDisp, keysOf', keyD,
  List.set_cons_zero, List.set_cons_succ, List.length_cons, List.length_nil, Bool.not_true, Bool.not_false, List.append_nil,
  if_true, if_false, Bool.false_eq_true, Bool.true_eq_false, ite_true, ite_false, true_and, and_true, reduceIte, List.nil_append, List.cons_append, atI_0, atI_1, atI_2, atI_3, atI_m1, List.getElem?_cons_zero, List.getElem?_cons_succ, List.getLast?_cons_cons, List.getLast?_singleton, Nat.zero_add, Nat.reduceAdd, Int.cast_ofNat_Int, Int.natCast_add, Int.natCast_one, Nat.reduceLeDiff, Int.reduceLT, Int.reduceLE, Int.reduceEq, decide_true, decide_false, Int.reduceAdd, Int.reduceNeg, Int.reduceSub, Int.reduceToNat, eq_self, ne_eq, not_true_eq_false, not_false_eq_true, List.map_cons, List.map_nil, Option.getD_some, Option.getD_none, Option.isSome_some, Option.isSome_none])
open HL
section
variable {P : Program} {w : World} {K : PySem.W.Frag} {mg : Str → Option Value} {base : Heap}
def sp_are_whole (mg : Str → Option Value) : DSp := fun ds C Q => ∃ (bk : Bk) (rk : Str → Nat), ds = [.dic (everyK mg bk)] ∧ BkOk bk rk ∧ Q (.bl true) C
theorem ok_are_whole (T : Txt K mg) : Fn P w K mg base 9 (fa mg "are_whole") [] (sp_are_whole mg) := by
  have G_named := ok_named (P := P) (w := w) (base := base) T
  have G_ring_of := ok_ring_of (P := P) (w := w) (base := base) T
  have G_hangs_of := ok_hangs_of (P := P) (w := w) (base := base) T
  refine fn_df T.d_are_whole sc_are_whole (fun ds C Q h => ?_) (fun cdv A outer s H E hr => ?_)
  · (obtain ⟨_, _, rfl, _⟩ := h; rfl)
  have hu := hr.units
  have hu1 := hu_of hr
  have nd := sc_are_whole.nd
  refine ⟨_, (ds_cons (ds_forD rfl (dv 0) (dg_name (i := 1) nd) (ds_cons (ds_asg (de_call G_named T.d_named.m (hr.mono (by omega)) (da_cons (de_dget hu1 (dv 0) (dv 1)) da_nil)) (dg_tup rfl (gn_cons (i := 2) nd (gn_cons (i := 3) nd gn_nil))))
    (ds_one (ds_if (dt_cmp (op_neNil hr.units0) ops_nil (de_lcL rfl nd (de_op op_addA ops_add (dv 2) (dv 3)) (by first | (change blkC N_are_whole (defScope s_are_whole) _ _ = true; decide +kernel) | rfl) (fun _ _ _ _ _ => pg_name (i := 4) nd rfl (Or.inl rfl)) (fun _ _ _ _ _ => (dp_one (dt_dnotin hu1 (dv 4) (dv 0)))) (fun _ _ _ _ _ => (dv 4))) (de_lst da_nil) (nomark _)) (ds_one (ds_ret dc_bl)) ds_nil))))
    (ds_one (ds_ret (de_cmp op_isN ops_isN (de_call G_ring_of T.d_ring_of.m (hr.mono (by omega)) (da_cons (de_call G_hangs_of T.d_hangs_of.m (hr.mono (by omega)) (da_cons (dv 0) da_nil)) da_nil)) dc_non (nomark _))))), fun ds C Q h => ?_⟩
  obtain ⟨bk, rk, rfl, ok, h⟩ := h
  rw [show startD N_are_whole [.dic (everyK mg bk)] = [some (.dic (everyK mg bk)), none, none, none, none] from rfl]
  refine seq_g fun NX hNX => ?_
  try walk_at "dl"
  rw [keys_every]
  refine ⟨fun i ρ C' => C' = C ∧ ∃ o1 o2 o3, ρ = [some (.dic (everyK mg bk)), o1, o2, o3, none], ⟨rfl, none, none, none, rfl⟩, ?_, ?_⟩
  · rintro i d ρ C' e ⟨rfl, o1, o2, o3, rfl⟩
    obtain ⟨n, hn, rfl⟩ := str_get e
    obtain ⟨t, ht⟩ := Bk.has hn
    have htm := ok.tm _ ht
    refine name_g ?_
    simp only [List.set_cons_succ, List.set_cons_zero]
    refine seq_g fun NY hNY => ?_
    try walk_at "dl"
    rw [dval_ev ok ht, opt_some]
    refine ⟨t, rfl, ⟨htm.2.1, htm.2.2, ok.lv _ ht⟩, fun xs ys _ hm1 hl1 _ hm2 hl2 => ?_⟩
    try walk_at "dl"
    refine hNY _ _ ?_
    clear hNY
    try walk_at "dl"
    refine ⟨by rw [List.length_map, List.length_map]; omega, ?_⟩
    rw [← List.map_append]
    refine compN_by D.str (fun _ => false) D.str (by rw [List.length_append]; omega) (fun z P' hz q => ?_) (fun z P' _ hf => by cases hf) ?_
    · try walk_at "dl"
      have hz2 : z ∈ bk.names := by
        rcases List.mem_append.mp hz with hz | hz
        · exact ok.inn _ ht false z ((hm1 z).1 hz)
        · exact ok.inn _ ht true z ((hm2 z).1 hz)
      obtain ⟨tz, htz⟩ := Bk.has hz2
      rw [dval_ev ok htz]
      exact q
    · rw [List.filter_eq_nil_iff.mpr (fun _ _ => Bool.false_ne_true)]
      simp only [dNilC, vw_l, List.map_nil, List.isEmpty_nil]
      try walk_at "dl"
      exact .of ⟨rfl, _, _, _, rfl⟩
  · rintro ρ C' ⟨rfl, o1, o2, o3, rfl⟩
    refine hNX _ _ ?_
    try walk_at "dl"
    refine ⟨bk, rk, rfl, ok, fun hs ho => ?_⟩
    try walk_at "dl"
    refine ⟨bk, rk, hs, rfl, ok, ho, ?_⟩
    try walk_at "dl"
    exact fin h
/-! ### the order of this round -/
def ordOk (bk : Bk) (fs : List Str) : Prop := fs.Perm bk.names ∧ ∀ i n t, fs[i]? = some n → (n, t) ∈ bk → ∀ x ∈ nms true t, x ∈ fs.take i
def sp_in_turn (mg : Str → Option Value) : DSp := fun ds C Q => ∃ (bk : Bk) (rk : Str → Nat), ds = [.dic (everyK mg bk)] ∧ BkOk bk rk ∧ ∀ fs : List Str, ordOk bk fs → Q (.lst (fs.map D.str)) C
theorem strs_filter (ks : List Str) (p : Str → Bool) : (ks.filter p).map D.str = (ks.filter p).map D.str := rfl
theorem wh_g {E : DEnds} {ρ : DL.Env} {C : Cells} {c : DB} {tb : DS} (I : Nat → DL.Env → Cells → Prop) (h0 : ∃ m, I m ρ C) (h : ∀ m ρ C, I m ρ C → c ρ C fun b C1 => if b = true then tb { nx := Wk fun ρ C => ∃ m', m' < m ∧ I m' ρ C, rt := E.rt, bk := E.nx, ct := Wk fun ρ C => ∃ m', m' < m ∧ I m' ρ C } ρ C1 else E.nx ρ C1) : dWhile c tb E ρ C := ⟨I, h0, h⟩
theorem ok_in_turn (T : Txt K mg) : Fn P w K mg base 9 (fa mg "in_turn") [] (sp_in_turn mg) := by
  have G_hangs_of := ok_hangs_of (P := P) (w := w) (base := base) T
  refine fn_df T.d_in_turn sc_in_turn (fun ds C Q h => ?_) (fun cdv A outer s H E hr => ?_)
  · (obtain ⟨_, _, rfl, _⟩ := h; rfl)
  have hu := hr.units
  have hu1 := hu_of hr
  have nd := sc_in_turn.nd
  refine ⟨_, (ds_cons (ds_asg (de_tup (da_cons (de_call G_hangs_of T.d_hangs_of.m (hr.mono (by omega)) (da_cons (dv 0) da_nil)) (da_cons (de_lst da_nil) da_nil))) (dg_tup rfl (gn_cons (i := 1) nd (gn_cons (i := 2) nd gn_nil))))
    (ds_cons (ds_while (dt_cmp op_lt ops_B0 (de_cb call_lenB cl_lenB T.len bt_len (da_cons (dv 2) da_nil)) (de_cb call_lenB cl_lenB T.len bt_len (da_cons (dv 1) da_nil)) (nomark _)) (ds_cons (ds_setLcD (i := 3) rfl nd (dv 1) (by first | (change blkC N_in_turn (defScope s_in_turn) _ _ = true; decide +kernel) | rfl) (fun _ _ _ _ _ => pg_name (i := 4) nd rfl (Or.inl rfl)) (fun _ _ _ _ _ => (dp_one (dt_cmp op_notInA ops_in (dv 4) (dv 2) rfl))) (fun _ _ _ _ _ => (dv 4)))
    (ds_one (ds_set (i := 2) nd (de_op op_addA ops_add (dv 2) (de_lcL rfl nd (dv 3) (by first | (change blkC N_in_turn (defScope s_in_turn) _ _ = true; decide +kernel) | rfl) (fun _ _ _ _ _ => pg_name (i := 4) nd rfl (Or.inl rfl)) (fun _ _ _ _ _ => (dp_one (dt_cmp (op_eqNil hr.units0) ops_nil (de_lcL rfl nd (de_dget hu1 (dv 1) (dv 4)) (by first | (change blkC N_in_turn (defScope s_in_turn) _ _ = true; decide +kernel) | rfl) (fun _ _ _ _ _ => pg_name (i := 5) nd rfl (Or.inl rfl)) (fun _ _ _ _ _ => (dp_one (dt_cmp op_notInA ops_in (dv 5) (dv 2) rfl))) (fun _ _ _ _ _ => (dv 5))) (de_lst da_nil) (nomark _)))) (fun _ _ _ _ _ => (dv 4))))))))
    (ds_one (ds_ret (dv 2))))), fun ds C Q h => ?_⟩
  obtain ⟨bk, rk, rfl, ok, h⟩ := h
  rw [show startD N_in_turn [.dic (everyK mg bk)] = [some (.dic (everyK mg bk)), none, none, none, none, none] from rfl]
  refine seq_g fun NX hNX => ?_
  try walk_at "dl"
  refine ⟨bk, rk, rfl, ok, fun hs ho => ?_⟩
  try walk_at "dl"
  refine hNX _ _ ?_
  clear hNX
  have hl6 := ho.len ok
  have hkl : hs.keys.length = hs.length := List.length_map ..
  have ndk : hs.keys.Nodup := ho.pm.nodup_iff.mpr ok.nd
  refine seq_g fun NX hNX => wh_g (fun m ρ C' => C' = C ∧ ∃ (fs : List Str) (o1 : Option D), ρ = [some (.dic (everyK mg bk)), some (.dic (hgK hs)), some (.lst (fs.map D.str)), o1, none, none] ∧ fs.Nodup ∧ (∀ x ∈ fs, x ∈ hs.keys) ∧ Od hs fs ∧ m + fs.length = hs.length) ⟨hs.length, rfl, [], none, rfl, List.nodup_nil, by simp, fun i n e => by simp at e, by simp⟩ ?_
  rintro m ρ C' ⟨rfl, fs, o1, rfl, nd, hin, od, hm⟩
  try walk_at "dl"
  rw [show (hgK hs).length = hs.length by simp [hgK], List.length_map]
  by_cases hlt : fs.length < hs.length
  · rw [if_pos (by simpa using hlt)]
    rw [keys_hg]
    refine compN_by D.str (fun n => decide (n ∉ fs)) D.str (by omega) (fun z P' hz q => ?_) (fun z P' _ _ q => ?_) ?_
    · try walk_at "dl"
      refine ⟨rfl, flat_strsD _, ?_⟩
      rw [inD_strs, ← decide_not]
      exact q
    · try walk_at "dl"
      exact q
    try walk_at "dl"
    have hlater : (hs.keys.filter fun n => decide (n ∉ fs)).length ≤ 6 := Nat.le_trans (List.length_filter_le _ _) (by omega)
    have hlm : ∀ z ∈ hs.keys.filter (fun n => decide (n ∉ fs)), z ∈ hs.keys ∧ z ∉ fs := fun z hz => by
      obtain ⟨h1, h2⟩ := List.mem_filter.mp hz
      exact ⟨h1, of_decide_eq_true h2⟩
    refine compN_by D.str (fun n => ((hs.at n).filter fun x => decide (x ∉ fs)).isEmpty) D.str (by omega) (fun z P' hz q => ?_) (fun z P' _ _ q => ?_) ?_
    · have hz1 := (hlm z hz).1
      try walk_at "dl"
      rw [dval_hg hz1, opt_some]
      obtain ⟨_, g6, _⟩ := ho.hang ok hz1
      refine compN_by D.str (fun x => decide (x ∉ fs)) D.str (by omega) (fun x P' _ q => ?_) (fun x P' _ _ q => ?_) ?_
      · try walk_at "dl"
        refine ⟨rfl, flat_strsD _, ?_⟩
        rw [inD_strs, ← decide_not]
        exact q
      · try walk_at "dl"
        exact q
      · simp only [dNilC, vw_l]
        try walk_at "dl"
        rw [show (((hs.at z).filter fun x => decide (x ∉ fs)).map D.str).isEmpty = ((hs.at z).filter fun x => decide (x ∉ fs)).isEmpty by simp [List.isEmpty_iff]]
        exact q
    · try walk_at "dl"
      exact q
    try walk_at "dl"
    refine ⟨?_, ?_⟩
    · rw [List.length_map, List.length_map]
      have := List.length_filter_le (fun n => ((hs.at n).filter fun x => decide (x ∉ fs)).isEmpty) (hs.keys.filter fun n => decide (n ∉ fs))
      omega
    rw [← List.map_append]
    generalize hg : ((hs.keys.filter fun n => decide (n ∉ fs)).filter fun n => ((hs.at n).filter fun x => decide (x ∉ fs)).isEmpty) = gs
    have gm : ∀ z, z ∈ gs ↔ (z ∈ hs.keys ∧ z ∉ fs) ∧ ∀ x ∈ hs.at z, x ∈ fs := fun z => by
      rw [← hg, List.mem_filter, List.mem_filter, decide_eq_true_eq]
      refine and_congr_right fun _ => ?_
      rw [List.isEmpty_iff, List.filter_eq_nil_iff]
      exact ⟨fun k x hx => by have := k x hx; simpa using this, fun k x hx => by simpa using k x hx⟩
    have ndg : gs.Nodup := by
      rw [← hg]
      exact (ndk.sublist List.filter_sublist).sublist List.filter_sublist
    have ne : gs ≠ [] := by
      have hr : (hs.keys.filter fun n => decide (n ∉ fs)) ≠ [] := fun e => by
        have sub : ∀ x ∈ hs.keys, x ∈ fs := fun x hx => by
          have := List.filter_eq_nil_iff.mp e x hx
          simpa using this
        have := nodup_le ndk sub
        omega
      obtain ⟨z, hz, hmin⟩ := least rk hr
      have hz' := hlm z hz
      intro e
      have : z ∈ gs := (gm z).mpr ⟨hz', fun x hx => by
        obtain ⟨_, _, hh⟩ := ho.hang ok hz'.1
        obtain ⟨x1, x2⟩ := hh x hx
        by_cases hxf : x ∈ fs
        · exact hxf
        · have := hmin x (List.mem_filter.mpr ⟨x1, decide_eq_true hxf⟩)
          omega⟩
      rw [e] at this
      cases this
    have hgl : 1 ≤ gs.length := by
      cases gs with
      | nil => exact absurd rfl ne
      | cons _ _ => simp
    have nd2 : (fs ++ gs).Nodup := List.nodup_append.mpr ⟨nd, ndg, fun a ha b hb e => ((gm b).mp hb).1.2 (e ▸ ha)⟩
    have hin2 : ∀ x ∈ fs ++ gs, x ∈ hs.keys := fun x hx => by
      rcases List.mem_append.mp hx with hx | hx
      · exact hin x hx
      · exact ((gm x).mp hx).1.1
    have hl2 := nodup_le nd2 hin2
    rw [List.length_append] at hl2
    refine .of ⟨m - gs.length, by omega, rfl, fs ++ gs, _, rfl, nd2, hin2, od.app fun n hn x hx => ((gm n).mp hn).2 x hx, by rw [List.length_append]; omega⟩
  · rw [if_neg (by simpa using hlt)]
    refine hNX _ _ ?_
    try walk_at "dl"
    have pm : fs.Perm hs.keys := perm_of nd hin (by omega)
    exact fin (h fs ⟨pm.trans ho.pm, fun i n t e ht x hx => od i n e x ((ho.at_of ok ht x).2 hx)⟩)
end

end K78

set_option Elab.async false
set_option linter.all false
set_option maxRecDepth 100000
set_option maxHeartbeats 1000000
namespace K78
open PySem L2 DL
local macro_rules | `(tactic| walk_at "dl") => `(tactic| simp only [dSeq, dIfS, dOr, dAnd, dNot, dTest, dCB, d1, d2, kIsi, kIsO, kLen, kStr, kIntT, kAbs, kI2, kSum, dCons, dNil, dVar, dC, slot, tyD, opt_some, kitB_ss, kitB_is, kitB_ii, kitB_ib, kitB_si, kitB_tt, kitB_ll, kitB_dd, kitB_tl, kitB_lt, kitB_ts, kitB_bb, kitB_bi,
  vw_non, vw_bl, vw_i, vw_s, vw_l, vw_t, vw_d, vw_n, vw_f, vw_v, asB, dAndV, dOrV, dNotV, dIf, dOp, dI2, dSub, dMul, dFdiv, dMod, dPow, dLt, dLe, dGt, dGe, dAdd, dRet, dRetN, dNext, dLst, dTup, dLstC, dCall, dDrop, dAsg, dName, dPar, dSets, dGTup, dIx, dSl, dPart, dNoP, dInN, dIsN, dEqN, dNeg, dFz, frz1, dFzS, dFld, dSetFld, dMth, dMake, dCallL, dChain, endsOf, dLcL, dLcS, dLcR1, dYes, dBM, mAppend, mInsert, mStarts3, mJoin, tyM, dBits, dForL, dForT, dForR1, int1, dDGet, dDIn, dDPut, dDGet2, kDict0, DL.keyOf, kListOf, kRepr, dEqP, kMax, kMin, isN, fget, fput, dForD, dLcD, dLcP, dLc2, dForE, oneL, dDcL, kLenB, kSortI, kSortD, kDictD, kDictP, kIntB, dSortSet, dLenSet, dAddT, dRep, dInDeep, dSame, dNilC, dLcR1C, dDict0, dPair0, dPairS, dDisp, keysOf', keyD,
  List.set_cons_zero, List.set_cons_succ, List.length_cons, List.length_nil, Bool.not_true, Bool.not_false, List.append_nil,
  if_true, if_false, Bool.false_eq_true, Bool.true_eq_false, ite_true, ite_false, true_and, and_true, reduceIte, List.nil_append, List.cons_append, atI_0, atI_1, atI_2, atI_3, atI_m1, List.getElem?_cons_zero, List.getElem?_cons_succ, List.getLast?_cons_cons, List.getLast?_singleton, Nat.zero_add, Nat.reduceAdd, Int.cast_ofNat_Int, Int.natCast_add, Int.natCast_one, Nat.reduceLeDiff, Int.reduceLT, Int.reduceLE, Int.reduceEq, decide_true, decide_false, Int.reduceAdd, Int.reduceNeg, Int.reduceSub, Int.reduceToNat, eq_self, ne_eq, not_true_eq_false, not_false_eq_true, List.map_cons, List.map_nil, Option.getD_some, Option.getD_none, Option.isSome_some, Option.isSome_none])
open HL
section
variable {P : Program} {w : World} {K : PySem.W.Frag} {mg : Str → Option Value} {base : Heap}
def bookD (mg : Str → Option Value) (bk : Bk) : D := .ins (fa mg "Book") [("every", .dic (everyK mg bk))]
def sp_Book___init__ (mg : Str → Option Value) : DSp := fun ds C Q => ∃ (a : Addr) (bk : Bk) (rk : Str → Nat), ds = [.cell a, rulesD mg bk] ∧ C a = some (.ins (fa mg "Book") []) ∧ BkOk bk rk ∧ Q .non (cset C a (.ins (fa mg "Book") [("every", .dic (everyK mg bk))]))
theorem everyK_keys (bk : Bk) : (everyK mg bk).map (·.1) = bk.names.map Sum.inr := by
  unfold everyK Bk.names
  rw [List.map_map, List.map_map]
  rfl
theorem not_take {fs : List Str} {i : Nat} {n : Str} (nd : fs.Nodup) (h : fs[i]? = some n) : n ∉ fs.take i := fun hm => by
  obtain ⟨j, hj⟩ := List.mem_iff_getElem?.mp hm
  rw [List.getElem?_take] at hj
  split at hj
  · rename_i hji
    have hjl := (List.getElem?_eq_some_iff.mp hj).1
    have := (List.getElem?_inj hjl nd).mp (hj.trans h.symm)
    omega
  · cases hj
theorem take_succ' {α : Type} {l : List α} {i : Nat} {x : α} (h : l[i]? = some x) : l.take (i + 1) = l.take i ++ [x] := by
  rw [List.take_add_one, h]; rfl
theorem inr_mem {l : List Str} {n : Str} : (Sum.inr n : Key) ∈ l.map Sum.inr ↔ n ∈ l := by
  rw [List.mem_map]
  exact ⟨fun ⟨m, h, e⟩ => by cases e; exact h, fun h => ⟨n, h, rfl⟩⟩
theorem ok_Book_init (T : Txt K mg) : Fn P w K mg base 10 (ma K (fa mg "Book") "__init__") [] (sp_Book___init__ mg) := by
  have G_are_rules := ok_are_rules (P := P) (w := w) (base := base) T
  have G_are_whole := ok_are_whole (P := P) (w := w) (base := base) T
  refine fn_mf T.d_Book___init__ sc_Book___init__ (fun ds C Q h => ?_) (fun cdv A outer s H E hr => ?_)
  · (obtain ⟨_, _, _, rfl, _⟩ := h; rfl)
  have hu := hr.units
  have hu1 := hu_of hr
  have nd := sc_Book___init__.nd
  refine ⟨_, (ds_cons (ds_if (dt_not (dt_val (de_call G_are_rules T.d_are_rules.m (hr.mono (by omega)) (da_cons (dv 1) da_nil)))) (ds_one ds_never) ds_nil)
    (ds_cons (ds_set (i := 2) nd de_dict0)
    (ds_cons (ds_forL rfl (dv 1) (dg_tup rfl (gn_cons (i := 3) nd (gn_cons (i := 4) nd gn_nil))) (ds_one (ds_dput hu1 (dv 2) (dv 3) (dv 4))))
    (dss_fz 2 (ds_cons (ds_if (dt_not (dt_val (de_call G_are_whole T.d_are_whole.m (hr.mono (by omega)) (da_cons (dv 2) da_nil)))) (ds_one ds_never) ds_nil)
    (ds_one (ds_setfld T.c_Book.cl T.n_Book_every (dv 0) (dv 2)))))))), fun ds C Q h => ?_⟩
  obtain ⟨a, bk, rk, rfl, hc, ok, h⟩ := h
  rw [show startD N_Book___init__ [.cell a, rulesD mg bk] = [some (.cell a), some (rulesD mg bk), none, none, none] from rfl]
  refine seq_g fun NX hNX => ?_
  try walk_at "dl"
  refine ⟨bk, rk, rfl, ok, ?_⟩
  try walk_at "dl"
  refine hNX _ _ ?_
  clear hNX
  refine seq_g fun NX hNX => ?_
  try walk_at "dl"
  intro p hp
  have hpa : p ≠ a := fun e => by rw [e, hc] at hp; cases hp
  refine hNX _ _ ?_
  clear hNX
  refine seq_g fun NX hNX => ?_
  simp only [rulesD]
  try walk_at "dl"
  refine ⟨fun i ρ C' => C' = cset C p (.dic (everyK mg (bk.take i))) ∧ ∃ o1 o2, ρ = [some (.cell a), some (rulesD mg bk), some (.cell p), o1, o2], ⟨by rw [List.take_zero]; rfl, none, none, rfl⟩, ?_, ?_⟩
  · rintro i d ρ C' e ⟨rfl, o1, o2, rfl⟩
    rw [List.getElem?_map] at e
    cases ex : bk[i]? with
    | none => rw [ex] at e; cases e
    | some q =>
      rw [ex] at e
      cases e
      have hi : i < bk.length := (List.getElem?_eq_some_iff.mp ex).1
      have h6 := ok.le
      simp only [pairD]
      try walk_at "dl"
      rw [cset_same]
      have hnew : (Sum.inr q.1 : Key) ∉ (everyK mg (bk.take i)).map (·.1) := by
        rw [everyK_keys, inr_mem]
        unfold Bk.names
        rw [List.map_take]
        refine not_take ok.nd ?_
        show (bk.map (·.1))[i]? = some q.1
        rw [List.getElem?_map, ex]
        rfl
      refine ⟨by rw [everyK, List.length_map, List.length_take]; omega, .of ⟨?_, _, _, rfl⟩⟩
      rw [cset_cset, dput_new hnew, take_succ' ex]
      unfold everyK
      rw [List.map_append]
      rfl
  · rintro ρ C' ⟨rfl, o1, o2, rfl⟩
    rw [List.length_map, List.take_length]
    refine hNX _ _ ?_
    clear hNX
    try walk_at "dl"
    rw [cset_same]
    try walk_at "dl"
    rw [cdel_cset hp]
    try walk_at "dl"
    refine ⟨bk, rk, rfl, ok, ?_⟩
    try walk_at "dl"
    rw [hc]
    try walk_at "dl"
    exact ⟨by omega, fin h⟩
def sp_Book_names (mg : Str → Option Value) : DSp := fun ds C Q => ∃ (bk : Bk), ds = [bookD mg bk] ∧ bk.length ≤ 6 ∧ ∀ ys : List Str, ys.Perm bk.names → Q (.lst (ys.map D.str)) C
theorem ok_Book_names (T : Txt K mg) : Fn P w K mg base 1 (ma K (fa mg "Book") "names") [] (sp_Book_names mg) := by
  refine fn_mf T.d_Book_names sc_Book_names (fun ds C Q h => ?_) (fun cdv A outer s H E hr => ?_)
  · (obtain ⟨_, rfl, _⟩ := h; rfl)
  have hu := hr.units
  have hu1 := hu_of hr
  have nd := sc_Book_names.nd
  refine ⟨_, (ds_one (ds_ret (de_cb (call_sortedD rfl) cl_sortD T.sorted bt_sorted (da_cons (de_fld T.c_Book.cl T.n_Book_every (dv 0)) da_nil)))), fun ds C Q h => ?_⟩
  obtain ⟨bk, rfl, hl, h⟩ := h
  rw [show startD N_Book_names [bookD mg bk] = [some (bookD mg bk)] from rfl]
  simp only [bookD]
  try walk_at "dl"
  rw [txKeys_every, opt_some]
  refine ⟨by rw [Bk.names, List.length_map]; omega, fun ys pm => fin (h ys pm)⟩
def sp_check_book (mg : Str → Option Value) : DSp := fun ds C Q => ∃ (bk : Bk), ds = [bookD mg bk] ∧ Q .non C
theorem ok_check_book (T : Txt K mg) : Fn P w K mg base 1 (fa mg "check_book") [] (sp_check_book mg) := by
  refine fn_df T.d_check_book sc_check_book (fun ds C Q h => ?_) (fun cdv A outer s H E hr => ?_)
  · (obtain ⟨_, rfl, _⟩ := h; rfl)
  have hu := hr.units
  have hu1 := hu_of hr
  have nd := sc_check_book.nd
  refine ⟨_, (ds_one (ds_if (dt_not (dt_val (de_cb call_isi (cl_isO T.c_Book) T.isinstance bt_isinstance (da_cons (dv 0) (da_cons (dg_ref T.m_Book) da_nil))))) (ds_one ds_never) ds_nil)), fun ds C Q h => ?_⟩
  obtain ⟨bk, rfl, h⟩ := h
  rw [show startD N_check_book [bookD mg bk] = [some (bookD mg bk)] from rfl]
  simp only [bookD]
  try walk_at "dl"
  exact fin h
/-! ### the next hours -/
theorem hK_keys (ks : List Str) (h : Str → Int) : (hK ks h).map (·.1) = ks.map Sum.inr := by
  unfold hK
  rw [List.map_map]
  rfl
theorem hK_app (ks : List Str) (n : Str) (h : Str → Int) : hK ks h ++ [(.inr n, .int (h n))] = hK (ks ++ [n]) h := by
  unfold hK
  rw [List.map_append]
  rfl
theorem hK_len (ks : List Str) (h : Str → Int) : (hK ks h).length = ks.length := List.length_map ..
def sp_next_hours (mg : Str → Option Value) : DSp := fun ds C Q => ∃ (bk : Bk) (rk : Str → Nat) (ks : List Str) (h : Str → Int), ds = [bookD mg bk, hD ks h] ∧ BkOk bk rk ∧ (∀ n ∈ ks, nmOk n) ∧ (∀ n ∈ bk.names, n ∈ ks) ∧ ∀ ys : List Str, ys.Perm bk.names → Q (hD ys (nx bk h)) C
theorem _root_.HL.BkOk.nm {bk : Bk} {rk : Str → Nat} (ok : BkOk bk rk) {n : Str} (h : n ∈ bk.names) : nmOk n := by
  obtain ⟨t, ht⟩ := Bk.has h
  exact (ok.tm _ ht).1
theorem _root_.HL.BkOk.nl {bk : Bk} {rk : Str → Nat} (ok : BkOk bk rk) : bk.names.length ≤ 6 := by
  unfold Bk.names
  rw [List.length_map]
  exact ok.le
theorem ok_next_hours (T : Txt K mg) : Fn P w K mg base 10 (fa mg "next_hours") [] (sp_next_hours mg) := by
  have G_in_turn := ok_in_turn (P := P) (w := w) (base := base) T
  have G_told := ok_told (P := P) (w := w) (base := base) T
  have G_Book_names := ok_Book_names (P := P) (w := w) (base := base) T
  refine fn_df T.d_next_hours sc_next_hours (fun ds C Q h => ?_) (fun cdv A outer s H E hr => ?_)
  · (obtain ⟨_, _, _, _, rfl, _⟩ := h; rfl)
  have hu := hr.units
  have hu1 := hu_of hr
  have nd := sc_next_hours.nd
  refine ⟨_, (ds_cons (ds_set (i := 2) nd de_dict0)
    (ds_cons (ds_forL rfl (de_call G_in_turn T.d_in_turn.m (hr.mono (by omega)) (da_cons (de_fld T.c_Book.cl T.n_Book_every (dv 0)) da_nil)) (dg_name (i := 3) nd) (ds_one (ds_dput hu1 (dv 2) (dv 3) (de_call G_told T.d_told.m (hr.mono (by omega)) (da_cons (de_dget hu1 (de_fld T.c_Book.cl T.n_Book_every (dv 0)) (dv 3)) (da_cons (dv 1) (da_cons (de_fz (de_ct call_dictD cl_dictD T.dict bt_dict (da_cons (dv 2) da_nil))) da_nil)))))))
    (ds_one (ds_ret (de_dcL rfl nd (de_mth0 G_Book_names T.c_Book.cl T.d_Book_names.me (hr.mono (by omega)) (dv 0)) (by first | (change blkC N_next_hours (defScope s_next_hours) _ _ = true; decide +kernel) | rfl) (fun _ _ _ _ _ => pg_name (i := 3) nd rfl (Or.inl rfl)) (fun _ _ _ _ _ => (dv 3)) (fun _ _ _ _ _ => (de_dget hu1 (dv 2) (dv 3)))))))), fun ds C Q h => ?_⟩
  obtain ⟨bk, rk, ks, hh, rfl, ok, hk, hn, h⟩ := h
  have h6 := ok.nl
  rw [show startD N_next_hours [bookD mg bk, hD ks hh] = [some (bookD mg bk), some (hD ks hh), none, none] from rfl]
  refine seq_g fun NX hNX => ?_
  try walk_at "dl"
  intro p hp
  refine hNX _ _ ?_
  clear hNX
  refine seq_g fun NX hNX => ?_
  simp only [bookD]
  try walk_at "dl"
  refine ⟨bk, rk, rfl, ok, fun fs ho => ?_⟩
  try walk_at "dl"
  have ndf : fs.Nodup := ho.1.nodup_iff.mpr ok.nd
  have hfl := ho.1.length_eq
  refine ⟨fun i ρ C' => C' = cset C p (.dic (hK (fs.take i) (nx bk hh))) ∧ ∃ o1, ρ = [some (bookD mg bk), some (hD ks hh), some (.cell p), o1], ⟨by rw [List.take_zero]; rfl, none, rfl⟩, ?_, ?_⟩
  · rintro i d ρ C' e ⟨rfl, o1, rfl⟩
    rw [List.getElem?_map] at e
    cases ex : fs[i]? with
    | none => rw [ex] at e; cases e
    | some n =>
      rw [ex] at e
      cases e
      have hnn : n ∈ bk.names := ho.1.mem_iff.mp (List.mem_of_getElem? ex)
      obtain ⟨t, ht⟩ := Bk.has hnn
      have htm := ok.tm _ ht
      refine name_g ?_
      simp only [bookD]
      try walk_at "dl"
      rw [dval_ev ok ht, opt_some, vw_cd cset_same]
      try walk_at "dl"
      intro q hq
      rw [cset_same]
      try walk_at "dl"
      rw [cdel_cset hq]
      refine ⟨t, ks, hh, fs.take i, nx bk hh, rfl, ⟨htm.2.1, htm.2.2, ok.lv _ ht⟩, hk, fun m hm => ok.nm (ho.1.mem_iff.mp (List.mem_of_mem_take hm)), fun m hm => hn m (ok.inn _ ht false m hm), fun m hm => ho.2 i n t ex ht m hm, ?_⟩
      rw [← nx_eq ok hh ht]
      try walk_at "dl"
      rw [cset_same]
      have hnew : (Sum.inr n : Key) ∉ (hK (fs.take i) (nx bk hh)).map (·.1) := by
        rw [hK_keys, inr_mem]
        exact not_take ndf ex
      refine ⟨by rw [hK_len, List.length_take]; omega, .of ⟨?_, _, rfl⟩⟩
      rw [cset_cset, dput_new hnew, take_succ' ex, hK_app]
  · rintro ρ C' ⟨rfl, o1, rfl⟩
    rw [List.length_map, List.take_length]
    refine hNX _ _ ?_
    simp only [bookD]
    try walk_at "dl"
    refine ⟨if_neg (by decide +kernel), bk, rfl, ok.le, fun ys pm => ?_⟩
    try walk_at "dl"
    have ndy : ys.Nodup := pm.nodup_iff.mpr ok.nd
    refine compD_by D.str (fun n => .inr n) (fun n => .int (nx bk hh n)) (by have := pm.length_eq; omega) ?_ (fun n P' _ q => ?_) (fun n P' hm q => ?_) ?_
    · exact List.pairwise_map.mpr (ndy.imp fun hne e => hne (by cases e; rfl))
    · try walk_at "dl"
      exact q _ rfl
    · try walk_at "dl"
      rw [vw_cd cset_same]
      try walk_at "dl"
      rw [dval_h (ho.1.mem_iff.mpr (pm.mem_iff.mp hm)), opt_some]
      exact q
    · exact fin_sub (h ys pm) (Sub.cset (Sub.refl C) hp)
end

end K78

set_option Elab.async false
set_option linter.all false
set_option maxRecDepth 100000
set_option maxHeartbeats 1000000
namespace K78
open PySem L2 DL
local macro_rules | `(tactic| walk_at "dl") => `(tactic| simp only [dSeq, dIfS, dOr, dAnd, dNot, dTest, dCB, d1, d2, kIsi, kIsO, kLen, kStr, kIntT, kAbs, kI2, kSum, dCons, dNil, dVar, dC, slot, tyD, opt_some, kitB_ss, kitB_is, kitB_ii, kitB_ib, kitB_si, kitB_tt, kitB_ll, kitB_dd, kitB_tl, kitB_lt, kitB_ts, kitB_bb, kitB_bi,
  vw_non, vw_bl, vw_i, vw_s, vw_l, vw_t, vw_d, vw_n, vw_f, vw_v, asB, dAndV, dOrV, dNotV, dIf, dOp, dI2, dSub, dMul, dFdiv, dMod, dPow, dLt, dLe, dGt, dGe, dAdd, dRet, dRetN, dNext, dLst, dTup, dLstC, dCall, dDrop, dAsg, dName, dPar, dSets, dGTup, dIx, dSl, dPart, dNoP, dInN, dIsN, dEqN, dNeg, dFz, frz1, dFzS, dFld, dSetFld, dMth, dMake, dCallL, dChain, endsOf, dLcL, dLcS, dLcR1, dYes, dBM, mAppend, mInsert, mStarts3, mJoin, tyM, dBits, dForL, dForT, dForR1, int1, dDGet, dDIn, dDPut, dDGet2, kDict0, DL.keyOf, kListOf, kRepr, dEqP, kMax, kMin, isN, fget, fput, dForD, dLcD, dLcP, dLc2, dForE, oneL, dDcL, kLenB, kSortI, kSortD, kDictD, kDictP, kIntB, dSortSet, dLenSet, dAddT, dRep, dInDeep, dSame, dNilC, dLcR1C, dDict0, dPair0, dPairS, dDisp, keysOf', keyD,
  List.set_cons_zero, List.set_cons_succ, List.length_cons, List.length_nil, Bool.not_true, Bool.not_false, List.append_nil,
  if_true, if_false, Bool.false_eq_true, Bool.true_eq_false, ite_true, ite_false, true_and, and_true, reduceIte, List.nil_append, List.cons_append, atI_0, atI_1, atI_2, atI_3, atI_m1, List.getElem?_cons_zero, List.getElem?_cons_succ, List.getLast?_cons_cons, List.getLast?_singleton, Nat.zero_add, Nat.reduceAdd, Int.cast_ofNat_Int, Int.natCast_add, Int.natCast_one, Nat.reduceLeDiff, Int.reduceLT, Int.reduceLE, Int.reduceEq, decide_true, decide_false, Int.reduceAdd, Int.reduceNeg, Int.reduceSub, Int.reduceToNat, eq_self, ne_eq, not_true_eq_false, not_false_eq_true, List.map_cons, List.map_nil, Option.getD_some, Option.getD_none, Option.isSome_some, Option.isSome_none])
open HL
section
variable {P : Program} {w : World} {K : PySem.W.Frag} {mg : Str → Option Value} {base : Heap}
/-! ### halls -/
def stD (mg : Str → Option Value) (bk : Bk) (ks : List Str) (h : Str → Int) (r : Int) : D := .ins (fa mg "State") [("book_now", bookD mg bk), ("hours_now", hD ks h), ("rounds_now", .int r)]
def pastD (ps : List (D × D)) : D := .lst (ps.map fun p => .tup [p.1, p.2])
def hallC (mg : Str → Option Value) (st : D) (ps : List (D × D)) : Cell := .ins (fa mg "Hall") [("state", st), ("past", pastD ps), ("later", .lst [])]
def sp_State___init__ (mg : Str → Option Value) : DSp := fun ds C Q => ∃ (a : Addr) (x y z : D), ds = [.cell a, x, y, z] ∧ C a = some (.ins (fa mg "State") []) ∧ Q .non (cset C a (.ins (fa mg "State") [("book_now", x), ("hours_now", y), ("rounds_now", z)]))
theorem ok_State_init (T : Txt K mg) : Fn P w K mg base 1 (ma K (fa mg "State") "__init__") [] (sp_State___init__ mg) := by
  refine fn_mf T.d_State___init__ sc_State___init__ (fun ds C Q h => ?_) (fun cdv A outer s H E hr => ?_)
  · (obtain ⟨_, _, _, _, rfl, _⟩ := h; rfl)
  have hu := hr.units
  have hu1 := hu_of hr
  have nd := sc_State___init__.nd
  refine ⟨_, (ds_cons (ds_setfld T.c_State.cl T.n_State_book_now (dv 0) (dv 1))
    (ds_cons (ds_setfld T.c_State.cl T.n_State_hours_now (dv 0) (dv 2))
    (ds_one (ds_setfld T.c_State.cl T.n_State_rounds_now (dv 0) (dv 3))))), fun ds C Q h => ?_⟩
  obtain ⟨a, x, y, z, rfl, hc, h⟩ := h
  rw [show startD N_State___init__ [.cell a, x, y, z] = [some (.cell a), some x, some y, some z] from rfl]
  try walk_at "dl"
  rw [hc]
  try walk_at "dl"
  refine ⟨by omega, ?_⟩
  rw [cset_same]
  try walk_at "dl"
  rw [if_neg (by decide +kernel)]
  rw [cset_cset, cset_same]
  try walk_at "dl"
  rw [if_neg (by decide +kernel), if_neg (by decide +kernel)]
  rw [cset_cset]
  exact ⟨by omega, by omega, fin h⟩
structure HallOk (mg : Str → Option Value) (bk : Bk) (rk : Str → Nat) (ks : List Str) (ps : List (D × D)) : Prop where
  ok : BkOk bk rk
  pm : ks.Perm bk.names
  pl : ps.length ≤ 1000
def sp_Hall___init__ (mg : Str → Option Value) : DSp := fun ds C Q => ∃ (a : Addr) (bk : Bk) (rk : Str → Nat) (ks : List Str) (h : Str → Int), ds = [.cell a, bookD mg bk, hD ks h] ∧ C a = some (.ins (fa mg "Hall") []) ∧ BkOk bk rk ∧ ks.Perm bk.names ∧ Q .non (cset C a (hallC mg (stD mg bk ks h 0) []))
theorem ok_Hall_init (T : Txt K mg) : Fn P w K mg base 5 (ma K (fa mg "Hall") "__init__") [] (sp_Hall___init__ mg) := by
  have G_check_book := ok_check_book (P := P) (w := w) (base := base) T
  have G_check_just_hours := ok_check_just_hours (P := P) (w := w) (base := base) T
  have G_Book_names := ok_Book_names (P := P) (w := w) (base := base) T
  have G_State___init__ := ok_State_init (P := P) (w := w) (base := base) T
  refine fn_mf T.d_Hall___init__ sc_Hall___init__ (fun ds C Q h => ?_) (fun cdv A outer s H E hr => ?_)
  · (obtain ⟨_, _, _, _, _, rfl, _⟩ := h; rfl)
  have hu := hr.units
  have hu1 := hu_of hr
  have nd := sc_Hall___init__.nd
  refine ⟨_, (ds_cons (ds_expr (de_call G_check_book T.d_check_book.m (hr.mono (by omega)) (da_cons (dv 1) da_nil)))
    (ds_cons (ds_expr (de_call G_check_just_hours T.d_check_just_hours.m (hr.mono (by omega)) (da_cons (dv 2) (da_cons (de_mth0 G_Book_names T.c_Book.cl T.d_Book_names.me (hr.mono (by omega)) (dv 1)) da_nil))))
    (ds_cons (ds_setfld T.c_Hall.cl T.n_Hall_state (dv 0) (de_fz (de_make T.k_State G_State___init__ T.m_State (hr.mono (by omega)) (da_cons (dv 1) (da_cons (de_fz (de_ct call_dictD cl_dictD T.dict bt_dict (da_cons (dv 2) da_nil))) (da_cons dc_int da_nil))))))
    (ds_cons (ds_setfld T.c_Hall.cl T.n_Hall_past (dv 0) (de_lst da_nil))
    (ds_one (ds_setfld T.c_Hall.cl T.n_Hall_later (dv 0) (de_lst da_nil))))))), fun ds C Q h => ?_⟩
  obtain ⟨a, bk, rk, ks, hh, rfl, hc, ok, pm, h⟩ := h
  rw [show startD N_Hall___init__ [.cell a, bookD mg bk, hD ks hh] = [some (.cell a), some (bookD mg bk), some (hD ks hh)] from rfl]
  refine seq_g fun NX hNX => ?_
  try walk_at "dl"
  refine ⟨bk, rfl, ?_⟩
  refine hNX _ _ ?_
  clear hNX
  refine seq_g fun NX hNX => ?_
  simp only [bookD]
  try walk_at "dl"
  refine ⟨if_neg (by decide +kernel), bk, rfl, ok.le, fun ys py => ?_⟩
  try walk_at "dl"
  refine ⟨ks, hh, ys, rfl, fun n hn => ok.nm (pm.mem_iff.mp hn), fun n hn => pm.mem_iff.mpr (py.mem_iff.mp hn), by rw [pm.length_eq, py.length_eq], ?_⟩
  refine hNX _ _ ?_
  clear hNX
  refine seq_g fun NX hNX => ?_
  simp only [hD]
  try walk_at "dl"
  intro p hp
  rw [cset_same]
  try walk_at "dl"
  rw [cdel_cset hp]
  intro q hq
  have hqa : q ≠ a := fun e => by rw [e, hc] at hq; cases hq
  refine ⟨q, _, _, _, rfl, cset_same, ?_⟩
  try walk_at "dl"
  rw [cset_cset, cset_same]
  try walk_at "dl"
  rw [cdel_cset hq, hc]
  try walk_at "dl"
  refine ⟨by omega, ?_⟩
  refine hNX _ _ ?_
  clear hNX
  try walk_at "dl"
  rw [cset_same]
  try walk_at "dl"
  rw [if_neg (by decide +kernel)]
  refine ⟨by omega, ?_⟩
  rw [cset_cset, cset_same]
  try walk_at "dl"
  rw [if_neg (by decide +kernel), if_neg (by decide +kernel)]
  rw [cset_cset]
  exact ⟨by omega, fin h⟩
end

end K78

set_option Elab.async false
set_option linter.all false
set_option maxRecDepth 100000
set_option maxHeartbeats 1000000
namespace K78
open PySem L2 DL
local macro_rules | `(tactic| walk_at "dl") => `(tactic| simp only [dSeq, dIfS, dOr, dAnd, dNot, dTest, dCB, d1, d2, kIsi, kIsO, kLen, kStr, kIntT, kAbs, kI2, kSum, dCons, dNil, dVar, dC, slot, tyD, opt_some, kitB_ss, kitB_is, kitB_ii, kitB_ib, kitB_si, kitB_tt, kitB_ll, kitB_dd, kitB_tl, kitB_lt, kitB_ts, kitB_bb, kitB_bi,
  vw_non, vw_bl, vw_i, vw_s, vw_l, vw_t, vw_d, vw_n, vw_f, vw_v, asB, dAndV, dOrV, dNotV, dIf, dOp, dI2, dSub, dMul, dFdiv, dMod, dPow, dLt, dLe, dGt, dGe, dAdd, dRet, dRetN, dNext, dLst, dTup, dLstC, dCall, dDrop, dAsg, dName, dPar, dSets, dGTup, dIx, dSl, dPart, dNoP, dInN, dIsN, dEqN, dNeg, dFz, frz1, dFzS, dFld, dSetFld, dMth, dMake, dCallL, dChain, endsOf, dLcL, dLcS, dLcR1, dYes, dBM, mAppend, mInsert, mStarts3, mJoin, tyM, dBits, dForL, dForT, dForR1, int1, dDGet, dDIn, dDPut, dDGet2, kDict0, DL.keyOf, kListOf, kRepr, dEqP, kMax, kMin, isN, fget, fput, dForD, dLcD, dLcP, dLc2, dForE, oneL, dDcL, kLenB, kSortI, kSortD, kDictD, kDictP, kIntB, dSortSet, dLenSet, dAddT, dRep, dInDeep, dSame, dNilC, dLcR1C, dDict0, dPair0, dPairS, dDisp, keysOf', keyD,
  List.set_cons_zero, List.set_cons_succ, List.length_cons, List.length_nil, Bool.not_true, Bool.not_false, List.append_nil,
  if_true, if_false, Bool.false_eq_true, Bool.true_eq_false, ite_true, ite_false, true_and, and_true, reduceIte, List.nil_append, List.cons_append, atI_0, atI_1, atI_2, atI_3, atI_m1, List.getElem?_cons_zero, List.getElem?_cons_succ, List.getLast?_cons_cons, List.getLast?_singleton, Nat.zero_add, Nat.reduceAdd, Int.cast_ofNat_Int, Int.natCast_add, Int.natCast_one, Nat.reduceLeDiff, Int.reduceLT, Int.reduceLE, Int.reduceEq, decide_true, decide_false, Int.reduceAdd, Int.reduceNeg, Int.reduceSub, Int.reduceToNat, eq_self, ne_eq, not_true_eq_false, not_false_eq_true, List.map_cons, List.map_nil, Option.getD_some, Option.getD_none, Option.isSome_some, Option.isSome_none])
open HL
section
variable {P : Program} {w : World} {K : PySem.W.Frag} {mg : Str → Option Value} {base : Heap}
theorem vw_hall {C : Cells} {a : Addr} {st : D} {ps : List (D × D)} (h : C a = some (hallC mg st ps)) : vw C (.cell a) = .ins (fa mg "Hall") [("state", st), ("past", pastD ps), ("later", .lst [])] := vw_cn h
def sp_Hall_hours (mg : Str → Option Value) : DSp := fun ds C Q => ∃ (a : Addr) (bk : Bk) (ks : List Str) (h : Str → Int) (r : Int) (ps : List (D × D)), ds = [.cell a] ∧ C a = some (hallC mg (stD mg bk ks h r) ps) ∧ ∀ p, C p = none → Q (.cell p) (cset C p (.dic (hK ks h)))
theorem ok_Hall_hours (T : Txt K mg) : Fn P w K mg base 1 (ma K (fa mg "Hall") "hours") [] (sp_Hall_hours mg) := by
  refine fn_mf T.d_Hall_hours sc_Hall_hours (fun ds C Q h => ?_) (fun cdv A outer s H E hr => ?_)
  · (obtain ⟨_, _, _, _, _, _, rfl, _⟩ := h; rfl)
  have hu := hr.units
  have hu1 := hu_of hr
  have nd := sc_Hall_hours.nd
  refine ⟨_, (ds_one (ds_ret (de_ct call_dictD cl_dictD T.dict bt_dict (da_cons (de_fld T.c_State.cl T.n_State_hours_now (de_fld T.c_Hall.cl T.n_Hall_state (dv 0))) da_nil)))), fun ds C Q h => ?_⟩
  obtain ⟨a, bk, ks, hh, r, ps, rfl, hc, h⟩ := h
  rw [show startD N_Hall_hours [.cell a] = [some (.cell a)] from rfl]
  try walk_at "dl"
  rw [vw_hall hc]
  simp only [stD]
  try walk_at "dl"
  rw [if_neg (by decide +kernel)]
  simp only [hD]
  try walk_at "dl"
  intro p hp
  exact fin (h p hp)
def sp_Hall_rounds (mg : Str → Option Value) : DSp := fun ds C Q => ∃ (a : Addr) (bk : Bk) (ks : List Str) (h : Str → Int) (r : Int) (ps : List (D × D)), ds = [.cell a] ∧ C a = some (hallC mg (stD mg bk ks h r) ps) ∧ Q (.int r) C
theorem ok_Hall_rounds (T : Txt K mg) : Fn P w K mg base 1 (ma K (fa mg "Hall") "rounds") [] (sp_Hall_rounds mg) := by
  refine fn_mf T.d_Hall_rounds sc_Hall_rounds (fun ds C Q h => ?_) (fun cdv A outer s H E hr => ?_)
  · (obtain ⟨_, _, _, _, _, _, rfl, _⟩ := h; rfl)
  have hu := hr.units
  have hu1 := hu_of hr
  have nd := sc_Hall_rounds.nd
  refine ⟨_, (ds_one (ds_ret (de_fld T.c_State.cl T.n_State_rounds_now (de_fld T.c_Hall.cl T.n_Hall_state (dv 0))))), fun ds C Q h => ?_⟩
  obtain ⟨a, bk, ks, hh, r, ps, rfl, hc, h⟩ := h
  rw [show startD N_Hall_rounds [.cell a] = [some (.cell a)] from rfl]
  try walk_at "dl"
  rw [vw_hall hc]
  simp only [stD]
  try walk_at "dl"
  rw [if_neg (by decide +kernel), if_neg (by decide +kernel)]
  try walk_at "dl"
  exact fin h
def sp_Hall_log (mg : Str → Option Value) : DSp := fun ds C Q => ∃ (a : Addr) (st : D) (ps : List (D × D)), ds = [.cell a] ∧ C a = some (hallC mg st ps) ∧ ps.length ≤ 1000 ∧ Q (.lst (ps.map (·.1))) C
theorem ok_Hall_log (T : Txt K mg) : Fn P w K mg base 1 (ma K (fa mg "Hall") "log") [] (sp_Hall_log mg) := by
  refine fn_mf T.d_Hall_log sc_Hall_log (fun ds C Q h => ?_) (fun cdv A outer s H E hr => ?_)
  · (obtain ⟨_, _, _, rfl, _⟩ := h; rfl)
  have hu := hr.units
  have hu1 := hu_of hr
  have nd := sc_Hall_log.nd
  refine ⟨_, (ds_one (ds_ret (de_lcP rfl nd (de_fld T.c_Hall.cl T.n_Hall_past (dv 0)) (by first | (change blkC N_Hall_log (defScope s_Hall_log) _ _ = true; decide +kernel) | rfl) (fun _ _ _ _ _ => pg_name (i := 1) nd rfl (Or.inl rfl)) (fun _ _ _ _ _ => pg_name (i := 2) nd rfl (Or.inl rfl)) (fun _ _ _ _ _ => dp_nil) (fun _ _ _ _ _ => (dv 1))))), fun ds C Q h => ?_⟩
  obtain ⟨a, st, ps, rfl, hc, hl, h⟩ := h
  rw [show startD N_Hall_log [.cell a] = [some (.cell a), none, none] from rfl]
  try walk_at "dl"
  rw [vw_hall hc]
  try walk_at "dl"
  rw [if_neg (by decide +kernel)]
  simp only [pastD]
  try walk_at "dl"
  refine ⟨⟨_, rfl⟩, compP_by (xs := ps) (fun p : D × D => p.1) (fun p : D × D => p.2) (fun _ => true) (fun p => p.1) (by omega) (fun p P' _ q => q) (fun p P' _ _ q => ?_) ?_⟩
  · try walk_at "dl"
    exact q
  · rw [filt_all fun _ _ => rfl]
    exact fin h
def sp_Hall_made (mg : Str → Option Value) : DSp := fun ds C Q => ∃ (a : Addr) (st : D) (ps : List (D × D)) (e x y z : D), ds = [.cell a, e, x, y, z] ∧ C a = some (hallC mg st ps) ∧ ps.length ≤ 1000 ∧ Q .non (cset C a (hallC mg (.ins (fa mg "State") [("book_now", x), ("hours_now", y), ("rounds_now", z)]) (ps ++ [(e, st)])))
theorem ok_Hall_made (T : Txt K mg) : Fn P w K mg base 3 (ma K (fa mg "Hall") "made") [] (sp_Hall_made mg) := by
  have G_State___init__ := ok_State_init (P := P) (w := w) (base := base) T
  refine fn_mf T.d_Hall_made sc_Hall_made (fun ds C Q h => ?_) (fun cdv A outer s H E hr => ?_)
  · (obtain ⟨_, _, _, _, _, _, _, rfl, _⟩ := h; rfl)
  have hu := hr.units
  have hu1 := hu_of hr
  have nd := sc_Hall_made.nd
  refine ⟨_, (ds_cons (ds_setfld T.c_Hall.cl T.n_Hall_past (dv 0) (de_op op_addA ops_add (de_fld T.c_Hall.cl T.n_Hall_past (dv 0)) (de_lst (da_cons (de_tup (da_cons (dv 1) (da_cons (de_fld T.c_Hall.cl T.n_Hall_state (dv 0)) da_nil))) da_nil))))
    (ds_cons (ds_setfld T.c_Hall.cl T.n_Hall_later (dv 0) (de_lst da_nil))
    (ds_one (ds_setfld T.c_Hall.cl T.n_Hall_state (dv 0) (de_fz (de_make T.k_State G_State___init__ T.m_State (hr.mono (by omega)) (da_cons (dv 2) (da_cons (dv 3) (da_cons (dv 4) da_nil))))))))), fun ds C Q h => ?_⟩
  obtain ⟨a, st, ps, e, x, y, z, rfl, hc, hl, h⟩ := h
  rw [show startD N_Hall_made [.cell a, e, x, y, z] = [some (.cell a), some e, some x, some y, some z] from rfl]
  refine seq_g fun NX hNX => ?_
  try walk_at "dl"
  rw [vw_hall hc]
  try walk_at "dl"
  rw [if_neg (by decide +kernel)]
  try walk_at "dl"
  simp only [pastD]
  try walk_at "dl"
  rw [hc]
  simp only [hallC]
  try walk_at "dl"
  rw [if_neg (by decide +kernel)]
  refine ⟨by rw [List.length_map]; omega, by omega, ?_⟩
  refine hNX _ _ ?_
  clear hNX
  refine seq_g fun NX hNX => ?_
  try walk_at "dl"
  rw [cset_same]
  try walk_at "dl"
  rw [if_neg (by decide +kernel), if_neg (by decide +kernel)]
  refine ⟨by omega, ?_⟩
  refine hNX _ _ ?_
  clear hNX
  rw [cset_cset]
  try walk_at "dl"
  intro q hq
  have hqa : q ≠ a := fun e => by rw [e, cset_same] at hq; cases hq
  refine ⟨q, _, _, _, rfl, cset_same, ?_⟩
  try walk_at "dl"
  rw [cset_cset, cset_same]
  try walk_at "dl"
  rw [cdel_cset hq, cset_same]
  try walk_at "dl"
  refine ⟨by omega, ?_⟩
  rw [cset_cset]
  refine fin ?_
  simp only [hallC, pastD] at h
  rw [List.map_append] at h
  exact h
/-! ### rounds, lateness -/
def roundD (m : Int) : D := .tup [.str "round", .int m]
def sp_Hall_round (mg : Str → Option Value) : DSp := fun ds C Q => ∃ (a : Addr) (bk : Bk) (rk : Str → Nat) (ks : List Str) (h : Str → Int) (r : Int) (ps : List (D × D)) (m : Nat), ds = [.cell a, .int (m : Int)] ∧ C a = some (hallC mg (stD mg bk ks h r) ps) ∧ BkOk bk rk ∧ ks.Perm bk.names ∧ ps.length ≤ 1000 ∧ m ≤ 1000 ∧
  ∀ ks' : List Str, ks'.Perm bk.names → Q (hD ks' (itn bk m h)) (cset C a (hallC mg (stD mg bk ks' (itn bk m h) (r + (m : Int))) (ps ++ [(roundD (m : Int), stD mg bk ks h r)])))
theorem body_round (T : Txt K mg) (j : Nat) (hj : j ≤ 1) (dds : List D) (hdd : ∀ Hs, RA K Hs dds (([.int 1] : List V).drop j)) : Fn P w K mg base 12 (ma K (fa mg "Hall") "round") dds (sp_Hall_round mg) := by
  have G_check_count_2 := ok_check_count2 (P := P) (w := w) (base := base) T
  have G_next_hours := ok_next_hours (P := P) (w := w) (base := base) T
  have G_Hall_made := ok_Hall_made (P := P) (w := w) (base := base) T
  refine fn_dd T.d_Hall_round.d j hj sc_Hall_round hdd (fun ds C Q h => ?_) (fun cdv A outer s H E hr => ?_)
  · obtain ⟨_, _, _, _, _, _, _, _, rfl, _⟩ := h; rfl
  have hu := hr.units
  have hu1 := hu_of hr
  have nd := sc_Hall_round.nd
  refine ⟨_, (ds_cons (ds_expr (de_call G_check_count_2 T.d_check_count.m (hr.mono (by omega)) (da_cons (dv 1) da_nil)))
    (ds_cons (ds_set (i := 2) nd (de_fld T.c_State.cl T.n_State_hours_now (de_fld T.c_Hall.cl T.n_Hall_state (dv 0))))
    (ds_cons (ds_forR1 rfl T.range (da_cons (dv 1) da_nil) (dg_name (i := 3) nd) (ds_one (ds_set (i := 2) nd (de_call G_next_hours T.d_next_hours.m (hr.mono (by omega)) (da_cons (de_fld T.c_State.cl T.n_State_book_now (de_fld T.c_Hall.cl T.n_Hall_state (dv 0))) (da_cons (dv 2) da_nil))))))
    (ds_cons (ds_expr (de_mth G_Hall_made T.c_Hall.cl T.d_Hall_made.me (hr.mono (by omega)) (dv 0) (da_cons (de_tup (da_cons dc_str (da_cons (dv 1) da_nil))) (da_cons (de_fld T.c_State.cl T.n_State_book_now (de_fld T.c_Hall.cl T.n_Hall_state (dv 0))) (da_cons (dv 2) (da_cons (de_op op_addA ops_add (de_fld T.c_State.cl T.n_State_rounds_now (de_fld T.c_Hall.cl T.n_Hall_state (dv 0))) (dv 1)) da_nil))))))
    (ds_one (ds_ret (de_fz (de_ct call_dictD cl_dictD T.dict bt_dict (da_cons (dv 2) da_nil))))))))), fun ds C Q h => ?_⟩
  obtain ⟨a, bk, rk, ks, hh, r, ps, m, rfl, hc, ok, pm, hl, hm, h⟩ := h
  rw [show startD N_Hall_round [.cell a, .int (m : Int)] = [some (.cell a), some (.int (m : Int)), none, none] from rfl]
  refine seq_g fun NX hNX => ?_
  try walk_at "dl"
  refine ⟨(m : Int), rfl, by omega, ?_⟩
  refine hNX _ _ ?_
  clear hNX
  refine seq_g fun NX hNX => ?_
  try walk_at "dl"
  rw [vw_hall hc]
  simp only [stD]
  try walk_at "dl"
  rw [if_neg (by decide +kernel)]
  try walk_at "dl"
  refine hNX _ _ ?_
  clear hNX
  refine seq_g fun NX hNX => ?_
  try walk_at "dl"
  rw [Int.toNat_natCast]
  refine ⟨by omega, by omega, fun i ρ C' => C' = C ∧ ∃ (ks' : List Str) (o1 : Option D), ks'.Perm bk.names ∧ ρ = [some (.cell a), some (.int (m : Int)), some (hD ks' (itn bk i hh)), o1], ⟨rfl, ks, none, pm, rfl⟩, ?_, ?_⟩
  · rintro i d ρ C' e ⟨rfl, ks', o1, pm', rfl⟩
    refine name_g ?_
    try walk_at "dl"
    rw [vw_hall hc]
    simp only [stD]
    try walk_at "dl"
    refine ⟨bk, rk, ks', itn bk i hh, rfl, ok, fun n hn => ok.nm (pm'.mem_iff.mp hn), fun n hn => pm'.mem_iff.mpr hn, fun ys py => ?_⟩
    try walk_at "dl"
    exact .of ⟨rfl, ys, _, py, rfl⟩
  · rintro ρ C' ⟨rfl, ks', o1, pm', rfl⟩
    rw [List.length_map, List.length_range]
    refine hNX _ _ ?_
    clear hNX
    refine seq_g fun NX hNX => ?_
    try walk_at "dl"
    rw [vw_hall hc]
    simp only [stD]
    try walk_at "dl"
    rw [if_neg (by decide +kernel), if_neg (by decide +kernel)]
    try walk_at "dl"
    refine ⟨if_neg (by decide +kernel), a, _, ps, _, _, _, _, rfl, hc, hl, ?_⟩
    refine hNX _ _ ?_
    clear hNX
    simp only [hD]
    try walk_at "dl"
    intro p hp
    rw [cset_same]
    try walk_at "dl"
    rw [cdel_cset hp]
    exact fin (h ks' pm')
theorem ok_Hall_round (T : Txt K mg) : Fn P w K mg base 12 (ma K (fa mg "Hall") "round") [] (sp_Hall_round mg) := body_round T 1 (by omega) [] fun _ => RA.nil
theorem ok_Hall_round1 (T : Txt K mg) : Fn P w K mg base 12 (ma K (fa mg "Hall") "round") [.int 1] (sp_Hall_round mg) := body_round T 0 (by omega) [.int 1] fun _ => RA.cons R_int RA.nil
def hset (h : Str → Int) (n : Str) (v : Int) : Str → Int := fun x => if x = n then v else h x
theorem hK_put {ks : List Str} {h : Str → Int} {n : Str} {v : Int} (hn : n ∈ ks) : dput (hK ks h) (.inr n) (.int v) = hK ks (hset h n v) := by
  have yes : ((hK ks h).any fun q => decide (q.1 = .inr n)) = true := by
    rw [List.any_eq_true]
    exact ⟨(.inr n, .int (h n)), List.mem_map.mpr ⟨n, hn, rfl⟩, decide_eq_true rfl⟩
  unfold dput
  rw [yes, if_pos rfl]
  unfold hK
  rw [List.map_map]
  refine List.map_congr_left fun m _ => ?_
  simp only [Function.comp, hset]
  by_cases e : m = n
  · subst e; simp
  · rw [if_neg (fun q => e (Sum.inr.inj q)), if_neg e]
def lateD (n : Str) (by' : Int) : D := .tup [.str "late", .str n, .int by']
def sp_Hall_late (mg : Str → Option Value) : DSp := fun ds C Q => ∃ (a : Addr) (bk : Bk) (rk : Str → Nat) (ks : List Str) (h : Str → Int) (r : Int) (ps : List (D × D)) (n : Str) (b : Int), ds = [.cell a, .str n, .int b] ∧ C a = some (hallC mg (stD mg bk ks h r) ps) ∧ BkOk bk rk ∧ ks.Perm bk.names ∧ ps.length ≤ 1000 ∧ n ∈ bk.names ∧ 0 ≤ b ∧
  Q .non (cset C a (hallC mg (stD mg bk ks (hset h n (h n + b)) r) (ps ++ [(lateD n b, stD mg bk ks h r)])))
theorem ok_Hall_late (T : Txt K mg) : Fn P w K mg base 12 (ma K (fa mg "Hall") "late") [] (sp_Hall_late mg) := by
  have G_check_count_2 := ok_check_count2 (P := P) (w := w) (base := base) T
  have G_check_known := ok_check_known (P := P) (w := w) (base := base) T
  have G_Book_names := ok_Book_names (P := P) (w := w) (base := base) T
  have G_Hall_hours := ok_Hall_hours (P := P) (w := w) (base := base) T
  have G_Hall_made := ok_Hall_made (P := P) (w := w) (base := base) T
  refine fn_mf T.d_Hall_late sc_Hall_late (fun ds C Q h => ?_) (fun cdv A outer s H E hr => ?_)
  · (obtain ⟨_, _, _, _, _, _, _, _, _, rfl, _⟩ := h; rfl)
  have hu := hr.units
  have hu1 := hu_of hr
  have nd := sc_Hall_late.nd
  refine ⟨_, (ds_cons (ds_expr (de_call G_check_known T.d_check_known.m (hr.mono (by omega)) (da_cons (dv 1) (da_cons (de_mth0 G_Book_names T.c_Book.cl T.d_Book_names.me (hr.mono (by omega)) (de_fld T.c_State.cl T.n_State_book_now (de_fld T.c_Hall.cl T.n_Hall_state (dv 0)))) da_nil))))
    (ds_cons (ds_expr (de_call G_check_count_2 T.d_check_count.m (hr.mono (by omega)) (da_cons (dv 2) da_nil)))
    (ds_cons (ds_set (i := 3) nd (de_mth0 G_Hall_hours T.c_Hall.cl T.d_Hall_hours.me (hr.mono (by omega)) (dv 0)))
    (ds_cons (ds_dput hu1 (dv 3) (dv 1) (de_op op_addA ops_add (de_dget hu1 (dv 3) (dv 1)) (dv 2)))
    (ds_one (ds_expr (de_mth G_Hall_made T.c_Hall.cl T.d_Hall_made.me (hr.mono (by omega)) (dv 0) (da_cons (de_tup (da_cons dc_str (da_cons (dv 1) (da_cons (dv 2) da_nil)))) (da_cons (de_fld T.c_State.cl T.n_State_book_now (de_fld T.c_Hall.cl T.n_Hall_state (dv 0))) (da_cons (de_fz (dv 3)) (da_cons (de_fld T.c_State.cl T.n_State_rounds_now (de_fld T.c_Hall.cl T.n_Hall_state (dv 0))) da_nil))))))))))), fun ds C Q h => ?_⟩
  obtain ⟨a, bk, rk, ks, hh, r, ps, n, b, rfl, hc, ok, pm, hl, hn, hb, h⟩ := h
  rw [show startD N_Hall_late [.cell a, .str n, .int b] = [some (.cell a), some (.str n), some (.int b), none] from rfl]
  refine seq_g fun NX hNX => ?_
  try walk_at "dl"
  rw [vw_hall hc]
  simp only [stD, bookD]
  try walk_at "dl"
  refine ⟨if_neg (by decide +kernel), bk, rfl, ok.le, fun ys py => ?_⟩
  try walk_at "dl"
  refine ⟨n, ys, rfl, py.mem_iff.mpr hn, ?_⟩
  refine hNX _ _ ?_
  clear hNX
  refine seq_g fun NX hNX => ?_
  try walk_at "dl"
  refine ⟨b, rfl, hb, ?_⟩
  refine hNX _ _ ?_
  clear hNX
  refine seq_g fun NX hNX => ?_
  try walk_at "dl"
  rw [vw_hall hc]
  try walk_at "dl"
  refine ⟨?_, a, bk, ks, hh, r, ps, rfl, hc, fun p hp => ?_⟩
  · rw [if_neg (by decide +kernel), if_neg (by decide +kernel), if_neg (by decide +kernel)]
  have hpa : p ≠ a := fun e => by rw [e, hc] at hp; cases hp
  have hnk := pm.mem_iff.mpr hn
  refine hNX _ _ ?_
  clear hNX
  refine seq_g fun NX hNX => ?_
  try walk_at "dl"
  rw [vw_cd cset_same]
  try walk_at "dl"
  rw [dval_h hnk, opt_some]
  try walk_at "dl"
  rw [cset_same]
  try walk_at "dl"
  refine ⟨by rw [hK_len]; have := pm.length_eq; have := ok.nl; omega, ?_⟩
  refine hNX _ _ ?_
  clear hNX
  rw [cset_cset, hK_put hnk]
  try walk_at "dl"
  rw [vw_hall ((cset_ne (Ne.symm hpa)).trans hc)]
  simp only [stD]
  try walk_at "dl"
  refine ⟨?_, ?_⟩
  · rw [if_neg (by decide +kernel), if_neg (by decide +kernel), if_neg (by decide +kernel)]
  rw [cset_same]
  try walk_at "dl"
  rw [cdel_cset hp, vw_hall hc]
  simp only [stD]
  try walk_at "dl"
  rw [if_neg (by decide +kernel), if_neg (by decide +kernel)]
  try walk_at "dl"
  exact ⟨a, _, ps, _, _, _, _, rfl, hc, hl, fin h⟩
end

end K78

set_option Elab.async false
set_option linter.all false
set_option maxRecDepth 100000
set_option maxHeartbeats 1000000
namespace K78
open PySem L2 DL
local macro_rules | `(tactic| walk_at "dl") => `(tactic| simp only [dSeq, dIfS, dOr, dAnd, dNot, dTest, dCB, d1, d2, kIsi, kIsO, kLen, kStr, kIntT, kAbs, kI2, kSum, dCons, dNil, dVar, dC, slot, tyD, opt_some, kitB_ss, kitB_is, kitB_ii, kitB_ib, kitB_si, kitB_tt, kitB_ll, kitB_dd, kitB_tl, kitB_lt, kitB_ts, kitB_bb, kitB_bi,
  vw_non, vw_bl, vw_i, vw_s, vw_l, vw_t, vw_d, vw_n, vw_f, vw_v, asB, dAndV, dOrV, dNotV, dIf, dOp, dI2, dSub, dMul, dFdiv, dMod, dPow, dLt, dLe, dGt, dGe, dAdd, dRet, dRetN, dNext, dLst, dTup, dLstC, dCall, dDrop, dAsg, dName, dPar, dSets, dGTup, dIx, dSl, dPart, dNoP, dInN, dIsN, dEqN, dNeg, dFz, frz1, dFzS, dFld, dSetFld, dMth, dMake, dCallL, dChain, endsOf, dLcL, dLcS, dLcR1, dYes, dBM, mAppend, mInsert, mStarts3, mJoin, tyM, dBits, dForL, dForT, dForR1, int1, dDGet, dDIn, dDPut, dDGet2, kDict0, DL.keyOf, kListOf, kRepr, dEqP, kMax, kMin, isN, fget, fput, dForD, dLcD, dLcP, dLc2, dForE, oneL, dDcL, kLenB, kSortI, kSortD, kDictD, kDictP, kIntB, dSortSet, dLenSet, dAddT, dRep, dInDeep, dSame, dNilC, dLcR1C, dDict0, dPair0, dPairS, dDisp, keysOf', keyD,
  List.set_cons_zero, List.set_cons_succ, List.length_cons, List.length_nil, Bool.not_true, Bool.not_false, List.append_nil,
  if_true, if_false, Bool.false_eq_true, Bool.true_eq_false, ite_true, ite_false, true_and, and_true, reduceIte, List.nil_append, List.cons_append, atI_0, atI_1, atI_2, atI_3, atI_m1, List.getElem?_cons_zero, List.getElem?_cons_succ, List.getLast?_cons_cons, List.getLast?_singleton, Nat.zero_add, Nat.reduceAdd, Int.cast_ofNat_Int, Int.natCast_add, Int.natCast_one, Nat.reduceLeDiff, Int.reduceLT, Int.reduceLE, Int.reduceEq, decide_true, decide_false, Int.reduceAdd, Int.reduceNeg, Int.reduceSub, Int.reduceToNat, eq_self, ne_eq, not_true_eq_false, not_false_eq_true, List.map_cons, List.map_nil, Option.getD_some, Option.getD_none, Option.isSome_some, Option.isSome_none])
open HL
open TL PySem.NumText
section
variable {P : Program} {w : World} {K : PySem.W.Frag} {mg : Str → Option Value} {base : Heap}
theorem atI_at {α : Type} (xs : List α) {j : Int} (n : Nat) (h : j = (n : Int)) : atI xs j = xs[n]? := by rw [h, atI_nat']
def S (l : List Nat) : Str := ⟨l.toArray⟩
theorem tl_S (l : List Nat) : tl (S l) = l := rfl
theorem S_app (a b : List Nat) : S a ++ S b = S (a ++ b) := ext_tl (by rw [tl_append, tl_S, tl_S, tl_S])
theorem S_len (a : List Nat) : (S a).length = a.length := by rw [len_tl, tl_S]
theorem q_emp : ("" : Str) = S [] := by decide +kernel
theorem q_ab : tl ("abcdefghijklmnopqrstuvwxyz" : Str) = [97, 98, 99, 100, 101, 102, 103, 104, 105, 106, 107, 108, 109, 110, 111, 112, 113, 114, 115, 116, 117, 118, 119, 120, 121, 122] := by decide +kernel
/-! the law's purse -/
def PU (N : Nat) (x : Cell) : Prop := ∃ p0 p1 p2 p3 : Int, x = .lst [.int p0, .int p1, .int p2, .int p3] ∧ 0 ≤ p0 ∧ (0 ≤ p1 ∧ p1 < 2147483629) ∧ (0 ≤ p2 ∧ p2 ≤ (N : Int)) ∧ 0 ≤ p3 ∧ p3 ≤ 10
theorem mulW {i j : Int} (a b : Nat) (hi : 0 ≤ i ∧ i < 2 ^ a) (hj : 0 ≤ j ∧ j < 2 ^ b) (ha : 0 < a) (hb : 0 < b) (h : a + b ≤ 1000000) : CMulW i j := by
  have h1 : i.natAbs < 2 ^ a := by have := Int.natCast_pow 2 a; have e : ((2 ^ a : Nat) : Int) = (2 : Int) ^ a := by simp
                                   omega
  have h2 : j.natAbs < 2 ^ b := by have e : ((2 ^ b : Nat) : Int) = (2 : Int) ^ b := by simp
                                   omega
  have a1 := PySem.Flt.log2_lt_of ha h1
  have a2 := PySem.Flt.log2_lt_of hb h2
  unfold CMulW
  omega
def sp__law_mixed : DSp := fun ds C Q => ∃ s t a, ds = [.int s, .int t, .int a] ∧ (0 ≤ s ∧ s < 2147483629) ∧ (0 ≤ t ∧ t ≤ 1000000) ∧ (0 ≤ a ∧ a ≤ 10) ∧ ∀ r, 0 ≤ r → r < 2147483587 → Q (.int r) C
theorem ok__law_mixed (T : Txt K mg) : Fn P w K mg base 1 (fa mg "_law_mixed") [] sp__law_mixed := by
  refine fn_df T.d__law_mixed sc__law_mixed (fun ds C Q h => ?_) (fun cdv A outer s H E hr => ?_)
  · (obtain ⟨_, _, _, rfl, _⟩ := h; rfl)
  have hu := hr.units
  have hu1 := hu_of hr
  have nd := sc__law_mixed.nd
  refine ⟨_, (ds_cons (ds_set (i := 3) nd (de_op op_addA ops_add (de_op op_mulW ops_I (dv 0) dc_int) (de_op op_mulW ops_I (de_op op_mulW ops_I dc_int (dv 1)) (dv 1))))
    (ds_cons (ds_set (i := 3) nd (de_op op_mod ops_I (de_op op_addA ops_add (de_op op_addA ops_add (dv 3) (de_op op_mulW ops_I dc_int (dv 2))) (dv 1)) dc_int))
    (ds_cons (ds_set (i := 3) nd (de_op op_mod ops_I (de_op op_addA ops_add (de_op op_mulW ops_I (dv 3) (dv 3)) dc_int) dc_int))
    (ds_one (ds_ret (de_op op_mod ops_I (de_op op_mulW ops_I (dv 3) dc_int) dc_int)))))), fun ds C Q h => ?_⟩
  obtain ⟨s, t, a, rfl, hs, ht, ha, h⟩ := h
  rw [show startD N__law_mixed [.int s, .int t, .int a] = [some (.int s), some (.int t), some (.int a), none] from rfl]
  try walk_at "dl"
  have m1 : ∀ z : Int, 0 ≤ z % 2147483647 ∧ z % 2147483647 < 2 ^ 31 := fun z => by omega
  have m2 : ∀ z : Int, 0 ≤ z % 2147483629 ∧ z % 2147483629 < 2 ^ 31 := fun z => by omega
  refine ⟨mulW 31 17 (by omega) (by omega) (by decide) (by decide) (by decide), mulW 17 20 (by omega) (by omega) (by decide) (by decide) (by decide), mulW 40 20 (by omega) (by omega) (by decide) (by decide) (by decide), mulW 13 4 (by omega) (by omega) (by decide) (by decide) (by decide),
    mulW 31 31 (m1 _) (m1 _) (by decide) (by decide) (by decide), mulW 31 16 (m2 _) (by omega) (by decide) (by decide) (by decide), fin (h _ (by omega) (by omega))⟩
theorem cset_id {C : Cells} {a : Addr} {c : Cell} (h : C a = some c) : cset C a c = C := by
  funext b
  unfold cset
  split
  · rename_i e
    rw [e, h]
  · rfl
theorem bits_le {m : Int} (h1 : 1 ≤ m) (h2 : m < 2 ^ 100) : Builtin.Int.intBits m ≤ 100 := by
  have h : m.natAbs < 2 ^ 100 := by omega
  have := PySem.Flt.log2_lt_of (by decide : 0 < 100) h
  unfold Builtin.Int.intBits
  split <;> omega
def sp__law_draw : DSp := fun ds C Q => ∃ a m x N, ds = [.cell a, .int m] ∧ C a = some x ∧ PU N x ∧ 1 ≤ m ∧ m < 2 ^ 100 ∧ N ≤ 100000 ∧ ∀ r y, 0 ≤ r → r < m → PU (N + 4) y → Q (.int r) (cset C a y)
theorem ok__law_draw (T : Txt K mg) : Fn P w K mg base 2 (fa mg "_law_draw") [] sp__law_draw := by
  have G__law_mixed := ok__law_mixed (P := P) (w := w) (base := base) T
  refine fn_df T.d__law_draw sc__law_draw (fun ds C Q h => ?_) (fun cdv A outer s H E hr => ?_)
  · (obtain ⟨_, _, _, _, rfl, _⟩ := h; rfl)
  have hu := hr.units
  have hu1 := hu_of hr
  have nd := sc__law_draw.nd
  refine ⟨_, (ds_cons (ds_if (dt_cmp op_gt ops_B0 (de_ix (dv 0) dc_int) dc_int (nomark _)) (ds_cons (ds_set (i := 2) nd (de_op op_mod ops_I (de_ix (dv 0) dc_int) (dv 1)))
    (ds_cons (ds_asg (de_op op_fdivW ops_I (de_ix (dv 0) dc_int) (dv 1)) (dg_subL (dv 0) dc_int))
    (ds_one (ds_ret (dv 2))))) ds_nil)
    (ds_cons (ds_set (i := 3) nd dc_int)
    (ds_cons (ds_forR1 rfl T.range (da_cons (de_op op_addA ops_add dc_int (de_op op_fdivW ops_I (de_bits (dv 1)) dc_int)) da_nil) (dg_name (i := 4) nd) (ds_cons (ds_asg (de_op op_addA ops_add (de_ix (dv 0) dc_int) dc_int) (dg_subL (dv 0) dc_int))
    (ds_one (ds_set (i := 3) nd (de_op op_addA ops_add (de_op op_mulW ops_I (dv 3) dc_int) (de_call G__law_mixed T.d__law_mixed.m (hr.mono (by omega)) (da_cons (de_ix (dv 0) dc_int) (da_cons (de_ix (dv 0) dc_int) (da_cons (de_ix (dv 0) dc_int) da_nil)))))))))
    (ds_one (ds_ret (de_op op_mod ops_I (dv 3) (dv 1))))))), fun ds C Q h => ?_⟩
  obtain ⟨a, m, _, N, rfl, hc, ⟨p0, p1, p2, p3, rfl, h0, h1, h2, h3⟩, hm1, hm2, hN, h⟩ := h
  rw [show startD N__law_draw [.cell a, .int m] = [some (.cell a), some (.int m), none, none, none] from rfl]
  have hv : vw C (.cell a) = .lst [.int p0, .int p1, .int p2, .int p3] := by simp only [vw, hc]
  refine seq_g fun NX hNX => ?_
  try walk_at "dl"
  simp only [hv, hc]
  try walk_at "dl"
  by_cases hp : 0 < p0
  · rw [if_pos (decide_eq_true hp)]
    refine ⟨by omega, wide_div (by omega) (b := 100) (by omega) (by decide) (by decide), ?_⟩
    unfold dSubL
    try walk_at "dl"
    simp only [hv, hc]
    try walk_at "dl"
    rw [show ixN 4 0 = some 0 from rfl, opt_some]
    exact fin (h _ _ (Int.emod_nonneg _ (by omega)) (Int.emod_lt_of_pos _ (by omega)) ⟨p0 / m, p1, p2, p3, rfl, Int.ediv_nonneg h0 (by omega), h1, by omega, h3⟩)
  rw [if_neg (by rw [decide_eq_true_iff]; exact hp)]
  refine hNX _ _ ?_
  clear hNX
  refine seq_g fun NX hNX => ?_
  try walk_at "dl"
  refine hNX _ _ ?_
  clear hNX
  refine seq_g fun NX hNX => ?_
  try walk_at "dl"
  have hbt := bits_le hm1 hm2
  generalize Builtin.Int.intBits m = bt at hbt ⊢
  refine ⟨wide_div (by decide) (b := 10) (by decide) (by decide) (by decide), by omega, by omega, ?_⟩
  have hrt : ((1 : Int) + (bt : Int) / 28).toNat = 1 + bt / 28 := by omega
  rw [hrt]
  refine ⟨fun i ρ C' => i ≤ 4 ∧ ∃ f : Int, ∃ o, 0 ≤ f ∧ f < 2147483587 ^ i ∧ C' = cset C a (.lst [.int p0, .int p1, .int (p2 + (i : Int)), .int p3]) ∧ ρ = [some (.cell a), some (.int m), none, some (.int f), o],
    ⟨by omega, 0, _, by omega, by decide, by rw [Int.natCast_zero, Int.add_zero]; exact (cset_id hc).symm, rfl⟩, ?_, ?_⟩
  · rintro i d ρ C' e ⟨hi, f, o, hf0, hf1, rfl, rfl⟩
    have hi2 : i ≤ 3 := by
      have := (List.getElem?_eq_some_iff.mp e).1
      rw [List.length_map, List.length_range] at this
      omega
    have hb : CMulW f 2147483587 := mulW 100 32 ⟨hf0, by
      match i, hi2, hf1 with
      | 0, _, h => exact Int.lt_trans h (by decide)
      | 1, _, h => exact Int.lt_trans h (by decide)
      | 2, _, h => exact Int.lt_trans h (by decide)
      | 3, _, h => exact Int.lt_trans h (by decide)⟩ (by decide) (by decide) (by decide) (by decide)
    have hv2 : ∀ q : Int, vw (cset C a (.lst [.int p0, .int p1, .int q, .int p3])) (.cell a) = .lst [.int p0, .int p1, .int q, .int p3] := fun q => vw_cl cset_same
    refine name_g ?_
    simp only [List.set_cons_succ, List.set_cons_zero]
    refine seq_g fun NX hNX => ?_
    try walk_at "dl"
    simp only [hv2]
    try walk_at "dl"
    unfold dSubL
    try walk_at "dl"
    rw [cset_same]
    try walk_at "dl"
    rw [show ixN 4 2 = some 2 from rfl, opt_some, cset_cset]
    refine hNX _ _ ?_
    clear hNX
    try walk_at "dl"
    refine ⟨hb, ?_⟩
    simp only [hv2]
    try walk_at "dl"
    refine ⟨p1, _, p3, rfl, h1, by omega, h3, fun r r0 r1 => ?_⟩
    try walk_at "dl"
    refine .of ⟨by omega, _, _, by omega, ?_, by rw [Int.add_assoc], rfl⟩
    rw [Int.pow_succ]
    omega
  · rintro ρ C' ⟨hi, f, o, hf0, hf1, rfl, rfl⟩
    rw [List.length_map, List.length_range] at hi ⊢
    refine hNX _ _ ?_
    try walk_at "dl"
    refine ⟨by omega, fin (h _ _ (Int.emod_nonneg _ (by omega)) (Int.emod_lt_of_pos _ (by omega)) ⟨p0, p1, _, p3, rfl, h0, h1, by omega, h3⟩)⟩
def sp__law_purse : DSp := fun ds C Q => ∃ xs : List Int, ∃ i : Nat, ds = [.fro (xs.map D.int), .int (i : Int)] ∧ i ≤ 1 ∧ xs.length ≤ 1000000 ∧ ∀ a y, C a = none → PU 0 y → Q (.cell a) (cset C a y)
theorem ok__law_purse (T : Txt K mg) : Fn P w K mg base 1 (fa mg "_law_purse") [] sp__law_purse := by
  refine fn_df T.d__law_purse sc__law_purse (fun ds C Q h => ?_) (fun cdv A outer s H E hr => ?_)
  · (obtain ⟨_, _, rfl, _⟩ := h; rfl)
  have hu := hr.units
  have hu1 := hu_of hr
  have nd := sc__law_purse.nd
  refine ⟨_, (ds_cons (ds_set (i := 2) nd (de_cb (cr_sum rfl) cl_sum T.sum bt_sum (da_cons (de_sl (dv 0) (dp_some (dv 1)) (dp_some (de_op op_addA ops_add (dv 1) dc_int))) da_nil)))
    (ds_one (ds_ret (de_lstC (da_cons (de_op op_mod ops_I (de_cb (call_max2 rfl) cl_I2 T.max bt_max (da_cons (de_op op_sub ops_I0 (dv 2) (de_op op_powW ops_I dc_int dc_int)) (da_cons dc_int da_nil))) (de_op op_powW ops_I (de_op op_powW ops_I dc_int dc_int) dc_int)) (da_cons (de_op op_mod ops_I (dv 2) dc_int) (da_cons dc_int (da_cons (dv 1) da_nil)))))))), fun ds C Q h => ?_⟩
  obtain ⟨xs, i, rfl, hi, hx, h⟩ := h
  rw [show startD N__law_purse [.fro (xs.map D.int), .int (i : Int)] = [some (.fro (xs.map D.int)), some (.int (i : Int)), none] from rfl]
  try walk_at "dl"
  have e : cutD (xs.map D.int) (some (i : Int)) (some ((i : Int) + 1)) = ((xs.drop i).take 1).map D.int := by
    rw [show (i : Int) + 1 = ((i + 1 : Nat) : Int) by omega]
    unfold cutD
    rw [HT.sIx_nat, HT.sIx_nat, List.length_map, List.map_take, List.map_drop]
    by_cases hl : i < xs.length
    · rw [Nat.min_eq_left (by omega), Nat.min_eq_left (by omega), Nat.add_sub_cancel_left]
    · rw [Nat.min_eq_right (by omega), Nat.min_eq_right (by omega), Nat.sub_self, List.take_zero, List.drop_eq_nil_of_le (by rw [List.length_map]; omega)]
      rfl
  rw [e, intsOf_map, opt_some]
  refine ⟨by unfold CPowW; decide +kernel, by unfold CPowW; decide +kernel, by unfold CPowW; decide +kernel, by decide +kernel, fun p hp => fin (h _ _ hp ⟨_, _, 0, i, rfl, Int.emod_nonneg _ (by decide +kernel), by omega, by omega, by omega, by omega⟩)⟩
end

end K78

set_option Elab.async false
set_option linter.all false
set_option maxRecDepth 100000
set_option maxHeartbeats 1000000
namespace K78
open PySem L2 DL
local macro_rules | `(tactic| walk_at "dl") => `(tactic| simp only [dSeq, dIfS, dOr, dAnd, dNot, dTest, dCB, d1, d2, kIsi, kIsO, kLen, kStr, kIntT, kAbs, kI2, kSum, dCons, dNil, dVar, dC, slot, tyD, opt_some, kitB_ss, kitB_is, kitB_ii, kitB_ib, kitB_si, kitB_tt, kitB_ll, kitB_dd, kitB_tl, kitB_lt, kitB_ts, kitB_bb, kitB_bi,
  vw_non, vw_bl, vw_i, vw_s, vw_l, vw_t, vw_d, vw_n, vw_f, vw_v, asB, dAndV, dOrV, dNotV, dIf, dOp, dI2, dSub, dMul, dFdiv, dMod, dPow, dLt, dLe, dGt, dGe, dAdd, dRet, dRetN, dNext, dLst, dTup, dLstC, dCall, dDrop, dAsg, dName, dPar, dSets, dGTup, dIx, dSl, dPart, dNoP, dInN, dIsN, dEqN, dNeg, dFz, frz1, dFzS, dFld, dSetFld, dMth, dMake, dCallL, dChain, endsOf, dLcL, dLcS, dLcR1, dYes, dBM, mAppend, mInsert, mStarts3, mJoin, tyM, dBits, dForL, dForT, dForR1, int1, dDGet, dDIn, dDPut, dDGet2, kDict0, DL.keyOf, kListOf, kRepr, dEqP, kMax, kMin, isN, fget, fput, dForD, dLcD, dLcP, dLc2, dForE, oneL, dDcL, kLenB, kSortI, kSortD, kDictD, kDictP, kIntB, dSortSet, dLenSet, dAddT, dRep, dInDeep, dSame, dNilC, dLcR1C, dDict0, dPair0, dPairS, dDisp, keysOf', keyD,
  List.set_cons_zero, List.set_cons_succ, List.length_cons, List.length_nil, Bool.not_true, Bool.not_false, List.append_nil,
  if_true, if_false, Bool.false_eq_true, Bool.true_eq_false, ite_true, ite_false, true_and, and_true, reduceIte, List.nil_append, List.cons_append, atI_0, atI_1, atI_2, atI_3, atI_m1, List.getElem?_cons_zero, List.getElem?_cons_succ, List.getLast?_cons_cons, List.getLast?_singleton, Nat.zero_add, Nat.reduceAdd, Int.cast_ofNat_Int, Int.natCast_add, Int.natCast_one, Nat.reduceLeDiff, Int.reduceLT, Int.reduceLE, Int.reduceEq, decide_true, decide_false, Int.reduceAdd, Int.reduceNeg, Int.reduceSub, Int.reduceToNat, eq_self, ne_eq, not_true_eq_false, not_false_eq_true, List.map_cons, List.map_nil, Option.getD_some, Option.getD_none, Option.isSome_some, Option.isSome_none])
open HL
open TL PySem.NumText
section
variable {P : Program} {w : World} {K : PySem.W.Frag} {mg : Str → Option Value} {base : Heap}
theorem sub_del {C : Cells} {p : Addr} {c : Cell} (h : C p = none) : Sub C (cdel (cset C p c) p) := by
  rw [cdel_cset h]
  exact Sub.refl C
theorem PU.mono {N M : Nat} {x : Cell} (h : PU N x) (l : N ≤ M) : PU M x := by
  obtain ⟨p0, p1, p2, p3, e, h0, h1, h2, h3⟩ := h
  exact ⟨p0, p1, p2, p3, e, h0, h1, by omega, h3⟩
theorem cset_3 {C : Cells} {a p : Addr} {y y2 L L' : Cell} (h : p ≠ a) : cset (cset (cset (cset C a y) p L) a y2) p L' = cset (cset C a y2) p L' := by
  funext b
  unfold cset
  by_cases h1 : b = p
  · simp only [if_pos h1]
  · simp only [if_neg h1]
    by_cases h2 : b = a
    · simp only [if_pos h2]
    · simp only [if_neg h2, if_neg h1]
theorem cut_mem {α : Type} {xs : List α} {lo hi : Option Int} {d : α} (h : d ∈ cutD xs lo hi) : d ∈ xs := List.mem_of_mem_drop (List.mem_of_mem_take h)
theorem cut_len {α : Type} (xs : List α) (lo hi : Option Int) : (cutD xs lo hi).length ≤ xs.length := by
  unfold cutD
  rw [List.length_take, List.length_drop]
  omega
/-! one drawn thing -/
def sp__law_one_of : DSp := fun ds C Q => ∃ a xs x N, ds = [.cell a, .lst xs] ∧ C a = some x ∧ PU N x ∧ xs ≠ [] ∧ xs.length ≤ 1000 ∧ N ≤ 100000 ∧ ∀ d y, d ∈ xs → PU (N + 4) y → Q d (cset C a y)
theorem ok__law_one_of (T : Txt K mg) : Fn P w K mg base 3 (fa mg "_law_one_of") [] sp__law_one_of := by
  have G__law_draw := ok__law_draw (P := P) (w := w) (base := base) T
  refine fn_df T.d__law_one_of sc__law_one_of (fun ds C Q h => ?_) (fun cdv A outer s H E hr => ?_)
  · (obtain ⟨_, _, _, _, rfl, _⟩ := h; rfl)
  have hu := hr.units
  have hu1 := hu_of hr
  have nd := sc__law_one_of.nd
  refine ⟨_, (ds_one (ds_ret (de_ix (dv 1) (de_call G__law_draw T.d__law_draw.m (hr.mono (by omega)) (da_cons (dv 0) (da_cons (de_cb call_lenB cl_lenB T.len bt_len (da_cons (dv 1) da_nil)) da_nil)))))), fun ds C Q h => ?_⟩
  obtain ⟨a, xs, x, N, rfl, hc, hx, hne, hl, hN, h⟩ := h
  rw [show startD N__law_one_of [.cell a, .lst xs] = [some (.cell a), some (.lst xs)] from rfl]
  try walk_at "dl"
  have hl1 : 1 ≤ xs.length := by cases xs with
    | nil => exact absurd rfl hne
    | cons _ _ => simp
  refine ⟨a, _, x, N, rfl, hc, hx, by omega, by omega, hN, fun r y r0 r1 hy => ?_⟩
  try walk_at "dl"
  rw [atI_at _ r.toNat (by omega), List.getElem?_eq_getElem (by omega), opt_some]
  exact fin (h _ y (List.getElem_mem _) hy)
def sp__law_shuffled : DSp := fun ds C Q => ∃ a xs x N, ds = [.cell a, .lst xs] ∧ C a = some x ∧ PU N x ∧ xs.length ≤ 1000 ∧ N ≤ 50000 ∧ ∀ zs y, zs.Perm xs → PU (N + 4 * xs.length) y → Q (.lst zs) (cset C a y)
theorem ok__law_shuffled (T : Txt K mg) : Fn P w K mg base 3 (fa mg "_law_shuffled") [] sp__law_shuffled := by
  have G__law_draw := ok__law_draw (P := P) (w := w) (base := base) T
  refine fn_df T.d__law_shuffled sc__law_shuffled (fun ds C Q h => ?_) (fun cdv A outer s H E hr => ?_)
  · (obtain ⟨_, _, _, _, rfl, _⟩ := h; rfl)
  have hu := hr.units
  have hu1 := hu_of hr
  have nd := sc__law_shuffled.nd
  refine ⟨_, (ds_cons (ds_set (i := 2) nd (de_lstC da_nil))
    (ds_cons (ds_forL rfl (dv 1) (dg_name (i := 3) nd) (ds_one (ds_expr (de_bm PySem.F.plainAttrs_list PySem.F.slot_list_insert PySem.F.type_list_insert mt_insert ms_insert (dv 2) (da_cons (de_call G__law_draw T.d__law_draw.m (hr.mono (by omega)) (da_cons (dv 0) (da_cons (de_op op_addA ops_add (de_cb call_lenB cl_lenB T.len bt_len (da_cons (dv 2) da_nil)) dc_int) da_nil))) (da_cons (dv 3) da_nil))))))
    (ds_one (ds_ret (de_fz (dv 2)))))), fun ds C Q h => ?_⟩
  obtain ⟨a, xs, x, N, rfl, hc, hx, hl, hN, h⟩ := h
  rw [show startD N__law_shuffled [.cell a, .lst xs] = [some (.cell a), some (.lst xs), none, none] from rfl]
  refine seq_g fun NX hNX => ?_
  try walk_at "dl"
  intro p hp
  have hpa : p ≠ a := fun e => by rw [e, hc] at hp; cases hp
  refine hNX _ _ ?_
  clear hNX
  refine seq_g fun NX hNX => ?_
  try walk_at "dl"
  refine ⟨fun i ρ C' => ∃ zs y o, zs.Perm (xs.take i) ∧ PU (N + 4 * i) y ∧ C' = cset (cset C a y) p (.lst zs) ∧ ρ = [some (.cell a), some (.lst xs), some (.cell p), o], ⟨[], x, _, by simp, hx, by rw [cset_id hc], rfl⟩, ?_, ?_⟩
  · rintro i d ρ C' e ⟨zs, y, o, hz, hy, rfl, rfl⟩
    have hi := (List.getElem?_eq_some_iff.mp e).1
    have hzl : zs.length = i := by rw [hz.length_eq, List.length_take]; omega
    refine name_g ?_
    simp only [List.set_cons_succ, List.set_cons_zero]
    try walk_at "dl"
    rw [vw_cl cset_same]
    try walk_at "dl"
    refine ⟨a, _, y, _, rfl, by rw [cset_ne (Ne.symm hpa), cset_same], hy, by omega, by omega, by omega, fun r y2 r0 r1 hy2 => ?_⟩
    try walk_at "dl"
    rw [cset_ne hpa, cset_same]
    refine ⟨by omega, by omega, by omega, .of ⟨_, y2, _, ?_, hy2, cset_3 hpa, rfl⟩⟩
    rw [take_succ' e]
    have p1 : (zs.take r.toNat ++ [d] ++ zs.drop r.toNat).Perm (d :: zs) := by
      have := List.perm_middle (a := d) (l₁ := zs.take r.toNat) (l₂ := zs.drop r.toNat)
      rw [List.take_append_drop] at this
      simpa using this
    exact p1.trans ((hz.cons d).trans (List.perm_append_singleton d _).symm)
  · rintro ρ C' ⟨zs, y, o, hz, hy, rfl, rfl⟩
    rw [List.take_length] at hz
    refine hNX _ _ ?_
    try walk_at "dl"
    rw [cset_same]
    try walk_at "dl"
    exact fin_sub (h zs y hz hy) (sub_del (by rw [cset_ne hpa, hp]))
def sp__law_word : DSp := fun ds C Q => ∃ a x N, ds = [.cell a] ∧ C a = some x ∧ PU N x ∧ N ≤ 50000 ∧ ∀ l y, letters (S l) → 1 ≤ l.length → l.length ≤ 8 → PU (N + 40) y → Q (.str (S l)) (cset C a y)
theorem ok__law_word (T : Txt K mg) : Fn P w K mg base 3 (fa mg "_law_word") [] sp__law_word := by
  have G__law_draw := ok__law_draw (P := P) (w := w) (base := base) T
  refine fn_df T.d__law_word sc__law_word (fun ds C Q h => ?_) (fun cdv A outer s H E hr => ?_)
  · (obtain ⟨_, _, _, rfl, _⟩ := h; rfl)
  have hu := hr.units
  have hu1 := hu_of hr
  have nd := sc__law_word.nd
  refine ⟨_, (ds_cons (ds_set (i := 1) nd dc_str)
    (ds_cons (ds_forR1 rfl T.range (da_cons (de_op op_addA ops_add dc_int (de_call G__law_draw T.d__law_draw.m (hr.mono (by omega)) (da_cons (dv 0) (da_cons dc_int da_nil)))) da_nil) (dg_name (i := 2) nd) (ds_one (ds_set (i := 1) nd (de_op op_addA ops_add (dv 1) (de_ix dc_str (de_call G__law_draw T.d__law_draw.m (hr.mono (by omega)) (da_cons (dv 0) (da_cons dc_int da_nil))))))))
    (ds_one (ds_ret (dv 1))))), fun ds C Q h => ?_⟩
  obtain ⟨a, x, N, rfl, hc, hx, hN, h⟩ := h
  rw [show startD N__law_word [.cell a] = [some (.cell a), none, none] from rfl]
  refine seq_g fun NX hNX => ?_
  try walk_at "dl"
  refine hNX _ _ ?_
  clear hNX
  refine seq_g fun NX hNX => ?_
  try walk_at "dl"
  refine ⟨a, 8, x, N, rfl, hc, hx, by omega, by omega, by omega, fun k y k0 k1 hy => ?_⟩
  try walk_at "dl"
  refine ⟨by omega, by omega, ?_⟩
  refine ⟨fun i ρ C' => ∃ l y o, l.length = i ∧ letters (S l) ∧ PU (N + 4 + 4 * i) y ∧ C' = cset C a y ∧ ρ = [some (.cell a), some (.str (S l)), o], ⟨[], y, _, rfl, (by intro c hc; cases hc), hy, rfl, by rw [q_emp]⟩, ?_, ?_⟩
  · rintro i d ρ C' e ⟨l, y, o, rfl, hl, hy, rfl, rfl⟩
    have hi := (List.getElem?_eq_some_iff.mp e).1
    rw [List.length_map, List.length_range] at hi
    refine name_g ?_
    simp only [List.set_cons_succ, List.set_cons_zero]
    try walk_at "dl"
    refine ⟨a, 26, y, _, rfl, cset_same, hy, by omega, by omega, by omega, fun r y2 r0 r1 hy2 => ?_⟩
    try walk_at "dl"
    have h26 := q_ab
    have hlen26 := congrArg List.length h26
    rw [atI_at _ r.toNat (by omega), List.getElem?_eq_getElem (by show r.toNat < (tl _).length; rw [hlen26]; simp only [List.length_cons, List.length_nil]; omega), opt_some, cset_cset]
    refine ⟨by decide +kernel, by rw [S_len]; show l.length + (S [_]).length ≤ _; rw [S_len]; simp only [List.length_cons, List.length_nil]; omega, .of ⟨l ++ [(tl (Str.ofString "abcdefghijklmnopqrstuvwxyz"))[r.toNat]'(by rw [hlen26]; simp only [List.length_cons, List.length_nil]; omega)], y2, _, by simp, ?_, hy2, rfl, by rw [← S_app]; rfl⟩⟩
    intro c hc
    have hc : c ∈ l ++ [_] := hc
    rcases List.mem_append.mp hc with hc | hc
    · exact hl c hc
    · rw [List.mem_singleton.mp hc]
      exact decide_eq_true (List.getElem_mem _)
  · rintro ρ C' ⟨l, y, o, hll, hl, hy, rfl, rfl⟩
    rw [List.length_map, List.length_range] at hll hy
    refine hNX _ _ ?_
    try walk_at "dl"
    exact fin (h l y hl (by omega) (by omega) (hy.mono (by omega)))
def sp__law_wait : DSp := fun ds C Q => ∃ a x N, ds = [.cell a] ∧ C a = some x ∧ PU N x ∧ N ≤ 50000 ∧ ∀ (z : Int) y, PU (N + 20) y → Q (.int z) (cset C a y)
theorem ok__law_wait (T : Txt K mg) : Fn P w K mg base 4 (fa mg "_law_wait") [] sp__law_wait := by
  have G__law_draw := ok__law_draw (P := P) (w := w) (base := base) T
  have G__law_one_of := ok__law_one_of (P := P) (w := w) (base := base) T
  refine fn_df T.d__law_wait sc__law_wait (fun ds C Q h => ?_) (fun cdv A outer s H E hr => ?_)
  · (obtain ⟨_, _, _, rfl, _⟩ := h; rfl)
  have hu := hr.units
  have hu1 := hu_of hr
  have nd := sc__law_wait.nd
  refine ⟨_, (ds_cons (ds_set (i := 1) nd (de_lst (da_cons dc_int (da_cons dc_int (da_cons dc_int (da_cons dc_int (da_cons dc_int (da_cons (de_un dc_int) (da_cons (de_un dc_int) (da_cons (de_op op_sub ops_I0 (de_call G__law_draw T.d__law_draw.m (hr.mono (by omega)) (da_cons (dv 0) (da_cons dc_int da_nil))) dc_int) da_nil))))))))))
    (ds_cons (ds_set (i := 1) nd (de_op op_addA ops_add (dv 1) (de_lst (da_cons (de_op op_sub ops_I0 (de_call G__law_draw T.d__law_draw.m (hr.mono (by omega)) (da_cons (dv 0) (da_cons (de_op op_powW ops_I dc_int dc_int) da_nil))) (de_op op_powW ops_I dc_int dc_int)) (da_cons (de_op op_addA ops_add (de_op op_powW ops_I dc_int dc_int) (de_call G__law_draw T.d__law_draw.m (hr.mono (by omega)) (da_cons (dv 0) (da_cons dc_int da_nil)))) da_nil)))))
    (ds_one (ds_ret (de_call G__law_one_of T.d__law_one_of.m (hr.mono (by omega)) (da_cons (dv 0) (da_cons (de_sl (dv 1) dp_none (dp_some (de_op op_addA ops_add dc_int (de_call G__law_draw T.d__law_draw.m (hr.mono (by omega)) (da_cons (dv 0) (da_cons dc_int da_nil)))))) da_nil))))))), fun ds C Q h => ?_⟩
  obtain ⟨a, x, N, rfl, hc, hx, hN, h⟩ := h
  rw [show startD N__law_wait [.cell a] = [some (.cell a), none] from rfl]
  refine seq_g fun NX hNX => ?_
  try walk_at "dl"
  refine ⟨a, 19, x, N, rfl, hc, hx, by omega, by omega, by omega, fun r1 y1 r10 r11 hy1 => ?_⟩
  try walk_at "dl"
  refine hNX _ _ ?_
  clear hNX
  refine seq_g fun NX hNX => ?_
  try walk_at "dl"
  refine ⟨by unfold CPowW; decide +kernel, a, _, y1, _, rfl, cset_same, hy1, by decide, by decide, by omega, fun r2 y2 r20 r21 hy2 => ?_⟩
  try walk_at "dl"
  refine ⟨by unfold CPowW; decide +kernel, by unfold CPowW; decide +kernel, a, _, y2, _, rfl, by rw [cset_cset, cset_same], hy2, by decide, by decide, by omega, fun r3 y3 r30 r31 hy3 => ?_⟩
  try walk_at "dl"
  refine hNX _ _ ?_
  clear hNX
  simp only [cset_cset]
  try walk_at "dl"
  refine ⟨a, _, y3, _, rfl, cset_same, hy3, by decide, by decide, by omega, fun r4 y4 r40 r41 hy4 => ?_⟩
  try walk_at "dl"
  refine ⟨a, _, y4, _, rfl, cset_same, hy4, ?_, Nat.le_trans (cut_len _ _ _) (by simp), by omega, fun d y5 hd hy5 => ?_⟩
  · obtain ⟨k, rfl⟩ := Int.eq_ofNat_of_zero_le r40
    intro h
    have := congrArg List.length h
    rw [show (7 : Int) + (k : Int) = ((7 + k : Nat) : Int) by omega] at this
    unfold cutD at this
    rw [HT.sIx_nat, HT.sIx_none, List.length_take] at this
    simp only [List.drop_zero, List.length_cons, List.length_nil] at this
    omega
  · have hd := cut_mem hd
    simp only [cset_cset]
    have hy6 := hy5.mono (by omega : N + 4 + 4 + 4 + 4 + 4 ≤ N + 20)
    have go : ∀ z : Int, d = .int z → ∃ C'', Gh (cset C a y5) C'' ∧ Q d C'' := fun z e => by
      subst e
      exact fin (h z y5 hy6)
    simp only [List.mem_cons, List.not_mem_nil, or_false] at hd
    rcases hd with e | e | e | e | e | e | e | e | e | e
    all_goals exact go _ e
end

end K78

set_option Elab.async false
set_option linter.all false
set_option maxRecDepth 100000
set_option maxHeartbeats 1000000
namespace K78
open PySem L2 DL
local macro_rules | `(tactic| walk_at "dl") => `(tactic| simp only [dSeq, dIfS, dOr, dAnd, dNot, dTest, dCB, d1, d2, kIsi, kIsO, kLen, kStr, kIntT, kAbs, kI2, kSum, dCons, dNil, dVar, dC, slot, tyD, opt_some, kitB_ss, kitB_is, kitB_ii, kitB_ib, kitB_si, kitB_tt, kitB_ll, kitB_dd, kitB_tl, kitB_lt, kitB_ts, kitB_bb, kitB_bi,
  vw_non, vw_bl, vw_i, vw_s, vw_l, vw_t, vw_d, vw_n, vw_f, vw_v, asB, dAndV, dOrV, dNotV, dIf, dOp, dI2, dSub, dMul, dFdiv, dMod, dPow, dLt, dLe, dGt, dGe, dAdd, dRet, dRetN, dNext, dLst, dTup, dLstC, dCall, dDrop, dAsg, dName, dPar, dSets, dGTup, dIx, dSl, dPart, dNoP, dInN, dIsN, dEqN, dNeg, dFz, frz1, dFzS, dFld, dSetFld, dMth, dMake, dCallL, dChain, endsOf, dLcL, dLcS, dLcR1, dYes, dBM, mAppend, mInsert, mStarts3, mJoin, tyM, dBits, dForL, dForT, dForR1, int1, dDGet, dDIn, dDPut, dDGet2, kDict0, DL.keyOf, kListOf, kRepr, dEqP, kMax, kMin, isN, fget, fput, dForD, dLcD, dLcP, dLc2, dForE, oneL, dDcL, kLenB, kSortI, kSortD, kDictD, kDictP, kIntB, dSortSet, dLenSet, dAddT, dRep, dInDeep, dSame, dNilC, dLcR1C, dDict0, dPair0, dPairS, dDisp, keysOf', keyD,
  List.set_cons_zero, List.set_cons_succ, List.length_cons, List.length_nil, Bool.not_true, Bool.not_false, List.append_nil,
  if_true, if_false, Bool.false_eq_true, Bool.true_eq_false, ite_true, ite_false, true_and, and_true, reduceIte, List.nil_append, List.cons_append, atI_0, atI_1, atI_2, atI_3, atI_m1, List.getElem?_cons_zero, List.getElem?_cons_succ, List.getLast?_cons_cons, List.getLast?_singleton, Nat.zero_add, Nat.reduceAdd, Int.cast_ofNat_Int, Int.natCast_add, Int.natCast_one, Nat.reduceLeDiff, Int.reduceLT, Int.reduceLE, Int.reduceEq, decide_true, decide_false, Int.reduceAdd, Int.reduceNeg, Int.reduceSub, Int.reduceToNat, eq_self, ne_eq, not_true_eq_false, not_false_eq_true, List.map_cons, List.map_nil, Option.getD_some, Option.getD_none, Option.isSome_some, Option.isSome_none])
open HL
open TL PySem.NumText
section
variable {P : Program} {w : World} {K : PySem.W.Frag} {mg : Str → Option Value} {base : Heap}
def unstr : D → Str
  | .str x => x
  | _ => Str.empty
theorem perm_strs {zs : List D} {L : List Str} (h : zs.Perm (L.map D.str)) : ∃ L' : List Str, zs = L'.map D.str ∧ L'.Perm L := by
  refine ⟨zs.map unstr, ?_, ?_⟩
  · rw [List.map_map]
    conv => lhs; rw [← List.map_id zs]
    refine List.map_congr_left fun d hd => ?_
    obtain ⟨x, _, rfl⟩ := List.mem_map.mp (h.mem_iff.mp hd)
    rfl
  · have := h.map unstr
    rw [List.map_map] at this
    rw [show (unstr ∘ D.str) = _root_.id from rfl, List.map_id] at this
    exact this
def names8 : List Str := ["ann", "a", "ab", "b", "first", "of", "end", "zzzzzzzz"]
theorem nmOk_S {l : List Nat} (h : letters (S l)) (h1 : 1 ≤ l.length) (h8 : l.length ≤ 8) : nmOk (S l) := ⟨h, by rw [S_len]; exact h1, by rw [S_len]; exact h8⟩
theorem names8_ok : ∀ n ∈ names8, nmOk n := by
  have k : ∀ n : Str, (n.cps.toList.all isLetter && decide (1 ≤ n.length) && decide (n.length ≤ 8)) = true → nmOk n := fun n h => by
    simp only [Bool.and_eq_true, List.all_eq_true, decide_eq_true_eq] at h
    exact ⟨h.1.1, h.1.2, h.2⟩
  intro n hn
  refine k n ?_
  have : (names8.all fun n => n.cps.toList.all isLetter && decide (1 ≤ n.length) && decide (n.length ≤ 8)) = true := by decide +kernel
  exact List.all_eq_true.mp this n hn
theorem names8_nd : names8.Nodup := by decide +kernel
def sp__law_names : DSp := fun ds C Q => ∃ a m x N, ds = [.cell a, .int (m : Nat)] ∧ C a = some x ∧ PU N x ∧ N ≤ 40000 ∧ 1 ≤ m ∧ m ≤ 8 ∧ ∀ (ns : List Str) y, ns.Nodup → ns.length = m → (∀ n ∈ ns, nmOk n) → PU (N + 80) y → Q (.lst (ns.map D.str)) (cset C a y)
theorem ok__law_names (T : Txt K mg) : Fn P w K mg base 4 (fa mg "_law_names") [] sp__law_names := by
  have G__law_word := ok__law_word (P := P) (w := w) (base := base) T
  have G__law_shuffled := ok__law_shuffled (P := P) (w := w) (base := base) T
  refine fn_df T.d__law_names sc__law_names (fun ds C Q h => ?_) (fun cdv A outer s H E hr => ?_)
  · (obtain ⟨_, _, _, _, rfl, _⟩ := h; rfl)
  have hu := hr.units
  have hu1 := hu_of hr
  have nd := sc__law_names.nd
  refine ⟨_, (ds_cons (ds_asg (de_tup (da_cons (de_lst (da_cons dc_str (da_cons dc_str (da_cons dc_str (da_cons dc_str (da_cons dc_str (da_cons dc_str (da_cons dc_str (da_cons dc_str da_nil))))))))) (da_cons (de_call G__law_word T.d__law_word.m (hr.mono (by omega)) (da_cons (dv 0) da_nil)) da_nil))) (dg_tup rfl (gn_cons (i := 2) nd (gn_cons (i := 3) nd gn_nil))))
    (ds_one (ds_ret (de_sl (de_call G__law_shuffled T.d__law_shuffled.m (hr.mono (by omega)) (da_cons (dv 0) (da_cons (de_op op_addA ops_add (dv 2) (de_lcL rfl nd (de_lst (da_cons (dv 3) da_nil)) (by first | (change blkC N__law_names (defScope s__law_names) _ _ = true; decide +kernel) | rfl) (fun _ _ _ _ _ => pg_name (i := 4) nd rfl (Or.inl rfl)) (fun _ _ _ _ _ => (dp_one (dt_cmp op_notInA ops_in (dv 4) (dv 2) rfl))) (fun _ _ _ _ _ => (dv 4)))) da_nil))) dp_none (dp_some (dv 1)))))), fun ds C Q h => ?_⟩
  obtain ⟨a, m, x, N, rfl, hc, hx, hN, hm1, hm8, h⟩ := h
  rw [show startD N__law_names [.cell a, .int (m : Nat)] = [some (.cell a), some (.int (m : Nat)), none, none, none] from rfl]
  refine seq_g fun NX hNX => ?_
  try walk_at "dl"
  refine ⟨a, x, N, rfl, hc, hx, by omega, fun l y hl h1 h8 hy => ?_⟩
  try walk_at "dl"
  refine hNX _ _ ?_
  clear hNX
  have e8 : [D.str (Str.ofString "ann"), D.str (Str.ofString "a"), D.str (Str.ofString "ab"), D.str (Str.ofString "b"), D.str (Str.ofString "first"), D.str (Str.ofString "of"), D.str (Str.ofString "end"), D.str (Str.ofString "zzzzzzzz")] = names8.map D.str := rfl
  rw [e8]
  try walk_at "dl"
  refine compN_by (xs := [S l]) D.str (fun z => decide (z ∉ names8)) D.str (by simp) (fun z P' _ q => ?_) (fun z P' _ _ q => ?_) ?_
  · try walk_at "dl"
    refine ⟨rfl, flat_strsD _, ?_⟩
    rw [inD_strs, ← decide_not]
    exact q
  · try walk_at "dl"
    exact q
  generalize hg : ([S l].filter fun z => decide (z ∉ names8)) = gs
  have hgl : gs.length ≤ 1 := by rw [← hg]; exact List.length_filter_le _ _
  have hgm : ∀ z ∈ gs, z = S l ∧ z ∉ names8 := fun z hz => by
    rw [← hg] at hz
    obtain ⟨q1, q2⟩ := List.mem_filter.mp hz
    exact ⟨List.mem_singleton.mp q1, of_decide_eq_true q2⟩
  have hgn : gs.Nodup := by rw [← hg]; exact (List.nodup_cons.mpr ⟨by simp, List.nodup_nil⟩).sublist List.filter_sublist
  have l8 : names8.length = 8 := rfl
  try walk_at "dl"
  rw [List.length_map, List.length_map]
  refine ⟨by omega, ?_⟩
  rw [← List.map_append]
  refine ⟨a, _, y, _, rfl, cset_same, hy, by rw [List.length_map, List.length_append]; omega, by omega, fun zs y2 pz hy2 => ?_⟩
  obtain ⟨L, rfl, pL⟩ := perm_strs pz
  try walk_at "dl"
  have hL : L.length = 8 + gs.length := by rw [pL.length_eq, List.length_append, l8]
  have ecut : cutD (L.map D.str) none (some (m : Int)) = (L.take m).map D.str := by
    unfold cutD
    rw [HT.sIx_nat, HT.sIx_none, List.drop_zero, Nat.sub_zero, List.length_map, Nat.min_eq_left (by omega), List.map_take]
  rw [ecut, cset_cset]
  have ndL : L.Nodup := pL.nodup_iff.mpr (List.nodup_append.mpr ⟨names8_nd, hgn, fun p hp q hq e => (hgm q hq).2 (e ▸ hp)⟩)
  refine fin (h (L.take m) y2 (ndL.sublist (List.take_sublist _ _)) (by rw [List.length_take]; omega) (fun n hn => ?_) (hy2.mono (by rw [List.length_map, List.length_append]; omega)))
  rcases List.mem_append.mp (pL.mem_iff.mp (List.mem_of_mem_take hn)) with hn | hn
  · exact names8_ok n hn
  · rw [(hgm n hn).1]
    exact nmOk_S hl h1 h8
def sp__law_small_wait : DSp := fun ds C Q => ∃ a x N, ds = [.cell a] ∧ C a = some x ∧ PU N x ∧ N ≤ 50000 ∧ ∀ (z : Int) y, PU (N + 20) y → Q (.int z) (cset C a y)
theorem ok__law_small_wait (T : Txt K mg) : Fn P w K mg base 4 (fa mg "_law_small_wait") [] sp__law_small_wait := by
  have G__law_draw := ok__law_draw (P := P) (w := w) (base := base) T
  refine fn_df T.d__law_small_wait sc__law_small_wait (fun ds C Q h => ?_) (fun cdv A outer s H E hr => ?_)
  · (obtain ⟨_, _, _, rfl, _⟩ := h; rfl)
  have hu := hr.units
  have hu1 := hu_of hr
  have nd := sc__law_small_wait.nd
  refine ⟨_, (ds_one (ds_ret (de_op op_sub ops_I0 (de_call G__law_draw T.d__law_draw.m (hr.mono (by omega)) (da_cons (dv 0) (da_cons dc_int da_nil))) (de_call G__law_draw T.d__law_draw.m (hr.mono (by omega)) (da_cons (dv 0) (da_cons dc_int da_nil)))))), fun ds C Q h => ?_⟩
  obtain ⟨a, x, N, rfl, hc, hx, hN, h⟩ := h
  rw [show startD N__law_small_wait [.cell a] = [some (.cell a)] from rfl]
  try walk_at "dl"
  refine ⟨a, 4, x, N, rfl, hc, hx, by omega, by omega, by omega, fun r1 y1 _ _ hy1 => ?_⟩
  try walk_at "dl"
  refine ⟨a, 2, y1, _, rfl, cset_same, hy1, by omega, by omega, by omega, fun r2 y2 _ _ hy2 => ?_⟩
  try walk_at "dl"
  rw [cset_cset]
  exact fin (h _ y2 (hy2.mono (by omega)))
/-- a part of one name -/
def sp__law_part : DSp := fun ds C Q => ∃ (a : Addr) (x : Cell) (N : Nat) (ns hg : List Str) (b : Bool), ds = [.cell a, .lst (ns.map D.str), .lst (hg.map D.str), .bl b] ∧ C a = some x ∧ PU N x ∧ N ≤ 40000 ∧ ns ≠ [] ∧ ns.length ≤ 8 ∧ hg.length ≤ 8 ∧
  ∀ (c : Bool) (n : Str) (z : Int) y, (if c then n ∈ hg else n ∈ ns) → PU (N + 40) y → Q (toD (.pt c n z)) (cset C a y)
theorem mem_strs {d : D} {L : List Str} (h : d ∈ L.map D.str) : ∃ n, n ∈ L ∧ d = .str n := by
  obtain ⟨n, hn, rfl⟩ := List.mem_map.mp h
  exact ⟨n, hn, rfl⟩
theorem ok__law_part (T : Txt K mg) : Fn P w K mg base 5 (fa mg "_law_part") [] sp__law_part := by
  have G__law_draw := ok__law_draw (P := P) (w := w) (base := base) T
  have G__law_one_of := ok__law_one_of (P := P) (w := w) (base := base) T
  have G__law_wait := ok__law_wait (P := P) (w := w) (base := base) T
  have G__law_small_wait := ok__law_small_wait (P := P) (w := w) (base := base) T
  refine fn_df T.d__law_part sc__law_part (fun ds C Q h => ?_) (fun cdv A outer s H E hr => ?_)
  · (obtain ⟨_, _, _, _, _, _, rfl, _⟩ := h; rfl)
  have hu := hr.units
  have hu1 := hu_of hr
  have nd := sc__law_part.nd
  refine ⟨_, (ds_cons (ds_set (i := 4) nd (de_if (dt_val (dv 3)) (de_call G__law_small_wait T.d__law_small_wait.m (hr.mono (by omega)) (da_cons (dv 0) da_nil)) (de_call G__law_wait T.d__law_wait.m (hr.mono (by omega)) (da_cons (dv 0) da_nil))))
    (ds_cons (ds_if (dt_pw (dw_and (dt_cmp (op_neNil hr.units0) ops_nil (dv 2) (de_lst da_nil) (nomark _)) (dw_and1 (dt_cmp (op_eqA hu) ops_eq (de_call G__law_draw T.d__law_draw.m (hr.mono (by omega)) (da_cons (dv 0) (da_cons dc_int da_nil))) dc_int (nomark _))))) (ds_one (ds_ret (de_tup (da_cons dc_str (da_cons (de_call G__law_one_of T.d__law_one_of.m (hr.mono (by omega)) (da_cons (dv 0) (da_cons (dv 2) da_nil))) (da_cons (dv 4) da_nil)))))) ds_nil)
    (ds_one (ds_ret (de_tup (da_cons dc_str (da_cons (de_call G__law_one_of T.d__law_one_of.m (hr.mono (by omega)) (da_cons (dv 0) (da_cons (dv 1) da_nil))) (da_cons (dv 4) da_nil)))))))), fun ds C Q h => ?_⟩
  obtain ⟨a, x, N, ns, hg, b, rfl, hc, hx, hN, hne, hnl, hhl, h⟩ := h
  rw [show startD N__law_part [.cell a, .lst (ns.map D.str), .lst (hg.map D.str), .bl b] = [some (.cell a), some (.lst (ns.map D.str)), some (.lst (hg.map D.str)), some (.bl b), none] from rfl]
  refine seq_g fun NX hNX => ?_
  have go : ∀ (z : Int) (y : Cell), PU (N + 20) y → NX [some (.cell a), some (.lst (ns.map D.str)), some (.lst (hg.map D.str)), some (.bl b), some (.int z)] (cset C a y) := fun z y hy => by
    refine hNX _ _ ?_
    clear hNX
    have own : ∀ y2 : Cell, PU (N + 24) y2 → sp__law_one_of [.cell a, .lst (ns.map D.str)] (cset C a y2) fun d C1 => ∃ C'', Gh C1 C'' ∧ Q (.tup [.str "of", d, .int z]) C'' := fun y2 hy2 => by
      refine ⟨a, _, y2, _, rfl, cset_same, hy2, fun e => hne (List.map_eq_nil_iff.mp e), by rw [List.length_map]; omega, by omega, fun d y3 hd hy3 => ?_⟩
      obtain ⟨n, hn, rfl⟩ := mem_strs hd
      rw [cset_cset]
      exact fin (h false n z y3 (by simpa using hn) (hy3.mono (by omega)))
    refine seq_g fun NY hNY => ?_
    try walk_at "dl"
    rw [List.isEmpty_map]
    cases hg with
    | nil =>
      try walk_at "dl"
      refine hNY _ _ ?_
      try walk_at "dl"
      exact own y (hy.mono (by omega))
    | cons g gr =>
      try walk_at "dl"
      refine ⟨a, 3, y, _, rfl, cset_same, hy, by omega, by omega, by omega, fun r y2 _ _ hy2 => ?_⟩
      try walk_at "dl"
      rw [cset_cset]
      by_cases hr0 : r = 0
      · subst hr0
        try walk_at "dl"
        refine ⟨a, _, y2, _, rfl, cset_same, hy2, by simp, by simp only [List.length_cons, List.length_map] at hhl ⊢; omega, by omega, fun d y3 hd hy3 => ?_⟩
        obtain ⟨n, hn, rfl⟩ := mem_strs (L := g :: gr) hd
        try walk_at "dl"
        rw [cset_cset]
        exact fin (h true n z y3 (by simpa using hn) (hy3.mono (by omega)))
      · rw [decide_eq_false hr0]
        try walk_at "dl"
        refine hNY _ _ ?_
        try walk_at "dl"
        exact own y2 (hy2.mono (by omega))
  clear hNX
  try walk_at "dl"
  cases b with
  | true =>
    try walk_at "dl"
    refine ⟨a, x, N, rfl, hc, hx, by omega, fun z y hy => ?_⟩
    try walk_at "dl"
    exact go z y hy
  | false =>
    try walk_at "dl"
    refine ⟨a, x, N, rfl, hc, hx, by omega, fun z y hy => ?_⟩
    try walk_at "dl"
    exact go z y hy
end

end K78

set_option Elab.async false
set_option linter.all false
set_option maxRecDepth 100000
set_option maxHeartbeats 1000000
namespace K78
open PySem L2 DL
local macro_rules | `(tactic| walk_at "dl") => `(tactic| simp only [dSeq, dIfS, dOr, dAnd, dNot, dTest, dCB, d1, d2, kIsi, kIsO, kLen, kStr, kIntT, kAbs, kI2, kSum, dCons, dNil, dVar, dC, slot, tyD, opt_some, kitB_ss, kitB_is, kitB_ii, kitB_ib, kitB_si, kitB_tt, kitB_ll, kitB_dd, kitB_tl, kitB_lt, kitB_ts, kitB_bb, kitB_bi,
  vw_non, vw_bl, vw_i, vw_s, vw_l, vw_t, vw_d, vw_n, vw_f, vw_v, asB, dAndV, dOrV, dNotV, dIf, dOp, dI2, dSub, dMul, dFdiv, dMod, dPow, dLt, dLe, dGt, dGe, dAdd, dRet, dRetN, dNext, dLst, dTup, dLstC, dCall, dDrop, dAsg, dName, dPar, dSets, dGTup, dIx, dSl, dPart, dNoP, dInN, dIsN, dEqN, dNeg, dFz, frz1, dFzS, dFld, dSetFld, dMth, dMake, dCallL, dChain, endsOf, dLcL, dLcS, dLcR1, dYes, dBM, mAppend, mInsert, mStarts3, mJoin, tyM, dBits, dForL, dForT, dForR1, int1, dDGet, dDIn, dDPut, dDGet2, kDict0, DL.keyOf, kListOf, kRepr, dEqP, kMax, kMin, isN, fget, fput, dForD, dLcD, dLcP, dLc2, dForE, oneL, dDcL, kLenB, kSortI, kSortD, kDictD, kDictP, kIntB, dSortSet, dLenSet, dAddT, dRep, dInDeep, dSame, dNilC, dLcR1C, dDict0, dPair0, dPairS, dDisp, keysOf', keyD,
  List.set_cons_zero, List.set_cons_succ, List.length_cons, List.length_nil, Bool.not_true, Bool.not_false, List.append_nil,
  if_true, if_false, Bool.false_eq_true, Bool.true_eq_false, ite_true, ite_false, true_and, and_true, reduceIte, List.nil_append, List.cons_append, atI_0, atI_1, atI_2, atI_3, atI_m1, List.getElem?_cons_zero, List.getElem?_cons_succ, List.getLast?_cons_cons, List.getLast?_singleton, Nat.zero_add, Nat.reduceAdd, Int.cast_ofNat_Int, Int.natCast_add, Int.natCast_one, Nat.reduceLeDiff, Int.reduceLT, Int.reduceLE, Int.reduceEq, decide_true, decide_false, Int.reduceAdd, Int.reduceNeg, Int.reduceSub, Int.reduceToNat, eq_self, ne_eq, not_true_eq_false, not_false_eq_true, List.map_cons, List.map_nil, Option.getD_some, Option.getD_none, Option.isSome_some, Option.isSome_none])
open HL
open TL PySem.NumText
section
variable {P : Program} {w : World} {K : PySem.W.Frag} {mg : Str → Option Value} {base : Heap}
/-! ### terms drawn -/
def fac : Nat → Nat
  | 0 => 1
  | n + 1 => (n + 1) * fac n
theorem fac_mono : ∀ {m n : Nat}, m ≤ n → fac m ≤ fac n
  | m, 0, h => by rw [Nat.le_zero.mp h]; exact Nat.le_refl _
  | m, n + 1, h => by
    rcases Nat.lt_or_ge m (n + 1) with h1 | h1
    · have := fac_mono (Nat.le_of_lt_succ h1)
      have h2 : fac n ≤ fac (n + 1) := by show fac n ≤ (n + 1) * fac n; exact Nat.le_mul_of_pos_left _ (by omega)
      exact Nat.le_trans this h2
    · have : m = n + 1 := by omega
      subst this
      exact Nat.le_refl _
def cost : Nat → Nat
  | 0 => 0
  | 1 => 40
  | n + 2 => 30 + 4 * cost (n + 1)
theorem cost_succ : ∀ n, cost n ≤ cost (n + 1)
  | 0 => by decide
  | 1 => by decide
  | n + 2 => by
    have : cost (n + 1) ≤ cost (n + 2) := cost_succ (n + 1)
    show 30 + 4 * cost (n + 1) ≤ 30 + 4 * cost (n + 2)
    omega
theorem cost_mono : ∀ {m n : Nat}, m ≤ n → cost m ≤ cost n
  | m, 0, h => by rw [Nat.le_zero.mp h]; exact Nat.le_refl _
  | m, n + 1, h => by
    rcases Nat.lt_or_ge m (n + 1) with h1 | h1
    · exact Nat.le_trans (cost_mono (Nat.le_of_lt_succ h1)) (cost_succ n)
    · have : m = n + 1 := by omega
      subst this
      exact Nat.le_refl _
structure TG (k : Nat) (ns hg : List Str) (t : Tm) : Prop where
  wf : WF t
  dp : hle (k - 1) t
  lv : (leaves t).length ≤ fac k
  f : ∀ n ∈ nms false t, n ∈ ns
  t : ∀ n ∈ nms true t, n ∈ hg
theorem TG.mono {k m : Nat} {ns hg : List Str} {t : Tm} (h : TG k ns hg t) (l : k ≤ m) : TG m ns hg t := ⟨h.wf, hle_mono h.dp (by omega), Nat.le_trans h.lv (fac_mono l), h.f, h.t⟩
theorem leavess_bound {L : Nat} : ∀ {ts : List Tm}, (∀ t ∈ ts, (leaves t).length ≤ L) → (leavess ts).length ≤ ts.length * L
  | [], _ => by simp [leavess]
  | t :: ts, h => by
    have h1 := h t (by simp)
    have h2 := leavess_bound (ts := ts) fun u hu => h u (by simp [hu])
    simp only [leavess, List.length_append, List.length_cons, Nat.succ_mul]
    omega
theorem TG.nd {k : Nat} {ns hg : List Str} {ts : List Tm} (kd : Kd) (hk : 2 ≤ k) (h1 : 1 ≤ ts.length) (h2 : ts.length ≤ k) (h50 : k ≤ 50) (hkd : kdOk kd ts.length) (h : ∀ t ∈ ts, TG (k - 1) ns hg t) : TG k ns hg (.nd kd ts) := by
  refine ⟨?_, ?_, ?_, fun n hn => ?_, fun n hn => ?_⟩
  · simp only [WF]
    exact ⟨fun e => by rw [e] at h1; simp at h1, by omega, hkd, WFs_of fun t ht => (h t ht).wf⟩
  · obtain ⟨m, rfl⟩ : ∃ m, k = m + 2 := ⟨k - 2, by omega⟩
    show hle (m + 1) _
    simp only [hle]
    exact fun t ht => (h t ht).dp
  · have h3 := leavess_bound (L := fac (k - 1)) fun t ht => (h t ht).lv
    have h4 : fac k = k * fac (k - 1) := by
      obtain ⟨m, rfl⟩ : ∃ m, k = m + 1 := ⟨k - 1, by omega⟩
      rfl
    have h5 : ts.length * fac (k - 1) ≤ k * fac (k - 1) := Nat.mul_le_mul_right _ h2
    simp only [leaves]
    omega
  · obtain ⟨t, ht, hx⟩ := nms_nd.mp hn
    exact (h t ht).f n hx
  · obtain ⟨t, ht, hx⟩ := nms_nd.mp hn
    exact (h t ht).t n hx
theorem sum_ge : ∀ {l : List Nat} {s : Nat}, (∀ x ∈ l, 1 ≤ x) → s ∈ l → s + l.length ≤ l.sum + 1
  | [], s, _, h => by simp at h
  | x :: r, s, h, hs => by
    have hr : r.length ≤ r.sum := by
      have : ∀ {l : List Nat}, (∀ x ∈ l, 1 ≤ x) → l.length ≤ l.sum := fun {l} => by
        induction l with
        | nil => intro _; simp
        | cons y l ih =>
          intro h
          have := ih fun z hz => h z (by simp [hz])
          have := h y (by simp)
          simp only [List.length_cons, List.sum_cons]
          omega
      exact this fun z hz => h z (by simp [hz])
    simp only [List.length_cons, List.sum_cons]
    rcases List.mem_cons.mp hs with rfl | hs
    · omega
    · have := sum_ge (fun z hz => h z (by simp [hz])) hs
      have := h x (by simp)
      omega
theorem sum_set : ∀ {l : List Nat} {i v : Nat}, l[i]? = some v → (l.set i (v + 1)).sum = l.sum + 1
  | [], i, v, h => by simp at h
  | x :: r, 0, v, h => by
    simp at h; subst h
    simp; omega
  | x :: r, i + 1, v, h => by
    have := sum_set (l := r) (i := i) (by simpa using h)
    simp only [List.set_cons_succ, List.sum_cons]
    omega
theorem cset_3' {C : Cells} {a p : Addr} {y y2 L : Cell} (h : p ≠ a) : cset (cset (cset C a y) p L) a y2 = cset (cset C a y2) p L := by
  funext b
  unfold cset
  by_cases h1 : b = p
  · subst h1; simp only [if_true, if_neg h]
  · simp only [if_neg h1]
    by_cases h2 : b = a
    · simp only [if_pos h2]
    · simp only [if_neg h2]
theorem ixN_nat {n r : Nat} (h : r < n) : ixN n (r : Int) = some r := by
  unfold ixN
  rw [if_pos (by omega), Int.toNat_natCast, if_pos (by omega)]
def natD (n : Nat) : D := .int (n : Int)
def sp__law_term (m : Nat) : DSp := fun ds C Q => ∃ (a : Addr) (x : Cell) (N : Nat) (ns hg : List Str) (k : Nat) (b : Bool), ds = [.cell a, .lst (ns.map D.str), .lst (hg.map D.str), .int (k : Nat), .bl b] ∧ C a = some x ∧ PU N x ∧ N + cost k ≤ 40000 ∧ ns ≠ [] ∧ ns.length ≤ 8 ∧ hg.length ≤ 8 ∧ (∀ n ∈ ns, nmOk n) ∧ (∀ n ∈ hg, nmOk n) ∧ 1 ≤ k ∧ k ≤ m ∧ k ≤ 4 ∧
  ∀ t y, TG k ns hg t → PU (N + cost k) y → Q (toD t) (cset C a y)
theorem ok__law_term1 (T : Txt K mg) {k0 m : Nat} {q : DSp} (hk0 : 5 ≤ k0) (G__law_term : Fn P w K mg base k0 (fa mg "_law_term") [] q)
    (hq : ∀ (a : Addr) (x : Cell) (N : Nat) (ns hg : List Str) (k : Nat) (b : Bool) (C : Cells) (Q : DK), C a = some x → PU N x → N + cost k ≤ 40000 → ns ≠ [] → ns.length ≤ 8 → hg.length ≤ 8 → (∀ n ∈ ns, nmOk n) → (∀ n ∈ hg, nmOk n) → 1 ≤ k → k + 1 ≤ m → k ≤ 4 →
      (∀ t y, TG k ns hg t → PU (N + cost k) y → Q (toD t) (cset C a y)) → q [.cell a, .lst (ns.map D.str), .lst (hg.map D.str), .int (k : Nat), .bl b] C Q) :
    Fn P w K mg base (k0 + 1) (fa mg "_law_term") [] (sp__law_term m) := by
  have G__law_part := ok__law_part (P := P) (w := w) (base := base) T
  have G__law_draw := ok__law_draw (P := P) (w := w) (base := base) T
  have G__law_one_of := ok__law_one_of (P := P) (w := w) (base := base) T
  refine fn_df T.d__law_term sc__law_term (fun ds C Q h => ?_) (fun cdv A outer s H E hr => ?_)
  · (obtain ⟨_, _, _, _, _, _, _, rfl, _⟩ := h; rfl)
  have hu := hr.units
  have hu1 := hu_of hr
  have nd := sc__law_term.nd
  refine ⟨_, (ds_cons (ds_if (dt_cmp op_lt ops_B0 (dv 3) dc_int (nomark _)) (ds_one (ds_ret (de_call G__law_part T.d__law_part.m (hr.mono (by omega)) (da_cons (dv 0) (da_cons (dv 1) (da_cons (dv 2) (da_cons (dv 4) da_nil))))))) ds_nil)
    (ds_cons (ds_par (i := 5) (j := 6) rfl nd (da_cons (de_call G__law_one_of T.d__law_one_of.m (hr.mono (by omega)) (da_cons (dv 0) (da_cons (de_lst (da_cons dc_str (da_cons dc_str (da_cons dc_str da_nil)))) da_nil))) (da_cons (de_call G__law_draw T.d__law_draw.m (hr.mono (by omega)) (da_cons (dv 0) (da_cons dc_int da_nil))) da_nil)))
    (ds_cons (ds_set (i := 7) nd (de_if (dt_cmp (op_eqA hu) ops_eq (dv 6) dc_int (nomark _)) (dv 3) (de_if (dt_cmp (op_eqA hu) ops_eq (dv 6) dc_int (nomark _)) dc_int (de_op op_addA ops_add dc_int (de_call G__law_draw T.d__law_draw.m (hr.mono (by omega)) (da_cons (dv 0) (da_cons (de_cb (call_min2 rfl) cl_I2 T.min bt_min (da_cons dc_int (da_cons (de_op op_sub ops_I0 (dv 3) dc_int) da_nil))) da_nil)))))))
    (ds_cons (ds_setLcR1C (i := 8) rfl nd T.range (da_cons (dv 7) da_nil) (by first | (change blkC N__law_term (defScope s__law_term) _ _ = true; decide +kernel) | rfl) (fun _ _ _ _ _ => pg_name (i := 9) nd rfl (Or.inl rfl)) (fun _ _ _ _ _ => dp_nil) (fun _ _ _ _ _ => dc_int))
    (ds_cons (ds_forR1 rfl T.range (da_cons (de_op op_sub ops_I0 (dv 3) (de_cb (call_max2 rfl) cl_I2 T.max bt_max (da_cons (dv 7) (da_cons dc_int da_nil)))) da_nil) (dg_name (i := 9) nd) (ds_cons (ds_set (i := 10) nd (de_call G__law_draw T.d__law_draw.m (hr.mono (by omega)) (da_cons (dv 0) (da_cons (dv 7) da_nil))))
    (ds_one (ds_asg (de_op op_addA ops_add (de_ix (dv 8) (dv 10)) dc_int) (dg_subL (dv 8) (dv 10))))))
    (dss_fz 8 (ds_cons (ds_setLcL (i := 11) rfl nd (dv 8) (by first | (change blkC N__law_term (defScope s__law_term) _ _ = true; decide +kernel) | rfl) (fun _ _ _ _ _ => pg_name (i := 12) nd rfl (Or.inl rfl)) (fun _ _ _ _ _ => dp_nil) (fun _ _ _ _ _ => (de_call G__law_term T.d__law_term.m (hr.mono (by omega)) (da_cons (dv 0) (da_cons (dv 1) (da_cons (dv 2) (da_cons (dv 12) (da_cons (dv 4) da_nil))))))))
    (ds_one (ds_ret (de_if (dt_cmp (op_neA hu) ops_ne (dv 5) dc_str (nomark _)) (de_tup (da_cons (dv 5) (da_cons (dv 11) da_nil))) (de_tup (da_cons (dv 5) (da_cons (de_op op_addA ops_add dc_int (de_call G__law_draw T.d__law_draw.m (hr.mono (by omega)) (da_cons (dv 0) (da_cons (dv 7) da_nil)))) (da_cons (dv 11) da_nil)))))))))))))), fun ds C Q h => ?_⟩
  obtain ⟨a, x, N, ns, hg, k, b, rfl, hc, hx, hN, hne, hnl, hhl, hns, hhg, hk1, hkm, hk4, h⟩ := h
  rw [show startD N__law_term [.cell a, .lst (ns.map D.str), .lst (hg.map D.str), .int (k : Nat), .bl b] = [some (.cell a), some (.lst (ns.map D.str)), some (.lst (hg.map D.str)), some (.int (k : Nat)), some (.bl b), none, none, none, none, none, none, none, none] from rfl]
  refine seq_g fun NX hNX => ?_
  try walk_at "dl"
  by_cases h2 : k < 2
  · rw [if_pos (by simp only [decide_eq_true_eq]; omega)]
    have hk : k = 1 := by omega
    subst hk
    refine ⟨a, x, N, ns, hg, b, rfl, hc, hx, by omega, hne, hnl, hhl, fun c n z y hn hy => fin (h _ y ⟨?_, ?_, ?_, ?_, ?_⟩ hy)⟩
    · simp only [WF]
      cases c with
      | true => exact hhg n (by simpa using hn)
      | false => exact hns n (by simpa using hn)
    · simp [hle]
    · simp [leaves, fac]
    · intro m hm
      cases c with
      | true => simp [nms, leaves] at hm
      | false => rw [nms_pt, List.mem_singleton] at hm; rw [hm]; simpa using hn
    · intro m hm
      cases c with
      | true => rw [nms_pt, List.mem_singleton] at hm; rw [hm]; simpa using hn
      | false => simp [nms, leaves] at hm
  rw [if_neg (by simp only [decide_eq_true_eq]; omega)]
  refine hNX _ _ ?_
  clear hNX
  have hck : cost k = 30 + 4 * cost (k - 1) := by
    obtain ⟨j, rfl⟩ : ∃ j, k = j + 2 := ⟨k - 2, by omega⟩
    rfl
  refine seq_g fun NX hNX => ?_
  try walk_at "dl"
  refine ⟨a, _, x, N, rfl, hc, hx, by simp, by simp, by omega, fun wd y1 hwd hy1 => ?_⟩
  try walk_at "dl"
  refine ⟨a, 9, y1, _, rfl, cset_same, hy1, by omega, by omega, by omega, fun way y2 hw0 hw9 hy2 => ?_⟩
  try walk_at "dl"
  refine hNX _ _ ?_
  clear hNX
  rw [cset_cset]
  refine seq_g fun NX hNX => ?_
  have go : ∀ (c : Nat) (y : Cell), 1 ≤ c → c ≤ k → PU (N + 12) y → NX [some (.cell a), some (.lst (ns.map D.str)), some (.lst (hg.map D.str)), some (.int (k : Nat)), some (.bl b), some wd, some (.int way), some (.int (c : Nat)), none, none, none, none, none] (cset C a y) := fun c y hc1 hck' hy => by
    refine hNX _ _ ?_
    clear hNX
    have hf1 : cset C a y a = some y := cset_same
    refine seq_g fun NX hNX => ?_
    try walk_at "dl"
    rw [Int.toNat_natCast]
    refine ⟨by omega, by omega, compN_by (xs := List.range c) natD (fun _ => true) (fun _ => .int 1) (by rw [List.length_range]; omega) (fun z P' _ q => q) (fun z P' _ _ q => ?_) ?_⟩
    · try walk_at "dl"
      exact q
    rw [filt_all fun _ _ => rfl]
    intro p hp
    have hpa : p ≠ a := fun e => by rw [e, cset_same] at hp; cases hp
    have hpc : C p = none := by rwa [cset_ne hpa] at hp
    refine hNX _ _ ?_
    clear hNX
    have e1 : (List.range c).map (fun _ => D.int 1) = (List.replicate c 1).map natD := by
      rw [List.map_replicate, List.map_const', List.length_range]
      rfl
    rw [e1]
    refine seq_g fun NX hNX => ?_
    try walk_at "dl"
    have hr : ((k : Int) - (if (2 : Int) > (c : Int) then 2 else (c : Int))).toNat = k - (if 2 > c then 2 else c) := by split <;> split <;> omega
    rw [hr]
    refine ⟨by split <;> omega, by split <;> omega, ?_⟩
    refine ⟨fun i ρ C' => ∃ (sz : List Nat) (y2 : Cell) (o1 o2 : Option D), C' = cset (cset C a y2) p (.lst (sz.map natD)) ∧ ρ = [some (.cell a), some (.lst (ns.map D.str)), some (.lst (hg.map D.str)), some (.int (k : Nat)), some (.bl b), some wd, some (.int way), some (.int (c : Nat)), some (.cell p), o1, o2, none, none] ∧ sz.length = c ∧ (∀ s ∈ sz, 1 ≤ s) ∧ sz.sum = c + i ∧ PU (N + 12 + 4 * i) y2,
      ⟨_, y, none, none, rfl, rfl, by simp, fun s hs => by rw [(List.mem_replicate.mp hs).2]; omega, by simp, hy⟩, ?_, ?_⟩
    · rintro i d ρ C' e ⟨sz, y2, o1, o2, rfl, rfl, hsl, hs1, hsum, hy2⟩
      have hi : i < 4 := by
        have := (List.getElem?_eq_some_iff.mp e).1
        rw [List.length_map, List.length_range] at this
        omega
      refine name_g ?_
      simp only [List.set_cons_succ, List.set_cons_zero]
      refine seq_g fun NY hNY => ?_
      try walk_at "dl"
      refine ⟨a, c, y2, _, rfl, (cset_ne (Ne.symm hpa)).trans cset_same, hy2, by omega, by omega, by omega, fun r y3 hr0 hr1 hy3 => ?_⟩
      try walk_at "dl"
      refine hNY _ _ ?_
      clear hNY
      rw [cset_3' hpa]
      obtain ⟨r', rfl⟩ := Int.eq_ofNat_of_zero_le hr0
      have hrl : r' < sz.length := by omega
      try walk_at "dl"
      rw [vw_cl cset_same]
      try walk_at "dl"
      rw [atI_nat', List.getElem?_map, List.getElem?_eq_getElem hrl, Option.map_some, opt_some]
      simp only [natD]
      try walk_at "dl"
      unfold dSubL
      try walk_at "dl"
      rw [cset_same]
      try walk_at "dl"
      rw [List.length_map, ixN_nat hrl, opt_some, cset_cset]
      refine .of ⟨sz.set r' (sz[r'] + 1), y3, _, _, ?_, rfl, by rw [List.length_set]; exact hsl, fun s hs => ?_, ?_, hy3.mono (by omega)⟩
      · rw [List.map_set]
        rfl
      · rcases List.mem_or_eq_of_mem_set hs with hs | rfl
        · exact hs1 s hs
        · omega
      · rw [sum_set (List.getElem?_eq_getElem hrl), hsum]; omega
    · rintro ρ C' ⟨sz, y2, o1, o2, rfl, rfl, hsl, hs1, hsum, hy2⟩
      rw [List.length_map, List.length_range] at hsum hy2
      have hsz : ∀ s ∈ sz, 1 ≤ s ∧ s ≤ k - 1 := fun s hs => by
        have h3 := sum_ge hs1 hs
        refine ⟨hs1 s hs, ?_⟩
        split at hsum <;> omega
      have hpa2 : cset C a y2 p = none := (cset_ne hpa).trans hpc
      refine hNX _ _ ?_
      clear hNX
      try walk_at "dl"
      rw [cset_same]
      try walk_at "dl"
      rw [cdel_cset hpa2]
      have hN2 : N + 12 + 4 * (k - if 2 > c then 2 else c) ≤ N + 20 := by split <;> omega
      have hc3 : cost (k - 1) ≤ 790 := Nat.le_trans (cost_mono (by omega : k - 1 ≤ 3)) (by decide)
      refine ⟨fun i acc C' => ∃ (ts : List Tm) (y3 : Cell), acc = ts.map toD ∧ ts.length = i ∧ (∀ t ∈ ts, TG (k - 1) ns hg t) ∧ C' = cset C a y3 ∧ PU (N + 20 + i * cost (k - 1)) y3, ⟨[], y2, rfl, rfl, by simp, rfl, hy2.mono (by omega)⟩, ?_, ?_⟩
      · rintro i d acc C' e ⟨ts, y3, rfl, htl, htg, rfl, hy3⟩
        rw [List.getElem?_map] at e
        cases es : sz[i]? with
        | none => rw [es] at e; cases e
        | some s =>
          rw [es] at e
          cases e
          have hi4 : i < 4 := by
            have := (List.getElem?_eq_some_iff.mp es).1
            omega
          obtain ⟨s1, s2⟩ := hsz s (List.mem_of_getElem? es)
          have hm1 : i * cost (k - 1) ≤ 3 * cost (k - 1) := Nat.mul_le_mul_right _ (by omega)
          try walk_at "dl"
          simp only [natD]
          refine hq a y3 (N + 20 + i * cost (k - 1)) ns hg s b _ _ cset_same hy3 (by have := cost_mono s2; omega) hne hnl hhl hns hhg s1 (by omega) (by omega) fun t y4 htt hy4 => ?_
          try walk_at "dl"
          rw [cset_cset]
          refine ⟨by rw [List.length_map]; omega, _, Gh.refl _, ts ++ [t], y4, by rw [List.map_append]; rfl, by simp [htl], fun u hu => ?_, rfl, hy4.mono ?_⟩
          · rcases List.mem_append.mp hu with hu | hu
            · exact htg u hu
            · rw [List.mem_singleton.mp hu]; exact htt.mono (by omega)
          · have := cost_mono s2
            rw [Nat.succ_mul]
            omega
      · rintro acc C' ⟨ts, y3, rfl, htl, htg, rfl, hy3⟩
        rw [List.length_map, hsl] at htl hy3
        have hmm : c * cost (k - 1) ≤ 4 * cost (k - 1) := Nat.mul_le_mul_right _ (by omega)
        have hk2 : 2 ≤ k := by omega
        try walk_at "dl"
        have fin3 : ∀ (kd : Kd) (y : Cell), kdOk kd ts.length → PU (N + 20 + c * cost (k - 1) + 4) y → Q (toD (.nd kd ts)) (cset C a y) := fun kd y hkd hy => h _ y (TG.nd kd hk2 (by omega) (by omega) (by omega) hkd htg) (hy.mono (by omega))
        simp only [List.mem_cons, List.not_mem_nil, or_false] at hwd
        rcases hwd with rfl | rfl | rfl
        · try walk_at "dl"
          rw [show (decide (("first" : Str) = "rank")) = false by decide +kernel]
          try walk_at "dl"
          have := fin3 .first y3 trivial (hy3.mono (by omega))
          simp only [toD, toDs_map, ndD] at this
          exact fin this
        · try walk_at "dl"
          rw [show (decide (("last" : Str) = "rank")) = false by decide +kernel]
          try walk_at "dl"
          have := fin3 .last y3 trivial (hy3.mono (by omega))
          simp only [toD, toDs_map, ndD] at this
          exact fin this
        · try walk_at "dl"
          try rw [d_same]
          try walk_at "dl"
          refine ⟨a, c, y3, _, rfl, cset_same, hy3, by omega, by omega, by omega, fun r y4 hr0 hr1 hy4 => ?_⟩
          try walk_at "dl"
          rw [cset_cset]
          have := fin3 (.rank (1 + r)) y4 ⟨by omega, by omega⟩ (hy4.mono (by omega))
          simp only [toD, toDs_map, ndD] at this
          exact fin this
  clear hNX
  try walk_at "dl"
  by_cases hw : way = 0
  · subst hw
    try walk_at "dl"
    exact go k y2 hk1 (Nat.le_refl _) (hy2.mono (by omega))
  rw [decide_eq_false hw]
  try walk_at "dl"
  by_cases hw1 : way = 1
  · subst hw1
    try walk_at "dl"
    exact go 1 y2 (Nat.le_refl _) hk1 (hy2.mono (by omega))
  rw [decide_eq_false hw1]
  try walk_at "dl"
  refine ⟨a, _, y2, _, rfl, cset_same, hy2, ?_, ?_, by omega, fun r y3 hr0 hr1 hy3 => ?_⟩
  · split <;> omega
  · split <;> omega
  · try walk_at "dl"
    rw [cset_cset]
    have hr2 : r < 3 ∧ r < (k : Int) - 1 := by split at hr1 <;> omega
    have := go (2 + r).toNat y3 (by omega) (by omega) (hy3.mono (by omega))
    rw [show (((2 + r).toNat : Nat) : Int) = 2 + r by omega] at this
    exact this
end

end K78

set_option Elab.async false
set_option linter.all false
set_option maxRecDepth 100000
set_option maxHeartbeats 1000000
namespace K78
open PySem L2 DL
local macro_rules | `(tactic| walk_at "dl") => `(tactic| simp only [dSeq, dIfS, dOr, dAnd, dNot, dTest, dCB, d1, d2, kIsi, kIsO, kLen, kStr, kIntT, kAbs, kI2, kSum, dCons, dNil, dVar, dC, slot, tyD, opt_some, kitB_ss, kitB_is, kitB_ii, kitB_ib, kitB_si, kitB_tt, kitB_ll, kitB_dd, kitB_tl, kitB_lt, kitB_ts, kitB_bb, kitB_bi,
  vw_non, vw_bl, vw_i, vw_s, vw_l, vw_t, vw_d, vw_n, vw_f, vw_v, asB, dAndV, dOrV, dNotV, dIf, dOp, dI2, dSub, dMul, dFdiv, dMod, dPow, dLt, dLe, dGt, dGe, dAdd, dRet, dRetN, dNext, dLst, dTup, dLstC, dCall, dDrop, dAsg, dName, dPar, dSets, dGTup, dIx, dSl, dPart, dNoP, dInN, dIsN, dEqN, dNeg, dFz, frz1, dFzS, dFld, dSetFld, dMth, dMake, dCallL, dChain, endsOf, dLcL, dLcS, dLcR1, dYes, dBM, mAppend, mInsert, mStarts3, mJoin, tyM, dBits, dForL, dForT, dForR1, int1, dDGet, dDIn, dDPut, dDGet2, kDict0, DL.keyOf, kListOf, kRepr, dEqP, kMax, kMin, isN, fget, fput, dForD, dLcD, dLcP, dLc2, dForE, oneL, dDcL, kLenB, kSortI, kSortD, kDictD, kDictP, kIntB, dSortSet, dLenSet, dAddT, dRep, dInDeep, dSame, dNilC, dLcR1C, dDict0, dPair0, dPairS, dDisp, keysOf', keyD,
  List.set_cons_zero, List.set_cons_succ, List.length_cons, List.length_nil, Bool.not_true, Bool.not_false, List.append_nil,
  if_true, if_false, Bool.false_eq_true, Bool.true_eq_false, ite_true, ite_false, true_and, and_true, reduceIte, List.nil_append, List.cons_append, atI_0, atI_1, atI_2, atI_3, atI_m1, List.getElem?_cons_zero, List.getElem?_cons_succ, List.getLast?_cons_cons, List.getLast?_singleton, Nat.zero_add, Nat.reduceAdd, Int.cast_ofNat_Int, Int.natCast_add, Int.natCast_one, Nat.reduceLeDiff, Int.reduceLT, Int.reduceLE, Int.reduceEq, decide_true, decide_false, Int.reduceAdd, Int.reduceNeg, Int.reduceSub, Int.reduceToNat, eq_self, ne_eq, not_true_eq_false, not_false_eq_true, List.map_cons, List.map_nil, Option.getD_some, Option.getD_none, Option.isSome_some, Option.isSome_none])
open HL
open TL PySem.NumText
section
variable {P : Program} {w : World} {K : PySem.W.Frag} {mg : Str → Option Value} {base : Heap}
theorem ok__law_term (T : Txt K mg) : ∀ m, Fn P w K mg base (m + 6) (fa mg "_law_term") [] (sp__law_term m)
  | 0 => ok__law_term1 (k0 := 5) (q := fun _ _ _ => False) T (Nat.le_refl _) ((fn_zero T.d__law_term.z fun _ _ _ h => h).mono (by omega)) fun a x N ns hg k b C Q _ _ _ _ _ _ _ _ _ h => by omega
  | m + 1 => ok__law_term1 T (by omega) (ok__law_term T m) fun a x N ns hg k b C Q hc hx hN hne hnl hhl h1 h2 hk1 hkm hk4 q => ⟨a, x, N, ns, hg, k, b, rfl, hc, hx, hN, hne, hnl, hhl, h1, h2, hk1, by omega, hk4, q⟩
def sp__law_many_parts : DSp := fun ds C Q => ∃ (a : Addr) (x : Cell) (N : Nat), ds = [.cell a, .int 4] ∧ C a = some x ∧ PU N x ∧ N ≤ 50000 ∧ ∀ (k : Nat) y, 1 ≤ k → k ≤ 4 → PU (N + 8) y → Q (.int (k : Nat)) (cset C a y)
theorem ok__law_many_parts (T : Txt K mg) : Fn P w K mg base 3 (fa mg "_law_many_parts") [] sp__law_many_parts := by
  have G__law_draw := ok__law_draw (P := P) (w := w) (base := base) T
  refine fn_df T.d__law_many_parts sc__law_many_parts (fun ds C Q h => ?_) (fun cdv A outer s H E hr => ?_)
  · (obtain ⟨_, _, _, rfl, _⟩ := h; rfl)
  have hu := hr.units
  have hu1 := hu_of hr
  have nd := sc__law_many_parts.nd
  refine ⟨_, (ds_one (ds_ret (de_if (dt_cmp (op_eqA hu) ops_eq (de_call G__law_draw T.d__law_draw.m (hr.mono (by omega)) (da_cons (dv 0) (da_cons dc_int da_nil))) dc_int (nomark _)) (de_op op_addA ops_add dc_int (de_call G__law_draw T.d__law_draw.m (hr.mono (by omega)) (da_cons (dv 0) (da_cons (dv 1) da_nil)))) (de_cb (call_min2 rfl) cl_I2 T.min bt_min (da_cons (dv 1) (da_cons (de_op op_addA ops_add dc_int (de_call G__law_draw T.d__law_draw.m (hr.mono (by omega)) (da_cons (dv 0) (da_cons dc_int da_nil)))) da_nil)))))), fun ds C Q h => ?_⟩
  obtain ⟨a, x, N, rfl, hc, hx, hN, h⟩ := h
  rw [show startD N__law_many_parts [.cell a, .int 4] = [some (.cell a), some (.int 4)] from rfl]
  try walk_at "dl"
  refine ⟨a, 4, x, N, rfl, hc, hx, by omega, by omega, by omega, fun r1 y1 h10 h11 hy1 => ?_⟩
  try walk_at "dl"
  by_cases hr : r1 = 0
  · subst hr
    try walk_at "dl"
    refine ⟨a, 4, y1, _, rfl, cset_same, hy1, by omega, by omega, by omega, fun r2 y2 h20 h21 hy2 => ?_⟩
    try walk_at "dl"
    rw [cset_cset]
    have := h (1 + r2).toNat y2 (by omega) (by omega) hy2
    rw [show (((1 + r2).toNat : Nat) : Int) = 1 + r2 by omega] at this
    exact fin this
  · rw [decide_eq_false hr]
    try walk_at "dl"
    refine ⟨a, 3, y1, _, rfl, cset_same, hy1, by omega, by omega, by omega, fun r2 y2 h20 h21 hy2 => ?_⟩
    try walk_at "dl"
    rw [cset_cset]
    have e : (if 2 + r2 < 4 then 2 + r2 else 4) = (((if 2 + r2 < 4 then 2 + r2 else 4).toNat : Nat) : Int) := by split <;> omega
    rw [e]
    exact fin (h _ y2 (by split <;> omega) (by split <;> omega) hy2)
/-! ### a book drawn -/
theorem rank_of : ∀ {fs : List Str}, fs.Nodup → ∃ rk : Str → Nat, ∀ i n, fs[i]? = some n → rk n = i
  | [], _ => ⟨fun _ => 0, fun i n h => by simp at h⟩
  | x :: r, nd => by
    obtain ⟨n1, n2⟩ := List.nodup_cons.mp nd
    obtain ⟨rk, h⟩ := rank_of n2
    refine ⟨fun n => if n = x then 0 else rk n + 1, fun i n e => ?_⟩
    cases i with
    | zero =>
      simp at e
      show (if n = x then 0 else rk n + 1) = 0
      rw [if_pos e.symm]
    | succ i =>
      have e' : r[i]? = some n := by simpa using e
      show (if n = x then 0 else rk n + 1) = i + 1
      rw [if_neg (fun q : n = x => n1 (by rw [← q]; exact List.mem_of_getElem? e')), h i n e']
theorem perm_pairs {mg : Str → Option Value} {zs : List D} {bk : Bk} (h : zs.Perm (bk.map (pairD mg))) : ∃ bk' : Bk, zs = bk'.map (pairD mg) ∧ bk'.Perm bk := by
  induction bk generalizing zs with
  | nil =>
    have : zs = [] := List.perm_nil.mp h
    exact ⟨[], this, List.Perm.refl _⟩
  | cons p r ih =>
    have hm : pairD mg p ∈ zs := h.mem_iff.mpr (by simp)
    obtain ⟨l1, l2, rfl⟩ := List.append_of_mem hm
    have h2 : (l1 ++ l2).Perm (r.map (pairD mg)) := by
      have := (List.perm_middle (a := pairD mg p) (l₁ := l1) (l₂ := l2)).symm.trans h
      exact (List.perm_cons _).mp this
    obtain ⟨b, e, pb⟩ := ih h2
    refine ⟨b.take l1.length ++ p :: b.drop l1.length, ?_, ?_⟩
    · have e1 : l1 = (b.take l1.length).map (pairD mg) := by rw [List.map_take, ← e]; simp
      have e2 : l2 = (b.drop l1.length).map (pairD mg) := by rw [List.map_drop, ← e]; simp
      conv => lhs; rw [e1, e2]
      simp
    · have := List.perm_middle (a := p) (l₁ := b.take l1.length) (l₂ := b.drop l1.length)
      rw [List.take_append_drop] at this
      exact this.trans (pb.cons p)
def sp__law_book_rules (mg : Str → Option Value) : DSp := fun ds C Q => ∃ (a : Addr) (x : Cell) (N : Nat) (ns : List Str) (b : Bool), ds = [.cell a, .lst (ns.map D.str), .int 4, .bl b] ∧ C a = some x ∧ PU N x ∧ N ≤ 10000 ∧ ns.Nodup ∧ 1 ≤ ns.length ∧ ns.length ≤ 6 ∧ (∀ n ∈ ns, nmOk n) ∧
  ∀ (bk : Bk) (rk : Str → Nat) y, BkOk bk rk → bk.names.Perm ns → PU (N + 22000) y → Q (rulesD mg bk) (cset C a y)
theorem ok__law_book_rules (T : Txt K mg) : Fn P w K mg base 11 (fa mg "_law_book_rules") [] (sp__law_book_rules mg) := by
  have G__law_shuffled := ok__law_shuffled (P := P) (w := w) (base := base) T
  have G__law_draw := ok__law_draw (P := P) (w := w) (base := base) T
  have G__law_term := ok__law_term (P := P) (w := w) (base := base) T 4
  have G__law_many_parts := ok__law_many_parts (P := P) (w := w) (base := base) T
  have G_Rule___init__ := ok_init (P := P) (w := w) (base := base) T
  refine fn_df T.d__law_book_rules sc__law_book_rules (fun ds C Q h => ?_) (fun cdv A outer s H E hr => ?_)
  · (obtain ⟨_, _, _, _, _, rfl, _⟩ := h; rfl)
  have hu := hr.units
  have hu1 := hu_of hr
  have nd := sc__law_book_rules.nd
  refine ⟨_, (ds_cons (ds_par (i := 4) (j := 5) rfl nd (da_cons (de_lstC da_nil) (da_cons (de_lst da_nil) da_nil)))
    (ds_cons (ds_forL rfl (de_call G__law_shuffled T.d__law_shuffled.m (hr.mono (by omega)) (da_cons (dv 0) (da_cons (dv 1) da_nil))) (dg_name (i := 6) nd) (ds_cons (ds_set (i := 7) nd (de_if (dt_cmp (op_eqA hu) ops_eq (de_call G__law_draw T.d__law_draw.m (hr.mono (by omega)) (da_cons (dv 0) (da_cons dc_int da_nil))) dc_int (nomark _)) (dv 5) (de_lst da_nil)))
    (ds_cons (ds_expr (de_bm PySem.F.plainAttrs_list PySem.F.slot_list_append PySem.F.type_list_append mt_append ms_append (dv 4) (da_cons (de_tup (da_cons (dv 6) (da_cons (de_fz (de_make T.k_Rule G_Rule___init__ T.m_Rule (hr.mono (by omega)) (da_cons (de_call G__law_term T.d__law_term.m (hr.mono (by omega)) (da_cons (dv 0) (da_cons (dv 1) (da_cons (dv 7) (da_cons (de_call G__law_many_parts T.d__law_many_parts.m (hr.mono (by omega)) (da_cons (dv 0) (da_cons (dv 2) da_nil))) (da_cons (dv 3) da_nil)))))) da_nil))) da_nil))) da_nil)))
    (ds_one (ds_set (i := 5) nd (de_op op_addA ops_add (dv 5) (de_lst (da_cons (dv 6) da_nil))))))))
    (ds_one (ds_ret (de_call G__law_shuffled T.d__law_shuffled.m (hr.mono (by omega)) (da_cons (dv 0) (da_cons (de_fz (dv 4)) da_nil))))))), fun ds C Q h => ?_⟩
  obtain ⟨a, x, N, ns, b, rfl, hc, hx, hN, nd0, hn1, hn6, hnm, h⟩ := h
  rw [show startD N__law_book_rules [.cell a, .lst (ns.map D.str), .int 4, .bl b] = [some (.cell a), some (.lst (ns.map D.str)), some (.int 4), some (.bl b), none, none, none, none] from rfl]
  refine seq_g fun NX hNX => ?_
  try walk_at "dl"
  intro p hp
  have hpa : p ≠ a := fun e => by rw [e, hc] at hp; cases hp
  refine hNX _ _ ?_
  clear hNX
  refine seq_g fun NX hNX => ?_
  try walk_at "dl"
  refine ⟨a, _, x, N, rfl, (cset_ne (Ne.symm hpa)).trans hc, hx, by rw [List.length_map]; omega, by omega, fun zs y pz hy => ?_⟩
  obtain ⟨fs, rfl, pf⟩ := perm_strs pz
  try walk_at "dl"
  have ndf : fs.Nodup := pf.nodup_iff.mpr nd0
  have hfl := pf.length_eq
  obtain ⟨rk, hrk⟩ := rank_of ndf
  rw [List.length_map] at hy
  rw [cset_comm hpa]
  refine ⟨fun i ρ C' => ∃ (bk : Bk) (y2 : Cell) (o1 o2 : Option D), C' = cset (cset C a y2) p (.lst (bk.map (pairD mg))) ∧ ρ = [some (.cell a), some (.lst (ns.map D.str)), some (.int 4), some (.bl b), some (.cell p), some (.lst ((fs.take i).map D.str)), o1, o2] ∧ bk.names = fs.take i ∧ PU (N + 40 + 3300 * i) y2 ∧
      (∀ q ∈ bk, nmOk q.1 ∧ TG 4 ns fs q.2 ∧ ∀ z ∈ nms true q.2, rk z < rk q.1),
    ⟨[], y, none, none, rfl, rfl, rfl, hy.mono (by omega), by simp⟩, ?_, ?_⟩
  · rintro i d ρ C' e ⟨bk, y2, o1, o2, rfl, rfl, hbn, hy2, hbk⟩
    rw [List.getElem?_map] at e
    cases ex : fs[i]? with
    | none => rw [ex] at e; cases e
    | some n =>
      rw [ex] at e
      cases e
      have hi : i < fs.length := (List.getElem?_eq_some_iff.mp ex).1
      have hnn : n ∈ ns := pf.mem_iff.mp (List.mem_of_getElem? ex)
      refine name_g ?_
      simp only [List.set_cons_succ, List.set_cons_zero]
      refine seq_g fun NY hNY => ?_
      have go : ∀ (hg : List Str) (y3 : Cell), (∀ z ∈ hg, z ∈ fs.take i) → hg.length ≤ 6 → PU (N + 44 + 3300 * i) y3 → NY [some (.cell a), some (.lst (ns.map D.str)), some (.int 4), some (.bl b), some (.cell p), some (.lst ((fs.take i).map D.str)), some (.str n), some (.lst (hg.map D.str))] (cset (cset C a y3) p (.lst (bk.map (pairD mg)))) := fun hg y3 hsub hgl hy3 => by
        refine hNY _ _ ?_
        clear hNY
        refine seq_g fun NZ hNZ => ?_
        try walk_at "dl"
        rw [vw_cl cset_same]
        try walk_at "dl"
        refine ⟨a, y3, _, rfl, (cset_ne (Ne.symm hpa)).trans cset_same, hy3, by omega, fun k y4 hk1 hk4 hy4 => ?_⟩
        try walk_at "dl"
        rw [cset_3' hpa]
        have hck : cost k ≤ 3190 := Nat.le_trans (cost_mono hk4) (by decide)
        refine ⟨a, y4, _, ns, hg, k, b, rfl, (cset_ne (Ne.symm hpa)).trans cset_same, hy4, by omega, fun e => by rw [e] at hn1; simp at hn1, by omega, by omega, hnm, fun z hz => hnm z (pf.mem_iff.mp (List.mem_of_mem_take (hsub z hz))), hk1, hk4, hk4, fun t y5 htg hy5 => ?_⟩
        try walk_at "dl"
        rw [cset_3' hpa]
        have htg4 := htg.mono hk4
        intro q hq
        have hqp : q ≠ p := fun e => by rw [e, cset_same] at hq; cases hq
        have hqa : q ≠ a := fun e => by rw [e, cset_ne (Ne.symm hpa), cset_same] at hq; cases hq
        refine ⟨q, t, rfl, cset_same, htg.wf, hle_mono htg.dp (by omega), ?_⟩
        try walk_at "dl"
        rw [cset_cset, cset_same]
        try walk_at "dl"
        rw [cdel_cset hq, cset_same]
        try walk_at "dl"
        refine ⟨by rw [List.length_map]; have := congrArg List.length hbn; unfold Bk.names at this; rw [List.length_map, List.length_take] at this; omega, ?_⟩
        refine hNZ _ _ ?_
        clear hNZ
        rw [cset_cset]
        try walk_at "dl"
        refine ⟨by rw [List.length_map, List.length_take]; omega, .of ⟨bk ++ [(n, t)], y5, some (.str n), some (.lst (hg.map D.str)), by rw [List.map_append]; rfl, ?_, ?_, hy5.mono (by omega), fun q hq => ?_⟩⟩
        · rw [take_succ' ex, List.map_append]
          rfl
        · unfold Bk.names at hbn ⊢
          rw [List.map_append, hbn, take_succ' ex]
          rfl
        · rcases List.mem_append.mp hq with hq | hq
          · exact hbk q hq
          · rw [List.mem_singleton.mp hq]
            refine ⟨hnm n hnn, ⟨htg4.wf, htg4.dp, htg4.lv, htg4.f, fun z hz => List.mem_of_mem_take (hsub z (htg.t z hz))⟩, fun z hz => ?_⟩
            obtain ⟨j, hj⟩ := List.mem_iff_getElem?.mp (hsub z (htg.t z hz))
            rw [List.getElem?_take] at hj
            split at hj
            · rename_i hji
              show rk z < rk n
              rw [hrk j z hj, hrk i n ex]
              exact hji
            · cases hj
      clear hNY
      try walk_at "dl"
      refine ⟨a, 2, y2, _, rfl, (cset_ne (Ne.symm hpa)).trans cset_same, hy2, by omega, by omega, by omega, fun r y3 hr0 hr1 hy3 => ?_⟩
      try walk_at "dl"
      rw [cset_3' hpa]
      by_cases hr : r = 0
      · subst hr
        try walk_at "dl"
        exact go (fs.take i) y3 (fun z hz => hz) (by rw [List.length_take]; omega) (hy3.mono (by omega))
      · rw [decide_eq_false hr]
        try walk_at "dl"
        exact go [] y3 (fun z hz => by cases hz) (by simp) (hy3.mono (by omega))
  · rintro ρ C' ⟨bk, y2, o1, o2, rfl, rfl, hbn, hy2, hbk⟩
    rw [List.length_map, List.take_length] at hbn
    rw [List.length_map] at hy2
    have hpa2 : cset C a y2 p = none := (cset_ne hpa).trans hp
    have hbl : bk.length = ns.length := by
      have := congrArg List.length hbn
      unfold Bk.names at this
      rw [List.length_map] at this
      omega
    refine hNX _ _ ?_
    try walk_at "dl"
    rw [cset_same]
    try walk_at "dl"
    rw [cdel_cset hpa2]
    refine ⟨a, _, y2, _, rfl, cset_same, hy2, by rw [List.length_map]; omega, by omega, fun zs y3 pz hy3 => ?_⟩
    obtain ⟨bk', rfl, pb⟩ := perm_pairs pz
    rw [cset_cset]
    have pn : bk'.names.Perm bk.names := pb.map _
    have pns : bk'.names.Perm ns := pn.trans (by rw [hbn]; exact pf)
    refine fin (h bk' rk y3 ⟨?_, ?_, ?_, fun q hq => ?_, fun q hq c z hz => ?_, fun q hq z hz => ?_, fun q hq => ?_, fun q hq => ?_⟩ pns (hy3.mono (by rw [List.length_map]; omega)))
    · exact pns.nodup_iff.mpr nd0
    · rw [pb.length_eq]; omega
    · rw [pb.length_eq]; omega
    · obtain ⟨q1, q2, _⟩ := hbk q (pb.mem_iff.mp hq)
      exact ⟨q1, q2.wf, q2.dp⟩
    · obtain ⟨q1, q2, _⟩ := hbk q (pb.mem_iff.mp hq)
      cases c with
      | true => exact pns.mem_iff.mpr (pf.mem_iff.mp (q2.t z hz))
      | false => exact pns.mem_iff.mpr (q2.f z hz)
    · exact (hbk q (pb.mem_iff.mp hq)).2.2 z hz
    · have hm : q.1 ∈ fs := by
        rw [← hbn]
        exact List.mem_map.mpr ⟨q, pb.mem_iff.mp hq, rfl⟩
      obtain ⟨j, hj⟩ := List.mem_iff_getElem?.mp hm
      have := (List.getElem?_eq_some_iff.mp hj).1
      rw [hrk j _ hj]
      omega
    · exact Nat.lt_of_le_of_lt (hbk q (pb.mem_iff.mp hq)).2.1.lv (by decide)
end

end K78

set_option Elab.async false
set_option linter.all false
set_option maxRecDepth 100000
set_option maxHeartbeats 1000000
namespace K78
open PySem L2 DL
local macro_rules | `(tactic| walk_at "dl") => `(tactic| simp only [dSeq, dIfS, dOr, dAnd, dNot, dTest, dCB, d1, d2, kIsi, kIsO, kLen, kStr, kIntT, kAbs, kI2, kSum, dCons, dNil, dVar, dC, slot, tyD, opt_some, kitB_ss, kitB_is, kitB_ii, kitB_ib, kitB_si, kitB_tt, kitB_ll, kitB_dd, kitB_tl, kitB_lt, kitB_ts, kitB_bb, kitB_bi,
  vw_non, vw_bl, vw_i, vw_s, vw_l, vw_t, vw_d, vw_n, vw_f, vw_v, asB, dAndV, dOrV, dNotV, dIf, dOp, dI2, dSub, dMul, dFdiv, dMod, dPow, dLt, dLe, dGt, dGe, dAdd, dRet, dRetN, dNext, dLst, dTup, dLstC, dCall, dDrop, dAsg, dName, dPar, dSets, dGTup, dIx, dSl, dPart, dNoP, dInN, dIsN, dEqN, dNeg, dFz, frz1, dFzS, dFld, dSetFld, dMth, dMake, dCallL, dChain, endsOf, dLcL, dLcS, dLcR1, dYes, dBM, mAppend, mInsert, mStarts3, mJoin, tyM, dBits, dForL, dForT, dForR1, int1, dDGet, dDIn, dDPut, dDGet2, kDict0, DL.keyOf, kListOf, kRepr, dEqP, kMax, kMin, isN, fget, fput, dForD, dLcD, dLcP, dLc2, dForE, oneL, dDcL, kLenB, kSortI, kSortD, kDictD, kDictP, kIntB, dSortSet, dLenSet, dAddT, dRep, dInDeep, dSame, dNilC, dLcR1C, dDict0, dPair0, dPairS, dDisp, keysOf', keyD,
  List.set_cons_zero, List.set_cons_succ, List.length_cons, List.length_nil, Bool.not_true, Bool.not_false, List.append_nil,
  if_true, if_false, Bool.false_eq_true, Bool.true_eq_false, ite_true, ite_false, true_and, and_true, reduceIte, List.nil_append, List.cons_append, atI_0, atI_1, atI_2, atI_3, atI_m1, List.getElem?_cons_zero, List.getElem?_cons_succ, List.getLast?_cons_cons, List.getLast?_singleton, Nat.zero_add, Nat.reduceAdd, Int.cast_ofNat_Int, Int.natCast_add, Int.natCast_one, Nat.reduceLeDiff, Int.reduceLT, Int.reduceLE, Int.reduceEq, decide_true, decide_false, Int.reduceAdd, Int.reduceNeg, Int.reduceSub, Int.reduceToNat, eq_self, ne_eq, not_true_eq_false, not_false_eq_true, List.map_cons, List.map_nil, Option.getD_some, Option.getD_none, Option.isSome_some, Option.isSome_none])
open HL
open TL PySem.NumText
section
variable {P : Program} {w : World} {K : PySem.W.Frag} {mg : Str → Option Value} {base : Heap}
def sp__law_hours : DSp := fun ds C Q => ∃ (a : Addr) (x : Cell) (N : Nat) (ns : List Str), ds = [.cell a, .lst (ns.map D.str)] ∧ C a = some x ∧ PU N x ∧ N ≤ 50000 ∧ ns.Nodup ∧ ns.length ≤ 6 ∧ ∀ (h : Str → Int) y, PU (N + 30) y → Q (hD ns h) (cset C a y)
theorem pairsD_h : ∀ (ns : List Str) (h : Str → Int), pairsD (ns.map fun n => .tup [.str n, .int (h n)]) = some (hK ns h)
  | [], h => rfl
  | n :: r, h => by
    simp only [List.map_cons, pairsD, pairsD_h r h]
    rfl
theorem mergeD_app : ∀ (more acc : List (Key × D)), ((acc ++ more).map (·.1)).Nodup → mergeD acc more = acc ++ more
  | [], acc, _ => by simp [mergeD]
  | (k, d) :: r, acc, nd => by
    show mergeD (dput acc k d) r = _
    have hk : k ∉ acc.map (·.1) := fun hm => by
      rw [List.map_append, List.nodup_append] at nd
      exact nd.2.2 k hm k (by simp) rfl
    rw [dput_new hk, mergeD_app r (acc ++ [(k, d)]) (by simpa using nd)]
    simp
theorem mergeD_nd {kds : List (Key × D)} (nd : (kds.map (·.1)).Nodup) : mergeD [] kds = kds := by
  rw [mergeD_app kds [] (by simpa using nd)]
  rfl
theorem hK_nd {ns : List Str} {h : Str → Int} (nd : ns.Nodup) : ((hK ns h).map (·.1)).Nodup := by
  rw [hK_keys]
  exact List.pairwise_map.mpr (nd.imp fun hne e => hne (by cases e; rfl))
theorem ok__law_hours (T : Txt K mg) : Fn P w K mg base 4 (fa mg "_law_hours") [] sp__law_hours := by
  have G__law_draw := ok__law_draw (P := P) (w := w) (base := base) T
  have G__law_one_of := ok__law_one_of (P := P) (w := w) (base := base) T
  refine fn_df T.d__law_hours sc__law_hours (fun ds C Q h => ?_) (fun cdv A outer s H E hr => ?_)
  · (obtain ⟨_, _, _, _, rfl, _⟩ := h; rfl)
  have hu := hr.units
  have hu1 := hu_of hr
  have nd := sc__law_hours.nd
  refine ⟨_, (ds_cons (ds_set (i := 2) nd (de_call G__law_one_of T.d__law_one_of.m (hr.mono (by omega)) (da_cons (dv 0) (da_cons (de_lst (da_cons dc_int (da_cons dc_int (da_cons dc_int (da_cons dc_int (da_cons (de_op op_powW ops_I dc_int dc_int) (da_cons (de_op op_powW ops_I dc_int dc_int) da_nil))))))) da_nil))))
    (ds_one (ds_ret (de_fz (de_ct (call_dictP rfl) cl_dictP T.dict bt_dict (da_cons (de_lcL rfl nd (dv 1) (by first | (change blkC N__law_hours (defScope s__law_hours) _ _ = true; decide +kernel) | rfl) (fun _ _ _ _ _ => pg_name (i := 3) nd rfl (Or.inl rfl)) (fun _ _ _ _ _ => dp_nil) (fun _ _ _ _ _ => (de_tup (da_cons (dv 3) (da_cons (de_op op_sub ops_I0 (de_call G__law_draw T.d__law_draw.m (hr.mono (by omega)) (da_cons (dv 0) (da_cons (dv 2) da_nil))) (de_op op_fdivW ops_I (dv 2) dc_int)) da_nil))))) da_nil)))))), fun ds C Q h => ?_⟩
  obtain ⟨a, x, N, ns, rfl, hc, hx, hN, nd0, hn6, h⟩ := h
  rw [show startD N__law_hours [.cell a, .lst (ns.map D.str)] = [some (.cell a), some (.lst (ns.map D.str)), none, none] from rfl]
  refine seq_g fun NX hNX => ?_
  try walk_at "dl"
  refine ⟨by unfold CPowW; decide +kernel, by unfold CPowW; decide +kernel, a, _, x, N, rfl, hc, hx, by simp, by simp, by omega, fun d y hd hy => ?_⟩
  have hd2 : ∃ wd : Int, d = .int wd ∧ 1 ≤ wd ∧ wd < 2 ^ 100 := by
    simp only [List.mem_cons, List.not_mem_nil, or_false] at hd
    rcases hd with rfl | rfl | rfl | rfl | rfl | rfl
    · exact ⟨4, rfl, by decide, by decide⟩
    · exact ⟨4, rfl, by decide, by decide⟩
    · exact ⟨9, rfl, by decide, by decide⟩
    · exact ⟨30, rfl, by decide, by decide⟩
    · exact ⟨_, rfl, by decide +kernel, by decide +kernel⟩
    · exact ⟨_, rfl, by decide +kernel, by decide +kernel⟩
  obtain ⟨wd, rfl, hw1, hw2⟩ := hd2
  refine hNX _ _ ?_
  clear hNX
  try walk_at "dl"
  refine ⟨fun i acc C' => ∃ (hh : Str → Int) (y2 : Cell), acc = (ns.take i).map (fun n => D.tup [.str n, .int (hh n)]) ∧ C' = cset C a y2 ∧ PU (N + 4 + 4 * i) y2, ⟨fun _ => 0, y, by simp, rfl, hy⟩, ?_, ?_⟩
  · rintro i d acc C' e ⟨hh, y2, rfl, rfl, hy2⟩
    rw [List.getElem?_map] at e
    cases ex : ns[i]? with
    | none => rw [ex] at e; cases e
    | some n =>
      rw [ex] at e
      cases e
      have hi : i < ns.length := (List.getElem?_eq_some_iff.mp ex).1
      try walk_at "dl"
      refine ⟨a, wd, y2, _, rfl, cset_same, hy2, hw1, hw2, by omega, fun r y3 _ _ hy3 => ?_⟩
      try walk_at "dl"
      rw [cset_cset]
      refine ⟨wide_div (by decide) (b := 10) (by decide) (by decide) (by decide), by rw [List.length_map, List.length_take]; omega, _, Gh.refl _, hset hh n (r - wd / 2), y3, ?_, rfl, hy3.mono (by omega)⟩
      rw [take_succ' ex, List.map_append]
      congr 1
      · refine List.map_congr_left fun m hm => ?_
        have hne : m ≠ n := fun e => not_take nd0 ex (e ▸ hm)
        simp only [hset, if_neg hne]
      · simp [hset]
  · rintro acc C' ⟨hh, y2, rfl, rfl, hy2⟩
    rw [List.length_map, List.take_length]
    rw [List.length_map] at hy2
    try walk_at "dl"
    rw [pairsD_h, opt_some]
    intro p hp
    rw [cset_same]
    try walk_at "dl"
    rw [cdel_cset hp, mergeD_nd (hK_nd nd0)]
    exact fin (h hh y2 (hy2.mono (by omega)))
def sp__law_hall_world (mg : Str → Option Value) : DSp := fun ds C Q => ∃ (a : Addr) (x : Cell) (N m : Nat) (b : Bool), ds = [.cell a, .int (m : Nat), .bl b] ∧ C a = some x ∧ PU N x ∧ N ≤ 1000 ∧ 1 ≤ m ∧ m ≤ 6 ∧
  ∀ (bk : Bk) (rk : Str → Nat) (ks : List Str) (h : Str → Int) y, BkOk bk rk → ks.Perm bk.names → PU (N + 23000) y → Q (.tup [rulesD mg bk, hD ks h]) (cset C a y)
theorem ok__law_hall_world (T : Txt K mg) : Fn P w K mg base 12 (fa mg "_law_hall_world") [] (sp__law_hall_world mg) := by
  have G__law_names := ok__law_names (P := P) (w := w) (base := base) T
  have G__law_book_rules := ok__law_book_rules (P := P) (w := w) (base := base) T
  have G__law_hours := ok__law_hours (P := P) (w := w) (base := base) T
  refine fn_df T.d__law_hall_world sc__law_hall_world (fun ds C Q h => ?_) (fun cdv A outer s H E hr => ?_)
  · (obtain ⟨_, _, _, _, _, rfl, _⟩ := h; rfl)
  have hu := hr.units
  have hu1 := hu_of hr
  have nd := sc__law_hall_world.nd
  refine ⟨_, (ds_cons (ds_set (i := 3) nd (de_call G__law_names T.d__law_names.m (hr.mono (by omega)) (da_cons (dv 0) (da_cons (dv 1) da_nil))))
    (ds_one (ds_ret (de_tup (da_cons (de_call G__law_book_rules T.d__law_book_rules.m (hr.mono (by omega)) (da_cons (dv 0) (da_cons (dv 3) (da_cons dc_int (da_cons (dv 2) da_nil))))) (da_cons (de_call G__law_hours T.d__law_hours.m (hr.mono (by omega)) (da_cons (dv 0) (da_cons (dv 3) da_nil))) da_nil)))))), fun ds C Q h => ?_⟩
  obtain ⟨a, x, N, m, b, rfl, hc, hx, hN, hm1, hm6, h⟩ := h
  rw [show startD N__law_hall_world [.cell a, .int (m : Nat), .bl b] = [some (.cell a), some (.int (m : Nat)), some (.bl b), none] from rfl]
  refine seq_g fun NX hNX => ?_
  try walk_at "dl"
  refine ⟨a, m, x, N, rfl, hc, hx, by omega, hm1, by omega, fun ns y nd hl hnm hy => ?_⟩
  try walk_at "dl"
  refine hNX _ _ ?_
  clear hNX
  try walk_at "dl"
  refine ⟨a, y, _, ns, b, rfl, cset_same, hy, by omega, nd, by omega, by omega, hnm, fun bk rk y2 ok pm hy2 => ?_⟩
  try walk_at "dl"
  rw [cset_cset]
  refine ⟨a, y2, _, ns, rfl, cset_same, hy2, by omega, nd, by omega, fun hh y3 hy3 => ?_⟩
  try walk_at "dl"
  rw [cset_cset]
  exact fin (h bk rk ns hh y3 ok pm.symm (hy3.mono (by omega)))
/-! ### the law's own round -/
theorem ok__law_told1 (T : Txt K mg) {k n : Nat} {q : DSp} (G__law_told : Fn P w K mg base k (fa mg "_law_told") [] q)
    (hq : ∀ (t : Tm) (x y : D) (ks : List Str) (h : Str → Int) (ys : List Str) (v : Str → Int) (C : Cells) (Q : DK), WF t → 1 ≤ n → hle (n - 1) t → vw C x = hD ks h → (∀ m ∈ nms false t, m ∈ ks) → vw C y = hD ys v → (∀ m ∈ nms true t, m ∈ ys) → Q (.int (ev t h v)) C → q [toD t, x, y] C Q) :
    Fn P w K mg base (k + 1) (fa mg "_law_told") [] (sp_hour n) := by
  refine fn_df T.d__law_told sc__law_told (fun ds C Q h => ?_) (fun cdv A outer s H E hr => ?_)
  · (obtain ⟨_, _, _, _, _, _, _, rfl, _⟩ := h; rfl)
  have hu := hr.units
  have hu1 := hu_of hr
  have nd := sc__law_told.nd
  refine ⟨_, (ds_cons (ds_if (dt_cmp (op_eqA hu) ops_eq (de_ix (dv 0) dc_int) dc_str (nomark _)) (ds_one (ds_ret (de_op op_addA ops_add (de_dget hu1 (dv 1) (de_ix (dv 0) dc_int)) (de_ix (dv 0) dc_int)))) ds_nil)
    (ds_cons (ds_if (dt_cmp (op_eqA hu) ops_eq (de_ix (dv 0) dc_int) dc_str (nomark _)) (ds_one (ds_ret (de_op op_addA ops_add (de_dget hu1 (dv 2) (de_ix (dv 0) dc_int)) (de_ix (dv 0) dc_int)))) ds_nil)
    (ds_cons (ds_set (i := 3) nd (de_cb cr_sorted cl_sortI T.sorted bt_sorted (da_cons (de_lcL rfl nd (de_ix (dv 0) (de_un dc_int)) (by first | (change blkC N__law_told (defScope s__law_told) _ _ = true; decide +kernel) | rfl) (fun _ _ _ _ _ => pg_name (i := 4) nd rfl (Or.inl rfl)) (fun _ _ _ _ _ => dp_nil) (fun _ _ _ _ _ => (de_call G__law_told T.d__law_told.m (hr.mono (by omega)) (da_cons (dv 4) (da_cons (dv 1) (da_cons (dv 2) da_nil)))))) da_nil)))
    (ds_cons (ds_if (dt_cmp (op_eqA hu) ops_eq (de_ix (dv 0) dc_int) dc_str (nomark _)) (ds_one (ds_ret (de_ix (dv 3) (de_op op_sub ops_I0 (de_ix (dv 0) dc_int) dc_int)))) ds_nil)
    (ds_one (ds_ret (de_if (dt_cmp (op_eqA hu) ops_eq (de_ix (dv 0) dc_int) dc_str (nomark _)) (de_ix (dv 3) dc_int) (de_ix (dv 3) (de_un dc_int))))))))), fun ds C Q h => ?_⟩
  obtain ⟨t, x, y, ks, hh, ys, v, rfl, hw, hl, hx, h1, hy, h2, h⟩ := h
  rw [show startD N__law_told [toD t, x, y] = [some (toD t), some x, some y, none, none] from rfl]
  cases t with
  | pt b nm wt =>
    simp only [toD]
    cases b with
    | false =>
      have hm : nm ∈ ks := h1 nm (by simp [nms_pt])
      simp only [ev, Bool.false_eq_true, if_false] at h
      try walk_at "dl"
      rw [w_of]
      try rw [d_same]
      try walk_at "dl"
      rw [hx]
      simp only [hD]
      try walk_at "dl"
      rw [dval_h hm, opt_some]
      exact fin h
    | true =>
      have hm : nm ∈ ys := h2 nm (by simp [nms_pt])
      simp only [ev, if_true] at h
      try walk_at "dl"
      rw [w_now]
      rw [show (decide (("now" : Str) = "of")) = false by decide +kernel]
      try rw [d_same]
      try walk_at "dl"
      rw [hy]
      simp only [hD]
      try walk_at "dl"
      rw [dval_h hm, opt_some]
      exact fin h
  | nd kd ts =>
    simp only [WF] at hw
    have hts : ∀ t ∈ ts, WF t ∧ 1 ≤ n ∧ hle (n - 1) t := fun t ht => by
      cases n with
      | zero => simp [hle] at hl
      | succ m => simp only [hle] at hl; exact ⟨WFs_all hw.2.2.2 t ht, by omega, hl t ht⟩
    have hl1 : 1 ≤ ts.length := by cases ts with | nil => exact absurd rfl hw.1 | cons _ _ => simp
    have hll : (isort (evs ts hh v)).length = ts.length := by rw [isort_len, evs_map, List.length_map]
    have el : (isort (evs ts hh v)).length - 1 = ts.length - 1 := by rw [hll]
    have comp : ∀ (C : Cells) (P' : DK), vw C x = hD ks hh → vw C y = hD ys v → P' (.lst ((ts.filter fun _ => true).map fun t => D.int (ev t hh v))) C →
        compN (ts.map toD) 4 dYes (dCall q [] (dCons (dVar 4) (dCons (dVar 1) (dCons (dVar 2) dNil)))) [some (toD (.nd kd ts)), some x, some y, none, none] C P' := fun C P' hx hy p => by
      refine compN_by toD (fun _ => true) _ (by omega) (fun t P' _ p => p) (fun t P' ht _ p => ?_) p
      obtain ⟨g1, g2, g3⟩ := hts t ht
      try walk_at "dl"
      exact hq t x y ks hh ys v C _ g1 g2 g3 hx (fun m hm => h1 m (nms_nd.mpr ⟨t, ht, hm⟩)) hy (fun m hm => h2 m (nms_nd.mpr ⟨t, ht, hm⟩)) p
    simp only [ev] at h
    simp only [toD, toDs_map] at comp ⊢
    cases kd with
    | first =>
      simp only [ndD] at comp ⊢
      try walk_at "dl"
      rw [show (decide (("first" : Str) = "of")) = false by decide +kernel, show (decide (("first" : Str) = "now")) = false by decide +kernel]
      try walk_at "dl"
      refine comp C _ hx hy ?_
      try walk_at "dl"
      rw [ints_ev, opt_some]
      refine ⟨by rw [evs_map, List.length_map]; omega, fun ns' pm ps => ?_⟩
      rw [isort_eq pm ps]
      try walk_at "dl"
      rw [show (decide (("first" : Str) = "rank")) = false by decide +kernel]
      try rw [d_same]
      try walk_at "dl"
      rw [← atI_0, show (0 : Int) = ((0 : Nat) : Int) from rfl, atI_map_nat _ 0 (by omega), opt_some]
      exact fin h
    | last =>
      simp only [ndD] at comp ⊢
      try walk_at "dl"
      rw [show (decide (("last" : Str) = "of")) = false by decide +kernel, show (decide (("last" : Str) = "now")) = false by decide +kernel]
      try walk_at "dl"
      refine comp C _ hx hy ?_
      try walk_at "dl"
      rw [ints_ev, opt_some]
      refine ⟨by rw [evs_map, List.length_map]; omega, fun ns' pm ps => ?_⟩
      rw [isort_eq pm ps]
      try walk_at "dl"
      rw [show (decide (("last" : Str) = "rank")) = false by decide +kernel, show (decide (("last" : Str) = "first")) = false by decide +kernel]
      try walk_at "dl"
      rw [last_map _ (by omega), opt_some, el]
      exact fin h
    | rank k =>
      have hk : 1 ≤ k ∧ k ≤ (ts.length : Int) := hw.2.2.1
      simp only [ndD] at comp ⊢
      try walk_at "dl"
      rw [show (decide (("rank" : Str) = "of")) = false by decide +kernel, show (decide (("rank" : Str) = "now")) = false by decide +kernel]
      try walk_at "dl"
      refine comp C _ hx hy ?_
      try walk_at "dl"
      rw [ints_ev, opt_some]
      refine ⟨by rw [evs_map, List.length_map]; omega, fun ns' pm ps => ?_⟩
      rw [isort_eq pm ps]
      try walk_at "dl"
      try rw [d_same]
      try walk_at "dl"
      rw [show k - 1 = (((k - 1).toNat : Nat) : Int) by omega, atI_map_nat _ _ (by omega), opt_some]
      exact fin h
theorem ok__law_told (T : Txt K mg) : ∀ n, Fn P w K mg base (n + 1) (fa mg "_law_told") [] (sp_hour n)
  | 0 => ok__law_told1 (q := fun _ _ _ => False) T (fn_zero T.d__law_told.z fun _ _ _ h => h) fun t x y ks h ys v C Q _ h => by omega
  | n + 1 => ok__law_told1 T (ok__law_told T n) fun t x y ks h ys v C Q hw _ hl hx h1 hy h2 q => ⟨t, x, y, ks, h, ys, v, rfl, hw, hl, hx, h1, hy, h2, q⟩

end

end K78

set_option Elab.async false
set_option linter.all false
set_option maxRecDepth 100000
set_option maxHeartbeats 1000000
namespace K78
open PySem L2 DL
local macro_rules | `(tactic| walk_at "dl") => `(tactic| simp only [dSeq, dIfS, dOr, dAnd, dNot, dTest, dCB, d1, d2, kIsi, kIsO, kLen, kStr, kIntT, kAbs, kI2, kSum, dCons, dNil, dVar, dC, slot, tyD, opt_some, kitB_ss, kitB_is, kitB_ii, kitB_ib, kitB_si, kitB_tt, kitB_ll, kitB_dd, kitB_tl, kitB_lt, kitB_ts, kitB_bb, kitB_bi,
  vw_non, vw_bl, vw_i, vw_s, vw_l, vw_t, vw_d, vw_n, vw_f, vw_v, asB, dAndV, dOrV, dNotV, dIf, dOp, dI2, dSub, dMul, dFdiv, dMod, dPow, dLt, dLe, dGt, dGe, dAdd, dRet, dRetN, dNext, dLst, dTup, dLstC, dCall, dDrop, dAsg, dName, dPar, dSets, dGTup, dIx, dSl, dPart, dNoP, dInN, dIsN, dEqN, dNeg, dFz, frz1, dFzS, dFld, dSetFld, dMth, dMake, dCallL, dChain, endsOf, dLcL, dLcS, dLcR1, dYes, dBM, mAppend, mInsert, mStarts3, mJoin, tyM, dBits, dForL, dForT, dForR1, int1, dDGet, dDIn, dDPut, dDGet2, kDict0, DL.keyOf, kListOf, kRepr, dEqP, kMax, kMin, isN, fget, fput, dForD, dLcD, dLcP, dLc2, dForE, oneL, dDcL, kLenB, kSortI, kSortD, kDictD, kDictP, kIntB, dSortSet, dLenSet, dAddT, dRep, dInDeep, dSame, dNilC, dLcR1C, dDict0, dPair0, dPairS, dDisp, keysOf', keyD,
  List.set_cons_zero, List.set_cons_succ, List.length_cons, List.length_nil, Bool.not_true, Bool.not_false, List.append_nil,
  if_true, if_false, Bool.false_eq_true, Bool.true_eq_false, ite_true, ite_false, true_and, and_true, reduceIte, List.nil_append, List.cons_append, atI_0, atI_1, atI_2, atI_3, atI_m1, List.getElem?_cons_zero, List.getElem?_cons_succ, List.getLast?_cons_cons, List.getLast?_singleton, Nat.zero_add, Nat.reduceAdd, Int.cast_ofNat_Int, Int.natCast_add, Int.natCast_one, Nat.reduceLeDiff, Int.reduceLT, Int.reduceLE, Int.reduceEq, decide_true, decide_false, Int.reduceAdd, Int.reduceNeg, Int.reduceSub, Int.reduceToNat, eq_self, ne_eq, not_true_eq_false, not_false_eq_true, List.map_cons, List.map_nil, Option.getD_some, Option.getD_none, Option.isSome_some, Option.isSome_none])
open HL
open TL PySem.NumText
section
variable {P : Program} {w : World} {K : PySem.W.Frag} {mg : Str → Option Value} {base : Heap}
/-! ### words and names of a term, each once -/
abbrev WN := Bool × Str
def wnD (q : WN) : D := .tup [.str (wordOf q.1), .str q.2]
def wns (t : Tm) : List WN := (leaves t).map fun q => (q.1, q.2.1)
theorem wns_mem {t : Tm} {b : Bool} {n : Str} : (b, n) ∈ wns t ↔ n ∈ nms b t := by
  unfold wns
  rw [List.mem_map, nms_mem]
  constructor
  · rintro ⟨⟨c, m, w⟩, h, e⟩
    cases e
    exact ⟨w, h⟩
  · rintro ⟨w, h⟩
    exact ⟨(b, n, w), h, rfl⟩
theorem eqD_wn (p q : WN) : eqD (wnD p) (wnD q) = decide (p = q) := by
  obtain ⟨a, x⟩ := p
  obtain ⟨b, y⟩ := q
  have e : eqD (wnD (a, x)) (wnD (b, y)) = ((wordOf a == wordOf b) && ((x == y) && true)) := by
    simp [eqD, wnD, toPy, toPys, PyData.eqv, PyData.eqvAll]
  rw [e]
  have hw : (wordOf a == wordOf b) = (a == b) := by cases a <;> cases b <;> decide +kernel
  rw [hw, Bool.and_true]
  by_cases h1 : a = b <;> by_cases h2 : x = y <;> simp [h1, h2]
theorem any_wn (L : List WN) (q : WN) : ((L.map wnD).any fun z => eqD z (wnD q)) = decide (q ∈ L) := by
  rw [List.any_map]
  by_cases h : q ∈ L
  · rw [decide_eq_true h, List.any_eq_true]
    exact ⟨q, h, by simp [eqD_wn]⟩
  · rw [decide_eq_false h, List.any_eq_false]
    intro z hz e
    simp only [Function.comp, eqD_wn, decide_eq_true_eq] at e
    exact h (e ▸ hz)
theorem nice_wn {q : WN} (h : nmOk q.2) : Nice (wnD q) 1 := by
  refine Nice.tup (m := 0) fun d hd => ?_
  simp only [List.mem_cons, List.not_mem_nil, or_false] at hd
  rcases hd with rfl | rfl
  · exact nice_str (strOk_w q.1)
  · exact nice_str (strOk_of fun c hc => letter_lt (h.1 c hc))
theorem okD_wns {L : List WN} (h : ∀ q ∈ L, nmOk q.2) : okD (.lst (L.map wnD)) := by
  refine (Nice.lst (m := 1) fun d hd => ?_).ok (by omega)
  obtain ⟨q, hq, rfl⟩ := List.mem_map.mp hd
  exact nice_wn (h q hq)
theorem leaf_ok : ∀ (n : Nat) (t : Tm), hle n t → WF t → ∀ q ∈ leaves t, nmOk q.2.1
  | n, .pt b m z, _, hw, q, hq => by
    simp only [leaves, List.mem_singleton] at hq
    subst hq
    simpa only [WF] using hw
  | 0, .nd _ _, hh, _, _, _ => by simp [hle] at hh
  | n + 1, .nd kd ts, hh, hw, q, hq => by
    simp only [hle] at hh
    simp only [WF] at hw
    simp only [leaves] at hq
    obtain ⟨t, ht, hx⟩ := leavess_mem.mp hq
    exact leaf_ok n t (hh t ht) (WFs_all hw.2.2.2 t ht) q hx
theorem wns_nd {kd : Kd} {ts : List Tm} {q : WN} : q ∈ wns (.nd kd ts) ↔ ∃ t ∈ ts, q ∈ wns t := by
  obtain ⟨b, n⟩ := q
  rw [wns_mem, nms_nd]
  exact ⟨fun ⟨t, ht, h⟩ => ⟨t, ht, wns_mem.mpr h⟩, fun ⟨t, ht, h⟩ => ⟨t, ht, wns_mem.mp h⟩⟩
def sp__law_words_of (n : Nat) : DSp := fun ds C Q => ∃ t, ds = [toD t] ∧ WF t ∧ hle n t ∧ (leaves t).length < 64 ∧ ∀ L : List WN, (∀ q, q ∈ L ↔ q ∈ wns t) → L.length ≤ (leaves t).length → Q (.lst (L.map wnD)) C
theorem ok__law_words_of1 (T : Txt K mg) {k n : Nat} {q : DSp} (G__law_words_of : Fn P w K mg base k (fa mg "_law_words_of") [] q)
    (hq : ∀ (t : Tm) (C : Cells) (Q : DK), WF t → 1 ≤ n → hle (n - 1) t → (leaves t).length < 64 → (∀ L : List WN, (∀ q, q ∈ L ↔ q ∈ wns t) → L.length ≤ (leaves t).length → Q (.lst (L.map wnD)) C) → q [toD t] C Q) :
    Fn P w K mg base (k + 1) (fa mg "_law_words_of") [] (sp__law_words_of n) := by
  refine fn_df T.d__law_words_of sc__law_words_of (fun ds C Q h => ?_) (fun cdv A outer s H E hr => ?_)
  · obtain ⟨_, rfl, _⟩ := h; rfl
  have hu := hr.units
  have hu1 := hu_of hr
  have hu65 : (A.deeper (PyProof.Rows.envOfC "_law_words_of" (defScope s__law_words_of) s.heap.objs.size (fa mg "_law_words_of") cdv)).units + 65 < cLine := by have := hr.un; omega
  have nd := sc__law_words_of.nd
  refine ⟨_, (ds_cons (ds_if (dt_cmp op_inA ops_in (de_ix (dv 0) dc_int) (de_tup (da_cons dc_str (da_cons dc_str da_nil))) rfl) (ds_one (ds_ret (de_lst (da_cons (de_tup (da_cons (de_ix (dv 0) dc_int) (da_cons (de_ix (dv 0) dc_int) da_nil))) da_nil)))) ds_nil)
    (ds_cons (ds_set (i := 1) nd (de_lst da_nil))
    (ds_cons (ds_forL rfl (de_ix (dv 0) (de_un dc_int)) (dg_name (i := 2) nd) (ds_one (ds_set (i := 1) nd (de_op op_addA ops_add (dv 1) (de_lcL rfl nd (de_call G__law_words_of T.d__law_words_of.m (hr.mono (by omega)) (da_cons (dv 2) da_nil)) (by first | (change blkC N__law_words_of (defScope s__law_words_of) _ _ = true; decide +kernel) | rfl) (fun _ _ _ _ _ => pg_name (i := 3) nd rfl (Or.inl rfl)) (fun _ _ _ _ _ => (dp_one (dt_cmp (op_notInD hu65) ops_ninDeep (dv 3) (dv 1) rfl))) (fun _ _ _ _ _ => (dv 3)))))))
    (ds_one (ds_ret (dv 1)))))), fun ds C Q h => ?_⟩
  obtain ⟨t, rfl, hw, hl, hlv, h⟩ := h
  rw [show startD N__law_words_of [toD t] = [some (toD t), none, none, none] from rfl]
  cases t with
  | pt b nm wt =>
    simp only [toD]
    refine seq_g fun NX hNX => ?_
    try walk_at "dl"
    refine ⟨rfl, rfl, ?_⟩
    rw [in2_w]
    try walk_at "dl"
    have := h [(b, nm)] (fun q => by simp [wns, leaves]) (by simp [leaves])
    exact fin this
  | nd kd ts =>
    have hw' := hw
    simp only [WF] at hw'
    have hts : ∀ t ∈ ts, WF t ∧ 1 ≤ n ∧ hle (n - 1) t := fun t ht => by
      cases n with
      | zero => simp [hle] at hl
      | succ m => simp only [hle] at hl; exact ⟨WFs_all hw'.2.2.2 t ht, by omega, hl t ht⟩
    have en : ∃ w0 pre, toD (.nd kd ts) = .tup (.str w0 :: (pre ++ [.lst (ts.map toD)])) ∧ inD (.str w0) [.str "of", .str "now"] = false := by
      simp only [toD, toDs_map]
      cases kd with
      | first => exact ⟨_, [], rfl, in2_f⟩
      | last => exact ⟨_, [], rfl, in2_l⟩
      | rank k => exact ⟨_, [_], rfl, in2_r⟩
    obtain ⟨w0, pre, en, hin⟩ := en
    rw [en]
    refine seq_g fun NX hNX => ?_
    try walk_at "dl"
    refine ⟨rfl, rfl, ?_⟩
    rw [hin]
    try walk_at "dl"
    refine hNX _ _ ?_
    clear hNX
    refine seq_g fun NX hNX => ?_
    try walk_at "dl"
    refine hNX _ _ ?_
    clear hNX
    refine seq_g fun NX hNX => ?_
    try walk_at "dl"
    rw [show (D.str w0 :: (pre ++ [D.lst (ts.map toD)])).getLast? = some (D.lst (ts.map toD)) by rw [← List.cons_append, List.getLast?_append, List.getLast?_singleton]; rfl]
    try walk_at "dl"
    refine ⟨fun i ρ C' => C' = C ∧ ∃ (L : List WN) (o1 : Option D), ρ = [some (.tup (.str w0 :: (pre ++ [.lst (ts.map toD)]))), some (.lst (L.map wnD)), o1, none] ∧ (∀ q, q ∈ L ↔ ∃ t ∈ ts.take i, q ∈ wns t) ∧ L.length ≤ (leavess (ts.take i)).length, ⟨rfl, [], none, rfl, by simp, by simp⟩, ?_, ?_⟩
    · rintro i d ρ C' e ⟨rfl, L, o1, rfl, hL, hLl⟩
      obtain ⟨t, et, rfl⟩ := map_at e
      have ht := List.mem_of_getElem? et
      obtain ⟨g1, g2, g3⟩ := hts t ht
      have hlt : (leaves t).length < 64 := Nat.lt_of_le_of_lt (leavess_le ht) (by simpa only [leaves] using hlv)
      have htk : (leavess (ts.take (i + 1))).length = (leavess (ts.take i)).length + (leaves t).length := by
        rw [take_succ' et]
        have : ∀ xs : List Tm, leavess (xs ++ [t]) = leavess xs ++ leaves t := fun xs => by
          induction xs with
          | nil => simp [leavess]
          | cons y ys ih => simp [leavess, ih]
        rw [this, List.length_append]
      have hle64 : (leavess (ts.take (i + 1))).length ≤ 64 := by
        have : ∀ (xs ys : List Tm), (leavess xs).length ≤ (leavess (xs ++ ys)).length := fun xs ys => by
          induction xs with
          | nil => simp [leavess]
          | cons y r ih => simp only [leavess, List.cons_append, List.length_append]; omega
        have h2 := this (ts.take (i + 1)) (ts.drop (i + 1))
        rw [List.take_append_drop] at h2
        simp only [leaves] at hlv
        omega
      refine name_g ?_
      simp only [List.set_cons_succ, List.set_cons_zero]
      try walk_at "dl"
      refine hq t C' _ g1 g2 g3 hlt fun M hM hMl => ?_
      have okM : ∀ q ∈ M, nmOk q.2 := fun q hq' => by
        have := (hM q).1 hq'
        unfold wns at this
        obtain ⟨z, hz, rfl⟩ := List.mem_map.mp this
        exact leaf_ok _ t g3 g1 z hz
      have okL : ∀ q ∈ L, nmOk q.2 := fun q hq' => by
        obtain ⟨u, hu', hqu⟩ := (hL q).1 hq'
        unfold wns at hqu
        obtain ⟨z, hz, rfl⟩ := List.mem_map.mp hqu
        have hu2 := List.mem_of_mem_take hu'
        exact leaf_ok _ u (hts u hu2).2.2 (hts u hu2).1 z hz
      try walk_at "dl"
      refine compN_by wnD (fun q => decide (q ∉ L)) wnD (by omega) (fun q P' hqm p => ?_) (fun q P' _ _ p => ?_) ?_
      · try walk_at "dl"
        simp only [dInDeep, vw_l, show vw C' (wnD q) = wnD q from rfl]
        refine ⟨(nice_wn (okM q hqm)).ok (by omega), okD_wns okL, ?_⟩
        rw [any_wn, ← decide_not]
        exact p
      · try walk_at "dl"
        exact p
      · try walk_at "dl"
        have hfl := List.length_filter_le (fun q => decide (q ∉ L)) M
        refine ⟨by rw [List.length_map, List.length_map]; omega, .of ⟨rfl, L ++ M.filter (fun q => decide (q ∉ L)), _, by rw [List.map_append], fun q => ?_, by rw [List.length_append]; omega⟩⟩
        rw [List.mem_append, List.mem_filter, decide_eq_true_eq, hL, take_succ' et]
        constructor
        · rintro (⟨u, hu', hx⟩ | ⟨hm, _⟩)
          · exact ⟨u, List.mem_append_left _ hu', hx⟩
          · exact ⟨t, by simp, (hM q).1 hm⟩
        · rintro ⟨u, hu', hx⟩
          rcases List.mem_append.mp hu' with hu' | hu'
          · exact .inl ⟨u, hu', hx⟩
          · rw [List.mem_singleton.mp hu'] at hx
            by_cases hql : q ∈ L
            · exact .inl ((hL q).1 hql)
            · exact .inr ⟨(hM q).2 hx, fun hh => hql ((hL q).2 hh)⟩
    · rintro ρ C' ⟨rfl, L, o1, rfl, hL, hLl⟩
      rw [List.length_map, List.take_length] at hL hLl
      refine hNX _ _ ?_
      try walk_at "dl"
      exact fin (h L (fun q => by rw [hL, wns_nd]) (by simpa only [leaves] using hLl))
theorem ok__law_words_of (T : Txt K mg) : ∀ n, Fn P w K mg base (n + 1) (fa mg "_law_words_of") [] (sp__law_words_of n)
  | 0 => ok__law_words_of1 (q := fun _ _ _ => False) T (fn_zero T.d__law_words_of.z fun _ _ _ h => h) fun t C Q _ h => by omega
  | n + 1 => ok__law_words_of1 T (ok__law_words_of T n) fun t C Q hw _ hl hv q => ⟨t, rfl, hw, hl, hv, q⟩
end

end K78

set_option Elab.async false
set_option linter.all false
set_option maxRecDepth 100000
set_option maxHeartbeats 1000000
namespace K78
open PySem L2 DL
local macro_rules | `(tactic| walk_at "dl") => `(tactic| simp only [dSeq, dIfS, dOr, dAnd, dNot, dTest, dCB, d1, d2, kIsi, kIsO, kLen, kStr, kIntT, kAbs, kI2, kSum, dCons, dNil, dVar, dC, slot, tyD, opt_some, kitB_ss, kitB_is, kitB_ii, kitB_ib, kitB_si, kitB_tt, kitB_ll, kitB_dd, kitB_tl, kitB_lt, kitB_ts, kitB_bb, kitB_bi,
  vw_non, vw_bl, vw_i, vw_s, vw_l, vw_t, vw_d, vw_n, vw_f, vw_v, asB, dAndV, dOrV, dNotV, dIf, dOp, dI2, dSub, dMul, dFdiv, dMod, dPow, dLt, dLe, dGt, dGe, dAdd, dRet, dRetN, dNext, dLst, dTup, dLstC, dCall, dDrop, dAsg, dName, dPar, dSets, dGTup, dIx, dSl, dPart, dNoP, dInN, dIsN, dEqN, dNeg, dFz, frz1, dFzS, dFld, dSetFld, dMth, dMake, dCallL, dChain, endsOf, dLcL, dLcS, dLcR1, dYes, dBM, mAppend, mInsert, mStarts3, mJoin, tyM, dBits, dForL, dForT, dForR1, int1, dDGet, dDIn, dDPut, dDGet2, kDict0, DL.keyOf, kListOf, kRepr, dEqP, kMax, kMin, isN, fget, fput, dForD, dLcD, dLcP, dLc2, dForE, oneL, dDcL, kLenB, kSortI, kSortD, kDictD, kDictP, kIntB, dSortSet, dLenSet, dAddT, dRep, dInDeep, dSame, dNilC, dLcR1C, dDict0, dPair0, dPairS, dDisp, keysOf', keyD,
  List.set_cons_zero, List.set_cons_succ, List.length_cons, List.length_nil, Bool.not_true, Bool.not_false, List.append_nil,
  if_true, if_false, Bool.false_eq_true, Bool.true_eq_false, ite_true, ite_false, true_and, and_true, reduceIte, List.nil_append, List.cons_append, atI_0, atI_1, atI_2, atI_3, atI_m1, List.getElem?_cons_zero, List.getElem?_cons_succ, List.getLast?_cons_cons, List.getLast?_singleton, Nat.zero_add, Nat.reduceAdd, Int.cast_ofNat_Int, Int.natCast_add, Int.natCast_one, Nat.reduceLeDiff, Int.reduceLT, Int.reduceLE, Int.reduceEq, decide_true, decide_false, Int.reduceAdd, Int.reduceNeg, Int.reduceSub, Int.reduceToNat, eq_self, ne_eq, not_true_eq_false, not_false_eq_true, List.map_cons, List.map_nil, Option.getD_some, Option.getD_none, Option.isSome_some, Option.isSome_none])
open HL
open TL PySem.NumText
section
variable {P : Program} {w : World} {K : PySem.W.Frag} {mg : Str → Option Value} {base : Heap}
/-! the purses -/
def sp__law_purses : DSp := fun ds C Q => ∃ xs : List Int, ds = [.fro (xs.map D.int), .int 2] ∧ xs.length ≤ 1000000 ∧ ∀ (as : List Addr) C', as.Nodup → (∀ a ∈ as, C a = none ∧ ∃ y, C' a = some y ∧ PU 0 y) → Sub C C' → Q (.lst (as.map D.cell)) C'
theorem ok__law_purses (T : Txt K mg) : Fn P w K mg base 2 (fa mg "_law_purses") [] sp__law_purses := by
  have G__law_purse := ok__law_purse (P := P) (w := w) (base := base) T
  refine fn_df T.d__law_purses sc__law_purses (fun ds C Q h => ?_) (fun cdv A outer s H E hr => ?_)
  · (obtain ⟨_, rfl, _⟩ := h; rfl)
  have hu := hr.units
  have hu1 := hu_of hr
  have nd := sc__law_purses.nd
  refine ⟨_, (ds_one (ds_ret (de_lcR1 rfl nd T.range (da_cons (de_cb (call_max2 rfl) cl_I2 T.max bt_max (da_cons dc_int (da_cons (de_cb (call_min2 rfl) cl_I2 T.min bt_min (da_cons (dv 1) (da_cons (de_cb call_lenB cl_lenB T.len bt_len (da_cons (dv 0) da_nil)) da_nil))) da_nil))) da_nil) (by first | (change blkC N__law_purses (defScope s__law_purses) _ _ = true; decide +kernel) | rfl) (fun _ _ _ _ _ => pg_name (i := 2) nd rfl (Or.inl rfl)) (fun _ _ _ _ _ => dp_nil) (fun _ _ _ _ _ => (de_call G__law_purse T.d__law_purse.m (hr.mono (by omega)) (da_cons (dv 0) (da_cons (dv 2) da_nil))))))), fun ds C Q h => ?_⟩
  obtain ⟨xs, rfl, hl, h⟩ := h
  rw [show startD N__law_purses [.fro (xs.map D.int), .int 2] = [some (.fro (xs.map D.int)), some (.int 2), none] from rfl]
  try walk_at "dl"
  have hn : ∃ n : Nat, n ≤ 2 ∧ (if (if ((xs.map D.int).length : Int) < 2 then ((xs.map D.int).length : Int) else 2) > 1 then if ((xs.map D.int).length : Int) < 2 then ((xs.map D.int).length : Int) else 2 else 1) = (n : Int) := by
    generalize (xs.map D.int).length = m
    by_cases h1 : m < 2
    · exact ⟨1, by omega, by split <;> split <;> omega⟩
    · exact ⟨2, by omega, by split <;> split <;> omega⟩
  obtain ⟨n, hn2, en⟩ := hn
  rw [en]
  refine ⟨by omega, by omega, ?_⟩
  rw [Int.toNat_natCast]
  refine ⟨fun i acc C' => ∃ as : List Addr, acc = as.map D.cell ∧ as.length = i ∧ as.Nodup ∧ (∀ a ∈ as, C a = none ∧ ∃ y, C' a = some y ∧ PU 0 y) ∧ Sub C C', ⟨[], rfl, rfl, List.nodup_nil, by simp, fun _ _ e => e⟩, fun i d acc C' e p => ?_, fun acc C' p => ?_⟩
  · obtain ⟨as, rfl, hi, nod, has, sub⟩ := p
    rw [List.getElem?_map] at e
    cases e2 : (List.range n)[i]? with
    | none => rw [e2] at e; cases e
    | some j =>
      rw [e2] at e
      cases e
      obtain ⟨hlt, ej⟩ := List.getElem?_eq_some_iff.mp e2
      rw [List.length_range] at hlt
      rw [List.getElem_range] at ej
      subst ej
      try walk_at "dl"
      refine ⟨xs, i, rfl, by omega, hl, fun b y hb hy => ?_⟩
      have hnb : b ∉ as := fun hm => by
        obtain ⟨_, z, e, _⟩ := has b hm
        rw [hb] at e
        cases e
      have hCb : C b = none := by
        cases q : C b with
        | none => rfl
        | some c => rw [sub b c q] at hb; cases hb
      try walk_at "dl"
      refine ⟨by rw [List.length_map]; omega, _, Gh.refl _, as ++ [b], by rw [List.map_append]; rfl, by simp; omega, List.nodup_append.mpr ⟨nod, by simp, fun x hx z hz e => hnb (by rw [List.mem_singleton.mp hz] at e; rw [← e]; exact hx)⟩, fun x hx => ?_, fun x c e => ?_⟩
      · rcases List.mem_append.mp hx with hx | hx
        · obtain ⟨k1, z, k2, k3⟩ := has x hx
          exact ⟨k1, z, by rw [cset_ne (fun e => hnb (by rw [← e]; exact hx))]; exact k2, k3⟩
        · rw [List.mem_singleton.mp hx]
          exact ⟨hCb, y, cset_same, hy⟩
      · rw [cset_ne (fun z => by rw [z, hCb] at e; cases e)]
        exact sub x c e
  · obtain ⟨as, rfl, hi, nod, has, sub⟩ := p
    exact fin (h as C' nod has sub)

/-! ### the law's own order, its own round -/
def termsD (bk : Bk) : List D := bk.map fun p => .tup [.str p.1, toD p.2]
def Od' (bk : Bk) (fs : List Str) : Prop := ∀ i n t, fs[i]? = some n → (n, t) ∈ bk → ∀ x ∈ nms true t, x ∈ fs.take i
theorem Od'.app {bk : Bk} {rk : Str → Nat} (ok : BkOk bk rk) {fs : List Str} {n : Str} {t : Tm} (h : Od' bk fs) (ht : (n, t) ∈ bk) (hx : ∀ x ∈ nms true t, x ∈ fs) : Od' bk (fs ++ [n]) := fun i m u e hu x hxu => by
  by_cases hi : i < fs.length
  · rw [List.getElem?_append_left hi] at e
    rw [List.take_append_of_le_length (Nat.le_of_lt hi)]
    exact h i m u e hu x hxu
  · have hi' : i = fs.length := by
      have := (List.getElem?_eq_some_iff.mp e).1
      rw [List.length_append, List.length_singleton] at this
      omega
    subst hi'
    rw [List.getElem?_append_right (Nat.le_refl _), Nat.sub_self] at e
    cases e
    have e1 := Bk.mem_tm ok.nd ht
    have e2 := Bk.mem_tm ok.nd hu
    rw [e1] at e2
    cases e2
    rw [List.take_left]
    exact hx x hxu
def sp__law_turn (mg : Str → Option Value) : DSp := fun ds C Q => ∃ (bk : Bk) (rk : Str → Nat), ds = [rulesD mg bk] ∧ BkOk bk rk ∧ ∀ fs : List Str, ordOk bk fs → Q (.lst (fs.map D.str)) C
theorem ok__law_turn (T : Txt K mg) : Fn P w K mg base 7 (fa mg "_law_turn") [] (sp__law_turn mg) := by
  have G_Rule_term := ok_term (P := P) (w := w) (base := base) T
  have G__law_words_of := ok__law_words_of (P := P) (w := w) (base := base) T 3
  refine fn_df T.d__law_turn sc__law_turn (fun ds C Q h => ?_) (fun cdv A outer s H E hr => ?_)
  · (obtain ⟨_, _, rfl, _⟩ := h; rfl)
  have hu := hr.units
  have hu1 := hu_of hr
  have nd := sc__law_turn.nd
  refine ⟨_, (ds_cons (ds_asg (de_tup (da_cons (de_lcP rfl nd (dv 0) (by first | (change blkC N__law_turn (defScope s__law_turn) _ _ = true; decide +kernel) | rfl) (fun _ _ _ _ _ => pg_name (i := 4) nd rfl (Or.inl rfl)) (fun _ _ _ _ _ => pg_name (i := 7) nd rfl (Or.inl rfl)) (fun _ _ _ _ _ => dp_nil) (fun _ _ _ _ _ => (de_tup (da_cons (dv 4) (da_cons (de_mth0 G_Rule_term T.c_Rule.cl T.d_Rule_term.me (hr.mono (by omega)) (dv 7)) da_nil))))) (da_cons (de_lstC da_nil) da_nil))) (dg_tup rfl (gn_cons (i := 1) nd (gn_cons (i := 2) nd gn_nil))))
    (ds_cons (ds_forR1 rfl T.range (da_cons (de_cb call_lenB cl_lenB T.len bt_len (da_cons (dv 1) da_nil)) da_nil) (dg_name (i := 3) nd) (ds_one (ds_forL rfl (de_ct call_list_of cl_listOf T.list bt_list (da_cons (dv 1) da_nil)) (dg_tup rfl (gn_cons (i := 4) nd (gn_cons (i := 5) nd gn_nil))) (ds_cons (ds_setLcP (n := 6) rfl nd (de_call G__law_words_of T.d__law_words_of.m (hr.mono (by omega)) (da_cons (dv 5) da_nil)) (by first | (change blkC N__law_turn (defScope s__law_turn) _ _ = true; decide +kernel) | rfl) (fun _ _ _ _ _ => pg_name (i := 8) nd rfl (Or.inl rfl)) (fun _ _ _ _ _ => pg_name (i := 9) nd rfl (Or.inl rfl)) (fun _ _ _ _ _ => (dp_one (dt_cmp (op_eqA hu) ops_eq (dv 8) dc_str (nomark _)))) (fun _ _ _ _ _ => (dv 9)))
    (ds_one (ds_if (dt_pw (dw_and (dt_cmp (op_eqNil hr.units0) ops_nil (de_lcL rfl nd (dv 6) (by first | (change blkC N__law_turn (defScope s__law_turn) _ _ = true; decide +kernel) | rfl) (fun _ _ _ _ _ => pg_name (i := 9) nd rfl (Or.inl rfl)) (fun _ _ _ _ _ => (dp_one (dt_cmp op_notInA ops_in (dv 9) (dv 2) rfl))) (fun _ _ _ _ _ => (dv 9))) (de_lst da_nil) (nomark _)) (dw_and1 (dt_cmp op_notInA ops_in (dv 4) (dv 2) rfl)))) (ds_one (ds_expr (de_bm PySem.F.plainAttrs_list PySem.F.slot_list_append PySem.F.type_list_append mt_append ms_append (dv 2) (da_cons (dv 4) da_nil)))) ds_nil))))))
    (ds_one (ds_ret (de_fz (dv 2)))))), fun ds C Q h => ?_⟩
  obtain ⟨bk, rk, rfl, ok, h⟩ := h
  have h6 := ok.le
  have hnl : bk.names.length = bk.length := List.length_map ..
  rw [show startD N__law_turn [rulesD mg bk] = [some (rulesD mg bk), none, none, none, none, none, none, none, none, none] from rfl]
  refine seq_g fun NX hNX => ?_
  simp only [rulesD]
  try walk_at "dl"
  refine ⟨⟨_, rfl⟩, compP_by (xs := bk) (fun p : Str × Tm => .str p.1) (fun p : Str × Tm => ruleD mg p.2) (fun _ => true) (fun p => .tup [.str p.1, toD p.2]) (by omega) (fun p P' _ q => q) (fun p P' hp _ q => ?_) ?_⟩
  · have htm := ok.tm p hp
    simp only [ruleD]
    try walk_at "dl"
    refine ⟨if_neg (by decide +kernel), p.2, rfl, htm.2.1, htm.2.2, ?_⟩
    exact q
  rw [filt_all fun _ _ => rfl]
  try walk_at "dl"
  intro p hp
  try walk_at "dl"
  refine hNX _ _ ?_
  clear hNX
  refine seq_g fun NX hNX => ?_
  rw [show bk.map (fun p => D.tup [.str p.1, toD p.2]) = termsD bk from rfl]
  try walk_at "dl"
  rw [show (termsD bk).length = bk.length from List.length_map .., Int.toNat_natCast]
  refine ⟨by omega, by omega, fun i ρ C' => ∃ (fs : List Str) (o3 o4 o5 o6 : Option D), C' = cset C p (.lst (fs.map D.str)) ∧ ρ = [some (rulesD mg bk), some (.lst (termsD bk)), some (.cell p), o3, o4, o5, o6, none, none, none] ∧ fs.Nodup ∧ (∀ x ∈ fs, x ∈ bk.names) ∧ Od' bk fs ∧ (i ≤ fs.length ∨ ∀ x ∈ bk.names, x ∈ fs), ⟨[], none, none, none, none, rfl, rfl, List.nodup_nil, by simp, fun i n t e => by simp at e, .inl (Nat.zero_le _)⟩, ?_, ?_⟩
  · rintro i d ρ C' e ⟨fs, o3, o4, o5, o6, rfl, rfl, nd0, hin, od, hi⟩
    refine name_g ?_
    simp only [List.set_cons_succ, List.set_cons_zero]
    try walk_at "dl"
    refine ⟨fun j ρ C' => ∃ (gs : List Str) (o4 o5 o6 : Option D), C' = cset C p (.lst ((fs ++ gs).map D.str)) ∧ ρ = [some (rulesD mg bk), some (.lst (termsD bk)), some (.cell p), some d, o4, o5, o6, none, none, none] ∧ (fs ++ gs).Nodup ∧ (∀ x ∈ fs ++ gs, x ∈ bk.names) ∧ Od' bk (fs ++ gs) ∧ (∀ q ∈ bk.take j, (∀ x ∈ nms true q.2, x ∈ fs) → q.1 ∈ fs ++ gs), ⟨[], _, _, _, by rw [List.append_nil], rfl, by rw [List.append_nil]; exact nd0, by rw [List.append_nil]; exact hin, by rw [List.append_nil]; exact od, by simp⟩, ?_, ?_⟩
    · rintro j d2 ρ C' e2 ⟨gs, o4, o5, o6, rfl, rfl, nd1, hin1, od1, hq⟩
      rw [termsD, List.getElem?_map] at e2
      cases ex : bk[j]? with
      | none => rw [ex] at e2; cases e2
      | some r =>
        rw [ex] at e2
        cases e2
        obtain ⟨n, t⟩ := r
        have ht : (n, t) ∈ bk := List.mem_of_getElem? ex
        have htm := ok.tm _ ht
        have hfl := nodup_le nd1 hin1
        refine (show dGTup [4, 5] _ _ _ _ from ⟨rfl, ?_⟩)
        simp only [dSets, List.set_cons_succ, List.set_cons_zero]
        refine seq_g fun NY hNY => ?_
        try walk_at "dl"
        refine ⟨t, rfl, htm.2.1, htm.2.2, ok.lv _ ht, fun L hL hLl => ?_⟩
        try walk_at "dl"
        have hlv := ok.lv _ ht
        refine ⟨⟨_, rfl⟩, compP_by (xs := L) (fun q : WN => .str (wordOf q.1)) (fun q : WN => .str q.2) (fun q => q.1) (fun q => .str q.2) (by simp only at hlv; omega) (fun q P' _ z => ?_) (fun q P' _ _ z => ?_) ?_⟩
        · try walk_at "dl"
          rw [show (("now" : Str)) = wordOf true from rfl, word_eq, show (q.1 == true) = q.1 by cases q.1 <;> rfl]
          exact z
        · try walk_at "dl"
          exact z
        have eh : (L.filter fun q : WN => q.1).map (fun q : WN => D.str q.2) = ((L.filter fun q : WN => q.1).map (·.2)).map D.str := by rw [List.map_map]; rfl
        rw [eh]
        generalize hgen : (L.filter fun q : WN => q.1).map (·.2) = hung
        have hm : ∀ x, x ∈ hung ↔ x ∈ nms true t := fun x => by
          rw [← hgen, List.mem_map]
          constructor
          · rintro ⟨⟨b, y⟩, hb, rfl⟩
            obtain ⟨h1, h2⟩ := List.mem_filter.mp hb
            have h2 : b = true := h2
            subst h2
            exact wns_mem.mp ((hL _).1 h1)
          · intro hx
            exact ⟨(true, x), List.mem_filter.mpr ⟨(hL _).2 (wns_mem.mpr hx), rfl⟩, rfl⟩
        have hhl : hung.length ≤ 64 := by
          rw [← hgen, List.length_map]
          have := List.length_filter_le (fun q : WN => q.1) L
          simp only at hlv
          omega
        try walk_at "dl"
        refine hNY _ _ ?_
        clear hNY
        try walk_at "dl"
        refine compN_by D.str (fun x => decide (x ∉ fs ++ gs)) D.str (by omega) (fun z P' _ q => ?_) (fun z P' _ _ q => ?_) ?_
        · try walk_at "dl"
          simp only [dInN, vw_cl cset_same]
          refine ⟨rfl, flat_strsD _, ?_⟩
          rw [inD_strs]
          try simp only [if_true]
          rw [← decide_not]
          exact q
        · try walk_at "dl"
          exact q
        simp only [dNilC, vw_l]
        try walk_at "dl"
        have stay : (∀ x ∈ nms true t, x ∈ fs) → n ∈ fs ++ gs → ∀ q ∈ bk.take (j + 1), (∀ x ∈ nms true q.2, x ∈ fs) → q.1 ∈ fs ++ gs := fun _ hn q hqm hx => by
          rw [take_succ' ex] at hqm
          rcases List.mem_append.mp hqm with hqm | hqm
          · exact hq q hqm hx
          · rw [List.mem_singleton.mp hqm]; exact hn
        by_cases hall : ∀ x ∈ nms true t, x ∈ fs ++ gs
        · rw [show (((hung.filter fun x => decide (x ∉ fs ++ gs)).map D.str).isEmpty) = true by
            rw [List.isEmpty_iff, List.map_eq_nil_iff, List.filter_eq_nil_iff]
            intro x hx
            exact fun hd => (of_decide_eq_true hd) (hall x ((hm x).1 hx))]
          try walk_at "dl"
          simp only [dInN, vw_cl cset_same]
          refine ⟨rfl, flat_strsD _, ?_⟩
          rw [inD_strs]
          try simp only [if_true]
          by_cases hn : n ∈ fs ++ gs
          · rw [decide_eq_true hn]
            try walk_at "dl"
            refine .of ⟨gs, _, _, _, rfl, rfl, nd1, hin1, od1, fun q hqm hx => ?_⟩
            rw [take_succ' ex] at hqm
            rcases List.mem_append.mp hqm with hqm | hqm
            · exact hq q hqm hx
            · rw [List.mem_singleton.mp hqm]; exact hn
          · rw [decide_eq_false hn]
            try walk_at "dl"
            rw [cset_same]
            try walk_at "dl"
            have enew : fs ++ (gs ++ [n]) = (fs ++ gs) ++ [n] := (List.append_assoc ..).symm
            refine ⟨by rw [List.length_map]; omega, .of ⟨gs ++ [n], _, _, _, ?_, rfl, ?_, ?_, ?_, fun q hqm hx => ?_⟩⟩
            · rw [cset_cset, enew, List.map_append (l₂ := [n])]; rfl
            · rw [enew]
              exact List.nodup_append.mpr ⟨nd1, by simp, fun a ha b hb e => hn (by rw [List.mem_singleton.mp hb] at e; rw [← e]; exact ha)⟩
            · rw [enew]
              intro x hx
              rcases List.mem_append.mp hx with hx | hx
              · exact hin1 x hx
              · rw [List.mem_singleton.mp hx]; exact Bk.mem ht
            · rw [enew]
              exact od1.app ok ht hall
            · rw [enew]
              rw [take_succ' ex] at hqm
              rcases List.mem_append.mp hqm with hqm | hqm
              · exact List.mem_append_left _ (hq q hqm hx)
              · rw [List.mem_singleton.mp hqm]; simp
        · rw [show (((hung.filter fun x => decide (x ∉ fs ++ gs)).map D.str).isEmpty) = false by
            rw [Bool.eq_false_iff]
            intro he
            rw [List.isEmpty_iff, List.map_eq_nil_iff, List.filter_eq_nil_iff] at he
            refine hall fun x hx => ?_
            exact Classical.byContradiction fun hn => he x ((hm x).2 hx) (decide_eq_true hn)]
          try walk_at "dl"
          refine .of ⟨gs, _, _, _, rfl, rfl, nd1, hin1, od1, fun q hqm hx => ?_⟩
          rw [take_succ' ex] at hqm
          rcases List.mem_append.mp hqm with hqm | hqm
          · exact hq q hqm hx
          · rw [List.mem_singleton.mp hqm] at hx ⊢
            exact absurd (fun x hxt => List.mem_append_left _ (hx x hxt)) hall
    · rintro ρ C' ⟨gs, o4, o5, o6, rfl, rfl, nd1, hin1, od1, hq⟩
      rw [show (termsD bk).length = bk.length from List.length_map .., List.take_length] at hq
      refine .of ⟨fs ++ gs, _, _, _, _, rfl, rfl, nd1, hin1, od1, ?_⟩
      rcases hi with hi | hi
      · by_cases hall : ∀ x ∈ bk.names, x ∈ fs
        · exact .inr fun x hx => List.mem_append_left _ (hall x hx)
        · left
          have hr : (bk.names.filter fun n => decide (n ∉ fs)) ≠ [] := fun e => hall fun x hx => by
            have := List.filter_eq_nil_iff.mp e x hx
            simpa using this
          obtain ⟨z, hz, hmin⟩ := least rk hr
          obtain ⟨hz1, hz2⟩ := List.mem_filter.mp hz
          have hz2 := of_decide_eq_true hz2
          obtain ⟨t, ht⟩ := Bk.has hz1
          have hzg : z ∈ fs ++ gs := hq (z, t) ht fun x hx => by
            have hxn := ok.inn _ ht true x hx
            have hxr := ok.dn _ ht x hx
            by_cases hxf : x ∈ fs
            · exact hxf
            · have := hmin x (List.mem_filter.mpr ⟨hxn, decide_eq_true hxf⟩)
              simp only at hxr
              omega
          have hg1 : 1 ≤ gs.length := by
            rcases List.mem_append.mp hzg with hzg | hzg
            · exact absurd hzg hz2
            · exact List.length_pos_of_mem hzg
          rw [List.length_append]
          omega
      · exact .inr fun x hx => List.mem_append_left _ (hi x hx)
  · rintro ρ C' ⟨fs, o3, o4, o5, o6, rfl, rfl, nd0, hin, od, hi⟩
    rw [List.length_map, List.length_range] at hi
    refine hNX _ _ ?_
    try walk_at "dl"
    rw [cset_same]
    try walk_at "dl"
    rw [cdel_cset hp]
    have hlen : bk.names.length ≤ fs.length := by
      rcases hi with hi | hi
      · omega
      · exact nodup_le ok.nd hi
    exact fin (h fs ⟨perm_of nd0 hin hlen, od⟩)
end

end K78

set_option Elab.async false
set_option linter.all false
set_option maxRecDepth 100000
set_option maxHeartbeats 1000000
namespace K78
open PySem L2 DL
local macro_rules | `(tactic| walk_at "dl") => `(tactic| simp only [dSeq, dIfS, dOr, dAnd, dNot, dTest, dCB, d1, d2, kIsi, kIsO, kLen, kStr, kIntT, kAbs, kI2, kSum, dCons, dNil, dVar, dC, slot, tyD, opt_some, kitB_ss, kitB_is, kitB_ii, kitB_ib, kitB_si, kitB_tt, kitB_ll, kitB_dd, kitB_tl, kitB_lt, kitB_ts, kitB_bb, kitB_bi,
  vw_non, vw_bl, vw_i, vw_s, vw_l, vw_t, vw_d, vw_n, vw_f, vw_v, asB, dAndV, dOrV, dNotV, dIf, dOp, dI2, dSub, dMul, dFdiv, dMod, dPow, dLt, dLe, dGt, dGe, dAdd, dRet, dRetN, dNext, dLst, dTup, dLstC, dCall, dDrop, dAsg, dName, dPar, dSets, dGTup, dIx, dSl, dPart, dNoP, dInN, dIsN, dEqN, dNeg, dFz, frz1, dFzS, dFld, dSetFld, dMth, dMake, dCallL, dChain, endsOf, dLcL, dLcS, dLcR1, dYes, dBM, mAppend, mInsert, mStarts3, mJoin, tyM, dBits, dForL, dForT, dForR1, int1, dDGet, dDIn, dDPut, dDGet2, kDict0, DL.keyOf, kListOf, kRepr, dEqP, kMax, kMin, isN, fget, fput, dForD, dLcD, dLcP, dLc2, dForE, oneL, dDcL, kLenB, kSortI, kSortD, kDictD, kDictP, kIntB, dSortSet, dLenSet, dAddT, dRep, dInDeep, dSame, dNilC, dLcR1C, dDict0, dPair0, dPairS, dDisp, keysOf', keyD,
  List.set_cons_zero, List.set_cons_succ, List.length_cons, List.length_nil, Bool.not_true, Bool.not_false, List.append_nil,
  if_true, if_false, Bool.false_eq_true, Bool.true_eq_false, ite_true, ite_false, true_and, and_true, reduceIte, List.nil_append, List.cons_append, atI_0, atI_1, atI_2, atI_3, atI_m1, List.getElem?_cons_zero, List.getElem?_cons_succ, List.getLast?_cons_cons, List.getLast?_singleton, Nat.zero_add, Nat.reduceAdd, Int.cast_ofNat_Int, Int.natCast_add, Int.natCast_one, Nat.reduceLeDiff, Int.reduceLT, Int.reduceLE, Int.reduceEq, decide_true, decide_false, Int.reduceAdd, Int.reduceNeg, Int.reduceSub, Int.reduceToNat, eq_self, ne_eq, not_true_eq_false, not_false_eq_true, List.map_cons, List.map_nil, Option.getD_some, Option.getD_none, Option.isSome_some, Option.isSome_none])
open HL
open TL PySem.NumText
section
variable {P : Program} {w : World} {K : PySem.W.Frag} {mg : Str → Option Value} {base : Heap}
def termsK (bk : Bk) : List (Key × D) := bk.map fun p => (.inr p.1, toD p.2)
theorem pairsD_terms : ∀ bk : Bk, pairsD (bk.map fun p => D.tup [.str p.1, toD p.2]) = some (termsK bk)
  | [] => rfl
  | (n, t) :: r => by
    simp only [List.map_cons, pairsD, pairsD_terms r]
    rfl
theorem termsK_nd {bk : Bk} (nd : bk.names.Nodup) : ((termsK bk).map (·.1)).Nodup := by
  have e : (termsK bk).map (·.1) = bk.names.map Sum.inr := by
    unfold termsK Bk.names
    rw [List.map_map, List.map_map]
    rfl
  rw [e]
  exact List.pairwise_map.mpr (nd.imp fun hne e => hne (by cases e; rfl))
theorem dval_terms : ∀ {bk : Bk} {n : Str} {t : Tm}, bk.names.Nodup → (n, t) ∈ bk → dval (termsK bk) (.inr n) = some (toD t)
  | [], n, t, _, h => by simp at h
  | (m, u) :: r, n, t, nd, h => by
    unfold Bk.names at nd
    rw [List.map_cons, List.nodup_cons] at nd
    simp only [termsK, List.map_cons, dval]
    rcases List.mem_cons.mp h with e | h
    · cases e; rw [if_pos rfl]
    · rw [if_neg (fun e => nd.1 (by rw [show m = n from Sum.inr.inj e]; exact List.mem_map.mpr ⟨_, h, rfl⟩))]
      exact dval_terms nd.2 h
def sp__law_behind (mg : Str → Option Value) : DSp := fun ds C Q => ∃ (bk : Bk) (rk : Str → Nat) (ks : List Str) (h : Str → Int), ds = [rulesD mg bk, hD ks h] ∧ BkOk bk rk ∧ ks.Perm bk.names ∧ ∀ fs : List Str, fs.Perm bk.names → Q (hD fs (nx bk h)) C
theorem ok__law_behind (T : Txt K mg) : Fn P w K mg base 8 (fa mg "_law_behind") [] (sp__law_behind mg) := by
  have G_Rule_term := ok_term (P := P) (w := w) (base := base) T
  have G__law_turn := ok__law_turn (P := P) (w := w) (base := base) T
  have G__law_told := ok__law_told (P := P) (w := w) (base := base) T 3
  refine fn_df T.d__law_behind sc__law_behind (fun ds C Q h => ?_) (fun cdv A outer s H E hr => ?_)
  · (obtain ⟨_, _, _, _, rfl, _⟩ := h; rfl)
  have hu := hr.units
  have hu1 := hu_of hr
  have nd := sc__law_behind.nd
  refine ⟨_, (ds_cons (ds_par (i := 2) (j := 3) rfl nd (da_cons (de_ct (call_dictP rfl) cl_dictP T.dict bt_dict (da_cons (de_lst da_nil) da_nil)) (da_cons (de_ct (call_dictP rfl) cl_dictP T.dict bt_dict (da_cons (de_lcP rfl nd (dv 0) (by first | (change blkC N__law_behind (defScope s__law_behind) _ _ = true; decide +kernel) | rfl) (fun _ _ _ _ _ => pg_name (i := 4) nd rfl (Or.inl rfl)) (fun _ _ _ _ _ => pg_name (i := 5) nd rfl (Or.inl rfl)) (fun _ _ _ _ _ => dp_nil) (fun _ _ _ _ _ => (de_tup (da_cons (dv 4) (da_cons (de_mth0 G_Rule_term T.c_Rule.cl T.d_Rule_term.me (hr.mono (by omega)) (dv 5)) da_nil))))) da_nil)) da_nil)))
    (ds_cons (ds_forL rfl (de_call G__law_turn T.d__law_turn.m (hr.mono (by omega)) (da_cons (dv 0) da_nil)) (dg_name (i := 4) nd) (ds_one (ds_dput hu1 (dv 2) (dv 4) (de_call G__law_told T.d__law_told.m (hr.mono (by omega)) (da_cons (de_dget hu1 (dv 3) (dv 4)) (da_cons (dv 1) (da_cons (dv 2) da_nil)))))))
    (ds_one (ds_ret (de_fz (dv 2)))))), fun ds C Q h => ?_⟩
  obtain ⟨bk, rk, ks, hh, rfl, ok, pm, h⟩ := h
  have h6 := ok.nl
  have h6' := ok.le
  rw [show startD N__law_behind [rulesD mg bk, hD ks hh] = [some (rulesD mg bk), some (hD ks hh), none, none, none, none] from rfl]
  refine seq_g fun NX hNX => ?_
  simp only [rulesD]
  try walk_at "dl"
  intro p hp
  refine ⟨⟨_, rfl⟩, compP_by (xs := bk) (fun p : Str × Tm => .str p.1) (fun p : Str × Tm => ruleD mg p.2) (fun _ => true) (fun p => .tup [.str p.1, toD p.2]) (by omega) (fun p P' _ q => q) (fun p P' hp _ q => ?_) ?_⟩
  · have htm := ok.tm p hp
    simp only [ruleD]
    try walk_at "dl"
    refine ⟨if_neg (by decide +kernel), p.2, rfl, htm.2.1, htm.2.2, ?_⟩
    exact q
  rw [filt_all fun _ _ => rfl]
  try walk_at "dl"
  rw [pairsD_terms, opt_some]
  intro q hq
  have hqp : q ≠ p := fun e => by rw [e, cset_same] at hq; cases hq
  have hqC : C q = none := by rwa [cset_ne hqp] at hq
  rw [mergeD_nd (termsK_nd ok.nd)]
  refine hNX _ _ ?_
  clear hNX
  refine seq_g fun NX hNX => ?_
  try walk_at "dl"
  refine ⟨bk, rk, rfl, ok, fun fs ho => ?_⟩
  try walk_at "dl"
  have ndf : fs.Nodup := ho.1.nodup_iff.mpr ok.nd
  have hfl := ho.1.length_eq
  refine ⟨fun i ρ C' => C' = cset (cset C q (.dic (termsK bk))) p (.dic (hK (fs.take i) (nx bk hh))) ∧ ∃ o1, ρ = [some (rulesD mg bk), some (hD ks hh), some (.cell p), some (.cell q), o1, none], ⟨?_, none, rfl⟩, ?_, ?_⟩
  · rw [List.take_zero, cset_comm (Ne.symm hqp)]
    rfl
  · rintro i d ρ C' e ⟨rfl, o1, rfl⟩
    rw [List.getElem?_map] at e
    cases ex : fs[i]? with
    | none => rw [ex] at e; cases e
    | some n =>
      rw [ex] at e
      cases e
      have hnn : n ∈ bk.names := ho.1.mem_iff.mp (List.mem_of_getElem? ex)
      obtain ⟨t, ht⟩ := Bk.has hnn
      have htm := ok.tm _ ht
      refine name_g ?_
      simp only [List.set_cons_succ, List.set_cons_zero]
      try walk_at "dl"
      rw [vw_cd ((cset_ne hqp).trans cset_same)]
      try walk_at "dl"
      rw [dval_terms ok.nd ht, opt_some]
      refine ⟨t, _, _, ks, hh, fs.take i, nx bk hh, rfl, htm.2.1, htm.2.2, rfl, fun m hm => pm.mem_iff.mpr (ok.inn _ ht false m hm), vw_cd cset_same, fun m hm => ho.2 i n t ex ht m hm, ?_⟩
      rw [← nx_eq ok hh ht]
      try walk_at "dl"
      rw [cset_same]
      have hnew : (Sum.inr n : Key) ∉ (hK (fs.take i) (nx bk hh)).map (·.1) := by
        rw [hK_keys, inr_mem]
        exact not_take ndf ex
      refine ⟨by rw [hK_len, List.length_take]; omega, .of ⟨?_, _, rfl⟩⟩
      rw [cset_cset, dput_new hnew, take_succ' ex, hK_app]
  · rintro ρ C' ⟨rfl, o1, rfl⟩
    rw [List.length_map, List.take_length]
    refine hNX _ _ ?_
    try walk_at "dl"
    rw [cset_same]
    try walk_at "dl"
    rw [cdel_cset ((cset_ne (Ne.symm hqp)).trans hp)]
    exact fin_sub (h fs ho.1) (Sub.cset (Sub.refl C) hqC)
/-- hours moved -/
def mvd (h : Str → Int) (ss : List Str) (b : Int) : Str → Int := fun n => h n + b * (if n ∈ ss then 1 else 0)
def sp__law_moved : DSp := fun ds C Q => ∃ (ks : List Str) (h : Str → Int) (ss : List Str) (b : Int), ds = [hD ks h, .lst (ss.map D.str), .int b] ∧ ks.Nodup ∧ ks.length ≤ 6 ∧ 0 ≤ b ∧ b < 2 ^ 100 ∧ Q (hD ks (mvd h ss b)) C
theorem ok__law_moved (T : Txt K mg) : Fn P w K mg base 1 (fa mg "_law_moved") [] sp__law_moved := by
  refine fn_df T.d__law_moved sc__law_moved (fun ds C Q h => ?_) (fun cdv A outer s H E hr => ?_)
  · (obtain ⟨_, _, _, _, rfl, _⟩ := h; rfl)
  have hu := hr.units
  have hu1 := hu_of hr
  have nd := sc__law_moved.nd
  refine ⟨_, (ds_one (ds_ret (de_fz (de_ct (call_dictP rfl) cl_dictP T.dict bt_dict (da_cons (de_lcD rfl nd (dv 0) (by first | (change blkC N__law_moved (defScope s__law_moved) _ _ = true; decide +kernel) | rfl) (fun _ _ _ _ _ => pg_name (i := 3) nd rfl (Or.inl rfl)) (fun _ _ _ _ _ => dp_nil) (fun _ _ _ _ _ => (de_tup (da_cons (dv 3) (da_cons (de_op op_addA ops_add (de_dget hu1 (dv 0) (dv 3)) (de_op op_mulW ops_I (dv 2) (de_ct call_int1 cl_intB T.int bt_int (da_cons (de_cmp op_inA ops_in (dv 3) (dv 1) rfl) da_nil)))) da_nil))))) da_nil))))), fun ds C Q h => ?_⟩
  obtain ⟨ks, hh, ss, b, rfl, nd0, hl, hb0, hb1, h⟩ := h
  rw [show startD N__law_moved [hD ks hh, .lst (ss.map D.str), .int b] = [some (.dic (hK ks hh)), some (.lst (ss.map D.str)), some (.int b), none] from rfl]
  try walk_at "dl"
  rw [keys_h]
  refine compN_by D.str (fun _ => true) (fun n => .tup [.str n, .int (mvd hh ss b n)]) (by omega) (fun n P' _ q => q) (fun n P' hn _ q => ?_) ?_
  · try walk_at "dl"
    rw [dval_h hn, opt_some]
    refine ⟨rfl, flat_strsD _, mulW 100 2 ⟨hb0, hb1⟩ (by split <;> omega) (by decide) (by decide) (by decide), ?_⟩
    try walk_at "dl"
    rw [inD_strs]
    have e : (if decide (n ∈ ss) = true then (1 : Int) else 0) = if n ∈ ss then 1 else 0 := by
      by_cases hs : n ∈ ss <;> simp [hs]
    rw [e]
    exact q
  · rw [filt_all fun _ _ => rfl]
    try walk_at "dl"
    rw [pairsD_h, opt_some]
    intro p hp
    rw [cset_same]
    try walk_at "dl"
    rw [cdel_cset hp, mergeD_nd (hK_nd nd0)]
    exact fin h
end

end K78

set_option Elab.async false
set_option linter.all false
set_option maxRecDepth 100000
set_option maxHeartbeats 1000000
namespace K78
open PySem L2 DL
local macro_rules | `(tactic| walk_at "dl") => `(tactic| simp only [dSeq, dIfS, dOr, dAnd, dNot, dTest, dCB, d1, d2, kIsi, kIsO, kLen, kStr, kIntT, kAbs, kI2, kSum, dCons, dNil, dVar, dC, slot, tyD, opt_some, kitB_ss, kitB_is, kitB_ii, kitB_ib, kitB_si, kitB_tt, kitB_ll, kitB_dd, kitB_tl, kitB_lt, kitB_ts, kitB_bb, kitB_bi,
  vw_non, vw_bl, vw_i, vw_s, vw_l, vw_t, vw_d, vw_n, vw_f, vw_v, asB, dAndV, dOrV, dNotV, dIf, dOp, dI2, dSub, dMul, dFdiv, dMod, dPow, dLt, dLe, dGt, dGe, dAdd, dRet, dRetN, dNext, dLst, dTup, dLstC, dCall, dDrop, dAsg, dName, dPar, dSets, dGTup, dIx, dSl, dPart, dNoP, dInN, dIsN, dEqN, dNeg, dFz, frz1, dFzS, dFld, dSetFld, dMth, dMake, dCallL, dChain, endsOf, dLcL, dLcS, dLcR1, dYes, dBM, mAppend, mInsert, mStarts3, mJoin, tyM, dBits, dForL, dForT, dForR1, int1, dDGet, dDIn, dDPut, dDGet2, kDict0, DL.keyOf, kListOf, kRepr, dEqP, kMax, kMin, isN, fget, fput, dForD, dLcD, dLcP, dLc2, dForE, oneL, dDcL, kLenB, kSortI, kSortD, kDictD, kDictP, kIntB, dSortSet, dLenSet, dAddT, dRep, dInDeep, dSame, dNilC, dLcR1C, dDict0, dPair0, dPairS, dDisp, keysOf', keyD,
  List.set_cons_zero, List.set_cons_succ, List.length_cons, List.length_nil, Bool.not_true, Bool.not_false, List.append_nil,
  if_true, if_false, Bool.false_eq_true, Bool.true_eq_false, ite_true, ite_false, true_and, and_true, reduceIte, List.nil_append, List.cons_append, atI_0, atI_1, atI_2, atI_3, atI_m1, List.getElem?_cons_zero, List.getElem?_cons_succ, List.getLast?_cons_cons, List.getLast?_singleton, Nat.zero_add, Nat.reduceAdd, Int.cast_ofNat_Int, Int.natCast_add, Int.natCast_one, Nat.reduceLeDiff, Int.reduceLT, Int.reduceLE, Int.reduceEq, decide_true, decide_false, Int.reduceAdd, Int.reduceNeg, Int.reduceSub, Int.reduceToNat, eq_self, ne_eq, not_true_eq_false, not_false_eq_true, List.map_cons, List.map_nil, Option.getD_some, Option.getD_none, Option.isSome_some, Option.isSome_none])
open HL
open TL PySem.NumText
section
variable {P : Program} {w : World} {K : PySem.W.Frag} {mg : Str → Option Value} {base : Heap}
/-! ### a purse and three halls -/
structure A4 (C : Cells) (a h1 h2 h3 : Addr) : Prop where
  n1 : C h1 = none
  n2 : C h2 = none
  n3 : C h3 = none
  a1 : h1 ≠ a
  a2 : h2 ≠ a
  a3 : h3 ≠ a
  d12 : h1 ≠ h2
  d13 : h1 ≠ h3
  d23 : h2 ≠ h3
def S4 (C : Cells) (a h1 h2 h3 : Addr) (y c1 c2 c3 : Cell) : Cells := cset (cset (cset (cset C a y) h1 c1) h2 c2) h3 c3
section
variable {C : Cells} {a h1 h2 h3 : Addr} {y y' c1 c2 c3 c : Cell}
theorem S4.ra (d : A4 C a h1 h2 h3) : S4 C a h1 h2 h3 y c1 c2 c3 a = some y := by
  unfold S4
  rw [cset_ne d.a3.symm, cset_ne d.a2.symm, cset_ne d.a1.symm, cset_same]
theorem S4.r1 (d : A4 C a h1 h2 h3) : S4 C a h1 h2 h3 y c1 c2 c3 h1 = some c1 := by
  unfold S4
  rw [cset_ne d.d13, cset_ne d.d12, cset_same]
theorem S4.r2 (d : A4 C a h1 h2 h3) : S4 C a h1 h2 h3 y c1 c2 c3 h2 = some c2 := by
  unfold S4
  rw [cset_ne d.d23, cset_same]
theorem S4.r3 : S4 C a h1 h2 h3 y c1 c2 c3 h3 = some c3 := by
  unfold S4
  rw [cset_same]
theorem S4.ua (d : A4 C a h1 h2 h3) : cset (S4 C a h1 h2 h3 y c1 c2 c3) a y' = S4 C a h1 h2 h3 y' c1 c2 c3 := by
  unfold S4
  rw [cset_comm d.a3, cset_comm d.a2, cset_comm d.a1, cset_cset]
theorem S4.u1 (d : A4 C a h1 h2 h3) : cset (S4 C a h1 h2 h3 y c1 c2 c3) h1 c = S4 C a h1 h2 h3 y c c2 c3 := by
  unfold S4
  rw [cset_comm d.d13.symm, cset_comm d.d12.symm, cset_cset]
theorem S4.u2 (d : A4 C a h1 h2 h3) : cset (S4 C a h1 h2 h3 y c1 c2 c3) h2 c = S4 C a h1 h2 h3 y c1 c c3 := by
  unfold S4
  rw [cset_comm d.d23.symm, cset_cset]
theorem S4.u3 : cset (S4 C a h1 h2 h3 y c1 c2 c3) h3 c = S4 C a h1 h2 h3 y c1 c2 c := by
  unfold S4
  rw [cset_cset]
theorem S4.sub (d : A4 C a h1 h2 h3) : Sub (cset C a y) (S4 C a h1 h2 h3 y c1 c2 c3) := by
  unfold S4
  exact (((Sub.refl _).cset ((cset_ne d.a1).trans d.n1)).cset ((cset_ne d.a2).trans d.n2)).cset ((cset_ne d.a3).trans d.n3)
end
/-- a book made -/
theorem make_book {C : Cells} {bk : Bk} {rk : Str → Nat} (ok : BkOk bk rk) {P' : DK} (h : P' (bookD mg bk) C) :
    ∀ q, C q = none → sp_Book___init__ mg [.cell q, rulesD mg bk] (cset C q (.ins (fa mg "Book") [])) fun d C2 => d = .non ∧ frz1 (.cell q) C2 P' := fun q hq => by
  refine ⟨q, bk, rk, rfl, cset_same, ok, rfl, ?_⟩
  rw [cset_cset]
  simp only [frz1, cset_same]
  rw [cdel_cset hq]
  exact h
theorem make_hall {C : Cells} {bk : Bk} {rk : Str → Nat} {ks : List Str} {h : Str → Int} (ok : BkOk bk rk) (pm : ks.Perm bk.names) {P' : DK} (k : ∀ q, C q = none → P' (.cell q) (cset C q (hallC mg (stD mg bk ks h 0) []))) :
    ∀ q, C q = none → sp_Hall___init__ mg [.cell q, bookD mg bk, hD ks h] (cset C q (.ins (fa mg "Hall") [])) fun d C2 => d = .non ∧ P' (.cell q) C2 := fun q hq => by
  refine ⟨q, bk, rk, ks, h, rfl, cset_same, ok, pm, rfl, ?_⟩
  rw [cset_cset]
  exact k q hq
theorem same3 {ks ls : List Str} {f g : Str → Int} (nd : ks.Nodup) (pm : ks.Perm ls) (e : ∀ n ∈ ks, f n = g n) : (hK ks f).length = (hK ls g).length ∧ intVals (hK ks f) = true ∧ ∀ p ∈ hK ks f, dval (hK ls g) p.1 = some p.2 := by
  refine ⟨by rw [hK_len, hK_len, pm.length_eq], ?_, fun p hp => ?_⟩
  · have : ∀ l : List Str, intVals (hK l f) = true := fun l => by
      induction l with
      | nil => rfl
      | cons x r ih => exact ih
    exact this ks
  · obtain ⟨n, hn, rfl⟩ := List.mem_map.mp hp
    show dval (hK ls g) (.inr n) = some (.int (f n))
    rw [dval_h (pm.mem_iff.mp hn), e n hn]
theorem hg_round {x y z : D} : fget "round" [("state", x), ("past", y), ("later", z)] = none := by simp only [fget]; rw [if_neg (by decide +kernel), if_neg (by decide +kernel), if_neg (by decide +kernel)]
theorem hg_rounds {x y z : D} : fget "rounds" [("state", x), ("past", y), ("later", z)] = none := by simp only [fget]; rw [if_neg (by decide +kernel), if_neg (by decide +kernel), if_neg (by decide +kernel)]
theorem hg_hours {x y z : D} : fget "hours" [("state", x), ("past", y), ("later", z)] = none := by simp only [fget]; rw [if_neg (by decide +kernel), if_neg (by decide +kernel), if_neg (by decide +kernel)]
theorem hg_log {x y z : D} : fget "log" [("state", x), ("past", y), ("later", z)] = none := by simp only [fget]; rw [if_neg (by decide +kernel), if_neg (by decide +kernel), if_neg (by decide +kernel)]
theorem hg_late {x y z : D} : fget "late" [("state", x), ("past", y), ("later", z)] = none := by simp only [fget]; rw [if_neg (by decide +kernel), if_neg (by decide +kernel), if_neg (by decide +kernel)]
theorem nice_log (n : Nat) : Nice (.lst (List.replicate n (roundD 1))) 2 := Nice.lst fun d hd => by
  rw [List.eq_of_mem_replicate hd]
  refine Nice.tup (m := 0) fun d hd => ?_
  simp only [List.mem_cons, List.not_mem_nil, or_false] at hd
  rcases hd with rfl | rfl
  · exact nice_str (by decide +kernel)
  · exact nice_int
theorem eq_log (n : Nat) : eqD (.lst (List.replicate n (roundD 1))) (.lst (List.replicate n (roundD 1))) = true := PySem.SeqAt.eqv_refl _ (nice_log n).lay
theorem flat_rep {α : Type} (x : α) : ∀ n : Nat, (List.replicate n [x]).flatten = List.replicate n x
  | 0 => rfl
  | n + 1 => by rw [List.replicate_succ, List.flatten_cons, flat_rep x n, List.replicate_succ]; rfl
theorem sub_none {C C' : Cells} {q : Addr} (h : Sub C C') (n : C' q = none) : C q = none := by
  cases e : C q with
  | none => rfl
  | some c => rw [h _ _ e] at n; cases n
theorem vw_hD {C : Cells} {ks : List Str} {h : Str → Int} : vw C (hD ks h) = .dic (hK ks h) := rfl
def RI (mg : Str → Option Value) (C : Cells) (bk : Bk) (a p1 p2 p3 : Addr) (y c1 c2 : Cell) (ks kt kf : List Str) (hh : Str → Int) (one two : Nat) (i : Nat) (ρ : DL.Env) (C' : Cells) : Prop :=
  i ≤ one + two ∧ ∃ (k3 kw : List Str) (ps : List (D × D)) (o : Option D), k3.Perm bk.names ∧ kw.Perm bk.names ∧ ps.map (·.1) = List.replicate i (roundD 1) ∧ C' = S4 C a p1 p2 p3 y c1 c2 (hallC mg (stD mg bk k3 (itn bk i hh) (i : Int)) ps) ∧ ρ = [some (.cell a), some (rulesD mg bk), some (hD ks hh), some (bookD mg bk), some (.int one), some (.int two), some (.cell p1), some (.cell p2), some (.cell p3), some (hD kt (itn bk (one + two) hh)), some (hD kf (itn bk one hh)), some (hD kw (itn bk (min i 5) hh)), o, none, none, none]
def sp__law_rounds_right (mg : Str → Option Value) : DSp := fun ds C Q => ∃ (a : Addr) (x : Cell) (N : Nat) (bk : Bk) (rk : Str → Nat) (ks : List Str) (h : Str → Int), ds = [.cell a, rulesD mg bk, hD ks h] ∧ C a = some x ∧ PU N x ∧ N ≤ 30000 ∧ BkOk bk rk ∧ ks.Perm bk.names ∧ ∀ y, PU (N + 100) y → Q (.bl true) (cset C a y)
theorem ok__law_rounds_right (T : Txt K mg) : Fn P w K mg base 14 (fa mg "_law_rounds_right") [] (sp__law_rounds_right mg) := by
  have G__law_draw := ok__law_draw (P := P) (w := w) (base := base) T
  have G__law_one_of := ok__law_one_of (P := P) (w := w) (base := base) T
  have G__law_shuffled := ok__law_shuffled (P := P) (w := w) (base := base) T
  have G__law_behind := ok__law_behind (P := P) (w := w) (base := base) T
  have G__law_moved := ok__law_moved (P := P) (w := w) (base := base) T
  have G_Book___init__ := ok_Book_init (P := P) (w := w) (base := base) T
  have G_Hall___init__ := ok_Hall_init (P := P) (w := w) (base := base) T
  have G_Hall_round := ok_Hall_round (P := P) (w := w) (base := base) T
  have G_Hall_round_1 := ok_Hall_round1 (P := P) (w := w) (base := base) T
  have G_Hall_rounds := ok_Hall_rounds (P := P) (w := w) (base := base) T
  have G_Hall_hours := ok_Hall_hours (P := P) (w := w) (base := base) T
  have G_Hall_log := ok_Hall_log (P := P) (w := w) (base := base) T
  have G_Hall_late := ok_Hall_late (P := P) (w := w) (base := base) T
  refine fn_df T.d__law_rounds_right sc__law_rounds_right (fun ds C Q h => ?_) (fun cdv A outer s H E hr => ?_)
  · (obtain ⟨_, _, _, _, _, _, _, rfl, _⟩ := h; rfl)
  have hu := hr.units
  have hu1 := hu_of hr
  have nd := sc__law_rounds_right.nd
  refine ⟨_, (ds_cons (ds_par3 (i := 3) (j := 4) (l := 5) rfl nd (da_cons (de_fz (de_make T.k_Book G_Book___init__ T.m_Book (hr.mono (by omega)) (da_cons (dv 1) da_nil))) (da_cons (de_call G__law_draw T.d__law_draw.m (hr.mono (by omega)) (da_cons (dv 0) (da_cons dc_int da_nil))) (da_cons (de_call G__law_draw T.d__law_draw.m (hr.mono (by omega)) (da_cons (dv 0) (da_cons dc_int da_nil))) da_nil))))
    (ds_cons (ds_par3 (i := 6) (j := 7) (l := 8) rfl nd (da_cons (de_make T.k_Hall G_Hall___init__ T.m_Hall (hr.mono (by omega)) (da_cons (dv 3) (da_cons (dv 2) da_nil))) (da_cons (de_make T.k_Hall G_Hall___init__ T.m_Hall (hr.mono (by omega)) (da_cons (dv 3) (da_cons (dv 2) da_nil))) (da_cons (de_make T.k_Hall G_Hall___init__ T.m_Hall (hr.mono (by omega)) (da_cons (dv 3) (da_cons (dv 2) da_nil))) da_nil))))
    (ds_cons (ds_set (i := 9) nd (de_mth G_Hall_round T.c_Hall.cl T.d_Hall_round.me (hr.mono (by omega)) (dv 6) (da_cons (de_op op_addA ops_add (dv 4) (dv 5)) da_nil)))
    (ds_cons (ds_set (i := 10) nd (de_mth G_Hall_round T.c_Hall.cl T.d_Hall_round.me (hr.mono (by omega)) (dv 7) (da_cons (dv 4) da_nil)))
    (ds_cons (ds_if (dt_pw (dw_or (dt_cmp (op_neSame hr.units0) ops_same (de_mth G_Hall_round T.c_Hall.cl T.d_Hall_round.me (hr.mono (by omega)) (dv 7) (da_cons (dv 5) da_nil)) (dv 9) (nomark _)) (dw_or (dt_cmp (op_neA hu) ops_ne (de_mth0 G_Hall_rounds T.c_Hall.cl T.d_Hall_rounds.me (hr.mono (by omega)) (dv 7)) (de_op op_addA ops_add (dv 4) (dv 5)) (nomark _)) (dw_or1 (dt_cmp (op_neA hu) ops_ne (de_cb call_lenB cl_lenB T.len bt_len (da_cons (de_mth0 G_Hall_log T.c_Hall.cl T.d_Hall_log.me (hr.mono (by omega)) (dv 7)) da_nil)) dc_int (nomark _)))))) (ds_one (ds_ret dc_bl)) ds_nil)
    (ds_cons (ds_set (i := 11) nd (de_fz (de_ct call_dictD cl_dictD T.dict bt_dict (da_cons (dv 2) da_nil))))
    (ds_cons (ds_forR1 rfl T.range (da_cons (de_op op_addA ops_add (dv 4) (dv 5)) da_nil) (dg_name (i := 12) nd) (ds_cons (ds_if (dt_cmp op_lt ops_B0 (dv 12) dc_int (nomark _)) (ds_one (ds_set (i := 11) nd (de_call G__law_behind T.d__law_behind.m (hr.mono (by omega)) (da_cons (dv 1) (da_cons (dv 11) da_nil))))) ds_nil)
    (ds_cons (ds_if (dt_pw (dw_or (dt_pw (dw_and (dt_cmp (op_eqA hu) ops_eq (dv 12) (dv 4) (nomark _)) (dw_and1 (dt_cmp (op_neSame hr.units0) ops_same (de_fz (de_mth0 G_Hall_hours T.c_Hall.cl T.d_Hall_hours.me (hr.mono (by omega)) (dv 8))) (dv 10) (nomark _))))) (dw_or1 (dt_pw (dw_and (dt_cmp op_lt ops_B0 (dv 12) dc_int (nomark _)) (dw_and1 (dt_cmp (op_neSame hr.units0) ops_same (de_mth0 G_Hall_round_1 T.c_Hall.cl T.d_Hall_round.me (hr.mono (by omega)) (dv 8)) (dv 11) (nomark _)))))))) (ds_one (ds_ret dc_bl)) ds_nil)
    (ds_one (ds_if (dt_cmp op_gt ops_B0 (dv 12) dc_int (nomark _)) (ds_one (ds_expr (de_mth0 G_Hall_round_1 T.c_Hall.cl T.d_Hall_round.me (hr.mono (by omega)) (dv 8)))) ds_nil)))))
    (ds_cons (ds_if (dt_pw (dw_or (dt_cmp (op_neA hu) ops_ne (de_mth0 G_Hall_log T.c_Hall.cl T.d_Hall_log.me (hr.mono (by omega)) (dv 8)) (de_op op_rep ops_rep (de_lst (da_cons (de_tup (da_cons dc_str (da_cons dc_int da_nil))) da_nil)) (de_op op_addA ops_add (dv 4) (dv 5))) (nomark _)) (dw_or (dt_cmp (op_neSame hr.units0) ops_same (de_mth G_Hall_round T.c_Hall.cl T.d_Hall_round.me (hr.mono (by omega)) (dv 8) (da_cons dc_int da_nil)) (dv 9) (nomark _)) (dw_or1 (dt_cmp (op_neA hu) ops_ne (de_mth0 G_Hall_rounds T.c_Hall.cl T.d_Hall_rounds.me (hr.mono (by omega)) (dv 8)) (de_op op_addA ops_add (dv 4) (dv 5)) (nomark _)))))) (ds_one (ds_ret dc_bl)) ds_nil)
    (ds_cons (ds_set (i := 13) nd (de_call G__law_one_of T.d__law_one_of.m (hr.mono (by omega)) (da_cons (dv 0) (da_cons (de_lst (da_cons dc_int (da_cons dc_int (da_cons (de_op op_powW ops_I dc_int dc_int) (da_cons (de_call G__law_draw T.d__law_draw.m (hr.mono (by omega)) (da_cons (dv 0) (da_cons (de_op op_powW ops_I dc_int dc_int) da_nil))) da_nil))))) da_nil))))
    (ds_cons (ds_set (i := 14) nd (de_make T.k_Hall G_Hall___init__ T.m_Hall (hr.mono (by omega)) (da_cons (dv 3) (da_cons (dv 2) da_nil))))
    (ds_cons (ds_forL rfl (de_call G__law_shuffled T.d__law_shuffled.m (hr.mono (by omega)) (da_cons (dv 0) (da_cons (de_cb (call_sortedD rfl) cl_sortD T.sorted bt_sorted (da_cons (dv 2) da_nil)) da_nil))) (dg_name (i := 15) nd) (ds_one (ds_expr (de_mth G_Hall_late T.c_Hall.cl T.d_Hall_late.me (hr.mono (by omega)) (dv 14) (da_cons (dv 15) (da_cons (dv 13) da_nil))))))
    (ds_one (ds_ret (de_cmp (op_eqSame hr.units0) ops_same (de_mth G_Hall_round T.c_Hall.cl T.d_Hall_round.me (hr.mono (by omega)) (dv 14) (da_cons (de_op op_addA ops_add (dv 4) (dv 5)) da_nil)) (de_call G__law_moved T.d__law_moved.m (hr.mono (by omega)) (da_cons (dv 9) (da_cons (de_cb (call_sortedD rfl) cl_sortD T.sorted bt_sorted (da_cons (dv 2) da_nil)) (da_cons (dv 13) da_nil)))) (nomark _))))))))))))))), fun ds C Q h => ?_⟩
  obtain ⟨a, x, N, bk, rk, ks, hh, rfl, hc, hx, hN, ok, pm, h⟩ := h
  have h6 := ok.nl
  have kl := pm.length_eq
  have ndk : ks.Nodup := pm.nodup_iff.mpr ok.nd
  rw [show startD N__law_rounds_right [.cell a, rulesD mg bk, hD ks hh] = [some (.cell a), some (rulesD mg bk), some (hD ks hh), none, none, none, none, none, none, none, none, none, none, none, none, none] from rfl]
  refine seq_g fun NX hNX => ?_
  try walk_at "dl"
  intro q hq
  refine ⟨q, bk, rk, rfl, cset_same, ok, rfl, ?_⟩
  rw [cset_cset, cset_same]
  try walk_at "dl"
  rw [cdel_cset hq]
  refine ⟨a, 31, x, N, rfl, hc, hx, by omega, by omega, by omega, fun r1 y1 h10 h11 hy1 => ?_⟩
  try walk_at "dl"
  refine ⟨a, 31, y1, _, rfl, cset_same, hy1, by omega, by omega, by omega, fun r2 y2 h20 h21 hy2 => ?_⟩
  try walk_at "dl"
  rw [cset_cset]
  refine hNX _ _ ?_
  clear hNX
  obtain ⟨one, rfl⟩ := Int.eq_ofNat_of_zero_le h10
  obtain ⟨two, rfl⟩ := Int.eq_ofNat_of_zero_le h20
  refine seq_g fun NX hNX => ?_
  try walk_at "dl"
  intro p1 hp1
  refine ⟨p1, bk, rk, ks, hh, rfl, cset_same, ok, pm, rfl, ?_⟩
  rw [cset_cset]
  try walk_at "dl"
  intro p2 hp2
  refine ⟨p2, bk, rk, ks, hh, rfl, cset_same, ok, pm, rfl, ?_⟩
  rw [cset_cset]
  try walk_at "dl"
  intro p3 hp3
  refine ⟨p3, bk, rk, ks, hh, rfl, cset_same, ok, pm, rfl, ?_⟩
  rw [cset_cset]
  try walk_at "dl"
  have e21 : p2 ≠ p1 := fun e => by rw [e, cset_same] at hp2; cases hp2
  have e32 : p3 ≠ p2 := fun e => by rw [e, cset_same] at hp3; cases hp3
  rw [cset_ne e32] at hp3
  have e31 : p3 ≠ p1 := fun e => by rw [e, cset_same] at hp3; cases hp3
  rw [cset_ne e31] at hp3
  rw [cset_ne e21] at hp2
  have ea1 : p1 ≠ a := fun e => by rw [e, cset_same] at hp1; cases hp1
  have ea2 : p2 ≠ a := fun e => by rw [e, cset_same] at hp2; cases hp2
  have ea3 : p3 ≠ a := fun e => by rw [e, cset_same] at hp3; cases hp3
  rw [cset_ne ea1] at hp1
  rw [cset_ne ea2] at hp2
  rw [cset_ne ea3] at hp3
  have A : A4 C a p1 p2 p3 := ⟨hp1, hp2, hp3, ea1, ea2, ea3, e21.symm, e31.symm, e32.symm⟩
  refine hNX _ _ ?_
  clear hNX
  rw [show cset (cset (cset (cset C a y2) p1 (hallC mg (stD mg bk ks hh 0) [])) p2 (hallC mg (stD mg bk ks hh 0) [])) p3 (hallC mg (stD mg bk ks hh 0) []) = S4 C a p1 p2 p3 y2 (hallC mg (stD mg bk ks hh 0) []) (hallC mg (stD mg bk ks hh 0) []) (hallC mg (stD mg bk ks hh 0) []) from rfl]
  refine seq_g fun NX hNX => ?_
  try walk_at "dl"
  rw [vw_hall (S4.r1 A)]
  refine ⟨rfl, hg_round, p1, bk, rk, ks, hh, 0, [], one + two, rfl, S4.r1 A, ok, pm, by simp, by omega, fun kt pt => ?_⟩
  refine hNX _ _ ?_
  clear hNX
  rw [S4.u1 A]
  refine seq_g fun NX hNX => ?_
  try walk_at "dl"
  rw [vw_hall (S4.r2 A)]
  refine ⟨rfl, hg_round, p2, bk, rk, ks, hh, 0, [], one, rfl, S4.r2 A, ok, pm, by simp, by omega, fun kf pf => ?_⟩
  refine hNX _ _ ?_
  clear hNX
  rw [S4.u2 A]
  refine seq_g fun NX hNX => ?_
  try walk_at "dl"
  rw [vw_hall (S4.r2 A)]
  refine ⟨rfl, hg_round, p2, bk, rk, kf, itn bk one hh, _, _, two, rfl, S4.r2 A, ok, pf, by simp, by omega, fun kg pg => ?_⟩
  rw [S4.u2 A]
  have s3 := same3 (pg.nodup_iff.mpr ok.nd) (pg.trans pt.symm) (f := itn bk two (itn bk one hh)) (g := itn bk (one + two) hh) (fun n _ => by rw [itn_add])
  refine ⟨s3.1, s3.2.1, s3.2.2, ?_⟩
  try walk_at "dl"
  rw [vw_hall (S4.r2 A)]
  refine ⟨rfl, hg_rounds, p2, bk, kg, _, _, _, rfl, S4.r2 A, ?_⟩
  try walk_at "dl"
  rw [decide_eq_true (show (0 : Int) + (one : Int) + (two : Int) = one + two by omega)]
  try walk_at "dl"
  rw [vw_hall (S4.r2 A)]
  refine ⟨rfl, hg_log, p2, _, _, rfl, S4.r2 A, by simp, ?_⟩
  try walk_at "dl"
  refine hNX _ _ ?_
  clear hNX
  generalize (hallC mg (stD mg bk kt _ _) _) = c1
  generalize (hallC mg (stD mg bk kg _ _) _) = c2
  refine seq_g fun NX hNX => ?_
  try walk_at "dl"
  simp only [vw_hD]
  intro p hp
  rw [cset_same]
  simp only []
  rw [cdel_cset hp]
  refine hNX _ _ ?_
  clear hNX hp
  refine seq_g fun NX hNX => ?_
  try walk_at "dl"
  refine ⟨by omega, by omega, ?_⟩
  refine ⟨RI mg C bk a p1 p2 p3 y2 c1 c2 ks kt kf hh one two, ⟨by omega, ks, ks, [], none, pm, pm, rfl, rfl, rfl⟩, ?_, ?_⟩
  · rintro i d ρ C' e ⟨hi, k3, kw, ps, o, pm3, pmw, hps, rfl, rfl⟩
    have hpl : ps.length = i := by
      have := congrArg List.length hps
      rwa [List.length_map, List.length_replicate] at this
    rw [List.getElem?_map] at e
    cases ex : (List.range ((one : Int) + (two : Int)).toNat)[i]? with
    | none => rw [ex] at e; cases e
    | some j =>
    rw [ex] at e
    obtain ⟨hj1, hj2⟩ := List.getElem?_eq_some_iff.mp ex
    rw [List.getElem_range] at hj2
    rw [List.length_range] at hj1
    subst hj2
    cases e
    have hstep : ∀ kz kv : List Str, kz.Perm bk.names → kv.Perm bk.names → Wk (RI mg C bk a p1 p2 p3 y2 c1 c2 ks kt kf hh one two (i + 1)) [some (.cell a), some (rulesD mg bk), some (hD ks hh), some (bookD mg bk), some (.int one), some (.int two), some (.cell p1), some (.cell p2), some (.cell p3), some (hD kt (itn bk (one + two) hh)), some (hD kf (itn bk one hh)), some (hD kv (itn bk (min (i + 1) 5) hh)), some (.int i), none, none, none] (S4 C a p1 p2 p3 y2 c1 c2 (hallC mg (stD mg bk kz (itn bk (i + 1) hh) ((i : Int) + ((1 : Nat) : Int))) (ps ++ [(roundD ((1 : Nat) : Int), stD mg bk k3 (itn bk i hh) i)]))) := fun kz kv pz pv => .of ⟨by omega, kz, kv, _, _, pz, pv, by rw [List.map_append, hps, List.replicate_succ']; rfl, rfl, rfl⟩
    have r3 : S4 C a p1 p2 p3 y2 c1 c2 (hallC mg (stD mg bk k3 (itn bk i hh) (i : Int)) ps) p3 = some (hallC mg (stD mg bk k3 (itn bk i hh) (i : Int)) ps) := S4.r3
    refine name_g ?_
    simp only [List.set_cons_succ, List.set_cons_zero]
    try walk_at "dl"
    by_cases h5 : i < 5
    · rw [decide_eq_true (show (i : Int) < 5 by omega), show min i 5 = i by omega]
      rw [show min (i + 1) 5 = i + 1 by omega] at hstep
      simp only [if_true]
      refine ⟨bk, rk, kw, itn bk i hh, rfl, ok, pmw, fun kv pv => ?_⟩
      have tail : ∀ kz : List Str, kz.Perm bk.names → (hK kz (itn bk 1 (itn bk i hh))).length = (hK kv (nx bk (itn bk i hh))).length ∧ intVals (hK kz (itn bk 1 (itn bk i hh))) = true ∧ ∀ p ∈ hK kz (itn bk 1 (itn bk i hh)), dval (hK kv (nx bk (itn bk i hh))) p.1 = some p.2 := fun kz pz => same3 (pz.nodup_iff.mpr ok.nd) (pz.trans pv.symm) fun n _ => rfl
      by_cases h1 : i = one
      · subst h1
        rw [decide_eq_true rfl]
        simp only [if_true]
        rw [vw_hall r3]
        refine ⟨rfl, hg_hours, p3, bk, k3, _, _, _, rfl, r3, fun q hq => ?_⟩
        simp only [cset_same, vw_hD, cdel_cset hq]
        have s3 := same3 (pm3.nodup_iff.mpr ok.nd) (pm3.trans pf.symm) (f := itn bk i hh) (g := itn bk i hh) fun _ _ => rfl
        refine ⟨s3.1, s3.2.1, s3.2.2, ?_⟩
        rw [vw_hall r3]
        refine ⟨rfl, hg_round, p3, bk, rk, k3, _, _, ps, 1, rfl, r3, ok, pm3, by omega, by omega, fun kz pz => ?_⟩
        simp only [vw_hD]
        refine ⟨(tail kz pz).1, (tail kz pz).2.1, (tail kz pz).2.2, ?_⟩
        rw [decide_eq_false (show ¬ (4 : Int) < (i : Int) by omega), if_neg (by decide), S4.u3]
        exact hstep kz kv pz pv
      · rw [decide_eq_false (show ¬ ((i : Int) = (one : Int)) by omega)]
        simp only [if_false, Bool.false_eq_true]
        rw [vw_hall r3]
        refine ⟨rfl, hg_round, p3, bk, rk, k3, _, _, ps, 1, rfl, r3, ok, pm3, by omega, by omega, fun kz pz => ?_⟩
        simp only [vw_hD]
        refine ⟨(tail kz pz).1, (tail kz pz).2.1, (tail kz pz).2.2, ?_⟩
        rw [decide_eq_false (show ¬ (4 : Int) < (i : Int) by omega), if_neg (by decide), S4.u3]
        exact hstep kz kv pz pv
    · rw [decide_eq_false (show ¬ (i : Int) < 5 by omega)]
      rw [show min (i + 1) 5 = min i 5 by omega] at hstep
      simp only [if_false, Bool.false_eq_true]
      by_cases h1 : i = one
      · subst h1
        rw [decide_eq_true rfl]
        simp only [if_true]
        rw [vw_hall r3]
        refine ⟨rfl, hg_hours, p3, bk, k3, _, _, _, rfl, r3, fun q hq => ?_⟩
        simp only [cset_same, vw_hD, cdel_cset hq]
        have s3 := same3 (pm3.nodup_iff.mpr ok.nd) (pm3.trans pf.symm) (f := itn bk i hh) (g := itn bk i hh) fun _ _ => rfl
        refine ⟨s3.1, s3.2.1, s3.2.2, ?_⟩
        rw [decide_eq_true (show (4 : Int) < (i : Int) by omega)]
        simp only [if_true]
        rw [vw_hall r3]
        refine ⟨rfl, hg_round, p3, bk, rk, k3, _, _, ps, 1, rfl, r3, ok, pm3, by omega, by omega, fun kz pz => ?_⟩
        rw [S4.u3]
        exact hstep kz kw pz pmw
      · rw [decide_eq_false (show ¬ ((i : Int) = (one : Int)) by omega)]
        simp only [if_false, Bool.false_eq_true]
        rw [decide_eq_true (show (4 : Int) < (i : Int) by omega)]
        simp only [if_true]
        rw [vw_hall r3]
        refine ⟨rfl, hg_round, p3, bk, rk, k3, _, _, ps, 1, rfl, r3, ok, pm3, by omega, by omega, fun kz pz => ?_⟩
        rw [S4.u3]
        exact hstep kz kw pz pmw
  · rintro ρ C' ⟨hi, k3, kw, ps, o, pm3, pmw, hps, rfl, rfl⟩
    rw [List.length_map, List.length_range, show ((one : Int) + (two : Int)).toNat = one + two by omega] at hps ⊢
    have hpl : ps.length = one + two := by
      have := congrArg List.length hps
      rwa [List.length_map, List.length_replicate] at this
    have r3 : S4 C a p1 p2 p3 y2 c1 c2 (hallC mg (stD mg bk k3 (itn bk (one + two) hh) ((one : Int) + (two : Int))) ps) p3 = some (hallC mg (stD mg bk k3 (itn bk (one + two) hh) ((one : Int) + (two : Int))) ps) := S4.r3
    refine hNX _ _ ?_
    clear hNX
    refine seq_g fun NX hNX => ?_
    try walk_at "dl"
    rw [vw_hall r3]
    refine ⟨rfl, hg_log, p3, _, _, rfl, r3, by omega, ?_⟩
    refine ⟨by omega, by omega, by omega, ?_⟩
    rw [flat_rep, show ((one : Int) + (two : Int)).toNat = one + two by omega, hps, vw_l]
    rw [show D.tup [.str "round", .int 1] = roundD 1 from rfl, eq_log]
    refine ⟨(nice_log _).ok (by omega), (nice_log _).ok (by omega), ?_⟩
    try walk_at "dl"
    rw [vw_hall r3]
    refine ⟨rfl, hg_round, p3, bk, rk, k3, _, _, ps, 0, rfl, r3, ok, pm3, by omega, by omega, fun kz pz => ?_⟩
    rw [S4.u3]
    have s3 := same3 (pz.nodup_iff.mpr ok.nd) (pz.trans pt.symm) (f := itn bk 0 (itn bk (one + two) hh)) (g := itn bk (one + two) hh) (fun n _ => rfl)
    simp only [vw_hD]
    refine ⟨s3.1, s3.2.1, s3.2.2, ?_⟩
    rw [vw_hall S4.r3]
    refine ⟨rfl, hg_rounds, p3, bk, kz, _, _, _, rfl, S4.r3, ?_⟩
    try walk_at "dl"
    rw [decide_eq_true (show (one : Int) + (two : Int) + 0 = one + two by omega)]
    try walk_at "dl"
    refine hNX _ _ ?_
    clear hNX
    generalize (hallC mg (stD mg bk kz _ _) _) = c3
    refine seq_g fun NX hNX => ?_
    try walk_at "dl"
    refine ⟨by unfold CPowW; decide +kernel, by unfold CPowW; decide +kernel, a, _, y2, _, rfl, S4.ra A, hy2, by decide, by decide, by omega, fun r3 y3 r30 r31 hy3 => ?_⟩
    rw [S4.ua A]
    refine ⟨a, _, y3, _, rfl, S4.ra A, hy3, by simp, by simp, by omega, fun d y4 hd hy4 => ?_⟩
    have hb : ∃ b : Int, d = .int b ∧ 0 ≤ b ∧ b < 2 ^ 100 := by
      simp only [List.mem_cons, List.not_mem_nil, or_false] at hd
      rcases hd with rfl | rfl | rfl | rfl
      · exact ⟨_, rfl, by decide, by decide⟩
      · exact ⟨_, rfl, by decide, by decide⟩
      · exact ⟨_, rfl, by decide, by decide⟩
      · exact ⟨_, rfl, r30, Int.lt_trans r31 (by decide)⟩
    obtain ⟨b, rfl, hb0, hb1⟩ := hb
    rw [S4.ua A]
    refine hNX _ _ ?_
    clear hNX
    refine seq_g fun NX hNX => ?_
    try walk_at "dl"
    intro p4 hp4
    refine ⟨p4, bk, rk, ks, hh, rfl, cset_same, ok, pm, rfl, ?_⟩
    rw [cset_cset]
    try walk_at "dl"
    have ea4 : p4 ≠ a := fun e => by rw [e, S4.ra A] at hp4; cases hp4
    refine hNX _ _ ?_
    clear hNX
    refine seq_g fun NX hNX => ?_
    try walk_at "dl"
    simp only [vw_hD, txKeys_h, opt_some]
    refine ⟨by omega, fun ss pss => ?_⟩
    have ra4 : ∀ (z c : Cell), cset (S4 C a p1 p2 p3 z c1 c2 c3) p4 c a = some z := fun z c => by rw [cset_ne (Ne.symm ea4), S4.ra A]
    have hp4' : ∀ z, S4 C a p1 p2 p3 z c1 c2 c3 p4 = none := fun z => by rw [← S4.ua A (y := y4), cset_ne ea4, hp4]
    have ua4 : ∀ (z z' c : Cell), cset (cset (S4 C a p1 p2 p3 z c1 c2 c3) p4 c) a z' = cset (S4 C a p1 p2 p3 z' c1 c2 c3) p4 c := fun z z' c => by rw [cset_comm ea4, S4.ua A]
    refine ⟨a, _, y4, _, rfl, ra4 y4 _, hy4, by rw [List.length_map, pss.length_eq]; omega, by omega, fun zs y5 pzs hy5 => ?_⟩
    rw [ua4]
    obtain ⟨zz, rfl, pz⟩ := perm_strs pzs
    rw [List.length_map] at hy5
    try walk_at "dl"
    have pzk : zz.Perm ks := pz.trans pss
    have ndz : zz.Nodup := pzk.nodup_iff.mpr ndk
    have lz : zz.length ≤ 6 := by rw [pzk.length_eq]; omega
    refine ⟨fun i ρ C' => ∃ (g : Str → Int) (ps : List (D × D)) (o1 : Option D), ps.length = i ∧ i ≤ zz.length ∧ (∀ n ∈ ks, g n = hh n + b * (if n ∈ zz.take i then 1 else 0)) ∧ C' = cset (S4 C a p1 p2 p3 y5 c1 c2 c3) p4 (hallC mg (stD mg bk ks g 0) ps) ∧ ρ = [some (.cell a), some (rulesD mg bk), some (hD ks hh), some (bookD mg bk), some (.int one), some (.int two), some (.cell p1), some (.cell p2), some (.cell p3), some (hD kt (itn bk (one + two) hh)), some (hD kf (itn bk one hh)), some (hD kw (itn bk (min (one + two) 5) hh)), o, some (.int b), some (.cell p4), o1], ⟨hh, [], none, rfl, by omega, fun n _ => by simp, rfl, rfl⟩, ?_, ?_⟩
    · rintro i d ρ C' e ⟨g, ps, o1, rfl, hi, hg, rfl, rfl⟩
      rw [List.getElem?_map] at e
      cases ex : zz[ps.length]? with
      | none => rw [ex] at e; cases e
      | some n =>
      rw [ex] at e
      cases e
      have hnz : n ∈ zz := List.mem_of_getElem? ex
      have hnt : n ∉ zz.take ps.length := not_take ndz ex
      have hlt : ps.length < zz.length := (List.getElem?_eq_some_iff.mp ex).1
      have hnk : n ∈ ks := pzk.mem_iff.mp hnz
      refine name_g ?_
      simp only [List.set_cons_succ, List.set_cons_zero]
      try walk_at "dl"
      rw [vw_hall cset_same]
      refine ⟨rfl, hg_late, p4, bk, rk, ks, g, 0, ps, n, b, rfl, cset_same, ok, pm, by omega, pm.mem_iff.mp hnk, hb0, ?_⟩
      rw [cset_cset]
      refine .of ⟨_, _, _, by rw [List.length_append]; rfl, by omega, fun m hm => ?_, rfl, rfl⟩
      rw [take_succ' ex]
      unfold hset
      by_cases e : m = n
      · subst e
        rw [if_pos rfl, hg m hm, if_neg hnt, if_pos (by simp)]
        omega
      · rw [if_neg e, hg m hm]
        simp only [List.mem_append, List.mem_singleton, e, or_false]
    · rintro ρ C' ⟨g, ps, o1, hpl4, hi, hg, rfl, rfl⟩
      rw [List.length_map, List.take_length] at hg
      have hg' : ∀ n ∈ bk.names, g n = hh n + b := fun n hn => by
        have hnk := pm.mem_iff.mpr hn
        rw [hg n hnk, if_pos (pzk.mem_iff.mpr hnk), Int.mul_one]
      refine hNX _ _ ?_
      clear hNX
      try walk_at "dl"
      rw [vw_hall cset_same]
      refine ⟨rfl, hg_round, p4, bk, rk, ks, g, 0, ps, one + two, rfl, cset_same, ok, pm, by omega, by omega, fun kz pz' => ?_⟩
      simp only [vw_hD, txKeys_h, opt_some]
      refine ⟨by omega, fun sy psy => ⟨kt, _, sy, b, rfl, pt.nodup_iff.mpr ok.nd, by rw [pt.length_eq]; omega, hb0, hb1, ?_⟩⟩
      simp only [vw_hD]
      have s3 := same3 (pz'.nodup_iff.mpr ok.nd) (pz'.trans pt.symm) (f := itn bk (one + two) g) (g := mvd (itn bk (one + two) hh) sy b) (fun n hn => by
        have hnb := pz'.mem_iff.mp hn
        rw [itn_congr ok hg' _ n hnb, itn_plus ok b _ n hnb]
        unfold mvd
        rw [if_pos (psy.mem_iff.mpr (pm.mem_iff.mpr hnb)), Int.mul_one])
      refine ⟨s3.1, s3.2.1, s3.2.2, ?_⟩
      rw [cset_cset]
      refine fin_sub (h y5 (hy5.mono (by rw [pss.length_eq]; omega))) ?_
      exact (S4.sub A).cset (sub_none (S4.sub A) (hp4' y5))
end
end K78

set_option Elab.async false
set_option linter.all false
set_option maxRecDepth 100000
set_option maxHeartbeats 1000000
namespace K78
open PySem L2 DL
local macro_rules | `(tactic| walk_at "dl") => `(tactic| simp only [dSeq, dIfS, dOr, dAnd, dNot, dTest, dCB, d1, d2, kIsi, kIsO, kLen, kStr, kIntT, kAbs, kI2, kSum, dCons, dNil, dVar, dC, slot, tyD, opt_some, kitB_ss, kitB_is, kitB_ii, kitB_ib, kitB_si, kitB_tt, kitB_ll, kitB_dd, kitB_tl, kitB_lt, kitB_ts, kitB_bb, kitB_bi,
  vw_non, vw_bl, vw_i, vw_s, vw_l, vw_t, vw_d, vw_n, vw_f, vw_v, asB, dAndV, dOrV, dNotV, dIf, dOp, dI2, dSub, dMul, dFdiv, dMod, dPow, dLt, dLe, dGt, dGe, dAdd, dRet, dRetN, dNext, dLst, dTup, dLstC, dCall, dDrop, dAsg, dName, dPar, dSets, dGTup, dIx, dSl, dPart, dNoP, dInN, dIsN, dEqN, dNeg, dFz, frz1, dFzS, dFld, dSetFld, dMth, dMake, dCallL, dChain, endsOf, dLcL, dLcS, dLcR1, dYes, dBM, mAppend, mInsert, mStarts3, mJoin, tyM, dBits, dForL, dForT, dForR1, int1, dDGet, dDIn, dDPut, dDGet2, kDict0, DL.keyOf, kListOf, kRepr, dEqP, kMax, kMin, isN, fget, fput, dForD, dLcD, dLcP, dLc2, dForE, oneL, dDcL, kLenB, kSortI, kSortD, kDictD, kDictP, kIntB, dSortSet, dLenSet, dAddT, dRep, dInDeep, dSame, dNilC, dLcR1C, dDict0, dPair0, dPairS, dDisp, keysOf', keyD,
  List.set_cons_zero, List.set_cons_succ, List.length_cons, List.length_nil, Bool.not_true, Bool.not_false, List.append_nil,
  if_true, if_false, Bool.false_eq_true, Bool.true_eq_false, ite_true, ite_false, true_and, and_true, reduceIte, List.nil_append, List.cons_append, atI_0, atI_1, atI_2, atI_3, atI_m1, List.getElem?_cons_zero, List.getElem?_cons_succ, List.getLast?_cons_cons, List.getLast?_singleton, Nat.zero_add, Nat.reduceAdd, Int.cast_ofNat_Int, Int.natCast_add, Int.natCast_one, Nat.reduceLeDiff, Int.reduceLT, Int.reduceLE, Int.reduceEq, decide_true, decide_false, Int.reduceAdd, Int.reduceNeg, Int.reduceSub, Int.reduceToNat, eq_self, ne_eq, not_true_eq_false, not_false_eq_true, List.map_cons, List.map_nil, Option.getD_some, Option.getD_none, Option.isSome_some, Option.isSome_none])
open HL
open TL PySem.NumText
section
variable {P : Program} {w : World} {K : PySem.W.Frag} {mg : Str → Option Value} {base : Heap}
def LI (mg : Str → Option Value) (C : Cells) (bk : Bk) (a p1 p2 p3 : Addr) (y : Cell) (ks : List Str) (hh h1 : Str → Int) (name : Str) (b part : Int) (i : Nat) (ρ : DL.Env) (C' : Cells) : Prop :=
  i ≤ 4 ∧ ∃ (k1 k2 k3 : List Str) (r1 r2 : Int) (q1 q2 q3 : List (D × D)) (o1 o2 o3 o4 : Option D), k1.Perm bk.names ∧ k2.Perm bk.names ∧ k3.Perm bk.names ∧ q1.length ≤ i + 2 ∧ q2.length ≤ i + 2 ∧ q3.length ≤ i + 2 ∧ C' = S4 C a p1 p2 p3 y (hallC mg (stD mg bk k1 (itn bk i hh) r1) q1) (hallC mg (stD mg bk k2 (itn bk i h1) r2) q2) (hallC mg (stD mg bk k3 (itn bk i h1) r2) q3) ∧ ρ = [some (.cell a), some (rulesD mg bk), some (hD ks hh), some (.str name), some (.int b), some (.int part), some (.cell p1), some (.cell p2), some (.cell p3), o1, o2, o3, o4, none, none, none]
def sp__law_one_late_right (mg : Str → Option Value) : DSp := fun ds C Q => ∃ (a : Addr) (x : Cell) (N : Nat) (bk : Bk) (rk : Str → Nat) (ks : List Str) (h : Str → Int), ds = [.cell a, rulesD mg bk, hD ks h] ∧ C a = some x ∧ PU N x ∧ N ≤ 40000 ∧ BkOk bk rk ∧ ks.Perm bk.names ∧ ∀ y, PU (N + 100) y → Q (.bl true) (cset C a y)
theorem ok__law_one_late_right (T : Txt K mg) : Fn P w K mg base 14 (fa mg "_law_one_late_right") [] (sp__law_one_late_right mg) := by
  have G__law_draw := ok__law_draw (P := P) (w := w) (base := base) T
  have G__law_one_of := ok__law_one_of (P := P) (w := w) (base := base) T
  have G__law_moved := ok__law_moved (P := P) (w := w) (base := base) T
  have G_Book___init__ := ok_Book_init (P := P) (w := w) (base := base) T
  have G_Hall___init__ := ok_Hall_init (P := P) (w := w) (base := base) T
  have G_Hall_round := ok_Hall_round (P := P) (w := w) (base := base) T
  have G_Hall_round_1 := ok_Hall_round1 (P := P) (w := w) (base := base) T
  have G_Hall_hours := ok_Hall_hours (P := P) (w := w) (base := base) T
  have G_Hall_late := ok_Hall_late (P := P) (w := w) (base := base) T
  refine fn_df T.d__law_one_late_right sc__law_one_late_right (fun ds C Q h => ?_) (fun cdv A outer s H E hr => ?_)
  · (obtain ⟨_, _, _, _, _, _, _, rfl, _⟩ := h; rfl)
  have hu := hr.units
  have hu1 := hu_of hr
  have nd := sc__law_one_late_right.nd
  refine ⟨_, (ds_cons (ds_asg (de_tup (da_cons (de_call G__law_one_of T.d__law_one_of.m (hr.mono (by omega)) (da_cons (dv 0) (da_cons (de_cb (call_sortedD rfl) cl_sortD T.sorted bt_sorted (da_cons (dv 2) da_nil)) da_nil))) (da_cons (de_call G__law_one_of T.d__law_one_of.m (hr.mono (by omega)) (da_cons (dv 0) (da_cons (de_lst (da_cons dc_int (da_cons dc_int (da_cons dc_int (da_cons dc_int (da_cons (de_op op_powW ops_I dc_int dc_int) (da_cons (de_op op_powW ops_I dc_int dc_int) da_nil))))))) da_nil))) da_nil))) (dg_tup rfl (gn_cons (i := 3) nd (gn_cons (i := 4) nd gn_nil))))
    (ds_cons (ds_set (i := 5) nd (de_call G__law_draw T.d__law_draw.m (hr.mono (by omega)) (da_cons (dv 0) (da_cons (de_op op_addA ops_add (dv 4) dc_int) da_nil))))
    (ds_cons (ds_asg (de_tup (da_cons (de_make T.k_Hall G_Hall___init__ T.m_Hall (hr.mono (by omega)) (da_cons (de_fz (de_make T.k_Book G_Book___init__ T.m_Book (hr.mono (by omega)) (da_cons (dv 1) da_nil))) (da_cons (dv 2) da_nil))) (da_cons (de_make T.k_Hall G_Hall___init__ T.m_Hall (hr.mono (by omega)) (da_cons (de_fz (de_make T.k_Book G_Book___init__ T.m_Book (hr.mono (by omega)) (da_cons (dv 1) da_nil))) (da_cons (dv 2) da_nil))) (da_cons (de_make T.k_Hall G_Hall___init__ T.m_Hall (hr.mono (by omega)) (da_cons (de_fz (de_make T.k_Book G_Book___init__ T.m_Book (hr.mono (by omega)) (da_cons (dv 1) da_nil))) (da_cons (dv 2) da_nil))) da_nil)))) (dg_tup rfl (gn_cons (i := 6) nd (gn_cons (i := 7) nd (gn_cons (i := 8) nd gn_nil)))))
    (ds_cons (ds_expr (de_mth G_Hall_late T.c_Hall.cl T.d_Hall_late.me (hr.mono (by omega)) (dv 7) (da_cons (dv 3) (da_cons (dv 4) da_nil))))
    (ds_cons (ds_expr (de_mth G_Hall_late T.c_Hall.cl T.d_Hall_late.me (hr.mono (by omega)) (dv 8) (da_cons (dv 3) (da_cons (dv 5) da_nil))))
    (ds_cons (ds_expr (de_mth G_Hall_late T.c_Hall.cl T.d_Hall_late.me (hr.mono (by omega)) (dv 8) (da_cons (dv 3) (da_cons (de_op op_sub ops_I0 (dv 4) (dv 5)) da_nil))))
    (ds_cons (ds_if (dt_pw (dw_or (dt_cmp (op_neSame hr.units0) ops_same (de_fz (de_mth0 G_Hall_hours T.c_Hall.cl T.d_Hall_hours.me (hr.mono (by omega)) (dv 7))) (de_call G__law_moved T.d__law_moved.m (hr.mono (by omega)) (da_cons (dv 2) (da_cons (de_lst (da_cons (dv 3) da_nil)) (da_cons (dv 4) da_nil)))) (nomark _)) (dw_or1 (dt_cmp (op_neSame hr.units0) ops_same (de_fz (de_mth0 G_Hall_hours T.c_Hall.cl T.d_Hall_hours.me (hr.mono (by omega)) (dv 8))) (de_fz (de_mth0 G_Hall_hours T.c_Hall.cl T.d_Hall_hours.me (hr.mono (by omega)) (dv 7))) (nomark _))))) (ds_one (ds_ret dc_bl)) ds_nil)
    (ds_cons (ds_forR1 rfl T.range (da_cons dc_int da_nil) (dg_name (i := 9) nd) (ds_cons (ds_asg (de_tup (da_cons (de_mth0 G_Hall_round_1 T.c_Hall.cl T.d_Hall_round.me (hr.mono (by omega)) (dv 6)) (da_cons (de_mth0 G_Hall_round_1 T.c_Hall.cl T.d_Hall_round.me (hr.mono (by omega)) (dv 7)) (da_cons (de_mth0 G_Hall_round_1 T.c_Hall.cl T.d_Hall_round.me (hr.mono (by omega)) (dv 8)) da_nil)))) (dg_tup rfl (gn_cons (i := 10) nd (gn_cons (i := 11) nd (gn_cons (i := 12) nd gn_nil)))))
    (ds_cons (ds_if (dt_pw (dw_or (dt_cmp (op_neSame hr.units0) ops_same (dv 11) (dv 12) (nomark _)) (dw_or1 (dt_cmp (op_neNil hr.units0) ops_nil (de_lcD rfl nd (dv 10) (by first | (change blkC N__law_one_late_right (defScope s__law_one_late_right) _ _ = true; decide +kernel) | rfl) (fun _ _ _ _ _ => pg_name (i := 15) nd rfl (Or.inl rfl)) (fun _ _ _ _ _ => (dp_one (dt_cmp op_lt ops_B0 (de_dget hu1 (dv 11) (dv 15)) (de_dget hu1 (dv 10) (dv 15)) (nomark _)))) (fun _ _ _ _ _ => (dv 15))) (de_lst da_nil) (nomark _))))) (ds_one (ds_ret dc_bl)) ds_nil)
    (ds_one (ds_if (dt_cmp (op_neNil hr.units0) ops_nil (de_lcD rfl nd (dv 10) (by first | (change blkC N__law_one_late_right (defScope s__law_one_late_right) _ _ = true; decide +kernel) | rfl) (fun _ _ _ _ _ => pg_name (i := 15) nd rfl (Or.inl rfl)) (fun _ _ _ _ _ => (dp_one (dt_cmp op_gt ops_B0 (de_dget hu1 (dv 11) (dv 15)) (de_op op_addA ops_add (de_dget hu1 (dv 10) (dv 15)) (dv 4)) (nomark _)))) (fun _ _ _ _ _ => (dv 15))) (de_lst da_nil) (nomark _)) (ds_one (ds_ret dc_bl)) ds_nil)))))
    (ds_cons (ds_set (i := 13) nd (de_fz (de_mth0 G_Hall_hours T.c_Hall.cl T.d_Hall_hours.me (hr.mono (by omega)) (dv 6))))
    (ds_cons (ds_setLcL (i := 14) rfl nd (de_cb (call_sortedD rfl) cl_sortD T.sorted bt_sorted (da_cons (dv 2) da_nil)) (by first | (change blkC N__law_one_late_right (defScope s__law_one_late_right) _ _ = true; decide +kernel) | rfl) (fun _ _ _ _ _ => pg_name (i := 15) nd rfl (Or.inl rfl)) (fun _ _ _ _ _ => (dp_one (dt_cmp (op_neA hu) ops_ne (dv 15) (dv 3) (nomark _)))) (fun _ _ _ _ _ => (dv 15)))
    (ds_cons (ds_expr (de_mth G_Hall_late T.c_Hall.cl T.d_Hall_late.me (hr.mono (by omega)) (dv 6) (da_cons (dv 3) (da_cons (dv 4) da_nil))))
    (ds_one (ds_ret (de_cmp (op_eqA hu) ops_eq (de_lcL rfl nd (dv 14) (by first | (change blkC N__law_one_late_right (defScope s__law_one_late_right) _ _ = true; decide +kernel) | rfl) (fun _ _ _ _ _ => pg_name (i := 15) nd rfl (Or.inl rfl)) (fun _ _ _ _ _ => dp_nil) (fun _ _ _ _ _ => (de_dget hu1 (de_fz (de_mth0 G_Hall_hours T.c_Hall.cl T.d_Hall_hours.me (hr.mono (by omega)) (dv 6))) (dv 15)))) (de_lcL rfl nd (dv 14) (by first | (change blkC N__law_one_late_right (defScope s__law_one_late_right) _ _ = true; decide +kernel) | rfl) (fun _ _ _ _ _ => pg_name (i := 15) nd rfl (Or.inl rfl)) (fun _ _ _ _ _ => dp_nil) (fun _ _ _ _ _ => (de_dget hu1 (dv 13) (dv 15)))) (nomark _))))))))))))))), fun ds C Q h => ?_⟩
  obtain ⟨a, x, N, bk, rk, ks, hh, rfl, hc, hx, hN, ok, pm, h⟩ := h
  have h6 := ok.nl
  have kl := pm.length_eq
  have ndk : ks.Nodup := pm.nodup_iff.mpr ok.nd
  rw [show startD N__law_one_late_right [.cell a, rulesD mg bk, hD ks hh] = [some (.cell a), some (rulesD mg bk), some (hD ks hh), none, none, none, none, none, none, none, none, none, none, none, none, none] from rfl]
  refine seq_g fun NX hNX => ?_
  try walk_at "dl"
  simp only [vw_hD, txKeys_h, opt_some]
  refine ⟨by omega, fun ss pss => ?_⟩
  have hne : ss ≠ [] := fun e => by
    have := pss.length_eq
    rw [e, kl] at this
    have h1 := ok.ne
    unfold Bk.names at this
    rw [List.length_map] at this
    simp at this
    omega
  refine ⟨a, _, x, N, rfl, hc, hx, fun e => hne (List.map_eq_nil_iff.mp e), by rw [List.length_map, pss.length_eq]; omega, by omega, fun d y1 hd hy1 => ?_⟩
  obtain ⟨name, hname, rfl⟩ := mem_strs hd
  have hnk : name ∈ ks := pss.mem_iff.mp hname
  have hnb : name ∈ bk.names := pm.mem_iff.mp hnk
  refine ⟨by unfold CPowW; decide +kernel, by unfold CPowW; decide +kernel, a, _, y1, _, rfl, cset_same, hy1, by simp, by simp, by omega, fun d y2 hd hy2 => ?_⟩
  rw [cset_cset]
  have hb : ∃ b : Int, d = .int b ∧ 0 ≤ b ∧ b < 2 ^ 99 := by
    simp only [List.mem_cons, List.not_mem_nil, or_false] at hd
    rcases hd with rfl | rfl | rfl | rfl | rfl | rfl <;> exact ⟨_, rfl, by decide, by decide⟩
  obtain ⟨b, rfl, hb0, hb1⟩ := hb
  refine hNX _ _ ?_
  clear hNX
  refine seq_g fun NX hNX => ?_
  try walk_at "dl"
  refine ⟨a, _, y2, _, rfl, cset_same, hy2, by omega, Int.lt_of_le_of_lt (Int.add_one_le_iff.mpr hb1) (by decide), by omega, fun part y3 hp0 hp1 hy3 => ?_⟩
  rw [cset_cset]
  refine hNX _ _ ?_
  clear hNX
  refine seq_g fun NX hNX => ?_
  try walk_at "dl"
  intro q hq
  refine ⟨q, bk, rk, rfl, cset_same, ok, rfl, ?_⟩
  rw [cset_cset, cset_same]
  simp only []
  rw [cdel_cset hq]
  clear hq q
  intro p1 hp1
  refine ⟨p1, bk, rk, ks, hh, rfl, cset_same, ok, pm, rfl, ?_⟩
  rw [cset_cset]
  try walk_at "dl"
  intro q hq
  refine ⟨q, bk, rk, rfl, cset_same, ok, rfl, ?_⟩
  rw [cset_cset, cset_same]
  simp only []
  rw [cdel_cset hq]
  clear hq q
  intro p2 hp2
  refine ⟨p2, bk, rk, ks, hh, rfl, cset_same, ok, pm, rfl, ?_⟩
  rw [cset_cset]
  try walk_at "dl"
  intro q hq
  refine ⟨q, bk, rk, rfl, cset_same, ok, rfl, ?_⟩
  rw [cset_cset, cset_same]
  simp only []
  rw [cdel_cset hq]
  clear hq q
  intro p3 hp3
  refine ⟨p3, bk, rk, ks, hh, rfl, cset_same, ok, pm, rfl, ?_⟩
  rw [cset_cset]
  try walk_at "dl"
  have e21 : p2 ≠ p1 := fun e => by rw [e, cset_same] at hp2; cases hp2
  have e32 : p3 ≠ p2 := fun e => by rw [e, cset_same] at hp3; cases hp3
  rw [cset_ne e32] at hp3
  have e31 : p3 ≠ p1 := fun e => by rw [e, cset_same] at hp3; cases hp3
  rw [cset_ne e31] at hp3
  rw [cset_ne e21] at hp2
  have ea1 : p1 ≠ a := fun e => by rw [e, cset_same] at hp1; cases hp1
  have ea2 : p2 ≠ a := fun e => by rw [e, cset_same] at hp2; cases hp2
  have ea3 : p3 ≠ a := fun e => by rw [e, cset_same] at hp3; cases hp3
  rw [cset_ne ea1] at hp1
  rw [cset_ne ea2] at hp2
  rw [cset_ne ea3] at hp3
  have A : A4 C a p1 p2 p3 := ⟨hp1, hp2, hp3, ea1, ea2, ea3, e21.symm, e31.symm, e32.symm⟩
  refine hNX _ _ ?_
  clear hNX
  rw [show cset (cset (cset (cset C a y3) p1 (hallC mg (stD mg bk ks hh 0) [])) p2 (hallC mg (stD mg bk ks hh 0) [])) p3 (hallC mg (stD mg bk ks hh 0) []) = S4 C a p1 p2 p3 y3 (hallC mg (stD mg bk ks hh 0) []) (hallC mg (stD mg bk ks hh 0) []) (hallC mg (stD mg bk ks hh 0) []) from rfl]
  refine seq_g fun NX hNX => ?_
  try walk_at "dl"
  rw [vw_hall (S4.r2 A)]
  refine ⟨rfl, hg_late, p2, bk, rk, ks, hh, 0, [], name, b, rfl, S4.r2 A, ok, pm, by simp, hnb, hb0, ?_⟩
  rw [S4.u2 A]
  refine hNX _ _ ?_
  clear hNX
  refine seq_g fun NX hNX => ?_
  try walk_at "dl"
  rw [vw_hall S4.r3]
  refine ⟨rfl, hg_late, p3, bk, rk, ks, hh, 0, [], name, part, rfl, S4.r3, ok, pm, by simp, hnb, by omega, ?_⟩
  rw [S4.u3]
  refine hNX _ _ ?_
  clear hNX
  refine seq_g fun NX hNX => ?_
  try walk_at "dl"
  rw [vw_hall S4.r3]
  refine ⟨rfl, hg_late, p3, bk, rk, ks, _, 0, _, name, b - part, rfl, S4.r3, ok, pm, by simp, hnb, by omega, ?_⟩
  rw [S4.u3]
  rw [show hset (hset hh name (hh name + part)) name (hset hh name (hh name + part) name + (b - part)) = hset hh name (hh name + b) from funext fun m => by
    unfold hset
    by_cases e : m = name
    · simp only [e, if_true]; omega
    · simp only [if_neg e]]
  refine hNX _ _ ?_
  clear hNX
  refine seq_g fun NX hNX => ?_
  try walk_at "dl"
  generalize hps2 : [(lateD name b, stD mg bk ks hh 0)] = ps2
  generalize hps3 : [(lateD name part, stD mg bk ks hh 0), (lateD name (b - part), stD mg bk ks (hset hh name (hh name + part)) 0)] = ps3
  generalize hh1 : hset hh name (hh name + b) = h1
  have lo : ∀ n, hh n ≤ h1 n := fun n => by
    rw [← hh1]; unfold hset; split
    · rename_i e; rw [e]; omega
    · omega
  have hi1 : ∀ n, h1 n ≤ hh n + b := fun n => by
    rw [← hh1]; unfold hset; split
    · rename_i e; rw [e]; omega
    · omega
  have hmv : ∀ n, h1 n = mvd hh [name] b n := fun n => by
    rw [← hh1]; unfold hset mvd
    by_cases e : n = name
    · rw [if_pos e, if_pos (by simp [e]), e]; omega
    · rw [if_neg e, if_neg (by simp [e])]; omega
  rw [vw_hall (S4.r2 A)]
  refine ⟨rfl, hg_hours, p2, bk, ks, h1, 0, ps2, rfl, S4.r2 A, fun q hq => ?_⟩
  simp only [cset_same, vw_hD, cdel_cset hq]
  clear hq q
  refine ⟨ks, hh, [name], b, rfl, ndk, by omega, hb0, Int.lt_trans hb1 (by decide), ?_⟩
  simp only [vw_hD]
  have s3 := same3 ndk (.refl ks) (f := h1) (g := mvd hh [name] b) fun n _ => hmv n
  refine ⟨s3.1, s3.2.1, s3.2.2, ?_⟩
  rw [vw_hall S4.r3]
  refine ⟨rfl, hg_hours, p3, bk, ks, h1, 0, ps3, rfl, S4.r3, fun q hq => ?_⟩
  simp only [cset_same, vw_hD, cdel_cset hq]
  clear hq q
  rw [vw_hall (S4.r2 A)]
  refine ⟨rfl, hg_hours, p2, bk, ks, h1, 0, ps2, rfl, S4.r2 A, fun q hq => ?_⟩
  simp only [cset_same, vw_hD, cdel_cset hq]
  clear hq q
  have s3 := same3 ndk (.refl ks) (f := h1) (g := h1) fun n _ => rfl
  refine ⟨trivial, s3.2.1, s3.2.2, ?_⟩
  refine hNX _ _ ?_
  clear hNX
  refine seq_g fun NX hNX => ?_
  try walk_at "dl"
  have l2 : ps2.length ≤ 1 := by rw [← hps2]; simp
  have l3 : ps3.length ≤ 2 := by rw [← hps3]; simp
  refine ⟨LI mg C bk a p1 p2 p3 y3 ks hh h1 name b part, ⟨by omega, ks, ks, ks, 0, 0, [], _, _, none, none, none, none, pm, pm, pm, by simp, by omega, by omega, rfl, rfl⟩, ?_, ?_⟩
  · rintro i d ρ C' e ⟨hi, k1, k2, k3, rr1, rr2, q1, q2, q3, o1, o2, o3, o4, pk1, pk2, pk3, hq1, hq2, hq3, rfl, rfl⟩
    rw [List.getElem?_map] at e
    cases ex : (List.range 4)[i]? with
    | none => rw [ex] at e; cases e
    | some j =>
    rw [ex] at e
    obtain ⟨hj1, hj2⟩ := List.getElem?_eq_some_iff.mp ex
    rw [List.getElem_range] at hj2
    rw [List.length_range] at hj1
    subst hj2
    cases e
    refine name_g ?_
    simp only [List.set_cons_succ, List.set_cons_zero]
    try walk_at "dl"
    rw [vw_hall (S4.r1 A)]
    refine ⟨rfl, hg_round, p1, bk, rk, k1, _, _, q1, 1, rfl, S4.r1 A, ok, pk1, by omega, by omega, fun z1 pz1 => ?_⟩
    rw [S4.u1 A]
    simp only []
    rw [vw_hall (S4.r2 A)]
    refine ⟨rfl, hg_round, p2, bk, rk, k2, _, _, q2, 1, rfl, S4.r2 A, ok, pk2, by omega, by omega, fun z2 pz2 => ?_⟩
    rw [S4.u2 A]
    simp only []
    rw [vw_hall S4.r3]
    refine ⟨rfl, hg_round, p3, bk, rk, k3, _, _, q3, 1, rfl, S4.r3, ok, pk3, by omega, by omega, fun z3 pz3 => ?_⟩
    rw [S4.u3, ← itn_add, ← itn_add]
    simp only [vw_hD]
    have s3 := same3 (pz2.nodup_iff.mpr ok.nd) (pz2.trans pz3.symm) (f := itn bk (i + 1) h1) (g := itn bk (i + 1) h1) fun n _ => rfl
    refine ⟨s3.1, s3.2.1, s3.2.2, ?_⟩
    have z12 : ∀ n ∈ z1, n ∈ z2 := fun n hn => pz2.mem_iff.mpr (pz1.mem_iff.mp hn)
    have zl : z1.length ≤ 6 := by rw [pz1.length_eq]; omega
    have lo' : ∀ n ∈ z1, itn bk (i + 1) hh n ≤ itn bk (i + 1) h1 n := fun n hn => itn_mono ok (fun m _ => lo m) _ n (pz1.mem_iff.mp hn)
    have hi' : ∀ n ∈ z1, itn bk (i + 1) h1 n ≤ itn bk (i + 1) hh n + b := fun n hn => by
      rw [← itn_plus ok b _ n (pz1.mem_iff.mp hn)]
      exact itn_mono ok (fun m _ => hi1 m) _ n (pz1.mem_iff.mp hn)
    simp only [hD, keys_h]
    refine compN_by D.str (fun n => decide (itn bk (i + 1) h1 n < itn bk (i + 1) hh n)) D.str (by omega) (fun n P' hn q => ?_) (fun n P' hn _ q => ?_) ?_
    · try walk_at "dl"
      rw [dval_h (z12 n hn), opt_some]
      try walk_at "dl"
      rw [dval_h hn, opt_some]
      exact q
    · exact q
    rw [show (z1.filter fun n => decide (itn bk (i + 1) h1 n < itn bk (i + 1) hh n)) = [] from List.filter_eq_nil_iff.mpr fun n hn hd => by
      have := of_decide_eq_true hd
      have := lo' n hn
      omega]
    try walk_at "dl"
    rw [List.isEmpty_nil]
    simp only [Bool.not_true, Bool.false_eq_true, if_false]
    refine compN_by D.str (fun n => decide (itn bk (i + 1) hh n + b < itn bk (i + 1) h1 n)) D.str (by omega) (fun n P' hn q => ?_) (fun n P' hn _ q => ?_) ?_
    · try walk_at "dl"
      rw [dval_h (z12 n hn), opt_some]
      try walk_at "dl"
      rw [dval_h hn, opt_some]
      try walk_at "dl"
      exact q
    · exact q
    rw [show (z1.filter fun n => decide (itn bk (i + 1) hh n + b < itn bk (i + 1) h1 n)) = [] from List.filter_eq_nil_iff.mpr fun n hn hd => by
      have := of_decide_eq_true hd
      have := hi' n hn
      omega]
    try walk_at "dl"
    rw [List.isEmpty_nil]
    simp only [Bool.not_true, Bool.false_eq_true, if_false]
    exact .of ⟨by omega, z1, z2, z3, _, _, _, _, _, _, _, _, _, pz1, pz2, pz3, by simp; omega, by simp; omega, by simp; omega, rfl, rfl⟩
  · rintro ρ C' ⟨hi, k1, k2, k3, rr1, rr2, q1, q2, q3, o1, o2, o3, o4, pk1, pk2, pk3, hq1, hq2, hq3, rfl, rfl⟩
    rw [show (List.map (fun (i : Nat) => D.int (i : Int)) (List.range 4)).length = 4 from rfl] at hq1 hq2 hq3 ⊢
    refine hNX _ _ ?_
    clear hNX
    generalize (hallC mg (stD mg bk k2 _ _) q2) = c2
    generalize (hallC mg (stD mg bk k3 _ _) q3) = c3
    generalize itn bk 4 hh = h4
    refine seq_g fun NX hNX => ?_
    try walk_at "dl"
    rw [vw_hall (S4.r1 A)]
    refine ⟨rfl, hg_hours, p1, bk, k1, h4, _, q1, rfl, S4.r1 A, fun q hq => ?_⟩
    simp only [cset_same, cdel_cset hq]
    clear hq q
    refine hNX _ _ ?_
    clear hNX
    refine seq_g fun NX hNX => ?_
    try walk_at "dl"
    simp only [vw_hD, txKeys_h, opt_some]
    refine ⟨by omega, fun sy psy => compN_by D.str (fun n => !decide (n = name)) D.str (by rw [psy.length_eq]; omega) (fun n P' hn q => ?_) (fun n P' hn _ q => ?_) ?_⟩
    · try walk_at "dl"
      exact q
    · exact q
    refine hNX _ _ ?_
    clear hNX
    refine seq_g fun NX hNX => ?_
    try walk_at "dl"
    rw [vw_hall (S4.r1 A)]
    refine ⟨rfl, hg_late, p1, bk, rk, k1, h4, _, q1, name, b, rfl, S4.r1 A, ok, pk1, by omega, hnb, hb0, ?_⟩
    rw [S4.u1 A]
    refine hNX _ _ ?_
    clear hNX
    have hk1 : ∀ n ∈ sy.filter fun n => !decide (n = name), n ∈ k1 ∧ n ≠ name := fun n hn => by
      obtain ⟨h1, h2⟩ := List.mem_filter.mp hn
      exact ⟨pk1.mem_iff.mpr (pm.mem_iff.mp (psy.mem_iff.mp h1)), by simpa using h2⟩
    have hfl : (sy.filter fun n => !decide (n = name)).length ≤ 6 := Nat.le_trans (List.length_filter_le ..) (by rw [psy.length_eq]; omega)
    generalize (sy.filter fun n => !decide (n = name)) = fs at hk1 hfl ⊢
    try walk_at "dl"
    refine compN_by D.str (fun _ => true) (fun n => .int (h4 n)) (by omega) (fun n P' hn q => ?_) (fun n P' hn _ q => ?_) ?_
    · try walk_at "dl"
      exact q
    · try walk_at "dl"
      rw [vw_hall (S4.r1 A)]
      refine ⟨rfl, hg_hours, p1, bk, k1, _, _, _, rfl, S4.r1 A, fun q' hq => ?_⟩
      simp only [cset_same, cdel_cset hq]
      rw [dval_h (hk1 n hn).1, opt_some]
      rw [show hset h4 name (h4 name + b) n = h4 n from if_neg (hk1 n hn).2]
      exact q
    try walk_at "dl"
    refine compN_by D.str (fun _ => true) (fun n => .int (h4 n)) (by omega) (fun n P' hn q => ?_) (fun n P' hn _ q => ?_) ?_
    · try walk_at "dl"
      exact q
    · try walk_at "dl"
      rw [dval_h (hk1 n hn).1, opt_some]
      exact q
    rw [filt_all fun _ _ => rfl]
    have nl : Nice (.lst (fs.map fun n => D.int (h4 n))) 1 := Nice.lst fun d hd => by
      obtain ⟨n, _, rfl⟩ := List.mem_map.mp hd
      exact nice_int
    refine ⟨nl.ok (by omega), nl.ok (by omega), ?_⟩
    simp only [vw_l]
    rw [show eqD (.lst (fs.map fun n => D.int (h4 n))) (.lst (fs.map fun n => D.int (h4 n))) = true from PySem.SeqAt.eqv_refl _ nl.lay]
    exact fin_sub (h y3 (hy3.mono (by omega))) (S4.sub A)
end
end K78

set_option Elab.async false
set_option linter.all false
set_option maxRecDepth 100000
set_option maxHeartbeats 1000000
namespace K78
open PySem L2 DL
local macro_rules | `(tactic| walk_at "dl") => `(tactic| simp only [dSeq, dIfS, dOr, dAnd, dNot, dTest, dCB, d1, d2, kIsi, kIsO, kLen, kStr, kIntT, kAbs, kI2, kSum, dCons, dNil, dVar, dC, slot, tyD, opt_some, kitB_ss, kitB_is, kitB_ii, kitB_ib, kitB_si, kitB_tt, kitB_ll, kitB_dd, kitB_tl, kitB_lt, kitB_ts, kitB_bb, kitB_bi,
  vw_non, vw_bl, vw_i, vw_s, vw_l, vw_t, vw_d, vw_n, vw_f, vw_v, asB, dAndV, dOrV, dNotV, dIf, dOp, dI2, dSub, dMul, dFdiv, dMod, dPow, dLt, dLe, dGt, dGe, dAdd, dRet, dRetN, dNext, dLst, dTup, dLstC, dCall, dDrop, dAsg, dName, dPar, dSets, dGTup, dIx, dSl, dPart, dNoP, dInN, dIsN, dEqN, dNeg, dFz, frz1, dFzS, dFld, dSetFld, dMth, dMake, dCallL, dChain, endsOf, dLcL, dLcS, dLcR1, dYes, dBM, mAppend, mInsert, mStarts3, mJoin, tyM, dBits, dForL, dForT, dForR1, int1, dDGet, dDIn, dDPut, dDGet2, kDict0, DL.keyOf, kListOf, kRepr, dEqP, kMax, kMin, isN, fget, fput, dForD, dLcD, dLcP, dLc2, dForE, oneL, dDcL, kLenB, kSortI, kSortD, kDictD, kDictP, kIntB, dSortSet, dLenSet, dAddT, dRep, dInDeep, dSame, dNilC, dLcR1C, dDict0, dPair0, dPairS, dDisp, keysOf', keyD,
  List.set_cons_zero, List.set_cons_succ, List.length_cons, List.length_nil, Bool.not_true, Bool.not_false, List.append_nil,
  if_true, if_false, Bool.false_eq_true, Bool.true_eq_false, ite_true, ite_false, true_and, and_true, reduceIte, List.nil_append, List.cons_append, atI_0, atI_1, atI_2, atI_3, atI_m1, List.getElem?_cons_zero, List.getElem?_cons_succ, List.getLast?_cons_cons, List.getLast?_singleton, Nat.zero_add, Nat.reduceAdd, Int.cast_ofNat_Int, Int.natCast_add, Int.natCast_one, Nat.reduceLeDiff, Int.reduceLT, Int.reduceLE, Int.reduceEq, decide_true, decide_false, Int.reduceAdd, Int.reduceNeg, Int.reduceSub, Int.reduceToNat, eq_self, ne_eq, not_true_eq_false, not_false_eq_true, List.map_cons, List.map_nil, Option.getD_some, Option.getD_none, Option.isSome_some, Option.isSome_none])
open HL
open TL PySem.NumText
section
variable {P : Program} {w : World} {K : PySem.W.Frag} {mg : Str → Option Value} {base : Heap}
/-! ### the law's own book -/
def bk0 : Bk := [("a", .pt false "b" 0), ("b", .pt true "a" 1)]
def rk0 : Str → Nat := fun n => if n = "a" then 0 else 1
theorem nm_a : nmOk "a" := ⟨by unfold letters; decide +kernel, by decide +kernel, by decide +kernel⟩
theorem nm_b : nmOk "b" := ⟨by unfold letters; decide +kernel, by decide +kernel, by decide +kernel⟩
theorem ok0 : BkOk bk0 rk0 where
  nd := by decide +kernel
  ne := by decide
  le := by decide
  tm p hp := by
    simp only [bk0, List.mem_cons, List.not_mem_nil, or_false] at hp
    rcases hp with rfl | rfl
    · exact ⟨nm_a, by simpa [WF] using nm_b, by simp [hle]⟩
    · exact ⟨nm_b, by simpa [WF] using nm_a, by simp [hle]⟩
  inn p hp b n hn := by
    simp only [bk0, List.mem_cons, List.not_mem_nil, or_false] at hp
    rcases hp with rfl | rfl <;> cases b <;> simp [nms, leaves] at hn <;> subst hn <;> decide +kernel
  dn p hp n hn := by
    simp only [bk0, List.mem_cons, List.not_mem_nil, or_false] at hp
    rcases hp with rfl | rfl <;> simp [nms, leaves] at hn <;> subst hn <;> decide +kernel
  top p hp := by
    simp only [bk0, List.mem_cons, List.not_mem_nil, or_false] at hp
    rcases hp with rfl | rfl <;> decide +kernel
  lv p hp := by
    simp only [bk0, List.mem_cons, List.not_mem_nil, or_false] at hp
    rcases hp with rfl | rfl <;> simp [leaves]
theorem nx_a (h : Str → Int) : nx bk0 h "a" = h "b" := by
  rw [nx_eq ok0 h (t := .pt false "b" 0) (by simp [bk0])]
  simp [ev]
theorem nx_b (h : Str → Int) : nx bk0 h "b" = h "b" + 1 := by
  rw [nx_eq ok0 h (t := .pt true "a" 1) (by simp [bk0])]
  simp [ev, nx_a]
theorem two_names {n : Str} (h : n ∈ bk0.names) : n = "a" ∨ n = "b" := by
  simpa [bk0, Bk.names] using h
def two (x y : Int) : Str → Int := fun n => if n = "a" then x else y
theorem two_a {x y : Int} : two x y "a" = x := if_pos rfl
theorem two_b {x y : Int} : two x y "b" = y := if_neg (by decide +kernel)
theorem mer (x y : Int) : mergeD [] [((Sum.inr "a" : Key), D.int x), (Sum.inr "b", D.int y)] = hK ["a", "b"] (two x y) := by
  have nd2 : ([Sum.inr "a", Sum.inr "b"] : List Key).Nodup := by decide +kernel
  refine (mergeD_nd ?_).trans ?_
  · exact nd2
  simp only [hK, List.map_cons, List.map_nil, two_a, two_b]
/-! the law -/
def sp_law : DSp := fun ds C Q => ∃ xs : List Int, ds = [.fro (xs.map D.int)] ∧ xs.length ≤ 1000000 ∧ Q (.bl true) C
theorem body_law (T : Txt K mg) (cdv : Value) (A : Around) (outer : List PySem.Env) (s : Shared) (H : Hp) (E : XK) (hr : Room 15 (A.deeper (PyProof.Rows.envOfC "law" (defScope s_law) s.heap.objs.size (fa mg "law") cdv)))
    (hgd : (A.deeper (PyProof.Rows.envOfC "law" (defScope s_law) s.heap.objs.size (fa mg "law") cdv)).guards = some []) :
    ∃ t, DSs (cxOf CX0 P w K mg base N_law "law" (defScope s_law) (fa mg "law") cdv A outer s H E).nox (defBody s_law) t ∧ ∀ ds C Q, sp_law ds C Q → t (endsOf Q) (startD N_law ds) C := by
  have G__law_purses := ok__law_purses (P := P) (w := w) (base := base) T
  have G__law_draw := ok__law_draw (P := P) (w := w) (base := base) T
  have G__law_hall_world := ok__law_hall_world (P := P) (w := w) (base := base) T
  have G__law_rounds_right := ok__law_rounds_right (P := P) (w := w) (base := base) T
  have G__law_one_late_right := ok__law_one_late_right (P := P) (w := w) (base := base) T
  have G_Rule___init__ := ok_init (P := P) (w := w) (base := base) T
  have G_Book___init__ := ok_Book_init (P := P) (w := w) (base := base) T
  have G_Hall___init__ := ok_Hall_init (P := P) (w := w) (base := base) T
  have G_Hall_round := ok_Hall_round (P := P) (w := w) (base := base) T
  have G_Hall_round_1 := ok_Hall_round1 (P := P) (w := w) (base := base) T
  have G_Hall_rounds := ok_Hall_rounds (P := P) (w := w) (base := base) T
  have G_Hall_hours := ok_Hall_hours (P := P) (w := w) (base := base) T
  have G_Hall_late := ok_Hall_late (P := P) (w := w) (base := base) T
  have hu := hr.units
  have hu1 := hu_of hr
  have nd := sc_law.nd
  refine ⟨_, (ds_cons (ds_forL rfl (de_call G__law_purses T.d__law_purses.m (hr.mono (by omega)) (da_cons (dv 0) (da_cons dc_int da_nil))) (dg_name (i := 1) nd) (ds_cons (ds_asg (de_call G__law_hall_world T.d__law_hall_world.m (hr.mono (by omega)) (da_cons (dv 1) (da_cons (de_op op_addA ops_add dc_int (de_call G__law_draw T.d__law_draw.m (hr.mono (by omega)) (da_cons (dv 1) (da_cons dc_int da_nil)))) (da_cons (de_cmp op_gt ops_B0 (de_call G__law_draw T.d__law_draw.m (hr.mono (by omega)) (da_cons (dv 1) (da_cons dc_int da_nil))) dc_int (nomark _)) da_nil)))) (dg_tup rfl (gn_cons (i := 2) nd (gn_cons (i := 3) nd gn_nil))))
    (ds_one (ds_if (dt_pw (dw_or (dt_not (dt_val (de_call G__law_rounds_right T.d__law_rounds_right.m (hr.mono (by omega)) (da_cons (dv 1) (da_cons (dv 2) (da_cons (dv 3) da_nil)))))) (dw_or1 (dt_not (dt_val (de_call G__law_one_late_right T.d__law_one_late_right.m (hr.mono (by omega)) (da_cons (dv 1) (da_cons (dv 2) (da_cons (dv 3) da_nil))))))))) (ds_one (ds_ret dc_bl)) ds_nil))))
    (ds_cons (ds_set (i := 4) nd (de_lst (da_cons (de_tup (da_cons dc_str (da_cons (de_fz (de_make T.k_Rule G_Rule___init__ T.m_Rule (hr.mono (by omega)) (da_cons (de_tup (da_cons dc_str (da_cons dc_str (da_cons dc_int da_nil)))) da_nil))) da_nil))) (da_cons (de_tup (da_cons dc_str (da_cons (de_fz (de_make T.k_Rule G_Rule___init__ T.m_Rule (hr.mono (by omega)) (da_cons (de_tup (da_cons dc_str (da_cons dc_str (da_cons dc_int da_nil)))) da_nil))) da_nil))) da_nil))))
    (ds_cons (ds_set (i := 5) nd (de_make T.k_Hall G_Hall___init__ T.m_Hall (hr.mono (by omega)) (da_cons (de_fz (de_make T.k_Book G_Book___init__ T.m_Book (hr.mono (by omega)) (da_cons (dv 4) da_nil))) (da_cons (de_disp (dpr_cons dc_str dc_int (dpr_cons dc_str dc_int dpr_nil))) da_nil))))
    (ds_cons (ds_if (dt_pw (dw_or (dt_cmp (op_neSame hr.units0) ops_same (de_mth0 G_Hall_round_1 T.c_Hall.cl T.d_Hall_round.me (hr.mono (by omega)) (dv 5)) (de_disp (dpr_cons dc_str dc_int (dpr_cons dc_str dc_int dpr_nil))) (nomark _)) (dw_or (dt_cmp op_notN ops_notN (de_mth G_Hall_late T.c_Hall.cl T.d_Hall_late.me (hr.mono (by omega)) (dv 5) (da_cons dc_str (da_cons dc_int da_nil))) dc_non (nomark _)) (dw_or1 (dt_cmp (op_neSame hr.units0) ops_same (de_fz (de_mth0 G_Hall_hours T.c_Hall.cl T.d_Hall_hours.me (hr.mono (by omega)) (dv 5))) (de_disp (dpr_cons dc_str dc_int (dpr_cons dc_str dc_int dpr_nil))) (nomark _)))))) (ds_one (ds_ret dc_bl)) ds_nil)
    (ds_one (ds_ret (de_and (de_cmp (op_eqSame hr.units0) ops_same (de_mth G_Hall_round T.c_Hall.cl T.d_Hall_round.me (hr.mono (by omega)) (dv 5) (da_cons dc_int da_nil)) (de_disp (dpr_cons dc_str dc_int (dpr_cons dc_str dc_int dpr_nil))) (nomark _)) (de_one (de_cmp (op_eqA hu) ops_eq (de_mth0 G_Hall_rounds T.c_Hall.cl T.d_Hall_rounds.me (hr.mono (by omega)) (dv 5)) dc_int (nomark _)))))))))), fun ds C Q h => ?_⟩
  obtain ⟨xs, rfl, hl, h⟩ := h
  rw [show startD N_law [.fro (xs.map D.int)] = [some (.fro (xs.map D.int)), none, none, none, none, none] from rfl]
  refine seq_g fun NX hNX => ?_
  try walk_at "dl"
  refine ⟨xs, rfl, hl, fun as C1 nod has sub => ?_⟩
  try walk_at "dl"
  refine ⟨fun i ρ C' => (∃ o1 o2 o3 o4 o5, ρ = [some (.fro (xs.map D.int)), o1, o2, o3, o4, o5]) ∧ (∀ j a, i ≤ j → as[j]? = some a → ∃ y, C' a = some y ∧ PU 0 y) ∧ Sub C C',
    ⟨⟨_, _, _, _, _, rfl⟩, fun j a _ e => (has a (List.mem_of_getElem? e)).2, sub⟩, ?_, ?_⟩
  · rintro i d ρ C0 e ⟨⟨o1, o2, o3, o4, o5, rfl⟩, hpu, sub0⟩
    rw [List.getElem?_map] at e
    obtain ⟨a, ea, rfl⟩ : ∃ a, as[i]? = some a ∧ d = .cell a := by
      cases e2 : as[i]? with
      | none => rw [e2] at e; cases e
      | some a => rw [e2] at e; cases e; exact ⟨a, rfl, rfl⟩
    obtain ⟨y0, hy0, py0⟩ := hpu i a (Nat.le_refl i) ea
    have hCa := (has a (List.mem_of_getElem? ea)).1
    -- the turn's end: what it leaves is forgotten
    have done : ∀ ρ' C', (∃ o1 o2 o3 o4 o5, ρ' = [some (.fro (xs.map D.int)), o1, o2, o3, o4, o5]) → Sub (cdel C0 a) C' → Wk (fun ρ C' => (∃ o1 o2 o3 o4 o5, ρ = [some (.fro (xs.map D.int)), o1, o2, o3, o4, o5]) ∧ (∀ j a, i + 1 ≤ j → as[j]? = some a → ∃ y, C' a = some y ∧ PU 0 y) ∧ Sub C C') ρ' C' := by
      intro ρ' C' hρ hs
      refine ⟨ρ', cdel C0 a, Fg.refl _, Gh.sub hs, hρ, fun j b hj eb => ?_, fun b c e => ?_⟩
      · have hne : b ≠ a := fun e => by
          subst e
          have := (List.getElem?_inj (List.getElem?_eq_some_iff.mp ea).1 nod).mp (ea.trans eb.symm)
          omega
        obtain ⟨y, h1, h2⟩ := hpu j b (by omega) eb
        exact ⟨y, by unfold cdel; rw [if_neg hne]; exact h1, h2⟩
      · unfold cdel
        rw [if_neg (fun z => by rw [z, hCa] at e; cases e)]
        exact sub0 b c e
    refine name_g ?_
    simp only [List.set_cons_succ, List.set_cons_zero]
    try walk_at "dl"
    refine ⟨a, 3, y0, 0, rfl, hy0, py0, by omega, by omega, by omega, fun r1 y1 h10 h11 hy1 => ?_⟩
    try walk_at "dl"
    refine ⟨a, 3, y1, _, rfl, cset_same, hy1, by omega, by omega, by omega, fun r2 y2 h20 h21 hy2 => ?_⟩
    obtain ⟨m, rfl⟩ := Int.eq_ofNat_of_zero_le h10
    try walk_at "dl"
    rw [cset_cset]
    refine ⟨a, y2, _, 2 + m, _, by rw [Int.natCast_add]; rfl, cset_same, hy2, by omega, by omega, by omega, fun bk rk ks hh y3 ok pm hy3 => ?_⟩
    rw [cset_cset]
    try walk_at "dl"
    refine ⟨a, y3, _, bk, rk, ks, hh, rfl, cset_same, hy3, by omega, ok, pm, fun y4 hy4 => ?_⟩
    rw [cset_cset]
    try walk_at "dl"
    refine ⟨a, y4, _, bk, rk, ks, hh, rfl, cset_same, hy4, by omega, ok, pm, fun y5 hy5 => ?_⟩
    rw [cset_cset]
    try walk_at "dl"
    refine done _ _ ⟨_, _, _, _, _, rfl⟩ fun b c e => ?_
    unfold cdel at e
    split at e
    · cases e
    · rename_i hb
      rw [cset_ne hb]
      exact e
  · rintro ρ C' ⟨⟨o1, o2, o3, o4, o5, rfl⟩, _, sub2⟩
    refine hNX _ _ ?_
    clear hNX
    refine seq_g fun NX hNX => ?_
    try walk_at "dl"
    intro q hq
    refine ⟨q, .pt false "b" 0, rfl, cset_same, by simpa [WF] using nm_b, by simp [hle], ?_⟩
    rw [cset_cset]
    refine ⟨rfl, ?_⟩
    rw [cset_same]
    simp only []
    rw [cdel_cset hq]
    clear hq q
    intro q hq
    refine ⟨q, .pt true "a" 1, rfl, cset_same, by simpa [WF] using nm_a, by simp [hle], ?_⟩
    rw [cset_cset]
    refine ⟨rfl, ?_⟩
    rw [cset_same]
    simp only []
    rw [cdel_cset hq]
    clear hq q
    change NX [some (.fro (xs.map D.int)), o1, o2, o3, some (rulesD mg bk0), o5] C'
    refine hNX _ _ ?_
    clear hNX
    refine seq_g fun NX hNX => ?_
    try walk_at "dl"
    intro q hq
    refine ⟨q, bk0, rk0, rfl, cset_same, ok0, rfl, ?_⟩
    rw [cset_cset, cset_same]
    simp only []
    rw [cdel_cset hq]
    clear hq q
    try walk_at "dl"
    intro p hp
    rw [mer 0 0]
    refine ⟨p, bk0, rk0, ["a", "b"], two 0 0, rfl, cset_same, ok0, .refl _, rfl, ?_⟩
    rw [cset_cset]
    refine hNX _ _ ?_
    clear hNX
    refine seq_g fun NX hNX => ?_
    try walk_at "dl"
    rw [vw_hall cset_same]
    refine ⟨rfl, hg_round, p, bk0, rk0, ["a", "b"], two 0 0, 0, [], 1, rfl, cset_same, ok0, .refl _, by simp, by omega, fun k1 pk1 => ?_⟩
    rw [cset_cset, mer 0 1, mer 2 1]
    have e1 : ∀ n ∈ bk0.names, itn bk0 1 (two 0 0) n = two 0 1 n := fun n hn => by
      rcases two_names hn with rfl | rfl
      · show nx bk0 (two 0 0) "a" = _
        rw [nx_a, two_a, two_b]
      · show nx bk0 (two 0 0) "b" = _
        rw [nx_b, two_b, two_b]; rfl
    have s3 := same3 (pk1.nodup_iff.mpr ok0.nd) (ls := ["a", "b"]) pk1 (f := itn bk0 1 (two 0 0)) (g := two 0 1) fun n hn => e1 n (pk1.mem_iff.mp hn)
    simp only [vw_hD]
    refine ⟨s3.1, s3.2.1, s3.2.2, ?_⟩
    rw [vw_hall cset_same]
    have na : ("a" : Str) ∈ bk0.names := by decide +kernel
    refine ⟨rfl, hg_late, p, bk0, rk0, k1, _, _, _, "a", 2, rfl, cset_same, ok0, pk1, by simp, na, by omega, ?_⟩
    rw [cset_cset]
    try walk_at "dl"
    rw [vw_hall cset_same]
    refine ⟨rfl, hg_hours, p, bk0, k1, _, _, _, rfl, cset_same, fun q hq => ?_⟩
    have e2 : ∀ n ∈ bk0.names, hset (itn bk0 1 (two 0 0)) "a" (itn bk0 1 (two 0 0) "a" + 2) n = two 2 1 n := fun n hn => by
      unfold hset
      rcases two_names hn with rfl | rfl
      · rw [if_pos rfl, e1 _ na, two_a, two_a]; rfl
      · rw [if_neg (by decide +kernel), e1 _ hn, two_b, two_b]
    have s4 := same3 (pk1.nodup_iff.mpr ok0.nd) (ls := ["a", "b"]) pk1 (g := two 2 1) fun n hn => e2 n (pk1.mem_iff.mp hn)
    simp only [cset_same, cdel_cset hq]
    refine ⟨s4.1, s4.2.1, s4.2.2, ?_⟩
    clear hq q
    refine hNX _ _ ?_
    clear hNX
    try walk_at "dl"
    rw [vw_hall cset_same, mer 2 3]
    refine ⟨rfl, hg_round, p, bk0, rk0, k1, _, _, _, 2, rfl, cset_same, ok0, pk1, by simp, by omega, fun k2 pk2 => ?_⟩
    rw [cset_cset]
    have e3 : ∀ n ∈ bk0.names, itn bk0 2 (hset (itn bk0 1 (two 0 0)) "a" (itn bk0 1 (two 0 0) "a" + 2)) n = two 2 3 n := fun n hn => by
      rw [itn_congr ok0 e2 2 n hn]
      rcases two_names hn with rfl | rfl
      · show nx bk0 (nx bk0 (two 2 1)) "a" = _
        rw [nx_a, nx_b, two_a, two_b]; rfl
      · show nx bk0 (nx bk0 (two 2 1)) "b" = _
        rw [nx_b, nx_b, two_b, two_b]; rfl
    have s5 := same3 (pk2.nodup_iff.mpr ok0.nd) (ls := ["a", "b"]) pk2 (g := two 2 3) fun n hn => e3 n (pk2.mem_iff.mp hn)
    simp only [vw_hD]
    refine ⟨s5.1, s5.2.1, s5.2.2, ?_⟩
    rw [vw_hall cset_same]
    refine ⟨rfl, hg_rounds, p, bk0, k2, _, _, _, rfl, cset_same, ?_⟩
    have hpC : C p = none := sub_none sub2 hp
    exact fin_sub h (sub2.cset hpC)
end
end K78

set_option Elab.async false
set_option linter.all false
set_option maxRecDepth 100000
set_option maxHeartbeats 1000000
namespace K78
open PySem L2 DL
local macro_rules | `(tactic| walk_at "dl") => `(tactic| simp only [dSeq, dIfS, dOr, dAnd, dNot, dTest, dCB, d1, d2, kIsi, kIsO, kLen, kStr, kIntT, kAbs, kI2, kSum, dCons, dNil, dVar, dC, slot, tyD, opt_some, kitB_ss, kitB_is, kitB_ii, kitB_ib, kitB_si, kitB_tt, kitB_ll, kitB_dd, kitB_tl, kitB_lt, kitB_ts, kitB_bb, kitB_bi,
  vw_non, vw_bl, vw_i, vw_s, vw_l, vw_t, vw_d, vw_n, vw_f, vw_v, asB, dAndV, dOrV, dNotV, dIf, dOp, dI2, dSub, dMul, dFdiv, dMod, dPow, dLt, dLe, dGt, dGe, dAdd, dRet, dRetN, dNext, dLst, dTup, dLstC, dCall, dDrop, dAsg, dName, dPar, dSets, dGTup, dIx, dSl, dPart, dNoP, dInN, dIsN, dEqN, dNeg, dFz, frz1, dFzS, dFld, dSetFld, dMth, dMake, dCallL, dChain, endsOf, dLcL, dLcS, dLcR1, dYes, dBM, mAppend, mInsert, mStarts3, mJoin, tyM, dBits, dForL, dForT, dForR1, int1, dDGet, dDIn, dDPut, dDGet2, kDict0, DL.keyOf, kListOf, kRepr, dEqP, kMax, kMin, isN, fget, fput, dForD, dLcD, dLcP, dLc2, dForE, oneL, dDcL, kLenB, kSortI, kSortD, kDictD, kDictP, kIntB, dSortSet, dLenSet, dAddT, dRep, dInDeep, dSame, dNilC, dLcR1C, dDict0, dPair0, dPairS, dDisp, keysOf', keyD,
  List.set_cons_zero, List.set_cons_succ, List.length_cons, List.length_nil, Bool.not_true, Bool.not_false, List.append_nil,
  if_true, if_false, Bool.false_eq_true, Bool.true_eq_false, ite_true, ite_false, true_and, and_true, reduceIte, List.nil_append, List.cons_append, atI_0, atI_1, atI_2, atI_3, atI_m1, List.getElem?_cons_zero, List.getElem?_cons_succ, List.getLast?_cons_cons, List.getLast?_singleton, Nat.zero_add, Nat.reduceAdd, Int.cast_ofNat_Int, Int.natCast_add, Int.natCast_one, Nat.reduceLeDiff, Int.reduceLT, Int.reduceLE, Int.reduceEq, decide_true, decide_false, Int.reduceAdd, Int.reduceNeg, Int.reduceSub, Int.reduceToNat, eq_self, ne_eq, not_true_eq_false, not_false_eq_true, List.map_cons, List.map_nil, Option.getD_some, Option.getD_none, Option.isSome_some, Option.isSome_none])
section
/-! ### the law's call, where the caller is the claim's own (no repr under way) -/
open PySem.Spec PyProof.Rows
theorem go_def {P : Program} {w : World} {K : PySem.W.Frag} {mg : Str → Option Value} {base : Heap} {N ps : List Str} {x qual : Str} {st : Stmt} {f : Addr} {fd : FuncData} {k : Nat} {A : Around} {outer : List PySem.Env} {s : Shared} {H : Hp} {args : Args} {us : List Value} {vs : List V} {Q : VK} {E : XK}
    (F : Fun K x qual st f fd) (S : FnScope N ps (defScope st)) (room : Room (k + 1) A) (e0 : Env0 P w K mg base A outer s H) (hb : BindsTo s fd args (ps.zip us)) (rv : Vals vs us) (hl : vs.length = ps.length)
    (body : ∀ cdv : Value, Room k (A.deeper (envOfC qual (defScope st) s.heap.objs.size f cdv)) → ∃ t, PSs (cxOf CX0 P w K mg base N qual (defScope st) f cdv A outer s H E) (defBody st) t ∧ t { nx := fun _ h => Q .non h, rt := Q } (start N vs) H) :
    codeAny (model P w) A (.call (.ref f) args) (CR CX0 outer P w H s Q E) s := by
  obtain ⟨c0, d0, k0, m0, p0, n0, cdv, t0, l0, e, lk, code⟩ := F.ex
  subst e
  have inS : K.In s.heap := e0.mod.kin.keeps fun b o z => (e0.bs b o z).1
  have kinds : ∀ y ∈ ps.zip us, (defScope st).names.lookup y.1 = some .local ∨ ((defScope st).names.lookup y.1 = some .cell ∧ ((cellsFrom (s.heap.objs.size + 1) (defScope st).names []).lookup y.1).isSome = true) := by
    rintro ⟨n, v⟩ hy
    rcases S.par n (List.of_mem_zip hy).1 with z | z
    · exact Or.inl z
    · exact Or.inr ⟨z, PySem.W.cellsFrom_some _ _ _ (Or.inl z)⟩
  refine codeAny_call_function room.depth (inS f _ lk) rfl S.co S.gen rfl (PySem.W.codeRec_of inS code) (hb _ _ _ _ (wpAny_newFunctionEnv_cells S.kind kinds fun env ee s1 ic => ?_))
  subst ee
  obtain ⟨t, ht, start0⟩ := body cdv (room.deeper _)
  refine ⟨(e0.mod.nolimit.keeps fun b o z => (e0.bs b o z).1).keeps ic.toInCall.keep, codeAny_func ?_⟩
  have first : Inv (cxOf CX0 P w K mg base N qual (defScope st) f cdv A outer s H E) [] (start N vs) H s1 := inv_start S room.hd e0 hl rv ic
  have last : ∀ {σ2 : L2.St} {H2 : Hp} {v : V} {u : Value} {s2 : Shared}, Inv (cxOf CX0 P w K mg base N qual (defScope st) f cdv A outer s H E) [] σ2 H2 s2 → RelV v u → Q v H2 → CE outer P w H s Q u s2 := by
    intro σ2 H2 v u s2 J r q
    exact ⟨v, H2, J.os, J.bare, J.base, J.hok, r, q⟩
  refine wpAny_mono (ht.run [] s1 (start N vs) H _ first start0) ?_ (fun _ _ z => z)
  intro fl s2 z
  cases fl with
  | next => obtain ⟨_, _, J, q⟩ := z; exact last (v := V.non) (u := Value.none) J rfl q
  | ret u => obtain ⟨v, _, _, J, r, q⟩ := z; exact last J r q
  | brk => obtain ⟨_, _, _, q⟩ := z; exact q.elim
  | cont => obtain ⟨_, _, _, q⟩ := z; exact q.elim
/-- the heap's part that is told of: the script, unless the module holds it -/
theorem script_told {K : PySem.W.Frag} {P : Program} {w : World} {h : Heap} {a : Addr} {vs : List Value} {ns : List Int} (inH : K.In h) (at_ : h.get? a = some { cls := .type "list", data := .seq vs.toArray }) (allInt : IntsAre vs ns) (short : ns.length ≤ sizeLine) :
    ∃ H : Hp, (∀ b, H b = none ∨ (b = a ∧ K.lookup a = none ∧ H b = some (.frz { cls := .type "list", data := .seq vs.toArray } (.lst (ns.map V.int))))) ∧ SqL K H a (ns.map V.int) ∧ HOk P w H h := by
  have vi := vals_ints allInt
  have same := allInt.length
  cases known : K.lookup a with
  | some o =>
    have there := inH a o known
    rw [at_] at there
    obtain rfl := Option.some.inj there
    exact ⟨fun _ => none, fun _ => Or.inl rfl, Or.inr ⟨_, vs.toArray, _, known, rfl, rfl, rfl, by rw [List.size_toArray, same]; exact short, by simpa using vi⟩, fun b u z => nomatch z⟩
  | none =>
    refine ⟨fun b => if b = a then some (.frz { cls := .type "list", data := .seq vs.toArray } (.lst (ns.map V.int))) else none, fun b => ?_, Or.inl (Or.inr ⟨_, if_pos rfl⟩), fun b u z => ?_⟩
    · by_cases e : b = a
      · exact Or.inr ⟨e, rfl, if_pos e⟩
      · exact Or.inl (if_neg e)
    · by_cases e : b = a
      · obtain rfl := Option.some.inj ((if_pos e).symm.trans z)
        subst e
        exact ⟨at_, by rw [List.length_map]; exact short, vs, _, vi, at_⟩
      · exact nomatch (if_neg e).symm.trans z
theorem ra_ints {K : PySem.W.Frag} {H : Hp} : ∀ ns : List Int, RA K H (ns.map D.int) (ns.map V.int)
  | [] => RA.nil
  | n :: ns => RA.cons (by simp only [R]) (ra_ints ns)
/-- the call by the claim's own caller -/
theorem own_call {P : Program} {w : World} {K : PySem.W.Frag} {mg mb : Str → Option Value} {k : Nat} {st : Stmt} {fa a : Addr} {fd : FuncData} {N : List Str} {x : Str} {p : DSp} {s₁ : Shared} {vs : List Value} {ns : List Int}
    (inH : K.In s₁.heap) (gM : s₁.heap.Ns mainGlobals mg) (gB : s₁.heap.Ns builtinsNs mb) (boot : ∀ y : Str, y ≠ "__name__" → mb y = bootBuiltins y) (nolim : s₁.heap.NoLimit) (nog : s₁.gens = #[])
    (at_ : s₁.heap.get? a = some { cls := .type "list", data := .seq vs.toArray }) (allInt : IntsAre vs ns) (short : ns.length ≤ 63) (room : Room (k + 1) callerA)
    (F : Fun K "law" "law" st fa fd) (S : FnScope N [x] (defScope st)) (binds : ∀ (s : Shared) (u : Value), BindsTo s fd ⟨[u], []⟩ [(x, u)])
    (body : ∀ base : Heap, base.Ns mainGlobals mg → ∀ (cdv : Value) (outer : List PySem.Env) (s : Shared) (H : Hp) (E : XK), Room k (callerA.deeper (envOfC "law" (defScope st) s.heap.objs.size fa cdv)) → (callerA.deeper (envOfC "law" (defScope st) s.heap.objs.size fa cdv)).guards = some [] →
      ∃ t, DSs (cxOf CX0 P w K mg base N "law" (defScope st) fa cdv callerA outer s H E).nox (defBody st) t ∧ ∀ ds C Q, p ds C Q → t (endsOf Q) (startD N ds) C)
    (want : ∀ C Q, Q (.bl true) C → p [.fro (ns.map D.int)] C Q) :
    codeAny (model P w) callerA (.call (.ref fa) ⟨[.ref a], []⟩) (fun r s' => r = .ok (.ret (.bool true)) ∧ OldK s₁.heap s'.heap ∧ s'.os = s₁.os ∧ AllBare s'.gens) s₁ := by
  obtain ⟨H, hH, sq, ok0⟩ := script_told (P := P) (w := w) inH at_ allInt (Nat.le_trans short (by decide))
  have keepB : ∀ b o, s₁.heap.get? b = some o → (b = a → K.lookup a ≠ none) → (hidT s₁.heap H).get? b = some o := fun b o e ne => by
    rcases hH b with z | ⟨rfl, z, _⟩
    · exact hidT_get e z
    · exact absurd z (ne rfl)
  have notA : ∀ b o es ep, s₁.heap.get? b = some o → o.data = .dict es ep → b ≠ a := fun b o es ep e d z => by
    subst z
    rw [at_] at e
    obtain rfl := Option.some.inj e
    cases d
  have inB : K.In (hidT s₁.heap H) := fun b o e => keepB b o (inH b o e) fun z => by
    subst z
    rw [e]
    exact nofun
  have nsB : ∀ {b : Addr} {m : Str → Option Value}, s₁.heap.Ns b m → (hidT s₁.heap H).Ns b m := by
    rintro b m ⟨o, es, ep, e, d, r⟩
    exact ⟨o, es, ep, keepB b o e fun z => absurd z (notA b o es ep e d), d, r⟩
  have limB : (hidT s₁.heap H).NoLimit := by
    obtain ⟨m, h1, h2⟩ := nolim
    exact ⟨m, nsB h1, h2⟩
  have e0 : Env0 P w K mg (hidT s₁.heap H) callerA [] s₁ H :=
    { frames := rfl, mod := ⟨inB, nsB gM, ⟨mb, nsB gB, boot⟩, limB⟩, bs := fun b o e => of_hidT e, bsz := Nat.le_of_eq (hidT_size _ _), funs := trivial, frf := (fun b z => nomatch z), hok := ok0, bare := .of_eq nog }
  have told : DL.Ok K ⟨H, fun _ => none, H⟩ := ⟨fun _ _ e => e, fun b c e => nomatch e⟩
  have run := go_def (Q := fun v _ => v = .bl true) (E := fun _ _ _ => False) F S room e0 (binds s₁ (.ref a)) (us := [.ref a]) (vs := [.ref a]) (.cons rfl .nil) rfl fun cdv r => by
    obtain ⟨t, h1, h2⟩ := body _ (nsB gM) cdv [] s₁ H (fun _ _ _ => False) r rfl
    have rs : RA K H [.fro (ns.map D.int)] [.ref a] := RA.cons (by simp only [R]; exact ⟨a, _, rfl, sq, ra_ints ns⟩) RA.nil
    refine ⟨_, PSs.nox h1, startD N [.fro (ns.map D.int)], ⟨H, fun _ => none, H⟩, endsOf fun d _ => d = .bl true, rfl, sl_start rs, told, h2 _ _ _ (want _ _ rfl), ⟨fun ρ' σ' S' e1 s1 t1 => ?_, fun v d S' e1 rd t1 => ?_, fun ρ' σ' S' e1 s1 t1 => t1.elim, fun ρ' σ' S' e1 s1 t1 => t1.elim⟩⟩
    · obtain ⟨_, _, q⟩ := t1
      cases q
    · obtain ⟨_, _, q⟩ := t1
      have q : d = .bl true := q
      subst q
      simpa only [R] using rd
  refine codeAny_mono run fun r s2 z => ?_
  match r, z with
  | .ok (.ret u), z =>
    obtain ⟨v, H2, os, bare, un, ok2, rv, q⟩ := z
    have q : v = .bl true := q
    subst q
    obtain rfl : u = Value.bool true := rv
    refine ⟨rfl, OldK.of_keep fun b o e => ?_, os, bare⟩
    rcases hH b with none | ⟨rfl, _, frz⟩
    · exact un.keep b o e none (fun z => nomatch z) fun z => nomatch z
    · obtain ⟨e2, _⟩ := ok2 b _ (un.frzs b _ _ frz)
      rw [at_] at e
      obtain rfl := Option.some.inj e
      exact e2
theorem walkL {l : PySem.W.OpenLaw} {q : Program} {loose : List Str} {XP : (Str → Option Value) → Heap → Prop} {YP : World → Heap → Prop} {d : DefRec} {K : Params → PySem.W.Frag} (hn : l.most = some 63) (hdf : d.params.defaults = []) (hdn : d.name = "law")
    (hY : ∀ (w : World) (h : Heap), YP w h → (K w.params).In h) (F : ∀ (w : World) (mg : Str → Option Value) (h : Heap), (K w.params).In h → h.Ns mainGlobals mg → Txt (K w.params) mg) : PySem.W.WalkO q loose XP YP l.row.toRowW d [] (fun f vs => PySem.call f vs) := by
  refine Att.attach_call hn hdf fun w s₀ s₁ mg mb f o pm cd doc a vs ns G Y ho hd hcd hmg hobj allInt hlen hg => ?_
  have inH := hY w _ Y
  have T := F w mg _ inH G.T.g
  obtain ⟨fd, Fl, _⟩ := T.d_law.d
  rw [hdn, T.d_law.m] at hmg
  cases hmg
  refine own_call (k := 15) (x := "script") (p := sp_law) inH G.T.g G.T.b G.T.builtins G.T.nolimit hg hobj allInt hlen ⟨rfl, by decide, by decide⟩ Fl sc_law ?_ (fun base _ cdv outer s H E hr hgd => body_law T cdv callerA outer s H E hr hgd) fun C Q q => ⟨ns, rfl, by omega, q⟩
  obtain ⟨c0, d0, k0, m0, p0, n0, cdv, t0, l0, e, _, _⟩ := Fl.ex
  subst e
  exact fun s u => .of_eq rfl
/-! what the top has written -/
section
variable {K : PySem.W.Frag} {mg : Str → Option Value} {h : Heap}
theorem df_of {x : Str} {st : Stmt} {ps : List Str} {f : Addr} {oc kV dc pm cd ct : Value} {od an : Option Addr} {sl : Array (Option Value)} (X : K.In h) (G : h.Ns mainGlobals mg)
    (b : ∀ (kV doc pm : Value) (an : Option Addr) (cdv ct : Value) (us : List Value), us.length = ps.length → bindArgs (PySem.W.fnOf x x (defArgs st) (defBody st) (defScope st) .none kV doc pm an cdv ct) ⟨us, []⟩ = pure (ps.zip us))
    (a : PySem.W.nsIn K mainGlobals x = some (some (.ref f))) (l : K.lookup f = some ⟨oc, od, .func (PySem.W.fnOf x x (defArgs st) (defBody st) (defScope st) .none kV dc pm an cd ct), sl⟩) (c : PySem.W.codeIn K cd x = true) (k : PySem.W.keepIn K (.ref f) = true) : Df K mg x st ps := by
  have m := PySem.W.mg_of X G a
  have e : fa mg x = f := by unfold fa; rw [m]
  have F := fun_mk (st := st) l c k
  exact ⟨by rw [e]; exact m, _, by rw [e]; exact F, F.binds b⟩
theorem mf_of {C : Addr} {m qual : Str} {st : Stmt} {ps : List Str} {f : Addr} {oc kV dc pm cd ct : Value} {od an : Option Addr} {sl : Array (Option Value)}
    (b : ∀ (kV doc pm : Value) (an : Option Addr) (cdv ct : Value) (us : List Value), us.length = ps.length → bindArgs (PySem.W.fnOf m qual (defArgs st) (defBody st) (defScope st) .none kV doc pm an cdv ct) ⟨us, []⟩ = pure (ps.zip us))
    (a : PySem.W.findIn K (.ref C) m = some (some (.ref f))) (i : PySem.W.isFn K (.ref f) = true) (l : K.lookup f = some ⟨oc, od, .func (PySem.W.fnOf m qual (defArgs st) (defBody st) (defScope st) .none kV dc pm an cd ct), sl⟩) (c : PySem.W.codeIn K cd qual = true) (k : PySem.W.keepIn K (.ref f) = true) : Mf K C m qual st ps := by
  have e : ma K C m = f := by unfold ma; rw [a]
  have F := fun_mk (st := st) l c k
  exact ⟨by rw [e]; exact ⟨a, i, k⟩, _, by rw [e]; exact F, F.binds b⟩
end
end

end K78

set_option Elab.async false
set_option linter.all false
set_option maxRecDepth 100000
set_option maxHeartbeats 1000000
namespace K78
open PySem PySem.Spec L2 DL
theorem all_mk {K : PySem.W.Frag} {mg : Str → Option Value} {h : Heap}
    {cBook : Addr}
    {cHall : Addr}
    {cRule : Addr}
    {cState : Addr}
    {f1 : Addr} {oc1 kV1 dc1 pm1 cd1 ct1 : Value} {od1 an1 : Option Addr} {sl1 : Array (Option Value)}
    {f2 : Addr} {oc2 kV2 dc2 pm2 cd2 ct2 : Value} {od2 an2 : Option Addr} {sl2 : Array (Option Value)}
    {f3 : Addr} {oc3 kV3 dc3 pm3 cd3 ct3 : Value} {od3 an3 : Option Addr} {sl3 : Array (Option Value)}
    {f4 : Addr} {oc4 kV4 dc4 pm4 cd4 ct4 : Value} {od4 an4 : Option Addr} {sl4 : Array (Option Value)}
    {f5 : Addr} {oc5 kV5 dc5 pm5 cd5 ct5 : Value} {od5 an5 : Option Addr} {sl5 : Array (Option Value)}
    {T5 : Addr} {ot5 x5_0 x5_1 : Value} {oe5 : Option Addr} {z5 : Nat} {sm5 : Array (Option Value)}
    {f6 : Addr} {oc6 kV6 dc6 pm6 cd6 ct6 : Value} {od6 an6 : Option Addr} {sl6 : Array (Option Value)}
    {f7 : Addr} {oc7 kV7 dc7 pm7 cd7 ct7 : Value} {od7 an7 : Option Addr} {sl7 : Array (Option Value)}
    {f8 : Addr} {oc8 kV8 dc8 pm8 cd8 ct8 : Value} {od8 an8 : Option Addr} {sl8 : Array (Option Value)}
    {f9 : Addr} {oc9 kV9 dc9 pm9 cd9 ct9 : Value} {od9 an9 : Option Addr} {sl9 : Array (Option Value)}
    {f10 : Addr} {oc10 kV10 dc10 pm10 cd10 ct10 : Value} {od10 an10 : Option Addr} {sl10 : Array (Option Value)}
    {f11 : Addr} {oc11 kV11 dc11 pm11 cd11 ct11 : Value} {od11 an11 : Option Addr} {sl11 : Array (Option Value)}
    {f12 : Addr} {oc12 kV12 dc12 pm12 cd12 ct12 : Value} {od12 an12 : Option Addr} {sl12 : Array (Option Value)}
    {f13 : Addr} {oc13 kV13 dc13 pm13 cd13 ct13 : Value} {od13 an13 : Option Addr} {sl13 : Array (Option Value)}
    {f14 : Addr} {oc14 kV14 dc14 pm14 cd14 ct14 : Value} {od14 an14 : Option Addr} {sl14 : Array (Option Value)}
    {f15 : Addr} {oc15 kV15 dc15 pm15 cd15 ct15 : Value} {od15 an15 : Option Addr} {sl15 : Array (Option Value)}
    {f16 : Addr} {oc16 kV16 dc16 pm16 cd16 ct16 : Value} {od16 an16 : Option Addr} {sl16 : Array (Option Value)}
    {f17 : Addr} {oc17 kV17 dc17 pm17 cd17 ct17 : Value} {od17 an17 : Option Addr} {sl17 : Array (Option Value)}
    {f18 : Addr} {oc18 kV18 dc18 pm18 cd18 ct18 : Value} {od18 an18 : Option Addr} {sl18 : Array (Option Value)}
    {f19 : Addr} {oc19 kV19 dc19 pm19 cd19 ct19 : Value} {od19 an19 : Option Addr} {sl19 : Array (Option Value)}
    {f20 : Addr} {oc20 kV20 dc20 pm20 cd20 ct20 : Value} {od20 an20 : Option Addr} {sl20 : Array (Option Value)}
    {f21 : Addr} {oc21 kV21 dc21 pm21 cd21 ct21 : Value} {od21 an21 : Option Addr} {sl21 : Array (Option Value)}
    {T21 : Addr} {ot21 x21_0 : Value} {oe21 : Option Addr} {z21 : Nat} {sm21 : Array (Option Value)}
    {f22 : Addr} {oc22 kV22 dc22 pm22 cd22 ct22 : Value} {od22 an22 : Option Addr} {sl22 : Array (Option Value)}
    {f23 : Addr} {oc23 kV23 dc23 pm23 cd23 ct23 : Value} {od23 an23 : Option Addr} {sl23 : Array (Option Value)}
    {f24 : Addr} {oc24 kV24 dc24 pm24 cd24 ct24 : Value} {od24 an24 : Option Addr} {sl24 : Array (Option Value)}
    {f25 : Addr} {oc25 kV25 dc25 pm25 cd25 ct25 : Value} {od25 an25 : Option Addr} {sl25 : Array (Option Value)}
    {f26 : Addr} {oc26 kV26 dc26 pm26 cd26 ct26 : Value} {od26 an26 : Option Addr} {sl26 : Array (Option Value)}
    {f27 : Addr} {oc27 kV27 dc27 pm27 cd27 ct27 : Value} {od27 an27 : Option Addr} {sl27 : Array (Option Value)}
    {f28 : Addr} {oc28 kV28 dc28 pm28 cd28 ct28 : Value} {od28 an28 : Option Addr} {sl28 : Array (Option Value)}
    {f29 : Addr} {oc29 kV29 dc29 pm29 cd29 ct29 : Value} {od29 an29 : Option Addr} {sl29 : Array (Option Value)}
    {f30 : Addr} {oc30 kV30 dc30 pm30 cd30 ct30 : Value} {od30 an30 : Option Addr} {sl30 : Array (Option Value)}
    {f31 : Addr} {oc31 kV31 dc31 pm31 cd31 ct31 : Value} {od31 an31 : Option Addr} {sl31 : Array (Option Value)}
    {f32 : Addr} {oc32 kV32 dc32 pm32 cd32 ct32 : Value} {od32 an32 : Option Addr} {sl32 : Array (Option Value)}
    {f33 : Addr} {oc33 kV33 dc33 pm33 cd33 ct33 : Value} {od33 an33 : Option Addr} {sl33 : Array (Option Value)}
    {f34 : Addr} {oc34 kV34 dc34 pm34 cd34 ct34 : Value} {od34 an34 : Option Addr} {sl34 : Array (Option Value)}
    {f35 : Addr} {oc35 kV35 dc35 pm35 cd35 ct35 : Value} {od35 an35 : Option Addr} {sl35 : Array (Option Value)}
    {f36 : Addr} {oc36 kV36 dc36 pm36 cd36 ct36 : Value} {od36 an36 : Option Addr} {sl36 : Array (Option Value)}
    {f37 : Addr} {oc37 kV37 dc37 pm37 cd37 ct37 : Value} {od37 an37 : Option Addr} {sl37 : Array (Option Value)}
    {f38 : Addr} {oc38 kV38 dc38 pm38 cd38 ct38 : Value} {od38 an38 : Option Addr} {sl38 : Array (Option Value)}
    {T38 : Addr} {ot38 x38_0 : Value} {oe38 : Option Addr} {z38 : Nat} {sm38 : Array (Option Value)}
    {f39 : Addr} {oc39 kV39 dc39 pm39 cd39 ct39 : Value} {od39 an39 : Option Addr} {sl39 : Array (Option Value)}
    {f40 : Addr} {oc40 kV40 dc40 pm40 cd40 ct40 : Value} {od40 an40 : Option Addr} {sl40 : Array (Option Value)}
    {f41 : Addr} {oc41 kV41 dc41 pm41 cd41 ct41 : Value} {od41 an41 : Option Addr} {sl41 : Array (Option Value)}
    {f42 : Addr} {oc42 kV42 dc42 pm42 cd42 ct42 : Value} {od42 an42 : Option Addr} {sl42 : Array (Option Value)}
    {f43 : Addr} {oc43 kV43 dc43 pm43 cd43 ct43 : Value} {od43 an43 : Option Addr} {sl43 : Array (Option Value)}
    {f44 : Addr} {oc44 kV44 dc44 pm44 cd44 ct44 : Value} {od44 an44 : Option Addr} {sl44 : Array (Option Value)}
    {f45 : Addr} {oc45 kV45 dc45 pm45 cd45 ct45 : Value} {od45 an45 : Option Addr} {sl45 : Array (Option Value)}
    {f46 : Addr} {oc46 kV46 dc46 pm46 cd46 ct46 : Value} {od46 an46 : Option Addr} {sl46 : Array (Option Value)}
    {f47 : Addr} {oc47 kV47 dc47 pm47 cd47 ct47 : Value} {od47 an47 : Option Addr} {sl47 : Array (Option Value)}
    {f48 : Addr} {oc48 kV48 dc48 pm48 cd48 ct48 : Value} {od48 an48 : Option Addr} {sl48 : Array (Option Value)}
    {f49 : Addr} {oc49 kV49 dc49 pm49 cd49 ct49 : Value} {od49 an49 : Option Addr} {sl49 : Array (Option Value)}
    {f50 : Addr} {oc50 kV50 dc50 pm50 cd50 ct50 : Value} {od50 an50 : Option Addr} {sl50 : Array (Option Value)}
    {f51 : Addr} {oc51 kV51 dc51 pm51 cd51 ct51 : Value} {od51 an51 : Option Addr} {sl51 : Array (Option Value)}
    {f52 : Addr} {oc52 kV52 dc52 pm52 cd52 ct52 : Value} {od52 an52 : Option Addr} {sl52 : Array (Option Value)}
    {f53 : Addr} {oc53 kV53 dc53 pm53 cd53 ct53 : Value} {od53 an53 : Option Addr} {sl53 : Array (Option Value)}
    {f54 : Addr} {oc54 kV54 dc54 pm54 cd54 ct54 : Value} {od54 an54 : Option Addr} {sl54 : Array (Option Value)}
    {f55 : Addr} {oc55 kV55 dc55 pm55 cd55 ct55 : Value} {od55 an55 : Option Addr} {sl55 : Array (Option Value)}
    {f56 : Addr} {oc56 kV56 dc56 pm56 cd56 ct56 : Value} {od56 an56 : Option Addr} {sl56 : Array (Option Value)}
    {f57 : Addr} {oc57 kV57 dc57 pm57 cd57 ct57 : Value} {od57 an57 : Option Addr} {sl57 : Array (Option Value)}
    {f58 : Addr} {oc58 kV58 dc58 pm58 cd58 ct58 : Value} {od58 an58 : Option Addr} {sl58 : Array (Option Value)}
    {f59 : Addr} {oc59 kV59 dc59 pm59 cd59 ct59 : Value} {od59 an59 : Option Addr} {sl59 : Array (Option Value)}
    {f60 : Addr} {oc60 kV60 dc60 pm60 cd60 ct60 : Value} {od60 an60 : Option Addr} {sl60 : Array (Option Value)}
    {f61 : Addr} {oc61 kV61 dc61 pm61 cd61 ct61 : Value} {od61 an61 : Option Addr} {sl61 : Array (Option Value)}
    {f62 : Addr} {oc62 kV62 dc62 pm62 cd62 ct62 : Value} {od62 an62 : Option Addr} {sl62 : Array (Option Value)}
    {f63 : Addr} {oc63 kV63 dc63 pm63 cd63 ct63 : Value} {od63 an63 : Option Addr} {sl63 : Array (Option Value)}
    {f64 : Addr} {oc64 kV64 dc64 pm64 cd64 ct64 : Value} {od64 an64 : Option Addr} {sl64 : Array (Option Value)}
    {tL : Tok}
    (X : K.In h) (G : h.Ns mainGlobals mg)
    (aBook : PySem.W.nsIn K mainGlobals "Book" = some (some (.ref cBook)))
    (aHall : PySem.W.nsIn K mainGlobals "Hall" = some (some (.ref cHall)))
    (aRule : PySem.W.nsIn K mainGlobals "Rule" = some (some (.ref cRule)))
    (aState : PySem.W.nsIn K mainGlobals "State" = some (some (.ref cState)))
    (a1 : PySem.W.nsIn K mainGlobals "is_name" = some (some (.ref f1)))
    (l1 : K.lookup f1 = some ⟨oc1, od1, .func (PySem.W.fnOf "is_name" "is_name" (defArgs s_is_name) (defBody s_is_name) (defScope s_is_name) .none kV1 dc1 pm1 an1 cd1 ct1), sl1⟩)
    (c1 : PySem.W.codeIn K cd1 "is_name" = true)
    (k1 : PySem.W.keepIn K (.ref f1) = true)
    (a2 : PySem.W.nsIn K mainGlobals "is_whole" = some (some (.ref f2)))
    (l2 : K.lookup f2 = some ⟨oc2, od2, .func (PySem.W.fnOf "is_whole" "is_whole" (defArgs s_is_whole) (defBody s_is_whole) (defScope s_is_whole) .none kV2 dc2 pm2 an2 cd2 ct2), sl2⟩)
    (c2 : PySem.W.codeIn K cd2 "is_whole" = true)
    (k2 : PySem.W.keepIn K (.ref f2) = true)
    (a3 : PySem.W.nsIn K mainGlobals "is_count" = some (some (.ref f3)))
    (l3 : K.lookup f3 = some ⟨oc3, od3, .func (PySem.W.fnOf "is_count" "is_count" (defArgs s_is_count) (defBody s_is_count) (defScope s_is_count) .none kV3 dc3 pm3 an3 cd3 ct3), sl3⟩)
    (c3 : PySem.W.codeIn K cd3 "is_count" = true)
    (k3 : PySem.W.keepIn K (.ref f3) = true)
    (a4 : PySem.W.nsIn K mainGlobals "is_hours" = some (some (.ref f4)))
    (l4 : K.lookup f4 = some ⟨oc4, od4, .func (PySem.W.fnOf "is_hours" "is_hours" (defArgs s_is_hours) (defBody s_is_hours) (defScope s_is_hours) .none kV4 dc4 pm4 an4 cd4 ct4), sl4⟩)
    (c4 : PySem.W.codeIn K cd4 "is_hours" = true)
    (k4 : PySem.W.keepIn K (.ref f4) = true)
    (a5 : PySem.W.nsIn K mainGlobals "check_count" = some (some (.ref f5)))
    (l5 : K.lookup f5 = some ⟨oc5, od5, .func (PySem.W.fnOf "check_count" "check_count" (defArgs s_check_count) (defBody s_check_count) (defScope s_check_count) (.ref T5) kV5 dc5 pm5 an5 cd5 ct5), sl5⟩)
    (c5 : PySem.W.codeIn K cd5 "check_count" = true)
    (k5 : PySem.W.keepIn K (.ref f5) = true)
    (t5 : K.lookup T5 = some ⟨ot5, oe5, .seq #[x5_0, x5_1] z5, sm5⟩)
    (v5 : Vals [.int 0, V.non] [x5_0, x5_1])
    (a6 : PySem.W.nsIn K mainGlobals "check_hours" = some (some (.ref f6)))
    (l6 : K.lookup f6 = some ⟨oc6, od6, .func (PySem.W.fnOf "check_hours" "check_hours" (defArgs s_check_hours) (defBody s_check_hours) (defScope s_check_hours) .none kV6 dc6 pm6 an6 cd6 ct6), sl6⟩)
    (c6 : PySem.W.codeIn K cd6 "check_hours" = true)
    (k6 : PySem.W.keepIn K (.ref f6) = true)
    (a7 : PySem.W.nsIn K mainGlobals "check_just_hours" = some (some (.ref f7)))
    (l7 : K.lookup f7 = some ⟨oc7, od7, .func (PySem.W.fnOf "check_just_hours" "check_just_hours" (defArgs s_check_just_hours) (defBody s_check_just_hours) (defScope s_check_just_hours) .none kV7 dc7 pm7 an7 cd7 ct7), sl7⟩)
    (c7 : PySem.W.codeIn K cd7 "check_just_hours" = true)
    (k7 : PySem.W.keepIn K (.ref f7) = true)
    (a8 : PySem.W.nsIn K mainGlobals "check_known" = some (some (.ref f8)))
    (l8 : K.lookup f8 = some ⟨oc8, od8, .func (PySem.W.fnOf "check_known" "check_known" (defArgs s_check_known) (defBody s_check_known) (defScope s_check_known) .none kV8 dc8 pm8 an8 cd8 ct8), sl8⟩)
    (c8 : PySem.W.codeIn K cd8 "check_known" = true)
    (k8 : PySem.W.keepIn K (.ref f8) = true)
    (a9 : PySem.W.findIn K (.ref cRule) "__init__" = some (some (.ref f9)))
    (i9 : PySem.W.isFn K (.ref f9) = true)
    (l9 : K.lookup f9 = some ⟨oc9, od9, .func (PySem.W.fnOf "__init__" "Rule.__init__" (defArgs s_Rule___init__) (defBody s_Rule___init__) (defScope s_Rule___init__) .none kV9 dc9 pm9 an9 cd9 ct9), sl9⟩)
    (c9 : PySem.W.codeIn K cd9 "Rule.__init__" = true)
    (k9 : PySem.W.keepIn K (.ref f9) = true)
    (a10 : PySem.W.findIn K (.ref cRule) "term" = some (some (.ref f10)))
    (i10 : PySem.W.isFn K (.ref f10) = true)
    (l10 : K.lookup f10 = some ⟨oc10, od10, .func (PySem.W.fnOf "term" "Rule.term" (defArgs s_Rule_term) (defBody s_Rule_term) (defScope s_Rule_term) .none kV10 dc10 pm10 an10 cd10 ct10), sl10⟩)
    (c10 : PySem.W.codeIn K cd10 "Rule.term" = true)
    (k10 : PySem.W.keepIn K (.ref f10) = true)
    (a11 : PySem.W.findIn K (.ref cRule) "__eq__" = some (some (.ref f11)))
    (i11 : PySem.W.isFn K (.ref f11) = true)
    (l11 : K.lookup f11 = some ⟨oc11, od11, .func (PySem.W.fnOf "__eq__" "Rule.__eq__" (defArgs s_Rule___eq__) (defBody s_Rule___eq__) (defScope s_Rule___eq__) .none kV11 dc11 pm11 an11 cd11 ct11), sl11⟩)
    (c11 : PySem.W.codeIn K cd11 "Rule.__eq__" = true)
    (k11 : PySem.W.keepIn K (.ref f11) = true)
    (a12 : PySem.W.nsIn K mainGlobals "are_terms" = some (some (.ref f12)))
    (l12 : K.lookup f12 = some ⟨oc12, od12, .func (PySem.W.fnOf "are_terms" "are_terms" (defArgs s_are_terms) (defBody s_are_terms) (defScope s_are_terms) .none kV12 dc12 pm12 an12 cd12 ct12), sl12⟩)
    (c12 : PySem.W.codeIn K cd12 "are_terms" = true)
    (k12 : PySem.W.keepIn K (.ref f12) = true)
    (a13 : PySem.W.nsIn K mainGlobals "is_term" = some (some (.ref f13)))
    (l13 : K.lookup f13 = some ⟨oc13, od13, .func (PySem.W.fnOf "is_term" "is_term" (defArgs s_is_term) (defBody s_is_term) (defScope s_is_term) .none kV13 dc13 pm13 an13 cd13 ct13), sl13⟩)
    (c13 : PySem.W.codeIn K cd13 "is_term" = true)
    (k13 : PySem.W.keepIn K (.ref f13) = true)
    (a14 : PySem.W.nsIn K mainGlobals "is_part" = some (some (.ref f14)))
    (l14 : K.lookup f14 = some ⟨oc14, od14, .func (PySem.W.fnOf "is_part" "is_part" (defArgs s_is_part) (defBody s_is_part) (defScope s_is_part) .none kV14 dc14 pm14 an14 cd14 ct14), sl14⟩)
    (c14 : PySem.W.codeIn K cd14 "is_part" = true)
    (k14 : PySem.W.keepIn K (.ref f14) = true)
    (a15 : PySem.W.nsIn K mainGlobals "with_inside" = some (some (.ref f15)))
    (l15 : K.lookup f15 = some ⟨oc15, od15, .func (PySem.W.fnOf "with_inside" "with_inside" (defArgs s_with_inside) (defBody s_with_inside) (defScope s_with_inside) .none kV15 dc15 pm15 an15 cd15 ct15), sl15⟩)
    (c15 : PySem.W.codeIn K cd15 "with_inside" = true)
    (k15 : PySem.W.keepIn K (.ref f15) = true)
    (a16 : PySem.W.nsIn K mainGlobals "copied" = some (some (.ref f16)))
    (l16 : K.lookup f16 = some ⟨oc16, od16, .func (PySem.W.fnOf "copied" "copied" (defArgs s_copied) (defBody s_copied) (defScope s_copied) .none kV16 dc16 pm16 an16 cd16 ct16), sl16⟩)
    (c16 : PySem.W.codeIn K cd16 "copied" = true)
    (k16 : PySem.W.keepIn K (.ref f16) = true)
    (a17 : PySem.W.nsIn K mainGlobals "check_rule" = some (some (.ref f17)))
    (l17 : K.lookup f17 = some ⟨oc17, od17, .func (PySem.W.fnOf "check_rule" "check_rule" (defArgs s_check_rule) (defBody s_check_rule) (defScope s_check_rule) .none kV17 dc17 pm17 an17 cd17 ct17), sl17⟩)
    (c17 : PySem.W.codeIn K cd17 "check_rule" = true)
    (k17 : PySem.W.keepIn K (.ref f17) = true)
    (a18 : PySem.W.nsIn K mainGlobals "names_by" = some (some (.ref f18)))
    (l18 : K.lookup f18 = some ⟨oc18, od18, .func (PySem.W.fnOf "names_by" "names_by" (defArgs s_names_by) (defBody s_names_by) (defScope s_names_by) .none kV18 dc18 pm18 an18 cd18 ct18), sl18⟩)
    (c18 : PySem.W.codeIn K cd18 "names_by" = true)
    (k18 : PySem.W.keepIn K (.ref f18) = true)
    (a19 : PySem.W.nsIn K mainGlobals "check_told_hours" = some (some (.ref f19)))
    (l19 : K.lookup f19 = some ⟨oc19, od19, .func (PySem.W.fnOf "check_told_hours" "check_told_hours" (defArgs s_check_told_hours) (defBody s_check_told_hours) (defScope s_check_told_hours) .none kV19 dc19 pm19 an19 cd19 ct19), sl19⟩)
    (c19 : PySem.W.codeIn K cd19 "check_told_hours" = true)
    (k19 : PySem.W.keepIn K (.ref f19) = true)
    (a20 : PySem.W.nsIn K mainGlobals "hour_of_term" = some (some (.ref f20)))
    (l20 : K.lookup f20 = some ⟨oc20, od20, .func (PySem.W.fnOf "hour_of_term" "hour_of_term" (defArgs s_hour_of_term) (defBody s_hour_of_term) (defScope s_hour_of_term) .none kV20 dc20 pm20 an20 cd20 ct20), sl20⟩)
    (c20 : PySem.W.codeIn K cd20 "hour_of_term" = true)
    (k20 : PySem.W.keepIn K (.ref f20) = true)
    (a21 : PySem.W.nsIn K mainGlobals "told" = some (some (.ref f21)))
    (l21 : K.lookup f21 = some ⟨oc21, od21, .func (PySem.W.fnOf "told" "told" (defArgs s_told) (defBody s_told) (defScope s_told) (.ref T21) kV21 dc21 pm21 an21 cd21 ct21), sl21⟩)
    (c21 : PySem.W.codeIn K cd21 "told" = true)
    (k21 : PySem.W.keepIn K (.ref f21) = true)
    (t21 : K.lookup T21 = some ⟨ot21, oe21, .seq #[x21_0] z21, sm21⟩)
    (v21 : Vals [V.non] [x21_0])
    (a22 : PySem.W.nsIn K mainGlobals "named" = some (some (.ref f22)))
    (l22 : K.lookup f22 = some ⟨oc22, od22, .func (PySem.W.fnOf "named" "named" (defArgs s_named) (defBody s_named) (defScope s_named) .none kV22 dc22 pm22 an22 cd22 ct22), sl22⟩)
    (c22 : PySem.W.codeIn K cd22 "named" = true)
    (k22 : PySem.W.keepIn K (.ref f22) = true)
    (a23 : PySem.W.nsIn K mainGlobals "parts_from" = some (some (.ref f23)))
    (l23 : K.lookup f23 = some ⟨oc23, od23, .func (PySem.W.fnOf "parts_from" "parts_from" (defArgs s_parts_from) (defBody s_parts_from) (defScope s_parts_from) .none kV23 dc23 pm23 an23 cd23 ct23), sl23⟩)
    (c23 : PySem.W.codeIn K cd23 "parts_from" = true)
    (k23 : PySem.W.keepIn K (.ref f23) = true)
    (a24 : PySem.W.nsIn K mainGlobals "are_rules" = some (some (.ref f24)))
    (l24 : K.lookup f24 = some ⟨oc24, od24, .func (PySem.W.fnOf "are_rules" "are_rules" (defArgs s_are_rules) (defBody s_are_rules) (defScope s_are_rules) .none kV24 dc24 pm24 an24 cd24 ct24), sl24⟩)
    (c24 : PySem.W.codeIn K cd24 "are_rules" = true)
    (k24 : PySem.W.keepIn K (.ref f24) = true)
    (a25 : PySem.W.nsIn K mainGlobals "hangs_of" = some (some (.ref f25)))
    (l25 : K.lookup f25 = some ⟨oc25, od25, .func (PySem.W.fnOf "hangs_of" "hangs_of" (defArgs s_hangs_of) (defBody s_hangs_of) (defScope s_hangs_of) .none kV25 dc25 pm25 an25 cd25 ct25), sl25⟩)
    (c25 : PySem.W.codeIn K cd25 "hangs_of" = true)
    (k25 : PySem.W.keepIn K (.ref f25) = true)
    (a26 : PySem.W.nsIn K mainGlobals "ring_of" = some (some (.ref f26)))
    (l26 : K.lookup f26 = some ⟨oc26, od26, .func (PySem.W.fnOf "ring_of" "ring_of" (defArgs s_ring_of) (defBody s_ring_of) (defScope s_ring_of) .none kV26 dc26 pm26 an26 cd26 ct26), sl26⟩)
    (c26 : PySem.W.codeIn K cd26 "ring_of" = true)
    (k26 : PySem.W.keepIn K (.ref f26) = true)
    (a27 : PySem.W.nsIn K mainGlobals "are_whole" = some (some (.ref f27)))
    (l27 : K.lookup f27 = some ⟨oc27, od27, .func (PySem.W.fnOf "are_whole" "are_whole" (defArgs s_are_whole) (defBody s_are_whole) (defScope s_are_whole) .none kV27 dc27 pm27 an27 cd27 ct27), sl27⟩)
    (c27 : PySem.W.codeIn K cd27 "are_whole" = true)
    (k27 : PySem.W.keepIn K (.ref f27) = true)
    (a28 : PySem.W.nsIn K mainGlobals "in_turn" = some (some (.ref f28)))
    (l28 : K.lookup f28 = some ⟨oc28, od28, .func (PySem.W.fnOf "in_turn" "in_turn" (defArgs s_in_turn) (defBody s_in_turn) (defScope s_in_turn) .none kV28 dc28 pm28 an28 cd28 ct28), sl28⟩)
    (c28 : PySem.W.codeIn K cd28 "in_turn" = true)
    (k28 : PySem.W.keepIn K (.ref f28) = true)
    (a29 : PySem.W.findIn K (.ref cBook) "__init__" = some (some (.ref f29)))
    (i29 : PySem.W.isFn K (.ref f29) = true)
    (l29 : K.lookup f29 = some ⟨oc29, od29, .func (PySem.W.fnOf "__init__" "Book.__init__" (defArgs s_Book___init__) (defBody s_Book___init__) (defScope s_Book___init__) .none kV29 dc29 pm29 an29 cd29 ct29), sl29⟩)
    (c29 : PySem.W.codeIn K cd29 "Book.__init__" = true)
    (k29 : PySem.W.keepIn K (.ref f29) = true)
    (a30 : PySem.W.findIn K (.ref cBook) "names" = some (some (.ref f30)))
    (i30 : PySem.W.isFn K (.ref f30) = true)
    (l30 : K.lookup f30 = some ⟨oc30, od30, .func (PySem.W.fnOf "names" "Book.names" (defArgs s_Book_names) (defBody s_Book_names) (defScope s_Book_names) .none kV30 dc30 pm30 an30 cd30 ct30), sl30⟩)
    (c30 : PySem.W.codeIn K cd30 "Book.names" = true)
    (k30 : PySem.W.keepIn K (.ref f30) = true)
    (a31 : PySem.W.nsIn K mainGlobals "check_book" = some (some (.ref f31)))
    (l31 : K.lookup f31 = some ⟨oc31, od31, .func (PySem.W.fnOf "check_book" "check_book" (defArgs s_check_book) (defBody s_check_book) (defScope s_check_book) .none kV31 dc31 pm31 an31 cd31 ct31), sl31⟩)
    (c31 : PySem.W.codeIn K cd31 "check_book" = true)
    (k31 : PySem.W.keepIn K (.ref f31) = true)
    (a32 : PySem.W.nsIn K mainGlobals "next_hours" = some (some (.ref f32)))
    (l32 : K.lookup f32 = some ⟨oc32, od32, .func (PySem.W.fnOf "next_hours" "next_hours" (defArgs s_next_hours) (defBody s_next_hours) (defScope s_next_hours) .none kV32 dc32 pm32 an32 cd32 ct32), sl32⟩)
    (c32 : PySem.W.codeIn K cd32 "next_hours" = true)
    (k32 : PySem.W.keepIn K (.ref f32) = true)
    (a33 : PySem.W.findIn K (.ref cState) "__init__" = some (some (.ref f33)))
    (i33 : PySem.W.isFn K (.ref f33) = true)
    (l33 : K.lookup f33 = some ⟨oc33, od33, .func (PySem.W.fnOf "__init__" "State.__init__" (defArgs s_State___init__) (defBody s_State___init__) (defScope s_State___init__) .none kV33 dc33 pm33 an33 cd33 ct33), sl33⟩)
    (c33 : PySem.W.codeIn K cd33 "State.__init__" = true)
    (k33 : PySem.W.keepIn K (.ref f33) = true)
    (a34 : PySem.W.findIn K (.ref cHall) "__init__" = some (some (.ref f34)))
    (i34 : PySem.W.isFn K (.ref f34) = true)
    (l34 : K.lookup f34 = some ⟨oc34, od34, .func (PySem.W.fnOf "__init__" "Hall.__init__" (defArgs s_Hall___init__) (defBody s_Hall___init__) (defScope s_Hall___init__) .none kV34 dc34 pm34 an34 cd34 ct34), sl34⟩)
    (c34 : PySem.W.codeIn K cd34 "Hall.__init__" = true)
    (k34 : PySem.W.keepIn K (.ref f34) = true)
    (a35 : PySem.W.findIn K (.ref cHall) "hours" = some (some (.ref f35)))
    (i35 : PySem.W.isFn K (.ref f35) = true)
    (l35 : K.lookup f35 = some ⟨oc35, od35, .func (PySem.W.fnOf "hours" "Hall.hours" (defArgs s_Hall_hours) (defBody s_Hall_hours) (defScope s_Hall_hours) .none kV35 dc35 pm35 an35 cd35 ct35), sl35⟩)
    (c35 : PySem.W.codeIn K cd35 "Hall.hours" = true)
    (k35 : PySem.W.keepIn K (.ref f35) = true)
    (a36 : PySem.W.findIn K (.ref cHall) "rounds" = some (some (.ref f36)))
    (i36 : PySem.W.isFn K (.ref f36) = true)
    (l36 : K.lookup f36 = some ⟨oc36, od36, .func (PySem.W.fnOf "rounds" "Hall.rounds" (defArgs s_Hall_rounds) (defBody s_Hall_rounds) (defScope s_Hall_rounds) .none kV36 dc36 pm36 an36 cd36 ct36), sl36⟩)
    (c36 : PySem.W.codeIn K cd36 "Hall.rounds" = true)
    (k36 : PySem.W.keepIn K (.ref f36) = true)
    (a37 : PySem.W.findIn K (.ref cHall) "made" = some (some (.ref f37)))
    (i37 : PySem.W.isFn K (.ref f37) = true)
    (l37 : K.lookup f37 = some ⟨oc37, od37, .func (PySem.W.fnOf "made" "Hall.made" (defArgs s_Hall_made) (defBody s_Hall_made) (defScope s_Hall_made) .none kV37 dc37 pm37 an37 cd37 ct37), sl37⟩)
    (c37 : PySem.W.codeIn K cd37 "Hall.made" = true)
    (k37 : PySem.W.keepIn K (.ref f37) = true)
    (a38 : PySem.W.findIn K (.ref cHall) "round" = some (some (.ref f38)))
    (i38 : PySem.W.isFn K (.ref f38) = true)
    (l38 : K.lookup f38 = some ⟨oc38, od38, .func (PySem.W.fnOf "round" "Hall.round" (defArgs s_Hall_round) (defBody s_Hall_round) (defScope s_Hall_round) (.ref T38) kV38 dc38 pm38 an38 cd38 ct38), sl38⟩)
    (c38 : PySem.W.codeIn K cd38 "Hall.round" = true)
    (k38 : PySem.W.keepIn K (.ref f38) = true)
    (t38 : K.lookup T38 = some ⟨ot38, oe38, .seq #[x38_0] z38, sm38⟩)
    (v38 : Vals [.int 1] [x38_0])
    (a39 : PySem.W.findIn K (.ref cHall) "late" = some (some (.ref f39)))
    (i39 : PySem.W.isFn K (.ref f39) = true)
    (l39 : K.lookup f39 = some ⟨oc39, od39, .func (PySem.W.fnOf "late" "Hall.late" (defArgs s_Hall_late) (defBody s_Hall_late) (defScope s_Hall_late) .none kV39 dc39 pm39 an39 cd39 ct39), sl39⟩)
    (c39 : PySem.W.codeIn K cd39 "Hall.late" = true)
    (k39 : PySem.W.keepIn K (.ref f39) = true)
    (a40 : PySem.W.findIn K (.ref cHall) "log" = some (some (.ref f40)))
    (i40 : PySem.W.isFn K (.ref f40) = true)
    (l40 : K.lookup f40 = some ⟨oc40, od40, .func (PySem.W.fnOf "log" "Hall.log" (defArgs s_Hall_log) (defBody s_Hall_log) (defScope s_Hall_log) .none kV40 dc40 pm40 an40 cd40 ct40), sl40⟩)
    (c40 : PySem.W.codeIn K cd40 "Hall.log" = true)
    (k40 : PySem.W.keepIn K (.ref f40) = true)
    (a41 : PySem.W.nsIn K mainGlobals "_law_purse" = some (some (.ref f41)))
    (l41 : K.lookup f41 = some ⟨oc41, od41, .func (PySem.W.fnOf "_law_purse" "_law_purse" (defArgs s__law_purse) (defBody s__law_purse) (defScope s__law_purse) .none kV41 dc41 pm41 an41 cd41 ct41), sl41⟩)
    (c41 : PySem.W.codeIn K cd41 "_law_purse" = true)
    (k41 : PySem.W.keepIn K (.ref f41) = true)
    (a42 : PySem.W.nsIn K mainGlobals "_law_mixed" = some (some (.ref f42)))
    (l42 : K.lookup f42 = some ⟨oc42, od42, .func (PySem.W.fnOf "_law_mixed" "_law_mixed" (defArgs s__law_mixed) (defBody s__law_mixed) (defScope s__law_mixed) .none kV42 dc42 pm42 an42 cd42 ct42), sl42⟩)
    (c42 : PySem.W.codeIn K cd42 "_law_mixed" = true)
    (k42 : PySem.W.keepIn K (.ref f42) = true)
    (a43 : PySem.W.nsIn K mainGlobals "_law_draw" = some (some (.ref f43)))
    (l43 : K.lookup f43 = some ⟨oc43, od43, .func (PySem.W.fnOf "_law_draw" "_law_draw" (defArgs s__law_draw) (defBody s__law_draw) (defScope s__law_draw) .none kV43 dc43 pm43 an43 cd43 ct43), sl43⟩)
    (c43 : PySem.W.codeIn K cd43 "_law_draw" = true)
    (k43 : PySem.W.keepIn K (.ref f43) = true)
    (a44 : PySem.W.nsIn K mainGlobals "_law_purses" = some (some (.ref f44)))
    (l44 : K.lookup f44 = some ⟨oc44, od44, .func (PySem.W.fnOf "_law_purses" "_law_purses" (defArgs s__law_purses) (defBody s__law_purses) (defScope s__law_purses) .none kV44 dc44 pm44 an44 cd44 ct44), sl44⟩)
    (c44 : PySem.W.codeIn K cd44 "_law_purses" = true)
    (k44 : PySem.W.keepIn K (.ref f44) = true)
    (a45 : PySem.W.nsIn K mainGlobals "_law_one_of" = some (some (.ref f45)))
    (l45 : K.lookup f45 = some ⟨oc45, od45, .func (PySem.W.fnOf "_law_one_of" "_law_one_of" (defArgs s__law_one_of) (defBody s__law_one_of) (defScope s__law_one_of) .none kV45 dc45 pm45 an45 cd45 ct45), sl45⟩)
    (c45 : PySem.W.codeIn K cd45 "_law_one_of" = true)
    (k45 : PySem.W.keepIn K (.ref f45) = true)
    (a46 : PySem.W.nsIn K mainGlobals "_law_shuffled" = some (some (.ref f46)))
    (l46 : K.lookup f46 = some ⟨oc46, od46, .func (PySem.W.fnOf "_law_shuffled" "_law_shuffled" (defArgs s__law_shuffled) (defBody s__law_shuffled) (defScope s__law_shuffled) .none kV46 dc46 pm46 an46 cd46 ct46), sl46⟩)
    (c46 : PySem.W.codeIn K cd46 "_law_shuffled" = true)
    (k46 : PySem.W.keepIn K (.ref f46) = true)
    (a47 : PySem.W.nsIn K mainGlobals "_law_word" = some (some (.ref f47)))
    (l47 : K.lookup f47 = some ⟨oc47, od47, .func (PySem.W.fnOf "_law_word" "_law_word" (defArgs s__law_word) (defBody s__law_word) (defScope s__law_word) .none kV47 dc47 pm47 an47 cd47 ct47), sl47⟩)
    (c47 : PySem.W.codeIn K cd47 "_law_word" = true)
    (k47 : PySem.W.keepIn K (.ref f47) = true)
    (a48 : PySem.W.nsIn K mainGlobals "_law_names" = some (some (.ref f48)))
    (l48 : K.lookup f48 = some ⟨oc48, od48, .func (PySem.W.fnOf "_law_names" "_law_names" (defArgs s__law_names) (defBody s__law_names) (defScope s__law_names) .none kV48 dc48 pm48 an48 cd48 ct48), sl48⟩)
    (c48 : PySem.W.codeIn K cd48 "_law_names" = true)
    (k48 : PySem.W.keepIn K (.ref f48) = true)
    (a49 : PySem.W.nsIn K mainGlobals "_law_wait" = some (some (.ref f49)))
    (l49 : K.lookup f49 = some ⟨oc49, od49, .func (PySem.W.fnOf "_law_wait" "_law_wait" (defArgs s__law_wait) (defBody s__law_wait) (defScope s__law_wait) .none kV49 dc49 pm49 an49 cd49 ct49), sl49⟩)
    (c49 : PySem.W.codeIn K cd49 "_law_wait" = true)
    (k49 : PySem.W.keepIn K (.ref f49) = true)
    (a50 : PySem.W.nsIn K mainGlobals "_law_small_wait" = some (some (.ref f50)))
    (l50 : K.lookup f50 = some ⟨oc50, od50, .func (PySem.W.fnOf "_law_small_wait" "_law_small_wait" (defArgs s__law_small_wait) (defBody s__law_small_wait) (defScope s__law_small_wait) .none kV50 dc50 pm50 an50 cd50 ct50), sl50⟩)
    (c50 : PySem.W.codeIn K cd50 "_law_small_wait" = true)
    (k50 : PySem.W.keepIn K (.ref f50) = true)
    (a51 : PySem.W.nsIn K mainGlobals "_law_part" = some (some (.ref f51)))
    (l51 : K.lookup f51 = some ⟨oc51, od51, .func (PySem.W.fnOf "_law_part" "_law_part" (defArgs s__law_part) (defBody s__law_part) (defScope s__law_part) .none kV51 dc51 pm51 an51 cd51 ct51), sl51⟩)
    (c51 : PySem.W.codeIn K cd51 "_law_part" = true)
    (k51 : PySem.W.keepIn K (.ref f51) = true)
    (a52 : PySem.W.nsIn K mainGlobals "_law_term" = some (some (.ref f52)))
    (l52 : K.lookup f52 = some ⟨oc52, od52, .func (PySem.W.fnOf "_law_term" "_law_term" (defArgs s__law_term) (defBody s__law_term) (defScope s__law_term) .none kV52 dc52 pm52 an52 cd52 ct52), sl52⟩)
    (c52 : PySem.W.codeIn K cd52 "_law_term" = true)
    (k52 : PySem.W.keepIn K (.ref f52) = true)
    (a53 : PySem.W.nsIn K mainGlobals "_law_many_parts" = some (some (.ref f53)))
    (l53 : K.lookup f53 = some ⟨oc53, od53, .func (PySem.W.fnOf "_law_many_parts" "_law_many_parts" (defArgs s__law_many_parts) (defBody s__law_many_parts) (defScope s__law_many_parts) .none kV53 dc53 pm53 an53 cd53 ct53), sl53⟩)
    (c53 : PySem.W.codeIn K cd53 "_law_many_parts" = true)
    (k53 : PySem.W.keepIn K (.ref f53) = true)
    (a54 : PySem.W.nsIn K mainGlobals "_law_book_rules" = some (some (.ref f54)))
    (l54 : K.lookup f54 = some ⟨oc54, od54, .func (PySem.W.fnOf "_law_book_rules" "_law_book_rules" (defArgs s__law_book_rules) (defBody s__law_book_rules) (defScope s__law_book_rules) .none kV54 dc54 pm54 an54 cd54 ct54), sl54⟩)
    (c54 : PySem.W.codeIn K cd54 "_law_book_rules" = true)
    (k54 : PySem.W.keepIn K (.ref f54) = true)
    (a55 : PySem.W.nsIn K mainGlobals "_law_hours" = some (some (.ref f55)))
    (l55 : K.lookup f55 = some ⟨oc55, od55, .func (PySem.W.fnOf "_law_hours" "_law_hours" (defArgs s__law_hours) (defBody s__law_hours) (defScope s__law_hours) .none kV55 dc55 pm55 an55 cd55 ct55), sl55⟩)
    (c55 : PySem.W.codeIn K cd55 "_law_hours" = true)
    (k55 : PySem.W.keepIn K (.ref f55) = true)
    (a56 : PySem.W.nsIn K mainGlobals "_law_told" = some (some (.ref f56)))
    (l56 : K.lookup f56 = some ⟨oc56, od56, .func (PySem.W.fnOf "_law_told" "_law_told" (defArgs s__law_told) (defBody s__law_told) (defScope s__law_told) .none kV56 dc56 pm56 an56 cd56 ct56), sl56⟩)
    (c56 : PySem.W.codeIn K cd56 "_law_told" = true)
    (k56 : PySem.W.keepIn K (.ref f56) = true)
    (a57 : PySem.W.nsIn K mainGlobals "_law_words_of" = some (some (.ref f57)))
    (l57 : K.lookup f57 = some ⟨oc57, od57, .func (PySem.W.fnOf "_law_words_of" "_law_words_of" (defArgs s__law_words_of) (defBody s__law_words_of) (defScope s__law_words_of) .none kV57 dc57 pm57 an57 cd57 ct57), sl57⟩)
    (c57 : PySem.W.codeIn K cd57 "_law_words_of" = true)
    (k57 : PySem.W.keepIn K (.ref f57) = true)
    (a58 : PySem.W.nsIn K mainGlobals "_law_turn" = some (some (.ref f58)))
    (l58 : K.lookup f58 = some ⟨oc58, od58, .func (PySem.W.fnOf "_law_turn" "_law_turn" (defArgs s__law_turn) (defBody s__law_turn) (defScope s__law_turn) .none kV58 dc58 pm58 an58 cd58 ct58), sl58⟩)
    (c58 : PySem.W.codeIn K cd58 "_law_turn" = true)
    (k58 : PySem.W.keepIn K (.ref f58) = true)
    (a59 : PySem.W.nsIn K mainGlobals "_law_behind" = some (some (.ref f59)))
    (l59 : K.lookup f59 = some ⟨oc59, od59, .func (PySem.W.fnOf "_law_behind" "_law_behind" (defArgs s__law_behind) (defBody s__law_behind) (defScope s__law_behind) .none kV59 dc59 pm59 an59 cd59 ct59), sl59⟩)
    (c59 : PySem.W.codeIn K cd59 "_law_behind" = true)
    (k59 : PySem.W.keepIn K (.ref f59) = true)
    (a60 : PySem.W.nsIn K mainGlobals "_law_hall_world" = some (some (.ref f60)))
    (l60 : K.lookup f60 = some ⟨oc60, od60, .func (PySem.W.fnOf "_law_hall_world" "_law_hall_world" (defArgs s__law_hall_world) (defBody s__law_hall_world) (defScope s__law_hall_world) .none kV60 dc60 pm60 an60 cd60 ct60), sl60⟩)
    (c60 : PySem.W.codeIn K cd60 "_law_hall_world" = true)
    (k60 : PySem.W.keepIn K (.ref f60) = true)
    (a61 : PySem.W.nsIn K mainGlobals "_law_moved" = some (some (.ref f61)))
    (l61 : K.lookup f61 = some ⟨oc61, od61, .func (PySem.W.fnOf "_law_moved" "_law_moved" (defArgs s__law_moved) (defBody s__law_moved) (defScope s__law_moved) .none kV61 dc61 pm61 an61 cd61 ct61), sl61⟩)
    (c61 : PySem.W.codeIn K cd61 "_law_moved" = true)
    (k61 : PySem.W.keepIn K (.ref f61) = true)
    (a62 : PySem.W.nsIn K mainGlobals "_law_rounds_right" = some (some (.ref f62)))
    (l62 : K.lookup f62 = some ⟨oc62, od62, .func (PySem.W.fnOf "_law_rounds_right" "_law_rounds_right" (defArgs s__law_rounds_right) (defBody s__law_rounds_right) (defScope s__law_rounds_right) .none kV62 dc62 pm62 an62 cd62 ct62), sl62⟩)
    (c62 : PySem.W.codeIn K cd62 "_law_rounds_right" = true)
    (k62 : PySem.W.keepIn K (.ref f62) = true)
    (a63 : PySem.W.nsIn K mainGlobals "_law_one_late_right" = some (some (.ref f63)))
    (l63 : K.lookup f63 = some ⟨oc63, od63, .func (PySem.W.fnOf "_law_one_late_right" "_law_one_late_right" (defArgs s__law_one_late_right) (defBody s__law_one_late_right) (defScope s__law_one_late_right) .none kV63 dc63 pm63 an63 cd63 ct63), sl63⟩)
    (c63 : PySem.W.codeIn K cd63 "_law_one_late_right" = true)
    (k63 : PySem.W.keepIn K (.ref f63) = true)
    (a64 : PySem.W.nsIn K mainGlobals "law" = some (some (.ref f64)))
    (l64 : K.lookup f64 = some ⟨oc64, od64, .func (PySem.W.fnOf "law" "law" (defArgs s_law) (defBody s_law) (defScope s_law) .none kV64 dc64 pm64 an64 cd64 ct64), sl64⟩)
    (c64 : PySem.W.codeIn K cd64 "law" = true)
    (k64 : PySem.W.keepIn K (.ref f64) = true)
    (pgBook : PySem.W.plainGet K cBook Str.empty = true)
    (hdBook : PySem.W.hasDictIn K cBook = true)
    (poBook : PySem.W.plainOver K cBook = true)
    (saBook : PySem.W.findIn K (.ref cBook) "__setattr__" = some (some (.builtin "object.__setattr__")))
    (haBook : PySem.W.findIn K (.ref cBook) "__class__" = some (some (.builtin "object.__class__")))
    (hmBook : PySem.W.mroIn K cBook (.type "object") = some true)
    (mkBook : PySem.W.makesIn K cBook = true)
    (kcBook : PySem.W.keepIn K (.ref cBook) = true)
    (pgHall : PySem.W.plainGet K cHall Str.empty = true)
    (hdHall : PySem.W.hasDictIn K cHall = true)
    (poHall : PySem.W.plainOver K cHall = true)
    (saHall : PySem.W.findIn K (.ref cHall) "__setattr__" = some (some (.builtin "object.__setattr__")))
    (haHall : PySem.W.findIn K (.ref cHall) "__class__" = some (some (.builtin "object.__class__")))
    (hmHall : PySem.W.mroIn K cHall (.type "object") = some true)
    (mkHall : PySem.W.makesIn K cHall = true)
    (kcHall : PySem.W.keepIn K (.ref cHall) = true)
    (pgRule : PySem.W.plainGet K cRule Str.empty = true)
    (hdRule : PySem.W.hasDictIn K cRule = true)
    (poRule : PySem.W.plainOver K cRule = true)
    (saRule : PySem.W.findIn K (.ref cRule) "__setattr__" = some (some (.builtin "object.__setattr__")))
    (haRule : PySem.W.findIn K (.ref cRule) "__class__" = some (some (.builtin "object.__class__")))
    (hmRule : PySem.W.mroIn K cRule (.type "object") = some true)
    (mkRule : PySem.W.makesIn K cRule = true)
    (kcRule : PySem.W.keepIn K (.ref cRule) = true)
    (pgState : PySem.W.plainGet K cState Str.empty = true)
    (hdState : PySem.W.hasDictIn K cState = true)
    (poState : PySem.W.plainOver K cState = true)
    (saState : PySem.W.findIn K (.ref cState) "__setattr__" = some (some (.builtin "object.__setattr__")))
    (haState : PySem.W.findIn K (.ref cState) "__class__" = some (some (.builtin "object.__class__")))
    (hmState : PySem.W.mroIn K cState (.type "object") = some true)
    (mkState : PySem.W.makesIn K cState = true)
    (kcState : PySem.W.keepIn K (.ref cState) = true)
    (hn : PySem.W.specialIn K (.builtin "object.__class__") "__get__" = some (some (.builtin "getset_descriptor.__get__")))
    (ht : PySem.W.takesIn K (.builtin "object.__class__") = some true)
    (nF_Book_every : PySem.W.findIn K (.ref cBook) "every" = some none)
    (nF_Hall_later : PySem.W.findIn K (.ref cHall) "later" = some none)
    (nF_Hall_past : PySem.W.findIn K (.ref cHall) "past" = some none)
    (nF_Hall_state : PySem.W.findIn K (.ref cHall) "state" = some none)
    (nF_Rule_form : PySem.W.findIn K (.ref cRule) "form" = some none)
    (nF_State_book_now : PySem.W.findIn K (.ref cState) "book_now" = some none)
    (nF_State_hours_now : PySem.W.findIn K (.ref cState) "hours_now" = some none)
    (nF_State_rounds_now : PySem.W.findIn K (.ref cState) "rounds_now" = some none)
    (vL : PySem.W.nsIn K mainGlobals "LETTERS" = some (some (.str "abcdefghijklmnopqrstuvwxyz" tL)))
    (z_isinstance : PySem.W.nsIn K mainGlobals "isinstance" = some none)
    (z_len : PySem.W.nsIn K mainGlobals "len" = some none)
    (z_str : PySem.W.nsIn K mainGlobals "str" = some none)
    (z_int : PySem.W.nsIn K mainGlobals "int" = some none)
    (z_bool : PySem.W.nsIn K mainGlobals "bool" = some none)
    (z_list : PySem.W.nsIn K mainGlobals "list" = some none)
    (z_tuple : PySem.W.nsIn K mainGlobals "tuple" = some none)
    (z_dict : PySem.W.nsIn K mainGlobals "dict" = some none)
    (z_set : PySem.W.nsIn K mainGlobals "set" = some none)
    (z_range : PySem.W.nsIn K mainGlobals "range" = some none)
    (z_max : PySem.W.nsIn K mainGlobals "max" = some none)
    (z_min : PySem.W.nsIn K mainGlobals "min" = some none)
    (z_sum : PySem.W.nsIn K mainGlobals "sum" = some none)
    (z_sorted : PySem.W.nsIn K mainGlobals "sorted" = some none)
    (z_enumerate : PySem.W.nsIn K mainGlobals "enumerate" = some none) : Txt K mg := by
  have eBook : fa mg "Book" = cBook := by unfold fa; rw [PySem.W.mg_of X G aBook]
  have eHall : fa mg "Hall" = cHall := by unfold fa; rw [PySem.W.mg_of X G aHall]
  have eRule : fa mg "Rule" = cRule := by unfold fa; rw [PySem.W.mg_of X G aRule]
  have eState : fa mg "State" = cState := by unfold fa; rw [PySem.W.mg_of X G aState]
  have D5 : DDef K "check_count" "check_count" s_check_count P_check_count f5 [.int 0, V.non] := ddef_mk l5 c5 k5 t5 rfl v5 (by simp) (by
    intro kV doc pm an cdv ct j us hj hl
    have hj : j ≤ 2 := hj
    have hl : us.length + (2 - j) = 3 := hl
    have hc : j = 0 ∨ j = 1 ∨ j = 2 := by omega
    rcases hc with rfl | rfl | rfl
    · have hl : us.length = 1 := by omega
      match us, hl with | [_], _ => exact ⟨_, rfl, rfl⟩
    · have hl : us.length = 2 := by omega
      match us, hl with | [_, _], _ => exact ⟨_, rfl, rfl⟩
    · have hl : us.length = 3 := by omega
      match us, hl with | [_, _, _], _ => exact ⟨_, rfl, rfl⟩)
  have D21 : DDef K "told" "told" s_told P_told f21 [V.non] := ddef_mk l21 c21 k21 t21 rfl v21 (by simp) (by
    intro kV doc pm an cdv ct j us hj hl
    have hj : j ≤ 1 := hj
    have hl : us.length + (1 - j) = 3 := hl
    have hc : j = 0 ∨ j = 1 := by omega
    rcases hc with rfl | rfl
    · have hl : us.length = 2 := by omega
      match us, hl with | [_, _], _ => exact ⟨_, rfl, rfl⟩
    · have hl : us.length = 3 := by omega
      match us, hl with | [_, _, _], _ => exact ⟨_, rfl, rfl⟩)
  have D38 : DDef K "round" "Hall.round" s_Hall_round P_Hall_round f38 [.int 1] := ddef_mk l38 c38 k38 t38 rfl v38 (by simp) (by
    intro kV doc pm an cdv ct j us hj hl
    have hj : j ≤ 1 := hj
    have hl : us.length + (1 - j) = 2 := hl
    have hc : j = 0 ∨ j = 1 := by omega
    rcases hc with rfl | rfl
    · have hl : us.length = 1 := by omega
      match us, hl with | [_], _ => exact ⟨_, rfl, rfl⟩
    · have hl : us.length = 2 := by omega
      match us, hl with | [_, _], _ => exact ⟨_, rfl, rfl⟩)
  exact
    { d_is_name := df_of X G (fun _ _ _ _ _ _ us hl => match us, hl with | [_], _ => rfl) a1 l1 c1 k1
      d_is_whole := df_of X G (fun _ _ _ _ _ _ us hl => match us, hl with | [_], _ => rfl) a2 l2 c2 k2
      d_is_count := df_of X G (fun _ _ _ _ _ _ us hl => match us, hl with | [_], _ => rfl) a3 l3 c3 k3
      d_is_hours := df_of X G (fun _ _ _ _ _ _ us hl => match us, hl with | [_], _ => rfl) a4 l4 c4 k4
      d_check_count := ⟨by rw [show fa mg "check_count" = f5 by unfold fa; rw [PySem.W.mg_of X G a5]]; exact PySem.W.mg_of X G a5, by rw [show fa mg "check_count" = f5 by unfold fa; rw [PySem.W.mg_of X G a5]]; exact D5⟩
      d_check_hours := df_of X G (fun _ _ _ _ _ _ us hl => match us, hl with | [_, _], _ => rfl) a6 l6 c6 k6
      d_check_just_hours := df_of X G (fun _ _ _ _ _ _ us hl => match us, hl with | [_, _], _ => rfl) a7 l7 c7 k7
      d_check_known := df_of X G (fun _ _ _ _ _ _ us hl => match us, hl with | [_, _], _ => rfl) a8 l8 c8 k8
      d_Rule___init__ := by rw [eRule]; exact mf_of (fun _ _ _ _ _ _ us hl => match us, hl with | [_, _], _ => rfl) a9 i9 l9 c9 k9
      d_Rule_term := by rw [eRule]; exact mf_of (fun _ _ _ _ _ _ us hl => match us, hl with | [_], _ => rfl) a10 i10 l10 c10 k10
      d_Rule___eq__ := by rw [eRule]; exact mf_of (fun _ _ _ _ _ _ us hl => match us, hl with | [_, _], _ => rfl) a11 i11 l11 c11 k11
      d_are_terms := df_of X G (fun _ _ _ _ _ _ us hl => match us, hl with | [_], _ => rfl) a12 l12 c12 k12
      d_is_term := df_of X G (fun _ _ _ _ _ _ us hl => match us, hl with | [_], _ => rfl) a13 l13 c13 k13
      d_is_part := df_of X G (fun _ _ _ _ _ _ us hl => match us, hl with | [_], _ => rfl) a14 l14 c14 k14
      d_with_inside := df_of X G (fun _ _ _ _ _ _ us hl => match us, hl with | [_, _], _ => rfl) a15 l15 c15 k15
      d_copied := df_of X G (fun _ _ _ _ _ _ us hl => match us, hl with | [_], _ => rfl) a16 l16 c16 k16
      d_check_rule := df_of X G (fun _ _ _ _ _ _ us hl => match us, hl with | [_], _ => rfl) a17 l17 c17 k17
      d_names_by := df_of X G (fun _ _ _ _ _ _ us hl => match us, hl with | [_, _], _ => rfl) a18 l18 c18 k18
      d_check_told_hours := df_of X G (fun _ _ _ _ _ _ us hl => match us, hl with | [_, _, _], _ => rfl) a19 l19 c19 k19
      d_hour_of_term := df_of X G (fun _ _ _ _ _ _ us hl => match us, hl with | [_, _, _], _ => rfl) a20 l20 c20 k20
      d_told := ⟨by rw [show fa mg "told" = f21 by unfold fa; rw [PySem.W.mg_of X G a21]]; exact PySem.W.mg_of X G a21, by rw [show fa mg "told" = f21 by unfold fa; rw [PySem.W.mg_of X G a21]]; exact D21⟩
      d_named := df_of X G (fun _ _ _ _ _ _ us hl => match us, hl with | [_], _ => rfl) a22 l22 c22 k22
      d_parts_from := df_of X G (fun _ _ _ _ _ _ us hl => match us, hl with | [_, _], _ => rfl) a23 l23 c23 k23
      d_are_rules := df_of X G (fun _ _ _ _ _ _ us hl => match us, hl with | [_], _ => rfl) a24 l24 c24 k24
      d_hangs_of := df_of X G (fun _ _ _ _ _ _ us hl => match us, hl with | [_], _ => rfl) a25 l25 c25 k25
      d_ring_of := df_of X G (fun _ _ _ _ _ _ us hl => match us, hl with | [_], _ => rfl) a26 l26 c26 k26
      d_are_whole := df_of X G (fun _ _ _ _ _ _ us hl => match us, hl with | [_], _ => rfl) a27 l27 c27 k27
      d_in_turn := df_of X G (fun _ _ _ _ _ _ us hl => match us, hl with | [_], _ => rfl) a28 l28 c28 k28
      d_Book___init__ := by rw [eBook]; exact mf_of (fun _ _ _ _ _ _ us hl => match us, hl with | [_, _], _ => rfl) a29 i29 l29 c29 k29
      d_Book_names := by rw [eBook]; exact mf_of (fun _ _ _ _ _ _ us hl => match us, hl with | [_], _ => rfl) a30 i30 l30 c30 k30
      d_check_book := df_of X G (fun _ _ _ _ _ _ us hl => match us, hl with | [_], _ => rfl) a31 l31 c31 k31
      d_next_hours := df_of X G (fun _ _ _ _ _ _ us hl => match us, hl with | [_, _], _ => rfl) a32 l32 c32 k32
      d_State___init__ := by rw [eState]; exact mf_of (fun _ _ _ _ _ _ us hl => match us, hl with | [_, _, _, _], _ => rfl) a33 i33 l33 c33 k33
      d_Hall___init__ := by rw [eHall]; exact mf_of (fun _ _ _ _ _ _ us hl => match us, hl with | [_, _, _], _ => rfl) a34 i34 l34 c34 k34
      d_Hall_hours := by rw [eHall]; exact mf_of (fun _ _ _ _ _ _ us hl => match us, hl with | [_], _ => rfl) a35 i35 l35 c35 k35
      d_Hall_rounds := by rw [eHall]; exact mf_of (fun _ _ _ _ _ _ us hl => match us, hl with | [_], _ => rfl) a36 i36 l36 c36 k36
      d_Hall_made := by rw [eHall]; exact mf_of (fun _ _ _ _ _ _ us hl => match us, hl with | [_, _, _, _, _], _ => rfl) a37 i37 l37 c37 k37
      d_Hall_round := by rw [eHall]; exact ⟨by rw [show ma K cHall "round" = f38 by unfold ma; rw [a38]]; exact ⟨a38, i38, k38⟩, by rw [show ma K cHall "round" = f38 by unfold ma; rw [a38]]; exact D38⟩
      d_Hall_late := by rw [eHall]; exact mf_of (fun _ _ _ _ _ _ us hl => match us, hl with | [_, _, _], _ => rfl) a39 i39 l39 c39 k39
      d_Hall_log := by rw [eHall]; exact mf_of (fun _ _ _ _ _ _ us hl => match us, hl with | [_], _ => rfl) a40 i40 l40 c40 k40
      d__law_purse := df_of X G (fun _ _ _ _ _ _ us hl => match us, hl with | [_, _], _ => rfl) a41 l41 c41 k41
      d__law_mixed := df_of X G (fun _ _ _ _ _ _ us hl => match us, hl with | [_, _, _], _ => rfl) a42 l42 c42 k42
      d__law_draw := df_of X G (fun _ _ _ _ _ _ us hl => match us, hl with | [_, _], _ => rfl) a43 l43 c43 k43
      d__law_purses := df_of X G (fun _ _ _ _ _ _ us hl => match us, hl with | [_, _], _ => rfl) a44 l44 c44 k44
      d__law_one_of := df_of X G (fun _ _ _ _ _ _ us hl => match us, hl with | [_, _], _ => rfl) a45 l45 c45 k45
      d__law_shuffled := df_of X G (fun _ _ _ _ _ _ us hl => match us, hl with | [_, _], _ => rfl) a46 l46 c46 k46
      d__law_word := df_of X G (fun _ _ _ _ _ _ us hl => match us, hl with | [_], _ => rfl) a47 l47 c47 k47
      d__law_names := df_of X G (fun _ _ _ _ _ _ us hl => match us, hl with | [_, _], _ => rfl) a48 l48 c48 k48
      d__law_wait := df_of X G (fun _ _ _ _ _ _ us hl => match us, hl with | [_], _ => rfl) a49 l49 c49 k49
      d__law_small_wait := df_of X G (fun _ _ _ _ _ _ us hl => match us, hl with | [_], _ => rfl) a50 l50 c50 k50
      d__law_part := df_of X G (fun _ _ _ _ _ _ us hl => match us, hl with | [_, _, _, _], _ => rfl) a51 l51 c51 k51
      d__law_term := df_of X G (fun _ _ _ _ _ _ us hl => match us, hl with | [_, _, _, _, _], _ => rfl) a52 l52 c52 k52
      d__law_many_parts := df_of X G (fun _ _ _ _ _ _ us hl => match us, hl with | [_, _], _ => rfl) a53 l53 c53 k53
      d__law_book_rules := df_of X G (fun _ _ _ _ _ _ us hl => match us, hl with | [_, _, _, _], _ => rfl) a54 l54 c54 k54
      d__law_hours := df_of X G (fun _ _ _ _ _ _ us hl => match us, hl with | [_, _], _ => rfl) a55 l55 c55 k55
      d__law_told := df_of X G (fun _ _ _ _ _ _ us hl => match us, hl with | [_, _, _], _ => rfl) a56 l56 c56 k56
      d__law_words_of := df_of X G (fun _ _ _ _ _ _ us hl => match us, hl with | [_], _ => rfl) a57 l57 c57 k57
      d__law_turn := df_of X G (fun _ _ _ _ _ _ us hl => match us, hl with | [_], _ => rfl) a58 l58 c58 k58
      d__law_behind := df_of X G (fun _ _ _ _ _ _ us hl => match us, hl with | [_, _], _ => rfl) a59 l59 c59 k59
      d__law_hall_world := df_of X G (fun _ _ _ _ _ _ us hl => match us, hl with | [_, _, _], _ => rfl) a60 l60 c60 k60
      d__law_moved := df_of X G (fun _ _ _ _ _ _ us hl => match us, hl with | [_, _, _], _ => rfl) a61 l61 c61 k61
      d__law_rounds_right := df_of X G (fun _ _ _ _ _ _ us hl => match us, hl with | [_, _, _], _ => rfl) a62 l62 c62 k62
      d__law_one_late_right := df_of X G (fun _ _ _ _ _ _ us hl => match us, hl with | [_, _, _], _ => rfl) a63 l63 c63 k63
      d_law := df_of X G (fun _ _ _ _ _ _ us hl => match us, hl with | [_], _ => rfl) a64 l64 c64 k64
      n_Book_every := by rw [eBook]; exact nF_Book_every
      n_Hall_later := by rw [eHall]; exact nF_Hall_later
      n_Hall_past := by rw [eHall]; exact nF_Hall_past
      n_Hall_state := by rw [eHall]; exact nF_Hall_state
      n_Rule_form := by rw [eRule]; exact nF_Rule_form
      n_State_book_now := by rw [eState]; exact nF_State_book_now
      n_State_hours_now := by rw [eState]; exact nF_State_hours_now
      n_State_rounds_now := by rw [eState]; exact nF_State_rounds_now
      v_LETTERS := ⟨tL, PySem.W.mg_of X G vL⟩
      isinstance := PySem.W.mg_none_of X G z_isinstance
      len := PySem.W.mg_none_of X G z_len
      str := PySem.W.mg_none_of X G z_str
      int := PySem.W.mg_none_of X G z_int
      bool := PySem.W.mg_none_of X G z_bool
      list := PySem.W.mg_none_of X G z_list
      tuple := PySem.W.mg_none_of X G z_tuple
      dict := PySem.W.mg_none_of X G z_dict
      set := PySem.W.mg_none_of X G z_set
      range := PySem.W.mg_none_of X G z_range
      max := PySem.W.mg_none_of X G z_max
      min := PySem.W.mg_none_of X G z_min
      sum := PySem.W.mg_none_of X G z_sum
      sorted := PySem.W.mg_none_of X G z_sorted
      enumerate := PySem.W.mg_none_of X G z_enumerate
      m_Book := by rw [eBook]; exact PySem.W.mg_of X G aBook
      c_Book := by rw [eBook]; exact ⟨⟨pgBook, hdBook, poBook, saBook⟩, haBook, hn, ht, hmBook⟩
      k_Book := by rw [eBook, show ma K cBook "__init__" = f29 by unfold ma; rw [a29]]; exact ⟨mkBook, a29, i29, kcBook⟩
      m_Hall := by rw [eHall]; exact PySem.W.mg_of X G aHall
      c_Hall := by rw [eHall]; exact ⟨⟨pgHall, hdHall, poHall, saHall⟩, haHall, hn, ht, hmHall⟩
      k_Hall := by rw [eHall, show ma K cHall "__init__" = f34 by unfold ma; rw [a34]]; exact ⟨mkHall, a34, i34, kcHall⟩
      m_Rule := by rw [eRule]; exact PySem.W.mg_of X G aRule
      c_Rule := by rw [eRule]; exact ⟨⟨pgRule, hdRule, poRule, saRule⟩, haRule, hn, ht, hmRule⟩
      k_Rule := by rw [eRule, show ma K cRule "__init__" = f9 by unfold ma; rw [a9]]; exact ⟨mkRule, a9, i9, kcRule⟩
      m_State := by rw [eState]; exact PySem.W.mg_of X G aState
      c_State := by rw [eState]; exact ⟨⟨pgState, hdState, poState, saState⟩, haState, hn, ht, hmState⟩
      k_State := by rw [eState, show ma K cState "__init__" = f33 by unfold ma; rw [a33]]; exact ⟨mkState, a33, i33, kcState⟩ }
end K78
open PySem PySem.W PyProof.Rows in
set_option maxRecDepth 100000 in
set_option maxHeartbeats 0 in
theorem PySem.Challenge.cw_whosepace_k78_whole_rounds_and_lates_holds : PySem.Challenge.rw_whosepace_k78_whole_rounds_and_lates.Holds := by
  w_on; o_law; k_head; (case hw => w_witness2)
  k_fill
  refine K78.walkL (l := PySem.Challenge.rw_whosepace_k78_whole_rounds_and_lates) rfl rfl rfl (fun w h Y => PySem.W.kIn_of Y) ?F
  case F =>
    intro w mg h X G
    refine' K78.all_mk X G ?aBook ?aHall ?aRule ?aState ?a1 ?l1 ?c1 ?k1 ?a2 ?l2 ?c2 ?k2 ?a3 ?l3 ?c3 ?k3 ?a4 ?l4 ?c4 ?k4 ?a5 ?l5 ?c5 ?k5 ?t5 ?v5 ?a6 ?l6 ?c6 ?k6 ?a7 ?l7 ?c7 ?k7 ?a8 ?l8 ?c8 ?k8 ?a9 ?i9 ?l9 ?c9 ?k9 ?a10 ?i10 ?l10 ?c10 ?k10 ?a11 ?i11 ?l11 ?c11 ?k11 ?a12 ?l12 ?c12 ?k12 ?a13 ?l13 ?c13 ?k13 ?a14 ?l14 ?c14 ?k14 ?a15 ?l15 ?c15 ?k15 ?a16 ?l16 ?c16 ?k16 ?a17 ?l17 ?c17 ?k17 ?a18 ?l18 ?c18 ?k18 ?a19 ?l19 ?c19 ?k19 ?a20 ?l20 ?c20 ?k20 ?a21 ?l21 ?c21 ?k21 ?t21 ?v21 ?a22 ?l22 ?c22 ?k22 ?a23 ?l23 ?c23 ?k23 ?a24 ?l24 ?c24 ?k24 ?a25 ?l25 ?c25 ?k25 ?a26 ?l26 ?c26 ?k26 ?a27 ?l27 ?c27 ?k27 ?a28 ?l28 ?c28 ?k28 ?a29 ?i29 ?l29 ?c29 ?k29 ?a30 ?i30 ?l30 ?c30 ?k30 ?a31 ?l31 ?c31 ?k31 ?a32 ?l32 ?c32 ?k32 ?a33 ?i33 ?l33 ?c33 ?k33 ?a34 ?i34 ?l34 ?c34 ?k34 ?a35 ?i35 ?l35 ?c35 ?k35 ?a36 ?i36 ?l36 ?c36 ?k36 ?a37 ?i37 ?l37 ?c37 ?k37 ?a38 ?i38 ?l38 ?c38 ?k38 ?t38 ?v38 ?a39 ?i39 ?l39 ?c39 ?k39 ?a40 ?i40 ?l40 ?c40 ?k40 ?a41 ?l41 ?c41 ?k41 ?a42 ?l42 ?c42 ?k42 ?a43 ?l43 ?c43 ?k43 ?a44 ?l44 ?c44 ?k44 ?a45 ?l45 ?c45 ?k45 ?a46 ?l46 ?c46 ?k46 ?a47 ?l47 ?c47 ?k47 ?a48 ?l48 ?c48 ?k48 ?a49 ?l49 ?c49 ?k49 ?a50 ?l50 ?c50 ?k50 ?a51 ?l51 ?c51 ?k51 ?a52 ?l52 ?c52 ?k52 ?a53 ?l53 ?c53 ?k53 ?a54 ?l54 ?c54 ?k54 ?a55 ?l55 ?c55 ?k55 ?a56 ?l56 ?c56 ?k56 ?a57 ?l57 ?c57 ?k57 ?a58 ?l58 ?c58 ?k58 ?a59 ?l59 ?c59 ?k59 ?a60 ?l60 ?c60 ?k60 ?a61 ?l61 ?c61 ?k61 ?a62 ?l62 ?c62 ?k62 ?a63 ?l63 ?c63 ?k63 ?a64 ?l64 ?c64 ?k64 ?pgBook ?hdBook ?poBook ?saBook ?haBook ?hmBook ?mkBook ?kcBook ?pgHall ?hdHall ?poHall ?saHall ?haHall ?hmHall ?mkHall ?kcHall ?pgRule ?hdRule ?poRule ?saRule ?haRule ?hmRule ?mkRule ?kcRule ?pgState ?hdState ?poState ?saState ?haState ?hmState ?mkState ?kcState ?hn ?ht ?nF_Book_every ?nF_Hall_later ?nF_Hall_past ?nF_Hall_state ?nF_Rule_form ?nF_State_book_now ?nF_State_hours_now ?nF_State_rounds_now ?vL ?z_isinstance ?z_len ?z_str ?z_int ?z_bool ?z_list ?z_tuple ?z_dict ?z_set ?z_range ?z_max ?z_min ?z_sum ?z_sorted ?z_enumerate
    (case aBook => k_is)
    (case aHall => k_is)
    (case aRule => k_is)
    (case aState => k_is)
    (case a1 => k_is)
    (case l1 => k_is)
    (case c1 => k_is)
    (case k1 => k_is)
    (case a2 => k_is)
    (case l2 => k_is)
    (case c2 => k_is)
    (case k2 => k_is)
    (case a3 => k_is)
    (case l3 => k_is)
    (case c3 => k_is)
    (case k3 => k_is)
    (case a4 => k_is)
    (case l4 => k_is)
    (case c4 => k_is)
    (case k4 => k_is)
    (case a5 => k_is)
    (case l5 => k_is)
    (case c5 => k_is)
    (case k5 => k_is)
    (case t5 => k_is)
    (case v5 => exact (.cons ⟨_, rfl⟩ (.cons rfl .nil)))
    (case a6 => k_is)
    (case l6 => k_is)
    (case c6 => k_is)
    (case k6 => k_is)
    (case a7 => k_is)
    (case l7 => k_is)
    (case c7 => k_is)
    (case k7 => k_is)
    (case a8 => k_is)
    (case l8 => k_is)
    (case c8 => k_is)
    (case k8 => k_is)
    (case a9 => k_is)
    (case i9 => k_is)
    (case l9 => k_is)
    (case c9 => k_is)
    (case k9 => k_is)
    (case a10 => k_is)
    (case i10 => k_is)
    (case l10 => k_is)
    (case c10 => k_is)
    (case k10 => k_is)
    (case a11 => k_is)
    (case i11 => k_is)
    (case l11 => k_is)
    (case c11 => k_is)
    (case k11 => k_is)
    (case a12 => k_is)
    (case l12 => k_is)
    (case c12 => k_is)
    (case k12 => k_is)
    (case a13 => k_is)
    (case l13 => k_is)
    (case c13 => k_is)
    (case k13 => k_is)
    (case a14 => k_is)
    (case l14 => k_is)
    (case c14 => k_is)
    (case k14 => k_is)
    (case a15 => k_is)
    (case l15 => k_is)
    (case c15 => k_is)
    (case k15 => k_is)
    (case a16 => k_is)
    (case l16 => k_is)
    (case c16 => k_is)
    (case k16 => k_is)
    (case a17 => k_is)
    (case l17 => k_is)
    (case c17 => k_is)
    (case k17 => k_is)
    (case a18 => k_is)
    (case l18 => k_is)
    (case c18 => k_is)
    (case k18 => k_is)
    (case a19 => k_is)
    (case l19 => k_is)
    (case c19 => k_is)
    (case k19 => k_is)
    (case a20 => k_is)
    (case l20 => k_is)
    (case c20 => k_is)
    (case k20 => k_is)
    (case a21 => k_is)
    (case l21 => k_is)
    (case c21 => k_is)
    (case k21 => k_is)
    (case t21 => k_is)
    (case v21 => exact (.cons rfl .nil))
    (case a22 => k_is)
    (case l22 => k_is)
    (case c22 => k_is)
    (case k22 => k_is)
    (case a23 => k_is)
    (case l23 => k_is)
    (case c23 => k_is)
    (case k23 => k_is)
    (case a24 => k_is)
    (case l24 => k_is)
    (case c24 => k_is)
    (case k24 => k_is)
    (case a25 => k_is)
    (case l25 => k_is)
    (case c25 => k_is)
    (case k25 => k_is)
    (case a26 => k_is)
    (case l26 => k_is)
    (case c26 => k_is)
    (case k26 => k_is)
    (case a27 => k_is)
    (case l27 => k_is)
    (case c27 => k_is)
    (case k27 => k_is)
    (case a28 => k_is)
    (case l28 => k_is)
    (case c28 => k_is)
    (case k28 => k_is)
    (case a29 => k_is)
    (case i29 => k_is)
    (case l29 => k_is)
    (case c29 => k_is)
    (case k29 => k_is)
    (case a30 => k_is)
    (case i30 => k_is)
    (case l30 => k_is)
    (case c30 => k_is)
    (case k30 => k_is)
    (case a31 => k_is)
    (case l31 => k_is)
    (case c31 => k_is)
    (case k31 => k_is)
    (case a32 => k_is)
    (case l32 => k_is)
    (case c32 => k_is)
    (case k32 => k_is)
    (case a33 => k_is)
    (case i33 => k_is)
    (case l33 => k_is)
    (case c33 => k_is)
    (case k33 => k_is)
    (case a34 => k_is)
    (case i34 => k_is)
    (case l34 => k_is)
    (case c34 => k_is)
    (case k34 => k_is)
    (case a35 => k_is)
    (case i35 => k_is)
    (case l35 => k_is)
    (case c35 => k_is)
    (case k35 => k_is)
    (case a36 => k_is)
    (case i36 => k_is)
    (case l36 => k_is)
    (case c36 => k_is)
    (case k36 => k_is)
    (case a37 => k_is)
    (case i37 => k_is)
    (case l37 => k_is)
    (case c37 => k_is)
    (case k37 => k_is)
    (case a38 => k_is)
    (case i38 => k_is)
    (case l38 => k_is)
    (case c38 => k_is)
    (case k38 => k_is)
    (case t38 => k_is)
    (case v38 => exact (.cons ⟨_, rfl⟩ .nil))
    (case a39 => k_is)
    (case i39 => k_is)
    (case l39 => k_is)
    (case c39 => k_is)
    (case k39 => k_is)
    (case a40 => k_is)
    (case i40 => k_is)
    (case l40 => k_is)
    (case c40 => k_is)
    (case k40 => k_is)
    (case a41 => k_is)
    (case l41 => k_is)
    (case c41 => k_is)
    (case k41 => k_is)
    (case a42 => k_is)
    (case l42 => k_is)
    (case c42 => k_is)
    (case k42 => k_is)
    (case a43 => k_is)
    (case l43 => k_is)
    (case c43 => k_is)
    (case k43 => k_is)
    (case a44 => k_is)
    (case l44 => k_is)
    (case c44 => k_is)
    (case k44 => k_is)
    (case a45 => k_is)
    (case l45 => k_is)
    (case c45 => k_is)
    (case k45 => k_is)
    (case a46 => k_is)
    (case l46 => k_is)
    (case c46 => k_is)
    (case k46 => k_is)
    (case a47 => k_is)
    (case l47 => k_is)
    (case c47 => k_is)
    (case k47 => k_is)
    (case a48 => k_is)
    (case l48 => k_is)
    (case c48 => k_is)
    (case k48 => k_is)
    (case a49 => k_is)
    (case l49 => k_is)
    (case c49 => k_is)
    (case k49 => k_is)
    (case a50 => k_is)
    (case l50 => k_is)
    (case c50 => k_is)
    (case k50 => k_is)
    (case a51 => k_is)
    (case l51 => k_is)
    (case c51 => k_is)
    (case k51 => k_is)
    (case a52 => k_is)
    (case l52 => k_is)
    (case c52 => k_is)
    (case k52 => k_is)
    (case a53 => k_is)
    (case l53 => k_is)
    (case c53 => k_is)
    (case k53 => k_is)
    (case a54 => k_is)
    (case l54 => k_is)
    (case c54 => k_is)
    (case k54 => k_is)
    (case a55 => k_is)
    (case l55 => k_is)
    (case c55 => k_is)
    (case k55 => k_is)
    (case a56 => k_is)
    (case l56 => k_is)
    (case c56 => k_is)
    (case k56 => k_is)
    (case a57 => k_is)
    (case l57 => k_is)
    (case c57 => k_is)
    (case k57 => k_is)
    (case a58 => k_is)
    (case l58 => k_is)
    (case c58 => k_is)
    (case k58 => k_is)
    (case a59 => k_is)
    (case l59 => k_is)
    (case c59 => k_is)
    (case k59 => k_is)
    (case a60 => k_is)
    (case l60 => k_is)
    (case c60 => k_is)
    (case k60 => k_is)
    (case a61 => k_is)
    (case l61 => k_is)
    (case c61 => k_is)
    (case k61 => k_is)
    (case a62 => k_is)
    (case l62 => k_is)
    (case c62 => k_is)
    (case k62 => k_is)
    (case a63 => k_is)
    (case l63 => k_is)
    (case c63 => k_is)
    (case k63 => k_is)
    (case a64 => k_is)
    (case l64 => k_is)
    (case c64 => k_is)
    (case k64 => k_is)
    (case pgBook => k_is)
    (case hdBook => k_is)
    (case poBook => k_is)
    (case saBook => k_is)
    (case haBook => k_is)
    (case hmBook => k_is)
    (case mkBook => k_is)
    (case kcBook => k_is)
    (case pgHall => k_is)
    (case hdHall => k_is)
    (case poHall => k_is)
    (case saHall => k_is)
    (case haHall => k_is)
    (case hmHall => k_is)
    (case mkHall => k_is)
    (case kcHall => k_is)
    (case pgRule => k_is)
    (case hdRule => k_is)
    (case poRule => k_is)
    (case saRule => k_is)
    (case haRule => k_is)
    (case hmRule => k_is)
    (case mkRule => k_is)
    (case kcRule => k_is)
    (case pgState => k_is)
    (case hdState => k_is)
    (case poState => k_is)
    (case saState => k_is)
    (case haState => k_is)
    (case hmState => k_is)
    (case mkState => k_is)
    (case kcState => k_is)
    (case hn => k_is)
    (case ht => k_is)
    (case nF_Book_every => k_is)
    (case nF_Hall_later => k_is)
    (case nF_Hall_past => k_is)
    (case nF_Hall_state => k_is)
    (case nF_Rule_form => k_is)
    (case nF_State_book_now => k_is)
    (case nF_State_hours_now => k_is)
    (case nF_State_rounds_now => k_is)
    (case vL => k_is)
    (case z_isinstance => k_is)
    (case z_len => k_is)
    (case z_str => k_is)
    (case z_int => k_is)
    (case z_bool => k_is)
    (case z_list => k_is)
    (case z_tuple => k_is)
    (case z_dict => k_is)
    (case z_set => k_is)
    (case z_range => k_is)
    (case z_max => k_is)
    (case z_min => k_is)
    (case z_sum => k_is)
    (case z_sorted => k_is)
    (case z_enumerate => k_is)

