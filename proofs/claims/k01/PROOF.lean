import PyProof.Rows.All
import Wide.All
import OpenK.AllK
import Wide.FinOn
import HandS.ForMost
import HandS.ForExc
import HandS.ExcOwn
import HandS.WordsExc
import HandS.Deep
import HandS.TupAny
import HandS.TupMul
import HandS.Wide
import HandS.Comp
import HandS.Style
import HandS.IsInst
import HandS.Property
import HandS.Zip
import KE.GoesEnum
import HandS.Dict
import HandS.Text
import HandS.Star
import KE.KUnpackStar
import PyProof.RulesMatch
import HandS.DictComp
import HandS.Strs
import HandS.TupSets
import KE.KDictSum
import KE.KDictList
import HandS.Conv
import HandS.Iter
import PyProof.ReprRoads
import HandS.Ends
import PySem.Challenge.RW_holdplates_k01_levels_told
set_option Elab.async false
set_option linter.all false
set_option maxRecDepth 100000
set_option maxHeartbeats 4000000
/-! values as trees: what a Python value is, read off the abstract heap -/
namespace T
open PySem L2

inductive D where
  | non | bl (b : Bool) | int (i : Int) | str (s : Str)
  | tup (ms : List D)
  | lst (o : Bool) (ms : List D)
  | klst (ms : List D)
  | dct (o : Bool) (kvs : List (D × D))
  | ins (o : Bool) (c : Str) (fs : List (Str × D))

/-- a key of a dict -/
def kyK : D → Option Key
  | .int i => some (.inl i)
  | .str s => some (.inr s)
  | _ => none
def kysK : List D → Option (List Key)
  | [] => some []
  | m :: r => match kyK m, kysK r with
    | some k, some ks => some (k :: ks)
    | _, _ => none
def kyT : D → Option (List Key)
  | .tup ms => kysK ms
  | _ => none

/-- owned (tracked, ours alone) or frozen -/
def At (o : Bool) (H : Hp) (a : Addr) (u : HO) (fp fp' : List Addr) : Prop :=
  match o with
  | true => H a = some u ∧ fp = a :: fp'
  | false => (∃ ob, H a = some (.frz ob u)) ∧ fp = [] ∧ fp' = []

structure Kt where
  K : PySem.W.Frag
  mg : Str → Option Value

/-- a list that is only read: frozen, or of the written part -/
def SqLf (K : PySem.W.Frag) (H : Hp) (a : Addr) (vs : List V) : Prop := (∃ ob, H a = some (.frz ob (.lst vs))) ∨
  ∃ (o : Obj) (its : Array Value) (n : Nat), K.lookup a = some o ∧ o.cls = .type "list" ∧ o.dict = none ∧ o.data = .seq its n ∧ its.size ≤ sizeLine ∧ Vals vs its.toList
theorem SqLf.seqL {K : PySem.W.Frag} {H : Hp} {a : Addr} {vs : List V} (h : SqLf K H a vs) : SqL K H a vs := h.imp (fun h => .inr h) id
mutual
def RP (C : Kt) (H : Hp) : D → V → List Addr → Prop
  | .non, v, fp => v = .non ∧ fp = []
  | .bl b, v, fp => v = .bl b ∧ fp = []
  | .int i, v, fp => v = .int i ∧ fp = []
  | .str s, v, fp => v = .str s ∧ fp = []
  | .tup ms, v, fp => ∃ a vs, v = .ref a ∧ H a = some (.tup vs) ∧ RPs C H ms vs fp
  | .lst o ms, v, fp => ∃ a vs fp', v = .ref a ∧ At o H a (.lst vs) fp fp' ∧ RPs C H ms vs fp'
  | .klst ms, v, fp => ∃ a vs, v = .ref a ∧ fp = [] ∧ SqLf C.K H a vs ∧ RPs C H ms vs []
  | .dct o kvs, v, fp => ∃ a fp', v = .ref a ∧ ((∃ ws, At o H a (.dK ws) fp fp' ∧ RPk C H kvs ws fp') ∨ (∃ ws, At o H a (.dT ws) fp fp' ∧ RPt C H kvs ws fp'))
  | .ins o c fs, v, fp => ∃ a A dx ws fp', v = .ref a ∧ C.mg c = some (.ref A) ∧ At o H a (.ins A dx ws) fp fp' ∧ RPf C H fs ws fp'
def RPs (C : Kt) (H : Hp) : List D → List V → List Addr → Prop
  | [], vs, fp => vs = [] ∧ fp = []
  | m :: ms, vs, fp => ∃ v vr f1 f2, vs = v :: vr ∧ fp = f1 ++ f2 ∧ RP C H m v f1 ∧ RPs C H ms vr f2
def RPk (C : Kt) (H : Hp) : List (D × D) → List (Key × V) → List Addr → Prop
  | [], ws, fp => ws = [] ∧ fp = []
  | (k, m) :: ms, ws, fp => ∃ y v wr f1 f2, ws = (y, v) :: wr ∧ fp = f1 ++ f2 ∧ kyK k = some y ∧ RP C H m v f1 ∧ RPk C H ms wr f2
def RPt (C : Kt) (H : Hp) : List (D × D) → List (List Key × V) → List Addr → Prop
  | [], ws, fp => ws = [] ∧ fp = []
  | (k, m) :: ms, ws, fp => ∃ y v wr f1 f2, ws = (y, v) :: wr ∧ fp = f1 ++ f2 ∧ kyT k = some y ∧ RP C H m v f1 ∧ RPt C H ms wr f2
def RPf (C : Kt) (H : Hp) : List (Str × D) → List (Str × V) → List Addr → Prop
  | [], ws, fp => ws = [] ∧ fp = []
  | (k, m) :: ms, ws, fp => ∃ v wr f1 f2, ws = (k, v) :: wr ∧ fp = f1 ++ f2 ∧ RP C H m v f1 ∧ RPf C H ms wr f2
end

/-- what never changes again -/
def Fixed : HO → Bool
  | .tup _ => true
  | .frz _ _ => true
  | _ => false

/-- all of a footprint, and all that is fixed, stands as it stood -/
def St1 (H H' : Hp) (fp : List Addr) : Prop := ∀ a o, H a = some o → (a ∈ fp ∨ Fixed o = true) → H' a = some o
theorem St1.left {H H' : Hp} {f1 f2 : List Addr} (h : St1 H H' (f1 ++ f2)) : St1 H H' f1 := fun a o e x => h a o e (x.imp (List.mem_append_left _) id)
theorem St1.right {H H' : Hp} {f1 f2 : List Addr} (h : St1 H H' (f1 ++ f2)) : St1 H H' f2 := fun a o e x => h a o e (x.imp (List.mem_append_right _) id)
theorem St1.tail {H H' : Hp} {a : Addr} {f : List Addr} (h : St1 H H' (a :: f)) : St1 H H' f := fun b o e x => h b o e (x.imp (List.mem_cons_of_mem _) id)
theorem At.st {o : Bool} {H H' : Hp} {a : Addr} {u : HO} {fp fp' : List Addr} (h : At o H a u fp fp') (s : St1 H H' fp) : At o H' a u fp fp' ∧ St1 H H' fp' := by
  cases o with
  | true =>
    obtain ⟨h1, rfl⟩ := h
    exact ⟨⟨s a _ h1 (.inl (by simp)), rfl⟩, s.tail⟩
  | false =>
    obtain ⟨⟨ob, h1⟩, rfl, rfl⟩ := h
    exact ⟨⟨⟨ob, s a _ h1 (.inr rfl)⟩, rfl, rfl⟩, s⟩
theorem seqT_st {K : PySem.W.Frag} {H H' : Hp} {a : Addr} {vs : List V} {fp : List Addr} (h : SqT K H a vs) (s : St1 H H' fp) : SqT K H' a vs := by
  rcases h with (h | ⟨o, h⟩) | h
  · exact .inl (.inl (s a _ h (.inr rfl)))
  · exact .inl (.inr ⟨o, s a _ h (.inr rfl)⟩)
  · exact .inr h

theorem St1.nil {H H' : Hp} {f : List Addr} (h : St1 H H' f) : St1 H H' [] := fun a o e x => h a o e (x.elim (fun z => nomatch z) .inr)
theorem SqLf.st {K : PySem.W.Frag} {H H' : Hp} {a : Addr} {vs : List V} {f : List Addr} (h : SqLf K H a vs) (s : St1 H H' f) : SqLf K H' a vs := h.imp (fun ⟨ob, e⟩ => ⟨ob, s a _ e (.inr rfl)⟩) id
mutual
theorem RP.st {C : Kt} {H H' : Hp} : ∀ (m : D) {v : V} {fp : List Addr}, RP C H m v fp → St1 H H' fp → RP C H' m v fp
  | .non, _, _, h, _ => h
  | .bl _, _, _, h, _ => h
  | .int _, _, _, h, _ => h
  | .str _, _, _, h, _ => h
  | .tup ms, _, _, h, s => by
    unfold RP at h ⊢
    obtain ⟨a, vs, rfl, h1, h2⟩ := h
    exact ⟨a, vs, rfl, s a _ h1 (.inr rfl), RPs.st ms h2 s⟩
  | .lst o ms, _, _, h, s => by
    unfold RP at h ⊢
    obtain ⟨a, vs, fp', rfl, h1, h2⟩ := h
    obtain ⟨h3, s'⟩ := h1.st s
    exact ⟨a, vs, fp', rfl, h3, RPs.st ms h2 s'⟩
  | .klst ms, _, _, h, s => by
    unfold RP at h ⊢
    obtain ⟨a, vs, rfl, h0, h1, h2⟩ := h
    exact ⟨a, vs, rfl, h0, h1.st s, RPs.st ms h2 s.nil⟩
  | .dct o kvs, _, _, h, s => by
    unfold RP at h ⊢
    obtain ⟨a, fp', rfl, h⟩ := h
    refine ⟨a, fp', rfl, ?_⟩
    rcases h with ⟨ws, h1, h2⟩ | ⟨ws, h1, h2⟩
    · obtain ⟨h3, s'⟩ := h1.st s
      exact .inl ⟨ws, h3, RPk.st kvs h2 s'⟩
    · obtain ⟨h3, s'⟩ := h1.st s
      exact .inr ⟨ws, h3, RPt.st kvs h2 s'⟩
  | .ins o c fs, _, _, h, s => by
    unfold RP at h ⊢
    obtain ⟨a, A, dx, ws, fp', rfl, hc, h1, h2⟩ := h
    obtain ⟨h3, s'⟩ := h1.st s
    exact ⟨a, A, dx, ws, fp', rfl, hc, h3, RPf.st fs h2 s'⟩
theorem RPs.st {C : Kt} {H H' : Hp} : ∀ (ms : List D) {vs : List V} {fp : List Addr}, RPs C H ms vs fp → St1 H H' fp → RPs C H' ms vs fp
  | [], _, _, h, _ => h
  | m :: ms, _, _, h, s => by
    unfold RPs at h ⊢
    obtain ⟨v, vr, f1, f2, rfl, rfl, h1, h2⟩ := h
    exact ⟨v, vr, f1, f2, rfl, rfl, RP.st m h1 s.left, RPs.st ms h2 s.right⟩
theorem RPk.st {C : Kt} {H H' : Hp} : ∀ (ms : List (D × D)) {ws : List (Key × V)} {fp : List Addr}, RPk C H ms ws fp → St1 H H' fp → RPk C H' ms ws fp
  | [], _, _, h, _ => h
  | (k, m) :: ms, _, _, h, s => by
    unfold RPk at h ⊢
    obtain ⟨y, v, vr, f1, f2, rfl, rfl, hk, h1, h2⟩ := h
    exact ⟨y, v, vr, f1, f2, rfl, rfl, hk, RP.st m h1 s.left, RPk.st ms h2 s.right⟩
theorem RPt.st {C : Kt} {H H' : Hp} : ∀ (ms : List (D × D)) {ws : List (List Key × V)} {fp : List Addr}, RPt C H ms ws fp → St1 H H' fp → RPt C H' ms ws fp
  | [], _, _, h, _ => h
  | (k, m) :: ms, _, _, h, s => by
    unfold RPt at h ⊢
    obtain ⟨y, v, vr, f1, f2, rfl, rfl, hk, h1, h2⟩ := h
    exact ⟨y, v, vr, f1, f2, rfl, rfl, hk, RP.st m h1 s.left, RPt.st ms h2 s.right⟩
theorem RPf.st {C : Kt} {H H' : Hp} : ∀ (ms : List (Str × D)) {ws : List (Str × V)} {fp : List Addr}, RPf C H ms ws fp → St1 H H' fp → RPf C H' ms ws fp
  | [], _, _, h, _ => h
  | (k, m) :: ms, _, _, h, s => by
    unfold RPf at h ⊢
    obtain ⟨v, vr, f1, f2, rfl, rfl, h1, h2⟩ := h
    exact ⟨v, vr, f1, f2, rfl, rfl, RP.st m h1 s.left, RPf.st ms h2 s.right⟩
end

/-- what is owned is tracked and may be written -/
def Owned (H : Hp) (fp : List Addr) : Prop := ∀ a ∈ fp, ∃ o, H a = some o ∧ Fixed o = false
theorem Owned.nil {H : Hp} : Owned H [] := fun _ h => nomatch h
theorem Owned.app {H : Hp} {f1 f2 : List Addr} (h1 : Owned H f1) (h2 : Owned H f2) : Owned H (f1 ++ f2) := fun a h => (List.mem_append.mp h).elim (h1 a) (h2 a)
theorem At.owned {o : Bool} {H : Hp} {a : Addr} {u : HO} {fp fp' : List Addr} (h : At o H a u fp fp') (hu : Fixed u = false) (h' : Owned H fp') : Owned H fp := by
  cases o with
  | true =>
    obtain ⟨h1, rfl⟩ := h
    intro b hb
    rcases List.mem_cons.mp hb with rfl | hb
    · exact ⟨u, h1, hu⟩
    · exact h' b hb
  | false =>
    obtain ⟨_, rfl, rfl⟩ := h
    exact Owned.nil
mutual
theorem RP.owned {C : Kt} {H : Hp} : ∀ (m : D) {v : V} {fp : List Addr}, RP C H m v fp → Owned H fp
  | .non, _, _, h => by obtain ⟨_, rfl⟩ := h; exact Owned.nil
  | .bl _, _, _, h => by obtain ⟨_, rfl⟩ := h; exact Owned.nil
  | .int _, _, _, h => by obtain ⟨_, rfl⟩ := h; exact Owned.nil
  | .str _, _, _, h => by obtain ⟨_, rfl⟩ := h; exact Owned.nil
  | .tup ms, _, _, h => by
    unfold RP at h
    obtain ⟨a, vs, rfl, h1, h2⟩ := h
    exact RPs.owned ms h2
  | .lst o ms, _, _, h => by
    unfold RP at h
    obtain ⟨a, vs, fp', rfl, h1, h2⟩ := h
    exact h1.owned rfl (RPs.owned ms h2)
  | .klst ms, _, _, h => by
    unfold RP at h
    obtain ⟨a, vs, rfl, rfl, _⟩ := h
    exact Owned.nil
  | .dct o kvs, _, _, h => by
    unfold RP at h
    obtain ⟨a, fp', rfl, h⟩ := h
    rcases h with ⟨ws, h1, h2⟩ | ⟨ws, h1, h2⟩
    · exact h1.owned rfl (RPk.owned kvs h2)
    · exact h1.owned rfl (RPt.owned kvs h2)
  | .ins o c fs, _, _, h => by
    unfold RP at h
    obtain ⟨a, A, dx, ws, fp', rfl, hc, h1, h2⟩ := h
    exact h1.owned rfl (RPf.owned fs h2)
theorem RPs.owned {C : Kt} {H : Hp} : ∀ (ms : List D) {vs : List V} {fp : List Addr}, RPs C H ms vs fp → Owned H fp
  | [], _, _, h => by obtain ⟨_, rfl⟩ := h; exact Owned.nil
  | m :: ms, _, _, h => by
    unfold RPs at h
    obtain ⟨v, vr, f1, f2, rfl, rfl, h1, h2⟩ := h
    exact (RP.owned m h1).app (RPs.owned ms h2)
theorem RPk.owned {C : Kt} {H : Hp} : ∀ (ms : List (D × D)) {ws : List (Key × V)} {fp : List Addr}, RPk C H ms ws fp → Owned H fp
  | [], _, _, h => by obtain ⟨_, rfl⟩ := h; exact Owned.nil
  | (k, m) :: ms, _, _, h => by
    unfold RPk at h
    obtain ⟨y, v, vr, f1, f2, rfl, rfl, hk, h1, h2⟩ := h
    exact (RP.owned m h1).app (RPk.owned ms h2)
theorem RPt.owned {C : Kt} {H : Hp} : ∀ (ms : List (D × D)) {ws : List (List Key × V)} {fp : List Addr}, RPt C H ms ws fp → Owned H fp
  | [], _, _, h => by obtain ⟨_, rfl⟩ := h; exact Owned.nil
  | (k, m) :: ms, _, _, h => by
    unfold RPt at h
    obtain ⟨y, v, vr, f1, f2, rfl, rfl, hk, h1, h2⟩ := h
    exact (RP.owned m h1).app (RPt.owned ms h2)
theorem RPf.owned {C : Kt} {H : Hp} : ∀ (ms : List (Str × D)) {ws : List (Str × V)} {fp : List Addr}, RPf C H ms ws fp → Owned H fp
  | [], _, _, h => by obtain ⟨_, rfl⟩ := h; exact Owned.nil
  | (k, m) :: ms, _, _, h => by
    unfold RPf at h
    obtain ⟨v, vr, f1, f2, rfl, rfl, h1, h2⟩ := h
    exact (RP.owned m h1).app (RPf.owned ms h2)
end


mutual
def fz : D → Bool
  | .non => true
  | .bl _ => true
  | .int _ => true
  | .str _ => true
  | .tup ms => fzs ms
  | .lst o _ => !o
  | .klst _ => true
  | .dct o _ => !o
  | .ins o _ _ => !o
def fzs : List D → Bool
  | [] => true
  | m :: ms => fz m && fzs ms
end
mutual
theorem RP.fz {C : Kt} {H : Hp} : ∀ (m : D) {v : V} {fp : List Addr}, RP C H m v fp → T.fz m = true → fp = []
  | .non, _, _, h, _ => h.2
  | .bl _, _, _, h, _ => h.2
  | .int _, _, _, h, _ => h.2
  | .str _, _, _, h, _ => h.2
  | .tup ms, _, _, h, z => by
    unfold RP at h
    unfold T.fz at z
    obtain ⟨a, vs, rfl, h1, h2⟩ := h
    exact RPs.fz ms h2 z
  | .lst o ms, _, _, h, z => by
    unfold RP at h
    unfold T.fz at z
    obtain ⟨a, vs, fp', rfl, h1, h2⟩ := h
    cases o with
    | true => cases z
    | false => exact h1.2.1
  | .klst ms, _, _, h, _ => by
    unfold RP at h
    obtain ⟨a, vs, rfl, h0, _⟩ := h
    exact h0
  | .dct o kvs, _, _, h, z => by
    unfold RP at h
    unfold T.fz at z
    obtain ⟨a, fp', rfl, h⟩ := h
    cases o with
    | true => cases z
    | false => rcases h with ⟨ws, h1, h2⟩ | ⟨ws, h1, h2⟩ <;> exact h1.2.1
  | .ins o c fs, _, _, h, z => by
    unfold RP at h
    unfold T.fz at z
    obtain ⟨a, A, dx, ws, fp', rfl, hc, h1, h2⟩ := h
    cases o with
    | true => cases z
    | false => exact h1.2.1
theorem RPs.fz {C : Kt} {H : Hp} : ∀ (ms : List D) {vs : List V} {fp : List Addr}, RPs C H ms vs fp → T.fzs ms = true → fp = []
  | [], _, _, h, _ => h.2
  | m :: ms, _, _, h, z => by
    unfold RPs at h
    unfold T.fzs at z
    rw [Bool.and_eq_true] at z
    obtain ⟨v, vr, f1, f2, rfl, rfl, h1, h2⟩ := h
    rw [RP.fz m h1 z.1, RPs.fz ms h2 z.2]
    rfl
end
end T

set_option Elab.async false
set_option linter.all false
set_option maxRecDepth 100000
set_option maxHeartbeats 4000000
namespace T
open PySem L2

abbrev Env := List (Option D)
/-- the slots of a frame, as trees (none: nothing is known of it) -/
def ER (C : Kt) (H : Hp) : Env → L2.St → List Addr → Prop
  | [], σ, fp => σ = [] ∧ fp = []
  | none :: r, σ, fp => ∃ w σ', σ = w :: σ' ∧ ER C H r σ' fp
  | some m :: r, σ, fp => ∃ v σ' f1 f2, σ = some v :: σ' ∧ fp = f1 ++ f2 ∧ RP C H m v f1 ∧ ER C H r σ' f2

theorem ER.st {C : Kt} {H H' : Hp} : ∀ (env : Env) {σ : L2.St} {fp : List Addr}, ER C H env σ fp → St1 H H' fp → ER C H' env σ fp
  | [], _, _, h, _ => h
  | none :: r, _, _, h, s => by
    obtain ⟨w, σ', rfl, h⟩ := h
    exact ⟨w, σ', rfl, ER.st r h s⟩
  | some m :: r, _, _, h, s => by
    obtain ⟨v, σ', f1, f2, rfl, rfl, h1, h2⟩ := h
    exact ⟨v, σ', f1, f2, rfl, rfl, h1.st m s.left, ER.st r h2 s.right⟩
theorem ER.owned {C : Kt} {H : Hp} : ∀ (env : Env) {σ : L2.St} {fp : List Addr}, ER C H env σ fp → Owned H fp
  | [], _, _, h => by obtain ⟨_, rfl⟩ := h; exact Owned.nil
  | none :: r, _, _, h => by
    obtain ⟨w, σ', rfl, h⟩ := h
    exact ER.owned r h
  | some m :: r, _, _, h => by
    obtain ⟨v, σ', f1, f2, rfl, rfl, h1, h2⟩ := h
    exact (h1.owned m).app (ER.owned r h2)
theorem ER.len {C : Kt} {H : Hp} : ∀ (env : Env) {σ : L2.St} {fp : List Addr}, ER C H env σ fp → env.length = σ.length
  | [], _, _, h => by obtain ⟨rfl, _⟩ := h; rfl
  | none :: r, _, _, h => by
    obtain ⟨w, σ', rfl, h⟩ := h
    simp [ER.len r h]
  | some m :: r, _, _, h => by
    obtain ⟨v, σ', f1, f2, rfl, rfl, h1, h2⟩ := h
    simp [ER.len r h2]

/-- what may be put into a slot -/
def Slt (C : Kt) (H : Hp) : Option D → Option V → List Addr → Prop
  | none, _, fp => fp = []
  | some m, w, fp => ∃ v, w = some v ∧ RP C H m v fp
/-- one slot in sight -/
theorem ER.focus {C : Kt} {H : Hp} : ∀ (env : Env) {σ : L2.St} {fp : List Addr} {i : Nat} {x : Option D}, ER C H env σ fp → env[i]? = some x →
    ∃ w f1 f2 f3, σ[i]? = some w ∧ fp = f1 ++ (f2 ++ f3) ∧ Slt C H x w f2 ∧
      ∀ (H' : Hp) (y : Option D) (u : Option V) (f : List Addr), St1 H H' (f1 ++ f3) → Slt C H' y u f → ER C H' (env.set i y) (σ.set i u) (f1 ++ (f ++ f3))
  | [], _, _, _, _, _, e => by simp at e
  | none :: r, _, fp, 0, x, h, e => by
    obtain ⟨w, σ', rfl, h⟩ := h
    have e : none = x := by simpa using e
    subst e
    refine ⟨w, [], [], fp, rfl, rfl, rfl, fun H' y u f s q => ?_⟩
    have h' : ER C H' r σ' fp := ER.st r h (by simpa using s)
    cases y with
    | none =>
      have : f = [] := q
      subst this
      exact ⟨u, σ', rfl, h'⟩
    | some m =>
      obtain ⟨v, rfl, q⟩ := q
      exact ⟨v, σ', f, fp, rfl, by simp, q, h'⟩
  | some m :: r, _, _, 0, x, h, e => by
    obtain ⟨v, σ', f1, f2, rfl, rfl, h1, h2⟩ := h
    have e : some m = x := by simpa using e
    subst e
    refine ⟨some v, [], f1, f2, rfl, rfl, ⟨v, rfl, h1⟩, fun H' y u f s q => ?_⟩
    have h' : ER C H' r σ' f2 := ER.st r h2 (by simpa using s)
    cases y with
    | none =>
      have : f = [] := q
      subst this
      exact ⟨u, σ', rfl, h'⟩
    | some m =>
      obtain ⟨v, rfl, q⟩ := q
      exact ⟨v, σ', f, f2, rfl, by simp, q, h'⟩
  | none :: r, _, _, i + 1, x, h, e => by
    obtain ⟨w, σ', rfl, h⟩ := h
    obtain ⟨w', f1, f2, f3, e1, rfl, q, k⟩ := ER.focus r h (by simpa using e)
    exact ⟨w', f1, f2, f3, by simpa using e1, rfl, q, fun H' y u f s q => ⟨w, _, rfl, k H' y u f s q⟩⟩
  | some m :: r, _, _, i + 1, x, h, e => by
    obtain ⟨v, σ', g1, g2, rfl, rfl, h1, h2⟩ := h
    obtain ⟨w', f1, f2, f3, e1, rfl, q, k⟩ := ER.focus r h2 (by simpa using e)
    refine ⟨w', g1 ++ f1, f2, f3, by simpa using e1, by simp, q, fun H' y u f s q => ?_⟩
    have s1 : St1 H H' (g1 ++ (f1 ++ f3)) := by simpa using s
    exact ⟨v, _, g1, f1 ++ (f ++ f3), rfl, by simp, h1.st m s1.left, k H' y u f s1.right q⟩

/-- from a heap with fp owned to one with fq owned: all else stands as it stood -/
structure Mv (H H' : Hp) (fp fq : List Addr) : Prop where
  keep : ∀ a o, H a = some o → (a ∈ fp → Fixed o = true) → H' a = some o
  sub : ∀ a ∈ fq, a ∈ fp ∨ H a = none
theorem Mv.refl (H : Hp) (fp : List Addr) : Mv H H fp fp := ⟨fun _ _ e _ => e, fun _ h => .inl h⟩
theorem Mv.trans {H H1 H2 : Hp} {f0 f1 f2 : List Addr} (a : Mv H H1 f0 f1) (b : Mv H1 H2 f1 f2) : Mv H H2 f0 f2 where
  keep := fun c o e x => b.keep c o (a.keep c o e x) fun h => (a.sub c h).elim x fun z => by rw [e] at z; cases z
  sub := fun c h => by
    rcases b.sub c h with h1 | h1
    · exact a.sub c h1
    · by_cases hc : c ∈ f0
      · exact .inl hc
      · refine .inr ?_
        cases q : H c with
        | none => rfl
        | some o => rw [a.keep c o q fun z => absurd z hc] at h1; cases h1
theorem Mv.same {H H' : Hp} {fp fm : List Addr} (h : Same H H') (hm : ∀ a ∈ fm, H a = none) : Mv H H' fp (fm ++ fp) :=
  ⟨fun a o e _ => h a o e, fun a x => (List.mem_append.mp x).elim (fun z => .inr (hm a z)) .inl⟩
theorem Mv.less {H H' : Hp} {fp f1 f2 : List Addr} (h : Mv H H' fp f1) (s : ∀ a ∈ f2, a ∈ f1) : Mv H H' fp f2 := ⟨h.keep, fun a x => h.sub a (s a x)⟩
theorem Mv.st {H H' : Hp} {f fp fq : List Addr} (m : Mv H H' fp fq) (nd : (f ++ fp).Nodup) : St1 H H' f := fun a o e x =>
  m.keep a o e fun h => by
    rcases x with x | x
    · exact absurd rfl ((List.nodup_append.mp nd).2.2 a x a h)
    · exact x
theorem Mv.nodup {H H' : Hp} {f fp fq : List Addr} (m : Mv H H' fp fq) (nd : (f ++ fp).Nodup) (ow : Owned H f) (nq : fq.Nodup) : (f ++ fq).Nodup := by
  obtain ⟨n1, n2, n3⟩ := List.nodup_append.mp nd
  refine List.nodup_append.mpr ⟨n1, nq, fun a ha b hb => ?_⟩
  rintro rfl
  rcases m.sub a hb with h | h
  · exact n3 a ha a h rfl
  · obtain ⟨o, e, _⟩ := ow a ha
    rw [e] at h; cases h
theorem Mv.frame {H H' : Hp} {f fp fq : List Addr} (m : Mv H H' fp fq) (nd : (f ++ fp).Nodup) (ow : Owned H f) : Mv H H' (f ++ fp) (f ++ fq) where
  keep := fun a o e x => m.keep a o e fun h => x (List.mem_append_right _ h)
  sub := fun a h => by
    rcases List.mem_append.mp h with h | h
    · exact .inl (List.mem_append_left _ h)
    · exact (m.sub a h).imp (List.mem_append_right _) id
theorem Same.st1 {H H' : Hp} (h : Same H H') (fp : List Addr) : St1 H H' fp := fun a o e _ => h a o e

/-! ### judgements -/
inductive Rs (α : Type) where
  | ok (a : α)
  | ex (c : Str) (m : D)
abbrev SE := Env → Option (Rs D × Env)
abbrev SV := Env → Option D
abbrev STe := Env → Option (Rs Bool × Env)
abbrev STu := Env → Option Bool

/-- an exception of an own class with its value -/
def ExRep (C : Kt) (H : Hp) (c : Str) (m : D) (cls : Value) (d : Option Addr) (fm : List Addr) : Prop :=
  ∃ A dd v, C.mg c = some (.ref A) ∧ cls = .ref A ∧ d = some dd ∧ H dd = some (.xd [("value", v)]) ∧ RP C H m v fm

abbrev WXT := Value → Option Addr → L2.St → Hp → Prop
def PostE (C : Kt) (W : WXT) (σ : L2.St) (H : Hp) (fp : List Addr) (Q : VK) : Option (Rs D × Env) → Prop
  | none => False
  | some (.ok m, env') => ∀ v H' fm fe, RP C H' m v fm → ER C H' env' σ fe → (fm ++ fe).Nodup → Mv H H' fp (fm ++ fe) → Q v H'
  | some (.ex c m, env') => ∀ cls d H' fm fe, ExRep C H' c m cls d fm → ER C H' env' σ fe → (fm ++ fe).Nodup → Mv H H' fp (fm ++ fe) → W cls d σ H'
/-- an expression that may change what is owned, and raise -/
def tE (C : Kt) (W : WXT) (s : SE) : TE := fun σ H Q => ∃ env fp, ER C H env σ fp ∧ fp.Nodup ∧ PostE C W σ H fp Q (s env)
/-- an expression that changes nothing; its value is new or frozen -/
def tU (C : Kt) (p : SV) : TE := fun σ H Q => ∃ env fp m, ER C H env σ fp ∧ p env = some m ∧ ∀ v H' fm, Same H H' → RP C H' m v fm → fm.Nodup → (∀ a ∈ fm, H a = none) → Q v H'
/-- a look: its value may be a part of what a slot holds -/
def tV (C : Kt) (p : SV) : TE := fun σ H Q => ∃ env fp m, ER C H env σ fp ∧ p env = some m ∧ ∀ v H' fm, Same H H' → RP C H' m v fm → Q v H'
def PostT (C : Kt) (W : WXT) (σ : L2.St) (H : Hp) (fp : List Addr) (Q : Bool → Hp → Prop) : Option (Rs Bool × Env) → Prop
  | none => False
  | some (.ok b, env') => ∀ H' fe, ER C H' env' σ fe → fe.Nodup → Mv H H' fp fe → Q b H'
  | some (.ex c m, env') => ∀ cls d H' fm fe, ExRep C H' c m cls d fm → ER C H' env' σ fe → (fm ++ fe).Nodup → Mv H H' fp (fm ++ fe) → W cls d σ H'
def tTE (C : Kt) (W : WXT) (s : STe) : TT := fun σ H Q => ∃ env fp, ER C H env σ fp ∧ fp.Nodup ∧ PostT C W σ H fp Q (s env)
def tTU (C : Kt) (p : STu) : TT := fun σ H Q => ∃ env fp b, ER C H env σ fp ∧ p env = some b ∧ ∀ H', Same H H' → Q b H'

theorem pe_imp {X : Cx} {e : Expr} {t t' : TE} (h : PE X e t) (f : ∀ σ H Q, t' σ H Q → t σ H Q) : PE X e t' := ⟨fun pins s σ H Q I q => h.run pins s σ H Q I (f σ H Q q)⟩
theorem pt_imp {X : Cx} {e : Expr} {t t' : TT} (h : PT X e t) (f : ∀ σ H Q, t' σ H Q → t σ H Q) : PT X e t' := ⟨fun pins s σ H Q I q => h.run pins s σ H Q I (f σ H Q q)⟩
theorem pw_imp {X : Cx} {e : Expr} {t t' : TT} (h : PW X e t) (f : ∀ σ H Q, t' σ H Q → t σ H Q) : PW X e t' := ⟨fun wh pins s σ H Q I q => h.run wh pins s σ H Q I (f σ H Q q)⟩
theorem ps_imp {X : Cx} {e : Stmt} {t t' : TS} (h : PS X e t) (f : ∀ D σ H, t' D σ H → t D σ H) : PS X e t' := ⟨fun pins s σ H D I q => h.run pins s σ H D I (f D σ H q)⟩
theorem pss_imp {X : Cx} {e : List Stmt} {t t' : TS} (h : PSs X e t) (f : ∀ D σ H, t' D σ H → t D σ H) : PSs X e t' := ⟨fun pins s σ H D I q => h.run pins s σ H D I (f D σ H q)⟩

section
variable {X : Cx} {C : Kt} {W : WXT} {e : Expr}
/-- new is a look, too -/
theorem vOfU {p : SV} (h : PE X e (tU C p)) : PE X e (tV C p) := pe_imp h fun σ H Q ⟨env, fp, m, r, q, k⟩ => ⟨env, fp, m, r, q, fun v H' fm s x _ _ => k v H' fm s x⟩
def pFz (p : SV) : SV := fun env => match p env with
  | some m => if fz m then some m else none
  | none => none
/-- a look at what is frozen -/
theorem uOfV {p : SV} (h : PE X e (tV C p)) : PE X e (tU C (pFz p)) := pe_imp h fun σ H Q ⟨env, fp, m, r, q, k⟩ => by
  unfold pFz at q
  split at q
  · rename_i m' e1
    split at q
    · rename_i hz
      cases q
      refine ⟨env, fp, m, r, e1, fun v H' fm s x => ?_⟩
      have := x.fz m hz
      subst this
      exact k v H' [] s x List.nodup_nil fun _ z => nomatch z
    · cases q
  · cases q
def sU (p : SV) : SE := fun env => (p env).map fun m => (.ok m, env)
theorem eOfU {p : SV} (h : PE X e (tU C p)) : PE X e (tE C W (sU p)) := pe_imp h fun σ H Q ⟨env, fp, r, nd, k⟩ => by
  unfold sU at k
  cases q : p env with
  | none => rw [q] at k; exact k.elim
  | some m =>
    rw [q] at k
    refine ⟨env, fp, m, r, q, fun v H' fm s x nm fr => ?_⟩
    have ow := r.owned env
    refine k v H' fm fp x (r.st env (Same.st1 s fp)) (List.nodup_append.mpr ⟨nm, nd, fun a ha b hb => ?_⟩) (Mv.same s fr)
    rintro rfl
    obtain ⟨o, e, _⟩ := ow a hb
    rw [fr a ha] at e; cases e
def pVar (i : Nat) : SV := fun env => match env[i]? with
  | some (some m) => some m
  | _ => none
theorem vVar (i : Nat) (h : PE X e (tVar i)) : PE X e (tV C (pVar i)) := pe_imp h fun σ H Q ⟨env, fp, m, r, q, k⟩ => by
  unfold pVar at q
  split at q
  · rename_i m' e1
    cases q
    obtain ⟨w, f1, f2, f3, e2, rfl, ⟨v, rfl, x⟩, _⟩ := r.focus env e1
    exact ⟨v, e2, k v H f2 (Same.refl H) x⟩
  · cases q
/-- the name's value is handed on, the name given up -/
def sMove (i : Nat) : SE := fun env => match env[i]? with
  | some (some m) => some (.ok m, env.set i none)
  | _ => none
theorem nodup_move {f1 f2 f3 : List Addr} (nd : (f1 ++ (f2 ++ f3)).Nodup) : (f2 ++ (f1 ++ ([] ++ f3))).Nodup := by
  rw [List.nil_append, ← List.append_assoc]
  rw [← List.append_assoc] at nd
  refine (List.Perm.nodup_iff ?_).mp nd
  exact List.Perm.append_right _ List.perm_append_comm
theorem mem_move {f1 f2 f3 : List Addr} {a : Addr} : a ∈ f2 ++ (f1 ++ ([] ++ f3)) → a ∈ f1 ++ (f2 ++ f3) := by
  simp only [List.mem_append, List.nil_append]
  rintro (h | h | h)
  · exact .inr (.inl h)
  · exact .inl h
  · exact .inr (.inr h)
theorem eMove (i : Nat) (h : PE X e (tVar i)) : PE X e (tE C W (sMove i)) := pe_imp h fun σ H Q ⟨env, fp, r, nd, k⟩ => by
  unfold sMove at k
  split at k
  · rename_i m e1
    obtain ⟨w, f1, f2, f3, e2, rfl, ⟨v, rfl, x⟩, g⟩ := r.focus env e1
    refine ⟨v, e2, k v H f2 (f1 ++ ([] ++ f3)) x ?_ (nodup_move nd) ((Mv.refl H _).less fun a => mem_move)⟩
    have g1 := g H none (some v) [] (fun _ _ e _ => e) rfl
    have : σ.set i (some v) = σ := by
      have hl := (List.getElem?_eq_some_iff.mp e2).1
      have : σ[i] = some v := (List.getElem?_eq_some_iff.mp e2).2
      rw [← this]; exact List.set_getElem_self hl
    rw [this] at g1
    exact g1
  · exact k.elim
end
end T

set_option Elab.async false
set_option linter.all false
set_option maxRecDepth 100000
set_option maxHeartbeats 4000000
namespace T
open PySem L2

/-! ### evaluation, step by step -/
/-- an argument: a value, or a name whose thing is lent -/
inductive Av where
  | val (m : D)
  | lend (i : Nat)
def AvR (C : Kt) (H : Hp) (σ : L2.St) : List Av → List V → List Addr → Prop
  | [], vs, fp => vs = [] ∧ fp = []
  | .val m :: r, vs, fp => ∃ v vr f1 f2, vs = v :: vr ∧ fp = f1 ++ f2 ∧ RP C H m v f1 ∧ AvR C H σ r vr f2
  | .lend i :: r, vs, fp => ∃ v vr, vs = v :: vr ∧ σ[i]? = some (some v) ∧ AvR C H σ r vr fp
theorem AvR.st {C : Kt} {H H' : Hp} {σ : L2.St} : ∀ (as : List Av) {vs : List V} {fp : List Addr}, AvR C H σ as vs fp → St1 H H' fp → AvR C H' σ as vs fp
  | [], _, _, h, _ => h
  | .val m :: r, _, _, h, s => by
    obtain ⟨v, vr, f1, f2, rfl, rfl, h1, h2⟩ := h
    exact ⟨v, vr, f1, f2, rfl, rfl, h1.st m s.left, AvR.st r h2 s.right⟩
  | .lend i :: r, _, _, h, s => by
    obtain ⟨v, vr, rfl, h1, h2⟩ := h
    exact ⟨v, vr, rfl, h1, AvR.st r h2 s⟩
theorem AvR.owned {C : Kt} {H : Hp} {σ : L2.St} : ∀ (as : List Av) {vs : List V} {fp : List Addr}, AvR C H σ as vs fp → Owned H fp
  | [], _, _, h => by obtain ⟨_, rfl⟩ := h; exact Owned.nil
  | .val m :: r, _, _, h => by
    obtain ⟨v, vr, f1, f2, rfl, rfl, h1, h2⟩ := h
    exact (h1.owned m).app (AvR.owned r h2)
  | .lend i :: r, _, _, h => by
    obtain ⟨v, vr, rfl, h1, h2⟩ := h
    exact AvR.owned r h2
theorem AvR.snoc {C : Kt} {H : Hp} {σ : L2.St} {m : D} {v : V} {f : List Addr} (x : RP C H m v f) : ∀ (as : List Av) {vs : List V} {fp : List Addr}, AvR C H σ as vs fp → AvR C H σ (as ++ [.val m]) (vs ++ [v]) (fp ++ f)
  | [], _, _, h => by
    obtain ⟨rfl, rfl⟩ := h
    exact ⟨v, [], f, [], rfl, by simp, x, rfl, rfl⟩
  | .val m' :: r, _, _, h => by
    obtain ⟨v', vr, f1, f2, rfl, rfl, h1, h2⟩ := h
    exact ⟨v', vr ++ [v], f1, f2 ++ f, rfl, by simp, h1, AvR.snoc x r h2⟩
  | .lend i :: r, _, _, h => by
    obtain ⟨v', vr, rfl, h1, h2⟩ := h
    exact ⟨v', vr ++ [v], rfl, h1, AvR.snoc x r h2⟩
theorem AvR.snocL {C : Kt} {H : Hp} {σ : L2.St} {i : Nat} {v : V} (x : σ[i]? = some (some v)) : ∀ (as : List Av) {vs : List V} {fp : List Addr}, AvR C H σ as vs fp → AvR C H σ (as ++ [.lend i]) (vs ++ [v]) fp
  | [], _, _, h => by
    obtain ⟨rfl, rfl⟩ := h
    exact ⟨v, [], rfl, x, rfl, rfl⟩
  | .val m' :: r, _, _, h => by
    obtain ⟨v', vr, f1, f2, rfl, rfl, h1, h2⟩ := h
    exact ⟨v', vr ++ [v], f1, f2, rfl, rfl, h1, AvR.snocL x r h2⟩
  | .lend i :: r, _, _, h => by
    obtain ⟨v', vr, rfl, h1, h2⟩ := h
    exact ⟨v', vr ++ [v], rfl, h1, AvR.snocL x r h2⟩

/-- where an evaluation that began at H with fp owned stands: the values so far, the slots -/
def Now (C : Kt) (σ : L2.St) (H : Hp) (fp : List Addr) (H1 : Hp) (ts : List Av) (vs : List V) (env : Env) : Prop :=
  ∃ ft fe, AvR C H1 σ ts vs ft ∧ ER C H1 env σ fe ∧ (ft ++ fe).Nodup ∧ Mv H H1 fp (ft ++ fe)
theorem Now.start {C : Kt} {σ : L2.St} {H : Hp} {fp : List Addr} {env : Env} (h : ER C H env σ fp) (nd : fp.Nodup) : Now C σ H fp H [] [] env :=
  ⟨[], fp, ⟨rfl, rfl⟩, h, nd, Mv.refl H fp⟩

def sBind (s : SE) (k : D → SE) : SE := fun env => match s env with
  | some (.ok m, env1) => k m env1
  | some (.ex c m, env1) => some (.ex c m, env1)
  | none => none
def sOpt (o : Option D) : SE := fun env => o.map fun m => (.ok m, env)
def sOk (m : D) : SE := fun env => some (.ok m, env)

section
variable {C : Kt} {W : WXT} {σ : L2.St} {H H1 H2 : Hp} {fp : List Addr} {Q : VK} {ts : List Av} {vs : List V} {env : Env}
/-- an expression is evaluated -/
theorem Now.step {s : SE} {k : D → SE} (n : Now C σ H fp H1 ts vs env) (h : PostE C W σ H fp Q (sBind s k env)) :
    tE C W s σ H1 fun v H2 => ∃ m env2, Now C σ H fp H2 (ts ++ [.val m]) (vs ++ [v]) env2 ∧ s env = some (.ok m, env2) ∧ PostE C W σ H fp Q (k m env2) := by
  obtain ⟨ft, fe, a, r, nd, mv⟩ := n
  refine ⟨env, fe, r, (List.nodup_append.mp nd).2.1, ?_⟩
  have ow := a.owned ts
  unfold sBind at h
  cases q : s env with
  | none => rw [q] at h; exact h.elim
  | some z =>
    obtain ⟨z, env2⟩ := z
    rw [q] at h
    cases z with
    | ok m =>
      refine fun v H2 fm fe2 x r2 n2 mv2 => ⟨m, env2, ⟨ft ++ fm, fe2, ?_, r2, ?_, ?_⟩, rfl, h⟩
      · exact (a.st ts (mv2.st nd)).snoc x
      · rw [List.append_assoc]; exact mv2.nodup nd ow n2
      · rw [List.append_assoc]; exact mv.trans (mv2.frame nd ow)
    | ex c m =>
      refine fun cls d H2 fm fe2 x r2 n2 mv2 => h cls d H2 fm fe2 x r2 n2 ?_
      exact (mv.trans (mv2.frame nd ow)).less fun b hb => List.mem_append_right _ hb
/-- a look -/
theorem Now.look {p : SV} {m : D} (n : Now C σ H fp H1 ts vs env) (h : p env = some m) :
    tV C p σ H1 fun v H2 => ∃ fm, RP C H2 m v fm ∧ Same H1 H2 ∧ Now C σ H fp H2 ts vs env := by
  obtain ⟨ft, fe, a, r, nd, mv⟩ := n
  refine ⟨env, fe, m, r, h, fun v H2 fm s x => ⟨fm, x, s, ft, fe, a.st ts (Same.st1 s _), r.st env (Same.st1 s _), nd, ?_⟩⟩
  exact mv.trans ((Mv.same (fm := []) s fun _ z => nomatch z).less fun _ z => z)
/-- only the slots are kept in sight -/
theorem Now.drop (n : Now C σ H fp H1 ts vs env) : Now C σ H fp H1 [] [] env := by
  obtain ⟨ft, fe, a, r, nd, mv⟩ := n
  exact ⟨[], fe, ⟨rfl, rfl⟩, r, (List.nodup_append.mp nd).2.1, mv.less fun b hb => List.mem_append_right _ hb⟩
/-- the end: a value that is new or frozen -/
theorem Now.done {m : D} (n : Now C σ H fp H1 ts vs env) (h : PostE C W σ H fp Q (some (.ok m, env))) {v : V} {fm : List Addr} (s : Same H1 H2) (x : RP C H2 m v fm) (nm : fm.Nodup) (fr : ∀ a ∈ fm, H1 a = none) : Q v H2 := by
  obtain ⟨ft, fe, a, r, nd, mv⟩ := n.drop
  have e : ft = [] := a.2
  subst e
  have ow := r.owned env
  refine h v H2 fm fe x (r.st env (Same.st1 s _)) (List.nodup_append.mpr ⟨nm, nd, fun b hb c hc => ?_⟩) (mv.trans (Mv.same s fr))
  rintro rfl
  obtain ⟨o, e, _⟩ := ow b hc
  rw [fr b hb] at e; cases e
/-- the end: the last value itself -/
theorem Now.last {m : D} {v : V} (n : Now C σ H fp H1 (ts ++ [.val m]) (vs ++ [v]) env) (h : PostE C W σ H fp Q (some (.ok m, env))) (hv : vs.length = ts.length) : Q v H1 := by
  obtain ⟨ft, fe, a, r, nd, mv⟩ := n
  have : ∀ (ts : List Av) (vs : List V) (ft : List Addr), vs.length = ts.length → AvR C H1 σ (ts ++ [.val m]) (vs ++ [v]) ft → ∃ f1 f2, ft = f1 ++ f2 ∧ RP C H1 m v f2 := by
    intro ts
    induction ts with
    | nil =>
      intro vs ft hv a
      cases vs with
      | cons _ _ => simp at hv
      | nil =>
        obtain ⟨v', vr, f1, f2, e, rfl, x, e2, rfl⟩ := a
        cases e
        exact ⟨[], f1, by simp, x⟩
    | cons t ts ih =>
      intro vs ft hv a
      cases vs with
      | nil => simp at hv
      | cons w vs =>
        cases t with
        | val m' =>
          obtain ⟨v', vr, f1, f2, e, rfl, x, a⟩ := a
          cases e
          obtain ⟨g1, g2, rfl, y⟩ := ih vs _ (by simpa using hv) a
          exact ⟨f1 ++ g1, g2, by simp, y⟩
        | lend i =>
          obtain ⟨v', vr, e, x, a⟩ := a
          cases e
          exact ih vs _ (by simpa using hv) a
  obtain ⟨f1, f2, rfl, x⟩ := this ts vs ft hv a
  refine h v H1 f2 fe x r ?_ (mv.less fun b hb => ?_)
  · rw [List.append_assoc] at nd
    exact (List.nodup_append.mp nd).2.1
  · rw [List.append_assoc]; exact List.mem_append_right _ hb
end

theorem tE_mono {C : Kt} {W : WXT} {s : SE} {σ : L2.St} {H : Hp} {Q Q' : VK} (h : tE C W s σ H Q) (k : ∀ v H', Q v H' → Q' v H') : tE C W s σ H Q' := by
  obtain ⟨env, fp, e, nd, h⟩ := h
  refine ⟨env, fp, e, nd, ?_⟩
  cases q : s env with
  | none => rw [q] at h; exact h
  | some z =>
    obtain ⟨z, env2⟩ := z
    rw [q] at h
    cases z with
    | ok m => exact fun v H2 fm fe2 x r2 n2 mv2 => k v H2 (h v H2 fm fe2 x r2 n2 mv2)
    | ex c m => exact h
theorem tU_mono {C : Kt} {p : SV} {σ : L2.St} {H : Hp} {Q Q' : VK} (h : tU C p σ H Q) (k : ∀ v H', Q v H' → Q' v H') : tU C p σ H Q' := by
  obtain ⟨env, fp, m, e, nd, h⟩ := h
  exact ⟨env, fp, m, e, nd, fun v H' fm a b c d => k _ _ (h v H' fm a b c d)⟩
theorem tV_mono {C : Kt} {p : SV} {σ : L2.St} {H : Hp} {Q Q' : VK} (h : tV C p σ H Q) (k : ∀ v H', Q v H' → Q' v H') : tV C p σ H Q' := by
  obtain ⟨env, fp, m, e, nd, h⟩ := h
  exact ⟨env, fp, m, e, nd, fun v H' fm a b => k _ _ (h v H' fm a b)⟩
/-! ### operations on two values, that read alone -/
/-- r on values that read as x and y hands on what reads as f x y, new or frozen -/
def Op2 (C : Kt) (r : R2) (f : D → D → Option D) : Prop := ∀ (H : Hp) (x y : D) (v u : V) (f1 f2 : List Addr) (m : D), RP C H x v f1 → RP C H y u f2 → f x y = some m →
  ∀ Q : VK, (∀ w H' fm, Same H H' → RP C H' m w fm → fm.Nodup → (∀ a ∈ fm, H a = none) → Q w H') → r v u H Q
def p2 (f : D → D → Option D) (p q : SV) : SV := fun env => match p env, q env with
  | some x, some y => f x y
  | _, _ => none
def s2 (f : D → D → Option D) (sa sb : SE) : SE := sBind sa fun x => sBind sb fun y => sOpt (f x y)
def s2V (f : D → D → Option D) (sa : SE) (q : SV) : SE := sBind sa fun x env => match q env with
  | some y => sOpt (f x y) env
  | none => none
def s2N (f : D → D → Option D) (i : Nat) (sb : SE) : SE := fun env => match pVar i env with
  | some _ => sBind sb (fun y env1 => match pVar i env1 with
    | some x => sOpt (f x y) env1
    | none => none) env
  | none => none
section
variable {C : Kt} {W : WXT} {σ : L2.St} {H : Hp} {Q : VK} {r : R2} {f : D → D → Option D}
theorem op_vv (h : Op2 C r f) {p q : SV} (x : tU C (p2 f p q) σ H Q) : tOp r (tV C p) (tV C q) σ H Q := by
  obtain ⟨env, fp, m, e, hm, k⟩ := x
  unfold p2 at hm
  split at hm
  · rename_i a b e1 e2
    refine ⟨env, fp, a, e, e1, fun v H1 f1 s1 x1 => ⟨env, fp, b, e.st env (Same.st1 s1 _), e2, fun u H2 f2 s2 x2 => ?_⟩⟩
    exact h H2 a b v u f1 f2 m (x1.st a (Same.st1 s2 _)) x2 hm Q fun w H3 fm s3 x3 n3 fr => k w H3 fm (s1.trans (s2.trans s3)) x3 n3 fun a ha => s1.free (s2.free (fr a ha))
  · cases hm
theorem sOpt_some {fp : List Addr} {o : Option D} {env : Env} (h : PostE C W σ H fp Q (sOpt o env)) : ∃ m, o = some m ∧ PostE C W σ H fp Q (some (.ok m, env)) := by
  cases o with
  | none => exact h.elim
  | some m => exact ⟨m, rfl, h⟩
theorem op_ee (h : Op2 C r f) {sa sb : SE} (x : tE C W (s2 f sa sb) σ H Q) : tOp r (tE C W sa) (tE C W sb) σ H Q := by
  obtain ⟨env, fp, e, nd, k⟩ := x
  refine tE_mono ((Now.start e nd).step k) fun v H1 ⟨a, env1, n1, q1, k1⟩ => ?_
  refine tE_mono (n1.step k1) fun u H2 ⟨b, env2, n2, q2, k2⟩ => ?_
  obtain ⟨m, hm, k3⟩ := sOpt_some k2
  obtain ⟨ft, fe, ar, _⟩ := id n2
  obtain ⟨v1, vr, f1, f2, e1, rfl, x1, ar⟩ := ar
  cases e1
  obtain ⟨v2, vr, f3, f4, e1, rfl, x2, ar⟩ := ar
  cases e1
  exact h H2 a b v u f1 f3 m x1 x2 hm Q fun w H3 fm s3 x3 n3 fr => n2.done k3 s3 x3 n3 fr
theorem op_ev (h : Op2 C r f) {sa : SE} {q : SV} (x : tE C W (s2V f sa q) σ H Q) : tOp r (tE C W sa) (tV C q) σ H Q := by
  obtain ⟨env, fp, e, nd, k⟩ := x
  refine tE_mono ((Now.start e nd).step k) fun v H1 ⟨a, env1, n1, q1, k1⟩ => ?_
  split at k1
  · rename_i b e2
    obtain ⟨m, hm, k3⟩ := sOpt_some k1
    refine tV_mono (n1.look e2) fun u H2 ⟨f3, x2, s2, n2⟩ => ?_
    obtain ⟨ft, fe, ar, _⟩ := id n2
    obtain ⟨v1, vr, f1, f2, e1, rfl, x1, ar⟩ := ar
    cases e1
    exact h H2 a b v u f1 f3 m x1 x2 hm Q fun w H3 fm s3 x3 n3 fr => n2.done k3 s3 x3 n3 fr
  · exact k1.elim
theorem pVar_get {C : Kt} {H : Hp} {σ : L2.St} {fp : List Addr} {env : Env} {i : Nat} {m : D} (h : pVar i env = some m) (r : ER C H env σ fp) : ∃ v f1 f2 f3, σ[i]? = some (some v) ∧ fp = f1 ++ (f2 ++ f3) ∧ RP C H m v f2 ∧
      ∀ (H' : Hp) (y : Option D) (u : Option V) (f : List Addr), St1 H H' (f1 ++ f3) → Slt C H' y u f → ER C H' (env.set i y) (σ.set i u) (f1 ++ (f ++ f3)) := by
  unfold pVar at h
  split at h
  · rename_i m' e1
    cases h
    obtain ⟨w, f1, f2, f3, e2, rfl, ⟨v, rfl, x⟩, g⟩ := r.focus env e1
    exact ⟨v, f1, f2, f3, e2, rfl, x, g⟩
  · cases h
theorem op_ne (h : Op2 C r f) {i : Nat} {sb : SE} (x : tE C W (s2N f i sb) σ H Q) : tOp r (tVar i) (tE C W sb) σ H Q := by
  obtain ⟨env, fp, e, nd, k⟩ := x
  unfold s2N at k
  split at k
  · rename_i a e1
    obtain ⟨v, _, _, _, hv, _⟩ := pVar_get e1 e
    refine ⟨v, hv, ?_⟩
    refine tE_mono ((Now.start e nd).step k) fun u H1 ⟨b, env1, n1, q1, k1⟩ => ?_
    split at k1
    · rename_i a' e2
      obtain ⟨m, hm, k3⟩ := sOpt_some k1
      obtain ⟨ft, fe, ar, r1, _⟩ := id n1
      obtain ⟨v', f1, f2, f3, hv', rfl, x1, _⟩ := pVar_get e2 r1
      rw [hv] at hv'
      cases hv'
      obtain ⟨v2, vr, g1, g2, e3, rfl, x2, ar⟩ := ar
      cases e3
      exact h H1 a' b v u f2 g1 m x1 x2 hm Q fun w H3 fm s3 x3 n3 fr => n1.done k3 s3 x3 n3 fr
    · exact k1.elim
  · exact k.elim
end

/-! ### statements -/
inductive Fl where
  | nx | rt (m : D) | bk | ct | ex (c : Str) (m : D)
abbrev SS := Env → Option (Fl × Env)
def Kp (kp : Nat → Bool) (σ σ' : L2.St) : Prop := σ'.length = σ.length ∧ ∀ i, kp i = true → σ'[i]? = σ[i]?
theorem Kp.refl (kp : Nat → Bool) (σ : L2.St) : Kp kp σ σ := ⟨rfl, fun _ _ => rfl⟩
theorem Kp.trans {kp : Nat → Bool} {σ σ1 σ2 : L2.St} (a : Kp kp σ σ1) (b : Kp kp σ1 σ2) : Kp kp σ σ2 := ⟨b.1.trans a.1, fun i h => (b.2 i h).trans (a.2 i h)⟩
def PostS (C : Kt) (kp : Nat → Bool) (W : WXT) (Z : Ends) (σ : L2.St) (H : Hp) (fp : List Addr) : Option (Fl × Env) → Prop
  | none => False
  | some (.nx, env') => ∀ σ' H' fe, ER C H' env' σ' fe → fe.Nodup → Mv H H' fp fe → Kp kp σ σ' → Z.nx σ' H'
  | some (.bk, env') => ∀ σ' H' fe, ER C H' env' σ' fe → fe.Nodup → Mv H H' fp fe → Kp kp σ σ' → Z.bk σ' H'
  | some (.ct, env') => ∀ σ' H' fe, ER C H' env' σ' fe → fe.Nodup → Mv H H' fp fe → Kp kp σ σ' → Z.ct σ' H'
  | some (.rt m, env') => ∀ v σ' H' fm fe, RP C H' m v fm → ER C H' env' σ' fe → (fm ++ fe).Nodup → Mv H H' fp (fm ++ fe) → Kp kp σ σ' → Z.rt v H'
  | some (.ex c m, env') => ∀ cls d σ' H' fm fe, ExRep C H' c m cls d fm → ER C H' env' σ' fe → (fm ++ fe).Nodup → Mv H H' fp (fm ++ fe) → Kp kp σ σ' → W cls d σ' H'
def tS (C : Kt) (kp : Nat → Bool) (W : WXT) (s : SS) : TS := fun Z σ H => ∃ env fp, ER C H env σ fp ∧ fp.Nodup ∧ PostS C kp W Z σ H fp (s env)
section
variable {C : Kt} {kp : Nat → Bool} {W : WXT} {σ σ1 : L2.St} {H H1 : Hp} {fp fe : List Addr} {Z : Ends} {env : Env}
/-- the same wish from where it stands now -/
theorem PostS.shift {r : Option (Fl × Env)} (h : PostS C kp W Z σ H fp r) (mv : Mv H H1 fp fe) (kk : Kp kp σ σ1) : PostS C kp W Z σ1 H1 fe r := by
  cases r with
  | none => exact h
  | some z =>
    obtain ⟨z, env'⟩ := z
    cases z with
    | nx => exact fun σ' H' f r n m k => h σ' H' f r n (mv.trans m) (kk.trans k)
    | bk => exact fun σ' H' f r n m k => h σ' H' f r n (mv.trans m) (kk.trans k)
    | ct => exact fun σ' H' f r n m k => h σ' H' f r n (mv.trans m) (kk.trans k)
    | rt m => exact fun v σ' H' f g x r n m k => h v σ' H' f g x r n (mv.trans m) (kk.trans k)
    | ex c m => exact fun cls d σ' H' f g x r n m k => h cls d σ' H' f g x r n (mv.trans m) (kk.trans k)
def sSeq (s u : SS) : SS := fun env => match s env with
  | some (.nx, env1) => u env1
  | some (.rt m, env1) => some (.rt m, env1)
  | some (.bk, env1) => some (.bk, env1)
  | some (.ct, env1) => some (.ct, env1)
  | some (.ex c m, env1) => some (.ex c m, env1)
  | none => none
theorem seq_i {s u : SS} (x : tS C kp W (sSeq s u) Z σ H) : tSeq (tS C kp W s) (tS C kp W u) Z σ H := by
  obtain ⟨env, fp, r, nd, h⟩ := x
  refine ⟨env, fp, r, nd, ?_⟩
  unfold sSeq at h
  cases q : s env with
  | none => rw [q] at h; exact h.elim
  | some z =>
    obtain ⟨z, env2⟩ := z
    rw [q] at h
    cases z with
    | nx => exact fun σ' H' f r n m k => ⟨env2, f, r, n, h.shift m k⟩
    | bk => exact h
    | ct => exact h
    | rt m => exact h
    | ex c m => exact h
/-- an expression within a statement -/
theorem e_in {s : SE} (r : ER C H env σ fp) (nd : fp.Nodup) {Q : VK} (hx : ∀ c m env2, s env = some (.ex c m, env2) → PostS C kp W Z σ H fp (some (.ex c m, env2)))
    (hq : ∀ m env2, s env = some (.ok m, env2) → ∀ v H2 fm f2, RP C H2 m v fm → ER C H2 env2 σ f2 → (fm ++ f2).Nodup → Mv H H2 fp (fm ++ f2) → Q v H2) (hn : s env ≠ none) : tE C W s σ H Q := by
  refine ⟨env, fp, r, nd, ?_⟩
  cases q : s env with
  | none => exact (hn q).elim
  | some z =>
    obtain ⟨z, env2⟩ := z
    cases z with
    | ok m => exact hq m env2 q
    | ex c m => exact fun cls d H2 fm f2 x r2 n2 m2 => hx c m env2 q cls d σ H2 fm f2 x r2 n2 m2 (Kp.refl kp σ)
def sRet (s : SE) : SS := fun env => match s env with
  | some (.ok m, env1) => some (.rt m, env1)
  | some (.ex c m, env1) => some (.ex c m, env1)
  | none => none
theorem ret_i {s : SE} (x : tS C kp W (sRet s) Z σ H) : tRet (tE C W s) Z σ H := by
  obtain ⟨env, fp, r, nd, h⟩ := x
  unfold sRet at h
  refine e_in (Z := Z) (kp := kp) r nd (fun c m e2 q => ?_) (fun m e2 q => ?_) fun q => ?_
  · rw [q] at h; exact h
  · rw [q] at h; exact fun v H2 fm f2 x r n mv => h v σ H2 fm f2 x r n mv (Kp.refl kp σ)
  · rw [q] at h; exact h
def sRetN : SS := fun env => some (.rt .non, env)
theorem retN_i (x : tS C kp W sRetN Z σ H) : tRetN Z σ H := by
  obtain ⟨env, fp, r, nd, h⟩ := x
  exact h .non σ H [] fp ⟨rfl, rfl⟩ r nd (Mv.refl H fp) (Kp.refl kp σ)
def sDrop (s : SE) : SS := fun env => match s env with
  | some (.ok _, env1) => some (.nx, env1)
  | some (.ex c m, env1) => some (.ex c m, env1)
  | none => none
theorem drop_i {s : SE} (x : tS C kp W (sDrop s) Z σ H) : tDrop (tE C W s) Z σ H := by
  obtain ⟨env, fp, r, nd, h⟩ := x
  unfold sDrop at h
  refine e_in (Z := Z) (kp := kp) r nd (fun c m e2 q => ?_) (fun m e2 q => ?_) fun q => ?_
  · rw [q] at h; exact h
  · rw [q] at h
    exact fun v H2 fm f2 x r n mv => h σ H2 f2 r (List.nodup_append.mp n).2.1 (mv.less fun b hb => List.mem_append_right _ hb) (Kp.refl kp σ)
  · rw [q] at h; exact h
def sPass : SS := fun env => some (.nx, env)
def sBrk : SS := fun env => some (.bk, env)
def sCont : SS := fun env => some (.ct, env)
theorem pass_i (x : tS C kp W sPass Z σ H) : tNext Z σ H := by
  obtain ⟨env, fp, r, nd, h⟩ := x
  exact h σ H fp r nd (Mv.refl H fp) (Kp.refl kp σ)
theorem brk_i (x : tS C kp W sBrk Z σ H) : tBreak Z σ H := by
  obtain ⟨env, fp, r, nd, h⟩ := x
  exact h σ H fp r nd (Mv.refl H fp) (Kp.refl kp σ)
theorem cont_i (x : tS C kp W sCont Z σ H) : tCont Z σ H := by
  obtain ⟨env, fp, r, nd, h⟩ := x
  exact h σ H fp r nd (Mv.refl H fp) (Kp.refl kp σ)
def sIf (t : STe) (a b : SS) : SS := fun env => match t env with
  | some (.ok true, env1) => a env1
  | some (.ok false, env1) => b env1
  | some (.ex c m, env1) => some (.ex c m, env1)
  | none => none
theorem if_i {t : STe} {a b : SS} (x : tS C kp W (sIf t a b) Z σ H) : tIfS (tTE C W t) (tS C kp W a) (tS C kp W b) Z σ H := by
  obtain ⟨env, fp, r, nd, h⟩ := x
  refine ⟨env, fp, r, nd, ?_⟩
  unfold sIf at h
  cases q : t env with
  | none => rw [q] at h; exact h.elim
  | some z =>
    obtain ⟨z, env2⟩ := z
    rw [q] at h
    cases z with
    | ok b =>
      intro H2 f2 r2 n2 m2
      cases b with
      | true =>
        rw [if_pos rfl]
        exact ⟨env2, f2, r2, n2, h.shift m2 (Kp.refl kp σ)⟩
      | false =>
        rw [if_neg Bool.false_ne_true]
        exact ⟨env2, f2, r2, n2, h.shift m2 (Kp.refl kp σ)⟩
    | ex c m => exact fun cls d H2 fm f2 x r2 n2 m2 => h cls d σ H2 fm f2 x r2 n2 m2 (Kp.refl kp σ)
def sSet (i : Nat) (s : SE) : SS := fun env => match s env with
  | some (.ok m, env1) => if i < env1.length then some (.nx, env1.set i (some m)) else none
  | some (.ex c m, env1) => some (.ex c m, env1)
  | none => none
theorem ER.put {m : D} {v : V} {fm f2 : List Addr} {i : Nat} {env : Env} (hi : i < env.length) (x : RP C H m v fm) (r : ER C H env σ f2) (n : (fm ++ f2).Nodup) :
    ∃ f3, ER C H (env.set i (some m)) (σ.set i (some v)) f3 ∧ f3.Nodup ∧ ∀ b ∈ f3, b ∈ fm ++ f2 := by
  obtain ⟨w, g1, g2, g3, e2, rfl, y, k⟩ := r.focus env (List.getElem?_eq_getElem hi)
  refine ⟨g1 ++ (fm ++ g3), k H (some m) (some v) fm (fun _ _ e _ => e) ⟨v, rfl, x⟩, ?_, fun b hb => ?_⟩
  · simp only [List.nodup_append, List.mem_append] at n ⊢
    grind
  · simp only [List.mem_append] at hb ⊢
    grind
theorem Kp.set {i : Nat} {w : Option V} (hk : kp i = false) : Kp kp σ (σ.set i w) := ⟨by simp, fun j hj => by
  rw [List.getElem?_set_ne]
  rintro rfl
  rw [hk] at hj; cases hj⟩
theorem set_i {i : Nat} {s : SE} (hk : kp i = false) (x : tS C kp W (sSet i s) Z σ H) : tAsg (tE C W s) (gName i) Z σ H := by
  obtain ⟨env, fp, r, nd, h⟩ := x
  unfold sSet at h
  refine e_in (Z := Z) (kp := kp) r nd (fun c m e2 q => ?_) (fun m e2 q => ?_) fun q => ?_
  · rw [q] at h; exact h
  · rw [q] at h
    intro v H2 fm f2 x r n mv
    dsimp only at h
    split at h
    · rename_i hi
      obtain ⟨f3, r3, n3, s3⟩ := r.put hi x n
      exact h (σ.set i (some v)) H2 f3 r3 n3 (mv.less s3) (Kp.set hk)
    · exact h.elim
  · rw [q] at h; exact h
end
end T

set_option Elab.async false
set_option linter.all false
set_option maxRecDepth 100000
set_option maxHeartbeats 4000000
namespace T
open PySem PySem.Spec PyProof.Rows L2

/-! ### room for a call, and no repr on the way -/
structure Room (k : Nat) (A : Around) : Prop where
  rm : L2.Room k A
  gd : A.guards = some []
theorem Room.hd {k : Nat} {A : Around} (r : Room k A) : A.handled = none := r.rm.hd
theorem Room.un {k : Nat} {A : Around} (r : Room k A) : A.units + 16 * k + 200 < cLine := r.rm.un
theorem Room.units {k : Nat} {A : Around} (r : Room k A) : A.units + 64 < cLine := r.rm.units
theorem Room.depth {k : Nat} {A : Around} (r : Room k A) : A.depth < recursionLimit := r.rm.depth
theorem Room.mono {j k : Nat} {A : Around} (r : Room k A) (h : j ≤ k) : Room j A := ⟨r.rm.mono h, r.gd⟩
theorem Room.deeper {k : Nat} {A : Around} (r : Room (k + 1) A) (env : PySem.Env) : Room k (A.deeper env) := ⟨r.rm.deeper env, r.gd⟩
theorem Room.in1 {k : Nat} {A : Around} (r : Room (k + 1) A) : Room k A.in1 := ⟨r.rm.in1, r.gd⟩
theorem Room.make {k : Nat} {A : Around} (r : Room (k + 1) A) (C : Addr) (us : List Value) (kw : List (Str × Value)) : Room k (A.under (.builtin "type.__call__" ⟨.ref C :: us, kw⟩)) :=
  ⟨r.rm.make C us kw, by
    have e : (Code.builtin "type.__call__" ⟨.ref C :: us, kw⟩).isGuard = false := by first | rfl | simp [Code.isGuard, guardIds]
    have e2 : (Code.builtin "type.__call__" ⟨.ref C :: us, kw⟩).guards = [] := by unfold Code.guards; rw [e]; rfl
    show pushGuards (Code.builtin "type.__call__" ⟨.ref C :: us, kw⟩).guards A.guards = some []
    rw [e2, r.gd]
    rfl⟩
structure FnOk (P : Program) (w : World) (K : PySem.W.Frag) (mg : Str → Option Value) (base : Heap) (CX : CXT) (k : Nat) (f : Addr) (fd : FuncData) (ps : List Str) (sp : Sp) : Prop where
  len : ∀ vs H Q E, sp vs H Q E → vs.length = ps.length
  run : ∀ (A : Around) (outer : List PySem.Env) (s : Shared) (H : Hp) (args : Args) (us : List Value) (vs : List V) (Q : VK) (E : XK), Room k A → Env0 P w K mg base A outer s H → BindsTo s fd args (ps.zip us) → Vals vs us → sp vs H Q E →
    codeAny (model P w) A (.call (.ref f) args) (CR CX outer P w H s Q E) s
theorem fn_of {CX : CXT} {P : Program} {w : World} {K : PySem.W.Frag} {mg : Str → Option Value} {base : Heap} {k : Nat} {f : Addr} {name qual : Str} {params : Arguments} {body : List Stmt} {scope : Scope} {dV kV doc pm cdv ct oc : Value} {an od : Option Addr}
    {osl : Array (Option Value)} {N ps : List Str} {sp : Sp} (lk : K.lookup f = some ⟨oc, od, .func (PySem.W.fnOf name qual params body scope dV kV doc pm an cdv ct), osl⟩) (hcd : PySem.W.codeIn K cdv qual = true) (S : FnScope N ps scope)
    (len : ∀ vs H Q E, sp vs H Q E → vs.length = ps.length)
    (hbody : ∀ (A : Around) (outer : List PySem.Env) (s : Shared) (H : Hp) (vs : List V) (Q : VK) (E : XK), Room k (A.deeper (envOfC qual scope s.heap.objs.size f cdv)) → sp vs H Q E →
      ∃ t, PSs (cxOf CX P w K mg base N qual scope f cdv A outer s H E) body t ∧ t { nx := fun _ H' => Q .non H', rt := Q } (start N vs) H) :
    FnOk P w K mg base CX (k + 1) f (PySem.W.fnOf name qual params body scope dV kV doc pm an cdv ct) ps sp := by
  refine ⟨len, fun A outer s H args us vs Q E hr e0 hb r hsp => ?_⟩
  have hl := len _ _ _ _ hsp
  have KX : K.In s.heap := e0.mod.kin.keeps fun b o e => (e0.bs b o e).1
  have lim : s.heap.NoLimit := e0.mod.nolimit.keeps fun b o e => (e0.bs b o e).1
  have hkind : ∀ y ∈ ps.zip us, scope.names.lookup y.1 = some .local ∨ (scope.names.lookup y.1 = some .cell ∧ ((cellsFrom (s.heap.objs.size + 1) scope.names []).lookup y.1).isSome = true) := fun ⟨n, v⟩ hy => by
    rcases S.par n (List.of_mem_zip hy).1 with q | q
    · exact .inl q
    · exact .inr ⟨q, PySem.W.cellsFrom_some _ _ _ (.inl q)⟩
  refine codeAny_call_function hr.depth (KX _ _ lk) rfl S.co S.gen rfl (PySem.W.codeRec_of KX hcd) (hb _ _ _ _ ?_)
  refine wpAny_newFunctionEnv_cells S.kind hkind fun env he s1 x => ?_
  subst he
  refine ⟨lim.keeps x.toInCall.keep, codeAny_func ?_⟩
  obtain ⟨t, ht, hq⟩ := hbody A outer s H vs Q E (hr.deeper _) hsp
  have I : Inv (cxOf CX P w K mg base N qual scope f cdv A outer s H E) [] (start N vs) H s1 := inv_start S hr.hd e0 hl r x
  refine wpAny_mono (ht.run [] s1 (start N vs) H _ I hq) (fun fl s' hs => ?_) fun e s' hs => hs
  have fin : ∀ {σ' : L2.St} {H' : Hp} {v : V} {u : Value}, Inv (cxOf CX P w K mg base N qual scope f cdv A outer s H E) [] σ' H' s' → RelV v u → Q v H' → CE outer P w H s Q u s' :=
    fun {σ' H' v u} J rv q => ⟨v, H', J.os, J.bare, J.base, J.hok, rv, q⟩
  cases fl with
  | ret u =>
    obtain ⟨v, σ', H', J, rv, q⟩ := hs
    exact fin J rv q
  | next =>
    obtain ⟨σ', H', J, q⟩ := hs
    exact fin (v := V.non) (u := Value.none) J rfl q
  | brk =>
    obtain ⟨_, _, _, q⟩ := hs
    exact False.elim q
  | cont =>
    obtain ⟨_, _, _, q⟩ := hs
    exact False.elim q

section
variable {X : Cx} {CX : CXT} {k : Nat} {f C : Addr} {fd : FuncData} {ps : List Str} {sp : Sp} {E : L2.St → XK} {x m : Str} {p pos apos : Pos} {e o : Expr} {es : List Expr} {ta : TE} {t : TA}
theorem run_fnS {pins : List (Addr × Obj)} {σ : L2.St} {H : Hp} {s : Shared} {Q : VK} {us : List Value} {vs : List V} (F : FnOk X.prog X.w X.K X.mg X.base CX k f fd ps sp) (hr : Room k X.A) (hb : Binds X.K fd ps []) (hx : PassesAt CX X σ (E σ))
    (I : Inv X pins σ H s) (r : Vals vs us) (h : sp vs H Q (E σ)) : wpAny (model X.prog X.w) X.A (call (.ref f) us) (EP X pins σ Q) X.xe s := by
  have hl : us.length = ps.length := by rw [← r.length]; exact F.len _ _ _ _ h
  have b := hb s us I.kIn (by rw [List.append_nil]; exact hl)
  rw [List.append_nil] at b
  refine wpAny_call (codeAny_mono (F.run X.A X.stack s H ⟨us, []⟩ us vs Q (E σ) hr I.env0 b r h) fun r s' hq => ?_)
  cases r with
  | error e => exact hx pins H s e s' I hq
  | ok fl =>
    cases fl with
    | ret u => exact I.after hq
    | next => exact False.elim hq
    | brk => exact False.elim hq
    | cont => exact False.elim hq
theorem pe_callS (F : FnOk X.prog X.w X.K X.mg X.base CX k f fd ps sp) (hr : Room k X.A) (hg : Gl X x) (hm : X.mg x = some (.ref f)) (hk : PySem.W.keepIn X.K (.ref f) = true) (hb : Binds X.K fd ps []) (hx : ∀ σ, PassesAt CX X σ (E σ))
    (ha : PA X (e :: es) t) (hdb : (x == ("__debug__" : Str)) = false := by decide) (he : starEach (e :: es) X.env = (false, eval e X.env) :: starEach es X.env := by rfl) (hpl : (backTo pos (starEach es X.env)).any (·.1) = false := by rfl) :
    PE X (.Call (.Name x p) (e :: es) [] pos) (tCallS sp E t) := by
  refine ⟨fun pins s σ H Q I h => ?_⟩
  refine wpAny_Call_Name_kw (ld_glob I hg hm ?_ hdb)
  refine PySem.W.callWith_K (h₀ := X.base) I.ok.mod.kin hk (thn (ha.run pos pins s σ H _ I h) fun us s1 ⟨vs, H1, I1, r, q⟩ => ⟨I1.kIn, ?_⟩) he hpl
  exact run_fnS F hr hb (hx σ) I1 r q
end
end T

set_option Elab.async false
set_option linter.all false
set_option maxRecDepth 100000
set_option maxHeartbeats 4000000
namespace T
open PySem PySem.Spec PyProof.Rows L2

/-! ### argument lists -/
abbrev SA := Env → Option (Rs (List Av) × Env)
def PostA (C : Kt) (W : WXT) (σ : L2.St) (H : Hp) (fp : List Addr) (Q : List V → Hp → Prop) : Option (Rs (List Av) × Env) → Prop
  | none => False
  | some (.ok as, env') => ∀ vs H' fa fe, AvR C H' σ as vs fa → ER C H' env' σ fe → (fa ++ fe).Nodup → Mv H H' fp (fa ++ fe) → Q vs H'
  | some (.ex c m, env') => ∀ cls d H' fm fe, ExRep C H' c m cls d fm → ER C H' env' σ fe → (fm ++ fe).Nodup → Mv H H' fp (fm ++ fe) → W cls d σ H'
def tA (C : Kt) (W : WXT) (s : SA) : TA := fun σ H Q => ∃ env fp, ER C H env σ fp ∧ fp.Nodup ∧ PostA C W σ H fp Q (s env)
/-- pure ones: looks (tAV), or new | frozen values (tAU) -/
abbrev SAV := Env → Option (List D)
def tAV (C : Kt) (p : SAV) : TA := fun σ H Q => ∃ env fp ms, ER C H env σ fp ∧ p env = some ms ∧ ∀ vs H' fm, Same H H' → RPs C H' ms vs fm → Q vs H'
def tAU (C : Kt) (p : SAV) : TA := fun σ H Q => ∃ env fp ms, ER C H env σ fp ∧ p env = some ms ∧ ∀ vs H' fm, Same H H' → RPs C H' ms vs fm → fm.Nodup → (∀ a ∈ fm, H a = none) → Q vs H'
theorem pa_imp {X : Cx} {e : List Expr} {t t' : TA} (h : PA X e t) (f : ∀ σ H Q, t' σ H Q → t σ H Q) : PA X e t' := ⟨fun pos pins s σ H Q I q => h.run pos pins s σ H Q I (f σ H Q q)⟩
def aNil : SA := fun env => some (.ok [], env)
def aE (s : SE) (r : SA) : SA := fun env => match s env with
  | some (.ok m, env1) => match r env1 with
    | some (.ok as, env2) => some (.ok (.val m :: as), env2)
    | some (.ex c m, env2) => some (.ex c m, env2)
    | none => none
  | some (.ex c m, env1) => some (.ex c m, env1)
  | none => none
def aN (i : Nat) (r : SA) : SA := fun env => match pVar i env with
  | some _ => match r env with
    | some (.ok as, env2) => some (.ok (.lend i :: as), env2)
    | some (.ex c m, env2) => some (.ex c m, env2)
    | none => none
  | none => none
def vNil : SAV := fun _ => some []
def vCons (p : SV) (r : SAV) : SAV := fun env => match p env, r env with
  | some m, some ms => some (m :: ms)
  | _, _ => none
section
variable {C : Kt} {W : WXT} {σ : L2.St} {H : Hp} {Q : List V → Hp → Prop}
theorem aNil_i (x : tA C W aNil σ H Q) : tNil σ H Q := by
  obtain ⟨env, fp, r, nd, h⟩ := x
  exact h [] H [] fp ⟨rfl, rfl⟩ r nd (Mv.refl H fp)
theorem aE_i {s : SE} {r : SA} (x : tA C W (aE s r) σ H Q) : tCons (tE C W s) (tA C W r) σ H Q := by
  obtain ⟨env, fp, e, nd, h⟩ := x
  refine ⟨env, fp, e, nd, ?_⟩
  unfold aE at h
  cases q : s env with
  | none => rw [q] at h; exact h.elim
  | some z =>
    obtain ⟨z, env1⟩ := z
    rw [q] at h
    cases z with
    | ex c m => exact h
    | ok m =>
      intro v H1 fm fe x1 r1 n1 m1
      refine ⟨env1, fe, r1, (List.nodup_append.mp n1).2.1, ?_⟩
      have ow := x1.owned m
      dsimp only at h
      cases q2 : r env1 with
      | none => rw [q2] at h; exact h.elim
      | some z =>
        obtain ⟨z, env2⟩ := z
        rw [q2] at h
        cases z with
        | ex c m => exact fun cls d H2 f2 fe2 x2 r2 n2 m2 => h cls d H2 f2 fe2 x2 r2 n2 ((m1.trans (m2.frame n1 ow)).less fun b hb => List.mem_append_right _ hb)
        | ok as =>
          intro vs H2 fa fe2 x2 r2 n2 m2
          refine h (v :: vs) H2 (fm ++ fa) fe2 ⟨v, vs, fm, fa, rfl, rfl, x1.st m (m2.st n1), x2⟩ r2 ?_ ?_
          · rw [List.append_assoc]; exact m2.nodup n1 ow n2
          · rw [List.append_assoc]; exact m1.trans (m2.frame n1 ow)
theorem aN_i {i : Nat} {r : SA} (x : tA C W (aN i r) σ H Q) : tCons (tVar i) (tA C W r) σ H Q := by
  obtain ⟨env, fp, e, nd, h⟩ := x
  unfold aN at h
  split at h
  · rename_i m q
    obtain ⟨v, f1, f2, f3, hv, _⟩ := pVar_get q e
    refine ⟨v, hv, env, fp, e, nd, ?_⟩
    cases q2 : r env with
    | none => rw [q2] at h; exact h.elim
    | some z =>
      obtain ⟨z, env2⟩ := z
      rw [q2] at h
      cases z with
      | ex c m => exact h
      | ok as => exact fun vs H2 fa fe2 x2 r2 n2 m2 => h (v :: vs) H2 fa fe2 ⟨v, vs, rfl, hv, x2⟩ r2 n2 m2
  · exact h.elim
theorem vNil_i (x : tAV C vNil σ H Q) : tNil σ H Q := by
  obtain ⟨env, fp, ms, r, e, h⟩ := x
  cases e
  exact h [] H [] (Same.refl H) ⟨rfl, rfl⟩
theorem uNil_i (x : tAU C vNil σ H Q) : tNil σ H Q := by
  obtain ⟨env, fp, ms, r, e, h⟩ := x
  cases e
  exact h [] H [] (Same.refl H) ⟨rfl, rfl⟩ List.nodup_nil fun _ z => nomatch z
theorem vCons_i {p : SV} {r : SAV} (x : tAV C (vCons p r) σ H Q) : tCons (tV C p) (tAV C r) σ H Q := by
  obtain ⟨env, fp, ms, e, q, h⟩ := x
  unfold vCons at q
  split at q
  · rename_i m mr e1 e2
    cases q
    exact ⟨env, fp, m, e, e1, fun v H1 f1 s1 x1 => ⟨env, fp, mr, e.st env (Same.st1 s1 _), e2, fun vs H2 f2 s2 x2 => h (v :: vs) H2 (f1 ++ f2) (s1.trans s2) ⟨v, vs, f1, f2, rfl, rfl, x1.st m (Same.st1 s2 _), x2⟩⟩⟩
  · cases q
theorem fresh_app {H H1 : Hp} {f1 f2 : List Addr} (ow : Owned H1 f1) (n1 : f1.Nodup) (n2 : f2.Nodup) (h2 : ∀ a ∈ f2, H1 a = none) : (f1 ++ f2).Nodup :=
  List.nodup_append.mpr ⟨n1, n2, fun a ha b hb => by
    rintro rfl
    obtain ⟨o, e, _⟩ := ow a ha
    rw [h2 a hb] at e; cases e⟩
theorem uCons_i {p : SV} {r : SAV} (x : tAU C (vCons p r) σ H Q) : tCons (tU C p) (tAU C r) σ H Q := by
  obtain ⟨env, fp, ms, e, q, h⟩ := x
  unfold vCons at q
  split at q
  · rename_i m mr e1 e2
    cases q
    refine ⟨env, fp, m, e, e1, fun v H1 f1 s1 x1 n1 g1 => ⟨env, fp, mr, e.st env (Same.st1 s1 _), e2, fun vs H2 f2 s2 x2 n2 g2 => ?_⟩⟩
    refine h (v :: vs) H2 (f1 ++ f2) (s1.trans s2) ⟨v, vs, f1, f2, rfl, rfl, x1.st m (Same.st1 s2 _), x2⟩ (fresh_app (H := H1) (x1.owned m) n1 n2 g2) fun a ha => ?_
    exact (List.mem_append.mp ha).elim (g1 a) fun z => s1.free (g2 a z)
  · cases q
end

/-! ### a function's meaning, and its call -/
abbrev SF := List D → Option (Rs D × List (Option D))
def OutR (C : Kt) (H : Hp) : List (Option D) → List V → List Addr → Prop
  | [], vs, fp => vs = [] ∧ fp = []
  | none :: r, vs, fp => ∃ v vr, vs = v :: vr ∧ OutR C H r vr fp
  | some m :: r, vs, fp => ∃ v vr f1 f2, vs = v :: vr ∧ fp = f1 ++ f2 ∧ RP C H m v f1 ∧ OutR C H r vr f2
def PostF (C : Kt) (H : Hp) (fp : List Addr) (vs : List V) (Q : VK) (E : XK) : Option (Rs D × List (Option D)) → Prop
  | none => False
  | some (.ok m, os) => ∀ v H' fm fo, RP C H' m v fm → OutR C H' os vs fo → (fm ++ fo).Nodup → Mv H H' fp (fm ++ fo) → Q v H'
  | some (.ex c m, os) => ∀ cls d H' fm fo, ExRep C H' c m cls d fm → OutR C H' os vs fo → (fm ++ fo).Nodup → Mv H H' fp (fm ++ fo) → E cls d H'
/-- the promise of a def whose meaning is F -/
def spF (C : Kt) (F : SF) : Sp := fun vs H Q E => ∃ ms fp, RPs C H ms vs fp ∧ fp.Nodup ∧ PostF C H fp vs Q E (F ms)

def takeA : List Av → Env → Option (List D × Env)
  | [], env => some ([], env)
  | .val m :: r, env => match takeA r env with
    | some (ms, env') => some (m :: ms, env')
    | none => none
  | .lend i :: r, env => match pVar i env with
    | some m => match takeA r (if fz m then env else env.set i none) with
      | some (ms, env') => some (m :: ms, env')
      | none => none
    | none => none
def backA : List Av → List (Option D) → Env → Env
  | .val _ :: r, _ :: os, env => backA r os env
  | .lend i :: r, o :: os, env => match env[i]? with
    | some none => backA r os (env.set i o)
    | _ => backA r os env
  | _, _, env => env
def sCallA (F : SF) (a : SA) : SE := fun env => match a env with
  | some (.ok as, env1) => match takeA as env1 with
    | some (ms, env2) => match F ms with
      | some (.ok m, os) => some (.ok m, backA as os env2)
      | some (.ex c m, os) => some (.ex c m, backA as os env2)
      | none => none
    | none => none
  | some (.ex c m, env1) => some (.ex c m, env1)
  | none => none

theorem set_self {σ : L2.St} {i : Nat} {w : Option V} (h : σ[i]? = some w) : σ.set i w = σ := by
  have hl := (List.getElem?_eq_some_iff.mp h).1
  have : σ[i] = w := (List.getElem?_eq_some_iff.mp h).2
  rw [← this]; exact List.set_getElem_self hl
theorem takeA_ok {C : Kt} {H : Hp} {σ : L2.St} : ∀ (as : List Av) {vs : List V} {fa fe : List Addr} {env env' : Env} {ms : List D}, AvR C H σ as vs fa → ER C H env σ fe → takeA as env = some (ms, env') →
    ∃ fm fe', RPs C H ms vs fm ∧ ER C H env' σ fe' ∧ (fm ++ fe').Perm (fa ++ fe)
  | [], _, _, fe, _, _, _, a, r, h => by
    obtain ⟨rfl, rfl⟩ := a
    cases h
    exact ⟨[], fe, ⟨rfl, rfl⟩, r, .refl _⟩
  | .val m :: as, _, _, fe, env, env', ms, a, r, h => by
    obtain ⟨v, vr, f1, f2, rfl, rfl, x, a⟩ := a
    unfold takeA at h
    split at h
    · rename_i ms' env'' q
      cases h
      obtain ⟨fm, fe', x2, r2, p⟩ := takeA_ok as a r q
      exact ⟨f1 ++ fm, fe', ⟨v, vr, f1, fm, rfl, rfl, x, x2⟩, r2, by rw [List.append_assoc, List.append_assoc]; exact p.append_left f1⟩
    · cases h
  | .lend i :: as, _, fa, fe, env, env', ms, a, r, h => by
    obtain ⟨v, vr, rfl, hv, a⟩ := a
    unfold takeA at h
    split at h
    · rename_i m q
      obtain ⟨v', f1, f2, f3, hv', rfl, x, k⟩ := pVar_get q r
      rw [hv] at hv'
      cases hv'
      split at h
      · rename_i ms' env'' q2
        cases h
        by_cases hz : fz m = true
        · rw [if_pos hz] at q2
          have := x.fz m hz
          subst this
          obtain ⟨fm, fe', x2, r2, p⟩ := takeA_ok as a r q2
          exact ⟨fm, fe', ⟨v, vr, [], fm, rfl, rfl, x, x2⟩, r2, p⟩
        · rw [if_neg hz] at q2
          have r1 := k H none (some v) [] (fun _ _ e _ => e) rfl
          rw [set_self hv] at r1
          obtain ⟨fm, fe', x2, r2, p⟩ := takeA_ok as a r1 q2
          refine ⟨f2 ++ fm, fe', ⟨v, vr, f2, fm, rfl, rfl, x, x2⟩, r2, ?_⟩
          rw [List.append_assoc]
          refine (p.append_left f2).trans ?_
          simp only [List.nil_append]
          refine (List.perm_append_comm_assoc _ _ _).trans (.append_left fa ?_)
          exact List.perm_append_comm_assoc _ _ _
      · cases h
    · cases h
theorem backA_ok {C : Kt} {H0 H : Hp} {σ : L2.St} : ∀ (as : List Av) {vs : List V} {f0 fo fe : List Addr} {env : Env} {os : List (Option D)}, AvR C H0 σ as vs f0 → OutR C H os vs fo → ER C H env σ fe → (fo ++ fe).Nodup →
    ∃ fe', ER C H (backA as os env) σ fe' ∧ fe'.Nodup ∧ ∀ b ∈ fe', b ∈ fo ++ fe
  | [], _, _, fo, fe, env, os, a, o, r, nd => by
    refine ⟨fe, ?_, (List.nodup_append.mp nd).2.1, fun b hb => List.mem_append_right _ hb⟩
    unfold backA; exact r
  | .val m :: as, _, _, fo, fe, env, os, a, o, r, nd => by
    obtain ⟨v, vr, f1, f2, rfl, rfl, x, a⟩ := a
    cases os with
    | nil => exact nomatch o.1
    | cons w os =>
      unfold backA
      cases w with
      | none =>
        obtain ⟨v', vr', e, o⟩ := o
        cases e
        exact backA_ok as a o r nd
      | some m =>
        obtain ⟨v', vr', g1, g2, e, rfl, x, o⟩ := o
        cases e
        obtain ⟨fe', r2, n2, s2⟩ := backA_ok as a o r (by rw [List.append_assoc] at nd; exact (List.nodup_append.mp nd).2.1)
        exact ⟨fe', r2, n2, fun b hb => by rw [List.append_assoc]; exact List.mem_append_right _ (s2 b hb)⟩
  | .lend i :: as, _, _, fo, fe, env, os, a, o, r, nd => by
    obtain ⟨v, vr, rfl, hv, a⟩ := a
    cases os with
    | nil => exact nomatch o.1
    | cons w os =>
      have ho : ∃ g1 g2, fo = g1 ++ g2 ∧ Slt C H w (some v) g1 ∧ OutR C H os vr g2 := by
        cases w with
        | none =>
          obtain ⟨v', vr', e, o⟩ := o
          cases e
          exact ⟨[], fo, rfl, rfl, o⟩
        | some m =>
          obtain ⟨v', vr', g1, g2, e, rfl, x, o⟩ := o
          cases e
          exact ⟨g1, g2, rfl, ⟨v, rfl, x⟩, o⟩
      obtain ⟨g1, g2, rfl, sl, o⟩ := ho
      unfold backA
      split
      · rename_i q
        obtain ⟨w', f1, f2, f3, e2, rfl, y, k⟩ := r.focus env q
        have r1 := k H w (some v) g1 (fun _ _ e _ => e) sl
        rw [set_self hv] at r1
        have y : f2 = [] := y
        subst y
        obtain ⟨fe', r2, n2, s2⟩ := backA_ok as a o r1 (by
          simp only [List.nodup_append, List.mem_append, List.nil_append] at nd ⊢
          grind)
        refine ⟨fe', r2, n2, fun b hb => ?_⟩
        have := s2 b hb
        simp only [List.mem_append] at this ⊢
        grind
      · obtain ⟨fe', r2, n2, s2⟩ := backA_ok as a o r (by rw [List.append_assoc] at nd; exact (List.nodup_append.mp nd).2.1)
        exact ⟨fe', r2, n2, fun b hb => by rw [List.append_assoc]; exact List.mem_append_right _ (s2 b hb)⟩

section
variable {C : Kt} {W : WXT} {σ : L2.St} {H : Hp} {Q : VK} {F : SF}
/-- what a call comes to, its arguments being there -/
theorem call_core {fp : List Addr} {H1 : Hp} {as : List Av} {vs : List V} {fa fe : List Addr} {env1 : Env} (h : PostE C W σ H fp Q (match takeA as env1 with
    | some (ms, env2) => match F ms with
      | some (.ok m, os) => some (.ok m, backA as os env2)
      | some (.ex c m, os) => some (.ex c m, backA as os env2)
      | none => none
    | none => none)) (a : AvR C H1 σ as vs fa) (r : ER C H1 env1 σ fe) (nd : (fa ++ fe).Nodup) (mv : Mv H H1 fp (fa ++ fe)) : spF C F vs H1 Q (fun cls d H' => W cls d σ H') := by
  split at h
  · rename_i ms env2 q
    obtain ⟨fm, fe', x, r2, p⟩ := takeA_ok as a r q
    have nd2 : (fm ++ fe').Nodup := p.nodup_iff.mpr nd
    have nd3 : (fe' ++ fm).Nodup := List.perm_append_comm.nodup_iff.mp nd2
    have mv2 : Mv H H1 fp (fe' ++ fm) := mv.less fun b hb => p.mem_iff.mp (List.perm_append_comm.mem_iff.mp hb)
    have ow := r2.owned env2
    refine ⟨ms, fm, x, (List.nodup_append.mp nd2).1, ?_⟩
    cases q2 : F ms with
    | none => rw [q2] at h; exact h.elim
    | some z =>
      obtain ⟨z, os⟩ := z
      rw [q2] at h
      cases z with
      | ok m =>
        intro v H2 fv fo y o n m2
        have st := m2.st nd3
        have n4 := m2.nodup nd3 ow n
        have m4 := mv2.trans (m2.frame nd3 ow)
        obtain ⟨fe3, r3, n3, s3⟩ := backA_ok as a o (r2.st env2 st) (by
          simp only [List.nodup_append, List.mem_append] at n4 ⊢
          grind)
        refine h v H2 fv fe3 y r3 ?_ (m4.less fun b hb => ?_)
        · simp only [List.nodup_append, List.mem_append] at n4 n3 s3 ⊢
          grind
        · simp only [List.mem_append] at hb s3 ⊢
          grind
      | ex c m =>
        intro cls d H2 fv fo y o n m2
        have st := m2.st nd3
        have n4 := m2.nodup nd3 ow n
        have m4 := mv2.trans (m2.frame nd3 ow)
        obtain ⟨fe3, r3, n3, s3⟩ := backA_ok as a o (r2.st env2 st) (by
          simp only [List.nodup_append, List.mem_append] at n4 ⊢
          grind)
        refine h cls d H2 fv fe3 y r3 ?_ (m4.less fun b hb => ?_)
        · simp only [List.nodup_append, List.mem_append] at n4 n3 s3 ⊢
          grind
        · simp only [List.mem_append] at hb s3 ⊢
          grind
  · exact h.elim
/-- f(..) -/
theorem call_i {a : SA} (x : tE C W (sCallA F a) σ H Q) : tCallS (spF C F) (fun σ cls d H' => W cls d σ H') (tA C W a) σ H Q := by
  obtain ⟨env, fp, r, nd, h⟩ := x
  refine ⟨env, fp, r, nd, ?_⟩
  unfold sCallA at h
  cases q : a env with
  | none => rw [q] at h; exact h.elim
  | some z =>
    obtain ⟨z, env1⟩ := z
    rw [q] at h
    cases z with
    | ex c m => exact h
    | ok as => exact fun vs H1 fa fe a r n mv => call_core h a r n mv
end

/-! ### a def by its body -/
def outsF (kp : Nat → Bool) : Nat → Nat → Env → List (Option D)
  | _, 0, _ => []
  | j, n + 1, [] => none :: outsF kp (j + 1) n []
  | j, n + 1, x :: r => (if kp j then x else none) :: outsF kp (j + 1) n r
/-- n names, np of them parameters; kp: those that are never stored to -/
def fnS (n np : Nat) (kp : Nat → Bool) (s : SS) : SF := fun ms => if ms.length = np then
    match s (ms.map some ++ List.replicate (n - np) none) with
    | some (.nx, env) => some (.ok .non, outsF kp 0 np env)
    | some (.rt m, env) => some (.ok m, outsF kp 0 np env)
    | some (.ex c m, env) => some (.ex c m, outsF kp 0 np env)
    | _ => none
  else none
theorem ER.start {C : Kt} {H : Hp} : ∀ {ms : List D} {vs : List V} {fp : List Addr} (k : Nat), RPs C H ms vs fp → ER C H (ms.map some ++ List.replicate k none) (vs.map some ++ List.replicate k none) fp
  | [], _, _, k, h => by
    obtain ⟨rfl, rfl⟩ := h
    induction k with
    | zero => exact ⟨rfl, rfl⟩
    | succ k ih => exact ⟨none, _, rfl, ih⟩
  | m :: ms, _, _, k, h => by
    obtain ⟨v, vr, f1, f2, rfl, rfl, h1, h2⟩ := h
    exact ⟨v, _, f1, f2, rfl, rfl, h1, ER.start k h2⟩
theorem outs_ok {C : Kt} {H : Hp} (kp : Nat → Bool) : ∀ (vs : List V) (j : Nat) (env : Env) {σ : L2.St} {fp : List Addr}, ER C H env σ fp → (∀ i, i < vs.length → kp (j + i) = true → σ[i]? = some (vs[i]?)) →
    ∃ fo, OutR C H (outsF kp j vs.length env) vs fo ∧ List.Sublist fo fp
  | [], _, _, _, fp, _, _ => ⟨[], ⟨rfl, rfl⟩, List.nil_sublist fp⟩
  | v :: vs, j, [], _, fp, r, h => by
    obtain ⟨rfl, rfl⟩ := r
    have e0 : ∀ (vs : List V) (j : Nat), ∃ fo, OutR C H (outsF kp j vs.length []) vs fo ∧ List.Sublist fo [] := by
      intro vs
      induction vs with
      | nil => exact fun j => ⟨[], ⟨rfl, rfl⟩, List.nil_sublist _⟩
      | cons v vs ih =>
        intro j
        obtain ⟨fo, o, s⟩ := ih (j + 1)
        exact ⟨fo, ⟨v, vs, rfl, o⟩, s⟩
    exact e0 (v :: vs) j
  | v :: vs, j, none :: r, _, fp, x, h => by
    obtain ⟨w, σ', rfl, x⟩ := x
    obtain ⟨fo, o, s⟩ := outs_ok kp vs (j + 1) r x fun i hi hk => by
      have := h (i + 1) (by simpa using hi) (by rw [Nat.add_assoc, Nat.add_comm 1] at hk; exact hk)
      simpa using this
    refine ⟨fo, ?_, s⟩
    show OutR C H ((if kp j then none else none) :: _) _ _
    rw [ite_self]
    exact ⟨v, vs, rfl, o⟩
  | v :: vs, j, some m :: r, _, fp, x, h => by
    obtain ⟨v', σ', f1, f2, rfl, rfl, x1, x⟩ := x
    obtain ⟨fo, o, s⟩ := outs_ok kp vs (j + 1) r x fun i hi hk => by
      have := h (i + 1) (by simpa using hi) (by rw [Nat.add_assoc, Nat.add_comm 1] at hk; exact hk)
      simpa using this
    show ∃ fo, OutR C H ((if kp j then some m else none) :: _) _ fo ∧ _
    by_cases hj : kp j = true
    · rw [if_pos hj]
      have := h 0 (by simp) (by simpa using hj)
      simp only [List.getElem?_cons_zero, Option.some.injEq] at this
      subst this
      exact ⟨f1 ++ fo, ⟨v', vs, f1, fo, rfl, rfl, x1, o⟩, s.append_left f1⟩
    · rw [if_neg hj]
      exact ⟨fo, ⟨v, vs, rfl, o⟩, s.trans (List.sublist_append_right f1 f2)⟩
theorem RPs.len {C : Kt} {H : Hp} : ∀ {ms : List D} {vs : List V} {fp : List Addr}, RPs C H ms vs fp → ms.length = vs.length
  | [], _, _, h => by obtain ⟨rfl, _⟩ := h; rfl
  | m :: ms, _, _, h => by
    obtain ⟨v, vr, f1, f2, rfl, rfl, h1, h2⟩ := h
    simp [RPs.len h2]
section
variable {P : Program} {w : World} {K : PySem.W.Frag} {mg : Str → Option Value} {base : Heap}
theorem fn_ok {x qual : Str} {st : Stmt} {f : Addr} {fd : FuncData} {N ps : List Str} {k : Nat} {kp : Nat → Bool} {s : SS} (F : Fun K x qual st f fd) (S : FnScope N ps (defScope st)) (hl : ps.length ≤ N.length)
    (hk : ∀ i, kp i = true → i < ps.length)
    (hbody : ∀ (cdv : Value) (A : Around) (outer : List PySem.Env) (s0 : Shared) (H : Hp) (E : XK), Room k (A.deeper (envOfC qual (defScope st) s0.heap.objs.size f cdv)) →
      PSs (cxOf (L2.CX P w) P w K mg base N qual (defScope st) f cdv A outer s0 H E) (defBody st) (tS ⟨K, mg⟩ kp (fun cls d _ H' => E cls d H') s)) :
    FnOk P w K mg base (L2.CX P w) (k + 1) f fd ps (spF ⟨K, mg⟩ (fnS N.length ps.length kp s)) := by
  obtain ⟨oc, od, kV, doc, pm, an, cdv, ct, osl, rfl, lk, hcd⟩ := F.ex
  refine fn_of lk hcd S (fun vs H Q E h => ?_) (fun A outer s0 H vs Q E hr h => ⟨_, hbody cdv A outer s0 H E hr, ?_⟩)
  · obtain ⟨ms, fp, x, nd, h⟩ := h
    unfold fnS at h
    split at h
    · rename_i e
      rw [← x.len]; exact e
    · exact h.elim
  · obtain ⟨ms, fp, x, nd, h⟩ := h
    unfold fnS at h
    split at h
    · rename_i e
      have hv : vs.length = ps.length := by rw [← x.len]; exact e
      have r0 : ER ⟨K, mg⟩ H (ms.map some ++ List.replicate (N.length - ps.length) none) (L2.start N vs) fp := by
        unfold L2.start
        rw [hv]
        exact ER.start _ x
      refine ⟨_, fp, r0, nd, ?_⟩
      have hs : ∀ i, i < vs.length → (L2.start N vs)[i]? = some (vs[i]?) := fun i hi => by
        unfold L2.start
        rw [List.getElem?_append_left (by simpa using hi)]
        simp [hi]
      have ho : ∀ {env' : Env} {σ' : L2.St} {H' : Hp} {fe : List Addr}, ER ⟨K, mg⟩ H' env' σ' fe → Kp kp (L2.start N vs) σ' → ∃ fo, OutR ⟨K, mg⟩ H' (outsF kp 0 ps.length env') vs fo ∧ List.Sublist fo fe := fun {env' σ' H' fe} r kk => by
        rw [← hv]
        refine outs_ok kp vs 0 env' r fun i hi hik => ?_
        rw [Nat.zero_add] at hik
        rw [kk.2 i hik]; exact hs i hi
      cases q : s (ms.map some ++ List.replicate (N.length - ps.length) none) with
      | none => rw [q] at h; exact h.elim
      | some z =>
        obtain ⟨z, env'⟩ := z
        rw [q] at h
        cases z with
        | nx =>
          intro σ' H' fe r n mv kk
          obtain ⟨fo, o, su⟩ := ho r kk
          exact h .non H' [] fo ⟨rfl, rfl⟩ o (su.nodup n) (mv.less fun b hb => su.subset hb)
        | rt m =>
          intro v σ' H' fm fe y r n mv kk
          obtain ⟨fo, o, su⟩ := ho r kk
          have su2 := su.append_left fm
          exact h v H' fm fo y o (su2.nodup n) (mv.less fun b hb => su2.subset hb)
        | ex c m =>
          intro cls d σ' H' fm fe y r n mv kk
          obtain ⟨fo, o, su⟩ := ho r kk
          have su2 := su.append_left fm
          exact h cls d H' fm fo y o (su2.nodup n) (mv.less fun b hb => su2.subset hb)
        | bk => exact h.elim
        | ct => exact h.elim
    · exact h.elim
end
end T

set_option Elab.async false
set_option linter.all false
set_option maxRecDepth 100000
set_option maxHeartbeats 4000000
namespace T
open PySem PySem.Spec PyProof.Rows L2

/-! ### trees as plain data -/
mutual
def toP : D → Option PyData
  | .non => some .none
  | .bl b => some (.bool b)
  | .int i => some (.int i)
  | .str s => some (.str s)
  | .tup ms => (toPs ms).map .tuple
  | .lst _ ms => (toPs ms).map .list
  | .klst _ => none
  | .dct _ _ => none
  | .ins _ _ _ => none
def toPs : List D → Option (List PyData)
  | [] => some []
  | m :: ms => match toP m, toPs ms with
    | some d, some ds => some (d :: ds)
    | _, _ => none
end
theorem At.seqL {o : Bool} {K : PySem.W.Frag} {H : Hp} {a : Addr} {vs : List V} {fp fp' : List Addr} (h : At o H a (.lst vs) fp fp') : SqL K H a vs := by
  cases o with
  | true => exact .inl (.inl h.1)
  | false => obtain ⟨⟨ob, h⟩, _⟩ := h; exact .inl (.inr ⟨ob, h⟩)
theorem At.rd {o : Bool} {H : Hp} {a : Addr} {u : HO} {fp fp' : List Addr} (h : At o H a u fp fp') : Rd H a u := by
  cases o with
  | true => exact .inl h.1
  | false => obtain ⟨⟨ob, h⟩, _⟩ := h; exact .inr ⟨ob, h⟩
mutual
theorem RP.dp {C : Kt} {H : Hp} : ∀ (m : D) {v : V} {fp : List Addr} {d : PyData}, RP C H m v fp → toP m = some d → Dp C.K H v d
  | .non, _, _, _, h, e => by obtain ⟨rfl, _⟩ := h; cases e; exact .non
  | .bl b, _, _, _, h, e => by obtain ⟨rfl, _⟩ := h; cases e; exact .bl b
  | .int i, _, _, _, h, e => by obtain ⟨rfl, _⟩ := h; cases e; exact .int i
  | .str s, _, _, _, h, e => by obtain ⟨rfl, _⟩ := h; cases e; exact .str s
  | .tup ms, _, _, _, h, e => by
    unfold RP at h
    unfold toP at e
    obtain ⟨a, vs, rfl, h1, h2⟩ := h
    cases q : toPs ms with
    | none => rw [q] at e; cases e
    | some ds => rw [q] at e; cases e; exact .tup (SqT.of h1) (RPs.dp ms h2 q)
  | .lst o ms, _, _, _, h, e => by
    unfold RP at h
    unfold toP at e
    obtain ⟨a, vs, fp', rfl, h1, h2⟩ := h
    cases q : toPs ms with
    | none => rw [q] at e; cases e
    | some ds => rw [q] at e; cases e; exact .lst h1.seqL (RPs.dp ms h2 q)
  | .klst _, _, _, _, _, e => by cases e
  | .dct _ _, _, _, _, _, e => by cases e
  | .ins _ _ _, _, _, _, _, e => by cases e
theorem RPs.dp {C : Kt} {H : Hp} : ∀ (ms : List D) {vs : List V} {fp : List Addr} {ds : List PyData}, RPs C H ms vs fp → toPs ms = some ds → DpAll C.K H vs ds
  | [], _, _, _, h, e => by obtain ⟨rfl, _⟩ := h; cases e; exact .nil
  | m :: ms, _, _, _, h, e => by
    unfold RPs at h
    unfold toPs at e
    obtain ⟨v, vr, f1, f2, rfl, rfl, h1, h2⟩ := h
    split at e
    · rename_i d ds e1 e2
      cases e
      exact .cons (RP.dp m h1 e1) (RPs.dp ms h2 e2)
    · cases e
end

/-! ### reading the parts of frozen things -/
theorem RPs.fzAll {C : Kt} {H : Hp} {ms : List D} {vs : List V} {fp : List Addr} (h : RPs C H ms vs fp) (z : fzs ms = true) : RPs C H ms vs [] := by
  have := RPs.fz ms h z
  subst this
  exact h
theorem RPs.get {C : Kt} {H : Hp} : ∀ {ms : List D} {vs : List V} {i : Nat} {m : D}, RPs C H ms vs [] → ms[i]? = some m → ∃ v, vs[i]? = some v ∧ RP C H m v []
  | [], _, _, _, _, e => by simp at e
  | m :: ms, _, 0, m', h, e => by
    obtain ⟨v, vr, f1, f2, rfl, e1, h1, h2⟩ := h
    have e : m = m' := by simpa using e
    subst e
    obtain ⟨rfl, rfl⟩ := List.append_eq_nil_iff.mp e1.symm
    exact ⟨v, rfl, h1⟩
  | m :: ms, _, i + 1, m', h, e => by
    obtain ⟨v, vr, f1, f2, rfl, e1, h1, h2⟩ := h
    obtain ⟨rfl, rfl⟩ := List.append_eq_nil_iff.mp e1.symm
    obtain ⟨v', e2, x⟩ := RPs.get h2 (by simpa using e)
    exact ⟨v', by simpa using e2, x⟩
theorem RPs.app {C : Kt} {H : Hp} : ∀ {ms ns : List D} {vs ws : List V} {f g : List Addr}, RPs C H ms vs f → RPs C H ns ws g → RPs C H (ms ++ ns) (vs ++ ws) (f ++ g)
  | [], _, _, _, _, _, h, k => by obtain ⟨rfl, rfl⟩ := h; exact k
  | m :: ms, _, _, _, _, _, h, k => by
    obtain ⟨v, vr, f1, f2, rfl, rfl, h1, h2⟩ := h
    exact ⟨v, _, f1, _, rfl, by rw [List.append_assoc], h1, RPs.app h2 k⟩
theorem RPs.app0 {C : Kt} {H : Hp} {ms ns : List D} {vs ws : List V} (h : RPs C H ms vs []) (k : RPs C H ns ws []) : RPs C H (ms ++ ns) (vs ++ ws) [] := h.app k
theorem RPs.drop {C : Kt} {H : Hp} : ∀ {ms : List D} {vs : List V} (n : Nat), RPs C H ms vs [] → RPs C H (ms.drop n) (vs.drop n) []
  | _, _, 0, h => h
  | [], _, n + 1, h => by obtain ⟨rfl, _⟩ := h; exact ⟨rfl, rfl⟩
  | m :: ms, _, n + 1, h => by
    obtain ⟨v, vr, f1, f2, rfl, e1, h1, h2⟩ := h
    obtain ⟨rfl, rfl⟩ := List.append_eq_nil_iff.mp e1.symm
    exact RPs.drop n h2
theorem RPs.take {C : Kt} {H : Hp} : ∀ {ms : List D} {vs : List V} (n : Nat), RPs C H ms vs [] → RPs C H (ms.take n) (vs.take n) []
  | _, _, 0, h => ⟨rfl, rfl⟩
  | [], _, n + 1, h => by obtain ⟨rfl, _⟩ := h; exact ⟨rfl, rfl⟩
  | m :: ms, _, n + 1, h => by
    obtain ⟨v, vr, f1, f2, rfl, e1, h1, h2⟩ := h
    obtain ⟨rfl, rfl⟩ := List.append_eq_nil_iff.mp e1.symm
    exact ⟨v, _, [], [], rfl, rfl, h1, RPs.take n h2⟩
theorem RPs.rep {C : Kt} {H : Hp} {ms : List D} {vs : List V} (h : RPs C H ms vs []) : ∀ n : Nat, RPs C H (List.replicate n ms).flatten (List.replicate n vs).flatten []
  | 0 => ⟨rfl, rfl⟩
  | n + 1 => by
    rw [List.replicate_succ, List.replicate_succ, List.flatten_cons, List.flatten_cons]
    exact h.app0 (RPs.rep h n)
theorem RPs.rev {C : Kt} {H : Hp} : ∀ {ms : List D} {vs : List V}, RPs C H ms vs [] → RPs C H ms.reverse vs.reverse []
  | [], _, h => by obtain ⟨rfl, _⟩ := h; exact ⟨rfl, rfl⟩
  | m :: ms, _, h => by
    obtain ⟨v, vr, f1, f2, rfl, e1, h1, h2⟩ := h
    obtain ⟨rfl, rfl⟩ := List.append_eq_nil_iff.mp e1.symm
    rw [List.reverse_cons, List.reverse_cons]
    exact (RPs.rev h2).app0 ⟨v, [], [], [], rfl, rfl, h1, rfl, rfl⟩
/-- a new list | tuple of frozen things -/
theorem new_lst {C : Kt} {H : Hp} {ms : List D} {vs : List V} (h : RPs C H ms vs []) {p : Addr} (hp : H p = none) : Same H (upd H p (.lst vs)) ∧ RP C (upd H p (.lst vs)) (.lst true ms) (.ref p) [p] := by
  have s : Same H (upd H p (.lst vs)) := fun b o e => by rw [upd_ne (ne_of_none e hp)]; exact e
  exact ⟨s, p, vs, [], rfl, ⟨upd_same, rfl⟩, h.st ms (Same.st1 s _)⟩
theorem new_tup {C : Kt} {H : Hp} {ms : List D} {vs : List V} {f : List Addr} (h : RPs C H ms vs f) {p : Addr} (hp : H p = none) : Same H (upd H p (.tup vs)) ∧ RP C (upd H p (.tup vs)) (.tup ms) (.ref p) f := by
  have s : Same H (upd H p (.tup vs)) := fun b o e => by rw [upd_ne (ne_of_none e hp)]; exact e
  exact ⟨s, p, vs, rfl, upd_same, h.st ms (Same.st1 s _)⟩
theorem fresh1 {H : Hp} {p : Addr} (hp : H p = none) : ∀ a ∈ [p], H a = none := fun a ha => by
  have : a = p := by simpa using ha
  subst this; exact hp
theorem nd1 {p : Addr} : [p].Nodup := by simp
theorem noneIn {H : Hp} : ∀ a ∈ ([] : List Addr), H a = none := fun _ z => nomatch z

/-! ### + - * // % ** -/
theorem OpR.or {X : Cx} {f : Value → Value → Sem Value} {r r' : R2} (h : OpR X f r) (h' : OpR X f r') : OpR X f (fun x y H Q => r x y H Q ∨ r' x y H Q) := by
  intro pins s σ H x y v u Q I rx ry q
  rcases q with q | q
  · exact h pins s σ H x y v u Q I rx ry q
  · exact h' pins s σ H x y v u Q I rx ry q
theorem Inv.lstR {X : Cx} {pins : List (Addr × Obj)} {σ : L2.St} {H : Hp} {s : Shared} {a : Addr} {xs : List V} (I : Inv X pins σ H s) (h : Rd H a (.lst xs)) :
    xs.length ≤ sizeLine ∧ ∃ (its : List Value) (n : Nat), Vals xs its ∧ s.heap.get? a = some { cls := .type "list", data := .seq its.toArray n } := h.ok I.hok
/-- list + list, both only read -/
def rCatR : R2 := fun x y H Q => ∃ l b xs zs, x = .ref l ∧ y = .ref b ∧ Rd H l (.lst xs) ∧ Rd H b (.lst zs) ∧ xs.length + zs.length ≤ sizeLine ∧ ∀ p, H p = none → Q (.ref p) (upd H p (.lst (xs ++ zs)))
theorem op_catR {X : Cx} : OpR X (binaryOp .Add) rCatR := by
  intro pins s σ H x y v u Q I rx ry h
  obtain ⟨l, b, xs, zs, rfl, rfl, hH, hB, hz, q⟩ := h
  cases rx
  cases ry
  obtain ⟨z, its, n, r, e⟩ := Inv.lstR I hH
  obtain ⟨z2, its2, n2, r2, e2⟩ := Inv.lstR I hB
  have hl := r.length
  have hl2 := r2.length
  refine PySem.P.add_list e e2 ?_ (by rw [List.size_toArray, List.size_toArray]; omega)
  have ea : its.toArray ++ its2.toArray = (its ++ its2).toArray := by simp
  rw [ea]
  exact ⟨.ref _, _, I.lnew (t' := s.toks) (r.append r2) (by rw [List.length_append]; omega), rfl, q _ I.fresh⟩
def addD : D → D → Option D
  | .int i, .int j => some (.int (i + j))
  | .str a, .str b => if a.length + b.length ≤ sizeLine then some (.str (a ++ b)) else none
  | .lst _ ms, .lst _ ns => if ms.length + ns.length ≤ sizeLine then (if fzs ms && fzs ns then some (.lst true (ms ++ ns)) else none) else none
  | .tup ms, .tup ns => if ms.length + ns.length ≤ sizeLine then (if fzs ms && fzs ns then some (.tup (ms ++ ns)) else none) else none
  | _, _ => none
def rAdd (K : PySem.W.Frag) : R2 := fun x y H Q => ((rI0 fun i j => .int (i + j)) x y H Q ∨ (∃ i j, x = .str i ∧ y = .str j ∧ i.length + j.length ≤ sizeLine ∧ Q (.str (i ++ j)) H)) ∨ (rCatR x y H Q ∨ rCatA K x y H Q)
theorem or_add {X : Cx} : OpR X (binaryOp .Add) (rAdd X.K) := OpR.or (OpR.or op_add op_add_str) (OpR.or op_catR op_catA)
theorem o2_add {C : Kt} : Op2 C (rAdd C.K) addD := by
  intro H x y v u f1 f2 m h1 h2 e Q k
  unfold addD at e
  split at e
  · cases e
    obtain ⟨rfl, _⟩ := h1
    obtain ⟨rfl, _⟩ := h2
    exact .inl (.inl ⟨_, _, rfl, rfl, k _ H [] (Same.refl H) ⟨rfl, rfl⟩ List.nodup_nil noneIn⟩)
  · split at e
    · rename_i hz
      cases e
      obtain ⟨rfl, _⟩ := h1
      obtain ⟨rfl, _⟩ := h2
      exact .inl (.inr ⟨_, _, rfl, rfl, hz, k _ H [] (Same.refl H) ⟨rfl, rfl⟩ List.nodup_nil noneIn⟩)
    · cases e
  · split at e
    · split at e
      · rename_i hl hz
        rw [Bool.and_eq_true] at hz
        cases e
        obtain ⟨a, vs, g1, rfl, a1, r1⟩ := h1
        obtain ⟨b, ws, g2, rfl, a2, r2⟩ := h2
        have q1 := r1.fzAll hz.1
        have q2 := r2.fzAll hz.2
        refine .inr (.inl ⟨a, b, vs, ws, rfl, rfl, a1.rd, a2.rd, by rw [← q1.len, ← q2.len]; exact hl, fun p hp => ?_⟩)
        obtain ⟨s, x⟩ := new_lst (q1.app0 q2) hp
        exact k _ _ [p] s x nd1 (fresh1 hp)
      · cases e
    · cases e
  · split at e
    · split at e
      · rename_i hl hz
        rw [Bool.and_eq_true] at hz
        cases e
        obtain ⟨a, vs, rfl, a1, r1⟩ := h1
        obtain ⟨b, ws, rfl, a2, r2⟩ := h2
        have q1 := r1.fzAll hz.1
        have q2 := r2.fzAll hz.2
        refine .inr (.inr ⟨a, b, vs, ws, rfl, rfl, SqT.of a1, SqT.of a2, by rw [← q1.len, ← q2.len]; exact hl, fun e => ?_, fun e e' => ?_, fun _ _ p hp => ?_⟩)
        · subst e
          have := q1.len
          have := List.length_eq_zero_iff.mp this
          subst this
          exact k _ H [] (Same.refl H) ⟨b, ws, rfl, a2, q2⟩ List.nodup_nil noneIn
        · subst e'
          have := q2.len
          have := List.length_eq_zero_iff.mp this
          subst this
          exact k _ H [] (Same.refl H) ⟨a, vs, rfl, a1, by rw [List.append_nil]; exact q1⟩ List.nodup_nil noneIn
        · obtain ⟨s, x⟩ := new_tup (q1.app0 q2) hp
          exact k _ _ [] s x List.nodup_nil noneIn
      · cases e
    · cases e
  · cases e
def subD : D → D → Option D
  | .int i, .int j => some (.int (i - j))
  | _, _ => none
theorem int_res {C : Kt} {H : Hp} {Q : VK} {i : Int} (k : ∀ w H' fm, Same H H' → RP C H' (.int i) w fm → fm.Nodup → (∀ a ∈ fm, H a = none) → Q w H') : Q (.int i) H := k _ H [] (Same.refl H) ⟨rfl, rfl⟩ List.nodup_nil noneIn
theorem bl_res {C : Kt} {H : Hp} {Q : VK} {i : Bool} (k : ∀ w H' fm, Same H H' → RP C H' (.bl i) w fm → fm.Nodup → (∀ a ∈ fm, H a = none) → Q w H') : Q (.bl i) H := k _ H [] (Same.refl H) ⟨rfl, rfl⟩ List.nodup_nil noneIn
theorem str_res {C : Kt} {H : Hp} {Q : VK} {i : Str} (k : ∀ w H' fm, Same H H' → RP C H' (.str i) w fm → fm.Nodup → (∀ a ∈ fm, H a = none) → Q w H') : Q (.str i) H := k _ H [] (Same.refl H) ⟨rfl, rfl⟩ List.nodup_nil noneIn
theorem fz_res {C : Kt} {H : Hp} {Q : VK} {m : D} {v : V} (x : RP C H m v []) (k : ∀ w H' fm, Same H H' → RP C H' m w fm → fm.Nodup → (∀ a ∈ fm, H a = none) → Q w H') : Q v H := k v H [] (Same.refl H) x List.nodup_nil noneIn
theorem lst_res {C : Kt} {H : Hp} {Q : VK} {ms : List D} {vs : List V} {p : Addr} (x : RPs C H ms vs []) (hp : H p = none) (k : ∀ w H' fm, Same H H' → RP C H' (.lst true ms) w fm → fm.Nodup → (∀ a ∈ fm, H a = none) → Q w H') : Q (.ref p) (upd H p (.lst vs)) := by
  obtain ⟨s, y⟩ := new_lst x hp
  exact k _ _ [p] s y nd1 (fresh1 hp)
theorem tup_res {C : Kt} {H : Hp} {Q : VK} {ms : List D} {vs : List V} {p : Addr} (x : RPs C H ms vs []) (hp : H p = none) (k : ∀ w H' fm, Same H H' → RP C H' (.tup ms) w fm → fm.Nodup → (∀ a ∈ fm, H a = none) → Q w H') : Q (.ref p) (upd H p (.tup vs)) := by
  obtain ⟨s, y⟩ := new_tup x hp
  exact k _ _ [] s y List.nodup_nil noneIn
theorem o2_sub {C : Kt} : Op2 C (rI0 fun i j => .int (i - j)) subD := by
  intro H x y v u f1 f2 m h1 h2 e Q k
  unfold subD at e
  split at e
  · cases e
    obtain ⟨rfl, _⟩ := h1
    obtain ⟨rfl, _⟩ := h2
    exact ⟨_, _, rfl, rfl, int_res k⟩
  · cases e
instance (i j : Int) : Decidable (CMul i j) := by unfold CMul; infer_instance
instance (i j : Int) : Decidable (CDivN i j) := by unfold CDivN; infer_instance
instance (i j : Int) : Decidable (CPow i j) := by unfold CPow; infer_instance
def divD : D → D → Option D
  | .int i, .int j => if CDivN i j then some (.int (i.fdiv j)) else none
  | _, _ => none
theorem o2_div {C : Kt} : Op2 C (rI CDivN fun i j => .int (i.fdiv j)) divD := by
  intro H x y v u f1 f2 m h1 h2 e Q k
  unfold divD at e
  split at e
  · split at e
    · cases e
      obtain ⟨rfl, _⟩ := h1
      obtain ⟨rfl, _⟩ := h2
      exact ⟨_, _, rfl, rfl, by assumption, int_res k⟩
    · cases e
  · cases e
def modD : D → D → Option D
  | .int i, .int j => if j ≠ 0 then some (.int (i.fmod j)) else none
  | _, _ => none
theorem o2_mod {C : Kt} : Op2 C (rI (fun _ j => j ≠ 0) fun i j => .int (i.fmod j)) modD := by
  intro H x y v u f1 f2 m h1 h2 e Q k
  unfold modD at e
  split at e
  · split at e
    · cases e
      obtain ⟨rfl, _⟩ := h1
      obtain ⟨rfl, _⟩ := h2
      exact ⟨_, _, rfl, rfl, by assumption, int_res k⟩
    · cases e
  · cases e

def mulD : D → D → Option D
  | .int i, .int j => if CMul i j then some (.int (i * j)) else none
  | .lst _ ms, .int k => if -(2 ^ 63) ≤ k ∧ k < 2 ^ 63 ∧ ms.length * k.toNat ≤ sizeLine then (if fzs ms then some (.lst true (List.replicate k.toNat ms).flatten) else none) else none
  | .tup ms, .int k => if ms ≠ [] ∧ 2 ≤ k ∧ k ≤ 1000 ∧ ms.length ≤ 1000 then (if fzs ms then some (.tup (List.replicate k.toNat ms).flatten) else none) else none
  | _, _ => none
/-- a list times an int, the list only read -/
def rRepR : R2 := fun x y H Q => ∃ l k xs, x = .ref l ∧ y = .int k ∧ Rd H l (.lst xs) ∧ -(2 ^ 63) ≤ k ∧ k < 2 ^ 63 ∧ xs.length * k.toNat ≤ sizeLine ∧
  ∀ p, H p = none → Q (.ref p) (upd H p (.lst (List.replicate k.toNat xs).flatten))
theorem op_repR {X : Cx} : OpR X (binaryOp .Mult) rRepR := by
  intro pins s σ H x y v u Q I rx ry h
  obtain ⟨l, k, xs, rfl, rfl, hH, h1, h2, hz, q⟩ := h
  cases rx
  obtain ⟨t, rfl⟩ := ry
  obtain ⟨z, its, n, r, e⟩ := Inv.lstR I hH
  have hl := r.length
  have hlen : its.toArray.size * k.toNat ≤ sizeLine := by rw [List.size_toArray, ← hl]; exact hz
  have hcap : ¬ its.toArray.size * k.toNat > (2 ^ 63 - 1) / 8 := by
    have : (sizeLine : Nat) ≤ (2 ^ 63 - 1) / 8 := by decide
    omega
  have hfit : ¬ (!Builtin.List.listFitsIndex k) = true := by
    rw [fitsIndex_both h1 h2]
    exact Bool.false_ne_true
  have hlong : ¬ Builtin.List.listTooLong (its.toArray.size * k.toNat) = true := by
    rw [notLongL hlen]
    exact Bool.false_ne_true
  have hnew : List.foldl (fun x1 x2 => x1 ++ x2) #[] (List.replicate (if its.toArray.isEmpty = true then 0 else k.toNat) its.toArray) = (List.replicate k.toNat its).flatten.toArray := by
    have f0 : ∀ m : Nat, List.foldl (fun x1 x2 => x1 ++ x2) #[] (List.replicate m its.toArray) = (List.replicate m its).flatten.toArray := fun m => by
      have := foldl_rep its m []
      rw [List.nil_append] at this
      exact this
    rw [f0]
    cases its with
    | nil => simp
    | cons a r' => rw [if_neg (by simp)]
  refine wpAny_binaryOp_repeat_ref (T := "list") (U := "int") (by decide) ⟨_, e, rfl⟩ (fun s' => typeIs_int s' k t) noFill_list_mul F.fills_int_mul F.slot_int_rmul repeat_list F.slot_int_index.lookup
    (call_meets F.slot_int_rmul (typeIs_int s k t) F.entry_int_rmul (F.args_int_rmul_2 _ _) (int___rmul___int_list k t l its.toArray n)
      ⟨e, rfl, ⟨_, e, rfl⟩, call_meets F.slot_list_mul ⟨_, e, rfl⟩ F.entry_list_mul (F.args_list_mul_2 _ _) (AutoListH.list___mul___list_int_3 l its.toArray n k t hfit hcap hlong) ⟨e, ?_⟩⟩)
  rw [hnew]
  exact ⟨.ref _, _, I.lnew (t' := s.toks) (r.rep k.toNat) (by rw [PyProof.Rows.lm_len_rep_flat, Nat.mul_comm]; exact hz), rfl, q _ I.fresh⟩
def rMul (K : PySem.W.Frag) : R2 := fun x y H Q => (rI CMul fun i j => .int (i * j)) x y H Q ∨ (rRepR x y H Q ∨ rRepT K x y H Q)
theorem or_mul {X : Cx} : OpR X (binaryOp .Mult) (rMul X.K) := OpR.or op_mul (OpR.or op_repR op_repT)
theorem o2_mul {C : Kt} : Op2 C (rMul C.K) mulD := by
  intro H x y v u f1 f2 m h1 h2 e Q k
  unfold mulD at e
  split at e
  · split at e
    · cases e
      obtain ⟨rfl, _⟩ := h1
      obtain ⟨rfl, _⟩ := h2
      exact .inl ⟨_, _, rfl, rfl, by assumption, int_res k⟩
    · cases e
  · split at e
    · split at e
      · rename_i hl hz
        cases e
        obtain ⟨a, vs, g1, rfl, a1, r1⟩ := h1
        obtain ⟨rfl, _⟩ := h2
        have q1 := r1.fzAll hz
        exact .inr (.inl ⟨a, _, vs, rfl, rfl, a1.rd, hl.1, hl.2.1, by rw [← q1.len]; exact hl.2.2, fun p hp => lst_res (q1.rep _) hp k⟩)
      · cases e
    · cases e
  · split at e
    · split at e
      · rename_i hl hz
        cases e
        obtain ⟨a, vs, rfl, a1, r1⟩ := h1
        obtain ⟨rfl, _⟩ := h2
        have q1 := r1.fzAll hz
        refine .inr (.inr ⟨a, _, vs, rfl, rfl, SqT.of a1, ?_, hl.2.1, hl.2.2.1, by rw [← q1.len]; exact hl.2.2.2, fun p hp => tup_res (q1.rep _) hp k⟩)
        rintro rfl
        have := q1.len
        exact hl.1 (List.length_eq_zero_iff.mp this)
      · cases e
    · cases e
  · cases e
def CPowW (i j : Int) : Prop := 0 ≤ j ∧ ((j ≤ 1000000 ∧ i.natAbs < 2 ^ 64) ∨ (j ≤ 100 ∧ i.natAbs < 2 ^ 1000))
instance (i j : Int) : Decidable (CPowW i j) := by unfold CPowW; infer_instance
theorem op_powW {X : Cx} : OpR X (binaryOp .Pow) (rI CPowW fun i j => .int (i ^ j.toNat)) := opI fun i j _ _ _ _ _ hc q => by
  rcases hc.2 with h | h
  · exact pow_int_small hc.1 h.1 h.2 q
  · refine pow_int hc.1 ?_ q
    have hb : Builtin.Int.intBits i ≤ 1000 := intBits_le h.2
    have h1 : (Builtin.Int.intBits i : Int) * j ≤ 1000 * j := Int.mul_le_mul_of_nonneg_right (by omega) hc.1
    omega
def powD : D → D → Option D
  | .int i, .int j => if CPowW i j then some (.int (i ^ j.toNat)) else none
  | _, _ => none
theorem o2_pow {C : Kt} : Op2 C (rI CPowW fun i j => .int (i ^ j.toNat)) powD := by
  intro H x y v u f1 f2 m h1 h2 e Q k
  unfold powD at e
  split at e
  · split at e
    · cases e
      obtain ⟨rfl, _⟩ := h1
      obtain ⟨rfl, _⟩ := h2
      exact ⟨_, _, rfl, rfl, by assumption, int_res k⟩
    · cases e
  · cases e
/-! ### comparisons -/
def cmpD (f : Int → Int → Bool) : D → D → Option D
  | .int i, .int j => some (.bl (f i j))
  | _, _ => none
theorem o2_cmp {C : Kt} (f : Int → Int → Bool) : Op2 C (rI0 fun i j => .bl (f i j)) (cmpD f) := by
  intro H x y v u f1 f2 m h1 h2 e Q k
  unfold cmpD at e
  split at e
  · cases e
    obtain ⟨rfl, _⟩ := h1
    obtain ⟨rfl, _⟩ := h2
    exact ⟨_, _, rfl, rfl, bl_res k⟩
  · cases e
/-- == of plain data -/
def eqB (x y : D) : Option Bool := match toP x, toP y with
  | some d, some e => if SeqAt.shaped d && SeqAt.shaped e then some (PyData.eqv d e) else none
  | _, _ => none
def eqD (x y : D) : Option D := (eqB x y).map .bl
def neD (x y : D) : Option D := (eqB x y).map fun b => .bl (!b)
theorem eqB_some {x y : D} {b : Bool} (h : eqB x y = some b) : ∃ d e, toP x = some d ∧ toP y = some e ∧ SeqAt.shaped d = true ∧ SeqAt.shaped e = true ∧ PyData.eqv d e = b := by
  unfold eqB at h
  split at h
  · rename_i d e q1 q2
    split at h
    · rename_i hs
      rw [Bool.and_eq_true] at hs
      cases h
      exact ⟨d, e, q1, q2, hs.1, hs.2, rfl⟩
    · cases h
  · cases h
theorem o2_eq {C : Kt} : Op2 C (rEqD C.K) eqD := by
  intro H x y v u f1 f2 m h1 h2 e Q k
  unfold eqD at e
  cases q : eqB x y with
  | none => rw [q] at e; cases e
  | some b =>
    rw [q] at e; cases e
    obtain ⟨d, e, q1, q2, s1, s2, rfl⟩ := eqB_some q
    exact ⟨d, e, h1.dp x q1, h2.dp y q2, s1, s2, bl_res k⟩
theorem o2_ne {C : Kt} : Op2 C (rNeD C.K) neD := by
  intro H x y v u f1 f2 m h1 h2 e Q k
  unfold neD at e
  cases q : eqB x y with
  | none => rw [q] at e; cases e
  | some b =>
    rw [q] at e; cases e
    obtain ⟨d, e, q1, q2, s1, s2, rfl⟩ := eqB_some q
    exact ⟨d, e, h1.dp x q1, h2.dp y q2, s1, s2, bl_res k⟩
/-- in, not in: a list | tuple of plain data, a text of one sign in a text -/
def rInT (K : PySem.W.Frag) : R2 := fun x y H Q => ∃ d ds, Dp K H x d ∧ Dp K H y (.tuple ds) ∧ SeqAt.shaped d = true ∧ SeqAt.shaped (.tuple ds) = true ∧ Q (.bl (ds.any fun z => PyData.eqv z d)) H
def rNotInT (K : PySem.W.Frag) : R2 := fun x y H Q => ∃ d ds, Dp K H x d ∧ Dp K H y (.tuple ds) ∧ SeqAt.shaped d = true ∧ SeqAt.shaped (.tuple ds) = true ∧ Q (.bl (!ds.any fun z => PyData.eqv z d)) H
section
variable {X : Cx}
theorem op_inT (hu : X.A.units + 65 < cLine) : OpR X (compareOp .In) (rInT X.K) := by
  intro pins s σ H x y v u Q I rx ry h
  obtain ⟨d, ds, hd, he, sd, se, q⟩ := h
  obtain ⟨as, r1⟩ := Dp.reads I d x v hd rx
  obtain ⟨bs, r2⟩ := Dp.reads I (.tuple ds) y u he ry
  exact SeqAt.in_tuple_reads r2 r1 (SeqAt.canLay_of_shaped se) (SeqAt.canLay_of_shaped sd) (room_in_shaped sd hu) ⟨.bl _, H, I, rfl, q⟩
theorem op_notInT (hu : X.A.units + 65 < cLine) : OpR X (compareOp .NotIn) (rNotInT X.K) := by
  intro pins s σ H x y v u Q I rx ry h
  obtain ⟨d, ds, hd, he, sd, se, q⟩ := h
  obtain ⟨as, r1⟩ := Dp.reads I d x v hd rx
  obtain ⟨bs, r2⟩ := Dp.reads I (.tuple ds) y u he ry
  exact SeqAt.notIn_tuple_reads r2 r1 (SeqAt.canLay_of_shaped se) (SeqAt.canLay_of_shaped sd) (room_in_shaped sd hu) ⟨.bl _, H, I, rfl, q⟩
end
def inB (x y : D) : Option Bool := match y with
  | .lst _ ms => (match toP x, toPs ms with
    | some d, some ds => if SeqAt.shaped d && SeqAt.shaped (.list ds) then some (ds.any fun z => PyData.eqv z d) else none
    | _, _ => none)
  | .tup ms => (match toP x, toPs ms with
    | some d, some ds => if SeqAt.shaped d && SeqAt.shaped (.tuple ds) then some (ds.any fun z => PyData.eqv z d) else none
    | _, _ => none)
  | _ => none
def inD (x y : D) : Option D := (inB x y).map .bl
def notInD (x y : D) : Option D := (inB x y).map fun b => .bl (!b)
def rInA (K : PySem.W.Frag) : R2 := fun x y H Q => rInD K x y H Q ∨ rInT K x y H Q
def rNotInA (K : PySem.W.Frag) : R2 := fun x y H Q => rNotInD K x y H Q ∨ rNotInT K x y H Q
theorem or_in {X : Cx} (hu : X.A.units + 65 < cLine) : OpR X (compareOp .In) (rInA X.K) := OpR.or (op_inD hu) (op_inT hu)
theorem or_notIn {X : Cx} (hu : X.A.units + 65 < cLine) : OpR X (compareOp .NotIn) (rNotInA X.K) := OpR.or (op_notInD hu) (op_notInT hu)
theorem inB_some {C : Kt} {H : Hp} {x y : D} {v u : V} {f1 f2 : List Addr} {b : Bool} (h1 : RP C H x v f1) (h2 : RP C H y u f2) (h : inB x y = some b) :
    (∃ d ds, Dp C.K H v d ∧ Dp C.K H u (.list ds) ∧ SeqAt.shaped d = true ∧ SeqAt.shaped (.list ds) = true ∧ (ds.any fun z => PyData.eqv z d) = b) ∨
    (∃ d ds, Dp C.K H v d ∧ Dp C.K H u (.tuple ds) ∧ SeqAt.shaped d = true ∧ SeqAt.shaped (.tuple ds) = true ∧ (ds.any fun z => PyData.eqv z d) = b) := by
  unfold inB at h
  split at h
  · split at h
    · rename_i o ms _ _ d ds q1 q2
      split at h
      · rename_i hs
        rw [Bool.and_eq_true] at hs
        cases h
        refine .inl ⟨d, ds, h1.dp x q1, h2.dp _ ?_, hs.1, hs.2, rfl⟩
        unfold toP; rw [q2]; rfl
      · cases h
    · cases h
  · split at h
    · rename_i ms _ _ d ds q1 q2
      split at h
      · rename_i hs
        rw [Bool.and_eq_true] at hs
        cases h
        refine .inr ⟨d, ds, h1.dp x q1, h2.dp _ ?_, hs.1, hs.2, rfl⟩
        unfold toP; rw [q2]; rfl
      · cases h
    · cases h
  · cases h
theorem o2_in {C : Kt} : Op2 C (rInA C.K) inD := by
  intro H x y v u f1 f2 m h1 h2 e Q k
  unfold inD at e
  cases q : inB x y with
  | none => rw [q] at e; cases e
  | some b =>
    rw [q] at e; cases e
    rcases inB_some h1 h2 q with ⟨d, ds, a1, a2, s1, s2, rfl⟩ | ⟨d, ds, a1, a2, s1, s2, rfl⟩
    · exact .inl ⟨d, ds, a1, a2, s1, s2, bl_res k⟩
    · exact .inr ⟨d, ds, a1, a2, s1, s2, bl_res k⟩
theorem o2_notIn {C : Kt} : Op2 C (rNotInA C.K) notInD := by
  intro H x y v u f1 f2 m h1 h2 e Q k
  unfold notInD at e
  cases q : inB x y with
  | none => rw [q] at e; cases e
  | some b =>
    rw [q] at e; cases e
    rcases inB_some h1 h2 q with ⟨d, ds, a1, a2, s1, s2, rfl⟩ | ⟨d, ds, a1, a2, s1, s2, rfl⟩
    · exact .inl ⟨d, ds, a1, a2, s1, s2, bl_res k⟩
    · exact .inr ⟨d, ds, a1, a2, s1, s2, bl_res k⟩
/-! ### an item -/
def ixD : D → D → Option D
  | .lst _ ms, .int i => (match atI ms i with
    | some m => if fzs ms then some m else none
    | none => none)
  | .tup ms, .int i => (match atI ms i with
    | some m => if fzs ms then some m else none
    | none => none)
  | .klst ms, .int i => (match atI ms i with
    | some m => if fzs ms then some m else none
    | none => none)
  | .str s, .int i => if s.length ≤ sizeLine then (atI s.cps.toList i).map fun c => .str ⟨#[c]⟩ else none
  | _, _ => none
theorem atI_get {C : Kt} {H : Hp} {ms : List D} {vs : List V} {i : Int} {m : D} (h : RPs C H ms vs []) (e : atI ms i = some m) : ∃ v, atI vs i = some v ∧ RP C H m v [] := by
  unfold atI at e ⊢
  rw [← h.len]
  cases q : ixN ms.length i with
  | none => rw [q] at e; cases e
  | some j =>
    rw [q] at e
    exact h.get e
theorem o2_ix {C : Kt} : Op2 C (rIx C.K) ixD := by
  intro H x y v u f1 f2 m h1 h2 e Q k
  unfold ixD at e
  split at e
  · split at e
    · rename_i m' q
      split at e
      · rename_i hz
        cases e
        obtain ⟨a, vs, g1, rfl, a1, r1⟩ := h1
        obtain ⟨rfl, _⟩ := h2
        obtain ⟨w, e1, x1⟩ := atI_get (r1.fzAll hz) q
        exact .inl ⟨a, vs, _, w, rfl, rfl, a1.seqL, e1, fz_res x1 k⟩
      · cases e
    · cases e
  · split at e
    · rename_i m' q
      split at e
      · rename_i hz
        cases e
        obtain ⟨a, vs, rfl, a1, r1⟩ := h1
        obtain ⟨rfl, _⟩ := h2
        obtain ⟨w, e1, x1⟩ := atI_get (r1.fzAll hz) q
        exact .inr (.inl ⟨a, vs, _, w, rfl, rfl, SqT.of a1, e1, fz_res x1 k⟩)
      · cases e
    · cases e
  · split at e
    · rename_i m' q
      split at e
      · rename_i hz
        cases e
        obtain ⟨a, vs, rfl, _, a1, r1⟩ := h1
        obtain ⟨rfl, _⟩ := h2
        obtain ⟨w, e1, x1⟩ := atI_get r1 q
        exact .inl ⟨a, vs, _, w, rfl, rfl, a1.seqL, e1, fz_res x1 k⟩
      · cases e
    · cases e
  · split at e
    · rename_i z i hz
      cases q : atI z.cps.toList i with
      | none => rw [q] at e; cases e
      | some c =>
        rw [q] at e
        cases e
        obtain ⟨rfl, _⟩ := h1
        obtain ⟨rfl, _⟩ := h2
        exact .inr (.inr ⟨_, _, c, rfl, rfl, hz, q, str_res k⟩)
    · cases e
  · cases e
end T

set_option Elab.async false
set_option linter.all false
set_option maxRecDepth 100000
set_option maxHeartbeats 4000000
namespace T
open PySem PySem.Spec PyProof.Rows L2

/-! ### calls of built-ins, by values -/
abbrev RC := List V → Hp → VK → Prop
def CallD (C : Kt) (r : RC) (f : List D → Option D) : Prop := ∀ (H : Hp) (ms : List D) (vs : List V) (fp : List Addr) (m : D), RPs C H ms vs fp → f ms = some m →
  ∀ Q : VK, (∀ w H' fm, Same H H' → RP C H' m w fm → fm.Nodup → (∀ a ∈ fm, H a = none) → Q w H') → r vs H Q
theorem CallD.or {C : Kt} {r r' : RC} {f g : List D → Option D} (h : CallD C r f) (h' : CallD C r' g) : CallD C (fun xs H Q => r xs H Q ∨ r' xs H Q) (fun ms => match f ms with | some m => some m | none => g ms) := by
  intro H ms vs fp m x e Q k
  cases q : f ms with
  | some z =>
    have e2 : some z = some m := by simpa only [q] using e
    exact .inl (h H ms vs fp m x (q.trans e2) Q k)
  | none =>
    have e2 : g ms = some m := by simpa only [q] using e
    exact .inr (h' H ms vs fp m x e2 Q k)
def pC (f : List D → Option D) (p : SAV) : SV := fun env => match p env with
  | some ms => f ms
  | none => none
def lookA : List Av → Env → Option (List D)
  | [], _ => some []
  | .val m :: r, env => match lookA r env with
    | some ms => some (m :: ms)
    | none => none
  | .lend i :: r, env => match pVar i env, lookA r env with
    | some m, some ms => some (m :: ms)
    | _, _ => none
theorem lookA_ok {C : Kt} {H : Hp} {σ : L2.St} {env : Env} {fe : List Addr} (r : ER C H env σ fe) : ∀ (as : List Av) {vs : List V} {fa : List Addr} {ms : List D}, AvR C H σ as vs fa → lookA as env = some ms → ∃ fm, RPs C H ms vs fm
  | [], _, _, _, a, h => by
    obtain ⟨rfl, rfl⟩ := a
    cases h
    exact ⟨[], rfl, rfl⟩
  | .val m :: as, _, _, _, a, h => by
    obtain ⟨v, vr, f1, f2, rfl, rfl, x, a⟩ := a
    unfold lookA at h
    split at h
    · rename_i ms q
      cases h
      obtain ⟨fm, y⟩ := lookA_ok r as a q
      exact ⟨f1 ++ fm, v, vr, f1, fm, rfl, rfl, x, y⟩
    · cases h
  | .lend i :: as, _, _, _, a, h => by
    obtain ⟨v, vr, rfl, hv, a⟩ := a
    unfold lookA at h
    split at h
    · rename_i m ms q1 q2
      cases h
      obtain ⟨v', f1, f2, f3, hv', rfl, x, _⟩ := pVar_get q1 r
      rw [hv] at hv'
      cases hv'
      obtain ⟨fm, y⟩ := lookA_ok r as a q2
      exact ⟨f2 ++ fm, v, vr, f2, fm, rfl, rfl, x, y⟩
    · cases h
def sC (f : List D → Option D) (a : SA) : SE := fun env => match a env with
  | some (.ok as, env1) => match lookA as env1 with
    | some ms => sOpt (f ms) env1
    | none => none
  | some (.ex c m, env1) => some (.ex c m, env1)
  | none => none
section
variable {C : Kt} {W : WXT} {σ : L2.St} {H : Hp} {Q : VK} {r : RC} {f : List D → Option D}
theorem cb_v (h : CallD C r f) {p : SAV} (x : tU C (pC f p) σ H Q) : tCB r (tAV C p) σ H Q := by
  obtain ⟨env, fp, m, e, hm, k⟩ := x
  unfold pC at hm
  split at hm
  · rename_i ms e1
    refine ⟨env, fp, ms, e, e1, fun vs H1 f1 s1 x1 => ?_⟩
    exact h H1 ms vs f1 m x1 hm Q fun w H3 fm s3 x3 n3 fr => k w H3 fm (s1.trans s3) x3 n3 fun a ha => s1.free (fr a ha)
  · cases hm
/-- a value that is new or frozen, behind an evaluation -/
theorem post_new {fp : List Addr} {m : D} {env1 : Env} {H1 H2 : Hp} {fa fe : List Addr} (k : PostE C W σ H fp Q (some (.ok m, env1))) (r1 : ER C H1 env1 σ fe) (nd : (fa ++ fe).Nodup) (mv : Mv H H1 fp (fa ++ fe))
    {w : V} {fm : List Addr} (s : Same H1 H2) (x : RP C H2 m w fm) (n : fm.Nodup) (fr : ∀ a ∈ fm, H1 a = none) : Q w H2 := by
  have n0 : Now C σ H fp H1 [] [] env1 := ⟨[], fe, ⟨rfl, rfl⟩, r1, (List.nodup_append.mp nd).2.1, mv.less fun b hb => List.mem_append_right _ hb⟩
  exact n0.done k s x n fr
theorem cb_e (h : CallD C r f) {a : SA} (x : tE C W (sC f a) σ H Q) : tCB r (tA C W a) σ H Q := by
  obtain ⟨env, fp, e, nd, k⟩ := x
  refine ⟨env, fp, e, nd, ?_⟩
  unfold sC at k
  cases q : a env with
  | none => rw [q] at k; exact k.elim
  | some z =>
    obtain ⟨z, env1⟩ := z
    rw [q] at k
    cases z with
    | ex c m => exact k
    | ok as =>
      intro vs H1 fa fe x1 r1 n1 m1
      dsimp only at k
      split at k
      · rename_i ms q2
        obtain ⟨m, hm, k⟩ := sOpt_some k
        obtain ⟨fm, y⟩ := lookA_ok r1 as x1 q2
        exact h H1 ms vs fm m y hm Q fun w H3 fm s3 x3 n3 fr => post_new k r1 n1 m1 s3 x3 n3 fr
      · exact k.elim
end

/-! ### displays -/
def pTup (p : SAV) : SV := fun env => match p env with
  | some ms => if ms.length ≤ 1000 then some (.tup ms) else none
  | none => none
def pLst (p : SAV) : SV := fun env => match p env with
  | some ms => if ms.length ≤ 1000 then some (.lst true ms) else none
  | none => none
def valsA : List Av → Option (List D)
  | [] => some []
  | .val m :: r => match valsA r with
    | some ms => some (m :: ms)
    | none => none
  | .lend _ :: _ => none
theorem valsA_ok {C : Kt} {H : Hp} {σ : L2.St} : ∀ (as : List Av) {vs : List V} {fa : List Addr} {ms : List D}, AvR C H σ as vs fa → valsA as = some ms → RPs C H ms vs fa
  | [], _, _, _, a, h => by
    cases h; exact a
  | .val m :: as, _, _, _, a, h => by
    obtain ⟨v, vr, f1, f2, rfl, rfl, x, a⟩ := a
    unfold valsA at h
    split at h
    · rename_i ms q
      cases h
      exact ⟨v, vr, f1, f2, rfl, rfl, x, valsA_ok as a q⟩
    · cases h
  | .lend i :: as, _, _, _, a, h => by cases h
def sDisp (f : List D → D) (a : SA) : SE := fun env => match a env with
  | some (.ok as, env1) => match valsA as with
    | some ms => if ms.length ≤ 1000 then some (.ok (f ms), env1) else none
    | none => none
  | some (.ex c m, env1) => some (.ex c m, env1)
  | none => none
abbrev sTup (a : SA) : SE := sDisp .tup a
abbrev sLst (a : SA) : SE := sDisp (.lst true) a
theorem le_line {n : Nat} (h : n ≤ 1000) : n ≤ sizeLine := Nat.le_trans h (by decide)
theorem ne_memb {H : Hp} {p : Addr} {fm : List Addr} (hp : H p = none) (ow : Owned H fm) : p ∉ fm := fun h => by
  obtain ⟨o, e, _⟩ := ow p h
  rw [hp] at e; cases e
section
variable {C : Kt} {W : WXT} {σ : L2.St} {H : Hp} {Q : VK}
theorem tup_u {p : SAV} (x : tU C (pTup p) σ H Q) : tTup (tAU C p) σ H Q := by
  obtain ⟨env, fp, m, e, hm, k⟩ := x
  unfold pTup at hm
  split at hm
  · rename_i ms q
    split at hm
    · rename_i hl
      cases hm
      refine ⟨env, fp, ms, e, q, fun vs H1 fm s1 x1 n1 fr => ⟨by rw [← x1.len]; exact le_line hl, fun p hp => ?_⟩⟩
      obtain ⟨s, y⟩ := new_tup x1 hp
      exact k _ _ fm (s1.trans s) y n1 fr
    · cases hm
  · cases hm
theorem lst_u {p : SAV} (x : tU C (pLst p) σ H Q) : tLst (tAU C p) σ H Q := by
  obtain ⟨env, fp, m, e, hm, k⟩ := x
  unfold pLst at hm
  split at hm
  · rename_i ms q
    split at hm
    · rename_i hl
      cases hm
      refine ⟨env, fp, ms, e, q, fun vs H1 fm s1 x1 n1 fr => ⟨by rw [← x1.len]; exact le_line hl, fun p hp => ?_⟩⟩
      have s : Same H1 (upd H1 p (.lst vs)) := fun b o e => by rw [upd_ne (ne_of_none e hp)]; exact e
      refine k _ _ (p :: fm) (s1.trans s) ⟨p, vs, fm, rfl, ⟨upd_same, rfl⟩, x1.st ms (Same.st1 s _)⟩ (List.nodup_cons.mpr ⟨ne_memb hp (x1.owned ms), n1⟩) fun a ha => ?_
      rcases List.mem_cons.mp ha with rfl | ha
      · exact s1.free hp
      · exact fr a ha
    · cases hm
  · cases hm
theorem tup_e {a : SA} (x : tE C W (sTup a) σ H Q) : tTup (tA C W a) σ H Q := by
  obtain ⟨env, fp, e, nd, k⟩ := x
  refine ⟨env, fp, e, nd, ?_⟩
  unfold sTup sDisp at k
  cases q : a env with
  | none => rw [q] at k; exact k.elim
  | some z =>
    obtain ⟨z, env1⟩ := z
    rw [q] at k
    cases z with
    | ex c m => exact k
    | ok as =>
      intro vs H1 fa fe x1 r1 n1 m1
      dsimp only at k
      split at k
      · rename_i ms q2
        split at k
        · rename_i hl
          have y := valsA_ok as x1 q2
          refine ⟨by rw [← y.len]; exact le_line hl, fun p hp => ?_⟩
          obtain ⟨s, z⟩ := new_tup y hp
          exact k _ _ fa fe z (r1.st env1 (Same.st1 s _)) n1 (m1.trans ((Mv.same (fm := []) s noneIn).less fun b hb => hb))
        · exact k.elim
      · exact k.elim
theorem lst_e {a : SA} (x : tE C W (sLst a) σ H Q) : tLst (tA C W a) σ H Q := by
  obtain ⟨env, fp, e, nd, k⟩ := x
  refine ⟨env, fp, e, nd, ?_⟩
  unfold sLst sDisp at k
  cases q : a env with
  | none => rw [q] at k; exact k.elim
  | some z =>
    obtain ⟨z, env1⟩ := z
    rw [q] at k
    cases z with
    | ex c m => exact k
    | ok as =>
      intro vs H1 fa fe x1 r1 n1 m1
      dsimp only at k
      split at k
      · rename_i ms q2
        split at k
        · rename_i hl
          have y := valsA_ok as x1 q2
          refine ⟨by rw [← y.len]; exact le_line hl, fun p hp => ?_⟩
          have s : Same H1 (upd H1 p (.lst vs)) := fun b o e => by rw [upd_ne (ne_of_none e hp)]; exact e
          have ow : Owned H1 (fa ++ fe) := (x1.owned as).app (r1.owned env1)
          refine k _ _ (p :: fa) fe ⟨p, vs, fa, rfl, ⟨upd_same, rfl⟩, y.st ms (Same.st1 s _)⟩ (r1.st env1 (Same.st1 s _)) (List.nodup_cons.mpr ⟨ne_memb hp ow, n1⟩) (m1.trans ⟨fun a o e _ => s a o e, fun b hb => ?_⟩)
          rcases List.mem_cons.mp hb with rfl | hb
          · exact .inr hp
          · exact .inl hb
        · exact k.elim
      · exact k.elim
end

/-! ### truth, not, and, or, conditional expressions -/
def truD : D → Option Bool
  | .non => some false
  | .bl b => some b
  | .int i => some (i != 0)
  | .str s => if s.length ≤ sizeLine then some ((s.length : Int) != 0) else none
  | .tup ms => some (!ms.isEmpty)
  | .lst _ ms => some (!ms.isEmpty)
  | _ => none
theorem emp_len {α β : Type} {xs : List α} {ys : List β} (h : xs.length = ys.length) : (!xs.isEmpty) = !ys.isEmpty := by
  cases xs <;> cases ys <;> simp_all
theorem truD_ok {C : Kt} {H : Hp} {m : D} {v : V} {f : List Addr} {b : Bool} (x : RP C H m v f) (h : truD m = some b) : TruV C.K v H b := by
  unfold truD at h
  split at h
  · cases h; obtain ⟨rfl, _⟩ := x; exact rfl
  · cases h; obtain ⟨rfl, _⟩ := x; exact rfl
  · cases h; obtain ⟨rfl, _⟩ := x; exact rfl
  · split at h
    · rename_i hz
      cases h; obtain ⟨rfl, _⟩ := x; exact ⟨hz, rfl⟩
    · cases h
  · cases h
    obtain ⟨a, vs, rfl, a1, r1⟩ := x
    refine .inr (.inl ⟨vs, SqT.of a1, ?_⟩)
    exact emp_len r1.len
  · cases h
    obtain ⟨a, vs, g, rfl, a1, r1⟩ := x
    refine .inl ⟨vs, a1.seqL, ?_⟩
    exact emp_len r1.len
  · cases h
def qT (p : SV) : STu := fun env => match p env with
  | some m => truD m
  | none => none
def qTE (s : SE) : STe := fun env => match s env with
  | some (.ok m, env1) => (truD m).map fun b => (.ok b, env1)
  | some (.ex c m, env1) => some (.ex c m, env1)
  | none => none
def qU (p : STu) : STe := fun env => (p env).map fun b => (.ok b, env)
def qNot (p : STu) : STu := fun env => (p env).map (!·)
def qAnd (p q : STu) : STu := fun env => match p env with
  | some true => q env
  | some false => some false
  | none => none
def qOr (p q : STu) : STu := fun env => match p env with
  | some true => some true
  | some false => q env
  | none => none
def eNot (t : STe) : STe := fun env => match t env with
  | some (.ok b, env1) => some (.ok (!b), env1)
  | some (.ex c m, env1) => some (.ex c m, env1)
  | none => none
def eAnd (t u : STe) : STe := fun env => match t env with
  | some (.ok true, env1) => u env1
  | some (.ok false, env1) => some (.ok false, env1)
  | some (.ex c m, env1) => some (.ex c m, env1)
  | none => none
def eOr (t u : STe) : STe := fun env => match t env with
  | some (.ok true, env1) => some (.ok true, env1)
  | some (.ok false, env1) => u env1
  | some (.ex c m, env1) => some (.ex c m, env1)
  | none => none
def pIf (t : STu) (a b : SV) : SV := fun env => match t env with
  | some true => a env
  | some false => b env
  | none => none
def sIfE (t : STe) (a b : SE) : SE := fun env => match t env with
  | some (.ok true, env1) => a env1
  | some (.ok false, env1) => b env1
  | some (.ex c m, env1) => some (.ex c m, env1)
  | none => none
section
variable {C : Kt} {W : WXT} {σ : L2.St} {H : Hp} {Q : Bool → Hp → Prop}
theorem tru_v {p : SV} (x : tTU C (qT p) σ H Q) : tV C p σ H fun v H' => ∃ k, TruV C.K v H' k ∧ Q k H' := by
  obtain ⟨env, fp, b, r, h, k⟩ := x
  unfold qT at h
  split at h
  · rename_i m q
    exact ⟨env, fp, m, r, q, fun v H' fm s x => ⟨b, truD_ok x h, k H' s⟩⟩
  · cases h
theorem tru_e {s : SE} (x : tTE C W (qTE s) σ H Q) : tE C W s σ H fun v H' => ∃ k, TruV C.K v H' k ∧ Q k H' := by
  obtain ⟨env, fp, r, nd, k⟩ := x
  refine ⟨env, fp, r, nd, ?_⟩
  unfold qTE at k
  cases q : s env with
  | none => rw [q] at k; exact k.elim
  | some z =>
    obtain ⟨z, env1⟩ := z
    rw [q] at k
    cases z with
    | ex c m => exact k
    | ok m =>
      dsimp only at k
      cases q2 : truD m with
      | none => rw [q2] at k; exact k.elim
      | some b =>
        rw [q2] at k
        exact fun v H' fm fe x r n mv => ⟨b, truD_ok x q2, k H' fe r (List.nodup_append.mp n).2.1 (mv.less fun b hb => List.mem_append_right _ hb)⟩
theorem qU_i {t : STu} (x : tTE C W (qU t) σ H Q) : tTU C t σ H Q := by
  obtain ⟨env, fp, r, nd, k⟩ := x
  unfold qU at k
  cases q : t env with
  | none => rw [q] at k; exact k.elim
  | some b =>
    rw [q] at k
    exact ⟨env, fp, b, r, q, fun H' s => k H' fp (r.st env (Same.st1 s _)) nd ((Mv.same (fm := []) s noneIn).less fun b hb => hb)⟩
theorem not_u {t : STu} (x : tTU C (qNot t) σ H Q) : tNot (tTU C t) σ H Q := by
  obtain ⟨env, fp, b, r, h, k⟩ := x
  unfold qNot at h
  cases q : t env with
  | none => rw [q] at h; cases h
  | some c =>
    rw [q] at h
    cases h
    exact ⟨env, fp, c, r, q, k⟩
theorem not_e {t : STe} (x : tTE C W (eNot t) σ H Q) : tNot (tTE C W t) σ H Q := by
  obtain ⟨env, fp, r, nd, k⟩ := x
  refine ⟨env, fp, r, nd, ?_⟩
  unfold eNot at k
  cases q : t env with
  | none => rw [q] at k; exact k.elim
  | some z =>
    obtain ⟨z, env1⟩ := z
    rw [q] at k
    cases z with
    | ex c m => exact k
    | ok m => exact k
theorem and_u {t u : STu} (x : tTU C (qAnd t u) σ H Q) : tAnd (tTU C t) (tTU C u) σ H Q := by
  obtain ⟨env, fp, b, r, h, k⟩ := x
  unfold qAnd at h
  split at h
  · rename_i q
    refine ⟨env, fp, true, r, q, fun H' s => ?_⟩
    refine iteT ?_
    exact ⟨env, fp, b, r.st env (Same.st1 s _), h, fun H2 s2 => k H2 (s.trans s2)⟩
  · rename_i q
    cases h
    refine ⟨env, fp, false, r, q, fun H' s => ?_⟩
    refine iteF ?_
    exact k H' s
  · cases h
theorem or_u {t u : STu} (x : tTU C (qOr t u) σ H Q) : tOr (tTU C t) (tTU C u) σ H Q := by
  obtain ⟨env, fp, b, r, h, k⟩ := x
  unfold qOr at h
  split at h
  · rename_i q
    cases h
    refine ⟨env, fp, true, r, q, fun H' s => ?_⟩
    refine iteT ?_
    exact k H' s
  · rename_i q
    refine ⟨env, fp, false, r, q, fun H' s => ?_⟩
    refine iteF ?_
    exact ⟨env, fp, b, r.st env (Same.st1 s _), h, fun H2 s2 => k H2 (s.trans s2)⟩
  · cases h
theorem PostT.shift {H1 : Hp} {fp fe : List Addr} {r : Option (Rs Bool × Env)} (h : PostT C W σ H fp Q r) (mv : Mv H H1 fp fe) : PostT C W σ H1 fe Q r := by
  cases r with
  | none => exact h
  | some z =>
    obtain ⟨z, env'⟩ := z
    cases z with
    | ok b => exact fun H' f r n m => h H' f r n (mv.trans m)
    | ex c m => exact fun cls d H' f g x r n m => h cls d H' f g x r n (mv.trans m)
theorem and_e {t u : STe} (x : tTE C W (eAnd t u) σ H Q) : tAnd (tTE C W t) (tTE C W u) σ H Q := by
  obtain ⟨env, fp, r, nd, k⟩ := x
  refine ⟨env, fp, r, nd, ?_⟩
  unfold eAnd at k
  cases q : t env with
  | none => rw [q] at k; exact k.elim
  | some z =>
    obtain ⟨z, env1⟩ := z
    rw [q] at k
    cases z with
    | ex c m => exact k
    | ok b =>
      intro H2 f2 r2 n2 m2
      cases b with
      | true => exact iteT ⟨env1, f2, r2, n2, k.shift m2⟩
      | false => exact iteF (k H2 f2 r2 n2 m2)
theorem or_e {t u : STe} (x : tTE C W (eOr t u) σ H Q) : tOr (tTE C W t) (tTE C W u) σ H Q := by
  obtain ⟨env, fp, r, nd, k⟩ := x
  refine ⟨env, fp, r, nd, ?_⟩
  unfold eOr at k
  cases q : t env with
  | none => rw [q] at k; exact k.elim
  | some z =>
    obtain ⟨z, env1⟩ := z
    rw [q] at k
    cases z with
    | ex c m => exact k
    | ok b =>
      intro H2 f2 r2 n2 m2
      cases b with
      | true => exact iteT (k H2 f2 r2 n2 m2)
      | false => exact iteF ⟨env1, f2, r2, n2, k.shift m2⟩
end
section
variable {C : Kt} {W : WXT} {σ : L2.St} {H : Hp} {Q : VK}
theorem PostE.shift {H1 : Hp} {fp fe : List Addr} {r : Option (Rs D × Env)} (h : PostE C W σ H fp Q r) (mv : Mv H H1 fp fe) : PostE C W σ H1 fe Q r := by
  cases r with
  | none => exact h
  | some z =>
    obtain ⟨z, env'⟩ := z
    cases z with
    | ok b => exact fun v H' f g x r n m => h v H' f g x r n (mv.trans m)
    | ex c m => exact fun cls d H' f g x r n m => h cls d H' f g x r n (mv.trans m)
theorem ifE_u {t : STu} {a b : SV} (x : tU C (pIf t a b) σ H Q) : tIf (tTU C t) (tU C a) (tU C b) σ H Q := by
  obtain ⟨env, fp, m, r, h, k⟩ := x
  unfold pIf at h
  split at h
  · rename_i q
    refine ⟨env, fp, true, r, q, fun H' s => ?_⟩
    refine iteT ?_
    exact ⟨env, fp, m, r.st env (Same.st1 s _), h, fun v H2 fm s2 x n fr => k v H2 fm (s.trans s2) x n fun a ha => s.free (fr a ha)⟩
  · rename_i q
    refine ⟨env, fp, false, r, q, fun H' s => ?_⟩
    refine iteF ?_
    exact ⟨env, fp, m, r.st env (Same.st1 s _), h, fun v H2 fm s2 x n fr => k v H2 fm (s.trans s2) x n fun a ha => s.free (fr a ha)⟩
  · cases h
theorem ifE_e {t : STe} {a b : SE} (x : tE C W (sIfE t a b) σ H Q) : tIf (tTE C W t) (tE C W a) (tE C W b) σ H Q := by
  obtain ⟨env, fp, r, nd, k⟩ := x
  refine ⟨env, fp, r, nd, ?_⟩
  unfold sIfE at k
  cases q : t env with
  | none => rw [q] at k; exact k.elim
  | some z =>
    obtain ⟨z, env1⟩ := z
    rw [q] at k
    cases z with
    | ex c m => exact k
    | ok b =>
      intro H2 f2 r2 n2 m2
      cases b with
      | true => exact iteT ⟨env1, f2, r2, n2, k.shift m2⟩
      | false => exact iteF ⟨env1, f2, r2, n2, k.shift m2⟩
end
end T

set_option Elab.async false
set_option linter.all false
set_option maxRecDepth 100000
set_option maxHeartbeats 4000000
namespace T
open PySem PySem.Spec PyProof.Rows L2

/-! ### targets -/
abbrev Bd := D → Env → Option Env
def tG (C : Kt) (kp : Nat → Bool) (b : Bd) : TG := fun v σ H Q => ∃ env fp m fm env', RP C H m v fm ∧ ER C H env σ fp ∧ (fm ++ fp).Nodup ∧ b m env = some env' ∧
  ∀ σ' fe, ER C H env' σ' fe → fe.Nodup → (∀ a ∈ fe, a ∈ fm ++ fp) → Kp kp σ σ' → Q σ' H
def bName (i : Nat) : Bd := fun m env => if i < env.length then some (env.set i (some m)) else none
abbrev Bds := List D → Env → Option Env
def tGs (C : Kt) (kp : Nat → Bool) (b : Bds) : TGs := fun vs σ H Q => ∃ env fp ms fm env', RPs C H ms vs fm ∧ ER C H env σ fp ∧ (fm ++ fp).Nodup ∧ b ms env = some env' ∧
  ∀ σ' fe, ER C H env' σ' fe → fe.Nodup → (∀ a ∈ fe, a ∈ fm ++ fp) → Kp kp σ σ' → Q σ' H
def bNil : Bds := fun ms env => match ms with
  | [] => some env
  | _ => none
def bCons (b : Bd) (r : Bds) : Bds := fun ms env => match ms with
  | m :: ms => match b m env with
    | some env1 => r ms env1
    | none => none
  | [] => none
def bTup (n : Nat) (b : Bds) : Bd := fun m env => match m with
  | .tup ms => if ms.length = n then b ms env else none
  | _ => none
section
variable {C : Kt} {kp : Nat → Bool} {σ : L2.St} {H : Hp} {Q : L2.St → Hp → Prop} {v : V} {vs : List V}
theorem bName_i {i : Nat} (hk : kp i = false) (x : tG C kp (bName i) v σ H Q) : gName i v σ H Q := by
  obtain ⟨env, fp, m, fm, env', y, r, nd, h, k⟩ := x
  unfold bName at h
  split at h
  · rename_i hi
    cases h
    obtain ⟨f3, r3, n3, s3⟩ := r.put hi y nd
    exact k _ f3 r3 n3 s3 (Kp.set hk)
  · cases h
theorem bNil_i (x : tGs C kp bNil vs σ H Q) : gNil vs σ H Q := by
  obtain ⟨env, fp, ms, fm, env', y, r, nd, h, k⟩ := x
  cases ms with
  | cons m ms => cases h
  | nil =>
    cases h
    obtain ⟨rfl, rfl⟩ := y
    exact ⟨rfl, k σ fp r nd (fun a h => h) (Kp.refl kp σ)⟩
theorem bCons_i {b : Bd} {r : Bds} (x : tGs C kp (bCons b r) vs σ H Q) : gCons (tG C kp b) (tGs C kp r) vs σ H Q := by
  obtain ⟨env, fp, ms, fm, env', y, e, nd, h, k⟩ := x
  cases ms with
  | nil => cases h
  | cons m ms =>
    unfold bCons at h
    dsimp only at h
    split at h
    · rename_i env1 q
      obtain ⟨v, vr, f1, f2, rfl, rfl, y1, y2⟩ := y
      have n2 : (f2 ++ (f1 ++ fp)).Nodup := by
        simp only [List.nodup_append, List.mem_append] at nd ⊢
        grind
      refine ⟨v, vr, rfl, env, fp, m, f1, env1, y1, e, (List.nodup_append.mp n2).2.1, q, fun σ1 fe r1 n1 s1 k1 => ?_⟩
      refine ⟨env1, fe, ms, f2, env', y2, r1, ?_, h, fun σ2 f3 r2 n3 s2 k2 => ?_⟩
      · simp only [List.nodup_append, List.mem_append] at n2 s1 ⊢
        grind
      · refine k σ2 f3 r2 n3 (fun a ha => ?_) (k1.trans k2)
        have := s2 a ha
        simp only [List.mem_append] at this s1 ⊢
        grind
    · cases h
theorem bTup_i {n : Nat} {b : Bds} (x : tG C kp (bTup n b) v σ H Q) : gTup C.K n (tGs C kp b) v σ H Q := by
  obtain ⟨env, fp, m, fm, env', y, r, nd, h, k⟩ := x
  unfold bTup at h
  split at h
  · split at h
    · rename_i ms hl
      obtain ⟨a, vs, rfl, a1, r1⟩ := y
      exact ⟨a, vs, rfl, SqT.of a1, by rw [← r1.len]; exact hl, env, fp, ms, fm, env', r1, r, nd, h, k⟩
    · cases h
  · cases h
end
/-- .. of frozen values, where it does not matter what is owned -/
def tGU (C : Kt) (kp : Nat → Bool) (b : Bd) : TG := fun v σ H Q => ∃ env fp m env', RP C H m v [] ∧ ER C H env σ fp ∧ b m env = some env' ∧ ∀ σ' fe, ER C H env' σ' fe → (∀ a ∈ fe, a ∈ fp) → Kp kp σ σ' → Q σ' H
def tGUs (C : Kt) (kp : Nat → Bool) (b : Bds) : TGs := fun vs σ H Q => ∃ env fp ms env', RPs C H ms vs [] ∧ ER C H env σ fp ∧ b ms env = some env' ∧ ∀ σ' fe, ER C H env' σ' fe → (∀ a ∈ fe, a ∈ fp) → Kp kp σ σ' → Q σ' H
section
variable {C : Kt} {kp : Nat → Bool} {σ : L2.St} {H : Hp} {Q : L2.St → Hp → Prop} {v : V} {vs : List V}
theorem bName_u {i : Nat} (hk : kp i = false) (x : tGU C kp (bName i) v σ H Q) : gName i v σ H Q := by
  obtain ⟨env, fp, m, env', y, r, h, k⟩ := x
  unfold bName at h
  split at h
  · rename_i hi
    cases h
    obtain ⟨w, g1, g2, g3, e2, rfl, _, kk⟩ := r.focus env (List.getElem?_eq_getElem hi)
    exact k _ _ (kk H (some m) (some v) [] (fun _ _ e _ => e) ⟨v, rfl, y⟩) (fun a ha => by simp only [List.mem_append, List.nil_append] at ha ⊢; grind) (Kp.set hk)
  · cases h
theorem bNil_u (x : tGUs C kp bNil vs σ H Q) : gNil vs σ H Q := by
  obtain ⟨env, fp, ms, env', y, r, h, k⟩ := x
  cases ms with
  | cons m ms => cases h
  | nil =>
    cases h
    obtain ⟨rfl, _⟩ := y
    exact ⟨rfl, k σ fp r (fun _ z => z) (Kp.refl kp σ)⟩
theorem bCons_u {b : Bd} {r : Bds} (x : tGUs C kp (bCons b r) vs σ H Q) : gCons (tGU C kp b) (tGUs C kp r) vs σ H Q := by
  obtain ⟨env, fp, ms, env', y, e, h, k⟩ := x
  cases ms with
  | nil => cases h
  | cons m ms =>
    unfold bCons at h
    dsimp only at h
    split at h
    · rename_i env1 q
      obtain ⟨v, vr, f1, f2, rfl, e1, y1, y2⟩ := y
      obtain ⟨rfl, rfl⟩ := List.append_eq_nil_iff.mp e1.symm
      exact ⟨v, vr, rfl, env, fp, m, env1, y1, e, q, fun σ1 fe r1 z1 k1 => ⟨env1, fe, ms, env', y2, r1, h, fun σ2 f3 r2 z2 k2 => k σ2 f3 r2 (fun a ha => z1 a (z2 a ha)) (k1.trans k2)⟩⟩
    · cases h
theorem bTup_u {n : Nat} {b : Bds} (x : tGU C kp (bTup n b) v σ H Q) : gTup C.K n (tGUs C kp b) v σ H Q := by
  obtain ⟨env, fp, m, env', y, r, h, k⟩ := x
  unfold bTup at h
  split at h
  · split at h
    · rename_i ms hl
      obtain ⟨a, vs, rfl, a1, r1⟩ := y
      exact ⟨a, vs, rfl, SqT.of a1, by rw [← r1.len]; exact hl, env, fp, ms, env', r1, r, h, k⟩
    · cases h
  · cases h
end
/-- target = value -/
def sAsg (b : Bd) (s : SE) : SS := fun env => match s env with
  | some (.ok m, env1) => (b m env1).map fun e => (.nx, e)
  | some (.ex c m, env1) => some (.ex c m, env1)
  | none => none
theorem asg_i {C : Kt} {kp : Nat → Bool} {W : WXT} {σ : L2.St} {H : Hp} {Z : Ends} {b : Bd} {s : SE} (x : tS C kp W (sAsg b s) Z σ H) : tAsg (tE C W s) (tG C kp b) Z σ H := by
  obtain ⟨env, fp, r, nd, h⟩ := x
  unfold sAsg at h
  refine e_in (Z := Z) (kp := kp) r nd (fun c m e2 q => ?_) (fun m e2 q => ?_) fun q => ?_
  · rw [q] at h; exact h
  · rw [q] at h
    intro v H2 fm f2 x r n mv
    dsimp only at h
    cases q2 : b m e2 with
    | none => rw [q2] at h; exact h.elim
    | some e3 =>
      rw [q2] at h
      exact ⟨e2, f2, m, fm, e3, x, r, n, q2, fun σ' fe r' n' s' k' => h σ' H2 fe r' n' (mv.less s') k'⟩
  · rw [q] at h; exact h

/-! ### what is walked -/
def ItsOk (C : Kt) (J : It) (H : Hp) (ms : List D) (ft : List Addr) : Prop := ∀ i H', St1 H H' ft →
  (ms.length ≤ i → J.stop i H') ∧ (∀ m, ms[i]? = some m → J.go i H' ∧ ∀ x H'', J.yld i H' x H'' → Same H' H'' ∧ RP C H'' m x [])
abbrev SI := Env → Option (Rs (List D) × Env)
def PostI (C : Kt) (W : WXT) (σ : L2.St) (H : Hp) (fp : List Addr) (R : It → Hp → Prop) : Option (Rs (List D) × Env) → Prop
  | none => False
  | some (.ok ms, env') => ∀ J H' ft fe, ItsOk C J H' ms ft → Owned H' ft → ER C H' env' σ fe → (ft ++ fe).Nodup → Mv H H' fp (ft ++ fe) → R J H'
  | some (.ex c m, env') => ∀ cls d H' fm fe, ExRep C H' c m cls d fm → ER C H' env' σ fe → (fm ++ fe).Nodup → Mv H H' fp (fm ++ fe) → W cls d σ H'
def tI (C : Kt) (W : WXT) (s : SI) : TI := fun σ H R => ∃ env fp, ER C H env σ fp ∧ fp.Nodup ∧ PostI C W σ H fp R (s env)
def tIU (C : Kt) (p : SAV) : TI := fun σ H R => ∃ env fp ms, ER C H env σ fp ∧ p env = some ms ∧ ∀ J H' ft, ItsOk C J H' ms ft → Owned H' ft → ft.Nodup → (∀ a ∈ ft, H a = none) → Same H H' → R J H'
/-- .. where nothing that is there changes meanwhile: what is walked may be a part of what a slot holds -/
def tIV (C : Kt) (p : SAV) : TI := fun σ H R => ∃ env fp ms, ER C H env σ fp ∧ p env = some ms ∧ ∀ J H' ft, ItsOk C J H' ms ft → Same H H' → R J H'
theorem iV_of {C : Kt} {p : SAV} {σ : L2.St} {H : Hp} {R : It → Hp → Prop} (x : tIV C p σ H R) : tIU C p σ H R := by
  obtain ⟨env, fp, ms, r, h, k⟩ := x
  exact ⟨env, fp, ms, r, h, fun J H' ft its _ _ _ s => k J H' ft its s⟩
/-- a list | tuple, whichever -/
def iSeq (K : PySem.W.Frag) (tl : TE) : TI := fun σ H R => tl σ H fun x H1 => (∃ a, x = .ref a ∧ (∃ xs, SqL K H1 a xs) ∧ R (Itl K a) H1) ∨ (∃ a, x = .ref a ∧ (∃ xs, SqT K H1 a xs) ∧ R (Itt K a) H1)
theorem pi_seq {X : Cx} {tg l : Expr} {tl : TE} (hl : PE X l tl) : PI X tg l (iSeq X.K tl) := by
  refine ⟨fun pins s σ H R I h => ?_⟩
  refine thn (hl.run pins s σ H _ I h) fun v s1 ⟨x, H1, I1, r1, q1⟩ => ?_
  rcases q1 with ⟨a, e, ⟨xs, hq⟩, q⟩ | ⟨a, e, ⟨xs, hq⟩, q⟩
  · subst e
    cases r1
    obtain ⟨its, rv, p, hz⟩ := I1.list hq
    refine wpAny_pyIter_list p.isList ?_
    refine ⟨s1.heap.objs.size, [s1.heap.objs.size], _, _, H1, rfl, I1.kept (t' := s1.toks) fun b o e => Heap.get?_push_of_some _ e, turn_list a _, ⟨_, Heap.get?_push_size _ rfl, rfl, rfl⟩, fun b hb => ?_, q⟩
    have e : b = s1.heap.objs.size := by simpa using hb
    subst e
    exact I1.fpOk (Nat.le_refl _) (I1.hok.fresh (Nat.le_refl _))
  · subst e
    cases r1
    obtain ⟨its, rv, p, hz⟩ := I1.tuple hq
    refine wpAny_pyIter_tuple (show s1.heap.IsTuple a its.toArray from p) ?_
    refine ⟨s1.heap.objs.size, [s1.heap.objs.size], _, _, H1, rfl, I1.kept (t' := s1.toks) fun b o e => Heap.get?_push_of_some _ e, turn_tuple a _, ⟨_, Heap.get?_push_size _ rfl, rfl, rfl⟩, fun b hb => ?_, q⟩
    have e : b = s1.heap.objs.size := by simpa using hb
    subst e
    exact I1.fpOk (Nat.le_refl _) (I1.hok.fresh (Nat.le_refl _))
def seqD : D → Option (List D)
  | .lst _ ms => if fzs ms then some ms else none
  | .tup ms => if fzs ms then some ms else none
  | _ => none
theorem RPs.st0 {C : Kt} {H H' : Hp} {ms : List D} {vs : List V} {ft : List Addr} (h : RPs C H ms vs []) (s : St1 H H' ft) : RPs C H' ms vs [] := h.st ms fun a o e x => s a o e (x.elim (fun z => nomatch z) .inr)
theorem its_list {C : Kt} {H : Hp} {o : Bool} {a : Addr} {vs : List V} {fp fp' : List Addr} {ms : List D} (h : At o H a (.lst vs) fp fp') (r : RPs C H ms vs []) : ItsOk C (Itl C.K a) H ms fp := fun i H' s => by
  have q := (h.st s).1.seqL (K := C.K)
  refine ⟨fun hi => ⟨vs, q, by rw [← r.len]; exact hi⟩, fun m hm => ?_⟩
  obtain ⟨v, e, x⟩ := r.get hm
  refine ⟨⟨vs, v, q, e⟩, fun x' H'' y => ?_⟩
  obtain ⟨rfl, y⟩ := y
  have := y vs q
  rw [e] at this; cases this
  exact ⟨Same.refl _, x.st m fun a o e z => s a o e (z.elim (fun z => nomatch z) .inr)⟩
theorem its_tup {C : Kt} {H : Hp} {a : Addr} {vs : List V} {fp : List Addr} {ms : List D} (h : SqT C.K H a vs) (r : RPs C H ms vs []) : ItsOk C (Itt C.K a) H ms fp := fun i H' s => by
  have q := seqT_st h s
  refine ⟨fun hi => ⟨vs, q, by rw [← r.len]; exact hi⟩, fun m hm => ?_⟩
  obtain ⟨v, e, x⟩ := r.get hm
  refine ⟨⟨vs, v, q, e⟩, fun x' H'' y => ?_⟩
  obtain ⟨rfl, y⟩ := y
  have := y vs q
  rw [e] at this; cases this
  exact ⟨Same.refl _, x.st m fun a o e z => s a o e (z.elim (fun z => nomatch z) .inr)⟩
def iE (s : SE) : SI := fun env => match s env with
  | some (.ok m, env1) => (seqD m).map fun ms => (.ok ms, env1)
  | some (.ex c m, env1) => some (.ex c m, env1)
  | none => none
def iP (p : SV) : SAV := fun env => match p env with
  | some m => seqD m
  | none => none
theorem seq_its {C : Kt} {H : Hp} {m : D} {ms : List D} {v : V} {fm : List Addr} (x : RP C H m v fm) (h : seqD m = some ms) :
    (∃ a, v = .ref a ∧ (∃ xs, SqL C.K H a xs) ∧ ItsOk C (Itl C.K a) H ms fm) ∨ (∃ a, v = .ref a ∧ (∃ xs, SqT C.K H a xs) ∧ ItsOk C (Itt C.K a) H ms fm) := by
  unfold seqD at h
  split at h
  · split at h
    · rename_i hz
      cases h
      obtain ⟨a, vs, g, rfl, a1, r1⟩ := x
      exact .inl ⟨a, rfl, ⟨vs, a1.seqL⟩, its_list a1 (r1.fzAll hz)⟩
    · cases h
  · split at h
    · rename_i hz
      cases h
      obtain ⟨a, vs, rfl, a1, r1⟩ := x
      exact .inr ⟨a, rfl, ⟨vs, SqT.of a1⟩, its_tup (SqT.of a1) (r1.fzAll hz)⟩
    · cases h
  · cases h
section
variable {C : Kt} {W : WXT} {σ : L2.St} {H : Hp} {R : It → Hp → Prop}
theorem iE_i {s : SE} (x : tI C W (iE s) σ H R) : iSeq C.K (tE C W s) σ H R := by
  obtain ⟨env, fp, r, nd, h⟩ := x
  refine ⟨env, fp, r, nd, ?_⟩
  unfold iE at h
  cases q : s env with
  | none => rw [q] at h; exact h.elim
  | some z =>
    obtain ⟨z, env1⟩ := z
    rw [q] at h
    cases z with
    | ex c m => exact h
    | ok m =>
      intro v H1 fm fe x1 r1 n1 m1
      dsimp only at h
      cases q2 : seqD m with
      | none => rw [q2] at h; exact h.elim
      | some ms =>
        rw [q2] at h
        rcases seq_its x1 q2 with ⟨a, rfl, hq, its⟩ | ⟨a, rfl, hq, its⟩
        · exact .inl ⟨a, rfl, hq, h _ H1 fm fe its (x1.owned m) r1 n1 m1⟩
        · exact .inr ⟨a, rfl, hq, h _ H1 fm fe its (x1.owned m) r1 n1 m1⟩
theorem iP_u {p : SV} (x : tIU C (iP p) σ H R) : iSeq C.K (tU C p) σ H R := by
  obtain ⟨env, fp, ms, r, h, k⟩ := x
  unfold iP at h
  split at h
  · rename_i m q
    refine ⟨env, fp, m, r, q, fun v H1 fm s x n fr => ?_⟩
    rcases seq_its x h with ⟨a, rfl, hq, its⟩ | ⟨a, rfl, hq, its⟩
    · exact .inl ⟨a, rfl, hq, k _ H1 fm its (x.owned m) n fr s⟩
    · exact .inr ⟨a, rfl, hq, k _ H1 fm its (x.owned m) n fr s⟩
  · cases h
theorem iP_v {p : SV} (x : tIV C (iP p) σ H R) : iSeq C.K (tV C p) σ H R := by
  obtain ⟨env, fp, ms, r, h, k⟩ := x
  unfold iP at h
  split at h
  · rename_i m q
    refine ⟨env, fp, m, r, q, fun v H1 fm s x => ?_⟩
    rcases seq_its x h with ⟨a, rfl, hq, its⟩ | ⟨a, rfl, hq, its⟩
    · exact .inl ⟨a, rfl, hq, k _ H1 fm its s⟩
    · exact .inr ⟨a, rfl, hq, k _ H1 fm its s⟩
  · cases h
def iU (p : SAV) : SI := fun env => (p env).map fun ms => (.ok ms, env)
theorem iU_i {p : SAV} (x : tI C W (iU p) σ H R) : tIU C p σ H R := by
  obtain ⟨env, fp, r, nd, h⟩ := x
  unfold iU at h
  cases q : p env with
  | none => rw [q] at h; exact h.elim
  | some ms =>
    rw [q] at h
    refine ⟨env, fp, ms, r, q, fun J H' ft its ow n fr s => h J H' ft fp its ow (r.st env (Same.st1 s _)) ?_ (Mv.same s fr)⟩
    have o2 := r.owned env
    refine List.nodup_append.mpr ⟨n, nd, fun a ha b hb => ?_⟩
    rintro rfl
    obtain ⟨o, e, _⟩ := o2 a hb
    rw [fr a ha] at e; cases e
end
/-- range(n), range(a, b) -/
def rng1D : List D → Option (List D)
  | [.int n] => if n < 2 ^ 62 ∧ -(2 ^ 62) ≤ n then some ((List.range n.toNat).map fun i => .int (i : Nat)) else none
  | _ => none
def rng2D : List D → Option (List D)
  | [.int a, .int b] => if (-(2 ^ 62) ≤ a ∧ a < 2 ^ 62) ∧ (-(2 ^ 62) ≤ b ∧ b < 2 ^ 62) then some ((List.range (b - a).toNat).map fun i => .int (a + (i : Nat))) else none
  | _ => none
theorem its_rng {C : Kt} {H : Hp} {lo : Int} {n : Nat} {ft : List Addr} : ItsOk C (Itr lo n) H ((List.range n).map fun i => .int (lo + (i : Nat))) ft := fun i H' s => by
  refine ⟨fun hi => (by simpa using hi : n ≤ i), fun m hm => ?_⟩
  have hi : i < n := by
    have := (List.getElem?_eq_some_iff.mp hm).1
    simpa using this
  refine ⟨hi, fun x H'' y => ?_⟩
  obtain ⟨rfl, rfl⟩ := y
  rw [List.getElem?_map, List.getElem?_range hi] at hm
  cases hm
  exact ⟨Same.refl _, rfl, rfl⟩

def iRg (f : List D → Option (List D)) (a : SA) : SI := fun env => match a env with
  | some (.ok as, env1) => match lookA as env1 with
    | some ms => (f ms).map fun ms => (.ok ms, env1)
    | none => none
  | some (.ex c m, env1) => some (.ex c m, env1)
  | none => none
def iRgU (f : List D → Option (List D)) (p : SAV) : SAV := fun env => match p env with
  | some ms => f ms
  | none => none
theorem rng1_its {C : Kt} {H : Hp} {ms is : List D} {vs : List V} {fm ft : List Addr} (x : RPs C H ms vs fm) (h : rng1D ms = some is) :
    ∃ j : Int, vs = [V.int j] ∧ -(2 ^ 62) ≤ j ∧ j < 2 ^ 62 ∧ ItsOk C (Itr 0 j.toNat) H is ft := by
  unfold rng1D at h
  split at h
  · split at h
    · rename_i n hn
      cases h
      obtain ⟨v, vr, f1, f2, rfl, rfl, ⟨rfl, _⟩, rfl, _⟩ := x
      refine ⟨n, rfl, hn.2, hn.1, ?_⟩
      have := its_rng (C := C) (H := H) (lo := 0) (n := n.toNat) (ft := ft)
      simpa using this
    · cases h
  · cases h
theorem rng2_its {C : Kt} {H : Hp} {ms is : List D} {vs : List V} {fm ft : List Addr} (x : RPs C H ms vs fm) (h : rng2D ms = some is) :
    ∃ i j : Int, vs = [V.int i, V.int j] ∧ (-(2 ^ 62) ≤ i ∧ i < 2 ^ 62 ∧ -(2 ^ 62) ≤ j ∧ j < 2 ^ 62) ∧ ItsOk C (Itr i (j - i).toNat) H is ft := by
  unfold rng2D at h
  split at h
  · split at h
    · rename_i a b hn
      cases h
      obtain ⟨v, vr, f1, f2, rfl, rfl, ⟨rfl, _⟩, v2, vr2, f3, f4, rfl, rfl, ⟨rfl, _⟩, rfl, _⟩ := x
      exact ⟨a, b, rfl, ⟨hn.1.1, hn.1.2, hn.2.1, hn.2.2⟩, its_rng⟩
    · cases h
  · cases h
theorem pi_imp {X : Cx} {tg e : Expr} {t t' : TI} (h : PI X tg e t) (f : ∀ σ H R, t' σ H R → t σ H R) : PI X tg e t' := ⟨fun pins s σ H R I q => h.run pins s σ H R I (f σ H R q)⟩
/-- an iterator made of arguments by values -/
def ItC (C : Kt) (w : List V → Hp → (It → Hp → Prop) → Prop) (f : List D → Option (List D)) : Prop := ∀ (H : Hp) (ms is : List D) (vs : List V) (fm : List Addr) (R : It → Hp → Prop), RPs C H ms vs fm → f ms = some is →
  (∀ J, ItsOk C J H is [] → R J H) → w vs H R
def iC (w : List V → Hp → (It → Hp → Prop) → Prop) (ta : TA) : TI := fun σ H R => ta σ H fun vs H1 => w vs H1 R
def wRng1 : List V → Hp → (It → Hp → Prop) → Prop := fun vs H1 R => ∃ j : Int, vs = [V.int j] ∧ -(2 ^ 62) ≤ j ∧ j < 2 ^ 62 ∧ R (Itr 0 j.toNat) H1
def wRng2 : List V → Hp → (It → Hp → Prop) → Prop := fun vs H1 R => ∃ i j : Int, vs = [V.int i, V.int j] ∧ (-(2 ^ 62) ≤ i ∧ i < 2 ^ 62 ∧ -(2 ^ 62) ≤ j ∧ j < 2 ^ 62) ∧ R (Itr i (j - i).toNat) H1
theorem ic_rng1 {C : Kt} : ItC C wRng1 rng1D := fun H ms is vs fm R x h k => by
  obtain ⟨j, e, h1, h2, its⟩ := rng1_its (ft := []) x h
  exact ⟨j, e, h1, h2, k _ its⟩
theorem ic_rng2 {C : Kt} : ItC C wRng2 rng2D := fun H ms is vs fm R x h k => by
  obtain ⟨i, j, e, h1, its⟩ := rng2_its (ft := []) x h
  exact ⟨i, j, e, h1, k _ its⟩
section
variable {C : Kt} {W : WXT} {σ : L2.St} {H : Hp} {R : It → Hp → Prop} {w : List V → Hp → (It → Hp → Prop) → Prop} {f : List D → Option (List D)}
theorem rg_i (hf : ItC C w f) {a : SA} (x : tI C W (iRg f a) σ H R) : iC w (tA C W a) σ H R := by
  obtain ⟨env, fp, r, nd, h⟩ := x
  refine ⟨env, fp, r, nd, ?_⟩
  unfold iRg at h
  cases q : a env with
  | none => rw [q] at h; exact h.elim
  | some z =>
    obtain ⟨z, env1⟩ := z
    rw [q] at h
    cases z with
    | ex c m => exact h
    | ok as =>
      intro vs H1 fa fe x1 r1 n1 m1
      dsimp only at h
      split at h
      · rename_i ms q2
        obtain ⟨fm, y⟩ := lookA_ok r1 as x1 q2
        cases q3 : f ms with
        | none => rw [q3] at h; exact h.elim
        | some is =>
          rw [q3] at h
          have n2 := (List.nodup_append.mp n1).2.1
          have m2 : Mv H H1 fp ([] ++ fe) := m1.less fun b hb => List.mem_append_right _ hb
          exact hf H1 ms is vs fm R y q3 fun J its => h J H1 [] fe its Owned.nil r1 n2 m2
      · exact h.elim
theorem rg_u (hf : ItC C w f) {p : SAV} (x : tIU C (iRgU f p) σ H R) : iC w (tAV C p) σ H R := by
  obtain ⟨env, fp, is, r, h, k⟩ := x
  unfold iRgU at h
  split at h
  · rename_i ms q
    refine ⟨env, fp, ms, r, q, fun vs H1 fm s y => ?_⟩
    exact hf H1 ms is vs fm R y h fun J its => k J H1 [] its Owned.nil List.nodup_nil noneIn s
  · cases h
end

/-! ### for -/
def loopS (b : Bd) (body : SS) : List D → SS
  | [], env => some (.nx, env)
  | m :: r, env => match b m env with
    | some env1 => match body env1 with
      | some (.nx, env2) => loopS b body r env2
      | some (.ct, env2) => loopS b body r env2
      | some (.bk, env2) => some (.nx, env2)
      | some (.rt m, env2) => some (.rt m, env2)
      | some (.ex c m, env2) => some (.ex c m, env2)
      | none => none
    | none => none
def sFor (it : SI) (b : Bd) (body : SS) : SS := fun env => match it env with
  | some (.ok ms, env1) => loopS b body ms env1
  | some (.ex c m, env1) => some (.ex c m, env1)
  | none => none
theorem for_i {C : Kt} {kp : Nat → Bool} {W : WXT} {σ : L2.St} {H : Hp} {Z : Ends} {it : SI} {b : Bd} {body : SS} (x : tS C kp W (sFor it b body) Z σ H) : tFor (tI C W it) (tG C kp b) (tS C kp W body) Z σ H := by
  obtain ⟨env, fp, r, nd, h⟩ := x
  refine ⟨env, fp, r, nd, ?_⟩
  unfold sFor at h
  cases q : it env with
  | none => rw [q] at h; exact h.elim
  | some z =>
    obtain ⟨z, env1⟩ := z
    rw [q] at h
    cases z with
    | ex c m => exact fun cls d H' fm fe y r' n' mv => h cls d σ H' fm fe y r' n' mv (Kp.refl kp σ)
    | ok ms =>
      intro J H1 ft fe its ow r1 n1 m1
      dsimp only at h
      refine ⟨fun i m σ' H' => m = ms.length - i ∧ i ≤ ms.length ∧ ∃ env' fe', ER C H' env' σ' fe' ∧ (ft ++ fe').Nodup ∧ Mv H H' fp (ft ++ fe') ∧ St1 H1 H' ft ∧ Kp kp σ σ' ∧ PostS C kp W Z σ H fp (loopS b body (ms.drop i) env'),
        ⟨ms.length, by simp, Nat.zero_le _, env1, fe, r1, n1, m1, fun _ _ e _ => e, Kp.refl kp σ, h⟩, ?_⟩
      rintro i m σ' H' ⟨rfl, hi, env', fe', r', n', mv', st', kk', h'⟩
      by_cases hlt : i < ms.length
      · right
        have e1 : ms[i]? = some ms[i] := List.getElem?_eq_getElem hlt
        obtain ⟨_, go⟩ := its i H' st'
        obtain ⟨go, yl⟩ := go _ e1
        rw [List.drop_eq_getElem_cons hlt] at h'
        unfold loopS at h'
        cases q2 : b ms[i] env' with
        | none => rw [q2] at h'; exact h'.elim
        | some env2 =>
          rw [q2] at h'
          dsimp only at h'
          refine ⟨go, fun σ2 H2 => i + 1 ≤ ms.length ∧ ∃ env' fe', ER C H2 env' σ2 fe' ∧ (ft ++ fe').Nodup ∧ Mv H H2 fp (ft ++ fe') ∧ St1 H1 H2 ft ∧ Kp kp σ σ2 ∧ PostS C kp W Z σ H fp (loopS b body (ms.drop (i + 1)) env'), fun σ2 H2 w => ⟨ms.length - (i + 1), by omega, rfl, w.1, w.2⟩, fun x H2 y => ?_⟩
          obtain ⟨s2, y2⟩ := yl x H2 y
          have oft : Owned H' ft := fun a ha => by
            obtain ⟨o, e, f⟩ := ow a ha
            exact ⟨o, st' a o e (.inl ha), f⟩
          have n2 : fe'.Nodup := (List.nodup_append.mp n').2.1
          refine ⟨env', fe', ms[i], [], env2, y2, r'.st env' (Same.st1 s2 _), by simpa using n2, q2, fun σ3 f3 r3 n3 s3 k3 => ⟨env2, f3, r3, n3, ?_⟩⟩
          have mv2 : Mv H' H2 fe' f3 := ⟨fun a o e _ => s2 a o e, fun a ha => .inl (by simpa using s3 a ha)⟩
          have nft : (ft ++ f3).Nodup := mv2.nodup n' oft n3
          have mv3 : Mv H H2 fp (ft ++ f3) := mv'.trans (mv2.frame n' oft)
          have st3 : St1 H1 H2 ft := fun a o e z => s2 a o (st' a o e z)
          have oft2 : Owned H2 ft := fun a ha => by
            obtain ⟨o, e, f⟩ := oft a ha
            exact ⟨o, s2 a o e, f⟩
          have step : ∀ σ4 H4 f4 env4, ER C H4 env4 σ4 f4 → f4.Nodup → Mv H2 H4 f3 f4 → Kp kp σ3 σ4 → PostS C kp W Z σ H fp (loopS b body (ms.drop (i + 1)) env4) →
              i + 1 ≤ ms.length ∧ ∃ env' fe', ER C H4 env' σ4 fe' ∧ (ft ++ fe').Nodup ∧ Mv H H4 fp (ft ++ fe') ∧ St1 H1 H4 ft ∧ Kp kp σ σ4 ∧ PostS C kp W Z σ H fp (loopS b body (ms.drop (i + 1)) env') := fun σ4 H4 f4 env4 r4 n4 m4 k4 p4 =>
            ⟨hlt, env4, f4, r4, m4.nodup nft oft2 n4, mv3.trans (m4.frame nft oft2), fun a o e z => by
              have s4 := m4.st (f := ft) nft
              exact s4 a o (st3 a o e z) z, (kk'.trans k3).trans k4, p4⟩
          cases q3 : body env2 with
          | none => rw [q3] at h'; exact h'.elim
          | some w =>
            obtain ⟨w, env3⟩ := w
            rw [q3] at h'
            cases w with
            | nx => exact fun σ4 H4 f4 r4 n4 m4 k4 => step σ4 H4 f4 env3 r4 n4 m4 k4 h'
            | ct => exact fun σ4 H4 f4 r4 n4 m4 k4 => step σ4 H4 f4 env3 r4 n4 m4 k4 h'
            | bk => exact fun σ4 H4 f4 r4 n4 m4 k4 => h' σ4 H4 f4 r4 n4 ((mv3.trans (m4.frame nft oft2)).less fun a ha => List.mem_append_right _ ha) ((kk'.trans k3).trans k4)
            | rt m => exact fun v σ4 H4 fv f4 y4 r4 n4 m4 k4 => h' v σ4 H4 fv f4 y4 r4 n4 ((mv3.trans (m4.frame nft oft2)).less fun a ha => List.mem_append_right _ ha) ((kk'.trans k3).trans k4)
            | ex c m => exact fun cls d σ4 H4 fv f4 y4 r4 n4 m4 k4 => h' cls d σ4 H4 fv f4 y4 r4 n4 ((mv3.trans (m4.frame nft oft2)).less fun a ha => List.mem_append_right _ ha) ((kk'.trans k3).trans k4)
      · left
        have e : i = ms.length := by omega
        subst e
        rw [List.drop_length] at h'
        exact ⟨(its _ H' st').1 (Nat.le_refl _), h' σ' H' fe' r' (List.nodup_append.mp n').2.1 (mv'.less fun a ha => List.mem_append_right _ ha) kk'⟩
end T

set_option Elab.async false
set_option linter.all false
set_option maxRecDepth 100000
set_option maxHeartbeats 4000000
namespace T
open PySem PySem.Spec PyProof.Rows L2

/-! ### comprehensions -/
def wipeE : List Nat → Env → Env
  | [], env => env
  | v :: vs, env => (wipeE vs env).set v none
def restE (env0 : Env) : List Nat → Env → Env
  | [], env => env
  | v :: vs, env => match pVar v env0 with
    | some m => if fz m then (restE env0 vs env).set v (some m) else restE env0 vs env
    | none => restE env0 vs env
theorem wipe_get (σ : L2.St) (i : Nat) : ∀ vs : List Nat, (wipe σ vs)[i]? = if i ∈ vs ∧ i < σ.length then some none else σ[i]?
  | [] => by simp [wipe]
  | v :: vs => by
    unfold wipe
    rw [List.getElem?_set, wipe_length, wipe_get σ i vs]
    by_cases h : v = i
    · subst h
      by_cases hl : v < σ.length
      · simp [hl]
      · simp [hl, List.getElem?_eq_none (Nat.le_of_not_lt hl)]
    · simp only [h, if_false, List.mem_cons]
      have : ¬ i = v := fun e => h e.symm
      simp [this]
theorem wipe_eq {σ σ' : L2.St} {vs : List Nat} (hl : σ'.length = σ.length) (h : ∀ i, i ∉ vs → σ'[i]? = σ[i]?) : wipe σ' vs = wipe σ vs := by
  refine List.ext_getElem? fun i => ?_
  rw [wipe_get, wipe_get, hl]
  by_cases hi : i ∈ vs
  · by_cases hz : i < σ.length
    · simp [hi, hz]
    · simp [hz, List.getElem?_eq_none (Nat.le_of_not_lt hz), List.getElem?_eq_none (show σ'.length ≤ i by omega)]
  · simp [hi, h i hi]
theorem er_none {C : Kt} {H : Hp} {env : Env} {σ : L2.St} {fe : List Addr} {i : Nat} {w : Option V} (r : ER C H env σ fe) (h : env[i]? = some none) : ER C H env (σ.set i w) fe := by
  obtain ⟨w', f1, f2, f3, e, rfl, y, k⟩ := r.focus env h
  have y : f2 = [] := y
  subst y
  have := k H none w [] (fun _ _ e _ => e) rfl
  have e2 : env.set i none = env := by
    have hl := (List.getElem?_eq_some_iff.mp h).1
    have : env[i] = none := (List.getElem?_eq_some_iff.mp h).2
    rw [← this]; exact List.set_getElem_self hl
  rw [e2] at this
  exact this
def NoneAt (own : List Nat) (env : Env) : Prop := ∀ i ∈ own, i < env.length → env[i]? = some none
theorem er_wipe {C : Kt} {H : Hp} {env : Env} {σ : L2.St} {fe : List Addr} : ∀ (own : List Nat), NoneAt own env → ER C H env σ fe → ER C H env (wipe σ own) fe
  | [], _, r => r
  | v :: vs, h, r => by
    have r1 := er_wipe vs (fun i hi => h i (List.mem_cons_of_mem _ hi)) r
    unfold wipe
    by_cases hv : v < env.length
    · exact er_none r1 (h v (by simp) hv)
    · rw [List.set_eq_of_length_le]
      · exact r1
      · rw [← r1.len]; omega
theorem er_unwipe {C : Kt} {H : Hp} {env : Env} {σ : L2.St} {fe : List Addr} : ∀ (own : List Nat), NoneAt own env → ER C H env (wipe σ own) fe → ER C H env σ fe
  | [], _, r => r
  | v :: vs, h, r => by
    refine er_unwipe vs (fun i hi => h i (List.mem_cons_of_mem _ hi)) ?_
    unfold wipe at r
    by_cases hv : v < env.length
    · have r2 := er_none (w := ((wipe σ vs)[v]?).join) r (h v (by simp) hv)
      rw [List.set_set] at r2
      have hl : v < (wipe σ vs).length := by
        have := r.len
        rw [List.length_set] at this
        omega
      have : (wipe σ vs).set v ((wipe σ vs)[v]?).join = wipe σ vs := by
        rw [List.getElem?_eq_getElem hl]
        show (wipe σ vs).set v (wipe σ vs)[v] = _
        exact List.set_getElem_self hl
      rw [this] at r2
      exact r2
    · rw [List.set_eq_of_length_le] at r
      · exact r
      · have := r.len
        rw [List.length_set] at this
        omega
theorem wipeE_len (env : Env) : ∀ own : List Nat, (wipeE own env).length = env.length
  | [] => rfl
  | v :: vs => by unfold wipeE; rw [List.length_set, wipeE_len env vs]
theorem wipeE_none (env : Env) (own : List Nat) : NoneAt own (wipeE own env) := by
  induction own with
  | nil => intro i hi; cases hi
  | cons v vs ih =>
    intro i hi hl
    unfold wipeE at hl ⊢
    rw [List.length_set] at hl
    rw [List.getElem?_set]
    by_cases h : v = i
    · rw [if_pos h]
      subst h
      rw [if_pos hl]
    · rw [if_neg h]
      rcases List.mem_cons.mp hi with e | hi
      · exact absurd e.symm h
      · exact ih i hi hl
theorem er_wipeE {C : Kt} {H : Hp} {env : Env} {σ : L2.St} {fe : List Addr} (r : ER C H env σ fe) : ∀ own : List Nat, ∃ f, ER C H (wipeE own env) (wipe σ own) f ∧ List.Sublist f fe
  | [] => ⟨fe, r, .refl _⟩
  | v :: vs => by
    obtain ⟨f, r1, s1⟩ := er_wipeE r vs
    unfold wipeE wipe
    by_cases hv : v < (wipeE vs env).length
    · obtain ⟨w', f1, f2, f3, e, rfl, y, k⟩ := r1.focus _ (List.getElem?_eq_getElem hv)
      exact ⟨_, k H none none [] (fun _ _ e _ => e) rfl, List.Sublist.trans (List.Sublist.append_left (List.Sublist.append_right (List.nil_sublist f2) f3) f1) s1⟩
    · rw [List.set_eq_of_length_le (by omega), List.set_eq_of_length_le (by rw [← r1.len]; omega)]
      exact ⟨f, r1, s1⟩
/-- the slots own forgotten -/
theorem er_forget {C : Kt} {H : Hp} {env : Env} {σ σ' : L2.St} {fe : List Addr} {own : List Nat} (r : ER C H env σ' fe) (hw : wipe σ' own = wipe σ own) : ∃ f, ER C H (wipeE own env) σ f ∧ List.Sublist f fe := by
  obtain ⟨f, r1, s⟩ := er_wipeE r own
  rw [hw] at r1
  exact ⟨f, er_unwipe own (wipeE_none env own) r1, s⟩
theorem er_rest {C : Kt} {H H0 : Hp} {env0 env : Env} {σ : L2.St} {f0 fe : List Addr} (r0 : ER C H0 env0 σ f0) (s : St1 H0 H []) (hl : env.length = env0.length) (r : ER C H env σ fe) : ∀ own : List Nat, ∃ f, ER C H (restE env0 own env) σ f ∧ List.Sublist f fe
  | [] => ⟨fe, r, .refl _⟩
  | v :: vs => by
    obtain ⟨f, r1, s1⟩ := er_rest r0 s hl r vs
    unfold restE
    split
    · rename_i m q
      split
      · rename_i hz
        obtain ⟨w, g1, g2, g3, hw, rfl, x, _⟩ := pVar_get q r0
        have := x.fz m hz
        subst this
        have x' := x.st m s
        have hv : v < (restE env0 vs env).length := by
          have h1 := r1.len
          have h2 := (List.getElem?_eq_some_iff.mp hw).1
          omega
        obtain ⟨w', f1, f2, f3, e, rfl, y, k⟩ := r1.focus _ (List.getElem?_eq_getElem hv)
        have := k H (some m) (some w) [] (fun _ _ e _ => e) ⟨w, rfl, x'⟩
        rw [set_self hw] at this
        exact ⟨_, this, List.Sublist.trans (List.Sublist.append_left (List.Sublist.append_right (List.nil_sublist f2) f3) f1) s1⟩
      · exact ⟨f, r1, s1⟩
    · exact ⟨f, r1, s1⟩

/-- pure: what the turns give -/
def pLcL (b : Bd) (t : STu) (el : SV) (env : Env) : List D → Option (List D)
  | [] => some []
  | m :: r => match b m env with
    | some e1 => match t e1 with
      | some true => match el e1, pLcL b t el env r with
        | some x, some xs => some (x :: xs)
        | _, _ => none
      | some false => pLcL b t el env r
      | none => none
    | none => none
def pLc (own : List Nat) (it : SAV) (b : Bd) (t : STu) (el : SV) : SV := fun env => match it env with
  | some ms => if ms.length ≤ 100000 then (pLcL b t el (wipeE own env) ms).map (.lst true) else none
  | none => none
def kpOwn (own : List Nat) : Nat → Bool := fun i => !own.contains i
theorem kp_wipe {own : List Nat} {σ σ2 : L2.St} (k : Kp (kpOwn own) (wipe σ own) σ2) : wipe σ2 own = wipe σ own := by
  have h1 : wipe σ2 own = wipe (wipe σ own) own := wipe_eq k.1 fun i hi => k.2 i (by simp [kpOwn, hi])
  rw [h1]
  refine wipe_eq (wipe_length σ own) fun i hi => ?_
  rw [wipe_get]; simp [hi]
theorem lc_u {C : Kt} {σ : L2.St} {H : Hp} {Q : VK} {own : List Nat} {it : SAV} {b : Bd} {t : STu} {el : SV} (x : tU C (pLc own it b t el) σ H Q) : tLc (tIV C it) (tGU C (kpOwn own) b) (tTU C t) (tU C el) own σ H Q := by
  obtain ⟨env, fp, m, r, h, k⟩ := x
  unfold pLc at h
  cases q : it env with
  | none => rw [q] at h; cases h
  | some ms =>
    rw [q] at h
    dsimp only at h
    split at h
    · rename_i hlen
      cases q2 : pLcL b t el (wipeE own env) ms with
      | none => rw [q2] at h; cases h
      | some tot =>
        rw [q2] at h
        cases h
        refine ⟨env, fp, ms, r, q, fun J H1 ft its s1 D hD => ?_⟩
        have up : ∀ (xs : List V), ∀ a o, H1 a = some o → upd H1 D (.lst xs) a = some o := fun xs a o e => by rw [upd_ne (ne_of_none e hD)]; exact e
        refine ⟨fun i m H' => m = ms.length - i ∧ i ≤ ms.length ∧ (∀ a o, H1 a = some o → H' a = some o) ∧ ∃ acc vs fx rest, H' D = some (.lst vs) ∧ RPs C H' acc vs fx ∧ fx.Nodup ∧ D ∉ fx ∧ (∀ a ∈ fx, H1 a = none) ∧ acc.length ≤ i ∧
            pLcL b t el (wipeE own env) (ms.drop i) = some rest ∧ tot = acc ++ rest,
          ⟨ms.length, by simp, Nat.zero_le _, up [], [], [], [], tot, upd_same, ⟨rfl, rfl⟩, List.nodup_nil, by simp, noneIn, Nat.le_refl _, by simpa using q2, rfl⟩, ?_⟩
        rintro i m H' ⟨rfl, hi, sm, acc, vs, fx, rest, hd, hr, nfx, dfx, ffx, hal, hrest, htot⟩
        have st' : St1 H1 H' ft := fun a o e _ => sm a o e
        have s01 : Same H1 H' := sm
        by_cases hlt : i < ms.length
        · right
          have e1 : ms[i]? = some ms[i] := List.getElem?_eq_getElem hlt
          obtain ⟨_, go⟩ := its i H' st'
          obtain ⟨go, yl⟩ := go _ e1
          rw [List.drop_eq_getElem_cons hlt] at hrest
          unfold pLcL at hrest
          cases q3 : b ms[i] (wipeE own env) with
          | none => rw [q3] at hrest; cases hrest
          | some env2 =>
            rw [q3] at hrest
            dsimp only at hrest
            refine ⟨go, fun H2 => i + 1 ≤ ms.length ∧ (∀ a o, H1 a = some o → H2 a = some o) ∧ ∃ acc vs fx rest, H2 D = some (.lst vs) ∧ RPs C H2 acc vs fx ∧ fx.Nodup ∧ D ∉ fx ∧ (∀ a ∈ fx, H1 a = none) ∧ acc.length ≤ i + 1 ∧
                pLcL b t el (wipeE own env) (ms.drop (i + 1)) = some rest ∧ tot = acc ++ rest, fun H2 w => ⟨ms.length - (i + 1), by omega, rfl, w⟩, fun x H2 y => ?_⟩
            obtain ⟨s2, y2⟩ := yl x H2 y
            have sA : Same H1 H2 := s01.trans s2
            obtain ⟨f, rw1, sub⟩ := er_wipeE (r.st env (Same.st1 (s1.trans sA) _)) own
            refine ⟨wipeE own env, f, ms[i], env2, y2, rw1, q3, fun σ2 f2 r2 _ k2 => ⟨kp_wipe k2, ?_⟩⟩
            cases q4 : t env2 with
            | none => rw [q4] at hrest; cases hrest
            | some bb =>
              rw [q4] at hrest
              refine ⟨env2, f2, bb, r2, q4, fun H3 s3 => ?_⟩
              have sB : Same H1 H3 := sA.trans s3
              have hd3 : H3 D = some (.lst vs) := s3 D _ (s2 D _ hd)
              have hr3 : RPs C H3 acc vs fx := hr.st acc (Same.st1 (s2.trans s3) _)
              cases bb with
              | false =>
                refine iteF ⟨hlt, sB, acc, vs, fx, rest, hd3, hr3, nfx, dfx, ffx, Nat.le_succ_of_le hal, hrest, htot⟩
              | true =>
                refine iteT ?_
                dsimp only at hrest
                cases q5 : el env2 with
                | none => rw [q5] at hrest; cases hrest
                | some xm =>
                  cases q6 : pLcL b t el (wipeE own env) (ms.drop (i + 1)) with
                  | none => rw [q5, q6] at hrest; cases hrest
                  | some rest' =>
                    rw [q5, q6] at hrest
                    cases hrest
                    refine ⟨env2, f2, xm, r2.st env2 (Same.st1 s3 _), q5, fun yv H4 fy s4 y4 n4 fr4 => ?_⟩
                    have sC : Same H1 H4 := sB.trans s4
                    have hr4 : RPs C H4 acc vs fx := hr3.st acc (Same.st1 s4 _)
                    refine ⟨vs, s4 D _ hd3, ?_, hlt, ?_, acc ++ [xm], vs ++ [yv], fx ++ fy, rest', upd_same, ?_, ?_, ?_, ?_, by simp; omega, rfl, by simp [htot]⟩
                    · rw [← hr4.len]
                      have : 100000 < sizeLine := by rw [sizeLine_eq]; omega
                      omega
                    · exact fun a o e => by rw [upd_ne (ne_of_none e hD)]; exact sC a o e
                    · have st5 : ∀ g : List Addr, D ∉ g → St1 H4 (upd H4 D (.lst (vs ++ [yv]))) g := fun g hg a o e z => by
                        rw [upd_ne]
                        · exact e
                        · rintro rfl
                          rcases z with z | z
                          · exact hg z
                          · rw [s4 _ _ hd3] at e; cases e; cases z
                      refine RPs.app (hr4.st acc (st5 fx dfx)) ⟨yv, [], fy, [], rfl, by simp, y4.st xm (st5 fy fun hz => ?_), rfl, rfl⟩
                      rw [fr4 D hz] at hd3; cases hd3
                    · exact fresh_app (H := H3) (hr3.owned acc) nfx n4 fr4
                    · rw [List.mem_append]
                      rintro (z | z)
                      · exact dfx z
                      · rw [fr4 D z] at hd3; cases hd3
                    · intro a ha
                      rcases List.mem_append.mp ha with z | z
                      · exact ffx a z
                      · exact sB.free (fr4 a z)
        · left
          have e : i = ms.length := by omega
          subst e
          rw [List.drop_length] at hrest
          cases hrest
          rw [List.append_nil] at htot
          subst htot
          refine ⟨(its _ H' st').1 (Nat.le_refl _), k _ H' (D :: fx) (s1.trans s01) ⟨D, vs, fx, rfl, ⟨hd, rfl⟩, hr⟩ (List.nodup_cons.mpr ⟨dfx, nfx⟩) fun a ha => ?_⟩
          rcases List.mem_cons.mp ha with rfl | ha
          · exact s1.free hD
          · exact s1.free (ffx a ha)
    · cases h

/-! ### .. whose parts may change what is owned -/
def lcLoop (own : List Nat) (b : Bd) (t : STe) (el : SE) : List D → List D → Env → Option (List D × Env)
  | [], acc, env => some (acc, env)
  | m :: r, acc, env => match b m env with
    | some e1 => match t e1 with
      | some (.ok true, e2) => match el e2 with
        | some (.ok x, e3) => lcLoop own b t el r (acc ++ [x]) (wipeE own e3)
        | _ => none
      | some (.ok false, e2) => lcLoop own b t el r acc (wipeE own e2)
      | _ => none
    | none => none
def sLc (own : List Nat) (it : SI) (b : Bd) (t : STe) (el : SE) : SE := fun env => match it env with
  | some (.ok ms, env1) => if ms.length ≤ 100000 then (match lcLoop own b t el ms [] (wipeE own env1) with
    | some (acc, env2) => some (.ok (.lst true acc), restE env1 own env2)
    | none => none) else none
  | some (.ex c m, env1) => some (.ex c m, env1)
  | none => none
def W0 : WXT := fun _ _ _ _ => False
theorem lc_i {C : Kt} {W : WXT} {σ : L2.St} {H : Hp} {Q : VK} {own : List Nat} {it : SI} {b : Bd} {t : STe} {el : SE} (x : tE C W (sLc own it b t el) σ H Q) :
    tLc (tI C W it) (tG C (kpOwn own) b) (tTE C W0 t) (tE C W0 el) own σ H Q := by
  obtain ⟨env, fp, r, nd, h⟩ := x
  refine ⟨env, fp, r, nd, ?_⟩
  unfold sLc at h
  cases q : it env with
  | none => rw [q] at h; exact h.elim
  | some z =>
    obtain ⟨z, env1⟩ := z
    rw [q] at h
    cases z with
    | ex c m => exact h
    | ok ms =>
      intro J H1 ft fe its ow r1 n1 m1 D hD
      dsimp only at h
      split at h
      · rename_i hlen
        cases q2 : lcLoop own b t el ms [] (wipeE own env1) with
        | none => rw [q2] at h; exact h.elim
        | some res =>
          obtain ⟨tot, envR⟩ := res
          rw [q2] at h
          have up : ∀ (xs : List V), ∀ a o, H1 a = some o → upd H1 D (.lst xs) a = some o := fun xs a o e => by rw [upd_ne (ne_of_none e hD)]; exact e
          have ow1 : Owned H1 (ft ++ fe) := ow.app (r1.owned env1)
          obtain ⟨f0, r0, sub0⟩ := er_forget (own := own) (r1.st env1 (Same.st1 (up []) _)) rfl
          refine ⟨fun i m H' => m = ms.length - i ∧ i ≤ ms.length ∧ ∃ acc vs fx envw f, H' D = some (.lst vs) ∧ RPs C H' acc vs fx ∧ ER C H' envw σ f ∧ NoneAt own envw ∧ ((D :: (fx ++ ft)) ++ f).Nodup ∧ Mv H H' fp ((D :: (fx ++ ft)) ++ f) ∧
              St1 H1 H' ft ∧ envw.length = env1.length ∧ acc.length ≤ i ∧ lcLoop own b t el (ms.drop i) acc envw = some (tot, envR),
            ⟨ms.length, by simp, Nat.zero_le _, [], [], [], wipeE own env1, f0, upd_same, ⟨rfl, rfl⟩, r0, wipeE_none env1 own, ?_, ?_, fun a o e _ => up [] a o e, wipeE_len env1 own, Nat.le_refl _, by simpa using q2⟩, ?_⟩
          · have n2 : (ft ++ f0).Nodup := (sub0.append_left ft).nodup n1
            refine List.nodup_cons.mpr ⟨fun hz => ?_, n2⟩
            exact ne_memb hD ow1 ((sub0.append_left ft).subset hz)
          · refine m1.trans ⟨fun a o e _ => up [] a o e, fun a ha => ?_⟩
            rcases List.mem_cons.mp ha with rfl | ha
            · exact .inr hD
            · exact .inl ((sub0.append_left ft).subset ha)
          · rintro i m H' ⟨rfl, hi, acc, vs, fx, envw, f, hd, hr, rw', na, nF, mF, st', hle, hal, hrest⟩
            by_cases hlt : i < ms.length
            · right
              have e1 : ms[i]? = some ms[i] := List.getElem?_eq_getElem hlt
              obtain ⟨_, go⟩ := its i H' st'
              obtain ⟨go, yl⟩ := go _ e1
              rw [List.drop_eq_getElem_cons hlt] at hrest
              unfold lcLoop at hrest
              cases q3 : b ms[i] envw with
              | none => rw [q3] at hrest; cases hrest
              | some env2 =>
                rw [q3] at hrest
                dsimp only at hrest
                refine ⟨go, fun H2 => i + 1 ≤ ms.length ∧ ∃ acc vs fx envw f, H2 D = some (.lst vs) ∧ RPs C H2 acc vs fx ∧ ER C H2 envw σ f ∧ NoneAt own envw ∧ ((D :: (fx ++ ft)) ++ f).Nodup ∧ Mv H H2 fp ((D :: (fx ++ ft)) ++ f) ∧
                    St1 H1 H2 ft ∧ envw.length = env1.length ∧ acc.length ≤ i + 1 ∧ lcLoop own b t el (ms.drop (i + 1)) acc envw = some (tot, envR), fun H2 w => ⟨ms.length - (i + 1), by omega, rfl, w⟩, fun x H2 y => ?_⟩
                obtain ⟨s2, y2⟩ := yl x H2 y
                have oF : Owned H' (D :: (fx ++ ft)) := fun a ha => by
                  rcases List.mem_cons.mp ha with rfl | ha
                  · exact ⟨_, hd, rfl⟩
                  · rcases List.mem_append.mp ha with ha | ha
                    · exact hr.owned acc a ha
                    · obtain ⟨o, e, z⟩ := ow a ha
                      exact ⟨o, st' a o e (.inl ha), z⟩
                have oF2 : Owned H2 (D :: (fx ++ ft)) := fun a ha => by
                  obtain ⟨o, e, z⟩ := oF a ha
                  exact ⟨o, s2 a o e, z⟩
                refine ⟨envw, f, ms[i], [], env2, y2, (er_wipe own na rw').st envw (Same.st1 s2 _), by simpa using (List.nodup_append.mp nF).2.1, q3, fun σ2 f2 r2 n2 s3 k2 => ⟨kp_wipe k2, ?_⟩⟩
                have mv2 : Mv H' H2 f f2 := ⟨fun a o e _ => s2 a o e, fun a ha => .inl (by simpa using s3 a ha)⟩
                have nF2 := mv2.nodup nF oF n2
                have mF2 := mF.trans (mv2.frame nF oF)
                refine ⟨env2, f2, r2, n2, ?_⟩
                -- behind the test
                cases q4 : t env2 with
                | none => rw [q4] at hrest; cases hrest
                | some z =>
                  obtain ⟨z, env3⟩ := z
                  rw [q4] at hrest
                  cases z with
                  | ex c m => cases hrest
                  | ok bb =>
                    intro H3 f3 r3 n3 m3
                    have st3 := m3.st nF2
                    have nF3 := m3.nodup nF2 oF2 n3
                    have mF3 := mF2.trans (m3.frame nF2 oF2)
                    have hd3 : H3 D = some (.lst vs) := st3 D _ (s2 D _ hd) (.inl (by simp))
                    have stx : St1 H2 H3 fx := fun a o e z => st3 a o e (z.imp (fun h => by simp [h]) id)
                    have hr3 : RPs C H3 acc vs fx := (hr.st acc (Same.st1 s2 _)).st acc stx
                    have stt : St1 H1 H3 ft := fun a o e z => st3 a o (s2 a o (st' a o e z)) (z.imp (fun h => by simp [h]) id)
                    have oF3 : Owned H3 (D :: (fx ++ ft)) := fun a ha => by
                      obtain ⟨o, e, z⟩ := oF2 a ha
                      exact ⟨o, st3 a o e (.inl ha), z⟩
                    have len3 : env3.length = env1.length := by
                      have h1 := r3.len
                      have h2 := r2.len
                      have h3 := rw'.len
                      have h4 := k2.1
                      rw [wipe_length] at h4
                      omega
                    cases bb with
                    | false =>
                      refine iteF ⟨hlt, ?_⟩
                      dsimp only at hrest
                      obtain ⟨f4, r4, sub4⟩ := er_forget r3 (kp_wipe k2)
                      exact ⟨acc, vs, fx, _, f4, hd3, hr3, r4, wipeE_none env3 own, (sub4.append_left _).nodup nF3, mF3.less fun a ha => (sub4.append_left _).subset ha, stt, by rw [wipeE_len]; exact len3, Nat.le_succ_of_le hal, hrest⟩
                    | true =>
                      refine iteT ?_
                      dsimp only at hrest
                      refine ⟨env3, f3, r3, n3, ?_⟩
                      cases q5 : el env3 with
                      | none => rw [q5] at hrest; cases hrest
                      | some z =>
                        obtain ⟨z, env4⟩ := z
                        rw [q5] at hrest
                        cases z with
                        | ex c m => cases hrest
                        | ok xm =>
                          dsimp only at hrest
                          intro yv H4 fy f4 y4 r4 n4 m4
                          have st4 := m4.st nF3
                          have nF4 := m4.nodup nF3 oF3 n4
                          have mF4 := mF3.trans (m4.frame nF3 oF3)
                          have hd4 : H4 D = some (.lst vs) := st4 D _ hd3 (.inl (by simp))
                          have hr4 : RPs C H4 acc vs fx := hr3.st acc fun a o e z => st4 a o e (z.imp (fun h => by simp [h]) id)
                          have len4 : env4.length = env1.length := by
                            have h1 := r4.len
                            have h2 := r3.len
                            omega
                          obtain ⟨f5, r5, sub5⟩ := er_forget r4 (kp_wipe k2)
                          have dn : D ∉ fx ++ (ft ++ (fy ++ f4)) := by
                            have := (List.nodup_cons.mp (show (D :: ((fx ++ ft) ++ (fy ++ f4))).Nodup from nF4)).1
                            simpa using this
                          have st5 : ∀ g : List Addr, (∀ a ∈ g, a ∈ fx ++ (ft ++ (fy ++ f4))) → St1 H4 (upd H4 D (.lst (vs ++ [yv]))) g := fun g hg a o e z => by
                            rw [upd_ne]
                            · exact e
                            · rintro rfl
                              rcases z with z | z
                              · exact dn (hg _ z)
                              · rw [hd4] at e; cases e; cases z
                          have up4 : ∀ a o, H4 a = some o → a ≠ D → upd H4 D (.lst (vs ++ [yv])) a = some o := fun a o e z => by rw [upd_ne z]; exact e
                          have nF4' : (D :: ((fx ++ ft) ++ (fy ++ f4))).Nodup := nF4
                          refine ⟨vs, hd4, ?_, hlt, acc ++ [xm], vs ++ [yv], fx ++ fy, wipeE own env4, f5, upd_same, ?_, ?_, wipeE_none env4 own, ?_, ?_, ?_, by rw [wipeE_len]; exact len4, by simp; omega, hrest⟩
                          · rw [← hr4.len]
                            have : 100000 < sizeLine := by rw [sizeLine_eq]; omega
                            omega
                          · refine RPs.app (hr4.st acc (st5 fx fun a ha => by simp [ha])) ⟨yv, [], fy, [], rfl, by simp, y4.st xm (st5 fy fun a ha => by simp [ha]), rfl, rfl⟩
                          · exact r5.st _ (st5 f5 fun a ha => by simp [sub5.subset ha])
                          · have n5 : (D :: ((fx ++ fy) ++ ft ++ f4)).Nodup := by
                              refine (List.Perm.nodup_iff (List.Perm.cons D ?_)).mp nF4'
                              simp only [List.append_assoc]
                              refine List.Perm.append_left fx ?_
                              rw [← List.append_assoc, ← List.append_assoc]
                              exact List.Perm.append_right f4 List.perm_append_comm
                            exact (sub5.append_left (D :: ((fx ++ fy) ++ ft))).nodup n5
                          · refine mF4.trans ⟨fun a o e z => ?_, fun a ha => .inl ?_⟩
                            · by_cases ha : a = D
                              · subst ha
                                have := z (by simp)
                                rw [hd4] at e; cases e; cases this
                              · exact up4 a o e ha
                            · simp only [List.cons_append, List.mem_cons, List.mem_append] at ha ⊢
                              rcases ha with ha | ha | ha
                              · exact .inl ha
                              · rcases ha with (ha | ha) | ha
                                · exact .inr (.inl (.inl ha))
                                · exact .inr (.inr (.inl ha))
                                · exact .inr (.inl (.inr ha))
                              · exact .inr (.inr (.inr (sub5.subset ha)))
                          · intro a o e z
                            have e4 : H4 a = some o := st4 a o (stt a o e z) (z.imp (fun h => by simp [h]) id)
                            refine up4 a o e4 ?_
                            rintro rfl
                            rcases z with z | z
                            · exact dn (by simp [z])
                            · rw [hd4] at e4; cases e4; cases z
            · left
              have e : i = ms.length := by omega
              subst e
              rw [List.drop_length] at hrest
              cases hrest
              have sfix : St1 H1 H' [] := fun a o e z => st' a o e (z.elim (fun h => nomatch h) .inr)
              obtain ⟨f5, r5, sub5⟩ := er_rest r1 sfix hle rw' own
              refine ⟨(its _ H' st').1 (Nat.le_refl _), h (.ref D) H' (D :: fx) f5 ⟨D, vs, fx, rfl, ⟨hd, rfl⟩, hr⟩ r5 ?_ (mF.less fun a ha => ?_)⟩
              · have : ((D :: fx) ++ f5).Sublist ((D :: (fx ++ ft)) ++ f) := by
                  simp only [List.cons_append, List.append_assoc]
                  exact List.Sublist.cons_cons D ((sub5.trans (List.sublist_append_right ft f)).append_left fx)
                exact this.nodup nF
              · simp only [List.cons_append, List.mem_cons, List.mem_append] at ha ⊢
                rcases ha with ha | ha | ha
                · exact .inl ha
                · exact .inr (.inl (.inl ha))
                · exact .inr (.inr (sub5.subset ha))
      · exact h.elim
end T

set_option Elab.async false
set_option linter.all false
set_option maxRecDepth 100000
set_option maxHeartbeats 4000000
namespace T
open PySem PySem.Spec PyProof.Rows L2

/-! ### a list that stands in a slot, written -/
theorem slot_lst {C : Kt} {H : Hp} {env : Env} {σ : L2.St} {fe : List Addr} {i : Nat} {ms : List D} (r : ER C H env σ fe) (q : pVar i env = some (.lst true ms)) :
    ∃ a vs f1 f2 f3, σ[i]? = some (some (.ref a)) ∧ fe = f1 ++ ((a :: f2) ++ f3) ∧ H a = some (.lst vs) ∧ RPs C H ms vs f2 ∧
      ∀ H' ms' vs' g, H' a = some (.lst vs') → RPs C H' ms' vs' g → St1 H H' (f1 ++ f3) → ER C H' (env.set i (some (.lst true ms'))) σ (f1 ++ ((a :: g) ++ f3)) := by
  obtain ⟨v, f1, f2, f3, hv, rfl, x, k⟩ := pVar_get q r
  obtain ⟨a, vs, f2', rfl, ⟨h1, rfl⟩, h2⟩ := x
  refine ⟨a, vs, f1, f2', f3, hv, rfl, h1, h2, fun H' ms' vs' g e y s => ?_⟩
  have := k H' (some (.lst true ms')) (some (.ref a)) (a :: g) s ⟨_, rfl, a, vs', g, rfl, ⟨e, rfl⟩, y⟩
  rw [set_self hv] at this
  exact this
/-- writing at a tracked list leaves what does not own it -/
theorem st_upd {H : Hp} {a : Addr} {vs vs' : List V} {f : List Addr} (h : H a = some (.lst vs)) (n : a ∉ f) : St1 H (upd H a (.lst vs')) f := fun b o e z => by
  rw [upd_ne]
  · exact e
  · rintro rfl
    rcases z with z | z
    · exact n z
    · rw [h] at e; cases e; cases z
theorem mv_upd {H : Hp} {a : Addr} {vs vs' : List V} {f : List Addr} (h : H a = some (.lst vs)) (n : a ∈ f) : Mv H (upd H a (.lst vs')) f f where
  keep := fun b o e z => by
    rw [upd_ne]
    · exact e
    · rintro rfl
      have := z n
      rw [h] at e; cases e; cases this
  sub := fun _ z => .inl z
theorem nd_a {a : Addr} {g1 g2 g3 fm : List Addr} (n : (fm ++ (g1 ++ ((a :: g2) ++ g3))).Nodup) : a ∉ g2 ∧ a ∉ fm ∧ a ∉ g1 ++ g3 ∧ (g2 ++ fm).Nodup := by
  simp only [List.nodup_append, List.mem_append, List.nodup_cons, List.cons_append, List.mem_cons] at n ⊢
  grind
theorem nd_b {a : Addr} {g1 g2 g3 fm fx g' : List Addr} (n : (fm ++ (g1 ++ ((a :: g2) ++ g3))).Nodup) (ns : (fx ++ g').Nodup) (su : ∀ b ∈ fx ++ g', b ∈ g2 ++ fm) : (fx ++ (g1 ++ ((a :: g') ++ g3))).Nodup := by
  simp only [List.nodup_append, List.mem_append, List.nodup_cons, List.cons_append, List.mem_cons] at n ns su ⊢
  grind
theorem nd_c {a b : Addr} {g1 g2 g3 fm fx g' : List Addr} (su : ∀ b ∈ fx ++ g', b ∈ g2 ++ fm) (h : b ∈ fx ++ (g1 ++ ((a :: g') ++ g3))) : b ∈ fm ++ (g1 ++ ((a :: g2) ++ g3)) := by
  simp only [List.mem_append, List.cons_append, List.mem_cons] at h su ⊢
  grind
theorem nd_d {g1 g2 g3 : List Addr} (n : (g1 ++ (g2 ++ g3)).Nodup) : (g2 ++ (g1 ++ g3)).Nodup := by
  simp only [List.nodup_append, List.mem_append] at n ⊢
  grind
theorem nd_e {b : Addr} {g1 g2 g3 : List Addr} (h : b ∈ g2 ++ (g1 ++ g3)) : b ∈ g1 ++ (g2 ++ g3) := by
  simp only [List.mem_append] at h ⊢
  grind
def isL : D → Bool
  | .lst _ _ => true
  | _ => false
theorem isL_ty {C : Kt} {H : Hp} {m : D} {v : V} {f : List Addr} (x : RP C H m v f) (h : isL m = true) : tyV C.K "list" v H := by
  cases m with
  | lst o ms =>
    obtain ⟨a, vs, g, rfl, h1, h2⟩ := x
    exact .inl ⟨rfl, vs, h1.seqL⟩
  | _ => cases h
/-- a method of a list in slot i, its argument evaluated first: f the argument, the list's items -> what comes out, the items behind -/
def sLstM (i : Nat) (s : SE) (f : List D → D → Option (D × List D)) : SE := fun env => match pVar i env with
  | some m0 => if isL m0 then (match s env with
    | some (.ok m, env1) => match pVar i env1 with
      | some (.lst true ms) => match f ms m with
        | some (x, ms') => some (.ok x, env1.set i (some (.lst true ms')))
        | none => none
      | _ => none
    | some (.ex c m, env1) => some (.ex c m, env1)
    | none => none) else none
  | none => none
/-- what f must say of the built-in method r -/
def LstM (C : Kt) (r : V → List V → Hp → VK → Prop) (f : List D → D → Option (D × List D)) : Prop := ∀ (H : Hp) (a : Addr) (vs : List V) (ms : List D) (g : List Addr) (m : D) (v : V) (fm : List Addr) (x : D) (ms' : List D),
  H a = some (.lst vs) → RPs C H ms vs g → RP C H m v fm → a ∉ g → a ∉ fm → (g ++ fm).Nodup → f ms m = some (x, ms') →
  ∀ Q : VK, (∀ w vs' g' fx, RPs C (upd H a (.lst vs')) ms' vs' g' → RP C (upd H a (.lst vs')) x w fx → (fx ++ g').Nodup → (∀ b ∈ fx ++ g', b ∈ g ++ fm) → Q w (upd H a (.lst vs'))) → r (.ref a) [v] H Q
theorem lstM_i {C : Kt} {W : WXT} {σ : L2.St} {H : Hp} {Q : VK} {i : Nat} {s : SE} {r : V → List V → Hp → VK → Prop} {f : List D → D → Option (D × List D)} (hf : LstM C r f) (x : tE C W (sLstM i s f) σ H Q) :
    tBM C.K "list" r (tVar i) (tCons (tE C W s) tNil) σ H Q := by
  obtain ⟨env, fp, e, nd, k⟩ := x
  unfold sLstM at k
  split at k
  · rename_i m0 q0
    split at k
    · rename_i hL
      obtain ⟨v0, f1, f2, f3, hv0, _, x0, _⟩ := pVar_get q0 e
      refine ⟨v0, hv0, isL_ty x0 hL, env, fp, e, nd, ?_⟩
      cases q : s env with
      | none => rw [q] at k; exact k.elim
      | some z =>
        obtain ⟨z, env1⟩ := z
        rw [q] at k
        cases z with
        | ex c m => exact k
        | ok m =>
          intro v H1 fm fe x1 r1 n1 m1
          dsimp only at k
          split at k
          · rename_i ms q1
            obtain ⟨a, vs, g1, g2, g3, hv, rfl, ha, hr, kk⟩ := slot_lst r1 q1
            rw [hv0] at hv
            cases hv
            cases q2 : f ms m with
            | none => rw [q2] at k; exact k.elim
            | some p =>
              obtain ⟨xo, ms'⟩ := p
              rw [q2] at k
              have na := nd_a n1
              refine hf H1 a vs ms g2 m v fm xo ms' ha hr x1 na.1 na.2.1 na.2.2.2 q2 Q fun w vs' g' fx y1 y2 nsu su => ?_
              have r2 := kk (upd H1 a (.lst vs')) ms' vs' g' upd_same y1 (st_upd ha na.2.2.1)
              have m2 : Mv H (upd H1 a (.lst vs')) fp (fm ++ (g1 ++ ((a :: g2) ++ g3))) := m1.trans (mv_upd ha (by simp))
              exact k w _ fx _ y2 r2 (nd_b n1 nsu su) (m2.less fun b hb => nd_c su hb)
          · exact k.elim
    · exact k.elim
  · exact k.elim
def fAppend (ms : List D) (m : D) : Option (D × List D) := if ms.length ≤ 1000000 then some (.non, ms ++ [m]) else none
theorem lm_append {C : Kt} : LstM C rAppend fAppend := by
  intro H a vs ms g m v fm x ms' ha hr hm nag nam nd hf Q k
  unfold fAppend at hf
  split at hf
  · rename_i hl
    cases hf
    refine ⟨a, vs, v, rfl, rfl, ha, ?_, ?_⟩
    · rw [← hr.len]
      have : 1000000 < sizeLine := by rw [sizeLine_eq]; omega
      omega
    · refine k .non (vs ++ [v]) (g ++ fm) [] ?_ ⟨rfl, rfl⟩ nd fun b hb => hb
      exact RPs.app (hr.st ms (st_upd ha nag)) ⟨v, [], fm, [], rfl, by simp, hm.st m (st_upd ha nam), rfl, rfl⟩
  · cases hf
theorem RPs.erase {C : Kt} {H : Hp} : ∀ {ms : List D} {vs : List V} {g : List Addr} {k : Nat} {m : D}, RPs C H ms vs g → ms[k]? = some m → ∃ v g1 g2 g3, vs[k]? = some v ∧ g = g1 ++ (g2 ++ g3) ∧ RP C H m v g2 ∧ RPs C H (ms.eraseIdx k) (vs.eraseIdx k) (g1 ++ g3)
  | [], _, _, _, _, _, e => by simp at e
  | m :: ms, _, _, 0, m', h, e => by
    obtain ⟨v, vr, f1, f2, rfl, rfl, h1, h2⟩ := h
    have e : m = m' := by simpa using e
    subst e
    exact ⟨v, [], f1, f2, rfl, rfl, h1, h2⟩
  | m :: ms, _, _, k + 1, m', h, e => by
    obtain ⟨v, vr, f1, f2, rfl, rfl, h1, h2⟩ := h
    obtain ⟨v', g1, g2, g3, e1, rfl, x, y⟩ := RPs.erase h2 (by simpa using e)
    exact ⟨v', f1 ++ g1, g2, g3, by simpa using e1, by simp, x, v, _, f1, g1 ++ g3, rfl, by simp, h1, y⟩
def fPopAt (ms : List D) (m : D) : Option (D × List D) := match m with
  | .int i => if -(2 ^ 63) ≤ i ∧ i < 2 ^ 63 then (match seqIndex? i ms.length with
    | some k => match ms[k]? with
      | some x => some (x, ms.eraseIdx k)
      | none => none
    | none => none) else none
  | _ => none
theorem lm_popAt {C : Kt} : LstM C rPopAt fPopAt := by
  intro H a vs ms g m v fm x ms' ha hr hm nag nam nd hf Q k
  unfold fPopAt at hf
  split at hf
  · rename_i i
    split at hf
    · rename_i hi
      split at hf
      · rename_i j hj
        split at hf
        · rename_i y hy
          cases hf
          obtain ⟨rfl, rfl⟩ := hm
          obtain ⟨w, g1, g2, g3, hw, rfl, x1, r1⟩ := hr.erase hy
          refine ⟨a, vs, i, j, w, rfl, rfl, ha, hi.1, hi.2, by rw [← hr.len]; exact hj, hw, ?_⟩
          have n1 : a ∉ g1 ++ g3 := fun h => nag (nd_e (List.mem_append_right _ h))
          have n2 : a ∉ g2 := fun h => nag (nd_e (List.mem_append_left _ h))
          rw [List.append_nil] at nd
          exact k w (vs.eraseIdx j) (g1 ++ g3) g2 (r1.st _ (st_upd ha n1)) (x1.st _ (st_upd ha n2)) (nd_d nd) fun b hb => by rw [List.append_nil]; exact nd_e hb
        · cases hf
      · cases hf
    · cases hf
  · cases hf

/-- list.extend with a list that is only read -/
def rExtR : V → List V → Hp → VK → Prop := fun x vs H Q => ∃ l b xs zs, x = .ref l ∧ vs = [.ref b] ∧ H l = some (.lst xs) ∧ Rd H b (.lst zs) ∧ xs.length + zs.length ≤ sizeLine ∧ Q .non (upd H l (.lst (xs ++ zs)))
theorem mt_extR {X : Cx} : MtM X "list.extend" rExtR := by
  intro pins s σ H x vs v us Q I rx rv h
  obtain ⟨l, b, xs, zs, rfl, rfl, hH, hB, hz, q⟩ := h
  rcases hB with hB | ⟨ob, hB⟩
  · exact mt_extend pins s σ H _ _ v us Q I rx rv ⟨l, b, xs, zs, rfl, rfl, hH, hB, hz, q⟩
  · cases rx
    obtain ⟨u, rfl, ru⟩ := rv.one
    cases ru
    obtain ⟨z, its, n, r, hl, e⟩ := I.lstM hH
    obtain ⟨z2, its2, n2, r2, e2⟩ := Inv.lstR I (.inr ⟨ob, hB⟩)
    have hl2 := r2.length
    have hsz : its.toArray.size + its2.toArray.size ≤ sizeLine := by rw [List.size_toArray, List.size_toArray]; omega
    have hlong : ¬ (!its.toArray.isEmpty && Builtin.List.listTooLong (its.toArray.size + its2.toArray.size)) = true := by
      rw [notLongL hsz, Bool.and_false]
      exact Bool.false_ne_true
    refine call_meets F.slot_list_extend ⟨_, e, rfl⟩ F.entry_list_extend (F.args_list_extend_2 _ _)
      (AutoSeq1.list_extend_list_list_0 l its.toArray n b its2.toArray n2 hlong (by rw [List.size_toArray]; omega) (by omega)) ⟨e, e2, ?_⟩
    refine ⟨.non, _, I.lset (its' := its ++ its2) hH e (by simp) (r.append r2) ?_, rfl, q⟩
    rw [List.length_append]; omega
def fExtend (ms : List D) (m : D) : Option (D × List D) := match m with
  | .lst _ ns => if ms.length + ns.length ≤ sizeLine then (if fzs ns then some (.non, ms ++ ns) else none) else none
  | _ => none
theorem lm_extend {C : Kt} : LstM C rExtR fExtend := by
  intro H a vs ms g m v fm x ms' ha hr hm nag nam nd hf Q k
  unfold fExtend at hf
  split at hf
  · split at hf
    · rename_i o ns hl
      split at hf
      · rename_i hz
        cases hf
        obtain ⟨b, ws, g2, rfl, a2, r2⟩ := hm
        have r3 := r2.fzAll hz
        refine ⟨a, b, vs, ws, rfl, rfl, ha, a2.rd, by rw [← hr.len, ← r3.len]; exact hl, ?_⟩
        refine k .non (vs ++ ws) (g ++ []) [] ?_ ⟨rfl, rfl⟩ (by simpa using (List.nodup_append.mp nd).1) fun b hb => by simp at hb; simp [hb]
        exact RPs.app (hr.st ms (st_upd ha nag)) (r3.st ns (st_upd ha (by simp)))
      · cases hf
    · cases hf
  · cases hf
/-- x[k] = e, the list in slot i -/
def sSetIx (i : Nat) (s : SE) (ix : SV) : SS := fun env => match s env with
  | some (.ok m, env1) => match pVar i env1, ix env1 with
    | some (.lst true ms), some (.int k) => match ixN ms.length k with
      | some j => if fzs ms then some (.nx, env1.set i (some (.lst true (ms.set j m)))) else none
      | none => none
    | _, _ => none
  | some (.ex c m, env1) => some (.ex c m, env1)
  | none => none
theorem RPs.set {C : Kt} {H : Hp} {m : D} {v : V} {f : List Addr} (x : RP C H m v f) : ∀ {ms : List D} {vs : List V} {j : Nat}, RPs C H ms vs [] → j < ms.length → RPs C H (ms.set j m) (vs.set j v) f
  | [], _, _, _, h => by simp at h
  | m' :: ms, _, 0, h, _ => by
    obtain ⟨v', vr, f1, f2, rfl, e, h1, h2⟩ := h
    obtain ⟨rfl, rfl⟩ := List.append_eq_nil_iff.mp e.symm
    exact ⟨v, vr, f, [], rfl, by simp, x, h2⟩
  | m' :: ms, _, j + 1, h, hj => by
    obtain ⟨v', vr, f1, f2, rfl, e, h1, h2⟩ := h
    obtain ⟨rfl, rfl⟩ := List.append_eq_nil_iff.mp e.symm
    exact ⟨v', _, [], f, rfl, rfl, h1, RPs.set x h2 (by simpa using hj)⟩
theorem setIx_i {C : Kt} {kp : Nat → Bool} {W : WXT} {σ : L2.St} {H : Hp} {Z : Ends} {i : Nat} {s : SE} {ix : SV} (x : tS C kp W (sSetIx i s ix) Z σ H) : tAsg (tE C W s) (gSub (tVar i) (tV C ix) rSetL) Z σ H := by
  obtain ⟨env, fp, r, nd, h⟩ := x
  unfold sSetIx at h
  refine e_in (Z := Z) (kp := kp) r nd (fun c m e2 q => ?_) (fun m e2 q => ?_) fun q => ?_
  · rw [q] at h; exact h
  · rw [q] at h
    intro v H2 fm f2 x2 r2 n2 mv
    dsimp only at h
    split at h
    · rename_i ms k q1 q2
      split at h
      · rename_i j hj
        split at h
        · rename_i hz
          obtain ⟨a, vs, g1, g2, g3, hv, rfl, ha, hr, kk⟩ := slot_lst r2 q1
          have hz' := hr.fz ms hz
          subst hz'
          refine ⟨_, hv, e2, _, .int k, r2, q2, fun iv H3 fk s3 ⟨e3, _⟩ => ?_⟩
          subst e3
          have ha3 := s3 a _ ha
          have na := nd_a n2
          have hj2 : j < ms.length := by
            unfold ixN at hj
            split at hj <;> split at hj <;> cases hj <;> omega
          refine ⟨a, vs, k, j, rfl, rfl, ha3, by rw [← hr.len]; exact hj, ?_⟩
          have hr3 : RPs C (upd H3 a (.lst (vs.set j v))) ms vs [] := (hr.st ms (Same.st1 s3 _)).st ms (st_upd ha3 (by simp))
          have x3 : RP C (upd H3 a (.lst (vs.set j v))) m v fm := (x2.st m (Same.st1 s3 _)).st m (st_upd ha3 na.2.1)
          have st : St1 H2 (upd H3 a (.lst (vs.set j v))) (g1 ++ g3) := fun b o e z => st_upd ha3 na.2.2.1 b o (s3 b o e) z
          have r4 := kk _ (ms.set j m) (vs.set j v) fm upd_same (hr3.set x3 hj2) st
          have m3 : Mv H (upd H3 a (.lst (vs.set j v))) fp (fm ++ (g1 ++ ((a :: []) ++ g3))) := (mv.trans ((Mv.same (fm := []) s3 noneIn).less fun b hb => hb)).trans (mv_upd ha3 (by simp))
          refine h σ _ _ r4 (nd_b (fx := []) n2 (by simpa using na.2.2.2) (by simp)) (m3.less fun b hb => nd_c (fx := []) (g' := fm) (by simp) hb) (Kp.refl kp σ)
        · exact h.elim
      · exact h.elim
    · exact h.elim
  · rw [q] at h; exact h
/-- (a, b) = (e1, e2): plain local names -/
def sPar (is : List Nat) (a : SA) : SS := fun env => match a env with
  | some (.ok as, env1) => match valsA as with
    | some ms => if ms.length = is.length ∧ is.all (fun i => decide (i < env1.length)) = true then some (.nx, (is.zip ms).foldl (fun e p => e.set p.1 (some p.2)) env1) else none
    | none => none
  | some (.ex c m, env1) => some (.ex c m, env1)
  | none => none
theorem put_all {C : Kt} {H : Hp} : ∀ (is : List Nat) (ms : List D) {vs : List V} {fm fe : List Addr} {env : Env} {σ : L2.St}, ms.length = is.length → is.all (fun i => decide (i < env.length)) = true → RPs C H ms vs fm → ER C H env σ fe → (fm ++ fe).Nodup →
    ∃ f, ER C H ((is.zip ms).foldl (fun e p => e.set p.1 (some p.2)) env) ((is.zip vs).foldl (fun s p => s.set p.1 (some p.2)) σ) f ∧ f.Nodup ∧ ∀ b ∈ f, b ∈ fm ++ fe
  | [], ms, _, fm, fe, env, σ, hl, _, x, r, nd => by
    exact ⟨fe, r, (List.nodup_append.mp nd).2.1, fun b hb => List.mem_append_right _ hb⟩
  | i :: is, [], _, _, _, _, _, hl, _, _, _, _ => by simp at hl
  | i :: is, m :: ms, _, _, fe, env, σ, hl, hi, x, r, nd => by
    obtain ⟨v, vr, f1, f2, rfl, rfl, x1, x2⟩ := x
    rw [List.all_cons, Bool.and_eq_true] at hi
    have n1 : (f1 ++ fe).Nodup ∧ ∀ a ∈ f2, a ∉ f1 ++ fe := by
      simp only [List.nodup_append, List.mem_append] at nd ⊢
      grind
    obtain ⟨f3, r3, n3, s3⟩ := r.put (of_decide_eq_true hi.1) x1 n1.1
    have n4 : (f2 ++ f3).Nodup := by
      refine List.nodup_append.mpr ⟨?_, n3, fun a ha b hb => ?_⟩
      · simp only [List.nodup_append, List.mem_append] at nd
        grind
      · rintro rfl
        exact n1.2 a ha (s3 a hb)
    obtain ⟨f, r5, n5, s5⟩ := put_all is ms (by simpa using hl) (by simpa using hi.2) x2 r3 n4
    refine ⟨f, r5, n5, fun b hb => ?_⟩
    have h1 := s5 b hb
    rcases List.mem_append.mp h1 with h1 | h1
    · exact List.mem_append_left _ (List.mem_append_right _ h1)
    · have := s3 b h1
      simp only [List.mem_append] at this ⊢
      grind
theorem kp_all {kp : Nat → Bool} : ∀ (is : List Nat) (vs : List V) (σ : L2.St), (∀ i ∈ is, kp i = false) → Kp kp σ ((is.zip vs).foldl (fun s p => s.set p.1 (some p.2)) σ)
  | [], _, σ, _ => Kp.refl kp σ
  | i :: is, [], σ, _ => Kp.refl kp σ
  | i :: is, v :: vs, σ, h => (Kp.set (h i (by simp))).trans (kp_all is vs _ fun j hj => h j (List.mem_cons_of_mem _ hj))
theorem par_core {C : Kt} {kp : Nat → Bool} {W : WXT} {σ : L2.St} {H : Hp} {Z : Ends} {is : List Nat} {a : SA} (hk : ∀ i ∈ is, kp i = false) (x : tS C kp W (sPar is a) Z σ H) :
    tA C W a σ H fun vs H1 => vs.length = is.length ∧ Z.nx ((is.zip vs).foldl (fun s p => s.set p.1 (some p.2)) σ) H1 := by
  obtain ⟨env, fp, r, nd, h⟩ := x
  refine ⟨env, fp, r, nd, ?_⟩
  unfold sPar at h
  cases q : a env with
  | none => rw [q] at h; exact h.elim
  | some z =>
    obtain ⟨z, env1⟩ := z
    rw [q] at h
    cases z with
    | ex c m => exact fun cls d H' fm fe y r' n' mv => h cls d σ H' fm fe y r' n' mv (Kp.refl kp σ)
    | ok as =>
      intro vs H1 fa fe x1 r1 n1 m1
      dsimp only at h
      split at h
      · rename_i ms q2
        split at h
        · rename_i hc
          have y := valsA_ok as x1 q2
          obtain ⟨f, r5, n5, s5⟩ := put_all is ms hc.1 hc.2 y r1 n1
          exact ⟨by rw [← y.len]; exact hc.1, h _ H1 f r5 n5 (m1.less s5) (kp_all is vs σ hk)⟩
        · exact h.elim
      · exact h.elim
theorem tA_mono {C : Kt} {W : WXT} {s : SA} {σ : L2.St} {H : Hp} {Q Q' : List V → Hp → Prop} (h : tA C W s σ H Q) (k : ∀ v H', Q v H' → Q' v H') : tA C W s σ H Q' := by
  obtain ⟨env, fp, e, nd, h⟩ := h
  refine ⟨env, fp, e, nd, ?_⟩
  cases q : s env with
  | none => rw [q] at h; exact h
  | some z =>
    obtain ⟨z, env2⟩ := z
    rw [q] at h
    cases z with
    | ok m => exact fun v H2 fm fe2 x r2 n2 mv2 => k v H2 (h v H2 fm fe2 x r2 n2 mv2)
    | ex c m => exact h
theorem par2_i {C : Kt} {kp : Nat → Bool} {W : WXT} {σ : L2.St} {H : Hp} {Z : Ends} {i j : Nat} {a : SA} (hi : kp i = false) (hj : kp j = false) (x : tS C kp W (sPar [i, j] a) Z σ H) : tPar i j (tA C W a) Z σ H :=
  tA_mono (par_core (fun k hk => by rcases List.mem_cons.mp hk with rfl | hk; exact hi; rw [List.mem_singleton.mp hk]; exact hj) x) fun vs H1 ⟨hl, h⟩ => by
    match vs, hl with
    | [v, w], _ => exact ⟨v, w, rfl, h⟩
theorem par3_i {C : Kt} {kp : Nat → Bool} {W : WXT} {σ : L2.St} {H : Hp} {Z : Ends} {i j l : Nat} {a : SA} (hi : kp i = false) (hj : kp j = false) (hl : kp l = false) (x : tS C kp W (sPar [i, j, l] a) Z σ H) : tPar3 i j l (tA C W a) Z σ H :=
  tA_mono (par_core (fun k hk => by
    rcases List.mem_cons.mp hk with rfl | hk
    · exact hi
    · rcases List.mem_cons.mp hk with rfl | hk
      · exact hj
      · rw [List.mem_singleton.mp hk]; exact hl) x) fun vs H1 ⟨hl, h⟩ => by
    match vs, hl with
    | [u, v, w], _ => exact ⟨u, v, w, rfl, h⟩
end T

set_option Elab.async false
set_option linter.all false
set_option maxRecDepth 100000
set_option maxHeartbeats 4000000
namespace T
open PySem PySem.Spec PyProof.Rows L2

abbrev kt (X : Cx) : Kt := ⟨X.K, X.mg⟩
/-- the built-ins are what they are -/
structure Blt (mg : Str → Option Value) : Prop where
  len : mg "len" = none
  int : mg "int" = none
  abs : mg "abs" = none
  str : mg "str" = none
  tuple : mg "tuple" = none
  list : mg "list" = none
  range : mg "range" = none
  zip : mg "zip" = none
  enumerate : mg "enumerate" = none
  max : mg "max" = none
  min : mg "min" = none
  sum : mg "sum" = none
  all : mg "all" = none
  any : mg "any" = none
  sorted : mg "sorted" = none
  set : mg "set" = none
  isinstance : mg "isinstance" = none
  repr : mg "repr" = none
  bool : mg "bool" = none
section
variable {X : Cx} {W : WXT} {e a b : Expr} {pos : Pos} {p q : SV} {sa sb : SE}
/-! ### constants, names -/
def pK (m : D) : SV := fun _ => some m
theorem k_u {C : Kt} {σ : L2.St} {H : Hp} {Q : VK} {m : D} {v : V} (h : ∀ H, RP C H m v []) (x : tU C (pK m) σ H Q) : tC v σ H Q := by
  obtain ⟨env, fp, m', r, e, k⟩ := x
  cases e
  exact k v H [] (Same.refl H) (h H) List.nodup_nil noneIn
theorem U_int {i j pos} : PE X (.Constant (.int i) j pos) (tU (kt X) (pK (.int i))) := pe_imp pe_int fun _ _ _ => k_u fun _ => ⟨rfl, rfl⟩
theorem U_str {x j pos} : PE X (.Constant (.str x) j pos) (tU (kt X) (pK (.str x))) := pe_imp pe_str fun _ _ _ => k_u fun _ => ⟨rfl, rfl⟩
theorem U_bl {b j pos} : PE X (.Constant (.bool b) j pos) (tU (kt X) (pK (.bl b))) := pe_imp pe_bl fun _ _ _ => k_u fun _ => ⟨rfl, rfl⟩
theorem U_non {j pos} : PE X (.Constant .none j pos) (tU (kt X) (pK .non)) := pe_imp pe_non fun _ _ _ => k_u fun _ => ⟨rfl, rfl⟩
theorem V_var {i : Nat} (h : PE X e (tVar i)) : PE X e (tV (kt X) (pVar i)) := vVar i h
theorem U_var {i : Nat} (h : PE X e (tVar i)) : PE X e (tU (kt X) (pFz (pVar i))) := uOfV (vVar i h)
/-- a module's constant -/
theorem U_glob {x : Str} {v : V} {u : Value} {m : D} (hg : Gl X x) (hm : X.mg x = some u) (r : RelV v u) (h : ∀ H, RP (kt X) H m v []) (hd : (x == ("__debug__" : Str)) = false := by decide) : PE X (.Name x pos) (tU (kt X) (pK m)) := pe_imp (pe_glob hg hm r hd) fun _ _ _ => k_u h
/-! ### operations -/
theorem U_op {op : Operator} {r : R2} {f : D → D → Option D} (ho : OpR X (binaryOp op) r) (h : Op2 (kt X) r f) (ha : PE X a (tV (kt X) p)) (hb : PE X b (tV (kt X) q)) : PE X (.BinOp a op b pos) (tU (kt X) (p2 f p q)) := pe_imp (pe_op ho ha hb) fun _ _ _ => op_vv h
theorem E_opEE {op : Operator} {r : R2} {f : D → D → Option D} (ho : OpR X (binaryOp op) r) (h : Op2 (kt X) r f) (ha : PE X a (tE (kt X) W sa)) (hb : PE X b (tE (kt X) W sb)) : PE X (.BinOp a op b pos) (tE (kt X) W (s2 f sa sb)) := pe_imp (pe_op ho ha hb) fun _ _ _ => op_ee h
theorem E_opEV {op : Operator} {r : R2} {f : D → D → Option D} (ho : OpR X (binaryOp op) r) (h : Op2 (kt X) r f) (ha : PE X a (tE (kt X) W sa)) (hb : PE X b (tV (kt X) q)) : PE X (.BinOp a op b pos) (tE (kt X) W (s2V f sa q)) := pe_imp (pe_op ho ha hb) fun _ _ _ => op_ev h
theorem E_opNE {op : Operator} {r : R2} {f : D → D → Option D} {i : Nat} (ho : OpR X (binaryOp op) r) (h : Op2 (kt X) r f) (ha : PE X a (tVar i)) (hb : PE X b (tE (kt X) W sb)) : PE X (.BinOp a op b pos) (tE (kt X) W (s2N f i sb)) := pe_imp (pe_op ho ha hb) fun _ _ _ => op_ne h
theorem U_cmp {op : CmpOp} {r : R2} {f : D → D → Option D} (ho : OpR X (compareOp op) r) (h : Op2 (kt X) r f) (hm : behindInMarks op b = false) (ha : PE X a (tV (kt X) p)) (hb : PE X b (tV (kt X) q)) : PE X (.Compare a [op] [b] pos) (tU (kt X) (p2 f p q)) := pe_imp (pe_cmpR ho ha hb hm) fun _ _ _ => op_vv h
theorem E_cmpEE {op : CmpOp} {r : R2} {f : D → D → Option D} (ho : OpR X (compareOp op) r) (h : Op2 (kt X) r f) (hm : behindInMarks op b = false) (ha : PE X a (tE (kt X) W sa)) (hb : PE X b (tE (kt X) W sb)) : PE X (.Compare a [op] [b] pos) (tE (kt X) W (s2 f sa sb)) := pe_imp (pe_cmpR ho ha hb hm) fun _ _ _ => op_ee h
theorem E_cmpEV {op : CmpOp} {r : R2} {f : D → D → Option D} (ho : OpR X (compareOp op) r) (h : Op2 (kt X) r f) (hm : behindInMarks op b = false) (ha : PE X a (tE (kt X) W sa)) (hb : PE X b (tV (kt X) q)) : PE X (.Compare a [op] [b] pos) (tE (kt X) W (s2V f sa q)) := pe_imp (pe_cmpR ho ha hb hm) fun _ _ _ => op_ev h
theorem E_cmpNE {op : CmpOp} {r : R2} {f : D → D → Option D} {i : Nat} (ho : OpR X (compareOp op) r) (h : Op2 (kt X) r f) (hm : behindInMarks op b = false) (ha : PE X a (tVar i)) (hb : PE X b (tE (kt X) W sb)) : PE X (.Compare a [op] [b] pos) (tE (kt X) W (s2N f i sb)) := pe_imp (pe_cmpR ho ha hb hm) fun _ _ _ => op_ne h
/-- a comparison as a test -/
def qB (p : SV) : STu := fun env => match p env with
  | some (.bl b) => some b
  | _ => none
def qBE (s : SE) : STe := fun env => match s env with
  | some (.ok (.bl b), env1) => some (.ok b, env1)
  | some (.ex c m, env1) => some (.ex c m, env1)
  | _ => none
theorem tt_u {C : Kt} {σ : L2.St} {H : Hp} {Q : Bool → Hp → Prop} {t : TE} (h : ∀ Q, tU C p σ H Q → t σ H Q) (x : tTU C (qB p) σ H Q) : tTest t σ H Q := by
  obtain ⟨env, fp, b, r, e, k⟩ := x
  unfold qB at e
  split at e
  · rename_i b' q
    cases e
    exact h _ ⟨env, fp, _, r, q, fun v H' fm s ⟨e, _⟩ _ _ => ⟨b, e, k H' s⟩⟩
  · cases e
theorem tt_e {C : Kt} {σ : L2.St} {H : Hp} {Q : Bool → Hp → Prop} {t : TE} (h : ∀ Q, tE C W sa σ H Q → t σ H Q) (x : tTE C W (qBE sa) σ H Q) : tTest t σ H Q := by
  obtain ⟨env, fp, r, nd, k⟩ := x
  refine h _ ⟨env, fp, r, nd, ?_⟩
  unfold qBE at k
  cases q : sa env with
  | none => rw [q] at k; exact k.elim
  | some z =>
    obtain ⟨z, env1⟩ := z
    rw [q] at k
    cases z with
    | ex c m => exact k
    | ok m =>
      cases m with
      | bl b => exact fun v H' fm fe ⟨e, e2⟩ r n mv => ⟨b, e, k H' fe r (List.nodup_append.mp n).2.1 (mv.less fun b hb => List.mem_append_right _ hb)⟩
      | _ => exact k.elim
theorem TU_cmp {op : CmpOp} {r : R2} {f : D → D → Option D} (ho : OpR X (compareOp op) r) (h : Op2 (kt X) r f) (hm : behindInMarks op b = false) (ha : PE X a (tV (kt X) p)) (hb : PE X b (tV (kt X) q)) : PT X (.Compare a [op] [b] pos) (tTU (kt X) (qB (p2 f p q))) := pt_imp (pt_cmpR ho ha hb hm) fun _ _ _ => tt_u fun _ => op_vv h
theorem TE_cmpEE {op : CmpOp} {r : R2} {f : D → D → Option D} (ho : OpR X (compareOp op) r) (h : Op2 (kt X) r f) (hm : behindInMarks op b = false) (ha : PE X a (tE (kt X) W sa)) (hb : PE X b (tE (kt X) W sb)) : PT X (.Compare a [op] [b] pos) (tTE (kt X) W (qBE (s2 f sa sb))) := pt_imp (pt_cmpR ho ha hb hm) fun _ _ _ => tt_e fun _ => op_ee h
theorem TE_cmpEV {op : CmpOp} {r : R2} {f : D → D → Option D} (ho : OpR X (compareOp op) r) (h : Op2 (kt X) r f) (hm : behindInMarks op b = false) (ha : PE X a (tE (kt X) W sa)) (hb : PE X b (tV (kt X) q)) : PT X (.Compare a [op] [b] pos) (tTE (kt X) W (qBE (s2V f sa q))) := pt_imp (pt_cmpR ho ha hb hm) fun _ _ _ => tt_e fun _ => op_ev h
theorem TE_cmpNE {op : CmpOp} {r : R2} {f : D → D → Option D} {i : Nat} (ho : OpR X (compareOp op) r) (h : Op2 (kt X) r f) (hm : behindInMarks op b = false) (ha : PE X a (tVar i)) (hb : PE X b (tE (kt X) W sb)) : PT X (.Compare a [op] [b] pos) (tTE (kt X) W (qBE (s2N f i sb))) := pt_imp (pt_cmpR ho ha hb hm) fun _ _ _ => tt_e fun _ => op_ne h
/-- any other expression as a test -/
theorem TU_tru (ha : PE X a (tV (kt X) p)) (he : ∀ whole, isTrue a X.env whole = (do let v ← whole; standAt a.pos; holding [v] (truthy v)) := by intro _; rfl) : PT X a (tTU (kt X) (qT p)) := pt_imp (pt_truth ha he) fun _ _ _ => tru_v
theorem TE_tru (ha : PE X a (tE (kt X) W sa)) (he : ∀ whole, isTrue a X.env whole = (do let v ← whole; standAt a.pos; holding [v] (truthy v)) := by intro _; rfl) : PT X a (tTE (kt X) W (qTE sa)) := pt_imp (pt_truth ha he) fun _ _ _ => tru_e
variable {t u : STu} {te ue : STe} {rest : List Expr}
theorem TE_of (h : PT X a (tTU (kt X) t)) : PT X a (tTE (kt X) W (qU t)) := pt_imp h fun _ _ _ => qU_i
theorem TU_not (h : PT X a (tTU (kt X) t)) : PT X (.UnaryOp .Not a pos) (tTU (kt X) (qNot t)) := pt_imp (pt_not h) fun _ _ _ => not_u
theorem TE_not (h : PT X a (tTE (kt X) W te)) : PT X (.UnaryOp .Not a pos) (tTE (kt X) W (eNot te)) := pt_imp (pt_not h) fun _ _ _ => not_e
theorem WU_and1 (h : PT X a (tTU (kt X) t)) : PW X (.BoolOp .And [a] pos) (tTU (kt X) t) := pw_and1 h
theorem WE_and1 (h : PT X a (tTE (kt X) W te)) : PW X (.BoolOp .And [a] pos) (tTE (kt X) W te) := pw_and1 h
theorem WU_or1 (h : PT X a (tTU (kt X) t)) : PW X (.BoolOp .Or [a] pos) (tTU (kt X) t) := pw_or1 h
theorem WE_or1 (h : PT X a (tTE (kt X) W te)) : PW X (.BoolOp .Or [a] pos) (tTE (kt X) W te) := pw_or1 h
theorem WU_and (h : PT X a (tTU (kt X) t)) (h2 : PW X (.BoolOp .And (b :: rest) pos) (tTU (kt X) u)) : PW X (.BoolOp .And (a :: b :: rest) pos) (tTU (kt X) (qAnd t u)) := pw_imp (pw_and h h2) fun _ _ _ => and_u
theorem WE_and (h : PT X a (tTE (kt X) W te)) (h2 : PW X (.BoolOp .And (b :: rest) pos) (tTE (kt X) W ue)) : PW X (.BoolOp .And (a :: b :: rest) pos) (tTE (kt X) W (eAnd te ue)) := pw_imp (pw_and h h2) fun _ _ _ => and_e
theorem WU_or (h : PT X a (tTU (kt X) t)) (h2 : PW X (.BoolOp .Or (b :: rest) pos) (tTU (kt X) u)) : PW X (.BoolOp .Or (a :: b :: rest) pos) (tTU (kt X) (qOr t u)) := pw_imp (pw_or h h2) fun _ _ _ => or_u
theorem WE_or (h : PT X a (tTE (kt X) W te)) (h2 : PW X (.BoolOp .Or (b :: rest) pos) (tTE (kt X) W ue)) : PW X (.BoolOp .Or (a :: b :: rest) pos) (tTE (kt X) W (eOr te ue)) := pw_imp (pw_or h h2) fun _ _ _ => or_e
theorem U_if {c : Expr} (hc : PT X c (tTU (kt X) t)) (ha : PE X a (tU (kt X) p)) (hb : PE X b (tU (kt X) q)) : PE X (.IfExp c a b pos) (tU (kt X) (pIf t p q)) := pe_imp (pe_ifExp hc ha hb) fun _ _ _ => ifE_u
theorem E_if {c : Expr} (hc : PT X c (tTE (kt X) W te)) (ha : PE X a (tE (kt X) W sa)) (hb : PE X b (tE (kt X) W sb)) : PE X (.IfExp c a b pos) (tE (kt X) W (sIfE te sa sb)) := pe_imp (pe_ifExp hc ha hb) fun _ _ _ => ifE_e
/-! ### items -/
theorem U_ix (ha : PE X a (tV (kt X) p)) (hb : PE X b (tV (kt X) q)) (hs : PlainIx b := by exact fun _ _ => rfl) : PE X (.Subscript a b pos) (tU (kt X) (p2 ixD p q)) := pe_imp (pe_ix ix_seq ha hb hs) fun _ _ _ => op_vv o2_ix
theorem E_ixEE (ha : PE X a (tE (kt X) W sa)) (hb : PE X b (tE (kt X) W sb)) (hs : PlainIx b := by exact fun _ _ => rfl) : PE X (.Subscript a b pos) (tE (kt X) W (s2 ixD sa sb)) := pe_imp (pe_ix ix_seq ha hb hs) fun _ _ _ => op_ee o2_ix
theorem E_ixEV (ha : PE X a (tE (kt X) W sa)) (hb : PE X b (tV (kt X) q)) (hs : PlainIx b := by exact fun _ _ => rfl) : PE X (.Subscript a b pos) (tE (kt X) W (s2V ixD sa q)) := pe_imp (pe_ix ix_seq ha hb hs) fun _ _ _ => op_ev o2_ix
theorem E_ixNE {i : Nat} (ha : PE X a (tVar i)) (hb : PE X b (tE (kt X) W sb)) (hs : PlainIx b := by exact fun _ _ => rfl) : PE X (.Subscript a b pos) (tE (kt X) W (s2N ixD i sb)) := pe_imp (pe_ix ix_seq ha hb hs) fun _ _ _ => op_ne o2_ix
/-! ### arguments -/
variable {es : List Expr} {pa : SAV} {ra : SA}
theorem AV_nil : PA X [] (tAV (kt X) vNil) := pa_imp pa_nil fun _ _ _ => vNil_i
theorem AU_nil : PA X [] (tAU (kt X) vNil) := pa_imp pa_nil fun _ _ _ => uNil_i
theorem A_nil : PA X [] (tA (kt X) W aNil) := pa_imp pa_nil fun _ _ _ => aNil_i
theorem AV_cons (h : PE X e (tV (kt X) p)) (hr : PA X es (tAV (kt X) pa)) (he : starEach (e :: es) X.env = (false, eval e X.env) :: starEach es X.env := by rfl) : PA X (e :: es) (tAV (kt X) (vCons p pa)) := pa_imp (pa_cons h hr he) fun _ _ _ => vCons_i
theorem AU_cons (h : PE X e (tU (kt X) p)) (hr : PA X es (tAU (kt X) pa)) (he : starEach (e :: es) X.env = (false, eval e X.env) :: starEach es X.env := by rfl) : PA X (e :: es) (tAU (kt X) (vCons p pa)) := pa_imp (pa_cons h hr he) fun _ _ _ => uCons_i
theorem A_cons (h : PE X e (tE (kt X) W sa)) (hr : PA X es (tA (kt X) W ra)) (he : starEach (e :: es) X.env = (false, eval e X.env) :: starEach es X.env := by rfl) : PA X (e :: es) (tA (kt X) W (aE sa ra)) := pa_imp (pa_cons h hr he) fun _ _ _ => aE_i
theorem A_consN {i : Nat} (h : PE X e (tVar i)) (hr : PA X es (tA (kt X) W ra)) (he : starEach (e :: es) X.env = (false, eval e X.env) :: starEach es X.env := by rfl) : PA X (e :: es) (tA (kt X) W (aN i ra)) := pa_imp (pa_cons h hr he) fun _ _ _ => aN_i
theorem U_tup {n : Nat} (h : PA X es (tAU (kt X) pa)) : PE X (.Tuple es n pos) (tU (kt X) (pTup pa)) := pe_imp (pe_tup h) fun _ _ _ => tup_u
theorem U_lst (h : PA X es (tAU (kt X) pa)) : PE X (.List es pos) (tU (kt X) (pLst pa)) := pe_imp (pe_lst h) fun _ _ _ => lst_u
theorem E_tup {n : Nat} (h : PA X es (tA (kt X) W ra)) : PE X (.Tuple es n pos) (tE (kt X) W (sTup ra)) := pe_imp (pe_tup h) fun _ _ _ => tup_e
theorem E_lst (h : PA X es (tA (kt X) W ra)) : PE X (.List es pos) (tE (kt X) W (sLst ra)) := pe_imp (pe_lst h) fun _ _ _ => lst_e
end
end T

set_option Elab.async false
set_option linter.all false
set_option maxRecDepth 100000
set_option maxHeartbeats 4000000
namespace T
open PySem PySem.Spec PyProof.Rows L2

/-! ### built-ins by values -/
def lenD : List D → Option D
  | [.lst _ ms] => some (.int ms.length)
  | [.tup ms] => some (.int ms.length)
  | [.klst ms] => some (.int ms.length)
  | [.str s] => if s.length ≤ sizeLine then some (.int s.length) else none
  | _ => none
abbrev rLenA (K : PySem.W.Frag) : RC := fun xs H Q => (∃ p ys, xs = [.ref p] ∧ (SqL K H p ys ∨ SqT K H p ys) ∧ Q (.int ys.length) H) ∨ (∃ z, xs = [.str z] ∧ z.length ≤ sizeLine ∧ Q (.int z.length) H)
theorem cr_lenA {X : Cx} : CallR X (.builtin "len") (rLenA X.K) := CallR.or call_len_seq call_len_str
theorem one_of {C : Kt} {H : Hp} {m : D} {vs : List V} {fp : List Addr} (x : RPs C H [m] vs fp) : ∃ v, vs = [v] ∧ RP C H m v fp := by
  obtain ⟨v, vr, f1, f2, rfl, rfl, x1, rfl, rfl⟩ := x
  exact ⟨v, rfl, by simpa using x1⟩
theorem two_of {C : Kt} {H : Hp} {m n : D} {vs : List V} {fp : List Addr} (x : RPs C H [m, n] vs fp) : ∃ v w f g, vs = [v, w] ∧ RP C H m v f ∧ RP C H n w g := by
  obtain ⟨v, vr, f1, f2, rfl, rfl, x1, x2⟩ := x
  obtain ⟨w, rfl, y2⟩ := one_of x2
  exact ⟨v, w, f1, f2, rfl, x1, y2⟩
theorem cd_len {C : Kt} : CallD C (rLenA C.K) lenD := by
  intro H ms vs fp m x e Q k
  unfold lenD at e
  split at e
  · cases e
    obtain ⟨v, rfl, a, ws, g, rfl, a1, r1⟩ := one_of x
    refine .inl ⟨a, ws, rfl, .inl a1.seqL, ?_⟩
    rw [← r1.len]; exact int_res k
  · cases e
    obtain ⟨v, rfl, a, ws, rfl, a1, r1⟩ := one_of x
    refine .inl ⟨a, ws, rfl, .inr (SqT.of a1), ?_⟩
    rw [← r1.len]; exact int_res k
  · cases e
    obtain ⟨v, rfl, a, ws, rfl, _, a1, r1⟩ := one_of x
    refine .inl ⟨a, ws, rfl, .inl a1.seqL, ?_⟩
    rw [← r1.len]; exact int_res k
  · split at e
    · cases e
      obtain ⟨v, rfl, rfl, _⟩ := one_of x
      exact .inr ⟨_, rfl, by assumption, int_res k⟩
    · cases e
  · cases e
def intD : List D → Option D
  | [.int i] => some (.int i)
  | [.bl b] => some (.int (if b then 1 else 0))
  | [.str a] => (match PySem.intText? a with
    | some n => if a.length ≤ 640 then some (.int n) else none
    | none => none)
  | _ => none
abbrev rIntA : RC := fun xs H Q => ((∃ i, xs = [.int i] ∧ Q (.int i) H) ∨ ∃ k, xs = [.bl k] ∧ Q (.int (if k then 1 else 0)) H) ∨ (∃ a n, xs = [.str a] ∧ PySem.intText? a = some n ∧ a.length ≤ 640 ∧ Q (.int n) H)
theorem cr_intA {X : Cx} : CallR X (.type "int") rIntA := CallR.or call_int1 call_int_str
theorem cd_int {C : Kt} : CallD C rIntA intD := by
  intro H ms vs fp m x e Q k
  unfold intD at e
  split at e
  · cases e
    obtain ⟨v, rfl, rfl, _⟩ := one_of x
    exact .inl (.inl ⟨_, rfl, int_res k⟩)
  · cases e
    obtain ⟨v, rfl, rfl, _⟩ := one_of x
    exact .inl (.inr ⟨_, rfl, int_res k⟩)
  · split at e
    · rename_i n q
      split at e
      · cases e
        obtain ⟨v, rfl, rfl, _⟩ := one_of x
        exact .inr ⟨_, n, rfl, q, by assumption, int_res k⟩
      · cases e
    · cases e
  · cases e
def absD : List D → Option D
  | [.int i] => some (.int (if i < 0 then -i else i))
  | _ => none
theorem cd_abs {C : Kt} : CallD C (fun xs H Q => ∃ i, xs = [.int i] ∧ Q (.int (if i < 0 then -i else i)) H) absD := by
  intro H ms vs fp m x e Q k
  unfold absD at e
  split at e
  · cases e
    obtain ⟨v, rfl, rfl, _⟩ := one_of x
    exact ⟨_, rfl, int_res k⟩
  · cases e
def max2D : List D → Option D
  | [.int i, .int j] => some (.int (if j > i then j else i))
  | _ => none
def min2D : List D → Option D
  | [.int i, .int j] => some (.int (if j < i then j else i))
  | _ => none
theorem cd_max2 {C : Kt} : CallD C (fun xs H Q => ∃ i j, xs = [.int i, .int j] ∧ Q (.int (if j > i then j else i)) H) max2D := by
  intro H ms vs fp m x e Q k
  unfold max2D at e
  split at e
  · cases e
    obtain ⟨v, w, f, g, rfl, ⟨rfl, _⟩, ⟨rfl, _⟩⟩ := two_of x
    exact ⟨_, _, rfl, int_res k⟩
  · cases e
theorem cd_min2 {C : Kt} : CallD C (fun xs H Q => ∃ i j, xs = [.int i, .int j] ∧ Q (.int (if j < i then j else i)) H) min2D := by
  intro H ms vs fp m x e Q k
  unfold min2D at e
  split at e
  · cases e
    obtain ⟨v, w, f, g, rfl, ⟨rfl, _⟩, ⟨rfl, _⟩⟩ := two_of x
    exact ⟨_, _, rfl, int_res k⟩
  · cases e
def strD : List D → Option D
  | [.int i] => if i.natAbs.log2 < 1920 then some (.str (toString i)) else none
  | _ => none
theorem cd_str {C : Kt} : CallD C (fun xs H Q => ∃ i, xs = [.int i] ∧ i.natAbs.log2 < 1920 ∧ Q (.str (toString i)) H) strD := by
  intro H ms vs fp m x e Q k
  unfold strD at e
  split at e
  · split at e
    · cases e
      obtain ⟨v, rfl, rfl, _⟩ := one_of x
      exact ⟨_, rfl, by assumption, str_res k⟩
    · cases e
  · cases e
def tupleD : List D → Option D
  | [.lst _ ms] => if fzs ms then some (.tup ms) else none
  | [.tup ms] => if fzs ms then some (.tup ms) else none
  | _ => none
theorem cd_tuple {C : Kt} : CallD C (fun xs H Q => ∃ p ys, xs = [.ref p] ∧ ((SqL C.K H p ys ∧ ∀ l, H l = none → Q (.ref l) (upd H l (.tup ys))) ∨ (SqT C.K H p ys ∧ Q (.ref p) H))) tupleD := by
  intro H ms vs fp m x e Q k
  unfold tupleD at e
  split at e
  · split at e
    · rename_i hz
      cases e
      obtain ⟨v, rfl, a, ws, g, rfl, a1, r1⟩ := one_of x
      exact ⟨a, ws, rfl, .inl ⟨a1.seqL, fun l hl => tup_res (r1.fzAll hz) hl k⟩⟩
    · cases e
  · split at e
    · rename_i hz
      cases e
      obtain ⟨v, rfl, a, ws, rfl, a1, r1⟩ := one_of x
      have y : RP C H (.tup _) (.ref a) [] := ⟨a, ws, rfl, a1, r1.fzAll hz⟩
      exact ⟨a, ws, rfl, .inr ⟨SqT.of a1, fz_res y k⟩⟩
    · cases e
  · cases e
def listD : List D → Option D
  | [.lst _ ms] => if fzs ms then some (.lst true ms) else none
  | [.tup ms] => if fzs ms then some (.lst true ms) else none
  | _ => none
theorem cd_list {C : Kt} : CallD C (fun xs H Q => ∃ p ys, xs = [.ref p] ∧ (SqL C.K H p ys ∨ SqT C.K H p ys) ∧ ∀ l, H l = none → Q (.ref l) (upd H l (.lst ys))) listD := by
  intro H ms vs fp m x e Q k
  unfold listD at e
  split at e
  · split at e
    · rename_i hz
      cases e
      obtain ⟨v, rfl, a, ws, g, rfl, a1, r1⟩ := one_of x
      exact ⟨a, ws, rfl, .inl a1.seqL, fun l hl => lst_res (r1.fzAll hz) hl k⟩
    · cases e
  · split at e
    · rename_i hz
      cases e
      obtain ⟨v, rfl, a, ws, rfl, a1, r1⟩ := one_of x
      exact ⟨a, ws, rfl, .inr (SqT.of a1), fun l hl => lst_res (r1.fzAll hz) hl k⟩
    · cases e
  · cases e
def boolsL : List D → Option (List Bool)
  | [] => some []
  | .bl b :: r => (boolsL r).map (b :: ·)
  | _ :: _ => none
def intsL : List D → Option (List Int)
  | [] => some []
  | .int b :: r => (intsL r).map (b :: ·)
  | _ :: _ => none
theorem bools_ok {C : Kt} {H : Hp} : ∀ {ms : List D} {vs : List V} {fp : List Addr} {bs : List Bool}, RPs C H ms vs fp → boolsL ms = some bs → vs = bs.map V.bl
  | [], _, _, _, x, e => by obtain ⟨rfl, _⟩ := x; cases e; rfl
  | .bl b :: r, _, _, _, x, e => by
    obtain ⟨v, vr, f1, f2, rfl, rfl, ⟨rfl, _⟩, x2⟩ := x
    unfold boolsL at e
    cases q : boolsL r with
    | none => rw [q] at e; cases e
    | some bs => rw [q] at e; cases e; rw [bools_ok x2 q]; rfl
  | .non :: _, _, _, _, _, e | .int _ :: _, _, _, _, _, e | .str _ :: _, _, _, _, _, e | .tup _ :: _, _, _, _, _, e | .lst _ _ :: _, _, _, _, _, e | .dct _ _ :: _, _, _, _, _, e | .klst _ :: _, _, _, _, _, e | .ins _ _ _ :: _, _, _, _, _, e => by cases e
theorem ints_ok {C : Kt} {H : Hp} : ∀ {ms : List D} {vs : List V} {fp : List Addr} {bs : List Int}, RPs C H ms vs fp → intsL ms = some bs → vs = bs.map V.int
  | [], _, _, _, x, e => by obtain ⟨rfl, _⟩ := x; cases e; rfl
  | .int b :: r, _, _, _, x, e => by
    obtain ⟨v, vr, f1, f2, rfl, rfl, ⟨rfl, _⟩, x2⟩ := x
    unfold intsL at e
    cases q : intsL r with
    | none => rw [q] at e; cases e
    | some bs => rw [q] at e; cases e; rw [ints_ok x2 q]; rfl
  | .non :: _, _, _, _, _, e | .bl _ :: _, _, _, _, _, e | .str _ :: _, _, _, _, _, e | .tup _ :: _, _, _, _, _, e | .lst _ _ :: _, _, _, _, _, e | .dct _ _ :: _, _, _, _, _, e | .klst _ :: _, _, _, _, _, e | .ins _ _ _ :: _, _, _, _, _, e => by cases e
def allD : List D → Option D
  | [.lst _ ms] => (boolsL ms).map fun bs => .bl (bs.all id)
  | _ => none
def anyD : List D → Option D
  | [.lst _ ms] => (boolsL ms).map fun bs => .bl (bs.any id)
  | _ => none
def sumD : List D → Option D
  | [.lst _ ms] => (intsL ms).map fun ns => .int ns.sum
  | _ => none
theorem cd_all {C : Kt} : CallD C (rAll C.K) allD := by
  intro H ms vs fp m x e Q k
  unfold allD at e
  split at e
  · rename_i o ms
    cases q : boolsL ms with
    | none => rw [q] at e; cases e
    | some bs =>
      rw [q] at e; cases e
      obtain ⟨v, rfl, a, ws, g, rfl, a1, r1⟩ := one_of x
      exact ⟨a, bs, rfl, by rw [← bools_ok r1 q]; exact a1.seqL, bl_res k⟩
  · cases e
theorem cd_any {C : Kt} : CallD C (rAny C.K) anyD := by
  intro H ms vs fp m x e Q k
  unfold anyD at e
  split at e
  · rename_i o ms
    cases q : boolsL ms with
    | none => rw [q] at e; cases e
    | some bs =>
      rw [q] at e; cases e
      obtain ⟨v, rfl, a, ws, g, rfl, a1, r1⟩ := one_of x
      exact ⟨a, bs, rfl, by rw [← bools_ok r1 q]; exact a1.seqL, bl_res k⟩
  · cases e
theorem cd_sum {C : Kt} : CallD C (rSum C.K) sumD := by
  intro H ms vs fp m x e Q k
  unfold sumD at e
  split at e
  · rename_i o ms
    cases q : intsL ms with
    | none => rw [q] at e; cases e
    | some ns =>
      rw [q] at e; cases e
      obtain ⟨v, rfl, a, ws, g, rfl, a1, r1⟩ := one_of x
      exact ⟨a, ns, rfl, by rw [← ints_ok r1 q]; exact a1.seqL, int_res k⟩
  · cases e
section
variable {X : Cx} {W : WXT} {e : Expr} {es : List Expr} {p pos : Pos} {pa : SAV} {ra : SA} {x : Str}
/-- a built-in by its name -/
theorem U_bi {id : String} {r : RC} {f : List D → Option D} (hc : CallR X (.builtin id) r) (h : CallD (kt X) r f) (hg : Gl X x) (hm : X.mg x = none) (hv : bootBuiltins x = some (.builtin id)) (ha : PA X (e :: es) (tAV (kt X) pa)) (hn : x ≠ "__name__" := by decide) (hdb : (x == ("__debug__" : Str)) = false := by decide)
    (he : starEach (e :: es) X.env = (false, eval e X.env) :: starEach es X.env := by rfl) (hpl : (backTo pos (starEach es X.env)).any (·.1) = false := by rfl) :
    PE X (.Call (.Name x p) (e :: es) [] pos) (tU (kt X) (pC f pa)) := pe_imp (pe_callB hc hg hm hv ha hn hdb he hpl) fun _ _ _ => cb_v h
theorem E_bi {id : String} {r : RC} {f : List D → Option D} (hc : CallR X (.builtin id) r) (h : CallD (kt X) r f) (hg : Gl X x) (hm : X.mg x = none) (hv : bootBuiltins x = some (.builtin id)) (ha : PA X (e :: es) (tA (kt X) W ra)) (hn : x ≠ "__name__" := by decide) (hdb : (x == ("__debug__" : Str)) = false := by decide)
    (he : starEach (e :: es) X.env = (false, eval e X.env) :: starEach es X.env := by rfl) (hpl : (backTo pos (starEach es X.env)).any (·.1) = false := by rfl) :
    PE X (.Call (.Name x p) (e :: es) [] pos) (tE (kt X) W (sC f ra)) := pe_imp (pe_callB hc hg hm hv ha hn hdb he hpl) fun _ _ _ => cb_e h
theorem U_ty {id : String} {r : RC} {f : List D → Option D} (hc : CallR X (.type id) r) (h : CallD (kt X) r f) (hg : Gl X x) (hm : X.mg x = none) (hv : bootBuiltins x = some (.type id)) (ha : PA X (e :: es) (tAV (kt X) pa)) (hn : x ≠ "__name__" := by decide) (hdb : (x == ("__debug__" : Str)) = false := by decide)
    (he : starEach (e :: es) X.env = (false, eval e X.env) :: starEach es X.env := by rfl) (hpl : (backTo pos (starEach es X.env)).any (·.1) = false := by rfl) :
    PE X (.Call (.Name x p) (e :: es) [] pos) (tU (kt X) (pC f pa)) := pe_imp (pe_callTy hc hg hm hv ha hn hdb he hpl) fun _ _ _ => cb_v h
theorem E_ty {id : String} {r : RC} {f : List D → Option D} (hc : CallR X (.type id) r) (h : CallD (kt X) r f) (hg : Gl X x) (hm : X.mg x = none) (hv : bootBuiltins x = some (.type id)) (ha : PA X (e :: es) (tA (kt X) W ra)) (hn : x ≠ "__name__" := by decide) (hdb : (x == ("__debug__" : Str)) = false := by decide)
    (he : starEach (e :: es) X.env = (false, eval e X.env) :: starEach es X.env := by rfl) (hpl : (backTo pos (starEach es X.env)).any (·.1) = false := by rfl) :
    PE X (.Call (.Name x p) (e :: es) [] pos) (tE (kt X) W (sC f ra)) := pe_imp (pe_callTy hc hg hm hv ha hn hdb he hpl) fun _ _ _ => cb_e h
end

/-! ### calls of the text's own defs -/
/-- x is a def of the text whose meaning is F (called by position, the last arguments dms by default) -/
structure Df (P : Program) (w : World) (K : PySem.W.Frag) (mg : Str → Option Value) (base : Heap) (k : Nat) (x : Str) (F : SF) : Prop where
  ex : ∃ f fd ps, FnOk P w K mg base (L2.CX P w) k f fd ps (spF ⟨K, mg⟩ F) ∧ mg x = some (.ref f) ∧ PySem.W.keepIn K (.ref f) = true ∧ Binds K fd ps []
section
variable {X : Cx} {W : WXT} {e : Expr} {es : List Expr} {p pos : Pos} {ra : SA} {x : Str} {k j : Nat} {F : SF}
theorem E_call (d : Df X.prog X.w X.K X.mg X.base k x F) (hr : Room j X.A) (hk : k ≤ j) (tk : Takes X W) (hg : Gl X x) (ha : PA X (e :: es) (tA (kt X) W ra)) (hdb : (x == ("__debug__" : Str)) = false := by decide)
    (he : starEach (e :: es) X.env = (false, eval e X.env) :: starEach es X.env := by rfl) (hpl : (backTo pos (starEach es X.env)).any (·.1) = false := by rfl) :
    PE X (.Call (.Name x p) (e :: es) [] pos) (tE (kt X) W (sCallA F ra)) := by
  obtain ⟨f, fd, ps, G, hm, hkp, hb⟩ := d.ex
  exact pe_imp (pe_callS G (hr.mono hk) hg hm hkp hb (fun σ => passAt tk σ) ha hdb he hpl) fun _ _ _ => call_i
end

/-! ### comprehensions, loops, statements -/
theorem pg_imp {X : Cx} {e : Expr} {t t' : TG} (h : PG X e t) (f : ∀ v σ H Q, t' v σ H Q → t v σ H Q) : PG X e t' := ⟨fun pins s σ H v u Q I r q => h.run pins s σ H v u Q I r (f v σ H Q q)⟩
theorem pgs_imp {X : Cx} {e : List Expr} {t t' : TGs} (h : PGs X e t) (f : ∀ v σ H Q, t' v σ H Q → t v σ H Q) : PGs X e t' := ⟨fun pins s σ H v u Q I r q => h.run pins s σ H v u Q I r (f v σ H Q q)⟩
theorem pts_imp {X : Cx} {e : List Expr} {t t' : TT} (h : PTs X e t) (f : ∀ σ H Q, t' σ H Q → t σ H Q) : PTs X e t' := ⟨fun pins s σ H Q I q => h.run pins s σ H Q I (f σ H Q q)⟩
end T

set_option Elab.async false
set_option linter.all false
set_option maxRecDepth 100000
set_option maxHeartbeats 4000000
namespace T
open PySem PySem.Spec PyProof.Rows L2

def qYes : STu := fun _ => some true
def eYes : STe := fun env => some (.ok true, env)
theorem yes_u {C : Kt} {σ : L2.St} {H : Hp} {Q : Bool → Hp → Prop} (x : tTU C qYes σ H Q) : tYes σ H Q := by
  obtain ⟨env, fp, b, r, e, k⟩ := x
  cases e
  exact k H (Same.refl H)
theorem yes_e {C : Kt} {W : WXT} {σ : L2.St} {H : Hp} {Q : Bool → Hp → Prop} (x : tTE C W eYes σ H Q) : tYes σ H Q := by
  obtain ⟨env, fp, r, nd, k⟩ := x
  exact k H fp r nd (Mv.refl H fp)
section
variable {X : Cx} {W : WXT} {e tg it elt : Expr} {pos : Pos} {p : SV} {sa : SE} {kp : Nat → Bool}
/-! targets -/
theorem GU_name {i : Nat} {x : Str} (hN : X.N.Nodup) (hi : X.N[i]? = some x) (hx : Loc X.env.scope x) (hk : kp i = false) (hf : X.fn x = true ∨ X.env.scope.names.lookup x = some .local := by first | exact .inl rfl | exact .inr rfl | assumption) : PG X (.Name x pos) (tGU (kt X) kp (bName i)) := pg_imp (pg_name hN hi hx hf) fun _ _ _ _ => bName_u hk
theorem G_name {i : Nat} {x : Str} (hN : X.N.Nodup) (hi : X.N[i]? = some x) (hx : Loc X.env.scope x) (hk : kp i = false) (hf : X.fn x = true ∨ X.env.scope.names.lookup x = some .local := by first | exact .inl rfl | exact .inr rfl | assumption) : PG X (.Name x pos) (tG (kt X) kp (bName i)) := pg_imp (pg_name hN hi hx hf) fun _ _ _ _ => bName_i hk
theorem GUs_nil : PGs X [] (tGUs (kt X) kp bNil) := pgs_imp pgs_nil fun _ _ _ _ => bNil_u
theorem Gs_nil : PGs X [] (tGs (kt X) kp bNil) := pgs_imp pgs_nil fun _ _ _ _ => bNil_i
theorem GUs_cons {es : List Expr} {b : Bd} {r : Bds} (h : PG X e (tGU (kt X) kp b)) (hr : PGs X es (tGUs (kt X) kp r)) (hs : (assignEach (e :: es) X.env).map (·.2) = assign e X.env :: (assignEach es X.env).map (·.2) := by rfl) : PGs X (e :: es) (tGUs (kt X) kp (bCons b r)) := pgs_imp (pgs_cons h hr hs) fun _ _ _ _ => bCons_u
theorem Gs_cons {es : List Expr} {b : Bd} {r : Bds} (h : PG X e (tG (kt X) kp b)) (hr : PGs X es (tGs (kt X) kp r)) (hs : (assignEach (e :: es) X.env).map (·.2) = assign e X.env :: (assignEach es X.env).map (·.2) := by rfl) : PGs X (e :: es) (tGs (kt X) kp (bCons b r)) := pgs_imp (pgs_cons h hr hs) fun _ _ _ _ => bCons_i
theorem GU_tup {es : List Expr} {k n : Nat} {b : Bds} (hc : X.calm = true) (h : PGs X es (tGUs (kt X) kp b)) (hn : (assignEach es X.env).length = n := by rfl) (hst : (assignEach es X.env).findIdx? (·.1) = none := by rfl) : PG X (.Tuple es k pos) (tGU (kt X) kp (bTup n b)) := pg_imp (pg_tup hc h hn hst) fun _ _ _ _ => bTup_u
theorem G_tup {es : List Expr} {k n : Nat} {b : Bds} (hc : X.calm = true) (h : PGs X es (tGs (kt X) kp b)) (hn : (assignEach es X.env).length = n := by rfl) (hst : (assignEach es X.env).findIdx? (·.1) = none := by rfl) : PG X (.Tuple es k pos) (tG (kt X) kp (bTup n b)) := pg_imp (pg_tup hc h hn hst) fun _ _ _ _ => bTup_i
/-! what is walked -/
theorem IV_of {pa : SAV} (h : PI X tg it (tIU (kt X) pa)) : PI X tg it (tIV (kt X) pa) := pi_imp h fun _ _ _ => iV_of
theorem IV_seq (h : PE X it (tV (kt X) p)) : PI X tg it (tIV (kt X) (iP p)) := pi_imp (pi_seq h) fun _ _ _ => iP_v
theorem IU_seq (h : PE X it (tU (kt X) p)) : PI X tg it (tIU (kt X) (iP p)) := pi_imp (pi_seq h) fun _ _ _ => iP_u
theorem IE_seq (h : PE X it (tE (kt X) W sa)) : PI X tg it (tI (kt X) W (iE sa)) := pi_imp (pi_seq h) fun _ _ _ => iE_i
theorem IE_of {pa : SAV} (h : PI X tg it (tIU (kt X) pa)) : PI X tg it (tI (kt X) W (iU pa)) := pi_imp h fun _ _ _ => iU_i
theorem IU_rng1 {a : Expr} {pa : SAV} {p pos : Pos} (hg : Gl X "range") (hm : X.mg "range" = none) (ha : PA X [a] (tAV (kt X) pa)) (hs : starEach [a] X.env = [(false, eval a X.env)] := by rfl) : PI X tg (.Call (.Name "range" p) [a] [] pos) (tIU (kt X) (iRgU rng1D pa)) := pi_imp (pi_range1 hg hm ha hs) fun _ _ _ => rg_u ic_rng1
theorem IE_rng1 {a : Expr} {ra : SA} {p pos : Pos} (hg : Gl X "range") (hm : X.mg "range" = none) (ha : PA X [a] (tA (kt X) W ra)) (hs : starEach [a] X.env = [(false, eval a X.env)] := by rfl) : PI X tg (.Call (.Name "range" p) [a] [] pos) (tI (kt X) W (iRg rng1D ra)) := pi_imp (pi_range1 hg hm ha hs) fun _ _ _ => rg_i ic_rng1
theorem IU_rng2 {a b : Expr} {pa : SAV} {p pos : Pos} (hg : Gl X "range") (hm : X.mg "range" = none) (ha : PA X [a, b] (tAV (kt X) pa)) (hs : starEach [a, b] X.env = [(false, eval a X.env), (false, eval b X.env)] := by rfl) (hs2 : starEach [b] X.env = [(false, eval b X.env)] := by rfl) : PI X tg (.Call (.Name "range" p) [a, b] [] pos) (tIU (kt X) (iRgU rng2D pa)) := pi_imp (pi_range2 hg hm ha hs hs2) fun _ _ _ => rg_u ic_rng2
/-! comprehensions -/
variable {ifs : List Expr} {scope : Scope} {own : List (Str × Nat)}
theorem U_lc {pa : SAV} {b : Bd} {t : STu} (hc : X.calm = true) (hN : X.N.Nodup) (ok : BlkOk X.N X.env.scope scope own) (hi : PI X tg it (tIV (kt X) pa))
    (hg : ∀ (s : Shared) (H : Hp) (C : Addr) (cl : List (Str × Addr)) (fp : List Addr), PG (X.blk s H scope (compEnvC scope cl C X.env) fp) tg (tGU (kt X) (kpOwn (own.map (·.2))) b))
    (ht : ∀ (s : Shared) (H : Hp) (C : Addr) (cl : List (Str × Addr)) (fp : List Addr), PTs (X.blk s H scope (compEnvC scope cl C X.env) fp) ifs (tTU (kt X) t))
    (he : ∀ (s : Shared) (H : Hp) (C : Addr) (cl : List (Str × Addr)) (fp : List Addr), PE (X.blk s H scope (compEnvC scope cl C X.env) fp) elt (tU (kt X) p))
    (hs : ∀ x, foldedSetIterable it X.env x = pure x := by intro _; rfl) : PE X (.ListComp elt [⟨tg, it, ifs, 0⟩] scope pos) (tU (kt X) (pLc (own.map (·.2)) pa b t p)) := pe_imp (pe_lc hc hN hi ok hg ht he hs) fun _ _ _ => lc_u
theorem E_lc {ia : SI} {b : Bd} {t : STe} (hc : X.calm = true) (hN : X.N.Nodup) (ok : BlkOk X.N X.env.scope scope own) (hi : PI X tg it (tI (kt X) W ia))
    (hg : ∀ (s : Shared) (H : Hp) (C : Addr) (cl : List (Str × Addr)) (fp : List Addr), PG (X.blk s H scope (compEnvC scope cl C X.env) fp) tg (tG (kt X) (kpOwn (own.map (·.2))) b))
    (ht : ∀ (s : Shared) (H : Hp) (C : Addr) (cl : List (Str × Addr)) (fp : List Addr), PTs (X.blk s H scope (compEnvC scope cl C X.env) fp) ifs (tTE (kt X) W0 t))
    (he : ∀ (s : Shared) (H : Hp) (C : Addr) (cl : List (Str × Addr)) (fp : List Addr), PE (X.blk s H scope (compEnvC scope cl C X.env) fp) elt (tE (kt X) W0 sa))
    (hs : ∀ x, foldedSetIterable it X.env x = pure x := by intro _; rfl) : PE X (.ListComp elt [⟨tg, it, ifs, 0⟩] scope pos) (tE (kt X) W (sLc (own.map (·.2)) ia b t sa)) := pe_imp (pe_lc hc hN hi ok hg ht he hs) fun _ _ _ => lc_i
theorem PsU_nil : PTs X [] (tTU (kt X) qYes) := pts_imp pts_nil fun _ _ _ => yes_u
theorem PsE_nil : PTs X [] (tTE (kt X) W eYes) := pts_imp pts_nil fun _ _ _ => yes_e
theorem PsU_one {c : Expr} {t : STu} (h : PT X c (tTU (kt X) t)) : PTs X [c] (tTU (kt X) t) := pts_one h
theorem PsE_one {c : Expr} {t : STe} (h : PT X c (tTE (kt X) W t)) : PTs X [c] (tTE (kt X) W t) := pts_one h
/-! statements -/
variable {st : Stmt} {rest : List Stmt} {s u : SS}
theorem S_cons (h : PS X st (tS (kt X) kp W s)) (hr : PSs X rest (tS (kt X) kp W u)) : PSs X (st :: rest) (tS (kt X) kp W (sSeq s u)) := pss_imp (pss_cons h hr) fun _ _ _ => seq_i
theorem S_one (h : PS X st (tS (kt X) kp W s)) : PSs X [st] (tS (kt X) kp W s) := pss_one h
theorem S_nil : PSs X [] (tS (kt X) kp W sPass) := pss_imp pss_nil fun _ _ _ => pass_i
theorem S_ret (h : PE X e (tE (kt X) W sa)) : PS X (.Return (some e) pos) (tS (kt X) kp W (sRet sa)) := ps_imp (ps_ret h) fun _ _ _ => ret_i
theorem S_retN : PS X (.Return none pos) (tS (kt X) kp W sRetN) := ps_imp ps_retN fun _ _ _ => retN_i
theorem S_expr (h : PE X e (tE (kt X) W sa)) (hs : swapsWith e none pos.line X.env = pure false := by rfl) : PS X (.Expr e pos) (tS (kt X) kp W (sDrop sa)) := ps_imp (ps_expr h hs) fun _ _ _ => drop_i
theorem S_pass : PS X (.Pass pos) (tS (kt X) kp W sPass) := ps_imp ps_pass fun _ _ _ => pass_i
theorem S_brk : PS X (.Break pos) (tS (kt X) kp W sBrk) := ps_imp ps_break fun _ _ _ => brk_i
theorem S_cont : PS X (.Continue pos) (tS (kt X) kp W sCont) := ps_imp ps_continue fun _ _ _ => cont_i
theorem S_if {c : Expr} {a b : List Stmt} {t : STe} (hc : PT X c (tTE (kt X) W t)) (ha : PSs X a (tS (kt X) kp W s)) (hb : PSs X b (tS (kt X) kp W u)) : PS X (.If c a b pos) (tS (kt X) kp W (sIf t s u)) := ps_imp (ps_if hc ha hb) fun _ _ _ => if_i
theorem S_set {i : Nat} {x : Str} {pos' : Pos} (hN : X.N.Nodup) (hi : X.N[i]? = some x) (hx : Loc X.env.scope x) (hk : kp i = false) (he : PE X e (tE (kt X) W sa)) (hs : swapsWith e (some (.Name x pos')) pos.line X.env = pure false := by rfl) (hf : X.fn x = true ∨ X.env.scope.names.lookup x = some .local := by first | exact .inl rfl | exact .inr rfl | assumption) :
    PS X (.Assign [.Name x pos'] e pos) (tS (kt X) kp W (sSet i sa)) := ps_imp (ps_set hN hi hx he hs hf) fun _ _ _ => set_i hk
theorem S_asg {b : Bd} (he : PE X e (tE (kt X) W sa)) (hg : PG X tg (tG (kt X) kp b)) (hs : swapsWithSole [tg] e pos.line X.env = pure false := by rfl) (hw : swappedStores [tg] e X.env = pure none := by rfl) (h1 : (assignEach [tg] X.env).map (·.2) = [assign tg X.env] := by rfl) :
    PS X (.Assign [tg] e pos) (tS (kt X) kp W (sAsg b sa)) := ps_imp (ps_asg he hg hs hw h1) fun _ _ _ => asg_i
theorem S_setLcE {i : Nat} {y : Str} {py spos : Pos} {ia : SI} {b : Bd} {t : STe} (hc : X.calm = true) (hN : X.N.Nodup) (hy : X.N[i]? = some y) (hyl : X.env.scope.names.lookup y = some .local) (hk : kp i = false)
    (hsw : swapsWith (.ListComp elt [⟨tg, it, ifs, 0⟩] scope pos) (some (.Name y py)) spos.line X.env = pure true) (ok : BlkOk X.N X.env.scope scope own) (hi : PI X tg it (tI (kt X) W ia))
    (hg : ∀ (s : Shared) (H : Hp) (C : Addr) (cl : List (Str × Addr)) (fp : List Addr), PG (X.blk s H scope (compEnvC scope cl C X.env) fp) tg (tG (kt X) (kpOwn (own.map (·.2))) b))
    (ht : ∀ (s : Shared) (H : Hp) (C : Addr) (cl : List (Str × Addr)) (fp : List Addr), PTs (X.blk s H scope (compEnvC scope cl C X.env) fp) ifs (tTE (kt X) W0 t))
    (he : ∀ (s : Shared) (H : Hp) (C : Addr) (cl : List (Str × Addr)) (fp : List Addr), PE (X.blk s H scope (compEnvC scope cl C X.env) fp) elt (tE (kt X) W0 sa))
    (hs : ∀ x, foldedSetIterable it X.env x = pure x := by intro _; rfl) : PS X (.Assign [.Name y py] (.ListComp elt [⟨tg, it, ifs, 0⟩] scope pos) spos) (tS (kt X) kp W (sSet i (sLc (own.map (·.2)) ia b t sa))) :=
  ps_imp (ps_setLc hc hN hy hyl hsw hi ok hg ht he hs) fun D σ H h => by
    obtain ⟨env, fp, r, nd, h'⟩ := set_i (i := i) hk h
    exact lc_i ⟨env, fp, r, nd, h'⟩
theorem S_setLcU {i : Nat} {y : Str} {py spos : Pos} {pa : SAV} {b : Bd} {t : STu} (hc : X.calm = true) (hN : X.N.Nodup) (hy : X.N[i]? = some y) (hyl : X.env.scope.names.lookup y = some .local) (hk : kp i = false)
    (hsw : swapsWith (.ListComp elt [⟨tg, it, ifs, 0⟩] scope pos) (some (.Name y py)) spos.line X.env = pure true) (ok : BlkOk X.N X.env.scope scope own) (hi : PI X tg it (tIV (kt X) pa))
    (hg : ∀ (s : Shared) (H : Hp) (C : Addr) (cl : List (Str × Addr)) (fp : List Addr), PG (X.blk s H scope (compEnvC scope cl C X.env) fp) tg (tGU (kt X) (kpOwn (own.map (·.2))) b))
    (ht : ∀ (s : Shared) (H : Hp) (C : Addr) (cl : List (Str × Addr)) (fp : List Addr), PTs (X.blk s H scope (compEnvC scope cl C X.env) fp) ifs (tTU (kt X) t))
    (he : ∀ (s : Shared) (H : Hp) (C : Addr) (cl : List (Str × Addr)) (fp : List Addr), PE (X.blk s H scope (compEnvC scope cl C X.env) fp) elt (tU (kt X) p))
    (hs : ∀ x, foldedSetIterable it X.env x = pure x := by intro _; rfl) : PS X (.Assign [.Name y py] (.ListComp elt [⟨tg, it, ifs, 0⟩] scope pos) spos) (tS (kt X) kp W (sSet i (sU (pLc (own.map (·.2)) pa b t p)))) :=
  ps_imp (ps_setLc hc hN hy hyl hsw hi ok hg ht he hs) fun D σ H h => by
    obtain ⟨env, fp, r, nd, h'⟩ := set_i (i := i) hk h
    exact lc_u (by
      unfold PostE at h'
      unfold sU at h'
      cases q : pLc (own.map (·.2)) pa b t p env with
      | none => rw [q] at h'; exact h'.elim
      | some m =>
        rw [q] at h'
        refine ⟨env, fp, m, r, q, fun v H1 fm s x n fr => h' v H1 fm fp x (r.st env (Same.st1 s _)) ?_ (Mv.same s fr)⟩
        refine List.nodup_append.mpr ⟨n, nd, fun a ha b hb => ?_⟩
        rintro rfl
        obtain ⟨o, e, _⟩ := r.owned env a hb
        rw [fr a ha] at e; cases e)
theorem S_for {ia : SI} {b : Bd} {body : List Stmt} (hp : PassesOwn (model X.prog X.w) X.A X.env X.xe) (hc : X.calm = true) (hi : PI X tg it (tI (kt X) W ia)) (hg : PG X tg (tG (kt X) kp b)) (hb : PSs X body (tS (kt X) kp W s))
    (hs : ∀ x, foldedSetIterable it X.env x = pure x := by intro _; rfl) : PS X (.For tg it body [] pos) (tS (kt X) kp W (sFor ia b s)) := ps_imp (ps_for hp hc hi hg hb hs) fun _ _ _ => for_i
theorem S_setIx {i : Nat} {o ix : Expr} {q : SV} {tp : Pos} (he : PE X e (tE (kt X) W sa)) (ho : PE X o (tVar i)) (hi : PE X ix (tV (kt X) q))
    (hs : swapsWithSole [.Subscript o ix tp] e pos.line X.env = pure false := by rfl) (hw : swappedStores [.Subscript o ix tp] e X.env = pure none := by rfl) (h1 : (assignEach [.Subscript o ix tp] X.env).map (·.2) = [assign (.Subscript o ix tp) X.env] := by rfl)
    (ha : ∀ v, assign (.Subscript o ix tp) X.env v = (do
      let ov ← holding [v] (eval o X.env)
      let iv ← holding [v, ov] (eval ix X.env)
      standAt tp
      holding [v, ov, iv] (setItem ov iv v)
      release [v, ov, iv] []) := by intro _; rfl) :
    PS X (.Assign [.Subscript o ix tp] e pos) (tS (kt X) kp W (sSetIx i sa q)) := ps_imp (ps_asg he (pg_sub ho hi set_list ha) hs hw h1) fun _ _ _ => setIx_i
/-! methods of a list in a slot -/
theorem E_lm {i : Nat} {r : V → List V → Hp → VK → Prop} {f : List D → D → Option (D × List D)} (hf : LstM (kt X) r f) (h : PE X e (tBM X.K "list" r (tVar i) (tCons (tE (kt X) W sa) tNil))) : PE X e (tE (kt X) W (sLstM i sa f)) := pe_imp h fun _ _ _ => lstM_i hf
theorem E_of (h : PE X e (tU (kt X) p)) : PE X e (tE (kt X) W (sU p)) := eOfU h
theorem E_move {i : Nat} (h : PE X e (tVar i)) : PE X e (tE (kt X) W (sMove i)) := eMove i h
theorem V_of (h : PE X e (tU (kt X) p)) : PE X e (tV (kt X) p) := vOfU h
theorem S_par2 {i j : Nat} {x y : Str} {a b : Expr} {ra : SA} {px py pt : Pos} {k1 k2 pt2} (hc : X.calm = true) (hN : X.N.Nodup) (hi : X.N[i]? = some x) (hj : X.N[j]? = some y) (hij : i ≠ j)
    (hx : X.env.scope.names.lookup x = some .local) (hy : X.env.scope.names.lookup y = some .local) (ki : kp i = false) (kj : kp j = false) (ha : PA X [a, b] (tA (kt X) W ra))
    (hw : swappedStores [.Tuple [.Name x px, .Name y py] k1 pt] (.Tuple [a, b] k2 pt2) X.env = pure (some [x, y]) := by rfl)
    (hs : swapsWithSole [.Tuple [.Name x px, .Name y py] k1 pt] (.Tuple [a, b] k2 pt2) pos.line X.env = pure false := by rfl) :
    PS X (.Assign [.Tuple [.Name x px, .Name y py] k1 pt] (.Tuple [a, b] k2 pt2) pos) (tS (kt X) kp W (sPar [i, j] ra)) := ps_imp (ps_par hc hN hi hj hij hx hy ha hw hs) fun _ _ _ => par2_i ki kj
theorem S_par3 {i j l : Nat} {x y z : Str} {a b c : Expr} {ra : SA} {px py pz pt : Pos} {k1 k2 pt2} (hc : X.calm = true) (hN : X.N.Nodup) (hi : X.N[i]? = some x) (hj : X.N[j]? = some y) (hl : X.N[l]? = some z) (hij : i ≠ j) (hil : i ≠ l) (hjl : j ≠ l)
    (hx : X.env.scope.names.lookup x = some .local) (hy : X.env.scope.names.lookup y = some .local) (hz : X.env.scope.names.lookup z = some .local) (ki : kp i = false) (kj : kp j = false) (kl : kp l = false) (ha : PA X [a, b, c] (tA (kt X) W ra))
    (hw : swappedStores [.Tuple [.Name x px, .Name y py, .Name z pz] k1 pt] (.Tuple [a, b, c] k2 pt2) X.env = pure (some [x, y, z]) := by rfl)
    (hs : swapsWithSole [.Tuple [.Name x px, .Name y py, .Name z pz] k1 pt] (.Tuple [a, b, c] k2 pt2) pos.line X.env = pure false := by rfl) :
    PS X (.Assign [.Tuple [.Name x px, .Name y py, .Name z pz] k1 pt] (.Tuple [a, b, c] k2 pt2) pos) (tS (kt X) kp W (sPar [i, j, l] ra)) := ps_imp (ps_par3 hc hN hi hj hl hij hil hjl hx hy hz ha hw hs) fun _ _ _ => par3_i ki kj kl
end
def isNon : D → Bool
  | .non => true
  | _ => false
theorem isNon_v {C : Kt} {H : Hp} {m : D} {v : V} {f : List Addr} (x : RP C H m v f) : decide (v = .non) = isNon m := by
  cases m with
  | non => obtain ⟨rfl, _⟩ := x; rfl
  | bl b => obtain ⟨rfl, _⟩ := x; rfl
  | int b => obtain ⟨rfl, _⟩ := x; rfl
  | str b => obtain ⟨rfl, _⟩ := x; rfl
  | tup ms => obtain ⟨a, vs, rfl, _⟩ := x; rfl
  | lst o ms => obtain ⟨a, vs, g, rfl, _⟩ := x; rfl
  | dct o ms => obtain ⟨a, g, rfl, _⟩ := x; rfl
  | klst ms => obtain ⟨a, vs, rfl, _⟩ := x; rfl
  | ins o c fs => obtain ⟨a, A, dx, ws, g, rfl, _⟩ := x; rfl
def isD (x y : D) : Option D := match y with
  | .non => some (.bl (isNon x))
  | _ => none
def isNotD (x y : D) : Option D := match y with
  | .non => some (.bl (!isNon x))
  | _ => none
theorem o2_is {C : Kt} : Op2 C (fun x y H Q => y = .non ∧ Q (.bl (decide (x = .non))) H) isD := by
  intro H x y v u f1 f2 m h1 h2 e Q k
  unfold isD at e
  split at e
  · cases e
    obtain ⟨rfl, _⟩ := h2
    refine ⟨rfl, ?_⟩
    rw [isNon_v h1]; exact bl_res k
  · cases e
theorem o2_isNot {C : Kt} : Op2 C (fun x y H Q => y = .non ∧ Q (.bl (!decide (x = .non))) H) isNotD := by
  intro H x y v u f1 f2 m h1 h2 e Q k
  unfold isNotD at e
  split at e
  · cases e
    obtain ⟨rfl, _⟩ := h2
    refine ⟨rfl, ?_⟩
    rw [isNon_v h1]; exact bl_res k
  · cases e
theorem hu64 {A : Around} {k : Nat} (hr : Room k A) : A.units + 64 < cLine := hr.units
theorem hu65 {A : Around} {k : Nat} (hr : Room k A) : A.units + 65 < cLine := by have := hr.un; omega
def kpL (l : List Nat) : Nat → Bool := fun i => l.contains i
theorem kpL_lt {l : List Nat} {n : Nat} (h : l.all (fun i => decide (i < n)) = true) : ∀ i, kpL l i = true → i < n := fun i hi => by
  have := List.all_eq_true.mp h i (by simpa [kpL] using hi)
  exact of_decide_eq_true this
end T

set_option Elab.async false
set_option linter.all false
set_option maxRecDepth 100000
set_option maxHeartbeats 4000000
namespace T
open PySem PySem.Spec PyProof.Rows L2

/-! ### instances that are only read -/
theorem ins_rd {P : Program} {w : World} {H : Hp} {h : Heap} {a C dx : Addr} {fs : List (Str × V)} (hok : HOk P w H h) (e : Rd H a (.ins C dx fs)) : ∃ mA, ObjM h a dx C mA ∧ (∀ f, RelO (fs.lookup f) (mA f)) := by
  obtain ⟨d, z, ne, ob, mA, n, r, q⟩ := (show ObjOk P w H h a (.ins C dx fs) from e.ok hok)
  exact ⟨mA, ⟨ob, n, ne⟩, r⟩
section
variable {X : Cx} {pins : List (Addr × Obj)} {σ : L2.St} {H : Hp} {s : Shared} {a C dx : Addr} {fs : List (Str × V)} {f : Str} {v : V} {A : Around} {E : Value → Shared → Prop}
theorem getattr_R {b : Bool} {Q : Value → Shared → Prop} (I : Inv X pins σ H s) (e : Rd H a (.ins C dx fs)) (c : Cls X.K C) (n : NoAttr X.K C f) (l : fs.lookup f = some v)
    (h : ∀ u s', Inv X pins σ H s' → RelV v u → Q u s') : wpAny (model X.prog X.w) A (getAttr (.ref a) f b) Q E s := by
  obtain ⟨mA, O, r⟩ := ins_rd I.hok e
  obtain ⟨u, hu, ru⟩ := RelO.some_of (v := v) (o := mA f) (by rw [← l]; exact r f)
  exact get_map I.kIn O (c.get f) c.hd n hu (handed_of ru) (h u _ (I.tok _) ru)
theorem getmeth_R {m : Str} {g : Addr} {pl : Sem Bool} {Q : Value × List Value → Shared → Prop} (I : Inv X pins σ H s) (e : Rd H a (.ins C dx fs)) (c : Cls X.K C) (k : Meth X.K C m g) (l : fs.lookup m = none)
    (h : Q (.ref g, [.ref a]) s) : wpAny (model X.prog X.w) A (getMethod (.ref a) m pl) Q E s := by
  obtain ⟨mA, O, r⟩ := ins_rd I.hok e
  have hn : mA m = none := RelO.none_of (by rw [← l]; exact r m)
  exact get_meth I.kIn O (c.get m) k.at_ k.fn hn h
end
/-- e.f, the instance only read -/
def tFldR (K : PySem.W.Frag) (ta : TE) (f : Str) : TE := fun σ H Q => ta σ H fun x H1 => ∃ a C dx fs v, x = .ref a ∧ Rd H1 a (.ins C dx fs) ∧ Cls K C ∧ NoAttr K C f ∧ fs.lookup f = some v ∧ Q v H1
theorem pe_fldR {X : Cx} {e : Expr} {f : Str} {pos : Pos} {ta : TE} (he : PE X e ta) (hb : attributeBase e f X.env (eval e X.env) = eval e X.env := by rfl) : PE X (.Attribute e f pos) (tFldR X.K ta f) := by
  refine ⟨fun pins s σ H Q I h => ?_⟩
  refine attr_of hb (thn (he.run pins s σ H _ I h) fun u s1 ⟨x, H1, I1, rx, a, C, dx, fs, v, ex, ea, c, n, l, q⟩ => ?_)
  subst ex
  obtain rfl : u = Value.ref a := rx
  exact getattr_R I1 ea c n l fun u' s2 I2 ru => ⟨v, H1, I2, ru, q⟩
/-- what is asked of a class and a field -/
def FldOk (K : PySem.W.Frag) (mg : Str → Option Value) (c f : Str) : Prop := ∀ A, mg c = some (.ref A) → Cls K A ∧ NoAttr K A f
def pFld (L : List Str) (f : Str) (p : SV) : SV := fun env => match p env with
  | some (.ins _ c fs) => if L.contains c then fs.lookup f else none
  | _ => none
theorem RPf.look {C : Kt} {H : Hp} {f : Str} {m : D} : ∀ {fs : List (Str × D)} {ws : List (Str × V)} {fp : List Addr}, RPf C H fs ws fp → fs.lookup f = some m → ∃ v fm, ws.lookup f = some v ∧ RP C H m v fm
  | [], _, _, _, e => by cases e
  | (k, x) :: r, _, _, h, e => by
    obtain ⟨v, wr, f1, f2, rfl, rfl, h1, h2⟩ := h
    rw [List.lookup_cons] at e ⊢
    cases hk : (f == k) with
    | true =>
      rw [hk] at e
      cases e
      exact ⟨v, f1, rfl, h1⟩
    | false =>
      rw [hk] at e
      exact RPf.look h2 e
theorem fld_v {C : Kt} {σ : L2.St} {H : Hp} {Q : VK} {L : List Str} {f : Str} {p : SV} (hL : ∀ c ∈ L, FldOk C.K C.mg c f) (x : tV C (pFld L f p) σ H Q) : tFldR C.K (tV C p) f σ H Q := by
  obtain ⟨env, fp, m, r, e, k⟩ := x
  unfold pFld at e
  split at e
  · rename_i o c fs q
    split at e
    · rename_i hc
      refine ⟨env, fp, _, r, q, fun v H' fm s y => ?_⟩
      obtain ⟨a, A, dx, ws, g, rfl, hm, a1, r1⟩ := y
      obtain ⟨w, fw, l, z⟩ := r1.look e
      obtain ⟨cl, na⟩ := hL c (by simpa using hc) A hm
      exact ⟨a, A, dx, ws, w, rfl, a1.rd, cl, na, l, k w H' fw s z⟩
    · cases e
  · cases e
theorem V_fld {X : Cx} {e : Expr} {f : Str} {pos : Pos} {L : List Str} {p : SV} (hL : ∀ c ∈ L, FldOk X.K X.mg c f) (h : PE X e (tV (kt X) p)) (hb : attributeBase e f X.env (eval e X.env) = eval e X.env := by rfl) : PE X (.Attribute e f pos) (tV (kt X) (pFld L f p)) := pe_imp (pe_fldR h hb) fun _ _ _ => fld_v hL

/-! ### values of 'and', 'or' (the first ones bools), -e, not e -/
def pAndV (p q : SV) : SV := fun env => match p env with
  | some (.bl true) => q env
  | some (.bl false) => some (.bl false)
  | _ => none
def pOrV (p q : SV) : SV := fun env => match p env with
  | some (.bl false) => q env
  | some (.bl true) => some (.bl true)
  | _ => none
def sAndV (a b : SE) : SE := sBind a fun x => match x with
  | .bl true => b
  | .bl false => sOk (.bl false)
  | _ => fun _ => none
def sOrV (a b : SE) : SE := sBind a fun x => match x with
  | .bl false => b
  | .bl true => sOk (.bl true)
  | _ => fun _ => none
section
variable {C : Kt} {W : WXT} {σ : L2.St} {H : Hp} {Q : VK}
theorem andV_u {p q : SV} (x : tU C (pAndV p q) σ H Q) : tAndV (tV C p) (tU C q) σ H Q := by
  obtain ⟨env, fp, m, r, e, k⟩ := x
  unfold pAndV at e
  split at e
  · rename_i h
    refine ⟨env, fp, _, r, h, fun v H1 fm s y => ⟨true, y.1, iteT ⟨env, fp, m, r.st env (Same.st1 s _), e, fun w H2 f2 s2 z n fr => k w H2 f2 (s.trans s2) z n fun a ha => s.free (fr a ha)⟩⟩⟩
  · rename_i h
    cases e
    exact ⟨env, fp, _, r, h, fun v H1 fm s y => ⟨false, y.1, iteF (k _ H1 [] s ⟨rfl, rfl⟩ List.nodup_nil noneIn)⟩⟩
  · cases e
theorem orV_u {p q : SV} (x : tU C (pOrV p q) σ H Q) : tOrV (tV C p) (tU C q) σ H Q := by
  obtain ⟨env, fp, m, r, e, k⟩ := x
  unfold pOrV at e
  split at e
  · rename_i h
    refine ⟨env, fp, _, r, h, fun v H1 fm s y => ⟨false, y.1, iteF ⟨env, fp, m, r.st env (Same.st1 s _), e, fun w H2 f2 s2 z n fr => k w H2 f2 (s.trans s2) z n fun a ha => s.free (fr a ha)⟩⟩⟩
  · rename_i h
    cases e
    exact ⟨env, fp, _, r, h, fun v H1 fm s y => ⟨true, y.1, iteT (k _ H1 [] s ⟨rfl, rfl⟩ List.nodup_nil noneIn)⟩⟩
  · cases e
theorem andV_e {a b : SE} (x : tE C W (sAndV a b) σ H Q) : tAndV (tE C W a) (tE C W b) σ H Q := by
  obtain ⟨env, fp, r, nd, k⟩ := x
  refine ⟨env, fp, r, nd, ?_⟩
  unfold sAndV sBind at k
  cases q : a env with
  | none => rw [q] at k; exact k.elim
  | some z =>
    obtain ⟨z, env1⟩ := z
    rw [q] at k
    cases z with
    | ex c m => exact k
    | ok m =>
      cases m with
      | bl bb =>
        intro v H1 fm fe y r1 n1 m1
        have n2 := (List.nodup_append.mp n1).2.1
        have m2 : Mv H H1 fp fe := m1.less fun b hb => List.mem_append_right _ hb
        cases bb with
        | true => exact ⟨true, y.1, iteT ⟨env1, fe, r1, n2, k.shift m2⟩⟩
        | false =>
          refine ⟨false, y.1, iteF ?_⟩
          exact k _ H1 [] fe ⟨rfl, rfl⟩ r1 n2 m2
      | _ => exact k.elim
theorem orV_e {a b : SE} (x : tE C W (sOrV a b) σ H Q) : tOrV (tE C W a) (tE C W b) σ H Q := by
  obtain ⟨env, fp, r, nd, k⟩ := x
  refine ⟨env, fp, r, nd, ?_⟩
  unfold sOrV sBind at k
  cases q : a env with
  | none => rw [q] at k; exact k.elim
  | some z =>
    obtain ⟨z, env1⟩ := z
    rw [q] at k
    cases z with
    | ex c m => exact k
    | ok m =>
      cases m with
      | bl bb =>
        intro v H1 fm fe y r1 n1 m1
        have n2 := (List.nodup_append.mp n1).2.1
        have m2 : Mv H H1 fp fe := m1.less fun b hb => List.mem_append_right _ hb
        cases bb with
        | false => exact ⟨false, y.1, iteF ⟨env1, fe, r1, n2, k.shift m2⟩⟩
        | true =>
          refine ⟨true, y.1, iteT ?_⟩
          exact k _ H1 [] fe ⟨rfl, rfl⟩ r1 n2 m2
      | _ => exact k.elim
end
/-- one-place operations -/
def Op1 (C : Kt) (r : V → Hp → VK → Prop) (f : D → Option D) : Prop := ∀ (H : Hp) (x : D) (v : V) (f1 : List Addr) (m : D), RP C H x v f1 → f x = some m →
  ∀ Q : VK, (∀ w H' fm, Same H H' → RP C H' m w fm → fm.Nodup → (∀ a ∈ fm, H a = none) → Q w H') → r v H Q
def p1 (f : D → Option D) (p : SV) : SV := fun env => (p env).bind f
theorem un_v {C : Kt} {σ : L2.St} {H : Hp} {Q : VK} {r : V → Hp → VK → Prop} {f : D → Option D} (h : Op1 C r f) {p : SV} (x : tU C (p1 f p) σ H Q) : tUn r (tV C p) σ H Q := by
  obtain ⟨env, fp, m, e, hm, k⟩ := x
  unfold p1 at hm
  cases q : p env with
  | none => rw [q] at hm; cases hm
  | some z =>
    rw [q] at hm
    exact ⟨env, fp, z, e, q, fun v H1 f1 s1 x1 => h H1 z v f1 m x1 hm Q fun w H3 fm s3 x3 n3 fr => k w H3 fm (s1.trans s3) x3 n3 fun a ha => s1.free (fr a ha)⟩
def negD : D → Option D
  | .int i => some (.int (-i))
  | _ => none
theorem o1_neg {C : Kt} : Op1 C (rU fun i => .int (-i)) negD := by
  intro H x v f1 m h e Q k
  unfold negD at e
  split at e
  · cases e
    obtain ⟨rfl, _⟩ := h
    exact ⟨_, rfl, int_res k⟩
  · cases e
def notD : D → Option D
  | .bl b => some (.bl (!b))
  | _ => none
section
variable {X : Cx} {W : WXT} {e a b : Expr} {rest : List Expr} {pos : Pos} {p q : SV} {sa sb : SE}
theorem U_and (ha : PE X a (tV (kt X) p)) (hb : PE X (.BoolOp .And (b :: rest) pos) (tU (kt X) q)) : PE X (.BoolOp .And (a :: b :: rest) pos) (tU (kt X) (pAndV p q)) := pe_imp (pe_and ha hb) fun _ _ _ => andV_u
theorem U_or (ha : PE X a (tV (kt X) p)) (hb : PE X (.BoolOp .Or (b :: rest) pos) (tU (kt X) q)) : PE X (.BoolOp .Or (a :: b :: rest) pos) (tU (kt X) (pOrV p q)) := pe_imp (pe_or ha hb) fun _ _ _ => orV_u
theorem E_and (ha : PE X a (tE (kt X) W sa)) (hb : PE X (.BoolOp .And (b :: rest) pos) (tE (kt X) W sb)) : PE X (.BoolOp .And (a :: b :: rest) pos) (tE (kt X) W (sAndV sa sb)) := pe_imp (pe_and ha hb) fun _ _ _ => andV_e
theorem E_or (ha : PE X a (tE (kt X) W sa)) (hb : PE X (.BoolOp .Or (b :: rest) pos) (tE (kt X) W sb)) : PE X (.BoolOp .Or (a :: b :: rest) pos) (tE (kt X) W (sOrV sa sb)) := pe_imp (pe_or ha hb) fun _ _ _ => orV_e
theorem one_u {op : BoolOp} {t : TE} (h : PE X a t) : PE X (.BoolOp op [a] pos) t := pe_one h
theorem U_neg (ha : PE X a (tV (kt X) p)) : PE X (.UnaryOp .USub a pos) (tU (kt X) (p1 negD p)) := pe_imp (pe_un un_neg ha) fun _ _ _ => un_v o1_neg
end
theorem notV_u {C : Kt} {σ : L2.St} {H : Hp} {Q : VK} {p : SV} (x : tU C (p1 notD p) σ H Q) : tNotV (tV C p) σ H Q := by
  obtain ⟨env, fp, m, r, e, k⟩ := x
  unfold p1 at e
  cases q : p env with
  | none => rw [q] at e; cases e
  | some z =>
    rw [q] at e
    cases z with
    | bl b =>
      cases e
      exact ⟨env, fp, _, r, q, fun v H1 fm s y => ⟨b, y.1, k _ H1 [] s ⟨rfl, rfl⟩ List.nodup_nil noneIn⟩⟩
    | _ => cases e
def s1 (f : D → Option D) (a : SE) : SE := sBind a fun x => sOpt (f x)
theorem notV_e {C : Kt} {W : WXT} {σ : L2.St} {H : Hp} {Q : VK} {a : SE} (x : tE C W (s1 notD a) σ H Q) : tNotV (tE C W a) σ H Q := by
  obtain ⟨env, fp, r, nd, k⟩ := x
  refine tE_mono ((Now.start r nd).step k) fun v H1 ⟨m, env1, n1, q1, k1⟩ => ?_
  obtain ⟨m', hm, k2⟩ := sOpt_some k1
  obtain ⟨ft, fe, ar, _⟩ := id n1
  obtain ⟨v1, vr, f1, f2, e1, rfl, x1, ar⟩ := ar
  cases e1
  cases m with
  | bl b =>
    cases hm
    exact ⟨b, x1.1, n1.done k2 (Same.refl H1) ⟨rfl, rfl⟩ List.nodup_nil noneIn⟩
  | _ => cases hm
theorem U_notV {X : Cx} {a : Expr} {pos : Pos} {p : SV} (ha : PE X a (tV (kt X) p)) : PE X (.UnaryOp .Not a pos) (tU (kt X) (p1 notD p)) := pe_imp (pe_not ha) fun _ _ _ => notV_u
theorem E_notV {X : Cx} {W : WXT} {a : Expr} {pos : Pos} {sa : SE} (ha : PE X a (tE (kt X) W sa)) : PE X (.UnaryOp .Not a pos) (tE (kt X) W (s1 notD sa)) := pe_imp (pe_not ha) fun _ _ _ => notV_e
end T

set_option Elab.async false
set_option linter.all false
set_option maxRecDepth 100000
set_option maxHeartbeats 4000000
namespace T
open PySem PySem.Spec PyProof.Rows L2

/-! ### isinstance -/
def tyN : D → Option String
  | .non => some "NoneType"
  | .bl _ => some "bool"
  | .int _ => some "int"
  | .str _ => some "str"
  | .tup _ => some "tuple"
  | .lst _ _ => some "list"
  | .klst _ => none
  | .dct _ _ => some "dict"
  | .ins _ _ _ => none
/-- what is asked of a class whose instances are asked about -/
structure InsK (K : PySem.W.Frag) (C : Addr) : Prop where
  cl : Cls K C
  ha : PySem.W.findIn K (.ref C) "__class__" = some (some (.builtin "object.__class__"))
  hn : PySem.W.specialIn K (.builtin "object.__class__") "__get__" = some (some (.builtin "getset_descriptor.__get__"))
  htk : PySem.W.takesIn K (.builtin "object.__class__") = some true
  hm : PySem.W.mroIn K C (.type "object") = some true
structure IsiOk (K : PySem.W.Frag) (mg : Str → Option Value) (u : Value) (tb : String → Option Bool) (tc : Str → Option Bool) : Prop where
  b : ∀ t b, tb t = some b → PySem.W.kitOne K (.type t) u = some b
  c : ∀ c b A, tc c = some b → mg c = some (.ref A) → InsK K A ∧ PySem.W.kitOne K (.ref A) u = some b
def isiD (tb : String → Option Bool) (tc : Str → Option Bool) : D → Option D
  | .ins _ c _ => (tc c).map .bl
  | m => match tyN m with
    | some t => (tb t).map .bl
    | none => none
theorem kitIns {X : Cx} {pins : List (Addr × Obj)} {σ : L2.St} {H : Hp} {s : Shared} {a C dx : Addr} {fs : List (Str × V)} (I : Inv X pins σ H s) (k : InsK X.K C) (e : Rd H a (.ins C dx fs)) :
    ∃ P : Heap → Prop, PySem.W.KitX X.K (.ref a) (.ref C) P ∧ P s.heap := by
  obtain ⟨mA, O, _⟩ := ins_rd I.hok e
  obtain ⟨od, J, _⟩ := O.look
  exact ⟨_, PySem.W.kitx_own (k.cl.get _) k.cl.hd k.ha k.hn k.htk k.hm, J⟩
theorem At.rdd {o : Bool} {H : Hp} {a : Addr} {u : HO} {f g : List Addr} (h : At o H a u f g) : Rd H a u := by
  cases o with
  | true => exact .inl h.1
  | false => exact .inr h.1
theorem kit_D {X : Cx} {pins : List (Addr × Obj)} {σ : L2.St} {H : Hp} {s : Shared} {m : D} {v : V} {f : List Addr} {u : Value} {t : String} (I : Inv X pins σ H s) (x : RP (kt X) H m v f) (r : RelV v u) (e : tyN m = some t) :
    ∃ P : Heap → Prop, PySem.W.KitX X.K u (.type t) P ∧ P s.heap ∧ u ≠ .builtin "__main__.__loader__#opaque" := by
  cases m with
  | non => cases e; obtain ⟨rfl, _⟩ := x; cases (show u = Value.none from r); exact ⟨_, PySem.W.kitx_none, True.intro, fun z => nomatch z⟩
  | bl y => cases e; obtain ⟨rfl, _⟩ := x; cases (show u = Value.bool y from r); exact ⟨_, PySem.W.kitx_bool, True.intro, fun z => nomatch z⟩
  | int i => cases e; obtain ⟨rfl, _⟩ := x; obtain ⟨t, q⟩ := (show ∃ t, u = Value.int i t from r); cases q; exact ⟨_, PySem.W.kitx_int, True.intro, fun z => nomatch z⟩
  | str y => cases e; obtain ⟨rfl, _⟩ := x; obtain ⟨t, q⟩ := (show ∃ t, u = Value.str y t from r); cases q; exact ⟨_, PySem.W.kitx_str, True.intro, fun z => nomatch z⟩
  | tup ms =>
    cases e
    obtain ⟨a, vs, rfl, h1, _⟩ := x
    cases (show u = Value.ref a from r)
    obtain ⟨_, _, _, o, h1, h2, _⟩ := (show ObjOk X.prog X.w H s.heap a (.tup vs) from I.hok a _ h1)
    exact ⟨_, PySem.W.kitx_tuple, ⟨o, h1, h2⟩, fun z => nomatch z⟩
  | lst o ms =>
    cases e
    obtain ⟨a, vs, g, rfl, h1, _⟩ := x
    cases (show u = Value.ref a from r)
    obtain ⟨_, _, n, _, h1⟩ := (show ObjOk X.prog X.w H s.heap a (.lst vs) from h1.rdd.ok I.hok)
    exact ⟨_, PySem.W.kitx_list, ⟨_, h1, rfl⟩, fun z => nomatch z⟩
  | klst _ => cases e
  | dct o kvs =>
    cases e
    obtain ⟨a, g, rfl, h⟩ := x
    cases (show u = Value.ref a from r)
    rcases h with ⟨ws, h1, _⟩ | ⟨ws, h1, _⟩
    · obtain ⟨_, _, vs, _, o, es, ep, h1, h2, _⟩ := (show ObjOk X.prog X.w H s.heap a (.dK ws) from h1.rdd.ok I.hok)
      exact ⟨_, PySem.W.kitx_dict, ⟨o, h1, h2.1⟩, fun z => nomatch z⟩
    · obtain ⟨_, _, xs, _, o, es, ep, h1, h2, _⟩ := (show ObjOk X.prog X.w H s.heap a (.dT ws) from h1.rdd.ok I.hok)
      exact ⟨_, PySem.W.kitx_dict, ⟨o, h1, h2.1⟩, fun z => nomatch z⟩
  | ins _ _ _ => cases e
def rIsZ (C : Kt) (u : Value) (tb : String → Option Bool) (tc : Str → Option Bool) : List V → Hp → VK → Prop := fun xs H Q => ∃ (x c : V) (m : D) (f : List Addr) (b : Bool), xs = [x, c] ∧ ClsV c u ∧ RP C H m x f ∧ isiD tb tc m = some (.bl b) ∧ Q (.bl b) H
theorem call_isZ {X : Cx} {u : Value} {tb : String → Option Bool} {tc : Str → Option Bool} (ok : IsiOk X.K X.mg u tb tc) : CallR X (.builtin "isinstance") (rIsZ (kt X) u tb tc) := by
  intro pins s σ H xs us Q I r h
  obtain ⟨x, c, m, f, b, rfl, k, ty, e, q⟩ := h
  obtain ⟨u1, u2, rfl, r1, r2⟩ := vals2 r
  have e2 := k.eq r2
  subst e2
  unfold isiD at e
  split at e
  · rename_i o c' fs
    obtain ⟨a, A, dx, ws, g, rfl, hc, h1, _⟩ := ty
    cases (show u1 = Value.ref a from r1)
    cases q2 : tc c' with
    | none => rw [q2] at e; cases e
    | some bb =>
      rw [q2] at e
      cases e
      obtain ⟨z1, z2⟩ := ok.c _ _ _ q2 hc
      obtain ⟨P, Z, p⟩ := kitIns I z1 h1.rdd
      exact PySem.W.kia_one Z I.kIn p z2 (fun z => nomatch z) fun tk => ⟨.bl _, H, I.tok tk, rfl, q⟩
  · split at e
    · rename_i t q1
      cases q2 : tb t with
      | none => rw [q2] at e; cases e
      | some bb =>
        rw [q2] at e
        cases e
        obtain ⟨P, Z, p, hx⟩ := kit_D I ty r1 q1
        exact PySem.W.kia_one Z I.kIn p (ok.b _ _ q2) hx fun tk => ⟨.bl _, H, I.tok tk, rfl, q⟩
    · cases e
theorem isZ_v {C : Kt} {u : Value} {c : V} {tb : String → Option Bool} {tc : Str → Option Bool} (k : ClsV c u) {p : SV} {σ : L2.St} {H : Hp} {Q : VK} (x : tU C (p1 (isiD tb tc) p) σ H Q) : tCB (rIsZ C u tb tc) (tCons (tV C p) (tCons (tC c) tNil)) σ H Q := by
  obtain ⟨env, fp, m, r, e, kk⟩ := x
  unfold p1 at e
  cases q : p env with
  | none => rw [q] at e; cases e
  | some z =>
    rw [q] at e
    refine ⟨env, fp, z, r, q, fun v H1 f1 s1 x1 => ?_⟩
    have : ∃ b, m = .bl b := by
      simp only [Option.bind_some] at e
      unfold isiD at e
      split at e
      · rename_i o c' fs
        cases q2 : tc c' with
        | none => rw [q2] at e; cases e
        | some bb => rw [q2] at e; cases e; exact ⟨_, rfl⟩
      · split at e
        · rename_i t q1
          cases q2 : tb t with
          | none => rw [q2] at e; cases e
          | some bb => rw [q2] at e; cases e; exact ⟨_, rfl⟩
        · cases e
    obtain ⟨b, rfl⟩ := this
    exact ⟨v, c, z, f1, b, rfl, k, x1, e, kk _ H1 [] s1 ⟨rfl, rfl⟩ List.nodup_nil noneIn⟩
/-- the answers for a built-in type -/
def tbT (T : String) : String → Option Bool := fun t => if ["NoneType", "bool", "int", "str", "tuple", "list", "dict"].contains t then some (t == T || (t == "bool" && T == "int")) else none
theorem tbT_ok {K : PySem.W.Frag} {T : String} (h : (["NoneType", "bool", "int", "str", "tuple", "list", "dict"].all fun t => kitB t T == some (t == T || (t == "bool" && T == "int"))) = true) : ∀ t b, tbT T t = some b → PySem.W.kitOne K (.type t) (.type T) = some b := by
  intro t b e
  unfold tbT at e
  split at e
  · rename_i hc
    cases e
    have := List.all_eq_true.mp h t (by simpa using hc)
    exact kit_ty (by simpa using this)
  · cases e
theorem tb_int : (["NoneType", "bool", "int", "str", "tuple", "list", "dict"].all fun t => kitB t "int" == some (t == "int" || (t == "bool" && "int" == "int"))) = true := by decide +kernel
theorem tb_bool : (["NoneType", "bool", "int", "str", "tuple", "list", "dict"].all fun t => kitB t "bool" == some (t == "bool" || (t == "bool" && "bool" == "int"))) = true := by decide +kernel
theorem tb_str : (["NoneType", "bool", "int", "str", "tuple", "list", "dict"].all fun t => kitB t "str" == some (t == "str" || (t == "bool" && "str" == "int"))) = true := by decide +kernel
theorem tb_tuple : (["NoneType", "bool", "int", "str", "tuple", "list", "dict"].all fun t => kitB t "tuple" == some (t == "tuple" || (t == "bool" && "tuple" == "int"))) = true := by decide +kernel
theorem tb_list : (["NoneType", "bool", "int", "str", "tuple", "list", "dict"].all fun t => kitB t "list" == some (t == "list" || (t == "bool" && "list" == "int"))) = true := by decide +kernel
theorem tb_dict : (["NoneType", "bool", "int", "str", "tuple", "list", "dict"].all fun t => kitB t "dict" == some (t == "dict" || (t == "bool" && "dict" == "int"))) = true := by decide +kernel
/-- the classes of L are told from the built-in type T -/
def tcF (L : List Str) : Str → Option Bool := fun c => if L.contains c then some false else none
/-- isinstance's facts for a built-in type and the classes of L -/
def IsT (K : PySem.W.Frag) (mg : Str → Option Value) (L : List Str) (T : String) : Prop := ∀ c ∈ L, ∀ A, mg c = some (.ref A) → InsK K A ∧ PySem.W.kitOne K (.ref A) (.type T) = some false
theorem isi_ty {K : PySem.W.Frag} {mg : Str → Option Value} {L : List Str} {T : String} (h : (["NoneType", "bool", "int", "str", "tuple", "list", "dict"].all fun t => kitB t T == some (t == T || (t == "bool" && T == "int"))) = true) (hL : IsT K mg L T) : IsiOk K mg (.type T) (tbT T) (tcF L) :=
  { b := tbT_ok h
    c := fun c b A e hm => by
      unfold tcF at e
      split at e
      · rename_i hc
        cases e
        exact hL c (by simpa using hc) A hm
      · cases e }
/-- ... for an own class: what it answers of the built-in types is no; L tells the classes' answers -/
def tbN : String → Option Bool := fun t => if ["NoneType", "bool", "int", "str", "tuple", "list", "dict"].contains t then some false else none
def tcL (L : List (Str × Bool)) : Str → Option Bool := fun c => L.lookup c
structure IsC (K : PySem.W.Frag) (mg : Str → Option Value) (L : List (Str × Bool)) (u : Value) : Prop where
  b : ∀ t ∈ ["NoneType", "bool", "int", "str", "tuple", "list", "dict"], PySem.W.kitOne K (.type t) u = some false
  c : ∀ c b A, L.lookup c = some b → mg c = some (.ref A) → InsK K A ∧ PySem.W.kitOne K (.ref A) u = some b
theorem isi_cl {K : PySem.W.Frag} {mg : Str → Option Value} {L : List (Str × Bool)} {u : Value} (h : IsC K mg L u) : IsiOk K mg u tbN (tcL L) :=
  { b := fun t b e => by
      unfold tbN at e
      split at e
      · rename_i hc
        cases e
        exact h.b t (by simpa using hc)
      · cases e
    c := fun c b A e hm => h.c c b A e hm }
section
variable {X : Cx} {a : Expr} {p q pos : Pos} {sp : SV}
theorem U_isT {ty : String} {x : Str} {L : List Str} (h : (["NoneType", "bool", "int", "str", "tuple", "list", "dict"].all fun t => kitB t ty == some (t == ty || (t == "bool" && ty == "int"))) = true) (hL : IsT X.K X.mg L ty) (hg : Gl X "isinstance") (hm : X.mg "isinstance" = none)
    (hgT : Gl X x) (hmT : X.mg x = none) (hv : bootBuiltins x = some (.type ty)) (ha : PE X a (tV (kt X) sp)) (hn : x ≠ "__name__" := by decide) (hd : (x == ("__debug__" : Str)) = false := by decide) (hs : starEach [a, .Name x q] X.env = (false, eval a X.env) :: starEach [.Name x q] X.env := by rfl) :
    PE X (.Call (.Name "isinstance" p) [a, .Name x q] [] pos) (tU (kt X) (p1 (isiD (tbT ty) (tcF L)) sp)) :=
  pe_imp (pe_callB (call_isZ (isi_ty h hL)) hg hm (by decide +kernel) (pa_cons ha (pa_cons (pe_bltn (v := .ty ty) hgT hmT hv rfl hn hd) pa_nil) hs) (he := hs)) fun _ _ _ => isZ_v (ClsV.ty ty)
theorem U_isC {A : Addr} {x : Str} {L : List (Str × Bool)} (hL : IsC X.K X.mg L (.ref A)) (hg : Gl X "isinstance") (hm : X.mg "isinstance" = none)
    (hgT : Gl X x) (hmT : X.mg x = some (.ref A)) (ha : PE X a (tV (kt X) sp)) (hd : (x == ("__debug__" : Str)) = false := by decide) (hs : starEach [a, .Name x q] X.env = (false, eval a X.env) :: starEach [.Name x q] X.env := by rfl) :
    PE X (.Call (.Name "isinstance" p) [a, .Name x q] [] pos) (tU (kt X) (p1 (isiD tbN (tcL L)) sp)) :=
  pe_imp (pe_callB (call_isZ (isi_cl hL)) hg hm (by decide +kernel) (pa_cons ha (pa_cons (pe_glob (v := .ref A) hgT hmT rfl hd) pa_nil) hs) (he := hs)) fun _ _ _ => isZ_v (ClsV.own A)
end

/-! ### what is frozen for good -/
def FrL (H H' : Hp) (l : List Addr) : Prop := (∀ b, b ∉ l → H' b = H b) ∧ ∀ a ∈ l, ∃ od u, H a = some u ∧ Mut (some u) ∧ H' a = some (.frz od u)
def tFrz (t : TE) : TE := fun σ H Q => ∃ l : List Addr, (∀ a ∈ l, ∃ u, H a = some u ∧ Mut (some u)) ∧ l.Nodup ∧ ∀ H', FrL H H' l → t σ H' Q
theorem Inv.locks {X : Cx} {pins : List (Addr × Obj)} {σ : L2.St} {s : Shared} : ∀ (l : List Addr) {H : Hp}, Inv X pins σ H s → (∀ a ∈ l, ∃ u, H a = some u ∧ Mut (some u)) → l.Nodup → ∃ H', FrL H H' l ∧ Inv X pins σ H' s
  | [], H, I, _, _ => ⟨H, ⟨fun _ _ => rfl, fun _ z => nomatch z⟩, I⟩
  | a :: l, H, I, h, nd => by
    obtain ⟨u, hu, mu⟩ := h a (by simp)
    obtain ⟨od, I1⟩ := I.lock hu mu
    obtain ⟨na, nl⟩ := List.nodup_cons.mp nd
    obtain ⟨H', ⟨f1, f2⟩, I2⟩ := Inv.locks l I1 (fun b hb => by
      obtain ⟨u', e, m⟩ := h b (List.mem_cons_of_mem _ hb)
      exact ⟨u', (upd_ne (fun z : b = a => na (by rw [← z]; exact hb))).trans e, m⟩) nl
    refine ⟨H', ⟨fun b hb => ?_, fun b hb => ?_⟩, I2⟩
    · rw [f1 b fun z => hb (List.mem_cons_of_mem _ z), upd_ne (fun z => hb (by simp [z]))]
    · rcases List.mem_cons.mp hb with rfl | hb
      · exact ⟨od, u, hu, mu, by rw [f1 b na, upd_same]⟩
      · obtain ⟨od', u', e, m, e'⟩ := f2 b hb
        rw [upd_ne (fun z : b = a => na (by rw [← z]; exact hb))] at e
        exact ⟨od', u', e, m, e'⟩
theorem pe_frz {X : Cx} {e : Expr} {t : TE} (h : PE X e t) : PE X e (tFrz t) := by
  refine ⟨fun pins s σ H Q I hw => ?_⟩
  obtain ⟨l, hl, nd, k⟩ := hw
  obtain ⟨H', fr, I'⟩ := Inv.locks l I hl nd
  exact h.run pins s σ H' Q I' (k H' fr)

mutual
def fr : D → D
  | .non => .non
  | .bl b => .bl b
  | .int i => .int i
  | .str s => .str s
  | .tup ms => .tup (frs ms)
  | .lst _ ms => .lst false (frs ms)
  | .klst ms => .klst ms
  | .dct _ kvs => .dct false (frk kvs)
  | .ins _ c fs => .ins false c (frf fs)
def frs : List D → List D
  | [] => []
  | m :: r => fr m :: frs r
def frk : List (D × D) → List (D × D)
  | [] => []
  | (k, m) :: r => (k, fr m) :: frk r
def frf : List (Str × D) → List (Str × D)
  | [] => []
  | (k, m) :: r => (k, fr m) :: frf r
end
def MutL (H : Hp) (fp : List Addr) : Prop := ∀ a ∈ fp, ∃ u, H a = some u ∧ Mut (some u)
theorem MutL.nil {H : Hp} : MutL H [] := fun _ h => nomatch h
theorem MutL.app {H : Hp} {f1 f2 : List Addr} (h1 : MutL H f1) (h2 : MutL H f2) : MutL H (f1 ++ f2) := fun a h => (List.mem_append.mp h).elim (h1 a) (h2 a)
theorem At.mut {o : Bool} {H : Hp} {a : Addr} {u : HO} {fp fp' : List Addr} (h : At o H a u fp fp') (hu : Mut (some u)) (h' : MutL H fp') : MutL H fp := by
  cases o with
  | true =>
    obtain ⟨h1, rfl⟩ := h
    intro b hb
    rcases List.mem_cons.mp hb with rfl | hb
    · exact ⟨u, h1, hu⟩
    · exact h' b hb
  | false =>
    obtain ⟨_, rfl, rfl⟩ := h
    exact MutL.nil
mutual
theorem RP.mut {C : Kt} {H : Hp} : ∀ (m : D) {v : V} {fp : List Addr}, RP C H m v fp → MutL H fp
  | .non, _, _, h => by obtain ⟨_, rfl⟩ := h; exact MutL.nil
  | .bl _, _, _, h => by obtain ⟨_, rfl⟩ := h; exact MutL.nil
  | .int _, _, _, h => by obtain ⟨_, rfl⟩ := h; exact MutL.nil
  | .str _, _, _, h => by obtain ⟨_, rfl⟩ := h; exact MutL.nil
  | .tup ms, _, _, h => by
    unfold RP at h
    obtain ⟨a, vs, rfl, h1, h2⟩ := h
    exact RPs.mut ms h2
  | .lst o ms, _, _, h => by
    unfold RP at h
    obtain ⟨a, vs, fp', rfl, h1, h2⟩ := h
    exact h1.mut trivial (RPs.mut ms h2)
  | .klst ms, _, _, h => by
    unfold RP at h
    obtain ⟨a, vs, rfl, rfl, _⟩ := h
    exact MutL.nil
  | .dct o kvs, _, _, h => by
    unfold RP at h
    obtain ⟨a, fp', rfl, h⟩ := h
    rcases h with ⟨ws, h1, h2⟩ | ⟨ws, h1, h2⟩
    · exact h1.mut trivial (RPk.mut kvs h2)
    · exact h1.mut trivial (RPt.mut kvs h2)
  | .ins o c fs, _, _, h => by
    unfold RP at h
    obtain ⟨a, A, dx, ws, fp', rfl, hc, h1, h2⟩ := h
    exact h1.mut trivial (RPf.mut fs h2)
theorem RPs.mut {C : Kt} {H : Hp} : ∀ (ms : List D) {vs : List V} {fp : List Addr}, RPs C H ms vs fp → MutL H fp
  | [], _, _, h => by obtain ⟨_, rfl⟩ := h; exact MutL.nil
  | m :: ms, _, _, h => by
    unfold RPs at h
    obtain ⟨v, vr, f1, f2, rfl, rfl, h1, h2⟩ := h
    exact (RP.mut m h1).app (RPs.mut ms h2)
theorem RPk.mut {C : Kt} {H : Hp} : ∀ (ms : List (D × D)) {ws : List (Key × V)} {fp : List Addr}, RPk C H ms ws fp → MutL H fp
  | [], _, _, h => by obtain ⟨_, rfl⟩ := h; exact MutL.nil
  | (k, m) :: ms, _, _, h => by
    unfold RPk at h
    obtain ⟨y, v, vr, f1, f2, rfl, rfl, hk, h1, h2⟩ := h
    exact (RP.mut m h1).app (RPk.mut ms h2)
theorem RPt.mut {C : Kt} {H : Hp} : ∀ (ms : List (D × D)) {ws : List (List Key × V)} {fp : List Addr}, RPt C H ms ws fp → MutL H fp
  | [], _, _, h => by obtain ⟨_, rfl⟩ := h; exact MutL.nil
  | (k, m) :: ms, _, _, h => by
    unfold RPt at h
    obtain ⟨y, v, vr, f1, f2, rfl, rfl, hk, h1, h2⟩ := h
    exact (RP.mut m h1).app (RPt.mut ms h2)
theorem RPf.mut {C : Kt} {H : Hp} : ∀ (ms : List (Str × D)) {ws : List (Str × V)} {fp : List Addr}, RPf C H ms ws fp → MutL H fp
  | [], _, _, h => by obtain ⟨_, rfl⟩ := h; exact MutL.nil
  | (k, m) :: ms, _, _, h => by
    unfold RPf at h
    obtain ⟨v, vr, f1, f2, rfl, rfl, h1, h2⟩ := h
    exact (RP.mut m h1).app (RPf.mut ms h2)
end
theorem FrL.fixed {H H' : Hp} {l : List Addr} (h : FrL H H' l) {a : Addr} {o : HO} (e : H a = some o) (hf : Fixed o = true) : H' a = some o := by
  rw [h.1 a]
  · exact e
  · intro z
    obtain ⟨od, u, e2, m, _⟩ := h.2 a z
    rw [e] at e2
    cases e2
    cases o <;> first | exact m | cases hf
theorem FrL.st {H H' : Hp} {l f : List Addr} (h : FrL H H' l) (n : ∀ a ∈ f, a ∉ l) : St1 H H' f := fun a o e z => by
  rcases z with z | z
  · rw [h.1 a (n a z)]; exact e
  · exact h.fixed e z
theorem At.fr {o : Bool} {H H' : Hp} {l : List Addr} {a : Addr} {u : HO} {fp fp' : List Addr} (h : At o H a u fp fp') (f : FrL H H' l) (s : ∀ b ∈ fp, b ∈ l) : At false H' a u [] [] ∧ ∀ b ∈ fp', b ∈ l := by
  cases o with
  | true =>
    obtain ⟨h1, rfl⟩ := h
    obtain ⟨od, u', e, m, e'⟩ := f.2 a (s a (by simp))
    rw [h1] at e
    cases e
    exact ⟨⟨⟨od, e'⟩, rfl, rfl⟩, fun b hb => s b (List.mem_cons_of_mem _ hb)⟩
  | false =>
    obtain ⟨⟨ob, h1⟩, rfl, rfl⟩ := h
    exact ⟨⟨⟨ob, f.fixed h1 rfl⟩, rfl, rfl⟩, s⟩
mutual
theorem RP.fr {C : Kt} {H H' : Hp} {l : List Addr} (f : FrL H H' l) : ∀ (m : D) {v : V} {fp : List Addr}, RP C H m v fp → (∀ b ∈ fp, b ∈ l) → RP C H' (T.fr m) v []
  | .non, _, _, h, _ => ⟨h.1, rfl⟩
  | .bl _, _, _, h, _ => ⟨h.1, rfl⟩
  | .int _, _, _, h, _ => ⟨h.1, rfl⟩
  | .str _, _, _, h, _ => ⟨h.1, rfl⟩
  | .tup ms, _, _, h, s => by
    unfold RP at h
    obtain ⟨a, vs, rfl, h1, h2⟩ := h
    unfold T.fr RP
    exact ⟨a, vs, rfl, f.fixed h1 rfl, RPs.fr f ms h2 s⟩
  | .lst o ms, _, _, h, s => by
    unfold RP at h
    obtain ⟨a, vs, fp', rfl, h1, h2⟩ := h
    obtain ⟨h3, s'⟩ := h1.fr f s
    unfold T.fr RP
    exact ⟨a, vs, [], rfl, h3, RPs.fr f ms h2 s'⟩
  | .klst ms, _, _, h, s => by
    unfold RP at h
    obtain ⟨a, vs, rfl, h0, h1, h2⟩ := h
    unfold T.fr RP
    have st0 : St1 H H' [] := f.st fun _ z => nomatch z
    exact ⟨a, vs, rfl, rfl, h1.st st0, h2.st ms st0⟩
  | .dct o kvs, _, _, h, s => by
    unfold RP at h
    obtain ⟨a, fp', rfl, h⟩ := h
    unfold T.fr RP
    refine ⟨a, [], rfl, ?_⟩
    rcases h with ⟨ws, h1, h2⟩ | ⟨ws, h1, h2⟩
    · obtain ⟨h3, s'⟩ := h1.fr f s
      exact .inl ⟨ws, h3, RPk.fr f kvs h2 s'⟩
    · obtain ⟨h3, s'⟩ := h1.fr f s
      exact .inr ⟨ws, h3, RPt.fr f kvs h2 s'⟩
  | .ins o c fs, _, _, h, s => by
    unfold RP at h
    obtain ⟨a, A, dx, ws, fp', rfl, hc, h1, h2⟩ := h
    obtain ⟨h3, s'⟩ := h1.fr f s
    unfold T.fr RP
    exact ⟨a, A, dx, ws, [], rfl, hc, h3, RPf.fr f fs h2 s'⟩
theorem RPs.fr {C : Kt} {H H' : Hp} {l : List Addr} (f : FrL H H' l) : ∀ (ms : List D) {vs : List V} {fp : List Addr}, RPs C H ms vs fp → (∀ b ∈ fp, b ∈ l) → RPs C H' (frs ms) vs []
  | [], _, _, h, _ => ⟨h.1, rfl⟩
  | m :: ms, _, _, h, s => by
    unfold RPs at h
    obtain ⟨v, vr, f1, f2, rfl, rfl, h1, h2⟩ := h
    unfold frs RPs
    exact ⟨v, vr, [], [], rfl, rfl, RP.fr f m h1 fun b hb => s b (List.mem_append_left _ hb), RPs.fr f ms h2 fun b hb => s b (List.mem_append_right _ hb)⟩
theorem RPk.fr {C : Kt} {H H' : Hp} {l : List Addr} (f : FrL H H' l) : ∀ (ms : List (D × D)) {ws : List (Key × V)} {fp : List Addr}, RPk C H ms ws fp → (∀ b ∈ fp, b ∈ l) → RPk C H' (frk ms) ws []
  | [], _, _, h, _ => ⟨h.1, rfl⟩
  | (k, m) :: ms, _, _, h, s => by
    unfold RPk at h
    obtain ⟨y, v, vr, f1, f2, rfl, rfl, hk, h1, h2⟩ := h
    unfold frk RPk
    exact ⟨y, v, vr, [], [], rfl, rfl, hk, RP.fr f m h1 fun b hb => s b (List.mem_append_left _ hb), RPk.fr f ms h2 fun b hb => s b (List.mem_append_right _ hb)⟩
theorem RPt.fr {C : Kt} {H H' : Hp} {l : List Addr} (f : FrL H H' l) : ∀ (ms : List (D × D)) {ws : List (List Key × V)} {fp : List Addr}, RPt C H ms ws fp → (∀ b ∈ fp, b ∈ l) → RPt C H' (frk ms) ws []
  | [], _, _, h, _ => ⟨h.1, rfl⟩
  | (k, m) :: ms, _, _, h, s => by
    unfold RPt at h
    obtain ⟨y, v, vr, f1, f2, rfl, rfl, hk, h1, h2⟩ := h
    unfold frk RPt
    exact ⟨y, v, vr, [], [], rfl, rfl, hk, RP.fr f m h1 fun b hb => s b (List.mem_append_left _ hb), RPt.fr f ms h2 fun b hb => s b (List.mem_append_right _ hb)⟩
theorem RPf.fr {C : Kt} {H H' : Hp} {l : List Addr} (f : FrL H H' l) : ∀ (ms : List (Str × D)) {ws : List (Str × V)} {fp : List Addr}, RPf C H ms ws fp → (∀ b ∈ fp, b ∈ l) → RPf C H' (frf ms) ws []
  | [], _, _, h, _ => ⟨h.1, rfl⟩
  | (k, m) :: ms, _, _, h, s => by
    unfold RPf at h
    obtain ⟨v, vr, f1, f2, rfl, rfl, h1, h2⟩ := h
    unfold frf RPf
    exact ⟨v, vr, [], [], rfl, rfl, RP.fr f m h1 fun b hb => s b (List.mem_append_left _ hb), RPf.fr f ms h2 fun b hb => s b (List.mem_append_right _ hb)⟩
end
/-- the name's value, frozen for good -/
def sFz (i : Nat) : SE := fun env => match pVar i env with
  | some m => some (.ok (fr m), env.set i (some (fr m)))
  | none => none
theorem fz_i {C : Kt} {W : WXT} {σ : L2.St} {H : Hp} {Q : VK} {i : Nat} (x : tE C W (sFz i) σ H Q) : tFrz (tVar i) σ H Q := by
  obtain ⟨env, fp, e, nd, k⟩ := x
  unfold sFz at k
  split at k
  · rename_i m q
    obtain ⟨v, f1, f2, f3, hv, rfl, x, kk⟩ := pVar_get q e
    have n2 := List.nodup_append.mp (nd_d nd)
    refine ⟨f2, x.mut m, n2.1, fun H' f => ⟨v, hv, ?_⟩⟩
    have y := x.fr f m fun b hb => hb
    have r := kk H' (some (T.fr m)) (some v) [] (f.st fun a ha z => n2.2.2 a z a ha rfl) ⟨v, rfl, y⟩
    rw [set_self hv] at r
    refine k v H' [] _ y r ?_ ⟨fun a o e z => ?_, fun a ha => .inl ?_⟩
    · simpa using n2.2.1
    · by_cases hz : a ∈ f2
      · exact f.fixed e (z (by simp [hz]))
      · rw [f.1 a hz]; exact e
    · simp only [List.mem_append, List.nil_append] at ha ⊢
      grind
  · exact k.elim
theorem E_fz {X : Cx} {W : WXT} {e : Expr} {i : Nat} (h : PE X e (tVar i)) : PE X e (tE (kt X) W (sFz i)) := pe_imp (pe_frz h) fun _ _ _ => fz_i
theorem U_fz {X : Cx} {e : Expr} {p : SV} (h : PE X e (tV (kt X) p)) : PE X e (tU (kt X) (pFz p)) := uOfV h
end T

set_option Elab.async false
set_option linter.all false
set_option maxRecDepth 100000
set_option maxHeartbeats 4000000
namespace T
open PySem PySem.Spec PyProof.Rows L2

/-! ### an owned instance in a slot, its fields written -/
theorem st_updG {H : Hp} {a : Addr} {u u' : HO} {f : List Addr} (h : H a = some u) (hu : Fixed u = false) (n : a ∉ f) : St1 H (upd H a u') f := fun b o e z => by
  rw [upd_ne]
  · exact e
  · rintro rfl
    rcases z with z | z
    · exact n z
    · rw [h] at e; cases e; rw [hu] at z; cases z
theorem mv_updG {H : Hp} {a : Addr} {u u' : HO} {f : List Addr} (h : H a = some u) (hu : Fixed u = false) (n : a ∈ f) : Mv H (upd H a u') f f where
  keep := fun b o e z => by
    rw [upd_ne]
    · exact e
    · rintro rfl
      have := z n
      rw [h] at e; cases e; rw [hu] at this; cases this
  sub := fun _ z => .inl z
theorem slot_ins {C : Kt} {H : Hp} {env : Env} {σ : L2.St} {fe : List Addr} {i : Nat} {c : Str} {fs : List (Str × D)} (r : ER C H env σ fe) (q : pVar i env = some (.ins true c fs)) :
    ∃ a A dx ws f1 f2 f3, σ[i]? = some (some (.ref a)) ∧ C.mg c = some (.ref A) ∧ fe = f1 ++ ((a :: f2) ++ f3) ∧ H a = some (.ins A dx ws) ∧ RPf C H fs ws f2 ∧
      ∀ H' fs' ws' g, H' a = some (.ins A dx ws') → RPf C H' fs' ws' g → St1 H H' (f1 ++ f3) → ER C H' (env.set i (some (.ins true c fs'))) σ (f1 ++ ((a :: g) ++ f3)) := by
  obtain ⟨v, f1, f2, f3, hv, rfl, x, k⟩ := pVar_get q r
  obtain ⟨a, A, dx, ws, f2', rfl, hm, ⟨h1, rfl⟩, h2⟩ := x
  refine ⟨a, A, dx, ws, f1, f2', f3, hv, hm, rfl, h1, h2, fun H' fs' ws' g e y s => ?_⟩
  have := k H' (some (.ins true c fs')) (some (.ref a)) (a :: g) s ⟨_, rfl, a, A, dx, ws', g, rfl, hm, ⟨e, rfl⟩, y⟩
  rw [set_self hv] at this
  exact this
def putD (f : Str) (m : D) : List (Str × D) → List (Str × D)
  | [] => [(f, m)]
  | (g, x) :: r => if g = f then (g, m) :: r else (g, x) :: putD f m r
theorem RPf.put {C : Kt} {H : Hp} {f : Str} {m : D} {v : V} {fm : List Addr} (x : RP C H m v fm) : ∀ {fs : List (Str × D)} {ws : List (Str × V)} {g : List Addr}, RPf C H fs ws g → (g ++ fm).Nodup → ∃ g', RPf C H (putD f m fs) (putF f v ws) g' ∧ g'.Nodup ∧ ∀ b ∈ g', b ∈ g ++ fm
  | [], _, _, h, nd => by
    obtain ⟨rfl, rfl⟩ := h
    exact ⟨fm, ⟨v, [], fm, [], rfl, by simp, x, rfl, rfl⟩, by simpa using nd, fun b hb => by simpa using hb⟩
  | (k, y) :: r, _, _, h, nd => by
    obtain ⟨w, wr, f1, f2, rfl, rfl, h1, h2⟩ := h
    unfold putD putF
    by_cases hk : k = f
    · rw [if_pos hk, if_pos hk]
      refine ⟨fm ++ f2, ⟨v, wr, fm, f2, rfl, rfl, x, h2⟩, ?_, fun b hb => ?_⟩
      · simp only [List.nodup_append, List.mem_append] at nd ⊢
        grind
      · simp only [List.mem_append] at hb ⊢
        grind
    · rw [if_neg hk, if_neg hk]
      obtain ⟨g', y1, n1, s1⟩ := RPf.put x h2 (by simp only [List.nodup_append, List.mem_append] at nd ⊢; grind)
      refine ⟨f1 ++ g', ⟨w, _, f1, g', rfl, rfl, h1, y1⟩, ?_, fun b hb => ?_⟩
      · simp only [List.nodup_append, List.mem_append] at nd n1 s1 ⊢
        grind
      · simp only [List.mem_append] at hb s1 ⊢
        grind
theorem RPf.len {C : Kt} {H : Hp} : ∀ {fs : List (Str × D)} {ws : List (Str × V)} {g : List Addr}, RPf C H fs ws g → fs.length = ws.length
  | [], _, _, h => by obtain ⟨rfl, _⟩ := h; rfl
  | (k, y) :: r, _, _, h => by
    obtain ⟨w, wr, f1, f2, rfl, rfl, h1, h2⟩ := h
    simp [RPf.len h2]
theorem RPf.none {C : Kt} {H : Hp} {f : Str} : ∀ {fs : List (Str × D)} {ws : List (Str × V)} {g : List Addr}, RPf C H fs ws g → fs.lookup f = none → ws.lookup f = none
  | [], _, _, h, _ => by obtain ⟨rfl, _⟩ := h; rfl
  | (k, y) :: r, _, _, h, e => by
    obtain ⟨w, wr, f1, f2, rfl, rfl, h1, h2⟩ := h
    rw [List.lookup_cons] at e ⊢
    cases hk : (f == k) with
    | true => rw [hk] at e; cases e
    | false => rw [hk] at e; exact RPf.none h2 e
/-- self.f = e, self in slot i -/
def sSetF (L : List Str) (i : Nat) (f : Str) (s : SE) : SS := fun env => match s env with
  | some (.ok m, env1) => match pVar i env1 with
    | some (.ins true c fs) => if L.contains c ∧ fs.length < 1000 then some (.nx, env1.set i (some (.ins true c (putD f m fs)))) else none
    | _ => none
  | some (.ex c m, env1) => some (.ex c m, env1)
  | none => none
theorem setF_i {C : Kt} {kp : Nat → Bool} {W : WXT} {σ : L2.St} {H : Hp} {Z : Ends} {L : List Str} {i : Nat} {f : Str} {s : SE} (hL : ∀ c ∈ L, FldOk C.K C.mg c f) (x : tS C kp W (sSetF L i f s) Z σ H) : sFld C.K (tVar i) (tE C W s) f Z σ H := by
  obtain ⟨env, fp, r, nd, h⟩ := x
  unfold sSetF at h
  refine e_in (Z := Z) (kp := kp) r nd (fun c m e2 q => ?_) (fun m e2 q => ?_) fun q => ?_
  · rw [q] at h; exact h
  · rw [q] at h
    intro v H2 fm f2 x2 r2 n2 mv
    dsimp only at h
    split at h
    · rename_i c fs q1
      split at h
      · rename_i hc
        obtain ⟨a, A, dx, ws, g1, g2, g3, hv, hm, rfl, ha, hr, kk⟩ := slot_ins r2 q1
        obtain ⟨cl, na⟩ := hL c (by simpa using hc.1) A hm
        have nn := nd_a n2
        refine ⟨_, hv, a, A, dx, ws, rfl, ha, cl, na, by rw [← hr.len]; exact hc.2, ?_⟩
        have hu : Fixed (HO.ins A dx ws) = false := rfl
        have hr3 : RPf C (upd H2 a (.ins A dx (putF f v ws))) fs ws g2 := hr.st fs (st_updG ha hu nn.1)
        have x3 : RP C (upd H2 a (.ins A dx (putF f v ws))) m v fm := x2.st m (st_updG ha hu nn.2.1)
        obtain ⟨g', y, n3, s3⟩ := hr3.put (f := f) x3 nn.2.2.2
        have r4 := kk _ (putD f m fs) (putF f v ws) g' upd_same y (st_updG ha hu nn.2.2.1)
        have m3 := mv.trans (mv_updG (u' := .ins A dx (putF f v ws)) ha hu (by simp))
        exact h σ _ _ r4 (nd_b (fx := []) n2 (by simpa using n3) (by simpa using s3)) (m3.less fun b hb => nd_c (fx := []) (g' := g') (by simpa using s3) hb) (Kp.refl kp σ)
      · exact h.elim
    · exact h.elim
  · rw [q] at h; exact h
theorem S_fld {X : Cx} {kp : Nat → Bool} {W : WXT} {o e : Expr} {f : Str} {p' pos : Pos} {L : List Str} {i : Nat} {s : SE} (hL : ∀ c ∈ L, FldOk X.K X.mg c f) (ho : PE X o (tVar i)) (he : PE X e (tE (kt X) W s)) (hs : swapsWith e (some (.Attribute o f p')) pos.line X.env = pure false := by rfl) :
    PS X (.Assign [.Attribute o f p'] e pos) (tS (kt X) kp W (sSetF L i f s)) := ps_imp (ps_fld ho he hs) fun _ _ _ => setF_i hL
/-- one field in sight -/
theorem RPf.focus {C : Kt} {H : Hp} {f : Str} {m : D} : ∀ {fs : List (Str × D)} {ws : List (Str × V)} {fp : List Addr}, RPf C H fs ws fp → fs.lookup f = some m →
    ∃ v f1 f2 f3, ws.lookup f = some v ∧ fp = f1 ++ (f2 ++ f3) ∧ RP C H m v f2 ∧ ∀ H' m' g, St1 H H' (f1 ++ f3) → RP C H' m' v g → RPf C H' (putD f m' fs) ws (f1 ++ (g ++ f3))
  | [], _, _, _, e => by cases e
  | (k, x) :: r, _, _, h, e => by
    obtain ⟨v, wr, f1, f2, rfl, rfl, h1, h2⟩ := h
    rw [List.lookup_cons] at e ⊢
    cases hk : (f == k) with
    | true =>
      rw [hk] at e
      cases e
      have hk' : k = f := (by simpa using hk : f = k).symm
      refine ⟨v, [], f1, f2, rfl, rfl, h1, fun H' m' g s y => ?_⟩
      unfold putD
      rw [if_pos hk']
      exact ⟨v, wr, g, f2, rfl, rfl, y, h2.st r (by simpa using s)⟩
    | false =>
      rw [hk] at e
      have hk' : ¬ k = f := fun z => by subst z; simp at hk
      obtain ⟨w, g1, g2, g3, l, rfl, x2, k2⟩ := RPf.focus h2 e
      refine ⟨w, f1 ++ g1, g2, g3, l, by simp, x2, fun H' m' g s y => ?_⟩
      unfold putD
      rw [if_neg hk']
      have s' : St1 H H' (f1 ++ (g1 ++ g3)) := by simpa using s
      exact ⟨v, wr, f1, g1 ++ (g ++ g3), rfl, by simp, h1.st x s'.left, k2 H' m' g s'.right y⟩
theorem nd_f {a : Addr} {f1 f2 f3 g1 g2 g3 : List Addr} (n : (f1 ++ ((a :: (g1 ++ (g2 ++ g3))) ++ f3)).Nodup) : (((f1 ++ a :: g1) ++ ((g2 ++ g3) ++ f3))).Nodup := by
  simp only [List.nodup_append, List.mem_append, List.nodup_cons, List.cons_append, List.mem_cons] at n ⊢
  grind
/-- a part of an owned instance in slot i: its field f -/
theorem slot_fld {C : Kt} {H : Hp} {env : Env} {σ : L2.St} {fe : List Addr} {i : Nat} {c f : Str} {fs : List (Str × D)} {m : D} (r : ER C H env σ fe) (nd : fe.Nodup) (q : pVar i env = some (.ins true c fs)) (hf : fs.lookup f = some m) :
    ∃ a A dx ws v f1 f2 f3, σ[i]? = some (some (.ref a)) ∧ C.mg c = some (.ref A) ∧ H a = some (.ins A dx ws) ∧ ws.lookup f = some v ∧ fe = f1 ++ (f2 ++ f3) ∧ RP C H m v f2 ∧ a ∉ f2 ∧
      ∀ H' m' g, St1 H H' (f1 ++ f3) → RP C H' m' v g → ER C H' (env.set i (some (.ins true c (putD f m' fs)))) σ (f1 ++ (g ++ f3)) := by
  obtain ⟨a, A, dx, ws, h1, h2, h3, hv, hm, rfl, ha, hr, kk⟩ := slot_ins r q
  obtain ⟨v, g1, g2, g3, l, rfl, x, k2⟩ := hr.focus hf
  refine ⟨a, A, dx, ws, v, h1 ++ a :: g1, g2, g3 ++ h3, hv, hm, ha, l, by simp, x, ?_, fun H' m' g s y => ?_⟩
  · simp only [List.nodup_append, List.mem_append, List.nodup_cons, List.cons_append, List.mem_cons] at nd
    grind
  · have e1 : H' a = some (.ins A dx ws) := s a _ ha (.inl (by simp))
    have s1 : St1 H H' (g1 ++ g3) := fun b o e z => s b o e (z.imp (fun z => by simp only [List.mem_append, List.mem_cons] at z ⊢; grind) id)
    have s2 : St1 H H' (h1 ++ h3) := fun b o e z => s b o e (z.imp (fun z => by simp only [List.mem_append, List.mem_cons] at z ⊢; grind) id)
    have := kk H' (putD f m' fs) ws (g1 ++ (g ++ g3)) e1 (k2 H' m' g s1 y) s2
    simpa using this
/-- a method of the list in the field f of slot i, its argument a pure one -/
def sLstF (L : List Str) (i : Nat) (f : Str) (p : SV) (g : List D → D → Option (D × List D)) : SE := fun env => match pVar i env with
  | some (.ins true c fs) => if L.contains c then (match fs.lookup f, p env with
    | some (.lst true ms), some m => match g ms m with
      | some (x, ms') => some (.ok x, env.set i (some (.ins true c (putD f (.lst true ms') fs))))
      | none => none
    | _, _ => none) else none
  | _ => none
theorem lstF_i {C : Kt} {W : WXT} {σ : L2.St} {H : Hp} {Q : VK} {L : List Str} {i : Nat} {f : Str} {p : SV} {r : V → List V → Hp → VK → Prop} {g : List D → D → Option (D × List D)} (hL : ∀ c ∈ L, FldOk C.K C.mg c f) (hg : LstM C r g) (x : tE C W (sLstF L i f p g) σ H Q) :
    tBM C.K "list" r (tFldR C.K (tVar i) f) (tCons (tU C p) tNil) σ H Q := by
  obtain ⟨env, fp, e, nd, k⟩ := x
  unfold sLstF at k
  split at k
  · rename_i c fs q0
    split at k
    · rename_i hc
      split at k
      · rename_i ms m q1 q2
        obtain ⟨a, A, dx, ws, v, f1, f2, f3, hv, hm, ha, l, rfl, x, na, kk⟩ := slot_fld e nd q0 q1
        obtain ⟨b, vs, g2, rfl, ⟨h1, rfl⟩, h2⟩ := x
        obtain ⟨cl, nat⟩ := hL c (by simpa using hc) A hm
        refine ⟨_, hv, a, A, dx, ws, _, rfl, .inl ha, cl, nat, l, .inl ⟨rfl, vs, .inl (.inl h1)⟩, env, _, m, e, q2, fun w H1 fm s y nm fr => ?_⟩
        cases q3 : g ms m with
        | none => rw [q3] at k; exact k.elim
        | some z =>
          obtain ⟨xo, ms'⟩ := z
          rw [q3] at k
          have hb := s b _ h1
          have ow : Owned H (f1 ++ ((b :: g2) ++ f3)) := e.owned env
          have n1 : (fm ++ (f1 ++ ((b :: g2) ++ f3))).Nodup := List.nodup_append.mpr ⟨nm, nd, fun y1 hy y2 hy2 => by
            rintro rfl
            obtain ⟨o, z, _⟩ := ow y1 hy2
            rw [fr y1 hy] at z; cases z⟩
          have nn := nd_a n1
          have m1 : Mv H H1 (f1 ++ ((b :: g2) ++ f3)) (fm ++ (f1 ++ ((b :: g2) ++ f3))) := Mv.same s fr
          refine hg H1 b vs ms g2 m w fm xo ms' hb (h2.st ms (Same.st1 s _)) y nn.1 nn.2.1 nn.2.2.2 q3 Q fun w2 vs' g' fx y1 y2 nsu su => ?_
          have r2 := kk (upd H1 b (.lst vs')) (.lst true ms') (b :: g') (fun d o e z => st_upd hb nn.2.2.1 d o (s d o e) z) ⟨b, vs', g', rfl, ⟨upd_same, rfl⟩, y1⟩
          have m2 := m1.trans (mv_upd (vs' := vs') hb (by simp))
          exact k w2 _ fx _ y2 r2 (nd_b n1 nsu su) (m2.less fun d hd => nd_c su hd)
      · exact k.elim
    · exact k.elim
  · exact k.elim
theorem E_lmF {X : Cx} {W : WXT} {o a : Expr} {f : Str} {name : Str} {fpos apos cpos : Pos} {id : String} {L : List Str} {i : Nat} {p : SV} {r : V → List V → Hp → VK → Prop} {g : List D → D → Option (D × List D)}
    (hL : ∀ c ∈ L, FldOk X.K X.mg c f) (hg : LstM (kt X) r g) (pa : PlainAttrs "list") (slot : Slot "list" name id) (hty : typeOf (.builtin id) = pure (.type "method_descriptor")) (hm : MtR X id r) (ho : PE X o (tVar i)) (ha : PE X a (tU (kt X) p))
    (hb : attributeBase o f X.env (eval o X.env) = eval o X.env := by rfl) (hs : starEach [a] X.env = (false, eval a X.env) :: starEach [] X.env := by rfl)
    (hbase : attributeBase (.Attribute o f fpos) name X.env (eval (.Attribute o f fpos) X.env) = eval (.Attribute o f fpos) X.env := by rfl) (hline : (apos.endLine == cpos.line) = true := by rfl) (hpl : (backTo cpos (starEach [] X.env)).any (·.1) = false := by rfl)
    (hfew : ((backTo cpos (starEach [a] X.env)).all (fun x => !x.1) && (backToKw cpos (keywordEach [] X.env)).all (fun x => x.1.isSome)
      && decide ([a].length + ([] : List Keyword).length + (if ([] : List Keyword).isEmpty then 0 else 1) < 30)) = true := by rfl) :
    PE X (.Call (.Attribute (.Attribute o f fpos) name apos) [a] [] cpos) (tE (kt X) W (sLstF L i f p g)) :=
  pe_imp (pe_bm pa slot hty hm (pe_fldR ho hb) (pa_cons ha pa_nil hs) hbase hfew hline hs hpl) fun _ _ _ => lstF_i hL hg
end T

set_option Elab.async false
set_option linter.all false
set_option maxRecDepth 100000
set_option maxHeartbeats 4000000
namespace T
open PySem PySem.Spec PyProof.Rows L2

/-! ### methods, properties, new instances -/
def tMethS (C : Addr) (m : Str) (sp : Sp) (E : L2.St → XK) (ta : TE) (t : TA) : TE := fun σ H Q => ta σ H fun x H1 => ∃ a dx fs, x = .ref a ∧ Rd H1 a (.ins C dx fs) ∧ fs.lookup m = none ∧ t σ H1 fun vs H2 => sp (x :: vs) H2 Q (E σ)
def tPropS (C : Addr) (sp : Sp) (ta : TE) : TE := fun σ H Q => ta σ H fun x H1 => ∃ a dx fs, x = .ref a ∧ Rd H1 a (.ins C dx fs) ∧ sp [x] H1 Q E0
def tMakeS (C : Addr) (sp : Sp) (E : L2.St → XK) (t : TA) : TE := fun σ H Q => t σ H fun vs H1 => ∀ x dx, H1 x = none → H1 dx = none → dx ≠ x →
  sp (.ref x :: vs) (upd (upd H1 dx (.own x)) x (.ins C dx [])) (fun v H2 => v = .non ∧ Q (.ref x) H2) (E σ)
section
variable {X : Cx} {CX : CXT} {k : Nat} {f C p g : Addr} {fd : FuncData} {ps : List Str} {sp : Sp} {E : L2.St → XK} {x m : Str} {q pos apos : Pos} {e o : Expr} {es : List Expr} {ta : TE} {t : TA}
theorem pe_methS {pl : Sem Bool} (he : PE X o ta) (c : Cls X.K C) (hm : Meth X.K C m f) (F : FnOk X.prog X.w X.K X.mg X.base CX k f fd ps sp) (hr : Room k X.A) (hb : Binds X.K fd ps []) (hx : ∀ σ, PassesAt CX X σ (E σ)) (ha : PA X (e :: es) t)
    (hst : starEach (e :: es) X.env = (false, eval e X.env) :: starEach es X.env := by rfl) (hpl : (backTo pos (starEach es X.env)).any (·.1) = false := by rfl)
    (ht : eval (.Call (.Attribute o m apos) (e :: es) [] pos) X.env = (do
      let ov ← eval o X.env
      standAt apos.atName
      let (f, first) ← holding [ov] (getMethod ov m pl)
      callWith pos f first (backTo pos (starEach (e :: es) X.env)) (backToKw pos (keywordEach [] X.env))) := by rfl) :
    PE X (.Call (.Attribute o m apos) (e :: es) [] pos) (tMethS C m sp E ta t) := by
  refine ⟨fun pins s σ H Q I h => ?_⟩
  refine PySem.W.methodCall_KW (pl := pl) (thn (he.run pins s σ H _ I h) fun u s1 ⟨x, H1, I1, rx, a, dx, fs, ex, ea, l, q⟩ => ?_) ht
  subst ex
  obtain rfl : u = Value.ref a := rx
  refine getmeth_R I1 ea c hm l ?_
  refine PySem.W.callWith_K (first := [.ref a]) (h₀ := X.base) I.ok.mod.kin hm.kp (thn (ha.run pos pins s1 σ H1 _ I1 q) fun us s2 ⟨vs, H2, I2, r, q2⟩ => ⟨I2.kIn, ?_⟩) hst hpl
  exact run_fnS (us := .ref a :: us) (vs := .ref a :: vs) F hr hb (hx σ) I2 (.cons rfl r) q2
theorem pe_methS0 {pl : Sem Bool} (he : PE X o ta) (c : Cls X.K C) (hm : Meth X.K C m f) (F : FnOk X.prog X.w X.K X.mg X.base CX k f fd ps sp) (hr : Room k X.A) (hb : Binds X.K fd ps []) (hx : ∀ σ, PassesAt CX X σ (E σ))
    (ht : eval (.Call (.Attribute o m apos) [] [] pos) X.env = (do
      let ov ← eval o X.env
      standAt apos.atName
      let (f, first) ← holding [ov] (getMethod ov m pl)
      callWith pos f first (backTo pos (starEach [] X.env)) (backToKw pos (keywordEach [] X.env))) := by rfl) :
    PE X (.Call (.Attribute o m apos) [] [] pos) (tMethS C m sp E ta tNil) := by
  refine ⟨fun pins s σ H Q I h => ?_⟩
  refine PySem.W.methodCall_KW (pl := pl) (thn (he.run pins s σ H _ I h) fun u s1 ⟨x, H1, I1, rx, a, dx, fs, ex, ea, l, q⟩ => ?_) ht
  subst ex
  obtain rfl : u = Value.ref a := rx
  refine getmeth_R I1 ea c hm l ?_
  exact PySem.W.callWith_K0 (first := [.ref a]) I1.kIn hm.kp (run_fnS (us := [.ref a]) (vs := [.ref a]) F hr hb (hx σ) I1 (.cons rfl .nil) q)
theorem pe_propS (he : PE X e ta) (c : Cls X.K C) (hp : PropOf X.K C m p g) (F : FnOk X.prog X.w X.K X.mg X.base CX k g fd ps sp) (hr : Room (k + 1) X.A) (hb : Binds X.K fd ps []) (hx : Passes CX X.nox E0)
    (hab : attributeBase e m X.env (eval e X.env) = eval e X.env := by rfl) : PE X (.Attribute e m pos) (tPropS C sp ta) := by
  refine ⟨fun pins s σ H Q I h => ?_⟩
  refine attr_of hab (thn (he.run pins s σ H _ I h) fun u s1 ⟨x, H1, I1, rx, a, dx, fs, ex, ea, q⟩ => ?_)
  subst ex
  obtain rfl : u = Value.ref a := rx
  obtain ⟨mA, O, _⟩ := ins_rd I1.hok ea
  obtain ⟨od, J, _⟩ := O.look
  obtain ⟨rest, hrec⟩ := hp.rec_
  have I2 := I1.tok (s1.toks + 1)
  have hl : [Value.ref a].length = ps.length := by
    rw [← F.len _ _ _ _ q]
    rfl
  have hc : (PySem.W.clsIn X.K C).isSome = true := by
    obtain ⟨cd, hc, _⟩ := PySem.W.any_some c.hd
    rw [hc]
    rfl
  have b := hb { s1 with toks := s1.toks + 1 } [.ref a] I2.kIn (by rw [List.append_nil]; exact hl)
  rw [List.append_nil] at b
  refine PySem.W.get_bind I1.kIn J (PySem.W.plainGet_of (c.get m)).1 (PySem.W.findObj_data hc hp.at_ hp.get hp.tak) (PySem.W.plainGet_of (c.get m)).2 (wpAny_call (PySem.W.prop_get (s := { s1 with toks := s1.toks + 1 }) I1.kIn hrec ?_))
  refine codeAny_mono (F.run X.A.in1 X.stack { s1 with toks := s1.toks + 1 } H1 ⟨[.ref a], []⟩ [.ref a] [.ref a] Q E0 hr.in1 I2.env0.in1 b (.cons rfl .nil) q) fun r s' hq => ?_
  cases r with
  | error er => exact False.elim (hx pins σ H1 { s1 with toks := s1.toks + 1 } er s' (I2.wish _) hq)
  | ok fl =>
    cases fl with
    | ret u =>
      obtain ⟨v, H', I3, rv, q3⟩ := I2.after hq
      show wpAny _ _ (handedOut u) _ _ _
      rw [PySem.W.handedOut_of (handed_of rv)]
      exact wpAny_pure ⟨v, H', I3, rv, q3⟩
    | next => exact False.elim hq
    | brk => exact False.elim hq
    | cont => exact False.elim hq
end

/-! ### their meanings -/
theorem nk_a {x b : Addr} {fm fe' fa fe : List Addr} (p : (fm ++ fe').Perm (fa ++ fe)) (hb : b ∈ fe' ++ x :: fm) : b ∈ [x] ++ (fa ++ fe) := by
  have := @List.Perm.mem_iff _ b _ _ p
  simp only [List.mem_append, List.mem_cons, List.mem_singleton] at hb this ⊢
  grind
theorem nk_b {x : Addr} {fm fe' : List Addr} (nd2 : (fm ++ fe').Nodup) (xm : ∀ b ∈ fm ++ fe', b ≠ x) : (fe' ++ x :: fm).Nodup := by
  simp only [List.nodup_append, List.mem_append, List.nodup_cons, List.mem_cons] at nd2 xm ⊢
  grind
theorem nk_c {fe' g0 g1 g2 : List Addr} (n : (fe' ++ (g0 ++ (g1 ++ g2))).Nodup) : (g2 ++ fe').Nodup := by
  simp only [List.nodup_append, List.mem_append] at n ⊢
  grind
theorem nk_d {fe' g0 g1 g2 fe3 : List Addr} (n : (fe' ++ (g0 ++ (g1 ++ g2))).Nodup) (n3 : fe3.Nodup) (s : ∀ b ∈ fe3, b ∈ g2 ++ fe') : ((g0 ++ g1) ++ fe3).Nodup := by
  simp only [List.nodup_append, List.mem_append] at n n3 s ⊢
  grind
theorem nk_d0 {fe' g0 g1 g2 fe3 : List Addr} (n : (fe' ++ (g0 ++ (g1 ++ g2))).Nodup) (n3 : fe3.Nodup) (s : ∀ b ∈ fe3, b ∈ g2 ++ fe') : (g0 ++ fe3).Nodup := by
  simp only [List.nodup_append, List.mem_append] at n n3 s ⊢
  grind
theorem nk_e {b : Addr} {fe' g0 g1 g2 fe3 : List Addr} (s : ∀ b ∈ fe3, b ∈ g2 ++ fe') (hb : b ∈ (g0 ++ g1) ++ fe3) : b ∈ fe' ++ (g0 ++ (g1 ++ g2)) := by
  simp only [List.mem_append] at hb s ⊢
  grind
def sMethN (c m : Str) (i : Nat) (F : SF) (ra : SA) : SE := fun env => match pVar i env with
  | some (.ins _ c' fs) => if c' = c ∧ fs.lookup m = none then sCallA F (aN i ra) env else none
  | _ => none
def aVal (m : D) (r : SA) : SA := fun env => match r env with
  | some (.ok as, env2) => some (.ok (.val m :: as), env2)
  | some (.ex c x, env2) => some (.ex c x, env2)
  | none => none
/-- the receiver is frozen -/
def sMethV (c m : Str) (p : SV) (F : SF) (ra : SA) : SE := fun env => match p env with
  | some (.ins false c' fs) => if c' = c ∧ fs.lookup m = none then sCallA F (aVal (.ins false c' fs) ra) env else none
  | _ => none
def sNoEx (s : SE) : SE := fun env => match s env with
  | some (.ok m, env1) => some (.ok m, env1)
  | _ => none
def sPropN (c : Str) (i : Nat) (F : SF) : SE := fun env => match pVar i env with
  | some (.ins _ c' _) => if c' = c then sNoEx (sCallA F (aN i aNil)) env else none
  | _ => none
def sPropV (c : Str) (p : SV) (F : SF) : SE := fun env => match p env with
  | some (.ins false c' fs) => if c' = c then sNoEx (sCallA F (aVal (.ins false c' fs) aNil)) env else none
  | _ => none
def sMake (c : Str) (F : SF) (ra : SA) : SE := fun env => match ra env with
  | some (.ok as, env1) => match takeA as env1 with
    | some (ms, env2) => match F (.ins true c [] :: ms) with
      | some (.ok .non, some x :: os) => some (.ok x, backA as os env2)
      | some (.ex c m, _ :: os) => some (.ex c m, backA as os env2)
      | _ => none
    | none => none
  | some (.ex c m, env1) => some (.ex c m, env1)
  | none => none
section
variable {C : Kt} {W : WXT} {σ : L2.St} {H : Hp} {Q : VK} {F : SF} {c m : Str} {A : Addr}
theorem noEx_i {s : SE} (x : tE C W (sNoEx s) σ H Q) {W' : WXT} : tE C W' s σ H Q := by
  obtain ⟨env, fp, r, nd, k⟩ := x
  refine ⟨env, fp, r, nd, ?_⟩
  unfold sNoEx at k
  split at k
  · rename_i m env1 q
    rw [q]; exact k
  · exact k.elim
theorem methN_i {i : Nat} {ra : SA} (hm : C.mg c = some (.ref A)) (x : tE C W (sMethN c m i F ra) σ H Q) : tMethS A m (spF C F) (fun σ cls d H' => W cls d σ H') (tVar i) (tA C W ra) σ H Q := by
  obtain ⟨env, fp, r, nd, k⟩ := x
  unfold sMethN at k
  split at k
  · rename_i o c' fs q
    split at k
    · rename_i hc
      obtain ⟨rfl, hl⟩ := hc
      obtain ⟨v, hv, y⟩ := aN_i (call_i ⟨env, fp, r, nd, k⟩)
      obtain ⟨v', f1, f2, f3, hv', _, x, _⟩ := pVar_get q r
      rw [hv] at hv'
      cases hv'
      obtain ⟨a, A', dx, ws, g, rfl, hm', a1, r1⟩ := x
      rw [hm] at hm'
      cases hm'
      exact ⟨_, hv, a, dx, ws, rfl, a1.rdd, r1.none hl, y⟩
    · exact k.elim
  · exact k.elim
theorem aVal_i {o : Bool} {p : SV} {m0 : D} {ra : SA} {env : Env} {fp : List Addr} (hz : fz m0 = true) (q : p env = some m0) (r : ER C H env σ fp) (nd : fp.Nodup) (k : PostE C W σ H fp Q (sCallA F (aVal m0 ra) env)) :
    tV C p σ H fun x H1 => RP C H1 m0 x [] ∧ tA C W ra σ H1 fun vs H2 => spF C F (x :: vs) H2 Q (fun cls d H' => W cls d σ H') := by
  refine ⟨env, fp, m0, r, q, fun v H1 fm s x => ?_⟩
  have := x.fz m0 hz
  subst this
  refine ⟨x, env, fp, r.st env (Same.st1 s _), nd, ?_⟩
  have mv0 : Mv H H1 fp fp := (Mv.same (fm := []) s noneIn).less fun b hb => hb
  unfold sCallA aVal at k
  cases q2 : ra env with
  | none => rw [q2] at k; exact k.elim
  | some z =>
    obtain ⟨z, env1⟩ := z
    rw [q2] at k
    cases z with
    | ex c m => exact fun cls d H2 f2 fe y r2 n2 m2 => k cls d H2 f2 fe y r2 n2 (mv0.trans m2)
    | ok as =>
      intro vs H2 fa fe y r2 n2 m2
      have x2 : RP C H2 m0 v [] := x.st m0 (m2.st (f := []) (by simpa using nd))
      exact call_core (as := .val m0 :: as) k ⟨v, vs, [], fa, rfl, rfl, x2, y⟩ r2 (by simpa using n2) (by simpa using mv0.trans m2)
theorem methV_i {p : SV} {ra : SA} (hm : C.mg c = some (.ref A)) (x : tE C W (sMethV c m p F ra) σ H Q) : tMethS A m (spF C F) (fun σ cls d H' => W cls d σ H') (tV C p) (tA C W ra) σ H Q := by
  obtain ⟨env, fp, r, nd, k⟩ := x
  unfold sMethV at k
  split at k
  · rename_i c' fs q
    split at k
    · rename_i hc
      obtain ⟨rfl, hl⟩ := hc
      refine tV_mono (aVal_i (o := true) rfl q r nd k) fun v H1 ⟨x, y⟩ => ?_
      obtain ⟨a, A', dx, ws, g, rfl, hm', a1, r1⟩ := x
      rw [hm] at hm'
      cases hm'
      exact ⟨a, dx, ws, rfl, a1.rdd, r1.none hl, y⟩
    · exact k.elim
  · exact k.elim
theorem tA_nil {Q' : List V → Hp → Prop} (h : tA C W aNil σ H Q') : Q' [] H := by
  obtain ⟨env, fp, r, nd, k⟩ := h
  exact k [] H [] fp ⟨rfl, rfl⟩ r nd (Mv.refl H fp)
theorem propN_i {i : Nat} (hm : C.mg c = some (.ref A)) (x : tE C W (sPropN c i F) σ H Q) : tPropS A (spF C F) (tVar i) σ H Q := by
  obtain ⟨env, fp, r, nd, k⟩ := x
  unfold sPropN at k
  split at k
  · rename_i o c' fs q
    split at k
    · rename_i hc
      subst hc
      obtain ⟨v, hv, y⟩ := aN_i (call_i (noEx_i (W' := fun _ _ _ _ => False) ⟨env, fp, r, nd, k⟩))
      obtain ⟨v', f1, f2, f3, hv', _, x, _⟩ := pVar_get q r
      rw [hv] at hv'
      cases hv'
      obtain ⟨a, A', dx, ws, g, rfl, hm', a1, r1⟩ := x
      rw [hm] at hm'
      cases hm'
      exact ⟨_, hv, a, dx, ws, rfl, a1.rdd, tA_nil y⟩
    · exact k.elim
  · exact k.elim
theorem propV_i {p : SV} (hm : C.mg c = some (.ref A)) (x : tE C W (sPropV c p F) σ H Q) : tPropS A (spF C F) (tV C p) σ H Q := by
  obtain ⟨env, fp, r, nd, k⟩ := x
  unfold sPropV at k
  split at k
  · rename_i c' fs q
    split at k
    · rename_i hc
      subst hc
      have k2 : PostE C (fun _ _ _ _ => False) σ H fp Q (sCallA F (aVal (.ins false c' fs) aNil) env) := by
        unfold sNoEx at k
        split at k
        · rename_i m env1 q
          rw [q]; exact k
        · exact k.elim
      refine tV_mono (aVal_i (o := true) rfl q r nd k2) fun v H1 ⟨x, y⟩ => ?_
      obtain ⟨a, A', dx, ws, g, rfl, hm', a1, r1⟩ := x
      rw [hm] at hm'
      cases hm'
      exact ⟨a, dx, ws, rfl, a1.rdd, tA_nil y⟩
    · exact k.elim
  · exact k.elim
theorem same_new {H : Hp} {x dx : Addr} {u u' : HO} (hx : H x = none) (hd : H dx = none) (ne : dx ≠ x) : Same H (upd (upd H dx u) x u') := fun a o e => by
  rw [upd_ne (ne_of_none e hx), upd_ne (ne_of_none e hd)]; exact e
theorem make_i {ra : SA} (hm : C.mg c = some (.ref A)) (x : tE C W (sMake c F ra) σ H Q) : tMakeS A (spF C F) (fun σ cls d H' => W cls d σ H') (tA C W ra) σ H Q := by
  obtain ⟨env, fp, r, nd, h⟩ := x
  refine ⟨env, fp, r, nd, ?_⟩
  unfold sMake at h
  cases q : ra env with
  | none => rw [q] at h; exact h.elim
  | some z =>
    obtain ⟨z, env1⟩ := z
    rw [q] at h
    cases z with
    | ex c m => exact h
    | ok as =>
      intro vs H1 fa fe a r1 n1 mv x dx hx hd ne
      dsimp only at h
      split at h
      · rename_i ms env2 q2
        obtain ⟨fm, fe', x2, r2, p⟩ := takeA_ok as a r1 q2
        have sm : Same H1 (upd (upd H1 dx (.own x)) x (.ins A dx [])) := same_new hx hd ne
        generalize hH : upd (upd H1 dx (.own x)) x (.ins A dx []) = H2 at sm ⊢
        have ex : H2 x = some (.ins A dx []) := by rw [← hH, upd_same]
        have nd2 : (fm ++ fe').Nodup := p.nodup_iff.mpr n1
        have xm : ∀ b ∈ fm ++ fe', b ≠ x := fun b hb z => by
          subst z
          obtain ⟨o, e, _⟩ := (Owned.app (x2.owned ms) (r2.owned env2)) b hb
          rw [hx] at e; cases e
        have mv2 : Mv H H2 fp (fe' ++ x :: fm) := (mv.trans (Mv.same (fm := [x]) sm fun b hb => by rw [List.mem_singleton.mp hb]; exact hx)).less fun b hb => nk_a p hb
        have x3 := x2.st ms (Same.st1 sm _)
        have r3 := r2.st env2 (Same.st1 sm _)
        have nd3 : (fe' ++ x :: fm).Nodup := nk_b nd2 xm
        have ow := r3.owned env2
        refine ⟨.ins true c [] :: ms, x :: fm, ⟨.ref x, vs, [x], fm, rfl, rfl, ⟨x, A, dx, [], [], rfl, hm, ⟨ex, rfl⟩, rfl, rfl⟩, x3⟩, (List.nodup_append.mp nd3).2.1, ?_⟩
        split at h
        · rename_i xm os q3
          rw [q3]
          intro v H3 fv fo y o n m2
          obtain ⟨rfl, rfl⟩ := y
          obtain ⟨v', vr, g1, g2, e, rfl, y1, o'⟩ := o
          cases e
          refine ⟨rfl, ?_⟩
          have n4 := m2.nodup nd3 ow n
          have m4 := mv2.trans (m2.frame nd3 ow)
          obtain ⟨fe3, r4, n5, s5⟩ := backA_ok as a o' (r3.st env2 (m2.st nd3)) (nk_c (g0 := []) n4)
          exact h (.ref x) H3 g1 fe3 y1 r4 (nk_d (g0 := []) n4 n5 s5) (m4.less fun b hb => nk_e (g0 := []) s5 hb)
        · rename_i ec em xm os q3
          rw [q3]
          intro cls d H3 fv fo y o n m2
          have n4 := m2.nodup nd3 ow n
          have m4 := mv2.trans (m2.frame nd3 ow)
          have ho : ∃ g1 g2, fo = g1 ++ g2 ∧ OutR C H3 os vs g2 := by
            cases xm with
            | none =>
              obtain ⟨v', vr', e, o⟩ := o
              cases e
              exact ⟨[], fo, rfl, o⟩
            | some m =>
              obtain ⟨v', vr', g1, g2, e, rfl, x, o⟩ := o
              cases e
              exact ⟨g1, g2, rfl, o⟩
          clear o
          obtain ⟨g1, g2, rfl, o⟩ := ho
          obtain ⟨fe3, r4, n5, s5⟩ := backA_ok as a o (r3.st env2 (m2.st nd3)) (nk_c n4)
          exact h cls d H3 fv fe3 y r4 (nk_d0 n4 n5 s5) (m4.less fun b hb => nk_e s5 ((List.mem_append.mp hb).elim (fun z => List.mem_append_left _ (List.mem_append_left _ z)) fun z => List.mem_append_right _ z))
        · exact h.elim
      · exact h.elim
end
theorem run_makeS {X : Cx} {CX : CXT} {k : Nat} {f C : Addr} {fd : FuncData} {ps : List Str} {sp : Sp} {E : XK} {pins : List (Addr × Obj)} {σ : L2.St} {H : Hp} {s : Shared} {Q : VK} {us : List Value} {vs : List V} (M : Mk X.K C f) (F : FnOk X.prog X.w X.K X.mg X.base CX k f fd ps sp) (hr : Room (k + 1) X.A) (hb : Binds X.K fd ps [])
    (hx : PassesAt CX X σ E) (I : Inv X pins σ H s) (r : Vals vs us)
    (h : ∀ x dx, H x = none → H dx = none → dx ≠ x → sp (.ref x :: vs) (upd (upd H dx (.own x)) x (.ins C dx [])) (fun v H2 => v = .non ∧ Q (.ref x) H2) E) :
    wpAny (model X.prog X.w) X.A (call (.ref C) us) (EP X pins σ Q) X.xe s := by
  have hq := h (s.heap.objs.size + 1) s.heap.objs.size (I.hok.fresh (Nat.le_succ _)) (I.hok.fresh (Nat.le_refl _)) (Nat.ne_of_lt (Nat.lt_succ_self _))
  have I2 := Inv.made (C := C) I
  have r2 : Vals (V.ref (s.heap.objs.size + 1) :: vs) (Value.ref (s.heap.objs.size + 1) :: us) := .cons rfl r
  have hl : (Value.ref (s.heap.objs.size + 1) :: us).length = ps.length := by
    have e := r2.length
    rw [F.len _ _ _ _ hq] at e
    exact e.symm
  have b := hb _ (Value.ref (s.heap.objs.size + 1) :: us) I2.kIn (by rw [List.append_nil]; exact hl)
  rw [List.append_nil] at b
  refine wpAny_call (make_map (f := f) I.kIn M.makes M.init (beq_iff_eq.mp M.fn) (codeAny_mono (F.run _ X.stack _ _ ⟨Value.ref (s.heap.objs.size + 1) :: us, []⟩ (Value.ref (s.heap.objs.size + 1) :: us) _ _ E (hr.make C us [])
    (I2.env0.make C us []) b r2 hq) fun r s' hq' => ?_))
  cases r with
  | error e => exact hx pins _ _ e s' I2 hq'
  | ok fl =>
    cases fl with
    | ret u =>
      obtain ⟨v, H', I3, rv, ev, q3⟩ := I2.after hq'
      subst ev
      exact ⟨rv, ⟨V.ref (s.heap.objs.size + 1), H', I3, rfl, q3⟩⟩
    | next => exact False.elim hq'
    | brk => exact False.elim hq'
    | cont => exact False.elim hq'
section
variable {X : Cx} {CX : CXT} {k : Nat} {f C : Addr} {fd : FuncData} {ps : List Str} {sp : Sp} {E : L2.St → XK} {x : Str} {p pos : Pos} {e : Expr} {es : List Expr} {t : TA}
theorem pe_makeS (M : Mk X.K C f) (F : FnOk X.prog X.w X.K X.mg X.base CX k f fd ps sp) (hr : Room (k + 1) X.A) (hg : Gl X x) (hm : X.mg x = some (.ref C)) (hb : Binds X.K fd ps []) (hx : ∀ σ, PassesAt CX X σ (E σ))
    (ha : PA X (e :: es) t) (hdb : (x == ("__debug__" : Str)) = false := by decide) (he : starEach (e :: es) X.env = (false, eval e X.env) :: starEach es X.env := by rfl) (hpl : (backTo pos (starEach es X.env)).any (·.1) = false := by rfl) :
    PE X (.Call (.Name x p) (e :: es) [] pos) (tMakeS C sp E t) := by
  refine ⟨fun pins s σ H Q I h => ?_⟩
  refine wpAny_Call_Name_kw (ld_glob I hg hm ?_ hdb)
  refine PySem.W.callWith_K (h₀ := X.base) I.ok.mod.kin M.kp (thn (ha.run pos pins s σ H _ I h) fun us s1 ⟨vs, H1, I1, r, q⟩ => ⟨I1.kIn, ?_⟩) he hpl
  exact run_makeS M F hr hb (hx σ) I1 r q
theorem pe_makeS0 (M : Mk X.K C f) (F : FnOk X.prog X.w X.K X.mg X.base CX k f fd ps sp) (hr : Room (k + 1) X.A) (hg : Gl X x) (hm : X.mg x = some (.ref C)) (hb : Binds X.K fd ps []) (hx : ∀ σ, PassesAt CX X σ (E σ))
    (hdb : (x == ("__debug__" : Str)) = false := by decide) : PE X (.Call (.Name x p) [] [] pos) (tMakeS C sp E tNil) := by
  refine ⟨fun pins s σ H Q I h => ?_⟩
  refine wpAny_Call_Name_kw (ld_glob I hg hm ?_ hdb)
  exact PySem.W.callWith_K0 I.kIn M.kp (run_makeS (us := []) M F hr hb (hx σ) I .nil h)
end
/-- the facts of a method, a property, a class that is made -/
structure Mt (P : Program) (w : World) (K : PySem.W.Frag) (mg : Str → Option Value) (base : Heap) (k : Nat) (c m : Str) (F : SF) : Prop where
  ex : ∃ A f fd ps, mg c = some (.ref A) ∧ Cls K A ∧ Meth K A m f ∧ FnOk P w K mg base (L2.CX P w) k f fd ps (spF ⟨K, mg⟩ F) ∧ Binds K fd ps []
structure Pr (P : Program) (w : World) (K : PySem.W.Frag) (mg : Str → Option Value) (base : Heap) (k : Nat) (c m : Str) (F : SF) : Prop where
  ex : ∃ A p g fd ps, mg c = some (.ref A) ∧ Cls K A ∧ PropOf K A m p g ∧ FnOk P w K mg base (L2.CX P w) k g fd ps (spF ⟨K, mg⟩ F) ∧ Binds K fd ps []
structure Mkr (P : Program) (w : World) (K : PySem.W.Frag) (mg : Str → Option Value) (base : Heap) (k : Nat) (c : Str) (F : SF) : Prop where
  ex : ∃ A f fd ps, mg c = some (.ref A) ∧ Mk K A f ∧ FnOk P w K mg base (L2.CX P w) k f fd ps (spF ⟨K, mg⟩ F) ∧ Binds K fd ps []
section
variable {X : Cx} {W : WXT} {k j : Nat} {F : SF} {c m : Str} {q pos apos : Pos} {e o : Expr} {es : List Expr} {ra : SA}
theorem E_meN {i : Nat} {pl : Sem Bool} (d : Mt X.prog X.w X.K X.mg X.base k c m F) (hr : Room j X.A) (hk : k ≤ j) (tk : Takes X W) (ho : PE X o (tVar i)) (ha : PA X (e :: es) (tA (kt X) W ra))
    (hst : starEach (e :: es) X.env = (false, eval e X.env) :: starEach es X.env := by rfl) (hpl : (backTo pos (starEach es X.env)).any (·.1) = false := by rfl)
    (ht : eval (.Call (.Attribute o m apos) (e :: es) [] pos) X.env = (do
      let ov ← eval o X.env
      standAt apos.atName
      let (f, first) ← holding [ov] (getMethod ov m pl)
      callWith pos f first (backTo pos (starEach (e :: es) X.env)) (backToKw pos (keywordEach [] X.env))) := by rfl) :
    PE X (.Call (.Attribute o m apos) (e :: es) [] pos) (tE (kt X) W (sMethN c m i F ra)) := by
  obtain ⟨A, f, fd, ps, hm, cl, me, G, hb⟩ := d.ex
  exact pe_imp (pe_methS ho cl me G (hr.mono hk) hb (fun σ => passAt tk σ) ha hst hpl ht) fun _ _ _ => methN_i hm
theorem E_meN0 {i : Nat} {pl : Sem Bool} (d : Mt X.prog X.w X.K X.mg X.base k c m F) (hr : Room j X.A) (hk : k ≤ j) (tk : Takes X W) (ho : PE X o (tVar i))
    (ht : eval (.Call (.Attribute o m apos) [] [] pos) X.env = (do
      let ov ← eval o X.env
      standAt apos.atName
      let (f, first) ← holding [ov] (getMethod ov m pl)
      callWith pos f first (backTo pos (starEach [] X.env)) (backToKw pos (keywordEach [] X.env))) := by rfl) :
    PE X (.Call (.Attribute o m apos) [] [] pos) (tE (kt X) W (sMethN c m i F aNil)) := by
  obtain ⟨A, f, fd, ps, hm, cl, me, G, hb⟩ := d.ex
  refine pe_imp (pe_methS0 ho cl me G (hr.mono hk) hb (fun σ => passAt tk σ) ht) fun σ H Q x => ?_
  obtain ⟨v, hv, a, dx, fs, e, r, l, y⟩ := methN_i hm x
  exact ⟨v, hv, a, dx, fs, e, r, l, tA_nil y⟩
theorem E_meV {p : SV} {pl : Sem Bool} (d : Mt X.prog X.w X.K X.mg X.base k c m F) (hr : Room j X.A) (hk : k ≤ j) (tk : Takes X W) (ho : PE X o (tV (kt X) p)) (ha : PA X (e :: es) (tA (kt X) W ra))
    (hst : starEach (e :: es) X.env = (false, eval e X.env) :: starEach es X.env := by rfl) (hpl : (backTo pos (starEach es X.env)).any (·.1) = false := by rfl)
    (ht : eval (.Call (.Attribute o m apos) (e :: es) [] pos) X.env = (do
      let ov ← eval o X.env
      standAt apos.atName
      let (f, first) ← holding [ov] (getMethod ov m pl)
      callWith pos f first (backTo pos (starEach (e :: es) X.env)) (backToKw pos (keywordEach [] X.env))) := by rfl) :
    PE X (.Call (.Attribute o m apos) (e :: es) [] pos) (tE (kt X) W (sMethV c m p F ra)) := by
  obtain ⟨A, f, fd, ps, hm, cl, me, G, hb⟩ := d.ex
  exact pe_imp (pe_methS ho cl me G (hr.mono hk) hb (fun σ => passAt tk σ) ha hst hpl ht) fun _ _ _ => methV_i hm
theorem E_prN {i : Nat} (d : Pr X.prog X.w X.K X.mg X.base k c m F) (hr : Room j X.A) (hk : k + 1 ≤ j) (ho : PE X o (tVar i)) (hab : attributeBase o m X.env (eval o X.env) = eval o X.env := by rfl) : PE X (.Attribute o m pos) (tE (kt X) W (sPropN c i F)) := by
  obtain ⟨A, p, g, fd, ps, hm, cl, pr, G, hb⟩ := d.ex
  exact pe_imp (pe_propS ho cl pr G (hr.mono hk) hb (passes_call takes0 fun _ _ _ _ h => h) hab) fun _ _ _ => propN_i hm
theorem E_prV {p : SV} (d : Pr X.prog X.w X.K X.mg X.base k c m F) (hr : Room j X.A) (hk : k + 1 ≤ j) (ho : PE X o (tV (kt X) p)) (hab : attributeBase o m X.env (eval o X.env) = eval o X.env := by rfl) : PE X (.Attribute o m pos) (tE (kt X) W (sPropV c p F)) := by
  obtain ⟨A, p, g, fd, ps, hm, cl, pr, G, hb⟩ := d.ex
  exact pe_imp (pe_propS ho cl pr G (hr.mono hk) hb (passes_call takes0 fun _ _ _ _ h => h) hab) fun _ _ _ => propV_i hm
theorem E_make (d : Mkr X.prog X.w X.K X.mg X.base k c F) (hr : Room j X.A) (hk : k + 1 ≤ j) (tk : Takes X W) (hg : Gl X c) (ha : PA X (e :: es) (tA (kt X) W ra)) (hdb : (c == ("__debug__" : Str)) = false := by decide)
    (he : starEach (e :: es) X.env = (false, eval e X.env) :: starEach es X.env := by rfl) (hpl : (backTo pos (starEach es X.env)).any (·.1) = false := by rfl) : PE X (.Call (.Name c q) (e :: es) [] pos) (tE (kt X) W (sMake c F ra)) := by
  obtain ⟨A, f, fd, ps, hm, mk, G, hb⟩ := d.ex
  exact pe_imp (pe_makeS mk G (hr.mono hk) hg hm hb (fun σ => passAt tk σ) ha hdb he hpl) fun _ _ _ => make_i hm
theorem E_make0 (d : Mkr X.prog X.w X.K X.mg X.base k c F) (hr : Room j X.A) (hk : k + 1 ≤ j) (tk : Takes X W) (hg : Gl X c) (hdb : (c == ("__debug__" : Str)) = false := by decide) : PE X (.Call (.Name c q) [] [] pos) (tE (kt X) W (sMake c F aNil)) := by
  obtain ⟨A, f, fd, ps, hm, mk, G, hb⟩ := d.ex
  exact pe_imp (pe_makeS0 mk G (hr.mono hk) hg hm hb (fun σ => passAt tk σ) hdb) fun σ H Q x => tA_nil (make_i hm x)
end
end T

set_option Elab.async false
set_option linter.all false
set_option maxRecDepth 100000
set_option maxHeartbeats 4000000
namespace T
open PySem PySem.Spec PyProof.Rows L2

/-! ### enumerate of a tuple -/
theorem meets_enum_new1 {v : Value} {o : Obj} {H : Heap → Prop} (B : Begins v o H) :
    Meets (Builtin.«enumerate.__new__» ⟨[.type "enumerate", v], []⟩) (fun _ R s => H s.heap ∧
      R (.ok (.ret (.ref (s.heap.push o).objs.size))) { s with heap := (s.heap.push o).push { cls := .type "enumerate", data := .fields #[.none, .bool false, .ref s.heap.objs.size, rawInt 0, .none, .none] } }) :=
  .of_wp fun prog w A R s h => by
    obtain ⟨hp, g, d, tk, os⟩ := s; obtain ⟨h1, h⟩ := h
    have hsub := sub_enumerate
    have q1 : ∀ {A' : Around} {E : Value → Shared → Prop} {Q : Value → Shared → Prop}, Q (.ref hp.objs.size) ⟨hp.push o, g, d, tk, os⟩ → wpAny (model prog w) A' (pyIter v) Q E ⟨hp, g, d, tk, os⟩ :=
      fun q => B.iter prog w _ _ ⟨hp, g, d, tk, os⟩ _ h1 q
    wp_walk using q1
    refine wpAny_stack_any fun st => wpAny_pure ?_
    split
    · rename_i c _ _ _ _ _
      cases (c == Value.type "enumerate")
      · wp_walk using q1
        exact ⟨_, rfl, h⟩
      · wp_walk using q1
        exact ⟨_, rfl, h⟩
    · wp_walk using q1
      exact ⟨_, rfl, h⟩
theorem call_enum1 {prog : Program} {w : World} {A : Around} {E : Value → Shared → Prop} {s : Shared} {v : Value} {o : Obj} {H : Heap → Prop} {Q : Value → Shared → Prop} (B : Begins v o H) (h1 : H s.heap)
    (h : ∀ h', IsEnum h' (s.heap.objs.size + 1) s.heap.objs.size 0 .none → h'.get? s.heap.objs.size = some o → h'.objs.size = s.heap.objs.size + 2 →
      (∀ b o, s.heap.get? b = some o → h'.get? b = some o) → Q (.ref (s.heap.objs.size + 1)) { s with heap := h' }) :
    wpAny (model prog w) A (call (.type "enumerate") [v]) Q E s := by
  refine callType_new F.called_enumerate (by decide) (F.typeCall_enumerate_1 _) (F.newCall_enumerate_1 _) (fun obj => F.args_object_init_2 obj _) F.entry_enumerate_new
    (meets_enum_new1 B) ⟨h1, ?_⟩
  have hz : (s.heap.push o).objs.size = s.heap.objs.size + 1 := Heap.size_push ..
  show _ ∧ _
  rw [hz]
  have he : IsEnum ((s.heap.push o).push { cls := .type "enumerate", data := .fields #[.none, .bool false, .ref s.heap.objs.size, rawInt 0, .none, .none] }) (s.heap.objs.size + 1) s.heap.objs.size 0 .none := by
    have := Heap.get?_push_size (s.heap.push o) (o := { cls := .type "enumerate", data := .fields #[.none, .bool false, .ref s.heap.objs.size, rawInt 0, .none, .none] }) rfl
    rw [hz] at this; exact this
  refine ⟨⟨_, he, rfl⟩, h _ he (Heap.get?_push_of_some _ (Heap.get?_push_size _ B.free)) (by rw [Heap.size_push, hz]) fun b o x => Heap.get?_push_of_some _ (Heap.get?_push_of_some _ x)⟩
theorem enum_endT {prog : Program} {w : World} {A : Around} {E : Value → Shared → Prop} {s : Shared} {e it l : Addr} {i : Nat} {items : Array Value} {old : Value} {Q : Option Value → Shared → Prop} (hh : A.handled = none)
    (he : IsEnum s.heap e it i old) (hit : s.heap.IsTupleIter it l i) (hl : s.heap.IsTuple l items) (hx : items[i]? = none)
    (hQ : ∀ h', Heap.ExtBut it s.heap h' → Q none { s with heap := h' }) : wpAny (model prog w) A (pyNext (.ref e)) Q E s := by
  have hT : s.TypeIs (.ref e) "enumerate" := ⟨_, he, rfl⟩
  unfold pyNext
  refine wpAny_bind (wpAny_attempt (wpAny_callSpecial?_slot (name := Str.ofString "__next__") hT F.slot_enumerate_next
    (wpAny_call_entry F.slot_enumerate_next hT F.entry_enumerate_next ?_ (F.args_enumerate_next_1 _))))
  show wpAny _ _ (field (.ref e) 2 >>= _) _ _ _
  refine wpAny_bind (wpAny_field he rfl (x := .ref it) rfl ?_)
  refine wpAny_bind (wpAny_nextOf_tuple_end hh hit hl hx fun h' x he' hx' => ?_)
  obtain ⟨o, ho, hc⟩ := hx'
  refine wpAny_bind (wpAny_isInstance (T := "StopIteration") (b := true) ⟨o, ho, hc⟩ isSubtype_stop ?_)
  exact wpAny_pure (hQ _ he')
def IteT (K : PySem.W.Frag) (a : Addr) : It :=
  ⟨fun i H => ∃ (xs : List V) (x : V), SqT K H a xs ∧ xs[i]? = some x, fun i H v H' => ∃ T x, v = .ref T ∧ H T = none ∧ H' = upd H T (.tup [.int (i : Nat), x]) ∧ ∀ xs, SqT K H a xs → xs[i]? = some x, fun i H => ∃ xs : List V, SqT K H a xs ∧ xs.length ≤ i⟩
theorem turn_enumT {P : Program} {w : World} {K : PySem.W.Frag} {elts : List Expr} {kk : Nat} {tpos : Pos} (a e it : Addr) (hai : a ≠ it) (hae : a ≠ e) :
    Turn P w K (.Tuple elts kk tpos) (IteT K a) [e, it] e (fun i h => (∃ old, IsEnum h e it ((i : Nat) : Int) old) ∧ h.IsTupleIter it a i ∧ e ≠ it) where
  mem := by simp
  obj := fun i h st b hb => by
    obtain ⟨⟨old, he⟩, ⟨o, ho, hc, hd⟩, _⟩ := st
    have e' : b = e ∨ b = it := by simpa using hb
    rcases e' with z | z
    · rw [z]; exact ⟨_, he, fun v q => nomatch q⟩
    · rw [z]; exact ⟨o, ho, fun v q => by rw [hd] at q; cases q⟩
  keep := fun i h h' st k => let ⟨⟨old, he⟩, hi, hne⟩ := st; ⟨⟨old, k e (by simp) _ he⟩, hi.at fun o q => k it (by simp) o q, hne⟩
  item := by
    intro X hP hw hK hc i pins s σ H E I hf st hg
    subst hP hw hK
    obtain ⟨⟨old, he⟩, hit, hne⟩ := st
    obtain ⟨xs, x, hq, hx⟩ := hg
    obtain ⟨its, rv, p, hz⟩ := I.tuple hq
    obtain ⟨u, hu, ru⟩ := rv.get hx
    have hel : e < s.heap.objs.size := Heap.lt_size he
    have hil : it < s.heap.objs.size := by obtain ⟨_, q, _⟩ := hit; exact Heap.lt_size q
    have hlt : i < its.toArray.size := by
      have := (List.getElem?_eq_some_iff.mp hu).1
      simpa using this
    refine wpAny_pyNext_enum_itemD (Draws.tuple (A := X.A.in1) (prog := X.prog) (w := X.w) (show X.A.in1.handled = none from I.ok.hd hc) it a hai its.toArray) he ⟨hit, p⟩ hlt hne (by simp [hne, Ne.symm hae]) fun u' h' tk hu' ho hit' hT hsz hk => ?_
    have eu : u' = u := by
      have : its[i]? = some u' := by simpa using hu'
      rw [hu] at this; cases this; rfl
    subst eu
    refine ⟨_, rfl, wpAny_letOwnedTupleGo_enum (s := { s with heap := h', toks := tk + 1 }) ho fun h'' he' sb => ?_⟩
    have hT2 : h''.get? s.heap.objs.size = some { cls := .type "tuple", data := .seq #[.int i tk, u'] } := (sb.2 _ (Nat.ne_of_gt hel)).trans hT
    have new : ObjOk X.prog X.w (upd H s.heap.objs.size (.tup [.int (i : Nat), x])) h'' s.heap.objs.size (.tup [.int (i : Nat), x]) :=
      ⟨by show 2 ≤ sizeLine; decide, [.int i tk, u'], .cons ⟨_, rfl⟩ (.cons ru .nil), ⟨_, hT2, rfl, _, rfl⟩⟩
    have I1 : Inv X pins σ (upd H s.heap.objs.size (.tup [.int (i : Nat), x])) { s with heap := h'', toks := tk + 1 } :=
      I.turnedNew (ch := [e, it]) (fun b ob hb q => (sb.2 b (fun z => hb (by simp [z]))).trans (hk b ob (fun z => hb (by simp [z])) (fun z => hb (by simp [z])) q)) hf (Nat.le_refl _) new
    refine ⟨.ref s.heap.objs.size, _, I1, rfl, ⟨_, x, rfl, I.hok.fresh (Nat.le_refl _), rfl, fun ys hy => by rw [I.tuple_inj hy hq]; exact hx⟩, ⟨⟨u', ?_⟩, hit'.1.at fun o q => (sb.2 it (Ne.symm hne)).trans q, hne⟩, fun b hb => ?_⟩
    · have e1 : ((i + 1 : Nat) : Int) = (i : Int) + 1 := by omega
      rw [e1]; exact he'
    · have hb' : b < s.heap.objs.size := by
        have e' : b = e ∨ b = it := by simpa using hb
        rcases e' with z | z
        · rw [z]; exact hel
        · rw [z]; exact hil
      rw [upd_ne (Nat.ne_of_lt hb')]
      exact (hf b hb).1
  done := by
    intro X hP hw hK hc i pins s σ H E I hf st hg
    subst hP hw hK
    obtain ⟨⟨old, he⟩, hit, hne⟩ := st
    obtain ⟨xs, hq, hx⟩ := hg
    obtain ⟨its, rv, p, hz⟩ := I.tuple hq
    obtain ⟨f0, f1, f2, f3, f4, f5⟩ := hf it (by simp)
    have hl := rv.length
    exact enum_endT (I.ok.hd hc) he hit p (by simp; omega) fun h' eb => ⟨rfl, I.turned (t' := s.toks) (fun b o hb q => eb b o hb q) f0 f1 f3 f4 f5⟩
  self := fun A i s Q E st h => let ⟨⟨_, he⟩, _⟩ := st; wpAny_pyIter_enum he h
/-- a list | tuple, whichever -/
def iEnumA (K : PySem.W.Frag) (ta : TA) : TI := fun σ H R => ta σ H fun vs H1 => ∃ a, vs = [.ref a] ∧ ((∃ xs, SqL K H1 a xs ∧ R (Ite K a) H1) ∨ (∃ xs, SqT K H1 a xs ∧ R (IteT K a) H1))
theorem pi_enumA {X : Cx} {e : Expr} {ta : TA} {p pos tpos : Pos} {elts : List Expr} {kk : Nat} (hg : Gl X "enumerate") (hm : X.mg "enumerate" = none) (ha : PA X [e] ta) (hs : starEach [e] X.env = [(false, eval e X.env)] := by rfl) :
    PI X (.Tuple elts kk tpos) (.Call (.Name "enumerate" p) [e] [] pos) (iEnumA X.K ta) := by
  refine ⟨fun pins s σ H R I h => ?_⟩
  refine Call_ (ld_blt I hg hm boot_enumerate (PyProof.Rows.callWith_type1 (thn (ha.run pos pins s σ H _ I h) fun us s1 ⟨vs, H1, I1, r1, q1⟩ => ?_) hs rfl))
  obtain ⟨a, ex, q1⟩ := q1
  subst ex
  cases r1 with
  | cons r rr =>
    cases rr
    cases r
    have hfp : ∀ b ∈ [s1.heap.objs.size + 1, s1.heap.objs.size], FpOk X pins H1 b := fun b hb => by
      have e' : b = s1.heap.objs.size + 1 ∨ b = s1.heap.objs.size := by simpa using hb
      have hle : s1.heap.objs.size ≤ b := by
        rcases e' with z | z
        · rw [z]; exact Nat.le_add_right _ _
        · rw [z]; exact Nat.le_refl _
      exact I1.fpOk hle (I1.hok.fresh hle)
    rcases q1 with ⟨xs, hq, q⟩ | ⟨xs, hq, q⟩
    · obtain ⟨its, rv, p', hz⟩ := I1.list hq
      refine call_enumerate_list p'.isList fun h' he hit hsz hk => wpAny_pyIter_enum he ?_
      have I2 : Inv X pins σ H1 { s1 with heap := h' } := I1.kept (t' := s1.toks) hk
      exact ⟨s1.heap.objs.size + 1, [s1.heap.objs.size + 1, s1.heap.objs.size], _, _, H1, rfl, I2, turn_enum a (s1.heap.objs.size + 1) s1.heap.objs.size, ⟨⟨.none, he⟩, hit, Nat.succ_ne_self _⟩, hfp, q⟩
    · obtain ⟨its, rv, p', hz⟩ := I1.tuple hq
      obtain ⟨o1, ho1, _⟩ := id p'
      have hlt : a < s1.heap.objs.size := Heap.lt_size ho1
      refine call_enum1 (begins_tuple a its.toArray) (show s1.heap.IsTuple a its.toArray from p') fun h' he hit hsz hk => wpAny_pyIter_enum he ?_
      have I2 : Inv X pins σ H1 { s1 with heap := h' } := I1.kept (t' := s1.toks) hk
      exact ⟨s1.heap.objs.size + 1, [s1.heap.objs.size + 1, s1.heap.objs.size], _, _, H1, rfl, I2, turn_enumT a (s1.heap.objs.size + 1) s1.heap.objs.size (Nat.ne_of_lt hlt) (Nat.ne_of_lt (Nat.lt_succ_of_lt hlt)), ⟨⟨.none, he⟩, ⟨_, hit, rfl, rfl⟩, Nat.succ_ne_self _⟩, hfp, q⟩

/-! ### their meanings -/
def enumL : Nat → List D → List D
  | _, [] => []
  | k, m :: r => .tup [.int k, m] :: enumL (k + 1) r
theorem enumL_len : ∀ (k : Nat) (ms : List D), (enumL k ms).length = ms.length
  | _, [] => rfl
  | k, m :: r => by simp [enumL, enumL_len (k + 1) r]
theorem enumL_get : ∀ (k : Nat) (ms : List D) (i : Nat), (enumL k ms)[i]? = (ms[i]?).map fun m => .tup [.int (k + i : Nat), m]
  | _, [], _ => by simp [enumL]
  | k, m :: r, 0 => by simp [enumL]
  | k, m :: r, i + 1 => by
    have : k + 1 + i = k + (i + 1) := by omega
    simp [enumL, enumL_get (k + 1) r i, this]
theorem same_tup {H : Hp} {T : Addr} {u : HO} (h : H T = none) : Same H (upd H T u) := fun a o e => by
  rw [upd_ne (ne_of_none e h)]; exact e
theorem its_enumL {C : Kt} {H : Hp} {o : Bool} {a : Addr} {vs : List V} {fp fp' : List Addr} {ms : List D} (h : At o H a (.lst vs) fp fp') (r : RPs C H ms vs []) : ItsOk C (Ite C.K a) H (enumL 0 ms) fp := fun i H' s => by
  have q := (h.st s).1.seqL (K := C.K)
  rw [enumL_len]
  refine ⟨fun hi => ⟨vs, q, by rw [← r.len]; exact hi⟩, fun m hm => ?_⟩
  rw [enumL_get] at hm
  cases hg : ms[i]? with
  | none => rw [hg] at hm; cases hm
  | some m0 =>
    rw [hg] at hm
    have e0 : m = .tup [.int ((i : Nat) : Int), m0] := by simpa using hm.symm
    subst e0
    obtain ⟨v, e, x⟩ := r.get hg
    refine ⟨⟨vs, v, q, e⟩, fun x' H'' y => ?_⟩
    obtain ⟨T, x2, rfl, hT, rfl, y⟩ := y
    have := y vs q
    rw [e] at this; cases this
    have sm := same_tup (u := .tup [.int (i : Nat), v]) hT
    exact ⟨sm, T, _, rfl, upd_same, _, _, [], [], rfl, rfl, ⟨rfl, rfl⟩, v, [], [], [], rfl, rfl, x.st m0 fun b o e z => sm b o (s b o e (z.elim (fun z => nomatch z) .inr)), rfl, rfl⟩
theorem its_enumT {C : Kt} {H : Hp} {a : Addr} {vs : List V} {fp : List Addr} {ms : List D} (h : SqT C.K H a vs) (r : RPs C H ms vs []) : ItsOk C (IteT C.K a) H (enumL 0 ms) fp := fun i H' s => by
  have q := seqT_st h s
  rw [enumL_len]
  refine ⟨fun hi => ⟨vs, q, by rw [← r.len]; exact hi⟩, fun m hm => ?_⟩
  rw [enumL_get] at hm
  cases hg : ms[i]? with
  | none => rw [hg] at hm; cases hm
  | some m0 =>
    rw [hg] at hm
    have e0 : m = .tup [.int ((i : Nat) : Int), m0] := by simpa using hm.symm
    subst e0
    obtain ⟨v, e, x⟩ := r.get hg
    refine ⟨⟨vs, v, q, e⟩, fun x' H'' y => ?_⟩
    obtain ⟨T, x2, rfl, hT, rfl, y⟩ := y
    have := y vs q
    rw [e] at this; cases this
    have sm := same_tup (u := .tup [.int (i : Nat), v]) hT
    exact ⟨sm, T, _, rfl, upd_same, _, _, [], [], rfl, rfl, ⟨rfl, rfl⟩, v, [], [], [], rfl, rfl, x.st m0 fun b o e z => sm b o (s b o e (z.elim (fun z => nomatch z) .inr)), rfl, rfl⟩
theorem RP.seqD {C : Kt} {H : Hp} {m : D} {ms : List D} {v : V} {fm : List Addr} (x : RP C H m v fm) (h : T.seqD m = some ms) :
    ∃ a, v = .ref a ∧ ((∃ vs fp', m = .lst true ms ∧ At true H a (.lst vs) fm fp' ∧ RPs C H ms vs []) ∨ (∃ vs fp', m = .lst false ms ∧ At false H a (.lst vs) fm fp' ∧ RPs C H ms vs []) ∨ (∃ vs, m = .tup ms ∧ SqT C.K H a vs ∧ RPs C H ms vs [])) := by
  unfold T.seqD at h
  split at h
  · split at h
    · rename_i o _ hz
      cases h
      obtain ⟨a, vs, g, rfl, a1, r1⟩ := x
      cases o with
      | true => exact ⟨a, rfl, .inl ⟨vs, g, rfl, a1, r1.fzAll hz⟩⟩
      | false => exact ⟨a, rfl, .inr (.inl ⟨vs, g, rfl, a1, r1.fzAll hz⟩)⟩
    · cases h
  · split at h
    · rename_i hz
      cases h
      obtain ⟨a, vs, rfl, a1, r1⟩ := x
      exact ⟨a, rfl, .inr (.inr ⟨vs, rfl, SqT.of a1, r1.fzAll hz⟩)⟩
    · cases h
  · cases h
theorem enum_its {C : Kt} {H : Hp} {m : D} {ms : List D} {v : V} {fm : List Addr} (x : RP C H m v fm) (h : T.seqD m = some ms) :
    ∃ a, v = .ref a ∧ ((∃ xs, SqL C.K H a xs ∧ ItsOk C (Ite C.K a) H (enumL 0 ms) fm) ∨ (∃ xs, SqT C.K H a xs ∧ ItsOk C (IteT C.K a) H (enumL 0 ms) fm)) := by
  obtain ⟨a, rfl, h⟩ := x.seqD h
  rcases h with ⟨vs, g, _, a1, r1⟩ | ⟨vs, g, _, a1, r1⟩ | ⟨vs, _, a1, r1⟩
  · exact ⟨a, rfl, .inl ⟨vs, a1.seqL, its_enumL a1 r1⟩⟩
  · exact ⟨a, rfl, .inl ⟨vs, a1.seqL, its_enumL a1 r1⟩⟩
  · exact ⟨a, rfl, .inr ⟨vs, a1, its_enumT a1 r1⟩⟩
def enumD : List D → Option (List D)
  | [m] => (seqD m).map (enumL 0)
  | _ => none
/-- an iterator of values: RPs of its arguments -/
def ItV (C : Kt) (w : List V → Hp → (It → Hp → Prop) → Prop) (f : List D → Option (List D)) : Prop := ∀ (H : Hp) (ms is : List D) (vs : List V) (fm : List Addr) (R : It → Hp → Prop), RPs C H ms vs fm → f ms = some is →
  (∀ J, ItsOk C J H is fm → R J H) → w vs H R
def wEnum (K : PySem.W.Frag) : List V → Hp → (It → Hp → Prop) → Prop := fun vs H1 R => ∃ a, vs = [.ref a] ∧ ((∃ xs, SqL K H1 a xs ∧ R (Ite K a) H1) ∨ (∃ xs, SqT K H1 a xs ∧ R (IteT K a) H1))
theorem itv_enum {C : Kt} : ItV C (wEnum C.K) enumD := by
  intro H ms is vs fm R x h k
  unfold enumD at h
  split at h
  · rename_i m
    cases q : seqD m with
    | none => rw [q] at h; cases h
    | some l =>
      rw [q] at h
      cases h
      obtain ⟨v, vr, f1, f2, rfl, rfl, x1, rfl, rfl⟩ := x
      rw [List.append_nil] at k
      obtain ⟨a, rfl, z⟩ := enum_its x1 q
      refine ⟨a, rfl, ?_⟩
      rcases z with ⟨xs, h1, h2⟩ | ⟨xs, h1, h2⟩
      · exact .inl ⟨xs, h1, k _ h2⟩
      · exact .inr ⟨xs, h1, k _ h2⟩
  · cases h
def zipL : List D → List D → List D
  | m :: r, n :: s => .tup [m, n] :: zipL r s
  | _, _ => []
theorem zipL_len : ∀ (ms ns : List D), (zipL ms ns).length = min ms.length ns.length
  | [], _ => by simp [zipL]
  | _ :: _, [] => by simp [zipL]
  | m :: r, n :: s => by simp [zipL, zipL_len r s]
theorem zipL_get : ∀ (ms ns : List D) (i : Nat) (m : D), (zipL ms ns)[i]? = some m → ∃ a b, ms[i]? = some a ∧ ns[i]? = some b ∧ m = .tup [a, b]
  | [], _, _, _, h => by simp [zipL] at h
  | _ :: _, [], _, _, h => by simp [zipL] at h
  | m :: r, n :: s, 0, x, h => by simp [zipL] at h; exact ⟨m, n, rfl, rfl, h.symm⟩
  | m :: r, n :: s, i + 1, x, h => by
    simp only [zipL, List.getElem?_cons_succ] at h
    obtain ⟨a, b, h1, h2, h3⟩ := zipL_get r s i x h
    exact ⟨a, b, by simpa using h1, by simpa using h2, h3⟩
def zipD : List D → Option (List D)
  | [.tup ms, .tup ns] => if fzs ms && fzs ns then some (zipL ms ns) else none
  | [.lst _ ms, .lst _ ns] => if fzs ms && fzs ns then some (zipL ms ns) else none
  | _ => none
def wZip (K : PySem.W.Frag) : List V → Hp → (It → Hp → Prop) → Prop := fun vs H1 R => ∃ a b xs ys, vs = [.ref a, .ref b] ∧ ((SqL K H1 a xs ∧ SqL K H1 b ys ∧ R (Itz K a b) H1) ∨ (SqT K H1 a xs ∧ SqT K H1 b ys ∧ R (RZ.ItzT K a b) H1))
theorem pair_ok {C : Kt} {H H' : Hp} {ft : List Addr} {T : Addr} {m n : D} {x y : V} (hT : H' T = none) (s : St1 H H' ft) (hx : RP C H m x []) (hy : RP C H n y []) : Same H' (upd H' T (.tup [x, y])) ∧ RP C (upd H' T (.tup [x, y])) (.tup [m, n]) (.ref T) [] := by
  have sm := same_tup (u := .tup [x, y]) hT
  have st : St1 H (upd H' T (.tup [x, y])) [] := fun b o e z => sm b o (s b o e (z.elim (fun z => nomatch z) .inr))
  exact ⟨sm, T, _, rfl, upd_same, x, _, [], [], rfl, rfl, hx.st m st, y, [], [], [], rfl, rfl, hy.st n st, rfl, rfl⟩
theorem itv_zip {C : Kt} : ItV C (wZip C.K) zipD := by
  intro H ms is vs fm R x h k
  unfold zipD at h
  split at h
  · rename_i ms ns
    split at h
    · rename_i hz
      rw [Bool.and_eq_true] at hz
      cases h
      obtain ⟨v, vr, f1, f2, rfl, rfl, x1, v2, vr2, f3, f4, rfl, rfl, x2, rfl, rfl⟩ := x
      obtain ⟨a, xs, rfl, a1, r1⟩ := x1
      obtain ⟨b, ys, rfl, b1, r2⟩ := x2
      refine ⟨a, b, xs, ys, rfl, .inr ⟨SqT.of a1, SqT.of b1, k _ fun i H' s => ?_⟩⟩
      have qa := seqT_st (SqT.of (K := C.K) a1) s
      have qb := seqT_st (SqT.of (K := C.K) b1) s
      have y1 := r1.fzAll hz.1
      have y2 := r2.fzAll hz.2
      refine ⟨fun hi => ⟨xs, ys, qa, qb, ?_⟩, fun m hm => ?_⟩
      · rw [zipL_len] at hi
        rw [← r1.len, ← r2.len]; omega
      · obtain ⟨m1, m2, g1, g2, rfl⟩ := zipL_get _ _ _ _ hm
        obtain ⟨w1, e1, z1⟩ := y1.get g1
        obtain ⟨w2, e2, z2⟩ := y2.get g2
        refine ⟨⟨xs, ys, w1, w2, qa, qb, e1, e2⟩, fun x' H'' y => ?_⟩
        obtain ⟨T, u1, u2, rfl, hT, rfl, k1, k2⟩ := y
        have := k1 xs qa
        rw [e1] at this; cases this
        have := k2 ys qb
        rw [e2] at this; cases this
        exact pair_ok hT s z1 z2
    · cases h
  · rename_i o1 ms o2 ns
    split at h
    · rename_i hz
      rw [Bool.and_eq_true] at hz
      cases h
      obtain ⟨v, vr, f1, f2, rfl, rfl, x1, v2, vr2, f3, f4, rfl, rfl, x2, rfl, rfl⟩ := x
      obtain ⟨a, xs, g1, rfl, a1, r1⟩ := x1
      obtain ⟨b, ys, g2, rfl, b1, r2⟩ := x2
      refine ⟨a, b, xs, ys, rfl, .inl ⟨a1.seqL, b1.seqL, k _ fun i H' s => ?_⟩⟩
      have s1 : St1 H H' f1 := fun b o e z => s b o e (z.imp (fun z => List.mem_append_left _ z) id)
      have s2 : St1 H H' f3 := fun b o e z => s b o e (z.imp (fun z => List.mem_append_right _ (List.mem_append_left _ z)) id)
      have qa := (a1.st s1).1.seqL (K := C.K)
      have qb := (b1.st s2).1.seqL (K := C.K)
      have y1 := r1.fzAll hz.1
      have y2 := r2.fzAll hz.2
      refine ⟨fun hi => ⟨xs, ys, qa, qb, ?_⟩, fun m hm => ?_⟩
      · rw [zipL_len] at hi
        rw [← r1.len, ← r2.len]; omega
      · obtain ⟨m1, m2, g1, g2, rfl⟩ := zipL_get _ _ _ _ hm
        obtain ⟨w1, e1, z1⟩ := y1.get g1
        obtain ⟨w2, e2, z2⟩ := y2.get g2
        refine ⟨⟨xs, ys, w1, w2, qa, qb, e1, e2⟩, fun x' H'' y => ?_⟩
        obtain ⟨T, u1, u2, rfl, hT, rfl, k1, k2⟩ := y
        have := k1 xs qa
        rw [e1] at this; cases this
        have := k2 ys qb
        rw [e2] at this; cases this
        exact pair_ok hT s z1 z2
    · cases h
  · cases h
section
variable {C : Kt} {W : WXT} {σ : L2.St} {H : Hp} {R : It → Hp → Prop} {w : List V → Hp → (It → Hp → Prop) → Prop} {f : List D → Option (List D)}
theorem itv_v (hw : ItV C w f) {p : SAV} (x : tIV C (iRgU f p) σ H R) : iC w (tAV C p) σ H R := by
  obtain ⟨env, fp, ms, r, h, k⟩ := x
  unfold iRgU at h
  split at h
  · rename_i as q
    exact ⟨env, fp, as, r, q, fun vs H1 fm s x => hw H1 as ms vs fm R x h fun J its => k J H1 fm its s⟩
  · cases h
/-- of frozen arguments -/
def fzA (p : SAV) : SAV := fun env => match p env with
  | some ms => if fzs ms then some ms else none
  | none => none
theorem itv_u (hw : ItV C w f) {p : SAV} (x : tIU C (iRgU f (fzA p)) σ H R) : iC w (tAV C p) σ H R := by
  obtain ⟨env, fp, ms, r, h, k⟩ := x
  unfold iRgU fzA at h
  split at h
  · rename_i as q
    split at q
    · rename_i ms' q1
      split at q
      · rename_i hz
        cases q
        refine ⟨env, fp, as, r, q1, fun vs H1 fm s x => hw H1 as ms vs fm R x h fun J its => ?_⟩
        have := RPs.fz as x hz
        subst this
        exact k J H1 [] its Owned.nil List.nodup_nil noneIn s
      · cases q
    · cases q
  · cases h
/-- of one evaluated argument, that is kept by the iterator -/
def iC1 (f : List D → Option (List D)) (s : SE) : SI := fun env => match s env with
  | some (.ok m, env1) => (f [m]).map fun ms => (.ok ms, env1)
  | some (.ex c m, env1) => some (.ex c m, env1)
  | none => none
theorem itv_e1 (hw : ItV C w f) {s : SE} (x : tI C W (iC1 f s) σ H R) : iC w (tCons (tE C W s) tNil) σ H R := by
  obtain ⟨env, fp, r, nd, h⟩ := x
  refine ⟨env, fp, r, nd, ?_⟩
  unfold iC1 at h
  cases q : s env with
  | none => rw [q] at h; exact h.elim
  | some z =>
    obtain ⟨z, env1⟩ := z
    rw [q] at h
    cases z with
    | ex c m => exact h
    | ok m =>
      intro v H1 fm fe x1 r1 n1 m1
      dsimp only at h
      cases q2 : f [m] with
      | none => rw [q2] at h; exact h.elim
      | some ms =>
        rw [q2] at h
        exact hw H1 [m] ms [v] fm R ⟨v, [], fm, [], rfl, by simp, x1, rfl, rfl⟩ q2 fun J its => h J H1 fm fe its (x1.owned m) r1 n1 m1
end
section
variable {X : Cx} {W : WXT} {a b : Expr} {p pos tpos : Pos} {elts : List Expr} {kk : Nat} {pa : SAV}
theorem IV_enum (hg : Gl X "enumerate") (hm : X.mg "enumerate" = none) (ha : PA X [a] (tAV (kt X) pa)) (hs : starEach [a] X.env = [(false, eval a X.env)] := by rfl) : PI X (.Tuple elts kk tpos) (.Call (.Name "enumerate" p) [a] [] pos) (tIV (kt X) (iRgU enumD pa)) :=
  pi_imp (pi_enumA hg hm ha hs) fun _ _ _ => itv_v itv_enum
theorem IU_enum (hg : Gl X "enumerate") (hm : X.mg "enumerate" = none) (ha : PA X [a] (tAV (kt X) pa)) (hs : starEach [a] X.env = [(false, eval a X.env)] := by rfl) : PI X (.Tuple elts kk tpos) (.Call (.Name "enumerate" p) [a] [] pos) (tIU (kt X) (iRgU enumD (fzA pa))) :=
  pi_imp (pi_enumA hg hm ha hs) fun _ _ _ => itv_u itv_enum
theorem IE_enum {s : SE} (hg : Gl X "enumerate") (hm : X.mg "enumerate" = none) (ha : PE X a (tE (kt X) W s)) (hs : starEach [a] X.env = [(false, eval a X.env)] := by rfl) : PI X (.Tuple elts kk tpos) (.Call (.Name "enumerate" p) [a] [] pos) (tI (kt X) W (iC1 enumD s)) :=
  pi_imp (pi_enumA hg hm (pa_cons ha pa_nil hs) hs) fun _ _ _ => itv_e1 itv_enum
theorem IV_zip (hg : Gl X "zip") (hm : X.mg "zip" = none) (ha : PA X [a, b] (tAV (kt X) pa)) (hs : starEach [a, b] X.env = (false, eval a X.env) :: starEach [b] X.env := by rfl) (hpl : (backTo pos (starEach [b] X.env)).any (·.1) = false := by rfl) : PI X (.Tuple elts kk tpos) (.Call (.Name "zip" p) [a, b] [] pos) (tIV (kt X) (iRgU zipD pa)) :=
  pi_imp (RZ.pi_zipA hg hm ha hs hpl) fun _ _ _ => itv_v itv_zip
theorem IU_zip (hg : Gl X "zip") (hm : X.mg "zip" = none) (ha : PA X [a, b] (tAV (kt X) pa)) (hs : starEach [a, b] X.env = (false, eval a X.env) :: starEach [b] X.env := by rfl) (hpl : (backTo pos (starEach [b] X.env)).any (·.1) = false := by rfl) : PI X (.Tuple elts kk tpos) (.Call (.Name "zip" p) [a, b] [] pos) (tIU (kt X) (iRgU zipD (fzA pa))) :=
  pi_imp (RZ.pi_zipA hg hm ha hs hpl) fun _ _ _ => itv_u itv_zip
end
end T

set_option Elab.async false
set_option linter.all false
set_option maxRecDepth 100000
set_option maxHeartbeats 4000000
namespace T
open PySem PySem.Spec PyProof.Rows L2

/-! ### dicts -/
def keyEq (a b : D) : Bool := match kyK a, kyK b with
  | some x, some y => decide (x = y)
  | _, _ => match kyT a, kyT b with
    | some x, some y => decide (x = y)
    | _, _ => false
def dFind : List (D × D) → D → Option D
  | [], _ => none
  | (k', m) :: r, k => if keyEq k' k then some m else dFind r k
theorem kyK_T {k : D} {y : Key} (h : kyK k = some y) : kyT k = none := by
  cases k <;> first | rfl | cases h
theorem keyEqK {a b : D} {x y : Key} (ha : kyK a = some x) (hb : kyK b = some y) : keyEq a b = decide (x = y) := by
  unfold keyEq; rw [ha, hb]
theorem kyT_K {k : D} {y : List Key} (h : kyT k = some y) : kyK k = none := by
  cases k <;> first | rfl | cases h
theorem keyEqT {a b : D} {x y : List Key} (ha : kyT a = some x) (hb : kyT b = some y) : keyEq a b = decide (x = y) := by
  unfold keyEq; rw [kyT_K ha, ha, hb]
theorem RPk.find {C : Kt} {H : Hp} {k : D} {y : Key} (hk : kyK k = some y) : ∀ {kvs : List (D × D)} {ws : List (Key × V)} {fp : List Addr}, RPk C H kvs ws fp →
    match dFind kvs k with
    | some m => ∃ v fm, valV ws y = some v ∧ RP C H m v fm
    | none => valV ws y = none
  | [], _, _, h => by
    obtain ⟨rfl, _⟩ := h
    rfl
  | (k', m) :: r, _, _, h => by
    obtain ⟨z, v, wr, f1, f2, rfl, rfl, hk', h1, h2⟩ := h
    have ih := RPk.find hk h2
    unfold dFind
    rw [keyEqK hk' hk]
    by_cases e : z = y
    · rw [decide_eq_true e, if_pos rfl]
      exact ⟨v, f1, valV_pos e, h1⟩
    · rw [decide_eq_false e, if_neg (by decide), valV_neg (p := (z, v)) e]
      exact ih
theorem RPt.find {C : Kt} {H : Hp} {k : D} {y : List Key} (hk : kyT k = some y) : ∀ {kvs : List (D × D)} {ws : List (List Key × V)} {fp : List Addr}, RPt C H kvs ws fp →
    match dFind kvs k with
    | some m => ∃ v fm, valV ws y = some v ∧ RP C H m v fm
    | none => valV ws y = none
  | [], _, _, h => by
    obtain ⟨rfl, _⟩ := h
    rfl
  | (k', m) :: r, _, _, h => by
    obtain ⟨z, v, wr, f1, f2, rfl, rfl, hk', h1, h2⟩ := h
    have ih := RPt.find hk h2
    unfold dFind
    rw [keyEqT hk' hk]
    by_cases e : z = y
    · rw [decide_eq_true e, if_pos rfl]
      exact ⟨v, f1, valV_pos e, h1⟩
    · rw [decide_eq_false e, if_neg (by decide), valV_neg (p := (z, v)) e]
      exact ih
theorem kV_D {C : Kt} {H : Hp} {k : D} {y : Key} {v : V} {f : List Addr} (hk : kyK k = some y) (x : RP C H k v f) : v = kV y := by
  cases k with
  | int i => cases hk; exact x.1
  | str s => cases hk; exact x.1
  | _ => cases hk
theorem kVs_D {C : Kt} {H : Hp} : ∀ {ks : List D} {ys : List Key} {vs : List V} {f : List Addr}, kysK ks = some ys → RPs C H ks vs f → vs = ys.map kV
  | [], _, _, _, hk, x => by
    cases hk
    exact x.1
  | k :: ks, _, _, _, hk, x => by
    unfold kysK at hk
    split at hk
    · rename_i y ys e1 e2
      cases hk
      obtain ⟨v, vr, f1, f2, rfl, rfl, h1, h2⟩ := x
      rw [kV_D e1 h1, kVs_D e2 h2]
      rfl
    · cases hk
theorem kT_D {C : Kt} {H : Hp} {k : D} {y : List Key} {v : V} {f : List Addr} (hk : kyT k = some y) (x : RP C H k v f) : ∃ b, v = .ref b ∧ H b = some (.tup (y.map kV)) := by
  cases k with
  | tup ms =>
    obtain ⟨a, vs, rfl, h1, h2⟩ := x
    rw [kVs_D hk h2] at h1
    exact ⟨a, rfl, h1⟩
  | _ => cases hk
/-- which kind of dict: told by its first key -/
def dKind : List (D × D) → Option Bool
  | [] => none
  | (k, _) :: _ => if (kyK k).isSome then some true else some false
/-- a lookup: the dict is not empty, the key is of its kind -/
def dLk (kvs : List (D × D)) (k : D) : Option (Option D) := match dKind kvs with
  | some true => if (kyK k).isSome = true then some (dFind kvs k) else none
  | some false => if (kyT k).isSome = true then some (dFind kvs k) else none
  | none => none
def dLook (m k : D) : Option (Option D) := match m with
  | .dct _ kvs => dLk kvs k
  | _ => none
def LookR (C : Kt) (H : Hp) (a : Addr) (u : V) : Option D → Prop
  | some n => ∃ w fn, DGet H a u (some w) ∧ RP C H n w fn
  | none => DGet H a u none
theorem dLk_some {kvs : List (D × D)} {k : D} {r : Option D} (h : dLk kvs k = some r) : r = dFind kvs k ∧ ((dKind kvs = some true ∧ ∃ y, kyK k = some y) ∨ (dKind kvs = some false ∧ ∃ y, kyT k = some y)) := by
  unfold dLk at h
  split at h
  · rename_i hd
    by_cases hk : (kyK k).isSome = true
    · rw [if_pos hk] at h
      cases h
      exact ⟨rfl, .inl ⟨hd, Option.isSome_iff_exists.mp hk⟩⟩
    · rw [if_neg hk] at h; cases h
  · rename_i hd
    by_cases hk : (kyT k).isSome = true
    · rw [if_pos hk] at h
      cases h
      exact ⟨rfl, .inr ⟨hd, Option.isSome_iff_exists.mp hk⟩⟩
    · rw [if_neg hk] at h; cases h
  · cases h
theorem dKind_T {C : Kt} {H : Hp} {kvs : List (D × D)} {ws : List (List Key × V)} {f : List Addr} (h2 : RPt C H kvs ws f) (hd : dKind kvs = some true) : False := by
  cases kvs with
  | nil => cases hd
  | cons p r =>
    obtain ⟨k', m'⟩ := p
    obtain ⟨z, v, wr, f1, f2, _, _, hk', _⟩ := h2
    unfold dKind at hd
    dsimp only at hd
    rw [kyT_K hk'] at hd
    cases hd
theorem dKind_K {C : Kt} {H : Hp} {kvs : List (D × D)} {ws : List (Key × V)} {f : List Addr} (h2 : RPk C H kvs ws f) (hd : dKind kvs = some false) : False := by
  cases kvs with
  | nil => cases hd
  | cons p r =>
    obtain ⟨k', m'⟩ := p
    obtain ⟨z, v, wr, f1, f2, _, _, hk', _⟩ := h2
    unfold dKind at hd
    dsimp only at hd
    rw [hk'] at hd
    cases hd
theorem dLook_dct {m k : D} {r : Option D} (h : dLook m k = some r) : ∃ o kvs, m = .dct o kvs ∧ dLk kvs k = some r := by
  unfold dLook at h
  split at h
  · exact ⟨_, _, rfl, h⟩
  · cases h
theorem dLook_ok {C : Kt} {H : Hp} {m k : D} {v u : V} {f g : List Addr} {r : Option D} (h : dLook m k = some r) (x : RP C H m v f) (y : RP C H k u g) :
    ∃ a, v = .ref a ∧ IsD H a ∧ LookR C H a u r := by
  obtain ⟨o, kvs, rfl, h⟩ := dLook_dct h
  obtain ⟨rfl, hh⟩ := dLk_some h
  obtain ⟨a, g', rfl, hx⟩ := x
  refine ⟨a, rfl, ?_⟩
  rcases hx with ⟨ws, h1, h2⟩ | ⟨ws, h1, h2⟩
  · refine ⟨.inl ⟨ws, h1.rdd⟩, ?_⟩
    rcases hh with ⟨_, y', e⟩ | ⟨hd, _⟩
    · cases kV_D e y
      have := RPk.find e h2
      cases q : dFind kvs k with
      | none => rw [q] at this; exact .inl ⟨ws, y', h1.rdd, rfl, this.symm⟩
      | some n =>
        rw [q] at this
        obtain ⟨w, fn, e1, e2⟩ := this
        exact ⟨w, fn, .inl ⟨ws, y', h1.rdd, rfl, e1.symm⟩, e2⟩
    · exact (dKind_K h2 hd).elim
  · refine ⟨.inr ⟨ws, h1.rdd⟩, ?_⟩
    rcases hh with ⟨hd, _⟩ | ⟨_, y', e⟩
    · exact (dKind_T h2 hd).elim
    · obtain ⟨b, rfl, hb⟩ := kT_D e y
      have := RPt.find e h2
      cases q : dFind kvs k with
      | none => rw [q] at this; exact .inr ⟨ws, y', b, h1.rdd, rfl, hb, this.symm⟩
      | some n =>
        rw [q] at this
        obtain ⟨w, fn, e1, e2⟩ := this
        exact ⟨w, fn, .inr ⟨ws, y', b, h1.rdd, rfl, hb, e1.symm⟩, e2⟩
/-- d[k], a look -/
def pDG (p q : SV) : SV := fun env => match p env, q env with
  | some m, some k => match dLook m k with
    | some (some n) => some n
    | _ => none
  | _, _ => none
def pDG2 (p q d : SV) : SV := fun env => match p env, q env, d env with
  | some m, some k, some z => match dLook m k with
    | some (some n) => if fz n then some n else none
    | some none => if fz z then some z else none
    | none => none
  | _, _, _ => none
def pDIn (b : Bool) (q p : SV) : SV := fun env => match p env, q env with
  | some m, some k => match dLook m k with
    | some o => some (.bl (o.isSome == b))
    | none => none
  | _, _ => none
section
variable {C : Kt} {σ : L2.St} {H : Hp} {Q : VK}
theorem dg_v {p q : SV} (x : tV C (pDG p q) σ H Q) : tDGet (tV C p) (tV C q) σ H Q := by
  obtain ⟨env, fp, m, r, h, k⟩ := x
  unfold pDG at h
  split at h
  · rename_i d ky e1 e2
    split at h
    · rename_i n e3
      cases h
      refine ⟨env, fp, d, r, e1, fun v H1 f1 s1 x1 => ⟨env, fp, ky, r.st env (Same.st1 s1 _), e2, fun u H2 f2 s2 x2 => ?_⟩⟩
      obtain ⟨a, rfl, _, w, fn, g, y⟩ := dLook_ok e3 (x1.st d (Same.st1 s2 _)) x2
      exact ⟨a, w, rfl, g, k w H2 fn (s1.trans s2) y⟩
    · cases h
  · cases h
theorem din_u {p q : SV} (x : tU C (pDIn true q p) σ H Q) : tDIn (tV C q) (tV C p) σ H Q := by
  obtain ⟨env, fp, m, r, h, k⟩ := x
  unfold pDIn at h
  split at h
  · rename_i d ky e1 e2
    split at h
    · rename_i o e3
      cases h
      refine ⟨env, fp, ky, r, e2, fun u H1 f1 s1 x1 => ⟨env, fp, d, r.st env (Same.st1 s1 _), e1, fun v H2 f2 s2 x2 => ?_⟩⟩
      obtain ⟨a, rfl, _, y⟩ := dLook_ok e3 x2 (x1.st ky (Same.st1 s2 _))
      cases o with
      | none => exact ⟨a, none, rfl, y, k _ H2 [] (s1.trans s2) ⟨rfl, rfl⟩ List.nodup_nil noneIn⟩
      | some n =>
        obtain ⟨w, fn, g, _⟩ := y
        exact ⟨a, some w, rfl, g, k _ H2 [] (s1.trans s2) ⟨rfl, rfl⟩ List.nodup_nil noneIn⟩
    · cases h
  · cases h
theorem dnin_u {p q : SV} (x : tU C (pDIn false q p) σ H Q) : tDNotIn (tV C q) (tV C p) σ H Q := by
  obtain ⟨env, fp, m, r, h, k⟩ := x
  unfold pDIn at h
  split at h
  · rename_i d ky e1 e2
    split at h
    · rename_i o e3
      cases h
      refine ⟨env, fp, ky, r, e2, fun u H1 f1 s1 x1 => ⟨env, fp, d, r.st env (Same.st1 s1 _), e1, fun v H2 f2 s2 x2 => ?_⟩⟩
      obtain ⟨a, rfl, _, y⟩ := dLook_ok e3 x2 (x1.st ky (Same.st1 s2 _))
      cases o with
      | none => exact ⟨a, none, rfl, y, k _ H2 [] (s1.trans s2) ⟨rfl, rfl⟩ List.nodup_nil noneIn⟩
      | some n =>
        obtain ⟨w, fn, g, _⟩ := y
        exact ⟨a, some w, rfl, g, k _ H2 [] (s1.trans s2) ⟨rfl, rfl⟩ List.nodup_nil noneIn⟩
    · cases h
  · cases h
theorem dg2_u {p q d : SV} (x : tU C (pDG2 p q d) σ H Q) : tDGet2 (tV C p) (tV C q) (tV C d) σ H Q := by
  obtain ⟨env, fp, m, r, h, k⟩ := x
  unfold pDG2 at h
  split at h
  · rename_i dd ky z e1 e2 e4
    cases e3 : dLook dd ky with
    | none => rw [e3] at h; cases h
    | some o =>
      rw [e3] at h
      refine ⟨env, fp, dd, r, e1, fun v H1 f1 s1 x1 => ?_⟩
      have hD : ∃ a, v = .ref a ∧ IsD H1 a := by
        obtain ⟨_, kvs, rfl, _⟩ := dLook_dct e3
        obtain ⟨a, g', rfl, hh⟩ := x1
        refine ⟨a, rfl, ?_⟩
        rcases hh with ⟨ws, h1, _⟩ | ⟨ws, h1, _⟩
        · exact .inl ⟨ws, h1.rdd⟩
        · exact .inr ⟨ws, h1.rdd⟩
      obtain ⟨a, rfl, hD⟩ := hD
      refine ⟨a, rfl, hD, env, fp, ky, r.st env (Same.st1 s1 _), e2, fun u H2 f2 s2 x2 => ⟨env, fp, z, r.st env (Same.st1 (s1.trans s2) _), e4, fun t H3 f3 s3 x3 => ?_⟩⟩
      obtain ⟨a', e, _, y⟩ := dLook_ok e3 (x1.st dd (Same.st1 (s2.trans s3) _)) (x2.st ky (Same.st1 s3 _))
      cases e
      have sm := (s1.trans s2).trans s3
      cases o with
      | none =>
        dsimp only at h
        split at h
        · rename_i hz
          cases h
          have := x3.fz _ hz
          subst this
          exact ⟨none, y, k t H3 [] sm x3 List.nodup_nil noneIn⟩
        · cases h
      | some n =>
        dsimp only at h
        split at h
        · rename_i hz
          cases h
          obtain ⟨w, fn, g, y⟩ := y
          have := y.fz _ hz
          subst this
          exact ⟨some w, g, k w H3 [] sm y List.nodup_nil noneIn⟩
        · cases h
  · cases h
end
section
variable {X : Cx} {o i e f : Expr} {pos apos cpos : Pos} {p q d : SV} {j : Nat}
theorem V_dg (hr : Room j X.A) (ho : PE X o (tV (kt X) p)) (hi : PE X i (tV (kt X) q)) (hs : NoSl i := by intro _ _; rfl) : PE X (.Subscript o i pos) (tV (kt X) (pDG p q)) := pe_imp (pe_dget (by have := hu64 hr; omega) ho hi hs) fun _ _ _ => dg_v
theorem U_din (hr : Room j X.A) (hi : PE X i (tV (kt X) q)) (ho : PE X o (tV (kt X) p)) (h1 : behindInMarks .In o = false := by rfl) : PE X (.Compare i [.In] [o] pos) (tU (kt X) (pDIn true q p)) := pe_imp (pe_cmp (pc_din (by have := hu64 hr; omega) hi ho) h1) fun _ _ _ => din_u
theorem U_dnin (hr : Room j X.A) (hi : PE X i (tV (kt X) q)) (ho : PE X o (tV (kt X) p)) (h1 : behindInMarks .NotIn o = false := by rfl) : PE X (.Compare i [.NotIn] [o] pos) (tU (kt X) (pDIn false q p)) := pe_imp (pe_cmp (pc_dnotin (by have := hu64 hr; omega) hi ho) h1) fun _ _ _ => dnin_u
theorem U_dg2 (hr : Room j X.A) (ho : PE X o (tV (kt X) p)) (he : PE X e (tV (kt X) q)) (hf : PE X f (tV (kt X) d)) (m : M2 X o "get" apos e f cpos := by exact ⟨rfl, rfl, rfl, rfl⟩) : PE X (.Call (.Attribute o "get" apos) [e, f] [] cpos) (tU (kt X) (pDG2 p q d)) :=
  pe_imp (pe_dget2 (by have := hu64 hr; omega) ho he hf m) fun _ _ _ => dg2_u
end

/-! ### a dict that is ours, written -/
theorem Inv.reK {X : Cx} {pins : List (Addr × Obj)} {σ : L2.St} {H : Hp} {s : Shared} {a : Addr} (I : Inv X pins σ H s) (h : H a = some (.dK [])) : Inv X pins σ (upd H a (.dT [])) s := by
  obtain ⟨z, hd, vs, rel, o, es, ep, e1, e2, e3, e4, e5, e6⟩ := dk_of I.hok h
  cases rel
  have e7 : es.toList = [] := by
    generalize es.toList = l at e5
    cases l with
    | nil => rfl
    | cons x r => cases e5
  exact I.write (x := a) (e := a) (t' := s.toks) (h' := s.heap) (by rw [h]; exact trivial) (.inl rfl) (fun b v _ q => q) ⟨o, e1⟩ ⟨z, hd, [], .nil, o, es, ep, e1, e2, e3, e7, List.nodup_nil⟩
theorem Inv.reT {X : Cx} {pins : List (Addr × Obj)} {σ : L2.St} {H : Hp} {s : Shared} {a : Addr} (I : Inv X pins σ H s) (h : H a = some (.dT [])) : Inv X pins σ (upd H a (.dK [])) s := by
  obtain ⟨z, hd, vs, rel, o, es, ep, e1, e2, e3, e4, e5⟩ := (show ObjOk X.prog X.w H s.heap a (.dT []) from I.hok a _ h)
  cases rel
  have e7 : es = #[] := Array.toList_inj.mp e4
  subst e7
  exact I.write (x := a) (e := a) (t' := s.toks) (h' := s.heap) (by rw [h]; exact trivial) (.inl rfl) (fun b v _ q => q) ⟨o, e1⟩ ⟨z, hd, [], .nil, o, #[], ep, e1, e2, e3, fun e he => by simp at he, .nil, List.nodup_nil⟩
end T

set_option Elab.async false
set_option linter.all false
set_option maxRecDepth 100000
set_option maxHeartbeats 4000000
namespace T
open PySem PySem.Spec PyProof.Rows L2

/-! ### d[k] = e, an empty dict taking either kind of keys -/
def DPutR (H : Hp) (a : Addr) (y v : V) (H' : Hp) : Prop := DPut H a y v H' ∨ (H a = some (.dK []) ∧ ∃ k b, y = .ref b ∧ H b = some (.tup (k.map kV)) ∧ H' = upd H a (.dT [(k, v)])) ∨ (H a = some (.dT []) ∧ ∃ k, y = kV k ∧ H' = upd H a (.dK [(k, v)]))
def sDPutR (td ty tv : TE) : TS := fun D σ H => tv σ H fun v H1 => td σ H1 fun x H2 => ty σ H2 fun y H3 => ∃ a H4, x = .ref a ∧ DPutR H3 a y v H4 ∧ D.nx σ H4
theorem ps_dputR {X : Cx} {o i value : Expr} {pos pos' : Pos} {td ty tv : TE} (hu : X.A.units + 1 < cLine) (ho : PE X o td) (hi : PE X i ty) (hv : PE X value tv) (hs : swapsWith value (some (.Subscript o i pos')) pos.line X.env = pure false) :
    PS X (.Assign [.Subscript o i pos'] value pos) (sDPutR td ty tv) := by
  refine ⟨fun pins s σ H D I h => ?_⟩
  refine wpAny_Assign_Subscript (thn (hv.run pins s σ H _ I h) fun r s1 ⟨v, H1, I1, rv, q1⟩ => thn (ho.run pins s1 σ H1 _ I1 q1) fun u s2 ⟨x, H2, I2, rx, q2⟩ => thn (hi.run pins s2 σ H2 _ I2 q2) fun iv s3 ⟨y, H3, I3, ry, a, H4, ex, g, q3⟩ => ?_) hs
  subst ex
  obtain rfl : u = Value.ref a := rx
  rcases g with g | ⟨e, k, b, rfl, hb, rfl⟩ | ⟨e, k, rfl, rfl⟩
  · exact d_setItem hu I3 g ry rv fun s4 I4 => ⟨σ, H4, I4, q3⟩
  · have hba : b ≠ a := fun z => by rw [z, e] at hb; cases hb
    exact d_setItem hu (Inv.reK I3 e) (DPut.t (kvs := []) upd_same (by rw [upd_ne hba]; exact hb) (by rw [sizeLine_eq]; decide)) ry rv fun s4 I4 => ⟨σ, _, I4, by rw [upd_upd]; exact q3⟩
  · exact d_setItem hu (Inv.reT I3 e) (DPut.k (kvs := []) upd_same (by rw [sizeLine_eq]; decide)) ry rv fun s4 I4 => ⟨σ, _, I4, by rw [upd_upd]; exact q3⟩
/-- a new key -/
def dFits (kvs : List (D × D)) (k : D) : Bool := match kvs with
  | [] => (kyK k).isSome || (kyT k).isSome
  | _ => match dLk kvs k with
    | some none => true
    | _ => false
def dPutN (kvs : List (D × D)) (k m : D) : Option (List (D × D)) := if dFits kvs k = true ∧ kvs.length ≤ 1000000 then some (kvs ++ [(k, m)]) else none
theorem RPk.snoc {C : Kt} {H : Hp} {k m : D} {y : Key} {v : V} {fm : List Addr} (hk : kyK k = some y) (x : RP C H m v fm) : ∀ {kvs : List (D × D)} {ws : List (Key × V)} {g : List Addr}, RPk C H kvs ws g → RPk C H (kvs ++ [(k, m)]) (ws ++ [(y, v)]) (g ++ fm)
  | [], _, _, h => by
    obtain ⟨rfl, rfl⟩ := h
    exact ⟨y, v, [], fm, [], rfl, by simp, hk, x, rfl, rfl⟩
  | (k', m') :: r, _, _, h => by
    obtain ⟨z, w, wr, f1, f2, rfl, rfl, h1, h2, h3⟩ := h
    exact ⟨z, w, _, f1, f2 ++ fm, rfl, by simp, h1, h2, RPk.snoc hk x h3⟩
theorem RPt.snoc {C : Kt} {H : Hp} {k m : D} {y : List Key} {v : V} {fm : List Addr} (hk : kyT k = some y) (x : RP C H m v fm) : ∀ {kvs : List (D × D)} {ws : List (List Key × V)} {g : List Addr}, RPt C H kvs ws g → RPt C H (kvs ++ [(k, m)]) (ws ++ [(y, v)]) (g ++ fm)
  | [], _, _, h => by
    obtain ⟨rfl, rfl⟩ := h
    exact ⟨y, v, [], fm, [], rfl, by simp, hk, x, rfl, rfl⟩
  | (k', m') :: r, _, _, h => by
    obtain ⟨z, w, wr, f1, f2, rfl, rfl, h1, h2, h3⟩ := h
    exact ⟨z, w, _, f1, f2 ++ fm, rfl, by simp, h1, h2, RPt.snoc hk x h3⟩
theorem RPk.len {C : Kt} {H : Hp} : ∀ {kvs : List (D × D)} {ws : List (Key × V)} {g : List Addr}, RPk C H kvs ws g → kvs.length = ws.length
  | [], _, _, h => by obtain ⟨rfl, _⟩ := h; rfl
  | (k', m') :: r, _, _, h => by
    obtain ⟨z, w, wr, f1, f2, rfl, rfl, h1, h2, h3⟩ := h
    simp [RPk.len h3]
theorem RPt.len {C : Kt} {H : Hp} : ∀ {kvs : List (D × D)} {ws : List (List Key × V)} {g : List Addr}, RPt C H kvs ws g → kvs.length = ws.length
  | [], _, _, h => by obtain ⟨rfl, _⟩ := h; rfl
  | (k', m') :: r, _, _, h => by
    obtain ⟨z, w, wr, f1, f2, rfl, rfl, h1, h2, h3⟩ := h
    simp [RPt.len h3]
theorem dput_core {C : Kt} {H : Hp} {kvs kvs' : List (D × D)} {k m : D} {x u v : V} {F fk fm : List Addr} (h : dPutN kvs k m = some kvs') (hx : RP C H (.dct true kvs) x F) (hk : RP C H k u fk) (hm : RP C H m v fm) (nd : (F ++ fm).Nodup) :
    ∃ a g ob, x = .ref a ∧ F = a :: g ∧ DPutR H a u v (upd H a ob) ∧ (∃ o, H a = some o ∧ Fixed o = false) ∧ RP C (upd H a ob) (.dct true kvs') (.ref a) (a :: (g ++ fm)) := by
  unfold dPutN at h
  split at h
  · rename_i hc
    cases h
    obtain ⟨hc, hl⟩ := hc
    unfold dFits at hc
    have lim : kvs.length < sizeLine := by rw [sizeLine_eq]; omega
    obtain ⟨a, g, rfl, hh⟩ := hx
    have key : ∀ (o u' : HO) (g : List Addr), H a = some o → Fixed o = false → F = a :: g → ∀ (M : D) (w : V) (f : List Addr), RP C H M w f → a ∉ f → RP C (upd H a u') M w f := fun o u' g e1 e2 _ M w f y n => y.st M (st_updG e1 e2 n)
    rcases hh with ⟨ws, ⟨e1, rfl⟩, h2⟩ | ⟨ws, ⟨e1, rfl⟩, h2⟩
    · have na : a ∉ g ∧ a ∉ fm := by
        simp only [List.cons_append, List.nodup_cons, List.mem_append, not_or] at nd
        exact nd.1
      have rm : ∀ u', RP C (upd H a u') m v fm := fun u' => hm.st m (st_updG e1 rfl na.2)
      have rg : ∀ u', RPk C (upd H a u') kvs ws g := fun u' => h2.st kvs (st_updG e1 rfl na.1)
      cases q : kyK k with
      | some y =>
        have hn : valV ws y = none := by
          cases kvs with
          | nil => obtain ⟨rfl, _⟩ := h2; rfl
          | cons p r =>
            dsimp only at hc
            split at hc
            · rename_i e3
              have := RPk.find q h2
              obtain ⟨e4, _⟩ := dLk_some e3
              rw [← e4] at this
              exact this
            · cases hc
        have hu := kV_D q hk
        subst hu
        refine ⟨a, g, .dK (ws ++ [(y, v)]), rfl, rfl, .inl ?_, ⟨_, e1, rfl⟩, a, g ++ fm, rfl, .inl ⟨ws ++ [(y, v)], ⟨upd_same, rfl⟩, RPk.snoc q (rm _) (rg _)⟩⟩
        have := DPut.k (k := y) (v := v) e1 (by rw [← h2.len]; exact lim)
        rw [putK_new v hn] at this
        exact this
      | none =>
        cases kvs with
        | cons p r =>
          exfalso
          dsimp only at hc
          split at hc
          · rename_i e3
            obtain ⟨_, e4⟩ := dLk_some e3
            rcases e4 with ⟨_, y, e5⟩ | ⟨e5, _⟩
            · rw [q] at e5; cases e5
            · exact dKind_K h2 e5
          · cases hc
        | nil =>
          obtain ⟨rfl, rfl⟩ := h2
          dsimp only at hc
          rw [q] at hc
          have : (kyT k).isSome = true := by simpa using hc
          obtain ⟨y, e3⟩ := Option.isSome_iff_exists.mp this
          obtain ⟨b, rfl, hb⟩ := kT_D e3 hk
          refine ⟨a, [], .dT [(y, v)], rfl, rfl, .inr (.inl ⟨e1, y, b, rfl, hb, rfl⟩), ⟨_, e1, rfl⟩, a, fm, rfl, .inr ⟨[(y, v)], ⟨upd_same, rfl⟩, y, v, [], fm, [], rfl, by simp, e3, rm _, rfl, rfl⟩⟩
    · have na : a ∉ g ∧ a ∉ fm := by
        simp only [List.cons_append, List.nodup_cons, List.mem_append, not_or] at nd
        exact nd.1
      have rm : ∀ u', RP C (upd H a u') m v fm := fun u' => hm.st m (st_updG e1 rfl na.2)
      have rg : ∀ u', RPt C (upd H a u') kvs ws g := fun u' => h2.st kvs (st_updG e1 rfl na.1)
      cases q : kyT k with
      | some y =>
        have hn : valV ws y = none := by
          cases kvs with
          | nil => obtain ⟨rfl, _⟩ := h2; rfl
          | cons p r =>
            dsimp only at hc
            split at hc
            · rename_i e3
              have := RPt.find q h2
              obtain ⟨e4, _⟩ := dLk_some e3
              rw [← e4] at this
              exact this
            · cases hc
        obtain ⟨b, rfl, hb⟩ := kT_D q hk
        refine ⟨a, g, .dT (ws ++ [(y, v)]), rfl, rfl, .inl ?_, ⟨_, e1, rfl⟩, a, g ++ fm, rfl, .inr ⟨ws ++ [(y, v)], ⟨upd_same, rfl⟩, RPt.snoc q (rm _) (rg _)⟩⟩
        have := DPut.t (v := v) e1 hb (by rw [← h2.len]; exact lim)
        rw [putK_new v hn] at this
        exact this
      | none =>
        cases kvs with
        | cons p r =>
          exfalso
          dsimp only at hc
          split at hc
          · rename_i e3
            obtain ⟨_, e4⟩ := dLk_some e3
            rcases e4 with ⟨e5, _⟩ | ⟨_, y, e5⟩
            · exact dKind_T h2 e5
            · rw [q] at e5; cases e5
          · cases hc
        | nil =>
          obtain ⟨rfl, rfl⟩ := h2
          dsimp only at hc
          rw [q] at hc
          have : (kyK k).isSome = true := by simpa using hc
          obtain ⟨y, e3⟩ := Option.isSome_iff_exists.mp this
          have hu := kV_D e3 hk
          subst hu
          refine ⟨a, [], .dK [(y, v)], rfl, rfl, .inr (.inr ⟨e1, y, rfl, rfl⟩), ⟨_, e1, rfl⟩, a, fm, rfl, .inl ⟨[(y, v)], ⟨upd_same, rfl⟩, y, v, [], fm, [], rfl, by simp, e3, rm _, rfl, rfl⟩⟩
  · cases h
/-- x[k] = e, the dict in slot i -/
def sPut (i : Nat) (s : SE) (q : SV) : SS := fun env => match s env with
  | some (.ok m, env1) => match pVar i env1, q env1 with
    | some (.dct true kvs), some k => match dPutN kvs k m with
      | some kvs' => some (.nx, env1.set i (some (.dct true kvs')))
      | none => none
    | _, _ => none
  | some (.ex c m, env1) => some (.ex c m, env1)
  | none => none
theorem nd_g {F fm f1 f3 : List Addr} (n : (fm ++ (f1 ++ (F ++ f3))).Nodup) : (F ++ fm).Nodup := by
  simp only [List.nodup_append, List.mem_append] at n ⊢
  grind
theorem nd_h {a : Addr} {g fm f1 f3 : List Addr} (n : (fm ++ (f1 ++ ((a :: g) ++ f3))).Nodup) : (f1 ++ ((a :: (g ++ fm)) ++ f3)).Nodup ∧ a ∉ f1 ++ f3 := by
  simp only [List.nodup_append, List.mem_append, List.nodup_cons, List.cons_append, List.mem_cons] at n ⊢
  grind
theorem nd_i {a b : Addr} {g fm f1 f3 : List Addr} (h : b ∈ f1 ++ ((a :: (g ++ fm)) ++ f3)) : b ∈ fm ++ (f1 ++ ((a :: g) ++ f3)) := by
  simp only [List.mem_append, List.cons_append, List.mem_cons] at h ⊢
  grind
theorem put_i {C : Kt} {kp : Nat → Bool} {W : WXT} {σ : L2.St} {H : Hp} {Z : Ends} {i : Nat} {s : SE} {q : SV} (x : tS C kp W (sPut i s q) Z σ H) : sDPutR (tVar i) (tV C q) (tE C W s) Z σ H := by
  obtain ⟨env, fp, r, nd, h⟩ := x
  unfold sPut at h
  refine e_in (Z := Z) (kp := kp) r nd (fun c m e2 q => ?_) (fun m e2 q => ?_) fun q => ?_
  · rw [q] at h; exact h
  · rw [q] at h
    intro v H2 fm f2 x2 r2 n2 mv
    dsimp only at h
    split at h
    · rename_i kvs k q1 q2
      split at h
      · rename_i kvs' q3
        obtain ⟨w, f1, F, f3, hv, rfl, y, kk⟩ := pVar_get q1 r2
        refine ⟨w, hv, e2, _, k, r2, q2, fun u H3 fk s3 yk => ?_⟩
        obtain ⟨a, g, ob, rfl, rfl, dp, ⟨o, e1, e1'⟩, y4⟩ := dput_core q3 (y.st _ (Same.st1 s3 _)) yk (x2.st m (Same.st1 s3 _)) (nd_g n2)
        have nn := nd_h n2
        have st : St1 H2 (upd H3 a ob) (f1 ++ f3) := fun b o e z => st_updG e1 e1' nn.2 b o (s3 b o e) z
        have r4 := kk _ (some (.dct true kvs')) (some (.ref a)) _ st ⟨_, rfl, y4⟩
        rw [set_self hv] at r4
        have m3 := (mv.trans ((Mv.same (fm := []) s3 noneIn).less fun b hb => hb)).trans (mv_updG (u' := ob) e1 e1' (by simp))
        exact ⟨a, _, rfl, dp, h σ _ _ r4 nn.1 (m3.less fun b hb => nd_i hb) (Kp.refl kp σ)⟩
      · exact h.elim
    · exact h.elim
  · rw [q] at h; exact h
/-- self.f[k] = e -/
def sPutF (L : List Str) (i : Nat) (f : Str) (s : SE) (q : SV) : SS := fun env => match s env with
  | some (.ok m, env1) => match pVar i env1, q env1 with
    | some (.ins true c fs), some k => if L.contains c then (match fs.lookup f with
      | some (.dct true kvs) => match dPutN kvs k m with
        | some kvs' => some (.nx, env1.set i (some (.ins true c (putD f (.dct true kvs') fs))))
        | none => none
      | _ => none) else none
    | _, _ => none
  | some (.ex c m, env1) => some (.ex c m, env1)
  | none => none
theorem putF_i {C : Kt} {kp : Nat → Bool} {W : WXT} {σ : L2.St} {H : Hp} {Z : Ends} {L : List Str} {i : Nat} {f : Str} {s : SE} {q : SV} (hL : ∀ c ∈ L, FldOk C.K C.mg c f) (x : tS C kp W (sPutF L i f s q) Z σ H) : sDPutR (tFldR C.K (tVar i) f) (tV C q) (tE C W s) Z σ H := by
  obtain ⟨env, fp, r, nd, h⟩ := x
  unfold sPutF at h
  refine e_in (Z := Z) (kp := kp) r nd (fun c m e2 q => ?_) (fun m e2 q => ?_) fun q => ?_
  · rw [q] at h; exact h
  · rw [q] at h
    intro v H2 fm f2 x2 r2 n2 mv
    dsimp only at h
    split at h
    · rename_i c fs k q1 q2
      split at h
      · rename_i hc
        split at h
        · rename_i kvs q4
          split at h
          · rename_i kvs' q3
            obtain ⟨a0, A, dx, ws, w, f1, F, f3, hv, hm, ha, l, rfl, y, na, kk⟩ := slot_fld r2 (List.nodup_append.mp n2).2.1 q1 q4
            obtain ⟨cl, nat⟩ := hL c (by simpa using hc) A hm
            refine ⟨_, hv, a0, A, dx, ws, w, rfl, .inl ha, cl, nat, l, e2, _, k, r2, q2, fun u H3 fk s3 yk => ?_⟩
            obtain ⟨a, g, ob, rfl, rfl, dp, ⟨o, e1, e1'⟩, y4⟩ := dput_core q3 (y.st _ (Same.st1 s3 _)) yk (x2.st m (Same.st1 s3 _)) (nd_g n2)
            have nn := nd_h n2
            have st : St1 H2 (upd H3 a ob) (f1 ++ f3) := fun b o e z => st_updG e1 e1' nn.2 b o (s3 b o e) z
            have r4 := kk _ (.dct true kvs') _ st y4
            have m3 := (mv.trans ((Mv.same (fm := []) s3 noneIn).less fun b hb => hb)).trans (mv_updG (u' := ob) e1 e1' (by simp))
            exact ⟨a, _, rfl, dp, h σ _ _ r4 nn.1 (m3.less fun b hb => nd_i hb) (Kp.refl kp σ)⟩
          · exact h.elim
        · exact h.elim
      · exact h.elim
    · exact h.elim
  · rw [q] at h; exact h
section
variable {X : Cx} {kp : Nat → Bool} {W : WXT} {o i e : Expr} {f : Str} {p' pos fpos : Pos} {L : List Str} {n j : Nat} {s : SE} {q : SV}
theorem S_put (hr : Room j X.A) (ho : PE X o (tVar n)) (hi : PE X i (tV (kt X) q)) (he : PE X e (tE (kt X) W s)) (hs : swapsWith e (some (.Subscript o i p')) pos.line X.env = pure false := by rfl) : PS X (.Assign [.Subscript o i p'] e pos) (tS (kt X) kp W (sPut n s q)) :=
  ps_imp (ps_dputR (by have := hu64 hr; omega) ho hi he hs) fun _ _ _ => put_i
theorem S_putF (hL : ∀ c ∈ L, FldOk X.K X.mg c f) (hr : Room j X.A) (ho : PE X o (tVar n)) (hi : PE X i (tV (kt X) q)) (he : PE X e (tE (kt X) W s)) (hb : attributeBase o f X.env (eval o X.env) = eval o X.env := by rfl) (hs : swapsWith e (some (.Subscript (.Attribute o f fpos) i p')) pos.line X.env = pure false := by rfl) :
    PS X (.Assign [.Subscript (.Attribute o f fpos) i p'] e pos) (tS (kt X) kp W (sPutF L n f s q)) :=
  ps_imp (ps_dputR (by have := hu64 hr; omega) (pe_fldR ho hb) hi he hs) fun _ _ _ => putF_i hL
end

/-! ### {}, {'k': e} -/
def pDN : SV := fun _ => some (.dct true [])
theorem dn_u {C : Kt} {σ : L2.St} {H : Hp} {Q : VK} (x : tU C pDN σ H Q) : tDNewT σ H Q := by
  obtain ⟨env, fp, m, r, h, k⟩ := x
  cases h
  intro p hp
  exact k (.ref p) _ [p] (same_tup hp) ⟨p, [], rfl, .inr ⟨[], ⟨upd_same, rfl⟩, rfl, rfl⟩⟩ (by simp) fun a ha => by rw [List.mem_singleton.mp ha]; exact hp
theorem U_dn {X : Cx} {pos : Pos} : PE X (.Dict [] [] pos) (tU (kt X) pDN) := pe_imp pe_dnewT fun _ _ _ => dn_u
def sDisp1 (k : Str) (s : SE) : SE := sBind s fun m => sOk (.dct true [(.str k, m)])
theorem disp1_i {C : Kt} {W : WXT} {σ : L2.St} {H : Hp} {Q : VK} {k : Str} {s : SE} (x : tE C W (sDisp1 k s) σ H Q) : tDisp [(tC (.str k), tE C W s)] σ H Q := by
  obtain ⟨env, fp, r, nd, h⟩ := x
  intro p hp
  have sm : Same H (upd H p (.dK [])) := same_tup hp
  have ow := r.owned env
  have pf : p ∉ fp := fun z => by
    obtain ⟨o, e, _⟩ := ow p z
    rw [hp] at e; cases e
  refine ⟨env, fp, r.st env (Same.st1 sm _), nd, ?_⟩
  have mv0 : Mv H (upd H p (.dK [])) fp (p :: fp) := (Mv.same (fm := [p]) sm fun a ha => by rw [List.mem_singleton.mp ha]; exact hp)
  unfold sDisp1 sBind at h
  cases q : s env with
  | none => rw [q] at h; exact h.elim
  | some z =>
    obtain ⟨z, env1⟩ := z
    rw [q] at h
    cases z with
    | ex c m =>
      exact fun cls d H1 fm fe y r1 n1 m1 => h cls d H1 fm fe y r1 n1 ((mv0.less fun b hb => List.mem_cons_of_mem _ hb).trans m1)
    | ok m =>
      intro v H1 fm fe y r1 n1 m1
      have hp1 : H1 p = some (.dK []) := m1.keep p _ upd_same fun z => absurd z pf
      refine ⟨hp1, [(.inr k, v)], rfl, by show 1 ≤ 15; decide, ?_⟩
      have pn : p ∉ fm ++ fe := fun z => by
        rcases m1.sub p z with z | z
        · exact pf z
        · rw [upd_same] at z; cases z
      have y2 : RP C (upd H1 p (.dK (mergeK [] [(.inr k, v)]))) m v fm := y.st m (st_updG hp1 rfl fun z => pn (List.mem_append_left _ z))
      have r2 := r1.st env1 (H' := upd H1 p (.dK (mergeK [] [(.inr k, v)]))) (st_updG hp1 rfl fun z => pn (List.mem_append_right _ z))
      have m2 : Mv H H1 fp (p :: (fm ++ fe)) := by
        have e1 := m1.frame (f := [p]) (by simpa using ⟨pf, nd⟩) (fun a ha => by rw [List.mem_singleton.mp ha]; exact ⟨_, upd_same, rfl⟩)
        exact mv0.trans e1
      have m3 := m2.trans (mv_updG (u' := .dK (mergeK [] [(.inr k, v)])) hp1 rfl (by simp))
      exact h (.ref p) _ (p :: fm) fe ⟨p, fm, rfl, .inl ⟨[(.inr k, v)], ⟨upd_same, rfl⟩, .inr k, v, [], fm, [], rfl, by simp, rfl, y2, rfl, rfl⟩⟩ r2 (by simpa using ⟨by simpa using pn, n1⟩) (by simpa using m3)
theorem E_disp1 {X : Cx} {W : WXT} {k : Str} {e : Expr} {s : SE} {jj : Nat} {p1 pos : Pos} (he : PE X e (tE (kt X) W s)) : PE X (.Dict [some (.Constant (.str k) jj p1)] [e] pos) (tE (kt X) W (sDisp1 k s)) :=
  pe_imp (pe_disp (pps_cons pe_str he pps_nil) rfl rfl (by simp) (by show 1 ≤ 15; decide)) fun _ _ _ => disp1_i

/-! ### a value just made, frozen -/
def tFrzA (t : TE) : TE := fun σ H Q => t σ H fun v H1 => ∃ l : List Addr, (∀ a ∈ l, ∃ u, H1 a = some u ∧ Mut (some u)) ∧ l.Nodup ∧ ∀ H', FrL H1 H' l → Q v H'
theorem pe_frzA {X : Cx} {e : Expr} {t : TE} (h : PE X e t) : PE X e (tFrzA t) := by
  refine ⟨fun pins s σ H Q I hw => ?_⟩
  refine thn (h.run pins s σ H _ I hw) fun u s1 ⟨v, H1, I1, r, l, hl, nd, k⟩ => ?_
  obtain ⟨H', f, I'⟩ := Inv.locks l I1 hl nd
  exact ⟨v, H', I', r, k H' f⟩
def sFrA (s : SE) : SE := sBind s fun m => sOk (fr m)
theorem frA_i {C : Kt} {W : WXT} {σ : L2.St} {H : Hp} {Q : VK} {s : SE} (x : tE C W (sFrA s) σ H Q) : tFrzA (tE C W s) σ H Q := by
  obtain ⟨env, fp, r, nd, h⟩ := x
  refine ⟨env, fp, r, nd, ?_⟩
  unfold sFrA sBind at h
  cases q : s env with
  | none => rw [q] at h; exact h.elim
  | some z =>
    obtain ⟨z, env1⟩ := z
    rw [q] at h
    cases z with
    | ex c m => exact h
    | ok m =>
      intro v H1 fm fe y r1 n1 m1
      have n2 := List.nodup_append.mp n1
      refine ⟨fm, y.mut m, n2.1, fun H' f => ?_⟩
      have r2 := r1.st env1 (f.st fun a ha z => n2.2.2 a z a ha rfl)
      refine h v H' [] fe (y.fr f m fun b hb => hb) r2 (by simpa using n2.2.1) ⟨fun a o e z => ?_, fun a ha => m1.sub a (List.mem_append_right _ (by simpa using ha))⟩
      have e2 := m1.keep a o e z
      by_cases ha : a ∈ fm
      · refine f.fixed e2 ?_
        rcases m1.sub a (List.mem_append_left _ ha) with z2 | z2
        · exact z z2
        · rw [e] at z2; cases z2
      · rw [f.1 a ha]; exact e2
theorem E_frA {X : Cx} {W : WXT} {e : Expr} {s : SE} (h : PE X e (tE (kt X) W s)) : PE X e (tE (kt X) W (sFrA s)) := pe_imp (pe_frzA h) fun _ _ _ => frA_i
end T

set_option Elab.async false
set_option linter.all false
set_option maxRecDepth 100000
set_option maxHeartbeats 4000000
namespace T
open PySem PySem.Spec PyProof.Rows L2

/-! ### slices -/
def cutD (ms : List D) (lo hi : Option Int) : List D := (ms.drop (HT.sIx ms.length 0 lo)).take (HT.sIx ms.length ms.length hi - HT.sIx ms.length 0 lo)
theorem RPs.drop0 {C : Kt} {H : Hp} : ∀ {ms : List D} {vs : List V} (n : Nat), RPs C H ms vs [] → RPs C H (ms.drop n) (vs.drop n) []
  | [], _, n, h => by
    obtain ⟨rfl, _⟩ := h
    simp only [List.drop_nil]
    exact ⟨rfl, rfl⟩
  | m :: ms, _, 0, h => by
    obtain ⟨v, vr, f1, f2, rfl, e, h1, h2⟩ := h
    obtain ⟨rfl, rfl⟩ := List.append_eq_nil_iff.mp e.symm
    exact ⟨v, vr, [], [], rfl, rfl, h1, h2⟩
  | m :: ms, _, n + 1, h => by
    obtain ⟨v, vr, f1, f2, rfl, e, h1, h2⟩ := h
    obtain ⟨rfl, rfl⟩ := List.append_eq_nil_iff.mp e.symm
    exact RPs.drop0 n h2
theorem RPs.take0 {C : Kt} {H : Hp} : ∀ {ms : List D} {vs : List V} (n : Nat), RPs C H ms vs [] → RPs C H (ms.take n) (vs.take n) []
  | [], _, n, h => by
    obtain ⟨rfl, _⟩ := h
    simp only [List.take_nil]
    exact ⟨rfl, rfl⟩
  | m :: ms, _, 0, h => ⟨rfl, rfl⟩
  | m :: ms, _, n + 1, h => by
    obtain ⟨v, vr, f1, f2, rfl, e, h1, h2⟩ := h
    obtain ⟨rfl, rfl⟩ := List.append_eq_nil_iff.mp e.symm
    exact ⟨v, _, [], [], rfl, rfl, h1, RPs.take0 n h2⟩
theorem RPs.cut {C : Kt} {H : Hp} {ms : List D} {vs : List V} {lo hi : Option Int} (h : RPs C H ms vs []) : RPs C H (cutD ms lo hi) (cutV vs lo hi) [] := by
  unfold cutD cutV
  rw [h.len]
  exact (h.drop0 _).take0 _
abbrev RSl := V → Option Int → Option Int → Hp → VK → Prop
def rSlX (K : PySem.W.Frag) : RSl := fun x lo hi H Q => rSlL K x lo hi H Q ∨ (rSlA K x lo hi H Q ∨ rSlS x lo hi H Q)
theorem sl_any {X : Cx} : SlR X (rSlX X.K) := SlR.or sl_list (SlR.or sl_tupA sl_str)
def slD (m : D) (lo hi : Option Int) : Option D := match m with
  | .lst _ ms => if fzs ms then some (.lst true (cutD ms lo hi)) else none
  | .tup ms => if fzs ms then some (.tup (cutD ms lo hi)) else none
  | .str z => if z.length ≤ 1000000 then some (.str (cutS z lo hi)) else none
  | _ => none
theorem cutD_all {ms : List D} {lo hi : Option Int} (h : HT.sIx ms.length 0 lo = 0 ∧ HT.sIx ms.length ms.length hi = ms.length) : cutD ms lo hi = ms := by
  unfold cutD
  rw [h.1, h.2]
  simp
theorem slD_ok {C : Kt} {H : Hp} {m n : D} {v : V} {f : List Addr} {lo hi : Option Int} {Q : VK} (h : slD m lo hi = some n) (x : RP C H m v f) (k : ∀ w H' fm, Same H H' → RP C H' n w fm → fm.Nodup → (∀ a ∈ fm, H a = none) → Q w H') : rSlX C.K v lo hi H Q := by
  unfold slD at h
  split at h
  · split at h
    · rename_i hz
      cases h
      obtain ⟨a, vs, g, rfl, a1, r1⟩ := x
      refine .inl ⟨a, vs, rfl, a1.seqL, fun p hp => ?_⟩
      have sm := same_tup (u := .lst (cutV vs lo hi)) hp
      exact k (.ref p) _ [p] sm ⟨p, _, [], rfl, ⟨upd_same, rfl⟩, (RPs.cut (r1.fzAll hz)).st _ (Same.st1 sm _)⟩ (by simp) fun a ha => by rw [List.mem_singleton.mp ha]; exact hp
    · cases h
  · split at h
    · rename_i hz
      cases h
      have x0 := x
      obtain ⟨a, vs, rfl, a1, r1⟩ := x
      have r0 := r1.fzAll hz
      refine .inr (.inl ⟨a, vs, rfl, SqT.of a1, fun hw => ?_, fun hw p hp => ?_⟩)
      · rw [← r0.len] at hw
        rw [cutD_all hw] at k
        exact k (.ref a) H [] (Same.refl H) ⟨a, vs, rfl, a1, r0⟩ List.nodup_nil noneIn
      · have sm := same_tup (u := .tup (cutV vs lo hi)) hp
        exact k (.ref p) _ [] sm ⟨p, _, rfl, upd_same, (RPs.cut r0).st _ (Same.st1 sm _)⟩ List.nodup_nil noneIn
    · cases h
  · split at h
    · rename_i hl
      cases h
      obtain ⟨rfl, _⟩ := x
      refine .inr (.inr ⟨_, rfl, ?_, k _ H [] (Same.refl H) ⟨rfl, rfl⟩ List.nodup_nil noneIn⟩)
      rw [sizeLine_eq]; omega
    · cases h
  · cases h
/-- a slice's part -/
def oPart (q : Option SV) (env : Env) : Option (Option Int) := match q with
  | none => some none
  | some p => match p env with
    | some (.int i) => some (some i)
    | _ => none
def tPo (C : Kt) : Option SV → TO
  | none => tNoPart
  | some p => tPart (tV C p)
def pSl (p : SV) (lo hi : Option SV) : SV := fun env => match p env, oPart lo env, oPart hi env with
  | some m, some l, some h => slD m l h
  | _, _, _ => none
theorem po_ok {C : Kt} {σ : L2.St} {H : Hp} {q : Option SV} {env : Env} {fp : List Addr} {o : Option Int} {Q : Option Int → Hp → Prop} (r : ER C H env σ fp) (h : oPart q env = some o) (k : ∀ H', Same H H' → Q o H') : tPo C q σ H Q := by
  cases q with
  | none =>
    cases h
    exact k H (Same.refl H)
  | some p =>
    unfold oPart at h
    dsimp only at h
    split at h
    · rename_i i e
      cases h
      exact ⟨env, fp, _, r, e, fun v H1 fm s x => ⟨i, x.1, k H1 s⟩⟩
    · cases h
theorem sl_u {C : Kt} {σ : L2.St} {H : Hp} {Q : VK} {p : SV} {lo hi : Option SV} (x : tU C (pSl p lo hi) σ H Q) : tSl (rSlX C.K) (tV C p) (tPo C lo) (tPo C hi) σ H Q := by
  obtain ⟨env, fp, m, r, h, k⟩ := x
  unfold pSl at h
  split at h
  · rename_i m0 l hh e1 e2 e3
    refine ⟨env, fp, m0, r, e1, fun v H1 f1 s1 x1 => po_ok (r.st env (Same.st1 s1 _)) e2 fun H2 s2 => po_ok (r.st env (Same.st1 (s1.trans s2) _)) e3 fun H3 s3 => ?_⟩
    exact slD_ok h (x1.st m0 (Same.st1 (s2.trans s3) _)) fun w H4 fm s4 y nd fr => k w H4 fm (((s1.trans s2).trans s3).trans s4) y nd fun a ha => ((s1.trans s2).trans s3).free (fr a ha)
  · cases h
theorem PoN {X : Cx} : PO X none (tPo (kt X) none) := po_none
theorem PoS {X : Cx} {e : Expr} {p : SV} (h : PE X e (tV (kt X) p)) : PO X (some e) (tPo (kt X) (some p)) := po_some h
theorem U_sl {X : Cx} {e : Expr} {lo hi : Option Expr} {pos p2 : Pos} {p : SV} {ql qh : Option SV} (he : PE X e (tV (kt X) p)) (hl : PO X lo (tPo (kt X) ql)) (hh : PO X hi (tPo (kt X) qh)) : PE X (.Subscript e (.Slice lo hi none p2) pos) (tU (kt X) (pSl p ql qh)) :=
  pe_imp (pe_slice sl_any he hl hh) fun _ _ _ => sl_u

/-! ### methods of texts -/
def MtS (C : Kt) (r : V → List V → Hp → VK → Prop) (f : D → D → Option D) : Prop := ∀ (H : Hp) (x y : D) (v u : V) (f1 f2 : List Addr) (m : D), RP C H x v f1 → RP C H y u f2 → f x y = some m →
  ∀ Q : VK, (∀ w H' fm, Same H H' → RP C H' m w fm → fm.Nodup → (∀ a ∈ fm, H a = none) → Q w H') → r v [u] H Q
def isSD : D → Bool
  | .str _ => true
  | _ => false
def pM (f : D → D → Option D) (p q : SV) : SV := fun env => match p env, q env with
  | some m, some n => if isSD m then f m n else none
  | _, _ => none
theorem m1_u {C : Kt} {σ : L2.St} {H : Hp} {Q : VK} {r : V → List V → Hp → VK → Prop} {f : D → D → Option D} (hf : MtS C r f) {p q : SV} (x : tU C (pM f p q) σ H Q) : tM1 r (tV C p) (tV C q) σ H Q := by
  obtain ⟨env, fp, m, e, h, k⟩ := x
  unfold pM at h
  split at h
  · rename_i a b e1 e2
    split at h
    · rename_i hs
      refine ⟨env, fp, a, e, e1, fun v H1 f1 s1 x1 => ⟨?_, env, fp, b, e.st env (Same.st1 s1 _), e2, fun u H2 f2 s2 x2 => ?_⟩⟩
      · cases a with
        | str z => exact ⟨z, x1.1⟩
        | _ => cases hs
      · exact hf H2 a b v u f1 f2 m (x1.st a (Same.st1 s2 _)) x2 h Q fun w H3 fm s3 y nd fr => k w H3 fm ((s1.trans s2).trans s3) y nd fun c hc => (s1.trans s2).free (fr c hc)
    · cases h
  · cases h
def strsD (ys : List Str) : List D := ys.map D.str
theorem RPs.strs {C : Kt} {H : Hp} : ∀ (ys : List Str), RPs C H (strsD ys) (ys.map V.str) []
  | [] => ⟨rfl, rfl⟩
  | y :: r => ⟨_, _, [], [], rfl, rfl, ⟨rfl, rfl⟩, RPs.strs r⟩
def splitD : D → D → Option D
  | .str a, .str b => if (b.length == 0) = false ∧ a.length ≤ 1000000 then some (.lst true (strsD (Txt.split a b))) else none
  | _, _ => none
theorem ms_split {C : Kt} : MtS C (fun x xs H Q => ∃ a b, x = .str a ∧ xs = [.str b] ∧ (b.length == 0) = false ∧ a.length + 2 ≤ sizeLine ∧ rNewStrs (Txt.split a b) H Q) splitD := by
  intro H x y v u f1 f2 m hx hy h Q k
  unfold splitD at h
  split at h
  · rename_i a b
    split at h
    · rename_i hc
      cases h
      obtain ⟨rfl, _⟩ := hx
      obtain ⟨rfl, _⟩ := hy
      refine ⟨a, b, rfl, rfl, hc.1, by rw [sizeLine_eq]; omega, fun p hp => ?_⟩
      have sm := same_tup (u := .lst ((Txt.split a b).map V.str)) hp
      exact k (.ref p) _ [p] sm ⟨p, _, [], rfl, ⟨upd_same, rfl⟩, RPs.strs _⟩ (by simp) fun a ha => by rw [List.mem_singleton.mp ha]; exact hp
    · cases h
  · cases h
def strsOf : List D → Option (List Str)
  | [] => some []
  | .str y :: r => (strsOf r).map (y :: ·)
  | _ => none
theorem strsOf_ok {C : Kt} {H : Hp} : ∀ {ms : List D} {ys : List Str} {vs : List V} {f : List Addr}, strsOf ms = some ys → RPs C H ms vs f → vs = ys.map V.str
  | [], _, _, _, h, x => by cases h; exact x.1
  | m :: r, ys, _, _, h, x => by
    cases m with
    | str y =>
      obtain ⟨v, vr, f1, f2, rfl, rfl, h1, h2⟩ := x
      unfold strsOf at h
      cases q : strsOf r with
      | none => rw [q] at h; cases h
      | some l =>
        rw [q] at h
        cases h
        rw [strsOf_ok q h2, h1.1]
        rfl
    | _ => cases h
def joinD : D → D → Option D
  | .str a, .lst _ ms => match strsOf ms with
    | some ys => if (ys.map (·.length)).sum + ys.length * a.length ≤ 16777216 then some (.str (Txt.join a ys)) else none
    | none => none
  | .str a, .tup ms => match strsOf ms with
    | some ys => if (ys.map (·.length)).sum + ys.length * a.length ≤ 16777216 then some (.str (Txt.join a ys)) else none
    | none => none
  | _, _ => none
theorem ms_join {C : Kt} : MtS C (fun x xs H Q => ∃ a p, ∃ ys : List Str, x = .str a ∧ xs = [.ref p] ∧ (SqL C.K H p (ys.map V.str) ∨ SqT C.K H p (ys.map V.str)) ∧
      (ys.map (·.length)).sum + ys.length * a.length ≤ 16777216 ∧ Q (.str (Txt.join a ys)) H) joinD := by
  intro H x y v u f1 f2 m hx hy h Q k
  unfold joinD at h
  split at h
  · rename_i a o ms
    split at h
    · rename_i ys e
      split at h
      · rename_i hl
        cases h
        obtain ⟨rfl, _⟩ := hx
        obtain ⟨p, vs, g, rfl, a1, r1⟩ := hy
        have := strsOf_ok e r1
        subst this
        exact ⟨a, p, ys, rfl, rfl, .inl a1.seqL, hl, k _ H [] (Same.refl H) ⟨rfl, rfl⟩ List.nodup_nil noneIn⟩
      · cases h
    · cases h
  · rename_i a ms
    split at h
    · rename_i ys e
      split at h
      · rename_i hl
        cases h
        obtain ⟨rfl, _⟩ := hx
        obtain ⟨p, vs, rfl, a1, r1⟩ := hy
        have := strsOf_ok e r1
        subst this
        exact ⟨a, p, ys, rfl, rfl, .inr (SqT.of a1), hl, k _ H [] (Same.refl H) ⟨rfl, rfl⟩ List.nodup_nil noneIn⟩
      · cases h
    · cases h
  · cases h
section
variable {X : Cx} {o e : Expr} {apos pos : Pos} {p q : SV}
theorem U_split (ho : PE X o (tV (kt X) p)) (he : PE X e (tV (kt X) q)) (hs : starEach [e] X.env = [(false, eval e X.env)] := by rfl) (hbase : attributeBase o "split" X.env (eval o X.env) = eval o X.env := by rfl) (hline : (apos.endLine == pos.line) = true := by rfl) :
    PE X (.Call (.Attribute o "split" apos) [e] [] pos) (tU (kt X) (pM splitD p q)) := pe_imp (pe_split ho he hs hbase hline) fun _ _ _ => m1_u ms_split
theorem U_join (ho : PE X o (tV (kt X) p)) (he : PE X e (tV (kt X) q)) (hs : starEach [e] X.env = [(false, eval e X.env)] := by rfl) (hbase : attributeBase o "join" X.env (eval o X.env) = eval o X.env := by rfl) (hline : (apos.endLine == pos.line) = true := by rfl) :
    PE X (.Call (.Attribute o "join" apos) [e] [] pos) (tU (kt X) (pM joinD p q)) := pe_imp (pe_join ho he hs hbase hline) fun _ _ _ => m1_u (C := kt X) ms_join
end
/-! ### *xs in a display -/
def vStar (p : SV) (r : SAV) : SAV := fun env => match p env, r env with
  | some m, some ms => match seqD m with
    | some ns => some (ns ++ ms)
    | none => none
  | _, _ => none
theorem uStar_i {C : Kt} {σ : L2.St} {H : Hp} {Q : List V → Hp → Prop} {p : SV} {r : SAV} (x : tAU C (vStar p r) σ H Q) : StX.tStar C.K (tV C p) (tAU C r) σ H Q := by
  obtain ⟨env, fp, ms, e, h, k⟩ := x
  unfold vStar at h
  split at h
  · rename_i m mr e1 e2
    split at h
    · rename_i ns q
      cases h
      refine ⟨env, fp, m, e, e1, fun v H1 f1 s1 x1 => ?_⟩
      obtain ⟨a, rfl, hh⟩ := x1.seqD q
      have : ∃ vs, (SqT C.K H1 a vs ∨ SqL C.K H1 a vs) ∧ RPs C H1 ns vs [] := by
        rcases hh with ⟨vs, g, _, a1, r1⟩ | ⟨vs, g, _, a1, r1⟩ | ⟨vs, _, a1, r1⟩
        · exact ⟨vs, .inr a1.seqL, r1⟩
        · exact ⟨vs, .inr a1.seqL, r1⟩
        · exact ⟨vs, .inl a1, r1⟩
      obtain ⟨vs, hs, r1⟩ := this
      refine ⟨a, vs, rfl, hs, env, fp, mr, e.st env (Same.st1 s1 _), e2, fun us H2 f2 s2 x2 n2 g2 => k (vs ++ us) H2 f2 (s1.trans s2) ?_ n2 fun b hb => s1.free (g2 b hb)⟩
      simpa using RPs.app (r1.st ns (Same.st1 s2 _)) x2
    · cases h
  · cases h
theorem AU_star {X : Cx} {e : Expr} {es : List Expr} {p : Pos} {q : SV} {r : SAV} (he : PE X e (tV (kt X) q)) (hr : PA X es (tAU (kt X) r)) (hs : starEach (.Starred e p :: es) X.env = (true, eval e X.env) :: starEach es X.env := by rfl) : PA X (.Starred e p :: es) (tAU (kt X) (vStar q r)) := pa_imp (StX.pa_star he hr hs) fun _ _ _ => uStar_i
end T

set_option Elab.async false
set_option linter.all false
set_option maxRecDepth 100000
set_option maxHeartbeats 4000000
namespace T
open PySem PySem.Spec PyProof.Rows L2

/-! ### x, *r = a list -/
theorem star_list {prog : Program} {w : World} {A : Around} {E : Value → Shared → Prop} {s : Shared} {l : Addr} {items : Array Value} {Q : List Value → Shared → Prop} (hl : s.heap.IsList l items) (hh : A.handled = none) (hn : 1 ≤ items.size) (hz : items.size ≤ 1000000)
    (h : ∀ h' tk, Heap.ExtBut s.heap.objs.size s.heap h' → Q (items.toList.take 1 ++ [.ref h'.objs.size]) { s with heap := h'.push { cls := .type "list", data := .seq (items.toList.drop 1).toArray }, toks := tk }) : wpAny (model prog w) A (unpackItems (.ref l) 2 (some 1)) Q E s := by
  have hlt : l ≠ s.heap.objs.size := by obtain ⟨o, ho, _⟩ := hl; exact Nat.ne_of_lt (Heap.lt_size ho)
  have hll : l < s.heap.objs.size := by obtain ⟨o, ho, _⟩ := hl; exact Heap.lt_size ho
  unfold unpackItems
  refine wpAny_bind ?_
  unfold notIterableAtAll
  refine wpAny_bind (wpAny_specialOf hl.typeIs slot_list_iter.lookup ?_)
  refine wpAny_pure ?_
  simp only [Bool.false_eq_true, if_false]
  refine wpAny_bind (wpAny_holding (wpAny_pyIter_list hl ?_))
  refine wpAny_bind (wpAny_holding (PySem.W.kun_draw hlt 1 0 _ _ ⟨_, Heap.get?_push_size _ rfl, rfl, rfl⟩ (hl.push _) (by omega) fun h₁ hit₁ hs₁ => ?_))
  have hl₁ : h₁.IsList l items := (hl.push _).extBut hs₁.extBut hlt
  rw [Nat.zero_add] at hit₁
  have hit₁' := hit₁
  obtain ⟨oi, hoi, _⟩ := hit₁'
  have hl₁' := hl₁
  obtain ⟨ol, hol, _⟩ := hl₁'
  rw [List.drop_zero]
  have hfl : (items.toList.take 1).length = 1 := by rw [List.length_take, Array.length_toList]; omega
  rw [if_neg (show ¬ ((items.toList.take 1).length < 1) by rw [hfl]; omega)]
  refine wpAny_bind (wpAny_holding (PySem.W.kun_collect (s := { s with heap := h₁ }) (T := "list_iterator") (.inr (.inr (.inl rfl))) (Walks.list (A := A.in1) hh s.heap.objs.size l hlt items) (fun j u st => st.1.typeIs) (k := 1) (by omega) ⟨hit₁, hl₁⟩ (Heap.lt_size hoi) (Heap.lt_size hol) (fun h₂ tk hk => ?_) (by rw [sizeLine_eq]; omega)))
  have hrl : (items.toList.drop 1).length = items.size - 1 := by rw [List.length_drop, Array.length_toList]
  show wpAny _ _ (if (items.toList.drop 1).length < 2 - 1 - 1 then _ else _) _ _ _
  rw [if_neg (by omega)]
  show wpAny _ _ (newList ((items.toList.drop 1).take ((items.toList.drop 1).length - (2 - 1 - 1))) >>= fun d => pure (items.toList.take 1 ++ [d] ++ (items.toList.drop 1).drop ((items.toList.drop 1).length - (2 - 1 - 1)))) _ _ _
  have e1 : (items.toList.drop 1).take ((items.toList.drop 1).length - (2 - 1 - 1)) = items.toList.drop 1 := List.take_length
  have e2 : (items.toList.drop 1).drop ((items.toList.drop 1).length - (2 - 1 - 1)) = [] := List.drop_length
  rw [e1, e2]
  have he : Heap.ExtBut s.heap.objs.size s.heap h₂ := fun b o hb e => hk b o hb (hs₁.extBut b o hb (Heap.get?_push_of_some _ e))
  refine wpAny_bind (wpAny_newList (s := { s with heap := h₂, toks := tk }) (wpAny_pure ?_) (by rw [hrl, sizeLine_eq]; omega))
  rw [List.append_nil]
  exact h h₂ tk he
def gStar (K : PySem.W.Frag) (t : TGs) : TG := fun v σ H Q => ∃ a x xs, v = .ref a ∧ SqL K H a (x :: xs) ∧ xs.length ≤ 100000 ∧ ∀ p, H p = none → t [x, .ref p] σ (upd H p (.lst xs)) Q
theorem pg_star {X : Cx} {t1 t2 : Expr} {p pos : Pos} {k : Nat} {t : TGs} (hc : X.calm = true) (h : PGs X [t1, t2] t) (he : assignEach [t1, .Starred t2 p] X.env = [(false, assign t1 X.env), (true, assign t2 X.env)] := by rfl) (he2 : (assignEach [t1, t2] X.env).map (·.2) = [assign t1 X.env, assign t2 X.env] := by rfl) :
    PG X (.Tuple [t1, .Starred t2 p] k pos) (gStar X.K t) := by
  refine ⟨fun pins s σ H v u Q I r hw => ?_⟩
  obtain ⟨a, x, xs, rfl, hq, hl, hw⟩ := hw
  cases r
  obtain ⟨its, rv, ht, hz⟩ := I.list hq
  cases rv with
  | @cons _ u1 _ us r1 r2 =>
    rw [assign_Tuple]
    refine wpAny_bind (wpAny_standAt ?_)
    unfold unpack
    rw [he]
    refine wpAny_bind (wpAny_holding ?_)
    have hlen := r2.length
    refine star_list (items := (u1 :: us).toArray) ht.isList (I.ok.hd hc) (by simp) (by simp; omega) fun h' tk hx => ?_
    have I1 : Inv X pins σ H { s with heap := h', toks := tk } := I.kept (t' := tk) fun b o e => hx b o (Nat.ne_of_lt (Heap.lt_size e)) e
    have hf : H h'.objs.size = none := I1.hok.fresh (Nat.le_refl _)
    have I2 : Inv X pins σ (upd H h'.objs.size (.lst xs)) { s with heap := h'.push { cls := .type "list", data := .seq ((u1 :: us).toArray.toList.drop 1).toArray }, toks := tk } :=
      I1.laid (t' := tk) (fun b u e => Heap.get?_push_of_some _ e) (Nat.le_refl _) ⟨by rw [sizeLine_eq]; omega, us, 0, r2, by simpa using Heap.get?_push_size h' (o := { cls := .type "list", data := .seq us.toArray }) rfl⟩
    have := h.run pins _ σ _ [x, .ref h'.objs.size] [u1, .ref h'.objs.size] Q I2 (.cons r1 (.cons rfl .nil)) (hw _ hf)
    rw [he2] at this
    exact this
def sStar (i j : Nat) (s : SE) : SS := fun env => match s env with
  | some (.ok m, env1) => match m with
    | .lst _ (x :: xs) => if fz x = true ∧ fzs xs = true ∧ xs.length ≤ 100000 ∧ i < env1.length ∧ j < env1.length then some (.nx, (env1.set i (some x)).set j (some (.lst true xs))) else none
    | _ => none
  | some (.ex c m, env1) => some (.ex c m, env1)
  | none => none
theorem star_i {C : Kt} {kp : Nat → Bool} {W : WXT} {σ : L2.St} {H : Hp} {Z : Ends} {i j : Nat} {s : SE} (hi : kp i = false) (hj : kp j = false) (x : tS C kp W (sStar i j s) Z σ H) : tAsg (tE C W s) (gStar C.K (gCons (gName i) (gCons (gName j) gNil))) Z σ H := by
  obtain ⟨env, fp, r, nd, h⟩ := x
  unfold sStar at h
  refine e_in (Z := Z) (kp := kp) r nd (fun c m e2 q => ?_) (fun m e2 q => ?_) fun q => ?_
  · rw [q] at h; exact h
  · rw [q] at h
    intro v H2 fm f2 x2 r2 n2 mv
    dsimp only at h
    split at h
    · rename_i o x xs
      split at h
      · rename_i hc
        obtain ⟨hz1, hz2, hl, hli, hlj⟩ := hc
        obtain ⟨a, vs, g, rfl, a1, r1⟩ := x2
        have r0 := r1.fzAll (ms := x :: xs) (by unfold fzs; rw [hz1, hz2]; rfl)
        obtain ⟨v1, vr, g1, g2, rfl, e, x1, x2⟩ := r0
        obtain ⟨rfl, rfl⟩ := List.append_eq_nil_iff.mp e.symm
        refine ⟨a, v1, vr, rfl, a1.seqL, by rw [← x2.len]; exact hl, fun p hp => ⟨v1, _, rfl, _, _, rfl, rfl, ?_⟩⟩
        have sm := same_tup (u := .lst vr) hp
        have nf2 := (List.nodup_append.mp n2).2.1
        have ow := r2.owned e2
        have pf : p ∉ f2 := fun z => by
          obtain ⟨o, e, _⟩ := ow p z
          rw [hp] at e; cases e
        obtain ⟨f3, r3, n3, s3⟩ := (r2.st e2 (Same.st1 sm _)).put (i := i) hli (x1.st x (Same.st1 sm _)) (by simpa using nf2)
        have y2 : RP C (upd H2 p (.lst vr)) (.lst true xs) (.ref p) [p] := ⟨p, vr, [], rfl, ⟨upd_same, rfl⟩, x2.st xs (Same.st1 sm _)⟩
        have n4 : ([p] ++ f3).Nodup := by
          rw [List.singleton_append, List.nodup_cons]
          exact ⟨fun z => pf (by simpa using s3 p z), n3⟩
        obtain ⟨f5, r5, n5, s5⟩ := r3.put (i := j) (by simpa using hlj) y2 n4
        refine h _ _ f5 r5 n5 ?_ ((Kp.set hi).trans (Kp.set hj))
        have m1 : Mv H (upd H2 p (.lst vr)) fp ([p] ++ (fm ++ f2)) := mv.trans (Mv.same (fm := [p]) sm fun b hb => by rw [List.mem_singleton.mp hb]; exact hp)
        refine m1.less fun b hb => ?_
        rcases List.mem_append.mp (s5 b hb) with z | z
        · exact List.mem_append_left _ z
        · exact List.mem_append_right _ (List.mem_append_right _ (by simpa using s3 b z))
      · exact h.elim
    · exact h.elim
  · rw [q] at h; exact h
theorem S_star {X : Cx} {kp : Nat → Bool} {W : WXT} {t1 t2 e : Expr} {p pos spos : Pos} {k i j : Nat} {s : SE} (hc : X.calm = true) (hi : kp i = false) (hj : kp j = false) (h12 : PGs X [t1, t2] (gCons (gName i) (gCons (gName j) gNil))) (he : PE X e (tE (kt X) W s))
    (hs1 : (assignEach [t1, .Starred t2 p] X.env) = [(false, assign t1 X.env), (true, assign t2 X.env)] := by rfl) (hs2 : (assignEach [t1, t2] X.env).map (·.2) = [assign t1 X.env, assign t2 X.env] := by rfl)
    (hs : swapsWithSole [.Tuple [t1, .Starred t2 p] k pos] e spos.line X.env = pure false := by rfl) (hw : swappedStores [.Tuple [t1, .Starred t2 p] k pos] e X.env = pure none := by rfl) (h1 : (assignEach [.Tuple [t1, .Starred t2 p] k pos] X.env).map (·.2) = [assign (.Tuple [t1, .Starred t2 p] k pos) X.env] := by rfl) :
    PS X (.Assign [.Tuple [t1, .Starred t2 p] k pos] e spos) (tS (kt X) kp W (sStar i j s)) := ps_imp (ps_asg he (pg_star hc h12 hs1 hs2) hs hw h1) fun _ _ _ => star_i hi hj

/-! ### match of a text -/
abbrev CsS := List (Str × SS)
def csGo (z : Str) (env : Env) : CsS → Option (Fl × Env)
  | [] => some (.nx, env)
  | (t, b) :: r => match eqD (.str z) (.str t) with
    | some (.bl true) => b env
    | some (.bl false) => csGo z env r
    | _ => none
def sMatch (p : SV) (cs : CsS) : SS := fun env => match p env with
  | some (.str z) => csGo z env cs
  | _ => none
/-- the cases' readings: at a text z -/
structure PMs (X : Cx) (C : Kt) (kp : Nat → Bool) (W : WXT) (cases : List MatchCase) (cs : CsS) : Prop where
  run : ∀ (pins : List (Addr × Obj)) (s : Shared) (σ : L2.St) (H : Hp) (D : Ends) (z : Str) (u : Value) (env : Env) (fp : List Addr) (b : Bool), Inv X pins σ H s → RelV (.str z) u → ER C H env σ fp → fp.Nodup → PostS C kp W D σ H fp (csGo z env cs) →
    wpAny (model X.prog X.w) X.A (matchCases cases X.env u b) (SP X pins D) X.xe s
theorem PMs_nil {X : Cx} {C : Kt} {kp : Nat → Bool} {W : WXT} : PMs X C kp W [] [] := ⟨fun pins s σ H D z u env fp b I r e nd h =>
  wpAny_matchCases_nil ⟨σ, H, I, h σ H fp e nd (Mv.refl H fp) (Kp.refl kp σ)⟩⟩
theorem PMs_cons {X : Cx} {kp : Nat → Bool} {W : WXT} {t : Str} {jj k : Nat} {p1 p2 : Pos} {body : List Stmt} {rest : List MatchCase} {b : SS} {cs : CsS} (hr : Room k X.A) (hb : PSs X body (tS (kt X) kp W b)) (h : PMs X (kt X) kp W rest cs) :
    PMs X (kt X) kp W (⟨.MatchValue (.Constant (.str t) jj p1) p2, none, body⟩ :: rest) ((t, b) :: cs) := by
  refine ⟨fun pins s σ H D z u env fp fi I r e nd hh => ?_⟩
  unfold csGo at hh
  cases q : eqD (.str z) (.str t) with
  | none => rw [q] at hh; exact hh.elim
  | some m =>
    have : ∃ bb, m = .bl bb := by
      unfold eqD at q
      cases q2 : eqB (.str z) (.str t) with
      | none => rw [q2] at q; cases q
      | some bb => rw [q2] at q; cases q; exact ⟨_, rfl⟩
    obtain ⟨bb, rfl⟩ := this
    rw [q] at hh
    refine wpAny_matchCases_cons (wpAny_matchPattern_Value ?_)
    refine Calls.Constant_str ?_
    have I1 := I.tok (s.toks + 1)
    have op := o2_eq (C := kt X) H (.str z) (.str t) (.str z) (.str t) [] [] (.bl bb) ⟨rfl, rfl⟩ ⟨rfl, rfl⟩ q (fun v H' => v = .bl bb ∧ Same H H') fun w H' fm sm y _ _ => ⟨y.1, sm⟩
    refine thn (op_eqD (hu64 hr) pins _ σ H (.str z) (.str t) u _ _ I1 r ⟨_, rfl⟩ op) fun c s2 ⟨v, H', I2, rv, ev, sm⟩ => ?_
    subst ev
    cases rv
    have e' := e.st env (Same.st1 sm _)
    have mv : Mv H H' fp fp := (Mv.same (fm := []) sm noneIn).less fun b hb => hb
    refine wpAny_truthy_bool ?_
    cases bb with
    | true =>
      dsimp only at hh ⊢
      simp only [if_true]
      refine wpAny_assignInOrder_none ?_
      exact hb.run pins s2 σ H' D I2 ⟨env, fp, e', nd, hh.shift mv (Kp.refl kp σ)⟩
    | false =>
      simp only [Bool.false_eq_true, if_false]
      exact h.run pins s2 σ H' D z u env fp false I2 r e' nd (hh.shift mv (Kp.refl kp σ))
theorem S_match {X : Cx} {kp : Nat → Bool} {W : WXT} {e : Expr} {cases : List MatchCase} {pos : Pos} {p : SV} {cs : CsS} (he : PE X e (tV (kt X) p)) (h : PMs X (kt X) kp W cases cs) : PS X (.Match e cases pos) (tS (kt X) kp W (sMatch p cs)) := by
  refine ⟨fun pins s σ H D I hw => ?_⟩
  obtain ⟨env, fp, r, nd, hh⟩ := hw
  refine wpAny_Match ?_
  unfold sMatch at hh
  split at hh
  · rename_i z q
    refine thn (he.run pins s σ H (fun v H' => v = .str z ∧ Same H H') I ⟨env, fp, _, r, q, fun v H' fm sm y => ⟨y.1, sm⟩⟩) fun u s1 ⟨v, H', I1, rv, ev, sm⟩ => ?_
    subst ev
    have mv : Mv H H' fp fp := (Mv.same (fm := []) sm noneIn).less fun b hb => hb
    exact h.run pins s1 σ H' D z u env fp true I1 rv (r.st env (Same.st1 sm _)) nd (hh.shift mv (Kp.refl kp σ))
  · exact hh.elim
end T

set_option Elab.async false
set_option linter.all false
set_option maxRecDepth 100000
set_option maxHeartbeats 4000000
namespace T
open PySem PySem.Spec PyProof.Rows L2

/-! ### all that is ours is frozen while an expression is evaluated, and thawed behind it -/
def tThaw (t : TE) : TE := fun σ H Q => ∃ l : List Addr, (∀ a ∈ l, ∃ u, H a = some u ∧ Mut (some u)) ∧ l.Nodup ∧ ∀ H1, FrL H H1 l → t σ H1 fun v H2 => (∀ a ∈ l, H2 a = H1 a) ∧ ∀ H3, (∀ a ∈ l, H3 a = H a) → (∀ a, a ∉ l → H3 a = H2 a) → Q v H3
open Classical in
noncomputable def thawH (H H2 : Hp) (l : List Addr) : Hp := fun b => if b ∈ l then H b else H2 b
theorem Inv.unlocks {X : Cx} {pins : List (Addr × Obj)} {σ : L2.St} {s : Shared} {H : Hp} : ∀ (l : List Addr) {H2 : Hp}, Inv X pins σ H2 s → l.Nodup → (∀ a ∈ l, ∃ od u, H a = some u ∧ H2 a = some (.frz od u) ∧ ∀ o' u', X.H_0 a ≠ some (.frz o' u')) → Inv X pins σ (thawH H H2 l) s
  | [], H2, I, _, _ => by
    have : thawH H H2 [] = H2 := by funext b; unfold thawH; simp
    rw [this]; exact I
  | a :: l, H2, I, nd, h => by
    obtain ⟨na, nl⟩ := List.nodup_cons.mp nd
    obtain ⟨od, u, e1, e2, hn⟩ := h a (by simp)
    have I1 := I.unlock e2 hn
    have I2 := Inv.unlocks l I1 nl fun b hb => by
      obtain ⟨od', u', f1, f2, f3⟩ := h b (List.mem_cons_of_mem _ hb)
      exact ⟨od', u', f1, (upd_ne (fun z : b = a => na (by rw [← z]; exact hb))).trans f2, f3⟩
    have : thawH H H2 (a :: l) = thawH H (upd H2 a u) l := by
      funext b
      unfold thawH
      by_cases hb : b ∈ l
      · rw [if_pos hb, if_pos (List.mem_cons_of_mem _ hb)]
      · by_cases hba : b = a
        · subst hba
          rw [if_pos (by simp), if_neg hb, upd_same, e1]
        · rw [if_neg (by simp [hb, hba]), if_neg hb, upd_ne hba]
    rw [this]; exact I2
theorem pe_thaw {X : Cx} {e : Expr} {t : TE} (h : PE X e t) : PE X e (tThaw t) := by
  refine ⟨fun pins s σ H Q I hw => ?_⟩
  obtain ⟨l, hl, nd, k⟩ := hw
  obtain ⟨H1, fr, I1⟩ := Inv.locks l I hl nd
  refine thn (h.run pins s σ H1 _ I1 (k H1 fr)) fun u s1 ⟨v, H2, I2, r, h2, q⟩ => ?_
  refine ⟨v, thawH H H2 l, Inv.unlocks l I2 nd fun a ha => ?_, r, q _ (fun a ha => by unfold thawH; rw [if_pos ha]) fun a ha => by unfold thawH; rw [if_neg ha]⟩
  obtain ⟨od, u', e1, mu, e2⟩ := fr.2 a ha
  exact ⟨od, u', e1, by rw [h2 a ha]; exact e2, I.nofrz e1 mu⟩
mutual
def noFz : D → Bool
  | .non => true
  | .bl _ => true
  | .int _ => true
  | .str _ => true
  | .tup ms => noFzs ms
  | .lst o ms => o && noFzs ms
  | .klst _ => false
  | .dct o kvs => o && noFzk kvs
  | .ins o _ fs => o && noFzf fs
def noFzs : List D → Bool
  | [] => true
  | m :: r => noFz m && noFzs r
def noFzk : List (D × D) → Bool
  | [] => true
  | (_, m) :: r => noFz m && noFzk r
def noFzf : List (Str × D) → Bool
  | [] => true
  | (_, m) :: r => noFz m && noFzf r
end
/-- what is not frozen stays -/
def Un1 (H H' : Hp) : Prop := ∀ a o, H a = some o → (∀ od u, o ≠ .frz od u) → H' a = some o
theorem At.un {o : Bool} {H H' : Hp} {a : Addr} {u : HO} {fp fp' : List Addr} (h : At o H a u fp fp') (ho : o = true) (hu : ∀ od w, u ≠ .frz od w) (s : Un1 H H') : At o H' a u fp fp' := by
  subst ho
  exact ⟨s a u h.1 hu, h.2⟩
mutual
theorem RP.un {C : Kt} {H H' : Hp} (s : Un1 H H') : ∀ (m : D) {v : V} {fp : List Addr}, RP C H m v fp → noFz m = true → RP C H' m v fp
  | .non, _, _, h, _ => h
  | .bl _, _, _, h, _ => h
  | .int _, _, _, h, _ => h
  | .str _, _, _, h, _ => h
  | .tup ms, _, _, h, z => by
    unfold noFz at z
    unfold RP at h ⊢
    obtain ⟨a, vs, rfl, h1, h2⟩ := h
    exact ⟨a, vs, rfl, s a _ h1 (fun _ _ z => nomatch z), RPs.un s ms h2 z⟩
  | .lst o ms, _, _, h, z => by
    unfold noFz at z
    rw [Bool.and_eq_true] at z
    unfold RP at h ⊢
    obtain ⟨a, vs, fp', rfl, h1, h2⟩ := h
    exact ⟨a, vs, fp', rfl, h1.un z.1 (fun _ _ z => nomatch z) s, RPs.un s ms h2 z.2⟩
  | .klst _, _, _, _, z => by
    unfold noFz at z
    cases z
  | .dct o kvs, _, _, h, z => by
    unfold noFz at z
    rw [Bool.and_eq_true] at z
    unfold RP at h ⊢
    obtain ⟨a, fp', rfl, h⟩ := h
    refine ⟨a, fp', rfl, ?_⟩
    rcases h with ⟨ws, h1, h2⟩ | ⟨ws, h1, h2⟩
    · exact .inl ⟨ws, h1.un z.1 (fun _ _ z => nomatch z) s, RPk.un s kvs h2 z.2⟩
    · exact .inr ⟨ws, h1.un z.1 (fun _ _ z => nomatch z) s, RPt.un s kvs h2 z.2⟩
  | .ins o c fs, _, _, h, z => by
    unfold noFz at z
    rw [Bool.and_eq_true] at z
    unfold RP at h ⊢
    obtain ⟨a, A, dx, ws, fp', rfl, hc, h1, h2⟩ := h
    exact ⟨a, A, dx, ws, fp', rfl, hc, h1.un z.1 (fun _ _ z => nomatch z) s, RPf.un s fs h2 z.2⟩
theorem RPs.un {C : Kt} {H H' : Hp} (s : Un1 H H') : ∀ (ms : List D) {vs : List V} {fp : List Addr}, RPs C H ms vs fp → noFzs ms = true → RPs C H' ms vs fp
  | [], _, _, h, _ => h
  | m :: ms, _, _, h, z => by
    unfold noFzs at z
    rw [Bool.and_eq_true] at z
    unfold RPs at h ⊢
    obtain ⟨v, vr, f1, f2, rfl, rfl, h1, h2⟩ := h
    exact ⟨v, vr, f1, f2, rfl, rfl, RP.un s m h1 z.1, RPs.un s ms h2 z.2⟩
theorem RPk.un {C : Kt} {H H' : Hp} (s : Un1 H H') : ∀ (ms : List (D × D)) {ws : List (Key × V)} {fp : List Addr}, RPk C H ms ws fp → noFzk ms = true → RPk C H' ms ws fp
  | [], _, _, h, _ => h
  | (k, m) :: ms, _, _, h, z => by
    unfold noFzk at z
    rw [Bool.and_eq_true] at z
    unfold RPk at h ⊢
    obtain ⟨y, v, vr, f1, f2, rfl, rfl, hk, h1, h2⟩ := h
    exact ⟨y, v, vr, f1, f2, rfl, rfl, hk, RP.un s m h1 z.1, RPk.un s ms h2 z.2⟩
theorem RPt.un {C : Kt} {H H' : Hp} (s : Un1 H H') : ∀ (ms : List (D × D)) {ws : List (List Key × V)} {fp : List Addr}, RPt C H ms ws fp → noFzk ms = true → RPt C H' ms ws fp
  | [], _, _, h, _ => h
  | (k, m) :: ms, _, _, h, z => by
    unfold noFzk at z
    rw [Bool.and_eq_true] at z
    unfold RPt at h ⊢
    obtain ⟨y, v, vr, f1, f2, rfl, rfl, hk, h1, h2⟩ := h
    exact ⟨y, v, vr, f1, f2, rfl, rfl, hk, RP.un s m h1 z.1, RPt.un s ms h2 z.2⟩
theorem RPf.un {C : Kt} {H H' : Hp} (s : Un1 H H') : ∀ (ms : List (Str × D)) {ws : List (Str × V)} {fp : List Addr}, RPf C H ms ws fp → noFzf ms = true → RPf C H' ms ws fp
  | [], _, _, h, _ => h
  | (k, m) :: ms, _, _, h, z => by
    unfold noFzf at z
    rw [Bool.and_eq_true] at z
    unfold RPf at h ⊢
    obtain ⟨v, vr, f1, f2, rfl, rfl, h1, h2⟩ := h
    exact ⟨v, vr, f1, f2, rfl, rfl, RP.un s m h1 z.1, RPf.un s ms h2 z.2⟩
end
def frE : Env → Env
  | [] => []
  | none :: r => none :: frE r
  | some m :: r => some (fr m) :: frE r
theorem ER.mut {C : Kt} {H : Hp} : ∀ (env : Env) {σ : L2.St} {fp : List Addr}, ER C H env σ fp → MutL H fp
  | [], _, _, h => by obtain ⟨_, rfl⟩ := h; exact MutL.nil
  | none :: r, _, _, h => by
    obtain ⟨w, σ', rfl, h⟩ := h
    exact ER.mut r h
  | some m :: r, _, _, h => by
    obtain ⟨v, σ', f1, f2, rfl, rfl, h1, h2⟩ := h
    exact (h1.mut m).app (ER.mut r h2)
theorem ER.fr {C : Kt} {H H' : Hp} {l : List Addr} (f : FrL H H' l) : ∀ (env : Env) {σ : L2.St} {fp : List Addr}, ER C H env σ fp → (∀ b ∈ fp, b ∈ l) → ER C H' (frE env) σ []
  | [], _, _, h, _ => ⟨h.1, rfl⟩
  | none :: r, _, _, h, s => by
    obtain ⟨w, σ', rfl, h⟩ := h
    exact ⟨w, σ', rfl, ER.fr f r h s⟩
  | some m :: r, _, _, h, s => by
    obtain ⟨v, σ', f1, f2, rfl, rfl, h1, h2⟩ := h
    exact ⟨v, σ', [], [], rfl, rfl, h1.fr f m fun b hb => s b (List.mem_append_left _ hb), ER.fr f r h2 fun b hb => s b (List.mem_append_right _ hb)⟩
def pThaw (p : SV) : SV := fun env => match p (frE env) with
  | some m => if noFz m then some m else none
  | none => none
theorem dedupL : ∀ (fp : List Addr), ∃ l : List Addr, l.Nodup ∧ (∀ b ∈ fp, b ∈ l) ∧ (∀ b ∈ l, b ∈ fp)
  | [] => ⟨[], List.nodup_nil, fun _ h => h, fun _ h => h⟩
  | a :: fp => by
    obtain ⟨l, n, s1, s2⟩ := dedupL fp
    by_cases ha : a ∈ l
    · exact ⟨l, n, fun b hb => (List.mem_cons.mp hb).elim (fun z => by rw [z]; exact ha) (s1 b), fun b hb => List.mem_cons_of_mem _ (s2 b hb)⟩
    · exact ⟨a :: l, List.nodup_cons.mpr ⟨ha, n⟩, fun b hb => (List.mem_cons.mp hb).elim (fun z => by rw [z]; simp) fun z => List.mem_cons_of_mem _ (s1 b z), fun b hb => (List.mem_cons.mp hb).elim (fun z => by rw [z]; simp) fun z => List.mem_cons_of_mem _ (s2 b z)⟩
theorem thaw_u {C : Kt} {σ : L2.St} {H : Hp} {Q : VK} {p : SV} (x : tU C (pThaw p) σ H Q) : tThaw (tU C p) σ H Q := by
  obtain ⟨env, fp, m, r, h, k⟩ := x
  unfold pThaw at h
  split at h
  · rename_i m' q
    split at h
    · rename_i hz
      cases h
      obtain ⟨l, nl, s1, s2⟩ := dedupL fp
      have mu := r.mut env
      refine ⟨l, fun a ha => mu a (s2 a ha), nl, fun H1 f => ⟨frE env, [], m, r.fr f env s1, q, fun v H2 fm sm y nd frs => ⟨fun a ha => ?_, fun H3 h1 h2 => ?_⟩⟩⟩
      · obtain ⟨od, u, e1, _, e2⟩ := f.2 a ha
        rw [sm a _ e2, e2]
      · have sm3 : Same H H3 := fun a o e => by
          by_cases ha : a ∈ l
          · rw [h1 a ha]; exact e
          · rw [h2 a ha]
            exact sm a o (by rw [f.1 a ha]; exact e)
        have un : Un1 H2 H3 := fun a o e hn => by
          by_cases ha : a ∈ l
          · obtain ⟨od, u, e1, _, e2⟩ := f.2 a ha
            rw [sm a _ e2] at e
            cases e
            exact absurd rfl (hn od u)
          · rw [h2 a ha]; exact e
        refine k v H3 fm sm3 (y.un un m hz) nd fun a ha => ?_
        have := frs a ha
        by_cases hl : a ∈ l
        · obtain ⟨od, u, e1, _, e2⟩ := f.2 a hl
          rw [e2] at this; cases this
        · rw [f.1 a hl] at this; exact this
    · cases h
  · cases h
theorem U_thaw {X : Cx} {e : Expr} {p : SV} (h : PE X e (tU (kt X) p)) : PE X e (tU (kt X) (pThaw p)) := pe_imp (pe_thaw h) fun _ _ _ => thaw_u

/-! ### calls of frozen arguments that change nothing and do not raise -/
def okF (F : SF) (ms : List D) : Option D := match F ms with
  | some (.ok m, _) => some m
  | _ => none
def pCall (F : SF) (pa : SAV) : SV := fun env => match pa env with
  | some ms => if fzs ms then okF F ms else none
  | none => none
theorem spF_pure {C : Kt} {F : SF} {H : Hp} {ms : List D} {vs : List V} {m : D} {Q : VK} {E : XK} (h : okF F ms = some m) (x : RPs C H ms vs []) (k : ∀ w H' fm, Same H H' → RP C H' m w fm → fm.Nodup → (∀ a ∈ fm, H a = none) → Q w H') : spF C F vs H Q E := by
  unfold okF at h
  split at h
  · rename_i m' os q
    cases h
    refine ⟨ms, [], x, List.nodup_nil, ?_⟩
    rw [q]
    intro v H' fm fo y o nd mv
    exact k v H' fm (fun a o e => mv.keep a o e fun z => nomatch z) y (List.nodup_append.mp nd).1 fun a ha => (mv.sub a (List.mem_append_left _ ha)).elim (fun z => nomatch z) id
  · cases h
theorem pcall_u {C : Kt} {σ : L2.St} {H : Hp} {Q : VK} {F : SF} {pa : SAV} {E : L2.St → XK} (x : tU C (pCall F pa) σ H Q) : tCallS (spF C F) E (tAV C pa) σ H Q := by
  obtain ⟨env, fp, m, r, h, k⟩ := x
  unfold pCall at h
  split at h
  · rename_i ms q
    split at h
    · rename_i hz
      refine ⟨env, fp, ms, r, q, fun vs H1 fm s x => ?_⟩
      have := RPs.fz ms x hz
      subst this
      exact spF_pure h x fun w H2 f2 s2 y nd frs => k w H2 f2 (s.trans s2) y nd fun a ha => s.free (frs a ha)
    · cases h
  · cases h
/-- o.m(..): the receiver and the arguments frozen -/
def pMeth (c m : Str) (p : SV) (F : SF) (pa : SAV) : SV := fun env => match p env, pa env with
  | some (.ins false c' fs), some ms => if c' = c ∧ fs.lookup m = none ∧ fzs ms = true then okF F (.ins false c' fs :: ms) else none
  | _, _ => none
theorem pmeth_u {C : Kt} {σ : L2.St} {H : Hp} {Q : VK} {c m : Str} {A : Addr} {F : SF} {p : SV} {pa : SAV} {E : L2.St → XK} (hm : C.mg c = some (.ref A)) (x : tU C (pMeth c m p F pa) σ H Q) : tMethS A m (spF C F) E (tV C p) (tAV C pa) σ H Q := by
  obtain ⟨env, fp, mr, r, h, k⟩ := x
  unfold pMeth at h
  split at h
  · rename_i c' fs ms q1 q2
    split at h
    · rename_i hc
      obtain ⟨rfl, hl, hz⟩ := hc
      refine ⟨env, fp, _, r, q1, fun v H1 f1 s1 x1 => ?_⟩
      have e0 := x1.fz _ rfl
      subst e0
      have x1' := x1
      obtain ⟨a, A', dx, ws, g, rfl, hm', a1, r1⟩ := x1
      rw [hm] at hm'
      cases hm'
      refine ⟨a, dx, ws, rfl, a1.rdd, r1.none hl, env, fp, ms, r.st env (Same.st1 s1 _), q2, fun vs H2 fm s x => ?_⟩
      have := RPs.fz ms x hz
      subst this
      exact spF_pure h ⟨_, vs, [], [], rfl, rfl, x1'.st _ (Same.st1 s _), x⟩ fun w H3 f2 s2 y nd frs => k w H3 f2 ((s1.trans s).trans s2) y nd fun a ha => (s1.trans s).free (frs a ha)
    · cases h
  · cases h
/-- o.f, a property -/
def pProp (c : Str) (p : SV) (F : SF) : SV := fun env => match p env with
  | some (.ins false c' fs) => if c' = c then okF F [.ins false c' fs] else none
  | _ => none
theorem pprop_u {C : Kt} {σ : L2.St} {H : Hp} {Q : VK} {c : Str} {A : Addr} {F : SF} {p : SV} (hm : C.mg c = some (.ref A)) (x : tU C (pProp c p F) σ H Q) : tPropS A (spF C F) (tV C p) σ H Q := by
  obtain ⟨env, fp, mr, r, h, k⟩ := x
  unfold pProp at h
  split at h
  · rename_i c' fs q1
    split at h
    · rename_i hc
      subst hc
      refine ⟨env, fp, _, r, q1, fun v H1 f1 s1 x1 => ?_⟩
      have e0 := x1.fz _ rfl
      subst e0
      have x1' := x1
      obtain ⟨a, A', dx, ws, g, rfl, hm', a1, r1⟩ := x1
      rw [hm] at hm'
      cases hm'
      exact ⟨a, dx, ws, rfl, a1.rdd, spF_pure h ⟨_, [], [], [], rfl, rfl, x1', rfl, rfl⟩ fun w H3 f2 s2 y nd frs => k w H3 f2 (s1.trans s2) y nd fun a ha => s1.free (frs a ha)⟩
    · cases h
  · cases h
section
variable {X : Cx} {k j : Nat} {F : SF} {c m x : Str} {q p pos apos : Pos} {e o : Expr} {es : List Expr} {pa : SAV} {po : SV}
theorem U_call (d : Df X.prog X.w X.K X.mg X.base k x F) (hr : Room j X.A) (hk : k ≤ j) (hg : Gl X x) (ha : PA X (e :: es) (tAV (kt X) pa)) (hdb : (x == ("__debug__" : Str)) = false := by decide)
    (he : starEach (e :: es) X.env = (false, eval e X.env) :: starEach es X.env := by rfl) (hpl : (backTo pos (starEach es X.env)).any (·.1) = false := by rfl) :
    PE X (.Call (.Name x p) (e :: es) [] pos) (tU (kt X) (pCall F pa)) := by
  obtain ⟨f, fd, ps, G, hm, hkp, hb⟩ := d.ex
  exact pe_imp (pe_callS G (hr.mono hk) hg hm hkp hb (fun σ => passAt takes0 σ) ha hdb he hpl) fun _ _ _ => pcall_u
theorem U_me {pl : Sem Bool} (d : Mt X.prog X.w X.K X.mg X.base k c m F) (hr : Room j X.A) (hk : k ≤ j) (ho : PE X o (tV (kt X) po)) (ha : PA X (e :: es) (tAV (kt X) pa))
    (hst : starEach (e :: es) X.env = (false, eval e X.env) :: starEach es X.env := by rfl) (hpl : (backTo pos (starEach es X.env)).any (·.1) = false := by rfl)
    (ht : eval (.Call (.Attribute o m apos) (e :: es) [] pos) X.env = (do
      let ov ← eval o X.env
      standAt apos.atName
      let (f, first) ← holding [ov] (getMethod ov m pl)
      callWith pos f first (backTo pos (starEach (e :: es) X.env)) (backToKw pos (keywordEach [] X.env))) := by rfl) :
    PE X (.Call (.Attribute o m apos) (e :: es) [] pos) (tU (kt X) (pMeth c m po F pa)) := by
  obtain ⟨A, f, fd, ps, hm, cl, me, G, hb⟩ := d.ex
  exact pe_imp (pe_methS ho cl me G (hr.mono hk) hb (fun σ => passAt takes0 σ) ha hst hpl ht) fun _ _ _ => pmeth_u hm
theorem U_me0 {pl : Sem Bool} (d : Mt X.prog X.w X.K X.mg X.base k c m F) (hr : Room j X.A) (hk : k ≤ j) (ho : PE X o (tV (kt X) po))
    (ht : eval (.Call (.Attribute o m apos) [] [] pos) X.env = (do
      let ov ← eval o X.env
      standAt apos.atName
      let (f, first) ← holding [ov] (getMethod ov m pl)
      callWith pos f first (backTo pos (starEach [] X.env)) (backToKw pos (keywordEach [] X.env))) := by rfl) :
    PE X (.Call (.Attribute o m apos) [] [] pos) (tU (kt X) (pMeth c m po F vNil)) := by
  obtain ⟨A, f, fd, ps, hm, cl, me, G, hb⟩ := d.ex
  refine pe_imp (pe_methS0 ho cl me G (hr.mono hk) hb (fun σ => passAt takes0 σ) ht) fun σ H Q x => ?_
  refine tV_mono (pmeth_u hm x) fun v H1 ⟨a, dx, fs, e1, e2, e3, y⟩ => ⟨a, dx, fs, e1, e2, e3, vNil_i y⟩
theorem U_pr (d : Pr X.prog X.w X.K X.mg X.base k c m F) (hr : Room j X.A) (hk : k + 1 ≤ j) (ho : PE X o (tV (kt X) po)) (hab : attributeBase o m X.env (eval o X.env) = eval o X.env := by rfl) : PE X (.Attribute o m pos) (tU (kt X) (pProp c po F)) := by
  obtain ⟨A, p, g, fd, ps, hm, cl, pr, G, hb⟩ := d.ex
  exact pe_imp (pe_propS ho cl pr G (hr.mono hk) hb (passes_call takes0 fun _ _ _ _ h => h) hab) fun _ _ _ => pprop_u hm
end

/-! ### what is not reached on the way -/
theorem S_never {X : Cx} {kp : Nat → Bool} {W : WXT} {st : Stmt} : PS X st (tS (kt X) kp W (fun _ => none)) := ⟨fun _ _ _ _ _ _ ⟨_, _, _, _, h⟩ => h.elim⟩
theorem E_never {X : Cx} {W : WXT} {e : Expr} : PE X e (tE (kt X) W (fun _ => none)) := ⟨fun _ _ _ _ _ _ ⟨_, _, _, _, h⟩ => h.elim⟩
theorem U_never {X : Cx} {e : Expr} : PE X e (tU (kt X) (fun _ => none)) := ⟨fun _ _ _ _ _ _ ⟨_, _, _, _, h, _⟩ => nomatch h⟩
end T

set_option Elab.async false
set_option linter.all false
set_option maxRecDepth 100000
set_option maxHeartbeats 4000000
namespace T
open PySem PySem.Spec PyProof.Rows L2

/-! ### two fors, pure -/
/-- the list at D in the making -/
def AccL (C : Kt) (H1 : Hp) (D : Addr) (acc : List T.D) (H : Hp) : Prop := (∀ a o, H1 a = some o → H a = some o) ∧ ∃ vs fx, H D = some (.lst vs) ∧ RPs C H acc vs fx ∧ fx.Nodup ∧ D ∉ fx ∧ (∀ a ∈ fx, H1 a = none)
theorem AccL.same {C : Kt} {H1 H H' : Hp} {D : Addr} {acc : List T.D} (h : AccL C H1 D acc H) (s : Same H H') : AccL C H1 D acc H' := by
  obtain ⟨sm, vs, fx, h1, h2, h3⟩ := h
  exact ⟨fun a o e => s a o (sm a o e), vs, fx, s D _ h1, h2.st acc (Same.st1 s _), h3⟩
theorem AccL.start {C : Kt} {H1 : Hp} {D : Addr} (hD : H1 D = none) : AccL C H1 D [] (upd H1 D (.lst [])) := ⟨fun a o e => by rw [upd_ne (ne_of_none e hD)]; exact e, [], [], upd_same, ⟨rfl, rfl⟩, List.nodup_nil, by simp, noneIn⟩
theorem AccL.push {C : Kt} {H1 H3 H4 : Hp} {D : Addr} {acc : List T.D} {x : T.D} {y : V} {fy : List Addr} (hD : H1 D = none) (h : AccL C H1 D acc H3) (hl : acc.length ≤ 1000000) (s4 : Same H3 H4) (y4 : RP C H4 x y fy) (n4 : fy.Nodup) (fr4 : ∀ a ∈ fy, H3 a = none) :
    ∃ vs, H4 D = some (.lst vs) ∧ vs.length < sizeLine ∧ AccL C H1 D (acc ++ [x]) (upd H4 D (.lst (vs ++ [y]))) := by
  obtain ⟨sm, vs, fx, hd3, hr3, nfx, dfx, ffx⟩ := h
  have hr4 := hr3.st acc (Same.st1 s4 _)
  have sC : ∀ a o, H1 a = some o → H4 a = some o := fun a o e => s4 a o (sm a o e)
  have st5 : ∀ g : List Addr, D ∉ g → St1 H4 (upd H4 D (.lst (vs ++ [y]))) g := fun g hg a o e z => by
    rw [upd_ne]
    · exact e
    · rintro rfl
      rcases z with z | z
      · exact hg z
      · rw [s4 _ _ hd3] at e; cases e; cases z
  have dfy : D ∉ fy := fun z => by rw [fr4 D z] at hd3; cases hd3
  refine ⟨vs, s4 D _ hd3, ?_, fun a o e => by rw [upd_ne (ne_of_none e hD)]; exact sC a o e, vs ++ [y], fx ++ fy, upd_same, ?_, ?_, ?_, ?_⟩
  · rw [← hr4.len, sizeLine_eq]; omega
  · exact RPs.app (hr4.st acc (st5 fx dfx)) ⟨y, [], fy, [], rfl, by simp, y4.st x (st5 fy dfy), rfl, rfl⟩
  · exact fresh_app (H := H3) (hr3.owned acc) nfx n4 fr4
  · rw [List.mem_append]
    rintro (z | z)
    · exact dfx z
    · exact dfy z
  · intro a ha
    rcases List.mem_append.mp ha with z | z
    · exact ffx a z
    · cases q : H1 a with
      | none => rfl
      | some o => rw [← fr4 a z]; exact (sm a o q).symm ▸ rfl
theorem AccL.done {C : Kt} {H H1 H2 : Hp} {D : Addr} {acc : List T.D} {Q : VK} (hD : H1 D = none) (s1 : Same H H1) (h : AccL C H1 D acc H2) (k : ∀ w H' fm, Same H H' → RP C H' (.lst true acc) w fm → fm.Nodup → (∀ a ∈ fm, H a = none) → Q w H') : Q (.ref D) H2 := by
  obtain ⟨sm, vs, fx, hd, hr, nfx, dfx, ffx⟩ := h
  refine k _ H2 (D :: fx) (s1.trans sm) ⟨D, vs, fx, rfl, ⟨hd, rfl⟩, hr⟩ (List.nodup_cons.mpr ⟨dfx, nfx⟩) fun a ha => ?_
  rcases List.mem_cons.mp ha with rfl | ha
  · exact s1.free hD
  · exact s1.free (ffx a ha)
def pIn (vs1 : List Nat) (it1 : SAV) (b1 : Bd) (t1 : STu) (el : SV) (env : Env) : Option (List T.D) := match it1 env with
  | some ns => pLcL b1 t1 el (wipeE vs1 env) ns
  | none => none
def pLc2L (b : Bd) (t : STu) (vs1 : List Nat) (it1 : SAV) (b1 : Bd) (t1 : STu) (el : SV) (env : Env) : List T.D → Option (List T.D)
  | [] => some []
  | m :: r => match b m env with
    | some e1 => match t e1 with
      | some true => match pIn vs1 it1 b1 t1 el e1, pLc2L b t vs1 it1 b1 t1 el env r with
        | some xs, some ys => some (xs ++ ys)
        | _, _ => none
      | some false => pLc2L b t vs1 it1 b1 t1 el env r
      | none => none
    | none => none
def pLc2 (own vs1 : List Nat) (it : SAV) (b : Bd) (t : STu) (it1 : SAV) (b1 : Bd) (t1 : STu) (el : SV) : SV := fun env => match it env with
  | some ms => match pLc2L b t vs1 it1 b1 t1 el (wipeE own env) ms with
    | some xs => if xs.length ≤ 100000 then some (.lst true xs) else none
    | none => none
  | none => none
theorem kp_wipe1 {own : List Nat} {σ σ2 : L2.St} (k : Kp (kpOwn own) (wipe σ own) σ2) : wipe σ2 own = wipe σ own := kp_wipe k
theorem lc2_u {C : Kt} {σ : L2.St} {H : Hp} {Q : VK} {own vs1 : List Nat} {it it1 : SAV} {b b1 : Bd} {t t1 : STu} {el : SV} (x : tU C (pLc2 own vs1 it b t it1 b1 t1 el) σ H Q) :
    tLc2 (tIV C it) (tGU C (kpOwn own) b) (tTU C t) (tIU C it1) (tGU C (kpOwn vs1) b1) (tTU C t1) (tU C el) own vs1 σ H Q := by
  obtain ⟨env, fp, m, r, h, k⟩ := x
  unfold pLc2 at h
  cases q : it env with
  | none => rw [q] at h; cases h
  | some ms =>
    rw [q] at h
    dsimp only at h
    cases q2 : pLc2L b t vs1 it1 b1 t1 el (wipeE own env) ms with
    | none => rw [q2] at h; cases h
    | some tot =>
      rw [q2] at h
      dsimp only at h
      split at h
      · rename_i hlen
        cases h
        refine ⟨env, fp, ms, r, q, fun J H1 ft its s1 D hD => ?_⟩
        refine ⟨fun i m H' => m = ms.length - i ∧ i ≤ ms.length ∧ ∃ acc rest, AccL C H1 D acc H' ∧ pLc2L b t vs1 it1 b1 t1 el (wipeE own env) (ms.drop i) = some rest ∧ tot = acc ++ rest,
          ⟨ms.length, by simp, Nat.zero_le _, [], tot, AccL.start hD, by simpa using q2, rfl⟩, ?_⟩
        rintro i m H' ⟨rfl, hi, acc, rest, hA, hrest, htot⟩
        have s01 : Same H1 H' := hA.1
        have st' : St1 H1 H' ft := fun a o e _ => s01 a o e
        by_cases hlt : i < ms.length
        · right
          have e1 : ms[i]? = some ms[i] := List.getElem?_eq_getElem hlt
          obtain ⟨_, go⟩ := its i H' st'
          obtain ⟨go, yl⟩ := go _ e1
          rw [List.drop_eq_getElem_cons hlt] at hrest
          unfold pLc2L at hrest
          cases q3 : b ms[i] (wipeE own env) with
          | none => rw [q3] at hrest; cases hrest
          | some env2 =>
            rw [q3] at hrest
            dsimp only at hrest
            refine ⟨go, fun H2 => i + 1 ≤ ms.length ∧ ∃ acc rest, AccL C H1 D acc H2 ∧ pLc2L b t vs1 it1 b1 t1 el (wipeE own env) (ms.drop (i + 1)) = some rest ∧ tot = acc ++ rest, fun H2 w => ⟨ms.length - (i + 1), by omega, rfl, w⟩, fun x H2 y => ?_⟩
            obtain ⟨s2, y2⟩ := yl x H2 y
            have sA : Same H1 H2 := s01.trans s2
            obtain ⟨f, rw1, sub⟩ := er_wipeE (r.st env (Same.st1 (s1.trans sA) _)) own
            refine ⟨wipeE own env, f, ms[i], env2, y2, rw1, q3, fun σ2 f2 r2 z2 k2 => ⟨kp_wipe k2, ?_⟩⟩
            cases q4 : t env2 with
            | none => rw [q4] at hrest; cases hrest
            | some bb =>
              rw [q4] at hrest
              refine ⟨env2, f2, bb, r2, q4, fun H3 s3 => ?_⟩
              have hA3 := (hA.same s2).same s3
              cases bb with
              | false => exact iteF ⟨hlt, acc, rest, hA3, hrest, htot⟩
              | true =>
                refine iteT ?_
                dsimp only at hrest
                cases q56 : pIn vs1 it1 b1 t1 el env2 with
                | none => rw [q56] at hrest; cases hrest
                | some xs =>
                  rw [q56] at hrest
                  have q57 := q56
                  unfold pIn at q57
                  split at q57
                  · rename_i ns q5
                    have q6 := q57
                    cases q7 : pLc2L b t vs1 it1 b1 t1 el (wipeE own env) (ms.drop (i + 1)) with
                    | none => rw [q7] at hrest; cases hrest
                    | some ys =>
                      rw [q7] at hrest
                      cases hrest
                      refine ⟨env2, f2, ns, r2.st env2 (Same.st1 s3 _), q5, fun J1 H4 ft1 its1 _ _ nft1 s4 => ?_⟩
                      have hA4 := hA3.same s4
                      have dft : D ∉ ft1 := fun z => by
                        obtain ⟨_, vs, fx, e, _⟩ := hA3
                        rw [nft1 D z] at e; cases e
                      refine ⟨fun j m H5 => m = ns.length - j ∧ j ≤ ns.length ∧ (∀ a o, H4 a = some o → (a ≠ D → H5 a = some o)) ∧ ∃ ac re, AccL C H1 D (acc ++ ac) H5 ∧ pLcL b1 t1 el (wipeE vs1 env2) (ns.drop j) = some re ∧ xs = ac ++ re,
                        ⟨ns.length, by simp, Nat.zero_le _, fun a o e _ => e, [], xs, by simpa using hA4, by simpa using q6, rfl⟩, ?_⟩
                      rintro j m H5 ⟨rfl, hj, sm5, ac, re, hA5, hre, hxs⟩
                      have st1' : St1 H4 H5 ft1 := fun a o e z => sm5 a o e fun hz => by
                        subst hz
                        rcases z with z | z
                        · exact dft z
                        · obtain ⟨_, vs, fx, e2, _⟩ := hA4
                          rw [e2] at e; cases e; cases z
                      by_cases hlt1 : j < ns.length
                      · right
                        have e2 : ns[j]? = some ns[j] := List.getElem?_eq_getElem hlt1
                        obtain ⟨_, go1⟩ := its1 j H5 st1'
                        obtain ⟨go1, yl1⟩ := go1 _ e2
                        rw [List.drop_eq_getElem_cons hlt1] at hre
                        unfold pLcL at hre
                        cases q8 : b1 ns[j] (wipeE vs1 env2) with
                        | none => rw [q8] at hre; cases hre
                        | some env3 =>
                          rw [q8] at hre
                          dsimp only at hre
                          refine ⟨go1, fun H6 => j + 1 ≤ ns.length ∧ (∀ a o, H4 a = some o → (a ≠ D → H6 a = some o)) ∧ ∃ ac re, AccL C H1 D (acc ++ ac) H6 ∧ pLcL b1 t1 el (wipeE vs1 env2) (ns.drop (j + 1)) = some re ∧ xs = ac ++ re, fun H6 w => ⟨ns.length - (j + 1), by omega, rfl, w⟩, fun x5 H6 y5 => ?_⟩
                          obtain ⟨s6, y6⟩ := yl1 x5 H6 y5
                          have hA6 := hA5.same s6
                          have r6 : ER C H6 env2 σ2 f2 := by
                            have df : D ∉ f2 := fun z => by
                              have z1 := sub.subset (z2 D z)
                              obtain ⟨o, e, _⟩ := (r.owned env) D z1
                              rw [s1 D o e] at hD; cases hD
                            exact (r2.st env2 (Same.st1 (s3.trans s4) _)).st env2 fun a o e z => s6 a o (sm5 a o e fun hz => by
                              subst hz
                              rcases z with z | z
                              · exact df z
                              · obtain ⟨_, vs, fx, e3, _⟩ := hA4
                                rw [e3] at e; cases e; cases z)
                          obtain ⟨f6, rw6, sub6⟩ := er_wipeE r6 vs1
                          refine ⟨wipeE vs1 env2, f6, ns[j], env3, y6, rw6, q8, fun σ3 f3 r3 _ k3 => ⟨kp_wipe k3, ?_⟩⟩
                          cases q9 : t1 env3 with
                          | none => rw [q9] at hre; cases hre
                          | some bb1 =>
                            rw [q9] at hre
                            refine ⟨env3, f3, bb1, r3, q9, fun H7 s7 => ?_⟩
                            have hA7 := hA6.same s7
                            have sm7 : ∀ a o, H4 a = some o → (a ≠ D → H7 a = some o) := fun a o e ne => s7 a o (s6 a o (sm5 a o e ne))
                            cases bb1 with
                            | false => exact iteF ⟨hlt1, sm7, ac, re, hA7, hre, hxs⟩
                            | true =>
                              refine iteT ?_
                              dsimp only at hre
                              cases qa : el env3 with
                              | none => rw [qa] at hre; cases hre
                              | some xm =>
                                cases qb : pLcL b1 t1 el (wipeE vs1 env2) (ns.drop (j + 1)) with
                                | none => rw [qa, qb] at hre; cases hre
                                | some re' =>
                                  rw [qa, qb] at hre
                                  cases hre
                                  refine ⟨env3, f3, xm, r3.st env3 (Same.st1 s7 _), qa, fun yv H8 fy s8 y8 n8 fr8 => ?_⟩
                                  have hl2 : (acc ++ ac).length ≤ 1000000 := by
                                    have e5 : (acc ++ (xs ++ ys)).length ≤ 100000 := by rw [← htot]; exact hlen
                                    rw [hxs] at e5
                                    simp only [List.length_append] at e5 ⊢
                                    omega
                                  obtain ⟨vs, e9, e10, hA9⟩ := AccL.push hD hA7 hl2 s8 y8 n8 fr8
                                  refine ⟨vs, e9, e10, hlt1, fun a o e ne => by rw [upd_ne ne]; exact s8 a o (sm7 a o e ne), ac ++ [xm], re', ?_, rfl, by simp [hxs]⟩
                                  rw [List.append_assoc] at hA9
                                  exact hA9
                      · left
                        have e : j = ns.length := by omega
                        subst e
                        rw [List.drop_length] at hre
                        cases hre
                        rw [List.append_nil] at hxs
                        subst hxs
                        exact ⟨(its1 _ H5 st1').1 (Nat.le_refl _), hlt, acc ++ xs, ys, hA5, rfl, by rw [htot, List.append_assoc]⟩
                  · cases q57
        · left
          have e : i = ms.length := by omega
          subst e
          rw [List.drop_length] at hrest
          cases hrest
          rw [List.append_nil] at htot
          subst htot
          exact ⟨(its _ H' st').1 (Nat.le_refl _), hA.done hD s1 k⟩
      · cases h
end T

set_option Elab.async false
set_option linter.all false
set_option maxRecDepth 100000
set_option maxHeartbeats 4000000
namespace T
open PySem PySem.Spec PyProof.Rows L2

theorem d_dictSetR {X : Cx} {pins : List (Addr × Obj)} {σ : L2.St} {H H' : Hp} {s : Shared} {a : Addr} {y v : V} {u r : Value} {E : Value → Shared → Prop} {Q : Unit → Shared → Prop} (hu : X.A.units + 1 < cLine) (I : Inv X pins σ H s) (g : DPutR H a y v H') (ry : RelV y u) (rv : RelV v r)
    (h : ∀ s', Inv X pins σ H' s' → Q () s') : wpAny (model X.prog X.w) X.A (dictSet a u r) Q E s := by
  have put : ∀ {H : Hp} {H' : Hp}, Inv X pins σ H s → DPut H a y v H' → (∀ s', Inv X pins σ H' s' → Q () s') → wpAny (model X.prog X.w) X.A (dictSet a u r) Q E s := fun {H H'} I g h => by
    rcases g with ⟨kvs, k, e, ey, l, eH⟩ | ⟨kvs, k, b, e, ey, eb, l, eH⟩
    · subst ey eH
      exact d_dictSet I e l ry rv h
    · subst ey eH
      cases (show u = Value.ref b from ry)
      obtain ⟨z, hd, xs, rel, dd⟩ := dt_of I.hok e
      have hz : xs.length ≤ sizeLine := by rw [← Paired.length rel]; exact z
      have hl : (putK kvs k v).length ≤ sizeLine := by have := length_putK kvs k v; omega
      refine wpAny_dictSet_heap (hsz := hz) (show X.A.units < cLine by omega) (key_of I.hok eb) dd fun h' dd' hs => ?_
      obtain ⟨q, es, ep, hq, h2, h3, h4, _, h5⟩ := dd'
      have I2 := d_write (t' := s.toks) I (by rw [e]; exact True.intro) hs ⟨q, hq⟩ (ob := .dT (putK kvs k v)) ⟨hl, hd, _, (rel.put k eb rv).keeps fun c ys ec => by rw [upd_ne (ne_of ec e (fun z => nomatch z))]; exact ec, q, es, ep, hq, h2, h3, h4, h5⟩
      exact h _ (I2.tok _)
  rcases g with g | ⟨e, k, b, rfl, hb, rfl⟩ | ⟨e, k, rfl, rfl⟩
  · exact put I g h
  · have hba : b ≠ a := fun z => by rw [z, e] at hb; cases hb
    exact put (Inv.reK I e) (DPut.t (kvs := []) upd_same (by rw [upd_ne hba]; exact hb) (by rw [sizeLine_eq]; decide)) fun s4 I4 => h s4 (by rw [upd_upd] at I4; exact I4)
  · exact put (Inv.reT I e) (DPut.k (kvs := []) upd_same (by rw [sizeLine_eq]; decide)) fun s4 I4 => h s4 (by rw [upd_upd] at I4; exact I4)
section
variable {X : Cx}
/-- a dict by a comprehension, its keys of either kind -/
def tDcR (wi : TI) (g : TG) (tt : TT) (tk tv : TE) (vs : List Nat) : TE := fun σ H Q => wi σ H fun J H1 => ∀ D, H1 D = none → ∃ W : Nat → Nat → Hp → Prop, (∃ m, W 0 m (upd H1 D (.dK []))) ∧ ∀ i m H, W i m H →
  (J.stop i H ∧ Q (.ref D) H) ∨ (J.go i H ∧ ∃ Nx : Hp → Prop, (∀ H', Nx H' → ∃ m', m' < m ∧ W (i + 1) m' H') ∧ ∀ x H', J.yld i H x H' → g x (wipe σ vs) H' fun σ2 H2 => wipe σ2 vs = wipe σ vs ∧ tt σ2 H2 fun b H3 =>
    if b = true then tk σ2 H3 fun y H4 => tv σ2 H4 fun z H5 => ∃ H6, DPutR H5 D y z H6 ∧ Nx H6 else Nx H3)
theorem dcR_core {pins : List (Addr × Obj)} {s : Shared} {σ : L2.St} {H : Hp} {Q : VK} {kx vx tg iter : Expr} {ifs : List Expr} {scope : Scope} {own : List (Str × Nat)} {pos pos' : Pos} {wi : TI} {g : TG} {tt : TT} {tk tv : TE} {use : Option (Value → Sem Unit)} {Qf : Value → Shared → Prop}
    (hu : X.A.units + 1 < cLine) (hc : X.calm = true) (hN : X.N.Nodup) (I : Inv X pins σ H s) (hi : PI X tg iter wi) (ok : BlkOk X.N X.env.scope scope own)
    (hg : ∀ (s : Shared) (H : Hp) (C : Addr) (cl : List (Str × Addr)) (fp : List Addr), PG (X.blk s H scope (compEnvC scope cl C X.env) fp) tg g) (ht : ∀ (s : Shared) (H : Hp) (C : Addr) (cl : List (Str × Addr)) (fp : List Addr), PTs (X.blk s H scope (compEnvC scope cl C X.env) fp) ifs tt)
    (hk : ∀ (s : Shared) (H : Hp) (C : Addr) (cl : List (Str × Addr)) (fp : List Addr), PE (X.blk s H scope (compEnvC scope cl C X.env) fp) kx tk)
    (he : ∀ (s : Shared) (H : Hp) (C : Addr) (cl : List (Str × Addr)) (fp : List Addr), PE (X.blk s H scope (compEnvC scope cl C X.env) fp) vx tv) (hs : ∀ x, foldedSetIterable iter X.env x = pure x)
    (h : tDcR wi g tt tk tv (own.map (·.2)) σ H Q)
    (hRR : ∀ D C s' m H', Inv X pins σ H' s' → Q (.ref D) H' → s'.heap.Ns C m → FpOk X pins H' C → compPost (model X.prog X.w) X.A X.xe use Qf (.ref D) C (.ok .next) s') :
    wpAny (model X.prog X.w) X.A (comprehension (.DictComp kx vx [⟨tg, iter, ifs, 0⟩] scope pos) scope X.env pos' newDict false (eval iter X.env) use) Qf X.xe s := by
  have hfree : ∀ y ∈ scope.names, y.2 = .free → ∃ c, X.env.cells.lookup y.1 = some c := fun y hy e => by
    rcases ok.free y hy e with k | k
    · exact I.ok.has _ (.inl k)
    · exact I.ok.has _ (.inr k)
  refine wpAny_comprehension_free (use := use) rfl hs (closure_ok hfree) ok.kind (fun y hy e => by rw [ok.uniq y hy, e])
    (thn (hi.run pins s σ H _ I h) fun xv s1 hx => thn hx fun itv s2 h2 => ?_)
  obtain ⟨it, fp, tn, J, H2, e, I2, T, st2, f2, q⟩ := h2
  subst e
  refine wpAny_newObj_type (newEnv_comp ?_)
  generalize hD : s2.heap.objs.size = D
  have hDn : H2 D = none := I2.hok.fresh (Nat.le_of_eq hD)
  obtain ⟨W, ⟨m0, w0⟩, turn⟩ := q D hDn
  -- the new list
  generalize hs3 : ({ s2 with heap := s2.heap.push { cls := .type "dict", data := .dict #[] } } : Shared) = s3
  have I3 : Inv X pins σ (upd H2 D (.dK [])) s3 := by
    rw [← hs3]
    refine I2.laid (t' := s2.toks) (fun b o e => Heap.get?_push_of_some _ e) (Nat.le_of_eq hD) ?_
    rw [← hD]
    exact dk_empty s2.heap I2.big
  have h3 : s3.heap = s2.heap.push { cls := .type "dict", data := .dict #[] } := by rw [← hs3]
  have sz : ∀ b ∈ fp, b < s2.heap.objs.size := fun b hb => by
    obtain ⟨o, e, _⟩ := T.obj _ _ st2 b hb
    exact Heap.lt_size e
  have f3 : ∀ b ∈ fp, FpOk X pins (upd H2 D (.dK [])) b ∧ b < s3.heap.objs.size := fun b hb => by
    have hlt := sz b hb
    refine ⟨⟨?_, (f2 b hb).2⟩, by rw [h3, Heap.size_push]; exact Nat.lt_succ_of_lt hlt⟩
    rw [upd_ne (by rw [← hD]; exact Nat.ne_of_lt hlt)]
    exact (f2 b hb).1
  have st3 : tn 0 s3.heap := T.keep _ _ _ st2 fun b _ o e => by rw [h3]; exact Heap.get?_push_of_some _ e
  have I4 := block_start I3 ok hN f3
  have pg := hg s3 (upd H2 D (.dK [])) s3.heap.objs.size (cellsFrom (s3.heap.objs.size + 1) scope.names (cloFrom X.env.cells scope.names [])) fp
  have pt := ht s3 (upd H2 D (.dK [])) s3.heap.objs.size (cellsFrom (s3.heap.objs.size + 1) scope.names (cloFrom X.env.cells scope.names [])) fp
  have pk := hk s3 (upd H2 D (.dK [])) s3.heap.objs.size (cellsFrom (s3.heap.objs.size + 1) scope.names (cloFrom X.env.cells scope.names [])) fp
  have pe := he s3 (upd H2 D (.dK [])) s3.heap.objs.size (cellsFrom (s3.heap.objs.size + 1) scope.names (cloFrom X.env.cells scope.names [])) fp
  show codeAny _ _ (.compStart (.DictComp kx vx [⟨tg, iter, ifs, 0⟩] scope pos) 0 (.ref it) (.ref D) (compEnvC scope (cellsFrom (s3.heap.objs.size + 1) scope.names (cloFrom X.env.cells scope.names [])) s3.heap.objs.size X.env)) (compPost (model X.prog X.w) X.A X.xe use Qf (.ref D) s3.heap.objs.size) { s3 with heap := pushCells (s3.heap.push { cls := .type "dict", data := .dict #[] }) scope.names }
  have nfp : ∀ b ∈ fp, (upd H2 D (.dK [])) b = none := fun b hb => (f3 b hb).1.1
  generalize hce : compEnvC scope (cellsFrom (s3.heap.objs.size + 1) scope.names (cloFrom X.env.cells scope.names [])) s3.heap.objs.size X.env = ce at I4 pg pt pk pe ⊢
  have cL : ce.locals = s3.heap.objs.size := by subst hce; rfl
  generalize hH3 : upd H2 D (.dK []) = H3 at I3 I4 pg pt pk pe w0 nfp f3
  generalize hs4 : ({ s3 with heap := pushCells (s3.heap.push { cls := .type "dict", data := .dict #[] }) scope.names } : Shared) = s4 at I4 ⊢
  have st4 : tn 0 s4.heap := T.keep _ _ _ st3 fun b _ o e => by rw [← hs4]; exact pushCells_keeps _ _ _ _ (Heap.get?_push_of_some _ e)
  have stat : ∀ {σ' : L2.St} {H' : Hp} {s' : Shared}, Inv (X.blk s3 H3 scope ce fp) [] σ' H' s' → (∀ b ∈ fp, H' b = none) → ∀ b ∈ fp, FpOk (X.blk s3 H3 scope ce fp) [] H' b := fun {σ' H' s'} I' hn b hb =>
    ⟨hn b hb, (I'.ok.exf b hb).1, I'.ok.exfs b hb, .inl hb, fun x c e => (I'.ok.exf b hb).2 x c e, fun p hp => absurd (show p ∈ ([] : List (Addr × Obj)) ++ [] from hp) (by simp)⟩
  have loop : codeAny (model X.prog X.w) X.A (.compLoop (.DictComp kx vx [⟨tg, iter, ifs, 0⟩] scope pos) 0 (.ref it) (.ref D) ce) (compPost (model X.prog X.w) X.A X.xe use Qf (.ref D) s3.heap.objs.size) s4 := by
    refine compLoop_anyD (fun n s' => ∃ i H', Inv (X.blk s3 H3 scope ce fp) [] (wipe σ (own.map (·.2))) H' s' ∧ tn i s'.heap ∧ (∀ b ∈ fp, H' b = none) ∧ W i n H') ?_ m0 ⟨0, H3, I4, st4, nfp, w0⟩
    rintro n s5 ⟨i, H5, I5, st5, n5, w5⟩
    rcases turn i n H5 w5 with ⟨stop, qq⟩ | ⟨go, Nx, hNx, step⟩
    · have td := T.done (X.blk s3 H3 scope ce fp) rfl rfl rfl hc i [] s5 _ H5 (fun _ _ => False) I5 (stat I5 n5) st5 stop
      refine thnF td fun r s6 ⟨hr, I6⟩ => ?_
      subst hr
      -- back in the def's context
      have I7 : Inv X pins σ H5 s6 := I3.call' (ch := fp) I6.os I6.base I6.hok I6.bare fun b hb => ⟨(f3 b hb).1.2.2.2.1, (f3 b hb).1.2.1, (f3 b hb).1.2.2.2.2.1, (f3 b hb).1.2.2.2.2.2⟩
      have nC : H5 s3.heap.objs.size = none := by
        have z : H5 ce.locals = none := I6.free
        rw [cL] at z
        exact z
      obtain ⟨m, hn, _⟩ := I6.loc
      have hn : s6.heap.Ns ce.locals m := hn
      rw [cL] at hn
      exact hRR D s3.heap.objs.size s6 m H5 I7 qq hn (I3.fpOk (Nat.le_refl _) nC)
    · have ti := T.item (X.blk s3 H3 scope ce fp) rfl rfl rfl hc i [] s5 _ H5 (fun _ _ => False) I5 (stat I5 n5) st5 go
      refine thnF ti fun r s6 ⟨u, hr, h6⟩ => ?_
      subst hr
      refine thnF h6 fun _ s7 ⟨x, H7, I7, r7, y7, st7, n7⟩ => ?_
      have I7' := I7.pinned (stat I7 n7) (T.obj _ _ st7)
      refine thnF (pg.run _ s7 _ H7 x u _ I7' r7 (step x H7 y7)) fun _ s8 ⟨σ8, H8, I8, hw8, q8⟩ => ?_
      refine thnF (pt.run _ s8 σ8 H8 _ I8 q8) fun b s9 ⟨H9, I9, q9⟩ => ?_
      -- the turn's end
      have fin : ∀ {s' : Shared} {H' : Hp}, Inv (X.blk s3 H3 scope ce fp) ([] ++ pinsAt fp s7.heap) σ8 H' s' → Nx H' → ∃ m, m < n ∧ ∃ i H', Inv (X.blk s3 H3 scope ce fp) [] (wipe σ (own.map (·.2))) H' s' ∧ tn i s'.heap ∧ (∀ b ∈ fp, H' b = none) ∧ W i m H' := fun {s' H'} I' nx => by
        obtain ⟨m', hm, w'⟩ := hNx H' nx
        have pin' : ∀ b ∈ fp, ∀ o, s7.heap.get? b = some o → s'.heap.get? b = some o ∧ H' b = none := fun b hb o e =>
          let z := I'.pin (b, o) (List.mem_append_right _ (List.mem_append_right _ (mem_pinsAt hb e)))
          ⟨z.1, z.2.1⟩
        have hl : (wipe σ (own.map (·.2))).length = σ8.length := by rw [← hw8, wipe_length]
        refine ⟨m', hm, i + 1, H', (I'.unpinned (pins := [])).weak hl (fun j v e => ?_), T.keep _ _ _ st7 fun b hb o e => (pin' b hb o e).1, fun b hb => ?_, w'⟩
        · rw [← hw8] at e
          exact (wipe_some e).1
        · obtain ⟨o, e, _⟩ := T.obj _ _ st7 b hb
          exact (pin' b hb o e).2
      cases b with
      | false =>
        simp only [Bool.false_eq_true, if_false] at q9 ⊢
        exact fin I9 q9
      | true =>
        simp only [if_true] at q9 ⊢
        refine thnF (pk.run _ s9 σ8 H9 _ I9 q9) fun z s10 ⟨yk, H10, I10, r10, q10⟩ => ?_
        refine thnF (pe.run _ s10 σ8 H10 _ I10 q10) fun z2 s11 ⟨yv, H11, I11, r11, H12, dp, nx⟩ => ?_
        exact d_dictSetR (X := X.blk s3 H3 scope ce fp) hu I11 dp r10 r11 fun s12 I12 => fin I12 nx
  exact codeAny_compStart_dict loop (T.self X.A 0 _ _ _ st4 loop)
/-- as a value -/
theorem pe_dcR {kx vx tg iter : Expr} {ifs : List Expr} {scope : Scope} {own : List (Str × Nat)} {pos : Pos} {wi : TI} {g : TG} {tt : TT} {tk tv : TE} (hu : X.A.units + 1 < cLine) (hc : X.calm = true) (hN : X.N.Nodup) (hi : PI X tg iter wi) (ok : BlkOk X.N X.env.scope scope own)
    (hg : ∀ (s : Shared) (H : Hp) (C : Addr) (cl : List (Str × Addr)) (fp : List Addr), PG (X.blk s H scope (compEnvC scope cl C X.env) fp) tg g) (ht : ∀ (s : Shared) (H : Hp) (C : Addr) (cl : List (Str × Addr)) (fp : List Addr), PTs (X.blk s H scope (compEnvC scope cl C X.env) fp) ifs tt)
    (hk : ∀ (s : Shared) (H : Hp) (C : Addr) (cl : List (Str × Addr)) (fp : List Addr), PE (X.blk s H scope (compEnvC scope cl C X.env) fp) kx tk)
    (he : ∀ (s : Shared) (H : Hp) (C : Addr) (cl : List (Str × Addr)) (fp : List Addr), PE (X.blk s H scope (compEnvC scope cl C X.env) fp) vx tv) (hs : ∀ x, foldedSetIterable iter X.env x = pure x := by intro _; rfl) :
    PE X (.DictComp kx vx [⟨tg, iter, ifs, 0⟩] scope pos) (tDcR wi g tt tk tv (own.map (·.2))) := by
  refine ⟨fun pins s σ H Q I h => ?_⟩
  rw [arm_eval_DictComp]
  refine dcR_core hu hc hN I hi ok hg ht hk he hs h fun D C s' m H' I' q hn f => ⟨m, hn, fun h'' sb => ?_⟩
  obtain ⟨f0, f1, f2, f3, f4, f5⟩ := f
  exact ⟨.ref D, H', I'.turned (t' := s'.toks) (fun b o hb e => (sb.2 b hb).trans e) f0 f1 f3 f4 f5, rfl, q⟩
end
/-! ### its meaning, keys and values pure -/
def pDcL (b : Bd) (t : STu) (ke ve : SV) (env : Env) : List T.D → List (T.D × T.D) → Option (List (T.D × T.D))
  | [], acc => some acc
  | m :: r, acc => match b m env with
    | some e1 => match t e1 with
      | some true => match ke e1, ve e1 with
        | some k, some x => match dPutN acc k x with
          | some acc' => pDcL b t ke ve env r acc'
          | none => none
        | _, _ => none
      | some false => pDcL b t ke ve env r acc
      | none => none
    | none => none
def pDc (own : List Nat) (it : SAV) (b : Bd) (t : STu) (ke ve : SV) : SV := fun env => match it env with
  | some ms => (pDcL b t ke ve (wipeE own env) ms []).map (.dct true)
  | none => none
/-- the dict at D in the making -/
def AccD (C : Kt) (H1 : Hp) (D : Addr) (acc : List (T.D × T.D)) (H : Hp) : Prop := (∀ a o, H1 a = some o → H a = some o) ∧ ∃ fx, RP C H (.dct true acc) (.ref D) (D :: fx) ∧ fx.Nodup ∧ D ∉ fx ∧ (∀ a ∈ fx, H1 a = none)
theorem AccD.same {C : Kt} {H1 H H' : Hp} {D : Addr} {acc : List (T.D × T.D)} (h : AccD C H1 D acc H) (s : Same H H') : AccD C H1 D acc H' := by
  obtain ⟨sm, fx, h1, h2⟩ := h
  exact ⟨fun a o e => s a o (sm a o e), fx, h1.st _ (Same.st1 s _), h2⟩
theorem dc_u {C : Kt} {σ : L2.St} {H : Hp} {Q : VK} {own : List Nat} {it : SAV} {b : Bd} {t : STu} {ke ve : SV} (x : tU C (pDc own it b t ke ve) σ H Q) : tDcR (tIV C it) (tGU C (kpOwn own) b) (tTU C t) (tU C ke) (tU C ve) own σ H Q := by
  obtain ⟨env, fp, m, r, h, k⟩ := x
  unfold pDc at h
  cases q : it env with
  | none => rw [q] at h; cases h
  | some ms =>
    rw [q] at h
    dsimp only at h
    cases q2 : pDcL b t ke ve (wipeE own env) ms [] with
    | none => rw [q2] at h; cases h
    | some tot =>
      rw [q2] at h
      cases h
      refine ⟨env, fp, ms, r, q, fun J H1 ft its s1 D hD => ?_⟩
      refine ⟨fun i m H' => m = ms.length - i ∧ i ≤ ms.length ∧ ∃ acc, AccD C H1 D acc H' ∧ pDcL b t ke ve (wipeE own env) (ms.drop i) acc = some tot,
        ⟨ms.length, by simp, Nat.zero_le _, [], ⟨fun a o e => by rw [upd_ne (ne_of_none e hD)]; exact e, [], ⟨D, [], rfl, .inl ⟨[], ⟨upd_same, rfl⟩, rfl, rfl⟩⟩, List.nodup_nil, by simp, noneIn⟩, by simpa using q2⟩, ?_⟩
      rintro i m H' ⟨rfl, hi, acc, hA, hrest⟩
      have s01 : Same H1 H' := hA.1
      have st' : St1 H1 H' ft := fun a o e _ => s01 a o e
      by_cases hlt : i < ms.length
      · right
        have e1 : ms[i]? = some ms[i] := List.getElem?_eq_getElem hlt
        obtain ⟨_, go⟩ := its i H' st'
        obtain ⟨go, yl⟩ := go _ e1
        rw [List.drop_eq_getElem_cons hlt] at hrest
        unfold pDcL at hrest
        cases q3 : b ms[i] (wipeE own env) with
        | none => rw [q3] at hrest; cases hrest
        | some env2 =>
          rw [q3] at hrest
          dsimp only at hrest
          refine ⟨go, fun H2 => i + 1 ≤ ms.length ∧ ∃ acc, AccD C H1 D acc H2 ∧ pDcL b t ke ve (wipeE own env) (ms.drop (i + 1)) acc = some tot, fun H2 w => ⟨ms.length - (i + 1), by omega, rfl, w⟩, fun x H2 y => ?_⟩
          obtain ⟨s2, y2⟩ := yl x H2 y
          have sA : Same H1 H2 := s01.trans s2
          obtain ⟨f, rw1, sub⟩ := er_wipeE (r.st env (Same.st1 (s1.trans sA) _)) own
          refine ⟨wipeE own env, f, ms[i], env2, y2, rw1, q3, fun σ2 f2 r2 _ k2 => ⟨kp_wipe k2, ?_⟩⟩
          cases q4 : t env2 with
          | none => rw [q4] at hrest; cases hrest
          | some bb =>
            rw [q4] at hrest
            refine ⟨env2, f2, bb, r2, q4, fun H3 s3 => ?_⟩
            have hA3 := (hA.same s2).same s3
            cases bb with
            | false => exact iteF ⟨hlt, acc, hA3, hrest⟩
            | true =>
              refine iteT ?_
              dsimp only at hrest
              cases q5 : ke env2 with
              | none => rw [q5] at hrest; cases hrest
              | some kk =>
                cases q6 : ve env2 with
                | none => rw [q5, q6] at hrest; cases hrest
                | some xx =>
                  rw [q5, q6] at hrest
                  dsimp only at hrest
                  cases q7 : dPutN acc kk xx with
                  | none => rw [q7] at hrest; cases hrest
                  | some acc' =>
                    rw [q7] at hrest
                    refine ⟨env2, f2, kk, r2.st env2 (Same.st1 s3 _), q5, fun yv H4 fk s4 yk nk frk => ⟨env2, f2, xx, r2.st env2 (Same.st1 (s3.trans s4) _), q6, fun xv H5 fy s5 y5 n5 fr5 => ?_⟩⟩
                    obtain ⟨sm, fx, rd, nfx, dfx, ffx⟩ := hA3
                    have ow := rd.owned _
                    have nD : (D :: fx).Nodup := List.nodup_cons.mpr ⟨dfx, nfx⟩
                    have nd : ((D :: fx) ++ fy).Nodup := List.nodup_append.mpr ⟨nD, n5, fun a ha c hc => by
                      rintro rfl
                      obtain ⟨o, e, _⟩ := ow a ha
                      have e4 := s4 a o e
                      rw [fr5 a hc] at e4; cases e4⟩
                    obtain ⟨a, g, ob, ea, ef, dp, ⟨o, eo, fo⟩, rd'⟩ := dput_core q7 (rd.st _ (Same.st1 (s4.trans s5) _)) (yk.st kk (Same.st1 s5 _)) y5 nd
                    cases ea
                    cases ef
                    refine ⟨_, dp, hlt, acc', ⟨fun c o e => ?_, fx ++ fy, rd', ?_, ?_, fun c hc => ?_⟩, hrest⟩
                    · rw [upd_ne (ne_of_none e hD)]
                      exact s5 c o (s4 c o (sm c o e))
                    · exact (List.nodup_cons.mp (by simpa using nd)).2
                    · exact (List.nodup_cons.mp (by simpa using nd)).1
                    · rcases List.mem_append.mp hc with z | z
                      · exact ffx c z
                      · cases qn : H1 c with
                        | none => rfl
                        | some o =>
                          have := s4 c o (sm c o qn)
                          rw [fr5 c z] at this; cases this
      · left
        have e : i = ms.length := by omega
        subst e
        rw [List.drop_length] at hrest
        unfold pDcL at hrest
        cases hrest
        obtain ⟨sm, fx, rd, nfx, dfx, ffx⟩ := hA
        refine ⟨(its _ H' st').1 (Nat.le_refl _), k _ H' (D :: fx) (s1.trans s01) rd (List.nodup_cons.mpr ⟨dfx, nfx⟩) fun a ha => ?_⟩
        rcases List.mem_cons.mp ha with rfl | ha
        · exact s1.free hD
        · exact s1.free (ffx a ha)
end T

set_option Elab.async false
set_option linter.all false
set_option maxRecDepth 100000
set_option maxHeartbeats 4000000
namespace T
open PySem PySem.Spec PySem.Calls PyProof.Rows L2 SS
section
variable {prog : Program} {w : World} {A : Around} {R : Result → Shared → Prop} {I : Addr} {fp wr : List Addr} {G : Array GenState → Array GenState → Prop} {n : Nat} {P : Nat → Value → Prop} {St : Nat → Shared → Prop}
theorem loopStrN (W : WalksS prog w A.in1 I fp wr G n P St) (S : Addr) (hSf : S ∉ fp) (xs : List Str) (hsz : xs.length = n) (hn1 : n ≤ 60) (hnd : xs.Nodup)
    (hval : ∀ i v, P i v → ∃ t, v = .str (xs.getD i Str.empty) t) :
    ∀ (k i : Nat) (s : Shared), n - i = k → i ≤ n → St i s →
      s.heap.SetOf (PySem.strKind prog w) S (fun k' => (xs.take i).any (· == k')) i →
      (∀ s', Moved (S :: wr) G s s' → s'.heap.SetOf (PySem.strKind prog w) S (fun k' => (xs.take n).any (· == k')) n → R (.ok (.ret .none)) s') →
      codeAny (model prog w) A (.builtin "set.update.loop" ⟨[.ref S, .ref I], []⟩) R s := by
  have hSw : S ∉ wr := fun h => hSf (W.sub _ h)
  have hsub : ∀ b ∈ wr, b ∈ S :: wr := fun b hb => List.mem_cons_of_mem _ hb
  intro k
  induction k with
  | zero =>
    intro i s hk hi hst hS hR
    have hin : i = n := by omega
    subst hin
    refine codeAny_builtin PyProof.Rows.F.entry_set_update_loop ?_
    rw [Around.under_plainId PyProof.Rows.F.plain_set_update_loop _]
    show wpAny _ A.in1 (pyNext (.ref I) >>= _) _ _ s
    refine wpAny_bind (W.done s _ _ hst fun s' hm => ?_)
    show wpAny _ A.in1 (ret Value.none) _ _ s'
    exact wpAny_pure (hR s' (hm.mono hsub) (by
      obtain ⟨o, es, ep, t, ho, rest⟩ := hS
      exact ⟨o, es, ep, t, hm.heap S _ hSw ho, rest⟩))
  | succ k ih =>
    intro i s hk hi hst hS hR
    have hlt : i < n := by omega
    refine codeAny_builtin PyProof.Rows.F.entry_set_update_loop ?_
    rw [Around.under_plainId PyProof.Rows.F.plain_set_update_loop _]
    show wpAny _ A.in1 (pyNext (.ref I) >>= _) _ _ s
    refine wpAny_bind (W.item i s _ _ hlt hst fun v s' hP hst' hm => ?_)
    obtain ⟨t, rfl⟩ := hval i v hP
    have hS' : s'.heap.SetOf (PySem.strKind prog w) S (fun k' => (xs.take i).any (· == k')) i := by
      obtain ⟨o, es, ep, tb, ho, rest⟩ := hS
      exact ⟨o, es, ep, tb, hm.heap S _ hSw ho, rest⟩
    show wpAny _ A.in1 (holding [Value.str (xs.getD i Str.empty) t] (setAdd S (.str (xs.getD i Str.empty) t)) >>= _) _ _ s'
    refine wpAny_bind (wpAny_holding ?_)
    unfold setAdd
    refine wpAny_holding ?_
    refine wpAny_bind ((PySem.strKind prog w).pyHash (k := xs.getD i Str.empty) (strKind_is _ _ _ _) ?_)
    refine wpAny_setAddHashed_of (knd := PySem.strKind prog w) (s := { s' with toks := s'.toks + 1 }) (strKind_is _ _ _ _) rfl hS' (by unfold scanBound; omega) fun h' hsb hS2 => ?_
    have hSi : h'.SetOf (PySem.strKind prog w) S (fun k' => (xs.take (i + 1)).any (· == k')) (i + 1) := by
      have hlx : i < xs.length := by omega
      have eg : xs.getD i Str.empty = xs[i] := by simp [hlx]
      have e0 : ((xs.take i).any (· == xs.getD i Str.empty)) = false := by
        rw [eg, List.any_eq_false]
        intro y hy hyx
        have e1 : y = xs[i] := by simpa using hyx
        obtain ⟨j, hj, e2⟩ := List.getElem_of_mem hy
        rw [List.getElem_take] at e2
        have hji : j < i := by
          have := hj
          simp only [List.length_take] at this
          omega
        exact List.pairwise_iff_getElem.mp hnd j i (by omega) hlx hji (by rw [e2, e1])
      refine SetOf_congr hS2 (fun k' => ?_) ?_
      · rw [List.take_succ_eq_append_getElem hlx, List.any_append, eg]
        congr 1
        by_cases e : k' = xs[i]
        · simp [e]
        · have hb : (xs[i] == k') = false := by simpa [beq_iff_eq] using (fun h' : xs[i] = k' => e h'.symm)
          simp [hb, e]
      · exact if_neg (by rw [e0]; decide)
    refine wpAny_pure ⟨plainId_quiet PyProof.Rows.F.plain_set_update_loop _, ih (i + 1) _ (by omega) hlt (W.frame _ s' _ _ hst' (Nat.le_succ _) fun b hb o e => ?_) hSi fun s'' hm'' hS'' => ?_⟩
    · rw [hsb.2 b (fun h : b = S => hSf (by rw [← h]; exact hb))]; exact e
    · refine hR s'' (Moved.trans W.gtrans ((hm.mono hsub).then_heap (Nat.le_succ _) fun b o hb e => ?_) hm'') hS''
      rw [hsb.2 b (fun h : b = S => hb (by rw [h]; exact List.mem_cons_self))]; exact e
end

section
variable {prog : Program} {w : World} {A : Around} {E : Value → Shared → Prop} {s : Shared}
set_option maxHeartbeats 3200000 in
theorem call_set_listN {l : Addr} {items : Array Value} {xs : List Str} {Q : Value → Shared → Prop}
    (hh : A.handled = none) (hl : s.heap.IsList l items) (hi : PyProof.Rows.StrsAre items.toList xs) (hn1 : xs.length ≤ 60) (hnd : xs.Nodup)
    (h : ∀ (h' : Heap) (tk : Nat), h'.SetOf (PySem.strKind prog w) s.heap.objs.size (fun k' => (xs.take items.size).any (· == k')) items.size →
      (∀ b o, b < s.heap.objs.size → s.heap.get? b = some o → h'.get? b = some o) → Q (.ref s.heap.objs.size) { s with heap := h', toks := tk }) :
    wpAny (model prog w) A (call (.type "set") [.ref l]) Q E s := by
  obtain ⟨c, tl, hmro⟩ := PySem.F.called_set.mro
  have hmade := PySem.F.called_set.made
  have hsub := PySem.F.called_set.sub
  refine wpAny_call (codeAny_of_tree ?_)
  show wpAny _ _ (callAny (.type "set") _) _ _ _
  refine wpAny_pure ⟨Code.quiet_builtin _ (by decide +kernel), codeAny_builtin PySem.F.entry_type_call ?_⟩
  rw [Around.under_plain (weight_type_call_type "set" [.ref l] []) rfl]
  have h1 := PySem.F.called_set.notType
  have h2 := PySem.F.called_set.canCreate
  have hct := PySem.F.typeCall_set_1 (.ref l)
  repeat (any_goals (first | assumption | wp_step))

  refine codeAny_mono (code_set_new_1 (.ref l) (E := E) (Q₁ := fun obj s₁ => ∃ led : Bool, obj = .ref s.heap.objs.size ∧ s₁ = { s with heap := s.heap.push { cls := .type "set", dict := none, data := .set #[] 0 (.fresh 0 0 led) } }) fun led => ⟨led, rfl, rfl⟩) fun r s₁ hr => ?_
  cases r with
  | error e => exact hr
  | ok fl =>
    cases fl with
    | ret obj =>
      obtain ⟨led, rfl, rfl⟩ := hr
      have hS : (s.heap.push { cls := .type "set", dict := none, data := .set #[] 0 (.fresh 0 0 led) }).get? s.heap.objs.size = some { cls := .type "set", dict := none, data := .set #[] 0 (.fresh 0 0 led) } := Heap.get?_push_size _ rfl
      have hT : Shared.TypeIs { s with heap := s.heap.push { cls := .type "set", dict := none, data := .set #[] 0 (.fresh 0 0 led) } } (.ref s.heap.objs.size) "set" := ⟨_, hS, rfl⟩
      have hli := PySem.F.called_set.init.lookup
      have hbi := PySem.F.called_set.init.bind (.ref s.heap.objs.size)
      repeat (any_goals (first | assumption | wp_step))

      refine codeAny_mono (codeAny_call_builtin (R := wants (fun r s₂ => r = .none ∧ ∃ h' tk, s₂ = { s with heap := h', toks := tk } ∧
          h'.SetOf (PySem.strKind prog w) s.heap.objs.size (fun k' => (xs.take items.size).any (· == k')) items.size ∧
          (∀ b o, b < s.heap.objs.size → s.heap.get? b = some o → h'.get? b = some o)) E) PySem.F.called_set.init.plain PySem.F.entry_set_init (check_set_init_1 hT ?_)) fun r₂ s₂ hr₂ => ?_
      · obtain ⟨ol, hol, hcl, nl, hdl⟩ := hl
        obtain ⟨ocls, odict, odata, oslots⟩ := ol
        simp only at hcl hdl
        subst hcl; subst hdl
        have hol' : (s.heap.push { cls := .type "set", dict := none, data := .set #[] 0 (.fresh 0 0 led) }).get? l = some { cls := .type "list", dict := odict, data := .seq items nl, slots := oslots } := Heap.get?_push_of_some _ hol
        have hsls := PySem.F.sub_list_set
        have hslf := PySem.F.sub_list_frozenset
        have hne : (Value.type "list" == Value.type "dict") = false := by decide
        have hl1 : (s.heap.push { cls := .type "set", dict := none, data := .set #[] 0 (.fresh 0 0 led) }).IsList l items := ⟨_, hol', rfl, nl, rfl⟩
        unfold Builtin.«set.__init__» noKeywords Builtin.Frozenset.updateFrom
        generalize hPI : pyIter = PI
        wp_walk
        subst hPI

        refine wpAny_pyIter_list hl1 ?_
        refine wpAny_bind (wpAny_runValue ?_)
        have hlS : l < s.heap.objs.size := Heap.lt_size hol
        have hh3 : A.in1.in1.in1.handled = none := by simp [hh]
        have hneI : l ≠ (s.heap.push { cls := .type "set", dict := none, data := .set #[] 0 (.fresh 0 0 led) }).objs.size := by
          rw [Heap.size_push]; exact Nat.ne_of_lt (Nat.lt_succ_of_lt hlS)
        have hSf : s.heap.objs.size ∉ [(s.heap.push { cls := .type "set", dict := none, data := .set #[] 0 (.fresh 0 0 led) }).objs.size, l] := by
          rw [Heap.size_push]; simp only [List.mem_cons, List.mem_singleton, List.not_mem_nil, or_false, not_or]
          exact ⟨Nat.ne_of_lt (Nat.lt_succ_self _), Nat.ne_of_gt hlS⟩
        have hsz : xs.length = items.size := by rw [← StrsAre.len_eq hi, Array.length_toList]
        have hval : ∀ (i : Nat) (v : Value), items[i]? = some v → ∃ t, v = .str (xs.getD i Str.empty) t := fun i v hv => strs_at hi i v (by rw [Array.getElem?_toList]; exact hv)
        refine loopStrN ((Walks.list hh3 _ l hneI items).toS) s.heap.objs.size
          hSf xs hsz (by rw [← hsz]; exact hn1) hnd hval (items.size - 0) 0 _ (by omega) (Nat.zero_le _)
          ⟨⟨_, Heap.get?_push_size _ rfl, rfl, rfl⟩, (hl1.push _)⟩ ?hS0 ?hR
        case hS0 =>
          have hget : ((s.heap.push { cls := .type "set", dict := none, data := .set #[] 0 (.fresh 0 0 led) }).push { cls := .type "list_iterator", data := .fields #[.ref l, .int 0 0] }).get? s.heap.objs.size
              = some { cls := .type "set", dict := none, data := .set #[] 0 (.fresh 0 0 led) } := Heap.get?_push_of_some _ hS
          exact PyProof.Rows.SetOf_congr ((PyProof.Rows.setObjOf_fresh (knd := PySem.strKind prog w) led).setOf hget (by unfold scanBound; omega)) (fun _ => rfl) rfl
        case hR =>
          intro s' hm hS'
          obtain ⟨h', g', d', tk', os'⟩ := s'
          have eg : g' = s.gens := hm.gens
          have ed : d' = s.drawn := hm.drawn
          have eo : os' = s.os := hm.os
          subst eg; subst ed; subst eo
          show wpAny _ _ _ _ _ _
          refine wpAny_pure ?_
          show wpAny _ _ (ret Value.none) _ _ _
          refine wpAny_pure ⟨rfl, h', tk', rfl, hS', fun b o hb e => ?_⟩
          have hb1 : b ≠ s.heap.objs.size := Nat.ne_of_lt hb
          have hb2 : b ≠ (s.heap.push { cls := .type "set", dict := none, data := .set #[] 0 (.fresh 0 0 led) }).objs.size := by
            rw [Heap.size_push]; exact Nat.ne_of_lt (Nat.lt_succ_of_lt hb)
          exact hm.heap b o (by simp only [List.mem_cons, List.mem_singleton, List.not_mem_nil, or_false, not_or]; exact ⟨hb1, hb2⟩) (Heap.get?_push_of_some _ (Heap.get?_push_of_some _ e))

      · cases r₂ with
        | error e => exact hr₂
        | ok fl₂ =>
          cases fl₂ with
          | ret r =>
            obtain ⟨rfl, h', tk, rfl, hS', hk'⟩ := hr₂
            repeat (any_goals (first | assumption | wp_step))
            exact h _ _ hS' hk'
          | _ => exact hr₂.elim
    | _ => exact hr.elim

end
def tLenSetN (K : PySem.W.Frag) (ta : TE) : TE := fun σ H Q => ta σ H fun x H1 => ∃ l, ∃ xs : List Str, x = .ref l ∧ SqL K H1 l (xs.map V.str) ∧ xs.length ≤ 60 ∧ xs.Nodup ∧ Q (.int xs.length) H1
theorem pe_lenSetN {X : Cx} {a : Expr} {ta : TE} {p p2 q pos : Pos} (hc : X.calm = true) (hg : Gl X "len") (hm : X.mg "len" = none) (hg2 : Gl X "set") (hm2 : X.mg "set" = none) (ha : PE X a ta)
    (na : starEach [a] X.env = (false, eval a X.env) :: starEach [] X.env := by rfl) : PE X (.Call (.Name "len" p) [.Call (.Name "set" p2) [a] [] q] [] pos) (tLenSetN X.K ta) := by
  refine ⟨fun pins s σ H Q I h => ?_⟩
  refine Call_ (ld_blt I hg hm PySem.boot_len ?_)
  refine PyProof.Rows.callWith_builtin1 (PyProof.Rows.args_cons ?_ rfl) rfl rfl
  refine Call_ (ld_blt I hg2 hm2 (show bootBuiltins "set" = some (.type "set") by decide +kernel) ?_)
  refine PyProof.Rows.callWith_type1 (PyProof.Rows.args_cons (thn (ha.run pins s σ H _ I h) fun v s1 ⟨x, H1, I1, r1, q1⟩ => PyProof.Rows.args_nil ?_) na) na rfl
  obtain ⟨l, xs, rfl, hq, h1, hnd, q1⟩ := q1
  cases r1
  obtain ⟨its, r, pl, hz⟩ := I1.list hq
  have hl : its.toArray.size = xs.length := by rw [List.size_toArray, ← r.length, List.length_map]
  refine call_set_listN (I1.ok.hd hc) pl.isList (by simpa using strsAre_of r) h1 hnd fun h' tk hS hk => ?_
  refine PyProof.Rows.args_nil ?_
  rw [hl] at hS
  obtain ⟨o, es, ep, t, ho, hex, hd, _, _, _, hf, hn⟩ := hS
  have I2 : Inv X pins σ H1 { s1 with heap := h', toks := tk } := I1.kept fun b o e => hk b o (Heap.lt_size e) e
  exact call_len_set ho hex hd hf (by rw [hn] <;> omega) ⟨.int xs.length, H1, I2.tok _, ⟨_, by rw [hn]⟩, q1⟩
/-- len(set(xs)), the texts of xs all different -/
def lenSetD : D → Option D
  | .lst _ ms => match strsOf ms with
    | some xs => if xs.length ≤ 60 ∧ xs.Nodup then some (.int xs.length) else none
    | none => none
  | _ => none
theorem lenSet_u {C : Kt} {σ : L2.St} {H : Hp} {Q : VK} {p : SV} (x : tU C (p1 lenSetD p) σ H Q) : tLenSetN C.K (tV C p) σ H Q := by
  obtain ⟨env, fp, m, r, e, k⟩ := x
  unfold p1 at e
  cases q : p env with
  | none => rw [q] at e; cases e
  | some z =>
    rw [q] at e
    simp only [Option.bind_some] at e
    unfold lenSetD at e
    split at e
    · rename_i o ms
      split at e
      · rename_i xs q2
        split at e
        · rename_i hc
          cases e
          refine ⟨env, fp, _, r, q, fun v H1 fm s x => ?_⟩
          obtain ⟨a, vs, g, rfl, a1, r1⟩ := x
          have := strsOf_ok q2 r1
          subst this
          exact ⟨a, xs, rfl, a1.seqL, hc.1, hc.2, k _ H1 [] s ⟨rfl, rfl⟩ List.nodup_nil noneIn⟩
        · cases e
      · cases e
    · cases e
theorem U_lenSet {X : Cx} {a : Expr} {p p2 q pos : Pos} {sp : SV} (hc : X.calm = true) (hg : Gl X "len") (hm : X.mg "len" = none) (hg2 : Gl X "set") (hm2 : X.mg "set" = none) (ha : PE X a (tV (kt X) sp))
    (na : starEach [a] X.env = (false, eval a X.env) :: starEach [] X.env := by rfl) : PE X (.Call (.Name "len" p) [.Call (.Name "set" p2) [a] [] q] [] pos) (tU (kt X) (p1 lenSetD sp)) := pe_imp (pe_lenSetN hc hg hm hg2 hm2 ha na) fun _ _ _ => lenSet_u
end T

set_option Elab.async false
set_option linter.all false
set_option maxRecDepth 100000
set_option maxHeartbeats 4000000
namespace T
open PySem PySem.Spec PyProof.Rows L2

/-! ### sorted(set(rows)), rows of natural numbers -/
def lexLt : List Int → List Int → Bool
  | a :: r, b :: s => if a < b then true else if b < a then false else lexLt r s
  | _, _ => false
def insL (x : List Int) : List (List Int) → List (List Int)
  | [] => [x]
  | y :: r => if x = y then y :: r else if lexLt x y = true then x :: y :: r else y :: insL x r
def sortT : List (List Int) → List (List Int)
  | [] => []
  | x :: r => insL x (sortT r)
theorem lex_code {B : Int} : ∀ {a b : List Int}, a.length = b.length → TS.Bd B a → TS.Bd B b → (lexLt a b = true ↔ TS.code B a < TS.code B b)
  | [], [], _, _, _ => by simp [lexLt]
  | [], _ :: _, h, _, _ => by simp at h
  | _ :: _, [], h, _, _ => by simp at h
  | x :: r, y :: s, h, ha, hb => by
    have hl : r.length = s.length := by simpa using h
    unfold lexLt
    by_cases h1 : x < y
    · rw [if_pos h1]
      simp only [true_iff]
      exact TS.code_lt hl ha.tail hb.tail h1
    · rw [if_neg h1]
      by_cases h2 : y < x
      · rw [if_pos h2]
        have := TS.code_lt hl.symm hb.tail ha.tail h2
        constructor
        · intro z; cases z
        · intro z; omega
      · rw [if_neg h2]
        have : x = y := by omega
        subst this
        rw [TS.code_same hl]
        exact lex_code hl ha.tail hb.tail
theorem code_inj' {B : Int} : ∀ {a b : List Int}, a.length = b.length → TS.Bd B a → TS.Bd B b → TS.code B a = TS.code B b → a = b
  | [], [], _, _, _, _ => rfl
  | [], _ :: _, h, _, _, _ => by simp at h
  | _ :: _, [], h, _, _, _ => by simp at h
  | x :: r, y :: s, h, ha, hb, e => by
    have hl : r.length = s.length := by simpa using h
    have h1 : ¬ x < y := fun z => by have := TS.code_lt hl ha.tail hb.tail z; omega
    have h2 : ¬ y < x := fun z => by have := TS.code_lt hl.symm hb.tail ha.tail z; omega
    have : x = y := by omega
    subst this
    have e2 : TS.code B r = TS.code B s := by
      have e' : x * B ^ r.length + TS.code B r = x * B ^ s.length + TS.code B s := e
      rw [hl] at e'
      omega
    rw [code_inj' hl ha.tail hb.tail e2]
theorem mem_insL {x y : List Int} : ∀ {l : List (List Int)}, y ∈ insL x l ↔ y = x ∨ y ∈ l
  | [] => by simp [insL]
  | z :: r => by
    unfold insL
    by_cases h1 : x = z
    · rw [if_pos h1]; subst h1; simp
    · rw [if_neg h1]
      by_cases h2 : lexLt x z = true
      · rw [if_pos h2]; simp
      · rw [if_neg h2]
        rw [List.mem_cons, List.mem_cons, mem_insL (l := r)]
        constructor
        · rintro (h | h | h) <;> simp [h]
        · rintro (h | h | h) <;> simp [h]
theorem mem_sortT {y : List Int} : ∀ {l : List (List Int)}, y ∈ sortT l ↔ y ∈ l
  | [] => by simp [sortT]
  | x :: r => by
    unfold sortT
    rw [mem_insL, mem_sortT (l := r)]
    simp
theorem insL_sorted {B : Int} {d : Nat} {x : List Int} (hx : x.length = d ∧ TS.Bd B x) : ∀ {l : List (List Int)}, (∀ y ∈ l, y.length = d ∧ TS.Bd B y) → l.Pairwise (fun a b => TS.code B a < TS.code B b) → (insL x l).Pairwise (fun a b => TS.code B a < TS.code B b)
  | [], _, _ => by simp [insL]
  | z :: r, hl, hp => by
    have hz := hl z (by simp)
    obtain ⟨p1, p2⟩ := List.pairwise_cons.mp hp
    unfold insL
    by_cases h1 : x = z
    · rw [if_pos h1]; exact hp
    · rw [if_neg h1]
      by_cases h2 : lexLt x z = true
      · rw [if_pos h2]
        have h3 := (lex_code (hx.1.trans hz.1.symm) hx.2 hz.2).mp h2
        refine List.pairwise_cons.mpr ⟨fun y hy => ?_, hp⟩
        rcases List.mem_cons.mp hy with rfl | hy
        · exact h3
        · have := p1 y hy; omega
      · rw [if_neg h2]
        refine List.pairwise_cons.mpr ⟨fun y hy => ?_, insL_sorted hx (fun y hy => hl y (List.mem_cons_of_mem _ hy)) p2⟩
        rcases mem_insL.mp hy with rfl | hy
        · have h3 : ¬ TS.code B y < TS.code B z := fun q => h2 ((lex_code (hx.1.trans hz.1.symm) hx.2 hz.2).mpr q)
          have h4 : TS.code B y ≠ TS.code B z := fun q => h1 (code_inj' (hx.1.trans hz.1.symm) hx.2 hz.2 q)
          omega
        · exact p1 y hy
theorem sortT_sorted {B : Int} {d : Nat} : ∀ {l : List (List Int)}, (∀ y ∈ l, y.length = d ∧ TS.Bd B y) → (sortT l).Pairwise (fun a b => TS.code B a < TS.code B b)
  | [], _ => by simp [sortT]
  | x :: r, hl => by
    unfold sortT
    exact insL_sorted (hl x (by simp)) (fun y hy => hl y (List.mem_cons_of_mem _ (mem_sortT.mp hy))) (sortT_sorted fun y hy => hl y (List.mem_cons_of_mem _ hy))
theorem sorted_uniq {B : Int} : ∀ {l m : List (List Int)}, l.Pairwise (fun a b => TS.code B a < TS.code B b) → m.Pairwise (fun a b => TS.code B a < TS.code B b) → (∀ y, y ∈ l ↔ y ∈ m) → l = m
  | [], [], _, _, _ => rfl
  | [], y :: m, _, _, h => by have := (h y).mpr (by simp); cases this
  | y :: l, [], _, _, h => by have := (h y).mp (by simp); cases this
  | x :: l, y :: m, hl, hm, h => by
    obtain ⟨p1, p2⟩ := List.pairwise_cons.mp hl
    obtain ⟨q1, q2⟩ := List.pairwise_cons.mp hm
    have e : x = y := by
      rcases List.mem_cons.mp ((h x).mp (by simp)) with z | z
      · exact z
      · rcases List.mem_cons.mp ((h y).mpr (by simp)) with z2 | z2
        · exact z2.symm
        · have := p1 y z2
          have := q1 x z
          omega
    subst e
    rw [sorted_uniq p2 q2 fun z => ?_]
    constructor
    · intro hz
      rcases List.mem_cons.mp ((h z).mp (List.mem_cons_of_mem _ hz)) with e | e
      · subst e; have := p1 z hz; omega
      · exact e
    · intro hz
      rcases List.mem_cons.mp ((h z).mpr (List.mem_cons_of_mem _ hz)) with e | e
      · subst e; have := q1 z hz; omega
      · exact e
def intsOfD : List D → Option (List Int)
  | [] => some []
  | .int i :: r => (intsOfD r).map (i :: ·)
  | _ => none
def rowsOf : List D → Option (List (List Int))
  | [] => some []
  | .tup ms :: r => match intsOfD ms, rowsOf r with
    | some l, some ls => some (l :: ls)
    | _, _ => none
  | _ => none
theorem intsOfD_ok {C : Kt} {H : Hp} : ∀ {ms : List D} {ns : List Int} {vs : List V} {f : List Addr}, intsOfD ms = some ns → RPs C H ms vs f → vs = ns.map V.int
  | [], _, _, _, h, x => by cases h; exact x.1
  | m :: r, _, _, _, h, x => by
    cases m with
    | int i =>
      obtain ⟨v, vr, f1, f2, rfl, rfl, h1, h2⟩ := x
      unfold intsOfD at h
      cases q : intsOfD r with
      | none => rw [q] at h; cases h
      | some l =>
        rw [q] at h
        cases h
        rw [intsOfD_ok q h2, h1.1]
        rfl
    | _ => cases h
theorem rowsOf_ok {C : Kt} {H : Hp} : ∀ {ms : List D} {ls : List (List Int)} {vs : List V} {f : List Addr}, rowsOf ms = some ls → RPs C H ms vs f → ∃ ks : List (Addr × List Int), vs = ks.map (fun p => V.ref p.1) ∧ ks.map (·.2) = ls ∧ ∀ p ∈ ks, H p.1 = some (.tup (p.2.map V.int))
  | [], _, _, _, h, x => by
    cases h
    exact ⟨[], x.1, rfl, fun _ z => nomatch z⟩
  | m :: r, ls, _, _, h, x => by
    cases m with
    | tup ms =>
      obtain ⟨v, vr, f1, f2, rfl, rfl, h1, h2⟩ := x
      unfold rowsOf at h
      cases q : intsOfD ms with
      | none => rw [q] at h; cases h
      | some l =>
        cases q2 : rowsOf r with
        | none => rw [q, q2] at h; cases h
        | some lr =>
          rw [q, q2] at h
          cases h
          obtain ⟨a, ws, rfl, a1, r1⟩ := h1
          have := intsOfD_ok q r1
          subst this
          obtain ⟨ks, e1, e2, e3⟩ := rowsOf_ok q2 h2
          refine ⟨(a, l) :: ks, by rw [e1]; rfl, by rw [← e2]; rfl, fun p hp => ?_⟩
          rcases List.mem_cons.mp hp with rfl | hp
          · exact a1
          · exact e3 p hp
    | _ => cases h
def maxAll : List Int → Int
  | [] => 0
  | i :: r => if i < maxAll r then maxAll r else i
theorem maxAll_ge : ∀ {l : List Int} {i : Int}, i ∈ l → i ≤ maxAll l
  | j :: r, i, h => by
    unfold maxAll
    rcases List.mem_cons.mp h with rfl | h
    · split <;> omega
    · have := maxAll_ge h
      split <;> omega
def rowsFit (ls : List (List Int)) : Bool := ls.length < 64 && (match ls with
  | [] => true
  | l :: _ => 1 ≤ l.length && ls.all fun m => m.length == l.length && m.all fun i => decide (0 ≤ i))
def rowD (l : List Int) : D := .tup (l.map .int)
def sortSetD : D → Option D
  | .lst _ ms => match rowsOf ms with
    | some ls => if rowsFit ls = true then some (.lst true ((sortT ls).map rowD)) else none
    | none => none
  | _ => none
theorem rowsFit_ok {ls : List (List Int)} (h : rowsFit ls = true) : ls.length < 64 ∧ ∃ (d : Nat) (B : Int), 1 ≤ d ∧ ∀ l ∈ ls, l.length = d ∧ TS.Bd B l := by
  unfold rowsFit at h
  rw [Bool.and_eq_true] at h
  refine ⟨of_decide_eq_true h.1, ?_⟩
  cases ls with
  | nil => exact ⟨1, 0, Nat.le_refl _, fun _ z => nomatch z⟩
  | cons l r =>
    obtain ⟨_, h2⟩ := h
    dsimp only at h2
    rw [Bool.and_eq_true] at h2
    refine ⟨l.length, maxAll (l :: r).flatten + 1, of_decide_eq_true h2.1, fun m hm => ?_⟩
    have := List.all_eq_true.mp h2.2 m hm
    rw [Bool.and_eq_true] at this
    refine ⟨by simpa using this.1, fun i hi => ⟨of_decide_eq_true (List.all_eq_true.mp this.2 i hi), ?_⟩⟩
    have := maxAll_ge (List.mem_flatten.mpr ⟨m, hm, hi⟩)
    omega
theorem RPs.ints {C : Kt} {H : Hp} : ∀ (l : List Int), RPs C H (l.map D.int) (l.map V.int) []
  | [] => ⟨rfl, rfl⟩
  | i :: r => ⟨_, _, [], [], rfl, rfl, ⟨rfl, rfl⟩, RPs.ints r⟩
theorem RPs.rows {C : Kt} {H : Hp} : ∀ (L : List (Addr × List Int)), (∀ p ∈ L, H p.1 = some (.tup (p.2.map V.int))) → RPs C H ((L.map (·.2)).map rowD) (L.map fun q => V.ref q.1) []
  | [], _ => ⟨rfl, rfl⟩
  | p :: r, h => ⟨_, _, [], [], rfl, rfl, ⟨p.1, _, rfl, h p (by simp), RPs.ints _⟩, RPs.rows r fun q hq => h q (List.mem_cons_of_mem _ hq)⟩
theorem sortSet_u {C : Kt} {P : Program} {w : World} {σ : L2.St} {H : Hp} {Q : VK} {p : SV} (x : tU C (p1 sortSetD p) σ H Q) : tCB (rSortedT C.K P w) (tCons (tCB (rSetOfT C.K P w) (tCons (tV C p) tNil)) tNil) σ H Q := by
  obtain ⟨env, fp, m, r, e, k⟩ := x
  unfold p1 at e
  cases q : p env with
  | none => rw [q] at e; cases e
  | some z =>
    rw [q] at e
    simp only [Option.bind_some] at e
    unfold sortSetD at e
    split at e
    · rename_i o ms
      split at e
      · rename_i ls q2
        split at e
        · rename_i hf
          cases e
          obtain ⟨hl, d, B, hd, hB⟩ := rowsFit_ok hf
          refine ⟨env, fp, _, r, q, fun v H1 fm s x => ?_⟩
          obtain ⟨a, vs, g, rfl, a1, r1⟩ := x
          obtain ⟨ks, rfl, rfl, hk⟩ := rowsOf_ok q2 r1
          refine ⟨a, ks, rfl, a1.seqL, fun p hp => SqT.of (hk p hp), by simpa using hl, fun b L hb s1 s2 => ?_⟩
          have sm1 := same_tup (u := SetTO P w b L) hb
          have hkL : ∀ p ∈ L, (upd H1 b (SetTO P w b L)) p.1 = some (.tup (p.2.map V.int)) := fun p hp => sm1 _ _ (hk p (s1 p hp))
          have hBL : ∀ p ∈ L, p.2.length = d ∧ TS.Bd B p.2 := fun p hp => hB p.2 (List.mem_map.mpr ⟨p, s1 p hp, rfl⟩)
          refine ⟨b, L, d, B, rfl, upd_same, fun p hp => SqT.of (hkL p hp), hd, hBL, fun L' c pm nd hl' pw hc => ?_⟩
          have sm2 := same_tup (u := .lst (L'.map fun q => V.ref q.1)) hc
          have hmem : ∀ p ∈ L', p ∈ L := fun p hp => pm.mem_iff.mp hp
          have hw : (L'.map (·.2)).Pairwise (fun a b => TS.code B a < TS.code B b) := by
            rw [List.pairwise_map]
            refine List.Pairwise.imp_of_mem ?_ (List.Pairwise.and pw (List.pairwise_map.mp nd))
            intro p q hp hq ⟨h1, h2⟩
            have e1 := hBL p (hmem p hp)
            have e2 := hBL q (hmem q hq)
            have : TS.code B p.2 ≠ TS.code B q.2 := fun z => h2 (code_inj' (e1.1.trans e2.1.symm) e1.2 e2.2 z)
            omega
          have eq : L'.map (·.2) = sortT (ks.map (·.2)) := by
            refine sorted_uniq hw (sortT_sorted hB) fun y => ?_
            rw [mem_sortT]
            constructor
            · intro hy
              obtain ⟨p, hp, rfl⟩ := List.mem_map.mp hy
              exact List.mem_map.mpr ⟨p, s1 p (hmem p hp), rfl⟩
            · intro hy
              obtain ⟨p, hp, rfl⟩ := List.mem_map.mp hy
              obtain ⟨q, hq, e⟩ := List.mem_map.mp (s2 p hp)
              exact List.mem_map.mpr ⟨q, pm.mem_iff.mpr hq, e⟩
          have rr : RPs C (upd (upd H1 b (SetTO P w b L)) c (.lst (L'.map fun q => V.ref q.1))) ((sortT (ks.map (·.2))).map rowD) (L'.map fun q => V.ref q.1) [] := by
            rw [← eq]
            exact RPs.rows L' fun p hp => sm2 _ _ (hkL p (hmem p hp))
          exact k (.ref c) _ [c] ((s.trans sm1).trans sm2) ⟨c, _, [], rfl, ⟨upd_same, rfl⟩, rr⟩ (by simp) fun a ha => by rw [List.mem_singleton.mp ha]; exact (s.trans sm1).free hc
        · cases e
      · cases e
    · cases e
theorem U_sortSet {X : Cx} {a : Expr} {p p2 q pos : Pos} {sp : SV} {j : Nat} (hr : Room j X.A) (hc : X.calm = true) (hg : Gl X "sorted") (hm : X.mg "sorted" = none) (hg2 : Gl X "set") (hm2 : X.mg "set" = none) (ha : PE X a (tV (kt X) sp))
    (na : starEach [a] X.env = (false, eval a X.env) :: starEach [] X.env := by rfl) (na2 : starEach [.Call (.Name "set" p2) [a] [] q] X.env = (false, eval (.Call (.Name "set" p2) [a] [] q) X.env) :: starEach [] X.env := by rfl) :
    PE X (.Call (.Name "sorted" p) [.Call (.Name "set" p2) [a] [] q] [] pos) (tU (kt X) (p1 sortSetD sp)) :=
  pe_imp (pe_callB (cr_sortedT hc) hg hm (by decide +kernel) (pa_cons (pe_callTy (cr_setOfT hc (hu64 hr)) hg2 hm2 (by decide +kernel) (pa_cons ha pa_nil na) (he := na)) pa_nil na2) (he := na2)) fun _ _ _ => sortSet_u
end T

set_option Elab.async false
set_option linter.all false
set_option maxRecDepth 100000
set_option maxHeartbeats 4000000
namespace T
open PySem PySem.Spec PyProof.Rows L2

section
variable {X : Cx} {W : WXT} {kx vx elt tg it tg1 it1 : Expr} {ifs ifs1 : List Expr} {scope : Scope} {own : List (Str × Nat)} {vs1 : List Nat} {pos : Pos} {pa pa1 : SAV} {b b1 : Bd} {t t1 : STu} {ke ve p : SV} {j : Nat}
theorem U_dc (hr : Room j X.A) (hc : X.calm = true) (hN : X.N.Nodup) (ok : BlkOk X.N X.env.scope scope own) (hi : PI X tg it (tIV (kt X) pa))
    (hg : ∀ (s : Shared) (H : Hp) (C : Addr) (cl : List (Str × Addr)) (fp : List Addr), PG (X.blk s H scope (compEnvC scope cl C X.env) fp) tg (tGU (kt X) (kpOwn (own.map (·.2))) b))
    (ht : ∀ (s : Shared) (H : Hp) (C : Addr) (cl : List (Str × Addr)) (fp : List Addr), PTs (X.blk s H scope (compEnvC scope cl C X.env) fp) ifs (tTU (kt X) t))
    (hk : ∀ (s : Shared) (H : Hp) (C : Addr) (cl : List (Str × Addr)) (fp : List Addr), PE (X.blk s H scope (compEnvC scope cl C X.env) fp) kx (tU (kt X) ke))
    (he : ∀ (s : Shared) (H : Hp) (C : Addr) (cl : List (Str × Addr)) (fp : List Addr), PE (X.blk s H scope (compEnvC scope cl C X.env) fp) vx (tU (kt X) ve))
    (hs : ∀ x, foldedSetIterable it X.env x = pure x := by intro _; rfl) : PE X (.DictComp kx vx [⟨tg, it, ifs, 0⟩] scope pos) (tU (kt X) (pDc (own.map (·.2)) pa b t ke ve)) :=
  pe_imp (pe_dcR (by have := hu64 hr; omega) hc hN hi ok hg ht hk he hs) fun _ _ _ => dc_u
theorem U_lc2 (hc : X.calm = true) (hN : X.N.Nodup) (ok : BlkOk X.N X.env.scope scope own) (hv : ∀ i ∈ vs1, i ∈ own.map (·.2)) (hi : PI X tg it (tIV (kt X) pa))
    (hg : ∀ (s : Shared) (H : Hp) (C : Addr) (cl : List (Str × Addr)) (fp : List Addr), PG (X.blk s H scope (compEnvC scope cl C X.env) fp) tg (tGU (kt X) (kpOwn (own.map (·.2))) b))
    (ht : ∀ (s : Shared) (H : Hp) (C : Addr) (cl : List (Str × Addr)) (fp : List Addr), PTs (X.blk s H scope (compEnvC scope cl C X.env) fp) ifs (tTU (kt X) t))
    (hi1 : ∀ (s : Shared) (H : Hp) (C : Addr) (cl : List (Str × Addr)) (fp : List Addr), PI (X.blk s H scope (compEnvC scope cl C X.env) fp) tg1 it1 (tIU (kt X) pa1))
    (hg1 : ∀ (s : Shared) (H : Hp) (C : Addr) (cl : List (Str × Addr)) (fp : List Addr), PG (X.blk s H scope (compEnvC scope cl C X.env) fp) tg1 (tGU (kt X) (kpOwn vs1) b1))
    (ht1 : ∀ (s : Shared) (H : Hp) (C : Addr) (cl : List (Str × Addr)) (fp : List Addr), PTs (X.blk s H scope (compEnvC scope cl C X.env) fp) ifs1 (tTU (kt X) t1))
    (he : ∀ (s : Shared) (H : Hp) (C : Addr) (cl : List (Str × Addr)) (fp : List Addr), PE (X.blk s H scope (compEnvC scope cl C X.env) fp) elt (tU (kt X) p))
    (hs : ∀ x, foldedSetIterable it X.env x = pure x := by intro _; rfl) (hs1 : ∀ env x, foldedSetIterable it1 env x = pure x := by intro _ _; rfl) :
    PE X (.ListComp elt [⟨tg, it, ifs, 0⟩, ⟨tg1, it1, ifs1, 0⟩] scope pos) (tU (kt X) (pLc2 (own.map (·.2)) vs1 pa b t pa1 b1 t1 p)) :=
  pe_imp (pe_lc2 hc hN hi ok hv hg ht hi1 hg1 ht1 he hs hs1) fun _ _ _ => lc2_u
theorem setU_of {C : Kt} {kp : Nat → Bool} {σ : L2.St} {H : Hp} {D : Ends} {i : Nat} {p : SV} (hk : kp i = false) (h : tS C kp W (sSet i (sU p)) D σ H) : tU C p σ H (fun x H1 => gName i x σ H1 D.nx) := by
  obtain ⟨env, fp, r, nd, h'⟩ := set_i (i := i) hk h
  unfold PostE at h'
  unfold sU at h'
  cases q : p env with
  | none => rw [q] at h'; exact h'.elim
  | some m =>
    rw [q] at h'
    refine ⟨env, fp, m, r, q, fun v H1 fm s x n fr => h' v H1 fm fp x (r.st env (Same.st1 s _)) ?_ (Mv.same s fr)⟩
    refine List.nodup_append.mpr ⟨n, nd, fun a ha b hb => ?_⟩
    rintro rfl
    obtain ⟨o, e, _⟩ := r.owned env a hb
    rw [fr a ha] at e; cases e
theorem S_setLc2 {kp : Nat → Bool} {i : Nat} {y : Str} {py spos : Pos} (hc : X.calm = true) (hN : X.N.Nodup) (hy : X.N[i]? = some y) (hyl : X.env.scope.names.lookup y = some .local) (hkp : kp i = false)
    (hsw : swapsWith (.ListComp elt [⟨tg, it, ifs, 0⟩, ⟨tg1, it1, ifs1, 0⟩] scope pos) (some (.Name y py)) spos.line X.env = pure true) (ok : BlkOk X.N X.env.scope scope own) (hv : ∀ i ∈ vs1, i ∈ own.map (·.2)) (hi : PI X tg it (tIV (kt X) pa))
    (hg : ∀ (s : Shared) (H : Hp) (C : Addr) (cl : List (Str × Addr)) (fp : List Addr), PG (X.blk s H scope (compEnvC scope cl C X.env) fp) tg (tGU (kt X) (kpOwn (own.map (·.2))) b))
    (ht : ∀ (s : Shared) (H : Hp) (C : Addr) (cl : List (Str × Addr)) (fp : List Addr), PTs (X.blk s H scope (compEnvC scope cl C X.env) fp) ifs (tTU (kt X) t))
    (hi1 : ∀ (s : Shared) (H : Hp) (C : Addr) (cl : List (Str × Addr)) (fp : List Addr), PI (X.blk s H scope (compEnvC scope cl C X.env) fp) tg1 it1 (tIU (kt X) pa1))
    (hg1 : ∀ (s : Shared) (H : Hp) (C : Addr) (cl : List (Str × Addr)) (fp : List Addr), PG (X.blk s H scope (compEnvC scope cl C X.env) fp) tg1 (tGU (kt X) (kpOwn vs1) b1))
    (ht1 : ∀ (s : Shared) (H : Hp) (C : Addr) (cl : List (Str × Addr)) (fp : List Addr), PTs (X.blk s H scope (compEnvC scope cl C X.env) fp) ifs1 (tTU (kt X) t1))
    (he : ∀ (s : Shared) (H : Hp) (C : Addr) (cl : List (Str × Addr)) (fp : List Addr), PE (X.blk s H scope (compEnvC scope cl C X.env) fp) elt (tU (kt X) p))
    (hs : ∀ x, foldedSetIterable it X.env x = pure x := by intro _; rfl) (hs1 : ∀ env x, foldedSetIterable it1 env x = pure x := by intro _ _; rfl) :
    PS X (.Assign [.Name y py] (.ListComp elt [⟨tg, it, ifs, 0⟩, ⟨tg1, it1, ifs1, 0⟩] scope pos) spos) (tS (kt X) kp W (sSet i (sU (pLc2 (own.map (·.2)) vs1 pa b t pa1 b1 t1 p)))) :=
  ps_imp (ps_setLc2 hc hN hy hyl hsw hi ok hv hg ht hi1 hg1 ht1 he hs hs1) fun D σ H h => lc2_u (setU_of hkp h)
end

/-! ### a sign in a text; the signs of a text; a tuple of the written part -/
def inTxD : D → D → Option D
  | .str x, .str z => if x.cps.size = 1 then some (.bl (decide (x.cps.toList.headD 0 ∈ z.cps.toList))) else none
  | _, _ => none
theorem o2_inTx {C : Kt} : Op2 C (fun x y H Q => ∃ (c : Nat) (z : Str), x = .str ⟨#[c]⟩ ∧ y = .str z ∧ Q (.bl (decide (c ∈ z.cps.toList))) H) inTxD := by
  intro H x y v u f1 f2 m h1 h2 e Q k
  unfold inTxD at e
  split at e
  · rename_i x z
    split at e
    · rename_i hx
      cases e
      obtain ⟨rfl, _⟩ := h1
      obtain ⟨rfl, _⟩ := h2
      obtain ⟨cps⟩ := x
      obtain ⟨l⟩ := cps
      match l, hx with
      | [c], _ => exact ⟨c, z, rfl, rfl, k _ H [] (Same.refl H) ⟨rfl, rfl⟩ List.nodup_nil noneIn⟩
    · cases e
  · cases e
def sgn (c : Nat) : D := .str ⟨#[c]⟩
def iTx (p : SV) : SAV := fun env => match p env with
  | some (.str z) => some (z.cps.toList.map sgn)
  | _ => none
theorem iTx_v {C : Kt} {σ : L2.St} {H : Hp} {R : It → Hp → Prop} {p : SV} (x : tIV C (iTx p) σ H R) : iStr (tV C p) σ H R := by
  obtain ⟨env, fp, ms, r, h, k⟩ := x
  unfold iTx at h
  split at h
  · rename_i z q
    cases h
    refine ⟨env, fp, _, r, q, fun v H1 fm s x => ⟨z, x.1, k _ H1 [] (fun i H' _ => ?_) s⟩⟩
    refine ⟨fun hi => (by simpa using hi : z.cps.size ≤ i), fun m hm => ?_⟩
    rw [List.getElem?_map] at hm
    cases hg : z.cps.toList[i]? with
    | none => rw [hg] at hm; cases hm
    | some c =>
      rw [hg] at hm
      cases hm
      have hlt := (List.getElem?_eq_some_iff.mp hg).1
      have hg' : z.cps[i]? = some c := by simpa using hg
      refine ⟨(by simpa using hlt : i < z.cps.size), fun x' H'' y => ?_⟩
      obtain ⟨rfl, c', e1, rfl⟩ := y
      rw [hg'] at e1
      cases e1
      exact ⟨Same.refl _, rfl, rfl⟩
  · cases h
theorem IV_str {X : Cx} {tg e : Expr} {p : SV} (h : PE X e (tV (kt X) p)) : PI X tg e (tIV (kt X) (iTx p)) := pi_imp (pi_str h) fun _ _ _ => iTx_v
/-- a tuple of data in the written part -/
structure GT (K : PySem.W.Frag) (mg : Str → Option Value) (x : Str) (ds : List PyData) : Prop where
  ex : ∃ a, mg x = some (.ref a) ∧ ∀ H : Hp, Dp K H (.ref a) (.tuple ds)
def inGD (ds : List PyData) (neg : Bool) (m : D) : Option D := match toP m with
  | some d => if SeqAt.shaped d && SeqAt.shaped (.tuple ds) then some (.bl (if neg then !(ds.any fun z => PyData.eqv z d) else ds.any fun z => PyData.eqv z d)) else none
  | none => none
theorem inG_u {C : Kt} {σ : L2.St} {H : Hp} {Q : VK} {ds : List PyData} {p : SV} {a : Addr} (hd : ∀ H : Hp, Dp C.K H (.ref a) (.tuple ds)) (x : tU C (p1 (inGD ds false) p) σ H Q) : tOp (rInA C.K) (tV C p) (tC (.ref a)) σ H Q := by
  obtain ⟨env, fp, m, r, e, k⟩ := x
  unfold p1 at e
  cases q : p env with
  | none => rw [q] at e; cases e
  | some z =>
    rw [q] at e
    simp only [Option.bind_some] at e
    unfold inGD at e
    split at e
    · rename_i d q2
      split at e
      · rename_i hs
        rw [Bool.and_eq_true] at hs
        cases e
        refine ⟨env, fp, z, r, q, fun v H1 fm s x => .inr ⟨d, ds, x.dp z q2, hd H1, hs.1, hs.2, k _ H1 [] s ⟨rfl, rfl⟩ List.nodup_nil noneIn⟩⟩
      · cases e
    · cases e
theorem ninG_u {C : Kt} {σ : L2.St} {H : Hp} {Q : VK} {ds : List PyData} {p : SV} {a : Addr} (hd : ∀ H : Hp, Dp C.K H (.ref a) (.tuple ds)) (x : tU C (p1 (inGD ds true) p) σ H Q) : tOp (rNotInA C.K) (tV C p) (tC (.ref a)) σ H Q := by
  obtain ⟨env, fp, m, r, e, k⟩ := x
  unfold p1 at e
  cases q : p env with
  | none => rw [q] at e; cases e
  | some z =>
    rw [q] at e
    simp only [Option.bind_some] at e
    unfold inGD at e
    split at e
    · rename_i d q2
      split at e
      · rename_i hs
        rw [Bool.and_eq_true] at hs
        cases e
        refine ⟨env, fp, z, r, q, fun v H1 fm s x => .inr ⟨d, ds, x.dp z q2, hd H1, hs.1, hs.2, k _ H1 [] s ⟨rfl, rfl⟩ List.nodup_nil noneIn⟩⟩
      · cases e
    · cases e
section
variable {X : Cx} {a : Expr} {x : Str} {q pos : Pos} {ds : List PyData} {p : SV} {j : Nat}
theorem U_inG (hr : Room j X.A) (hg : Gl X x) (G : GT X.K X.mg x ds) (ha : PE X a (tV (kt X) p)) (hd : (x == ("__debug__" : Str)) = false := by decide) (hm : behindInMarks .In (.Name x q) = false := by rfl) : PE X (.Compare a [.In] [.Name x q] pos) (tU (kt X) (p1 (inGD ds false) p)) := by
  obtain ⟨b, hb, h⟩ := G.ex
  exact pe_imp (pe_cmpR (or_in (hu65 hr)) ha (pe_glob (v := .ref b) hg hb rfl hd) hm) fun _ _ _ => inG_u h
theorem U_ninG (hr : Room j X.A) (hg : Gl X x) (G : GT X.K X.mg x ds) (ha : PE X a (tV (kt X) p)) (hd : (x == ("__debug__" : Str)) = false := by decide) (hm : behindInMarks .NotIn (.Name x q) = false := by rfl) : PE X (.Compare a [.NotIn] [.Name x q] pos) (tU (kt X) (p1 (inGD ds true) p)) := by
  obtain ⟨b, hb, h⟩ := G.ex
  exact pe_imp (pe_cmpR (or_notIn (hu65 hr)) ha (pe_glob (v := .ref b) hg hb rfl hd) hm) fun _ _ _ => ninG_u h
end
end T

set_option Elab.async false
set_option linter.all false
set_option maxRecDepth 100000
set_option maxHeartbeats 4000000
namespace T
open PySem PySem.Spec PySem.Calls PyProof.Rows L2

/-! ### tuple(d): the keys of a dict -/
def RawD (d : Addr) (es : Array DictEntry) (ep : Nat) (h : Heap) : Prop := ∃ o, h.get? d = some o ∧ o.ExactDict ∧ o.data = .dict es ep
theorem RawD.at {d : Addr} {es : Array DictEntry} {ep : Nat} {h h' : Heap} (x : RawD d es ep h) (k : ∀ o, h.get? d = some o → h'.get? d = some o) : RawD d es ep h' := let ⟨o, e, r⟩ := x; ⟨o, k o e, r⟩
theorem walks_keys {prog : Program} {w : World} {A : Around} (hh : A.handled = none) (I d : Addr) (hne : d ≠ I) (es : Array DictEntry) (ep : Nat) :
    Walks prog w A I [I, d] [I] es.size (fun i v => ∃ en, es[i]? = some en ∧ v = en.key) (fun i h => h.IsKeyIter I d i es.size ep ∧ RawD d es ep h) where
  sub := fun b hb => by simp at hb; simp [hb]
  frame := fun _ _ _ st hk => ⟨st.1.at fun o e => hk I (by simp) o e, st.2.at fun o e => hk d (by simp) o e⟩
  item := fun i s Q E hi st hQ => by
    obtain ⟨it, o, e1, e2, e3⟩ := st
    refine next_key_item (en := es[i]) it e1 e3 rfl (by simp [hi]) fun h' hit' hs' => ?_
    exact hQ _ h' s.toks ⟨es[i], by simp [hi], rfl⟩ ⟨hit', o, (hs'.2 d hne).trans e1, e2, e3⟩ fun b o hb e => hs'.extBut b o (fun h => hb (by simp [h])) e
  done := fun s Q E st hQ => by
    obtain ⟨it, o, e1, e2, e3⟩ := st
    exact next_key_end hh it e1 e3 rfl (Nat.le_refl _) fun h' he' => hQ h' s.toks fun b o hb e => he' b o (fun h => hb (by simp [h])) e
  self := fun _ _ _ _ st hQ => wpAny_pyIter_keyiter st.1 hQ
theorem src_keys {prog : Program} {w : World} {d : Addr} {es : Array DictEntry} {ep : Nat} (lo : (d == sysModules) = false) : PySem.W.KdlSrc prog w "dict" d d es.size (fun i v => ∃ en, es[i]? = some en ∧ v = en.key) (RawD d es ep) where
  type := fun _ hm => let ⟨o, e, c, _⟩ := hm; ⟨o, e, c.1⟩
  there := fun _ hm => let ⟨_, e, _⟩ := hm; ⟨Heap.lt_size e, Heap.lt_size e⟩
  keep := fun _ _ hm hk => hm.at fun o e => hk d (.inl rfl) o e
  notList := by decide
  notTuple := by decide
  hint := fun _ _ _ _ hm hq => let ⟨o, e, c, _⟩ := hm; PySem.W.kdl_hint_dict ⟨o, e, c.1⟩ hq
  iter := fun _ s hh hm => ⟨_, _, (fun _ _ hq => let ⟨o, e, c, dd⟩ := hm; iter_keys lo e c dd hq), walks_keys hh _ d (Nat.ne_of_lt (let ⟨_, e, _⟩ := hm; Heap.lt_size e)) es ep,
    ⟨⟨_, Heap.get?_push_size _ rfl, rfl, rfl⟩, hm.at fun _ e => Heap.get?_push_of_some _ e⟩⟩
section
variable {prog : Program} {w : World} {A : Around} {E : Value → Shared → Prop} {s : Shared} {d : Addr} {es : Array DictEntry} {ep : Nat}
theorem code_tuple_dict {Q₁ : Value → Shared → Prop} (hh : A.handled = none) (lo : (d == sysModules) = false) (hm : RawD d es ep s.heap) (hn : es.size ≤ sizeLine)
    (h : ∀ (h' : Heap) (tk : Nat) (acc : Array Value), (∀ b o, s.heap.get? b = some o → h'.get? b = some o) → ItemsOf (fun i v => ∃ en, es[i]? = some en ∧ v = en.key) acc es.size →
      Q₁ (.ref h'.objs.size) { s with heap := h'.push { cls := .type "tuple", data := .seq acc }, toks := tk }) :
    codeAny (model prog w) A (.call (.builtin "tuple.__new__") ⟨[.type "tuple", .ref d], []⟩) (wants Q₁ E) s := by
  refine codeAny_of_tree ?_
  show wpAny _ A.in1 (do checkBuiltinCall "tuple.__new__" ⟨[.type "tuple", .ref d], []⟩; again (.builtin "tuple.__new__" ⟨[.type "tuple", .ref d], []⟩)) _ _ s
  refine wpAny_bind (wpAny_of_eq (PySem.F.newCall_tuple_1 _) (wpAny_pure ⟨plainId_quiet PySem.F.plain_tuple_new _, codeAny_builtin PySem.F.entry_tuple_new ?_⟩))
  rw [Around.under_plainId PySem.F.plain_tuple_new _]
  have hsub := sub_tuple_self
  have hinit := init_tuple_lookup
  have hmh := madeHere_tuple
  have hTI : s.TypeIs (.ref d) "dict" := let ⟨o, e, c, _⟩ := hm; ⟨o, e, c.1⟩
  have hh1 : A.in1.handled = none := hh
  have K := src_keys (prog := prog) (w := w) (es := es) (ep := ep) lo
  wp_walk using wpAny_typeOf hTI, PySem.W.kdu_collect (A := A.in1) K hh1 hm hn
  intro h' tk acc hk hacc
  show wpAny _ _ (Builtin.Tuple.tupleExact acc.toList.toArray >>= fun v => ret v) _ _ _
  unfold Builtin.Tuple.tupleExact
  refine wpAny_bind (wpAny_newObj_type ?_ (by show acc.toList.toArray.size ≤ sizeLine; simp only [Array.toArray_toList]; rw [hacc.1]; exact hn))
  refine wpAny_pure ?_
  have e : acc.toList.toArray = acc := by simp
  rw [e]
  exact h h' tk acc hk hacc
theorem call_tuple_dict {Q : Value → Shared → Prop} (hh : A.handled = none) (lo : (d == sysModules) = false) (hm : RawD d es ep s.heap) (hn : es.size ≤ sizeLine)
    (hQ : ∀ (h' : Heap) (tk : Nat) (acc : Array Value), (∀ b o, s.heap.get? b = some o → h'.get? b = some o) → ItemsOf (fun i v => ∃ en, es[i]? = some en ∧ v = en.key) acc es.size →
      Q (.ref h'.objs.size) { s with heap := h'.push { cls := .type "tuple", data := .seq acc }, toks := tk }) :
    wpAny (model prog w) A (call (.type "tuple") [.ref d]) Q E s := by
  refine callType_codes (Q₁ := fun obj s₁ => s₁.TypeIs obj "tuple" ∧ Q obj s₁) PySem.F.called_tuple (PySem.F.typeCall_tuple_1 _) PySem.F.entry_object_init
    (code_tuple_dict (A := A.in1) hh lo hm hn fun h' tk acc hk hacc => ⟨⟨_, Heap.get?_push_size _ rfl, rfl⟩, hQ h' tk acc hk hacc⟩) fun obj s₁ h₁ => ?_
  exact ⟨h₁.1, PySem.F.args_object_init_2 obj _, object_init_meets PySem.F.called_tuple.init.lookup PySem.F.called_tuple.made (by decide) prog w A.in1 _ s₁ ⟨h₁.1, rfl, h₁.2⟩⟩
end
def rTupT : List V → Hp → VK → Prop := fun xs H Q => ∃ a kvs, xs = [.ref a] ∧ Rd H a (.dT kvs) ∧ ∀ (p : Addr) (bs : List Addr), H p = none → Paired (fun (kv : List Key × V) b => H b = some (.tup (kv.1.map kV))) kvs bs → Q (.ref p) (upd H p (.tup (bs.map V.ref)))
theorem call_tupT {X : Cx} (hc : X.calm = true) : CallR X (.type "tuple") rTupT := by
  intro pins s σ H xs us Q I r h
  obtain ⟨a, kvs, rfl, hd, q⟩ := h
  rw [Vals.ref1 r]
  obtain ⟨z, lo, ys, rel, o, es, ep, e1, e2, e3, e4, e5⟩ := (show ObjOk X.prog X.w H s.heap a (.dT kvs) from hd.ok I.hok)
  have hsz : es.size = ys.length := by
    have := congrArg List.length e4
    simpa using this
  have hl : es.size ≤ sizeLine := by rw [hsz, ← Paired.length rel]; exact z
  refine call_tuple_dict (I.ok.hd hc) lo ⟨o, e1, e2, e3⟩ hl fun h' tk acc hk hacc => ?_
  have eacc : acc.toList = ys.map fun y => Value.ref y.2.1 := by
    apply List.ext_getElem?
    intro j
    have hlen : acc.size = ys.length := hacc.1.trans hsz
    rw [List.getElem?_map, Array.getElem?_toList]
    by_cases hj : j < acc.size
    · have e6 : acc[j]? = some acc[j] := Array.getElem?_eq_getElem hj
      obtain ⟨en, e7, e8⟩ := hacc.2 j _ e6
      rw [e6, e8]
      have e9 : es.toList[j]? = some en := by simpa using e7
      rw [e4, List.getElem?_map] at e9
      cases q2 : ys[j]? with
      | none => rw [q2] at e9; cases e9
      | some y => rw [q2] at e9; cases e9; rfl
    · rw [Array.getElem?_eq_none (by omega), List.getElem?_eq_none (by omega)]
      rfl
  have I1 : Inv X pins σ H { s with heap := h', toks := tk } := I.kept (t' := tk) hk
  have hv : ∀ (l : List (List Key × Addr × Value)), Vals ((l.map (·.2.1)).map V.ref) (l.map fun y => Value.ref y.2.1) := fun l => by
    induction l with
    | nil => exact .nil
    | cons y r ih => exact .cons rfl ih
  have I2 : Inv X pins σ (upd H h'.objs.size (.tup ((ys.map (·.2.1)).map V.ref))) { s with heap := h'.push { cls := .type "tuple", data := .seq acc }, toks := tk } :=
    I1.laid (t' := tk) (fun b o e => Heap.get?_push_of_some _ e) (Nat.le_refl _) (show ObjOk X.prog X.w _ _ _ (.tup _) from ⟨by rw [List.length_map, List.length_map, ← hsz]; exact hl, _, hv ys, by
      have := IsTup.new h' acc
      rw [← eacc]
      simpa using this⟩)
  have pr : Paired (fun (kv : List Key × V) b => H b = some (.tup (kv.1.map kV))) kvs (ys.map (·.2.1)) := by
    have gen : ∀ {kvs : List (List Key × V)} {ys : List (List Key × Addr × Value)}, Paired (fun (p : List Key × V) (q : List Key × Addr × Value) => p.1 = q.1 ∧ H q.2.1 = some (.tup (p.1.map kV)) ∧ RelV p.2 q.2.2) kvs ys → Paired (fun (kv : List Key × V) b => H b = some (.tup (kv.1.map kV))) kvs (ys.map (·.2.1)) := fun rel => by
     induction rel with
     | nil => exact .nil
     | cons h t ih => exact .cons h.2.1 ih
    exact gen rel
  exact ⟨.ref h'.objs.size, _, I2, rfl, q _ _ (I1.hok.fresh (Nat.le_refl _)) pr⟩
def tupDD : List D → Option D
  | [.dct _ kvs] => if dKind kvs = some false then some (.tup (kvs.map (·.1))) else none
  | _ => none
theorem RPs.keys {C : Kt} {H : Hp} : ∀ {ms : List D} {ks : List Key}, kysK ms = some ks → RPs C H ms (ks.map kV) []
  | [], _, h => by cases h; exact ⟨rfl, rfl⟩
  | m :: r, _, h => by
    unfold kysK at h
    split at h
    · rename_i k ks e1 e2
      cases h
      refine ⟨_, _, [], [], rfl, rfl, ?_, RPs.keys e2⟩
      cases m with
      | int i => cases e1; exact ⟨rfl, rfl⟩
      | str s => cases e1; exact ⟨rfl, rfl⟩
      | _ => cases e1
    · cases h
theorem cd_tupT {C : Kt} : CallD C rTupT tupDD := by
  intro H ms vs fp m x e Q k
  unfold tupDD at e
  split at e
  · rename_i o kvs
    split at e
    · rename_i hd
      cases e
      obtain ⟨v, ev, x2⟩ := one_of x
      subst ev
      obtain ⟨a, g, rfl, hh⟩ := x2
      rcases hh with ⟨ws, h1, h2⟩ | ⟨ws, h1, h2⟩
      · exact (dKind_K h2 hd).elim
      · refine ⟨a, ws, rfl, h1.rdd, fun p bs hp pr => ?_⟩
        have sm := same_tup (u := .tup (bs.map V.ref)) hp
        have hk : ∀ {kvs : List (D × D)} {ws : List (List Key × V)} {g : List Addr} {bs : List Addr}, RPt C H kvs ws g → Paired (fun (kv : List Key × V) b => H b = some (.tup (kv.1.map kV))) ws bs → RPs C H (kvs.map (·.1)) (bs.map V.ref) [] := by
          intro kvs
          induction kvs with
          | nil =>
            intro ws g bs h2 pr
            obtain ⟨rfl, _⟩ := h2
            cases pr
            exact ⟨rfl, rfl⟩
          | cons q r ih =>
            intro ws g bs h2 pr
            obtain ⟨kk, mm⟩ := q
            obtain ⟨y, v, wr, f1, f2, rfl, rfl, e1, e2, e3⟩ := h2
            cases pr with
            | cons hb t =>
              refine ⟨_, _, [], [], rfl, rfl, ?_, ih e3 t⟩
              cases kk with
              | tup ms => exact ⟨_, _, rfl, hb, RPs.keys e1⟩
              | _ => cases e1
        exact k (.ref p) _ [] sm ⟨p, _, rfl, upd_same, (hk h2 pr).st _ (Same.st1 sm _)⟩ List.nodup_nil noneIn
    · cases e
  · cases e
end T

set_option Elab.async false
set_option linter.all false
set_option maxRecDepth 100000
set_option maxHeartbeats 4000000
namespace T
open PySem PySem.Spec PyProof.Rows L2

/-! ### repr of data -/
def rReprC (K : PySem.W.Frag) : RC := fun xs H Q => ∃ a d, xs = [.ref a] ∧ Dp K H (.ref a) d ∧ d.showable = true ∧ d.hasDict = false ∧ d.depth ≤ 50 ∧ d.shown.length ≤ 1000000 ∧ Q (.str d.shown) H
theorem call_reprC {X : Cx} {j : Nat} (hr : Room j X.A) : CallR X (.builtin "repr") (rReprC X.K) := by
  intro pins s σ H xs us Q I r h
  obtain ⟨a, d, rfl, hd, h1, h2, h3, h4, q⟩ := h
  rw [Vals.ref1 r]
  obtain ⟨as, rd⟩ := Dp.reads I d (.ref a) (.ref a) hd rfl
  refine repr_of_reads' rd h1 (fun z => by rw [h2] at z; cases z) hr.gd (by have := hr.un; omega) (fun b o e => e) (fun h' u tk hk => ?_) (by rw [sizeLine_eq]; omega)
  exact ⟨.str d.shown, H, I.kept (t' := tk) hk, ⟨u, rfl⟩, q⟩
def isCt : D → Bool
  | .tup _ => true
  | .lst _ _ => true
  | _ => false
def reprC : List D → Option D
  | [m] => if isCt m = true then (match toP m with
    | some d => if d.showable = true ∧ d.hasDict = false ∧ d.depth ≤ 50 ∧ d.shown.length ≤ 1000000 then some (.str d.shown) else none
    | none => none) else none
  | _ => none
theorem cd_reprC {C : Kt} : CallD C (rReprC C.K) reprC := by
  intro H ms vs fp m x e Q k
  unfold reprC at e
  split at e
  · rename_i m0
    split at e
    · rename_i hc
      split at e
      · rename_i d q
        split at e
        · rename_i hh
          cases e
          obtain ⟨v, ev, x2⟩ := one_of x
          subst ev
          have dp := x2.dp m0 q
          have : ∃ a, v = .ref a := by
            cases m0 with
            | tup ms => obtain ⟨a, _, rfl, _⟩ := x2; exact ⟨a, rfl⟩
            | lst o ms => obtain ⟨a, _, _, rfl, _⟩ := x2; exact ⟨a, rfl⟩
            | _ => cases hc
          obtain ⟨a, rfl⟩ := this
          exact ⟨a, d, rfl, dp, hh.1, hh.2.1, hh.2.2.1, hh.2.2.2, str_res k⟩
        · cases e
      · cases e
    · cases e
  · cases e
def rRepr0 : RC := fun xs H Q => (∃ b, xs = [.bl b] ∧ Q (.str (if b then "True" else "False")) H) ∨ (xs = [.non] ∧ Q (.str "None") H) ∨ (∃ i, xs = [.int i] ∧ i.natAbs.log2 < 1920 ∧ Q (.str (toString i)) H) ∨ (∃ x, xs = [.str x] ∧ (reprText x).length ≤ 1000000 ∧ Q (.str (reprText x)) H)
theorem call_repr0 {X : Cx} : CallR X (.builtin "repr") rRepr0 := by
  intro pins s σ H xs us Q I r h
  rcases h with ⟨b, rfl, q⟩ | ⟨rfl, q⟩ | ⟨i, rfl, hz, q⟩ | ⟨x, rfl, hz, q⟩
  · obtain ⟨u, rfl, e⟩ := vals1 r
    cases e
    exact PySem.P.repr_of_bool ⟨.str _, H, I.tok _, ⟨_, rfl⟩, q⟩
  · obtain ⟨u, rfl, e⟩ := vals1 r
    cases e
    exact PySem.P.repr_of_none ⟨.str _, H, I.tok _, ⟨_, rfl⟩, q⟩
  · obtain ⟨u, rfl, t, rfl⟩ := vals1 r
    exact PySem.P.repr_of_int hz ⟨.str _, H, I.tok _, ⟨_, rfl⟩, q⟩
  · obtain ⟨u, rfl, t, rfl⟩ := vals1 r
    exact PySem.P.repr_of_str ⟨.str _, H, I.tok _, ⟨_, rfl⟩, q⟩ (by rw [sizeLine_eq]; omega)
def repr0 : List D → Option D
  | [.bl b] => some (.str (if b then "True" else "False"))
  | [.non] => some (.str "None")
  | [.int i] => if i.natAbs.log2 < 1920 then some (.str (toString i)) else none
  | [.str x] => if (reprText x).length ≤ 1000000 then some (.str (reprText x)) else none
  | _ => none
theorem cd_repr0 {C : Kt} : CallD C rRepr0 repr0 := by
  intro H ms vs fp m x e Q k
  unfold repr0 at e
  split at e
  · cases e
    obtain ⟨v, ev, x2⟩ := one_of x
    subst ev
    obtain ⟨rfl, _⟩ := x2
    exact .inl ⟨_, rfl, str_res k⟩
  · cases e
    obtain ⟨v, ev, x2⟩ := one_of x
    subst ev
    obtain ⟨rfl, _⟩ := x2
    exact .inr (.inl ⟨rfl, str_res k⟩)
  · split at e
    · rename_i i hi
      cases e
      obtain ⟨v, ev, x2⟩ := one_of x
      subst ev
      obtain ⟨rfl, _⟩ := x2
      exact .inr (.inr (.inl ⟨_, rfl, hi, str_res k⟩))
    · cases e
  · split at e
    · rename_i z hi
      cases e
      obtain ⟨v, ev, x2⟩ := one_of x
      subst ev
      obtain ⟨rfl, _⟩ := x2
      exact .inr (.inr (.inr ⟨_, rfl, hi, str_res k⟩))
    · cases e
  · cases e
def reprD : List D → Option D := fun ms => match reprC ms with
  | some m => some m
  | none => repr0 ms
theorem call_repr {X : Cx} {j : Nat} (hr : Room j X.A) : CallR X (.builtin "repr") (fun xs H Q => rReprC X.K xs H Q ∨ rRepr0 xs H Q) := CallR.or (call_reprC hr) call_repr0
theorem cd_repr {C : Kt} : CallD C (fun xs H Q => rReprC C.K xs H Q ∨ rRepr0 xs H Q) reprD := CallD.or cd_reprC cd_repr0
end T

set_option Elab.async false
set_option linter.all false
set_option maxRecDepth 100000
set_option maxHeartbeats 4000000
namespace T
open PySem PySem.Spec PyProof.Rows L2

/-! ### module constants -/
structure GC (K : PySem.W.Frag) (mg : Str → Option Value) (x : Str) (m : D) : Prop where
  ex : ∃ v u, mg x = some u ∧ RelV v u ∧ ∀ H, RP ⟨K, mg⟩ H m v []
theorem U_gc {X : Cx} {x : Str} {m : D} {pos : Pos} (hg : Gl X x) (G : GC X.K X.mg x m) (hd : (x == ("__debug__" : Str)) = false := by decide) : PE X (.Name x pos) (tU (kt X) (pK m)) := by
  obtain ⟨v, u, h1, h2, h3⟩ := G.ex
  exact U_glob hg h1 h2 h3 hd
/-! ### the law's def called by the claim -/
theorem law_callG {P : Program} {w : World} {K : PySem.W.Frag} {mg mb : Str → Option Value} {CX : CXT} {k : Nat} {fa a : Addr} {fd : FuncData} {x : Str} {sp : Sp} {s₁ : Shared} {vs : List Value} {ns : List Int}
    (KX : K.In s₁.heap) (hns : s₁.heap.Ns mainGlobals mg) (hb : s₁.heap.Ns builtinsNs mb) (hbb : ∀ x : Str, x ≠ "__name__" → mb x = bootBuiltins x) (hlim : s₁.heap.NoLimit) (hg : s₁.gens = #[])
    (ha : s₁.heap.get? a = some { cls := .type "list", data := .seq vs.toArray }) (hi : IntsAre vs ns) (hl : ns.length ≤ sizeLine) (hr : L2.Room k callerA)
    (F : ∀ base : Heap, K.In base → base.Ns mainGlobals mg → FnOk P w K mg base CX k fa fd [x] sp) (hbind : ∀ (s : Shared) (u : Value), BindsTo s fd ⟨[u], []⟩ [(x, u)])
    (hsp : ∀ H : Hp, Only H → SqL K H a (ns.map V.int) → sp [.ref a] H (fun v _ => v = .bl true) fun _ _ _ => False)
    (hCX : ∀ H e s', CX [] H s₁ (fun _ _ _ => False) e s' → False) :
    codeAny (model P w) callerA (.call (.ref fa) ⟨[.ref a], []⟩) (fun r s' => r = .ok (.ret (.bool true)) ∧ OldK s₁.heap s'.heap ∧ s'.os = s₁.os ∧ AllBare s'.gens) s₁ := by
  have rv := vals_ints hi
  have lenV := hi.length
  -- from an abstract heap in which nothing but the script may be tracked
  have core : ∀ H : Hp, Only H → SqL K H a (ns.map V.int) → HOk P w H s₁.heap → (∀ b, H b ≠ none → b = a) → (H a ≠ none → K.lookup a = none) →
      codeAny (model P w) callerA (.call (.ref fa) ⟨[.ref a], []⟩) (fun r s' => r = .ok (.ret (.bool true)) ∧ OldK s₁.heap s'.heap ∧ s'.os = s₁.os ∧ AllBare s'.gens) s₁ := by
    intro H hO hS hok hA hK
    have base_of : ∀ {b : Addr} {o : Obj}, s₁.heap.get? b = some o → H b = none → (hidT s₁.heap H).get? b = some o := fun e n => hidT_get e n
    have noA : ∀ {b : Addr} {o : Obj} {es : Array DictEntry} {ep : Nat}, s₁.heap.get? b = some o → o.data = .dict es ep → H b = none := fun {b o es ep} e d => by
      cases q : H b with
      | none => rfl
      | some u =>
        have e' : b = a := hA b (by rw [q]; simp)
        subst e'
        rw [ha] at e; cases e
        have d' : Data.seq vs.toArray _ = Data.dict es ep := d
        cases d'
    have nsK : ∀ {b : Addr} {m : Str → Option Value}, s₁.heap.Ns b m → (hidT s₁.heap H).Ns b m := fun {b m} ⟨o, es, ep, e, d, r⟩ => ⟨o, es, ep, base_of e (noA e d), d, r⟩
    have hKb : K.In (hidT s₁.heap H) := fun b o e => base_of (KX b o e) (by
      cases q : H b with
      | none => rfl
      | some u =>
        have e' : b = a := hA b (by rw [q]; simp)
        subst e'
        rw [hK (by rw [q]; simp)] at e; cases e)
    have hM : Mod K mg (hidT s₁.heap H) := ⟨hKb, nsK hns, ⟨mb, nsK hb, hbb⟩, let ⟨mc, h1, h2⟩ := hlim; ⟨mc, nsK h1, h2⟩⟩
    have e0 : Env0 P w K mg (hidT s₁.heap H) callerA [] s₁ H := ⟨rfl, hM, fun b o e => of_hidT e, Nat.le_of_eq (hidT_size _ _), trivial, fun b hb => absurd (show b ∈ ([] : List Addr) from hb) (by simp), hok, .of_eq hg⟩
    refine codeAny_mono ((F _ hKb (nsK hns)).run callerA [] s₁ H ⟨[.ref a], []⟩ [.ref a] [.ref a] _ _ ⟨hr, rfl⟩ e0 (hbind s₁ (.ref a)) (.cons rfl .nil) (hsp H hO hS)) fun r s' h => ?_
    cases r with
    | error e => exact (hCX H e s' h).elim
    | ok fl =>
      cases fl with
      | next => exact False.elim h
      | brk => exact False.elim h
      | cont => exact False.elim h
      | ret u =>
        obtain ⟨v, H', os, bare, un, hok', r', q⟩ := h
        have q' : v = .bl true := q
        subst q'
        obtain rfl : u = Value.bool true := r'
        refine ⟨rfl, OldK.of_keep fun b o e => ?_, os, bare⟩
        cases q : H b with
        | none => exact un.keep b o e q (by intro z; exact absurd (show b ∈ ([] : List Addr) from z) (by simp)) (by simp)
        | some u =>
          rcases hO b with z | ⟨ob, xs, z⟩
          · rw [q] at z; cases z
          · have z2 := un.frzs b ob _ z
            obtain ⟨e1, _⟩ := hok b _ z
            obtain ⟨e2, _⟩ := hok' b _ z2
            rw [e] at e1; cases e1
            exact e2
  cases hk : K.lookup a with
  | some o =>
    -- the script is one of the module's own objects
    have e := KX a o hk
    rw [ha] at e
    cases e
    refine core (fun _ => none) (fun _ => .inl rfl) (.inr ⟨_, vs.toArray, _, hk, rfl, rfl, rfl, by rw [List.size_toArray, lenV]; exact hl, by simpa using rv⟩) (fun b u z => by have z' : (none : Option HO) = some u := z; cases z') (fun b z => absurd rfl z) fun z => absurd rfl z
  | none =>
    refine core (fun b => if b = a then some (.frz { cls := .type "list", data := .seq vs.toArray } (.lst (ns.map V.int))) else none) (fun b => ?_) (.inl (.inr ⟨{ cls := .type "list", data := .seq vs.toArray }, if_pos rfl⟩)) (fun b u z => ?_) (fun b z => ?_) fun _ => hk
    · by_cases hb : b = a
      · exact .inr ⟨_, _, if_pos hb⟩
      · exact .inl (if_neg hb)
    · by_cases hb : b = a
      · have z' := (if_pos hb).symm.trans z
        cases z'
        subst hb
        exact ⟨ha, by rw [List.length_map]; exact hl, vs, _, rv, ha⟩
      · have z' := (if_neg hb).symm.trans z
        cases z'
    · by_cases hb : b = a
      · exact hb
      · exact absurd (if_neg hb) z
theorem walk_ofG {l : PySem.W.OpenLaw} {n k : Nat} {q : Program} {loose : List Str} {XP : (Str → Option Value) → Heap → Prop} {YP : World → Heap → Prop} {d : DefRec} {K : Params → PySem.W.Frag} {CX : World → CXT} {sp : World → Sp} {x : Str}
    (hn : l.most = some n) (hn2 : n ≤ sizeLine) (hdf : d.params.defaults = []) (hr : L2.Room k callerA)
    (hY : ∀ (w : World) (h : Heap), YP w h → (K w.params).In h)
    (F : ∀ (w : World) (mg : Str → Option Value) (fa : Addr) (h : Heap), (K w.params).In h → h.Ns mainGlobals mg → mg d.name = some (.ref fa) →
      ∃ fd : FuncData, (∀ (s : Shared) (u : Value), BindsTo s fd ⟨[u], []⟩ [(x, u)]) ∧
        ∀ base : Heap, (K w.params).In base → base.Ns mainGlobals mg → FnOk l.prog w (K w.params) mg base (CX w) k fa fd [x] (sp w))
    (hsp : ∀ (w : World) (H : Hp) (a : Addr) (ns : List Int), ns.length ≤ n → Only H → SqL (K w.params) H a (ns.map V.int) → sp w [.ref a] H (fun v _ => v = .bl true) fun _ _ _ => False)
    (hCX : ∀ (w : World) (H : Hp) (s : Shared) (e : Value) (s' : Shared), CX w [] H s (fun _ _ _ => False) e s' → False) :
    PySem.W.WalkO q loose XP YP l.row.toRowW d [] (fun f vs => PySem.call f vs) := by
  refine Att.attach_call hn hdf fun w s₀ s₁ mg mb fa o pm cd doc a vs ns G Y ho hd hcd hmg hobj hints hlen hg => ?_
  have KX := hY w _ Y
  obtain ⟨fd, hb, hF⟩ := F w mg fa _ KX G.T.g hmg
  exact law_callG KX G.T.g G.T.b G.T.builtins G.T.nolimit hg hobj hints (Nat.le_trans hlen hn2) hr hF hb (fun H hO hS => hsp w H a ns hlen hO hS) fun H e s' => hCX w H s₁ e s'
end T

set_option Elab.async false
set_option linter.all false
set_option maxRecDepth 100000
set_option maxHeartbeats 4000000
namespace T
open PySem PySem.Spec PyProof.Rows L2

/-! ### a op b op c -/
def pChain (f g : D → D → Option D) (p q r : SV) : SV := fun env => match p env, q env with
  | some x, some y => match f x y with
    | some (.bl true) => (match r env with
      | some z => g y z
      | none => none)
    | some (.bl false) => some (.bl false)
    | _ => none
  | _, _ => none
theorem chain_u {C : Kt} {σ : L2.St} {H : Hp} {Q : VK} {r r' : R2} {f g : D → D → Option D} (hf : Op2 C r f) (hg : Op2 C r' g) {p q t : SV} (x : tU C (pChain f g p q t) σ H Q) : tChain r r' (tV C p) (tV C q) (tV C t) σ H Q := by
  obtain ⟨env, fp, m, e, h, k⟩ := x
  unfold pChain at h
  split at h
  · rename_i a b e1 e2
    refine ⟨env, fp, a, e, e1, fun v H1 f1 s1 x1 => ⟨env, fp, b, e.st env (Same.st1 s1 _), e2, fun u H2 f2 s2 x2 => ?_⟩⟩
    have sm := s1.trans s2
    split at h
    · rename_i q1
      refine hf H2 a b v u f1 f2 _ (x1.st a (Same.st1 s2 _)) x2 q1 _ fun w H3 fm s3 y _ _ => ⟨true, y.1, iteT ?_⟩
      split at h
      · rename_i z e3
        refine ⟨env, fp, z, e.st env (Same.st1 (sm.trans s3) _), e3, fun t4 H4 f4 s4 x4 => ?_⟩
        exact hg H4 b z u t4 f2 f4 m (x2.st b (Same.st1 (s3.trans s4) _)) x4 h Q fun w H5 fm s5 y n fr => k w H5 fm ((sm.trans (s3.trans s4)).trans s5) y n fun c hc => (sm.trans (s3.trans s4)).free (fr c hc)
      · cases h
    · rename_i q1
      cases h
      exact hf H2 a b v u f1 f2 _ (x1.st a (Same.st1 s2 _)) x2 q1 _ fun w H3 fm s3 y _ _ => ⟨false, y.1, iteF (k _ H3 [] (sm.trans s3) ⟨rfl, rfl⟩ List.nodup_nil noneIn)⟩
    · cases h
  · cases h
theorem U_chain {X : Cx} {a b c : Expr} {pos : Pos} {op op' : CmpOp} {r r' : R2} {f g : D → D → Option D} {p q t : SV} (ho : OpR X (compareOp op) r) (ho' : OpR X (compareOp op') r') (hf : Op2 (kt X) r f) (hg : Op2 (kt X) r' g) (ha : PE X a (tV (kt X) p)) (hb : PE X b (tV (kt X) q)) (hc : PE X c (tV (kt X) t))
    (hm : lastMarks [op, op'] [b, c] = false := by with_unfolding_all rfl) : PE X (.Compare a [op, op'] [b, c] pos) (tU (kt X) (pChain f g p q t)) := pe_imp (pe_chain ho ho' ha hb hc hm) fun _ _ _ => chain_u hf hg
def rgL (n : Int) : Option D := if 0 ≤ n ∧ n ≤ 1000000 then some (.lst true ((List.range n.toNat).map fun i => .int (i : Nat))) else none
def lstRg : D → Option D
  | .int n => rgL n
  | _ => none
theorem lstRg_u {C : Kt} {σ : L2.St} {H : Hp} {Q : VK} {p : SV} (x : tU C (p1 lstRg p) σ H Q) : tLstRg (tRg1 (tV C p)) σ H Q := by
  obtain ⟨env, fp, m, r, e, k⟩ := x
  unfold p1 at e
  cases q : p env with
  | none => rw [q] at e; cases e
  | some z =>
    rw [q] at e
    simp only [Option.bind_some] at e
    cases z with
    | int n =>
      unfold lstRg rgL at e
      dsimp only at e
      split at e
      · rename_i hn
        cases e
        refine ⟨env, fp, _, r, q, fun v H1 fm s y => ⟨n, y.1, ⟨by omega, by omega, by omega, by omega, by omega⟩, fun a ha => ?_⟩⟩
        have sm := same_tup (u := .lst (rgV 0 n)) ha
        have : RPs C (upd H1 a (.lst (rgV 0 n))) ((List.range n.toNat).map fun i => D.int (i : Nat)) (rgV 0 n) [] := by
          have e1 : rgV 0 n = ((List.range n.toNat).map fun i => ((i : Nat) : Int)).map V.int := by
            unfold rgV
            simp
          have e2 : ((List.range n.toNat).map fun i => D.int (i : Nat)) = ((List.range n.toNat).map fun i => ((i : Nat) : Int)).map D.int := by simp
          rw [e1, e2]
          exact RPs.ints _
        exact k (.ref a) _ [a] (s.trans sm) ⟨a, _, [], rfl, ⟨upd_same, rfl⟩, this⟩ (by simp) fun b hb => by rw [List.mem_singleton.mp hb]; exact s.free ha
      · cases e
    | _ => cases e
theorem U_lstRg {X : Cx} {a : Expr} {p p2 pos pos2 : Pos} {sp : SV} (hc : X.calm = true) (hg : Gl X "list") (hm : X.mg "list" = none) (hg2 : Gl X "range") (hm2 : X.mg "range" = none) (ha : PE X a (tV (kt X) sp))
    (na : starEach [a] X.env = (false, eval a X.env) :: starEach [] X.env := by rfl) (na2 : starEach [.Call (.Name "range" p2) [a] [] pos2] X.env = (false, eval (.Call (.Name "range" p2) [a] [] pos2) X.env) :: starEach [] X.env := by rfl) :
    PE X (.Call (.Name "list" p) [.Call (.Name "range" p2) [a] [] pos2] [] pos) (tU (kt X) (p1 lstRg sp)) := pe_imp (pe_listRg hc hg hm (prg_1 hg2 hm2 ha na) na2) fun _ _ _ => lstRg_u
end T

set_option Elab.async false
set_option linter.all false
set_option maxRecDepth 100000
set_option maxHeartbeats 4000000
namespace T
open PySem PySem.Spec PyProof.Rows L2

/-! ### the same comparisons as tests -/
theorem test_u {C : Kt} {σ : L2.St} {H : Hp} {Q : Bool → Hp → Prop} {p : SV} {t : TE} (h : ∀ {Q : VK}, tU C p σ H Q → t σ H Q) (x : tTU C (qB p) σ H Q) : tTest t σ H Q := by
  obtain ⟨env, fp, b, r, e, k⟩ := x
  unfold qB at e
  split at e
  · rename_i b' q
    cases e
    exact h ⟨env, fp, _, r, q, fun v H' fm s y _ _ => ⟨b, y.1, k H' s⟩⟩
  · cases e
section
variable {X : Cx} {a i o : Expr} {x : Str} {q pos : Pos} {ds : List PyData} {p pq : SV} {j : Nat}
theorem TU_inG (hr : Room j X.A) (hg : Gl X x) (G : GT X.K X.mg x ds) (ha : PE X a (tV (kt X) p)) (hd : (x == ("__debug__" : Str)) = false := by decide) (hm : behindInMarks .In (.Name x q) = false := by rfl) : PT X (.Compare a [.In] [.Name x q] pos) (tTU (kt X) (qB (p1 (inGD ds false) p))) := by
  obtain ⟨b, hb, h⟩ := G.ex
  exact pt_imp (pt_cmpR (or_in (hu65 hr)) ha (pe_glob (v := .ref b) hg hb rfl hd) hm) fun _ _ _ => test_u (inG_u h)
theorem TU_ninG (hr : Room j X.A) (hg : Gl X x) (G : GT X.K X.mg x ds) (ha : PE X a (tV (kt X) p)) (hd : (x == ("__debug__" : Str)) = false := by decide) (hm : behindInMarks .NotIn (.Name x q) = false := by rfl) : PT X (.Compare a [.NotIn] [.Name x q] pos) (tTU (kt X) (qB (p1 (inGD ds true) p))) := by
  obtain ⟨b, hb, h⟩ := G.ex
  exact pt_imp (pt_cmpR (or_notIn (hu65 hr)) ha (pe_glob (v := .ref b) hg hb rfl hd) hm) fun _ _ _ => test_u (ninG_u h)
end
end T

set_option Elab.async false
set_option linter.all false
set_option maxRecDepth 100000
set_option maxHeartbeats 4000000
namespace T
open PySem PySem.Spec PyProof.Rows L2

/-! ### calls whose arguments are made for the call -/
theorem spF_fresh {C : Kt} {F : SF} {H H1 : Hp} {ms : List D} {vs : List V} {f : List Addr} {m : D} {Q : VK} {E : XK} (s : Same H H1) (h : okF F ms = some m) (x : RPs C H1 ms vs f) (nd : f.Nodup) (fr : ∀ a ∈ f, H a = none)
    (k : ∀ w H' fm, Same H H' → RP C H' m w fm → fm.Nodup → (∀ a ∈ fm, H a = none) → Q w H') : spF C F vs H1 Q E := by
  unfold okF at h
  split at h
  · rename_i m' os q
    cases h
    refine ⟨ms, f, x, nd, ?_⟩
    rw [q]
    intro v H' fm fo y o nd mv
    refine k v H' fm (fun a o e => mv.keep a o (s a o e) fun z => ?_) y (List.nodup_append.mp nd).1 fun a ha => (mv.sub a (List.mem_append_left _ ha)).elim (fun z => fr a z) fun z => s.free z
    have := fr a z
    rw [e] at this
    cases this
  · cases h
def pCallU (F : SF) (pa : SAV) : SV := fun env => match pa env with
  | some ms => okF F ms
  | none => none
theorem pcallU_u {C : Kt} {σ : L2.St} {H : Hp} {Q : VK} {F : SF} {pa : SAV} {E : L2.St → XK} (x : tU C (pCallU F pa) σ H Q) : tCallS (spF C F) E (tAU C pa) σ H Q := by
  obtain ⟨env, fp, m, r, h, k⟩ := x
  unfold pCallU at h
  split at h
  · rename_i ms q
    exact ⟨env, fp, ms, r, q, fun vs H1 fm s x nd frs => spF_fresh s h x nd frs k⟩
  · cases h
section
variable {X : Cx} {k j : Nat} {F : SF} {c m x : Str} {q p pos apos : Pos} {e o : Expr} {es : List Expr} {pa : SAV} {po : SV}
theorem U_callU (d : Df X.prog X.w X.K X.mg X.base k x F) (hr : Room j X.A) (hk : k ≤ j) (hg : Gl X x) (ha : PA X (e :: es) (tAU (kt X) pa)) (hdb : (x == ("__debug__" : Str)) = false := by decide)
    (he : starEach (e :: es) X.env = (false, eval e X.env) :: starEach es X.env := by rfl) (hpl : (backTo pos (starEach es X.env)).any (·.1) = false := by rfl) :
    PE X (.Call (.Name x p) (e :: es) [] pos) (tU (kt X) (pCallU F pa)) := by
  obtain ⟨f, fd, ps, G, hm, hkp, hb⟩ := d.ex
  exact pe_imp (pe_callS G (hr.mono hk) hg hm hkp hb (fun σ => passAt takes0 σ) ha hdb he hpl) fun _ _ _ => pcallU_u
end
end T

set_option Elab.async false
set_option linter.all false
set_option maxRecDepth 100000
set_option maxHeartbeats 4000000
namespace Q
open PySem PySem.Spec PyProof.Rows L2 T
def b_P_greater : SS :=
  (sRet (sU (pC tupleD (vCons (pLc [2, 3] (iRgU zipD (vCons (pVar 0) (vCons (pVar 1) vNil))) (bTup 2 (bCons (bName 2) (bCons (bName 3) bNil))) qYes (pC max2D (vCons (pC intD (vCons (pVar 2) vNil)) (vCons (pC intD (vCons (pVar 3) vNil)) vNil)))) vNil))))
def F_P_greater : SF := fnS 4 2 (kpL [0, 1]) b_P_greater
def b_P_is_within : SS :=
  (sRet (sU (pC allD (vCons (pLc [2, 3] (iRgU zipD (vCons (pVar 0) (vCons (pVar 1) vNil))) (bTup 2 (bCons (bName 2) (bCons (bName 3) bNil))) qYes (p2 (cmpD fun i j => decide (i ≤ j)) (pVar 2) (pVar 3))) vNil))))
def F_P_is_within : SF := fnS 4 2 (kpL [0, 1]) b_P_is_within
def b_P_least_of : SS :=
  (sSeq (sSet 1 (sU (p1 sortSetD (pVar 0))))
    (sRet (sU (pThaw (pLc [2] (iP (pVar 1)) (bName 2) (qNot (qT (pC anyD (vCons (pLc [3] (iP (pVar 1)) (bName 3) qYes (pAndV (p2 neD (pVar 3) (pVar 2)) (pCall F_P_is_within (vCons (pVar 3) (vCons (pVar 2) vNil))))) vNil)))) (pFz (pVar 2)))))))
def F_P_least_of : SF := fnS 4 1 (kpL [0]) b_P_least_of
def b_P_shares : SS :=
  (sRet (sU (pIf (qB (p2 eqD (pVar 1) (pK (.int 1)))) (pLst (vCons (pTup (vCons (pFz (pVar 0)) vNil)) vNil)) (pLc [2] (iRgU rng1D (vCons (p2 addD (pVar 0) (pK (.int 1))) vNil)) (bName 2) qYes (pTup (vCons (pFz (pVar 2)) (vCons (p2 subD (pVar 0) (pVar 2)) vNil)))))))
def F_P_shares : SF := fnS 3 2 (kpL [0, 1]) b_P_shares
def b_P_plate_needs : SS :=
  (sSeq (sAsg (bTup 4 (bCons (bName 3) (bCons (bName 4) (bCons (bName 5) (bCons (bName 6) bNil))))) (sU (pFz (pVar 0))))
    (sSeq (sIf (qU (qB (p2 isNotD (pVar 6) (pK .non)))) (sRet (sU (pLst (vCons (pC tupleD (vCons (pLc [10] (iP (pVar 1)) (bName 10) qYes (p2 mulD (pVar 5) (pC intD (vCons (p2 eqD (pVar 10) (pTup (vCons (pFz (pVar 6)) (vCons (pFz (pVar 4)) vNil)))) vNil)))) vNil)) vNil)))) sPass)
    (sSeq (sSet 7 (sU (pLst vNil)))
    (sSeq (sFor (iU (iP (pCallU F_P_shares (vCons (pFz (pVar 5)) (vCons (pC lenD (vCons (pVar 2) vNil)) vNil))))) (bName 8) (sSeq (sSet 9 (sU (pDc [11, 12] (iRgU zipD (vCons (pVar 2) (vCons (pVar 8) vNil))) (bTup 2 (bCons (bName 11) (bCons (bName 12) bNil))) qYes (pTup (vCons (pFz (pVar 11)) (vCons (pFz (pVar 4)) vNil))) (pFz (pVar 12)))))
    (sDrop (sLstM 7 (sU (pC tupleD (vCons (pLc [10] (iP (pVar 1)) (bName 10) qYes (pDG2 (pVar 9) (pVar 10) (pK (.int 0)))) vNil))) fAppend))))
    (sRet (sMove 7))))))
def F_P_plate_needs : SF := fnS 13 3 (kpL [0, 1, 2]) b_P_plate_needs
def b_P_gate_needs : SS :=
  (sSeq (sSet 3 (sU (pLst (vCons (p2 mulD (pTup (vCons (pK (.int 0)) vNil)) (pC lenD (vCons (pVar 1) vNil))) vNil))))
    (sSeq (sFor (iE (sFz 0)) (bName 4) (sSet 3 (sU (pLc2 [5, 6] [6] (iP (pVar 3)) (bName 5) qYes (iP (pCall F_P_plate_needs (vCons (pVar 4) (vCons (pVar 1) (vCons (pVar 2) vNil))))) (bName 6) qYes (pCall F_P_greater (vCons (pVar 5) (vCons (pVar 6) vNil)))))))
    (sRet (sU (pThaw (pC tupleD (vCons (pCall F_P_least_of (vCons (pVar 3) vNil)) vNil)))))))
def F_P_gate_needs : SF := fnS 7 3 (kpL [0, 1, 2]) b_P_gate_needs
def b_P_is_name : SS :=
  (sRet (sU (pAndV (p1 (isiD (tbT "str") (tcF [])) (pVar 0)) (pAndV (pChain (cmpD fun i j => decide (i ≤ j)) (cmpD fun i j => decide (i ≤ j)) (pK (.int 1)) (pC lenD (vCons (pVar 0) vNil)) (pK (.int 8))) (pC allD (vCons (pLc [1] (iTx (pVar 0)) (bName 1) qYes (p2 inTxD (pVar 1) (pK (.str "abcdefghijklmnopqrstuvwxyz")))) vNil))))))
def F_P_is_name : SF := fnS 2 1 (kpL [0]) b_P_is_name
def b_P_is_fresh : SS :=
  (sRet (sU (pThaw (pAndV (pCall F_P_is_name (vCons (pVar 0) vNil)) (p2 notInD (pVar 0) (pVar 1))))))
def F_P_is_fresh : SF := fnS 2 2 (kpL [0, 1]) b_P_is_fresh
def b_Reader_init : SS :=
  (sSeq (sSetF ["Reader"] 0 "own_rooms" (sU (pLst vNil)))
    (sSeq (sSetF ["Reader"] 0 "own_kinds" (sU (pLst vNil)))
    (sSeq (sSetF ["Reader"] 0 "own_plates" (sU (pLst vNil)))
    (sSetF ["Reader"] 0 "own_gates" (sU (pLst vNil))))))
def F_Reader_init : SF := fnS 1 1 (kpL [0]) b_Reader_init
def b_Reader_kind_names : SS :=
  (sRet (sU (pLc [1, 2] (iP (pFld ["Reader"] "own_kinds" (pVar 0))) (bTup 2 (bCons (bName 1) (bCons (bName 2) bNil))) qYes (pFz (pVar 1)))))
def F_Reader_kind_names : SF := fnS 3 1 (kpL [0]) b_Reader_kind_names
def b_Reader_plate_names : SS :=
  (sRet (sU (pLc [1] (iP (pFld ["Reader"] "own_plates" (pVar 0))) (bName 1) qYes (p2 ixD (pVar 1) (pK (.int 0))))))
def F_Reader_plate_names : SF := fnS 2 1 (kpL [0]) b_Reader_plate_names
def b_Reader_are_plates : SS :=
  (sSeq (sIf (qU (qOr (qB (p2 (cmpD fun i j => decide (j < i)) (pC lenD (vCons (pVar 1) vNil)) (pK (.int 2)))) (qB (p2 neD (p1 lenSetD (pVar 1)) (pC lenD (vCons (pVar 1) vNil)))))) (sRet (sU (pK (.bl false)))) sPass)
    (sRet (sU (pThaw (pC allD (vCons (pLc [2] (iP (pVar 1)) (bName 2) qYes (p2 inD (pVar 2) (pMeth "Reader" "plate_names" (pVar 0) F_Reader_plate_names vNil))) vNil))))))
def F_Reader_are_plates : SF := fnS 3 2 (kpL [0, 1]) b_Reader_are_plates
def b_Reader_bound : SS :=
  (sSeq (sPar [2, 3] (aE (sU (pK .non)) (aE (sU (pLst vNil)) aNil)))
    (sSeq (sIf (qU (qAnd (qB (p2 (cmpD fun i j => decide (j ≤ i)) (pC lenD (vCons (pVar 1) vNil)) (pK (.int 2)))) (qB (p2 eqD (p2 ixD (pVar 1) (pK (.int 0))) (pK (.str "for")))))) (sSeq (sPar [2, 1] (aE (sU (p2 ixD (pVar 1) (pK (.int 1)))) (aE (sU (pSl (pVar 1) (some (pK (.int 2))) none)) aNil)))
    (sIf (qU (qB (p2 notInD (pVar 2) (pThaw (pMeth "Reader" "kind_names" (pVar 0) F_Reader_kind_names vNil))))) (sRet (sU (pK .non))) sPass)) sPass)
    (sSeq (sIf (qU (qAnd (qB (p2 eqD (pC lenD (vCons (pVar 1) vNil)) (pK (.int 2)))) (qB (p2 eqD (p2 ixD (pVar 1) (pK (.int 0))) (pK (.str "while")))))) (sSeq (sPar [3, 1] (aE (sU (pM splitD (p2 ixD (pVar 1) (pK (.int 1))) (pK (.str ",")))) (aE (sU (pLst vNil)) aNil)))
    (sIf (qU (qNot (qT (pThaw (pMeth "Reader" "are_plates" (pVar 0) F_Reader_are_plates (vCons (pVar 3) vNil)))))) (sRet (sU (pK .non))) sPass)) sPass)
    (sRet (sU (pIf (qB (p2 eqD (pVar 1) (pLst vNil))) (pTup (vCons (pFz (pVar 2)) (vCons (pC tupleD (vCons (pVar 3) vNil)) vNil))) (pK .non)))))))
def F_Reader_bound : SF := fnS 4 2 (kpL [0]) b_Reader_bound
def b_Reader_take_room : SS :=
  (sSeq (sIf (qU (qOr (qB (p2 neD (pFld ["Reader"] "own_kinds" (pVar 0)) (pLst vNil))) (qOr (qB (p2 eqD (pC lenD (vCons (pFld ["Reader"] "own_rooms" (pVar 0)) vNil)) (pK (.int 5)))) (qNot (qT (pThaw (pCall F_P_is_fresh (vCons (pVar 1) (vCons (pFld ["Reader"] "own_rooms" (pVar 0)) vNil))))))))) (sRet (sU (pK (.bl false)))) sPass)
    (sSeq (sDrop (sLstF ["Reader"] 0 "own_rooms" (pFz (pVar 1)) fAppend))
    (sRet (sU (pK (.bl true))))))
def F_Reader_take_room : SF := fnS 2 2 (kpL [0, 1]) b_Reader_take_room
def b_Reader_take_kind : SS :=
  (sSeq (sIf (qU (qOr (qB (p2 (cmpD fun i j => decide (i < j)) (pC lenD (vCons (pFld ["Reader"] "own_rooms" (pVar 0)) vNil)) (pK (.int 2)))) (qB (p2 neD (p2 addD (pFld ["Reader"] "own_plates" (pVar 0)) (pFld ["Reader"] "own_gates" (pVar 0))) (pLst vNil))))) (sRet (sU (pK (.bl false)))) sPass)
    (sSeq (sSet 3 (sU (pIf (qB (p2 (cmpD fun i j => decide (i < j)) (pC lenD (vCons (pFld ["Reader"] "own_rooms" (pVar 0)) vNil)) (pK (.int 5)))) (pK (.int 2)) (pK (.int 1)))))
    (sSeq (sIf (qU (qOr (qB (p2 eqD (pC lenD (vCons (pFld ["Reader"] "own_kinds" (pVar 0)) vNil)) (pVar 3))) (qOr (qB (p2 notInD (pVar 2) (pFld ["Reader"] "own_rooms" (pVar 0)))) (qNot (qT (pThaw (pCallU F_P_is_fresh (vCons (pFz (pVar 1)) (vCons (pMeth "Reader" "kind_names" (pVar 0) F_Reader_kind_names vNil) vNil))))))))) (sRet (sU (pK (.bl false)))) sPass)
    (sSeq (sDrop (sLstF ["Reader"] 0 "own_kinds" (pTup (vCons (pFz (pVar 1)) (vCons (pFz (pVar 2)) vNil))) fAppend))
    (sRet (sU (pK (.bl true))))))))
def F_Reader_take_kind : SF := fnS 4 3 (kpL [0, 1, 2]) b_Reader_take_kind
def b_Reader_take_plate : SS :=
  (sSeq (sIf (qU (qOr (qB (p2 eqD (pFld ["Reader"] "own_kinds" (pVar 0)) (pLst vNil))) (qOr (qB (p2 neD (pFld ["Reader"] "own_gates" (pVar 0)) (pLst vNil))) (qB (p2 eqD (pC lenD (vCons (pFld ["Reader"] "own_plates" (pVar 0)) vNil)) (pK (.int 4))))))) (sRet (sU (pK (.bl false)))) sPass)
    (sSeq (sIf (qU (qOr (qNot (qT (pThaw (pCallU F_P_is_fresh (vCons (pFz (pVar 1)) (vCons (pMeth "Reader" "plate_names" (pVar 0) F_Reader_plate_names vNil) vNil)))))) (qOr (qB (p2 notInD (pVar 2) (pFld ["Reader"] "own_rooms" (pVar 0)))) (qB (p1 (inGD [.str "1", .str "2", .str "3"] true) (pVar 3)))))) (sRet (sU (pK (.bl false)))) sPass)
    (sSeq (sIf (qU (qOr (qB (p2 (cmpD fun i j => decide (j < i)) (pC lenD (vCons (pVar 4) vNil)) (pK (.int 1)))) (qNot (qT (pThaw (pC allD (vCons (pLc [5] (iP (pVar 4)) (bName 5) qYes (p2 inD (pVar 5) (pMeth "Reader" "kind_names" (pVar 0) F_Reader_kind_names vNil))) vNil))))))) (sRet (sU (pK (.bl false)))) sPass)
    (sSeq (sDrop (sLstF ["Reader"] 0 "own_plates" (pTup (vCons (pFz (pVar 1)) (vCons (pFz (pVar 2)) (vCons (pC intD (vCons (pVar 3) vNil)) (vCons (pIf (qB (p2 neD (pVar 4) (pLst vNil))) (p2 ixD (pVar 4) (pK (.int 0))) (pK .non)) vNil))))) fAppend))
    (sRet (sU (pK (.bl true))))))))
def F_Reader_take_plate : SF := fnS 6 5 (kpL [0, 1, 2, 3, 4]) b_Reader_take_plate
def b_Reader_take_gate : SS :=
  (sSeq (sAsg (bTup 3 (bCons (bName 3) (bCons (bName 4) (bCons (bName 5) bNil)))) (sU (pFz (pVar 1))))
    (sSeq (sIf (qU (qOr (qB (p2 eqD (pFld ["Reader"] "own_kinds" (pVar 0)) (pLst vNil))) (qB (p2 eqD (pC lenD (vCons (pFld ["Reader"] "own_gates" (pVar 0)) vNil)) (pK (.int 8)))))) (sRet (sU (pK (.bl false)))) sPass)
    (sSeq (sIf (qU (qOr (qNot (qT (pThaw (pCallU F_P_is_fresh (vCons (pFz (pVar 3)) (vCons (pLc [7] (iP (pFld ["Reader"] "own_gates" (pVar 0))) (bName 7) qYes (p2 ixD (pVar 7) (pK (.int 0)))) vNil)))))) (qB (p2 eqD (pVar 4) (pVar 5))))) (sRet (sU (pK (.bl false)))) sPass)
    (sSeq (sSet 6 (sMethN "Reader" "bound" 0 F_Reader_bound (aN 2 aNil)))
    (sSeq (sIf (qU (qOr (qB (p2 notInD (pVar 4) (pFld ["Reader"] "own_rooms" (pVar 0)))) (qOr (qB (p2 notInD (pVar 5) (pFld ["Reader"] "own_rooms" (pVar 0)))) (qB (p2 isD (pVar 6) (pK .non)))))) (sRet (sU (pK (.bl false)))) sPass)
    (sSeq (sDrop (sLstF ["Reader"] 0 "own_gates" (pTup (vCons (pFz (pVar 3)) (vCons (pFz (pVar 4)) (vCons (pFz (pVar 5)) (vStar (pVar 6) vNil))))) fAppend))
    (sRet (sU (pK (.bl true))))))))))
def F_Reader_take_gate : SF := fnS 8 3 (kpL [0, 1, 2]) b_Reader_take_gate
def b_Reader_take : SS :=
  (sSeq (sStar 2 3 (sU (pM splitD (pVar 1) (pK (.str " ")))))
    (sSeq (sMatch (pVar 2) (("room", (sRet (sAndV (sU (p2 eqD (pC lenD (vCons (pVar 3) vNil)) (pK (.int 1)))) (sMethN "Reader" "take_room" 0 F_Reader_take_room (aE (sU (p2 ixD (pVar 3) (pK (.int 0)))) aNil))))) :: (("kind", (sRet (sAndV (sU (p2 eqD (pC lenD (vCons (pVar 3) vNil)) (pK (.int 2)))) (sMethN "Reader" "take_kind" 0 F_Reader_take_kind (aE (sU (p2 ixD (pVar 3) (pK (.int 0)))) (aE (sU (p2 ixD (pVar 3) (pK (.int 1)))) aNil)))))) :: (("plate", (sRet (sAndV (sU (p2 (cmpD fun i j => decide (j ≤ i)) (pC lenD (vCons (pVar 3) vNil)) (pK (.int 3)))) (sMethN "Reader" "take_plate" 0 F_Reader_take_plate (aE (sU (p2 ixD (pVar 3) (pK (.int 0)))) (aE (sU (p2 ixD (pVar 3) (pK (.int 1)))) (aE (sU (p2 ixD (pVar 3) (pK (.int 2)))) (aE (sU (pSl (pVar 3) (some (pK (.int 3))) none)) aNil)))))))) :: (("gate", (sRet (sAndV (sU (p2 (cmpD fun i j => decide (j ≤ i)) (pC lenD (vCons (pVar 3) vNil)) (pK (.int 3)))) (sMethN "Reader" "take_gate" 0 F_Reader_take_gate (aE (sU (pC tupleD (vCons (pSl (pVar 3) none (some (pK (.int 3)))) vNil))) (aE (sU (pSl (pVar 3) (some (pK (.int 3))) none)) aNil)))))) :: [])))))
    (sRet (sU (pK (.bl false))))))
def F_Reader_take : SF := fnS 4 2 (kpL [0, 1]) b_Reader_take
def b_P_read_level : SS :=
  (sSeq (sIf (qU (qNot (qT (p1 (isiD (tbT "str") (tcF [])) (pVar 0))))) (fun _ => none) sPass)
    (sSeq (sPar [1, 2] (aE (sMake "Reader" F_Reader_init aNil) (aE (sU (pM splitD (pVar 0) (pK (.str "\n")))) aNil)))
    (sSeq (sFor (iC1 enumD (sFz 2)) (bTup 2 (bCons (bName 3) (bCons (bName 4) bNil))) (sIf (eNot (qTE (sMethN "Reader" "take" 1 F_Reader_take (aN 4 aNil)))) (fun _ => none) sPass))
    (sSeq (sIf (qU (qB (p2 eqD (pFld ["Reader"] "own_gates" (pVar 1)) (pLst vNil)))) (fun _ => none) sPass)
    (sRet (sMove 1))))))
def F_P_read_level : SF := fnS 5 1 (kpL [0]) b_P_read_level
def b_Level_put_steps : SS :=
  (sFor (iU (iP (pFz (pFld ["Level"] "own_gates" (pVar 0))))) (bTup 5 (bCons (bName 2) (bCons (bName 3) (bCons (bName 4) (bCons (bName 5) (bCons (bName 6) bNil)))))) (sSeq (sSet 7 (sU (pThaw (pCallU F_P_gate_needs (vCons (pLc [9] (iP (pVar 6)) (bName 9) qYes (pFz (pDG (pVar 1) (pVar 9)))) (vCons (pFz (pFld ["Level"] "own_places" (pVar 0))) (vCons (pFz (pFld ["Level"] "own_kinds" (pVar 0))) vNil)))))))
    (sFor (iU (iP (pFz (pFld ["Level"] "own_kinds" (pVar 0))))) (bName 8) (sIf (qU (qB (p2 inD (pVar 5) (pTup (vCons (pK .non) (vCons (pFz (pVar 8)) vNil)))))) (sSeq (sPutF ["Level"] 0 "own_ways" (sU (pTup (vCons (pFz (pDG (pFld ["Level"] "own_index" (pVar 0)) (pTup (vCons (pFz (pVar 8)) (vCons (pFz (pVar 3)) vNil))))) (vCons (pFz (pDG (pFld ["Level"] "own_index" (pVar 0)) (pTup (vCons (pFz (pVar 8)) (vCons (pFz (pVar 4)) vNil))))) vNil)))) (pTup (vCons (pFz (pVar 2)) (vCons (pFz (pVar 8)) vNil))))
    (sPutF ["Level"] 0 "own_needs" (sU (pFz (pVar 7))) (pTup (vCons (pFz (pVar 2)) (vCons (pFz (pVar 8)) vNil))))) sPass))))
def F_Level_put_steps : SF := fnS 10 2 (kpL [0, 1]) b_Level_put_steps
def b_Level_init : SS :=
  (sSeq (sSet 2 (sCallA F_P_read_level (aN 1 aNil)))
    (sSeq (sSetF ["Level"] 0 "own_text" (sU (pFz (pVar 1))))
    (sSeq (sSetF ["Level"] 0 "own_rooms" (sU (pC tupleD (vCons (pFld ["Reader"] "own_rooms" (pVar 2)) vNil))))
    (sSeq (sSetF ["Level"] 0 "own_kinds" (sU (pThaw (pC tupleD (vCons (pMeth "Reader" "kind_names" (pVar 2) F_Reader_kind_names vNil) vNil)))))
    (sSeq (sSetF ["Level"] 0 "own_starts" (sU (pC tupleD (vCons (pFld ["Reader"] "own_kinds" (pVar 2)) vNil))))
    (sSeq (sSetF ["Level"] 0 "own_plates" (sU (pC tupleD (vCons (pFld ["Reader"] "own_plates" (pVar 2)) vNil))))
    (sSeq (sSetF ["Level"] 0 "own_gates" (sU (pC tupleD (vCons (pFld ["Reader"] "own_gates" (pVar 2)) vNil))))
    (sSeq (sSetF ["Level"] 0 "own_places" (sU (pC tupleD (vCons (pLc2 [3, 4] [4] (iP (pFld ["Level"] "own_kinds" (pVar 0))) (bName 3) qYes (iP (pFz (pFld ["Level"] "own_rooms" (pVar 0)))) (bName 4) qYes (pTup (vCons (pFz (pVar 3)) (vCons (pFz (pVar 4)) vNil)))) vNil))))
    (sSeq (sSetF ["Level"] 0 "own_index" (sU (pDc [5, 6] (iRgU enumD (vCons (pFld ["Level"] "own_places" (pVar 0)) vNil)) (bTup 2 (bCons (bName 5) (bCons (bName 6) bNil))) qYes (pFz (pVar 6)) (pFz (pVar 5)))))
    (sSeq (sSetF ["Level"] 0 "own_ways" (sU pDN))
    (sSeq (sSetF ["Level"] 0 "own_needs" (sU pDN))
    (sSeq (sDrop (sMethN "Level" "put_steps" 0 F_Level_put_steps (aE (sU (pDc [7] (iP (pFld ["Level"] "own_plates" (pVar 0))) (bName 7) qYes (p2 ixD (pVar 7) (pK (.int 0))) (pFz (pVar 7)))) aNil)))
    (sSeq (sSetF ["Level"] 0 "own_steps" (sU (pC tupDD (vCons (pFld ["Level"] "own_ways" (pVar 0)) vNil))))
    (sSetF ["Level"] 0 "own_found" (sU pDN)))))))))))))))
def F_Level_init : SF := fnS 8 2 (kpL [0, 1]) b_Level_init
def b_Level_text : SS :=
  (sRet (sU (pFz (pFld ["Level"] "own_text" (pVar 0)))))
def F_Level_text : SF := fnS 1 1 (kpL [0]) b_Level_text
def b_Level_rooms : SS :=
  (sRet (sU (pFz (pFld ["Level"] "own_rooms" (pVar 0)))))
def F_Level_rooms : SF := fnS 1 1 (kpL [0]) b_Level_rooms
def b_Level_kinds : SS :=
  (sRet (sU (pFz (pFld ["Level"] "own_kinds" (pVar 0)))))
def F_Level_kinds : SF := fnS 1 1 (kpL [0]) b_Level_kinds
def b_Level_plates : SS :=
  (sRet (sU (pFz (pFld ["Level"] "own_plates" (pVar 0)))))
def F_Level_plates : SF := fnS 1 1 (kpL [0]) b_Level_plates
def b_Level_gates : SS :=
  (sRet (sU (pFz (pFld ["Level"] "own_gates" (pVar 0)))))
def F_Level_gates : SF := fnS 1 1 (kpL [0]) b_Level_gates
def b_pot : SS :=
  (sSeq (sSet 2 (sU (pIf (qB (p2 (cmpD fun i j => decide (i < j)) (pVar 1) (pC lenD (vCons (pVar 0) vNil)))) (p2 ixD (pVar 0) (pVar 1)) (p2 addD (p2 mulD (pK (.int 67)) (pVar 1)) (pK (.int 31))))))
    (sSeq (sSet 3 (sU (p2 mulD (p2 modD (pC intD (vCons (pC absD (vCons (pVar 2) vNil)) vNil)) (p2 powD (p2 powD (pK (.int 10)) (pK (.int 60))) (pK (.int 5)))) (pC intD (vCons (p2 (cmpD fun i j => decide (j ≤ i)) (pC absD (vCons (pVar 2) vNil)) (p2 powD (pK (.int 10)) (pK (.int 18)))) vNil)))))
    (sSeq (sSet 4 (sU (p2 modD (pC intD (vCons (pVar 2) vNil)) (pK (.int 2305843009213693951)))))
    (sRet (sU (pLst (vCons (pFz (pVar 3)) (vCons (p2 modD (pC intD (vCons (p2 addD (p2 addD (p2 mulD (pVar 4) (pK (.int 74507))) (p2 mulD (p2 mulD (pK (.int 8011)) (pVar 1)) (pVar 1))) (pK (.int 97))) vNil)) (pK (.int 2305843009213693921))) (vCons (pK (.int 0)) vNil)))))))))
def F_pot : SF := fnS 5 2 (kpL [0, 1]) b_pot
def b_take : SS :=
  (sSeq (sIf (qU (qB (p2 (cmpD fun i j => decide (j < i)) (p2 ixD (pVar 0) (pK (.int 0))) (pK (.int 0))))) (sSeq (sSet 2 (sU (p2 modD (pC intD (vCons (p2 ixD (pVar 0) (pK (.int 0))) vNil)) (pVar 1))))
    (sSeq (sSetIx 0 (sU (p2 divD (p2 ixD (pVar 0) (pK (.int 0))) (pVar 1))) (pK (.int 0)))
    (sRet (sMove 2)))) sPass)
    (sSeq (sSetIx 0 (sU (p2 addD (p2 ixD (pVar 0) (pK (.int 2))) (pK (.int 1)))) (pK (.int 2)))
    (sSeq (sSet 3 (sU (p2 ixD (pLst (vCons (pK (.int 2147483647)) (vCons (pK (.int 2147483629)) (vCons (pK (.int 2147483587)) (vCons (pK (.int 2147483579)) (vCons (pK (.int 2147483563)) vNil)))))) (p2 modD (pC intD (vCons (p2 ixD (pVar 0) (pK (.int 2))) vNil)) (pK (.int 5))))))
    (sSeq (sSet 4 (sU (p2 modD (pC intD (vCons (p2 powD (pC intD (vCons (p2 addD (p2 addD (p2 ixD (pVar 0) (pK (.int 1))) (p2 mulD (p2 mulD (pK (.int 90017)) (p2 ixD (pVar 0) (pK (.int 2)))) (p2 ixD (pVar 0) (pK (.int 2))))) (pK (.int 61))) vNil)) (pK (.int 3))) vNil)) (pVar 3))))
    (sRet (sU (p2 modD (pC intD (vCons (p2 divD (p2 mulD (pVar 4) (p2 addD (p2 modD (pC intD (vCons (pVar 4) vNil)) (pK (.int 10007))) (p2 mulD (pK (.int 97)) (p2 ixD (pVar 0) (pK (.int 2)))))) (pK (.int 127))) vNil)) (pVar 1))))))))
def F_take : SF := fnS 5 2 (kpL [0, 1]) b_take
def b_of : SS :=
  (sRet (s2N ixD 1 (sCallA F_take (aN 0 (aE (sU (pC lenD (vCons (pVar 1) vNil))) aNil)))))
def F_of : SF := fnS 2 2 (kpL [0, 1]) b_of
def b_some : SS :=
  (sSeq (sPar [3, 4] (aE (sU (pC listD (vCons (pVar 1) vNil))) (aE (sU (pLst vNil)) aNil)))
    (sSeq (sFor (iU (iRgU rng1D (vCons (pVar 2) vNil))) (bName 5) (sDrop (sLstM 4 (sLstM 3 (sCallA F_take (aN 0 (aE (sU (pC lenD (vCons (pVar 3) vNil))) aNil))) fPopAt) fAppend)))
    (sRet (sMove 4))))
def F_some : SF := fnS 6 3 (kpL [0, 1, 2]) b_some
def b_names : SS :=
  (sSeq (sSet 2 (sU (pLst (vCons (pK (.str "a")) (vCons (pK (.str "hall")) (vCons (pK (.str "room")) (vCons (pK (.str "gate")) (vCons (pK (.str "for")) (vCons (pK (.str "while")) (vCons (pK (.str "kind")) (vCons (pK (.str "plate")) (vCons (pK (.str "zz")) (vCons (pK (.str "lab")) (vCons (pK (.str "longname")) (vCons (pK (.str "imp")) (vCons (pK (.str "x")) (vCons (pK (.str "deeds")) vNil)))))))))))))))))
    (sRet (sCallA F_some (aN 0 (aN 2 (aN 1 aNil))))))
def F_names : SF := fnS 3 2 (kpL [0, 1]) b_names
def b_plates : SS :=
  (sSeq (sSet 3 (sU (pLst vNil)))
    (sSeq (sFor (iE (sCallA F_names (aN 0 (aE (sCallA F_take (aN 0 (aE (sU (p2 addD (pVar 2) (pK (.int 1)))) aNil))) aNil)))) (bName 4) (sSeq (sSet 5 (sCallA F_of (aN 0 (aE (sU (p2 addD (pLst (vCons (pK .non) (vCons (pK .non) (vCons (pK .non) vNil)))) (pLc [6] (iP (pDG (pVar 1) (pK (.str "kinds")))) (bName 6) qYes (p2 ixD (pVar 6) (pK (.int 0)))))) aNil))))
    (sDrop (sLstM 3 (sTup (aE (sU (pFz (pVar 4))) (aE (sCallA F_of (aN 0 (aE (sU (pFz (pDG (pVar 1) (pK (.str "rooms"))))) aNil))) (aE (sCallA F_of (aN 0 (aE (sU (pLst (vCons (pK (.int 1)) (vCons (pK (.int 1)) (vCons (pK (.int 1)) (vCons (pK (.int 2)) vNil)))))) aNil))) (aE (sU (pFz (pVar 5))) aNil))))) fAppend))))
    (sRet (sMove 3))))
def F_plates : SF := fnS 7 3 (kpL [0, 1, 2]) b_plates
def b_gates : SS :=
  (sSeq (sPar [4, 5, 6] (aE (sU (pLst vNil)) (aE (sU (pFz (pDG (pVar 1) (pK (.str "rooms"))))) (aE (sU (pLc [14] (iP (pDG (pVar 1) (pK (.str "plates")))) (bName 14) qYes (p2 ixD (pVar 14) (pK (.int 0))))) aNil))))
    (sSeq (sFor (iC1 enumD (sCallA F_names (aN 0 (aE (s2N addD 2 (sCallA F_take (aN 0 (aE (sU (p2 addD (p2 subD (pVar 3) (pVar 2)) (pK (.int 1)))) aNil)))) aNil)))) (bTup 2 (bCons (bName 7) (bCons (bName 8) bNil))) (sSeq (sSet 9 (sIfE (qU (qB (p2 (cmpD fun i j => decide (i < j)) (pVar 7) (p2 subD (pC lenD (vCons (pVar 5) vNil)) (pK (.int 1)))))) (sU (p2 ixD (pVar 5) (pVar 7))) (sCallA F_of (aN 0 (aN 5 aNil)))))
    (sSeq (sSet 10 (sU (pLc [15] (iP (pVar 5)) (bName 15) (qB (p2 neD (pVar 15) (pVar 9))) (pFz (pVar 15)))))
    (sSeq (sSet 11 (sIfE (qU (qB (p2 (cmpD fun i j => decide (i < j)) (pVar 7) (p2 subD (pC lenD (vCons (pVar 5) vNil)) (pK (.int 1)))))) (sU (p2 ixD (pVar 5) (p2 addD (pVar 7) (pK (.int 1))))) (sCallA F_of (aN 0 (aN 10 aNil)))))
    (sSeq (sSet 12 (sCallA F_of (aN 0 (aE (sU (p2 addD (pLst (vCons (pK .non) (vCons (pK .non) (vCons (pK .non) (vCons (pK .non) vNil))))) (pLc [16] (iP (pDG (pVar 1) (pK (.str "kinds")))) (bName 16) qYes (p2 ixD (pVar 16) (pK (.int 0)))))) aNil))))
    (sSeq (sSet 13 (sC min2D (aE (sU (pC lenD (vCons (pVar 6) vNil))) (aE (sC intD (aE (sCallA F_of (aN 0 (aE (sU (pLst (vCons (pK (.int 0)) (vCons (pK (.int 1)) (vCons (pK (.int 1)) (vCons (pK (.int 1)) (vCons (pK (.int 2)) vNil))))))) aNil))) aNil)) aNil))))
    (sDrop (sLstM 4 (sTup (aE (sU (pFz (pVar 8))) (aE (sU (pFz (pVar 9))) (aE (sU (pFz (pVar 11))) (aE (sU (pFz (pVar 12))) (aE (sC tupleD (aE (sCallA F_some (aN 0 (aN 6 (aN 13 aNil)))) aNil)) aNil)))))) fAppend))))))))
    (sRet (sMove 4))))
def F_gates : SF := fnS 17 4 (kpL [0, 1, 2, 3]) b_gates
def b_lore : SS :=
  (sSeq (sSet 3 (sDisp1 "rooms" (sFrA (sCallA F_names (aN 0 (aE (s2 addD (sU (pK (.int 2))) (sCallA F_take (aN 0 (aE (sU (p2 subD (pVar 1) (pK (.int 1)))) aNil)))) aNil))))))
    (sSeq (sSet 4 (sIfE (qU (qB (p2 (cmpD fun i j => decide (i < j)) (pC lenD (vCons (pDG (pVar 3) (pK (.str "rooms"))) vNil)) (pK (.int 5))))) (s2 addD (sU (pK (.int 1))) (sCallA F_take (aN 0 (aN 2 aNil)))) (sU (pK (.int 1)))))
    (sSeq (sPut 3 (sFrA (sLc [5] (iE (sCallA F_names (aN 0 (aN 4 aNil)))) (bName 5) eYes (sTup (aE (sU (pFz (pVar 5))) (aE (sCallA F_of (aN 0 (aE (sU (p2 addD (p2 mulD (pSl (pDG (pVar 3) (pK (.str "rooms"))) none (some (pK (.int 1)))) (pK (.int 3))) (pDG (pVar 3) (pK (.str "rooms"))))) aNil))) aNil))))) (pK (.str "kinds")))
    (sSeq (sPut 3 (sFrA (sCallA F_plates (aN 0 (aN 3 (aE (sU (pK (.int 3))) aNil))))) (pK (.str "plates")))
    (sSeq (sPut 3 (sFrA (sCallA F_gates (aN 0 (aN 3 (aE (sU (p2 subD (pC lenD (vCons (pDG (pVar 3) (pK (.str "rooms"))) vNil)) (pK (.int 1)))) (aE (sU (pK (.int 6))) aNil)))))) (pK (.str "gates")))
    (sRet (sMove 3)))))))
def F_lore : SF := fnS 6 3 (kpL [0, 1, 2]) b_lore
def b_text : SS :=
  (sSeq (sSet 1 (sU (p2 addD (pLc [3] (iP (pDG (pVar 0) (pK (.str "rooms")))) (bName 3) qYes (p2 addD (pK (.str "room ")) (pVar 3))) (pLc [2, 3] (iP (pDG (pVar 0) (pK (.str "kinds")))) (bTup 2 (bCons (bName 2) (bCons (bName 3) bNil))) qYes (p2 addD (p2 addD (p2 addD (pK (.str "kind ")) (pVar 2)) (pK (.str " "))) (pVar 3))))))
    (sSeq (sFor (iU (iP (pFz (pDG (pVar 0) (pK (.str "plates")))))) (bTup 4 (bCons (bName 2) (bCons (bName 3) (bCons (bName 4) (bCons (bName 5) bNil))))) (sDrop (sLstM 1 (sU (p2 addD (p2 addD (p2 addD (p2 addD (p2 addD (p2 addD (pK (.str "plate ")) (pVar 2)) (pK (.str " "))) (pVar 3)) (pK (.str " "))) (pC strD (vCons (pVar 4) vNil))) (pIf (qB (p2 isNotD (pVar 5) (pK .non))) (p2 addD (pK (.str " ")) (pVar 5)) (pK (.str ""))))) fAppend)))
    (sSeq (sFor (iU (iP (pFz (pDG (pVar 0) (pK (.str "gates")))))) (bTup 5 (bCons (bName 2) (bCons (bName 6) (bCons (bName 7) (bCons (bName 5) (bCons (bName 8) bNil)))))) (sSeq (sSet 9 (sU (p2 addD (p2 addD (p2 addD (p2 addD (p2 addD (p2 addD (pK (.str "gate ")) (pVar 2)) (pK (.str " "))) (pVar 6)) (pK (.str " "))) (pVar 7)) (pIf (qB (p2 isNotD (pVar 5) (pK .non))) (p2 addD (pK (.str " for ")) (pVar 5)) (pK (.str ""))))))
    (sDrop (sLstM 1 (sU (p2 addD (pVar 9) (pIf (qB (p2 neD (pVar 8) (pTup vNil))) (p2 addD (pK (.str " while ")) (pM joinD (pK (.str ",")) (pVar 8))) (pK (.str ""))))) fAppend))))
    (sRet (sU (pM joinD (pK (.str "\n")) (pVar 1)))))))
def F_text : SF := fnS 10 1 (kpL [0]) b_text
def b_cells : SS :=
  (sRet (sU (p1 lstRg (pC max2D (vCons (pK (.int 1)) (vCons (pC min2D (vCons (pVar 1) (vCons (pC lenD (vCons (pVar 0) vNil)) vNil))) vNil))))))
def F_cells : SF := fnS 2 2 (kpL [0, 1]) b_cells
def b_fine : SS :=
  (sSeq (sFor (iU (iRgU rng1D (vCons (pK (.int 3)) vNil))) (bName 1) (sSeq (sSet 2 (sCallA F_lore (aN 0 (aE (sU (pK (.int 5))) (aE (sU (pK (.int 2))) aNil)))))
    (sSeq (sSet 3 (sMake "Level" F_Level_init (aE (sCallA F_text (aN 2 aNil)) aNil)))
    (sSeq (sSet 4 (sU (pThaw (pTup (vCons (pProp "Level" (pVar 3) F_Level_text) (vCons (pProp "Level" (pVar 3) F_Level_rooms) (vCons (pProp "Level" (pVar 3) F_Level_kinds) (vCons (pProp "Level" (pVar 3) F_Level_plates) (vCons (pProp "Level" (pVar 3) F_Level_gates) vNil)))))))))
    (sSeq (sSet 5 (sU (pC tupleD (vCons (pLc [7, 8] (iP (pDG (pVar 2) (pK (.str "kinds")))) (bTup 2 (bCons (bName 7) (bCons (bName 8) bNil))) qYes (pFz (pVar 7))) vNil))))
    (sSeq (sSet 6 (sTup (aE (sCallA F_text (aN 2 aNil)) (aE (sU (pC tupleD (vCons (pDG (pVar 2) (pK (.str "rooms"))) vNil))) (aE (sU (pFz (pVar 5))) (aE (sU (pC tupleD (vCons (pDG (pVar 2) (pK (.str "plates"))) vNil))) (aE (sU (pC tupleD (vCons (pDG (pVar 2) (pK (.str "gates"))) vNil))) aNil)))))))
    (sIf (qU (qB (p2 neD (pC reprD (vCons (pVar 4) vNil)) (pC reprD (vCons (pVar 6) vNil))))) (sRet (sU (pK (.bl false)))) sPass)))))))
    (sRet (sU (pK (.bl true)))))
def F_fine : SF := fnS 9 1 (kpL [0]) b_fine
def b_P_law : SS :=
  (sRet (sC allD (aE (sLc [1] (iE (sCallA F_cells (aN 0 (aE (sU (pK (.int 4))) aNil)))) (bName 1) eYes (sCallA F_fine (aE (sCallA F_pot (aN 0 (aN 1 aNil))) aNil))) aNil)))
def F_P_law : SF := fnS 2 1 (kpL [0]) b_P_law
end Q

set_option Elab.async false
set_option linter.all false
set_option maxRecDepth 100000
set_option maxHeartbeats 2000000
namespace T
open PySem PySem.Spec PyProof.Rows L2

/-! ### texts -/
theorem sap_assoc (a b c : Str) : a ++ b ++ c = a ++ (b ++ c) := TL.ext_tl (by rw [TL.tl_append, TL.tl_append, TL.tl_append, TL.tl_append, List.append_assoc])
theorem sap_len (a b : Str) : (a ++ b).length = a.length + b.length := by rw [TL.len_tl, TL.len_tl, TL.len_tl, TL.tl_append, List.length_append]
/-- a name: one to eight small letters -/
structure IsNm (x : Str) : Prop where
  lo : 1 ≤ x.length
  hi : x.length ≤ 8
  al : ∀ c ∈ TL.tl x, 97 ≤ c ∧ c ≤ 122
theorem IsNm.free {x : Str} (h : IsNm x) {c : Nat} (hc : c < 97 ∨ 122 < c) : c ∉ TL.tl x := fun m => by have := h.al c m; omega
theorem IsNm.ok {x : Str} (h : IsNm x) : PyData.strOk x = true := by
  unfold PyData.strOk
  rw [← Array.all_toList, List.all_eq_true]
  intro c hc
  have := h.al c hc
  exact decide_eq_true (by omega)
/-- a text of small signs -/
def Plain (x : Str) : Prop := ∀ c ∈ TL.tl x, c < 128
theorem IsNm.plain {x : Str} (h : IsNm x) : Plain x := fun c hc => by have := h.al c hc; omega
theorem Plain.app {a b : Str} (h : Plain a) (k : Plain b) : Plain (a ++ b) := fun c hc => by
  rw [TL.tl_append] at hc
  exact (List.mem_append.mp hc).elim (h c) (k c)
theorem Plain.ok {x : Str} (h : Plain x) : PyData.strOk x = true := by
  unfold PyData.strOk
  rw [← Array.all_toList, List.all_eq_true]
  intro c hc
  have := h c hc
  exact decide_eq_true (by omega)
instance (x : Str) : Decidable (Plain x) := inferInstanceAs (Decidable (∀ c ∈ TL.tl x, c < 128))
theorem Plain.join {s : Str} (hs : Plain s) : ∀ {l : List Str}, (∀ x ∈ l, Plain x) → Plain (Str.join s l)
  | [], _ => fun c hc => nomatch hc
  | [x], h => h x (List.mem_singleton.mpr rfl)
  | x :: y :: r, h => by
    show Plain (x ++ s ++ Str.join s (y :: r))
    exact ((h x (List.mem_cons_self ..)).app hs).app (Plain.join hs fun z hz => h z (List.mem_cons_of_mem _ hz))
theorem split_wds {ws : List Str} (hne : ws ≠ []) (h : ∀ w ∈ ws, 32 ∉ TL.tl w) : Txt.split (Str.join " " ws) " " = ws := by
  rw [← TL.join_eq]
  exact TL.split_join (s := 32) (S := []) (by decide +kernel) (by decide +kernel) hne h
theorem split_com {ws : List Str} (hne : ws ≠ []) (h : ∀ w ∈ ws, 44 ∉ TL.tl w) : Txt.split (Txt.join "," ws) "," = ws := TL.split_join (s := 44) (S := []) (by decide +kernel) (by decide +kernel) hne h
theorem split_lines {ws : List Str} (hne : ws ≠ []) (h : ∀ w ∈ ws, 10 ∉ TL.tl w) : Txt.split (Txt.join "\n" ws) "\n" = ws := TL.split_join (s := 10) (S := []) (by decide +kernel) (by decide +kernel) hne h

/-! ### what repr shows is plain -/
theorem reprChar_plain : ∀ c ∈ List.range 128, (Builtin.Str.reprChar 34 c).all (· < 128) = true ∧ (Builtin.Str.reprChar 39 c).all (· < 128) = true := by decide +kernel
theorem reprText_plain {x : Str} (h : Plain x) : Plain (reprText x) := by
  have q : reprQuote x = 34 ∨ reprQuote x = 39 := by unfold reprQuote; split <;> simp
  have key : ∀ (l : List Nat) (acc : Array Nat), (∀ c ∈ l, c < 128) → (∀ c ∈ acc.toList, c < 128) → ∀ c ∈ (l.foldl (fun out c => out ++ (Builtin.Str.reprChar (reprQuote x) c).toArray) acc).toList, c < 128 := by
    intro l
    induction l with
    | nil => intro acc _ ha; exact ha
    | cons d l ih =>
      intro acc hl ha
      rw [List.foldl_cons]
      refine ih _ (fun c hc => hl c (List.mem_cons_of_mem _ hc)) fun c hc => ?_
      rw [Array.toList_append] at hc
      rcases List.mem_append.mp hc with z | z
      · exact ha c z
      · have p := reprChar_plain d (List.mem_range.mpr (hl d (List.mem_cons_self ..)))
        have z : c ∈ Builtin.Str.reprChar (reprQuote x) d := z
        rcases q with e | e
        · rw [e] at z
          exact of_decide_eq_true (List.all_eq_true.mp p.1 c z)
        · rw [e] at z
          exact of_decide_eq_true (List.all_eq_true.mp p.2 c z)
  intro c hc
  have hc : c ∈ ((x.cps.foldl (fun out c => out ++ (Builtin.Str.reprChar (reprQuote x) c).toArray) #[reprQuote x]).push (reprQuote x)).toList := hc
  rw [Array.toList_push, ← Array.foldl_toList] at hc
  rcases List.mem_append.mp hc with z | z
  · exact key _ _ h (fun d hd => by
      have : d = reprQuote x := by simpa using hd
      rw [this]
      omega) c z
  · rw [List.mem_singleton.mp z]
    omega
theorem textFrom_plain : ∀ (ts : List Str) (k : Nat) (acc : Str), Plain acc → (∀ t ∈ ts, Plain t) → Plain (textFrom k acc ts)
  | [], _, acc, h, _ => h
  | t :: ts, k, acc, h, ht => by
    show Plain (textFrom (k + 1) (acc ++ (if k > 0 then ", " else "" : String) ++ t) ts)
    refine textFrom_plain ts (k + 1) _ ((h.app ?_).app (ht t (List.mem_cons_self ..))) fun z hz => ht z (List.mem_cons_of_mem _ hz)
    split <;> decide +kernel
theorem tupleText_plain {ts : List Str} (h : ∀ t ∈ ts, Plain t) : Plain (tupleText ts) := by
  unfold tupleText
  refine ((show Plain ("(" : Str) from by decide +kernel).app (Plain.join (by decide +kernel) h)).app ?_
  split <;> decide +kernel
theorem listText_plain {ts : List Str} (h : ∀ t ∈ ts, Plain t) : Plain (listText ts) := by
  unfold listText
  exact (textFrom_plain ts 0 _ (by decide +kernel) h).app (by decide +kernel)

/-! ### data that is read deep -/
structure Ly (n w : Nat) (m : D) (d : PyData) : Prop where
  p : toP m = some d
  c : d.canLay0 = true
  t : d.depth ≤ n
  s : d.showable = true
  i : d.intsShort 13 = true
  w : d.weight ≤ w
  pl : Plain d.shown
structure Lys (n w : Nat) (ms : List D) (ds : List PyData) : Prop where
  p : toPs ms = some ds
  c : PyData.canLayAll0 ds = true
  t : PyData.depthAll ds ≤ n
  s : PyData.showableAll ds = true
  i : PyData.intsShortAll 13 ds = true
  w : PyData.weightAll ds ≤ w
  l : ds.length = ms.length
  pl : ∀ t ∈ PyData.shownAll ds, Plain t
theorem Lys.nil {n w : Nat} : Lys n w [] [] := ⟨rfl, by simp only [PyData.canLayAll0], by simp only [PyData.depthAll]; omega, by simp only [PyData.showableAll], by simp only [PyData.intsShortAll], by simp only [PyData.weightAll]; omega, rfl, fun t h => by simp only [PyData.shownAll] at h; cases h⟩
theorem Lys.cons {n w w' : Nat} {m : D} {d : PyData} {ms : List D} {ds : List PyData} (h : Ly n w m d) (k : Lys n w' ms ds) : Lys n (w + 1 + w') (m :: ms) (d :: ds) :=
  ⟨by simp only [toPs, h.p, k.p], by simp only [PyData.canLayAll0, h.c, k.c, Bool.and_self], by simp only [PyData.depthAll]; exact Nat.max_le.mpr ⟨h.t, k.t⟩, by simp only [PyData.showableAll, h.s, k.s, Bool.and_self], by simp only [PyData.intsShortAll, h.i, k.i, Bool.and_self], by simp only [PyData.weightAll]; have := h.w; have := k.w; omega, by simp only [List.length_cons, k.l], fun t ht => by
    simp only [PyData.shownAll] at ht
    rcases List.mem_cons.mp ht with rfl | z
    · exact h.pl
    · exact k.pl t z⟩
theorem Lys.map {α : Type} {n w : Nat} {f : α → D} {g : α → PyData} : ∀ {l : List α}, (∀ x ∈ l, Ly n w (f x) (g x)) → Lys n ((w + 1) * l.length) (l.map f) (l.map g)
  | [], _ => .nil
  | x :: l, h => by
    have e := Lys.cons (h x (List.mem_cons_self ..)) (Lys.map (n := n) (w := w) (f := f) (g := g) (l := l) fun y hy => h y (List.mem_cons_of_mem _ hy))
    rw [List.map_cons, List.map_cons, List.length_cons, Nat.mul_succ]
    exact { e with w := by have := e.w; omega }
theorem Lys.mono {n w n' w' : Nat} {ms : List D} {ds : List PyData} (h : Lys n w ms ds) (a : n ≤ n') (b : w ≤ w') : Lys n' w' ms ds := { h with t := Nat.le_trans h.t a, w := Nat.le_trans h.w b }
theorem Ly.mono {n w n' w' : Nat} {m : D} {d : PyData} (h : Ly n w m d) (a : n ≤ n') (b : w ≤ w') : Ly n' w' m d := { h with t := Nat.le_trans h.t a, w := Nat.le_trans h.w b }
theorem Ly.tup {n w : Nat} {ms : List D} {ds : List PyData} (h : Lys n w ms ds) : Ly (n + 1) w (.tup ms) (.tuple ds) :=
  ⟨by simp only [toP, h.p, Option.map_some], by simp only [PyData.canLay0, h.c], by simp only [PyData.depth]; have := h.t; omega, by simp only [PyData.showable, h.s], by simp only [PyData.intsShort, h.i], by simp only [PyData.weight]; exact h.w, by simp only [PyData.shown]; exact tupleText_plain h.pl⟩
theorem Ly.lst {n w : Nat} {o : Bool} {ms : List D} {ds : List PyData} (h : Lys n w ms ds) : Ly (n + 1) w (.lst o ms) (.list ds) :=
  ⟨by simp only [toP, h.p, Option.map_some], by simp only [PyData.canLay0, h.c], by simp only [PyData.depth]; have := h.t; omega, by simp only [PyData.showable, h.s], by simp only [PyData.intsShort, h.i], by simp only [PyData.weight]; exact h.w, by simp only [PyData.shown]; exact listText_plain h.pl⟩
theorem Ly.str {n w : Nat} {x : Str} (h : Plain x) (k : x.length ≤ w) : Ly n w (.str x) (.str x) :=
  ⟨rfl, by simp only [PyData.canLay0]; exact h.ok, by simp only [PyData.depth]; omega, by simp only [PyData.showable], by simp only [PyData.intsShort], by simp only [PyData.weight]; exact k, by simp only [PyData.shown]; exact reprText_plain h⟩
theorem Ly.non {n w : Nat} : Ly n w .non .none := ⟨rfl, by simp only [PyData.canLay0], by simp only [PyData.depth]; omega, by simp only [PyData.showable], by simp only [PyData.intsShort], by simp only [PyData.weight]; omega, by simp only [PyData.shown]; decide +kernel⟩
theorem Ly.nm {n : Nat} {x : Str} (h : IsNm x) : Ly n 8 (.str x) (.str x) := .str h.plain h.hi
def optD : Option Str → D
  | none => .non
  | some x => .str x
def optP : Option Str → PyData
  | none => .none
  | some x => .str x
theorem Ly.opt {n : Nat} {o : Option Str} (h : ∀ x, o = some x → IsNm x) : Ly n 8 (optD o) (optP o) := by
  cases o with
  | none => exact .non
  | some x => exact .nm (h x rfl)
theorem Ly.int {n : Nat} {i : Int} (h : 0 ≤ i) (k : i < 4096) : Ly n 12 (.int i) (.int i) := by
  obtain ⟨j, rfl⟩ := Int.eq_ofNat_of_zero_le h
  have hl : j < 2 ^ 12 := by omega
  have hg : j.log2 < 12 := by
    by_cases z : j = 0
    · subst z; decide
    · exact (Nat.log2_lt z).mpr hl
  refine ⟨rfl, by simp only [PyData.canLay0], by simp only [PyData.depth]; omega, ?_, ?_, ?_, ?_⟩
  · simp only [PyData.showable]
    exact decide_eq_true (by show j.log2 < 1920; omega)
  · simp only [PyData.intsShort]
    refine decide_eq_true ?_
    rw [show (PyData.int (j : Int)).shown = Str.ofString (toString (j : Int)) from by simp only [PyData.shown]]
    rw [TL.len_tl, TL.tl_num]
    have := TL.numL_len (n := j) (k := 4) (by decide) (by omega)
    omega
  · simp only [PyData.weight]
    split
    · omega
    · show j.log2 + 1 ≤ 12
      omega
  · rw [show (PyData.int (j : Int)).shown = Str.ofString (toString (j : Int)) from by simp only [PyData.shown]]
    intro c hc
    rw [TL.tl_num] at hc
    have := TL.numL_digits j c hc
    omega
theorem Ly.shp {n w : Nat} {m : D} {d : PyData} (h : Ly n w m d) (k : n ≤ 64) : SeqAt.shaped d = true := by
  unfold SeqAt.shaped
  rw [h.c, Bool.true_and]
  exact decide_eq_true (Nat.le_trans h.t k)
theorem eqB_of {n w n' w' : Nat} {x y : D} {d e : PyData} (h : Ly n w x d) (k : Ly n' w' y e) (hn : n ≤ 64) (hn' : n' ≤ 64) : eqB x y = some (PyData.eqv d e) := by
  unfold eqB
  rw [h.p, k.p]
  show (if (SeqAt.shaped d && SeqAt.shaped e) = true then _ else _) = _
  rw [h.shp hn, k.shp hn'] <;> rfl
theorem inB_lst {n w n' w' : Nat} {o : Bool} {x : D} {d : PyData} {ms : List D} {ds : List PyData} (h : Ly n w x d) (k : Lys n' w' ms ds) (hn : n ≤ 64) (hn' : n' ≤ 63) : inB x (.lst o ms) = some (ds.any fun z => PyData.eqv z d) := by
  simp only [inB, h.p, k.p]
  rw [h.shp hn, (Ly.lst (o := true) k).shp (by omega)] <;> rfl
theorem inB_tup {n w n' w' : Nat} {x : D} {d : PyData} {ms : List D} {ds : List PyData} (h : Ly n w x d) (k : Lys n' w' ms ds) (hn : n ≤ 64) (hn' : n' ≤ 63) : inB x (.tup ms) = some (ds.any fun z => PyData.eqv z d) := by
  simp only [inB, h.p, k.p]
  rw [h.shp hn, (Ly.tup k).shp (by omega)] <;> rfl
theorem repr_of {n w : Nat} {m : D} {d : PyData} (hc : isCt m = true) (h : Ly n w m d) (hn : n ≤ 50) (hw : w ≤ 66000) : reprD [m] = some (.str d.shown) := by
  have e := PyData.shown_le 13 (by decide) d (PyData.leavesShort_of_canLay0 13 d h.c h.i)
  have hw' := h.w
  have ht := h.t
  simp only [reprD, reprC, if_pos hc, h.p]
  rw [if_pos ⟨h.s, PyData.hasDict_of_canLay d h.c, by omega, by omega⟩]

/-! ### equal or not -/
theorem eqv_str (a b : Str) : PyData.eqv (.str a) (.str b) = decide (a = b) := by
  simp only [PyData.eqv]
  by_cases h : a = b
  · subst h; simp
  · simp [h]
theorem eqv_int (a b : Int) : PyData.eqv (.int a) (.int b) = decide (a = b) := by
  simp only [PyData.eqv]
  by_cases h : a = b
  · subst h; simp
  · simp [h]
theorem eqv_strs (a b : List Str) : PyData.eqvAll (a.map .str) (b.map .str) = decide (a = b) := by
  induction a generalizing b with
  | nil => cases b <;> simp [PyData.eqvAll]
  | cons x a ih => cases b with
    | nil => simp [PyData.eqvAll]
    | cons y b => simp only [List.map_cons, PyData.eqvAll, ih, eqv_str, List.cons.injEq, Bool.decide_and]
theorem eqv_ints (a b : List Int) : PyData.eqvAll (a.map .int) (b.map .int) = decide (a = b) := by
  induction a generalizing b with
  | nil => cases b <;> simp [PyData.eqvAll]
  | cons x a ih => cases b with
    | nil => simp [PyData.eqvAll]
    | cons y b => simp only [List.map_cons, PyData.eqvAll, ih, eqv_int, List.cons.injEq, Bool.decide_and]
theorem any_strs (l : List Str) (x : Str) : ((l.map PyData.str).any fun z => PyData.eqv z (.str x)) = decide (x ∈ l) := by
  induction l with
  | nil => simp
  | cons y l ih =>
    rw [List.map_cons, List.any_cons, ih, eqv_str]
    by_cases h : y = x
    · subst h; simp
    · have h' : ¬ x = y := fun e => h e.symm
      simp [h, h']
theorem Lys.strs {n w : Nat} {l : List Str} (h : ∀ x ∈ l, Plain x ∧ x.length ≤ w) : Lys n ((w + 1) * l.length) (strsD l) (l.map .str) := Lys.map fun x hx => .str (h x hx).1 (h x hx).2
theorem Lys.nms {n : Nat} {l : List Str} (h : ∀ x ∈ l, IsNm x) : Lys n (9 * l.length) (strsD l) (l.map .str) := Lys.map fun x hx => .nm (h x hx)
end T

set_option Elab.async false
set_option linter.all false
set_option maxRecDepth 100000
set_option maxHeartbeats 2000000
namespace T
open PySem PySem.Spec PyProof.Rows L2

/-! ### levels told by their parts -/
structure Plate where
  name : Str
  room : Str
  num : Int
  kind : Option Str
structure Gate where
  name : Str
  one : Str
  two : Str
  kind : Option Str
  held : List Str
structure Lore where
  rooms : List Str
  kinds : List (Str × Str)
  plates : List Plate
  gates : List Gate
def kindD (k : Str × Str) : D := .tup [.str k.1, .str k.2]
def plateD (p : Plate) : D := .tup [.str p.name, .str p.room, .int p.num, optD p.kind]
def gateD (g : Gate) : D := .tup [.str g.name, .str g.one, .str g.two, optD g.kind, .tup (strsD g.held)]
structure PlateOk (rooms kinds : List Str) (p : Plate) : Prop where
  nm : IsNm p.name
  rm : p.room ∈ rooms
  lo : 1 ≤ p.num
  hi : p.num ≤ 3
  kd : ∀ k, p.kind = some k → k ∈ kinds
structure GateOk (rooms kinds plates : List Str) (g : Gate) : Prop where
  nm : IsNm g.name
  a : g.one ∈ rooms
  b : g.two ∈ rooms
  ne : g.one ≠ g.two
  kd : ∀ k, g.kind = some k → k ∈ kinds
  hd : ∀ x ∈ g.held, x ∈ plates
  nd : g.held.Nodup
  le : g.held.length ≤ 2
abbrev Lore.kn (L : Lore) : List Str := L.kinds.map (·.1)
abbrev Lore.pn (L : Lore) : List Str := L.plates.map (·.name)
abbrev Lore.gn (L : Lore) : List Str := L.gates.map (·.name)
structure LoreOk (L : Lore) : Prop where
  r1 : 2 ≤ L.rooms.length
  r2 : L.rooms.length ≤ 5
  rn : ∀ x ∈ L.rooms, IsNm x
  rd : L.rooms.Nodup
  k1 : L.kinds ≠ []
  k2 : L.kinds.length ≤ if L.rooms.length < 5 then 2 else 1
  kk : ∀ k ∈ L.kinds, IsNm k.1 ∧ k.2 ∈ L.rooms
  kd : L.kn.Nodup
  p2 : L.plates.length ≤ 4
  pk : ∀ p ∈ L.plates, PlateOk L.rooms L.kn p
  pd : L.pn.Nodup
  g1 : L.gates ≠ []
  g2 : L.gates.length ≤ 8
  gk : ∀ g ∈ L.gates, GateOk L.rooms L.kn L.pn g
  gd : L.gn.Nodup
theorem LoreOk.kindNm {L : Lore} (h : LoreOk L) : ∀ x ∈ L.kn, IsNm x := fun x hx => by
  obtain ⟨k, hk, rfl⟩ := List.mem_map.mp hx
  exact (h.kk k hk).1
theorem LoreOk.plateNm {L : Lore} (h : LoreOk L) : ∀ x ∈ L.pn, IsNm x := fun x hx => by
  obtain ⟨k, hk, rfl⟩ := List.mem_map.mp hx
  exact (h.pk k hk).nm

/-! ### the lines -/
abbrev numS (i : Int) : Str := toString i
def roomL (r : Str) : Str := ("room " : Str) ++ r
def kindL (k : Str × Str) : Str := ("kind " : Str) ++ k.1 ++ (" " : Str) ++ k.2
def plateL (p : Plate) : Str := ("plate " : Str) ++ p.name ++ (" " : Str) ++ p.room ++ (" " : Str) ++ numS p.num ++ (match p.kind with | some k => (" " : Str) ++ k | none => ("" : Str))
def gateL0 (g : Gate) : Str := ("gate " : Str) ++ g.name ++ (" " : Str) ++ g.one ++ (" " : Str) ++ g.two ++ (match g.kind with | some k => (" for " : Str) ++ k | none => ("" : Str))
def heldL (ps : List Str) : Str := if ps = [] then ("" : Str) else (" while " : Str) ++ Txt.join "," ps
def gateL (g : Gate) : Str := gateL0 g ++ heldL g.held
def optW : Option Str → List Str
  | some k => [k]
  | none => []
def forW : Option Str → List Str
  | some k => ["for", k]
  | none => []
def heldW (ps : List Str) : List Str := if ps = [] then [] else ["while", Txt.join "," ps]
def plateW (p : Plate) : List Str := "plate" :: p.name :: p.room :: numS p.num :: optW p.kind
def gateW (g : Gate) : List Str := "gate" :: g.name :: g.one :: g.two :: (forW g.kind ++ heldW g.held)
theorem tl_0 : TL.tl ("" : Str) = [] := by decide +kernel
theorem tl_1 : TL.tl (" " : Str) = [32] := by decide +kernel
theorem tl_2 : TL.tl ("room " : Str) = TL.tl ("room" : Str) ++ [32] := by decide +kernel
theorem tl_3 : TL.tl ("kind " : Str) = TL.tl ("kind" : Str) ++ [32] := by decide +kernel
theorem tl_4 : TL.tl ("plate " : Str) = TL.tl ("plate" : Str) ++ [32] := by decide +kernel
theorem tl_5 : TL.tl ("gate " : Str) = TL.tl ("gate" : Str) ++ [32] := by decide +kernel
theorem tl_6 : TL.tl (" for " : Str) = [32] ++ TL.tl ("for" : Str) ++ [32] := by decide +kernel
theorem tl_7 : TL.tl (" while " : Str) = [32] ++ TL.tl ("while" : Str) ++ [32] := by decide +kernel
theorem roomL_eq (r : Str) : roomL r = Str.join " " ["room", r] := TL.ext_tl (by simp only [roomL, Str.join, TL.tl_append, tl_0, tl_1, tl_2, List.append_assoc])
theorem kindL_eq (k : Str × Str) : kindL k = Str.join " " ["kind", k.1, k.2] := TL.ext_tl (by simp only [kindL, Str.join, TL.tl_append, tl_0, tl_1, tl_3, List.append_assoc])
theorem plateL_eq (p : Plate) : plateL p = Str.join " " (plateW p) := TL.ext_tl (by
  cases p with
  | mk a b c d => cases d <;> simp only [plateL, plateW, optW, Str.join, TL.tl_append, tl_0, tl_1, tl_4, List.append_assoc, List.append_nil])
theorem gateL_eq (g : Gate) : gateL g = Str.join " " (gateW g) := TL.ext_tl (by
  cases g with
  | mk a b c d e =>
    by_cases h : e = []
    · subst h
      cases d <;> simp only [gateL, gateL0, heldL, gateW, forW, heldW, Str.join, TL.tl_append, tl_0, tl_1, tl_5, tl_6, tl_7, List.append_assoc, List.append_nil, if_true, List.cons_append, List.nil_append]
    · cases d <;> simp only [gateL, gateL0, heldL, gateW, forW, heldW, Str.join, TL.tl_append, tl_0, tl_1, tl_5, tl_6, tl_7, List.append_assoc, List.append_nil, if_neg h, List.cons_append, List.nil_append])
/-- a word of a line -/
structure WdOk (w : Str) : Prop where
  sp : 32 ∉ TL.tl w
  nl : 10 ∉ TL.tl w
  pl : Plain w
  le : w.length ≤ 17
theorem IsNm.wd {x : Str} (h : IsNm x) : WdOk x := ⟨h.free (by omega), h.free (by omega), h.plain, by have := h.hi; omega⟩
theorem wd_num {i : Int} (h : 1 ≤ i) (k : i ≤ 3) : WdOk (numS i) := by
  have e : i = 1 ∨ i = 2 ∨ i = 3 := by omega
  rcases e with rfl | rfl | rfl <;> exact ⟨by decide +kernel, by decide +kernel, by decide +kernel, by decide +kernel⟩
theorem not_join {c : Nat} {s : Str} (hs : c ∉ TL.tl s) : ∀ {l : List Str}, (∀ x ∈ l, c ∉ TL.tl x) → c ∉ TL.tl (Str.join s l)
  | [], _ => fun h => nomatch h
  | [x], h => h x (List.mem_singleton.mpr rfl)
  | x :: y :: r, h => by
    show c ∉ TL.tl (x ++ s ++ Str.join s (y :: r))
    rw [TL.tl_append, TL.tl_append]
    intro m
    rcases List.mem_append.mp m with m | m
    · rcases List.mem_append.mp m with m | m
      · exact h x (List.mem_cons_self ..) m
      · exact hs m
    · exact not_join hs (fun z hz => h z (List.mem_cons_of_mem _ hz)) m
theorem sum_le {n : Nat} : ∀ {l : List Nat}, (∀ x ∈ l, x ≤ n) → l.sum ≤ n * l.length
  | [], _ => Nat.zero_le _
  | x :: l, h => by
    have a := h x (List.mem_cons_self ..)
    have b := sum_le (n := n) (l := l) fun y hy => h y (List.mem_cons_of_mem _ hy)
    rw [List.sum_cons, List.length_cons, Nat.mul_succ]
    omega
theorem join_len {s : Str} {n : Nat} {l : List Str} (h : ∀ x ∈ l, x.length ≤ n) : (Str.join s l).length ≤ (n + s.length) * l.length := by
  have a := StrLaws.join_length_le s l
  have b := sum_le (n := n) (l := l.map (·.length)) fun x hx => by
    obtain ⟨y, hy, rfl⟩ := List.mem_map.mp hx
    exact h y hy
  rw [List.length_map] at b
  rw [Nat.add_mul]
  have := Nat.mul_comm s.length l.length
  omega
theorem wd_held {ps : List Str} (h : ∀ x ∈ ps, IsNm x) (k : ps.length ≤ 2) : WdOk (Txt.join "," ps) := by
  rw [TL.join_eq]
  refine ⟨not_join (by decide +kernel) fun x hx => (h x hx).free (by omega), not_join (by decide +kernel) fun x hx => (h x hx).free (by omega), Plain.join (by decide +kernel) fun x hx => (h x hx).plain, ?_⟩
  match ps, k with
  | [], _ => exact Nat.zero_le _
  | [a], _ => have := (h a (by simp)).hi; show a.length ≤ 17; omega
  | [a, b], _ =>
    have h1 := (h a (by simp)).hi
    have h2 := (h b (by simp)).hi
    show (a ++ ("," : Str) ++ b).length ≤ 17
    rw [sap_len, sap_len, show (("," : Str)).length = 1 from by decide +kernel]
    omega
theorem wds_room {r : Str} (h : IsNm r) : ∀ w ∈ ([("room" : Str), r] : List Str), WdOk w := by
  intro w hw
  simp only [List.mem_cons, List.not_mem_nil, or_false] at hw
  rcases hw with rfl | rfl
  · exact ⟨by decide +kernel, by decide +kernel, by decide +kernel, by decide +kernel⟩
  · exact h.wd
theorem wds_kind {k : Str × Str} (h : IsNm k.1) (h2 : IsNm k.2) : ∀ w ∈ ([("kind" : Str), k.1, k.2] : List Str), WdOk w := by
  intro w hw
  simp only [List.mem_cons, List.not_mem_nil, or_false] at hw
  rcases hw with rfl | rfl | rfl
  · exact ⟨by decide +kernel, by decide +kernel, by decide +kernel, by decide +kernel⟩
  · exact h.wd
  · exact h2.wd
theorem wds_plate {p : Plate} (h : IsNm p.name) (h2 : IsNm p.room) (a : 1 ≤ p.num) (b : p.num ≤ 3) (c : ∀ k, p.kind = some k → IsNm k) : ∀ w ∈ plateW p, WdOk w := by
  intro w hw
  simp only [plateW, List.mem_cons] at hw
  rcases hw with rfl | rfl | rfl | rfl | hw
  · exact ⟨by decide +kernel, by decide +kernel, by decide +kernel, by decide +kernel⟩
  · exact h.wd
  · exact h2.wd
  · exact wd_num a b
  · cases e : p.kind with
    | none => rw [e] at hw; cases hw
    | some k =>
      rw [e] at hw
      rw [List.mem_singleton.mp hw]
      exact (c k e).wd
theorem wds_gate {g : Gate} (h : IsNm g.name) (h1 : IsNm g.one) (h2 : IsNm g.two) (c : ∀ k, g.kind = some k → IsNm k) (d : ∀ x ∈ g.held, IsNm x) (e : g.held.length ≤ 2) : ∀ w ∈ gateW g, WdOk w := by
  intro w hw
  simp only [gateW, List.mem_cons, List.mem_append] at hw
  rcases hw with rfl | rfl | rfl | rfl | hw | hw
  · exact ⟨by decide +kernel, by decide +kernel, by decide +kernel, by decide +kernel⟩
  · exact h.wd
  · exact h1.wd
  · exact h2.wd
  · cases q : g.kind with
    | none => rw [q] at hw; cases hw
    | some k =>
      rw [q] at hw
      simp only [forW, List.mem_cons, List.not_mem_nil, or_false] at hw
      rcases hw with rfl | rfl
      · exact ⟨by decide +kernel, by decide +kernel, by decide +kernel, by decide +kernel⟩
      · exact (c _ q).wd
  · unfold heldW at hw
    split at hw
    · cases hw
    · simp only [List.mem_cons, List.not_mem_nil, or_false] at hw
      rcases hw with rfl | rfl
      · exact ⟨by decide +kernel, by decide +kernel, by decide +kernel, by decide +kernel⟩
      · exact wd_held d e
/-- a line of a text -/
structure LnOk (l : Str) : Prop where
  nl : 10 ∉ TL.tl l
  pl : Plain l
  le : l.length ≤ 144
theorem ln_of {ws : List Str} (h : ∀ w ∈ ws, WdOk w) (k : ws.length ≤ 8) : LnOk (Str.join " " ws) := by
  refine ⟨not_join (by decide +kernel) fun x hx => (h x hx).nl, Plain.join (by decide +kernel) fun x hx => (h x hx).pl, ?_⟩
  have e := join_len (s := " ") (n := 17) (l := ws) fun x hx => (h x hx).le
  rw [show ((" " : Str)).length = 1 from by decide +kernel] at e
  omega
theorem len_plateW (p : Plate) : (plateW p).length ≤ 8 := by
  unfold plateW
  cases p.kind <;> simp [optW]
theorem len_gateW (g : Gate) : (gateW g).length ≤ 8 := by
  unfold gateW heldW
  cases g.kind <;> simp only [forW] <;> split <;> simp
def Lore.lines (L : Lore) : List Str := (L.rooms.map roomL ++ L.kinds.map kindL) ++ L.plates.map plateL ++ L.gates.map gateL
def Lore.text (L : Lore) : Str := Txt.join "\n" L.lines
theorem LoreOk.plateW {L : Lore} (h : LoreOk L) {p : Plate} (hp : p ∈ L.plates) : ∀ w ∈ T.plateW p, WdOk w := by
  have z := h.pk p hp
  exact wds_plate z.nm (h.rn _ z.rm) z.lo z.hi fun k hk => h.kindNm k (z.kd k hk)
theorem LoreOk.gateW {L : Lore} (h : LoreOk L) {g : Gate} (hg : g ∈ L.gates) : ∀ w ∈ T.gateW g, WdOk w := by
  have z := h.gk g hg
  exact wds_gate z.nm (h.rn _ z.a) (h.rn _ z.b) (fun k hk => h.kindNm k (z.kd k hk)) (fun x hx => h.plateNm x (z.hd x hx)) z.le
theorem LoreOk.lines {L : Lore} (h : LoreOk L) : ∀ l ∈ L.lines, LnOk l := by
  intro l hl
  simp only [Lore.lines, List.mem_append, List.mem_map] at hl
  rcases hl with ((⟨r, hr, rfl⟩ | ⟨k, hk, rfl⟩) | ⟨p, hp, rfl⟩) | ⟨g, hg, rfl⟩
  · rw [roomL_eq]
    exact ln_of (wds_room (h.rn r hr)) (by simp)
  · rw [kindL_eq]
    exact ln_of (wds_kind (h.kk k hk).1 (h.rn _ (h.kk k hk).2)) (by simp)
  · rw [plateL_eq]
    exact ln_of (h.plateW hp) (len_plateW p)
  · rw [gateL_eq]
    exact ln_of (h.gateW hg) (len_gateW g)
theorem LoreOk.count {L : Lore} (h : LoreOk L) : L.lines.length ≤ 19 := by
  have a := h.r2
  have b := h.k2
  have c := h.p2
  have d := h.g2
  simp only [Lore.lines, List.length_append, List.length_map]
  split at b <;> omega
theorem LoreOk.lines_ne {L : Lore} (h : LoreOk L) : L.lines ≠ [] := fun e => by
  have a := h.r1
  have := congrArg List.length e
  simp only [Lore.lines, List.length_append, List.length_map, List.length_nil] at this
  omega
theorem LoreOk.split {L : Lore} (h : LoreOk L) : Txt.split L.text "\n" = L.lines := split_lines h.lines_ne fun w hw => (h.lines w hw).nl
theorem LoreOk.plain {L : Lore} (h : LoreOk L) : Plain L.text := by
  unfold Lore.text
  rw [TL.join_eq]
  exact Plain.join (by decide +kernel) fun w hw => (h.lines w hw).pl
theorem LoreOk.len {L : Lore} (h : LoreOk L) : L.text.length ≤ 2755 := by
  unfold Lore.text
  rw [TL.join_eq]
  have e := join_len (s := "\n") (n := 144) (l := L.lines) fun x hx => (h.lines x hx).le
  rw [show (("\n" : Str)).length = 1 from by decide +kernel] at e
  have := h.count
  omega
end T

set_option Elab.async false
set_option linter.all false
set_option maxRecDepth 100000
set_option maxHeartbeats 2000000
namespace T
open PySem PySem.Spec PyProof.Rows L2

/-! ### the meanings, applied -/
@[simp] theorem pFz_ap (p : SV) (env : Env) : pFz p env = match p env with
  | some m => if fz m then some m else none
  | none => none := Eq.trans rfl rfl
@[simp] theorem sU_ap (p : SV) (env : Env) : sU p env = (p env).map fun m => (.ok m, env) := Eq.trans rfl rfl
@[simp] theorem pVar_ap (i : Nat) (env : Env) : pVar i env = match env[i]? with
  | some (some m) => some m
  | _ => none := Eq.trans rfl rfl
@[simp] theorem sMove_ap (i : Nat) (env : Env) : sMove i env = match env[i]? with
  | some (some m) => some (.ok m, env.set i none)
  | _ => none := Eq.trans rfl rfl
@[simp] theorem sBind_ap (s : SE) (k : D → SE) (env : Env) : sBind s k env = match s env with
  | some (.ok m, env1) => k m env1
  | some (.ex c m, env1) => some (.ex c m, env1)
  | none => none := Eq.trans rfl rfl
@[simp] theorem sOpt_ap (o : Option D) (env : Env) : sOpt o env = o.map fun m => (.ok m, env) := Eq.trans rfl rfl
@[simp] theorem sOk_ap (m : D) (env : Env) : sOk m env = some (.ok m, env) := Eq.trans rfl rfl
@[simp] theorem p2_ap (f : D → D → Option D) (p q : SV) (env : Env) : p2 f p q env = match p env, q env with
  | some x, some y => f x y
  | _, _ => none := Eq.trans rfl rfl
@[simp] theorem s2N_ap (f : D → D → Option D) (i : Nat) (sb : SE) (env : Env) : s2N f i sb env = match pVar i env with
  | some _ => sBind sb (fun y env1 => match pVar i env1 with
    | some x => sOpt (f x y) env1
    | none => none) env
  | none => none := Eq.trans rfl rfl
@[simp] theorem sSeq_ap (s u : SS) (env : Env) : sSeq s u env = match s env with
  | some (.nx, env1) => u env1
  | some (.rt m, env1) => some (.rt m, env1)
  | some (.bk, env1) => some (.bk, env1)
  | some (.ct, env1) => some (.ct, env1)
  | some (.ex c m, env1) => some (.ex c m, env1)
  | none => none := Eq.trans rfl rfl
@[simp] theorem sRet_ap (s : SE) (env : Env) : sRet s env = match s env with
  | some (.ok m, env1) => some (.rt m, env1)
  | some (.ex c m, env1) => some (.ex c m, env1)
  | none => none := Eq.trans rfl rfl
@[simp] theorem sRetN_ap (env : Env) : sRetN  env = some (.rt .non, env) := Eq.trans rfl rfl
@[simp] theorem sDrop_ap (s : SE) (env : Env) : sDrop s env = match s env with
  | some (.ok _, env1) => some (.nx, env1)
  | some (.ex c m, env1) => some (.ex c m, env1)
  | none => none := Eq.trans rfl rfl
@[simp] theorem sPass_ap (env : Env) : sPass  env = some (.nx, env) := Eq.trans rfl rfl
@[simp] theorem sBrk_ap (env : Env) : sBrk  env = some (.bk, env) := Eq.trans rfl rfl
@[simp] theorem sCont_ap (env : Env) : sCont  env = some (.ct, env) := Eq.trans rfl rfl
@[simp] theorem sIf_ap (t : STe) (a b : SS) (env : Env) : sIf t a b env = match t env with
  | some (.ok true, env1) => a env1
  | some (.ok false, env1) => b env1
  | some (.ex c m, env1) => some (.ex c m, env1)
  | none => none := Eq.trans rfl rfl
@[simp] theorem sSet_ap (i : Nat) (s : SE) (env : Env) : sSet i s env = match s env with
  | some (.ok m, env1) => if i < env1.length then some (.nx, env1.set i (some m)) else none
  | some (.ex c m, env1) => some (.ex c m, env1)
  | none => none := Eq.trans rfl rfl
@[simp] theorem aNil_ap (env : Env) : aNil  env = some (.ok [], env) := Eq.trans rfl rfl
@[simp] theorem aE_ap (s : SE) (r : SA) (env : Env) : aE s r env = match s env with
  | some (.ok m, env1) => match r env1 with
    | some (.ok as, env2) => some (.ok (.val m :: as), env2)
    | some (.ex c m, env2) => some (.ex c m, env2)
    | none => none
  | some (.ex c m, env1) => some (.ex c m, env1)
  | none => none := Eq.trans rfl rfl
@[simp] theorem aN_ap (i : Nat) (r : SA) (env : Env) : aN i r env = match pVar i env with
  | some _ => match r env with
    | some (.ok as, env2) => some (.ok (.lend i :: as), env2)
    | some (.ex c m, env2) => some (.ex c m, env2)
    | none => none
  | none => none := Eq.trans rfl rfl
@[simp] theorem vNil_ap (e0 : Env) : vNil  e0 = some [] := Eq.trans rfl rfl
@[simp] theorem vCons_ap (p : SV) (r : SAV) (env : Env) : vCons p r env = match p env, r env with
  | some m, some ms => some (m :: ms)
  | _, _ => none := Eq.trans rfl rfl
@[simp] theorem sCallA_ap (F : SF) (a : SA) (env : Env) : sCallA F a env = match a env with
  | some (.ok as, env1) => match takeA as env1 with
    | some (ms, env2) => match F ms with
      | some (.ok m, os) => some (.ok m, backA as os env2)
      | some (.ex c m, os) => some (.ex c m, backA as os env2)
      | none => none
    | none => none
  | some (.ex c m, env1) => some (.ex c m, env1)
  | none => none := Eq.trans rfl rfl
@[simp] theorem fnS_ap (n np : Nat) (kp : Nat → Bool) (s : SS) (ms : List D) : fnS n np kp s ms = if ms.length = np then
    match s (ms.map some ++ List.replicate (n - np) none) with
    | some (.nx, env) => some (.ok .non, outsF kp 0 np env)
    | some (.rt m, env) => some (.ok m, outsF kp 0 np env)
    | some (.ex c m, env) => some (.ex c m, outsF kp 0 np env)
    | _ => none
  else none := Eq.trans rfl rfl
@[simp] theorem pC_ap (f : List D → Option D) (p : SAV) (env : Env) : pC f p env = match p env with
  | some ms => f ms
  | none => none := Eq.trans rfl rfl
@[simp] theorem sC_ap (f : List D → Option D) (a : SA) (env : Env) : sC f a env = match a env with
  | some (.ok as, env1) => match lookA as env1 with
    | some ms => sOpt (f ms) env1
    | none => none
  | some (.ex c m, env1) => some (.ex c m, env1)
  | none => none := Eq.trans rfl rfl
@[simp] theorem pTup_ap (p : SAV) (env : Env) : pTup p env = match p env with
  | some ms => if ms.length ≤ 1000 then some (.tup ms) else none
  | none => none := Eq.trans rfl rfl
@[simp] theorem pLst_ap (p : SAV) (env : Env) : pLst p env = match p env with
  | some ms => if ms.length ≤ 1000 then some (.lst true ms) else none
  | none => none := Eq.trans rfl rfl
@[simp] theorem sDisp_ap (f : List D → D) (a : SA) (env : Env) : sDisp f a env = match a env with
  | some (.ok as, env1) => match valsA as with
    | some ms => if ms.length ≤ 1000 then some (.ok (f ms), env1) else none
    | none => none
  | some (.ex c m, env1) => some (.ex c m, env1)
  | none => none := Eq.trans rfl rfl
@[simp] theorem qT_ap (p : SV) (env : Env) : qT p env = match p env with
  | some m => truD m
  | none => none := Eq.trans rfl rfl
@[simp] theorem qTE_ap (s : SE) (env : Env) : qTE s env = match s env with
  | some (.ok m, env1) => (truD m).map fun b => (.ok b, env1)
  | some (.ex c m, env1) => some (.ex c m, env1)
  | none => none := Eq.trans rfl rfl
@[simp] theorem qU_ap (p : STu) (env : Env) : qU p env = (p env).map fun b => (.ok b, env) := Eq.trans rfl rfl
@[simp] theorem qNot_ap (p : STu) (env : Env) : qNot p env = (p env).map (!·) := Eq.trans rfl rfl
@[simp] theorem qAnd_ap (p q : STu) (env : Env) : qAnd p q env = match p env with
  | some true => q env
  | some false => some false
  | none => none := Eq.trans rfl rfl
@[simp] theorem qOr_ap (p q : STu) (env : Env) : qOr p q env = match p env with
  | some true => some true
  | some false => q env
  | none => none := Eq.trans rfl rfl
@[simp] theorem eNot_ap (t : STe) (env : Env) : eNot t env = match t env with
  | some (.ok b, env1) => some (.ok (!b), env1)
  | some (.ex c m, env1) => some (.ex c m, env1)
  | none => none := Eq.trans rfl rfl
@[simp] theorem eAnd_ap (t u : STe) (env : Env) : eAnd t u env = match t env with
  | some (.ok true, env1) => u env1
  | some (.ok false, env1) => some (.ok false, env1)
  | some (.ex c m, env1) => some (.ex c m, env1)
  | none => none := Eq.trans rfl rfl
@[simp] theorem eOr_ap (t u : STe) (env : Env) : eOr t u env = match t env with
  | some (.ok true, env1) => some (.ok true, env1)
  | some (.ok false, env1) => u env1
  | some (.ex c m, env1) => some (.ex c m, env1)
  | none => none := Eq.trans rfl rfl
@[simp] theorem pIf_ap (t : STu) (a b : SV) (env : Env) : pIf t a b env = match t env with
  | some true => a env
  | some false => b env
  | none => none := Eq.trans rfl rfl
@[simp] theorem sIfE_ap (t : STe) (a b : SE) (env : Env) : sIfE t a b env = match t env with
  | some (.ok true, env1) => a env1
  | some (.ok false, env1) => b env1
  | some (.ex c m, env1) => some (.ex c m, env1)
  | none => none := Eq.trans rfl rfl
@[simp] theorem bName_ap (i : Nat) (m : D) (env : Env) : bName i m env = if i < env.length then some (env.set i (some m)) else none := Eq.trans rfl rfl
@[simp] theorem bNil_ap (ms : List D) (env : Env) : bNil  ms env = match ms with
  | [] => some env
  | _ => none := Eq.trans rfl rfl
@[simp] theorem bCons_ap (b : Bd) (r : Bds) (ms : List D) (env : Env) : bCons b r ms env = match ms with
  | m :: ms => match b m env with
    | some env1 => r ms env1
    | none => none
  | [] => none := Eq.trans rfl rfl
@[simp] theorem bTup_ap (n : Nat) (b : Bds) (m : D) (env : Env) : bTup n b m env = match m with
  | .tup ms => if ms.length = n then b ms env else none
  | _ => none := Eq.trans rfl rfl
@[simp] theorem sAsg_ap (b : Bd) (s : SE) (env : Env) : sAsg b s env = match s env with
  | some (.ok m, env1) => (b m env1).map fun e => (.nx, e)
  | some (.ex c m, env1) => some (.ex c m, env1)
  | none => none := Eq.trans rfl rfl
@[simp] theorem iE_ap (s : SE) (env : Env) : iE s env = match s env with
  | some (.ok m, env1) => (seqD m).map fun ms => (.ok ms, env1)
  | some (.ex c m, env1) => some (.ex c m, env1)
  | none => none := Eq.trans rfl rfl
@[simp] theorem iP_ap (p : SV) (env : Env) : iP p env = match p env with
  | some m => seqD m
  | none => none := Eq.trans rfl rfl
@[simp] theorem iU_ap (p : SAV) (env : Env) : iU p env = (p env).map fun ms => (.ok ms, env) := Eq.trans rfl rfl
@[simp] theorem iRg_ap (f : List D → Option (List D)) (a : SA) (env : Env) : iRg f a env = match a env with
  | some (.ok as, env1) => match lookA as env1 with
    | some ms => (f ms).map fun ms => (.ok ms, env1)
    | none => none
  | some (.ex c m, env1) => some (.ex c m, env1)
  | none => none := Eq.trans rfl rfl
@[simp] theorem iRgU_ap (f : List D → Option (List D)) (p : SAV) (env : Env) : iRgU f p env = match p env with
  | some ms => f ms
  | none => none := Eq.trans rfl rfl
@[simp] theorem sFor_ap (it : SI) (b : Bd) (body : SS) (env : Env) : sFor it b body env = match it env with
  | some (.ok ms, env1) => loopS b body ms env1
  | some (.ex c m, env1) => some (.ex c m, env1)
  | none => none := Eq.trans rfl rfl
@[simp] theorem pLc_ap (own : List Nat) (it : SAV) (b : Bd) (t : STu) (el : SV) (env : Env) : pLc own it b t el env = match it env with
  | some ms => if ms.length ≤ 100000 then (pLcL b t el (wipeE own env) ms).map (.lst true) else none
  | none => none := Eq.trans rfl rfl
@[simp] theorem sLc_ap (own : List Nat) (it : SI) (b : Bd) (t : STe) (el : SE) (env : Env) : sLc own it b t el env = match it env with
  | some (.ok ms, env1) => if ms.length ≤ 100000 then (match lcLoop own b t el ms [] (wipeE own env1) with
    | some (acc, env2) => some (.ok (.lst true acc), restE env1 own env2)
    | none => none) else none
  | some (.ex c m, env1) => some (.ex c m, env1)
  | none => none := Eq.trans rfl rfl
@[simp] theorem sLstM_ap (i : Nat) (s : SE) (f : List D → D → Option (D × List D)) (env : Env) : sLstM i s f env = match pVar i env with
  | some m0 => if isL m0 then (match s env with
    | some (.ok m, env1) => match pVar i env1 with
      | some (.lst true ms) => match f ms m with
        | some (x, ms') => some (.ok x, env1.set i (some (.lst true ms')))
        | none => none
      | _ => none
    | some (.ex c m, env1) => some (.ex c m, env1)
    | none => none) else none
  | none => none := Eq.trans rfl rfl
@[simp] theorem sSetIx_ap (i : Nat) (s : SE) (ix : SV) (env : Env) : sSetIx i s ix env = match s env with
  | some (.ok m, env1) => match pVar i env1, ix env1 with
    | some (.lst true ms), some (.int k) => match ixN ms.length k with
      | some j => if fzs ms then some (.nx, env1.set i (some (.lst true (ms.set j m)))) else none
      | none => none
    | _, _ => none
  | some (.ex c m, env1) => some (.ex c m, env1)
  | none => none := Eq.trans rfl rfl
@[simp] theorem sPar_ap (is : List Nat) (a : SA) (env : Env) : sPar is a env = match a env with
  | some (.ok as, env1) => match valsA as with
    | some ms => if ms.length = is.length ∧ is.all (fun i => decide (i < env1.length)) = true then some (.nx, (is.zip ms).foldl (fun e p => e.set p.1 (some p.2)) env1) else none
    | none => none
  | some (.ex c m, env1) => some (.ex c m, env1)
  | none => none := Eq.trans rfl rfl
@[simp] theorem pK_ap (m : D) (e0 : Env) : pK m e0 = some m := Eq.trans rfl rfl
@[simp] theorem qB_ap (p : SV) (env : Env) : qB p env = match p env with
  | some (.bl b) => some b
  | _ => none := Eq.trans rfl rfl
@[simp] theorem qBE_ap (s : SE) (env : Env) : qBE s env = match s env with
  | some (.ok (.bl b), env1) => some (.ok b, env1)
  | some (.ex c m, env1) => some (.ex c m, env1)
  | _ => none := Eq.trans rfl rfl
@[simp] theorem qYes_ap (e0 : Env) : qYes  e0 = some true := Eq.trans rfl rfl
@[simp] theorem eYes_ap (env : Env) : eYes  env = some (.ok true, env) := Eq.trans rfl rfl
@[simp] theorem pFld_ap (L : List Str) (f : Str) (p : SV) (env : Env) : pFld L f p env = match p env with
  | some (.ins _ c fs) => if L.contains c then fs.lookup f else none
  | _ => none := Eq.trans rfl rfl
@[simp] theorem pAndV_ap (p q : SV) (env : Env) : pAndV p q env = match p env with
  | some (.bl true) => q env
  | some (.bl false) => some (.bl false)
  | _ => none := Eq.trans rfl rfl
@[simp] theorem pOrV_ap (p q : SV) (env : Env) : pOrV p q env = match p env with
  | some (.bl false) => q env
  | some (.bl true) => some (.bl true)
  | _ => none := Eq.trans rfl rfl
@[simp] theorem p1_ap (f : D → Option D) (p : SV) (env : Env) : p1 f p env = (p env).bind f := Eq.trans rfl rfl
@[simp] theorem sFz_ap (i : Nat) (env : Env) : sFz i env = match pVar i env with
  | some m => some (.ok (fr m), env.set i (some (fr m)))
  | none => none := Eq.trans rfl rfl
@[simp] theorem sSetF_ap (L : List Str) (i : Nat) (f : Str) (s : SE) (env : Env) : sSetF L i f s env = match s env with
  | some (.ok m, env1) => match pVar i env1 with
    | some (.ins true c fs) => if L.contains c ∧ fs.length < 1000 then some (.nx, env1.set i (some (.ins true c (putD f m fs)))) else none
    | _ => none
  | some (.ex c m, env1) => some (.ex c m, env1)
  | none => none := Eq.trans rfl rfl
@[simp] theorem sLstF_ap (L : List Str) (i : Nat) (f : Str) (p : SV) (g : List D → D → Option (D × List D)) (env : Env) : sLstF L i f p g env = match pVar i env with
  | some (.ins true c fs) => if L.contains c then (match fs.lookup f, p env with
    | some (.lst true ms), some m => match g ms m with
      | some (x, ms') => some (.ok x, env.set i (some (.ins true c (putD f (.lst true ms') fs))))
      | none => none
    | _, _ => none) else none
  | _ => none := Eq.trans rfl rfl
@[simp] theorem sMethN_ap (c m : Str) (i : Nat) (F : SF) (ra : SA) (env : Env) : sMethN c m i F ra env = match pVar i env with
  | some (.ins _ c' fs) => if c' = c ∧ fs.lookup m = none then sCallA F (aN i ra) env else none
  | _ => none := Eq.trans rfl rfl
@[simp] theorem aVal_ap (m : D) (r : SA) (env : Env) : aVal m r env = match r env with
  | some (.ok as, env2) => some (.ok (.val m :: as), env2)
  | some (.ex c x, env2) => some (.ex c x, env2)
  | none => none := Eq.trans rfl rfl
@[simp] theorem sMethV_ap (c m : Str) (p : SV) (F : SF) (ra : SA) (env : Env) : sMethV c m p F ra env = match p env with
  | some (.ins false c' fs) => if c' = c ∧ fs.lookup m = none then sCallA F (aVal (.ins false c' fs) ra) env else none
  | _ => none := Eq.trans rfl rfl
@[simp] theorem sNoEx_ap (s : SE) (env : Env) : sNoEx s env = match s env with
  | some (.ok m, env1) => some (.ok m, env1)
  | _ => none := Eq.trans rfl rfl
@[simp] theorem sPropN_ap (c : Str) (i : Nat) (F : SF) (env : Env) : sPropN c i F env = match pVar i env with
  | some (.ins _ c' _) => if c' = c then sNoEx (sCallA F (aN i aNil)) env else none
  | _ => none := Eq.trans rfl rfl
@[simp] theorem sPropV_ap (c : Str) (p : SV) (F : SF) (env : Env) : sPropV c p F env = match p env with
  | some (.ins false c' fs) => if c' = c then sNoEx (sCallA F (aVal (.ins false c' fs) aNil)) env else none
  | _ => none := Eq.trans rfl rfl
@[simp] theorem sMake_ap (c : Str) (F : SF) (ra : SA) (env : Env) : sMake c F ra env = match ra env with
  | some (.ok as, env1) => match takeA as env1 with
    | some (ms, env2) => match F (.ins true c [] :: ms) with
      | some (.ok .non, some x :: os) => some (.ok x, backA as os env2)
      | some (.ex c m, _ :: os) => some (.ex c m, backA as os env2)
      | _ => none
    | none => none
  | some (.ex c m, env1) => some (.ex c m, env1)
  | none => none := Eq.trans rfl rfl
@[simp] theorem fzA_ap (p : SAV) (env : Env) : fzA p env = match p env with
  | some ms => if fzs ms then some ms else none
  | none => none := Eq.trans rfl rfl
@[simp] theorem iC1_ap (f : List D → Option (List D)) (s : SE) (env : Env) : iC1 f s env = match s env with
  | some (.ok m, env1) => (f [m]).map fun ms => (.ok ms, env1)
  | some (.ex c m, env1) => some (.ex c m, env1)
  | none => none := Eq.trans rfl rfl
@[simp] theorem pDG_ap (p q : SV) (env : Env) : pDG p q env = match p env, q env with
  | some m, some k => match dLook m k with
    | some (some n) => some n
    | _ => none
  | _, _ => none := Eq.trans rfl rfl
@[simp] theorem pDG2_ap (p q d : SV) (env : Env) : pDG2 p q d env = match p env, q env, d env with
  | some m, some k, some z => match dLook m k with
    | some (some n) => if fz n then some n else none
    | some none => if fz z then some z else none
    | none => none
  | _, _, _ => none := Eq.trans rfl rfl
@[simp] theorem pDIn_ap (b : Bool) (q p : SV) (env : Env) : pDIn b q p env = match p env, q env with
  | some m, some k => match dLook m k with
    | some o => some (.bl (o.isSome == b))
    | none => none
  | _, _ => none := Eq.trans rfl rfl
@[simp] theorem sPut_ap (i : Nat) (s : SE) (q : SV) (env : Env) : sPut i s q env = match s env with
  | some (.ok m, env1) => match pVar i env1, q env1 with
    | some (.dct true kvs), some k => match dPutN kvs k m with
      | some kvs' => some (.nx, env1.set i (some (.dct true kvs')))
      | none => none
    | _, _ => none
  | some (.ex c m, env1) => some (.ex c m, env1)
  | none => none := Eq.trans rfl rfl
@[simp] theorem sPutF_ap (L : List Str) (i : Nat) (f : Str) (s : SE) (q : SV) (env : Env) : sPutF L i f s q env = match s env with
  | some (.ok m, env1) => match pVar i env1, q env1 with
    | some (.ins true c fs), some k => if L.contains c then (match fs.lookup f with
      | some (.dct true kvs) => match dPutN kvs k m with
        | some kvs' => some (.nx, env1.set i (some (.ins true c (putD f (.dct true kvs') fs))))
        | none => none
      | _ => none) else none
    | _, _ => none
  | some (.ex c m, env1) => some (.ex c m, env1)
  | none => none := Eq.trans rfl rfl
@[simp] theorem pDN_ap (e0 : Env) : pDN  e0 = some (.dct true []) := Eq.trans rfl rfl
@[simp] theorem pSl_ap (p : SV) (lo hi : Option SV) (env : Env) : pSl p lo hi env = match p env, oPart lo env, oPart hi env with
  | some m, some l, some h => slD m l h
  | _, _, _ => none := Eq.trans rfl rfl
@[simp] theorem pM_ap (f : D → D → Option D) (p q : SV) (env : Env) : pM f p q env = match p env, q env with
  | some m, some n => if isSD m then f m n else none
  | _, _ => none := Eq.trans rfl rfl
@[simp] theorem vStar_ap (p : SV) (r : SAV) (env : Env) : vStar p r env = match p env, r env with
  | some m, some ms => match seqD m with
    | some ns => some (ns ++ ms)
    | none => none
  | _, _ => none := Eq.trans rfl rfl
@[simp] theorem sStar_ap (i j : Nat) (s : SE) (env : Env) : sStar i j s env = match s env with
  | some (.ok m, env1) => match m with
    | .lst _ (x :: xs) => if fz x = true ∧ fzs xs = true ∧ xs.length ≤ 100000 ∧ i < env1.length ∧ j < env1.length then some (.nx, (env1.set i (some x)).set j (some (.lst true xs))) else none
    | _ => none
  | some (.ex c m, env1) => some (.ex c m, env1)
  | none => none := Eq.trans rfl rfl
@[simp] theorem sMatch_ap (p : SV) (cs : CsS) (env : Env) : sMatch p cs env = match p env with
  | some (.str z) => csGo z env cs
  | _ => none := Eq.trans rfl rfl
@[simp] theorem pThaw_ap (p : SV) (env : Env) : pThaw p env = match p (frE env) with
  | some m => if noFz m then some m else none
  | none => none := Eq.trans rfl rfl
@[simp] theorem pCall_ap (F : SF) (pa : SAV) (env : Env) : pCall F pa env = match pa env with
  | some ms => if fzs ms then okF F ms else none
  | none => none := Eq.trans rfl rfl
@[simp] theorem pMeth_ap (c m : Str) (p : SV) (F : SF) (pa : SAV) (env : Env) : pMeth c m p F pa env = match p env, pa env with
  | some (.ins false c' fs), some ms => if c' = c ∧ fs.lookup m = none ∧ fzs ms = true then okF F (.ins false c' fs :: ms) else none
  | _, _ => none := Eq.trans rfl rfl
@[simp] theorem pProp_ap (c : Str) (p : SV) (F : SF) (env : Env) : pProp c p F env = match p env with
  | some (.ins false c' fs) => if c' = c then okF F [.ins false c' fs] else none
  | _ => none := Eq.trans rfl rfl
@[simp] theorem pLc2_ap (own vs1 : List Nat) (it : SAV) (b : Bd) (t : STu) (it1 : SAV) (b1 : Bd) (t1 : STu) (el : SV) (env : Env) : pLc2 own vs1 it b t it1 b1 t1 el env = match it env with
  | some ms => match pLc2L b t vs1 it1 b1 t1 el (wipeE own env) ms with
    | some xs => if xs.length ≤ 100000 then some (.lst true xs) else none
    | none => none
  | none => none := Eq.trans rfl rfl
@[simp] theorem pDc_ap (own : List Nat) (it : SAV) (b : Bd) (t : STu) (ke ve : SV) (env : Env) : pDc own it b t ke ve env = match it env with
  | some ms => (pDcL b t ke ve (wipeE own env) ms []).map (.dct true)
  | none => none := Eq.trans rfl rfl
@[simp] theorem iTx_ap (p : SV) (env : Env) : iTx p env = match p env with
  | some (.str z) => some (z.cps.toList.map sgn)
  | _ => none := Eq.trans rfl rfl
@[simp] theorem pChain_ap (f g : D → D → Option D) (p q r : SV) (env : Env) : pChain f g p q r env = match p env, q env with
  | some x, some y => match f x y with
    | some (.bl true) => (match r env with
      | some z => g y z
      | none => none)
    | some (.bl false) => some (.bl false)
    | _ => none
  | _, _ => none := Eq.trans rfl rfl

@[simp] theorem pCallU_ap (F : SF) (pa : SAV) (env : Env) : pCallU F pa env = match pa env with
  | some ms => okF F ms
  | none => none := Eq.trans rfl rfl
@[simp] theorem cmpD_1 (f : Int → Int → Bool) (i j : Int) : cmpD f (.int i) (.int j) = some (.bl (f i j)) := rfl
@[simp] theorem sAndV_ap (a b : SE) (env : Env) : sAndV a b env = match a env with
  | some (.ok (.bl true), e) => b e
  | some (.ok (.bl false), e) => some (.ok (.bl false), e)
  | some (.ok _, _) => none
  | some (.ex c m, e) => some (.ex c m, e)
  | none => none := by
  unfold sAndV sBind
  cases a env with
  | none => rfl
  | some p =>
    obtain ⟨r, e⟩ := p
    cases r with
    | ex c m => rfl
    | ok m =>
      cases m with
      | bl b => cases b <;> rfl
      | _ => rfl
@[simp] theorem s2_ap (f : D → D → Option D) (sa sb : SE) (env : Env) : s2 f sa sb env = match sa env with
  | some (.ok x, e) => (match sb e with
    | some (.ok y, e2) => (f x y).map fun m => (.ok m, e2)
    | some (.ex c m, e2) => some (.ex c m, e2)
    | none => none)
  | some (.ex c m, e) => some (.ex c m, e)
  | none => none := Eq.trans rfl rfl
@[simp] theorem sFrA_ap (s : SE) (env : Env) : sFrA s env = match s env with
  | some (.ok m, e) => some (.ok (fr m), e)
  | some (.ex c m, e) => some (.ex c m, e)
  | none => none := Eq.trans rfl rfl
@[simp] theorem sDisp1_ap (k : Str) (s : SE) (env : Env) : sDisp1 k s env = match s env with
  | some (.ok m, e) => some (.ok (.dct true [(.str k, m)]), e)
  | some (.ex c m, e) => some (.ex c m, e)
  | none => none := rfl

/-! ### rules by rfl -/
@[simp] theorem wipeE_0 (e : Env) : wipeE [] e = e := rfl
@[simp] theorem wipeE_1 (v : Nat) (r : List Nat) (e : Env) : wipeE (v :: r) e = (wipeE r e).set v none := rfl
@[simp] theorem restE_0 (e0 e : Env) : restE e0 [] e = e := rfl
@[simp] theorem restE_1 (e0 : Env) (v : Nat) (r : List Nat) (e : Env) : restE e0 (v :: r) e = match pVar v e0 with
    | some m => if fz m then (restE e0 r e).set v (some m) else restE e0 r e
    | none => restE e0 r e := rfl
@[simp] theorem takeA_0 (e : Env) : takeA [] e = some ([], e) := rfl
@[simp] theorem takeA_1 (m : D) (r : List Av) (e : Env) : takeA (.val m :: r) e = match takeA r e with
    | some (ms, env') => some (m :: ms, env')
    | none => none := rfl
@[simp] theorem takeA_2 (i : Nat) (r : List Av) (e : Env) : takeA (.lend i :: r) e = match pVar i e with
    | some m => match takeA r (if fz m then e else e.set i none) with
      | some (ms, env') => some (m :: ms, env')
      | none => none
    | none => none := rfl
@[simp] theorem lookA_0 (e : Env) : lookA [] e = some [] := rfl
@[simp] theorem lookA_1 (m : D) (r : List Av) (e : Env) : lookA (.val m :: r) e = match lookA r e with
    | some ms => some (m :: ms)
    | none => none := rfl
@[simp] theorem lookA_2 (i : Nat) (r : List Av) (e : Env) : lookA (.lend i :: r) e = match pVar i e, lookA r e with
    | some m, some ms => some (m :: ms)
    | _, _ => none := rfl
@[simp] theorem backA_0 (os : List (Option D)) (e : Env) : backA [] os e = e := rfl
@[simp] theorem backA_1 (m : D) (r : List Av) (o : Option D) (os : List (Option D)) (e : Env) : backA (.val m :: r) (o :: os) e = backA r os e := rfl
@[simp] theorem backA_2 (i : Nat) (r : List Av) (o : Option D) (os : List (Option D)) (e : Env) : backA (.lend i :: r) (o :: os) e = match e[i]? with
    | some none => backA r os (e.set i o)
    | _ => backA r os e := rfl
@[simp] theorem valsA_0 : valsA [] = some [] := rfl
@[simp] theorem valsA_1 (m : D) (r : List Av) : valsA (.val m :: r) = match valsA r with
    | some ms => some (m :: ms)
    | none => none := rfl
@[simp] theorem oPart_0 (e : Env) : oPart none e = some none := rfl
@[simp] theorem oPart_1 (p : SV) (e : Env) : oPart (some p) e = match p e with
    | some (.int i) => some (some i)
    | _ => none := rfl
@[simp] theorem fz_1 : fz .non = true := by simp only [fz]
@[simp] theorem fz_2 (b : Bool) : fz (.bl b) = true := by simp only [fz]
@[simp] theorem fz_3 (b : Int) : fz (.int b) = true := by simp only [fz]
@[simp] theorem fz_4 (b : Str) : fz (.str b) = true := by simp only [fz]
@[simp] theorem fz_5 (b : List D) : fz (.tup b) = fzs b := by simp only [fz]
@[simp] theorem fz_6 (o : Bool) (b : List D) : fz (.lst o b) = !o := by simp only [fz]
@[simp] theorem fz_7 (o : Bool) (b : List (D × D)) : fz (.dct o b) = !o := by simp only [fz]
@[simp] theorem fz_8 (o : Bool) (c : Str) (b : List (Str × D)) : fz (.ins o c b) = !o := by simp only [fz]
@[simp] theorem fz_9 (b : List D) : fz (.klst b) = true := by simp only [fz]
@[simp] theorem fzs_0 : fzs [] = true := by simp only [fzs]
@[simp] theorem fzs_1 (m : D) (b : List D) : fzs (m :: b) = (fz m && fzs b) := by simp only [fzs]
@[simp] theorem fr_1 : fr .non = .non := by simp only [fr]
@[simp] theorem fr_2 (b : Bool) : fr (.bl b) = .bl b := by simp only [fr]
@[simp] theorem fr_3 (b : Int) : fr (.int b) = .int b := by simp only [fr]
@[simp] theorem fr_4 (b : Str) : fr (.str b) = .str b := by simp only [fr]
@[simp] theorem fr_5 (b : List D) : fr (.tup b) = .tup (frs b) := by simp only [fr]
@[simp] theorem fr_6 (o : Bool) (b : List D) : fr (.lst o b) = .lst false (frs b) := by simp only [fr]
@[simp] theorem fr_7 (o : Bool) (b : List (D × D)) : fr (.dct o b) = .dct false (frk b) := by simp only [fr]
@[simp] theorem fr_8 (o : Bool) (c : Str) (b : List (Str × D)) : fr (.ins o c b) = .ins false c (frf b) := by simp only [fr]
@[simp] theorem fr_9 (b : List D) : fr (.klst b) = .klst b := by simp only [fr]
@[simp] theorem frs_0 : frs [] = [] := by simp only [frs]
@[simp] theorem frs_1 (m : D) (b : List D) : frs (m :: b) = fr m :: frs b := by simp only [frs]
@[simp] theorem frk_0 : frk [] = [] := by simp only [frk]
@[simp] theorem frk_1 (k m : D) (b : List (D × D)) : frk ((k, m) :: b) = (k, fr m) :: frk b := by simp only [frk]
@[simp] theorem frf_0 : frf [] = [] := by simp only [frf]
@[simp] theorem frf_1 (k : Str) (m : D) (b : List (Str × D)) : frf ((k, m) :: b) = (k, fr m) :: frf b := by simp only [frf]
@[simp] theorem frE_0 : frE [] = [] := rfl
@[simp] theorem frE_1 (r : Env) : frE (none :: r) = none :: frE r := rfl
@[simp] theorem frE_2 (m : D) (r : Env) : frE (some m :: r) = some (fr m) :: frE r := rfl
@[simp] theorem noFz_1 : noFz .non = true := by simp only [noFz]
@[simp] theorem noFz_2 (b : Bool) : noFz (.bl b) = true := by simp only [noFz]
@[simp] theorem noFz_3 (b : Int) : noFz (.int b) = true := by simp only [noFz]
@[simp] theorem noFz_4 (b : Str) : noFz (.str b) = true := by simp only [noFz]
@[simp] theorem noFz_5 (b : List D) : noFz (.tup b) = noFzs b := by simp only [noFz]
@[simp] theorem noFz_6 (o : Bool) (b : List D) : noFz (.lst o b) = (o && noFzs b) := by simp only [noFz]
@[simp] theorem noFz_7 (o : Bool) (b : List (D × D)) : noFz (.dct o b) = (o && noFzk b) := by simp only [noFz]
@[simp] theorem noFz_8 (o : Bool) (c : Str) (b : List (Str × D)) : noFz (.ins o c b) = (o && noFzf b) := by simp only [noFz]
@[simp] theorem noFzs_0 : noFzs [] = true := by simp only [noFzs]
@[simp] theorem noFzs_1 (m : D) (b : List D) : noFzs (m :: b) = (noFz m && noFzs b) := by simp only [noFzs]
@[simp] theorem isL_1 (o : Bool) (b : List D) : isL (.lst o b) = true := rfl
@[simp] theorem isSD_1 (b : Str) : isSD (.str b) = true := rfl
@[simp] theorem seqD_1 (o : Bool) (b : List D) : seqD (.lst o b) = if fzs b then some b else none := rfl
@[simp] theorem seqD_2 (b : List D) : seqD (.tup b) = if fzs b then some b else none := rfl
@[simp] theorem lenD_1 (o : Bool) (b : List D) : lenD [.lst o b] = some (.int b.length) := rfl
@[simp] theorem lenD_2 (b : List D) : lenD [.tup b] = some (.int b.length) := rfl
@[simp] theorem lenD_3 (b : List D) : lenD [.klst b] = some (.int b.length) := rfl
@[simp] theorem lenD_4 (s : Str) : lenD [.str s] = if s.length ≤ sizeLine then some (.int s.length) else none := rfl
@[simp] theorem intD_1 (b : Int) : intD [.int b] = some (.int b) := rfl
@[simp] theorem intD_2 (b : Bool) : intD [.bl b] = some (.int (if b then 1 else 0)) := rfl
@[simp] theorem tupleD_1 (o : Bool) (b : List D) : tupleD [.lst o b] = if fzs b then some (.tup b) else none := rfl
@[simp] theorem tupleD_2 (b : List D) : tupleD [.tup b] = if fzs b then some (.tup b) else none := rfl
@[simp] theorem listD_1 (o : Bool) (b : List D) : listD [.lst o b] = if fzs b then some (.lst true b) else none := rfl
@[simp] theorem listD_2 (b : List D) : listD [.tup b] = if fzs b then some (.lst true b) else none := rfl
@[simp] theorem absD_1 (i : Int) : absD [.int i] = some (.int (if i < 0 then -i else i)) := rfl
@[simp] theorem max2D_1 (i j : Int) : max2D [.int i, .int j] = some (.int (if j > i then j else i)) := rfl
@[simp] theorem min2D_1 (i j : Int) : min2D [.int i, .int j] = some (.int (if j < i then j else i)) := rfl
@[simp] theorem addD_1 (i j : Int) : addD (.int i) (.int j) = some (.int (i + j)) := rfl
@[simp] theorem addD_2 (a b : Str) : addD (.str a) (.str b) = if a.length + b.length ≤ sizeLine then some (.str (a ++ b)) else none := rfl
@[simp] theorem addD_3 (o p : Bool) (ms ns : List D) : addD (.lst o ms) (.lst p ns) = if ms.length + ns.length ≤ sizeLine then (if fzs ms && fzs ns then some (.lst true (ms ++ ns)) else none) else none := rfl
@[simp] theorem addD_4 (ms ns : List D) : addD (.tup ms) (.tup ns) = if ms.length + ns.length ≤ sizeLine then (if fzs ms && fzs ns then some (.tup (ms ++ ns)) else none) else none := rfl
@[simp] theorem subD_1 (i j : Int) : subD (.int i) (.int j) = some (.int (i - j)) := rfl
@[simp] theorem okF_ap (F : SF) (ms : List D) : okF F ms = match F ms with
    | some (.ok m, _) => some m
    | _ => none := Eq.trans rfl rfl
@[simp] theorem putD_0 (f : Str) (m : D) : putD f m [] = [(f, m)] := rfl
@[simp] theorem putD_1 (f : Str) (m : D) (g : Str) (x : D) (r : List (Str × D)) : putD f m ((g, x) :: r) = if g = f then (g, m) :: r else (g, x) :: putD f m r := rfl

@[simp] theorem lk_0 {α : Type} (f : Str) : List.lookup f ([] : List (Str × α)) = none := rfl
@[simp] theorem lk_1 {α : Type} (f g : Str) (x : α) (r : List (Str × α)) : List.lookup f ((g, x) :: r) = if f = g then some x else List.lookup f r := by
  rw [List.lookup_cons]
  by_cases h : f = g
  · subst h; simp
  · rw [if_neg h, beq_eq_false_iff_ne.mpr h]
@[simp] theorem atI_0 {α : Type} (a : α) (r : List α) : atI (a :: r) 0 = some a := atI_nat (j := 0) rfl
@[simp] theorem atI_1 {α : Type} (a b : α) (r : List α) : atI (a :: b :: r) 1 = some b := atI_nat (j := 1) rfl
@[simp] theorem atI_2 {α : Type} (a b c : α) (r : List α) : atI (a :: b :: c :: r) 2 = some c := atI_nat (j := 2) rfl
@[simp] theorem ixD_1 (o : Bool) (ms : List D) (i : Int) : ixD (.lst o ms) (.int i) = match atI ms i with
    | some m => if fzs ms then some m else none
    | none => none := rfl
@[simp] theorem ixD_2 (ms : List D) (i : Int) : ixD (.tup ms) (.int i) = match atI ms i with
    | some m => if fzs ms then some m else none
    | none => none := rfl
@[simp] theorem ixD_3 (ms : List D) (i : Int) : ixD (.klst ms) (.int i) = match atI ms i with
    | some m => if fzs ms then some m else none
    | none => none := rfl
theorem strsD_map {α : Type} (f : α → Str) (l : List α) : (l.map fun x => D.str (f x)) = strsD (l.map f) := by
  unfold strsD
  rw [List.map_map]
  rfl
theorem inB_strs {o : Bool} {x : Str} {l : List Str} (h : IsNm x) (hl : ∀ y ∈ l, IsNm y) : inB (.str x) (.lst o (strsD l)) = some (decide (x ∈ l)) := by
  rw [inB_lst (n := 0) (n' := 0) (Ly.nm h) (Lys.nms hl) (by omega) (by omega), any_strs]
@[simp] theorem ofS_inj {a b : String} : Str.ofString a = Str.ofString b ↔ a = b := by
  constructor
  · intro h
    rw [Str.ofString_eq_toList, Str.ofString_eq_toList] at h
    have h1 : a.toList.map Char.toNat = b.toList.map Char.toNat := by
      have := congrArg (fun x : Str => x.cps.toList) h
      simpa using this
    have h2 : a.toList = b.toList := List.map_inj_right (fun x y e => Char.ext (UInt32.toNat_inj.mp e)) |>.mp h1
    exact String.toList_inj.mp h2
  · rintro rfl; rfl
theorem szl : sizeLine = 16777216 := by decide +kernel

@[simp] theorem truD_1 (b : Bool) : truD (.bl b) = some b := rfl
@[simp] theorem truD_2 : truD .non = some false := rfl
@[simp] theorem truD_3 (o : Bool) (ms : List D) : truD (.lst o ms) = some (!ms.isEmpty) := rfl
@[simp] theorem truD_4 (ms : List D) : truD (.tup ms) = some (!ms.isEmpty) := rfl
@[simp] theorem isD_1 (m : D) : isD m .non = some (.bl (isNon m)) := rfl
@[simp] theorem isNotD_1 (m : D) : isNotD m .non = some (.bl (!isNon m)) := rfl
@[simp] theorem isNon_1 : isNon .non = true := rfl
@[simp] theorem isNon_2 (ms : List D) : isNon (.tup ms) = false := rfl
@[simp] theorem isNon_3 (x : Str) : isNon (.str x) = false := rfl
@[simp] theorem isNon_4 (o : Option Str) : isNon (optD o) = o.isNone := by cases o <;> rfl
@[simp] theorem slD_1 (o : Bool) (ms : List D) (lo hi : Option Int) : slD (.lst o ms) lo hi = if fzs ms then some (.lst true (cutD ms lo hi)) else none := rfl
@[simp] theorem slD_2 (ms : List D) (lo hi : Option Int) : slD (.tup ms) lo hi = if fzs ms then some (.tup (cutD ms lo hi)) else none := rfl
@[simp] theorem strsD_0 : strsD [] = [] := rfl
@[simp] theorem strsD_1 (x : Str) (l : List Str) : strsD (x :: l) = .str x :: strsD l := rfl
@[simp] theorem strsD_snoc (l : List Str) (x : Str) : strsD (l ++ [x]) = strsD l ++ [.str x] := by simp [strsD]

/-! ### lists of data -/
theorem fzs_map {α : Type} {f : α → D} (l : List α) (h : ∀ x, fz (f x) = true) : fzs (l.map f) = true := by
  induction l with
  | nil => rfl
  | cons x l ih => rw [List.map_cons]; unfold fzs; rw [h x, ih]; rfl
theorem noFzs_map {α : Type} {f : α → D} (l : List α) (h : ∀ x, noFz (f x) = true) : noFzs (l.map f) = true := by
  induction l with
  | nil => rfl
  | cons x l ih => rw [List.map_cons]; unfold noFzs; rw [h x, ih]; rfl
theorem frs_map {α : Type} {f : α → D} (l : List α) (h : ∀ x, fr (f x) = f x) : frs (l.map f) = l.map f := by
  induction l with
  | nil => rfl
  | cons x l ih => rw [List.map_cons]; unfold frs; rw [h x, ih]
theorem fzs_app (a b : List D) : fzs (a ++ b) = (fzs a && fzs b) := by
  induction a with
  | nil => simp
  | cons x a ih => rw [List.cons_append, fzs_1, fzs_1, ih, Bool.and_assoc]
@[simp] theorem fz_opt (o : Option Str) : fz (optD o) = true := by cases o <;> rfl
@[simp] theorem noFz_opt (o : Option Str) : noFz (optD o) = true := by cases o <;> rfl
@[simp] theorem fr_opt (o : Option Str) : fr (optD o) = optD o := by cases o <;> rfl
@[simp] theorem fzs_strs (l : List Str) : fzs (strsD l) = true := fzs_map l fun _ => rfl
@[simp] theorem noFzs_strs (l : List Str) : noFzs (strsD l) = true := noFzs_map l fun _ => rfl
@[simp] theorem frs_strs (l : List Str) : frs (strsD l) = strsD l := frs_map l fun _ => by simp
@[simp] theorem len_strs (l : List Str) : (strsD l).length = l.length := List.length_map _
@[simp] theorem fz_kind (k : Str × Str) : fz (kindD k) = true := rfl
@[simp] theorem noFz_kind (k : Str × Str) : noFz (kindD k) = true := rfl
@[simp] theorem fr_kind (k : Str × Str) : fr (kindD k) = kindD k := by simp [kindD]
@[simp] theorem fz_plate (k : Plate) : fz (plateD k) = true := by simp [plateD]
@[simp] theorem noFz_plate (k : Plate) : noFz (plateD k) = true := by simp [plateD]
@[simp] theorem fr_plate (k : Plate) : fr (plateD k) = plateD k := by simp [plateD]
@[simp] theorem fz_gate (k : Gate) : fz (gateD k) = true := by simp [gateD]
@[simp] theorem noFz_gate (k : Gate) : noFz (gateD k) = true := by simp [gateD]
@[simp] theorem fr_gate (k : Gate) : fr (gateD k) = gateD k := by simp [gateD]
@[simp] theorem fzs_kinds (l : List (Str × Str)) : fzs (l.map kindD) = true := fzs_map l fz_kind
@[simp] theorem frs_kinds (l : List (Str × Str)) : frs (l.map kindD) = l.map kindD := frs_map l fr_kind
@[simp] theorem noFzs_kinds (l : List (Str × Str)) : noFzs (l.map kindD) = true := noFzs_map l noFz_kind
@[simp] theorem fzs_plates (l : List Plate) : fzs (l.map plateD) = true := fzs_map l fz_plate
@[simp] theorem frs_plates (l : List Plate) : frs (l.map plateD) = l.map plateD := frs_map l fr_plate
@[simp] theorem noFzs_plates (l : List Plate) : noFzs (l.map plateD) = true := noFzs_map l noFz_plate
@[simp] theorem fzs_gates (l : List Gate) : fzs (l.map gateD) = true := fzs_map l fz_gate
@[simp] theorem frs_gates (l : List Gate) : frs (l.map gateD) = l.map gateD := frs_map l fr_gate
@[simp] theorem noFzs_gates (l : List Gate) : noFzs (l.map gateD) = true := noFzs_map l noFz_gate

/-! ### loops -/
theorem loopS_inv {b : Bd} {body : SS} (I : Nat → Env → Prop) (ms : List D) (h : ∀ k m env, ms[k]? = some m → I k env → ∃ e1 e2, b m env = some e1 ∧ body e1 = some (.nx, e2) ∧ I (k + 1) e2) :
    ∀ env, I 0 env → ∃ env', loopS b body ms env = some (.nx, env') ∧ I ms.length env' := by
  suffices z : ∀ (r : List D) (k : Nat) (env : Env), (∀ j, r[j]? = ms[k + j]?) → k + r.length = ms.length → I k env → ∃ env', loopS b body r env = some (.nx, env') ∧ I ms.length env' from
    fun env i => z ms 0 env (fun j => by rw [Nat.zero_add]) (Nat.zero_add _) i
  intro r
  induction r with
  | nil =>
    intro k env _ hl i
    rw [List.length_nil, Nat.add_zero] at hl
    exact ⟨env, rfl, hl ▸ i⟩
  | cons m r ih =>
    intro k env hj hl i
    obtain ⟨e1, e2, h1, h2, i2⟩ := h k m env (by have := hj 0; rw [Nat.add_zero] at this; rw [← this]; rfl) i
    obtain ⟨e3, h3, i3⟩ := ih (k + 1) e2 (fun j => by have := hj (j + 1); rw [show k + 1 + j = k + (j + 1) by omega, ← this]; rfl) (by rw [List.length_cons] at hl; omega) i2
    refine ⟨e3, ?_, i3⟩
    rw [loopS, h1]
    show (match body e1 with
      | some (.nx, env2) => loopS b body r env2
      | some (.ct, env2) => loopS b body r env2
      | some (.bk, env2) => some (.nx, env2)
      | some (.rt m, env2) => some (.rt m, env2)
      | some (.ex c m, env2) => some (.ex c m, env2)
      | none => none) = _
    rw [h2]
    exact h3
def LRun (b : Bd) (body : SS) : List D → Env → Env → Prop
  | [], e, e' => e = e'
  | m :: r, e, e' => ∃ e1 e2, b m e = some e1 ∧ body e1 = some (.nx, e2) ∧ LRun b body r e2 e'
theorem LRun.loop {b : Bd} {body : SS} : ∀ {ms : List D} {e e' : Env}, LRun b body ms e e' → loopS b body ms e = some (.nx, e')
  | [], e, e', h => by cases h; rfl
  | m :: r, e, e', ⟨e1, e2, h1, h2, h3⟩ => by
    rw [loopS, h1]
    show (match body e1 with
      | some (.nx, env2) => loopS b body r env2
      | some (.ct, env2) => loopS b body r env2
      | some (.bk, env2) => some (.nx, env2)
      | some (.rt m, env2) => some (.rt m, env2)
      | some (.ex c m, env2) => some (.ex c m, env2)
      | none => none) = _
    rw [h2]
    exact h3.loop
theorem LRun.app {b : Bd} {body : SS} : ∀ {xs ys : List D} {e e1 e2 : Env}, LRun b body xs e e1 → LRun b body ys e1 e2 → LRun b body (xs ++ ys) e e2
  | [], _, _, _, _, h, k => by cases h; exact k
  | _ :: _, _, _, _, _, ⟨a, c, h1, h2, h3⟩, k => ⟨a, c, h1, h2, h3.app k⟩
theorem lcLoop_inv {own : List Nat} {b : Bd} {t : STe} {el : SE} (I : Nat → List D → Env → Prop) (ms : List D)
    (h : ∀ k m acc env, ms[k]? = some m → I k acc env → ∃ e1 e2 x e3, b m env = some e1 ∧ t e1 = some (.ok true, e2) ∧ el e2 = some (.ok x, e3) ∧ I (k + 1) (acc ++ [x]) (wipeE own e3)) :
    ∀ acc env, I 0 acc env → ∃ acc' env', lcLoop own b t el ms acc env = some (acc', env') ∧ I ms.length acc' env' := by
  suffices z : ∀ (r : List D) (k : Nat) (acc : List D) (env : Env), (∀ j, r[j]? = ms[k + j]?) → k + r.length = ms.length → I k acc env → ∃ acc' env', lcLoop own b t el r acc env = some (acc', env') ∧ I ms.length acc' env' from
    fun acc env i => z ms 0 acc env (fun j => by rw [Nat.zero_add]) (Nat.zero_add _) i
  intro r
  induction r with
  | nil =>
    intro k acc env _ hl i
    rw [List.length_nil, Nat.add_zero] at hl
    exact ⟨acc, env, rfl, hl ▸ i⟩
  | cons m r ih =>
    intro k acc env hj hl i
    obtain ⟨e1, e2, x, e3, h1, h2, h3, i2⟩ := h k m acc env (by have := hj 0; rw [Nat.add_zero] at this; rw [← this]; rfl) i
    obtain ⟨a4, e4, h4, i4⟩ := ih (k + 1) (acc ++ [x]) (wipeE own e3) (fun j => by have := hj (j + 1); rw [show k + 1 + j = k + (j + 1) by omega, ← this]; rfl) (by rw [List.length_cons] at hl; omega) i2
    refine ⟨a4, e4, ?_, i4⟩
    rw [lcLoop, h1]
    show (match t e1 with
      | some (.ok true, e2) => match el e2 with
        | some (.ok x, e3) => lcLoop own b t el r (acc ++ [x]) (wipeE own e3)
        | _ => none
      | some (.ok false, e2) => lcLoop own b t el r acc (wipeE own e2)
      | _ => none) = _
    rw [h2]
    show (match el e2 with
        | some (.ok x, e3) => lcLoop own b t el r (acc ++ [x]) (wipeE own e3)
        | _ => none) = _
    rw [h3]
    exact h4
theorem pLcL_map {α : Type} {b : Bd} {t : STu} {el : SV} {env : Env} {f : α → D} {g : α → D} : ∀ {l : List α}, (∀ x ∈ l, ∃ e1, b (f x) env = some e1 ∧ t e1 = some true ∧ el e1 = some (g x)) → pLcL b t el env (l.map f) = some (l.map g)
  | [], _ => rfl
  | x :: l, h => by
    obtain ⟨e1, h1, h2, h3⟩ := h x (List.mem_cons_self ..)
    have ih := pLcL_map (b := b) (t := t) (el := el) (env := env) (f := f) (g := g) (l := l) fun y hy => h y (List.mem_cons_of_mem _ hy)
    rw [List.map_cons, pLcL, h1]
    simp [h2, h3, ih]
theorem pLcL_filter {α : Type} {b : Bd} {t : STu} {el : SV} {env : Env} {f : α → D} {g : α → D} {c : α → Bool} : ∀ {l : List α}, (∀ x ∈ l, ∃ e1, b (f x) env = some e1 ∧ t e1 = some (c x) ∧ (c x = true → el e1 = some (g x))) → pLcL b t el env (l.map f) = some ((l.filter c).map g)
  | [], _ => rfl
  | x :: l, h => by
    obtain ⟨e1, h1, h2, h3⟩ := h x (List.mem_cons_self ..)
    have ih := pLcL_filter (b := b) (t := t) (el := el) (env := env) (f := f) (g := g) (c := c) (l := l) fun y hy => h y (List.mem_cons_of_mem _ hy)
    rw [List.map_cons, pLcL, h1]
    cases e : c x with
    | true => simp [h2, e, h3 e, ih]
    | false => simp [h2, e, ih]
theorem boolsL_map {α : Type} (g : α → Bool) (l : List α) : boolsL (l.map fun x => .bl (g x)) = some (l.map g) := by
  induction l with
  | nil => rfl
  | cons x l ih => simp only [List.map_cons, boolsL, ih, Option.map_some]
theorem allD_map {α : Type} (g : α → Bool) (o : Bool) (l : List α) : allD [.lst o (l.map fun x => .bl (g x))] = some (.bl (l.all g)) := by
  simp [allD, boolsL_map, Function.comp_def]
theorem anyD_map {α : Type} (g : α → Bool) (o : Bool) (l : List α) : anyD [.lst o (l.map fun x => .bl (g x))] = some (.bl (l.any g)) := by
  simp [anyD, boolsL_map, Function.comp_def]
theorem zipL_map {α β : Type} (f : α → D) (g : β → D) : ∀ (l : List α) (r : List β), zipL (l.map f) (r.map g) = (l.zip r).map fun p => .tup [f p.1, g p.2]
  | [], r => by cases r <;> rfl
  | x :: l, [] => rfl
  | x :: l, y :: r => by simp only [List.map_cons, zipL, List.zip_cons_cons, zipL_map f g l r]
theorem enumL_map {α : Type} (f : α → D) : ∀ (k : Nat) (l : List α), enumL k (l.map f) = (l.zipIdx k).map fun p => .tup [.int (p.2 : Nat), f p.1]
  | _, [] => rfl
  | k, x :: l => by simp only [List.map_cons, enumL, List.zipIdx_cons, enumL_map f (k + 1) l]
theorem enumL_app : ∀ (k : Nat) (a b : List D), enumL k (a ++ b) = enumL k a ++ enumL (k + a.length) b
  | _, [], _ => rfl
  | k, x :: a, b => by
    rw [List.cons_append, enumL, enumL, enumL_app (k + 1) a b, List.cons_append, List.length_cons, show k + 1 + a.length = k + (a.length + 1) by omega]
theorem intsL_map (l : List Int) : intsL (l.map .int) = some l := by
  induction l with
  | nil => rfl
  | cons x l ih => simp only [List.map_cons, intsL, ih, Option.map_some]
theorem strsOf_map (l : List Str) : strsOf (strsD l) = some l := by
  induction l with
  | nil => rfl
  | cons x l ih => unfold strsD at ih ⊢; simp only [List.map_cons, strsOf, ih, Option.map_some]
theorem intsOfD_map (l : List Int) : intsOfD (l.map .int) = some l := by
  induction l with
  | nil => rfl
  | cons x l ih => simp only [List.map_cons, intsOfD, ih, Option.map_some]
theorem rowsOf_map (l : List (List Int)) : rowsOf (l.map rowD) = some l := by
  induction l with
  | nil => rfl
  | cons x l ih => simp only [List.map_cons, rowD, rowsOf, intsOfD_map, ih]

/-! ### what becomes of the arguments -/
@[simp] theorem outs1 (a : Option D) (r : Env) : outsF (kpL [0]) 0 1 (a :: r) = [a] := rfl
@[simp] theorem outs2 (a b : Option D) (r : Env) : outsF (kpL [0, 1]) 0 2 (a :: b :: r) = [a, b] := rfl
@[simp] theorem outs2a (a b : Option D) (r : Env) : outsF (kpL [0]) 0 2 (a :: b :: r) = [a, none] := rfl
@[simp] theorem outs3 (a b c : Option D) (r : Env) : outsF (kpL [0, 1, 2]) 0 3 (a :: b :: c :: r) = [a, b, c] := rfl
@[simp] theorem outs4 (a b c d : Option D) (r : Env) : outsF (kpL [0, 1, 2, 3]) 0 4 (a :: b :: c :: d :: r) = [a, b, c, d] := rfl
@[simp] theorem outs5 (a b c d e : Option D) (r : Env) : outsF (kpL [0, 1, 2, 3, 4]) 0 5 (a :: b :: c :: d :: e :: r) = [a, b, c, d, e] := rfl
end T

set_option Elab.async false
set_option linter.all false
set_option maxRecDepth 100000
set_option maxHeartbeats 4000000
namespace Q
open PySem PySem.Spec PyProof.Rows L2 T

/-! ### names -/
theorem tl_abc : TL.tl ("abcdefghijklmnopqrstuvwxyz" : Str) = (List.range 26).map (97 + ·) := by decide +kernel
theorem is_name_ok {x : Str} (h : IsNm x) : F_P_is_name [.str x] = some (.ok (.bl true), [some (.str x)]) := by
  have hL : pLcL (bName 1) qYes (p2 inTxD (pVar 1) (pK (.str "abcdefghijklmnopqrstuvwxyz"))) [some (.str x), none] (x.cps.toList.map sgn) = some (x.cps.toList.map fun c => .bl true) :=
    pLcL_map fun c hc => ⟨[some (.str x), some (sgn c)], by simp, by simp, by
      have := h.al c hc
      have e : c ∈ TL.tl ("abcdefghijklmnopqrstuvwxyz" : Str) := by
        rw [tl_abc]
        exact List.mem_map.mpr ⟨c - 97, List.mem_range.mpr (by omega), by omega⟩
      simp [sgn, inTxD, e]⟩
  have a := h.lo
  have b := h.hi
  have c : x.length ≤ sizeLine := by rw [szl]; omega
  have d : x.cps.size ≤ 100000 := by show x.length ≤ 100000; omega
  have e : (1 : Int) ≤ x.length := by omega
  have f : (x.length : Int) ≤ 8 := by omega
  simp [F_P_is_name, b_P_is_name, isiD, tyN, tbT, hL, c, d, e, f, allD_map]
theorem is_fresh_ok {x : Str} {l : List Str} {o : Bool} (h : IsNm x) (hl : ∀ y ∈ l, IsNm y) (hn : x ∉ l) : F_P_is_fresh [.str x, .lst o (strsD l)] = some (.ok (.bl true), [some (.str x), some (.lst o (strsD l))]) := by
  simp [F_P_is_fresh, b_P_is_fresh, is_name_ok h, notInD, inB_strs h hl, hn]

/-! ### the reader -/
def rdFs (L : Lore) (o : Bool) : List (Str × D) := [("own_rooms", .lst o (strsD L.rooms)), ("own_kinds", .lst o (L.kinds.map kindD)), ("own_plates", .lst o (L.plates.map plateD)), ("own_gates", .lst o (L.gates.map gateD))]
def rdD (L : Lore) : D := .ins true "Reader" (rdFs L true)
def rdF (L : Lore) : D := .ins false "Reader" (rdFs L false)
@[simp] theorem fr_rd (L : Lore) : fr (rdD L) = rdF L := by simp [rdD, rdF, rdFs]
@[simp] theorem fr_rdF (L : Lore) : fr (rdF L) = rdF L := by simp [rdF, rdFs]
@[simp] theorem fz_rd (L : Lore) : fz (rdD L) = false := rfl
@[simp] theorem fz_rdF (L : Lore) : fz (rdF L) = true := rfl
theorem kind_names_ok (L : Lore) (hk : L.kinds.length ≤ 100) : F_Reader_kind_names [rdF L] = some (.ok (.lst true (strsD L.kn)), [some (rdF L)]) := by
  have hL : pLcL (bTup 2 (bCons (bName 1) (bCons (bName 2) bNil))) qYes (pFz (pVar 1)) [some (rdF L), none, none] (L.kinds.map kindD) = some (strsD L.kn) := by
    rw [← strsD_map]
    exact pLcL_map fun k hk => ⟨[some (rdF L), some (.str k.1), some (.str k.2)], by simp [kindD], by simp, by simp⟩
  have d : L.kinds.length ≤ 100000 := by omega
  simp only [rdF, rdFs] at hL ⊢
  simp [F_Reader_kind_names, b_Reader_kind_names, hL, d]
theorem plate_names_ok (L : Lore) (hk : L.plates.length ≤ 100) : F_Reader_plate_names [rdF L] = some (.ok (.lst true (strsD L.pn)), [some (rdF L)]) := by
  have hL : pLcL (bName 1) qYes (p2 ixD (pVar 1) (pK (.int 0))) [some (rdF L), none] (L.plates.map plateD) = some (strsD L.pn) := by
    rw [← strsD_map]
    exact pLcL_map fun k hk => ⟨[some (rdF L), some (plateD k)], by simp, by simp, by simp [plateD]⟩
  have d : L.plates.length ≤ 100000 := by omega
  simp only [rdF, rdFs] at hL ⊢
  simp [F_Reader_plate_names, b_Reader_plate_names, hL, d]

/-! ### its methods -/
@[simp] theorem eqB_nil (o p : Bool) : eqB (.lst o []) (.lst p []) = some true := by
  rw [eqB_of (Ly.lst (n := 0) (w := 0) .nil) (Ly.lst (n := 0) (w := 0) .nil) (by omega) (by omega)]
  simp [PyData.eqv, PyData.eqvAll]
theorem eq_nil {α : Type} {o p : Bool} {l : List α} {f : α → D} {g : α → PyData} {n w : Nat} (h : Lys n w (l.map f) (l.map g)) (hn : n ≤ 60) : eqB (.lst o (l.map f)) (.lst p []) = some l.isEmpty := by
  rw [eqB_of (Ly.lst h) (Ly.lst (n := 0) (w := 0) .nil) (by omega) (by omega)]
  cases l <;> simp [PyData.eqv, PyData.eqvAll]
theorem kinds_ly {l : List (Str × Str)} (h : ∀ k ∈ l, IsNm k.1 ∧ IsNm k.2) : Lys 1 (20 * l.length) (l.map kindD) (l.map fun k => .tuple [.str k.1, .str k.2]) :=
  (Lys.map (n := 1) (w := 18) fun k hk => (Ly.tup ((Lys.cons (.nm (h k hk).1) (Lys.cons (.nm (h k hk).2) (.nil (n := 0) (w := 0)))).mono (Nat.le_refl 0) (by omega)))).mono (by omega) (by omega)
theorem plate_ly {p : Plate} (h : IsNm p.name) (h2 : IsNm p.room) (a : 1 ≤ p.num) (b : p.num ≤ 3) (c : ∀ k, p.kind = some k → IsNm k) : Ly 1 60 (plateD p) (.tuple [.str p.name, .str p.room, .int p.num, optP p.kind]) :=
  Ly.tup ((Lys.cons (.nm h) (Lys.cons (.nm h2) (Lys.cons (.int (by omega) (by omega)) (Lys.cons (.opt c) (.nil (n := 0) (w := 0)))))).mono (by omega) (by omega))
theorem gate_ly {g : Gate} (h : IsNm g.name) (h1 : IsNm g.one) (h2 : IsNm g.two) (c : ∀ k, g.kind = some k → IsNm k) (d : ∀ x ∈ g.held, IsNm x) (e : g.held.length ≤ 2) : Ly 2 60 (gateD g) (.tuple [.str g.name, .str g.one, .str g.two, optP g.kind, .tuple (g.held.map .str)]) :=
  Ly.tup ((Lys.cons (.nm h) (Lys.cons (.nm h1) (Lys.cons (.nm h2) (Lys.cons (.opt c) (Lys.cons (Ly.tup (Lys.nms d (n := 0))) (.nil (n := 1) (w := 0))))))).mono (by omega) (by omega))
/-- what the reader has taken can stand -/
structure RdOk (L : Lore) : Prop where
  rn : ∀ x ∈ L.rooms, IsNm x
  kk : ∀ k ∈ L.kinds, IsNm k.1 ∧ k.2 ∈ L.rooms
  pk : ∀ p ∈ L.plates, PlateOk L.rooms L.kn p
  gk : ∀ g ∈ L.gates, GateOk L.rooms L.kn L.pn g
  kl : L.kinds.length ≤ 2
  pl : L.plates.length ≤ 4
  gl : L.gates.length ≤ 8
theorem RdOk.kindNm {L : Lore} (h : RdOk L) : ∀ x ∈ L.kn, IsNm x := fun x hx => by
  obtain ⟨k, hk, rfl⟩ := List.mem_map.mp hx
  exact (h.kk k hk).1
theorem RdOk.plateNm {L : Lore} (h : RdOk L) : ∀ x ∈ L.pn, IsNm x := fun x hx => by
  obtain ⟨k, hk, rfl⟩ := List.mem_map.mp hx
  exact (h.pk k hk).nm
theorem RdOk.gateNm {L : Lore} (h : RdOk L) : ∀ x ∈ L.gn, IsNm x := fun x hx => by
  obtain ⟨k, hk, rfl⟩ := List.mem_map.mp hx
  exact (h.gk k hk).nm
theorem RdOk.eqK {L : Lore} (h : RdOk L) (o p : Bool) : eqB (.lst o (L.kinds.map kindD)) (.lst p []) = some L.kinds.isEmpty := eq_nil (kinds_ly fun k hk => ⟨(h.kk k hk).1, h.rn _ (h.kk k hk).2⟩) (by omega)
theorem RdOk.eqP {L : Lore} (h : RdOk L) (o p : Bool) : eqB (.lst o (L.plates.map plateD)) (.lst p []) = some L.plates.isEmpty := eq_nil (Lys.map fun q hq => plate_ly (h.pk q hq).nm (h.rn _ (h.pk q hq).rm) (h.pk q hq).lo (h.pk q hq).hi fun k e => h.kindNm k ((h.pk q hq).kd k e)) (by omega)
theorem RdOk.eqG {L : Lore} (h : RdOk L) (o p : Bool) : eqB (.lst o (L.gates.map gateD)) (.lst p []) = some L.gates.isEmpty := eq_nil (Lys.map fun q hq => gate_ly (h.gk q hq).nm (h.rn _ (h.gk q hq).a) (h.rn _ (h.gk q hq).b) (fun k e => h.kindNm k ((h.gk q hq).kd k e)) (fun x hx => h.plateNm x ((h.gk q hq).hd x hx)) (h.gk q hq).le) (by omega)
@[simp] theorem neD_int (i j : Int) : neD (.int i) (.int j) = some (.bl (!decide (i = j))) := by
  simp only [neD, eqB, toP, SeqAt.shaped, PyData.canLay0, PyData.depth, eqv_int]; rfl
@[simp] theorem eqD_int (i j : Int) : eqD (.int i) (.int j) = some (.bl (decide (i = j))) := by
  simp only [eqD, eqB, toP, SeqAt.shaped, PyData.canLay0, PyData.depth, eqv_int]; rfl
theorem are_plates_ok {L : Lore} (h : RdOk L) {ps : List Str} (hp : ∀ x ∈ ps, x ∈ L.pn) (hd : ps.Nodup) (hl : ps.length ≤ 2) : F_Reader_are_plates [rdF L, .lst false (strsD ps)] = some (.ok (.bl true), [some (rdF L), some (.lst false (strsD ps))]) := by
  have hn := plate_names_ok L (by have := h.pl; omega)
  have hL : pLcL (bName 2) qYes (p2 inD (pVar 2) (pMeth "Reader" "plate_names" (pVar 0) F_Reader_plate_names vNil)) [some (rdF L), some (.lst false (strsD ps)), none] (strsD ps) = some (ps.map fun x => .bl true) :=
    pLcL_map fun x hx => ⟨[some (rdF L), some (.lst false (strsD ps)), some (.str x)], by simp, by simp, by
      have e := inB_strs (o := true) (h.plateNm x (hp x hx)) h.plateNm
      have e2 := hp x hx
      simp only [rdF, rdFs] at hn ⊢
      simp [hn, inD, e, e2]⟩
  have d : ps.length ≤ 100000 := by omega
  have d2 : ps.length ≤ 60 := by omega
  have d3 : ¬ (2 < (ps.length : Int)) := by omega
  simp [F_Reader_are_plates, b_Reader_are_plates, hL, d, d2, d3, hd, allD_map, lenSetD, strsOf_map]
theorem take_room_ok {L : Lore} (h : RdOk L) {r : Str} (hr : IsNm r) (h1 : L.kinds = []) (h2 : L.rooms.length < 5) (h3 : r ∉ L.rooms) : F_Reader_take_room [rdD L, .str r] = some (.ok (.bl true), [some (rdD { L with rooms := L.rooms ++ [r] }), some (.str r)]) := by
  have e := is_fresh_ok (o := false) hr h.rn h3
  have e1 : ¬ ((L.rooms.length : Int) = 5) := by omega
  have e2 : L.rooms.length ≤ 1000000 := by omega
  have e3 : neD (.lst true (L.kinds.map kindD)) (.lst true []) = some (.bl false) := by rw [h1]; simp [neD]
  simp only [rdD, rdFs]
  simp [F_Reader_take_room, b_Reader_take_room, e, e1, fAppend, e2, e3]
theorem take_kind_ok {L : Lore} (h : RdOk L) {n r : Str} (hn : IsNm n) (h1 : 2 ≤ L.rooms.length) (h2 : L.plates = []) (h3 : L.gates = []) (h4 : L.kinds.length < if L.rooms.length < 5 then 2 else 1) (h5 : r ∈ L.rooms) (h6 : n ∉ L.kn) :
    F_Reader_take_kind [rdD L, .str n, .str r] = some (.ok (.bl true), [some (rdD { L with kinds := L.kinds ++ [(n, r)] }), some (.str n), some (.str r)]) := by
  have e := is_fresh_ok (o := true) hn h.kindNm h6
  have e1 : ¬ ((L.rooms.length : Int) < 2) := by omega
  have e2 : L.kinds.length ≤ 1000000 := by have := h.kl; omega
  have k := kind_names_ok L (by have := h.kl; omega)
  have e3 := inB_strs (o := true) (h.rn _ h5) h.rn
  have e4 : (L.kinds.length : Int) ≠ if (L.rooms.length : Int) < 5 then 2 else 1 := by split <;> split at h4 <;> omega
  have e5 : neD (.lst true (L.plates.map plateD ++ L.gates.map gateD)) (.lst true []) = some (.bl false) := by rw [h2, h3]; simp [neD]
  have e6 : L.plates.length + L.gates.length ≤ 16777216 := by rw [h2, h3]; decide
  simp only [rdD, rdF, rdFs] at *
  by_cases q : (L.rooms.length : Int) < 5
  · rw [if_pos q] at e4
    simp [F_Reader_take_kind, b_Reader_take_kind, e, k, e1, fAppend, e2, e3, h5, e4, e5, e6, q, notInD, kindD, szl]
  · rw [if_neg q] at e4
    simp [F_Reader_take_kind, b_Reader_take_kind, e, k, e1, fAppend, e2, e3, h5, e4, e5, e6, q, notInD, kindD, szl]
end Q

set_option Elab.async false
set_option linter.all false
set_option maxRecDepth 100000
set_option maxHeartbeats 4000000
namespace Q
open PySem PySem.Spec PyProof.Rows L2 T

@[simp] theorem neD_nil (o p : Bool) : neD (.lst o []) (.lst p []) = some (.bl false) := by simp [neD]
@[simp] theorem eqD_nil (o p : Bool) : eqD (.lst o []) (.lst p []) = some (.bl true) := by simp [eqD]
theorem numS_1 : numS 1 = ("1" : Str) := by decide +kernel
theorem numS_2 : numS 2 = ("2" : Str) := by decide +kernel
theorem numS_3 : numS 3 = ("3" : Str) := by decide +kernel
theorem inG_num {i : Int} (h : 1 ≤ i) (k : i ≤ 3) : inGD [.str "1", .str "2", .str "3"] true (.str (numS i)) = some (.bl false) := by
  have s1 : SeqAt.shaped (.str (numS i)) = true := (Ly.str (n := 0) (w := 17) (wd_num h k).pl (wd_num h k).le).shp (by omega)
  have s2 : SeqAt.shaped (.tuple [.str "1", .str "2", .str "3"]) = true := by decide +kernel
  have e : i = 1 ∨ i = 2 ∨ i = 3 := by omega
  simp only [inGD, toP, s1, s2, eqv_str, List.any]
  rcases e with rfl | rfl | rfl
  · simp [numS_1]
  · simp [numS_2]
  · simp [numS_3]
theorem int_num3 {i : Int} (h : 1 ≤ i) (k : i ≤ 3) : intD [.str (numS i)] = some (.int i) := by
  have e : i = 1 ∨ i = 2 ∨ i = 3 := by omega
  have z : ∀ j : Nat, 1 ≤ j → j ≤ 3 → intD [.str (numS (j : Int))] = some (.int (j : Int)) := fun j a b => by
    have t : PySem.intText? (numS (j : Int)) = some (j : Int) := TL.int_num (by
      have := TL.numL_len (n := j) (k := 1) (by decide) (by omega)
      omega)
    have l : (numS (j : Int)).length ≤ 640 := by
      rw [TL.len_tl, TL.tl_num]
      have := TL.numL_len (n := j) (k := 1) (by decide) (by omega)
      omega
    show (match PySem.intText? (numS (j : Int)) with
      | some n => if (numS (j : Int)).length ≤ 640 then some (D.int n) else none
      | none => none) = _
    rw [t]
    show (if (numS (j : Int)).length ≤ 640 then some (D.int (j : Int)) else none) = _
    rw [if_pos l]
  obtain ⟨j, rfl⟩ := Int.eq_ofNat_of_zero_le (show 0 ≤ i by omega)
  exact z j (by omega) (by omega)
theorem eq_strs0 (l : List Str) (hl : ∀ x ∈ l, IsNm x) (o p : Bool) : eqB (.lst o (strsD l)) (.lst p []) = some l.isEmpty := by
  rw [eqB_of (Ly.lst (Lys.nms hl (n := 0))) (Ly.lst (n := 0) (w := 0) .nil) (by omega) (by omega)]
  cases l <;> simp [PyData.eqv, PyData.eqvAll]
theorem take_plate_ok {L : Lore} (h : RdOk L) {p : Plate} (hp : PlateOk L.rooms L.kn p) (h1 : L.kinds ≠ []) (h2 : L.gates = []) (h3 : L.plates.length < 4) (h4 : p.name ∉ L.pn) :
    F_Reader_take_plate [rdD L, .str p.name, .str p.room, .str (numS p.num), .lst true (strsD (optW p.kind))] = some (.ok (.bl true), [some (rdD { L with plates := L.plates ++ [p] }), some (.str p.name), some (.str p.room), some (.str (numS p.num)), some (.lst true (strsD (optW p.kind)))]) := by
  have e := is_fresh_ok (o := true) hp.nm h.plateNm h4
  have e0 : eqD (.lst true (L.kinds.map kindD)) (.lst true []) = some (.bl false) := by
    unfold eqD
    rw [h.eqK]
    cases q : L.kinds with
    | nil => exact absurd q h1
    | cons a b => rfl
  have e1 : neD (.lst true (L.gates.map gateD)) (.lst true []) = some (.bl false) := by rw [h2]; simp [neD]
  have e2 : ¬ ((L.plates.length : Int) = 4) := by omega
  have e3 : L.plates.length ≤ 1000000 := by omega
  have k := plate_names_ok L (by omega)
  have k2 := kind_names_ok L (by have := h.kl; omega)
  have e4 := inB_strs (o := true) (h.rn _ hp.rm) h.rn
  have e5 := inG_num hp.lo hp.hi
  have e6 := int_num3 hp.lo hp.hi
  have e7 := hp.rm
  simp only [rdD, rdF, rdFs] at *
  cases q : p.kind with
  | none =>
    have hL : pLcL (bName 5) qYes (p2 inD (pVar 5) (pMeth "Reader" "kind_names" (pVar 0) F_Reader_kind_names vNil)) [some (.ins false "Reader" [("own_rooms", .lst false (strsD L.rooms)), ("own_kinds", .lst false (L.kinds.map kindD)), ("own_plates", .lst false (L.plates.map plateD)), ("own_gates", .lst false (L.gates.map gateD))]), some (.str p.name), some (.str p.room), some (.str (numS p.num)), some (.lst false []), none] [] = some [] := rfl
    simp [F_Reader_take_plate, b_Reader_take_plate, e, e0, e1, e2, e3, k, notInD, e4, e5, e6, e7, q, optW, hL, allD, boolsL, plateD, optD, fAppend]
  | some x =>
    have hx := hp.kd x q
    have e8 := inB_strs (o := true) (h.kindNm x hx) h.kindNm
    have e9 : neD (.lst true [.str x]) (.lst true []) = some (.bl true) := by
      have := eq_strs0 [x] (fun y hy => by rw [List.mem_singleton.mp hy]; exact h.kindNm x hx) true true
      unfold neD
      rw [show ([D.str x] : List D) = strsD [x] from rfl, this]
      rfl
    have hL : pLcL (bName 5) qYes (p2 inD (pVar 5) (pMeth "Reader" "kind_names" (pVar 0) F_Reader_kind_names vNil)) [some (.ins false "Reader" [("own_rooms", .lst false (strsD L.rooms)), ("own_kinds", .lst false (L.kinds.map kindD)), ("own_plates", .lst false (L.plates.map plateD)), ("own_gates", .lst false (L.gates.map gateD))]), some (.str p.name), some (.str p.room), some (.str (numS p.num)), some (.lst false [.str x]), none] [.str x] = some [.bl true] := by
      simp [pLcL, k2, inD, e8, hx]
    simp [F_Reader_take_plate, b_Reader_take_plate, e, e0, e1, e2, e3, k, notInD, e4, e5, e6, e7, q, optW, hL, allD, boolsL, e9, plateD, optD, fAppend]
end Q

set_option Elab.async false
set_option linter.all false
set_option maxRecDepth 100000
set_option maxHeartbeats 4000000
namespace Q
open PySem PySem.Spec PyProof.Rows L2 T

theorem eqD_str {a b : Str} (h : Plain a) (k : Plain b) : eqD (.str a) (.str b) = some (.bl (decide (a = b))) := by
  unfold eqD
  rw [eqB_of (Ly.str (n := 0) h (Nat.le_refl _)) (Ly.str (n := 0) k (Nat.le_refl _)) (by omega) (by omega), eqv_str]
  rfl
@[simp] theorem cut2 (a b : D) (r : List D) : T.cutD (a :: b :: r) (some 2) none = r := by
  simp [T.cutD, HT.sIx]
  try omega
@[simp] theorem cut3 (a b c : D) (r : List D) : T.cutD (a :: b :: c :: r) (some 3) none = r := by
  simp [T.cutD, HT.sIx]
  try omega
@[simp] theorem cutT3 (a b c : D) (r : List D) : T.cutD (a :: b :: c :: r) none (some 3) = [a, b, c] := by
  simp [T.cutD, HT.sIx]
  try omega
theorem split_held {ps : List Str} (h : ∀ x ∈ ps, IsNm x) (hn : ps ≠ []) (k : ps.length ≤ 2) : splitD (.str (Txt.join "," ps)) (.str ",") = some (.lst true (strsD ps)) := by
  have e := split_com hn fun x hx => (h x hx).free (by omega)
  have l := (wd_held h k).le
  simp only [splitD]
  rw [if_pos ⟨by decide +kernel, by omega⟩, e]
theorem bound_ok {L : Lore} (h : RdOk L) {g : Gate} (hg : GateOk L.rooms L.kn L.pn g) : F_Reader_bound [rdD L, .lst true (strsD (forW g.kind ++ heldW g.held))] = some (.ok (.tup [optD g.kind, .tup (strsD g.held)]), [some (rdD L), none]) := by
  have k2 := kind_names_ok L (by have := h.kl; omega)
  have e1 : eqD (.str "for") (.str "for") = some (.bl true) := by rw [eqD_str (by decide +kernel) (by decide +kernel)]; rfl
  have e2 : eqD (.str "while") (.str "for") = some (.bl false) := by rw [eqD_str (by decide +kernel) (by decide +kernel)]; simp
  have e3 : eqD (.str "while") (.str "while") = some (.bl true) := by rw [eqD_str (by decide +kernel) (by decide +kernel)]; rfl
  have e4 : eqD (.str "for") (.str "while") = some (.bl false) := by rw [eqD_str (by decide +kernel) (by decide +kernel)]; simp
  have ap := are_plates_ok h hg.hd hg.nd hg.le
  by_cases q : g.held = []
  · cases p : g.kind with
    | none =>
      rw [q]
      simp [F_Reader_bound, b_Reader_bound, forW, heldW, optD]
    | some x =>
      have hx := hg.kd x p
      have e8 := inB_strs (o := true) (h.kindNm x hx) h.kindNm
      rw [q]
      simp only [rdD, rdF, rdFs] at *
      simp [F_Reader_bound, b_Reader_bound, forW, heldW, optD, e1, k2, e8, hx, notInD]
  · have sp := split_held (fun x hx => h.plateNm x (hg.hd x hx)) q hg.le
    cases p : g.kind with
    | none =>
      simp only [rdD, rdF, rdFs] at *
      simp [F_Reader_bound, b_Reader_bound, forW, heldW, optD, q, e2, e3, sp, ap]
    | some x =>
      have hx := hg.kd x p
      have e8 := inB_strs (o := true) (h.kindNm x hx) h.kindNm
      simp only [rdD, rdF, rdFs] at *
      simp [F_Reader_bound, b_Reader_bound, forW, heldW, optD, q, e1, e3, k2, e8, hx, notInD, sp, ap]
theorem gate_heads (L : Lore) (h : L.gates.length ≤ 100) (e1 e2 e3 e4 e5 e6 e7 : Option D) : pLcL (bName 7) qYes (p2 ixD (pVar 7) (pK (.int 0))) [e1, e2, e3, e4, e5, e6, e7, none] (L.gates.map gateD) = some (strsD L.gn) := by
  rw [← strsD_map]
  exact pLcL_map fun k hk => ⟨[e1, e2, e3, e4, e5, e6, e7, some (gateD k)], by simp, by simp, by simp [gateD]⟩
theorem take_gate_ok {L : Lore} (h : RdOk L) {g : Gate} (hg : GateOk L.rooms L.kn L.pn g) (h1 : L.kinds ≠ []) (h3 : L.gates.length < 8) (h4 : g.name ∉ L.gn) :
    F_Reader_take_gate [rdD L, .tup [.str g.name, .str g.one, .str g.two], .lst true (strsD (forW g.kind ++ heldW g.held))] = some (.ok (.bl true), [some (rdD { L with gates := L.gates ++ [g] }), some (.tup [.str g.name, .str g.one, .str g.two]), none]) := by
  have e := is_fresh_ok (o := true) hg.nm h.gateNm h4
  have e0 : eqD (.lst true (L.kinds.map kindD)) (.lst true []) = some (.bl false) := by
    unfold eqD
    rw [h.eqK]
    cases q : L.kinds with
    | nil => exact absurd q h1
    | cons a b => rfl
  have e2 : ¬ ((L.gates.length : Int) = 8) := by omega
  have e3 : L.gates.length ≤ 1000000 := by omega
  have e3' : L.gates.length ≤ 100000 := by omega
  have e4 := inB_strs (o := true) (h.rn _ hg.a) h.rn
  have e5 := inB_strs (o := true) (h.rn _ hg.b) h.rn
  have e6 := hg.a
  have e7 := hg.b
  have e8 : eqD (.str g.one) (.str g.two) = some (.bl false) := by
    rw [eqD_str (h.rn _ hg.a).plain (h.rn _ hg.b).plain, decide_eq_false hg.ne]
  have gh := gate_heads L (by omega)
  have bd := bound_ok h hg
  simp only [rdD, rdF, rdFs] at *
  simp [F_Reader_take_gate, b_Reader_take_gate, e, e0, e2, e3, e3', notInD, e4, e5, e6, e7, e8, gh, bd, fAppend, gateD]
end Q

set_option Elab.async false
set_option linter.all false
set_option maxRecDepth 100000
set_option maxHeartbeats 4000000
namespace Q
open PySem PySem.Spec PyProof.Rows L2 T

theorem split_ln {ws : List Str} (h : ∀ w ∈ ws, WdOk w) (hne : ws ≠ []) (hl : ws.length ≤ 8) : splitD (.str (Str.join " " ws)) (.str " ") = some (.lst true (strsD ws)) := by
  have e := split_wds hne fun w hw => (h w hw).sp
  have l := (ln_of h hl).le
  simp only [splitD]
  rw [if_pos ⟨by decide +kernel, by omega⟩, e]
theorem lit_t (a : String) (h : Plain (Str.ofString a)) : eqD (.str (Str.ofString a)) (.str (Str.ofString a)) = some (.bl true) := by
  rw [eqD_str h h, decide_eq_true rfl]
theorem lit_f (a b : String) (h : Plain (Str.ofString a)) (k : Plain (Str.ofString b)) (n : (a == b) = false) : eqD (.str (Str.ofString a)) (.str (Str.ofString b)) = some (.bl false) := by
  rw [eqD_str h k, decide_eq_false fun e => by rw [ofS_inj] at e; subst e; simp at n]
@[simp] theorem lit_1 : eqD (.str "room") (.str "room") = some (.bl true) := lit_t _ (by decide +kernel)
@[simp] theorem lit_2 : eqD (.str "kind") (.str "room") = some (.bl false) := lit_f _ _ (by decide +kernel) (by decide +kernel) (by decide)
@[simp] theorem lit_3 : eqD (.str "kind") (.str "kind") = some (.bl true) := lit_t _ (by decide +kernel)
@[simp] theorem lit_4 : eqD (.str "plate") (.str "room") = some (.bl false) := lit_f _ _ (by decide +kernel) (by decide +kernel) (by decide)
@[simp] theorem lit_5 : eqD (.str "plate") (.str "kind") = some (.bl false) := lit_f _ _ (by decide +kernel) (by decide +kernel) (by decide)
@[simp] theorem lit_6 : eqD (.str "plate") (.str "plate") = some (.bl true) := lit_t _ (by decide +kernel)
@[simp] theorem lit_7 : eqD (.str "gate") (.str "room") = some (.bl false) := lit_f _ _ (by decide +kernel) (by decide +kernel) (by decide)
@[simp] theorem lit_8 : eqD (.str "gate") (.str "kind") = some (.bl false) := lit_f _ _ (by decide +kernel) (by decide +kernel) (by decide)
@[simp] theorem lit_9 : eqD (.str "gate") (.str "plate") = some (.bl false) := lit_f _ _ (by decide +kernel) (by decide +kernel) (by decide)
@[simp] theorem lit_10 : eqD (.str "gate") (.str "gate") = some (.bl true) := lit_t _ (by decide +kernel)
@[simp] theorem csGo_0 (z : Str) (env : T.Env) : csGo z env [] = some (Fl.nx, env) := rfl
@[simp] theorem csGo_1 (z : Str) (env : T.Env) (t : Str) (b : SS) (r : CsS) : csGo z env ((t, b) :: r) = match eqD (.str z) (.str t) with
    | some (.bl true) => b env
    | some (.bl false) => csGo z env r
    | _ => none := rfl
theorem take_ok_room {L : Lore} (h : RdOk L) {r : Str} (hr : IsNm r) (h1 : L.kinds = []) (h2 : L.rooms.length < 5) (h3 : r ∉ L.rooms) : F_Reader_take [rdD L, .str (roomL r)] = some (.ok (.bl true), [some (rdD { L with rooms := L.rooms ++ [r] }), some (.str (roomL r))]) := by
  have t := take_room_ok h hr h1 h2 h3
  have s : splitD (.str (roomL r)) (.str " ") = some (.lst true [.str "room", .str r]) := by
    rw [roomL_eq, split_ln (wds_room hr) (by simp) (by simp)] <;> rfl
  simp only [rdD, rdFs] at *
  simp [F_Reader_take, b_Reader_take, s, t]
theorem take_ok_kind {L : Lore} (h : RdOk L) {k : Str × Str} (hn : IsNm k.1) (h1 : 2 ≤ L.rooms.length) (h2 : L.plates = []) (h3 : L.gates = []) (h4 : L.kinds.length < if L.rooms.length < 5 then 2 else 1) (h5 : k.2 ∈ L.rooms) (h6 : k.1 ∉ L.kn) :
    F_Reader_take [rdD L, .str (kindL k)] = some (.ok (.bl true), [some (rdD { L with kinds := L.kinds ++ [k] }), some (.str (kindL k))]) := by
  have t := take_kind_ok h hn h1 h2 h3 h4 h5 h6
  have s : splitD (.str (kindL k)) (.str " ") = some (.lst true [.str "kind", .str k.1, .str k.2]) := by
    rw [kindL_eq, split_ln (wds_kind hn (h.rn _ h5)) (by simp) (by simp)] <;> rfl
  simp only [rdD, rdFs] at *
  simp [F_Reader_take, b_Reader_take, s, t]
theorem take_ok_plate {L : Lore} (h : RdOk L) {p : Plate} (hp : PlateOk L.rooms L.kn p) (h1 : L.kinds ≠ []) (h2 : L.gates = []) (h3 : L.plates.length < 4) (h4 : p.name ∉ L.pn) :
    F_Reader_take [rdD L, .str (plateL p)] = some (.ok (.bl true), [some (rdD { L with plates := L.plates ++ [p] }), some (.str (plateL p))]) := by
  have t := take_plate_ok h hp h1 h2 h3 h4
  have s : splitD (.str (plateL p)) (.str " ") = some (.lst true (.str "plate" :: .str p.name :: .str p.room :: .str (numS p.num) :: strsD (optW p.kind))) := by
    rw [plateL_eq, split_ln (wds_plate hp.nm (h.rn _ hp.rm) hp.lo hp.hi fun k hk => h.kindNm k (hp.kd k hk)) (by simp [plateW]) (len_plateW p)] <;> rfl
  have l1 : (optW p.kind).length ≤ 1 := by cases p.kind <;> simp [optW]
  have l2 : (optW p.kind).length + 1 + 1 + 1 ≤ 100000 := by omega
  have l3 : (3 : Int) ≤ ((optW p.kind).length : Int) + 1 + 1 + 1 := by omega
  simp only [rdD, rdFs] at *
  simp [F_Reader_take, b_Reader_take, s, t, l2, l3]
theorem take_ok_gate {L : Lore} (h : RdOk L) {g : Gate} (hg : GateOk L.rooms L.kn L.pn g) (h1 : L.kinds ≠ []) (h3 : L.gates.length < 8) (h4 : g.name ∉ L.gn) :
    F_Reader_take [rdD L, .str (gateL g)] = some (.ok (.bl true), [some (rdD { L with gates := L.gates ++ [g] }), some (.str (gateL g))]) := by
  have t := take_gate_ok h hg h1 h3 h4
  have s : splitD (.str (gateL g)) (.str " ") = some (.lst true (.str "gate" :: .str g.name :: .str g.one :: .str g.two :: strsD (forW g.kind ++ heldW g.held))) := by
    rw [gateL_eq, split_ln (wds_gate hg.nm (h.rn _ hg.a) (h.rn _ hg.b) (fun k hk => h.kindNm k (hg.kd k hk)) (fun x hx => h.plateNm x (hg.hd x hx)) hg.le) (by simp [gateW]) (len_gateW g)] <;> rfl
  have l1 := len_gateW g
  generalize hw : forW g.kind ++ heldW g.held = ws at *
  have l2 : ws.length + 1 + 1 + 1 ≤ 100000 := by
    rw [gateW, hw] at l1
    simp only [List.length_cons] at l1
    omega
  have l3 : (3 : Int) ≤ (ws.length : Int) + 1 + 1 + 1 := by omega
  simp only [rdD, rdFs] at *
  simp [F_Reader_take, b_Reader_take, s, t, l2, l3]
end Q

set_option Elab.async false
set_option linter.all false
set_option maxRecDepth 100000
set_option maxHeartbeats 4000000
namespace Q
open PySem PySem.Spec PyProof.Rows L2 T

theorem rd_init_ok : F_Reader_init [.ins true "Reader" []] = some (.ok .non, [some (rdD ⟨[], [], [], []⟩)]) := by
  simp [F_Reader_init, b_Reader_init, rdD, rdFs]
abbrev bR : Bd := bTup 2 (bCons (bName 3) (bCons (bName 4) bNil))
abbrev bodyR : SS := sIf (eNot (qTE (sMethN "Reader" "take" 1 F_Reader_take (aN 4 aNil)))) (fun _ => none) sPass
/-- these lines lead from one state of the reader to another -/
def Rn (k : Nat) (ls : List Str) (L L' : Lore) : Prop := ∀ t l2 x y, ∃ x' y', LRun bR bodyR (enumL k (strsD ls)) [t, some (rdD L), l2, x, y] [t, some (rdD L'), l2, x', y']
theorem Rn.nil (k : Nat) (L : Lore) : Rn k [] L L := fun t l2 x y => ⟨x, y, rfl⟩
theorem Rn.app {k : Nat} {a b : List Str} {L L1 L2 : Lore} (h : Rn k a L L1) (h2 : Rn (k + a.length) b L1 L2) : Rn k (a ++ b) L L2 := fun t l2 x y => by
  obtain ⟨x1, y1, r1⟩ := h t l2 x y
  obtain ⟨x2, y2, r2⟩ := h2 t l2 x1 y1
  refine ⟨x2, y2, ?_⟩
  have e : enumL k (strsD (a ++ b)) = enumL k (strsD a) ++ enumL (k + a.length) (strsD b) := by
    rw [show strsD (a ++ b) = strsD a ++ strsD b from List.map_append, enumL_app, T.len_strs]
  rw [e]
  exact r1.app r2
theorem Rn.one {k : Nat} {l : Str} {L L' : Lore} (h : F_Reader_take [rdD L, .str l] = some (.ok (.bl true), [some (rdD L'), some (.str l)])) : Rn k [l] L L' := fun t l2 x y => by
  refine ⟨some (.int k), some (.str l), [t, some (rdD L), l2, some (.int k), some (.str l)], [t, some (rdD L'), l2, some (.int k), some (.str l)], ?_, ?_, rfl⟩
  · simp [bR, strsD]
  · simp only [rdD, rdFs] at *
    simp [bodyR, h]
theorem run_rooms : ∀ (rs : List Str) (k : Nat) (L : Lore), RdOk L → L.kinds = [] → L.plates = [] → L.gates = [] → (L.rooms ++ rs).length ≤ 5 → (L.rooms ++ rs).Nodup → (∀ r ∈ rs, IsNm r) → Rn k (rs.map roomL) L { L with rooms := L.rooms ++ rs }
  | [], k, L, _, _, _, _, _, _, _ => by
    rw [List.append_nil]
    exact .nil k L
  | r :: rs, k, L, h, h1, h2, h3, h4, h5, h6 => by
    have hr := h6 r (List.mem_cons_self ..)
    have e : L.rooms ++ r :: rs = (L.rooms ++ [r]) ++ rs := by simp
    have n1 : r ∉ L.rooms := fun hm => (List.nodup_append.mp h5).2.2 r hm r (List.mem_cons_self ..) rfl
    have ok : RdOk { L with rooms := L.rooms ++ [r] } := ⟨fun x hx => (List.mem_append.mp hx).elim (h.rn x) fun z => by rw [List.mem_singleton.mp z]; exact hr, by rw [h1]; exact fun k hk => (nomatch hk), by rw [h2]; exact fun k hk => (nomatch hk), by rw [h3]; exact fun k hk => (nomatch hk), h.kl, h.pl, h.gl⟩
    have t := take_ok_room h hr h1 (by simp at h4; omega) n1
    have ih := run_rooms rs (k + 1) { L with rooms := L.rooms ++ [r] } ok h1 h2 h3 (by rw [← e]; exact h4) (by rw [← e]; exact h5) fun x hx => h6 x (List.mem_cons_of_mem _ hx)
    have := Rn.app (k := k) (Rn.one (k := k) t) ih
    rw [e]
    exact this
theorem run_kinds : ∀ (ks : List (Str × Str)) (k : Nat) (L : Lore), RdOk L → 2 ≤ L.rooms.length → L.plates = [] → L.gates = [] → (L.kinds ++ ks).length ≤ (if L.rooms.length < 5 then 2 else 1) → ((L.kinds ++ ks).map (·.1)).Nodup → (∀ r ∈ ks, IsNm r.1 ∧ r.2 ∈ L.rooms) → Rn k (ks.map kindL) L { L with kinds := L.kinds ++ ks }
  | [], k, L, _, _, _, _, _, _, _ => by
    rw [List.append_nil]
    exact .nil k L
  | r :: rs, k, L, h, h1, h2, h3, h4, h5, h6 => by
    have hr := h6 r (List.mem_cons_self ..)
    have e : L.kinds ++ r :: rs = (L.kinds ++ [r]) ++ rs := by simp
    have n1 : r.1 ∉ L.kn := fun hm => by
      rw [List.map_append] at h5
      exact (List.nodup_append.mp h5).2.2 r.1 hm r.1 (List.mem_map_of_mem (List.mem_cons_self ..)) rfl
    have l1 : L.kinds.length < if L.rooms.length < 5 then 2 else 1 := by rw [List.length_append, List.length_cons] at h4; omega
    have ok : RdOk { L with kinds := L.kinds ++ [r] } := ⟨h.rn, fun x hx => (List.mem_append.mp hx).elim (h.kk x) fun z => by rw [List.mem_singleton.mp z]; exact hr, by rw [h2]; exact fun k hk => (nomatch hk), by rw [h3]; exact fun k hk => (nomatch hk), by show (L.kinds ++ [r]).length ≤ 2; rw [List.length_append]; split at l1 <;> simp <;> omega, h.pl, h.gl⟩
    have t := take_ok_kind h hr.1 h1 h2 h3 l1 hr.2 n1
    have ih := run_kinds rs (k + 1) { L with kinds := L.kinds ++ [r] } ok h1 h2 h3 (by rw [← e]; exact h4) (by rw [← e]; exact h5) fun x hx => h6 x (List.mem_cons_of_mem _ hx)
    have := Rn.app (k := k) (Rn.one (k := k) t) ih
    rw [e]
    exact this
theorem run_plates : ∀ (ks : List Plate) (k : Nat) (L : Lore), RdOk L → L.kinds ≠ [] → L.gates = [] → (L.plates ++ ks).length ≤ 4 → ((L.plates ++ ks).map (·.name)).Nodup → (∀ r ∈ ks, PlateOk L.rooms L.kn r) → Rn k (ks.map plateL) L { L with plates := L.plates ++ ks }
  | [], k, L, _, _, _, _, _, _ => by
    rw [List.append_nil]
    exact .nil k L
  | r :: rs, k, L, h, h1, h3, h4, h5, h6 => by
    have hr := h6 r (List.mem_cons_self ..)
    have e : L.plates ++ r :: rs = (L.plates ++ [r]) ++ rs := by simp
    have n1 : r.name ∉ L.pn := fun hm => by
      rw [List.map_append] at h5
      exact (List.nodup_append.mp h5).2.2 r.name hm r.name (List.mem_map_of_mem (List.mem_cons_self ..)) rfl
    have l1 : L.plates.length < 4 := by rw [List.length_append, List.length_cons] at h4; omega
    have ok : RdOk { L with plates := L.plates ++ [r] } := ⟨h.rn, h.kk, fun x hx => (List.mem_append.mp hx).elim (h.pk x) fun z => by rw [List.mem_singleton.mp z]; exact hr, by rw [h3]; exact fun k hk => (nomatch hk), h.kl, by show (L.plates ++ [r]).length ≤ 4; rw [List.length_append]; simp; omega, h.gl⟩
    have t := take_ok_plate h hr h1 h3 l1 n1
    have ih := run_plates rs (k + 1) { L with plates := L.plates ++ [r] } ok h1 h3 (by rw [← e]; exact h4) (by rw [← e]; exact h5) fun x hx => h6 x (List.mem_cons_of_mem _ hx)
    have := Rn.app (k := k) (Rn.one (k := k) t) ih
    rw [e]
    exact this
theorem run_gates : ∀ (ks : List Gate) (k : Nat) (L : Lore), RdOk L → L.kinds ≠ [] → (L.gates ++ ks).length ≤ 8 → ((L.gates ++ ks).map (·.name)).Nodup → (∀ r ∈ ks, GateOk L.rooms L.kn L.pn r) → Rn k (ks.map gateL) L { L with gates := L.gates ++ ks }
  | [], k, L, _, _, _, _, _ => by
    rw [List.append_nil]
    exact .nil k L
  | r :: rs, k, L, h, h1, h4, h5, h6 => by
    have hr := h6 r (List.mem_cons_self ..)
    have e : L.gates ++ r :: rs = (L.gates ++ [r]) ++ rs := by simp
    have n1 : r.name ∉ L.gn := fun hm => by
      rw [List.map_append] at h5
      exact (List.nodup_append.mp h5).2.2 r.name hm r.name (List.mem_map_of_mem (List.mem_cons_self ..)) rfl
    have l1 : L.gates.length < 8 := by rw [List.length_append, List.length_cons] at h4; omega
    have ok : RdOk { L with gates := L.gates ++ [r] } := ⟨h.rn, h.kk, h.pk, fun x hx => (List.mem_append.mp hx).elim (h.gk x) fun z => by rw [List.mem_singleton.mp z]; exact hr, h.kl, h.pl, by show (L.gates ++ [r]).length ≤ 8; rw [List.length_append]; simp; omega⟩
    have t := take_ok_gate h hr h1 l1 n1
    have ih := run_gates rs (k + 1) { L with gates := L.gates ++ [r] } ok h1 (by rw [← e]; exact h4) (by rw [← e]; exact h5) fun x hx => h6 x (List.mem_cons_of_mem _ hx)
    have := Rn.app (k := k) (Rn.one (k := k) t) ih
    rw [e]
    exact this
theorem lore_run {L : Lore} (h : LoreOk L) : Rn 0 L.lines ⟨[], [], [], []⟩ L := by
  have kl : L.kinds.length ≤ 2 := by have := h.k2; split at this <;> omega
  have z : ∀ {α : Type} {p : α → Prop}, ∀ x ∈ ([] : List α), p x := fun x hx => nomatch hx
  have r1 := run_rooms L.rooms 0 ⟨[], [], [], []⟩ ⟨z, z, z, z, Nat.zero_le _, Nat.zero_le _, Nat.zero_le _⟩ rfl rfl rfl h.r2 h.rd h.rn
  have r2 := run_kinds L.kinds (0 + (L.rooms.map roomL).length) ⟨L.rooms, [], [], []⟩ ⟨h.rn, z, z, z, Nat.zero_le _, Nat.zero_le _, Nat.zero_le _⟩ h.r1 rfl rfl h.k2 h.kd h.kk
  have r3 := run_plates L.plates (0 + (L.rooms.map roomL ++ L.kinds.map kindL).length) ⟨L.rooms, L.kinds, [], []⟩ ⟨h.rn, h.kk, z, z, kl, Nat.zero_le _, Nat.zero_le _⟩ h.k1 rfl h.p2 h.pd h.pk
  have r4 := run_gates L.gates (0 + (L.rooms.map roomL ++ L.kinds.map kindL ++ L.plates.map plateL).length) ⟨L.rooms, L.kinds, L.plates, []⟩ ⟨h.rn, h.kk, h.pk, z, kl, h.p2, Nat.zero_le _⟩ h.k1 h.g2 h.gd h.gk
  exact ((r1.app r2).app r3).app r4
theorem lore_rd {L : Lore} (h : LoreOk L) : RdOk L := ⟨h.rn, h.kk, h.pk, h.gk, by have := h.k2; split at this <;> omega, h.p2, h.g2⟩
theorem enum_strs (o : Bool) (l : List Str) : enumD [.lst o (strsD l)] = some (enumL 0 (strsD l)) := by simp [enumD]
theorem read_level_ok {L : Lore} (h : LoreOk L) : F_P_read_level [.str L.text] = some (.ok (rdD L), [some (.str L.text)]) := by
  have sp : splitD (.str L.text) (.str "\n") = some (.lst true (strsD L.lines)) := by
    have l := h.len
    simp only [splitD]
    rw [if_pos ⟨by decide +kernel, by omega⟩, h.split]
  obtain ⟨x, y, r⟩ := lore_run h (some (.str L.text)) (some (.lst false (strsD L.lines))) none none
  have lp := r.loop
  have e1 : eqD (.lst true (L.gates.map gateD)) (.lst true []) = some (.bl false) := by
    unfold eqD
    rw [(lore_rd h).eqG]
    cases q : L.gates with
    | nil => exact absurd q h.g1
    | cons a b => rfl
  have ri := rd_init_ok
  simp only [rdD, rdFs, strsD_0, List.map_nil, bR, bodyR] at *
  simp [F_P_read_level, b_P_read_level, isiD, tyN, tbT, sp, ri, lp, e1, enum_strs]
end Q

set_option Elab.async false
set_option linter.all false
set_option maxRecDepth 100000
set_option maxHeartbeats 4000000
namespace Q
open PySem PySem.Spec PyProof.Rows L2 T

/-! ### rows of numbers -/
def mx (i j : Int) : Int := if j > i then j else i
def gtr (a b : List Int) : List Int := (a.zip b).map fun p => mx p.1 p.2
def wth (a b : List Int) : Bool := (a.zip b).all fun p => decide (p.1 ≤ p.2)
@[simp] theorem fz_row (l : List Int) : fz (rowD l) = true := by rw [rowD, fz_5]; exact fzs_map l fun _ => by simp
@[simp] theorem noFz_row (l : List Int) : noFz (rowD l) = true := by rw [rowD, noFz_5]; exact noFzs_map l fun _ => by simp
@[simp] theorem fr_row (l : List Int) : fr (rowD l) = rowD l := by rw [rowD, fr_5, frs_map l fun _ => by simp]
@[simp] theorem fzs_ints (l : List Int) : fzs (l.map .int) = true := fzs_map l fun _ => by simp
@[simp] theorem fzs_rows (l : List (List Int)) : fzs (l.map rowD) = true := fzs_map l fz_row
@[simp] theorem noFzs_rows (l : List (List Int)) : noFzs (l.map rowD) = true := noFzs_map l noFz_row
@[simp] theorem frs_rows (l : List (List Int)) : frs (l.map rowD) = l.map rowD := frs_map l fr_row
theorem greater_ok {a b : List Int} (h : a.length ≤ 1000) : F_P_greater [rowD a, rowD b] = some (.ok (rowD (gtr a b)), [some (rowD a), some (rowD b)]) := by
  have hL : pLcL (bTup 2 (bCons (bName 2) (bCons (bName 3) bNil))) qYes (pC max2D (vCons (pC intD (vCons (pVar 2) vNil)) (vCons (pC intD (vCons (pVar 3) vNil)) vNil))) [some (rowD a), some (rowD b), none, none] ((a.zip b).map fun p => .tup [.int p.1, .int p.2]) = some ((gtr a b).map .int) := by
    rw [show (gtr a b).map D.int = (a.zip b).map fun p => .int (mx p.1 p.2) by simp [gtr, List.map_map, Function.comp_def]]
    exact pLcL_map fun p hp => ⟨[some (rowD a), some (rowD b), some (.int p.1), some (.int p.2)], by simp, by simp, by simp [mx]⟩
  have l : min a.length b.length ≤ 100000 := by omega
  simp only [rowD] at *
  simp [F_P_greater, b_P_greater, zipD, zipL_map, hL, l]
theorem is_within_ok {a b : List Int} (h : a.length ≤ 1000) : F_P_is_within [rowD a, rowD b] = some (.ok (.bl (wth a b)), [some (rowD a), some (rowD b)]) := by
  have hL : pLcL (bTup 2 (bCons (bName 2) (bCons (bName 3) bNil))) qYes (p2 (cmpD fun i j => decide (i ≤ j)) (pVar 2) (pVar 3)) [some (rowD a), some (rowD b), none, none] ((a.zip b).map fun p => .tup [.int p.1, .int p.2]) = some ((a.zip b).map fun p => .bl (decide (p.1 ≤ p.2))) :=
    pLcL_map fun p hp => ⟨[some (rowD a), some (rowD b), some (.int p.1), some (.int p.2)], by simp, by simp, by simp⟩
  have l : min a.length b.length ≤ 100000 := by omega
  simp only [rowD] at *
  simp [F_P_is_within, b_P_is_within, zipD, zipL_map, hL, allD_map, wth, l]
theorem shp_ints (l : List Int) : SeqAt.shaped (.tuple (l.map .int)) = true := by
  unfold SeqAt.shaped
  have c : PyData.canLayAll0 (l.map .int) = true := by
    induction l with
    | nil => simp [PyData.canLayAll0]
    | cons x l ih => simp [PyData.canLayAll0, PyData.canLay0, ih]
  have t : PyData.depthAll (l.map .int) = 0 := by
    clear c
    induction l with
    | nil => simp [PyData.depthAll]
    | cons x l ih => simp [PyData.depthAll, PyData.depth, ih]
  simp [PyData.canLay0, c, PyData.depth, t]
theorem toPs_ints (l : List Int) : toPs (l.map .int) = some (l.map .int) := by
  induction l with
  | nil => rfl
  | cons x l ih => simp [toPs, toP, ih]
theorem neD_row (a b : List Int) : neD (rowD a) (rowD b) = some (.bl (!decide (a = b))) := by
  simp only [neD, eqB, rowD, toP, toPs_ints, Option.map_some, shp_ints, Bool.and_self, if_true, PyData.eqv, eqv_ints]
def leastM (rows : List (List Int)) : List (List Int) := (sortT rows).filter fun r => !((sortT rows).any fun o => !decide (o = r) && wth o r)
theorem insL_mem {x y : List Int} : ∀ {l : List (List Int)}, y ∈ insL x l → y = x ∨ y ∈ l
  | [], h => .inl (List.mem_singleton.mp h)
  | z :: r, h => by
    unfold insL at h
    split at h
    · exact .inr h
    · split at h
      · exact (List.mem_cons.mp h)
      · rcases List.mem_cons.mp h with h | h
        · exact .inr (h ▸ List.mem_cons_self ..)
        · exact (insL_mem h).imp id fun h => List.mem_cons_of_mem _ h
theorem sortT_mem {y : List Int} : ∀ {l : List (List Int)}, y ∈ sortT l → y ∈ l
  | [], h => nomatch h
  | x :: r, h => by
    unfold sortT at h
    rcases insL_mem h with h | h
    · exact h ▸ List.mem_cons_self ..
    · exact List.mem_cons_of_mem _ (sortT_mem h)
theorem insL_len (x : List Int) : ∀ l : List (List Int), (insL x l).length ≤ l.length + 1
  | [] => Nat.le_refl _
  | z :: r => by
    unfold insL
    split
    · simp
    · split
      · simp
      · have := insL_len x r
        simp only [List.length_cons]; omega
theorem sortT_len : ∀ l : List (List Int), (sortT l).length ≤ l.length
  | [] => Nat.le_refl _
  | x :: r => by
    unfold sortT
    have a := insL_len x (sortT r)
    have b := sortT_len r
    simp only [List.length_cons]; omega
/-- so many rows of n numbers -/
structure RowsOk (n k : Nat) (rows : List (List Int)) : Prop where
  len : rows.length ≤ k
  row : ∀ r ∈ rows, r.length = n ∧ ∀ i ∈ r, 0 ≤ i
theorem RowsOk.fit {n k : Nat} {rows : List (List Int)} (h : RowsOk n k rows) (hk : k < 64) (hn : 1 ≤ n) : rowsFit rows = true := by
  unfold rowsFit
  have a := h.len
  rw [Bool.and_eq_true]
  refine ⟨decide_eq_true (by omega), ?_⟩
  cases rows with
  | nil => rfl
  | cons l r =>
    have e := (h.row l (List.mem_cons_self ..)).1
    show (decide (1 ≤ l.length) && (l :: r).all fun m => m.length == l.length && m.all fun i => decide (0 ≤ i)) = true
    rw [Bool.and_eq_true]
    refine ⟨decide_eq_true (by omega), List.all_eq_true.mpr fun m hm => ?_⟩
    have z := h.row m hm
    rw [Bool.and_eq_true]
    exact ⟨by rw [z.1, e]; exact beq_self_eq_true _, List.all_eq_true.mpr fun i hi => decide_eq_true (z.2 i hi)⟩
theorem least_of_ok {n k : Nat} {rows : List (List Int)} (h : RowsOk n k rows) (hk : k < 64) (hn : 1 ≤ n) (hn2 : n ≤ 1000) (o : Bool) : F_P_least_of [.lst o (rows.map rowD)] = some (.ok (.lst true ((leastM rows).map rowD)), [some (.lst o (rows.map rowD))]) := by
  have s : sortSetD (.lst o (rows.map rowD)) = some (.lst true ((sortT rows).map rowD)) := by
    simp only [sortSetD, rowsOf_map, h.fit hk hn, if_true]
  have ln := sortT_len rows
  have a := h.len
  have l : (sortT rows).length ≤ 100000 := by omega
  have rl : ∀ r ∈ sortT rows, r.length ≤ 1000 := fun r hr => by rw [(h.row r (sortT_mem hr)).1]; exact hn2
  have hL : pLcL (bName 2) (qNot (qT (pC anyD (vCons (pLc [3] (iP (pVar 1)) (bName 3) qYes (pAndV (p2 neD (pVar 3) (pVar 2)) (pCall F_P_is_within (vCons (pVar 3) (vCons (pVar 2) vNil))))) vNil)))) (pFz (pVar 2)) [some (.lst false (rows.map rowD)), some (.lst false ((sortT rows).map rowD)), none, none] ((sortT rows).map rowD) = some ((leastM rows).map rowD) :=
    pLcL_filter fun r hr => ⟨[some (.lst false (rows.map rowD)), some (.lst false ((sortT rows).map rowD)), some (rowD r), none], by simp, by
      have hI : pLcL (bName 3) qYes (pAndV (p2 neD (pVar 3) (pVar 2)) (pCall F_P_is_within (vCons (pVar 3) (vCons (pVar 2) vNil)))) [some (.lst false (rows.map rowD)), some (.lst false ((sortT rows).map rowD)), some (rowD r), none] ((sortT rows).map rowD) = some ((sortT rows).map fun o => .bl (!decide (o = r) && wth o r)) :=
        pLcL_map fun o ho => ⟨[some (.lst false (rows.map rowD)), some (.lst false ((sortT rows).map rowD)), some (rowD r), some (rowD o)], by simp, by simp, by
          by_cases q : o = r
          · subst q
            simp [neD_row]
          · simp [neD_row, q, is_within_ok (rl o ho)]⟩
      simp [hI, l, anyD_map], fun _ => by simp⟩
  simp [F_P_least_of, b_P_least_of, s, hL, l]
end Q

set_option Elab.async false
set_option linter.all false
set_option maxRecDepth 100000
set_option maxHeartbeats 4000000
namespace T
open PySem PySem.Spec PyProof.Rows L2
/-! ### dicts by keys -/
structure KeyE {κ : Type} (e : κ → D) (b0 : Bool) : Prop where
  eq : ∀ a b, keyEq (e a) (e b) = true ↔ a = b
  kk : ∀ a, (kyK (e a)).isSome = b0
  kt : ∀ a, b0 = false → (kyT (e a)).isSome = true
theorem keyStr : KeyE D.str true := ⟨fun a b => by simp [keyEq, kyK], fun _ => rfl, fun _ h => nomatch h⟩
theorem keyPair : KeyE kindD false := ⟨fun a b => by
  obtain ⟨a1, a2⟩ := a
  obtain ⟨b1, b2⟩ := b
  simp [keyEq, kindD, kyK, kyT, kysK], fun _ => rfl, fun _ _ => rfl⟩
theorem dFind_map {κ α : Type} [DecidableEq κ] {e : κ → D} {b0 : Bool} (K : KeyE e b0) (kf : α → κ) (v : α → D) (b : κ) : ∀ l : List α, dFind (l.map fun x => (e (kf x), v x)) (e b) = (l.find? fun x => decide (kf x = b)).map v
  | [] => rfl
  | x :: l => by
    rw [List.map_cons, dFind, List.find?_cons, dFind_map K kf v b l]
    by_cases h : kf x = b
    · rw [if_pos ((K.eq _ _).mpr h), decide_eq_true h]; rfl
    · rw [if_neg fun z => h ((K.eq _ _).mp z), decide_eq_false h]
theorem dLk_map {κ α : Type} [DecidableEq κ] {e : κ → D} {b0 : Bool} (K : KeyE e b0) (kf : α → κ) (v : α → D) (b : κ) {l : List α} (hl : l ≠ []) : dLk (l.map fun x => (e (kf x), v x)) (e b) = some ((l.find? fun x => decide (kf x = b)).map v) := by
  have f := dFind_map K kf v b l
  cases l with
  | nil => exact absurd rfl hl
  | cons x l =>
    have k := K.kk (kf x)
    unfold dLk dKind
    cases b0 with
    | true =>
      simp only [List.map_cons] at f ⊢
      rw [k]
      simp only [if_true, K.kk b, f]
    | false =>
      simp only [List.map_cons] at f ⊢
      rw [k]
      simp only [Bool.false_eq_true, if_false, K.kt b rfl, if_true, f]
theorem dPutN_map {κ α : Type} [DecidableEq κ] {e : κ → D} {b0 : Bool} (K : KeyE e b0) (kf : α → κ) (v : α → D) (b : κ) (m : D) {l : List α} (hb : ∀ x ∈ l, kf x ≠ b) (hl : l.length ≤ 1000000) : dPutN (l.map fun x => (e (kf x), v x)) (e b) m = some (l.map (fun x => (e (kf x), v x)) ++ [(e b, m)]) := by
  have z : dFits (l.map fun x => (e (kf x), v x)) (e b) = true := by
    cases l with
    | nil =>
      unfold dFits
      show ((kyK (e b)).isSome || (kyT (e b)).isSome) = true
      rw [K.kk]
      cases b0 with
      | true => rfl
      | false => rw [K.kt b rfl]; rfl
    | cons x l =>
      have f : ((x :: l).find? fun x => decide (kf x = b)) = none := List.find?_eq_none.mpr fun y hy => by simp [hb y hy]
      have d := dLk_map K kf v b (l := x :: l) (by simp)
      rw [f] at d
      unfold dFits
      simp only [List.map_cons] at d ⊢
      rw [d]
      rfl
  unfold dPutN
  rw [if_pos ⟨z, by rw [List.length_map]; exact hl⟩]
theorem pDcL_map {κ α : Type} [DecidableEq κ] {e : κ → D} {b0 : Bool} (K : KeyE e b0) {b : Bd} {t : STu} {ke ve : SV} {env : T.Env} {f : α → D} (kf : α → κ) (v : α → D) : ∀ (l pre : List α), (∀ x ∈ l, ∃ e1, b (f x) env = some e1 ∧ t e1 = some true ∧ ke e1 = some (e (kf x)) ∧ ve e1 = some (v x)) → ((pre ++ l).map kf).Nodup → (pre ++ l).length ≤ 1000000 →
    pDcL b t ke ve env (l.map f) (pre.map fun x => (e (kf x), v x)) = some ((pre ++ l).map fun x => (e (kf x), v x))
  | [], pre, _, _, _ => by rw [List.append_nil]; rfl
  | x :: l, pre, h, nd, hl => by
    obtain ⟨e1, h1, h2, h3, h4⟩ := h x (List.mem_cons_self ..)
    have e2 : pre ++ x :: l = (pre ++ [x]) ++ l := by simp
    have ih := pDcL_map K (b := b) (t := t) (ke := ke) (ve := ve) (env := env) (f := f) kf v l (pre ++ [x]) (fun y hy => h y (List.mem_cons_of_mem _ hy)) (by rw [← e2]; exact nd) (by rw [← e2]; exact hl)
    have fr : ∀ y ∈ pre, kf y ≠ kf x := fun y hy q => by
      rw [List.map_append] at nd
      exact (List.nodup_append.mp nd).2.2 (kf y) (List.mem_map_of_mem hy) (kf x) (List.mem_map_of_mem (List.mem_cons_self ..)) q
    have p := dPutN_map K kf v (kf x) (v x) fr (by rw [List.length_append] at hl; omega)
    rw [List.map_cons, pDcL, h1]
    simp only [h2, h3, h4, p]
    rw [e2, ← ih, List.map_append]
    rfl
@[simp] theorem dLook_1 (o : Bool) (kvs : List (D × D)) (k : D) : dLook (.dct o kvs) k = dLk kvs k := rfl
theorem frk_map {α : Type} (k v : α → D) (l : List α) (h : ∀ x ∈ l, fr (v x) = v x) : frk (l.map fun x => (k x, v x)) = l.map fun x => (k x, v x) := by
  induction l with
  | nil => rfl
  | cons x l ih => rw [List.map_cons, frk_1, h x (List.mem_cons_self ..), ih fun y hy => h y (List.mem_cons_of_mem _ hy)]
end T
namespace Q
open PySem PySem.Spec PyProof.Rows L2 T

/-! ### what plates and gates need -/
def sharesM (n : Int) (c : Nat) : List (List Int) := if c = 1 then [[n]] else (List.range (n + 1).toNat).map fun (i : Nat) => [(i : Int), n - (i : Int)]
theorem shares_ok {n : Int} {c : Nat} (h : 0 ≤ n) (h2 : n < 1000) : F_P_shares [.int n, .int c] = some (.ok (.lst true ((sharesM n c).map rowD)), [some (.int n), some (.int c)]) := by
  by_cases q : c = 1
  · subst q
    simp [F_P_shares, b_P_shares, sharesM, rowD]
  · have hL : pLcL (bName 2) qYes (pTup (vCons (pFz (pVar 2)) (vCons (p2 subD (pVar 0) (pVar 2)) vNil))) [some (.int n), some (.int c), none] ((List.range (n + 1).toNat).map fun (i : Nat) => .int (i : Int)) = some ((List.range (n + 1).toNat).map fun (i : Nat) => rowD [(i : Int), n - (i : Int)]) :=
      pLcL_map fun i hi => ⟨[some (.int n), some (.int c), some (.int (i : Int))], by simp, by simp, by simp [rowD]⟩
    have q' : ¬ ((c : Int) = 1) := by omega
    have a1 : n + 1 < 4611686018427387904 := by omega
    have a2 : -4611686018427387904 ≤ n + 1 := by omega
    have a3 : (n + 1).toNat ≤ 100000 := by omega
    simp [F_P_shares, b_P_shares, sharesM, q, q', rng1D, a1, a2, a3, hL, Function.comp_def]
def prD (p : Str × Str) : D := kindD p
def kpair : Str × Str → D := kindD
def needK (n : Int) (k room : Str) (places : List (Str × Str)) : List Int := places.map fun q => n * if q = (k, room) then 1 else 0
def needS (room : Str) (places : List (Str × Str)) (kn : List Str) (sh : List Int) : List Int := places.map fun q => (((kn.zip sh).find? fun z => decide ((z.1, room) = q)).map (·.2)).getD 0
def needR (p : Plate) (places : List (Str × Str)) (kn : List Str) : List (List Int) := match p.kind with
  | some k => [needK p.num k p.room places]
  | none => (sharesM p.num kn.length).map (needS p.room places kn)
theorem eqD_pair {a b : Str × Str} (h1 : Plain a.1) (h2 : Plain a.2) (k1 : Plain b.1) (k2 : Plain b.2) : eqD (kindD a) (kindD b) = some (.bl (decide (a = b))) := by
  unfold eqD kindD
  rw [eqB_of (Ly.tup (Lys.cons (.str (w := a.1.length) h1 (Nat.le_refl _)) (Lys.cons (.str (w := a.2.length) h2 (Nat.le_refl _)) (.nil (n := 0) (w := 0))))) (Ly.tup (Lys.cons (.str (w := b.1.length) k1 (Nat.le_refl _)) (Lys.cons (.str (w := b.2.length) k2 (Nat.le_refl _)) (.nil (n := 0) (w := 0))))) (by omega) (by omega)]
  simp only [PyData.eqv, PyData.eqvAll, Option.map_some, Bool.and_true]
  obtain ⟨a1, a2⟩ := a
  obtain ⟨b1, b2⟩ := b
  by_cases q : a1 = b1 <;> by_cases r : a2 = b2 <;> simp [q, r]
theorem sharesM_len {n : Int} {c : Nat} (h : c = 1 ∨ c = 2) : ∀ r ∈ sharesM n c, r.length = c := by
  intro r hr
  unfold sharesM at hr
  split at hr
  · rename_i q
    rw [List.mem_singleton.mp hr, q]; rfl
  · obtain ⟨i, _, rfl⟩ := List.mem_map.mp hr
    show 2 = c
    omega
end Q

set_option Elab.async false
set_option linter.all false
set_option maxRecDepth 100000
set_option maxHeartbeats 4000000
namespace Q
open PySem PySem.Spec PyProof.Rows L2 T

theorem mul_small {i j : Int} (h : -1000000 ≤ i) (k : i ≤ 1000000) : mulD (.int i) (.int j) = some (.int (i * j)) := by
  show (if CMul i j then some (D.int (i * j)) else none) = _
  rw [if_pos (.inl ⟨by omega, by omega⟩)]
theorem map_int_row {α : Type} (f : α → Int) (l : List α) : (l.map fun x => D.int (f x)) = (l.map f).map .int := by rw [List.map_map]; rfl
theorem needR_some {p : Plate} {places : List (Str × Str)} {kn : List Str} {k : Str} (e : p.kind = some k) : needR p places kn = [needK p.num k p.room places] := by
  unfold needR
  rw [e]
theorem needR_none {p : Plate} {places : List (Str × Str)} {kn : List Str} (e : p.kind = none) : needR p places kn = (sharesM p.num kn.length).map (needS p.room places kn) := by
  unfold needR
  rw [e]
@[simp] theorem row_fold (l : List Int) : D.tup (l.map .int) = rowD l := rfl
@[simp] theorem tupleD_ints (o : Bool) (l : List Int) : tupleD [.lst o (l.map .int)] = some (rowD l) := by rw [tupleD_1, fzs_ints, if_pos rfl]; rfl
theorem plate_needs_some {p : Plate} {places : List (Str × Str)} {kn : List Str} {k : Str} (e : p.kind = some k) (hn : 0 ≤ p.num) (hn2 : p.num < 1000) (pl : ∀ q ∈ places, Plain q.1 ∧ Plain q.2) (pr : Plain p.room) (pk : Plain k) (hp : places.length ≤ 1000) :
    F_P_plate_needs [plateD p, .tup (places.map kindD), .tup (strsD kn)] = some (.ok (.lst true ((needR p places kn).map rowD)), [some (plateD p), some (.tup (places.map kindD)), some (.tup (strsD kn))]) := by
  have hL : pLcL (bName 10) qYes (p2 mulD (pVar 5) (pC intD (vCons (p2 eqD (pVar 10) (pTup (vCons (pFz (pVar 6)) (vCons (pFz (pVar 4)) vNil)))) vNil))) [some (plateD p), some (.tup (places.map kindD)), some (.tup (strsD kn)), some (.str p.name), some (.str p.room), some (.int p.num), some (.str k), none, none, none, none, none, none] (places.map kindD) = some ((needK p.num k p.room places).map .int) := by
    unfold needK
    rw [← map_int_row]
    exact pLcL_map fun q hq => ⟨[some (plateD p), some (.tup (places.map kindD)), some (.tup (strsD kn)), some (.str p.name), some (.str p.room), some (.int p.num), some (.str k), none, none, none, some (kindD q), none, none], by simp, by simp, by
      have z := eqD_pair (a := q) (b := (k, p.room)) (pl q hq).1 (pl q hq).2 pk pr
      rw [show kindD (k, p.room) = .tup [.str k, .str p.room] from rfl] at z
      simp [z, mul_small (i := p.num) (by omega) (by omega)]⟩
  have l : places.length ≤ 100000 := by omega
  have fp : fzs (places.map kindD) = true := by simp
  rw [needR_some e]
  simp only [plateD, e, optD] at *
  simp [F_P_plate_needs, b_P_plate_needs, hL, l]
abbrev bodyN : SS := sSeq (sSet 9 (sU (pDc [11, 12] (iRgU zipD (vCons (pVar 2) (vCons (pVar 8) vNil))) (bTup 2 (bCons (bName 11) (bCons (bName 12) bNil))) qYes (pTup (vCons (pFz (pVar 11)) (vCons (pFz (pVar 4)) vNil))) (pFz (pVar 12)))))
    (sDrop (sLstM 7 (sU (pC tupleD (vCons (pLc [10] (iP (pVar 1)) (bName 10) qYes (pDG2 (pVar 9) (pVar 10) (pK (.int 0)))) vNil))) fAppend))
theorem zip_fst {α β : Type} : ∀ (a : List α) (b : List β), a.length ≤ b.length → (a.zip b).map (·.1) = a
  | [], _, _ => rfl
  | x :: a, [], h => by simp at h
  | x :: a, y :: b, h => by rw [List.zip_cons_cons, List.map_cons, zip_fst a b (by simpa using h)]
theorem bodyN_ok {room : Str} {places : List (Str × Str)} {kn : List Str} {sh : List Int} {acc : List (List Int)} {e0 e3 e5 e6 x9 : Option D} (hk : kn.Nodup) (hk0 : kn ≠ []) (hc : kn.length ≤ 1000) (hs : sh.length = kn.length) (hp : places.length ≤ 1000) (ha : acc.length ≤ 1000) :
    ∃ y9, bodyN [e0, some (.tup (places.map kindD)), some (.tup (strsD kn)), e3, some (.str room), e5, e6, some (.lst true (acc.map rowD)), some (rowD sh), x9, none, none, none] =
      some (.nx, [e0, some (.tup (places.map kindD)), some (.tup (strsD kn)), e3, some (.str room), e5, e6, some (.lst true ((acc ++ [needS room places kn sh]).map rowD)), some (rowD sh), y9, none, none, none]) := by
  have hD : pDcL (bTup 2 (bCons (bName 11) (bCons (bName 12) bNil))) qYes (pTup (vCons (pFz (pVar 11)) (vCons (pFz (pVar 4)) vNil))) (pFz (pVar 12)) [e0, some (.tup (places.map kindD)), some (.tup (strsD kn)), e3, some (.str room), e5, e6, some (.lst true (acc.map rowD)), some (rowD sh), x9, none, none, none] ((kn.zip sh).map fun z => .tup [.str z.1, .int z.2]) [] = some ((kn.zip sh).map fun z => (kindD (z.1, room), .int z.2)) := by
    refine pDcL_map keyPair (fun z : Str × Int => (z.1, room)) (fun z => .int z.2) (kn.zip sh) [] (fun z hz => ⟨[e0, some (.tup (places.map kindD)), some (.tup (strsD kn)), e3, some (.str room), e5, e6, some (.lst true (acc.map rowD)), some (rowD sh), x9, none, some (.str z.1), some (.int z.2)], by simp, by simp, by simp [kindD], by simp⟩) ?_ ?_
    · have z := zip_fst kn sh (by omega)
      show (((kn.zip sh)).map fun z => (z.1, room)).Nodup
      have e : ((kn.zip sh).map fun z => (z.1, room)) = ((kn.zip sh).map (·.1)).map fun x => (x, room) := by rw [List.map_map]; rfl
      rw [e, z]
      exact List.pairwise_map.mpr (hk.imp fun h e => h (Prod.mk.inj e).1)
    · show (kn.zip sh).length ≤ 1000000
      rw [List.length_zip]; omega
  have hz : (kn.zip sh) ≠ [] := by
    cases kn with
    | nil => exact absurd rfl hk0
    | cons x kn => cases sh with
      | nil => simp at hs
      | cons y sh => simp
  have hL : pLcL (bName 10) qYes (pDG2 (pVar 9) (pVar 10) (pK (.int 0))) [e0, some (.tup (places.map kindD)), some (.tup (strsD kn)), e3, some (.str room), e5, e6, some (.lst true (acc.map rowD)), some (rowD sh), some (.dct true ((kn.zip sh).map fun z => (kindD (z.1, room), .int z.2))), none, none, none] (places.map kindD) = some ((needS room places kn sh).map .int) := by
    unfold needS
    rw [← map_int_row]
    exact pLcL_map fun q hq => ⟨[e0, some (.tup (places.map kindD)), some (.tup (strsD kn)), e3, some (.str room), e5, e6, some (.lst true (acc.map rowD)), some (rowD sh), some (.dct true ((kn.zip sh).map fun z => (kindD (z.1, room), .int z.2))), some (kindD q), none, none], by simp, by simp, by
      have d := dLk_map keyPair (fun z : Str × Int => (z.1, room)) (fun z => .int z.2) q hz
      simp only [pDG2_ap, pVar_ap, pK_ap]
      simp [d]
      cases (kn.zip sh).find? fun z => decide ((z.1, room) = q) <;> simp⟩
  have l : places.length ≤ 100000 := by omega
  have l2 : acc.length ≤ 1000000 := by omega
  refine ⟨some (.dct true ((kn.zip sh).map fun z => (kindD (z.1, room), .int z.2))), ?_⟩
  have zz : zipD [.tup (strsD kn), rowD sh] = some ((kn.zip sh).map fun z => .tup [.str z.1, .int z.2]) := by
    show (if fzs (strsD kn) && fzs (sh.map .int) then some (zipL (strsD kn) (sh.map .int)) else none) = _
    rw [show strsD kn = kn.map D.str from rfl, zipL_map]
    simp [fzs_map]
  simp [bodyN, zz, hD, hL, l, l2, fAppend]
theorem plate_needs_none {p : Plate} {places : List (Str × Str)} {kn : List Str} (e : p.kind = none) (hn : 0 ≤ p.num) (hn2 : p.num < 900) (hk : kn.Nodup) (hc : kn.length = 1 ∨ kn.length = 2) (hp : places.length ≤ 1000) :
    F_P_plate_needs [plateD p, .tup (places.map kindD), .tup (strsD kn)] = some (.ok (.lst true ((needR p places kn).map rowD)), [some (plateD p), some (.tup (places.map kindD)), some (.tup (strsD kn))]) := by
  have hk0 : kn ≠ [] := fun q => by rw [q] at hc; simp at hc
  have sl : (sharesM p.num kn.length).length ≤ 1000 := by
    unfold sharesM
    split
    · simp
    · rw [List.length_map, List.length_range]; omega
  obtain ⟨e', lp, a, b, he⟩ := loopS_inv (b := bName 8) (body := bodyN) (fun k env => ∃ a b, env = [some (plateD p), some (.tup (places.map kindD)), some (.tup (strsD kn)), some (.str p.name), some (.str p.room), some (.int p.num), some .non, some (.lst true ((((sharesM p.num kn.length).take k).map (needS p.room places kn)).map rowD)), a, b, none, none, none]) ((sharesM p.num kn.length).map rowD)
    (fun k m env hm ⟨a, b, he⟩ => by
      rw [List.getElem?_map] at hm
      cases q : (sharesM p.num kn.length)[k]? with
      | none => rw [q] at hm; cases hm
      | some sh =>
        rw [q] at hm
        cases hm
        obtain ⟨y, hy⟩ := bodyN_ok (room := p.room) (places := places) (kn := kn) (sh := sh) (acc := ((sharesM p.num kn.length).take k).map (needS p.room places kn)) (e0 := some (plateD p)) (e3 := some (.str p.name)) (e5 := some (.int p.num)) (e6 := some .non) (x9 := b) hk hk0 (by omega) (sharesM_len hc sh (List.mem_of_getElem? q)) hp (by rw [List.length_map, List.length_take]; omega)
        refine ⟨_, _, ?_, hy, some (rowD sh), y, ?_⟩
        · rw [he]; simp
        · rw [List.take_add_one, q]; simp)
    [some (plateD p), some (.tup (places.map kindD)), some (.tup (strsD kn)), some (.str p.name), some (.str p.room), some (.int p.num), some .non, some (.lst true []), none, none, none, none, none] ⟨none, none, by simp⟩
  rw [List.length_map, List.take_length] at he
  have sh := shares_ok (n := p.num) (c := kn.length) hn (by omega)
  rw [needR_none e]
  simp only [plateD, e, optD] at *
  simp [F_P_plate_needs, b_P_plate_needs, sh, lp, he]
theorem plate_needs_ok {p : Plate} {places : List (Str × Str)} {kn : List Str} (hn : 0 ≤ p.num) (hn2 : p.num < 900) (hk : kn.Nodup) (hc : kn.length = 1 ∨ kn.length = 2) (pl : ∀ q ∈ places, Plain q.1 ∧ Plain q.2) (pr : Plain p.room) (pk : ∀ k, p.kind = some k → Plain k) (hp : places.length ≤ 1000) :
    F_P_plate_needs [plateD p, .tup (places.map kindD), .tup (strsD kn)] = some (.ok (.lst true ((needR p places kn).map rowD)), [some (plateD p), some (.tup (places.map kindD)), some (.tup (strsD kn))]) := by
  cases e : p.kind with
  | none => exact plate_needs_none e hn hn2 hk hc hp
  | some k => exact plate_needs_some e hn (by omega) pl pr (pk k e) hp
end Q

set_option Elab.async false
set_option linter.all false
set_option maxRecDepth 100000
set_option maxHeartbeats 4000000
namespace T
open PySem PySem.Spec PyProof.Rows L2
@[simp] theorem pIn_ap (vs1 : List Nat) (it1 : SAV) (b1 : Bd) (t1 : STu) (el : SV) (env : T.Env) : pIn vs1 it1 b1 t1 el env = match it1 env with
  | some ns => pLcL b1 t1 el (wipeE vs1 env) ns
  | none => none := Eq.trans rfl rfl
theorem pLc2L_map {α : Type} {b : Bd} {t : STu} {vs1 : List Nat} {it1 : SAV} {b1 : Bd} {t1 : STu} {el : SV} {env : T.Env} {f : α → D} {g : α → List D} : ∀ {l : List α}, (∀ x ∈ l, ∃ e1, b (f x) env = some e1 ∧ t e1 = some true ∧ pIn vs1 it1 b1 t1 el e1 = some (g x)) → pLc2L b t vs1 it1 b1 t1 el env (l.map f) = some (l.flatMap g)
  | [], _ => rfl
  | x :: l, h => by
    obtain ⟨e1, h1, h2, h3⟩ := h x (List.mem_cons_self ..)
    have ih := pLc2L_map (b := b) (t := t) (vs1 := vs1) (it1 := it1) (b1 := b1) (t1 := t1) (el := el) (env := env) (f := f) (g := g) (l := l) fun y hy => h y (List.mem_cons_of_mem _ hy)
    rw [List.map_cons, pLc2L, h1]
    simp only [h2, h3, ih, List.flatMap_cons]
end T
namespace Q
open PySem PySem.Spec PyProof.Rows L2 T

def gmStep (f rs : List (List Int)) : List (List Int) := f.flatMap fun one => rs.map (gtr one)
def gm (ps : List Plate) (places : List (Str × Str)) (kn : List Str) : List (List Int) := ps.foldl (fun f p => gmStep f (needR p places kn)) [List.replicate places.length 0]
def gateNeeds (ps : List Plate) (places : List (Str × Str)) (kn : List Str) : List (List Int) := leastM (gm ps places kn)
theorem gm_snoc (ps : List Plate) (p : Plate) (places : List (Str × Str)) (kn : List Str) : gm (ps ++ [p]) places kn = gmStep (gm ps places kn) (needR p places kn) := by
  unfold gm
  rw [List.foldl_append]
  rfl
theorem gtr_len (a b : List Int) : (gtr a b).length = min a.length b.length := by unfold gtr; rw [List.length_map, List.length_zip]
theorem RowsOk.step {n k m : Nat} {f rs : List (List Int)} (h : RowsOk n k f) (g : RowsOk n m rs) : RowsOk n (k * m) (gmStep f rs) := by
  refine ⟨?_, fun r hr => ?_⟩
  · have a := h.len
    have b := g.len
    have e : (gmStep f rs).length = f.length * rs.length := by
      unfold gmStep
      clear h g a b
      induction f with
      | nil => simp
      | cons x f ih => rw [List.flatMap_cons, List.length_append, List.length_map, ih, List.length_cons, Nat.succ_mul, Nat.add_comm]
    rw [e]
    exact Nat.mul_le_mul a b
  · obtain ⟨one, h1, h2⟩ := List.mem_flatMap.mp hr
    obtain ⟨o, h3, rfl⟩ := List.mem_map.mp h2
    have a := h.row one h1
    have b := g.row o h3
    refine ⟨by rw [gtr_len, a.1, b.1, Nat.min_self], fun i hi => ?_⟩
    obtain ⟨p, hp, rfl⟩ := List.mem_map.mp hi
    have c := a.2 p.1 (List.of_mem_zip hp).1
    have d := b.2 p.2 (List.of_mem_zip hp).2
    unfold mx
    split <;> assumption
theorem sharesM_ok {n : Int} {c : Nat} (h : 0 ≤ n) (h2 : n ≤ 3) : (sharesM n c).length ≤ 4 ∧ ∀ r ∈ sharesM n c, ∀ i ∈ r, 0 ≤ i := by
  unfold sharesM
  split
  · exact ⟨by simp, fun r hr i hi => by
      rw [List.mem_singleton.mp hr] at hi
      rw [List.mem_singleton.mp hi]
      exact h⟩
  · refine ⟨by rw [List.length_map, List.length_range]; omega, fun r hr i hi => ?_⟩
    obtain ⟨j, hj, rfl⟩ := List.mem_map.mp hr
    have := List.mem_range.mp hj
    simp only [List.mem_cons, List.not_mem_nil, or_false] at hi
    rcases hi with rfl | rfl <;> omega
theorem needR_rows {p : Plate} {places : List (Str × Str)} {kn : List Str} (h : 0 ≤ p.num) (h2 : p.num ≤ 3) : RowsOk places.length 4 (needR p places kn) := by
  cases e : p.kind with
  | some k =>
    rw [needR_some e]
    refine ⟨by simp, fun r hr => ?_⟩
    rw [List.mem_singleton.mp hr]
    refine ⟨by simp [needK], fun i hi => ?_⟩
    obtain ⟨q, _, rfl⟩ := List.mem_map.mp hi
    split <;> omega
  | none =>
    rw [needR_none e]
    have s := sharesM_ok (n := p.num) (c := kn.length) h h2
    refine ⟨by rw [List.length_map]; exact s.1, fun r hr => ?_⟩
    obtain ⟨sh, hsh, rfl⟩ := List.mem_map.mp hr
    refine ⟨by simp [needS], fun i hi => ?_⟩
    obtain ⟨q, _, rfl⟩ := List.mem_map.mp hi
    cases f : (kn.zip sh).find? fun z => decide ((z.1, p.room) = q) with
    | none => exact Int.le_refl 0
    | some z => exact s.2 sh hsh z.2 (List.of_mem_zip (List.mem_of_find?_eq_some f)).2
theorem gm_rows {ps : List Plate} {places : List (Str × Str)} {kn : List Str} (h : ∀ p ∈ ps, 0 ≤ p.num ∧ p.num ≤ 3) : RowsOk places.length (4 ^ ps.length) (gm ps places kn) := by
  suffices z : ∀ (ps : List Plate) (f : List (List Int)) (k : Nat), (∀ p ∈ ps, 0 ≤ p.num ∧ p.num ≤ 3) → RowsOk places.length k f → RowsOk places.length (k * 4 ^ ps.length) (ps.foldl (fun f p => gmStep f (needR p places kn)) f) by
    have e := z ps [List.replicate places.length 0] 1 h ⟨by simp, fun r hr => by
      rw [List.mem_singleton.mp hr]
      exact ⟨List.length_replicate, fun i hi => by rw [(List.mem_replicate.mp hi).2]; exact Int.le_refl 0⟩⟩
    rw [Nat.one_mul] at e
    exact e
  intro ps
  induction ps with
  | nil => intro f k _ hf; rw [List.length_nil, Nat.pow_zero, Nat.mul_one]; exact hf
  | cons p ps ih =>
    intro f k hp hf
    have := ih (gmStep f (needR p places kn)) (k * 4) (fun q hq => hp q (List.mem_cons_of_mem _ hq)) (hf.step (needR_rows (hp p (List.mem_cons_self ..)).1 (hp p (List.mem_cons_self ..)).2))
    rw [List.foldl_cons, List.length_cons, Nat.pow_succ, Nat.mul_comm (4 ^ ps.length) 4, ← Nat.mul_assoc]
    exact this
theorem zeros {n : Nat} (h : 2 ≤ n) (h2 : n ≤ 1000) : mulD (.tup [.int 0]) (.int (n : Int)) = some (rowD (List.replicate n 0)) := by
  have e : (List.replicate n [D.int 0]).flatten = (List.replicate n (0 : Int)).map .int := by
    induction n with
    | zero => rfl
    | succ n ih => simp [List.replicate_succ]
  have c : [D.int 0] ≠ [] ∧ 2 ≤ (n : Int) ∧ (n : Int) ≤ 1000 ∧ [D.int 0].length ≤ 1000 := ⟨by simp, by omega, by omega, by simp⟩
  show (if [D.int 0] ≠ [] ∧ 2 ≤ (n : Int) ∧ (n : Int) ≤ 1000 ∧ [D.int 0].length ≤ 1000 then (if fzs [D.int 0] then some (D.tup (List.replicate (n : Int).toNat [D.int 0]).flatten) else none) else none) = _
  rw [if_pos c, Int.toNat_natCast, e]
  rfl
theorem gate_needs_ok {ps : List Plate} {places : List (Str × Str)} {kn : List Str} {o : Bool} (hpn : ∀ p ∈ ps, 0 ≤ p.num ∧ p.num ≤ 3) (hps : ps.length ≤ 2) (hk : kn.Nodup) (hc : kn.length = 1 ∨ kn.length = 2) (pl : ∀ q ∈ places, Plain q.1 ∧ Plain q.2) (pr : ∀ p ∈ ps, Plain p.room ∧ ∀ k, p.kind = some k → Plain k) (hp : places.length ≤ 1000) (hp2 : 2 ≤ places.length) :
    F_P_gate_needs [.lst o (ps.map plateD), .tup (places.map kindD), .tup (strsD kn)] = some (.ok (.tup ((gateNeeds ps places kn).map rowD)), [some (.lst false (ps.map plateD)), some (.tup (places.map kindD)), some (.tup (strsD kn))]) := by
  have rk : ∀ j, j ≤ ps.length → RowsOk places.length 16 (gm (ps.take j) places kn) := fun j hj => by
    have := gm_rows (ps := ps.take j) (places := places) (kn := kn) fun p hp => hpn p (List.mem_of_mem_take hp)
    refine ⟨Nat.le_trans this.len ?_, this.row⟩
    have l : (ps.take j).length ≤ 2 := by rw [List.length_take]; omega
    exact Nat.pow_le_pow_right (by decide) l
  obtain ⟨e', lp, a, he⟩ := loopS_inv (b := bName 4) (body := sSet 3 (sU (pLc2 [5, 6] [6] (iP (pVar 3)) (bName 5) qYes (iP (pCall F_P_plate_needs (vCons (pVar 4) (vCons (pVar 1) (vCons (pVar 2) vNil))))) (bName 6) qYes (pCall F_P_greater (vCons (pVar 5) (vCons (pVar 6) vNil))))))
    (fun j env => ∃ a, env = [some (.lst false (ps.map plateD)), some (.tup (places.map kindD)), some (.tup (strsD kn)), some (.lst true ((gm (ps.take j) places kn).map rowD)), a, none, none]) (ps.map plateD)
    (fun j m env hm ⟨a, he⟩ => by
      rw [List.getElem?_map] at hm
      cases q : ps[j]? with
      | none => rw [q] at hm; cases hm
      | some p =>
        rw [q] at hm
        cases hm
        have mp := List.mem_of_getElem? q
        have jl : j < ps.length := (List.getElem?_eq_some_iff.mp q).1
        have pn := plate_needs_ok (p := p) (places := places) (kn := kn) (hpn p mp).1 (by have := (hpn p mp).2; omega) hk hc pl (pr p mp).1 (pr p mp).2 hp
        have rj := rk j (by omega)
        have rj1 := rk (j + 1) jl
        have tk : ps.take (j + 1) = ps.take j ++ [p] := by rw [List.take_add_one, q]; rfl
        rw [tk, gm_snoc] at rj1
        have h2 : pLc2L (bName 5) qYes [6] (iP (pCall F_P_plate_needs (vCons (pVar 4) (vCons (pVar 1) (vCons (pVar 2) vNil))))) (bName 6) qYes (pCall F_P_greater (vCons (pVar 5) (vCons (pVar 6) vNil))) [some (.lst false (ps.map plateD)), some (.tup (places.map kindD)), some (.tup (strsD kn)), some (.lst true ((gm (ps.take j) places kn).map rowD)), some (plateD p), none, none] ((gm (ps.take j) places kn).map rowD) = some ((gmStep (gm (ps.take j) places kn) (needR p places kn)).map rowD) := by
          unfold gmStep
          rw [List.map_flatMap]
          refine pLc2L_map fun one h1 => ⟨[some (.lst false (ps.map plateD)), some (.tup (places.map kindD)), some (.tup (strsD kn)), some (.lst true ((gm (ps.take j) places kn).map rowD)), some (plateD p), some (rowD one), none], by simp, by simp, ?_⟩
          have gl : one.length ≤ 1000 := by rw [(rj.row one h1).1]; exact hp
          have hI : pLcL (bName 6) qYes (pCall F_P_greater (vCons (pVar 5) (vCons (pVar 6) vNil))) [some (.lst false (ps.map plateD)), some (.tup (places.map kindD)), some (.tup (strsD kn)), some (.lst true ((gm (ps.take j) places kn).map rowD)), some (plateD p), some (rowD one), none] ((needR p places kn).map rowD) = some ((needR p places kn).map fun o => rowD (gtr one o)) :=
            pLcL_map fun o ho => ⟨[some (.lst false (ps.map plateD)), some (.tup (places.map kindD)), some (.tup (strsD kn)), some (.lst true ((gm (ps.take j) places kn).map rowD)), some (plateD p), some (rowD one), some (rowD o)], by simp, by simp, by simp [greater_ok gl]⟩
          simp [pn, hI, Function.comp_def]
        have ll : (gmStep (gm (ps.take j) places kn) (needR p places kn)).length ≤ 100000 := by have := rj1.len; omega
        refine ⟨[some (.lst false (ps.map plateD)), some (.tup (places.map kindD)), some (.tup (strsD kn)), some (.lst true ((gm (ps.take j) places kn).map rowD)), some (plateD p), none, none], [some (.lst false (ps.map plateD)), some (.tup (places.map kindD)), some (.tup (strsD kn)), some (.lst true ((gmStep (gm (ps.take j) places kn) (needR p places kn)).map rowD)), some (plateD p), none, none], ?_, ?_, some (plateD p), ?_⟩
        · rw [he]; simp
        · simp [h2, ll]
        · rw [tk, gm_snoc])
    [some (.lst false (ps.map plateD)), some (.tup (places.map kindD)), some (.tup (strsD kn)), some (.lst true ([List.replicate places.length 0].map rowD)), none, none, none] ⟨none, rfl⟩
  rw [List.length_map, List.take_length] at he
  have r := rk ps.length (Nat.le_refl _)
  rw [List.take_length] at r
  have lo := least_of_ok r (by omega) (by omega) hp false
  have z := zeros hp2 hp
  simp only [List.map_cons, List.map_nil] at lp
  simp [F_P_gate_needs, b_P_gate_needs, z, lp, he, lo, gateNeeds]
end Q

set_option Elab.async false
set_option linter.all false
set_option maxRecDepth 100000
set_option maxHeartbeats 4000000
namespace T
open PySem PySem.Spec PyProof.Rows L2
instance : Inhabited Plate := ⟨⟨"", "", 0, none⟩⟩
def Lore.places (L : Lore) : List (Str × Str) := L.kn.flatMap fun k => L.rooms.map fun r => (k, r)
def Lore.idx (L : Lore) (q : Str × Str) : Nat := L.places.idxOf q
def platesOf (L : Lore) (g : Gate) : List Plate := g.held.map fun n => (L.plates.find? fun p => decide (p.name = n)).getD default
def okFor (g : Gate) (k : Str) : Bool := decide (g.kind = none) || decide (g.kind = some k)
def stepsAt (kn : List Str) (g : Gate) : List (Gate × Str) := (kn.filter (okFor g)).map fun k => (g, k)
def Lore.steps (L : Lore) : List (Gate × Str) := L.gates.flatMap (stepsAt L.kn)
def stepK (s : Gate × Str) : Str × Str := (s.1.name, s.2)
def idxD (L : Lore) : List (D × D) := L.places.zipIdx.map fun p => (kindD p.1, .int p.2)
def wayD (L : Lore) (s : Gate × Str) : D := .tup [.int (L.idx (s.2, s.1.one)), .int (L.idx (s.2, s.1.two))]
def waysD (L : Lore) (ss : List (Gate × Str)) : List (D × D) := ss.map fun s => (kindD (stepK s), wayD L s)
theorem find_idx (q : Str × Str) : ∀ (l : List (Str × Str)) (n : Nat), q ∈ l → ((l.zipIdx n).find? fun x => decide (x.1 = q)) = some (q, n + l.idxOf q)
  | [], _, h => nomatch h
  | x :: l, n, h => by
    rw [List.zipIdx_cons, List.find?_cons, List.idxOf_cons]
    by_cases e : x = q
    · subst e; simp
    · have hq : q ∈ l := (List.mem_cons.mp h).elim (fun z => absurd z.symm e) id
      have ih := find_idx q l (n + 1) hq
      rw [show decide (x = q) = false from decide_eq_false e, show (x == q) = false from beq_eq_false_iff_ne.mpr e]
      show ((l.zipIdx (n + 1)).find? fun x => decide (x.1 = q)) = _
      rw [ih]
      simp only [cond_false]
      rw [show n + 1 + List.idxOf q l = n + (List.idxOf q l + 1) by omega]
theorem idx_get {L : Lore} {q : Str × Str} (h : q ∈ L.places) : dLk (idxD L) (kindD q) = some (some (.int (L.idx q))) := by
  have ne : L.places.zipIdx ≠ [] := fun e => by
    have := congrArg List.length e
    rw [List.length_zipIdx, List.length_nil] at this
    rw [List.length_eq_zero_iff.mp this] at h
    cases h
  have z := dLk_map keyPair (fun p : (Str × Str) × Nat => p.1) (fun p => .int p.2) q ne
  rw [find_idx q L.places 0 h] at z
  unfold idxD
  rw [z]
  simp [Lore.idx]
@[simp] theorem frk_idx (L : Lore) : frk (idxD L) = idxD L := frk_map _ _ _ fun x _ => by simp
@[simp] theorem frk_ways (L : Lore) (ss : List (Gate × Str)) : frk (waysD L ss) = waysD L ss := frk_map _ _ _ fun x _ => by simp [wayD]
end T
namespace Q
open PySem PySem.Spec PyProof.Rows L2 T

def needsOf (L : Lore) (g : Gate) : List (List Int) := gateNeeds (platesOf L g) L.places L.kn
def needsD (L : Lore) (ss : List (Gate × Str)) : List (D × D) := ss.map fun s => (kindD (stepK s), .tup ((needsOf L s.1).map rowD))
@[simp] theorem frk_needs (L : Lore) (ss : List (Gate × Str)) : frk (needsD L ss) = needsD L ss := frk_map _ _ _ fun x _ => by simp
def lvFs (L : Lore) (o : Bool) (ss : List (Gate × Str)) : List (Str × D) := [("own_text", .str L.text), ("own_rooms", .tup (strsD L.rooms)), ("own_kinds", .tup (strsD L.kn)), ("own_starts", .tup (L.kinds.map kindD)), ("own_plates", .tup (L.plates.map plateD)), ("own_gates", .tup (L.gates.map gateD)),
  ("own_places", .tup (L.places.map kindD)), ("own_index", .dct o (idxD L)), ("own_ways", .dct o (waysD L ss)), ("own_needs", .dct o (needsD L ss))]
def plDct (L : Lore) (o : Bool) : D := .dct o (L.plates.map fun p => (.str p.name, plateD p))
theorem okFor_in {g : Gate} {k : Str} (hg : ∀ x, g.kind = some x → Plain x) (hk : Plain k) : inD (optD g.kind) (.tup [.non, .str k]) = some (.bl (okFor g k)) := by
  have ls : Lys 0 (0 + 1 + (k.length + 1 + 0)) [.non, .str k] [.none, .str k] := Lys.cons .non (Lys.cons (.str hk (Nat.le_refl _)) .nil)
  unfold inD
  cases e : g.kind with
  | none =>
    rw [optD, inB_tup (.non (n := 0) (w := 0)) ls (by omega) (by omega)]
    simp [okFor, e, PyData.eqv]
  | some x =>
    rw [optD, inB_tup (.str (n := 0) (hg x e) (Nat.le_refl _)) ls (by omega) (by omega)]
    simp only [List.any_cons, List.any_nil, eqv_str, PyData.eqv, okFor, e, Option.map_some]
    by_cases q : x = k
    · subst q; simp
    · have q' : ¬ k = x := fun z => q z.symm
      simp [q, q']
abbrev bodyK : SS := sIf (qU (qB (p2 inD (pVar 5) (pTup (vCons (pK .non) (vCons (pFz (pVar 8)) vNil)))))) (sSeq (sPutF ["Level"] 0 "own_ways" (sU (pTup (vCons (pFz (pDG (pFld ["Level"] "own_index" (pVar 0)) (pTup (vCons (pFz (pVar 8)) (vCons (pFz (pVar 3)) vNil))))) (vCons (pFz (pDG (pFld ["Level"] "own_index" (pVar 0)) (pTup (vCons (pFz (pVar 8)) (vCons (pFz (pVar 4)) vNil))))) vNil)))) (pTup (vCons (pFz (pVar 2)) (vCons (pFz (pVar 8)) vNil))))
    (sPutF ["Level"] 0 "own_needs" (sU (pFz (pVar 7))) (pTup (vCons (pFz (pVar 2)) (vCons (pFz (pVar 8)) vNil))))) sPass
theorem bodyK_ok {L : Lore} {ss : List (Gate × Str)} {g : Gate} {k : Str} {pd x6 x9 : Option D} (hg : ∀ x, g.kind = some x → Plain x) (hk : Plain k) (h1 : (k, g.one) ∈ L.places) (h2 : (k, g.two) ∈ L.places) (hn : ∀ s ∈ ss, stepK s ≠ (g.name, k)) (hl : ss.length ≤ 1000) :
    bodyK [some (.ins true "Level" (lvFs L true ss)), pd, some (.str g.name), some (.str g.one), some (.str g.two), some (optD g.kind), x6, some (.tup ((needsOf L g).map rowD)), some (.str k), x9] =
      some (.nx, [some (.ins true "Level" (lvFs L true (ss ++ if okFor g k then [(g, k)] else []))), pd, some (.str g.name), some (.str g.one), some (.str g.two), some (optD g.kind), x6, some (.tup ((needsOf L g).map rowD)), some (.str k), x9]) := by
  have i := okFor_in hg hk
  cases o : okFor g k with
  | false =>
    rw [o] at i
    simp [bodyK, i]
  | true =>
    rw [o] at i
    have w1 := dPutN_map keyPair stepK (wayD L) (g.name, k) (wayD L (g, k)) hn (by omega)
    have w2 := dPutN_map keyPair stepK (fun s => .tup ((needsOf L s.1).map rowD)) (g.name, k) (.tup ((needsOf L g).map rowD)) hn (by omega)
    have d1 := idx_get h1
    have d2 := idx_get h2
    have k1 : kindD (k, g.one) = .tup [.str k, .str g.one] := rfl
    have k2 : kindD (k, g.two) = .tup [.str k, .str g.two] := rfl
    have k3 : kindD (g.name, k) = .tup [.str g.name, .str k] := rfl
    have w1 : dPutN (waysD L ss) (.tup [.str g.name, .str k]) (.tup [.int (L.idx (k, g.one)), .int (L.idx (k, g.two))]) = some (waysD L (ss ++ [(g, k)])) := by
      unfold waysD
      rw [List.map_append]
      exact w1
    have w2 : dPutN (needsD L ss) (.tup [.str g.name, .str k]) (.tup ((needsOf L g).map rowD)) = some (needsD L (ss ++ [(g, k)])) := by
      unfold needsD
      rw [List.map_append]
      exact w2
    rw [k1] at d1
    rw [k2] at d2
    simp only [lvFs]
    simp [bodyK, i, d1, d2, w1, w2]
end Q

set_option Elab.async false
set_option linter.all false
set_option maxRecDepth 100000
set_option maxHeartbeats 4000000
namespace T
open PySem PySem.Spec PyProof.Rows L2
@[simp] theorem frE_3 (x : Option D) (r : T.Env) : frE (x :: r) = x.map fr :: frE r := by cases x <;> rfl
end T
namespace Q
open PySem PySem.Spec PyProof.Rows L2 T

theorem lore_places {L : Lore} (h : LoreOk L) {k r : Str} (hk : k ∈ L.kn) (hr : r ∈ L.rooms) : (k, r) ∈ L.places := List.mem_flatMap.mpr ⟨k, hk, List.mem_map.mpr ⟨r, hr, rfl⟩⟩
theorem places_plain {L : Lore} (h : LoreOk L) : ∀ q ∈ L.places, Plain q.1 ∧ Plain q.2 := fun q hq => by
  obtain ⟨k, hk, h2⟩ := List.mem_flatMap.mp hq
  obtain ⟨r, hr, rfl⟩ := List.mem_map.mp h2
  exact ⟨(h.kindNm k hk).plain, (h.rn r hr).plain⟩
theorem places_len {L : Lore} : L.places.length = L.kinds.length * L.rooms.length := by
  unfold Lore.places Lore.kn
  generalize L.kinds = l
  induction l with
  | nil => simp
  | cons x l ih => rw [List.map_cons, List.flatMap_cons, List.length_append, List.length_map, ih, List.length_cons, Nat.succ_mul, Nat.add_comm]
theorem kinds_len {L : Lore} (h : LoreOk L) : L.kinds.length = 1 ∨ L.kinds.length = 2 := by
  have a := h.k2
  have b : L.kinds.length ≠ 0 := fun e => h.k1 (List.length_eq_zero_iff.mp e)
  split at a <;> omega
theorem places_le {L : Lore} (h : LoreOk L) : 2 ≤ L.places.length ∧ L.places.length ≤ 10 := by
  have a := h.r1
  have b := h.r2
  rw [places_len]
  rcases kinds_len h with c | c <;> rw [c] <;> omega
theorem places_nodup {L : Lore} (h : LoreOk L) : L.places.Nodup := by
  unfold Lore.places
  have hk := h.kd
  generalize L.kn = l at hk
  have hr := h.rd
  generalize L.rooms = r at hr
  clear h L
  induction l with
  | nil => exact List.nodup_nil
  | cons k l ih =>
    rw [List.flatMap_cons, List.nodup_append]
    have hk' := List.nodup_cons.mp hk
    refine ⟨List.pairwise_map.mpr (hr.imp fun a e => a (Prod.mk.inj e).2), ih hk'.2, fun a ha b hb e => ?_⟩
    obtain ⟨x, _, rfl⟩ := List.mem_map.mp ha
    obtain ⟨k2, hk2, h3⟩ := List.mem_flatMap.mp hb
    obtain ⟨y, _, rfl⟩ := List.mem_map.mp h3
    exact hk'.1 ((Prod.mk.inj e).1 ▸ hk2)
theorem stepsAt_take {kn : List Str} {g : Gate} {j : Nat} {k : Str} (h : kn[j]? = some k) : stepsAt (kn.take (j + 1)) g = stepsAt (kn.take j) g ++ if okFor g k then [(g, k)] else [] := by
  unfold stepsAt
  rw [List.take_add_one, h, List.filter_append, List.map_append]
  cases o : okFor g k <;> simp [o]
theorem take_new {α : Type} {l : List α} {j : Nat} {k : α} (nd : l.Nodup) (h : l[j]? = some k) : k ∉ l.take j := by
  have e : l = l.take j ++ l.drop j := (List.take_append_drop j l).symm
  have m : k ∈ l.drop j := by
    have : (l.drop j)[0]? = some k := by rw [List.getElem?_drop, Nat.add_zero]; exact h
    exact List.mem_of_getElem? this
  rw [e] at nd
  exact fun z => (List.nodup_append.mp nd).2.2 k z k m rfl
theorem stepsAt_len (kn : List Str) (g : Gate) : (stepsAt kn g).length ≤ kn.length := by unfold stepsAt; rw [List.length_map]; exact List.length_filter_le ..
theorem kinds_loop {L : Lore} (h : LoreOk L) {g : Gate} (hg : GateOk L.rooms L.kn L.pn g) {ss : List (Gate × Str)} (hs : ∀ s ∈ ss, s.1.name ≠ g.name) (hl : ss.length ≤ 900) (pd x6 x8 x9 : Option D) :
    ∃ y8, loopS (bName 8) bodyK (strsD L.kn) [some (.ins true "Level" (lvFs L true ss)), pd, some (.str g.name), some (.str g.one), some (.str g.two), some (optD g.kind), x6, some (.tup ((needsOf L g).map rowD)), x8, x9] =
      some (.nx, [some (.ins true "Level" (lvFs L true (ss ++ stepsAt L.kn g))), pd, some (.str g.name), some (.str g.one), some (.str g.two), some (optD g.kind), x6, some (.tup ((needsOf L g).map rowD)), y8, x9]) := by
  have kl : L.kn.length ≤ 2 := by rw [List.length_map]; rcases kinds_len h with c | c <;> omega
  obtain ⟨e', lp, y8, he⟩ := loopS_inv (b := bName 8) (body := bodyK) (fun j env => ∃ y8, env = [some (.ins true "Level" (lvFs L true (ss ++ stepsAt (L.kn.take j) g))), pd, some (.str g.name), some (.str g.one), some (.str g.two), some (optD g.kind), x6, some (.tup ((needsOf L g).map rowD)), y8, x9]) (strsD L.kn)
    (fun j m env hm ⟨y8, he⟩ => by
      rw [show strsD L.kn = L.kn.map D.str from rfl, List.getElem?_map] at hm
      cases q : L.kn[j]? with
      | none => rw [q] at hm; cases hm
      | some k =>
        rw [q] at hm
        cases hm
        have mk := List.mem_of_getElem? q
        have b := bodyK_ok (L := L) (ss := ss ++ stepsAt (L.kn.take j) g) (g := g) (k := k) (pd := pd) (x6 := x6) (x9 := x9) (fun x e => (h.kindNm x (hg.kd x e)).plain) (h.kindNm k mk).plain (lore_places h mk hg.a) (lore_places h mk hg.b)
          (fun s hs2 e => by
            rcases List.mem_append.mp hs2 with z | z
            · exact hs s z (Prod.mk.inj e).1
            · unfold stepsAt at z
              obtain ⟨k2, hk2, rfl⟩ := List.mem_map.mp z
              have := (List.mem_filter.mp hk2).1
              have e2 : k2 = k := (Prod.mk.inj e).2
              rw [e2] at this
              exact take_new h.kd q this)
          (by
            have := stepsAt_len (L.kn.take j) g
            rw [List.length_take] at this
            rw [List.length_append]
            omega)
        rw [List.append_assoc, ← stepsAt_take q] at b
        exact ⟨[some (.ins true "Level" (lvFs L true (ss ++ stepsAt (L.kn.take j) g))), pd, some (.str g.name), some (.str g.one), some (.str g.two), some (optD g.kind), x6, some (.tup ((needsOf L g).map rowD)), some (.str k), x9], _, by rw [he]; simp, b, some (.str k), rfl⟩)
    [some (.ins true "Level" (lvFs L true ss)), pd, some (.str g.name), some (.str g.one), some (.str g.two), some (optD g.kind), x6, some (.tup ((needsOf L g).map rowD)), x8, x9] ⟨x8, by simp [stepsAt]⟩
  rw [len_strs', List.take_length] at he
  exact ⟨y8, by rw [lp, he]⟩
where len_strs' : (strsD L.kn).length = L.kn.length := T.len_strs _
theorem platesOf_mem {L : Lore} {g : Gate} (h : LoreOk L) (hg : GateOk L.rooms L.kn L.pn g) : ∀ n ∈ g.held, ∃ p ∈ L.plates, (L.plates.find? fun p => decide (p.name = n)) = some p := fun n hn => by
  obtain ⟨p, hp, e⟩ := List.mem_map.mp (hg.hd n hn)
  cases f : L.plates.find? fun p => decide (p.name = n) with
  | none => exact absurd (decide_eq_true e) (List.find?_eq_none.mp f p hp)
  | some q => exact ⟨q, List.mem_of_find?_eq_some f, rfl⟩
theorem platesOf_in {L : Lore} {g : Gate} (h : LoreOk L) (hg : GateOk L.rooms L.kn L.pn g) : ∀ p ∈ platesOf L g, p ∈ L.plates := fun p hp => by
  obtain ⟨n, hn, rfl⟩ := List.mem_map.mp hp
  obtain ⟨q, hq, e⟩ := platesOf_mem h hg n hn
  rw [e]
  exact hq
@[simp] theorem frk_pl (L : Lore) : frk (L.plates.map fun p => (D.str p.name, plateD p)) = L.plates.map fun p => (D.str p.name, plateD p) := frk_map _ _ _ fun x _ => by simp
theorem gate_needs_at {L : Lore} (h : LoreOk L) {g : Gate} (hg : GateOk L.rooms L.kn L.pn g) : F_P_gate_needs [.lst true ((platesOf L g).map plateD), .tup (L.places.map kindD), .tup (strsD L.kn)] = some (.ok (.tup ((needsOf L g).map rowD)), [some (.lst false ((platesOf L g).map plateD)), some (.tup (L.places.map kindD)), some (.tup (strsD L.kn))]) :=
  gate_needs_ok (fun p hp => by have z := h.pk p (platesOf_in h hg p hp); exact ⟨by have := z.lo; omega, z.hi⟩) (by unfold platesOf; rw [List.length_map]; exact hg.le) h.kd (by rw [List.length_map]; exact kinds_len h) (places_plain h) (fun p hp => by have z := h.pk p (platesOf_in h hg p hp); exact ⟨(h.rn _ z.rm).plain, fun k e => (h.kindNm k (z.kd k e)).plain⟩) (by have := places_le h; omega) (places_le h).1
abbrev bG : Bd := bTup 5 (bCons (bName 2) (bCons (bName 3) (bCons (bName 4) (bCons (bName 5) (bCons (bName 6) bNil)))))
abbrev bodyG : SS := sSeq (sSet 7 (sU (pThaw (pCallU F_P_gate_needs (vCons (pLc [9] (iP (pVar 6)) (bName 9) qYes (pFz (pDG (pVar 1) (pVar 9)))) (vCons (pFz (pFld ["Level"] "own_places" (pVar 0))) (vCons (pFz (pFld ["Level"] "own_kinds" (pVar 0))) vNil)))))))
    (sFor (iU (iP (pFz (pFld ["Level"] "own_kinds" (pVar 0))))) (bName 8) bodyK)
theorem steps_take {L : Lore} {j : Nat} {g : Gate} (h : L.gates[j]? = some g) : (L.gates.take (j + 1)).flatMap (stepsAt L.kn) = (L.gates.take j).flatMap (stepsAt L.kn) ++ stepsAt L.kn g := by
  rw [List.take_add_one, h, List.flatMap_append]
  simp
theorem steps_len {L : Lore} (h : LoreOk L) (gs : List Gate) : (gs.flatMap (stepsAt L.kn)).length ≤ 2 * gs.length := by
  have kl : L.kn.length ≤ 2 := by rw [List.length_map]; rcases kinds_len h with c | c <;> omega
  induction gs with
  | nil => simp
  | cons g gs ih =>
    have := stepsAt_len L.kn g
    rw [List.flatMap_cons, List.length_append, List.length_cons]
    omega
theorem bodyG_ok {L : Lore} (h : LoreOk L) {g : Gate} (hg : GateOk L.rooms L.kn L.pn g) {ss : List (Gate × Str)} (hs : ∀ s ∈ ss, s.1.name ≠ g.name) (hl : ss.length ≤ 900) (x7 x8 : Option D) :
    ∃ y8, bodyG [some (.ins true "Level" (lvFs L true ss)), some (plDct L true), some (.str g.name), some (.str g.one), some (.str g.two), some (optD g.kind), some (.tup (strsD g.held)), x7, x8, none] =
      some (.nx, [some (.ins true "Level" (lvFs L true (ss ++ stepsAt L.kn g))), some (plDct L true), some (.str g.name), some (.str g.one), some (.str g.two), some (optD g.kind), some (.tup (strsD g.held)), some (.tup ((needsOf L g).map rowD)), y8, none]) := by
  obtain ⟨y8, lp⟩ := kinds_loop h hg hs hl (some (plDct L true)) (some (.tup (strsD g.held))) x8 none
  have gn := gate_needs_at h hg
  have hle : g.held.length ≤ 100000 := by have := hg.le; omega
  refine ⟨y8, ?_⟩
  have hL : ∀ f7 f8 : Option D, pLcL (bName 9) qYes (pFz (pDG (pVar 1) (pVar 9))) [some (.ins false "Level" (lvFs L false ss)), some (plDct L false), some (.str g.name), some (.str g.one), some (.str g.two), some (optD g.kind), some (.tup (strsD g.held)), f7, f8, none] (strsD g.held) = some ((platesOf L g).map plateD) := fun f7 f8 => by
    unfold platesOf
    rw [List.map_map]
    exact pLcL_map fun n hn => ⟨[some (.ins false "Level" (lvFs L false ss)), some (plDct L false), some (.str g.name), some (.str g.one), some (.str g.two), some (optD g.kind), some (.tup (strsD g.held)), f7, f8, some (.str n)], by simp, by simp, by
      obtain ⟨p, hp, e⟩ := platesOf_mem h hg n hn
      have d := dLk_map keyStr (fun p : Plate => p.name) plateD n (l := L.plates) (by intro z; rw [z] at hp; cases hp)
      rw [e] at d
      simp [plDct, d, e]⟩
  simp only [lvFs, plDct] at *
  simp [bodyG, hL, gn, lp, hle]
theorem put_steps_ok {L : Lore} (h : LoreOk L) : F_Level_put_steps [.ins true "Level" (lvFs L true []), plDct L true] = some (.ok .non, [some (.ins true "Level" (lvFs L true L.steps)), some (plDct L true)]) := by
  obtain ⟨e', lp, x2, x3, x4, x5, x6, x7, x8, he⟩ := loopS_inv (b := bG) (body := bodyG) (fun j env => ∃ x2 x3 x4 x5 x6 x7 x8, env = [some (.ins true "Level" (lvFs L true ((L.gates.take j).flatMap (stepsAt L.kn)))), some (plDct L true), x2, x3, x4, x5, x6, x7, x8, none]) (L.gates.map gateD)
    (fun j m env hm ⟨x2, x3, x4, x5, x6, x7, x8, he⟩ => by
      rw [List.getElem?_map] at hm
      cases q : L.gates[j]? with
      | none => rw [q] at hm; cases hm
      | some g =>
        rw [q] at hm
        cases hm
        have mg := List.mem_of_getElem? q
        have jl : j < L.gates.length := (List.getElem?_eq_some_iff.mp q).1
        have sl := steps_len h (L.gates.take j)
        have g2 := h.g2
        obtain ⟨y8, b⟩ := bodyG_ok h (h.gk g mg) (ss := (L.gates.take j).flatMap (stepsAt L.kn)) (fun s hs e => by
          obtain ⟨g', hg', h3⟩ := List.mem_flatMap.mp hs
          obtain ⟨k, _, rfl⟩ := List.mem_map.mp h3
          have q2 : L.gn[j]? = some g.name := by rw [List.getElem?_map, q]; rfl
          have := take_new h.gd q2
          rw [← List.map_take] at this
          exact this (e ▸ List.mem_map_of_mem hg')) (by rw [List.length_take] at sl; omega) x7 x8
        rw [← steps_take q] at b
        exact ⟨[some (.ins true "Level" (lvFs L true ((L.gates.take j).flatMap (stepsAt L.kn)))), some (plDct L true), some (.str g.name), some (.str g.one), some (.str g.two), some (optD g.kind), some (.tup (strsD g.held)), x7, x8, none], _, by rw [he]; simp [bG, gateD], b, some (.str g.name), some (.str g.one), some (.str g.two), some (optD g.kind), some (.tup (strsD g.held)), some (.tup ((needsOf L g).map rowD)), y8, rfl⟩)
    [some (.ins true "Level" (lvFs L true [])), some (plDct L true), none, none, none, none, none, none, none, none] ⟨none, none, none, none, none, none, none, rfl⟩
  rw [List.length_map, List.take_length] at he
  rw [he] at lp
  change _ = some (Fl.nx, [some (.ins true "Level" (lvFs L true L.steps)), some (plDct L true), x2, x3, x4, x5, x6, x7, x8, none]) at lp
  simp only [lvFs, plDct, bG, bodyG] at *
  simp [F_Level_put_steps, b_Level_put_steps, lp]
end Q

set_option Elab.async false
set_option linter.all false
set_option maxRecDepth 100000
set_option maxHeartbeats 4000000
namespace Q
open PySem PySem.Spec PyProof.Rows L2 T

def stepsD (L : Lore) : D := .tup (L.steps.map fun s => kindD (stepK s))
def lvD (L : Lore) (o : Bool) : D := .ins o "Level" [("own_text", .str L.text), ("own_rooms", .tup (strsD L.rooms)), ("own_kinds", .tup (strsD L.kn)), ("own_starts", .tup (L.kinds.map kindD)), ("own_plates", .tup (L.plates.map plateD)), ("own_gates", .tup (L.gates.map gateD)),
  ("own_places", .tup (L.places.map kindD)), ("own_index", .dct o (idxD L)), ("own_ways", .dct o (waysD L L.steps)), ("own_needs", .dct o (needsD L L.steps)), ("own_steps", stepsD L), ("own_found", .dct o [])]
theorem steps_ne {L : Lore} (h : LoreOk L) : L.steps ≠ [] := by
  cases q : L.gates with
  | nil => exact absurd q h.g1
  | cons g gs =>
    have mg : g ∈ L.gates := q ▸ List.mem_cons_self ..
    have z := h.gk g mg
    have : ∃ k ∈ L.kn, okFor g k = true := by
      cases e : g.kind with
      | some k => exact ⟨k, z.kd k e, by simp [okFor, e]⟩
      | none => cases p : L.kn with
        | nil => exact absurd (List.map_eq_nil_iff.mp p) h.k1
        | cons k r => exact ⟨k, List.mem_cons_self .., by simp [okFor, e]⟩
    obtain ⟨k, hk, ok⟩ := this
    intro e
    have m : (g, k) ∈ L.steps := List.mem_flatMap.mpr ⟨g, mg, List.mem_map.mpr ⟨k, List.mem_filter.mpr ⟨hk, ok⟩, rfl⟩⟩
    rw [e] at m
    cases m
theorem tup_ways {L : Lore} {ss : List (Gate × Str)} (o : Bool) (h : ss ≠ []) : tupDD [.dct o (waysD L ss)] = some (.tup (ss.map fun s => kindD (stepK s))) := by
  cases ss with
  | nil => exact absurd rfl h
  | cons s ss =>
    have e : dKind (waysD L (s :: ss)) = some false := rfl
    show (if dKind (waysD L (s :: ss)) = some false then some (D.tup ((waysD L (s :: ss)).map (·.1))) else none) = _
    rw [if_pos e, waysD, List.map_map]
    rfl
theorem fst_zipIdx {α : Type} : ∀ (l : List α) (n : Nat), (l.zipIdx n).map (·.1) = l
  | [], _ => rfl
  | x :: l, n => by rw [List.zipIdx_cons, List.map_cons, fst_zipIdx l (n + 1)]
theorem places_lc {L : Lore} (h : LoreOk L) (fs : List (Str × D)) (e1 e2 e5 e6 e7 : Option D) (o : Bool) (k1 : fs.lookup ("own_rooms" : Str) = some (D.tup (strsD L.rooms))) : pLc2L (bName 3) qYes [4] (iP (pFz (pFld ["Level"] "own_rooms" (pVar 0)))) (bName 4) qYes (pTup (vCons (pFz (pVar 3)) (vCons (pFz (pVar 4)) vNil))) [some (.ins o "Level" fs), e1, e2, none, none, e5, e6, e7] (strsD L.kn) = some (L.places.map kindD) := by
  unfold Lore.places
  rw [List.map_flatMap]
  refine pLc2L_map fun k hk => ⟨[some (.ins o "Level" fs), e1, e2, some (.str k), none, e5, e6, e7], by simp, by simp, ?_⟩
  have hI : pLcL (bName 4) qYes (pTup (vCons (pFz (pVar 3)) (vCons (pFz (pVar 4)) vNil))) [some (.ins o "Level" fs), e1, e2, some (.str k), none, e5, e6, e7] (strsD L.rooms) = some (L.rooms.map fun r => kindD (k, r)) :=
    pLcL_map fun r hr => ⟨[some (.ins o "Level" fs), e1, e2, some (.str k), some (.str r), e5, e6, e7], by simp, by simp, by simp [kindD]⟩
  simp [k1, hI, Function.comp_def]
theorem index_dc {L : Lore} (h : LoreOk L) (e0 e1 e2 e3 e4 e7 : Option D) : pDcL (bTup 2 (bCons (bName 5) (bCons (bName 6) bNil))) qYes (pFz (pVar 6)) (pFz (pVar 5)) [e0, e1, e2, e3, e4, none, none, e7] (enumL 0 (L.places.map kindD)) [] = some (idxD L) := by
  rw [enumL_map]
  exact pDcL_map keyPair (fun p : (Str × Str) × Nat => p.1) (fun p => .int p.2) L.places.zipIdx [] (fun p hp => ⟨[e0, e1, e2, e3, e4, some (.int p.2), some (kindD p.1), e7], by simp, by simp, by simp, by simp⟩) (by
    rw [List.nil_append, fst_zipIdx]
    exact places_nodup h) (by
    rw [List.nil_append, List.length_zipIdx]
    have := places_le h
    omega)
theorem plates_dc {L : Lore} (h : LoreOk L) (e0 e1 e2 e3 e4 e5 e6 : Option D) : pDcL (bName 7) qYes (p2 ixD (pVar 7) (pK (.int 0))) (pFz (pVar 7)) [e0, e1, e2, e3, e4, e5, e6, none] (L.plates.map plateD) [] = some (L.plates.map fun p => (.str p.name, plateD p)) :=
  pDcL_map keyStr (fun p : Plate => p.name) plateD L.plates [] (fun p hp => ⟨[e0, e1, e2, e3, e4, e5, e6, some (plateD p)], by simp, by simp, by simp [plateD], by simp⟩) h.pd (by have := h.p2; rw [List.nil_append]; omega)
theorem level_init_ok {L : Lore} (h : LoreOk L) : F_Level_init [.ins true "Level" [], .str L.text] = some (.ok .non, [some (lvD L true), some (.str L.text)]) := by
  have rl := read_level_ok h
  have kn := kind_names_ok L (by rcases kinds_len h with c | c <;> omega)
  have pl := fun fs e1 e2 e5 e6 e7 o k1 => places_lc h fs e1 e2 e5 e6 e7 o k1
  have ix := index_dc h
  have pd := plates_dc h
  have ps := put_steps_ok h
  have tw := tup_ways (L := L) true (steps_ne h)
  have w0 : waysD L [] = [] := rfl
  have n0 : needsD L [] = [] := rfl
  have l1 : L.places.length ≤ 100000 := by have := places_le h; omega
  have l2 : L.plates.length ≤ 100000 := by have := h.p2; omega
  have en : enumD [.tup (L.places.map kindD)] = some (enumL 0 (L.places.map kindD)) := by simp [enumD]
  simp only [rdD, rdF, rdFs, lvD, lvFs, plDct, w0, n0, stepsD] at *
  simp [F_Level_init, b_Level_init, rl, kn, pl, ix, pd, ps, tw, l1, l2, en]
theorem text_ok (L : Lore) : F_Level_text [lvD L false] = some (.ok (.str L.text), [some (lvD L false)]) := by
  simp [F_Level_text, b_Level_text, lvD]
theorem rooms_ok (L : Lore) : F_Level_rooms [lvD L false] = some (.ok (.tup (strsD L.rooms)), [some (lvD L false)]) := by
  simp [F_Level_rooms, b_Level_rooms, lvD]
theorem kinds_ok (L : Lore) : F_Level_kinds [lvD L false] = some (.ok (.tup (strsD L.kn)), [some (lvD L false)]) := by
  simp [F_Level_kinds, b_Level_kinds, lvD]
theorem plates_ok (L : Lore) : F_Level_plates [lvD L false] = some (.ok (.tup (L.plates.map plateD)), [some (lvD L false)]) := by
  simp [F_Level_plates, b_Level_plates, lvD]
theorem gates_ok (L : Lore) : F_Level_gates [lvD L false] = some (.ok (.tup (L.gates.map gateD)), [some (lvD L false)]) := by
  simp [F_Level_gates, b_Level_gates, lvD]
end Q

set_option Elab.async false
set_option linter.all false
set_option maxRecDepth 100000
set_option maxHeartbeats 4000000
namespace Q
open PySem PySem.Spec PyProof.Rows L2 T

/-! ### draws -/
def potD (a b c : Int) : D := .lst true [.int a, .int b, .int c]
structure Pot (n : Int) (m : D) : Prop where
  ex : ∃ a b c, m = potD a b c ∧ 0 ≤ a ∧ 0 ≤ b ∧ b < 2 ^ 61 ∧ 0 ≤ c ∧ c ≤ n
theorem Pot.mono {n n' : Int} {m : D} (h : Pot n m) (k : n ≤ n') : Pot n' m := by
  obtain ⟨a, b, c, e, h1, h2, h3, h4, h5⟩ := h.ex
  exact ⟨a, b, c, e, h1, h2, h3, h4, by omega⟩
theorem Pot.nfz {n : Int} {m : D} (h : Pot n m) : fz m = false := by
  obtain ⟨a, b, c, rfl, _⟩ := h.ex
  rfl
theorem mod_ex (i : Int) {j : Int} (h : 0 < j) : ∃ r, modD (.int i) (.int j) = some (.int r) ∧ 0 ≤ r ∧ r < j :=
  ⟨i.fmod j, by show (if j ≠ 0 then some (D.int (i.fmod j)) else none) = _; rw [if_pos (by omega)], Int.fmod_nonneg_of_pos i h, Int.fmod_lt_of_pos i h⟩
theorem mul_ex {i j : Int} (h : -18000000000000000000 ≤ i) (k : i ≤ 18000000000000000000) : mulD (.int i) (.int j) = some (.int (i * j)) := by
  show (if CMul i j then some (D.int (i * j)) else none) = _
  rw [if_pos (.inl ⟨by omega, by omega⟩)]
theorem div_ex {i j : Int} (h : 0 ≤ i) (h1 : 0 < j) (h2 : j < 1073741824) : ∃ r, divD (.int i) (.int j) = some (.int r) ∧ 0 ≤ r :=
  ⟨i.fdiv j, by show (if CDivN i j then some (D.int (i.fdiv j)) else none) = _; rw [if_pos ⟨by omega, by omega⟩], Int.fdiv_nonneg h (by omega)⟩
theorem pow3_ex {i : Int} (h : 0 ≤ i) (k : i < 18000000000000000000) : ∃ r, powD (.int i) (.int 3) = some (.int r) :=
  ⟨i ^ 3, by show (if CPowW i 3 then some (D.int (i ^ (3 : Int).toNat)) else none) = _; rw [if_pos ⟨by omega, .inl ⟨by omega, by omega⟩⟩]; rfl⟩
@[simp] theorem ixN_30 : ixN 3 0 = some 0 := rfl
@[simp] theorem ixN_32 : ixN 3 2 = some 2 := rfl
theorem prime_ex {r : Int} (h : 0 ≤ r) (k : r < 5) : ∃ p, atI [D.int 2147483647, D.int 2147483629, D.int 2147483587, D.int 2147483579, D.int 2147483563] r = some (.int p) ∧ 0 < p ∧ p < 2147483648 := by
  have e : r = 0 ∨ r = 1 ∨ r = 2 ∨ r = 3 ∨ r = 4 := by omega
  rcases e with rfl | rfl | rfl | rfl | rfl
  · exact ⟨_, rfl, by decide, by decide⟩
  · exact ⟨_, rfl, by decide, by decide⟩
  · exact ⟨_, rfl, by decide, by decide⟩
  · exact ⟨_, rfl, by decide, by decide⟩
  · exact ⟨_, rfl, by decide, by decide⟩
theorem take_ok {n u : Int} {m : D} (h : Pot n m) (hn : n ≤ 1000000) (h1 : 1 ≤ u) (h2 : u ≤ 1000000) : ∃ d m', F_take [m, .int u] = some (.ok (.int d), [some m', some (.int u)]) ∧ 0 ≤ d ∧ d < u ∧ Pot (n + 1) m' := by
  obtain ⟨a, b, c, rfl, ha, hb, hb2, hc, hc2⟩ := h.ex
  by_cases q : 0 < a
  · obtain ⟨d, e1, d1, d2⟩ := mod_ex a (j := u) (by omega)
    obtain ⟨a', e2, a1⟩ := div_ex ha (j := u) (by omega) (by omega)
    refine ⟨d, potD a' b c, ?_, d1, d2, ⟨a', b, c, rfl, a1, hb, hb2, hc, by omega⟩⟩
    simp [F_take, b_take, potD, q, e1, e2]
  · obtain ⟨c1, hc1⟩ : ∃ c1, c + 1 = c1 := ⟨_, rfl⟩
    obtain ⟨r, f2, r1, r2⟩ := mod_ex c1 (j := 5) (by omega)
    obtain ⟨p, f3, p1, p2⟩ := prime_ex r1 r2
    have f4 : mulD (.int 90017) (.int c1) = some (.int (90017 * c1)) := mul_ex (by omega) (by omega)
    obtain ⟨x4, hx4⟩ : ∃ x4, 90017 * c1 = x4 := ⟨_, rfl⟩
    rw [hx4] at f4
    have f5 : mulD (.int x4) (.int c1) = some (.int (x4 * c1)) := mul_ex (by omega) (by omega)
    have b5 : 0 ≤ x4 * c1 ∧ x4 * c1 ≤ 90017 * 1000001 * 1000001 := by
      have z1 : 0 ≤ x4 := by omega
      have z2 : x4 ≤ 90017 * 1000001 := by omega
      have z3 : c1 ≤ 1000001 := by omega
      have z4 : 0 ≤ c1 := by omega
      exact ⟨Int.mul_nonneg z1 z4, Int.mul_le_mul z2 z3 z4 (by omega)⟩
    obtain ⟨x5, hx5⟩ : ∃ x5, x4 * c1 = x5 := ⟨_, rfl⟩
    rw [hx5] at f5 b5
    obtain ⟨P, f6⟩ := pow3_ex (i := b + x5 + 61) (by omega) (by omega)
    obtain ⟨M, f7, m1, m2⟩ := mod_ex P p1
    obtain ⟨y8, f8, y1, y2⟩ := mod_ex M (j := 10007) (by omega)
    have f9 : mulD (.int 97) (.int c1) = some (.int (97 * c1)) := mul_ex (by omega) (by omega)
    obtain ⟨y9, hy9⟩ : ∃ y9, 97 * c1 = y9 := ⟨_, rfl⟩
    rw [hy9] at f9
    have f10 : mulD (.int M) (.int (y8 + y9)) = some (.int (M * (y8 + y9))) := mul_ex (by omega) (by omega)
    have b10 : 0 ≤ M * (y8 + y9) := Int.mul_nonneg m1 (by omega)
    obtain ⟨z, hz⟩ : ∃ z, M * (y8 + y9) = z := ⟨_, rfl⟩
    rw [hz] at f10 b10
    obtain ⟨z2, f11, _⟩ := div_ex b10 (j := 127) (by omega) (by omega)
    obtain ⟨d, f12, d1, d2⟩ := mod_ex z2 (j := u) (by omega)
    refine ⟨d, potD a b c1, ?_, d1, d2, ⟨a, b, c1, rfl, ha, hb, hb2, by omega, by omega⟩⟩
    simp [F_take, b_take, potD, q, hc1, f2, f3, f4, f5, f6, f7, f8, f9, f10, f11, f12]
theorem of_ok {n : Int} {m : D} {ms : List D} {o : Bool} (h : Pot n m) (hn : n ≤ 1000000) (hf : fzs ms = true) (h1 : ms ≠ []) (h2 : ms.length ≤ 1000) : ∃ x m', F_of [m, .lst o ms] = some (.ok x, [some m', some (.lst o ms)]) ∧ x ∈ ms ∧ Pot (n + 1) m' := by
  have l1 : ms.length ≠ 0 := fun e => h1 (List.length_eq_zero_iff.mp e)
  obtain ⟨d, m', e, d1, d2, hp⟩ := take_ok h hn (u := ms.length) (by omega) (by omega)
  obtain ⟨j, rfl⟩ := Int.eq_ofNat_of_zero_le d1
  have jl : j < ms.length := by omega
  have at1 : atI ms (j : Int) = some ms[j] := atI_nat (List.getElem?_eq_getElem jl)
  have nf := h.nfz
  refine ⟨ms[j], m', ?_, List.getElem_mem jl, hp⟩
  simp [F_of, b_of, e, at1, hf, nf]
end Q

set_option Elab.async false
set_option linter.all false
set_option maxRecDepth 100000
set_option maxHeartbeats 4000000
namespace Q
open PySem PySem.Spec PyProof.Rows L2 T

abbrev bodyS : SS := sDrop (sLstM 4 (sLstM 3 (sCallA F_take (aN 0 (aE (sU (pC lenD (vCons (pVar 3) vNil))) aNil))) fPopAt) fAppend)
theorem popAt_ok {l : List Str} {j : Nat} (h : j < l.length) (hl : l.length ≤ 1000) : fPopAt (strsD l) (.int (j : Int)) = some (.str l[j], strsD (l.eraseIdx j)) := by
  have e : seqIndex? (j : Int) (strsD l).length = some j := by
    rw [T.len_strs]
    have z : ixN l.length (j : Int) = some j := by
      unfold ixN
      rw [if_pos (by omega), if_pos (by omega), Int.toNat_natCast]
    exact (ixN_seq z).1
  have g : (strsD l)[j]? = some (.str l[j]) := by
    rw [show strsD l = l.map D.str from rfl, List.getElem?_map, List.getElem?_eq_getElem h]
    rfl
  have a1 : (-9223372036854775808 : Int) ≤ j := by omega
  have a2 : (j : Int) < 9223372036854775808 := by omega
  have er : (strsD l).eraseIdx j = strsD (l.eraseIdx j) := by
    clear g e a1 a2 h hl
    induction l generalizing j with
    | nil => rfl
    | cons x l ih =>
      cases j with
      | zero => rfl
      | succ j => rw [List.eraseIdx_cons_succ, strsD_1, strsD_1, List.eraseIdx_cons_succ, ih]
  rw [T.len_strs] at e
  simp [fPopAt, a1, a2, e, g, er]
theorem erase_perm {α : Type} : ∀ {l : List α} {i : Nat} (h : i < l.length), (l[i] :: l.eraseIdx i).Perm l
  | x :: l, 0, _ => .refl _
  | x :: l, i + 1, h => by
    have h' : i < l.length := by simpa using h
    have ih := erase_perm (l := l) (i := i) h'
    show (l[i]'h' :: x :: l.eraseIdx i).Perm (x :: l)
    exact (List.Perm.swap ..).trans (ih.cons x)
theorem bodyS_ok {m' m2 e1 e2 e5 : Option D} {p : D} {lf fd lf' : List Str} {y : Str} {d : Int} (hm : m' = some p) (nf : fz p = false) (e : F_take [p, .int lf.length] = some (.ok (.int d), [m2, some (.int lf.length)])) (pp : fPopAt (strsD lf) (.int d) = some (.str y, strsD lf')) (fl : fd.length ≤ 1000000) :
    bodyS [m', e1, e2, some (.lst true (strsD lf)), some (.lst true (strsD fd)), e5] = some (.nx, [m2, e1, e2, some (.lst true (strsD lf')), some (.lst true (strsD (fd ++ [y]))), e5]) := by
  subst hm
  have c1 : sCallA F_take (aN 0 (aE (sU (pC lenD (vCons (pVar 3) vNil))) aNil)) [some p, e1, e2, some (.lst true (strsD lf)), some (.lst true (strsD fd)), e5] = some (.ok (.int d), [m2, e1, e2, some (.lst true (strsD lf)), some (.lst true (strsD fd)), e5]) := by
    simp [e, nf]
  have c2 : sLstM 3 (sCallA F_take (aN 0 (aE (sU (pC lenD (vCons (pVar 3) vNil))) aNil))) fPopAt [some p, e1, e2, some (.lst true (strsD lf)), some (.lst true (strsD fd)), e5] = some (.ok (.str y), [m2, e1, e2, some (.lst true (strsD lf')), some (.lst true (strsD fd)), e5]) := by
    rw [sLstM_ap, c1]
    simp [pp]
  have c3 : fAppend (strsD fd) (.str y) = some (.non, strsD (fd ++ [y])) := by
    unfold fAppend
    rw [if_pos (by rw [T.len_strs]; exact fl), strsD_snoc]
  rw [bodyS, sDrop_ap, sLstM_ap, c2]
  simp [c3]
structure SomeI (n : Int) (pool : List Str) (o : Bool) (k j : Nat) (env : T.Env) : Prop where
  ex : ∃ m' lf fd x5, env = [some m', some (.lst o (strsD pool)), some (.int k), some (.lst true (strsD lf)), some (.lst true (strsD fd)), x5] ∧ Pot (n + j) m' ∧ fd.length = j ∧ lf.length + j = pool.length ∧ (fd ++ lf).Nodup ∧ ∀ x ∈ fd ++ lf, x ∈ pool
theorem some_step {n : Int} {pool : List Str} {o : Bool} {k j : Nat} {env : T.Env} (h : SomeI n pool o k j env) (hn : n ≤ 900000) (hk : k ≤ pool.length) (hl : pool.length ≤ 1000) (jl : j < k) (i : Int) : ∃ e1 e2, bName 5 (.int i) env = some e1 ∧ bodyS e1 = some (.nx, e2) ∧ SomeI n pool o k (j + 1) e2 := by
  obtain ⟨m', lf, fd, x5, he, hp, hfl, hll, hnd, hin⟩ := h.ex
  subst he
  have l1 : (1 : Int) ≤ lf.length := by omega
  have l2 : (lf.length : Int) ≤ 1000000 := by omega
  have l3 : n + j ≤ 1000000 := by omega
  obtain ⟨d, m2, e, d1, d2, hp2⟩ := take_ok hp l3 l1 l2
  obtain ⟨dj, hdj⟩ := Int.eq_ofNat_of_zero_le d1
  have dl : dj < lf.length := by omega
  have pe : ((fd ++ [lf[dj]]) ++ lf.eraseIdx dj).Perm (fd ++ lf) := by
    rw [List.append_assoc]
    exact List.Perm.append_left fd (erase_perm dl)
  have pp := popAt_ok dl (by omega)
  generalize lf[dj] = y at pp pe
  have le : (lf.eraseIdx dj).length + (j + 1) = pool.length := by rw [List.length_eraseIdx_of_lt dl]; omega
  generalize lf.eraseIdx dj = lf' at pp pe le
  rw [← hdj] at pp
  have fl : fd.length ≤ 1000000 := by omega
  have b := bodyS_ok (e1 := some (.lst o (strsD pool))) (e2 := some (.int k)) (e5 := some (.int i)) rfl hp.nfz e pp fl
  refine ⟨[some m', some (.lst o (strsD pool)), some (.int k), some (.lst true (strsD lf)), some (.lst true (strsD fd)), some (.int i)], _, by simp, b, ⟨m2, lf', fd ++ [y], _, rfl, hp2.mono (by omega), ?_, le, pe.symm.nodup hnd, fun x hx => hin x (pe.mem_iff.mp hx)⟩⟩
  rw [List.length_append, hfl]
  rfl
theorem some_loop {n : Int} {m : D} {pool : List Str} {k : Nat} {o : Bool} (h : Pot n m) (hn : n ≤ 900000) (hk : k ≤ pool.length) (hl : pool.length ≤ 1000) (nd : pool.Nodup) :
    ∃ e', loopS (bName 5) bodyS ((List.range k).map fun (i : Nat) => .int (i : Int)) [some m, some (.lst o (strsD pool)), some (.int k), some (.lst true (strsD pool)), some (.lst true []), none] = some (.nx, e') ∧ SomeI n pool o k k e' := by
  obtain ⟨e', lp, he⟩ := loopS_inv (b := bName 5) (body := bodyS) (SomeI n pool o k) ((List.range k).map fun (i : Nat) => .int (i : Int))
    (fun j x env hx i => by
      rw [List.getElem?_map] at hx
      cases q : (List.range k)[j]? with
      | none => rw [q] at hx; cases hx
      | some r =>
        rw [q] at hx
        cases hx
        have jl := (List.getElem?_eq_some_iff.mp q).1
        rw [List.length_range] at jl
        exact some_step i hn hk hl jl _)
    [some m, some (.lst o (strsD pool)), some (.int k), some (.lst true (strsD pool)), some (.lst true []), none] ⟨m, pool, [], none, rfl, h.mono (by omega), rfl, rfl, nd, fun x hx => hx⟩
  rw [List.length_map, List.length_range] at he
  exact ⟨e', lp, he⟩
theorem sSeq_nx {s u : SS} {e e1 : T.Env} (h : s e = some (.nx, e1)) : sSeq s u e = u e1 := by
  unfold sSeq
  rw [h]
theorem sFor_val {it : SI} {b : Bd} {body : SS} {e e1 : T.Env} {ms : List D} {r : Option (Fl × T.Env)} (h : it e = some (.ok ms, e1)) (k : loopS b body ms e1 = r) : sFor it b body e = r := by
  unfold sFor
  rw [h]
  exact k
theorem sRet_val {s : SE} {e e1 : T.Env} {m : D} (h : s e = some (.ok m, e1)) : sRet s e = some (.rt m, e1) := by
  unfold sRet
  rw [h]
theorem sSet_val {s : SE} {i : Nat} {e e1 : T.Env} {m : D} (h : s e = some (.ok m, e1)) (k : i < e1.length) : sSet i s e = some (.nx, e1.set i (some m)) := by
  unfold sSet
  rw [h]
  exact if_pos k
theorem fnS_rt {n np : Nat} {kp : Nat → Bool} {s : SS} {ms : List D} {m : D} {e : T.Env} (l : ms.length = np) (h : s (ms.map some ++ List.replicate (n - np) none) = some (.rt m, e)) : fnS n np kp s ms = some (.ok m, outsF kp 0 np e) := by
  unfold fnS
  rw [if_pos l, h]
theorem iRgU_val {f : List D → Option (List D)} {p : SAV} {env : T.Env} {ms r : List D} (h : p env = some ms) (h2 : f ms = some r) : iU (iRgU f p) env = some (.ok r, env) := by
  unfold iU iRgU
  rw [h]
  show Option.map _ (f ms) = _
  rw [h2]
  rfl
theorem sCallA_val {F : SF} {a : SA} {env env1 env2 : T.Env} {as : List Av} {ms : List D} {m : D} {os : List (Option D)} (h1 : a env = some (.ok as, env1)) (h2 : takeA as env1 = some (ms, env2)) (h3 : F ms = some (.ok m, os)) : sCallA F a env = some (.ok m, backA as os env2) := by
  unfold sCallA
  rw [h1]
  simp only []
  rw [h2]
  simp only []
  rw [h3]
theorem some_ev {m m' : D} {pool fd lf : List Str} {k : Nat} {o : Bool} {x5 : Option D} (rg : rng1D [.int (k : Int)] = some ((List.range k).map fun (i : Nat) => .int (i : Int)))
  (lp : loopS (bName 5) bodyS ((List.range k).map fun (i : Nat) => .int (i : Int)) [some m, some (.lst o (strsD pool)), some (.int k), some (.lst true (strsD pool)), some (.lst true []), none] = some (.nx, [some m', some (.lst o (strsD pool)), some (.int k), some (.lst true (strsD lf)), some (.lst true (strsD fd)), x5])) :
  F_some [m, .lst o (strsD pool), .int k] = some (.ok (.lst true (strsD fd)), [some m', some (.lst o (strsD pool)), some (.int k)]) := by
  have p1 : sPar [3, 4] (aE (sU (pC listD (vCons (pVar 1) vNil))) (aE (sU (pLst vNil)) aNil)) [some m, some (.lst o (strsD pool)), some (.int k), none, none, none] = some (.nx, [some m, some (.lst o (strsD pool)), some (.int k), some (.lst true (strsD pool)), some (.lst true []), none]) := by simp
  have p2 : iU (iRgU rng1D (vCons (pVar 2) vNil)) [some m, some (.lst o (strsD pool)), some (.int k), some (.lst true (strsD pool)), some (.lst true []), none] = some (.ok ((List.range k).map fun (i : Nat) => .int (i : Int)), [some m, some (.lst o (strsD pool)), some (.int k), some (.lst true (strsD pool)), some (.lst true []), none]) := iRgU_val (by simp) rg
  have p3 : sMove 4 [some m', some (.lst o (strsD pool)), some (.int k), some (.lst true (strsD lf)), some (.lst true (strsD fd)), x5] = some (.ok (.lst true (strsD fd)), [some m', some (.lst o (strsD pool)), some (.int k), some (.lst true (strsD lf)), none, x5]) := by simp
  have p6 : b_some ([m, .lst o (strsD pool), .int k].map some ++ List.replicate (6 - 3) none) = some (.rt (.lst true (strsD fd)), [some m', some (.lst o (strsD pool)), some (.int k), some (.lst true (strsD lf)), none, x5]) := (sSeq_nx p1).trans ((sSeq_nx (sFor_val p2 lp)).trans (sRet_val p3))
  exact fnS_rt (n := 6) (np := 3) (kp := kpL [0, 1, 2]) rfl p6
theorem some_ok {n : Int} {m : D} {pool : List Str} {k : Nat} {o : Bool} (h : Pot n m) (hn : n ≤ 900000) (hk : k ≤ pool.length) (hl : pool.length ≤ 1000) (nd : pool.Nodup) :
    ∃ xs m', F_some [m, .lst o (strsD pool), .int k] = some (.ok (.lst true (strsD xs)), [some m', some (.lst o (strsD pool)), some (.int k)]) ∧ xs.length = k ∧ xs.Nodup ∧ (∀ x ∈ xs, x ∈ pool) ∧ Pot (n + k) m' := by
  obtain ⟨e', lp, ⟨m', lf, fd, x5, he, hp, hfl, hll, hnd, hin⟩⟩ := some_loop (o := o) h hn hk hl nd
  refine ⟨fd, m', ?_, hfl, (List.nodup_append.mp hnd).1, fun x hx => hin x (List.mem_append_left _ hx), hp⟩
  rw [he] at lp
  have a1 : (k : Int) < 4611686018427387904 := by omega
  have a2 : -4611686018427387904 ≤ (k : Int) := by omega
  have rg : rng1D [.int (k : Int)] = some ((List.range k).map fun (i : Nat) => .int (i : Int)) := by simp [rng1D, a1, a2]
  exact some_ev rg lp
def pool14 : List Str := ["a", "hall", "room", "gate", "for", "while", "kind", "plate", "zz", "lab", "longname", "imp", "x", "deeds"]
instance (x : Str) : Decidable (IsNm x) := decidable_of_iff (1 ≤ x.length ∧ x.length ≤ 8 ∧ ∀ c ∈ TL.tl x, 97 ≤ c ∧ c ≤ 122) ⟨fun h => ⟨h.1, h.2.1, h.2.2⟩, fun h => ⟨h.lo, h.hi, h.al⟩⟩
theorem pool_nm : ∀ x ∈ pool14, IsNm x := by decide +kernel
theorem pool_nd : pool14.Nodup := by decide +kernel
theorem names_ok {n : Int} {m : D} {k : Nat} (h : Pot n m) (hn : n ≤ 900000) (hk : k ≤ 14) :
    ∃ xs m', F_names [m, .int k] = some (.ok (.lst true (strsD xs)), [some m', some (.int k)]) ∧ xs.length = k ∧ xs.Nodup ∧ (∀ x ∈ xs, IsNm x) ∧ Pot (n + k) m' := by
  obtain ⟨xs, m', e, h1, h2, h3, h4⟩ := some_ok (pool := pool14) (k := k) (o := true) h hn hk (by decide) pool_nd
  refine ⟨xs, m', ?_, h1, h2, fun x hx => pool_nm x (h3 x hx), h4⟩
  have nf := h.nfz
  have p1 : sSet 2 (sU (pLst (vCons (pK (.str "a")) (vCons (pK (.str "hall")) (vCons (pK (.str "room")) (vCons (pK (.str "gate")) (vCons (pK (.str "for")) (vCons (pK (.str "while")) (vCons (pK (.str "kind")) (vCons (pK (.str "plate")) (vCons (pK (.str "zz")) (vCons (pK (.str "lab")) (vCons (pK (.str "longname")) (vCons (pK (.str "imp")) (vCons (pK (.str "x")) (vCons (pK (.str "deeds")) vNil)))))))))))))))) [some m, some (.int k), none] = some (.nx, [some m, some (.int k), some (.lst true (strsD pool14))]) := by simp [pool14]
  have p2 : (aN 0 (aN 2 (aN 1 aNil))) [some m, some (.int k), some (.lst true (strsD pool14))] = some (.ok [.lend 0, .lend 2, .lend 1], [some m, some (.int k), some (.lst true (strsD pool14))]) := by simp
  have p3 : takeA [.lend 0, .lend 2, .lend 1] [some m, some (.int k), some (.lst true (strsD pool14))] = some ([m, .lst true (strsD pool14), .int k], [none, some (.int k), none]) := by simp [nf]
  have p4 : backA [.lend 0, .lend 2, .lend 1] [some m', some (.lst true (strsD pool14)), some (.int k)] [none, some (.int k), none] = [some m', some (.int k), some (.lst true (strsD pool14))] := by simp
  have p5 := sCallA_val p2 p3 e
  rw [p4] at p5
  have p6 : b_names ([m, .int k].map some ++ List.replicate (3 - 2) none) = some (.rt (.lst true (strsD xs)), [some m', some (.int k), some (.lst true (strsD pool14))]) := (sSeq_nx p1).trans (sRet_val p5)
  exact fnS_rt (n := 3) (np := 2) (kp := kpL [0, 1]) rfl p6
end Q

set_option Elab.async false
set_option linter.all false
set_option maxRecDepth 100000
set_option maxHeartbeats 4000000
namespace Q
open PySem PySem.Spec PyProof.Rows L2 T

theorem names_okI {n : Int} {m : D} {k : Int} (h : Pot n m) (hn : n ≤ 900000) (hk0 : 0 ≤ k) (hk : k ≤ 14) :
    ∃ xs m', F_names [m, .int k] = some (.ok (.lst true (strsD xs)), [some m', some (.int k)]) ∧ (xs.length : Int) = k ∧ xs.Nodup ∧ (∀ x ∈ xs, IsNm x) ∧ Pot (n + k) m' := by
  obtain ⟨j, rfl⟩ := Int.eq_ofNat_of_zero_le hk0
  obtain ⟨xs, m', e, h1, h2, h3, h4⟩ := names_ok h hn (k := j) (by omega)
  exact ⟨xs, m', e, by omega, h2, h3, h4⟩
theorem some_okI {n : Int} {m : D} {pool : List Str} {k : Int} {o : Bool} (h : Pot n m) (hn : n ≤ 900000) (hk0 : 0 ≤ k) (hk : k ≤ pool.length) (hl : pool.length ≤ 1000) (nd : pool.Nodup) :
    ∃ xs m', F_some [m, .lst o (strsD pool), .int k] = some (.ok (.lst true (strsD xs)), [some m', some (.lst o (strsD pool)), some (.int k)]) ∧ (xs.length : Int) = k ∧ xs.Nodup ∧ (∀ x ∈ xs, x ∈ pool) ∧ Pot (n + k) m' := by
  obtain ⟨j, rfl⟩ := Int.eq_ofNat_of_zero_le hk0
  obtain ⟨xs, m', e, h1, h2, h3, h4⟩ := some_ok (o := o) h hn (k := j) (by omega) hl nd
  exact ⟨xs, m', e, by omega, h2, h3, h4⟩
/-- what the draws of a level lean on, as a dict -/
structure LdK (ld : D) (rooms : List Str) (kinds : List (Str × Str)) : Prop where
  nf : fz ld = false
  r : dLook ld (.str "rooms") = some (some (.lst false (strsD rooms)))
  k : dLook ld (.str "kinds") = some (some (.lst false (kinds.map kindD)))
theorem kind_heads (kinds : List (Str × Str)) {b : Bd} {el : SV} {env : T.Env} (h : ∀ x : Str × Str, ∃ e1, b (kindD x) env = some e1 ∧ el e1 = some (.str x.1)) : pLcL b qYes el env (kinds.map kindD) = some (strsD (kinds.map (·.1))) := by
  rw [← strsD_map]
  exact pLcL_map fun x _ => by
    obtain ⟨e1, h1, h2⟩ := h x
    exact ⟨e1, h1, by simp, h2⟩
theorem opt_of {kn : List Str} {c : Nat} {x : D} (h : x ∈ List.replicate c D.non ++ strsD kn) : ∃ o : Option Str, x = optD o ∧ ∀ k, o = some k → k ∈ kn := by
  rcases List.mem_append.mp h with h | h
  · rw [(List.mem_replicate.mp h).2]
    exact ⟨none, rfl, fun _ e => nomatch e⟩
  · obtain ⟨k, hk, rfl⟩ := List.mem_map.mp h
    exact ⟨some k, rfl, fun _ e => by cases e; exact hk⟩
abbrev bodyP : SS := sSeq (sSet 5 (sCallA F_of (aN 0 (aE (sU (p2 addD (pLst (vCons (pK .non) (vCons (pK .non) (vCons (pK .non) vNil)))) (pLc [6] (iP (pDG (pVar 1) (pK (.str "kinds")))) (bName 6) qYes (p2 ixD (pVar 6) (pK (.int 0)))))) aNil))))
    (sDrop (sLstM 3 (sTup (aE (sU (pFz (pVar 4))) (aE (sCallA F_of (aN 0 (aE (sU (pFz (pDG (pVar 1) (pK (.str "rooms"))))) aNil))) (aE (sCallA F_of (aN 0 (aE (sU (pLst (vCons (pK (.int 1)) (vCons (pK (.int 1)) (vCons (pK (.int 1)) (vCons (pK (.int 2)) vNil)))))) aNil))) (aE (sU (pFz (pVar 5))) aNil))))) fAppend))
theorem bodyP_ok {n : Int} {m ld : D} {rooms : List Str} {kinds : List (Str × Str)} {ps : List Plate} {nm : Str} {e2 e5 : Option D} (h : Pot n m) (hn : n ≤ 900000) (hl : LdK ld rooms kinds) (hr : rooms ≠ []) (hr2 : rooms.length ≤ 5) (hk : kinds.length ≤ 2) (hp : ps.length ≤ 1000) (hnm : IsNm nm) :
    ∃ p m' y5, bodyP [some m, some ld, e2, some (.lst true (ps.map plateD)), some (.str nm), e5, none] = some (.nx, [some m', some ld, e2, some (.lst true ((ps ++ [p]).map plateD)), some (.str nm), y5, none]) ∧ p.name = nm ∧ PlateOk rooms (kinds.map (·.1)) p ∧ Pot (n + 3) m' := by
  have nf := h.nfz
  have hL : ∀ f5, pLcL (bName 6) qYes (p2 ixD (pVar 6) (pK (.int 0))) [some m, some ld, e2, some (.lst true (ps.map plateD)), some (.str nm), f5, none] (kinds.map kindD) = some (strsD (kinds.map (·.1))) := fun f5 => kind_heads kinds fun x => ⟨[some m, some ld, e2, some (.lst true (ps.map plateD)), some (.str nm), f5, some (kindD x)], by simp, by simp [kindD]⟩
  have dk := hl.k
  have dr := hl.r
  have nl := hl.nf
  have l1 : kinds.length ≤ 100000 := by omega
  have l2 : (kinds.length + 1 + 1 + 1 : Nat) ≤ 16777216 := by omega
  have l3 : 3 + kinds.length ≤ sizeLine := by rw [szl]; omega
  have g1 : p2 addD (pLst (vCons (pK .non) (vCons (pK .non) (vCons (pK .non) vNil)))) (pLc [6] (iP (pDG (pVar 1) (pK (.str "kinds")))) (bName 6) qYes (p2 ixD (pVar 6) (pK (.int 0)))) [some m, some ld, e2, some (.lst true (ps.map plateD)), some (.str nm), e5, none] = some (.lst true (List.replicate 3 D.non ++ strsD (kinds.map (·.1)))) := by
    simp [dk, hL, l1, l3]
  obtain ⟨x, m1, o1, xin, p1⟩ := of_ok (o := true) h (by omega) (ms := List.replicate 3 D.non ++ strsD (kinds.map (·.1))) (by rw [fzs_app]; simp [List.replicate]) (by simp [List.replicate]) (by rw [List.length_append, List.length_replicate, T.len_strs, List.length_map]; omega)
  obtain ⟨k, rfl, kin⟩ := opt_of xin
  have o1 : F_of [m, .lst true (.non :: .non :: .non :: strsD (kinds.map (·.1)))] = some (.ok (optD k), [some m1, some (.lst true (.non :: .non :: .non :: strsD (kinds.map (·.1))))]) := o1
  have s1 : sSet 5 (sCallA F_of (aN 0 (aE (sU (p2 addD (pLst (vCons (pK .non) (vCons (pK .non) (vCons (pK .non) vNil)))) (pLc [6] (iP (pDG (pVar 1) (pK (.str "kinds")))) (bName 6) qYes (p2 ixD (pVar 6) (pK (.int 0)))))) aNil))) [some m, some ld, e2, some (.lst true (ps.map plateD)), some (.str nm), e5, none] = some (.nx, [some m1, some ld, e2, some (.lst true (ps.map plateD)), some (.str nm), some (optD k), none]) := by
    rw [sSet_ap, sCallA_ap, aN_ap, aE_ap, sU_ap, g1]
    simp [o1, nf]
  obtain ⟨y, m2, o2, yin, p2⟩ := of_ok (o := false) p1 (by omega) (ms := strsD rooms) (by simp) (by intro z; exact hr (List.map_eq_nil_iff.mp z)) (by rw [T.len_strs]; omega)
  obtain ⟨r, rin, rfl⟩ := List.mem_map.mp yin
  obtain ⟨z, m3, o3, zin, p3⟩ := of_ok (o := true) p2 (by omega) (ms := [.int 1, .int 1, .int 1, .int 2]) (by simp) (by simp) (by simp)
  have zi : ∃ i : Int, z = .int i ∧ 1 ≤ i ∧ i ≤ 2 := by
    simp only [List.mem_cons, List.not_mem_nil, or_false] at zin
    rcases zin with rfl | rfl | rfl | rfl
    · exact ⟨1, rfl, by omega, by omega⟩
    · exact ⟨1, rfl, by omega, by omega⟩
    · exact ⟨1, rfl, by omega, by omega⟩
    · exact ⟨2, rfl, by omega, by omega⟩
  obtain ⟨i, rfl, i1, i2⟩ := zi
  have n1 := p1.nfz
  have n2 := p2.nfz
  have hp' : ps.length ≤ 1000000 := by omega
  refine ⟨⟨nm, r, i, k⟩, m3, some (optD k), ?_, rfl, ⟨hnm, rin, i1, by show i ≤ 3; omega, kin⟩, p3.mono (by omega)⟩
  refine (sSeq_nx s1).trans ?_
  simp [dr, o2, o3, n1, n2, fAppend, hp', plateD]

theorem plates_draw {n : Int} {m ld : D} {rooms : List Str} {kinds : List (Str × Str)} {k : Int} (h : Pot n m) (hn : n ≤ 800000) (hl : LdK ld rooms kinds) (hr : rooms ≠ []) (hr2 : rooms.length ≤ 5) (hk : kinds.length ≤ 2) (k0 : 0 ≤ k) (k1 : k ≤ 13) :
    ∃ (ps : List Plate) (m' : D), F_plates [m, ld, .int k] = some (.ok (.lst true (ps.map plateD)), [some m', some ld, some (.int k)]) ∧ (ps.length : Int) ≤ k ∧ (ps.map (·.name)).Nodup ∧ (∀ p ∈ ps, PlateOk rooms (kinds.map (·.1)) p) ∧ Pot (n + 60) m' := by
  have nf := h.nfz
  obtain ⟨d, m1, e1, d1, d2, p1⟩ := take_ok h (by omega) (u := k + 1) (by omega) (by omega)
  obtain ⟨xs, m2, e2, x1, x2, x3, q2⟩ := names_okI p1 (by omega) d1 (by omega)
  have n1 := p1.nfz
  have it : iE (sCallA F_names (aN 0 (aE (sCallA F_take (aN 0 (aE (sU (p2 addD (pVar 2) (pK (.int 1)))) aNil))) aNil))) [some m, some ld, some (.int k), some (.lst true []), none, none, none] = some (.ok (strsD xs), [some m2, some ld, some (.int k), some (.lst true []), none, none, none]) := by
    have c1 : sCallA F_take (aN 0 (aE (sU (p2 addD (pVar 2) (pK (.int 1)))) aNil)) [some m, some ld, some (.int k), some (.lst true []), none, none, none] = some (.ok (.int d), [some m1, some ld, some (.int k), some (.lst true []), none, none, none]) := by
      simp [e1, nf]
    have c2 : sCallA F_names (aN 0 (aE (sCallA F_take (aN 0 (aE (sU (p2 addD (pVar 2) (pK (.int 1)))) aNil))) aNil)) [some m, some ld, some (.int k), some (.lst true []), none, none, none] = some (.ok (.lst true (strsD xs)), [some m2, some ld, some (.int k), some (.lst true []), none, none, none]) := by
      rw [sCallA_ap, aN_ap, aE_ap, c1]
      simp [e2, n1]
    rw [iE_ap, c2]
    simp
  obtain ⟨e', lp, m', ps, y4, y5, he, pp, pn, pk⟩ := loopS_inv (b := bName 4) (body := bodyP) (fun j env => ∃ (m' : D) (ps : List Plate) (y4 y5 : Option D), env = [some m', some ld, some (.int k), some (.lst true (ps.map plateD)), y4, y5, none] ∧ Pot (n + 1 + d + 3 * j) m' ∧ ps.map (·.name) = xs.take j ∧ ∀ p ∈ ps, PlateOk rooms (kinds.map (·.1)) p) (strsD xs)
    (fun j x env hx ⟨m', ps, y4, y5, he, pp, pn, pk⟩ => by
      rw [show strsD xs = xs.map D.str from rfl, List.getElem?_map] at hx
      cases q : xs[j]? with
      | none => rw [q] at hx; cases hx
      | some nm =>
        rw [q] at hx
        cases hx
        have jl := (List.getElem?_eq_some_iff.mp q).1
        have pl : ps.length ≤ 1000 := by
          have := congrArg List.length pn
          rw [List.length_map, List.length_take] at this
          omega
        obtain ⟨p, m3, y, b, b1, b2, b3⟩ := bodyP_ok (e2 := some (.int k)) (e5 := y5) pp (by omega) hl hr hr2 hk pl (x3 nm (List.mem_of_getElem? q))
        refine ⟨[some m', some ld, some (.int k), some (.lst true (ps.map plateD)), some (.str nm), y5, none], _, by rw [he]; simp, b, m3, ps ++ [p], some (.str nm), y, rfl, b3.mono (by omega), ?_, ?_⟩
        · rw [List.map_append, pn, List.take_add_one, q, ← b1]; rfl
        · intro p' hp'
          rcases List.mem_append.mp hp' with z | z
          · exact pk p' z
          · rw [List.mem_singleton.mp z]; exact b2)
    [some m2, some ld, some (.int k), some (.lst true []), none, none, none] ⟨m2, [], none, none, rfl, q2.mono (by omega), rfl, fun _ z => nomatch z⟩
  rw [T.len_strs] at pp pn
  rw [List.take_length] at pn
  rw [he] at lp
  have s0 : sSet 3 (sU (pLst vNil)) [some m, some ld, some (.int k), none, none, none, none] = some (.nx, [some m, some ld, some (.int k), some (.lst true []), none, none, none]) := by simp
  have s3 : sMove 3 [some m', some ld, some (.int k), some (.lst true (ps.map plateD)), y4, y5, none] = some (.ok (.lst true (ps.map plateD)), [some m', some ld, some (.int k), none, y4, y5, none]) := by simp
  have p6 : b_plates ([m, ld, .int k].map some ++ List.replicate (7 - 3) none) = some (.rt (.lst true (ps.map plateD)), [some m', some ld, some (.int k), none, y4, y5, none]) := (sSeq_nx s0).trans ((sSeq_nx (sFor_val it lp)).trans (sRet_val s3))
  refine ⟨ps, m', fnS_rt (n := 7) (np := 3) (kp := kpL [0, 1, 2]) rfl p6, ?_, by rw [pn]; exact x2, pk, pp.mono (by omega)⟩
  have := congrArg List.length pn
  rw [List.length_map] at this
  omega
end Q

set_option Elab.async false
set_option linter.all false
set_option maxRecDepth 100000
set_option maxHeartbeats 4000000
namespace Q
open PySem PySem.Spec PyProof.Rows L2 T

structure LdP (ld : D) (rooms : List Str) (kinds : List (Str × Str)) (ps : List Plate) : Prop extends LdK ld rooms kinds where
  p : dLook ld (.str "plates") = some (some (.lst false (ps.map plateD)))
abbrev g9 : SS := sSet 9 (sIfE (qU (qB (p2 (cmpD fun i j => decide (i < j)) (pVar 7) (p2 subD (pC lenD (vCons (pVar 5) vNil)) (pK (.int 1)))))) (sU (p2 ixD (pVar 5) (pVar 7))) (sCallA F_of (aN 0 (aN 5 aNil))))
abbrev g10 : SS := sSet 10 (sU (pLc [15] (iP (pVar 5)) (bName 15) (qB (p2 neD (pVar 15) (pVar 9))) (pFz (pVar 15))))
abbrev g11 : SS := sSet 11 (sIfE (qU (qB (p2 (cmpD fun i j => decide (i < j)) (pVar 7) (p2 subD (pC lenD (vCons (pVar 5) vNil)) (pK (.int 1)))))) (sU (p2 ixD (pVar 5) (p2 addD (pVar 7) (pK (.int 1))))) (sCallA F_of (aN 0 (aN 10 aNil))))
abbrev g12 : SS := sSet 12 (sCallA F_of (aN 0 (aE (sU (p2 addD (pLst (vCons (pK .non) (vCons (pK .non) (vCons (pK .non) (vCons (pK .non) vNil))))) (pLc [16] (iP (pDG (pVar 1) (pK (.str "kinds")))) (bName 16) qYes (p2 ixD (pVar 16) (pK (.int 0)))))) aNil)))
abbrev g13 : SS := sSet 13 (sC min2D (aE (sU (pC lenD (vCons (pVar 6) vNil))) (aE (sC intD (aE (sCallA F_of (aN 0 (aE (sU (pLst (vCons (pK (.int 0)) (vCons (pK (.int 1)) (vCons (pK (.int 1)) (vCons (pK (.int 1)) (vCons (pK (.int 2)) vNil))))))) aNil))) aNil)) aNil)))
abbrev g14 : SS := sDrop (sLstM 4 (sTup (aE (sU (pFz (pVar 8))) (aE (sU (pFz (pVar 9))) (aE (sU (pFz (pVar 11))) (aE (sU (pFz (pVar 12))) (aE (sC tupleD (aE (sCallA F_some (aN 0 (aN 6 (aN 13 aNil)))) aNil)) aNil)))))) fAppend)
section
variable {n : Int} {m ld : D} {rooms : List Str} {kinds : List (Str × Str)} {ps : List Plate} {e2 e3 e4 e6 e7 e8 e9 e10 e11 e12 e13 : Option D}
theorem strs_at {l : List Str} {j : Nat} (h : j < l.length) : atI (strsD l) (j : Int) = some (.str l[j]) := atI_nat (by
  rw [show strsD l = l.map D.str from rfl, List.getElem?_map, List.getElem?_eq_getElem h]
  rfl)
theorem g9_ok (h : Pot n m) (hn : n ≤ 900000) (hr : 2 ≤ rooms.length) (hr2 : rooms.length ≤ 5) (j : Nat) :
    ∃ src m1, g9 [some m, some ld, e2, e3, e4, some (.lst false (strsD rooms)), e6, some (.int j), e8, e9, e10, e11, e12, e13, none, none, none] = some (.nx, [some m1, some ld, e2, e3, e4, some (.lst false (strsD rooms)), e6, some (.int j), e8, some (.str src), e10, e11, e12, e13, none, none, none]) ∧ src ∈ rooms ∧ Pot (n + 1) m1 ∧ ∀ c : j + 1 < rooms.length, src = rooms[j] := by
  by_cases c : j + 1 < rooms.length
  · have c' : (j : Int) < (rooms.length : Int) - 1 := by omega
    have a := strs_at (l := rooms) (j := j) (by omega)
    exact ⟨rooms[j], m, by simp [g9, c', a], List.getElem_mem _, h.mono (by omega), fun _ => rfl⟩
  · have c' : ¬ (j : Int) < (rooms.length : Int) - 1 := by omega
    obtain ⟨y, m2, o2, yin, q2⟩ := of_ok (o := false) h (by omega) (ms := strsD rooms) (by simp) (by intro z; have := congrArg List.length z; rw [T.len_strs] at this; simp at this; simp [this] at hr) (by rw [T.len_strs]; omega)
    obtain ⟨r, rin, rfl⟩ := List.mem_map.mp yin
    have nf := h.nfz
    exact ⟨r, m2, by simp [g9, c', o2, nf], rin, q2, fun z => absurd z c⟩
theorem neD_str {a b : Str} (h : Plain a) (k : Plain b) : neD (.str a) (.str b) = some (.bl (!decide (a = b))) := by
  unfold neD
  rw [eqB_of (Ly.str (n := 0) h (Nat.le_refl _)) (Ly.str (n := 0) k (Nat.le_refl _)) (by omega) (by omega), eqv_str]
  rfl
theorem g10_ok {src : Str} (hp : ∀ r ∈ rooms, Plain r) (hs : Plain src) (hr2 : rooms.length ≤ 5) :
    g10 [some m, some ld, e2, e3, e4, some (.lst false (strsD rooms)), e6, e7, e8, some (.str src), e10, e11, e12, e13, none, none, none] = some (.nx, [some m, some ld, e2, e3, e4, some (.lst false (strsD rooms)), e6, e7, e8, some (.str src), some (.lst true (strsD (rooms.filter fun r => !decide (r = src)))), e11, e12, e13, none, none, none]) := by
  have hL : pLcL (bName 15) (qB (p2 neD (pVar 15) (pVar 9))) (pFz (pVar 15)) [some m, some ld, e2, e3, e4, some (.lst false (strsD rooms)), e6, e7, e8, some (.str src), e10, e11, e12, e13, none, none, none] (strsD rooms) = some (strsD (rooms.filter fun r => !decide (r = src))) :=
    pLcL_filter fun r hr => ⟨[some m, some ld, e2, e3, e4, some (.lst false (strsD rooms)), e6, e7, e8, some (.str src), e10, e11, e12, e13, none, some (.str r), none], by simp, by simp [neD_str (hp r hr) hs], fun _ => by simp⟩
  have l : rooms.length ≤ 100000 := by omega
  simp [g10, hL, l]
theorem g11_ok {src : Str} (h : Pot n m) (hn : n ≤ 900000) (hr : 2 ≤ rooms.length) (hr2 : rooms.length ≤ 5) (nd : rooms.Nodup) (hs : src ∈ rooms) (j : Nat) (hj : ∀ c : j + 1 < rooms.length, src = rooms[j]) :
    ∃ tg m1 y10, g11 [some m, some ld, e2, e3, e4, some (.lst false (strsD rooms)), e6, some (.int j), e8, some (.str src), some (.lst true (strsD (rooms.filter fun r => !decide (r = src)))), e11, e12, e13, none, none, none] = some (.nx, [some m1, some ld, e2, e3, e4, some (.lst false (strsD rooms)), e6, some (.int j), e8, some (.str src), y10, some (.str tg), e12, e13, none, none, none]) ∧ tg ∈ rooms ∧ src ≠ tg ∧ Pot (n + 1) m1 := by
  by_cases c : j + 1 < rooms.length
  · have c' : (j : Int) < (rooms.length : Int) - 1 := by omega
    have a := strs_at (l := rooms) (j := j + 1) c
    have a : atI (strsD rooms) ((j : Int) + 1) = some (.str rooms[j + 1]) := a
    refine ⟨rooms[j + 1], m, _, by simp [g11, c', a]; rfl, List.getElem_mem _, ?_, h.mono (by omega)⟩
    rw [hj c]
    intro e
    have := (List.getElem_inj nd).mp e
    omega
  · have c' : ¬ (j : Int) < (rooms.length : Int) - 1 := by omega
    have ex : ∃ r ∈ rooms, r ≠ src := by
      match rooms, hr, nd with
      | a :: b :: r, _, nd =>
        by_cases q : a = src
        · refine ⟨b, by simp, fun z => ?_⟩
          subst z
          subst q
          exact (List.nodup_cons.mp nd).1 (List.mem_cons_self ..)
        · exact ⟨a, by simp, q⟩
    obtain ⟨r0, r0in, r0ne⟩ := ex
    have fin : r0 ∈ rooms.filter fun r => !decide (r = src) := List.mem_filter.mpr ⟨r0in, by simp [r0ne]⟩
    have fl : (rooms.filter fun r => !decide (r = src)).length ≤ rooms.length := List.length_filter_le ..
    obtain ⟨y, m2, o2, yin, q2⟩ := of_ok (o := true) h (by omega) (ms := strsD (rooms.filter fun r => !decide (r = src))) (by simp) (by intro z; rw [List.map_eq_nil_iff.mp z] at fin; cases fin) (by rw [T.len_strs]; omega)
    obtain ⟨r, rin, rfl⟩ := List.mem_map.mp yin
    have nf := h.nfz
    have z := List.mem_filter.mp rin
    refine ⟨r, m2, _, by simp [g11, c', o2, nf]; rfl, z.1, fun e => ?_, q2⟩
    have := z.2
    rw [e] at this
    simp at this
theorem g12_ok (h : Pot n m) (hn : n ≤ 900000) (hl : LdK ld rooms kinds) (hk : kinds.length ≤ 2) :
    ∃ k m1, g12 [some m, some ld, e2, e3, e4, some (.lst false (strsD rooms)), e6, e7, e8, e9, e10, e11, e12, e13, none, none, none] = some (.nx, [some m1, some ld, e2, e3, e4, some (.lst false (strsD rooms)), e6, e7, e8, e9, e10, e11, some (optD k), e13, none, none, none]) ∧ (∀ x, k = some x → x ∈ kinds.map (·.1)) ∧ Pot (n + 1) m1 := by
  have hL : pLcL (bName 16) qYes (p2 ixD (pVar 16) (pK (.int 0))) [some m, some ld, e2, e3, e4, some (.lst false (strsD rooms)), e6, e7, e8, e9, e10, e11, e12, e13, none, none, none] (kinds.map kindD) = some (strsD (kinds.map (·.1))) := kind_heads kinds fun x => ⟨[some m, some ld, e2, e3, e4, some (.lst false (strsD rooms)), e6, e7, e8, e9, e10, e11, e12, e13, none, none, some (kindD x)], by simp, by simp [kindD]⟩
  have dk := hl.k
  have l1 : kinds.length ≤ 100000 := by omega
  have l3 : 4 + kinds.length ≤ sizeLine := by rw [szl]; omega
  have g1 : p2 addD (pLst (vCons (pK .non) (vCons (pK .non) (vCons (pK .non) (vCons (pK .non) vNil))))) (pLc [16] (iP (pDG (pVar 1) (pK (.str "kinds")))) (bName 16) qYes (p2 ixD (pVar 16) (pK (.int 0)))) [some m, some ld, e2, e3, e4, some (.lst false (strsD rooms)), e6, e7, e8, e9, e10, e11, e12, e13, none, none, none] = some (.lst true (List.replicate 4 D.non ++ strsD (kinds.map (·.1)))) := by
    simp [dk, hL, l1, l3]
  obtain ⟨x, m1, o1, xin, p1⟩ := of_ok (o := true) h (by omega) (ms := List.replicate 4 D.non ++ strsD (kinds.map (·.1))) (by rw [fzs_app]; simp [List.replicate]) (by simp [List.replicate]) (by rw [List.length_append, List.length_replicate, T.len_strs, List.length_map]; omega)
  obtain ⟨k, rfl, kin⟩ := opt_of xin
  have o1 : F_of [m, .lst true (.non :: .non :: .non :: .non :: strsD (kinds.map (·.1)))] = some (.ok (optD k), [some m1, some (.lst true (.non :: .non :: .non :: .non :: strsD (kinds.map (·.1))))]) := o1
  have nf := h.nfz
  refine ⟨k, m1, ?_, kin, p1⟩
  rw [g12, sSet_ap, sCallA_ap, aN_ap, aE_ap, sU_ap, g1]
  simp [o1, nf]
theorem g13_ok {pn : List Str} (h : Pot n m) (hn : n ≤ 900000) :
    ∃ (i : Int) (m1 : D), g13 [some m, some ld, e2, e3, e4, some (.lst false (strsD rooms)), some (.lst true (strsD pn)), e7, e8, e9, e10, e11, e12, e13, none, none, none] = some (.nx, [some m1, some ld, e2, e3, e4, some (.lst false (strsD rooms)), some (.lst true (strsD pn)), e7, e8, e9, e10, e11, e12, some (.int i), none, none, none]) ∧ 0 ≤ i ∧ i ≤ 2 ∧ i ≤ pn.length ∧ Pot (n + 1) m1 := by
  obtain ⟨z, m3, o3, zin, p3⟩ := of_ok (o := true) h (by omega) (ms := [.int 0, .int 1, .int 1, .int 1, .int 2]) (by simp) (by simp) (by simp)
  have zi : ∃ i : Int, z = .int i ∧ 0 ≤ i ∧ i ≤ 2 := by
    simp only [List.mem_cons, List.not_mem_nil, or_false] at zin
    rcases zin with rfl | rfl | rfl | rfl | rfl
    · exact ⟨0, rfl, by omega, by omega⟩
    · exact ⟨1, rfl, by omega, by omega⟩
    · exact ⟨1, rfl, by omega, by omega⟩
    · exact ⟨1, rfl, by omega, by omega⟩
    · exact ⟨2, rfl, by omega, by omega⟩
  obtain ⟨i, rfl, i1, i2⟩ := zi
  have nf := h.nfz
  refine ⟨if i < pn.length then i else pn.length, m3, by simp [g13, o3, nf], ?_, ?_, ?_, p3⟩
  · split <;> omega
  · split <;> omega
  · split <;> omega
theorem g14_ok {pn : List Str} {gs : List Gate} {nm src tg : Str} {k : Option Str} {i : Int} (h : Pot n m) (hn : n ≤ 900000) (i0 : 0 ≤ i) (i1 : i ≤ pn.length) (pl : pn.length ≤ 1000) (nd : pn.Nodup) (hg : gs.length ≤ 1000) :
    ∃ (xs : List Str) (m1 : D), g14 [some m, some ld, e2, e3, some (.lst true (gs.map gateD)), some (.lst false (strsD rooms)), some (.lst true (strsD pn)), e7, some (.str nm), some (.str src), e10, some (.str tg), some (optD k), some (.int i), none, none, none] = some (.nx, [some m1, some ld, e2, e3, some (.lst true ((gs ++ [Gate.mk nm src tg k xs]).map gateD)), some (.lst false (strsD rooms)), some (.lst true (strsD pn)), e7, some (.str nm), some (.str src), e10, some (.str tg), some (optD k), some (.int i), none, none, none]) ∧ xs.Nodup ∧ (xs.length : Int) = i ∧ (∀ x ∈ xs, x ∈ pn) ∧ Pot (n + i) m1 := by
  obtain ⟨xs, m1, e, h1, h2, h3, h4⟩ := some_okI (o := true) h hn i0 i1 pl nd
  have nf := h.nfz
  have gl : gs.length ≤ 1000000 := by omega
  exact ⟨xs, m1, by simp [g14, e, nf, fAppend, gl, gateD], h2, h1, h3, h4⟩
abbrev bodyQ : SS := sSeq g9 (sSeq g10 (sSeq g11 (sSeq g12 (sSeq g13 g14))))
abbrev bQ : Bd := bTup 2 (bCons (bName 7) (bCons (bName 8) bNil))
theorem bodyQ_ok {gs : List Gate} {nm : Str} (h : Pot n m) (hn : n ≤ 800000) (hl : LdK ld rooms kinds) (hr : 2 ≤ rooms.length) (hr2 : rooms.length ≤ 5) (nd : rooms.Nodup) (rn : ∀ r ∈ rooms, IsNm r) (hk : kinds.length ≤ 2) {pn : List Str} (pl : pn.length ≤ 1000) (pnd : pn.Nodup) (hg : gs.length ≤ 1000) (hnm : IsNm nm) (j : Nat) :
    ∃ (g : Gate) (m1 : D) (y9 y10 y11 y12 y13 : Option D), bodyQ [some m, some ld, e2, e3, some (.lst true (gs.map gateD)), some (.lst false (strsD rooms)), some (.lst true (strsD pn)), some (.int j), some (.str nm), e9, e10, e11, e12, e13, none, none, none] =
      some (.nx, [some m1, some ld, e2, e3, some (.lst true ((gs ++ [g]).map gateD)), some (.lst false (strsD rooms)), some (.lst true (strsD pn)), some (.int j), some (.str nm), y9, y10, y11, y12, y13, none, none, none]) ∧ g.name = nm ∧ GateOk rooms (kinds.map (·.1)) pn g ∧ Pot (n + 6) m1 := by
  obtain ⟨src, m1, a1, a2, a3, a4⟩ := g9_ok (ld := ld) (e2 := e2) (e3 := e3) (e4 := some (.lst true (gs.map gateD))) (e6 := some (.lst true (strsD pn))) (e8 := some (.str nm)) (e9 := e9) (e10 := e10) (e11 := e11) (e12 := e12) (e13 := e13) h (by omega) hr hr2 j
  have b1 := g10_ok (m := m1) (ld := ld) (e2 := e2) (e3 := e3) (e4 := some (.lst true (gs.map gateD))) (e6 := some (.lst true (strsD pn))) (e7 := some (.int j)) (e8 := some (.str nm)) (e10 := e10) (e11 := e11) (e12 := e12) (e13 := e13) (fun r hr => (rn r hr).plain) (rn src a2).plain hr2
  obtain ⟨tg, m2, y10, c1, c2, c3, c4⟩ := g11_ok (ld := ld) (e2 := e2) (e3 := e3) (e4 := some (.lst true (gs.map gateD))) (e6 := some (.lst true (strsD pn))) (e8 := some (.str nm)) (e11 := e11) (e12 := e12) (e13 := e13) a3 (by omega) hr hr2 nd a2 j a4
  obtain ⟨k, m3, d1, d2, d3⟩ := g12_ok (e2 := e2) (e3 := e3) (e4 := some (.lst true (gs.map gateD))) (e6 := some (.lst true (strsD pn))) (e7 := some (.int j)) (e8 := some (.str nm)) (e9 := some (.str src)) (e10 := y10) (e11 := some (.str tg)) (e12 := e12) (e13 := e13) c4 (by omega) hl hk
  obtain ⟨i, m4, f1, f2, f3, f4, f5⟩ := g13_ok (ld := ld) (rooms := rooms) (pn := pn) (e2 := e2) (e3 := e3) (e4 := some (.lst true (gs.map gateD))) (e7 := some (.int j)) (e8 := some (.str nm)) (e9 := some (.str src)) (e10 := y10) (e11 := some (.str tg)) (e12 := some (optD k)) (e13 := e13) d3 (by omega)
  obtain ⟨xs, m5, u1, u2, u3, u4, u5⟩ := g14_ok (ld := ld) (rooms := rooms) (gs := gs) (nm := nm) (src := src) (tg := tg) (k := k) (e2 := e2) (e3 := e3) (e7 := some (.int j)) (e10 := y10) f5 (by omega) f2 f4 pl pnd hg
  exact ⟨⟨nm, src, tg, k, xs⟩, m5, some (.str src), y10, some (.str tg), some (optD k), some (.int i), (sSeq_nx a1).trans ((sSeq_nx b1).trans ((sSeq_nx c1).trans ((sSeq_nx d1).trans ((sSeq_nx f1).trans u1)))), rfl, ⟨hnm, a2, c2, c3, d2, u4, u2, by show xs.length ≤ 2; omega⟩, u5.mono (by omega)⟩
theorem gates_draw {low most : Int} (h : Pot n m) (hn : n ≤ 700000) (hl : LdP ld rooms kinds ps) (hr : 2 ≤ rooms.length) (hr2 : rooms.length ≤ 5) (nd : rooms.Nodup) (rn : ∀ r ∈ rooms, IsNm r) (hk : kinds.length ≤ 2) (pl : ps.length ≤ 100) (pnd : (ps.map (·.name)).Nodup) (l1 : 1 ≤ low) (l2 : low ≤ most) (l3 : most ≤ 8) :
    ∃ (gs : List Gate) (m' : D), F_gates [m, ld, .int low, .int most] = some (.ok (.lst true (gs.map gateD)), [some m', some ld, some (.int low), some (.int most)]) ∧ low ≤ gs.length ∧ (gs.length : Int) ≤ most ∧ (gs.map (·.name)).Nodup ∧ (∀ g ∈ gs, GateOk rooms (kinds.map (·.1)) (ps.map (·.name)) g) ∧ Pot (n + 100) m' := by
  have nf := h.nfz
  obtain ⟨d, m1, t1, d1, d2, q1⟩ := take_ok h (by omega) (u := most - low + 1) (by omega) (by omega)
  obtain ⟨xs, m2, t2, x1, x2, x3, q2⟩ := names_okI q1 (k := low + d) (by omega) (by omega) (by omega)
  have n1 := q1.nfz
  have dr := hl.r
  have dp := hl.p
  have plx : ps.length ≤ 100000 := by omega
  have hL : pLcL (bName 14) qYes (p2 ixD (pVar 14) (pK (.int 0))) [some m, some ld, some (.int low), some (.int most), none, none, none, none, none, none, none, none, none, none, none, none, none] (ps.map plateD) = some (strsD (ps.map (·.name))) := by
    rw [← strsD_map]
    exact pLcL_map fun k hk => ⟨[some m, some ld, some (.int low), some (.int most), none, none, none, none, none, none, none, none, none, none, some (plateD k), none, none], by simp, by simp, by simp [plateD]⟩
  have s0 : sPar [4, 5, 6] (aE (sU (pLst vNil)) (aE (sU (pFz (pDG (pVar 1) (pK (.str "rooms"))))) (aE (sU (pLc [14] (iP (pDG (pVar 1) (pK (.str "plates")))) (bName 14) qYes (p2 ixD (pVar 14) (pK (.int 0))))) aNil))) [some m, some ld, some (.int low), some (.int most), none, none, none, none, none, none, none, none, none, none, none, none, none] =
      some (.nx, [some m, some ld, some (.int low), some (.int most), some (.lst true []), some (.lst false (strsD rooms)), some (.lst true (strsD (ps.map (·.name)))), none, none, none, none, none, none, none, none, none, none]) := by
    simp [dr, dp, hL, plx]
  have it : iC1 enumD (sCallA F_names (aN 0 (aE (s2N addD 2 (sCallA F_take (aN 0 (aE (sU (p2 addD (p2 subD (pVar 3) (pVar 2)) (pK (.int 1)))) aNil)))) aNil))) [some m, some ld, some (.int low), some (.int most), some (.lst true []), some (.lst false (strsD rooms)), some (.lst true (strsD (ps.map (·.name)))), none, none, none, none, none, none, none, none, none, none] =
      some (.ok (enumL 0 (strsD xs)), [some m2, some ld, some (.int low), some (.int most), some (.lst true []), some (.lst false (strsD rooms)), some (.lst true (strsD (ps.map (·.name)))), none, none, none, none, none, none, none, none, none, none]) := by
    have c1 : sCallA F_take (aN 0 (aE (sU (p2 addD (p2 subD (pVar 3) (pVar 2)) (pK (.int 1)))) aNil)) [some m, some ld, some (.int low), some (.int most), some (.lst true []), some (.lst false (strsD rooms)), some (.lst true (strsD (ps.map (·.name)))), none, none, none, none, none, none, none, none, none, none] = some (.ok (.int d), [some m1, some ld, some (.int low), some (.int most), some (.lst true []), some (.lst false (strsD rooms)), some (.lst true (strsD (ps.map (·.name)))), none, none, none, none, none, none, none, none, none, none]) := by
      simp [t1, nf]
    have c2 : s2N addD 2 (sCallA F_take (aN 0 (aE (sU (p2 addD (p2 subD (pVar 3) (pVar 2)) (pK (.int 1)))) aNil))) [some m, some ld, some (.int low), some (.int most), some (.lst true []), some (.lst false (strsD rooms)), some (.lst true (strsD (ps.map (·.name)))), none, none, none, none, none, none, none, none, none, none] = some (.ok (.int (low + d)), [some m1, some ld, some (.int low), some (.int most), some (.lst true []), some (.lst false (strsD rooms)), some (.lst true (strsD (ps.map (·.name)))), none, none, none, none, none, none, none, none, none, none]) := by
      rw [s2N_ap, sBind_ap, c1]
      simp
    have c3 : sCallA F_names (aN 0 (aE (s2N addD 2 (sCallA F_take (aN 0 (aE (sU (p2 addD (p2 subD (pVar 3) (pVar 2)) (pK (.int 1)))) aNil)))) aNil)) [some m, some ld, some (.int low), some (.int most), some (.lst true []), some (.lst false (strsD rooms)), some (.lst true (strsD (ps.map (·.name)))), none, none, none, none, none, none, none, none, none, none] = some (.ok (.lst true (strsD xs)), [some m2, some ld, some (.int low), some (.int most), some (.lst true []), some (.lst false (strsD rooms)), some (.lst true (strsD (ps.map (·.name)))), none, none, none, none, none, none, none, none, none, none]) := by
      rw [sCallA_ap, aN_ap, aE_ap, c2]
      simp [t2, n1]
    rw [iC1_ap, c3]
    simp [enum_strs]
  obtain ⟨e', lp, m', gs, y7, y8, y9, y10, y11, y12, y13, he, pp, pn, pk⟩ := loopS_inv (b := bQ) (body := bodyQ) (fun j env => ∃ (m' : D) (gs : List Gate) (y7 y8 y9 y10 y11 y12 y13 : Option D), env = [some m', some ld, some (.int low), some (.int most), some (.lst true (gs.map gateD)), some (.lst false (strsD rooms)), some (.lst true (strsD (ps.map (·.name)))), y7, y8, y9, y10, y11, y12, y13, none, none, none] ∧ Pot (n + 1 + (low + d) + 6 * j) m' ∧ gs.map (·.name) = xs.take j ∧ ∀ g ∈ gs, GateOk rooms (kinds.map (·.1)) (ps.map (·.name)) g) (enumL 0 (strsD xs))
    (fun j x env hx ⟨m', gs, y7, y8, y9, y10, y11, y12, y13, he, pp, pn, pk⟩ => by
      rw [show enumL 0 (strsD xs) = (xs.zipIdx 0).map fun p => .tup [.int (p.2 : Nat), .str p.1] from enumL_map D.str 0 xs, List.getElem?_map, List.getElem?_zipIdx, Nat.zero_add] at hx
      cases q : xs[j]? with
      | none => rw [q] at hx; cases hx
      | some nm =>
        rw [q] at hx
        cases hx
        have jl := (List.getElem?_eq_some_iff.mp q).1
        have gl : gs.length ≤ 1000 := by
          have := congrArg List.length pn
          rw [List.length_map, List.length_take] at this
          omega
        obtain ⟨g, m3, z9, z10, z11, z12, z13, b, b1, b2, b3⟩ := bodyQ_ok (e2 := some (.int low)) (e3 := some (.int most)) (e9 := y9) (e10 := y10) (e11 := y11) (e12 := y12) (e13 := y13) pp (by omega) hl.toLdK hr hr2 nd rn hk (pn := ps.map (·.name)) (by rw [List.length_map]; omega) pnd gl (x3 nm (List.mem_of_getElem? q)) j
        refine ⟨[some m', some ld, some (.int low), some (.int most), some (.lst true (gs.map gateD)), some (.lst false (strsD rooms)), some (.lst true (strsD (ps.map (·.name)))), some (.int j), some (.str nm), y9, y10, y11, y12, y13, none, none, none], _, by rw [he]; simp [bQ], b, m3, gs ++ [g], some (.int j), some (.str nm), z9, z10, z11, z12, z13, rfl, b3.mono (by omega), ?_, ?_⟩
        · rw [List.map_append, pn, List.take_add_one, q, ← b1]; rfl
        · intro p' hp'
          rcases List.mem_append.mp hp' with z | z
          · exact pk p' z
          · rw [List.mem_singleton.mp z]; exact b2)
    [some m2, some ld, some (.int low), some (.int most), some (.lst true []), some (.lst false (strsD rooms)), some (.lst true (strsD (ps.map (·.name)))), none, none, none, none, none, none, none, none, none, none] ⟨m2, [], none, none, none, none, none, none, none, rfl, q2.mono (by omega), rfl, fun _ z => nomatch z⟩
  have el : (enumL 0 (strsD xs)).length = xs.length := by
    rw [show enumL 0 (strsD xs) = (xs.zipIdx 0).map fun p => .tup [.int (p.2 : Nat), .str p.1] from enumL_map D.str 0 xs, List.length_map, List.length_zipIdx]
  rw [el] at pp pn
  rw [List.take_length] at pn
  rw [he] at lp
  have s3 : sMove 4 [some m', some ld, some (.int low), some (.int most), some (.lst true (gs.map gateD)), some (.lst false (strsD rooms)), some (.lst true (strsD (ps.map (·.name)))), y7, y8, y9, y10, y11, y12, y13, none, none, none] = some (.ok (.lst true (gs.map gateD)), [some m', some ld, some (.int low), some (.int most), none, some (.lst false (strsD rooms)), some (.lst true (strsD (ps.map (·.name)))), y7, y8, y9, y10, y11, y12, y13, none, none, none]) := by simp
  have p6 : b_gates ([m, ld, .int low, .int most].map some ++ List.replicate (17 - 4) none) = some (.rt (.lst true (gs.map gateD)), [some m', some ld, some (.int low), some (.int most), none, some (.lst false (strsD rooms)), some (.lst true (strsD (ps.map (·.name)))), y7, y8, y9, y10, y11, y12, y13, none, none, none]) := (sSeq_nx s0).trans ((sSeq_nx (sFor_val it lp)).trans (sRet_val s3))
  have gl := congrArg List.length pn
  rw [List.length_map] at gl
  exact ⟨gs, m', fnS_rt (n := 17) (np := 4) (kp := kpL [0, 1, 2, 3]) rfl p6, by omega, by omega, by rw [pn]; exact x2, pk, pp.mono (by omega)⟩
end
end Q

set_option Elab.async false
set_option linter.all false
set_option maxRecDepth 100000
set_option maxHeartbeats 4000000
namespace Q
open PySem PySem.Spec PyProof.Rows L2 T

def ld1 (rooms : List Str) : D := .dct true [(.str "rooms", .lst false (strsD rooms))]
def ld2 (rooms : List Str) (kinds : List (Str × Str)) : D := .dct true [(.str "rooms", .lst false (strsD rooms)), (.str "kinds", .lst false (kinds.map kindD))]
def ld3 (rooms : List Str) (kinds : List (Str × Str)) (ps : List Plate) : D := .dct true [(.str "rooms", .lst false (strsD rooms)), (.str "kinds", .lst false (kinds.map kindD)), (.str "plates", .lst false (ps.map plateD))]
def loreD (L : Lore) : D := .dct true [(.str "rooms", .lst false (strsD L.rooms)), (.str "kinds", .lst false (L.kinds.map kindD)), (.str "plates", .lst false (L.plates.map plateD)), (.str "gates", .lst false (L.gates.map gateD))]
theorem look_of (l : List (Str × D)) (b : Str) (hl : l ≠ []) {r : Option D} (h : (l.find? fun x => decide (x.1 = b)).map (·.2) = r) : dLk (l.map fun x => (D.str x.1, x.2)) (.str b) = some r := by
  rw [dLk_map keyStr (fun x : Str × D => x.1) (fun x => x.2) b hl, h]
theorem put_of (l : List (Str × D)) (b : Str) (m : D) (hb : ∀ x ∈ l, x.1 ≠ b) (hl : l.length ≤ 1000) : dPutN (l.map fun x => (D.str x.1, x.2)) (.str b) m = some (l.map (fun x => (D.str x.1, x.2)) ++ [(D.str b, m)]) := dPutN_map keyStr (fun x : Str × D => x.1) (fun x => x.2) b m hb (by omega)
theorem lk1 (a : D) : dLk [(D.str "rooms", a)] (.str "rooms") = some (some a) := look_of [("rooms", a)] "rooms" (by simp) (by simp)
theorem lk2r (a b : D) : dLk [(D.str "rooms", a), (.str "kinds", b)] (.str "rooms") = some (some a) := look_of [("rooms", a), ("kinds", b)] "rooms" (by simp) (by simp)
theorem lk2k (a b : D) : dLk [(D.str "rooms", a), (.str "kinds", b)] (.str "kinds") = some (some b) := look_of [("rooms", a), ("kinds", b)] "kinds" (by simp) (by simp)
theorem lk3r (a b c : D) : dLk [(D.str "rooms", a), (.str "kinds", b), (.str "plates", c)] (.str "rooms") = some (some a) := look_of [("rooms", a), ("kinds", b), ("plates", c)] "rooms" (by simp) (by simp)
theorem lk3k (a b c : D) : dLk [(D.str "rooms", a), (.str "kinds", b), (.str "plates", c)] (.str "kinds") = some (some b) := look_of [("rooms", a), ("kinds", b), ("plates", c)] "kinds" (by simp) (by simp)
theorem lk3p (a b c : D) : dLk [(D.str "rooms", a), (.str "kinds", b), (.str "plates", c)] (.str "plates") = some (some c) := look_of [("rooms", a), ("kinds", b), ("plates", c)] "plates" (by simp) (by simp)
theorem lk4r (a b c d : D) : dLk [(D.str "rooms", a), (.str "kinds", b), (.str "plates", c), (.str "gates", d)] (.str "rooms") = some (some a) := look_of [("rooms", a), ("kinds", b), ("plates", c), ("gates", d)] "rooms" (by simp) (by simp)
theorem lk4k (a b c d : D) : dLk [(D.str "rooms", a), (.str "kinds", b), (.str "plates", c), (.str "gates", d)] (.str "kinds") = some (some b) := look_of [("rooms", a), ("kinds", b), ("plates", c), ("gates", d)] "kinds" (by simp) (by simp)
theorem lk4p (a b c d : D) : dLk [(D.str "rooms", a), (.str "kinds", b), (.str "plates", c), (.str "gates", d)] (.str "plates") = some (some c) := look_of [("rooms", a), ("kinds", b), ("plates", c), ("gates", d)] "plates" (by simp) (by simp)
theorem lk4g (a b c d : D) : dLk [(D.str "rooms", a), (.str "kinds", b), (.str "plates", c), (.str "gates", d)] (.str "gates") = some (some d) := look_of [("rooms", a), ("kinds", b), ("plates", c), ("gates", d)] "gates" (by simp) (by simp)
theorem pt1 (a b : D) : dPutN [(D.str "rooms", a)] (.str "kinds") b = some [(D.str "rooms", a), (.str "kinds", b)] := put_of [("rooms", a)] "kinds" b (by simp) (by simp)
theorem pt2 (a b c : D) : dPutN [(D.str "rooms", a), (.str "kinds", b)] (.str "plates") c = some [(D.str "rooms", a), (.str "kinds", b), (.str "plates", c)] := put_of [("rooms", a), ("kinds", b)] "plates" c (by simp) (by simp)
theorem pt3 (a b c d : D) : dPutN [(D.str "rooms", a), (.str "kinds", b), (.str "plates", c)] (.str "gates") d = some [(D.str "rooms", a), (.str "kinds", b), (.str "plates", c), (.str "gates", d)] := put_of [("rooms", a), ("kinds", b), ("plates", c)] "gates" d (by simp) (by simp)
theorem ldk2 (rooms : List Str) (kinds : List (Str × Str)) : LdK (ld2 rooms kinds) rooms kinds := ⟨rfl, by rw [ld2, dLook_1, lk2r], by rw [ld2, dLook_1, lk2k]⟩
theorem ldp3 (rooms : List Str) (kinds : List (Str × Str)) (ps : List Plate) : LdP (ld3 rooms kinds ps) rooms kinds ps := { nf := rfl, r := by rw [ld3, dLook_1, lk3r], k := by rw [ld3, dLook_1, lk3k], p := by rw [ld3, dLook_1, lk3p] }
theorem cut1 (l : List Str) : T.cutD (strsD l) none (some 1) = strsD (l.take 1) := by
  cases l with
  | nil => rfl
  | cons a r =>
    simp [T.cutD, HT.sIx]
    try omega
abbrev kEl : SE := sTup (aE (sU (pFz (pVar 5))) (aE (sCallA F_of (aN 0 (aE (sU (p2 addD (p2 mulD (pSl (pDG (pVar 3) (pK (.str "rooms"))) none (some (pK (.int 1)))) (pK (.int 3))) (pDG (pVar 3) (pK (.str "rooms"))))) aNil))) aNil))
def thrice (rooms : List Str) : List Str := (List.replicate 3 (rooms.take 1)).flatten
def twelve (rooms : List Str) : List Str := thrice rooms ++ rooms
theorem kEl_ok {n : Int} {m : D} {rooms : List Str} {nm : Str} {e1 e2 e4 : Option D} (h : Pot n m) (hn : n ≤ 900000) (hr : rooms ≠ []) (hr2 : rooms.length ≤ 5) :
    ∃ (r : Str) (m1 : D), kEl [some m, e1, e2, some (ld1 rooms), e4, some (.str nm)] = some (.ok (kindD (nm, r)), [some m1, e1, e2, some (ld1 rooms), e4, some (.str nm)]) ∧ r ∈ rooms ∧ Pot (n + 1) m1 := by
  have l1 : (rooms.take 1).length ≤ 1 := by rw [List.length_take]; omega
  have l2 : (twelve rooms).length ≤ 1000 := by simp [twelve, thrice]; omega
  have ml : mulD (.lst true (strsD (rooms.take 1))) (.int 3) = some (.lst true (strsD (thrice rooms))) := by
    unfold thrice
    have e : (List.replicate 3 (strsD (rooms.take 1))).flatten = strsD ((List.replicate 3 (rooms.take 1)).flatten) := by simp [strsD, List.replicate]
    have c : -(2 ^ 63) ≤ (3 : Int) ∧ (3 : Int) < 2 ^ 63 ∧ (strsD (rooms.take 1)).length * (3 : Int).toNat ≤ sizeLine := ⟨by decide, by decide, by rw [T.len_strs, szl]; show (rooms.take 1).length * 3 ≤ _; omega⟩
    show (if -(2 ^ 63) ≤ (3 : Int) ∧ (3 : Int) < 2 ^ 63 ∧ (strsD (rooms.take 1)).length * (3 : Int).toNat ≤ sizeLine then (if fzs (strsD (rooms.take 1)) then some (D.lst true (List.replicate (3 : Int).toNat (strsD (rooms.take 1))).flatten) else none) else none) = _
    rw [if_pos c, if_pos (T.fzs_strs _), ← e]
    rfl
  have ad : addD (.lst true (strsD (thrice rooms))) (.lst false (strsD rooms)) = some (.lst true (strsD (twelve rooms))) := by
    have l3 : (strsD (thrice rooms)).length + (strsD rooms).length ≤ sizeLine := by
      rw [T.len_strs, T.len_strs, szl]
      unfold twelve at l2
      rw [List.length_append] at l2
      omega
    rw [addD_3, if_pos l3]
    simp only [T.fzs_strs, Bool.and_self, if_true]
    unfold twelve strsD
    rw [List.map_append]
  obtain ⟨y, m2, o2, yin, q2⟩ := of_ok (o := true) h (by omega) (ms := strsD (twelve rooms)) (by simp) (by intro z; have := List.map_eq_nil_iff.mp z; unfold twelve at this; exact hr (List.append_eq_nil_iff.mp this).2) (by rw [T.len_strs]; exact l2)
  obtain ⟨r, rin, rfl⟩ := List.mem_map.mp yin
  have rr : r ∈ rooms := by
    unfold twelve at rin
    rcases List.mem_append.mp rin with z | z
    · unfold thrice at z
      obtain ⟨l, hl, hz⟩ := List.mem_flatten.mp z
      rw [(List.mem_replicate.mp hl).2] at hz
      exact List.mem_of_mem_take hz
    · exact z
  have nf := h.nfz
  have lk := lk1 (.lst false (strsD rooms))
  have g1 : p2 addD (p2 mulD (pSl (pDG (pVar 3) (pK (.str "rooms"))) none (some (pK (.int 1)))) (pK (.int 3))) (pDG (pVar 3) (pK (.str "rooms"))) [some m, e1, e2, some (ld1 rooms), e4, some (.str nm)] = some (.lst true (strsD (twelve rooms))) := by
    rw [p2_ap, p2_ap]
    simp only [ld1]
    simp only [pSl_ap, pDG_ap, pVar_ap, pK_ap, List.getElem?_cons_succ, List.getElem?_cons_zero, dLook_1, lk, oPart_0, oPart_1, slD_1, T.fzs_strs, if_true, cut1, ml, ad]
  have g2 : sCallA F_of (aN 0 (aE (sU (p2 addD (p2 mulD (pSl (pDG (pVar 3) (pK (.str "rooms"))) none (some (pK (.int 1)))) (pK (.int 3))) (pDG (pVar 3) (pK (.str "rooms"))))) aNil)) [some m, e1, e2, some (ld1 rooms), e4, some (.str nm)] = some (.ok (.str r), [some m2, e1, e2, some (ld1 rooms), e4, some (.str nm)]) := by
    rw [sCallA_ap, aN_ap, aE_ap, sU_ap, g1]
    simp [o2, nf]
  refine ⟨r, m2, ?_, rr, q2⟩
  have g3 : aE (sCallA F_of (aN 0 (aE (sU (p2 addD (p2 mulD (pSl (pDG (pVar 3) (pK (.str "rooms"))) none (some (pK (.int 1)))) (pK (.int 3))) (pDG (pVar 3) (pK (.str "rooms"))))) aNil))) aNil [some m, e1, e2, some (ld1 rooms), e4, some (.str nm)] = some (.ok [.val (.str r)], [some m2, e1, e2, some (ld1 rooms), e4, some (.str nm)]) := by
    rw [aE_ap, g2]
    simp
  have g4 : sU (pFz (pVar 5)) [some m, e1, e2, some (ld1 rooms), e4, some (.str nm)] = some (.ok (.str nm), [some m, e1, e2, some (ld1 rooms), e4, some (.str nm)]) := by simp
  rw [kEl, sTup, sDisp_ap, aE_ap, g4]
  simp only [g3, valsA_1, valsA_0]
  simp [kindD]
theorem kinds_draw {n : Int} {m : D} {rooms : List Str} {k : Int} {e1 e2 : Option D} (h : Pot n m) (hn : n ≤ 800000) (hr : rooms ≠ []) (hr2 : rooms.length ≤ 5) (k0 : 0 ≤ k) (k1 : k ≤ 2) :
    ∃ (ks : List (Str × Str)) (m1 : D), sLc [5] (iE (sCallA F_names (aN 0 (aN 4 aNil)))) (bName 5) eYes kEl [some m, e1, e2, some (ld1 rooms), some (.int k), none] = some (.ok (.lst true (ks.map kindD)), [some m1, e1, e2, some (ld1 rooms), some (.int k), none]) ∧ (ks.length : Int) = k ∧ (ks.map (·.1)).Nodup ∧ (∀ q ∈ ks, IsNm q.1 ∧ q.2 ∈ rooms) ∧ Pot (n + 6) m1 := by
  obtain ⟨xs, m2, t2, x1, x2, x3, q2⟩ := names_okI h (k := k) (by omega) (by omega) (by omega)
  have nf := h.nfz
  have it : iE (sCallA F_names (aN 0 (aN 4 aNil))) [some m, e1, e2, some (ld1 rooms), some (.int k), none] = some (.ok (strsD xs), [some m2, e1, e2, some (ld1 rooms), some (.int k), none]) := by
    simp [t2, nf]
  obtain ⟨acc, e', lp, m', ks, he, ha, kn, kk, pp⟩ := lcLoop_inv (own := [5]) (b := bName 5) (t := eYes) (el := kEl) (fun j acc env => ∃ (m' : D) (ks : List (Str × Str)), env = [some m', e1, e2, some (ld1 rooms), some (.int k), none] ∧ acc = ks.map kindD ∧ ks.map (·.1) = xs.take j ∧ (∀ q ∈ ks, IsNm q.1 ∧ q.2 ∈ rooms) ∧ Pot (n + k + j) m') (strsD xs)
    (fun j x acc env hx ⟨m', ks, he, ha, kn, kk, pp⟩ => by
      rw [show strsD xs = xs.map D.str from rfl, List.getElem?_map] at hx
      cases q : xs[j]? with
      | none => rw [q] at hx; cases hx
      | some nm =>
        rw [q] at hx
        cases hx
        have jl := (List.getElem?_eq_some_iff.mp q).1
        obtain ⟨r, m3, b, b1, b2⟩ := kEl_ok (nm := nm) (e1 := e1) (e2 := e2) (e4 := some (.int k)) pp (by omega) hr hr2
        refine ⟨[some m', e1, e2, some (ld1 rooms), some (.int k), some (.str nm)], [some m', e1, e2, some (ld1 rooms), some (.int k), some (.str nm)], kindD (nm, r), [some m3, e1, e2, some (ld1 rooms), some (.int k), some (.str nm)], by rw [he]; simp, by simp, b, m3, ks ++ [(nm, r)], by simp, by rw [ha, List.map_append]; rfl, ?_, ?_, b2.mono (by omega)⟩
        · rw [List.map_append, kn, List.take_add_one, q]; rfl
        · intro p' hp'
          rcases List.mem_append.mp hp' with z | z
          · exact kk p' z
          · rw [List.mem_singleton.mp z]; exact ⟨x3 nm (List.mem_of_getElem? q), b1⟩)
    [] [some m2, e1, e2, some (ld1 rooms), some (.int k), none] ⟨m2, [], rfl, rfl, rfl, (fun _ z => nomatch z), q2.mono (by omega)⟩
  rw [T.len_strs] at kn pp
  rw [List.take_length] at kn
  have kl := congrArg List.length kn
  rw [List.length_map] at kl
  rw [he, ha] at lp
  have xl : xs.length ≤ 100000 := by omega
  refine ⟨ks, m', ?_, by omega, by rw [kn]; exact x2, kk, pp.mono (by omega)⟩
  rw [sLc_ap, it]
  simp [xl, lp]
end Q

set_option Elab.async false
set_option linter.all false
set_option maxRecDepth 100000
set_option maxHeartbeats 4000000
namespace Q
open PySem PySem.Spec PyProof.Rows L2 T

theorem lore_s1 {n : Int} {m : D} {R : Int} {e2 : Option D} (h : Pot n m) (hn : n ≤ 800000) (r1 : 2 ≤ R) (r2 : R ≤ 5) :
    ∃ (rooms : List Str) (m1 : D), sSet 3 (sDisp1 "rooms" (sFrA (sCallA F_names (aN 0 (aE (s2 addD (sU (pK (.int 2))) (sCallA F_take (aN 0 (aE (sU (p2 subD (pVar 1) (pK (.int 1)))) aNil)))) aNil))))) [some m, some (.int R), e2, none, none, none] = some (.nx, [some m1, some (.int R), e2, some (ld1 rooms), none, none]) ∧ 2 ≤ rooms.length ∧ rooms.length ≤ 5 ∧ (rooms.length : Int) ≤ R ∧ rooms.Nodup ∧ (∀ r ∈ rooms, IsNm r) ∧ Pot (n + 10) m1 := by
  have nf := h.nfz
  obtain ⟨d, m1, t1, d1, d2, q1⟩ := take_ok h (by omega) (u := R - 1) (by omega) (by omega)
  obtain ⟨xs, m2, t2, x1, x2, x3, q2⟩ := names_okI q1 (k := 2 + d) (by omega) (by omega) (by omega)
  have n1 := q1.nfz
  have c1 : sCallA F_take (aN 0 (aE (sU (p2 subD (pVar 1) (pK (.int 1)))) aNil)) [some m, some (.int R), e2, none, none, none] = some (.ok (.int d), [some m1, some (.int R), e2, none, none, none]) := by
    simp [t1, nf]
  have c2 : s2 addD (sU (pK (.int 2))) (sCallA F_take (aN 0 (aE (sU (p2 subD (pVar 1) (pK (.int 1)))) aNil))) [some m, some (.int R), e2, none, none, none] = some (.ok (.int (2 + d)), [some m1, some (.int R), e2, none, none, none]) := by
    rw [s2_ap, sU_ap, pK_ap]
    simp only [Option.map_some, c1]
    simp
  have c3 : sCallA F_names (aN 0 (aE (s2 addD (sU (pK (.int 2))) (sCallA F_take (aN 0 (aE (sU (p2 subD (pVar 1) (pK (.int 1)))) aNil)))) aNil)) [some m, some (.int R), e2, none, none, none] = some (.ok (.lst true (strsD xs)), [some m2, some (.int R), e2, none, none, none]) := by
    rw [sCallA_ap, aN_ap, aE_ap, c2]
    simp [t2, n1]
  refine ⟨xs, m2, ?_, by omega, by omega, by omega, x2, x3, q2.mono (by omega)⟩
  rw [sSet_ap, sDisp1_ap, sFrA_ap, c3]
  simp [ld1]
theorem lore_s2 {n : Int} {m : D} {rooms : List Str} {K : Int} {e1 : Option D} (h : Pot n m) (hn : n ≤ 800000) (k1 : 1 ≤ K) (k2 : K ≤ 2) :
    ∃ (mk : Int) (m1 : D), sSet 4 (sIfE (qU (qB (p2 (cmpD fun i j => decide (i < j)) (pC lenD (vCons (pDG (pVar 3) (pK (.str "rooms"))) vNil)) (pK (.int 5))))) (s2 addD (sU (pK (.int 1))) (sCallA F_take (aN 0 (aN 2 aNil)))) (sU (pK (.int 1)))) [some m, e1, some (.int K), some (ld1 rooms), none, none] = some (.nx, [some m1, e1, some (.int K), some (ld1 rooms), some (.int mk), none]) ∧ 1 ≤ mk ∧ mk ≤ 2 ∧ (mk ≤ if rooms.length < 5 then 2 else 1) ∧ Pot (n + 1) m1 := by
  have nf := h.nfz
  have lk := lk1 (.lst false (strsD rooms))
  by_cases c : rooms.length < 5
  · have c' : (rooms.length : Int) < 5 := by omega
    obtain ⟨d, m1, t1, d1, d2, q1⟩ := take_ok h (by omega) (u := K) (by omega) (by omega)
    refine ⟨1 + d, m1, ?_, by omega, by omega, by rw [if_pos c]; omega, q1⟩
    simp only [ld1]
    simp [lk, c', t1, nf]
  · have c' : ¬ (rooms.length : Int) < 5 := by omega
    refine ⟨1, m, ?_, by omega, by omega, by rw [if_neg c]; omega, h.mono (by omega)⟩
    simp only [ld1]
    simp [lk, c']
theorem lore_draw {n : Int} {m : D} {R K : Int} (h : Pot n m) (hn : n ≤ 600000) (r1 : 2 ≤ R) (r2 : R ≤ 5) (k1 : 1 ≤ K) (k2 : K ≤ 2) :
    ∃ (L : Lore) (m' : D), F_lore [m, .int R, .int K] = some (.ok (loreD L), [some m', some (.int R), some (.int K)]) ∧ LoreOk L ∧ Pot (n + 200) m' := by
  obtain ⟨rooms, m1, a1, a2, a3, a4, a5, a6, q1⟩ := lore_s1 (e2 := some (.int K)) h (by omega) r1 r2
  obtain ⟨mk, m2, b1, b2, b3, b4, q2⟩ := lore_s2 (rooms := rooms) (e1 := some (.int R)) q1 (by omega) k1 k2
  have rne : rooms ≠ [] := fun e => by rw [e] at a2; simp at a2
  obtain ⟨ks, m3, c1, c2, c3, c4, q3⟩ := kinds_draw (rooms := rooms) (k := mk) (e1 := some (.int R)) (e2 := some (.int K)) q2 (by omega) rne a3 (by omega) (by omega)
  obtain ⟨ps, m4, d1, d2, d3, d4, q4⟩ := plates_draw (k := 3) q3 (by omega) (ldk2 rooms ks) rne a3 (by omega) (by omega) (by omega)
  obtain ⟨gs, m5, f1, f2, f3, f4, f5, q5⟩ := gates_draw (low := rooms.length - 1) (most := 6) q4 (by omega) (ldp3 rooms ks ps) a2 a3 a5 a6 (by omega) (by omega) d3 (by omega) (by omega) (by omega)
  have n2 := q2.nfz
  have n3 := q3.nfz
  have n4 := q4.nfz
  have s3 : sPut 3 (sFrA (sLc [5] (iE (sCallA F_names (aN 0 (aN 4 aNil)))) (bName 5) eYes kEl)) (pK (.str "kinds")) [some m2, some (.int R), some (.int K), some (ld1 rooms), some (.int mk), none] = some (.nx, [some m3, some (.int R), some (.int K), some (ld2 rooms ks), some (.int mk), none]) := by
    rw [sPut_ap, sFrA_ap, c1]
    simp [ld1, ld2, pt1]
  have s4 : sPut 3 (sFrA (sCallA F_plates (aN 0 (aN 3 (aE (sU (pK (.int 3))) aNil))))) (pK (.str "plates")) [some m3, some (.int R), some (.int K), some (ld2 rooms ks), some (.int mk), none] = some (.nx, [some m4, some (.int R), some (.int K), some (ld3 rooms ks ps), some (.int mk), none]) := by
    have z : fz (ld2 rooms ks) = false := rfl
    have e : sCallA F_plates (aN 0 (aN 3 (aE (sU (pK (.int 3))) aNil))) [some m3, some (.int R), some (.int K), some (ld2 rooms ks), some (.int mk), none] = some (.ok (.lst true (ps.map plateD)), [some m4, some (.int R), some (.int K), some (ld2 rooms ks), some (.int mk), none]) := by
      simp [d1, n3, z]
    rw [sPut_ap, sFrA_ap, e]
    simp [ld2, ld3, pt2]
  have s5 : sPut 3 (sFrA (sCallA F_gates (aN 0 (aN 3 (aE (sU (p2 subD (pC lenD (vCons (pDG (pVar 3) (pK (.str "rooms"))) vNil)) (pK (.int 1)))) (aE (sU (pK (.int 6))) aNil)))))) (pK (.str "gates")) [some m4, some (.int R), some (.int K), some (ld3 rooms ks ps), some (.int mk), none] = some (.nx, [some m5, some (.int R), some (.int K), some (loreD ⟨rooms, ks, ps, gs⟩), some (.int mk), none]) := by
    have z : fz (ld3 rooms ks ps) = false := rfl
    have lk : dLook (ld3 rooms ks ps) (.str "rooms") = some (some (.lst false (strsD rooms))) := (ldp3 rooms ks ps).r
    have e : sCallA F_gates (aN 0 (aN 3 (aE (sU (p2 subD (pC lenD (vCons (pDG (pVar 3) (pK (.str "rooms"))) vNil)) (pK (.int 1)))) (aE (sU (pK (.int 6))) aNil)))) [some m4, some (.int R), some (.int K), some (ld3 rooms ks ps), some (.int mk), none] = some (.ok (.lst true (gs.map gateD)), [some m5, some (.int R), some (.int K), some (ld3 rooms ks ps), some (.int mk), none]) := by
      simp [f1, n4, z, lk]
    rw [sPut_ap, sFrA_ap, e]
    simp [ld3, loreD, pt3]
  have s6 : sMove 3 [some m5, some (.int R), some (.int K), some (loreD ⟨rooms, ks, ps, gs⟩), some (.int mk), none] = some (.ok (loreD ⟨rooms, ks, ps, gs⟩), [some m5, some (.int R), some (.int K), none, some (.int mk), none]) := by simp
  have p6 : b_lore ([m, .int R, .int K].map some ++ List.replicate (6 - 3) none) = some (.rt (loreD ⟨rooms, ks, ps, gs⟩), [some m5, some (.int R), some (.int K), none, some (.int mk), none]) := (sSeq_nx a1).trans ((sSeq_nx b1).trans ((sSeq_nx s3).trans ((sSeq_nx s4).trans ((sSeq_nx s5).trans (sRet_val s6)))))
  refine ⟨⟨rooms, ks, ps, gs⟩, m5, fnS_rt (n := 6) (np := 3) (kp := kpL [0, 1, 2]) rfl p6, ⟨a2, a3, a6, a5, ?_, ?_, c4, c3, ?_, d4, d3, ?_, ?_, f5, f4⟩, q5.mono (by omega)⟩
  · intro e
    have e : ks = [] := e
    rw [e] at c2
    simp at c2
    omega
  · show ks.length ≤ if rooms.length < 5 then 2 else 1
    split at b4 <;> rename_i q <;> simp only [q, if_true, if_false] <;> omega
  · show ps.length ≤ 4
    omega
  · intro e
    have e : gs = [] := e
    rw [e] at f2
    simp at f2
    omega
  · show gs.length ≤ 8
    omega
end Q

set_option Elab.async false
set_option linter.all false
set_option maxRecDepth 100000
set_option maxHeartbeats 4000000
namespace Q
open PySem PySem.Spec PyProof.Rows L2 T

/-! ### the text of a level -/
theorem addS {a b : Str} (h : a.length + b.length ≤ 1000) : addD (.str a) (.str b) = some (.str (a ++ b)) := by
  rw [addD_2, if_pos (by rw [szl]; omega)]
theorem ln_0 : (("" : Str)).length = 0 := by decide +kernel
theorem ln_1 : ((" " : Str)).length = 1 := by decide +kernel
theorem ln_2 : (("room " : Str)).length = 5 := by decide +kernel
theorem ln_3 : (("kind " : Str)).length = 5 := by decide +kernel
theorem ln_4 : (("plate " : Str)).length = 6 := by decide +kernel
theorem ln_5 : (("gate " : Str)).length = 5 := by decide +kernel
theorem ln_6 : ((" for " : Str)).length = 5 := by decide +kernel
theorem ln_7 : ((" while " : Str)).length = 7 := by decide +kernel
theorem strD_num {i : Int} (h : 1 ≤ i) (k : i ≤ 3) : strD [.int i] = some (.str (numS i)) := by
  have e : i = 1 ∨ i = 2 ∨ i = 3 := by omega
  have c : i.natAbs.log2 < 1920 := by rcases e with rfl | rfl | rfl <;> decide
  show (if i.natAbs.log2 < 1920 then some (D.str (toString i)) else none) = _
  rw [if_pos c]
theorem numS_len {i : Int} (h : 1 ≤ i) (k : i ≤ 3) : (numS i).length ≤ 17 := (wd_num h k).le
theorem room_ln {e0 e1 e2 e4 e5 e6 e7 e8 e9 : Option D} {r : Str} (h : IsNm r) : p2 addD (pK (.str "room ")) (pVar 3) [e0, e1, e2, some (.str r), e4, e5, e6, e7, e8, e9] = some (.str (roomL r)) := by
  have a := h.hi
  rw [p2_ap, pK_ap, pVar_ap]
  exact addS (by rw [ln_2]; omega)
theorem kind_ln {e0 e1 e4 e5 e6 e7 e8 e9 : Option D} {k : Str × Str} (h : IsNm k.1) (h2 : IsNm k.2) : p2 addD (p2 addD (p2 addD (pK (.str "kind ")) (pVar 2)) (pK (.str " "))) (pVar 3) [e0, e1, some (.str k.1), some (.str k.2), e4, e5, e6, e7, e8, e9] = some (.str (kindL k)) := by
  have a := h.hi
  have b := h2.hi
  simp only [p2_ap, pK_ap, pVar_ap, List.getElem?_cons_succ, List.getElem?_cons_zero]
  rw [addS (by rw [ln_3]; omega)]
  simp only []
  rw [addS (by rw [sap_len, ln_3, ln_1]; omega)]
  simp only []
  rw [addS (by rw [sap_len, sap_len, ln_3, ln_1]; omega)]
  rfl
theorem plate_ln {e0 e1 e6 e7 e8 e9 : Option D} {p : Plate} (h : IsNm p.name) (h2 : IsNm p.room) (a : 1 ≤ p.num) (b : p.num ≤ 3) (c : ∀ k, p.kind = some k → IsNm k) :
    p2 addD (p2 addD (p2 addD (p2 addD (p2 addD (p2 addD (pK (.str "plate ")) (pVar 2)) (pK (.str " "))) (pVar 3)) (pK (.str " "))) (pC strD (vCons (pVar 4) vNil))) (pIf (qB (p2 isNotD (pVar 5) (pK .non))) (p2 addD (pK (.str " ")) (pVar 5)) (pK (.str ""))) [e0, e1, some (.str p.name), some (.str p.room), some (.int p.num), some (optD p.kind), e6, e7, e8, e9] = some (.str (plateL p)) := by
  have l1 := h.hi
  have l2 := h2.hi
  have l3 := numS_len a b
  have s := strD_num a b
  have pf : pIf (qB (p2 isNotD (pVar 5) (pK .non))) (p2 addD (pK (.str " ")) (pVar 5)) (pK (.str "")) [e0, e1, some (.str p.name), some (.str p.room), some (.int p.num), some (optD p.kind), e6, e7, e8, e9] = some (.str (match p.kind with | some k => (" " : Str) ++ k | none => ("" : Str))) := by
    cases q : p.kind with
    | none => simp [optD]
    | some k =>
      have l4 := (c k q).hi
      have z : addD (.str " ") (.str k) = some (.str ((" " : Str) ++ k)) := addS (by rw [ln_1]; omega)
      simp only [pIf_ap, qB_ap, p2_ap, pVar_ap, pK_ap, List.getElem?_cons_succ, List.getElem?_cons_zero, isNotD_1, optD, isNon_3, Bool.not_false, z]
  have lk : (match p.kind with | some k => (" " : Str) ++ k | none => ("" : Str)).length ≤ 9 := by
    cases q : p.kind with
    | none => show (("" : Str)).length ≤ 9; rw [ln_0]; omega
    | some k =>
      have l4 := (c k q).hi
      show ((" " : Str) ++ k).length ≤ 9
      rw [sap_len, ln_1]
      omega
  rw [p2_ap, pf]
  simp only [p2_ap, pK_ap, pVar_ap, pC_ap, vCons_ap, vNil_ap, List.getElem?_cons_succ, List.getElem?_cons_zero, s]
  rw [addS (by rw [ln_4]; omega)]
  simp only []
  rw [addS (by rw [sap_len, ln_4, ln_1]; omega)]
  simp only []
  rw [addS (by rw [sap_len, sap_len, ln_4, ln_1]; omega)]
  simp only []
  rw [addS (by rw [sap_len, sap_len, sap_len, ln_4, ln_1]; omega)]
  simp only []
  rw [addS (by rw [sap_len, sap_len, sap_len, sap_len, ln_4, ln_1]; omega)]
  simp only []
  rw [addS (by rw [sap_len, sap_len, sap_len, sap_len, sap_len, ln_4, ln_1]; omega)]
  rfl
theorem gate_ln {e0 e1 e3 e4 e9 : Option D} {g : Gate} (h : IsNm g.name) (h1 : IsNm g.one) (h2 : IsNm g.two) (c : ∀ k, g.kind = some k → IsNm k) :
    p2 addD (p2 addD (p2 addD (p2 addD (p2 addD (p2 addD (pK (.str "gate ")) (pVar 2)) (pK (.str " "))) (pVar 6)) (pK (.str " "))) (pVar 7)) (pIf (qB (p2 isNotD (pVar 5) (pK .non))) (p2 addD (pK (.str " for ")) (pVar 5)) (pK (.str ""))) [e0, e1, some (.str g.name), e3, e4, some (optD g.kind), some (.str g.one), some (.str g.two), some (.tup (strsD g.held)), e9] = some (.str (gateL0 g)) ∧ (gateL0 g).length ≤ 50 := by
  have l1 := h.hi
  have l2 := h1.hi
  have l3 := h2.hi
  have pf : pIf (qB (p2 isNotD (pVar 5) (pK .non))) (p2 addD (pK (.str " for ")) (pVar 5)) (pK (.str "")) [e0, e1, some (.str g.name), e3, e4, some (optD g.kind), some (.str g.one), some (.str g.two), some (.tup (strsD g.held)), e9] = some (.str (match g.kind with | some k => (" for " : Str) ++ k | none => ("" : Str))) := by
    cases q : g.kind with
    | none => simp [optD]
    | some k =>
      have l4 := (c k q).hi
      have z : addD (.str " for ") (.str k) = some (.str ((" for " : Str) ++ k)) := addS (by rw [ln_6]; omega)
      simp only [pIf_ap, qB_ap, p2_ap, pVar_ap, pK_ap, List.getElem?_cons_succ, List.getElem?_cons_zero, isNotD_1, optD, isNon_3, Bool.not_false, z]
  have lk : (match g.kind with | some k => (" for " : Str) ++ k | none => ("" : Str)).length ≤ 13 := by
    cases q : g.kind with
    | none => show (("" : Str)).length ≤ 13; rw [ln_0]; omega
    | some k =>
      have l4 := (c k q).hi
      show ((" for " : Str) ++ k).length ≤ 13
      rw [sap_len, ln_6]
      omega
  constructor
  · rw [p2_ap, pf]
    simp only [p2_ap, pK_ap, pVar_ap, List.getElem?_cons_succ, List.getElem?_cons_zero]
    rw [addS (by rw [ln_5]; omega)]
    simp only []
    rw [addS (by rw [sap_len, ln_5, ln_1]; omega)]
    simp only []
    rw [addS (by rw [sap_len, sap_len, ln_5, ln_1]; omega)]
    simp only []
    rw [addS (by rw [sap_len, sap_len, sap_len, ln_5, ln_1]; omega)]
    simp only []
    rw [addS (by rw [sap_len, sap_len, sap_len, sap_len, ln_5, ln_1]; omega)]
    simp only []
    rw [addS (by rw [sap_len, sap_len, sap_len, sap_len, sap_len, ln_5, ln_1]; omega)]
    rfl
  · show (("gate " : Str) ++ g.name ++ (" " : Str) ++ g.one ++ (" " : Str) ++ g.two ++ (match g.kind with | some k => (" for " : Str) ++ k | none => ("" : Str))).length ≤ 50
    rw [sap_len, sap_len, sap_len, sap_len, sap_len, sap_len, ln_5, ln_1]
    omega
theorem held_ln {e0 e1 e2 e3 e4 e5 e6 e7 : Option D} {g : Gate} (h : (gateL0 g).length ≤ 50) (hn : ∀ x ∈ g.held, IsNm x) (hk : g.held.length ≤ 2) :
    p2 addD (pVar 9) (pIf (qB (p2 neD (pVar 8) (pTup vNil))) (p2 addD (pK (.str " while ")) (pM joinD (pK (.str ",")) (pVar 8))) (pK (.str ""))) [e0, e1, e2, e3, e4, e5, e6, e7, some (.tup (strsD g.held)), some (.str (gateL0 g))] = some (.str (gateL g)) := by
  have ne : neD (.tup (strsD g.held)) (.tup []) = some (.bl (!g.held.isEmpty)) := by
    unfold neD
    rw [eqB_of (Ly.tup (Lys.nms hn (n := 0))) (Ly.tup (n := 0) (w := 0) .nil) (by omega) (by omega)]
    cases g.held <;> simp [PyData.eqv, PyData.eqvAll]
  have wl := (wd_held hn hk).le
  by_cases q : g.held = []
  · simp only [p2_ap, pIf_ap, qB_ap, pM_ap, pTup_ap, vNil_ap, pK_ap, pVar_ap, List.getElem?_cons_succ, List.getElem?_cons_zero]
    rw [q] at ne ⊢
    have ne : neD (.tup []) (.tup []) = some (.bl false) := ne
    simp only [strsD_0, List.length_nil, Nat.zero_le, if_true, ne]
    rw [addS (by rw [ln_0]; omega)]
    unfold gateL heldL
    rw [if_pos q]
  · have e : g.held.isEmpty = false := by cases z : g.held <;> simp_all
    rw [e] at ne
    have jn : joinD (.str ",") (.tup (strsD g.held)) = some (.str (Txt.join "," g.held)) := by
      have s : (g.held.map (·.length)).sum + g.held.length * (("," : Str)).length ≤ 16777216 := by
        have a := sum_le (n := 8) (l := g.held.map (·.length)) fun x hx => by
          obtain ⟨y, hy, rfl⟩ := List.mem_map.mp hx
          exact (hn y hy).hi
        rw [List.length_map] at a
        rw [show (("," : Str)).length = 1 from by decide +kernel]
        omega
      simp only [joinD, strsOf_map]
      rw [if_pos s]
    have z : addD (.str " while ") (.str (Txt.join "," g.held)) = some (.str ((" while " : Str) ++ Txt.join "," g.held)) := addS (by rw [ln_7]; omega)
    simp only [p2_ap, pIf_ap, qB_ap, pM_ap, pTup_ap, vNil_ap, pK_ap, pVar_ap, List.getElem?_cons_succ, List.getElem?_cons_zero, List.length_nil, Nat.zero_le, if_true, ne, Bool.not_false, isSD_1, jn, z]
    rw [addS (by rw [sap_len, ln_7]; omega)]
    unfold gateL heldL
    rw [if_neg q]

abbrev bP : Bd := bTup 4 (bCons (bName 2) (bCons (bName 3) (bCons (bName 4) (bCons (bName 5) bNil))))
abbrev bodyT : SS := sDrop (sLstM 1 (sU (p2 addD (p2 addD (p2 addD (p2 addD (p2 addD (p2 addD (pK (.str "plate ")) (pVar 2)) (pK (.str " "))) (pVar 3)) (pK (.str " "))) (pC strD (vCons (pVar 4) vNil))) (pIf (qB (p2 isNotD (pVar 5) (pK .non))) (p2 addD (pK (.str " ")) (pVar 5)) (pK (.str ""))))) fAppend)
abbrev bGt : Bd := bTup 5 (bCons (bName 2) (bCons (bName 6) (bCons (bName 7) (bCons (bName 5) (bCons (bName 8) bNil)))))
abbrev bodyU : SS := sSeq (sSet 9 (sU (p2 addD (p2 addD (p2 addD (p2 addD (p2 addD (p2 addD (pK (.str "gate ")) (pVar 2)) (pK (.str " "))) (pVar 6)) (pK (.str " "))) (pVar 7)) (pIf (qB (p2 isNotD (pVar 5) (pK .non))) (p2 addD (pK (.str " for ")) (pVar 5)) (pK (.str ""))))))
    (sDrop (sLstM 1 (sU (p2 addD (pVar 9) (pIf (qB (p2 neD (pVar 8) (pTup vNil))) (p2 addD (pK (.str " while ")) (pM joinD (pK (.str ",")) (pVar 8))) (pK (.str ""))))) fAppend))
theorem append_val {i : Nat} {p : SV} {e : T.Env} {l : List Str} {x : Str} (h1 : pVar i e = some (.lst true (strsD l))) (h2 : p e = some (.str x)) (hl : l.length ≤ 1000) : sDrop (sLstM i (sU p) fAppend) e = some (.nx, e.set i (some (.lst true (strsD (l ++ [x]))))) := by
  have c3 : fAppend (strsD l) (.str x) = some (.non, strsD (l ++ [x])) := by
    unfold fAppend
    rw [if_pos (by rw [T.len_strs]; omega), strsD_snoc]
  rw [sDrop_ap, sLstM_ap, h1, sU_ap, h2]
  simp only [isL_1, if_true, Option.map_some, h1, c3]
theorem text_plates {L : Lore} (h : LoreOk L) (e0 e6 e7 e8 e9 : Option D) (ls : List Str) (hl : ls.length ≤ 100) (x2 x3 x4 x5 : Option D) :
    ∃ y2 y3 y4 y5, loopS bP bodyT (L.plates.map plateD) [e0, some (.lst true (strsD ls)), x2, x3, x4, x5, e6, e7, e8, e9] = some (.nx, [e0, some (.lst true (strsD (ls ++ L.plates.map plateL))), y2, y3, y4, y5, e6, e7, e8, e9]) := by
  obtain ⟨e', lp, y2, y3, y4, y5, he⟩ := loopS_inv (b := bP) (body := bodyT) (fun j env => ∃ y2 y3 y4 y5, env = [e0, some (.lst true (strsD (ls ++ (L.plates.take j).map plateL))), y2, y3, y4, y5, e6, e7, e8, e9]) (L.plates.map plateD)
    (fun j m env hm ⟨y2, y3, y4, y5, he⟩ => by
      rw [List.getElem?_map] at hm
      cases q : L.plates[j]? with
      | none => rw [q] at hm; cases hm
      | some p =>
        rw [q] at hm
        cases hm
        have z := h.pk p (List.mem_of_getElem? q)
        have ln := plate_ln (e0 := e0) (e1 := some (.lst true (strsD (ls ++ (L.plates.take j).map plateL)))) (e6 := e6) (e7 := e7) (e8 := e8) (e9 := e9) z.nm (h.rn _ z.rm) z.lo z.hi fun k e => h.kindNm k (z.kd k e)
        have b := append_val (i := 1) (e := [e0, some (.lst true (strsD (ls ++ (L.plates.take j).map plateL))), some (.str p.name), some (.str p.room), some (.int p.num), some (optD p.kind), e6, e7, e8, e9]) (l := ls ++ (L.plates.take j).map plateL) rfl ln (by rw [List.length_append, List.length_map, List.length_take]; have := h.p2; omega)
        refine ⟨[e0, some (.lst true (strsD (ls ++ (L.plates.take j).map plateL))), some (.str p.name), some (.str p.room), some (.int p.num), some (optD p.kind), e6, e7, e8, e9], _, by rw [he]; simp [bP, plateD], b, some (.str p.name), some (.str p.room), some (.int p.num), some (optD p.kind), ?_⟩
        rw [List.take_add_one, q, List.append_assoc]
        simp)
    [e0, some (.lst true (strsD ls)), x2, x3, x4, x5, e6, e7, e8, e9] ⟨x2, x3, x4, x5, by simp⟩
  rw [List.length_map, List.take_length] at he
  exact ⟨y2, y3, y4, y5, by rw [lp, he]⟩
theorem text_gates {L : Lore} (h : LoreOk L) (e0 e3 e4 : Option D) (ls : List Str) (hl : ls.length ≤ 100) (x2 x5 x6 x7 x8 x9 : Option D) :
    ∃ y2 y5 y6 y7 y8 y9, loopS bGt bodyU (L.gates.map gateD) [e0, some (.lst true (strsD ls)), x2, e3, e4, x5, x6, x7, x8, x9] = some (.nx, [e0, some (.lst true (strsD (ls ++ L.gates.map gateL))), y2, e3, e4, y5, y6, y7, y8, y9]) := by
  obtain ⟨e', lp, y2, y5, y6, y7, y8, y9, he⟩ := loopS_inv (b := bGt) (body := bodyU) (fun j env => ∃ y2 y5 y6 y7 y8 y9, env = [e0, some (.lst true (strsD (ls ++ (L.gates.take j).map gateL))), y2, e3, e4, y5, y6, y7, y8, y9]) (L.gates.map gateD)
    (fun j m env hm ⟨y2, y5, y6, y7, y8, y9, he⟩ => by
      rw [List.getElem?_map] at hm
      cases q : L.gates[j]? with
      | none => rw [q] at hm; cases hm
      | some g =>
        rw [q] at hm
        cases hm
        have z := h.gk g (List.mem_of_getElem? q)
        have ln := gate_ln (e0 := e0) (e1 := some (.lst true (strsD (ls ++ (L.gates.take j).map gateL)))) (e3 := e3) (e4 := e4) (e9 := y9) z.nm (h.rn _ z.a) (h.rn _ z.b) fun k e => h.kindNm k (z.kd k e)
        have s1 : sSet 9 (sU (p2 addD (p2 addD (p2 addD (p2 addD (p2 addD (p2 addD (pK (.str "gate ")) (pVar 2)) (pK (.str " "))) (pVar 6)) (pK (.str " "))) (pVar 7)) (pIf (qB (p2 isNotD (pVar 5) (pK .non))) (p2 addD (pK (.str " for ")) (pVar 5)) (pK (.str ""))))) [e0, some (.lst true (strsD (ls ++ (L.gates.take j).map gateL))), some (.str g.name), e3, e4, some (optD g.kind), some (.str g.one), some (.str g.two), some (.tup (strsD g.held)), y9] =
            some (.nx, [e0, some (.lst true (strsD (ls ++ (L.gates.take j).map gateL))), some (.str g.name), e3, e4, some (optD g.kind), some (.str g.one), some (.str g.two), some (.tup (strsD g.held)), some (.str (gateL0 g))]) := by
          rw [sSet_ap, sU_ap, ln.1]
          simp
        have l2 := held_ln (e0 := e0) (e1 := some (.lst true (strsD (ls ++ (L.gates.take j).map gateL)))) (e2 := some (.str g.name)) (e3 := e3) (e4 := e4) (e5 := some (optD g.kind)) (e6 := some (.str g.one)) (e7 := some (.str g.two)) ln.2 (fun x hx => h.plateNm x (z.hd x hx)) z.le
        have b := append_val (i := 1) (l := ls ++ (L.gates.take j).map gateL) rfl l2 (by rw [List.length_append, List.length_map, List.length_take]; have := h.g2; omega)
        refine ⟨[e0, some (.lst true (strsD (ls ++ (L.gates.take j).map gateL))), some (.str g.name), e3, e4, some (optD g.kind), some (.str g.one), some (.str g.two), some (.tup (strsD g.held)), y9], _, by rw [he]; simp [bGt, gateD], (sSeq_nx s1).trans b, some (.str g.name), some (optD g.kind), some (.str g.one), some (.str g.two), some (.tup (strsD g.held)), some (.str (gateL0 g)), ?_⟩
        rw [List.take_add_one, q, List.append_assoc]
        simp)
    [e0, some (.lst true (strsD ls)), x2, e3, e4, x5, x6, x7, x8, x9] ⟨x2, x5, x6, x7, x8, x9, by simp⟩
  rw [List.length_map, List.take_length] at he
  exact ⟨y2, y5, y6, y7, y8, y9, by rw [lp, he]⟩
theorem F_text_ok {L : Lore} (h : LoreOk L) : F_text [loreD L] = some (.ok (.str L.text), [some (loreD L)]) := by
  have lr := lk4r (.lst false (strsD L.rooms)) (.lst false (L.kinds.map kindD)) (.lst false (L.plates.map plateD)) (.lst false (L.gates.map gateD))
  have lk := lk4k (.lst false (strsD L.rooms)) (.lst false (L.kinds.map kindD)) (.lst false (L.plates.map plateD)) (.lst false (L.gates.map gateD))
  have lp := lk4p (.lst false (strsD L.rooms)) (.lst false (L.kinds.map kindD)) (.lst false (L.plates.map plateD)) (.lst false (L.gates.map gateD))
  have lg := lk4g (.lst false (strsD L.rooms)) (.lst false (L.kinds.map kindD)) (.lst false (L.plates.map plateD)) (.lst false (L.gates.map gateD))
  have cl := kinds_len h
  have r2 := h.r2
  have h1 : pLcL (bName 3) qYes (p2 addD (pK (.str "room ")) (pVar 3)) [some (loreD L), none, none, none, none, none, none, none, none, none] (strsD L.rooms) = some (strsD (L.rooms.map roomL)) := by
    rw [← strsD_map]
    exact pLcL_map fun r hr => ⟨[some (loreD L), none, none, some (.str r), none, none, none, none, none, none], by simp, by simp, room_ln (h.rn r hr)⟩
  have h2 : pLcL (bTup 2 (bCons (bName 2) (bCons (bName 3) bNil))) qYes (p2 addD (p2 addD (p2 addD (pK (.str "kind ")) (pVar 2)) (pK (.str " "))) (pVar 3)) [some (loreD L), none, none, none, none, none, none, none, none, none] (L.kinds.map kindD) = some (strsD (L.kinds.map kindL)) := by
    rw [← strsD_map]
    exact pLcL_map fun r hr => ⟨[some (loreD L), none, some (.str r.1), some (.str r.2), none, none, none, none, none, none], by simp [kindD], by simp, kind_ln (h.kk r hr).1 (h.rn _ (h.kk r hr).2)⟩
  have l1 : L.rooms.length ≤ 100000 := by omega
  have l2 : L.kinds.length ≤ 100000 := by omega
  have l3 : L.rooms.length + L.kinds.length ≤ sizeLine := by rw [szl]; omega
  have l4 : (L.rooms.map roomL ++ L.kinds.map kindL).length ≤ 7 := by rw [List.length_append, List.length_map, List.length_map]; omega
  have sa : strsD (L.rooms.map roomL ++ L.kinds.map kindL) = strsD (L.rooms.map roomL) ++ strsD (L.kinds.map kindL) := List.map_append
  have s1 : sSet 1 (sU (p2 addD (pLc [3] (iP (pDG (pVar 0) (pK (.str "rooms")))) (bName 3) qYes (p2 addD (pK (.str "room ")) (pVar 3))) (pLc [2, 3] (iP (pDG (pVar 0) (pK (.str "kinds")))) (bTup 2 (bCons (bName 2) (bCons (bName 3) bNil))) qYes (p2 addD (p2 addD (p2 addD (pK (.str "kind ")) (pVar 2)) (pK (.str " "))) (pVar 3))))) [some (loreD L), none, none, none, none, none, none, none, none, none] =
      some (.nx, [some (loreD L), some (.lst true (strsD (L.rooms.map roomL ++ L.kinds.map kindL))), none, none, none, none, none, none, none, none]) := by
    rw [sa]
    simp only [loreD] at h1 h2 ⊢
    simp [lr, lk, h1, h2, l1, l2, l3]
  obtain ⟨y2, y3, y4, y5, p1⟩ := text_plates h (some (loreD L)) none none none none (L.rooms.map roomL ++ L.kinds.map kindL) (by omega) none none none none
  have i1 : iU (iP (pFz (pDG (pVar 0) (pK (.str "plates"))))) [some (loreD L), some (.lst true (strsD (L.rooms.map roomL ++ L.kinds.map kindL))), none, none, none, none, none, none, none, none] = some (.ok (L.plates.map plateD), [some (loreD L), some (.lst true (strsD (L.rooms.map roomL ++ L.kinds.map kindL))), none, none, none, none, none, none, none, none]) := by
    simp only [loreD]
    simp [lp]
  obtain ⟨z2, z5, z6, z7, z8, z9, g1⟩ := text_gates h (some (loreD L)) y3 y4 (L.rooms.map roomL ++ L.kinds.map kindL ++ L.plates.map plateL) (by rw [List.length_append, List.length_map]; have := h.p2; omega) y2 y5 none none none none
  have i2 : iU (iP (pFz (pDG (pVar 0) (pK (.str "gates"))))) [some (loreD L), some (.lst true (strsD (L.rooms.map roomL ++ L.kinds.map kindL ++ L.plates.map plateL))), y2, y3, y4, y5, none, none, none, none] = some (.ok (L.gates.map gateD), [some (loreD L), some (.lst true (strsD (L.rooms.map roomL ++ L.kinds.map kindL ++ L.plates.map plateL))), y2, y3, y4, y5, none, none, none, none]) := by
    simp only [loreD]
    simp [lg]
  have jn : joinD (.str "\n") (.lst true (strsD L.lines)) = some (.str L.text) := by
    have s : (L.lines.map (·.length)).sum + L.lines.length * (("\n" : Str)).length ≤ 16777216 := by
      have a := sum_le (n := 144) (l := L.lines.map (·.length)) fun x hx => by
        obtain ⟨y, hy, rfl⟩ := List.mem_map.mp hx
        exact (h.lines y hy).le
      rw [List.length_map] at a
      have := h.count
      rw [show (("\n" : Str)).length = 1 from by decide +kernel]
      omega
    simp only [joinD, strsOf_map]
    rw [if_pos s]
    rfl
  have s3 : sU (pM joinD (pK (.str "\n")) (pVar 1)) [some (loreD L), some (.lst true (strsD (L.rooms.map roomL ++ L.kinds.map kindL ++ L.plates.map plateL ++ L.gates.map gateL))), z2, y3, y4, z5, z6, z7, z8, z9] = some (.ok (.str L.text), [some (loreD L), some (.lst true (strsD (L.rooms.map roomL ++ L.kinds.map kindL ++ L.plates.map plateL ++ L.gates.map gateL))), z2, y3, y4, z5, z6, z7, z8, z9]) := by
    rw [show L.rooms.map roomL ++ L.kinds.map kindL ++ L.plates.map plateL ++ L.gates.map gateL = L.lines from rfl]
    simp only [sU_ap, pM_ap, pK_ap, pVar_ap, List.getElem?_cons_succ, List.getElem?_cons_zero, isSD_1, if_true, jn, Option.map_some]
  have p6 : b_text ([loreD L].map some ++ List.replicate (10 - 1) none) = some (.rt (.str L.text), [some (loreD L), some (.lst true (strsD (L.rooms.map roomL ++ L.kinds.map kindL ++ L.plates.map plateL ++ L.gates.map gateL))), z2, y3, y4, z5, z6, z7, z8, z9]) := (sSeq_nx s1).trans ((sSeq_nx (sFor_val i1 p1)).trans ((sSeq_nx (sFor_val i2 g1)).trans (sRet_val s3)))
  exact fnS_rt (n := 10) (np := 1) (kp := kpL [0]) rfl p6
end Q

set_option Elab.async false
set_option linter.all false
set_option maxRecDepth 100000
set_option maxHeartbeats 4000000
namespace Q
open PySem PySem.Spec PyProof.Rows L2 T

/-! ### the pot of a cell -/
theorem mul_exR {i : Int} {b : Bool} (h : 0 ≤ i) : ∃ r, mulD (.int i) (.int (if b then 1 else 0)) = some (.int r) ∧ 0 ≤ r := by
  refine ⟨i * (if b then 1 else 0), ?_, ?_⟩
  · show (if CMul i (if b then 1 else 0) then some (D.int (i * (if b then 1 else 0))) else none) = _
    rw [if_pos (.inr (by cases b <;> constructor <;> simp))]
  · cases b <;> simp [h]
theorem pow_60 : powD (.int 10) (.int 60) = some (.int (10 ^ 60)) := by
  show (if CPowW 10 60 then some (D.int (10 ^ (60 : Int).toNat)) else none) = _
  rw [if_pos ⟨by decide, .inl ⟨by decide, by decide +kernel⟩⟩]
  rfl
theorem pow_5 : powD (.int (10 ^ 60)) (.int 5) = some (.int ((10 ^ 60) ^ 5)) := by
  show (if CPowW (10 ^ 60) 5 then some (D.int ((10 ^ 60) ^ (5 : Int).toNat)) else none) = _
  rw [if_pos ⟨by decide, .inr ⟨by decide, by decide +kernel⟩⟩]
  rfl
theorem pow_18 : powD (.int 10) (.int 18) = some (.int (10 ^ 18)) := by
  show (if CPowW 10 18 then some (D.int (10 ^ (18 : Int).toNat)) else none) = _
  rw [if_pos ⟨by decide, .inl ⟨by decide, by decide +kernel⟩⟩]
  rfl
theorem pows : ∃ p q r : Int, powD (.int 10) (.int 60) = some (.int p) ∧ powD (.int p) (.int 5) = some (.int q) ∧ powD (.int 10) (.int 18) = some (.int r) ∧ 0 < q := ⟨_, _, _, pow_60, pow_5, pow_18, by decide +kernel⟩
theorem ints_at {l : List Int} {j : Nat} (h : j < l.length) : atI (l.map D.int) (j : Int) = some (.int l[j]) := atI_nat (by
  rw [List.getElem?_map, List.getElem?_eq_getElem h]
  rfl)
theorem pot_ok (ns : List Int) (k : Nat) (hk : k ≤ 63) : ∃ m, F_pot [.klst (ns.map .int), .int k] = some (.ok m, [some (.klst (ns.map .int)), some (.int k)]) ∧ Pot 0 m := by
  obtain ⟨p, q, r, w1, w2, w3, qp⟩ := pows
  have s1 : ∃ c : Int, sSet 2 (sU (pIf (qB (p2 (cmpD fun i j => decide (i < j)) (pVar 1) (pC lenD (vCons (pVar 0) vNil)))) (p2 ixD (pVar 0) (pVar 1)) (p2 addD (p2 mulD (pK (.int 67)) (pVar 1)) (pK (.int 31))))) [some (.klst (ns.map .int)), some (.int k), none, none, none] = some (.nx, [some (.klst (ns.map .int)), some (.int k), some (.int c), none, none]) := by
    by_cases h : k < ns.length
    · have h' : (k : Int) < ns.length := by omega
      have a := ints_at h
      exact ⟨ns[k], by simp [h', h, a]⟩
    · have h' : ¬ (k : Int) < ns.length := by omega
      have a : mulD (.int 67) (.int k) = some (.int (67 * k)) := mul_ex (by omega) (by omega)
      exact ⟨67 * k + 31, by simp [h', h, a]⟩
  obtain ⟨c, s1⟩ := s1
  obtain ⟨ab, hab⟩ : ∃ ab : Int, (if c < 0 then -c else c) = ab := ⟨_, rfl⟩
  obtain ⟨m1, f1, f2, _⟩ := mod_ex ab qp
  obtain ⟨b, hb⟩ : ∃ b : Bool, decide (r ≤ ab) = b := ⟨_, rfl⟩
  obtain ⟨ow, g1, g2⟩ := mul_exR (b := b) f2
  have s2 : sSet 3 (sU (p2 mulD (p2 modD (pC intD (vCons (pC absD (vCons (pVar 2) vNil)) vNil)) (p2 powD (p2 powD (pK (.int 10)) (pK (.int 60))) (pK (.int 5)))) (pC intD (vCons (p2 (cmpD fun i j => decide (j ≤ i)) (pC absD (vCons (pVar 2) vNil)) (p2 powD (pK (.int 10)) (pK (.int 18)))) vNil)))) [some (.klst (ns.map .int)), some (.int k), some (.int c), none, none] = some (.nx, [some (.klst (ns.map .int)), some (.int k), some (.int c), some (.int ow), none]) := by
    simp only [sSet_ap, sU_ap, p2_ap, pC_ap, vCons_ap, vNil_ap, pVar_ap, pK_ap, List.getElem?_cons_succ, List.getElem?_cons_zero, absD_1, hab, intD_1, w1, w2, w3, f1, cmpD_1, hb, intD_2, g1, Option.map_some]
    simp
  obtain ⟨sm, h1, h2, h3⟩ := mod_ex c (j := 2305843009213693951) (by omega)
  have s3 : sSet 4 (sU (p2 modD (pC intD (vCons (pVar 2) vNil)) (pK (.int 2305843009213693951)))) [some (.klst (ns.map .int)), some (.int k), some (.int c), some (.int ow), none] = some (.nx, [some (.klst (ns.map .int)), some (.int k), some (.int c), some (.int ow), some (.int sm)]) := by
    simp only [sSet_ap, sU_ap, p2_ap, pC_ap, vCons_ap, vNil_ap, pVar_ap, pK_ap, List.getElem?_cons_succ, List.getElem?_cons_zero, intD_1, h1, Option.map_some]
    simp
  have a1 : mulD (.int sm) (.int 74507) = some (.int (sm * 74507)) := mul_ex (by omega) (by omega)
  have a2 : mulD (.int 8011) (.int k) = some (.int (8011 * k)) := mul_ex (by omega) (by omega)
  have a3 : mulD (.int (8011 * k)) (.int k) = some (.int (8011 * k * k)) := mul_ex (by omega) (by omega)
  obtain ⟨b1, e1, e2, e3⟩ := mod_ex (sm * 74507 + 8011 * k * k + 97) (j := 2305843009213693921) (by omega)
  have s4 : sU (pLst (vCons (pFz (pVar 3)) (vCons (p2 modD (pC intD (vCons (p2 addD (p2 addD (p2 mulD (pVar 4) (pK (.int 74507))) (p2 mulD (p2 mulD (pK (.int 8011)) (pVar 1)) (pVar 1))) (pK (.int 97))) vNil)) (pK (.int 2305843009213693921))) (vCons (pK (.int 0)) vNil)))) [some (.klst (ns.map .int)), some (.int k), some (.int c), some (.int ow), some (.int sm)] = some (.ok (potD ow b1 0), [some (.klst (ns.map .int)), some (.int k), some (.int c), some (.int ow), some (.int sm)]) := by
    simp only [sU_ap, pLst_ap, pFz_ap, p2_ap, pC_ap, vCons_ap, vNil_ap, pVar_ap, pK_ap, List.getElem?_cons_succ, List.getElem?_cons_zero, intD_1, addD_1, a1, a2, a3, e1, fz_3, if_true, Option.map_some]
    simp [potD]
  have p6 : b_pot ([.klst (ns.map .int), .int k].map some ++ List.replicate (5 - 2) none) = some (.rt (potD ow b1 0), [some (.klst (ns.map .int)), some (.int k), some (.int c), some (.int ow), some (.int sm)]) := (sSeq_nx s1).trans ((sSeq_nx s2).trans ((sSeq_nx s3).trans (sRet_val s4)))
  exact ⟨potD ow b1 0, fnS_rt (n := 5) (np := 2) (kp := kpL [0, 1]) rfl p6, ⟨ow, b1, 0, rfl, g2, e2, by omega, by omega, by omega⟩⟩
theorem cells_ok (ns : List Int) : ∃ c : Nat, c ≤ 4 ∧ F_cells [.klst (ns.map .int), .int 4] = some (.ok (.lst true ((List.range c).map fun (i : Nat) => .int (i : Int))), [some (.klst (ns.map .int)), some (.int 4)]) := by
  obtain ⟨z, hz, z1, z2⟩ : ∃ z : Int, (if (if (ns.length : Int) < 4 then (ns.length : Int) else 4) > 1 then (if (ns.length : Int) < 4 then (ns.length : Int) else 4) else 1) = z ∧ 1 ≤ z ∧ z ≤ 4 := ⟨_, rfl, by split <;> split <;> omega, by split <;> split <;> omega⟩
  obtain ⟨c, rfl⟩ := Int.eq_ofNat_of_zero_le (show 0 ≤ z by omega)
  have a1 : (c : Int) ≤ 1000000 := by omega
  have rg : lstRg (.int (c : Int)) = some (.lst true ((List.range c).map fun (i : Nat) => .int (i : Int))) := by
    show (if 0 ≤ (c : Int) ∧ (c : Int) ≤ 1000000 then some (D.lst true ((List.range (c : Int).toNat).map fun i => .int (i : Nat))) else none) = _
    rw [if_pos ⟨by omega, a1⟩, Int.toNat_natCast]
  have s : sU (p1 lstRg (pC max2D (vCons (pK (.int 1)) (vCons (pC min2D (vCons (pVar 1) (vCons (pC lenD (vCons (pVar 0) vNil)) vNil))) vNil)))) [some (.klst (ns.map .int)), some (.int 4)] = some (.ok (.lst true ((List.range c).map fun (i : Nat) => .int (i : Int))), [some (.klst (ns.map .int)), some (.int 4)]) := by
    simp only [sU_ap, p1_ap, pC_ap, vCons_ap, vNil_ap, pVar_ap, pK_ap, List.getElem?_cons_succ, List.getElem?_cons_zero, lenD_3, List.length_map, min2D_1, max2D_1, hz, Option.bind_some, rg, Option.map_some]
  have p6 : b_cells ([.klst (ns.map .int), .int 4].map some ++ List.replicate (2 - 2) none) = some (.rt (.lst true ((List.range c).map fun (i : Nat) => .int (i : Int))), [some (.klst (ns.map .int)), some (.int 4)]) := sRet_val s
  exact ⟨c, by omega, fnS_rt (n := 2) (np := 2) (kp := kpL [0, 1]) rfl p6⟩
end Q

set_option Elab.async false
set_option linter.all false
set_option maxRecDepth 100000
set_option maxHeartbeats 4000000
namespace Q
open PySem PySem.Spec PyProof.Rows L2 T

/-! ### one cell -/
def heard (L : Lore) : D := .tup [.str L.text, .tup (strsD L.rooms), .tup (strsD L.kn), .tup (L.plates.map plateD), .tup (L.gates.map gateD)]
theorem heard_ly {L : Lore} (h : LoreOk L) : ∃ d, Ly 4 5000 (heard L) d := by
  have a := Ly.str (n := 3) h.plain h.len
  have b := (Ly.tup (Lys.nms h.rn (n := 0))).mono (show 1 ≤ 3 by omega) (Nat.le_refl _)
  have c := (Ly.tup (Lys.nms h.kindNm (n := 0))).mono (show 1 ≤ 3 by omega) (Nat.le_refl _)
  have d := (Ly.tup (Lys.map (l := L.plates) fun q hq => plate_ly (h.pk q hq).nm (h.rn _ (h.pk q hq).rm) (h.pk q hq).lo (h.pk q hq).hi fun k e => h.kindNm k ((h.pk q hq).kd k e))).mono (show 2 ≤ 3 by omega) (Nat.le_refl _)
  have e := Ly.tup (Lys.map (l := L.gates) fun q hq => gate_ly (h.gk q hq).nm (h.rn _ (h.gk q hq).a) (h.rn _ (h.gk q hq).b) (fun k e => h.kindNm k ((h.gk q hq).kd k e)) (fun x hx => h.plateNm x ((h.gk q hq).hd x hx)) (h.gk q hq).le)
  have kl := kinds_len h
  have r2 := h.r2
  have p2 := h.p2
  have g2 := h.g2
  have kn : L.kn.length = L.kinds.length := List.length_map _
  exact ⟨_, (Ly.tup (Lys.cons a (Lys.cons b (Lys.cons c (Lys.cons d (Lys.cons e (.nil (n := 3) (w := 0)))))))).mono (by omega) (by omega)⟩
@[simp] theorem fr_lv (L : Lore) (o : Bool) : fr (lvD L o) = lvD L false := by
  have z : frs (L.steps.map fun s => kindD (stepK s)) = L.steps.map fun s => kindD (stepK s) := frs_map _ fun _ => by simp
  simp [lvD, stepsD, z]
abbrev f2 : SS := sSet 2 (sCallA F_lore (aN 0 (aE (sU (pK (.int 5))) (aE (sU (pK (.int 2))) aNil))))
abbrev f3 : SS := sSet 3 (sMake "Level" F_Level_init (aE (sCallA F_text (aN 2 aNil)) aNil))
abbrev f4 : SS := sSet 4 (sU (pThaw (pTup (vCons (pProp "Level" (pVar 3) F_Level_text) (vCons (pProp "Level" (pVar 3) F_Level_rooms) (vCons (pProp "Level" (pVar 3) F_Level_kinds) (vCons (pProp "Level" (pVar 3) F_Level_plates) (vCons (pProp "Level" (pVar 3) F_Level_gates) vNil))))))))
abbrev f5 : SS := sSet 5 (sU (pC tupleD (vCons (pLc [7, 8] (iP (pDG (pVar 2) (pK (.str "kinds")))) (bTup 2 (bCons (bName 7) (bCons (bName 8) bNil))) qYes (pFz (pVar 7))) vNil)))
abbrev f6 : SS := sSet 6 (sTup (aE (sCallA F_text (aN 2 aNil)) (aE (sU (pC tupleD (vCons (pDG (pVar 2) (pK (.str "rooms"))) vNil))) (aE (sU (pFz (pVar 5))) (aE (sU (pC tupleD (vCons (pDG (pVar 2) (pK (.str "plates"))) vNil))) (aE (sU (pC tupleD (vCons (pDG (pVar 2) (pK (.str "gates"))) vNil))) aNil))))))
abbrev f7 : SS := sIf (qU (qB (p2 neD (pC reprD (vCons (pVar 4) vNil)) (pC reprD (vCons (pVar 6) vNil))))) (sRet (sU (pK (.bl false)))) sPass
abbrev bodyF : SS := sSeq f2 (sSeq f3 (sSeq f4 (sSeq f5 (sSeq f6 f7))))
theorem lvD_eq (L : Lore) (o : Bool) : ∃ fs, lvD L o = .ins o "Level" fs := ⟨_, rfl⟩
theorem prop_val {env : T.Env} {i : Nat} {L : Lore} {F : SF} {v : D} {os : List (Option D)} (h : pVar i env = some (lvD L false)) (k : F [lvD L false] = some (.ok v, os)) : pProp "Level" (pVar i) F env = some v := by
  obtain ⟨fs, e⟩ := lvD_eq L false
  rw [e] at h k
  unfold pProp
  rw [h]
  show (if ("Level" : Str) = "Level" then okF F [.ins false "Level" fs] else none) = _
  rw [if_pos rfl]
  unfold okF
  rw [k]
section
variable {n : Int} {m : D} {e1 e2 e3 e4 e5 e6 : Option D}
theorem f2_ok (h : Pot n m) (hn : n ≤ 600000) : ∃ (L : Lore) (m' : D), f2 [some m, e1, e2, e3, e4, e5, e6, none, none] = some (.nx, [some m', e1, some (loreD L), e3, e4, e5, e6, none, none]) ∧ LoreOk L ∧ Pot (n + 200) m' := by
  obtain ⟨L, m', a, b, c⟩ := lore_draw h hn (R := 5) (K := 2) (by omega) (by omega) (by omega) (by omega)
  have nf := h.nfz
  have p1 : aN 0 (aE (sU (pK (.int 5))) (aE (sU (pK (.int 2))) aNil)) [some m, e1, e2, e3, e4, e5, e6, none, none] = some (.ok [.lend 0, .val (.int 5), .val (.int 2)], [some m, e1, e2, e3, e4, e5, e6, none, none]) := by simp
  have p2 : takeA [.lend 0, .val (.int 5), .val (.int 2)] [some m, e1, e2, e3, e4, e5, e6, none, none] = some ([m, .int 5, .int 2], [none, e1, e2, e3, e4, e5, e6, none, none]) := by simp [nf]
  have p3 := sCallA_val p1 p2 a
  have p4 : backA [.lend 0, .val (.int 5), .val (.int 2)] [some m', some (.int 5), some (.int 2)] [none, e1, e2, e3, e4, e5, e6, none, none] = [some m', e1, e2, e3, e4, e5, e6, none, none] := by simp
  rw [p4] at p3
  refine ⟨L, m', (sSet_val p3 (by simp)).trans (by simp), b, c⟩
theorem textA {L : Lore} (h : LoreOk L) : sCallA F_text (aN 2 aNil) [some m, e1, some (loreD L), e3, e4, e5, e6, none, none] = some (.ok (.str L.text), [some m, e1, some (loreD L), e3, e4, e5, e6, none, none]) := by
  have z : fz (loreD L) = false := rfl
  have p1 : aN 2 aNil [some m, e1, some (loreD L), e3, e4, e5, e6, none, none] = some (.ok [.lend 2], [some m, e1, some (loreD L), e3, e4, e5, e6, none, none]) := by simp
  have p2 : takeA [.lend 2] [some m, e1, some (loreD L), e3, e4, e5, e6, none, none] = some ([loreD L], [some m, e1, none, e3, e4, e5, e6, none, none]) := by simp [z]
  have p3 := sCallA_val p1 p2 (F_text_ok h)
  have p4 : backA [.lend 2] [some (loreD L)] [some m, e1, none, e3, e4, e5, e6, none, none] = [some m, e1, some (loreD L), e3, e4, e5, e6, none, none] := by simp
  rw [p4] at p3
  exact p3
theorem f3_ok {L : Lore} (h : LoreOk L) : f3 [some m, e1, some (loreD L), e3, e4, e5, e6, none, none] = some (.nx, [some m, e1, some (loreD L), some (lvD L true), e4, e5, e6, none, none]) := by
  have t := textA (m := m) (e1 := e1) (e3 := e3) (e4 := e4) (e5 := e5) (e6 := e6) h
  have i := level_init_ok h
  have g : aE (sCallA F_text (aN 2 aNil)) aNil [some m, e1, some (loreD L), e3, e4, e5, e6, none, none] = some (.ok [.val (.str L.text)], [some m, e1, some (loreD L), e3, e4, e5, e6, none, none]) := by
    rw [aE_ap, t]
    simp
  have k : sMake "Level" F_Level_init (aE (sCallA F_text (aN 2 aNil)) aNil) [some m, e1, some (loreD L), e3, e4, e5, e6, none, none] = some (.ok (lvD L true), [some m, e1, some (loreD L), e3, e4, e5, e6, none, none]) := by
    rw [sMake_ap, g]
    simp only [takeA_1, takeA_0, i, backA_1, backA_0]
  exact (sSet_val k (by simp)).trans (by simp)
theorem f4_ok {L : Lore} (h : LoreOk L) : f4 [some m, e1, some (loreD L), some (lvD L true), e4, e5, e6, none, none] = some (.nx, [some m, e1, some (loreD L), some (lvD L true), some (heard L), e5, e6, none, none]) := by
  have v : pVar 3 (frE [some m, e1, some (loreD L), some (lvD L true), e4, e5, e6, none, none]) = some (lvD L false) := by simp
  have nz : noFz (heard L) = true := by simp [heard]
  have k : sU (pThaw (pTup (vCons (pProp "Level" (pVar 3) F_Level_text) (vCons (pProp "Level" (pVar 3) F_Level_rooms) (vCons (pProp "Level" (pVar 3) F_Level_kinds) (vCons (pProp "Level" (pVar 3) F_Level_plates) (vCons (pProp "Level" (pVar 3) F_Level_gates) vNil))))))) [some m, e1, some (loreD L), some (lvD L true), e4, e5, e6, none, none] = some (.ok (heard L), [some m, e1, some (loreD L), some (lvD L true), e4, e5, e6, none, none]) := by
    rw [sU_ap, pThaw_ap, pTup_ap, vCons_ap, vCons_ap, vCons_ap, vCons_ap, vCons_ap, vNil_ap, prop_val v (text_ok L), prop_val v (rooms_ok L), prop_val v (kinds_ok L), prop_val v (plates_ok L), prop_val v (gates_ok L)]
    show Option.map _ (if noFz (heard L) = true then some (heard L) else none) = _
    rw [if_pos nz]
    rfl
  exact (sSet_val k (by simp)).trans (by simp)
theorem f5_ok {L : Lore} (h : LoreOk L) : f5 [some m, e1, some (loreD L), e3, e4, e5, e6, none, none] = some (.nx, [some m, e1, some (loreD L), e3, e4, some (.tup (strsD L.kn)), e6, none, none]) := by
  have lk := lk4k (.lst false (strsD L.rooms)) (.lst false (L.kinds.map kindD)) (.lst false (L.plates.map plateD)) (.lst false (L.gates.map gateD))
  have hL : pLcL (bTup 2 (bCons (bName 7) (bCons (bName 8) bNil))) qYes (pFz (pVar 7)) [some m, e1, some (loreD L), e3, e4, e5, e6, none, none] (L.kinds.map kindD) = some (strsD L.kn) := kind_heads L.kinds fun x => ⟨[some m, e1, some (loreD L), e3, e4, e5, e6, some (.str x.1), some (.str x.2)], by simp [kindD], by simp⟩
  have kl := kinds_len h
  have l : L.kinds.length ≤ 100000 := by omega
  simp only [loreD] at hL ⊢
  simp [f5, lk, hL, l]
theorem f6_ok {L : Lore} (h : LoreOk L) : f6 [some m, e1, some (loreD L), e3, e4, some (.tup (strsD L.kn)), e6, none, none] = some (.nx, [some m, e1, some (loreD L), e3, e4, some (.tup (strsD L.kn)), some (heard L), none, none]) := by
  have t := textA (m := m) (e1 := e1) (e3 := e3) (e4 := e4) (e5 := some (.tup (strsD L.kn))) (e6 := e6) h
  have lr := lk4r (.lst false (strsD L.rooms)) (.lst false (L.kinds.map kindD)) (.lst false (L.plates.map plateD)) (.lst false (L.gates.map gateD))
  have lp := lk4p (.lst false (strsD L.rooms)) (.lst false (L.kinds.map kindD)) (.lst false (L.plates.map plateD)) (.lst false (L.gates.map gateD))
  have lg := lk4g (.lst false (strsD L.rooms)) (.lst false (L.kinds.map kindD)) (.lst false (L.plates.map plateD)) (.lst false (L.gates.map gateD))
  have r : aE (sU (pC tupleD (vCons (pDG (pVar 2) (pK (.str "rooms"))) vNil))) (aE (sU (pFz (pVar 5))) (aE (sU (pC tupleD (vCons (pDG (pVar 2) (pK (.str "plates"))) vNil))) (aE (sU (pC tupleD (vCons (pDG (pVar 2) (pK (.str "gates"))) vNil))) aNil))) [some m, e1, some (loreD L), e3, e4, some (.tup (strsD L.kn)), e6, none, none] = some (.ok [.val (.tup (strsD L.rooms)), .val (.tup (strsD L.kn)), .val (.tup (L.plates.map plateD)), .val (.tup (L.gates.map gateD))], [some m, e1, some (loreD L), e3, e4, some (.tup (strsD L.kn)), e6, none, none]) := by
    simp only [loreD]
    simp [lr, lp, lg]
  have k : sTup (aE (sCallA F_text (aN 2 aNil)) (aE (sU (pC tupleD (vCons (pDG (pVar 2) (pK (.str "rooms"))) vNil))) (aE (sU (pFz (pVar 5))) (aE (sU (pC tupleD (vCons (pDG (pVar 2) (pK (.str "plates"))) vNil))) (aE (sU (pC tupleD (vCons (pDG (pVar 2) (pK (.str "gates"))) vNil))) aNil))))) [some m, e1, some (loreD L), e3, e4, some (.tup (strsD L.kn)), e6, none, none] = some (.ok (heard L), [some m, e1, some (loreD L), e3, e4, some (.tup (strsD L.kn)), e6, none, none]) := by
    rw [sTup, sDisp_ap, aE_ap, t]
    simp only [r, valsA_1, valsA_0]
    rfl
  exact (sSet_val k (by simp)).trans (by simp)
theorem f7_ok {L : Lore} (h : LoreOk L) : f7 [some m, e1, e2, e3, some (heard L), e5, some (heard L), none, none] = some (.nx, [some m, e1, e2, e3, some (heard L), e5, some (heard L), none, none]) := by
  obtain ⟨d, ly⟩ := heard_ly h
  have rp := repr_of (m := heard L) (d := d) rfl ly (by omega) (by omega)
  have ne := neD_str ly.pl ly.pl
  rw [decide_eq_true rfl] at ne
  simp only [f7, sIf_ap, qU_ap, qB_ap, p2_ap, pC_ap, vCons_ap, vNil_ap, pVar_ap, List.getElem?_cons_succ, List.getElem?_cons_zero, rp, ne, Option.map_some, Bool.not_true, sPass_ap]
end
theorem fine_ok {m : D} (h : Pot 0 m) : ∃ m', F_fine [m] = some (.ok (.bl true), [some m']) := by
  obtain ⟨e', lp, m', x1, x2, x3, x4, x5, x6, he, hp⟩ := loopS_inv (b := bName 1) (body := bodyF) (fun j env => ∃ (m' : D) (x1 x2 x3 x4 x5 x6 : Option D), env = [some m', x1, x2, x3, x4, x5, x6, none, none] ∧ Pot (200 * j) m') [.int 0, .int 1, .int 2]
    (fun j x env hx ⟨m', x1, x2, x3, x4, x5, x6, he, hp⟩ => by
      have jl : j < 3 := (List.getElem?_eq_some_iff.mp hx).1
      obtain ⟨L, m2, a, ok, q⟩ := f2_ok (e1 := some x) (e2 := x2) (e3 := x3) (e4 := x4) (e5 := x5) (e6 := x6) hp (by omega)
      have b := f3_ok (m := m2) (e1 := some x) (e3 := x3) (e4 := x4) (e5 := x5) (e6 := x6) ok
      have c := f4_ok (m := m2) (e1 := some x) (e4 := x4) (e5 := x5) (e6 := x6) ok
      have d := f5_ok (m := m2) (e1 := some x) (e3 := some (lvD L true)) (e4 := some (heard L)) (e5 := x5) (e6 := x6) ok
      have e := f6_ok (m := m2) (e1 := some x) (e3 := some (lvD L true)) (e4 := some (heard L)) (e6 := x6) ok
      have f := f7_ok (m := m2) (e1 := some x) (e2 := some (loreD L)) (e3 := some (lvD L true)) (e5 := some (.tup (strsD L.kn))) ok
      exact ⟨[some m', some x, x2, x3, x4, x5, x6, none, none], _, by rw [he]; simp, (sSeq_nx a).trans ((sSeq_nx b).trans ((sSeq_nx c).trans ((sSeq_nx d).trans ((sSeq_nx e).trans f)))), m2, some x, some (loreD L), some (lvD L true), some (heard L), some (.tup (strsD L.kn)), some (heard L), rfl, q.mono (by omega)⟩)
    [some m, none, none, none, none, none, none, none, none] ⟨m, none, none, none, none, none, none, rfl, h.mono (by omega)⟩
  rw [he] at lp
  have rg : rng1D [.int 3] = some [.int 0, .int 1, .int 2] := by
    show (if (3 : Int) < 2 ^ 62 ∧ -(2 ^ 62) ≤ (3 : Int) then some ((List.range (3 : Int).toNat).map fun i => D.int (i : Nat)) else none) = _
    rw [if_pos ⟨by decide, by decide⟩]
    rfl
  have it := iRgU_val (f := rng1D) (p := vCons (pK (.int 3)) vNil) (env := [some m, none, none, none, none, none, none, none, none]) (ms := [.int 3]) (by simp) rg
  have s3 : sU (pK (.bl true)) [some m', x1, x2, x3, x4, x5, x6, none, none] = some (.ok (.bl true), [some m', x1, x2, x3, x4, x5, x6, none, none]) := by simp
  have p6 : b_fine ([m].map some ++ List.replicate (9 - 1) none) = some (.rt (.bl true), [some m', x1, x2, x3, x4, x5, x6, none, none]) := (sSeq_nx (sFor_val it lp)).trans (sRet_val s3)
  exact ⟨m', fnS_rt (n := 9) (np := 1) (kp := kpL [0]) rfl p6⟩
theorem sLc_val {own : List Nat} {it : SI} {b : Bd} {t : STe} {el : SE} {env e1 e2 : T.Env} {ms acc : List D} (h : it env = some (.ok ms, e1)) (hl : ms.length ≤ 100000) (k : lcLoop own b t el ms [] (wipeE own e1) = some (acc, e2)) : sLc own it b t el env = some (.ok (.lst true acc), restE e1 own e2) := by
  unfold sLc
  rw [h]
  simp only []
  rw [if_pos hl, k]
theorem law_ok (ns : List Int) : ∃ os, F_P_law [.klst (ns.map .int)] = some (.ok (.bl true), os) := by
  obtain ⟨c, c4, ce⟩ := cells_ok ns
  have fk : fz (D.klst (ns.map .int)) = true := by simp
  have c1 : sCallA F_cells (aN 0 (aE (sU (pK (.int 4))) aNil)) [some (.klst (ns.map .int)), none] = some (.ok (.lst true ((List.range c).map fun (i : Nat) => .int (i : Int))), [some (.klst (ns.map .int)), none]) := by
    have p1 : aN 0 (aE (sU (pK (.int 4))) aNil) [some (.klst (ns.map .int)), none] = some (.ok [.lend 0, .val (.int 4)], [some (.klst (ns.map .int)), none]) := by simp
    have p2 : takeA [.lend 0, .val (.int 4)] [some (.klst (ns.map .int)), none] = some ([.klst (ns.map .int), .int 4], [some (.klst (ns.map .int)), none]) := by simp
    have p3 := sCallA_val p1 p2 ce
    have p4 : backA [.lend 0, .val (.int 4)] [some (.klst (ns.map .int)), some (.int 4)] [some (.klst (ns.map .int)), none] = [some (.klst (ns.map .int)), none] := by simp
    rw [p4] at p3
    exact p3
  have it : iE (sCallA F_cells (aN 0 (aE (sU (pK (.int 4))) aNil))) [some (.klst (ns.map .int)), none] = some (.ok ((List.range c).map fun (i : Nat) => .int (i : Int)), [some (.klst (ns.map .int)), none]) := by
    have z : fzs ((List.range c).map fun (i : Nat) => D.int (i : Int)) = true := fzs_map _ fun _ => by simp
    rw [iE_ap, c1]
    simp only [seqD_1, z, if_true, Option.map_some]
  obtain ⟨acc, e', lp, he, ha⟩ := lcLoop_inv (own := [1]) (b := bName 1) (t := eYes) (el := sCallA F_fine (aE (sCallA F_pot (aN 0 (aN 1 aNil))) aNil)) (fun j acc env => env = [some (.klst (ns.map .int)), none] ∧ acc = List.replicate j (.bl true)) ((List.range c).map fun (i : Nat) => .int (i : Int))
    (fun j x acc env hx ⟨he, ha⟩ => by
      rw [List.getElem?_map] at hx
      cases q : (List.range c)[j]? with
      | none => rw [q] at hx; cases hx
      | some i =>
        rw [q] at hx
        cases hx
        have ic : i < c := List.mem_range.mp (List.mem_of_getElem? q)
        obtain ⟨m, a, pm⟩ := pot_ok ns i (by omega)
        obtain ⟨m', b⟩ := fine_ok pm
        have g1 : sCallA F_pot (aN 0 (aN 1 aNil)) [some (.klst (ns.map .int)), some (.int i)] = some (.ok m, [some (.klst (ns.map .int)), some (.int i)]) := by
          have p1 : aN 0 (aN 1 aNil) [some (.klst (ns.map .int)), some (.int i)] = some (.ok [.lend 0, .lend 1], [some (.klst (ns.map .int)), some (.int i)]) := by simp
          have p2 : takeA [.lend 0, .lend 1] [some (.klst (ns.map .int)), some (.int i)] = some ([.klst (ns.map .int), .int i], [some (.klst (ns.map .int)), some (.int i)]) := by simp
          have p3 := sCallA_val p1 p2 a
          have p4 : backA [.lend 0, .lend 1] [some (.klst (ns.map .int)), some (.int i)] [some (.klst (ns.map .int)), some (.int i)] = [some (.klst (ns.map .int)), some (.int i)] := by simp
          rw [p4] at p3
          exact p3
        have g2 : sCallA F_fine (aE (sCallA F_pot (aN 0 (aN 1 aNil))) aNil) [some (.klst (ns.map .int)), some (.int i)] = some (.ok (.bl true), [some (.klst (ns.map .int)), some (.int i)]) := by
          have p1 : aE (sCallA F_pot (aN 0 (aN 1 aNil))) aNil [some (.klst (ns.map .int)), some (.int i)] = some (.ok [.val m], [some (.klst (ns.map .int)), some (.int i)]) := by
            rw [aE_ap, g1]
            simp
          have p2 : takeA [.val m] [some (.klst (ns.map .int)), some (.int i)] = some ([m], [some (.klst (ns.map .int)), some (.int i)]) := by simp
          have p3 := sCallA_val p1 p2 b
          have p4 : backA [.val m] [some m'] [some (.klst (ns.map .int)), some (.int i)] = [some (.klst (ns.map .int)), some (.int i)] := by simp
          rw [p4] at p3
          exact p3
        refine ⟨[some (.klst (ns.map .int)), some (.int i)], [some (.klst (ns.map .int)), some (.int i)], .bl true, [some (.klst (ns.map .int)), some (.int i)], by rw [he]; simp, by simp, g2, by simp, ?_⟩
        rw [ha, List.replicate_succ'])
    [] [some (.klst (ns.map .int)), none] ⟨rfl, rfl⟩
  rw [List.length_map, List.length_range] at ha
  rw [he, ha] at lp
  have lc := sLc_val it (by rw [List.length_map, List.length_range]; omega) (b := bName 1) (t := eYes) (own := [1]) (el := sCallA F_fine (aE (sCallA F_pot (aN 0 (aN 1 aNil))) aNil)) lp
  have bl : boolsL (List.replicate c (D.bl true)) = some (List.replicate c true) := by
    clear lp lc ha it c1 ce c4
    induction c with
    | zero => rfl
    | succ c ih => rw [List.replicate_succ, List.replicate_succ, boolsL, ih]; rfl
  have al : allD [.lst true (List.replicate c (D.bl true))] = some (.bl true) := by
    simp only [allD, bl, Option.map_some]
    simp
  have re : restE [some (.klst (ns.map .int)), none] [1] [some (.klst (ns.map .int)), none] = [some (.klst (ns.map .int)), none] := by simp
  rw [re] at lc
  have s : sC allD (aE (sLc [1] (iE (sCallA F_cells (aN 0 (aE (sU (pK (.int 4))) aNil)))) (bName 1) eYes (sCallA F_fine (aE (sCallA F_pot (aN 0 (aN 1 aNil))) aNil))) aNil) [some (.klst (ns.map .int)), none] = some (.ok (.bl true), [some (.klst (ns.map .int)), none]) := by
    rw [sC_ap, aE_ap, lc]
    simp only [aNil_ap, lookA_1, lookA_0, sOpt_ap, al, Option.map_some]
  have p6 : b_P_law ([.klst (ns.map .int)].map some ++ List.replicate (2 - 1) none) = some (.rt (.bl true), [some (.klst (ns.map .int)), none]) := sRet_val s
  exact ⟨_, fnS_rt (n := 2) (np := 1) (kp := kpL [0]) rfl p6⟩
end Q

set_option Elab.async false
set_option linter.all false
set_option maxRecDepth 100000
set_option maxHeartbeats 4000000
namespace Q
open PySem PySem.Spec PyProof.Rows L2 T
def top (i : Nat) : Stmt := PySem.Challenge.pw_holdplates_k01_levels_told.main.body.getD i (.Pass ⟨0, 0, 0, 0⟩)
section
variable {P : Program} {w : World} {K : PySem.W.Frag} {mg : Str → Option Value} {base : Heap}
abbrev st_P_greater : Stmt := top 5
theorem sc_P_greater : FnScope ["one", "other", "number", "beside"] ["one", "other"] (defScope st_P_greater) := ⟨rfl, rfl, rfl, by decide +kernel, rfl, by decide +kernel, by decide +kernel⟩
theorem ok_P_greater {f : Addr} {fd : FuncData} (F : Fun K "greater" "greater" st_P_greater f fd) (B : Blt mg)  : T.FnOk P w K mg base (L2.CX P w) 1 f fd ["one", "other"] (spF ⟨K, mg⟩ F_P_greater) := by
  have sc := sc_P_greater
  refine fn_ok (N := ["one", "other", "number", "beside"]) (ps := ["one", "other"]) (k := 0) (kp := kpL [0, 1]) (s := b_P_greater) F sc (by decide) (kpL_lt (by decide)) fun cdv A outer s0 H E hr => ?_
  have tk : Takes (cxOf (L2.CX P w) P w K mg base ["one", "other", "number", "beside"] "greater" (defScope st_P_greater) f cdv A outer s0 H E) (fun cls d _ H => E cls d H) := takes_of rfl rfl rfl rfl
  exact (S_one (S_ret (E_of (U_ty call_tuple_of cd_tuple (by rfl) B.tuple PyProof.Rows.boot_tuple (AV_cons (V_of (U_lc (own := [("number", 2), ("beside", 3)]) rfl sc.nd (blkOk_by (N := ["one", "other", "number", "beside"]) (sc := defScope st_P_greater) (own := [("number", 2), ("beside", 3)]) (by decide +kernel)) (IV_zip (by rfl) B.zip (AV_cons (V_var (pv 0)) (AV_cons (V_var (pv 1)) AV_nil))) (fun _ _ _ _ _ => (GU_tup rfl (GUs_cons (GU_name sc.nd rfl (by first | exact Or.inl rfl | exact Or.inr rfl) rfl) (GUs_cons (GU_name sc.nd rfl (by first | exact Or.inl rfl | exact Or.inr rfl) rfl) GUs_nil)))) (fun _ _ _ _ _ => PsU_nil) (fun _ _ _ _ _ => (U_bi (call_max2 rfl) cd_max2 (by rfl) B.max PyProof.Rows.boot_max (AV_cons (V_of (U_ty cr_intA cd_int (by rfl) B.int PyProof.Rows.boot_int (AV_cons (V_var (pv 2)) AV_nil))) (AV_cons (V_of (U_ty cr_intA cd_int (by rfl) B.int PyProof.Rows.boot_int (AV_cons (V_var (pv 3)) AV_nil))) AV_nil)))))) AV_nil)))))
abbrev st_P_is_within : Stmt := top 6
theorem sc_P_is_within : FnScope ["one", "other", "number", "beside"] ["one", "other"] (defScope st_P_is_within) := ⟨rfl, rfl, rfl, by decide +kernel, rfl, by decide +kernel, by decide +kernel⟩
theorem ok_P_is_within {f : Addr} {fd : FuncData} (F : Fun K "is_within" "is_within" st_P_is_within f fd) (B : Blt mg)  : T.FnOk P w K mg base (L2.CX P w) 1 f fd ["one", "other"] (spF ⟨K, mg⟩ F_P_is_within) := by
  have sc := sc_P_is_within
  refine fn_ok (N := ["one", "other", "number", "beside"]) (ps := ["one", "other"]) (k := 0) (kp := kpL [0, 1]) (s := b_P_is_within) F sc (by decide) (kpL_lt (by decide)) fun cdv A outer s0 H E hr => ?_
  have tk : Takes (cxOf (L2.CX P w) P w K mg base ["one", "other", "number", "beside"] "is_within" (defScope st_P_is_within) f cdv A outer s0 H E) (fun cls d _ H => E cls d H) := takes_of rfl rfl rfl rfl
  exact (S_one (S_ret (E_of (U_bi (cr_all rfl) cd_all (by rfl) B.all PyProof.Rows.boot_all (AV_cons (V_of (U_lc (own := [("number", 2), ("beside", 3)]) rfl sc.nd (blkOk_by (N := ["one", "other", "number", "beside"]) (sc := defScope st_P_is_within) (own := [("number", 2), ("beside", 3)]) (by decide +kernel)) (IV_zip (by rfl) B.zip (AV_cons (V_var (pv 0)) (AV_cons (V_var (pv 1)) AV_nil))) (fun _ _ _ _ _ => (GU_tup rfl (GUs_cons (GU_name sc.nd rfl (by first | exact Or.inl rfl | exact Or.inr rfl) rfl) (GUs_cons (GU_name sc.nd rfl (by first | exact Or.inl rfl | exact Or.inr rfl) rfl) GUs_nil)))) (fun _ _ _ _ _ => PsU_nil) (fun _ _ _ _ _ => (U_cmp op_le (o2_cmp fun i j => decide (i ≤ j)) (nomark _) (V_var (pv 2)) (V_var (pv 3)))))) AV_nil)))))
abbrev st_P_least_of : Stmt := top 7
theorem sc_P_least_of : FnScope ["rows", "some", "row", "other"] ["rows"] (defScope st_P_least_of) := ⟨rfl, rfl, rfl, by decide +kernel, rfl, by decide +kernel, by decide +kernel⟩
theorem ok_P_least_of {f : Addr} {fd : FuncData} (F : Fun K "least_of" "least_of" st_P_least_of f fd) (B : Blt mg) (d_P_is_within : Df P w K mg base 1 "is_within" F_P_is_within) : T.FnOk P w K mg base (L2.CX P w) 2 f fd ["rows"] (spF ⟨K, mg⟩ F_P_least_of) := by
  have sc := sc_P_least_of
  refine fn_ok (N := ["rows", "some", "row", "other"]) (ps := ["rows"]) (k := 1) (kp := kpL [0]) (s := b_P_least_of) F sc (by decide) (kpL_lt (by decide)) fun cdv A outer s0 H E hr => ?_
  have tk : Takes (cxOf (L2.CX P w) P w K mg base ["rows", "some", "row", "other"] "least_of" (defScope st_P_least_of) f cdv A outer s0 H E) (fun cls d _ H => E cls d H) := takes_of rfl rfl rfl rfl
  exact (S_cons (S_set sc.nd rfl (by first | exact Or.inl rfl | exact Or.inr rfl) rfl (E_of (U_sortSet hr rfl (by rfl) B.sorted (by rfl) B.set (V_var (pv 0)))))
    (S_one (S_ret (E_of (U_thaw (U_lc (own := [("row", 2)]) rfl sc.nd (blkOk_by (N := ["rows", "some", "row", "other"]) (sc := defScope st_P_least_of) (own := [("row", 2)]) (by decide +kernel)) (IV_seq (V_var (pv 1))) (fun _ _ _ _ _ => (GU_name sc.nd rfl (by first | exact Or.inl rfl | exact Or.inr rfl) rfl)) (fun _ _ _ _ _ => (PsU_one (TU_not (TU_tru (V_of (U_bi (cr_any rfl) cd_any (by rfl) B.any PyProof.Rows.boot_any (AV_cons (V_of (U_lc (own := [("other", 3)]) rfl sc.nd (blkOk_by  (own := [("other", 3)]) (by rfl)) (IV_seq (V_var (pv 1))) (fun _ _ _ _ _ => (GU_name sc.nd rfl (by first | exact Or.inl rfl | exact Or.inr rfl) rfl)) (fun _ _ _ _ _ => PsU_nil) (fun _ _ _ _ _ => (U_and (V_of (U_cmp (op_neD (hu64 hr)) o2_ne (nomark _) (V_var (pv 3)) (V_var (pv 2)))) (one_u (U_call d_P_is_within hr (by decide) (by rfl) (AV_cons (V_var (pv 3)) (AV_cons (V_var (pv 2)) AV_nil)))))))) AV_nil))))))) (fun _ _ _ _ _ => (U_var (pv 2)))))))))
abbrev st_P_shares : Stmt := top 8
theorem sc_P_shares : FnScope ["number", "kinds", "own"] ["number", "kinds"] (defScope st_P_shares) := ⟨rfl, rfl, rfl, by decide +kernel, rfl, by decide +kernel, by decide +kernel⟩
theorem ok_P_shares {f : Addr} {fd : FuncData} (F : Fun K "shares" "shares" st_P_shares f fd) (B : Blt mg)  : T.FnOk P w K mg base (L2.CX P w) 1 f fd ["number", "kinds"] (spF ⟨K, mg⟩ F_P_shares) := by
  have sc := sc_P_shares
  refine fn_ok (N := ["number", "kinds", "own"]) (ps := ["number", "kinds"]) (k := 0) (kp := kpL [0, 1]) (s := b_P_shares) F sc (by decide) (kpL_lt (by decide)) fun cdv A outer s0 H E hr => ?_
  have tk : Takes (cxOf (L2.CX P w) P w K mg base ["number", "kinds", "own"] "shares" (defScope st_P_shares) f cdv A outer s0 H E) (fun cls d _ H => E cls d H) := takes_of rfl rfl rfl rfl
  exact (S_one (S_ret (E_of (U_if (TU_cmp (op_eqD (hu64 hr)) o2_eq (nomark _) (V_var (pv 1)) (V_of U_int)) (U_lst (AU_cons (U_tup (AU_cons (U_var (pv 0)) AU_nil)) AU_nil)) (U_lc (own := [("own", 2)]) rfl sc.nd (blkOk_by (N := ["number", "kinds", "own"]) (sc := defScope st_P_shares) (own := [("own", 2)]) (by decide +kernel)) (IV_of (IU_rng1 (by rfl) B.range (AV_cons (V_of (U_op or_add o2_add (V_var (pv 0)) (V_of U_int))) AV_nil))) (fun _ _ _ _ _ => (GU_name sc.nd rfl (by first | exact Or.inl rfl | exact Or.inr rfl) rfl)) (fun _ _ _ _ _ => PsU_nil) (fun _ _ _ _ _ => (U_tup (AU_cons (U_var (pv 2)) (AU_cons (U_op op_sub o2_sub (V_var (pv 0)) (V_var (pv 2))) AU_nil)))))))))
abbrev st_P_plate_needs : Stmt := top 9
theorem sc_P_plate_needs : FnScope ["plate", "places", "kinds", "name", "room", "number", "kind", "found", "share", "own", "place", "one", "part"] ["plate", "places", "kinds"] (defScope st_P_plate_needs) := ⟨rfl, rfl, rfl, by decide +kernel, rfl, by decide +kernel, by decide +kernel⟩
theorem ok_P_plate_needs {f : Addr} {fd : FuncData} (F : Fun K "plate_needs" "plate_needs" st_P_plate_needs f fd) (B : Blt mg) (d_P_shares : Df P w K mg base 1 "shares" F_P_shares) : T.FnOk P w K mg base (L2.CX P w) 2 f fd ["plate", "places", "kinds"] (spF ⟨K, mg⟩ F_P_plate_needs) := by
  have sc := sc_P_plate_needs
  refine fn_ok (N := ["plate", "places", "kinds", "name", "room", "number", "kind", "found", "share", "own", "place", "one", "part"]) (ps := ["plate", "places", "kinds"]) (k := 1) (kp := kpL [0, 1, 2]) (s := b_P_plate_needs) F sc (by decide) (kpL_lt (by decide)) fun cdv A outer s0 H E hr => ?_
  have tk : Takes (cxOf (L2.CX P w) P w K mg base ["plate", "places", "kinds", "name", "room", "number", "kind", "found", "share", "own", "place", "one", "part"] "plate_needs" (defScope st_P_plate_needs) f cdv A outer s0 H E) (fun cls d _ H => E cls d H) := takes_of rfl rfl rfl rfl
  exact (S_cons (S_asg (E_of (U_var (pv 0))) (G_tup rfl (Gs_cons (G_name sc.nd rfl (by first | exact Or.inl rfl | exact Or.inr rfl) rfl) (Gs_cons (G_name sc.nd rfl (by first | exact Or.inl rfl | exact Or.inr rfl) rfl) (Gs_cons (G_name sc.nd rfl (by first | exact Or.inl rfl | exact Or.inr rfl) rfl) (Gs_cons (G_name sc.nd rfl (by first | exact Or.inl rfl | exact Or.inr rfl) rfl) Gs_nil))))))
    (S_cons (S_if (TE_of (TU_cmp op_notN o2_isNot (nomark _) (V_var (pv 6)) (V_of U_non))) (S_one (S_ret (E_of (U_lst (AU_cons (U_ty call_tuple_of cd_tuple (by rfl) B.tuple PyProof.Rows.boot_tuple (AV_cons (V_of (U_lc (own := [("place", 10)]) rfl sc.nd (blkOk_by (N := ["plate", "places", "kinds", "name", "room", "number", "kind", "found", "share", "own", "place", "one", "part"]) (sc := defScope st_P_plate_needs) (own := [("place", 10)]) (by decide +kernel)) (IV_seq (V_var (pv 1))) (fun _ _ _ _ _ => (GU_name sc.nd rfl (by first | exact Or.inl rfl | exact Or.inr rfl) rfl)) (fun _ _ _ _ _ => PsU_nil) (fun _ _ _ _ _ => (U_op or_mul o2_mul (V_var (pv 5)) (V_of (U_ty cr_intA cd_int (by rfl) B.int PyProof.Rows.boot_int (AV_cons (V_of (U_cmp (op_eqD (hu64 hr)) o2_eq (nomark _) (V_var (pv 10)) (V_of (U_tup (AU_cons (U_var (pv 6)) (AU_cons (U_var (pv 4)) AU_nil)))))) AV_nil))))))) AV_nil)) AU_nil))))) S_nil)
    (S_cons (S_set sc.nd rfl (by first | exact Or.inl rfl | exact Or.inr rfl) rfl (E_of (U_lst AU_nil)))
    (S_cons (S_for (passes_of rfl) rfl (IE_of (IU_seq (U_callU d_P_shares hr (by decide) (by rfl) (AU_cons (U_var (pv 5)) (AU_cons (U_bi cr_lenA cd_len (by rfl) B.len PySem.boot_len (AV_cons (V_var (pv 2)) AV_nil)) AU_nil))))) (G_name sc.nd rfl (by first | exact Or.inl rfl | exact Or.inr rfl) rfl) (S_cons (S_set sc.nd rfl (by first | exact Or.inl rfl | exact Or.inr rfl) rfl (E_of (U_dc (own := [("one", 11), ("part", 12)]) hr rfl sc.nd (blkOk_by (N := ["plate", "places", "kinds", "name", "room", "number", "kind", "found", "share", "own", "place", "one", "part"]) (sc := defScope st_P_plate_needs) (own := [("one", 11), ("part", 12)]) (by decide +kernel)) (IV_zip (by rfl) B.zip (AV_cons (V_var (pv 2)) (AV_cons (V_var (pv 8)) AV_nil))) (fun _ _ _ _ _ => (GU_tup rfl (GUs_cons (GU_name sc.nd rfl (by first | exact Or.inl rfl | exact Or.inr rfl) rfl) (GUs_cons (GU_name sc.nd rfl (by first | exact Or.inl rfl | exact Or.inr rfl) rfl) GUs_nil)))) (fun _ _ _ _ _ => PsU_nil) (fun _ _ _ _ _ => (U_tup (AU_cons (U_var (pv 11)) (AU_cons (U_var (pv 4)) AU_nil)))) (fun _ _ _ _ _ => (U_var (pv 12))))))
    (S_one (S_expr (E_lm lm_append (pe_bm PySem.F.plainAttrs_list PySem.F.slot_list_append PySem.F.type_list_append mt_append (pv 7) (pa_cons (E_of (U_ty call_tuple_of cd_tuple (by rfl) B.tuple PyProof.Rows.boot_tuple (AV_cons (V_of (U_lc (own := [("place", 10)]) rfl sc.nd (blkOk_by (N := ["plate", "places", "kinds", "name", "room", "number", "kind", "found", "share", "own", "place", "one", "part"]) (sc := defScope st_P_plate_needs) (own := [("place", 10)]) (by decide +kernel)) (IV_seq (V_var (pv 1))) (fun _ _ _ _ _ => (GU_name sc.nd rfl (by first | exact Or.inl rfl | exact Or.inr rfl) rfl)) (fun _ _ _ _ _ => PsU_nil) (fun _ _ _ _ _ => (U_dg2 hr (V_var (pv 9)) (V_var (pv 10)) (V_of U_int))))) AV_nil))) pa_nil)))))))
    (S_one (S_ret (E_move (pv 7))))))))
abbrev st_P_gate_needs : Stmt := top 10
theorem sc_P_gate_needs : FnScope ["plates", "places", "kinds", "found", "plate", "one", "other"] ["plates", "places", "kinds"] (defScope st_P_gate_needs) := ⟨rfl, rfl, rfl, by decide +kernel, rfl, by decide +kernel, by decide +kernel⟩
theorem ok_P_gate_needs {f : Addr} {fd : FuncData} (F : Fun K "gate_needs" "gate_needs" st_P_gate_needs f fd) (B : Blt mg) (d_P_plate_needs : Df P w K mg base 2 "plate_needs" F_P_plate_needs) (d_P_greater : Df P w K mg base 1 "greater" F_P_greater) (d_P_least_of : Df P w K mg base 2 "least_of" F_P_least_of) : T.FnOk P w K mg base (L2.CX P w) 3 f fd ["plates", "places", "kinds"] (spF ⟨K, mg⟩ F_P_gate_needs) := by
  have sc := sc_P_gate_needs
  refine fn_ok (N := ["plates", "places", "kinds", "found", "plate", "one", "other"]) (ps := ["plates", "places", "kinds"]) (k := 2) (kp := kpL [0, 1, 2]) (s := b_P_gate_needs) F sc (by decide) (kpL_lt (by decide)) fun cdv A outer s0 H E hr => ?_
  have tk : Takes (cxOf (L2.CX P w) P w K mg base ["plates", "places", "kinds", "found", "plate", "one", "other"] "gate_needs" (defScope st_P_gate_needs) f cdv A outer s0 H E) (fun cls d _ H => E cls d H) := takes_of rfl rfl rfl rfl
  exact (S_cons (S_set sc.nd rfl (by first | exact Or.inl rfl | exact Or.inr rfl) rfl (E_of (U_lst (AU_cons (U_op or_mul o2_mul (V_of (U_tup (AU_cons U_int AU_nil))) (V_of (U_bi cr_lenA cd_len (by rfl) B.len PySem.boot_len (AV_cons (V_var (pv 1)) AV_nil)))) AU_nil))))
    (S_cons (S_for (passes_of rfl) rfl (IE_seq (E_fz (pv 0))) (G_name sc.nd rfl (by first | exact Or.inl rfl | exact Or.inr rfl) rfl) (S_one (S_setLc2 (i := 3) (own := [("one", 5), ("other", 6)]) (vs1 := [6]) rfl sc.nd rfl rfl rfl (sw_true rfl rfl rfl (by decide +kernel)) (blkOk_by (N := ["plates", "places", "kinds", "found", "plate", "one", "other"]) (sc := defScope st_P_gate_needs) (own := [("one", 5), ("other", 6)]) (by decide +kernel)) (by decide) (IV_seq (V_var (pv 3))) (fun _ _ _ _ _ => (GU_name sc.nd rfl (by first | exact Or.inl rfl | exact Or.inr rfl) rfl)) (fun _ _ _ _ _ => PsU_nil) (fun _ _ _ _ _ => (IU_seq (U_call d_P_plate_needs hr (by decide) (by rfl) (AV_cons (V_var (pv 4)) (AV_cons (V_var (pv 1)) (AV_cons (V_var (pv 2)) AV_nil)))))) (fun _ _ _ _ _ => (GU_name sc.nd rfl (by first | exact Or.inl rfl | exact Or.inr rfl) rfl)) (fun _ _ _ _ _ => PsU_nil) (fun _ _ _ _ _ => (U_call d_P_greater hr (by decide) (by rfl) (AV_cons (V_var (pv 5)) (AV_cons (V_var (pv 6)) AV_nil)))))))
    (S_one (S_ret (E_of (U_thaw (U_ty call_tuple_of cd_tuple (by rfl) B.tuple PyProof.Rows.boot_tuple (AV_cons (V_of (U_call d_P_least_of hr (by decide) (by rfl) (AV_cons (V_var (pv 3)) AV_nil))) AV_nil))))))))
abbrev st_P_is_name : Stmt := top 14
theorem sc_P_is_name : FnScope ["value", "sign"] ["value"] (defScope st_P_is_name) := ⟨rfl, rfl, rfl, by decide +kernel, rfl, by decide +kernel, by decide +kernel⟩
theorem ok_P_is_name {f : Addr} {fd : FuncData} (F : Fun K "is_name" "is_name" st_P_is_name f fd) (B : Blt mg) (c_LETTERS : GC K mg "LETTERS" (.str "abcdefghijklmnopqrstuvwxyz")) (c_LONGEST : GC K mg "LONGEST" (.int 8)) (i_str : IsT K mg [] "str") : T.FnOk P w K mg base (L2.CX P w) 1 f fd ["value"] (spF ⟨K, mg⟩ F_P_is_name) := by
  have sc := sc_P_is_name
  refine fn_ok (N := ["value", "sign"]) (ps := ["value"]) (k := 0) (kp := kpL [0]) (s := b_P_is_name) F sc (by decide) (kpL_lt (by decide)) fun cdv A outer s0 H E hr => ?_
  have tk : Takes (cxOf (L2.CX P w) P w K mg base ["value", "sign"] "is_name" (defScope st_P_is_name) f cdv A outer s0 H E) (fun cls d _ H => E cls d H) := takes_of rfl rfl rfl rfl
  exact (S_one (S_ret (E_of (U_and (V_of (U_isT tb_str i_str (by rfl) B.isinstance (by rfl) (B.str) (by decide +kernel) (V_var (pv 0)))) (U_and (V_of (U_chain op_le op_le (o2_cmp fun i j => decide (i ≤ j)) (o2_cmp fun i j => decide (i ≤ j)) (V_of U_int) (V_of (U_bi cr_lenA cd_len (by rfl) B.len PySem.boot_len (AV_cons (V_var (pv 0)) AV_nil))) (V_of (U_gc (by rfl) c_LONGEST)))) (one_u (U_bi (cr_all rfl) cd_all (by rfl) B.all PyProof.Rows.boot_all (AV_cons (V_of (U_lc (own := [("sign", 1)]) rfl sc.nd (blkOk_by (N := ["value", "sign"]) (sc := defScope st_P_is_name) (own := [("sign", 1)]) (by decide +kernel)) (IV_str (V_var (pv 0))) (fun _ _ _ _ _ => (GU_name sc.nd rfl (by first | exact Or.inl rfl | exact Or.inr rfl) rfl)) (fun _ _ _ _ _ => PsU_nil) (fun _ _ _ _ _ => (U_cmp op_in_sign o2_inTx (by rfl) (V_var (pv 1)) (V_of (U_gc (by rfl) c_LETTERS)))))) AV_nil))))))))
abbrev st_P_is_fresh : Stmt := top 28
theorem sc_P_is_fresh : FnScope ["name", "names"] ["name", "names"] (defScope st_P_is_fresh) := ⟨rfl, rfl, rfl, by decide +kernel, rfl, by decide +kernel, by decide +kernel⟩
theorem ok_P_is_fresh {f : Addr} {fd : FuncData} (F : Fun K "is_fresh" "is_fresh" st_P_is_fresh f fd) (B : Blt mg) (d_P_is_name : Df P w K mg base 1 "is_name" F_P_is_name) : T.FnOk P w K mg base (L2.CX P w) 2 f fd ["name", "names"] (spF ⟨K, mg⟩ F_P_is_fresh) := by
  have sc := sc_P_is_fresh
  refine fn_ok (N := ["name", "names"]) (ps := ["name", "names"]) (k := 1) (kp := kpL [0, 1]) (s := b_P_is_fresh) F sc (by decide) (kpL_lt (by decide)) fun cdv A outer s0 H E hr => ?_
  have tk : Takes (cxOf (L2.CX P w) P w K mg base ["name", "names"] "is_fresh" (defScope st_P_is_fresh) f cdv A outer s0 H E) (fun cls d _ H => E cls d H) := takes_of rfl rfl rfl rfl
  exact (S_one (S_ret (E_of (U_thaw (U_and (V_of (U_call d_P_is_name hr (by decide) (by rfl) (AV_cons (V_var (pv 0)) AV_nil))) (one_u (U_cmp (or_notIn (hu65 hr)) o2_notIn (by rfl) (V_var (pv 0)) (V_var (pv 1)))))))))
abbrev st_Reader_init : Stmt := inClass (top 27) 0
theorem sc_Reader_init : FnScope ["self"] ["self"] (defScope st_Reader_init) := ⟨rfl, rfl, rfl, by decide +kernel, rfl, by decide +kernel, by decide +kernel⟩
theorem ok_Reader_init {f : Addr} {fd : FuncData} (F : Fun K "__init__" "Reader.__init__" st_Reader_init f fd) (B : Blt mg) (n_Reader_own_rooms : ∀ c ∈ (["Reader"] : List Str), FldOk K mg c "own_rooms") (n_Reader_own_kinds : ∀ c ∈ (["Reader"] : List Str), FldOk K mg c "own_kinds") (n_Reader_own_plates : ∀ c ∈ (["Reader"] : List Str), FldOk K mg c "own_plates") (n_Reader_own_gates : ∀ c ∈ (["Reader"] : List Str), FldOk K mg c "own_gates") : T.FnOk P w K mg base (L2.CX P w) 1 f fd ["self"] (spF ⟨K, mg⟩ F_Reader_init) := by
  have sc := sc_Reader_init
  refine fn_ok (N := ["self"]) (ps := ["self"]) (k := 0) (kp := kpL [0]) (s := b_Reader_init) F sc (by decide) (kpL_lt (by decide)) fun cdv A outer s0 H E hr => ?_
  have tk : Takes (cxOf (L2.CX P w) P w K mg base ["self"] "Reader.__init__" (defScope st_Reader_init) f cdv A outer s0 H E) (fun cls d _ H => E cls d H) := takes_of rfl rfl rfl rfl
  exact (S_cons (S_fld n_Reader_own_rooms (pv 0) (E_of (U_lst AU_nil)))
    (S_cons (S_fld n_Reader_own_kinds (pv 0) (E_of (U_lst AU_nil)))
    (S_cons (S_fld n_Reader_own_plates (pv 0) (E_of (U_lst AU_nil)))
    (S_one (S_fld n_Reader_own_gates (pv 0) (E_of (U_lst AU_nil)))))))
abbrev st_Reader_kind_names : Stmt := inClass (top 27) 8
theorem sc_Reader_kind_names : FnScope ["self", "name", "room"] ["self"] (defScope st_Reader_kind_names) := ⟨rfl, rfl, rfl, by decide +kernel, rfl, by decide +kernel, by decide +kernel⟩
theorem ok_Reader_kind_names {f : Addr} {fd : FuncData} (F : Fun K "kind_names" "Reader.kind_names" st_Reader_kind_names f fd) (B : Blt mg) (n_Reader_own_kinds : ∀ c ∈ (["Reader"] : List Str), FldOk K mg c "own_kinds") : T.FnOk P w K mg base (L2.CX P w) 1 f fd ["self"] (spF ⟨K, mg⟩ F_Reader_kind_names) := by
  have sc := sc_Reader_kind_names
  refine fn_ok (N := ["self", "name", "room"]) (ps := ["self"]) (k := 0) (kp := kpL [0]) (s := b_Reader_kind_names) F sc (by decide) (kpL_lt (by decide)) fun cdv A outer s0 H E hr => ?_
  have tk : Takes (cxOf (L2.CX P w) P w K mg base ["self", "name", "room"] "Reader.kind_names" (defScope st_Reader_kind_names) f cdv A outer s0 H E) (fun cls d _ H => E cls d H) := takes_of rfl rfl rfl rfl
  exact (S_one (S_ret (E_of (U_lc (own := [("name", 1), ("room", 2)]) rfl sc.nd (blkOk_by (N := ["self", "name", "room"]) (sc := defScope st_Reader_kind_names) (own := [("name", 1), ("room", 2)]) (by decide +kernel)) (IV_seq (V_fld n_Reader_own_kinds (V_var (pv 0)))) (fun _ _ _ _ _ => (GU_tup rfl (GUs_cons (GU_name sc.nd rfl (by first | exact Or.inl rfl | exact Or.inr rfl) rfl) (GUs_cons (GU_name sc.nd rfl (by first | exact Or.inl rfl | exact Or.inr rfl) rfl) GUs_nil)))) (fun _ _ _ _ _ => PsU_nil) (fun _ _ _ _ _ => (U_var (pv 1)))))))
abbrev st_Reader_plate_names : Stmt := inClass (top 27) 9
theorem sc_Reader_plate_names : FnScope ["self", "plate"] ["self"] (defScope st_Reader_plate_names) := ⟨rfl, rfl, rfl, by decide +kernel, rfl, by decide +kernel, by decide +kernel⟩
theorem ok_Reader_plate_names {f : Addr} {fd : FuncData} (F : Fun K "plate_names" "Reader.plate_names" st_Reader_plate_names f fd) (B : Blt mg) (n_Reader_own_plates : ∀ c ∈ (["Reader"] : List Str), FldOk K mg c "own_plates") : T.FnOk P w K mg base (L2.CX P w) 1 f fd ["self"] (spF ⟨K, mg⟩ F_Reader_plate_names) := by
  have sc := sc_Reader_plate_names
  refine fn_ok (N := ["self", "plate"]) (ps := ["self"]) (k := 0) (kp := kpL [0]) (s := b_Reader_plate_names) F sc (by decide) (kpL_lt (by decide)) fun cdv A outer s0 H E hr => ?_
  have tk : Takes (cxOf (L2.CX P w) P w K mg base ["self", "plate"] "Reader.plate_names" (defScope st_Reader_plate_names) f cdv A outer s0 H E) (fun cls d _ H => E cls d H) := takes_of rfl rfl rfl rfl
  exact (S_one (S_ret (E_of (U_lc (own := [("plate", 1)]) rfl sc.nd (blkOk_by (N := ["self", "plate"]) (sc := defScope st_Reader_plate_names) (own := [("plate", 1)]) (by decide +kernel)) (IV_seq (V_fld n_Reader_own_plates (V_var (pv 0)))) (fun _ _ _ _ _ => (GU_name sc.nd rfl (by first | exact Or.inl rfl | exact Or.inr rfl) rfl)) (fun _ _ _ _ _ => PsU_nil) (fun _ _ _ _ _ => (U_ix (V_var (pv 1)) (V_of U_int)))))))
abbrev st_Reader_are_plates : Stmt := inClass (top 27) 7
theorem sc_Reader_are_plates : FnScope ["self", "names", "name"] ["self", "names"] (defScope st_Reader_are_plates) := ⟨rfl, rfl, rfl, by decide +kernel, rfl, by decide +kernel, by decide +kernel⟩
theorem ok_Reader_are_plates {f : Addr} {fd : FuncData} (F : Fun K "are_plates" "Reader.are_plates" st_Reader_are_plates f fd) (B : Blt mg) (c_MOST_HELD : GC K mg "MOST_HELD" (.int 2)) (m_Reader_plate_names : Mt P w K mg base 1 "Reader" "plate_names" F_Reader_plate_names) : T.FnOk P w K mg base (L2.CX P w) 2 f fd ["self", "names"] (spF ⟨K, mg⟩ F_Reader_are_plates) := by
  have sc := sc_Reader_are_plates
  refine fn_ok (N := ["self", "names", "name"]) (ps := ["self", "names"]) (k := 1) (kp := kpL [0, 1]) (s := b_Reader_are_plates) F sc (by decide) (kpL_lt (by decide)) fun cdv A outer s0 H E hr => ?_
  have tk : Takes (cxOf (L2.CX P w) P w K mg base ["self", "names", "name"] "Reader.are_plates" (defScope st_Reader_are_plates) f cdv A outer s0 H E) (fun cls d _ H => E cls d H) := takes_of rfl rfl rfl rfl
  exact (S_cons (S_if (TE_of (PW.pt (WU_or (TU_cmp op_gt (o2_cmp fun i j => decide (j < i)) (nomark _) (V_of (U_bi cr_lenA cd_len (by rfl) B.len PySem.boot_len (AV_cons (V_var (pv 1)) AV_nil))) (V_of (U_gc (by rfl) c_MOST_HELD))) (WU_or1 (TU_cmp (op_neD (hu64 hr)) o2_ne (nomark _) (V_of (U_lenSet rfl (by rfl) B.len (by rfl) B.set (V_var (pv 1)))) (V_of (U_bi cr_lenA cd_len (by rfl) B.len PySem.boot_len (AV_cons (V_var (pv 1)) AV_nil)))))))) (S_one (S_ret (E_of U_bl))) S_nil)
    (S_one (S_ret (E_of (U_thaw (U_bi (cr_all rfl) cd_all (by rfl) B.all PyProof.Rows.boot_all (AV_cons (V_of (U_lc (own := [("name", 2)]) rfl sc.nd (blkOk_by (N := ["self", "names", "name"]) (sc := defScope st_Reader_are_plates) (own := [("name", 2)]) (by decide +kernel)) (IV_seq (V_var (pv 1))) (fun _ _ _ _ _ => (GU_name sc.nd rfl (by first | exact Or.inl rfl | exact Or.inr rfl) rfl)) (fun _ _ _ _ _ => PsU_nil) (fun _ _ _ _ _ => (U_cmp (or_in (hu65 hr)) o2_in (by rfl) (V_var (pv 2)) (V_of (U_me0 m_Reader_plate_names hr (by decide) (V_var (pv 0)))))))) AV_nil)))))))
abbrev st_Reader_bound : Stmt := inClass (top 27) 6
theorem sc_Reader_bound : FnScope ["self", "more", "kind", "names"] ["self", "more"] (defScope st_Reader_bound) := ⟨rfl, rfl, rfl, by decide +kernel, rfl, by decide +kernel, by decide +kernel⟩
theorem ok_Reader_bound {f : Addr} {fd : FuncData} (F : Fun K "bound" "Reader.bound" st_Reader_bound f fd) (B : Blt mg) (c_PAIR : GC K mg "PAIR" (.int 2)) (c_FOR : GC K mg "FOR" (.str "for")) (m_Reader_kind_names : Mt P w K mg base 1 "Reader" "kind_names" F_Reader_kind_names) (c_WHILE : GC K mg "WHILE" (.str "while")) (m_Reader_are_plates : Mt P w K mg base 2 "Reader" "are_plates" F_Reader_are_plates) : T.FnOk P w K mg base (L2.CX P w) 3 f fd ["self", "more"] (spF ⟨K, mg⟩ F_Reader_bound) := by
  have sc := sc_Reader_bound
  refine fn_ok (N := ["self", "more", "kind", "names"]) (ps := ["self", "more"]) (k := 2) (kp := kpL [0]) (s := b_Reader_bound) F sc (by decide) (kpL_lt (by decide)) fun cdv A outer s0 H E hr => ?_
  have tk : Takes (cxOf (L2.CX P w) P w K mg base ["self", "more", "kind", "names"] "Reader.bound" (defScope st_Reader_bound) f cdv A outer s0 H E) (fun cls d _ H => E cls d H) := takes_of rfl rfl rfl rfl
  exact (S_cons (S_par2 rfl sc.nd rfl rfl (by decide) rfl rfl rfl rfl (A_cons (E_of U_non) (A_cons (E_of (U_lst AU_nil)) A_nil)))
    (S_cons (S_if (TE_of (PW.pt (WU_and (TU_cmp op_ge (o2_cmp fun i j => decide (j ≤ i)) (nomark _) (V_of (U_bi cr_lenA cd_len (by rfl) B.len PySem.boot_len (AV_cons (V_var (pv 1)) AV_nil))) (V_of (U_gc (by rfl) c_PAIR))) (WU_and1 (TU_cmp (op_eqD (hu64 hr)) o2_eq (nomark _) (V_of (U_ix (V_var (pv 1)) (V_of U_int))) (V_of (U_gc (by rfl) c_FOR))))))) (S_cons (S_par2 rfl sc.nd rfl rfl (by decide) rfl rfl rfl rfl (A_cons (E_of (U_ix (V_var (pv 1)) (V_of U_int))) (A_cons (E_of (U_sl (V_var (pv 1)) (PoS (V_of (U_gc (by rfl) c_PAIR))) PoN)) A_nil)))
    (S_one (S_if (TE_of (TU_cmp (or_notIn (hu65 hr)) o2_notIn (by rfl) (V_var (pv 2)) (V_of (U_thaw (U_me0 m_Reader_kind_names hr (by decide) (V_var (pv 0))))))) (S_one (S_ret (E_of U_non))) S_nil))) S_nil)
    (S_cons (S_if (TE_of (PW.pt (WU_and (TU_cmp (op_eqD (hu64 hr)) o2_eq (nomark _) (V_of (U_bi cr_lenA cd_len (by rfl) B.len PySem.boot_len (AV_cons (V_var (pv 1)) AV_nil))) (V_of (U_gc (by rfl) c_PAIR))) (WU_and1 (TU_cmp (op_eqD (hu64 hr)) o2_eq (nomark _) (V_of (U_ix (V_var (pv 1)) (V_of U_int))) (V_of (U_gc (by rfl) c_WHILE))))))) (S_cons (S_par2 rfl sc.nd rfl rfl (by decide) rfl rfl rfl rfl (A_cons (E_of (U_split (V_of (U_ix (V_var (pv 1)) (V_of U_int))) (V_of U_str))) (A_cons (E_of (U_lst AU_nil)) A_nil)))
    (S_one (S_if (TE_of (TU_not (TU_tru (V_of (U_thaw (U_me m_Reader_are_plates hr (by decide) (V_var (pv 0)) (AV_cons (V_var (pv 3)) AV_nil))))))) (S_one (S_ret (E_of U_non))) S_nil))) S_nil)
    (S_one (S_ret (E_of (U_if (TU_cmp (op_eqD (hu64 hr)) o2_eq (nomark _) (V_var (pv 1)) (V_of (U_lst AU_nil))) (U_tup (AU_cons (U_var (pv 2)) (AU_cons (U_ty call_tuple_of cd_tuple (by rfl) B.tuple PyProof.Rows.boot_tuple (AV_cons (V_var (pv 3)) AV_nil)) AU_nil))) U_non)))))))
abbrev st_Reader_take_room : Stmt := inClass (top 27) 2
theorem sc_Reader_take_room : FnScope ["self", "name"] ["self", "name"] (defScope st_Reader_take_room) := ⟨rfl, rfl, rfl, by decide +kernel, rfl, by decide +kernel, by decide +kernel⟩
theorem ok_Reader_take_room {f : Addr} {fd : FuncData} (F : Fun K "take_room" "Reader.take_room" st_Reader_take_room f fd) (B : Blt mg) (n_Reader_own_kinds : ∀ c ∈ (["Reader"] : List Str), FldOk K mg c "own_kinds") (n_Reader_own_rooms : ∀ c ∈ (["Reader"] : List Str), FldOk K mg c "own_rooms") (c_MOST_ROOMS : GC K mg "MOST_ROOMS" (.int 5)) (d_P_is_fresh : Df P w K mg base 2 "is_fresh" F_P_is_fresh) : T.FnOk P w K mg base (L2.CX P w) 3 f fd ["self", "name"] (spF ⟨K, mg⟩ F_Reader_take_room) := by
  have sc := sc_Reader_take_room
  refine fn_ok (N := ["self", "name"]) (ps := ["self", "name"]) (k := 2) (kp := kpL [0, 1]) (s := b_Reader_take_room) F sc (by decide) (kpL_lt (by decide)) fun cdv A outer s0 H E hr => ?_
  have tk : Takes (cxOf (L2.CX P w) P w K mg base ["self", "name"] "Reader.take_room" (defScope st_Reader_take_room) f cdv A outer s0 H E) (fun cls d _ H => E cls d H) := takes_of rfl rfl rfl rfl
  exact (S_cons (S_if (TE_of (PW.pt (WU_or (TU_cmp (op_neD (hu64 hr)) o2_ne (nomark _) (V_fld n_Reader_own_kinds (V_var (pv 0))) (V_of (U_lst AU_nil))) (WU_or (TU_cmp (op_eqD (hu64 hr)) o2_eq (nomark _) (V_of (U_bi cr_lenA cd_len (by rfl) B.len PySem.boot_len (AV_cons (V_fld n_Reader_own_rooms (V_var (pv 0))) AV_nil))) (V_of (U_gc (by rfl) c_MOST_ROOMS))) (WU_or1 (TU_not (TU_tru (V_of (U_thaw (U_call d_P_is_fresh hr (by decide) (by rfl) (AV_cons (V_var (pv 1)) (AV_cons (V_fld n_Reader_own_rooms (V_var (pv 0))) AV_nil)))))))))))) (S_one (S_ret (E_of U_bl))) S_nil)
    (S_cons (S_expr (E_lmF n_Reader_own_rooms lm_append PySem.F.plainAttrs_list PySem.F.slot_list_append PySem.F.type_list_append mt_append (pv 0) (U_var (pv 1))))
    (S_one (S_ret (E_of U_bl)))))
abbrev st_Reader_take_kind : Stmt := inClass (top 27) 3
theorem sc_Reader_take_kind : FnScope ["self", "name", "room", "most"] ["self", "name", "room"] (defScope st_Reader_take_kind) := ⟨rfl, rfl, rfl, by decide +kernel, rfl, by decide +kernel, by decide +kernel⟩
theorem ok_Reader_take_kind {f : Addr} {fd : FuncData} (F : Fun K "take_kind" "Reader.take_kind" st_Reader_take_kind f fd) (B : Blt mg) (n_Reader_own_rooms : ∀ c ∈ (["Reader"] : List Str), FldOk K mg c "own_rooms") (c_LEAST_ROOMS : GC K mg "LEAST_ROOMS" (.int 2)) (n_Reader_own_plates : ∀ c ∈ (["Reader"] : List Str), FldOk K mg c "own_plates") (n_Reader_own_gates : ∀ c ∈ (["Reader"] : List Str), FldOk K mg c "own_gates") (c_MOST_ROOMS : GC K mg "MOST_ROOMS" (.int 5)) (c_MOST_KINDS : GC K mg "MOST_KINDS" (.int 2)) (n_Reader_own_kinds : ∀ c ∈ (["Reader"] : List Str), FldOk K mg c "own_kinds") (m_Reader_kind_names : Mt P w K mg base 1 "Reader" "kind_names" F_Reader_kind_names) (d_P_is_fresh : Df P w K mg base 2 "is_fresh" F_P_is_fresh) : T.FnOk P w K mg base (L2.CX P w) 3 f fd ["self", "name", "room"] (spF ⟨K, mg⟩ F_Reader_take_kind) := by
  have sc := sc_Reader_take_kind
  refine fn_ok (N := ["self", "name", "room", "most"]) (ps := ["self", "name", "room"]) (k := 2) (kp := kpL [0, 1, 2]) (s := b_Reader_take_kind) F sc (by decide) (kpL_lt (by decide)) fun cdv A outer s0 H E hr => ?_
  have tk : Takes (cxOf (L2.CX P w) P w K mg base ["self", "name", "room", "most"] "Reader.take_kind" (defScope st_Reader_take_kind) f cdv A outer s0 H E) (fun cls d _ H => E cls d H) := takes_of rfl rfl rfl rfl
  exact (S_cons (S_if (TE_of (PW.pt (WU_or (TU_cmp op_lt (o2_cmp fun i j => decide (i < j)) (nomark _) (V_of (U_bi cr_lenA cd_len (by rfl) B.len PySem.boot_len (AV_cons (V_fld n_Reader_own_rooms (V_var (pv 0))) AV_nil))) (V_of (U_gc (by rfl) c_LEAST_ROOMS))) (WU_or1 (TU_cmp (op_neD (hu64 hr)) o2_ne (nomark _) (V_of (U_op or_add o2_add (V_fld n_Reader_own_plates (V_var (pv 0))) (V_fld n_Reader_own_gates (V_var (pv 0))))) (V_of (U_lst AU_nil))))))) (S_one (S_ret (E_of U_bl))) S_nil)
    (S_cons (S_set sc.nd rfl (by first | exact Or.inl rfl | exact Or.inr rfl) rfl (E_of (U_if (TU_cmp op_lt (o2_cmp fun i j => decide (i < j)) (nomark _) (V_of (U_bi cr_lenA cd_len (by rfl) B.len PySem.boot_len (AV_cons (V_fld n_Reader_own_rooms (V_var (pv 0))) AV_nil))) (V_of (U_gc (by rfl) c_MOST_ROOMS))) (U_gc (by rfl) c_MOST_KINDS) U_int)))
    (S_cons (S_if (TE_of (PW.pt (WU_or (TU_cmp (op_eqD (hu64 hr)) o2_eq (nomark _) (V_of (U_bi cr_lenA cd_len (by rfl) B.len PySem.boot_len (AV_cons (V_fld n_Reader_own_kinds (V_var (pv 0))) AV_nil))) (V_var (pv 3))) (WU_or (TU_cmp (or_notIn (hu65 hr)) o2_notIn (by rfl) (V_var (pv 2)) (V_fld n_Reader_own_rooms (V_var (pv 0)))) (WU_or1 (TU_not (TU_tru (V_of (U_thaw (U_callU d_P_is_fresh hr (by decide) (by rfl) (AU_cons (U_var (pv 1)) (AU_cons (U_me0 m_Reader_kind_names hr (by decide) (V_var (pv 0))) AU_nil)))))))))))) (S_one (S_ret (E_of U_bl))) S_nil)
    (S_cons (S_expr (E_lmF n_Reader_own_kinds lm_append PySem.F.plainAttrs_list PySem.F.slot_list_append PySem.F.type_list_append mt_append (pv 0) (U_tup (AU_cons (U_var (pv 1)) (AU_cons (U_var (pv 2)) AU_nil)))))
    (S_one (S_ret (E_of U_bl)))))))
abbrev st_Reader_take_plate : Stmt := inClass (top 27) 4
theorem sc_Reader_take_plate : FnScope ["self", "name", "room", "number", "more", "kind"] ["self", "name", "room", "number", "more"] (defScope st_Reader_take_plate) := ⟨rfl, rfl, rfl, by decide +kernel, rfl, by decide +kernel, by decide +kernel⟩
theorem ok_Reader_take_plate {f : Addr} {fd : FuncData} (F : Fun K "take_plate" "Reader.take_plate" st_Reader_take_plate f fd) (B : Blt mg) (n_Reader_own_kinds : ∀ c ∈ (["Reader"] : List Str), FldOk K mg c "own_kinds") (n_Reader_own_gates : ∀ c ∈ (["Reader"] : List Str), FldOk K mg c "own_gates") (n_Reader_own_plates : ∀ c ∈ (["Reader"] : List Str), FldOk K mg c "own_plates") (c_MOST_PLATES : GC K mg "MOST_PLATES" (.int 4)) (m_Reader_plate_names : Mt P w K mg base 1 "Reader" "plate_names" F_Reader_plate_names) (d_P_is_fresh : Df P w K mg base 2 "is_fresh" F_P_is_fresh) (n_Reader_own_rooms : ∀ c ∈ (["Reader"] : List Str), FldOk K mg c "own_rooms") (g_NUMBERS : GT K mg "NUMBERS" [.str "1", .str "2", .str "3"]) (m_Reader_kind_names : Mt P w K mg base 1 "Reader" "kind_names" F_Reader_kind_names) : T.FnOk P w K mg base (L2.CX P w) 3 f fd ["self", "name", "room", "number", "more"] (spF ⟨K, mg⟩ F_Reader_take_plate) := by
  have sc := sc_Reader_take_plate
  refine fn_ok (N := ["self", "name", "room", "number", "more", "kind"]) (ps := ["self", "name", "room", "number", "more"]) (k := 2) (kp := kpL [0, 1, 2, 3, 4]) (s := b_Reader_take_plate) F sc (by decide) (kpL_lt (by decide)) fun cdv A outer s0 H E hr => ?_
  have tk : Takes (cxOf (L2.CX P w) P w K mg base ["self", "name", "room", "number", "more", "kind"] "Reader.take_plate" (defScope st_Reader_take_plate) f cdv A outer s0 H E) (fun cls d _ H => E cls d H) := takes_of rfl rfl rfl rfl
  exact (S_cons (S_if (TE_of (PW.pt (WU_or (TU_cmp (op_eqD (hu64 hr)) o2_eq (nomark _) (V_fld n_Reader_own_kinds (V_var (pv 0))) (V_of (U_lst AU_nil))) (WU_or (TU_cmp (op_neD (hu64 hr)) o2_ne (nomark _) (V_fld n_Reader_own_gates (V_var (pv 0))) (V_of (U_lst AU_nil))) (WU_or1 (TU_cmp (op_eqD (hu64 hr)) o2_eq (nomark _) (V_of (U_bi cr_lenA cd_len (by rfl) B.len PySem.boot_len (AV_cons (V_fld n_Reader_own_plates (V_var (pv 0))) AV_nil))) (V_of (U_gc (by rfl) c_MOST_PLATES)))))))) (S_one (S_ret (E_of U_bl))) S_nil)
    (S_cons (S_if (TE_of (PW.pt (WU_or (TU_not (TU_tru (V_of (U_thaw (U_callU d_P_is_fresh hr (by decide) (by rfl) (AU_cons (U_var (pv 1)) (AU_cons (U_me0 m_Reader_plate_names hr (by decide) (V_var (pv 0))) AU_nil))))))) (WU_or (TU_cmp (or_notIn (hu65 hr)) o2_notIn (by rfl) (V_var (pv 2)) (V_fld n_Reader_own_rooms (V_var (pv 0)))) (WU_or1 (TU_ninG hr (by rfl) g_NUMBERS (V_var (pv 3)))))))) (S_one (S_ret (E_of U_bl))) S_nil)
    (S_cons (S_if (TE_of (PW.pt (WU_or (TU_cmp op_gt (o2_cmp fun i j => decide (j < i)) (nomark _) (V_of (U_bi cr_lenA cd_len (by rfl) B.len PySem.boot_len (AV_cons (V_var (pv 4)) AV_nil))) (V_of U_int)) (WU_or1 (TU_not (TU_tru (V_of (U_thaw (U_bi (cr_all rfl) cd_all (by rfl) B.all PyProof.Rows.boot_all (AV_cons (V_of (U_lc (own := [("kind", 5)]) rfl sc.nd (blkOk_by (N := ["self", "name", "room", "number", "more", "kind"]) (sc := defScope st_Reader_take_plate) (own := [("kind", 5)]) (by decide +kernel)) (IV_seq (V_var (pv 4))) (fun _ _ _ _ _ => (GU_name sc.nd rfl (by first | exact Or.inl rfl | exact Or.inr rfl) rfl)) (fun _ _ _ _ _ => PsU_nil) (fun _ _ _ _ _ => (U_cmp (or_in (hu65 hr)) o2_in (by rfl) (V_var (pv 5)) (V_of (U_me0 m_Reader_kind_names hr (by decide) (V_var (pv 0)))))))) AV_nil)))))))))) (S_one (S_ret (E_of U_bl))) S_nil)
    (S_cons (S_expr (E_lmF n_Reader_own_plates lm_append PySem.F.plainAttrs_list PySem.F.slot_list_append PySem.F.type_list_append mt_append (pv 0) (U_tup (AU_cons (U_var (pv 1)) (AU_cons (U_var (pv 2)) (AU_cons (U_ty cr_intA cd_int (by rfl) B.int PyProof.Rows.boot_int (AV_cons (V_var (pv 3)) AV_nil)) (AU_cons (U_if (TU_cmp (op_neD (hu64 hr)) o2_ne (nomark _) (V_var (pv 4)) (V_of (U_lst AU_nil))) (U_ix (V_var (pv 4)) (V_of U_int)) U_non) AU_nil)))))))
    (S_one (S_ret (E_of U_bl)))))))
abbrev st_Reader_take_gate : Stmt := inClass (top 27) 5
theorem sc_Reader_take_gate : FnScope ["self", "ends", "more", "name", "first", "second", "told", "gate"] ["self", "ends", "more"] (defScope st_Reader_take_gate) := ⟨rfl, rfl, rfl, by decide +kernel, rfl, by decide +kernel, by decide +kernel⟩
theorem ok_Reader_take_gate {f : Addr} {fd : FuncData} (F : Fun K "take_gate" "Reader.take_gate" st_Reader_take_gate f fd) (B : Blt mg) (n_Reader_own_kinds : ∀ c ∈ (["Reader"] : List Str), FldOk K mg c "own_kinds") (n_Reader_own_gates : ∀ c ∈ (["Reader"] : List Str), FldOk K mg c "own_gates") (c_MOST_GATES : GC K mg "MOST_GATES" (.int 8)) (d_P_is_fresh : Df P w K mg base 2 "is_fresh" F_P_is_fresh) (m_Reader_bound : Mt P w K mg base 3 "Reader" "bound" F_Reader_bound) (n_Reader_own_rooms : ∀ c ∈ (["Reader"] : List Str), FldOk K mg c "own_rooms") : T.FnOk P w K mg base (L2.CX P w) 4 f fd ["self", "ends", "more"] (spF ⟨K, mg⟩ F_Reader_take_gate) := by
  have sc := sc_Reader_take_gate
  refine fn_ok (N := ["self", "ends", "more", "name", "first", "second", "told", "gate"]) (ps := ["self", "ends", "more"]) (k := 3) (kp := kpL [0, 1, 2]) (s := b_Reader_take_gate) F sc (by decide) (kpL_lt (by decide)) fun cdv A outer s0 H E hr => ?_
  have tk : Takes (cxOf (L2.CX P w) P w K mg base ["self", "ends", "more", "name", "first", "second", "told", "gate"] "Reader.take_gate" (defScope st_Reader_take_gate) f cdv A outer s0 H E) (fun cls d _ H => E cls d H) := takes_of rfl rfl rfl rfl
  exact (S_cons (S_asg (E_of (U_var (pv 1))) (G_tup rfl (Gs_cons (G_name sc.nd rfl (by first | exact Or.inl rfl | exact Or.inr rfl) rfl) (Gs_cons (G_name sc.nd rfl (by first | exact Or.inl rfl | exact Or.inr rfl) rfl) (Gs_cons (G_name sc.nd rfl (by first | exact Or.inl rfl | exact Or.inr rfl) rfl) Gs_nil)))))
    (S_cons (S_if (TE_of (PW.pt (WU_or (TU_cmp (op_eqD (hu64 hr)) o2_eq (nomark _) (V_fld n_Reader_own_kinds (V_var (pv 0))) (V_of (U_lst AU_nil))) (WU_or1 (TU_cmp (op_eqD (hu64 hr)) o2_eq (nomark _) (V_of (U_bi cr_lenA cd_len (by rfl) B.len PySem.boot_len (AV_cons (V_fld n_Reader_own_gates (V_var (pv 0))) AV_nil))) (V_of (U_gc (by rfl) c_MOST_GATES))))))) (S_one (S_ret (E_of U_bl))) S_nil)
    (S_cons (S_if (TE_of (PW.pt (WU_or (TU_not (TU_tru (V_of (U_thaw (U_callU d_P_is_fresh hr (by decide) (by rfl) (AU_cons (U_var (pv 3)) (AU_cons (U_lc (own := [("gate", 7)]) rfl sc.nd (blkOk_by (N := ["self", "ends", "more", "name", "first", "second", "told", "gate"]) (sc := defScope st_Reader_take_gate) (own := [("gate", 7)]) (by decide +kernel)) (IV_seq (V_fld n_Reader_own_gates (V_var (pv 0)))) (fun _ _ _ _ _ => (GU_name sc.nd rfl (by first | exact Or.inl rfl | exact Or.inr rfl) rfl)) (fun _ _ _ _ _ => PsU_nil) (fun _ _ _ _ _ => (U_ix (V_var (pv 7)) (V_of U_int)))) AU_nil))))))) (WU_or1 (TU_cmp (op_eqD (hu64 hr)) o2_eq (nomark _) (V_var (pv 4)) (V_var (pv 5))))))) (S_one (S_ret (E_of U_bl))) S_nil)
    (S_cons (S_set sc.nd rfl (by first | exact Or.inl rfl | exact Or.inr rfl) rfl (E_meN m_Reader_bound hr (by decide) tk (pv 0) (A_consN (pv 2) A_nil)))
    (S_cons (S_if (TE_of (PW.pt (WU_or (TU_cmp (or_notIn (hu65 hr)) o2_notIn (by rfl) (V_var (pv 4)) (V_fld n_Reader_own_rooms (V_var (pv 0)))) (WU_or (TU_cmp (or_notIn (hu65 hr)) o2_notIn (by rfl) (V_var (pv 5)) (V_fld n_Reader_own_rooms (V_var (pv 0)))) (WU_or1 (TU_cmp op_isN o2_is (nomark _) (V_var (pv 6)) (V_of U_non))))))) (S_one (S_ret (E_of U_bl))) S_nil)
    (S_cons (S_expr (E_lmF n_Reader_own_gates lm_append PySem.F.plainAttrs_list PySem.F.slot_list_append PySem.F.type_list_append mt_append (pv 0) (U_tup (AU_cons (U_var (pv 3)) (AU_cons (U_var (pv 4)) (AU_cons (U_var (pv 5)) (AU_star (V_var (pv 6)) AU_nil)))))))
    (S_one (S_ret (E_of U_bl)))))))))
abbrev st_Reader_take : Stmt := inClass (top 27) 1
theorem sc_Reader_take : FnScope ["self", "line", "word", "parts"] ["self", "line"] (defScope st_Reader_take) := ⟨rfl, rfl, rfl, by decide +kernel, rfl, by decide +kernel, by decide +kernel⟩
theorem ok_Reader_take {f : Addr} {fd : FuncData} (F : Fun K "take" "Reader.take" st_Reader_take f fd) (B : Blt mg) (c_TRIPLE : GC K mg "TRIPLE" (.int 3)) (m_Reader_take_gate : Mt P w K mg base 4 "Reader" "take_gate" F_Reader_take_gate) (c_PAIR : GC K mg "PAIR" (.int 2)) (m_Reader_take_plate : Mt P w K mg base 3 "Reader" "take_plate" F_Reader_take_plate) (m_Reader_take_kind : Mt P w K mg base 3 "Reader" "take_kind" F_Reader_take_kind) (m_Reader_take_room : Mt P w K mg base 3 "Reader" "take_room" F_Reader_take_room) : T.FnOk P w K mg base (L2.CX P w) 5 f fd ["self", "line"] (spF ⟨K, mg⟩ F_Reader_take) := by
  have sc := sc_Reader_take
  refine fn_ok (N := ["self", "line", "word", "parts"]) (ps := ["self", "line"]) (k := 4) (kp := kpL [0, 1]) (s := b_Reader_take) F sc (by decide) (kpL_lt (by decide)) fun cdv A outer s0 H E hr => ?_
  have tk : Takes (cxOf (L2.CX P w) P w K mg base ["self", "line", "word", "parts"] "Reader.take" (defScope st_Reader_take) f cdv A outer s0 H E) (fun cls d _ H => E cls d H) := takes_of rfl rfl rfl rfl
  exact (S_cons (S_star rfl rfl rfl (pgs_cons (pg_name (i := 2) sc.nd rfl (by first | exact Or.inl rfl | exact Or.inr rfl)) (pgs_cons (pg_name (i := 3) sc.nd rfl (by first | exact Or.inl rfl | exact Or.inr rfl)) pgs_nil)) (E_of (U_split (V_var (pv 1)) (V_of U_str))))
    (S_cons (S_match (V_var (pv 2)) (PMs_cons hr (S_one (S_ret (E_and (E_of (U_cmp (op_eqD (hu64 hr)) o2_eq (nomark _) (V_of (U_bi cr_lenA cd_len (by rfl) B.len PySem.boot_len (AV_cons (V_var (pv 3)) AV_nil))) (V_of U_int))) (one_u (E_meN m_Reader_take_room hr (by decide) tk (pv 0) (A_cons (E_of (U_ix (V_var (pv 3)) (V_of U_int))) A_nil))))))
    (PMs_cons hr (S_one (S_ret (E_and (E_of (U_cmp (op_eqD (hu64 hr)) o2_eq (nomark _) (V_of (U_bi cr_lenA cd_len (by rfl) B.len PySem.boot_len (AV_cons (V_var (pv 3)) AV_nil))) (V_of (U_gc (by rfl) c_PAIR)))) (one_u (E_meN m_Reader_take_kind hr (by decide) tk (pv 0) (A_cons (E_of (U_ix (V_var (pv 3)) (V_of U_int))) (A_cons (E_of (U_ix (V_var (pv 3)) (V_of U_int))) A_nil)))))))
    (PMs_cons hr (S_one (S_ret (E_and (E_of (U_cmp op_ge (o2_cmp fun i j => decide (j ≤ i)) (nomark _) (V_of (U_bi cr_lenA cd_len (by rfl) B.len PySem.boot_len (AV_cons (V_var (pv 3)) AV_nil))) (V_of (U_gc (by rfl) c_TRIPLE)))) (one_u (E_meN m_Reader_take_plate hr (by decide) tk (pv 0) (A_cons (E_of (U_ix (V_var (pv 3)) (V_of U_int))) (A_cons (E_of (U_ix (V_var (pv 3)) (V_of U_int))) (A_cons (E_of (U_ix (V_var (pv 3)) (V_of (U_gc (by rfl) c_PAIR)))) (A_cons (E_of (U_sl (V_var (pv 3)) (PoS (V_of (U_gc (by rfl) c_TRIPLE))) PoN)) A_nil)))))))))
    (PMs_cons hr (S_one (S_ret (E_and (E_of (U_cmp op_ge (o2_cmp fun i j => decide (j ≤ i)) (nomark _) (V_of (U_bi cr_lenA cd_len (by rfl) B.len PySem.boot_len (AV_cons (V_var (pv 3)) AV_nil))) (V_of (U_gc (by rfl) c_TRIPLE)))) (one_u (E_meN m_Reader_take_gate hr (by decide) tk (pv 0) (A_cons (E_of (U_ty call_tuple_of cd_tuple (by rfl) B.tuple PyProof.Rows.boot_tuple (AV_cons (V_of (U_sl (V_var (pv 3)) PoN (PoS (V_of (U_gc (by rfl) c_TRIPLE))))) AV_nil))) (A_cons (E_of (U_sl (V_var (pv 3)) (PoS (V_of (U_gc (by rfl) c_TRIPLE))) PoN)) A_nil)))))))
    PMs_nil)))))
    (S_one (S_ret (E_of U_bl)))))
abbrev st_P_read_level : Stmt := top 31
theorem sc_P_read_level : FnScope ["text", "reader", "lines", "at", "line"] ["text"] (defScope st_P_read_level) := ⟨rfl, rfl, rfl, by decide +kernel, rfl, by decide +kernel, by decide +kernel⟩
theorem ok_P_read_level {f : Addr} {fd : FuncData} (F : Fun K "read_level" "read_level" st_P_read_level f fd) (B : Blt mg) (i_str : IsT K mg [] "str") (c_FEED : GC K mg "FEED" (.str "\n")) (k_Reader : Mkr P w K mg base 1 "Reader" F_Reader_init) (m_Reader_take : Mt P w K mg base 5 "Reader" "take" F_Reader_take) (n_Reader_own_gates : ∀ c ∈ (["Reader"] : List Str), FldOk K mg c "own_gates") : T.FnOk P w K mg base (L2.CX P w) 6 f fd ["text"] (spF ⟨K, mg⟩ F_P_read_level) := by
  have sc := sc_P_read_level
  refine fn_ok (N := ["text", "reader", "lines", "at", "line"]) (ps := ["text"]) (k := 5) (kp := kpL [0]) (s := b_P_read_level) F sc (by decide) (kpL_lt (by decide)) fun cdv A outer s0 H E hr => ?_
  have tk : Takes (cxOf (L2.CX P w) P w K mg base ["text", "reader", "lines", "at", "line"] "read_level" (defScope st_P_read_level) f cdv A outer s0 H E) (fun cls d _ H => E cls d H) := takes_of rfl rfl rfl rfl
  exact (S_cons (S_if (TE_of (TU_not (TU_tru (V_of (U_isT tb_str i_str (by rfl) B.isinstance (by rfl) (B.str) (by decide +kernel) (V_var (pv 0))))))) (S_one S_never) S_nil)
    (S_cons (S_par2 rfl sc.nd rfl rfl (by decide) rfl rfl rfl rfl (A_cons (E_make0 k_Reader hr (by decide) tk (by rfl)) (A_cons (E_of (U_split (V_var (pv 0)) (V_of (U_gc (by rfl) c_FEED)))) A_nil)))
    (S_cons (S_for (passes_of rfl) rfl (IE_enum (by rfl) B.enumerate (E_fz (pv 2))) (G_tup rfl (Gs_cons (G_name sc.nd rfl (by first | exact Or.inl rfl | exact Or.inr rfl) rfl) (Gs_cons (G_name sc.nd rfl (by first | exact Or.inl rfl | exact Or.inr rfl) rfl) Gs_nil))) (S_one (S_if (TE_not (TE_tru (E_meN m_Reader_take hr (by decide) tk (pv 1) (A_consN (pv 4) A_nil)))) (S_one S_never) S_nil)))
    (S_cons (S_if (TE_of (TU_cmp (op_eqD (hu64 hr)) o2_eq (nomark _) (V_fld n_Reader_own_gates (V_var (pv 1))) (V_of (U_lst AU_nil)))) (S_one S_never) S_nil)
    (S_one (S_ret (E_move (pv 1))))))))
abbrev st_Level_put_steps : Stmt := inClass (top 32) 1
theorem sc_Level_put_steps : FnScope ["self", "plates", "name", "first", "second", "only", "held", "needs", "kind", "plate"] ["self", "plates"] (defScope st_Level_put_steps) := ⟨rfl, rfl, rfl, by decide +kernel, rfl, by decide +kernel, by decide +kernel⟩
theorem ok_Level_put_steps {f : Addr} {fd : FuncData} (F : Fun K "put_steps" "Level.put_steps" st_Level_put_steps f fd) (B : Blt mg) (n_Level_own_gates : ∀ c ∈ (["Level"] : List Str), FldOk K mg c "own_gates") (n_Level_own_kinds : ∀ c ∈ (["Level"] : List Str), FldOk K mg c "own_kinds") (n_Level_own_places : ∀ c ∈ (["Level"] : List Str), FldOk K mg c "own_places") (d_P_gate_needs : Df P w K mg base 3 "gate_needs" F_P_gate_needs) (n_Level_own_index : ∀ c ∈ (["Level"] : List Str), FldOk K mg c "own_index") (n_Level_own_ways : ∀ c ∈ (["Level"] : List Str), FldOk K mg c "own_ways") (n_Level_own_needs : ∀ c ∈ (["Level"] : List Str), FldOk K mg c "own_needs") : T.FnOk P w K mg base (L2.CX P w) 4 f fd ["self", "plates"] (spF ⟨K, mg⟩ F_Level_put_steps) := by
  have sc := sc_Level_put_steps
  refine fn_ok (N := ["self", "plates", "name", "first", "second", "only", "held", "needs", "kind", "plate"]) (ps := ["self", "plates"]) (k := 3) (kp := kpL [0, 1]) (s := b_Level_put_steps) F sc (by decide) (kpL_lt (by decide)) fun cdv A outer s0 H E hr => ?_
  have tk : Takes (cxOf (L2.CX P w) P w K mg base ["self", "plates", "name", "first", "second", "only", "held", "needs", "kind", "plate"] "Level.put_steps" (defScope st_Level_put_steps) f cdv A outer s0 H E) (fun cls d _ H => E cls d H) := takes_of rfl rfl rfl rfl
  exact (S_one (S_for (passes_of rfl) rfl (IE_of (IU_seq (U_fz (V_fld n_Level_own_gates (V_var (pv 0)))))) (G_tup rfl (Gs_cons (G_name sc.nd rfl (by first | exact Or.inl rfl | exact Or.inr rfl) rfl) (Gs_cons (G_name sc.nd rfl (by first | exact Or.inl rfl | exact Or.inr rfl) rfl) (Gs_cons (G_name sc.nd rfl (by first | exact Or.inl rfl | exact Or.inr rfl) rfl) (Gs_cons (G_name sc.nd rfl (by first | exact Or.inl rfl | exact Or.inr rfl) rfl) (Gs_cons (G_name sc.nd rfl (by first | exact Or.inl rfl | exact Or.inr rfl) rfl) Gs_nil)))))) (S_cons (S_set sc.nd rfl (by first | exact Or.inl rfl | exact Or.inr rfl) rfl (E_of (U_thaw (U_callU d_P_gate_needs hr (by decide) (by rfl) (AU_cons (U_lc (own := [("plate", 9)]) rfl sc.nd (blkOk_by (N := ["self", "plates", "name", "first", "second", "only", "held", "needs", "kind", "plate"]) (sc := defScope st_Level_put_steps) (own := [("plate", 9)]) (by decide +kernel)) (IV_seq (V_var (pv 6))) (fun _ _ _ _ _ => (GU_name sc.nd rfl (by first | exact Or.inl rfl | exact Or.inr rfl) rfl)) (fun _ _ _ _ _ => PsU_nil) (fun _ _ _ _ _ => (U_fz (V_dg hr (V_var (pv 1)) (V_var (pv 9)))))) (AU_cons (U_fz (V_fld n_Level_own_places (V_var (pv 0)))) (AU_cons (U_fz (V_fld n_Level_own_kinds (V_var (pv 0)))) AU_nil)))))))
    (S_one (S_for (passes_of rfl) rfl (IE_of (IU_seq (U_fz (V_fld n_Level_own_kinds (V_var (pv 0)))))) (G_name sc.nd rfl (by first | exact Or.inl rfl | exact Or.inr rfl) rfl) (S_one (S_if (TE_of (TU_cmp (or_in (hu65 hr)) o2_in (by rfl) (V_var (pv 5)) (V_of (U_tup (AU_cons U_non (AU_cons (U_var (pv 8)) AU_nil)))))) (S_cons (S_putF n_Level_own_ways hr (pv 0) (V_of (U_tup (AU_cons (U_var (pv 2)) (AU_cons (U_var (pv 8)) AU_nil)))) (E_of (U_tup (AU_cons (U_fz (V_dg hr (V_fld n_Level_own_index (V_var (pv 0))) (V_of (U_tup (AU_cons (U_var (pv 8)) (AU_cons (U_var (pv 3)) AU_nil)))))) (AU_cons (U_fz (V_dg hr (V_fld n_Level_own_index (V_var (pv 0))) (V_of (U_tup (AU_cons (U_var (pv 8)) (AU_cons (U_var (pv 4)) AU_nil)))))) AU_nil)))))
    (S_one (S_putF n_Level_own_needs hr (pv 0) (V_of (U_tup (AU_cons (U_var (pv 2)) (AU_cons (U_var (pv 8)) AU_nil)))) (E_of (U_var (pv 7)))))) S_nil)))))))
abbrev st_Level_init : Stmt := inClass (top 32) 0
theorem sc_Level_init : FnScope ["self", "text", "reader", "kind", "room", "at", "place", "plate"] ["self", "text"] (defScope st_Level_init) := ⟨rfl, rfl, rfl, by decide +kernel, rfl, by decide +kernel, by decide +kernel⟩
theorem ok_Level_init {f : Addr} {fd : FuncData} (F : Fun K "__init__" "Level.__init__" st_Level_init f fd) (B : Blt mg) (d_P_read_level : Df P w K mg base 6 "read_level" F_P_read_level) (n_Level_own_text : ∀ c ∈ (["Level"] : List Str), FldOk K mg c "own_text") (n_Reader_own_rooms : ∀ c ∈ (["Reader"] : List Str), FldOk K mg c "own_rooms") (n_Level_own_rooms : ∀ c ∈ (["Level"] : List Str), FldOk K mg c "own_rooms") (m_Reader_kind_names : Mt P w K mg base 1 "Reader" "kind_names" F_Reader_kind_names) (n_Level_own_kinds : ∀ c ∈ (["Level"] : List Str), FldOk K mg c "own_kinds") (n_Reader_own_kinds : ∀ c ∈ (["Reader"] : List Str), FldOk K mg c "own_kinds") (n_Level_own_starts : ∀ c ∈ (["Level"] : List Str), FldOk K mg c "own_starts") (n_Reader_own_plates : ∀ c ∈ (["Reader"] : List Str), FldOk K mg c "own_plates") (n_Level_own_plates : ∀ c ∈ (["Level"] : List Str), FldOk K mg c "own_plates") (n_Reader_own_gates : ∀ c ∈ (["Reader"] : List Str), FldOk K mg c "own_gates") (n_Level_own_gates : ∀ c ∈ (["Level"] : List Str), FldOk K mg c "own_gates") (n_Level_own_places : ∀ c ∈ (["Level"] : List Str), FldOk K mg c "own_places") (n_Level_own_index : ∀ c ∈ (["Level"] : List Str), FldOk K mg c "own_index") (n_Level_own_ways : ∀ c ∈ (["Level"] : List Str), FldOk K mg c "own_ways") (n_Level_own_needs : ∀ c ∈ (["Level"] : List Str), FldOk K mg c "own_needs") (m_Level_put_steps : Mt P w K mg base 4 "Level" "put_steps" F_Level_put_steps) (n_Level_own_steps : ∀ c ∈ (["Level"] : List Str), FldOk K mg c "own_steps") (n_Level_own_found : ∀ c ∈ (["Level"] : List Str), FldOk K mg c "own_found") : T.FnOk P w K mg base (L2.CX P w) 7 f fd ["self", "text"] (spF ⟨K, mg⟩ F_Level_init) := by
  have sc := sc_Level_init
  refine fn_ok (N := ["self", "text", "reader", "kind", "room", "at", "place", "plate"]) (ps := ["self", "text"]) (k := 6) (kp := kpL [0, 1]) (s := b_Level_init) F sc (by decide) (kpL_lt (by decide)) fun cdv A outer s0 H E hr => ?_
  have tk : Takes (cxOf (L2.CX P w) P w K mg base ["self", "text", "reader", "kind", "room", "at", "place", "plate"] "Level.__init__" (defScope st_Level_init) f cdv A outer s0 H E) (fun cls d _ H => E cls d H) := takes_of rfl rfl rfl rfl
  exact (S_cons (S_set sc.nd rfl (by first | exact Or.inl rfl | exact Or.inr rfl) rfl (E_call d_P_read_level hr (by decide) tk (by rfl) (A_consN (pv 1) A_nil)))
    (S_cons (S_fld n_Level_own_text (pv 0) (E_of (U_var (pv 1))))
    (S_cons (S_fld n_Level_own_rooms (pv 0) (E_of (U_ty call_tuple_of cd_tuple (by rfl) B.tuple PyProof.Rows.boot_tuple (AV_cons (V_fld n_Reader_own_rooms (V_var (pv 2))) AV_nil))))
    (S_cons (S_fld n_Level_own_kinds (pv 0) (E_of (U_thaw (U_ty call_tuple_of cd_tuple (by rfl) B.tuple PyProof.Rows.boot_tuple (AV_cons (V_of (U_me0 m_Reader_kind_names hr (by decide) (V_var (pv 2)))) AV_nil)))))
    (S_cons (S_fld n_Level_own_starts (pv 0) (E_of (U_ty call_tuple_of cd_tuple (by rfl) B.tuple PyProof.Rows.boot_tuple (AV_cons (V_fld n_Reader_own_kinds (V_var (pv 2))) AV_nil))))
    (S_cons (S_fld n_Level_own_plates (pv 0) (E_of (U_ty call_tuple_of cd_tuple (by rfl) B.tuple PyProof.Rows.boot_tuple (AV_cons (V_fld n_Reader_own_plates (V_var (pv 2))) AV_nil))))
    (S_cons (S_fld n_Level_own_gates (pv 0) (E_of (U_ty call_tuple_of cd_tuple (by rfl) B.tuple PyProof.Rows.boot_tuple (AV_cons (V_fld n_Reader_own_gates (V_var (pv 2))) AV_nil))))
    (S_cons (S_fld n_Level_own_places (pv 0) (E_of (U_ty call_tuple_of cd_tuple (by rfl) B.tuple PyProof.Rows.boot_tuple (AV_cons (V_of (U_lc2 (own := [("kind", 3), ("room", 4)]) (vs1 := [4]) rfl sc.nd (blkOk_by (N := ["self", "text", "reader", "kind", "room", "at", "place", "plate"]) (sc := defScope st_Level_init) (own := [("kind", 3), ("room", 4)]) (by decide +kernel)) (by decide) (IV_seq (V_fld n_Level_own_kinds (V_var (pv 0)))) (fun _ _ _ _ _ => (GU_name sc.nd rfl (by first | exact Or.inl rfl | exact Or.inr rfl) rfl)) (fun _ _ _ _ _ => PsU_nil) (fun _ _ _ _ _ => (IU_seq (U_fz (V_fld n_Level_own_rooms (V_var (pv 0)))))) (fun _ _ _ _ _ => (GU_name sc.nd rfl (by first | exact Or.inl rfl | exact Or.inr rfl) rfl)) (fun _ _ _ _ _ => PsU_nil) (fun _ _ _ _ _ => (U_tup (AU_cons (U_var (pv 3)) (AU_cons (U_var (pv 4)) AU_nil)))))) AV_nil))))
    (S_cons (S_fld n_Level_own_index (pv 0) (E_of (U_dc (own := [("at", 5), ("place", 6)]) hr rfl sc.nd (blkOk_by (N := ["self", "text", "reader", "kind", "room", "at", "place", "plate"]) (sc := defScope st_Level_init) (own := [("at", 5), ("place", 6)]) (by decide +kernel)) (IV_enum (by rfl) B.enumerate (AV_cons (V_fld n_Level_own_places (V_var (pv 0))) AV_nil)) (fun _ _ _ _ _ => (GU_tup rfl (GUs_cons (GU_name sc.nd rfl (by first | exact Or.inl rfl | exact Or.inr rfl) rfl) (GUs_cons (GU_name sc.nd rfl (by first | exact Or.inl rfl | exact Or.inr rfl) rfl) GUs_nil)))) (fun _ _ _ _ _ => PsU_nil) (fun _ _ _ _ _ => (U_var (pv 6))) (fun _ _ _ _ _ => (U_var (pv 5))))))
    (S_cons (S_fld n_Level_own_ways (pv 0) (E_of U_dn))
    (S_cons (S_fld n_Level_own_needs (pv 0) (E_of U_dn))
    (S_cons (S_expr (E_meN m_Level_put_steps hr (by decide) tk (pv 0) (A_cons (E_of (U_dc (own := [("plate", 7)]) hr rfl sc.nd (blkOk_by (N := ["self", "text", "reader", "kind", "room", "at", "place", "plate"]) (sc := defScope st_Level_init) (own := [("plate", 7)]) (by decide +kernel)) (IV_seq (V_fld n_Level_own_plates (V_var (pv 0)))) (fun _ _ _ _ _ => (GU_name sc.nd rfl (by first | exact Or.inl rfl | exact Or.inr rfl) rfl)) (fun _ _ _ _ _ => PsU_nil) (fun _ _ _ _ _ => (U_ix (V_var (pv 7)) (V_of U_int))) (fun _ _ _ _ _ => (U_var (pv 7))))) A_nil)))
    (S_cons (S_fld n_Level_own_steps (pv 0) (E_of (U_ty (call_tupT rfl) cd_tupT (by rfl) B.tuple PyProof.Rows.boot_tuple (AV_cons (V_fld n_Level_own_ways (V_var (pv 0))) AV_nil))))
    (S_one (S_fld n_Level_own_found (pv 0) (E_of U_dn))))))))))))))))
abbrev st_Level_text : Stmt := inClass (top 32) 2
theorem sc_Level_text : FnScope ["self"] ["self"] (defScope st_Level_text) := ⟨rfl, rfl, rfl, by decide +kernel, rfl, by decide +kernel, by decide +kernel⟩
theorem ok_Level_text {f : Addr} {fd : FuncData} (F : Fun K "text" "Level.text" st_Level_text f fd) (B : Blt mg) (n_Level_own_text : ∀ c ∈ (["Level"] : List Str), FldOk K mg c "own_text") : T.FnOk P w K mg base (L2.CX P w) 1 f fd ["self"] (spF ⟨K, mg⟩ F_Level_text) := by
  have sc := sc_Level_text
  refine fn_ok (N := ["self"]) (ps := ["self"]) (k := 0) (kp := kpL [0]) (s := b_Level_text) F sc (by decide) (kpL_lt (by decide)) fun cdv A outer s0 H E hr => ?_
  have tk : Takes (cxOf (L2.CX P w) P w K mg base ["self"] "Level.text" (defScope st_Level_text) f cdv A outer s0 H E) (fun cls d _ H => E cls d H) := takes_of rfl rfl rfl rfl
  exact (S_one (S_ret (E_of (U_fz (V_fld n_Level_own_text (V_var (pv 0)))))))
abbrev st_Level_rooms : Stmt := inClass (top 32) 3
theorem sc_Level_rooms : FnScope ["self"] ["self"] (defScope st_Level_rooms) := ⟨rfl, rfl, rfl, by decide +kernel, rfl, by decide +kernel, by decide +kernel⟩
theorem ok_Level_rooms {f : Addr} {fd : FuncData} (F : Fun K "rooms" "Level.rooms" st_Level_rooms f fd) (B : Blt mg) (n_Level_own_rooms : ∀ c ∈ (["Level"] : List Str), FldOk K mg c "own_rooms") : T.FnOk P w K mg base (L2.CX P w) 1 f fd ["self"] (spF ⟨K, mg⟩ F_Level_rooms) := by
  have sc := sc_Level_rooms
  refine fn_ok (N := ["self"]) (ps := ["self"]) (k := 0) (kp := kpL [0]) (s := b_Level_rooms) F sc (by decide) (kpL_lt (by decide)) fun cdv A outer s0 H E hr => ?_
  have tk : Takes (cxOf (L2.CX P w) P w K mg base ["self"] "Level.rooms" (defScope st_Level_rooms) f cdv A outer s0 H E) (fun cls d _ H => E cls d H) := takes_of rfl rfl rfl rfl
  exact (S_one (S_ret (E_of (U_fz (V_fld n_Level_own_rooms (V_var (pv 0)))))))
abbrev st_Level_kinds : Stmt := inClass (top 32) 4
theorem sc_Level_kinds : FnScope ["self"] ["self"] (defScope st_Level_kinds) := ⟨rfl, rfl, rfl, by decide +kernel, rfl, by decide +kernel, by decide +kernel⟩
theorem ok_Level_kinds {f : Addr} {fd : FuncData} (F : Fun K "kinds" "Level.kinds" st_Level_kinds f fd) (B : Blt mg) (n_Level_own_kinds : ∀ c ∈ (["Level"] : List Str), FldOk K mg c "own_kinds") : T.FnOk P w K mg base (L2.CX P w) 1 f fd ["self"] (spF ⟨K, mg⟩ F_Level_kinds) := by
  have sc := sc_Level_kinds
  refine fn_ok (N := ["self"]) (ps := ["self"]) (k := 0) (kp := kpL [0]) (s := b_Level_kinds) F sc (by decide) (kpL_lt (by decide)) fun cdv A outer s0 H E hr => ?_
  have tk : Takes (cxOf (L2.CX P w) P w K mg base ["self"] "Level.kinds" (defScope st_Level_kinds) f cdv A outer s0 H E) (fun cls d _ H => E cls d H) := takes_of rfl rfl rfl rfl
  exact (S_one (S_ret (E_of (U_fz (V_fld n_Level_own_kinds (V_var (pv 0)))))))
abbrev st_Level_plates : Stmt := inClass (top 32) 5
theorem sc_Level_plates : FnScope ["self"] ["self"] (defScope st_Level_plates) := ⟨rfl, rfl, rfl, by decide +kernel, rfl, by decide +kernel, by decide +kernel⟩
theorem ok_Level_plates {f : Addr} {fd : FuncData} (F : Fun K "plates" "Level.plates" st_Level_plates f fd) (B : Blt mg) (n_Level_own_plates : ∀ c ∈ (["Level"] : List Str), FldOk K mg c "own_plates") : T.FnOk P w K mg base (L2.CX P w) 1 f fd ["self"] (spF ⟨K, mg⟩ F_Level_plates) := by
  have sc := sc_Level_plates
  refine fn_ok (N := ["self"]) (ps := ["self"]) (k := 0) (kp := kpL [0]) (s := b_Level_plates) F sc (by decide) (kpL_lt (by decide)) fun cdv A outer s0 H E hr => ?_
  have tk : Takes (cxOf (L2.CX P w) P w K mg base ["self"] "Level.plates" (defScope st_Level_plates) f cdv A outer s0 H E) (fun cls d _ H => E cls d H) := takes_of rfl rfl rfl rfl
  exact (S_one (S_ret (E_of (U_fz (V_fld n_Level_own_plates (V_var (pv 0)))))))
abbrev st_Level_gates : Stmt := inClass (top 32) 6
theorem sc_Level_gates : FnScope ["self"] ["self"] (defScope st_Level_gates) := ⟨rfl, rfl, rfl, by decide +kernel, rfl, by decide +kernel, by decide +kernel⟩
theorem ok_Level_gates {f : Addr} {fd : FuncData} (F : Fun K "gates" "Level.gates" st_Level_gates f fd) (B : Blt mg) (n_Level_own_gates : ∀ c ∈ (["Level"] : List Str), FldOk K mg c "own_gates") : T.FnOk P w K mg base (L2.CX P w) 1 f fd ["self"] (spF ⟨K, mg⟩ F_Level_gates) := by
  have sc := sc_Level_gates
  refine fn_ok (N := ["self"]) (ps := ["self"]) (k := 0) (kp := kpL [0]) (s := b_Level_gates) F sc (by decide) (kpL_lt (by decide)) fun cdv A outer s0 H E hr => ?_
  have tk : Takes (cxOf (L2.CX P w) P w K mg base ["self"] "Level.gates" (defScope st_Level_gates) f cdv A outer s0 H E) (fun cls d _ H => E cls d H) := takes_of rfl rfl rfl rfl
  exact (S_one (S_ret (E_of (U_fz (V_fld n_Level_own_gates (V_var (pv 0)))))))
abbrev st_pot : Stmt := top 34
theorem sc_pot : FnScope ["_law_script", "_law_k", "_law_cell", "_law_own", "_law_small"] ["_law_script", "_law_k"] (defScope st_pot) := ⟨rfl, rfl, rfl, by decide +kernel, rfl, by decide +kernel, by decide +kernel⟩
theorem ok_pot {f : Addr} {fd : FuncData} (F : Fun K "_law_pot" "_law_pot" st_pot f fd) (B : Blt mg)  : T.FnOk P w K mg base (L2.CX P w) 1 f fd ["_law_script", "_law_k"] (spF ⟨K, mg⟩ F_pot) := by
  have sc := sc_pot
  refine fn_ok (N := ["_law_script", "_law_k", "_law_cell", "_law_own", "_law_small"]) (ps := ["_law_script", "_law_k"]) (k := 0) (kp := kpL [0, 1]) (s := b_pot) F sc (by decide) (kpL_lt (by decide)) fun cdv A outer s0 H E hr => ?_
  have tk : Takes (cxOf (L2.CX P w) P w K mg base ["_law_script", "_law_k", "_law_cell", "_law_own", "_law_small"] "_law_pot" (defScope st_pot) f cdv A outer s0 H E) (fun cls d _ H => E cls d H) := takes_of rfl rfl rfl rfl
  exact (S_cons (S_set sc.nd rfl (by first | exact Or.inl rfl | exact Or.inr rfl) rfl (E_of (U_if (TU_cmp op_lt (o2_cmp fun i j => decide (i < j)) (nomark _) (V_var (pv 1)) (V_of (U_bi cr_lenA cd_len (by rfl) B.len PySem.boot_len (AV_cons (V_var (pv 0)) AV_nil)))) (U_ix (V_var (pv 0)) (V_var (pv 1))) (U_op or_add o2_add (V_of (U_op or_mul o2_mul (V_of U_int) (V_var (pv 1)))) (V_of U_int)))))
    (S_cons (S_set sc.nd rfl (by first | exact Or.inl rfl | exact Or.inr rfl) rfl (E_of (U_op or_mul o2_mul (V_of (U_op op_modN o2_mod (V_of (U_ty cr_intA cd_int (by rfl) B.int PyProof.Rows.boot_int (AV_cons (V_of (U_bi call_abs cd_abs (by rfl) B.abs PyProof.Rows.boot_abs (AV_cons (V_var (pv 2)) AV_nil))) AV_nil))) (V_of (U_op op_powW o2_pow (V_of (U_op op_powW o2_pow (V_of U_int) (V_of U_int))) (V_of U_int))))) (V_of (U_ty cr_intA cd_int (by rfl) B.int PyProof.Rows.boot_int (AV_cons (V_of (U_cmp op_ge (o2_cmp fun i j => decide (j ≤ i)) (nomark _) (V_of (U_bi call_abs cd_abs (by rfl) B.abs PyProof.Rows.boot_abs (AV_cons (V_var (pv 2)) AV_nil))) (V_of (U_op op_powW o2_pow (V_of U_int) (V_of U_int))))) AV_nil))))))
    (S_cons (S_set sc.nd rfl (by first | exact Or.inl rfl | exact Or.inr rfl) rfl (E_of (U_op op_modN o2_mod (V_of (U_ty cr_intA cd_int (by rfl) B.int PyProof.Rows.boot_int (AV_cons (V_var (pv 2)) AV_nil))) (V_of U_int))))
    (S_one (S_ret (E_of (U_lst (AU_cons (U_var (pv 3)) (AU_cons (U_op op_modN o2_mod (V_of (U_ty cr_intA cd_int (by rfl) B.int PyProof.Rows.boot_int (AV_cons (V_of (U_op or_add o2_add (V_of (U_op or_add o2_add (V_of (U_op or_mul o2_mul (V_var (pv 4)) (V_of U_int))) (V_of (U_op or_mul o2_mul (V_of (U_op or_mul o2_mul (V_of U_int) (V_var (pv 1)))) (V_var (pv 1)))))) (V_of U_int))) AV_nil))) (V_of U_int)) (AU_cons U_int AU_nil))))))))))
abbrev st_take : Stmt := top 35
theorem sc_take : FnScope ["_law_pot_here", "_law_upto", "_law_digit", "_law_prime", "_law_mixed"] ["_law_pot_here", "_law_upto"] (defScope st_take) := ⟨rfl, rfl, rfl, by decide +kernel, rfl, by decide +kernel, by decide +kernel⟩
theorem ok_take {f : Addr} {fd : FuncData} (F : Fun K "_law_take" "_law_take" st_take f fd) (B : Blt mg)  : T.FnOk P w K mg base (L2.CX P w) 1 f fd ["_law_pot_here", "_law_upto"] (spF ⟨K, mg⟩ F_take) := by
  have sc := sc_take
  refine fn_ok (N := ["_law_pot_here", "_law_upto", "_law_digit", "_law_prime", "_law_mixed"]) (ps := ["_law_pot_here", "_law_upto"]) (k := 0) (kp := kpL [0, 1]) (s := b_take) F sc (by decide) (kpL_lt (by decide)) fun cdv A outer s0 H E hr => ?_
  have tk : Takes (cxOf (L2.CX P w) P w K mg base ["_law_pot_here", "_law_upto", "_law_digit", "_law_prime", "_law_mixed"] "_law_take" (defScope st_take) f cdv A outer s0 H E) (fun cls d _ H => E cls d H) := takes_of rfl rfl rfl rfl
  exact (S_cons (S_if (TE_of (TU_cmp op_gt (o2_cmp fun i j => decide (j < i)) (nomark _) (V_of (U_ix (V_var (pv 0)) (V_of U_int))) (V_of U_int))) (S_cons (S_set sc.nd rfl (by first | exact Or.inl rfl | exact Or.inr rfl) rfl (E_of (U_op op_modN o2_mod (V_of (U_ty cr_intA cd_int (by rfl) B.int PyProof.Rows.boot_int (AV_cons (V_of (U_ix (V_var (pv 0)) (V_of U_int))) AV_nil))) (V_var (pv 1)))))
    (S_cons (S_setIx (E_of (U_op op_fdivN o2_div (V_of (U_ix (V_var (pv 0)) (V_of U_int))) (V_var (pv 1)))) (pv 0) (V_of U_int))
    (S_one (S_ret (E_move (pv 2)))))) S_nil)
    (S_cons (S_setIx (E_of (U_op or_add o2_add (V_of (U_ix (V_var (pv 0)) (V_of U_int))) (V_of U_int))) (pv 0) (V_of U_int))
    (S_cons (S_set sc.nd rfl (by first | exact Or.inl rfl | exact Or.inr rfl) rfl (E_of (U_ix (V_of (U_lst (AU_cons U_int (AU_cons U_int (AU_cons U_int (AU_cons U_int (AU_cons U_int AU_nil))))))) (V_of (U_op op_modN o2_mod (V_of (U_ty cr_intA cd_int (by rfl) B.int PyProof.Rows.boot_int (AV_cons (V_of (U_ix (V_var (pv 0)) (V_of U_int))) AV_nil))) (V_of U_int))))))
    (S_cons (S_set sc.nd rfl (by first | exact Or.inl rfl | exact Or.inr rfl) rfl (E_of (U_op op_modN o2_mod (V_of (U_ty cr_intA cd_int (by rfl) B.int PyProof.Rows.boot_int (AV_cons (V_of (U_op op_powW o2_pow (V_of (U_ty cr_intA cd_int (by rfl) B.int PyProof.Rows.boot_int (AV_cons (V_of (U_op or_add o2_add (V_of (U_op or_add o2_add (V_of (U_ix (V_var (pv 0)) (V_of U_int))) (V_of (U_op or_mul o2_mul (V_of (U_op or_mul o2_mul (V_of U_int) (V_of (U_ix (V_var (pv 0)) (V_of U_int))))) (V_of (U_ix (V_var (pv 0)) (V_of U_int))))))) (V_of U_int))) AV_nil))) (V_of U_int))) AV_nil))) (V_var (pv 3)))))
    (S_one (S_ret (E_of (U_op op_modN o2_mod (V_of (U_ty cr_intA cd_int (by rfl) B.int PyProof.Rows.boot_int (AV_cons (V_of (U_op op_fdivN o2_div (V_of (U_op or_mul o2_mul (V_var (pv 4)) (V_of (U_op or_add o2_add (V_of (U_op op_modN o2_mod (V_of (U_ty cr_intA cd_int (by rfl) B.int PyProof.Rows.boot_int (AV_cons (V_var (pv 4)) AV_nil))) (V_of U_int))) (V_of (U_op or_mul o2_mul (V_of U_int) (V_of (U_ix (V_var (pv 0)) (V_of U_int))))))))) (V_of U_int))) AV_nil))) (V_var (pv 1))))))))))
abbrev st_of : Stmt := top 36
theorem sc_of : FnScope ["_law_pot_here", "_law_some_here"] ["_law_pot_here", "_law_some_here"] (defScope st_of) := ⟨rfl, rfl, rfl, by decide +kernel, rfl, by decide +kernel, by decide +kernel⟩
theorem ok_of {f : Addr} {fd : FuncData} (F : Fun K "_law_of" "_law_of" st_of f fd) (B : Blt mg) (d_take : Df P w K mg base 1 "_law_take" F_take) : T.FnOk P w K mg base (L2.CX P w) 2 f fd ["_law_pot_here", "_law_some_here"] (spF ⟨K, mg⟩ F_of) := by
  have sc := sc_of
  refine fn_ok (N := ["_law_pot_here", "_law_some_here"]) (ps := ["_law_pot_here", "_law_some_here"]) (k := 1) (kp := kpL [0, 1]) (s := b_of) F sc (by decide) (kpL_lt (by decide)) fun cdv A outer s0 H E hr => ?_
  have tk : Takes (cxOf (L2.CX P w) P w K mg base ["_law_pot_here", "_law_some_here"] "_law_of" (defScope st_of) f cdv A outer s0 H E) (fun cls d _ H => E cls d H) := takes_of rfl rfl rfl rfl
  exact (S_one (S_ret (E_ixNE (pv 1) (E_call d_take hr (by decide) tk (by rfl) (A_consN (pv 0) (A_cons (E_of (U_bi cr_lenA cd_len (by rfl) B.len PySem.boot_len (AV_cons (V_var (pv 1)) AV_nil))) A_nil))))))
abbrev st_some : Stmt := top 37
theorem sc_some : FnScope ["_law_pot_here", "_law_pool", "_law_many", "_law_left", "_law_found", "_law_turn"] ["_law_pot_here", "_law_pool", "_law_many"] (defScope st_some) := ⟨rfl, rfl, rfl, by decide +kernel, rfl, by decide +kernel, by decide +kernel⟩
theorem ok_some {f : Addr} {fd : FuncData} (F : Fun K "_law_some" "_law_some" st_some f fd) (B : Blt mg) (d_take : Df P w K mg base 1 "_law_take" F_take) : T.FnOk P w K mg base (L2.CX P w) 2 f fd ["_law_pot_here", "_law_pool", "_law_many"] (spF ⟨K, mg⟩ F_some) := by
  have sc := sc_some
  refine fn_ok (N := ["_law_pot_here", "_law_pool", "_law_many", "_law_left", "_law_found", "_law_turn"]) (ps := ["_law_pot_here", "_law_pool", "_law_many"]) (k := 1) (kp := kpL [0, 1, 2]) (s := b_some) F sc (by decide) (kpL_lt (by decide)) fun cdv A outer s0 H E hr => ?_
  have tk : Takes (cxOf (L2.CX P w) P w K mg base ["_law_pot_here", "_law_pool", "_law_many", "_law_left", "_law_found", "_law_turn"] "_law_some" (defScope st_some) f cdv A outer s0 H E) (fun cls d _ H => E cls d H) := takes_of rfl rfl rfl rfl
  exact (S_cons (S_par2 rfl sc.nd rfl rfl (by decide) rfl rfl rfl rfl (A_cons (E_of (U_ty call_list_of cd_list (by rfl) B.list PyProof.Rows.boot_list (AV_cons (V_var (pv 1)) AV_nil))) (A_cons (E_of (U_lst AU_nil)) A_nil)))
    (S_cons (S_for (passes_of rfl) rfl (IE_of (IU_rng1 (by rfl) B.range (AV_cons (V_var (pv 2)) AV_nil))) (G_name sc.nd rfl (by first | exact Or.inl rfl | exact Or.inr rfl) rfl) (S_one (S_expr (E_lm lm_append (pe_bm PySem.F.plainAttrs_list PySem.F.slot_list_append PySem.F.type_list_append mt_append (pv 4) (pa_cons (E_lm lm_popAt (pe_bm PySem.F.plainAttrs_list PySem.F.slot_list_pop PySem.F.type_list_pop mt_popAt (pv 3) (pa_cons (E_call d_take hr (by decide) tk (by rfl) (A_consN (pv 0) (A_cons (E_of (U_bi cr_lenA cd_len (by rfl) B.len PySem.boot_len (AV_cons (V_var (pv 3)) AV_nil))) A_nil))) pa_nil))) pa_nil))))))
    (S_one (S_ret (E_move (pv 4))))))
abbrev st_names : Stmt := top 38
theorem sc_names : FnScope ["_law_pot_here", "_law_many", "_law_pool"] ["_law_pot_here", "_law_many"] (defScope st_names) := ⟨rfl, rfl, rfl, by decide +kernel, rfl, by decide +kernel, by decide +kernel⟩
theorem ok_names {f : Addr} {fd : FuncData} (F : Fun K "_law_names" "_law_names" st_names f fd) (B : Blt mg) (d_some : Df P w K mg base 2 "_law_some" F_some) : T.FnOk P w K mg base (L2.CX P w) 3 f fd ["_law_pot_here", "_law_many"] (spF ⟨K, mg⟩ F_names) := by
  have sc := sc_names
  refine fn_ok (N := ["_law_pot_here", "_law_many", "_law_pool"]) (ps := ["_law_pot_here", "_law_many"]) (k := 2) (kp := kpL [0, 1]) (s := b_names) F sc (by decide) (kpL_lt (by decide)) fun cdv A outer s0 H E hr => ?_
  have tk : Takes (cxOf (L2.CX P w) P w K mg base ["_law_pot_here", "_law_many", "_law_pool"] "_law_names" (defScope st_names) f cdv A outer s0 H E) (fun cls d _ H => E cls d H) := takes_of rfl rfl rfl rfl
  exact (S_cons (S_set sc.nd rfl (by first | exact Or.inl rfl | exact Or.inr rfl) rfl (E_of (U_lst (AU_cons U_str (AU_cons U_str (AU_cons U_str (AU_cons U_str (AU_cons U_str (AU_cons U_str (AU_cons U_str (AU_cons U_str (AU_cons U_str (AU_cons U_str (AU_cons U_str (AU_cons U_str (AU_cons U_str (AU_cons U_str AU_nil)))))))))))))))))
    (S_one (S_ret (E_call d_some hr (by decide) tk (by rfl) (A_consN (pv 0) (A_consN (pv 2) (A_consN (pv 1) A_nil)))))))
abbrev st_plates : Stmt := top 39
theorem sc_plates : FnScope ["_law_pot_here", "_law_lore_here", "_law_many", "_law_found", "_law_name", "_law_kind", "_law_row"] ["_law_pot_here", "_law_lore_here", "_law_many"] (defScope st_plates) := ⟨rfl, rfl, rfl, by decide +kernel, rfl, by decide +kernel, by decide +kernel⟩
theorem ok_plates {f : Addr} {fd : FuncData} (F : Fun K "_law_plates" "_law_plates" st_plates f fd) (B : Blt mg) (d_take : Df P w K mg base 1 "_law_take" F_take) (d_names : Df P w K mg base 3 "_law_names" F_names) (d_of : Df P w K mg base 2 "_law_of" F_of) : T.FnOk P w K mg base (L2.CX P w) 4 f fd ["_law_pot_here", "_law_lore_here", "_law_many"] (spF ⟨K, mg⟩ F_plates) := by
  have sc := sc_plates
  refine fn_ok (N := ["_law_pot_here", "_law_lore_here", "_law_many", "_law_found", "_law_name", "_law_kind", "_law_row"]) (ps := ["_law_pot_here", "_law_lore_here", "_law_many"]) (k := 3) (kp := kpL [0, 1, 2]) (s := b_plates) F sc (by decide) (kpL_lt (by decide)) fun cdv A outer s0 H E hr => ?_
  have tk : Takes (cxOf (L2.CX P w) P w K mg base ["_law_pot_here", "_law_lore_here", "_law_many", "_law_found", "_law_name", "_law_kind", "_law_row"] "_law_plates" (defScope st_plates) f cdv A outer s0 H E) (fun cls d _ H => E cls d H) := takes_of rfl rfl rfl rfl
  exact (S_cons (S_set sc.nd rfl (by first | exact Or.inl rfl | exact Or.inr rfl) rfl (E_of (U_lst AU_nil)))
    (S_cons (S_for (passes_of rfl) rfl (IE_seq (E_call d_names hr (by decide) tk (by rfl) (A_consN (pv 0) (A_cons (E_call d_take hr (by decide) tk (by rfl) (A_consN (pv 0) (A_cons (E_of (U_op or_add o2_add (V_var (pv 2)) (V_of U_int))) A_nil))) A_nil)))) (G_name sc.nd rfl (by first | exact Or.inl rfl | exact Or.inr rfl) rfl) (S_cons (S_set sc.nd rfl (by first | exact Or.inl rfl | exact Or.inr rfl) rfl (E_call d_of hr (by decide) tk (by rfl) (A_consN (pv 0) (A_cons (E_of (U_op or_add o2_add (V_of (U_lst (AU_cons U_non (AU_cons U_non (AU_cons U_non AU_nil))))) (V_of (U_lc (own := [("_law_row", 6)]) rfl sc.nd (blkOk_by (N := ["_law_pot_here", "_law_lore_here", "_law_many", "_law_found", "_law_name", "_law_kind", "_law_row"]) (sc := defScope st_plates) (own := [("_law_row", 6)]) (by decide +kernel)) (IV_seq (V_dg hr (V_var (pv 1)) (V_of U_str))) (fun _ _ _ _ _ => (GU_name sc.nd rfl (by first | exact Or.inl rfl | exact Or.inr rfl) rfl)) (fun _ _ _ _ _ => PsU_nil) (fun _ _ _ _ _ => (U_ix (V_var (pv 6)) (V_of U_int))))))) A_nil))))
    (S_one (S_expr (E_lm lm_append (pe_bm PySem.F.plainAttrs_list PySem.F.slot_list_append PySem.F.type_list_append mt_append (pv 3) (pa_cons (E_tup (A_cons (E_of (U_var (pv 4))) (A_cons (E_call d_of hr (by decide) tk (by rfl) (A_consN (pv 0) (A_cons (E_of (U_fz (V_dg hr (V_var (pv 1)) (V_of U_str)))) A_nil))) (A_cons (E_call d_of hr (by decide) tk (by rfl) (A_consN (pv 0) (A_cons (E_of (U_lst (AU_cons U_int (AU_cons U_int (AU_cons U_int (AU_cons U_int AU_nil)))))) A_nil))) (A_cons (E_of (U_var (pv 5))) A_nil))))) pa_nil)))))))
    (S_one (S_ret (E_move (pv 3))))))
abbrev st_gates : Stmt := top 40
theorem sc_gates : FnScope ["_law_pot_here", "_law_lore_here", "_law_low", "_law_most", "_law_found", "_law_rooms", "_law_plates_here", "_law_at", "_law_name", "_law_source", "_law_targets", "_law_target", "_law_kind", "_law_many", "_law_plate", "_law_room", "_law_row"] ["_law_pot_here", "_law_lore_here", "_law_low", "_law_most"] (defScope st_gates) := ⟨rfl, rfl, rfl, by decide +kernel, rfl, by decide +kernel, by decide +kernel⟩
theorem ok_gates {f : Addr} {fd : FuncData} (F : Fun K "_law_gates" "_law_gates" st_gates f fd) (B : Blt mg) (d_take : Df P w K mg base 1 "_law_take" F_take) (d_names : Df P w K mg base 3 "_law_names" F_names) (d_of : Df P w K mg base 2 "_law_of" F_of) (d_some : Df P w K mg base 2 "_law_some" F_some) : T.FnOk P w K mg base (L2.CX P w) 4 f fd ["_law_pot_here", "_law_lore_here", "_law_low", "_law_most"] (spF ⟨K, mg⟩ F_gates) := by
  have sc := sc_gates
  refine fn_ok (N := ["_law_pot_here", "_law_lore_here", "_law_low", "_law_most", "_law_found", "_law_rooms", "_law_plates_here", "_law_at", "_law_name", "_law_source", "_law_targets", "_law_target", "_law_kind", "_law_many", "_law_plate", "_law_room", "_law_row"]) (ps := ["_law_pot_here", "_law_lore_here", "_law_low", "_law_most"]) (k := 3) (kp := kpL [0, 1, 2, 3]) (s := b_gates) F sc (by decide) (kpL_lt (by decide)) fun cdv A outer s0 H E hr => ?_
  have tk : Takes (cxOf (L2.CX P w) P w K mg base ["_law_pot_here", "_law_lore_here", "_law_low", "_law_most", "_law_found", "_law_rooms", "_law_plates_here", "_law_at", "_law_name", "_law_source", "_law_targets", "_law_target", "_law_kind", "_law_many", "_law_plate", "_law_room", "_law_row"] "_law_gates" (defScope st_gates) f cdv A outer s0 H E) (fun cls d _ H => E cls d H) := takes_of rfl rfl rfl rfl
  exact (S_cons (S_par3 rfl sc.nd rfl rfl rfl (by decide) (by decide) (by decide) rfl rfl rfl rfl rfl rfl (A_cons (E_of (U_lst AU_nil)) (A_cons (E_of (U_fz (V_dg hr (V_var (pv 1)) (V_of U_str)))) (A_cons (E_of (U_lc (own := [("_law_plate", 14)]) rfl sc.nd (blkOk_by (N := ["_law_pot_here", "_law_lore_here", "_law_low", "_law_most", "_law_found", "_law_rooms", "_law_plates_here", "_law_at", "_law_name", "_law_source", "_law_targets", "_law_target", "_law_kind", "_law_many", "_law_plate", "_law_room", "_law_row"]) (sc := defScope st_gates) (own := [("_law_plate", 14)]) (by decide +kernel)) (IV_seq (V_dg hr (V_var (pv 1)) (V_of U_str))) (fun _ _ _ _ _ => (GU_name sc.nd rfl (by first | exact Or.inl rfl | exact Or.inr rfl) rfl)) (fun _ _ _ _ _ => PsU_nil) (fun _ _ _ _ _ => (U_ix (V_var (pv 14)) (V_of U_int))))) A_nil))))
    (S_cons (S_for (passes_of rfl) rfl (IE_enum (by rfl) B.enumerate (E_call d_names hr (by decide) tk (by rfl) (A_consN (pv 0) (A_cons (E_opNE or_add o2_add (pv 2) (E_call d_take hr (by decide) tk (by rfl) (A_consN (pv 0) (A_cons (E_of (U_op or_add o2_add (V_of (U_op op_sub o2_sub (V_var (pv 3)) (V_var (pv 2)))) (V_of U_int))) A_nil)))) A_nil)))) (G_tup rfl (Gs_cons (G_name sc.nd rfl (by first | exact Or.inl rfl | exact Or.inr rfl) rfl) (Gs_cons (G_name sc.nd rfl (by first | exact Or.inl rfl | exact Or.inr rfl) rfl) Gs_nil))) (S_cons (S_set sc.nd rfl (by first | exact Or.inl rfl | exact Or.inr rfl) rfl (E_if (TE_of (TU_cmp op_lt (o2_cmp fun i j => decide (i < j)) (nomark _) (V_var (pv 7)) (V_of (U_op op_sub o2_sub (V_of (U_bi cr_lenA cd_len (by rfl) B.len PySem.boot_len (AV_cons (V_var (pv 5)) AV_nil))) (V_of U_int))))) (E_of (U_ix (V_var (pv 5)) (V_var (pv 7)))) (E_call d_of hr (by decide) tk (by rfl) (A_consN (pv 0) (A_consN (pv 5) A_nil)))))
    (S_cons (S_setLcU (i := 10) (own := [("_law_room", 15)]) rfl sc.nd rfl rfl rfl (sw_true rfl rfl rfl (by decide +kernel)) (blkOk_by (N := ["_law_pot_here", "_law_lore_here", "_law_low", "_law_most", "_law_found", "_law_rooms", "_law_plates_here", "_law_at", "_law_name", "_law_source", "_law_targets", "_law_target", "_law_kind", "_law_many", "_law_plate", "_law_room", "_law_row"]) (sc := defScope st_gates) (own := [("_law_room", 15)]) (by decide +kernel)) (IV_seq (V_var (pv 5))) (fun _ _ _ _ _ => (GU_name sc.nd rfl (by first | exact Or.inl rfl | exact Or.inr rfl) rfl)) (fun _ _ _ _ _ => (PsU_one (TU_cmp (op_neD (hu64 hr)) o2_ne (nomark _) (V_var (pv 15)) (V_var (pv 9))))) (fun _ _ _ _ _ => (U_var (pv 15))))
    (S_cons (S_set sc.nd rfl (by first | exact Or.inl rfl | exact Or.inr rfl) rfl (E_if (TE_of (TU_cmp op_lt (o2_cmp fun i j => decide (i < j)) (nomark _) (V_var (pv 7)) (V_of (U_op op_sub o2_sub (V_of (U_bi cr_lenA cd_len (by rfl) B.len PySem.boot_len (AV_cons (V_var (pv 5)) AV_nil))) (V_of U_int))))) (E_of (U_ix (V_var (pv 5)) (V_of (U_op or_add o2_add (V_var (pv 7)) (V_of U_int))))) (E_call d_of hr (by decide) tk (by rfl) (A_consN (pv 0) (A_consN (pv 10) A_nil)))))
    (S_cons (S_set sc.nd rfl (by first | exact Or.inl rfl | exact Or.inr rfl) rfl (E_call d_of hr (by decide) tk (by rfl) (A_consN (pv 0) (A_cons (E_of (U_op or_add o2_add (V_of (U_lst (AU_cons U_non (AU_cons U_non (AU_cons U_non (AU_cons U_non AU_nil)))))) (V_of (U_lc (own := [("_law_row", 16)]) rfl sc.nd (blkOk_by (N := ["_law_pot_here", "_law_lore_here", "_law_low", "_law_most", "_law_found", "_law_rooms", "_law_plates_here", "_law_at", "_law_name", "_law_source", "_law_targets", "_law_target", "_law_kind", "_law_many", "_law_plate", "_law_room", "_law_row"]) (sc := defScope st_gates) (own := [("_law_row", 16)]) (by decide +kernel)) (IV_seq (V_dg hr (V_var (pv 1)) (V_of U_str))) (fun _ _ _ _ _ => (GU_name sc.nd rfl (by first | exact Or.inl rfl | exact Or.inr rfl) rfl)) (fun _ _ _ _ _ => PsU_nil) (fun _ _ _ _ _ => (U_ix (V_var (pv 16)) (V_of U_int))))))) A_nil))))
    (S_cons (S_set sc.nd rfl (by first | exact Or.inl rfl | exact Or.inr rfl) rfl (E_bi (call_min2 rfl) cd_min2 (by rfl) B.min PyProof.Rows.boot_min (A_cons (E_of (U_bi cr_lenA cd_len (by rfl) B.len PySem.boot_len (AV_cons (V_var (pv 6)) AV_nil))) (A_cons (E_ty cr_intA cd_int (by rfl) B.int PyProof.Rows.boot_int (A_cons (E_call d_of hr (by decide) tk (by rfl) (A_consN (pv 0) (A_cons (E_of (U_lst (AU_cons U_int (AU_cons U_int (AU_cons U_int (AU_cons U_int (AU_cons U_int AU_nil))))))) A_nil))) A_nil)) A_nil))))
    (S_one (S_expr (E_lm lm_append (pe_bm PySem.F.plainAttrs_list PySem.F.slot_list_append PySem.F.type_list_append mt_append (pv 4) (pa_cons (E_tup (A_cons (E_of (U_var (pv 8))) (A_cons (E_of (U_var (pv 9))) (A_cons (E_of (U_var (pv 11))) (A_cons (E_of (U_var (pv 12))) (A_cons (E_ty call_tuple_of cd_tuple (by rfl) B.tuple PyProof.Rows.boot_tuple (A_cons (E_call d_some hr (by decide) tk (by rfl) (A_consN (pv 0) (A_consN (pv 6) (A_consN (pv 13) A_nil)))) A_nil)) A_nil)))))) pa_nil)))))))))))
    (S_one (S_ret (E_move (pv 4))))))
abbrev st_lore : Stmt := top 41
theorem sc_lore : FnScope ["_law_pot_here", "_law_rooms", "_law_kinds", "_law_lore_here", "_law_many", "_law_name"] ["_law_pot_here", "_law_rooms", "_law_kinds"] (defScope st_lore) := ⟨rfl, rfl, rfl, by decide +kernel, rfl, by decide +kernel, by decide +kernel⟩
theorem ok_lore {f : Addr} {fd : FuncData} (F : Fun K "_law_lore" "_law_lore" st_lore f fd) (B : Blt mg) (d_take : Df P w K mg base 1 "_law_take" F_take) (d_names : Df P w K mg base 3 "_law_names" F_names) (d_of : Df P w K mg base 2 "_law_of" F_of) (d_plates : Df P w K mg base 4 "_law_plates" F_plates) (d_gates : Df P w K mg base 4 "_law_gates" F_gates) : T.FnOk P w K mg base (L2.CX P w) 5 f fd ["_law_pot_here", "_law_rooms", "_law_kinds"] (spF ⟨K, mg⟩ F_lore) := by
  have sc := sc_lore
  refine fn_ok (N := ["_law_pot_here", "_law_rooms", "_law_kinds", "_law_lore_here", "_law_many", "_law_name"]) (ps := ["_law_pot_here", "_law_rooms", "_law_kinds"]) (k := 4) (kp := kpL [0, 1, 2]) (s := b_lore) F sc (by decide) (kpL_lt (by decide)) fun cdv A outer s0 H E hr => ?_
  have tk : Takes (cxOf (L2.CX P w) P w K mg base ["_law_pot_here", "_law_rooms", "_law_kinds", "_law_lore_here", "_law_many", "_law_name"] "_law_lore" (defScope st_lore) f cdv A outer s0 H E) (fun cls d _ H => E cls d H) := takes_of rfl rfl rfl rfl
  exact (S_cons (S_set sc.nd rfl (by first | exact Or.inl rfl | exact Or.inr rfl) rfl (E_disp1 (E_frA (E_call d_names hr (by decide) tk (by rfl) (A_consN (pv 0) (A_cons (E_opEE or_add o2_add (E_of U_int) (E_call d_take hr (by decide) tk (by rfl) (A_consN (pv 0) (A_cons (E_of (U_op op_sub o2_sub (V_var (pv 1)) (V_of U_int))) A_nil)))) A_nil))))))
    (S_cons (S_set sc.nd rfl (by first | exact Or.inl rfl | exact Or.inr rfl) rfl (E_if (TE_of (TU_cmp op_lt (o2_cmp fun i j => decide (i < j)) (nomark _) (V_of (U_bi cr_lenA cd_len (by rfl) B.len PySem.boot_len (AV_cons (V_dg hr (V_var (pv 3)) (V_of U_str)) AV_nil))) (V_of U_int))) (E_opEE or_add o2_add (E_of U_int) (E_call d_take hr (by decide) tk (by rfl) (A_consN (pv 0) (A_consN (pv 2) A_nil)))) (E_of U_int)))
    (S_cons (S_put hr (pv 3) (V_of U_str) (E_frA (E_lc (own := [("_law_name", 5)]) rfl sc.nd (blkOk_by (N := ["_law_pot_here", "_law_rooms", "_law_kinds", "_law_lore_here", "_law_many", "_law_name"]) (sc := defScope st_lore) (own := [("_law_name", 5)]) (by decide +kernel)) (IE_seq (E_call d_names hr (by decide) tk (by rfl) (A_consN (pv 0) (A_consN (pv 4) A_nil)))) (fun _ _ _ _ _ => (G_name sc.nd rfl (by first | exact Or.inl rfl | exact Or.inr rfl) rfl)) (fun _ _ _ _ _ => PsE_nil) (fun _ _ _ _ _ => (E_tup (A_cons (E_of (U_var (pv 5))) (A_cons (E_call d_of hr (by decide) takes0 (by rfl) (A_consN (pv 0) (A_cons (E_of (U_op or_add o2_add (V_of (U_op or_mul o2_mul (V_of (U_sl (V_dg hr (V_var (pv 3)) (V_of U_str)) PoN (PoS (V_of U_int)))) (V_of U_int))) (V_dg hr (V_var (pv 3)) (V_of U_str)))) A_nil))) A_nil)))))))
    (S_cons (S_put hr (pv 3) (V_of U_str) (E_frA (E_call d_plates hr (by decide) tk (by rfl) (A_consN (pv 0) (A_consN (pv 3) (A_cons (E_of U_int) A_nil))))))
    (S_cons (S_put hr (pv 3) (V_of U_str) (E_frA (E_call d_gates hr (by decide) tk (by rfl) (A_consN (pv 0) (A_consN (pv 3) (A_cons (E_of (U_op op_sub o2_sub (V_of (U_bi cr_lenA cd_len (by rfl) B.len PySem.boot_len (AV_cons (V_dg hr (V_var (pv 3)) (V_of U_str)) AV_nil))) (V_of U_int))) (A_cons (E_of U_int) A_nil)))))))
    (S_one (S_ret (E_move (pv 3)))))))))
abbrev st_text : Stmt := top 42
theorem sc_text : FnScope ["_law_lore_here", "_law_lines", "_law_name", "_law_room", "_law_number", "_law_kind", "_law_source", "_law_target", "_law_plates_here", "_law_line"] ["_law_lore_here"] (defScope st_text) := ⟨rfl, rfl, rfl, by decide +kernel, rfl, by decide +kernel, by decide +kernel⟩
theorem ok_text {f : Addr} {fd : FuncData} (F : Fun K "_law_text" "_law_text" st_text f fd) (B : Blt mg)  : T.FnOk P w K mg base (L2.CX P w) 1 f fd ["_law_lore_here"] (spF ⟨K, mg⟩ F_text) := by
  have sc := sc_text
  refine fn_ok (N := ["_law_lore_here", "_law_lines", "_law_name", "_law_room", "_law_number", "_law_kind", "_law_source", "_law_target", "_law_plates_here", "_law_line"]) (ps := ["_law_lore_here"]) (k := 0) (kp := kpL [0]) (s := b_text) F sc (by decide) (kpL_lt (by decide)) fun cdv A outer s0 H E hr => ?_
  have tk : Takes (cxOf (L2.CX P w) P w K mg base ["_law_lore_here", "_law_lines", "_law_name", "_law_room", "_law_number", "_law_kind", "_law_source", "_law_target", "_law_plates_here", "_law_line"] "_law_text" (defScope st_text) f cdv A outer s0 H E) (fun cls d _ H => E cls d H) := takes_of rfl rfl rfl rfl
  exact (S_cons (S_set sc.nd rfl (by first | exact Or.inl rfl | exact Or.inr rfl) rfl (E_of (U_op or_add o2_add (V_of (U_lc (own := [("_law_room", 3)]) rfl sc.nd (blkOk_by (N := ["_law_lore_here", "_law_lines", "_law_name", "_law_room", "_law_number", "_law_kind", "_law_source", "_law_target", "_law_plates_here", "_law_line"]) (sc := defScope st_text) (own := [("_law_room", 3)]) (by decide +kernel)) (IV_seq (V_dg hr (V_var (pv 0)) (V_of U_str))) (fun _ _ _ _ _ => (GU_name sc.nd rfl (by first | exact Or.inl rfl | exact Or.inr rfl) rfl)) (fun _ _ _ _ _ => PsU_nil) (fun _ _ _ _ _ => (U_op or_add o2_add (V_of U_str) (V_var (pv 3)))))) (V_of (U_lc (own := [("_law_name", 2), ("_law_room", 3)]) rfl sc.nd (blkOk_by (N := ["_law_lore_here", "_law_lines", "_law_name", "_law_room", "_law_number", "_law_kind", "_law_source", "_law_target", "_law_plates_here", "_law_line"]) (sc := defScope st_text) (own := [("_law_name", 2), ("_law_room", 3)]) (by decide +kernel)) (IV_seq (V_dg hr (V_var (pv 0)) (V_of U_str))) (fun _ _ _ _ _ => (GU_tup rfl (GUs_cons (GU_name sc.nd rfl (by first | exact Or.inl rfl | exact Or.inr rfl) rfl) (GUs_cons (GU_name sc.nd rfl (by first | exact Or.inl rfl | exact Or.inr rfl) rfl) GUs_nil)))) (fun _ _ _ _ _ => PsU_nil) (fun _ _ _ _ _ => (U_op or_add o2_add (V_of (U_op or_add o2_add (V_of (U_op or_add o2_add (V_of U_str) (V_var (pv 2)))) (V_of U_str))) (V_var (pv 3)))))))))
    (S_cons (S_for (passes_of rfl) rfl (IE_of (IU_seq (U_fz (V_dg hr (V_var (pv 0)) (V_of U_str))))) (G_tup rfl (Gs_cons (G_name sc.nd rfl (by first | exact Or.inl rfl | exact Or.inr rfl) rfl) (Gs_cons (G_name sc.nd rfl (by first | exact Or.inl rfl | exact Or.inr rfl) rfl) (Gs_cons (G_name sc.nd rfl (by first | exact Or.inl rfl | exact Or.inr rfl) rfl) (Gs_cons (G_name sc.nd rfl (by first | exact Or.inl rfl | exact Or.inr rfl) rfl) Gs_nil))))) (S_one (S_expr (E_lm lm_append (pe_bm PySem.F.plainAttrs_list PySem.F.slot_list_append PySem.F.type_list_append mt_append (pv 1) (pa_cons (E_of (U_op or_add o2_add (V_of (U_op or_add o2_add (V_of (U_op or_add o2_add (V_of (U_op or_add o2_add (V_of (U_op or_add o2_add (V_of (U_op or_add o2_add (V_of U_str) (V_var (pv 2)))) (V_of U_str))) (V_var (pv 3)))) (V_of U_str))) (V_of (U_ty call_str_int cd_str (by rfl) B.str PyProof.Rows.boot_str (AV_cons (V_var (pv 4)) AV_nil))))) (V_of (U_if (TU_cmp op_notN o2_isNot (nomark _) (V_var (pv 5)) (V_of U_non)) (U_op or_add o2_add (V_of U_str) (V_var (pv 5))) U_str)))) pa_nil))))))
    (S_cons (S_for (passes_of rfl) rfl (IE_of (IU_seq (U_fz (V_dg hr (V_var (pv 0)) (V_of U_str))))) (G_tup rfl (Gs_cons (G_name sc.nd rfl (by first | exact Or.inl rfl | exact Or.inr rfl) rfl) (Gs_cons (G_name sc.nd rfl (by first | exact Or.inl rfl | exact Or.inr rfl) rfl) (Gs_cons (G_name sc.nd rfl (by first | exact Or.inl rfl | exact Or.inr rfl) rfl) (Gs_cons (G_name sc.nd rfl (by first | exact Or.inl rfl | exact Or.inr rfl) rfl) (Gs_cons (G_name sc.nd rfl (by first | exact Or.inl rfl | exact Or.inr rfl) rfl) Gs_nil)))))) (S_cons (S_set sc.nd rfl (by first | exact Or.inl rfl | exact Or.inr rfl) rfl (E_of (U_op or_add o2_add (V_of (U_op or_add o2_add (V_of (U_op or_add o2_add (V_of (U_op or_add o2_add (V_of (U_op or_add o2_add (V_of (U_op or_add o2_add (V_of U_str) (V_var (pv 2)))) (V_of U_str))) (V_var (pv 6)))) (V_of U_str))) (V_var (pv 7)))) (V_of (U_if (TU_cmp op_notN o2_isNot (nomark _) (V_var (pv 5)) (V_of U_non)) (U_op or_add o2_add (V_of U_str) (V_var (pv 5))) U_str)))))
    (S_one (S_expr (E_lm lm_append (pe_bm PySem.F.plainAttrs_list PySem.F.slot_list_append PySem.F.type_list_append mt_append (pv 1) (pa_cons (E_of (U_op or_add o2_add (V_var (pv 9)) (V_of (U_if (TU_cmp (op_neD (hu64 hr)) o2_ne (nomark _) (V_var (pv 8)) (V_of (U_tup AU_nil))) (U_op or_add o2_add (V_of U_str) (V_of (U_join (V_of U_str) (V_var (pv 8))))) U_str)))) pa_nil)))))))
    (S_one (S_ret (E_of (U_join (V_of U_str) (V_var (pv 1)))))))))
abbrev st_cells : Stmt := top 43
theorem sc_cells : FnScope ["_law_script", "_law_limit"] ["_law_script", "_law_limit"] (defScope st_cells) := ⟨rfl, rfl, rfl, by decide +kernel, rfl, by decide +kernel, by decide +kernel⟩
theorem ok_cells {f : Addr} {fd : FuncData} (F : Fun K "_law_cells" "_law_cells" st_cells f fd) (B : Blt mg)  : T.FnOk P w K mg base (L2.CX P w) 1 f fd ["_law_script", "_law_limit"] (spF ⟨K, mg⟩ F_cells) := by
  have sc := sc_cells
  refine fn_ok (N := ["_law_script", "_law_limit"]) (ps := ["_law_script", "_law_limit"]) (k := 0) (kp := kpL [0, 1]) (s := b_cells) F sc (by decide) (kpL_lt (by decide)) fun cdv A outer s0 H E hr => ?_
  have tk : Takes (cxOf (L2.CX P w) P w K mg base ["_law_script", "_law_limit"] "_law_cells" (defScope st_cells) f cdv A outer s0 H E) (fun cls d _ H => E cls d H) := takes_of rfl rfl rfl rfl
  exact (S_one (S_ret (E_of (U_lstRg rfl (by rfl) B.list (by rfl) B.range (V_of (U_bi (call_max2 rfl) cd_max2 (by rfl) B.max PyProof.Rows.boot_max (AV_cons (V_of U_int) (AV_cons (V_of (U_bi (call_min2 rfl) cd_min2 (by rfl) B.min PyProof.Rows.boot_min (AV_cons (V_var (pv 1)) (AV_cons (V_of (U_bi cr_lenA cd_len (by rfl) B.len PySem.boot_len (AV_cons (V_var (pv 0)) AV_nil))) AV_nil)))) AV_nil))))))))
abbrev st_fine : Stmt := top 44
theorem sc_fine : FnScope ["_law_pot_here", "_law_lap", "_law_lore_here", "_law_level", "_law_heard", "_law_names_here", "_law_due", "_law_name", "_law_room"] ["_law_pot_here"] (defScope st_fine) := ⟨rfl, rfl, rfl, by decide +kernel, rfl, by decide +kernel, by decide +kernel⟩
theorem ok_fine {f : Addr} {fd : FuncData} (F : Fun K "_law_fine" "_law_fine" st_fine f fd) (B : Blt mg) (d_lore : Df P w K mg base 5 "_law_lore" F_lore) (d_text : Df P w K mg base 1 "_law_text" F_text) (k_Level : Mkr P w K mg base 7 "Level" F_Level_init) (p_Level_gates : Pr P w K mg base 1 "Level" "gates" F_Level_gates) (p_Level_plates : Pr P w K mg base 1 "Level" "plates" F_Level_plates) (p_Level_kinds : Pr P w K mg base 1 "Level" "kinds" F_Level_kinds) (p_Level_rooms : Pr P w K mg base 1 "Level" "rooms" F_Level_rooms) (p_Level_text : Pr P w K mg base 1 "Level" "text" F_Level_text) : T.FnOk P w K mg base (L2.CX P w) 9 f fd ["_law_pot_here"] (spF ⟨K, mg⟩ F_fine) := by
  have sc := sc_fine
  refine fn_ok (N := ["_law_pot_here", "_law_lap", "_law_lore_here", "_law_level", "_law_heard", "_law_names_here", "_law_due", "_law_name", "_law_room"]) (ps := ["_law_pot_here"]) (k := 8) (kp := kpL [0]) (s := b_fine) F sc (by decide) (kpL_lt (by decide)) fun cdv A outer s0 H E hr => ?_
  have tk : Takes (cxOf (L2.CX P w) P w K mg base ["_law_pot_here", "_law_lap", "_law_lore_here", "_law_level", "_law_heard", "_law_names_here", "_law_due", "_law_name", "_law_room"] "_law_fine" (defScope st_fine) f cdv A outer s0 H E) (fun cls d _ H => E cls d H) := takes_of rfl rfl rfl rfl
  exact (S_cons (S_for (passes_of rfl) rfl (IE_of (IU_rng1 (by rfl) B.range (AV_cons (V_of U_int) AV_nil))) (G_name sc.nd rfl (by first | exact Or.inl rfl | exact Or.inr rfl) rfl) (S_cons (S_set sc.nd rfl (by first | exact Or.inl rfl | exact Or.inr rfl) rfl (E_call d_lore hr (by decide) tk (by rfl) (A_consN (pv 0) (A_cons (E_of U_int) (A_cons (E_of U_int) A_nil)))))
    (S_cons (S_set sc.nd rfl (by first | exact Or.inl rfl | exact Or.inr rfl) rfl (E_make k_Level hr (by decide) tk (by rfl) (A_cons (E_call d_text hr (by decide) tk (by rfl) (A_consN (pv 2) A_nil)) A_nil)))
    (S_cons (S_set sc.nd rfl (by first | exact Or.inl rfl | exact Or.inr rfl) rfl (E_of (U_thaw (U_tup (AU_cons (U_pr p_Level_text hr (by decide) (V_var (pv 3))) (AU_cons (U_pr p_Level_rooms hr (by decide) (V_var (pv 3))) (AU_cons (U_pr p_Level_kinds hr (by decide) (V_var (pv 3))) (AU_cons (U_pr p_Level_plates hr (by decide) (V_var (pv 3))) (AU_cons (U_pr p_Level_gates hr (by decide) (V_var (pv 3))) AU_nil)))))))))
    (S_cons (S_set sc.nd rfl (by first | exact Or.inl rfl | exact Or.inr rfl) rfl (E_of (U_ty call_tuple_of cd_tuple (by rfl) B.tuple PyProof.Rows.boot_tuple (AV_cons (V_of (U_lc (own := [("_law_name", 7), ("_law_room", 8)]) rfl sc.nd (blkOk_by (N := ["_law_pot_here", "_law_lap", "_law_lore_here", "_law_level", "_law_heard", "_law_names_here", "_law_due", "_law_name", "_law_room"]) (sc := defScope st_fine) (own := [("_law_name", 7), ("_law_room", 8)]) (by decide +kernel)) (IV_seq (V_dg hr (V_var (pv 2)) (V_of U_str))) (fun _ _ _ _ _ => (GU_tup rfl (GUs_cons (GU_name sc.nd rfl (by first | exact Or.inl rfl | exact Or.inr rfl) rfl) (GUs_cons (GU_name sc.nd rfl (by first | exact Or.inl rfl | exact Or.inr rfl) rfl) GUs_nil)))) (fun _ _ _ _ _ => PsU_nil) (fun _ _ _ _ _ => (U_var (pv 7))))) AV_nil))))
    (S_cons (S_set sc.nd rfl (by first | exact Or.inl rfl | exact Or.inr rfl) rfl (E_tup (A_cons (E_call d_text hr (by decide) tk (by rfl) (A_consN (pv 2) A_nil)) (A_cons (E_of (U_ty call_tuple_of cd_tuple (by rfl) B.tuple PyProof.Rows.boot_tuple (AV_cons (V_dg hr (V_var (pv 2)) (V_of U_str)) AV_nil))) (A_cons (E_of (U_var (pv 5))) (A_cons (E_of (U_ty call_tuple_of cd_tuple (by rfl) B.tuple PyProof.Rows.boot_tuple (AV_cons (V_dg hr (V_var (pv 2)) (V_of U_str)) AV_nil))) (A_cons (E_of (U_ty call_tuple_of cd_tuple (by rfl) B.tuple PyProof.Rows.boot_tuple (AV_cons (V_dg hr (V_var (pv 2)) (V_of U_str)) AV_nil))) A_nil)))))))
    (S_one (S_if (TE_of (TU_cmp (op_neD (hu64 hr)) o2_ne (nomark _) (V_of (U_bi (call_repr hr) cd_repr (by rfl) B.repr (by decide +kernel) (AV_cons (V_var (pv 4)) AV_nil))) (V_of (U_bi (call_repr hr) cd_repr (by rfl) B.repr (by decide +kernel) (AV_cons (V_var (pv 6)) AV_nil))))) (S_one (S_ret (E_of U_bl))) S_nil))))))))
    (S_one (S_ret (E_of U_bl))))
abbrev st_P_law : Stmt := top 45
theorem sc_P_law : FnScope ["_law_script", "_law_k"] ["_law_script"] (defScope st_P_law) := ⟨rfl, rfl, rfl, by decide +kernel, rfl, by decide +kernel, by decide +kernel⟩
theorem ok_P_law {f : Addr} {fd : FuncData} (F : Fun K "law" "law" st_P_law f fd) (B : Blt mg) (d_cells : Df P w K mg base 1 "_law_cells" F_cells) (d_pot : Df P w K mg base 1 "_law_pot" F_pot) (d_fine : Df P w K mg base 9 "_law_fine" F_fine) : T.FnOk P w K mg base (L2.CX P w) 10 f fd ["_law_script"] (spF ⟨K, mg⟩ F_P_law) := by
  have sc := sc_P_law
  refine fn_ok (N := ["_law_script", "_law_k"]) (ps := ["_law_script"]) (k := 9) (kp := kpL [0]) (s := b_P_law) F sc (by decide) (kpL_lt (by decide)) fun cdv A outer s0 H E hr => ?_
  have tk : Takes (cxOf (L2.CX P w) P w K mg base ["_law_script", "_law_k"] "law" (defScope st_P_law) f cdv A outer s0 H E) (fun cls d _ H => E cls d H) := takes_of rfl rfl rfl rfl
  exact (S_one (S_ret (E_bi (cr_all rfl) cd_all (by rfl) B.all PyProof.Rows.boot_all (A_cons (E_lc (own := [("_law_k", 1)]) rfl sc.nd (blkOk_by (N := ["_law_script", "_law_k"]) (sc := defScope st_P_law) (own := [("_law_k", 1)]) (by decide +kernel)) (IE_seq (E_call d_cells hr (by decide) tk (by rfl) (A_consN (pv 0) (A_cons (E_of U_int) A_nil)))) (fun _ _ _ _ _ => (G_name sc.nd rfl (by first | exact Or.inl rfl | exact Or.inr rfl) rfl)) (fun _ _ _ _ _ => PsE_nil) (fun _ _ _ _ _ => (E_call d_fine hr (by decide) takes0 (by rfl) (A_cons (E_call d_pot hr (by decide) takes0 (by rfl) (A_consN (pv 0) (A_consN (pv 1) A_nil))) A_nil)))) A_nil))))
end
end Q


set_option Elab.async false
set_option linter.all false
set_option maxRecDepth 100000
set_option maxHeartbeats 4000000
namespace Q
open PySem PySem.Spec PyProof.Rows L2 T
theorem fld_mk {K : PySem.W.Frag} {mg : Str → Option Value} {C : Addr} {c f : Str} (m : mg c = some (.ref C)) (cl : Cls K C) (n : NoAttr K C f) : ∀ c' ∈ ([c] : List Str), FldOk K mg c' f := fun c' h A e => by
  rw [List.mem_singleton.mp h, m] at e
  cases e
  exact ⟨cl, n⟩
theorem gc_int {K : PySem.W.Frag} {mg : Str → Option Value} {x : Str} {i : Int} {t : Tok} (m : mg x = some (.int i t)) : GC K mg x (.int i) := ⟨.int i, _, m, ⟨t, rfl⟩, fun _ => ⟨rfl, rfl⟩⟩
theorem gc_str {K : PySem.W.Frag} {mg : Str → Option Value} {x s : Str} {t : Tok} (m : mg x = some (.str s t)) : GC K mg x (.str s) := ⟨.str s, _, m, ⟨t, rfl⟩, fun _ => ⟨rfl, rfl⟩⟩
theorem fn_imp {P : Program} {w : World} {K : PySem.W.Frag} {mg : Str → Option Value} {base : Heap} {X : CXT} {k : Nat} {f : Addr} {fd : FuncData} {ps : List Str} {sp sp' : Sp} (G : T.FnOk P w K mg base X k f fd ps sp) (h : ∀ vs H Q E, sp' vs H Q E → sp vs H Q E) : T.FnOk P w K mg base X k f fd ps sp' :=
  ⟨fun vs H Q E z => G.len vs H Q E (h vs H Q E z), fun A outer s H args us vs Q E hr e0 hb hv z => G.run A outer s H args us vs Q E hr e0 hb hv (h vs H Q E z)⟩
def spLaw (K : PySem.W.Frag) : Sp := fun vs H Q _ => ∃ (a : Addr) (ns : List Int), vs = [.ref a] ∧ Only H ∧ SqL K H a (ns.map V.int) ∧ ns.length ≤ 63 ∧ ∀ H', Q (.bl true) H'
theorem rps_ints {C : Kt} {H : Hp} : ∀ ns : List Int, RPs C H (ns.map .int) (ns.map V.int) []
  | [] => ⟨rfl, rfl⟩
  | i :: ns => ⟨.int i, ns.map V.int, [], [], rfl, rfl, ⟨rfl, rfl⟩, rps_ints ns⟩
theorem spLaw_imp {K : PySem.W.Frag} {mg : Str → Option Value} (vs : List V) (H : Hp) (Q : VK) (E : XK) (h : spLaw K vs H Q E) : spF ⟨K, mg⟩ F_P_law vs H Q E := by
  obtain ⟨a, ns, rfl, hO, hS, hl, k⟩ := h
  have sf : SqLf K H a (ns.map V.int) := by
    rcases hS with (z | z) | z
    · rcases hO a with y | ⟨o, xs, y⟩
      · rw [y] at z; cases z
      · rw [y] at z; cases z
    · exact .inl z
    · exact .inr z
  have rk : RP ⟨K, mg⟩ H (.klst (ns.map .int)) (.ref a) [] := by
    unfold RP
    exact ⟨a, _, rfl, rfl, sf, rps_ints ns⟩
  obtain ⟨os, e⟩ := law_ok ns
  refine ⟨[.klst (ns.map .int)], [], ⟨.ref a, [], [], [], rfl, rfl, rk, rfl, rfl⟩, List.nodup_nil, ?_⟩
  rw [e]
  intro v H' fm fo r _ _ _
  rw [r.1]
  exact k H'
theorem all_mk {l : PySem.W.OpenLaw} {w : World} {K : PySem.W.Frag} {h : Heap} {mg : Str → Option Value} {fa : Addr} (X : K.In h) (G : h.Ns mainGlobals mg) (hfa : mg "law" = some (.ref fa))
    {C0 : Addr} (aC0 : PySem.W.nsIn K mainGlobals "Reader" = some (some (.ref C0)))
    (pg0 : PySem.W.plainGet K C0 Str.empty = true)
    (hd0 : PySem.W.hasDictIn K C0 = true)
    (po0 : PySem.W.plainOver K C0 = true)
    (sa0 : PySem.W.findIn K (.ref C0) "__setattr__" = some (some (.builtin "object.__setattr__")))
    (mk0 : PySem.W.makesIn K C0 = true)
    (kc0 : PySem.W.keepIn K (.ref C0) = true)
    {C1 : Addr} (aC1 : PySem.W.nsIn K mainGlobals "Level" = some (some (.ref C1)))
    (pg1 : PySem.W.plainGet K C1 Str.empty = true)
    (hd1 : PySem.W.hasDictIn K C1 = true)
    (po1 : PySem.W.plainOver K C1 = true)
    (sa1 : PySem.W.findIn K (.ref C1) "__setattr__" = some (some (.builtin "object.__setattr__")))
    (mk1 : PySem.W.makesIn K C1 = true)
    (kc1 : PySem.W.keepIn K (.ref C1) = true)
    (nf0 : PySem.W.findIn K (.ref C0) "own_rooms" = some none)
    (nf1 : PySem.W.findIn K (.ref C0) "own_kinds" = some none)
    (nf2 : PySem.W.findIn K (.ref C0) "own_plates" = some none)
    (nf3 : PySem.W.findIn K (.ref C0) "own_gates" = some none)
    (nf4 : PySem.W.findIn K (.ref C1) "own_gates" = some none)
    (nf5 : PySem.W.findIn K (.ref C1) "own_kinds" = some none)
    (nf6 : PySem.W.findIn K (.ref C1) "own_places" = some none)
    (nf7 : PySem.W.findIn K (.ref C1) "own_index" = some none)
    (nf8 : PySem.W.findIn K (.ref C1) "own_ways" = some none)
    (nf9 : PySem.W.findIn K (.ref C1) "own_needs" = some none)
    (nf10 : PySem.W.findIn K (.ref C1) "own_text" = some none)
    (nf11 : PySem.W.findIn K (.ref C1) "own_rooms" = some none)
    (nf12 : PySem.W.findIn K (.ref C1) "own_starts" = some none)
    (nf13 : PySem.W.findIn K (.ref C1) "own_plates" = some none)
    (nf14 : PySem.W.findIn K (.ref C1) "own_steps" = some none)
    (nf15 : PySem.W.findIn K (.ref C1) "own_found" = some none)
    {tc0 : Tok} (cn0 : PySem.W.nsIn K mainGlobals "LETTERS" = some (some (.str "abcdefghijklmnopqrstuvwxyz" tc0)))
    {tc1 : Tok} (cn1 : PySem.W.nsIn K mainGlobals "LONGEST" = some (some (.int 8 tc1)))
    {tc2 : Tok} (cn2 : PySem.W.nsIn K mainGlobals "MOST_HELD" = some (some (.int 2 tc2)))
    {tc3 : Tok} (cn3 : PySem.W.nsIn K mainGlobals "PAIR" = some (some (.int 2 tc3)))
    {tc4 : Tok} (cn4 : PySem.W.nsIn K mainGlobals "FOR" = some (some (.str "for" tc4)))
    {tc5 : Tok} (cn5 : PySem.W.nsIn K mainGlobals "WHILE" = some (some (.str "while" tc5)))
    {tc6 : Tok} (cn6 : PySem.W.nsIn K mainGlobals "MOST_ROOMS" = some (some (.int 5 tc6)))
    {tc7 : Tok} (cn7 : PySem.W.nsIn K mainGlobals "LEAST_ROOMS" = some (some (.int 2 tc7)))
    {tc8 : Tok} (cn8 : PySem.W.nsIn K mainGlobals "MOST_KINDS" = some (some (.int 2 tc8)))
    {tc9 : Tok} (cn9 : PySem.W.nsIn K mainGlobals "MOST_PLATES" = some (some (.int 4 tc9)))
    {tc10 : Tok} (cn10 : PySem.W.nsIn K mainGlobals "MOST_GATES" = some (some (.int 8 tc10)))
    {tc11 : Tok} (cn11 : PySem.W.nsIn K mainGlobals "TRIPLE" = some (some (.int 3 tc11)))
    {tc12 : Tok} (cn12 : PySem.W.nsIn K mainGlobals "FEED" = some (some (.str "\n" tc12)))
    {ta0 : Addr} (gt0 : PySem.W.nsIn K mainGlobals "NUMBERS" = some (some (.ref ta0)))
    {to0 : Option Addr} {tn0 : Nat} {ts0 : Array (Option Value)} {tt0_0 tt0_1 tt0_2 : Tok} (gl0 : K.lookup ta0 = some ⟨.type "tuple", to0, .seq #[(Value.str "1" tt0_0), (Value.str "2" tt0_1), (Value.str "3" tt0_2)] tn0, ts0⟩)
    (z_len : PySem.W.nsIn K mainGlobals "len" = some none)
    (z_int : PySem.W.nsIn K mainGlobals "int" = some none)
    (z_abs : PySem.W.nsIn K mainGlobals "abs" = some none)
    (z_str : PySem.W.nsIn K mainGlobals "str" = some none)
    (z_tuple : PySem.W.nsIn K mainGlobals "tuple" = some none)
    (z_list : PySem.W.nsIn K mainGlobals "list" = some none)
    (z_range : PySem.W.nsIn K mainGlobals "range" = some none)
    (z_zip : PySem.W.nsIn K mainGlobals "zip" = some none)
    (z_enumerate : PySem.W.nsIn K mainGlobals "enumerate" = some none)
    (z_max : PySem.W.nsIn K mainGlobals "max" = some none)
    (z_min : PySem.W.nsIn K mainGlobals "min" = some none)
    (z_sum : PySem.W.nsIn K mainGlobals "sum" = some none)
    (z_all : PySem.W.nsIn K mainGlobals "all" = some none)
    (z_any : PySem.W.nsIn K mainGlobals "any" = some none)
    (z_sorted : PySem.W.nsIn K mainGlobals "sorted" = some none)
    (z_set : PySem.W.nsIn K mainGlobals "set" = some none)
    (z_isinstance : PySem.W.nsIn K mainGlobals "isinstance" = some none)
    (z_repr : PySem.W.nsIn K mainGlobals "repr" = some none)
    (z_bool : PySem.W.nsIn K mainGlobals "bool" = some none)
    {f0 : Addr} (a0 : PySem.W.nsIn K mainGlobals "greater" = some (some (.ref f0)))
    {od0 an0 : Option Addr} {sl0 : Array (Option Value)} {oc0 kV0 dc0 pm0 cd0 ct0 : Value} (l0 : K.lookup f0 = some ⟨oc0, od0, .func (PySem.W.fnOf "greater" "greater" (defArgs st_P_greater) (defBody st_P_greater) (defScope st_P_greater) .none kV0 dc0 pm0 an0 cd0 ct0), sl0⟩)
    (c0 : PySem.W.codeIn K cd0 "greater" = true)
    (k0 : PySem.W.keepIn K (.ref f0) = true)
    {f1 : Addr} (a1 : PySem.W.nsIn K mainGlobals "is_within" = some (some (.ref f1)))
    {od1 an1 : Option Addr} {sl1 : Array (Option Value)} {oc1 kV1 dc1 pm1 cd1 ct1 : Value} (l1 : K.lookup f1 = some ⟨oc1, od1, .func (PySem.W.fnOf "is_within" "is_within" (defArgs st_P_is_within) (defBody st_P_is_within) (defScope st_P_is_within) .none kV1 dc1 pm1 an1 cd1 ct1), sl1⟩)
    (c1 : PySem.W.codeIn K cd1 "is_within" = true)
    (k1 : PySem.W.keepIn K (.ref f1) = true)
    {f2 : Addr} (a2 : PySem.W.nsIn K mainGlobals "least_of" = some (some (.ref f2)))
    {od2 an2 : Option Addr} {sl2 : Array (Option Value)} {oc2 kV2 dc2 pm2 cd2 ct2 : Value} (l2 : K.lookup f2 = some ⟨oc2, od2, .func (PySem.W.fnOf "least_of" "least_of" (defArgs st_P_least_of) (defBody st_P_least_of) (defScope st_P_least_of) .none kV2 dc2 pm2 an2 cd2 ct2), sl2⟩)
    (c2 : PySem.W.codeIn K cd2 "least_of" = true)
    (k2 : PySem.W.keepIn K (.ref f2) = true)
    {f3 : Addr} (a3 : PySem.W.nsIn K mainGlobals "shares" = some (some (.ref f3)))
    {od3 an3 : Option Addr} {sl3 : Array (Option Value)} {oc3 kV3 dc3 pm3 cd3 ct3 : Value} (l3 : K.lookup f3 = some ⟨oc3, od3, .func (PySem.W.fnOf "shares" "shares" (defArgs st_P_shares) (defBody st_P_shares) (defScope st_P_shares) .none kV3 dc3 pm3 an3 cd3 ct3), sl3⟩)
    (c3 : PySem.W.codeIn K cd3 "shares" = true)
    (k3 : PySem.W.keepIn K (.ref f3) = true)
    {f4 : Addr} (a4 : PySem.W.nsIn K mainGlobals "plate_needs" = some (some (.ref f4)))
    {od4 an4 : Option Addr} {sl4 : Array (Option Value)} {oc4 kV4 dc4 pm4 cd4 ct4 : Value} (l4 : K.lookup f4 = some ⟨oc4, od4, .func (PySem.W.fnOf "plate_needs" "plate_needs" (defArgs st_P_plate_needs) (defBody st_P_plate_needs) (defScope st_P_plate_needs) .none kV4 dc4 pm4 an4 cd4 ct4), sl4⟩)
    (c4 : PySem.W.codeIn K cd4 "plate_needs" = true)
    (k4 : PySem.W.keepIn K (.ref f4) = true)
    {f5 : Addr} (a5 : PySem.W.nsIn K mainGlobals "gate_needs" = some (some (.ref f5)))
    {od5 an5 : Option Addr} {sl5 : Array (Option Value)} {oc5 kV5 dc5 pm5 cd5 ct5 : Value} (l5 : K.lookup f5 = some ⟨oc5, od5, .func (PySem.W.fnOf "gate_needs" "gate_needs" (defArgs st_P_gate_needs) (defBody st_P_gate_needs) (defScope st_P_gate_needs) .none kV5 dc5 pm5 an5 cd5 ct5), sl5⟩)
    (c5 : PySem.W.codeIn K cd5 "gate_needs" = true)
    (k5 : PySem.W.keepIn K (.ref f5) = true)
    {f6 : Addr} (a6 : PySem.W.nsIn K mainGlobals "is_name" = some (some (.ref f6)))
    {od6 an6 : Option Addr} {sl6 : Array (Option Value)} {oc6 kV6 dc6 pm6 cd6 ct6 : Value} (l6 : K.lookup f6 = some ⟨oc6, od6, .func (PySem.W.fnOf "is_name" "is_name" (defArgs st_P_is_name) (defBody st_P_is_name) (defScope st_P_is_name) .none kV6 dc6 pm6 an6 cd6 ct6), sl6⟩)
    (c6 : PySem.W.codeIn K cd6 "is_name" = true)
    (k6 : PySem.W.keepIn K (.ref f6) = true)
    {f7 : Addr} (a7 : PySem.W.nsIn K mainGlobals "is_fresh" = some (some (.ref f7)))
    {od7 an7 : Option Addr} {sl7 : Array (Option Value)} {oc7 kV7 dc7 pm7 cd7 ct7 : Value} (l7 : K.lookup f7 = some ⟨oc7, od7, .func (PySem.W.fnOf "is_fresh" "is_fresh" (defArgs st_P_is_fresh) (defBody st_P_is_fresh) (defScope st_P_is_fresh) .none kV7 dc7 pm7 an7 cd7 ct7), sl7⟩)
    (c7 : PySem.W.codeIn K cd7 "is_fresh" = true)
    (k7 : PySem.W.keepIn K (.ref f7) = true)
    {f8 : Addr} (a8 : PySem.W.findIn K (.ref C0) "__init__" = some (some (.ref f8)))
    (i8 : PySem.W.isFn K (.ref f8) = true)
    {od8 an8 : Option Addr} {sl8 : Array (Option Value)} {oc8 kV8 dc8 pm8 cd8 ct8 : Value} (l8 : K.lookup f8 = some ⟨oc8, od8, .func (PySem.W.fnOf "__init__" "Reader.__init__" (defArgs st_Reader_init) (defBody st_Reader_init) (defScope st_Reader_init) .none kV8 dc8 pm8 an8 cd8 ct8), sl8⟩)
    (c8 : PySem.W.codeIn K cd8 "Reader.__init__" = true)
    (k8 : PySem.W.keepIn K (.ref f8) = true)
    {f9 : Addr} (a9 : PySem.W.findIn K (.ref C0) "kind_names" = some (some (.ref f9)))
    (i9 : PySem.W.isFn K (.ref f9) = true)
    {od9 an9 : Option Addr} {sl9 : Array (Option Value)} {oc9 kV9 dc9 pm9 cd9 ct9 : Value} (l9 : K.lookup f9 = some ⟨oc9, od9, .func (PySem.W.fnOf "kind_names" "Reader.kind_names" (defArgs st_Reader_kind_names) (defBody st_Reader_kind_names) (defScope st_Reader_kind_names) .none kV9 dc9 pm9 an9 cd9 ct9), sl9⟩)
    (c9 : PySem.W.codeIn K cd9 "Reader.kind_names" = true)
    (k9 : PySem.W.keepIn K (.ref f9) = true)
    {f10 : Addr} (a10 : PySem.W.findIn K (.ref C0) "plate_names" = some (some (.ref f10)))
    (i10 : PySem.W.isFn K (.ref f10) = true)
    {od10 an10 : Option Addr} {sl10 : Array (Option Value)} {oc10 kV10 dc10 pm10 cd10 ct10 : Value} (l10 : K.lookup f10 = some ⟨oc10, od10, .func (PySem.W.fnOf "plate_names" "Reader.plate_names" (defArgs st_Reader_plate_names) (defBody st_Reader_plate_names) (defScope st_Reader_plate_names) .none kV10 dc10 pm10 an10 cd10 ct10), sl10⟩)
    (c10 : PySem.W.codeIn K cd10 "Reader.plate_names" = true)
    (k10 : PySem.W.keepIn K (.ref f10) = true)
    {f11 : Addr} (a11 : PySem.W.findIn K (.ref C0) "are_plates" = some (some (.ref f11)))
    (i11 : PySem.W.isFn K (.ref f11) = true)
    {od11 an11 : Option Addr} {sl11 : Array (Option Value)} {oc11 kV11 dc11 pm11 cd11 ct11 : Value} (l11 : K.lookup f11 = some ⟨oc11, od11, .func (PySem.W.fnOf "are_plates" "Reader.are_plates" (defArgs st_Reader_are_plates) (defBody st_Reader_are_plates) (defScope st_Reader_are_plates) .none kV11 dc11 pm11 an11 cd11 ct11), sl11⟩)
    (c11 : PySem.W.codeIn K cd11 "Reader.are_plates" = true)
    (k11 : PySem.W.keepIn K (.ref f11) = true)
    {f12 : Addr} (a12 : PySem.W.findIn K (.ref C0) "bound" = some (some (.ref f12)))
    (i12 : PySem.W.isFn K (.ref f12) = true)
    {od12 an12 : Option Addr} {sl12 : Array (Option Value)} {oc12 kV12 dc12 pm12 cd12 ct12 : Value} (l12 : K.lookup f12 = some ⟨oc12, od12, .func (PySem.W.fnOf "bound" "Reader.bound" (defArgs st_Reader_bound) (defBody st_Reader_bound) (defScope st_Reader_bound) .none kV12 dc12 pm12 an12 cd12 ct12), sl12⟩)
    (c12 : PySem.W.codeIn K cd12 "Reader.bound" = true)
    (k12 : PySem.W.keepIn K (.ref f12) = true)
    {f13 : Addr} (a13 : PySem.W.findIn K (.ref C0) "take_room" = some (some (.ref f13)))
    (i13 : PySem.W.isFn K (.ref f13) = true)
    {od13 an13 : Option Addr} {sl13 : Array (Option Value)} {oc13 kV13 dc13 pm13 cd13 ct13 : Value} (l13 : K.lookup f13 = some ⟨oc13, od13, .func (PySem.W.fnOf "take_room" "Reader.take_room" (defArgs st_Reader_take_room) (defBody st_Reader_take_room) (defScope st_Reader_take_room) .none kV13 dc13 pm13 an13 cd13 ct13), sl13⟩)
    (c13 : PySem.W.codeIn K cd13 "Reader.take_room" = true)
    (k13 : PySem.W.keepIn K (.ref f13) = true)
    {f14 : Addr} (a14 : PySem.W.findIn K (.ref C0) "take_kind" = some (some (.ref f14)))
    (i14 : PySem.W.isFn K (.ref f14) = true)
    {od14 an14 : Option Addr} {sl14 : Array (Option Value)} {oc14 kV14 dc14 pm14 cd14 ct14 : Value} (l14 : K.lookup f14 = some ⟨oc14, od14, .func (PySem.W.fnOf "take_kind" "Reader.take_kind" (defArgs st_Reader_take_kind) (defBody st_Reader_take_kind) (defScope st_Reader_take_kind) .none kV14 dc14 pm14 an14 cd14 ct14), sl14⟩)
    (c14 : PySem.W.codeIn K cd14 "Reader.take_kind" = true)
    (k14 : PySem.W.keepIn K (.ref f14) = true)
    {f15 : Addr} (a15 : PySem.W.findIn K (.ref C0) "take_plate" = some (some (.ref f15)))
    (i15 : PySem.W.isFn K (.ref f15) = true)
    {od15 an15 : Option Addr} {sl15 : Array (Option Value)} {oc15 kV15 dc15 pm15 cd15 ct15 : Value} (l15 : K.lookup f15 = some ⟨oc15, od15, .func (PySem.W.fnOf "take_plate" "Reader.take_plate" (defArgs st_Reader_take_plate) (defBody st_Reader_take_plate) (defScope st_Reader_take_plate) .none kV15 dc15 pm15 an15 cd15 ct15), sl15⟩)
    (c15 : PySem.W.codeIn K cd15 "Reader.take_plate" = true)
    (k15 : PySem.W.keepIn K (.ref f15) = true)
    {f16 : Addr} (a16 : PySem.W.findIn K (.ref C0) "take_gate" = some (some (.ref f16)))
    (i16 : PySem.W.isFn K (.ref f16) = true)
    {od16 an16 : Option Addr} {sl16 : Array (Option Value)} {oc16 kV16 dc16 pm16 cd16 ct16 : Value} (l16 : K.lookup f16 = some ⟨oc16, od16, .func (PySem.W.fnOf "take_gate" "Reader.take_gate" (defArgs st_Reader_take_gate) (defBody st_Reader_take_gate) (defScope st_Reader_take_gate) .none kV16 dc16 pm16 an16 cd16 ct16), sl16⟩)
    (c16 : PySem.W.codeIn K cd16 "Reader.take_gate" = true)
    (k16 : PySem.W.keepIn K (.ref f16) = true)
    {f17 : Addr} (a17 : PySem.W.findIn K (.ref C0) "take" = some (some (.ref f17)))
    (i17 : PySem.W.isFn K (.ref f17) = true)
    {od17 an17 : Option Addr} {sl17 : Array (Option Value)} {oc17 kV17 dc17 pm17 cd17 ct17 : Value} (l17 : K.lookup f17 = some ⟨oc17, od17, .func (PySem.W.fnOf "take" "Reader.take" (defArgs st_Reader_take) (defBody st_Reader_take) (defScope st_Reader_take) .none kV17 dc17 pm17 an17 cd17 ct17), sl17⟩)
    (c17 : PySem.W.codeIn K cd17 "Reader.take" = true)
    (k17 : PySem.W.keepIn K (.ref f17) = true)
    {f18 : Addr} (a18 : PySem.W.nsIn K mainGlobals "read_level" = some (some (.ref f18)))
    {od18 an18 : Option Addr} {sl18 : Array (Option Value)} {oc18 kV18 dc18 pm18 cd18 ct18 : Value} (l18 : K.lookup f18 = some ⟨oc18, od18, .func (PySem.W.fnOf "read_level" "read_level" (defArgs st_P_read_level) (defBody st_P_read_level) (defScope st_P_read_level) .none kV18 dc18 pm18 an18 cd18 ct18), sl18⟩)
    (c18 : PySem.W.codeIn K cd18 "read_level" = true)
    (k18 : PySem.W.keepIn K (.ref f18) = true)
    {f19 : Addr} (a19 : PySem.W.findIn K (.ref C1) "put_steps" = some (some (.ref f19)))
    (i19 : PySem.W.isFn K (.ref f19) = true)
    {od19 an19 : Option Addr} {sl19 : Array (Option Value)} {oc19 kV19 dc19 pm19 cd19 ct19 : Value} (l19 : K.lookup f19 = some ⟨oc19, od19, .func (PySem.W.fnOf "put_steps" "Level.put_steps" (defArgs st_Level_put_steps) (defBody st_Level_put_steps) (defScope st_Level_put_steps) .none kV19 dc19 pm19 an19 cd19 ct19), sl19⟩)
    (c19 : PySem.W.codeIn K cd19 "Level.put_steps" = true)
    (k19 : PySem.W.keepIn K (.ref f19) = true)
    {f20 : Addr} (a20 : PySem.W.findIn K (.ref C1) "__init__" = some (some (.ref f20)))
    (i20 : PySem.W.isFn K (.ref f20) = true)
    {od20 an20 : Option Addr} {sl20 : Array (Option Value)} {oc20 kV20 dc20 pm20 cd20 ct20 : Value} (l20 : K.lookup f20 = some ⟨oc20, od20, .func (PySem.W.fnOf "__init__" "Level.__init__" (defArgs st_Level_init) (defBody st_Level_init) (defScope st_Level_init) .none kV20 dc20 pm20 an20 cd20 ct20), sl20⟩)
    (c20 : PySem.W.codeIn K cd20 "Level.__init__" = true)
    (k20 : PySem.W.keepIn K (.ref f20) = true)
    {p21 : Addr} (a21 : PySem.W.findIn K (.ref C1) "text" = some (some (.ref p21)))
    (g21 : PySem.W.specialIn K (.ref p21) "__get__" = some (some (.builtin "property.__get__")))
    (t21 : PySem.W.takesIn K (.ref p21) = some true)
    {f21 : Addr} {rs21 : List Value} (r21 : PySem.W.recIn K p21 "property" = some (.ref f21 :: rs21))
    {od21 an21 : Option Addr} {sl21 : Array (Option Value)} {oc21 kV21 dc21 pm21 cd21 ct21 : Value} (l21 : K.lookup f21 = some ⟨oc21, od21, .func (PySem.W.fnOf "text" "Level.text" (defArgs st_Level_text) (defBody st_Level_text) (defScope st_Level_text) .none kV21 dc21 pm21 an21 cd21 ct21), sl21⟩)
    (c21 : PySem.W.codeIn K cd21 "Level.text" = true)
    (k21 : PySem.W.keepIn K (.ref f21) = true)
    {p22 : Addr} (a22 : PySem.W.findIn K (.ref C1) "rooms" = some (some (.ref p22)))
    (g22 : PySem.W.specialIn K (.ref p22) "__get__" = some (some (.builtin "property.__get__")))
    (t22 : PySem.W.takesIn K (.ref p22) = some true)
    {f22 : Addr} {rs22 : List Value} (r22 : PySem.W.recIn K p22 "property" = some (.ref f22 :: rs22))
    {od22 an22 : Option Addr} {sl22 : Array (Option Value)} {oc22 kV22 dc22 pm22 cd22 ct22 : Value} (l22 : K.lookup f22 = some ⟨oc22, od22, .func (PySem.W.fnOf "rooms" "Level.rooms" (defArgs st_Level_rooms) (defBody st_Level_rooms) (defScope st_Level_rooms) .none kV22 dc22 pm22 an22 cd22 ct22), sl22⟩)
    (c22 : PySem.W.codeIn K cd22 "Level.rooms" = true)
    (k22 : PySem.W.keepIn K (.ref f22) = true)
    {p23 : Addr} (a23 : PySem.W.findIn K (.ref C1) "kinds" = some (some (.ref p23)))
    (g23 : PySem.W.specialIn K (.ref p23) "__get__" = some (some (.builtin "property.__get__")))
    (t23 : PySem.W.takesIn K (.ref p23) = some true)
    {f23 : Addr} {rs23 : List Value} (r23 : PySem.W.recIn K p23 "property" = some (.ref f23 :: rs23))
    {od23 an23 : Option Addr} {sl23 : Array (Option Value)} {oc23 kV23 dc23 pm23 cd23 ct23 : Value} (l23 : K.lookup f23 = some ⟨oc23, od23, .func (PySem.W.fnOf "kinds" "Level.kinds" (defArgs st_Level_kinds) (defBody st_Level_kinds) (defScope st_Level_kinds) .none kV23 dc23 pm23 an23 cd23 ct23), sl23⟩)
    (c23 : PySem.W.codeIn K cd23 "Level.kinds" = true)
    (k23 : PySem.W.keepIn K (.ref f23) = true)
    {p24 : Addr} (a24 : PySem.W.findIn K (.ref C1) "plates" = some (some (.ref p24)))
    (g24 : PySem.W.specialIn K (.ref p24) "__get__" = some (some (.builtin "property.__get__")))
    (t24 : PySem.W.takesIn K (.ref p24) = some true)
    {f24 : Addr} {rs24 : List Value} (r24 : PySem.W.recIn K p24 "property" = some (.ref f24 :: rs24))
    {od24 an24 : Option Addr} {sl24 : Array (Option Value)} {oc24 kV24 dc24 pm24 cd24 ct24 : Value} (l24 : K.lookup f24 = some ⟨oc24, od24, .func (PySem.W.fnOf "plates" "Level.plates" (defArgs st_Level_plates) (defBody st_Level_plates) (defScope st_Level_plates) .none kV24 dc24 pm24 an24 cd24 ct24), sl24⟩)
    (c24 : PySem.W.codeIn K cd24 "Level.plates" = true)
    (k24 : PySem.W.keepIn K (.ref f24) = true)
    {p25 : Addr} (a25 : PySem.W.findIn K (.ref C1) "gates" = some (some (.ref p25)))
    (g25 : PySem.W.specialIn K (.ref p25) "__get__" = some (some (.builtin "property.__get__")))
    (t25 : PySem.W.takesIn K (.ref p25) = some true)
    {f25 : Addr} {rs25 : List Value} (r25 : PySem.W.recIn K p25 "property" = some (.ref f25 :: rs25))
    {od25 an25 : Option Addr} {sl25 : Array (Option Value)} {oc25 kV25 dc25 pm25 cd25 ct25 : Value} (l25 : K.lookup f25 = some ⟨oc25, od25, .func (PySem.W.fnOf "gates" "Level.gates" (defArgs st_Level_gates) (defBody st_Level_gates) (defScope st_Level_gates) .none kV25 dc25 pm25 an25 cd25 ct25), sl25⟩)
    (c25 : PySem.W.codeIn K cd25 "Level.gates" = true)
    (k25 : PySem.W.keepIn K (.ref f25) = true)
    {f26 : Addr} (a26 : PySem.W.nsIn K mainGlobals "_law_pot" = some (some (.ref f26)))
    {od26 an26 : Option Addr} {sl26 : Array (Option Value)} {oc26 kV26 dc26 pm26 cd26 ct26 : Value} (l26 : K.lookup f26 = some ⟨oc26, od26, .func (PySem.W.fnOf "_law_pot" "_law_pot" (defArgs st_pot) (defBody st_pot) (defScope st_pot) .none kV26 dc26 pm26 an26 cd26 ct26), sl26⟩)
    (c26 : PySem.W.codeIn K cd26 "_law_pot" = true)
    (k26 : PySem.W.keepIn K (.ref f26) = true)
    {f27 : Addr} (a27 : PySem.W.nsIn K mainGlobals "_law_take" = some (some (.ref f27)))
    {od27 an27 : Option Addr} {sl27 : Array (Option Value)} {oc27 kV27 dc27 pm27 cd27 ct27 : Value} (l27 : K.lookup f27 = some ⟨oc27, od27, .func (PySem.W.fnOf "_law_take" "_law_take" (defArgs st_take) (defBody st_take) (defScope st_take) .none kV27 dc27 pm27 an27 cd27 ct27), sl27⟩)
    (c27 : PySem.W.codeIn K cd27 "_law_take" = true)
    (k27 : PySem.W.keepIn K (.ref f27) = true)
    {f28 : Addr} (a28 : PySem.W.nsIn K mainGlobals "_law_of" = some (some (.ref f28)))
    {od28 an28 : Option Addr} {sl28 : Array (Option Value)} {oc28 kV28 dc28 pm28 cd28 ct28 : Value} (l28 : K.lookup f28 = some ⟨oc28, od28, .func (PySem.W.fnOf "_law_of" "_law_of" (defArgs st_of) (defBody st_of) (defScope st_of) .none kV28 dc28 pm28 an28 cd28 ct28), sl28⟩)
    (c28 : PySem.W.codeIn K cd28 "_law_of" = true)
    (k28 : PySem.W.keepIn K (.ref f28) = true)
    {f29 : Addr} (a29 : PySem.W.nsIn K mainGlobals "_law_some" = some (some (.ref f29)))
    {od29 an29 : Option Addr} {sl29 : Array (Option Value)} {oc29 kV29 dc29 pm29 cd29 ct29 : Value} (l29 : K.lookup f29 = some ⟨oc29, od29, .func (PySem.W.fnOf "_law_some" "_law_some" (defArgs st_some) (defBody st_some) (defScope st_some) .none kV29 dc29 pm29 an29 cd29 ct29), sl29⟩)
    (c29 : PySem.W.codeIn K cd29 "_law_some" = true)
    (k29 : PySem.W.keepIn K (.ref f29) = true)
    {f30 : Addr} (a30 : PySem.W.nsIn K mainGlobals "_law_names" = some (some (.ref f30)))
    {od30 an30 : Option Addr} {sl30 : Array (Option Value)} {oc30 kV30 dc30 pm30 cd30 ct30 : Value} (l30 : K.lookup f30 = some ⟨oc30, od30, .func (PySem.W.fnOf "_law_names" "_law_names" (defArgs st_names) (defBody st_names) (defScope st_names) .none kV30 dc30 pm30 an30 cd30 ct30), sl30⟩)
    (c30 : PySem.W.codeIn K cd30 "_law_names" = true)
    (k30 : PySem.W.keepIn K (.ref f30) = true)
    {f31 : Addr} (a31 : PySem.W.nsIn K mainGlobals "_law_plates" = some (some (.ref f31)))
    {od31 an31 : Option Addr} {sl31 : Array (Option Value)} {oc31 kV31 dc31 pm31 cd31 ct31 : Value} (l31 : K.lookup f31 = some ⟨oc31, od31, .func (PySem.W.fnOf "_law_plates" "_law_plates" (defArgs st_plates) (defBody st_plates) (defScope st_plates) .none kV31 dc31 pm31 an31 cd31 ct31), sl31⟩)
    (c31 : PySem.W.codeIn K cd31 "_law_plates" = true)
    (k31 : PySem.W.keepIn K (.ref f31) = true)
    {f32 : Addr} (a32 : PySem.W.nsIn K mainGlobals "_law_gates" = some (some (.ref f32)))
    {od32 an32 : Option Addr} {sl32 : Array (Option Value)} {oc32 kV32 dc32 pm32 cd32 ct32 : Value} (l32 : K.lookup f32 = some ⟨oc32, od32, .func (PySem.W.fnOf "_law_gates" "_law_gates" (defArgs st_gates) (defBody st_gates) (defScope st_gates) .none kV32 dc32 pm32 an32 cd32 ct32), sl32⟩)
    (c32 : PySem.W.codeIn K cd32 "_law_gates" = true)
    (k32 : PySem.W.keepIn K (.ref f32) = true)
    {f33 : Addr} (a33 : PySem.W.nsIn K mainGlobals "_law_lore" = some (some (.ref f33)))
    {od33 an33 : Option Addr} {sl33 : Array (Option Value)} {oc33 kV33 dc33 pm33 cd33 ct33 : Value} (l33 : K.lookup f33 = some ⟨oc33, od33, .func (PySem.W.fnOf "_law_lore" "_law_lore" (defArgs st_lore) (defBody st_lore) (defScope st_lore) .none kV33 dc33 pm33 an33 cd33 ct33), sl33⟩)
    (c33 : PySem.W.codeIn K cd33 "_law_lore" = true)
    (k33 : PySem.W.keepIn K (.ref f33) = true)
    {f34 : Addr} (a34 : PySem.W.nsIn K mainGlobals "_law_text" = some (some (.ref f34)))
    {od34 an34 : Option Addr} {sl34 : Array (Option Value)} {oc34 kV34 dc34 pm34 cd34 ct34 : Value} (l34 : K.lookup f34 = some ⟨oc34, od34, .func (PySem.W.fnOf "_law_text" "_law_text" (defArgs st_text) (defBody st_text) (defScope st_text) .none kV34 dc34 pm34 an34 cd34 ct34), sl34⟩)
    (c34 : PySem.W.codeIn K cd34 "_law_text" = true)
    (k34 : PySem.W.keepIn K (.ref f34) = true)
    {f35 : Addr} (a35 : PySem.W.nsIn K mainGlobals "_law_cells" = some (some (.ref f35)))
    {od35 an35 : Option Addr} {sl35 : Array (Option Value)} {oc35 kV35 dc35 pm35 cd35 ct35 : Value} (l35 : K.lookup f35 = some ⟨oc35, od35, .func (PySem.W.fnOf "_law_cells" "_law_cells" (defArgs st_cells) (defBody st_cells) (defScope st_cells) .none kV35 dc35 pm35 an35 cd35 ct35), sl35⟩)
    (c35 : PySem.W.codeIn K cd35 "_law_cells" = true)
    (k35 : PySem.W.keepIn K (.ref f35) = true)
    {f36 : Addr} (a36 : PySem.W.nsIn K mainGlobals "_law_fine" = some (some (.ref f36)))
    {od36 an36 : Option Addr} {sl36 : Array (Option Value)} {oc36 kV36 dc36 pm36 cd36 ct36 : Value} (l36 : K.lookup f36 = some ⟨oc36, od36, .func (PySem.W.fnOf "_law_fine" "_law_fine" (defArgs st_fine) (defBody st_fine) (defScope st_fine) .none kV36 dc36 pm36 an36 cd36 ct36), sl36⟩)
    (c36 : PySem.W.codeIn K cd36 "_law_fine" = true)
    (k36 : PySem.W.keepIn K (.ref f36) = true)
    {f37 : Addr} (a37 : PySem.W.nsIn K mainGlobals "law" = some (some (.ref f37)))
    {od37 an37 : Option Addr} {sl37 : Array (Option Value)} {oc37 kV37 dc37 pm37 cd37 ct37 : Value} (l37 : K.lookup f37 = some ⟨oc37, od37, .func (PySem.W.fnOf "law" "law" (defArgs st_P_law) (defBody st_P_law) (defScope st_P_law) .none kV37 dc37 pm37 an37 cd37 ct37), sl37⟩)
    (c37 : PySem.W.codeIn K cd37 "law" = true)
    (k37 : PySem.W.keepIn K (.ref f37) = true) :
    ∃ fd : FuncData, (∀ (s : Shared) (v : Value), BindsTo s fd ⟨[v], []⟩ [("_law_script", v)]) ∧ ∀ base : Heap, K.In base → base.Ns mainGlobals mg → T.FnOk l.prog w K mg base (L2.CX l.prog w) 10 fa fd ["_law_script"] (spLaw K) := by
  have e := hfa.symm.trans (PySem.W.mg_of X G a37)
  cases e
  have B : Blt mg := ⟨PySem.W.mg_none_of X G z_len, PySem.W.mg_none_of X G z_int, PySem.W.mg_none_of X G z_abs, PySem.W.mg_none_of X G z_str, PySem.W.mg_none_of X G z_tuple, PySem.W.mg_none_of X G z_list, PySem.W.mg_none_of X G z_range, PySem.W.mg_none_of X G z_zip, PySem.W.mg_none_of X G z_enumerate, PySem.W.mg_none_of X G z_max, PySem.W.mg_none_of X G z_min, PySem.W.mg_none_of X G z_sum, PySem.W.mg_none_of X G z_all, PySem.W.mg_none_of X G z_any, PySem.W.mg_none_of X G z_sorted, PySem.W.mg_none_of X G z_set, PySem.W.mg_none_of X G z_isinstance, PySem.W.mg_none_of X G z_repr, PySem.W.mg_none_of X G z_bool⟩
  have gC0 := PySem.W.mg_of X G aC0
  have cl0 : Cls K C0 := ⟨pg0, hd0, po0, sa0⟩
  have gC1 := PySem.W.mg_of X G aC1
  have cl1 : Cls K C1 := ⟨pg1, hd1, po1, sa1⟩
  have n_Reader_own_rooms := fld_mk (f := "own_rooms") gC0 cl0 nf0
  have n_Reader_own_kinds := fld_mk (f := "own_kinds") gC0 cl0 nf1
  have n_Reader_own_plates := fld_mk (f := "own_plates") gC0 cl0 nf2
  have n_Reader_own_gates := fld_mk (f := "own_gates") gC0 cl0 nf3
  have n_Level_own_gates := fld_mk (f := "own_gates") gC1 cl1 nf4
  have n_Level_own_kinds := fld_mk (f := "own_kinds") gC1 cl1 nf5
  have n_Level_own_places := fld_mk (f := "own_places") gC1 cl1 nf6
  have n_Level_own_index := fld_mk (f := "own_index") gC1 cl1 nf7
  have n_Level_own_ways := fld_mk (f := "own_ways") gC1 cl1 nf8
  have n_Level_own_needs := fld_mk (f := "own_needs") gC1 cl1 nf9
  have n_Level_own_text := fld_mk (f := "own_text") gC1 cl1 nf10
  have n_Level_own_rooms := fld_mk (f := "own_rooms") gC1 cl1 nf11
  have n_Level_own_starts := fld_mk (f := "own_starts") gC1 cl1 nf12
  have n_Level_own_plates := fld_mk (f := "own_plates") gC1 cl1 nf13
  have n_Level_own_steps := fld_mk (f := "own_steps") gC1 cl1 nf14
  have n_Level_own_found := fld_mk (f := "own_found") gC1 cl1 nf15
  have c_LETTERS : GC K mg "LETTERS" (.str "abcdefghijklmnopqrstuvwxyz") := gc_str (PySem.W.mg_of X G cn0)
  have c_LONGEST : GC K mg "LONGEST" (.int 8) := gc_int (PySem.W.mg_of X G cn1)
  have c_MOST_HELD : GC K mg "MOST_HELD" (.int 2) := gc_int (PySem.W.mg_of X G cn2)
  have c_PAIR : GC K mg "PAIR" (.int 2) := gc_int (PySem.W.mg_of X G cn3)
  have c_FOR : GC K mg "FOR" (.str "for") := gc_str (PySem.W.mg_of X G cn4)
  have c_WHILE : GC K mg "WHILE" (.str "while") := gc_str (PySem.W.mg_of X G cn5)
  have c_MOST_ROOMS : GC K mg "MOST_ROOMS" (.int 5) := gc_int (PySem.W.mg_of X G cn6)
  have c_LEAST_ROOMS : GC K mg "LEAST_ROOMS" (.int 2) := gc_int (PySem.W.mg_of X G cn7)
  have c_MOST_KINDS : GC K mg "MOST_KINDS" (.int 2) := gc_int (PySem.W.mg_of X G cn8)
  have c_MOST_PLATES : GC K mg "MOST_PLATES" (.int 4) := gc_int (PySem.W.mg_of X G cn9)
  have c_MOST_GATES : GC K mg "MOST_GATES" (.int 8) := gc_int (PySem.W.mg_of X G cn10)
  have c_TRIPLE : GC K mg "TRIPLE" (.int 3) := gc_int (PySem.W.mg_of X G cn11)
  have c_FEED : GC K mg "FEED" (.str "\n") := gc_str (PySem.W.mg_of X G cn12)
  have g_NUMBERS : GT K mg "NUMBERS" [.str "1", .str "2", .str "3"] := ⟨ta0, PySem.W.mg_of X G gt0, fun H => .tup (xs := [V.str "1", V.str "2", V.str "3"]) (.inr ⟨_, _, _, gl0, rfl, rfl, (show 3 ≤ sizeLine from by decide), (.cons ⟨_, rfl⟩ (.cons ⟨_, rfl⟩ (.cons ⟨_, rfl⟩ .nil)))⟩) (.cons (Dp.str "1") (.cons (Dp.str "2") (.cons (Dp.str "3") .nil)))⟩
  have i_str : IsT K mg [] "str" := fun _ z => nomatch z
  refine ⟨PySem.W.fnOf "law" "law" (defArgs st_P_law) (defBody st_P_law) (defScope st_P_law) .none kV37 dc37 pm37 an37 cd37 ct37, fun s v => .of_eq rfl, fun base _ _ => ?_⟩
  have F0 := fun_mk (st := st_P_greater) l0 c0 k0
  have b0 := F0.binds (ps := ["one", "other"]) fun _ _ _ _ _ _ us hl => match us, hl with | [_, _], _ => rfl
  have d_P_greater : Df l.prog w K mg base 1 "greater" F_P_greater := ⟨f0, _, _, (ok_P_greater F0 B), PySem.W.mg_of X G a0, k0, b0⟩
  have F1 := fun_mk (st := st_P_is_within) l1 c1 k1
  have b1 := F1.binds (ps := ["one", "other"]) fun _ _ _ _ _ _ us hl => match us, hl with | [_, _], _ => rfl
  have d_P_is_within : Df l.prog w K mg base 1 "is_within" F_P_is_within := ⟨f1, _, _, (ok_P_is_within F1 B), PySem.W.mg_of X G a1, k1, b1⟩
  have F2 := fun_mk (st := st_P_least_of) l2 c2 k2
  have b2 := F2.binds (ps := ["rows"]) fun _ _ _ _ _ _ us hl => match us, hl with | [_], _ => rfl
  have d_P_least_of : Df l.prog w K mg base 2 "least_of" F_P_least_of := ⟨f2, _, _, (ok_P_least_of F2 B d_P_is_within), PySem.W.mg_of X G a2, k2, b2⟩
  have F3 := fun_mk (st := st_P_shares) l3 c3 k3
  have b3 := F3.binds (ps := ["number", "kinds"]) fun _ _ _ _ _ _ us hl => match us, hl with | [_, _], _ => rfl
  have d_P_shares : Df l.prog w K mg base 1 "shares" F_P_shares := ⟨f3, _, _, (ok_P_shares F3 B), PySem.W.mg_of X G a3, k3, b3⟩
  have F4 := fun_mk (st := st_P_plate_needs) l4 c4 k4
  have b4 := F4.binds (ps := ["plate", "places", "kinds"]) fun _ _ _ _ _ _ us hl => match us, hl with | [_, _, _], _ => rfl
  have d_P_plate_needs : Df l.prog w K mg base 2 "plate_needs" F_P_plate_needs := ⟨f4, _, _, (ok_P_plate_needs F4 B d_P_shares), PySem.W.mg_of X G a4, k4, b4⟩
  have F5 := fun_mk (st := st_P_gate_needs) l5 c5 k5
  have b5 := F5.binds (ps := ["plates", "places", "kinds"]) fun _ _ _ _ _ _ us hl => match us, hl with | [_, _, _], _ => rfl
  have d_P_gate_needs : Df l.prog w K mg base 3 "gate_needs" F_P_gate_needs := ⟨f5, _, _, (ok_P_gate_needs F5 B d_P_plate_needs d_P_greater d_P_least_of), PySem.W.mg_of X G a5, k5, b5⟩
  have F6 := fun_mk (st := st_P_is_name) l6 c6 k6
  have b6 := F6.binds (ps := ["value"]) fun _ _ _ _ _ _ us hl => match us, hl with | [_], _ => rfl
  have d_P_is_name : Df l.prog w K mg base 1 "is_name" F_P_is_name := ⟨f6, _, _, (ok_P_is_name F6 B c_LETTERS c_LONGEST i_str), PySem.W.mg_of X G a6, k6, b6⟩
  have F7 := fun_mk (st := st_P_is_fresh) l7 c7 k7
  have b7 := F7.binds (ps := ["name", "names"]) fun _ _ _ _ _ _ us hl => match us, hl with | [_, _], _ => rfl
  have d_P_is_fresh : Df l.prog w K mg base 2 "is_fresh" F_P_is_fresh := ⟨f7, _, _, (ok_P_is_fresh F7 B d_P_is_name), PySem.W.mg_of X G a7, k7, b7⟩
  have F8 := fun_mk (st := st_Reader_init) l8 c8 k8
  have b8 := F8.binds (ps := ["self"]) fun _ _ _ _ _ _ us hl => match us, hl with | [_], _ => rfl
  have k_Reader : Mkr l.prog w K mg base 1 "Reader" F_Reader_init := ⟨C0, f8, _, _, gC0, ⟨mk0, a8, i8, kc0⟩, (ok_Reader_init F8 B n_Reader_own_rooms n_Reader_own_kinds n_Reader_own_plates n_Reader_own_gates), b8⟩
  have F9 := fun_mk (st := st_Reader_kind_names) l9 c9 k9
  have b9 := F9.binds (ps := ["self"]) fun _ _ _ _ _ _ us hl => match us, hl with | [_], _ => rfl
  have m_Reader_kind_names : Mt l.prog w K mg base 1 "Reader" "kind_names" F_Reader_kind_names := ⟨C0, f9, _, _, gC0, cl0, ⟨a9, i9, k9⟩, (ok_Reader_kind_names F9 B n_Reader_own_kinds), b9⟩
  have F10 := fun_mk (st := st_Reader_plate_names) l10 c10 k10
  have b10 := F10.binds (ps := ["self"]) fun _ _ _ _ _ _ us hl => match us, hl with | [_], _ => rfl
  have m_Reader_plate_names : Mt l.prog w K mg base 1 "Reader" "plate_names" F_Reader_plate_names := ⟨C0, f10, _, _, gC0, cl0, ⟨a10, i10, k10⟩, (ok_Reader_plate_names F10 B n_Reader_own_plates), b10⟩
  have F11 := fun_mk (st := st_Reader_are_plates) l11 c11 k11
  have b11 := F11.binds (ps := ["self", "names"]) fun _ _ _ _ _ _ us hl => match us, hl with | [_, _], _ => rfl
  have m_Reader_are_plates : Mt l.prog w K mg base 2 "Reader" "are_plates" F_Reader_are_plates := ⟨C0, f11, _, _, gC0, cl0, ⟨a11, i11, k11⟩, (ok_Reader_are_plates F11 B c_MOST_HELD m_Reader_plate_names), b11⟩
  have F12 := fun_mk (st := st_Reader_bound) l12 c12 k12
  have b12 := F12.binds (ps := ["self", "more"]) fun _ _ _ _ _ _ us hl => match us, hl with | [_, _], _ => rfl
  have m_Reader_bound : Mt l.prog w K mg base 3 "Reader" "bound" F_Reader_bound := ⟨C0, f12, _, _, gC0, cl0, ⟨a12, i12, k12⟩, (ok_Reader_bound F12 B c_PAIR c_FOR m_Reader_kind_names c_WHILE m_Reader_are_plates), b12⟩
  have F13 := fun_mk (st := st_Reader_take_room) l13 c13 k13
  have b13 := F13.binds (ps := ["self", "name"]) fun _ _ _ _ _ _ us hl => match us, hl with | [_, _], _ => rfl
  have m_Reader_take_room : Mt l.prog w K mg base 3 "Reader" "take_room" F_Reader_take_room := ⟨C0, f13, _, _, gC0, cl0, ⟨a13, i13, k13⟩, (ok_Reader_take_room F13 B n_Reader_own_kinds n_Reader_own_rooms c_MOST_ROOMS d_P_is_fresh), b13⟩
  have F14 := fun_mk (st := st_Reader_take_kind) l14 c14 k14
  have b14 := F14.binds (ps := ["self", "name", "room"]) fun _ _ _ _ _ _ us hl => match us, hl with | [_, _, _], _ => rfl
  have m_Reader_take_kind : Mt l.prog w K mg base 3 "Reader" "take_kind" F_Reader_take_kind := ⟨C0, f14, _, _, gC0, cl0, ⟨a14, i14, k14⟩, (ok_Reader_take_kind F14 B n_Reader_own_rooms c_LEAST_ROOMS n_Reader_own_plates n_Reader_own_gates c_MOST_ROOMS c_MOST_KINDS n_Reader_own_kinds m_Reader_kind_names d_P_is_fresh), b14⟩
  have F15 := fun_mk (st := st_Reader_take_plate) l15 c15 k15
  have b15 := F15.binds (ps := ["self", "name", "room", "number", "more"]) fun _ _ _ _ _ _ us hl => match us, hl with | [_, _, _, _, _], _ => rfl
  have m_Reader_take_plate : Mt l.prog w K mg base 3 "Reader" "take_plate" F_Reader_take_plate := ⟨C0, f15, _, _, gC0, cl0, ⟨a15, i15, k15⟩, (ok_Reader_take_plate F15 B n_Reader_own_kinds n_Reader_own_gates n_Reader_own_plates c_MOST_PLATES m_Reader_plate_names d_P_is_fresh n_Reader_own_rooms g_NUMBERS m_Reader_kind_names), b15⟩
  have F16 := fun_mk (st := st_Reader_take_gate) l16 c16 k16
  have b16 := F16.binds (ps := ["self", "ends", "more"]) fun _ _ _ _ _ _ us hl => match us, hl with | [_, _, _], _ => rfl
  have m_Reader_take_gate : Mt l.prog w K mg base 4 "Reader" "take_gate" F_Reader_take_gate := ⟨C0, f16, _, _, gC0, cl0, ⟨a16, i16, k16⟩, (ok_Reader_take_gate F16 B n_Reader_own_kinds n_Reader_own_gates c_MOST_GATES d_P_is_fresh m_Reader_bound n_Reader_own_rooms), b16⟩
  have F17 := fun_mk (st := st_Reader_take) l17 c17 k17
  have b17 := F17.binds (ps := ["self", "line"]) fun _ _ _ _ _ _ us hl => match us, hl with | [_, _], _ => rfl
  have m_Reader_take : Mt l.prog w K mg base 5 "Reader" "take" F_Reader_take := ⟨C0, f17, _, _, gC0, cl0, ⟨a17, i17, k17⟩, (ok_Reader_take F17 B c_TRIPLE m_Reader_take_gate c_PAIR m_Reader_take_plate m_Reader_take_kind m_Reader_take_room), b17⟩
  have F18 := fun_mk (st := st_P_read_level) l18 c18 k18
  have b18 := F18.binds (ps := ["text"]) fun _ _ _ _ _ _ us hl => match us, hl with | [_], _ => rfl
  have d_P_read_level : Df l.prog w K mg base 6 "read_level" F_P_read_level := ⟨f18, _, _, (ok_P_read_level F18 B i_str c_FEED k_Reader m_Reader_take n_Reader_own_gates), PySem.W.mg_of X G a18, k18, b18⟩
  have F19 := fun_mk (st := st_Level_put_steps) l19 c19 k19
  have b19 := F19.binds (ps := ["self", "plates"]) fun _ _ _ _ _ _ us hl => match us, hl with | [_, _], _ => rfl
  have m_Level_put_steps : Mt l.prog w K mg base 4 "Level" "put_steps" F_Level_put_steps := ⟨C1, f19, _, _, gC1, cl1, ⟨a19, i19, k19⟩, (ok_Level_put_steps F19 B n_Level_own_gates n_Level_own_kinds n_Level_own_places d_P_gate_needs n_Level_own_index n_Level_own_ways n_Level_own_needs), b19⟩
  have F20 := fun_mk (st := st_Level_init) l20 c20 k20
  have b20 := F20.binds (ps := ["self", "text"]) fun _ _ _ _ _ _ us hl => match us, hl with | [_, _], _ => rfl
  have k_Level : Mkr l.prog w K mg base 7 "Level" F_Level_init := ⟨C1, f20, _, _, gC1, ⟨mk1, a20, i20, kc1⟩, (ok_Level_init F20 B d_P_read_level n_Level_own_text n_Reader_own_rooms n_Level_own_rooms m_Reader_kind_names n_Level_own_kinds n_Reader_own_kinds n_Level_own_starts n_Reader_own_plates n_Level_own_plates n_Reader_own_gates n_Level_own_gates n_Level_own_places n_Level_own_index n_Level_own_ways n_Level_own_needs m_Level_put_steps n_Level_own_steps n_Level_own_found), b20⟩
  have F21 := fun_mk (st := st_Level_text) l21 c21 k21
  have b21 := F21.binds (ps := ["self"]) fun _ _ _ _ _ _ us hl => match us, hl with | [_], _ => rfl
  have p_Level_text : Pr l.prog w K mg base 1 "Level" "text" F_Level_text := ⟨C1, p21, f21, _, _, gC1, cl1, ⟨a21, g21, t21, _, r21⟩, (ok_Level_text F21 B n_Level_own_text), b21⟩
  have F22 := fun_mk (st := st_Level_rooms) l22 c22 k22
  have b22 := F22.binds (ps := ["self"]) fun _ _ _ _ _ _ us hl => match us, hl with | [_], _ => rfl
  have p_Level_rooms : Pr l.prog w K mg base 1 "Level" "rooms" F_Level_rooms := ⟨C1, p22, f22, _, _, gC1, cl1, ⟨a22, g22, t22, _, r22⟩, (ok_Level_rooms F22 B n_Level_own_rooms), b22⟩
  have F23 := fun_mk (st := st_Level_kinds) l23 c23 k23
  have b23 := F23.binds (ps := ["self"]) fun _ _ _ _ _ _ us hl => match us, hl with | [_], _ => rfl
  have p_Level_kinds : Pr l.prog w K mg base 1 "Level" "kinds" F_Level_kinds := ⟨C1, p23, f23, _, _, gC1, cl1, ⟨a23, g23, t23, _, r23⟩, (ok_Level_kinds F23 B n_Level_own_kinds), b23⟩
  have F24 := fun_mk (st := st_Level_plates) l24 c24 k24
  have b24 := F24.binds (ps := ["self"]) fun _ _ _ _ _ _ us hl => match us, hl with | [_], _ => rfl
  have p_Level_plates : Pr l.prog w K mg base 1 "Level" "plates" F_Level_plates := ⟨C1, p24, f24, _, _, gC1, cl1, ⟨a24, g24, t24, _, r24⟩, (ok_Level_plates F24 B n_Level_own_plates), b24⟩
  have F25 := fun_mk (st := st_Level_gates) l25 c25 k25
  have b25 := F25.binds (ps := ["self"]) fun _ _ _ _ _ _ us hl => match us, hl with | [_], _ => rfl
  have p_Level_gates : Pr l.prog w K mg base 1 "Level" "gates" F_Level_gates := ⟨C1, p25, f25, _, _, gC1, cl1, ⟨a25, g25, t25, _, r25⟩, (ok_Level_gates F25 B n_Level_own_gates), b25⟩
  have F26 := fun_mk (st := st_pot) l26 c26 k26
  have b26 := F26.binds (ps := ["_law_script", "_law_k"]) fun _ _ _ _ _ _ us hl => match us, hl with | [_, _], _ => rfl
  have d_pot : Df l.prog w K mg base 1 "_law_pot" F_pot := ⟨f26, _, _, (ok_pot F26 B), PySem.W.mg_of X G a26, k26, b26⟩
  have F27 := fun_mk (st := st_take) l27 c27 k27
  have b27 := F27.binds (ps := ["_law_pot_here", "_law_upto"]) fun _ _ _ _ _ _ us hl => match us, hl with | [_, _], _ => rfl
  have d_take : Df l.prog w K mg base 1 "_law_take" F_take := ⟨f27, _, _, (ok_take F27 B), PySem.W.mg_of X G a27, k27, b27⟩
  have F28 := fun_mk (st := st_of) l28 c28 k28
  have b28 := F28.binds (ps := ["_law_pot_here", "_law_some_here"]) fun _ _ _ _ _ _ us hl => match us, hl with | [_, _], _ => rfl
  have d_of : Df l.prog w K mg base 2 "_law_of" F_of := ⟨f28, _, _, (ok_of F28 B d_take), PySem.W.mg_of X G a28, k28, b28⟩
  have F29 := fun_mk (st := st_some) l29 c29 k29
  have b29 := F29.binds (ps := ["_law_pot_here", "_law_pool", "_law_many"]) fun _ _ _ _ _ _ us hl => match us, hl with | [_, _, _], _ => rfl
  have d_some : Df l.prog w K mg base 2 "_law_some" F_some := ⟨f29, _, _, (ok_some F29 B d_take), PySem.W.mg_of X G a29, k29, b29⟩
  have F30 := fun_mk (st := st_names) l30 c30 k30
  have b30 := F30.binds (ps := ["_law_pot_here", "_law_many"]) fun _ _ _ _ _ _ us hl => match us, hl with | [_, _], _ => rfl
  have d_names : Df l.prog w K mg base 3 "_law_names" F_names := ⟨f30, _, _, (ok_names F30 B d_some), PySem.W.mg_of X G a30, k30, b30⟩
  have F31 := fun_mk (st := st_plates) l31 c31 k31
  have b31 := F31.binds (ps := ["_law_pot_here", "_law_lore_here", "_law_many"]) fun _ _ _ _ _ _ us hl => match us, hl with | [_, _, _], _ => rfl
  have d_plates : Df l.prog w K mg base 4 "_law_plates" F_plates := ⟨f31, _, _, (ok_plates F31 B d_take d_names d_of), PySem.W.mg_of X G a31, k31, b31⟩
  have F32 := fun_mk (st := st_gates) l32 c32 k32
  have b32 := F32.binds (ps := ["_law_pot_here", "_law_lore_here", "_law_low", "_law_most"]) fun _ _ _ _ _ _ us hl => match us, hl with | [_, _, _, _], _ => rfl
  have d_gates : Df l.prog w K mg base 4 "_law_gates" F_gates := ⟨f32, _, _, (ok_gates F32 B d_take d_names d_of d_some), PySem.W.mg_of X G a32, k32, b32⟩
  have F33 := fun_mk (st := st_lore) l33 c33 k33
  have b33 := F33.binds (ps := ["_law_pot_here", "_law_rooms", "_law_kinds"]) fun _ _ _ _ _ _ us hl => match us, hl with | [_, _, _], _ => rfl
  have d_lore : Df l.prog w K mg base 5 "_law_lore" F_lore := ⟨f33, _, _, (ok_lore F33 B d_take d_names d_of d_plates d_gates), PySem.W.mg_of X G a33, k33, b33⟩
  have F34 := fun_mk (st := st_text) l34 c34 k34
  have b34 := F34.binds (ps := ["_law_lore_here"]) fun _ _ _ _ _ _ us hl => match us, hl with | [_], _ => rfl
  have d_text : Df l.prog w K mg base 1 "_law_text" F_text := ⟨f34, _, _, (ok_text F34 B), PySem.W.mg_of X G a34, k34, b34⟩
  have F35 := fun_mk (st := st_cells) l35 c35 k35
  have b35 := F35.binds (ps := ["_law_script", "_law_limit"]) fun _ _ _ _ _ _ us hl => match us, hl with | [_, _], _ => rfl
  have d_cells : Df l.prog w K mg base 1 "_law_cells" F_cells := ⟨f35, _, _, (ok_cells F35 B), PySem.W.mg_of X G a35, k35, b35⟩
  have F36 := fun_mk (st := st_fine) l36 c36 k36
  have b36 := F36.binds (ps := ["_law_pot_here"]) fun _ _ _ _ _ _ us hl => match us, hl with | [_], _ => rfl
  have d_fine : Df l.prog w K mg base 9 "_law_fine" F_fine := ⟨f36, _, _, (ok_fine F36 B d_lore d_text k_Level p_Level_gates p_Level_plates p_Level_kinds p_Level_rooms p_Level_text), PySem.W.mg_of X G a36, k36, b36⟩
  have F37 := fun_mk (st := st_P_law) l37 c37 k37
  exact fn_imp (ok_P_law F37 B d_cells d_pot d_fine) fun vs H Q E => spLaw_imp vs H Q E
theorem walk {l : PySem.W.OpenLaw} {q : Program} {loose : List Str} {XP : (Str → Option Value) → Heap → Prop} {YP : World → Heap → Prop} {d : DefRec} {K : Params → PySem.W.Frag} (hn : l.most = some 63) (hdf : d.params.defaults = [])
    (hY : ∀ (w : World) (h : Heap), YP w h → (K w.params).In h)
    (F : ∀ (w : World) (mg : Str → Option Value) (fa : Addr) (h : Heap), (K w.params).In h → h.Ns mainGlobals mg → mg d.name = some (.ref fa) →
      ∃ fd : FuncData, (∀ (s : Shared) (u : Value), BindsTo s fd ⟨[u], []⟩ [("_law_script", u)]) ∧ ∀ base : Heap, (K w.params).In base → base.Ns mainGlobals mg → T.FnOk l.prog w (K w.params) mg base (L2.CX l.prog w) 10 fa fd ["_law_script"] (spLaw (K w.params))) :
    PySem.W.WalkO q loose XP YP l.row.toRowW d [] (fun f vs => PySem.call f vs) :=
  T.walk_ofG (n := 63) (k := 10) (x := "_law_script") (CX := fun w => L2.CX l.prog w) (sp := fun w => spLaw (K w.params)) hn (by decide) hdf ⟨rfl, by decide, by decide⟩ hY F (fun _ _ a ns hl hO hS => ⟨a, ns, rfl, hO, hS, hl, fun _ => rfl⟩) fun _ _ _ _ _ ⟨_, _, _, _, _, _, _, _, _, _, _, _, z⟩ => z
end Q
open PySem PySem.W PyProof.Rows
set_option maxRecDepth 100000 in
set_option maxHeartbeats 0 in
theorem PySem.Challenge.cw_holdplates_k01_levels_told_holds : PySem.Challenge.rw_holdplates_k01_levels_told.Holds := by
  w_on; o_law; k_head; (case hw => w_witness2)
  k_fill
  refine Q.walk (l := PySem.Challenge.rw_holdplates_k01_levels_told) rfl rfl (fun w h Y => PySem.W.kIn_of Y) ?F
  case F =>
    intro w mg fa h KX G hmg
    refine' Q.all_mk KX G hmg ?aC0 ?pg0 ?hd0 ?po0 ?sa0 ?mk0 ?kc0 ?aC1 ?pg1 ?hd1 ?po1 ?sa1 ?mk1 ?kc1 ?nf0 ?nf1 ?nf2 ?nf3 ?nf4 ?nf5 ?nf6 ?nf7 ?nf8 ?nf9 ?nf10 ?nf11 ?nf12 ?nf13 ?nf14 ?nf15 ?cn0 ?cn1 ?cn2 ?cn3 ?cn4 ?cn5 ?cn6 ?cn7 ?cn8 ?cn9 ?cn10 ?cn11 ?cn12 ?gt0 ?gl0 ?z_len ?z_int ?z_abs ?z_str ?z_tuple ?z_list ?z_range ?z_zip ?z_enumerate ?z_max ?z_min ?z_sum ?z_all ?z_any ?z_sorted ?z_set ?z_isinstance ?z_repr ?z_bool ?a0 ?l0 ?c0 ?k0 ?a1 ?l1 ?c1 ?k1 ?a2 ?l2 ?c2 ?k2 ?a3 ?l3 ?c3 ?k3 ?a4 ?l4 ?c4 ?k4 ?a5 ?l5 ?c5 ?k5 ?a6 ?l6 ?c6 ?k6 ?a7 ?l7 ?c7 ?k7 ?a8 ?i8 ?l8 ?c8 ?k8 ?a9 ?i9 ?l9 ?c9 ?k9 ?a10 ?i10 ?l10 ?c10 ?k10 ?a11 ?i11 ?l11 ?c11 ?k11 ?a12 ?i12 ?l12 ?c12 ?k12 ?a13 ?i13 ?l13 ?c13 ?k13 ?a14 ?i14 ?l14 ?c14 ?k14 ?a15 ?i15 ?l15 ?c15 ?k15 ?a16 ?i16 ?l16 ?c16 ?k16 ?a17 ?i17 ?l17 ?c17 ?k17 ?a18 ?l18 ?c18 ?k18 ?a19 ?i19 ?l19 ?c19 ?k19 ?a20 ?i20 ?l20 ?c20 ?k20 ?a21 ?g21 ?t21 ?r21 ?l21 ?c21 ?k21 ?a22 ?g22 ?t22 ?r22 ?l22 ?c22 ?k22 ?a23 ?g23 ?t23 ?r23 ?l23 ?c23 ?k23 ?a24 ?g24 ?t24 ?r24 ?l24 ?c24 ?k24 ?a25 ?g25 ?t25 ?r25 ?l25 ?c25 ?k25 ?a26 ?l26 ?c26 ?k26 ?a27 ?l27 ?c27 ?k27 ?a28 ?l28 ?c28 ?k28 ?a29 ?l29 ?c29 ?k29 ?a30 ?l30 ?c30 ?k30 ?a31 ?l31 ?c31 ?k31 ?a32 ?l32 ?c32 ?k32 ?a33 ?l33 ?c33 ?k33 ?a34 ?l34 ?c34 ?k34 ?a35 ?l35 ?c35 ?k35 ?a36 ?l36 ?c36 ?k36 ?a37 ?l37 ?c37 ?k37
    (case aC0 => k_is)
    (case pg0 => k_is)
    (case hd0 => k_is)
    (case po0 => k_is)
    (case sa0 => k_is)
    (case mk0 => k_is)
    (case kc0 => k_is)
    (case aC1 => k_is)
    (case pg1 => k_is)
    (case hd1 => k_is)
    (case po1 => k_is)
    (case sa1 => k_is)
    (case mk1 => k_is)
    (case kc1 => k_is)
    (case nf0 => k_is)
    (case nf1 => k_is)
    (case nf2 => k_is)
    (case nf3 => k_is)
    (case nf4 => k_is)
    (case nf5 => k_is)
    (case nf6 => k_is)
    (case nf7 => k_is)
    (case nf8 => k_is)
    (case nf9 => k_is)
    (case nf10 => k_is)
    (case nf11 => k_is)
    (case nf12 => k_is)
    (case nf13 => k_is)
    (case nf14 => k_is)
    (case nf15 => k_is)
    (case cn0 => k_is)
    (case cn1 => k_is)
    (case cn2 => k_is)
    (case cn3 => k_is)
    (case cn4 => k_is)
    (case cn5 => k_is)
    (case cn6 => k_is)
    (case cn7 => k_is)
    (case cn8 => k_is)
    (case cn9 => k_is)
    (case cn10 => k_is)
    (case cn11 => k_is)
    (case cn12 => k_is)
    (case gt0 => k_is)
    (case gl0 => k_is)
    (case z_len => k_is)
    (case z_int => k_is)
    (case z_abs => k_is)
    (case z_str => k_is)
    (case z_tuple => k_is)
    (case z_list => k_is)
    (case z_range => k_is)
    (case z_zip => k_is)
    (case z_enumerate => k_is)
    (case z_max => k_is)
    (case z_min => k_is)
    (case z_sum => k_is)
    (case z_all => k_is)
    (case z_any => k_is)
    (case z_sorted => k_is)
    (case z_set => k_is)
    (case z_isinstance => k_is)
    (case z_repr => k_is)
    (case z_bool => k_is)
    (case a0 => k_is)
    (case l0 => k_is)
    (case c0 => k_is)
    (case k0 => k_is)
    (case a1 => k_is)
    (case l1 => k_is)
    (case c1 => k_is)
    (case k1 => k_is)
    (case a2 => k_is)
    (case l2 => k_is)
    (case c2 => k_is)
    (case k2 => k_is)
    (case a3 => k_is)
    (case l3 => k_is)
    (case c3 => k_is)
    (case k3 => k_is)
    (case a4 => k_is)
    (case l4 => k_is)
    (case c4 => k_is)
    (case k4 => k_is)
    (case a5 => k_is)
    (case l5 => k_is)
    (case c5 => k_is)
    (case k5 => k_is)
    (case a6 => k_is)
    (case l6 => k_is)
    (case c6 => k_is)
    (case k6 => k_is)
    (case a7 => k_is)
    (case l7 => k_is)
    (case c7 => k_is)
    (case k7 => k_is)
    (case a8 => k_is)
    (case i8 => k_is)
    (case l8 => k_is)
    (case c8 => k_is)
    (case k8 => k_is)
    (case a9 => k_is)
    (case i9 => k_is)
    (case l9 => k_is)
    (case c9 => k_is)
    (case k9 => k_is)
    (case a10 => k_is)
    (case i10 => k_is)
    (case l10 => k_is)
    (case c10 => k_is)
    (case k10 => k_is)
    (case a11 => k_is)
    (case i11 => k_is)
    (case l11 => k_is)
    (case c11 => k_is)
    (case k11 => k_is)
    (case a12 => k_is)
    (case i12 => k_is)
    (case l12 => k_is)
    (case c12 => k_is)
    (case k12 => k_is)
    (case a13 => k_is)
    (case i13 => k_is)
    (case l13 => k_is)
    (case c13 => k_is)
    (case k13 => k_is)
    (case a14 => k_is)
    (case i14 => k_is)
    (case l14 => k_is)
    (case c14 => k_is)
    (case k14 => k_is)
    (case a15 => k_is)
    (case i15 => k_is)
    (case l15 => k_is)
    (case c15 => k_is)
    (case k15 => k_is)
    (case a16 => k_is)
    (case i16 => k_is)
    (case l16 => k_is)
    (case c16 => k_is)
    (case k16 => k_is)
    (case a17 => k_is)
    (case i17 => k_is)
    (case l17 => k_is)
    (case c17 => k_is)
    (case k17 => k_is)
    (case a18 => k_is)
    (case l18 => k_is)
    (case c18 => k_is)
    (case k18 => k_is)
    (case a19 => k_is)
    (case i19 => k_is)
    (case l19 => k_is)
    (case c19 => k_is)
    (case k19 => k_is)
    (case a20 => k_is)
    (case i20 => k_is)
    (case l20 => k_is)
    (case c20 => k_is)
    (case k20 => k_is)
    (case a21 => k_is)
    (case g21 => k_is)
    (case t21 => k_is)
    (case r21 => k_is)
    (case l21 => k_is)
    (case c21 => k_is)
    (case k21 => k_is)
    (case a22 => k_is)
    (case g22 => k_is)
    (case t22 => k_is)
    (case r22 => k_is)
    (case l22 => k_is)
    (case c22 => k_is)
    (case k22 => k_is)
    (case a23 => k_is)
    (case g23 => k_is)
    (case t23 => k_is)
    (case r23 => k_is)
    (case l23 => k_is)
    (case c23 => k_is)
    (case k23 => k_is)
    (case a24 => k_is)
    (case g24 => k_is)
    (case t24 => k_is)
    (case r24 => k_is)
    (case l24 => k_is)
    (case c24 => k_is)
    (case k24 => k_is)
    (case a25 => k_is)
    (case g25 => k_is)
    (case t25 => k_is)
    (case r25 => k_is)
    (case l25 => k_is)
    (case c25 => k_is)
    (case k25 => k_is)
    (case a26 => k_is)
    (case l26 => k_is)
    (case c26 => k_is)
    (case k26 => k_is)
    (case a27 => k_is)
    (case l27 => k_is)
    (case c27 => k_is)
    (case k27 => k_is)
    (case a28 => k_is)
    (case l28 => k_is)
    (case c28 => k_is)
    (case k28 => k_is)
    (case a29 => k_is)
    (case l29 => k_is)
    (case c29 => k_is)
    (case k29 => k_is)
    (case a30 => k_is)
    (case l30 => k_is)
    (case c30 => k_is)
    (case k30 => k_is)
    (case a31 => k_is)
    (case l31 => k_is)
    (case c31 => k_is)
    (case k31 => k_is)
    (case a32 => k_is)
    (case l32 => k_is)
    (case c32 => k_is)
    (case k32 => k_is)
    (case a33 => k_is)
    (case l33 => k_is)
    (case c33 => k_is)
    (case k33 => k_is)
    (case a34 => k_is)
    (case l34 => k_is)
    (case c34 => k_is)
    (case k34 => k_is)
    (case a35 => k_is)
    (case l35 => k_is)
    (case c35 => k_is)
    (case k35 => k_is)
    (case a36 => k_is)
    (case l36 => k_is)
    (case c36 => k_is)
    (case k36 => k_is)
    (case a37 => k_is)
    (case l37 => k_is)
    (case c37 => k_is)
    (case k37 => k_is)
#print axioms PySem.Challenge.cw_holdplates_k01_levels_told_holds

