import PyProof.Rows.All
import KE.OsRunLaw
import KE.KNestM
import HandS.Ends
import Wide.All
import OpenK.AllK
import Wide.FinOn
import HandS.ForMost
import HandS.Lambda
import HandS.ForExc
import HandS.ExcOwn
import HandS.WordsExc
import HandS.Deep
import HandS.TupAny
import HandS.TupMul
import HandS.Wide
import HandS.Comp
import HandS.Style
import HandS.IsInst
import HandS.Property
import HandS.Zip
import KE.GoesEnum
import HandS.Dict
import HandS.Text
import HandS.Star
import KE.KUnpackStar
import PyProof.RulesMatch
import HandS.DictComp
import HandS.Strs
import HandS.TupSets
import KE.KDictSum
import KE.KDictList
import HandS.Conv
import HandS.Iter
import PyProof.ReprRoads
import PyProof.InstNe
import HandS.More
import HandS.OwnEq
import KE.KTupSum
import HandS.Defaults
import HandS.ExcInit
import HandS.ExcValue
import KE.KExcSuper
import KE.KSuper
import HandS.HeadWalk
import HandS.TryOnly
import KE.KExcIs
import HandS.ExcField
import KE.KDictZip
import HandS.GenList
import KE.KDictPairs
import HandS.ListItems
import KE.KLam
import HandS.EndTab
import PySem.Challenge.RW_holdplates_k00_errors_keep_their_values
set_option Elab.async false
set_option linter.all false
set_option maxRecDepth 100000
set_option maxHeartbeats 4000000
set_option Elab.async false
set_option linter.all false
section HeadRuns
open PySem PySem.W PyProof.Rows
set_option maxRecDepth 100000
set_option maxHeartbeats 0
section
local macro_rules | `(tactic| kernel_rfl) => `(tactic| (intros; exact ‹∀ P : Prop, P› _))
theorem k00c (H : ∀ P : Prop, P) : PySem.Challenge.rw_holdplates_k00_errors_keep_their_values.Holds := by
  w_on; o_law; k_headL; (case hw => w_witness2)
  all_goals exact H _
end
theorem k00idd {α A B C : Type} {o : Option α} {f : α → A} {g : α → B} {h : α → C} {a : A} {b : B} {c : C} (e : o.map (fun s => (f s, g s, h s)) = some (a, b, c)) : o.map (fun s => (f s, g s, h s)) = some (a, b, c) := e
theorem k00run (w : World) (os : OsState) : Option.map
      (fun s =>
        (HeadRun.looksF Challenge.rw_holdplates_k00_errors_keep_their_values.row.prog (boot_heap w.params) s.abs,
          HeadRun.seenQ k00c.view_39 []
            (importedModules Challenge.rw_holdplates_k00_errors_keep_their_values.row.prog.main.body)
            (fun s =>
              xlAt k00c.view_39 [] s && recOk Challenge.rw_holdplates_k00_errors_keep_their_values.row.records s)
            s.abs,
          List.map (HeadRun.getT s)
            [2, 3, 15, 18, 23, 24, 26, 27, 29, 30, 31, 32, 33, 34, 37, 44, 45, 46, 49, 56, 57, 58, 61, 68, 69, 70, 73,
              80, 81, 82, 85, 92, 93, 94, 97, 104, 105, 106, 109, 116, 117, 118, 121, 128, 129, 130, 133, 140, 141, 142,
              145, 152, 153, 154, 157, 164, 165, 166, 169, 176, 177, 178, 181, 188, 189, 190, 193, 200, 201, 202, 205,
              212, 213, 214, 217, 224, 225, 226, 229, 236, 237, 238, 241, 248, 249, 250, 253, 260, 261, 262, 265, 272,
              273, 274, 277, 284, 285, 286, 289, 296, 297, 298, 301, 308, 309, 310, 313, 320, 321, 322, 325, 332, 333,
              334, 337, 344, 345, 346, 349, 351, 352, 354, 355, 356, 358, 359, 361, 362, 363, 365, 366, 368, 369, 370,
              372, 373, 375, 376, 377, 379, 380, 382, 383, 384, 386, 387, 389, 390, 391, 393, 394, 396, 397, 398, 401,
              402, 403, 406, 407, 408, 411, 412]))
      (HeadRun.endF
        (HeadRun.stepQ (HeadRun.denQ HeadRun.tabQ) Challenge.rw_holdplates_k00_errors_keep_their_values.row.prog w)
        12294 Challenge.rw_holdplates_k00_errors_keep_their_values.row.prog w os) =
    some (true, openGood k00c.view_39 [], List.map (fun x => some x.snd) (k00c.heap_39 w.params)) := by kernel_rfl
end HeadRuns
set_option Elab.async false
set_option linter.all false
set_option maxRecDepth 100000
set_option maxHeartbeats 4000000
namespace T
open PySem L2
inductive D where
  | non | bl (b : Bool) | int (i : Int) | str (s : Str)
  | tup (ms : List D)
  | lst (o : Bool) (ms : List D)
  | klst (ms : List D)
  | dct (o : Bool) (kvs : List (D × D))
  | ins (o : Bool) (c : Str) (fs : List (Str × D))
  /-- an own exception that was caught, with its value -/
  | exc (c : Str) (m : D)
  /-- the tables of the code objects that make lambdas, by the makers' names -/
  | tbs (qs : List Str)
/-- a key of a dict -/
def kyK : D → Option Key
  | .int i => some (.inl i)
  | .str s => some (.inr s)
  | _ => none
def kysK : List D → Option (List Key)
  | [] => some []
  | m :: r => match kyK m, kysK r with
    | some k, some ks => some (k :: ks)
    | _, _ => none
def kyT : D → Option (List Key)
  | .tup ms => kysK ms
  | _ => none
/-- owned (tracked, ours alone) or frozen -/
def At (o : Bool) (H : Hp) (a : Addr) (u : HO) (fp fp' : List Addr) : Prop :=
  match o with
  | true => H a = some u ∧ fp = a :: fp'
  | false => (∃ ob, H a = some (.frz ob u)) ∧ fp = [] ∧ fp' = []
structure Kt where
  K : PySem.W.Frag
  mg : Str → Option Value
/-- a list that is only read: frozen, or of the written part -/
def SqLf (K : PySem.W.Frag) (H : Hp) (a : Addr) (vs : List V) : Prop := (∃ ob, H a = some (.frz ob (.lst vs))) ∨
  ∃ (o : Obj) (its : Array Value) (n : Nat), K.lookup a = some o ∧ o.cls = .type "list" ∧ o.dict = none ∧ o.data = .seq its n ∧ its.size ≤ sizeLine ∧ Vals vs its.toList
theorem SqLf.seqL {K : PySem.W.Frag} {H : Hp} {a : Addr} {vs : List V} (h : SqLf K H a vs) : SqL K H a vs := h.imp (fun h => .inr h) id
/-- a caught exception object -/
def ExK (cls : Value) (d : Option Addr) (a : Addr) : HO := .ext fun h => ∃ (oe : Obj) (vs : Array Value), h.get? a = some oe ∧ Zc cls d oe ∧ oe.data = .fields vs
/-- the code object of the def q has its table at P -/
def CdTb (C : Kt) (q : Str) (P : Addr) : Prop := ∃ (f c : Addr) (oc oc2 : Value) (od od2 : Option Addr) (fd : FuncData) (sl sl2 : Array (Option Value)) (vs : Array Value), C.mg q = some (.ref f) ∧ C.K.lookup f = some ⟨oc, od, .func fd, sl⟩ ∧ fd.code = .ref c ∧
  C.K.lookup c = some ⟨oc2, od2, .fields vs, sl2⟩ ∧ vs[11]? = some (.ref P)
def TbR (C : Kt) (H : Hp) (qs : List Str) (fp : List Addr) : Prop := ∃ T : List (Addr × Str), fp = T.map (·.1) ∧ LamX.Tabs T H ∧ ∀ q ∈ qs, ∀ P : Addr, CdTb C q P → (P, (q ++ ".<locals>.") ++ "<lambda>") ∈ T
mutual
def RP (C : Kt) (H : Hp) : D → V → List Addr → Prop
  | .non, v, fp => v = .non ∧ fp = []
  | .bl b, v, fp => v = .bl b ∧ fp = []
  | .int i, v, fp => v = .int i ∧ fp = []
  | .str s, v, fp => v = .str s ∧ fp = []
  | .tup ms, v, fp => ∃ a vs, v = .ref a ∧ H a = some (.tup vs) ∧ RPs C H ms vs fp
  | .lst o ms, v, fp => ∃ a vs fp', v = .ref a ∧ At o H a (.lst vs) fp fp' ∧ RPs C H ms vs fp'
  | .klst ms, v, fp => ∃ a vs, v = .ref a ∧ fp = [] ∧ SqLf C.K H a vs ∧ RPs C H ms vs []
  | .dct o kvs, v, fp => ∃ a fp', v = .ref a ∧ ((∃ ws, At o H a (.dK ws) fp fp' ∧ RPk C H kvs ws fp') ∨ (∃ ws, At o H a (.dT ws) fp fp' ∧ RPt C H kvs ws fp'))
  | .ins o c fs, v, fp => ∃ a A dx ws fp', v = .ref a ∧ C.mg c = some (.ref A) ∧ At o H a (.ins A dx ws) fp fp' ∧ RPf C H fs ws fp'
  | .exc c m, v, fp => ∃ a A dd u, v = .ref a ∧ fp = [] ∧ C.mg c = some (.ref A) ∧ H a = some (ExK (.ref A) (some dd) a) ∧ H dd = some (.xd [("value", u)]) ∧ RP C H m u []
  | .tbs qs, v, fp => v = .non ∧ TbR C H qs fp
def RPs (C : Kt) (H : Hp) : List D → List V → List Addr → Prop
  | [], vs, fp => vs = [] ∧ fp = []
  | m :: ms, vs, fp => ∃ v vr f1 f2, vs = v :: vr ∧ fp = f1 ++ f2 ∧ RP C H m v f1 ∧ RPs C H ms vr f2
def RPk (C : Kt) (H : Hp) : List (D × D) → List (Key × V) → List Addr → Prop
  | [], ws, fp => ws = [] ∧ fp = []
  | (k, m) :: ms, ws, fp => ∃ y v wr f1 f2, ws = (y, v) :: wr ∧ fp = f1 ++ f2 ∧ kyK k = some y ∧ RP C H m v f1 ∧ RPk C H ms wr f2
def RPt (C : Kt) (H : Hp) : List (D × D) → List (List Key × V) → List Addr → Prop
  | [], ws, fp => ws = [] ∧ fp = []
  | (k, m) :: ms, ws, fp => ∃ y v wr f1 f2, ws = (y, v) :: wr ∧ fp = f1 ++ f2 ∧ kyT k = some y ∧ RP C H m v f1 ∧ RPt C H ms wr f2
def RPf (C : Kt) (H : Hp) : List (Str × D) → List (Str × V) → List Addr → Prop
  | [], ws, fp => ws = [] ∧ fp = []
  | (k, m) :: ms, ws, fp => ∃ v wr f1 f2, ws = (k, v) :: wr ∧ fp = f1 ++ f2 ∧ RP C H m v f1 ∧ RPf C H ms wr f2
end
/-- what never changes again -/
def Fixed : HO → Bool
  | .tup _ => true
  | .frz _ _ => true
  | .ext _ => true
  | .xd _ => true
  | _ => false
/-- all of a footprint, and all that is fixed, stands as it stood -/
def St1 (H H' : Hp) (fp : List Addr) : Prop := ∀ a o, H a = some o → (a ∈ fp ∨ Fixed o = true) → H' a = some o
theorem St1.left {H H' : Hp} {f1 f2 : List Addr} (h : St1 H H' (f1 ++ f2)) : St1 H H' f1 := fun a o e x => h a o e (x.imp (List.mem_append_left _) id)
theorem St1.right {H H' : Hp} {f1 f2 : List Addr} (h : St1 H H' (f1 ++ f2)) : St1 H H' f2 := fun a o e x => h a o e (x.imp (List.mem_append_right _) id)
theorem St1.tail {H H' : Hp} {a : Addr} {f : List Addr} (h : St1 H H' (a :: f)) : St1 H H' f := fun b o e x => h b o e (x.imp (List.mem_cons_of_mem _) id)
theorem At.st {o : Bool} {H H' : Hp} {a : Addr} {u : HO} {fp fp' : List Addr} (h : At o H a u fp fp') (s : St1 H H' fp) : At o H' a u fp fp' ∧ St1 H H' fp' := by
  cases o with
  | true =>
    obtain ⟨h1, rfl⟩ := h
    exact ⟨⟨s a _ h1 (.inl (by simp)), rfl⟩, s.tail⟩
  | false =>
    obtain ⟨⟨ob, h1⟩, rfl, rfl⟩ := h
    exact ⟨⟨⟨ob, s a _ h1 (.inr rfl)⟩, rfl, rfl⟩, s⟩
theorem seqT_st {K : PySem.W.Frag} {H H' : Hp} {a : Addr} {vs : List V} {fp : List Addr} (h : SqT K H a vs) (s : St1 H H' fp) : SqT K H' a vs := by
  rcases h with (h | ⟨o, h⟩) | h
  · exact .inl (.inl (s a _ h (.inr rfl)))
  · exact .inl (.inr ⟨o, s a _ h (.inr rfl)⟩)
  · exact .inr h
theorem St1.nil {H H' : Hp} {f : List Addr} (h : St1 H H' f) : St1 H H' [] := fun a o e x => h a o e (x.elim (fun z => nomatch z) .inr)
theorem SqLf.st {K : PySem.W.Frag} {H H' : Hp} {a : Addr} {vs : List V} {f : List Addr} (h : SqLf K H a vs) (s : St1 H H' f) : SqLf K H' a vs := h.imp (fun ⟨ob, e⟩ => ⟨ob, s a _ e (.inr rfl)⟩) id
theorem TbR.st {C : Kt} {H H' : Hp} {qs : List Str} {f : List Addr} (h : TbR C H qs f) (s : St1 H H' f) : TbR C H' qs f := by
  obtain ⟨T, rfl, h1, h2⟩ := h
  refine ⟨T, rfl, fun p hp => ?_, h2⟩
  obtain ⟨ps, e1, e2, e3⟩ := h1 p hp
  refine ⟨ps, s _ _ e1 (.inl (List.mem_map.mpr ⟨p, hp, rfl⟩)), e2, fun pos cv hc => ?_⟩
  obtain ⟨c, e4, e5⟩ := e3 pos cv hc
  exact ⟨c, e4, s _ _ e5 (.inr rfl)⟩
mutual
theorem RP.st {C : Kt} {H H' : Hp} : ∀ (m : D) {v : V} {fp : List Addr}, RP C H m v fp → St1 H H' fp → RP C H' m v fp
  | .non, _, _, h, _ => h
  | .bl _, _, _, h, _ => h
  | .int _, _, _, h, _ => h
  | .str _, _, _, h, _ => h
  | .tup ms, _, _, h, s => by
    unfold RP at h ⊢
    obtain ⟨a, vs, rfl, h1, h2⟩ := h
    exact ⟨a, vs, rfl, s a _ h1 (.inr rfl), RPs.st ms h2 s⟩
  | .lst o ms, _, _, h, s => by
    unfold RP at h ⊢
    obtain ⟨a, vs, fp', rfl, h1, h2⟩ := h
    obtain ⟨h3, s'⟩ := h1.st s
    exact ⟨a, vs, fp', rfl, h3, RPs.st ms h2 s'⟩
  | .klst ms, _, _, h, s => by
    unfold RP at h ⊢
    obtain ⟨a, vs, rfl, h0, h1, h2⟩ := h
    exact ⟨a, vs, rfl, h0, h1.st s, RPs.st ms h2 s.nil⟩
  | .dct o kvs, _, _, h, s => by
    unfold RP at h ⊢
    obtain ⟨a, fp', rfl, h⟩ := h
    refine ⟨a, fp', rfl, ?_⟩
    rcases h with ⟨ws, h1, h2⟩ | ⟨ws, h1, h2⟩
    · obtain ⟨h3, s'⟩ := h1.st s
      exact .inl ⟨ws, h3, RPk.st kvs h2 s'⟩
    · obtain ⟨h3, s'⟩ := h1.st s
      exact .inr ⟨ws, h3, RPt.st kvs h2 s'⟩
  | .ins o c fs, _, _, h, s => by
    unfold RP at h ⊢
    obtain ⟨a, A, dx, ws, fp', rfl, hc, h1, h2⟩ := h
    obtain ⟨h3, s'⟩ := h1.st s
    exact ⟨a, A, dx, ws, fp', rfl, hc, h3, RPf.st fs h2 s'⟩
  | .exc c m, _, _, h, s => by
    unfold RP at h ⊢
    obtain ⟨a, A, dd, u, rfl, h0, hc, h1, h2, h3⟩ := h
    subst h0
    exact ⟨a, A, dd, u, rfl, rfl, hc, s _ _ h1 (.inr rfl), s _ _ h2 (.inr rfl), RP.st m h3 s⟩
  | .tbs qs, _, _, h, s => by
    unfold RP at h ⊢
    exact ⟨h.1, h.2.st s⟩
theorem RPs.st {C : Kt} {H H' : Hp} : ∀ (ms : List D) {vs : List V} {fp : List Addr}, RPs C H ms vs fp → St1 H H' fp → RPs C H' ms vs fp
  | [], _, _, h, _ => h
  | m :: ms, _, _, h, s => by
    unfold RPs at h ⊢
    obtain ⟨v, vr, f1, f2, rfl, rfl, h1, h2⟩ := h
    exact ⟨v, vr, f1, f2, rfl, rfl, RP.st m h1 s.left, RPs.st ms h2 s.right⟩
theorem RPk.st {C : Kt} {H H' : Hp} : ∀ (ms : List (D × D)) {ws : List (Key × V)} {fp : List Addr}, RPk C H ms ws fp → St1 H H' fp → RPk C H' ms ws fp
  | [], _, _, h, _ => h
  | (k, m) :: ms, _, _, h, s => by
    unfold RPk at h ⊢
    obtain ⟨y, v, vr, f1, f2, rfl, rfl, hk, h1, h2⟩ := h
    exact ⟨y, v, vr, f1, f2, rfl, rfl, hk, RP.st m h1 s.left, RPk.st ms h2 s.right⟩
theorem RPt.st {C : Kt} {H H' : Hp} : ∀ (ms : List (D × D)) {ws : List (List Key × V)} {fp : List Addr}, RPt C H ms ws fp → St1 H H' fp → RPt C H' ms ws fp
  | [], _, _, h, _ => h
  | (k, m) :: ms, _, _, h, s => by
    unfold RPt at h ⊢
    obtain ⟨y, v, vr, f1, f2, rfl, rfl, hk, h1, h2⟩ := h
    exact ⟨y, v, vr, f1, f2, rfl, rfl, hk, RP.st m h1 s.left, RPt.st ms h2 s.right⟩
theorem RPf.st {C : Kt} {H H' : Hp} : ∀ (ms : List (Str × D)) {ws : List (Str × V)} {fp : List Addr}, RPf C H ms ws fp → St1 H H' fp → RPf C H' ms ws fp
  | [], _, _, h, _ => h
  | (k, m) :: ms, _, _, h, s => by
    unfold RPf at h ⊢
    obtain ⟨v, vr, f1, f2, rfl, rfl, h1, h2⟩ := h
    exact ⟨v, vr, f1, f2, rfl, rfl, RP.st m h1 s.left, RPf.st ms h2 s.right⟩
end
/-- what is owned is tracked and may be written -/
def Owned (H : Hp) (fp : List Addr) : Prop := ∀ a ∈ fp, ∃ o, H a = some o ∧ Fixed o = false
theorem Owned.nil {H : Hp} : Owned H [] := fun _ h => nomatch h
theorem Owned.app {H : Hp} {f1 f2 : List Addr} (h1 : Owned H f1) (h2 : Owned H f2) : Owned H (f1 ++ f2) := fun a h => (List.mem_append.mp h).elim (h1 a) (h2 a)
theorem At.owned {o : Bool} {H : Hp} {a : Addr} {u : HO} {fp fp' : List Addr} (h : At o H a u fp fp') (hu : Fixed u = false) (h' : Owned H fp') : Owned H fp := by
  cases o with
  | true =>
    obtain ⟨h1, rfl⟩ := h
    intro b hb
    rcases List.mem_cons.mp hb with rfl | hb
    · exact ⟨u, h1, hu⟩
    · exact h' b hb
  | false =>
    obtain ⟨_, rfl, rfl⟩ := h
    exact Owned.nil
mutual
theorem RP.owned {C : Kt} {H : Hp} : ∀ (m : D) {v : V} {fp : List Addr}, RP C H m v fp → Owned H fp
  | .non, _, _, h => by obtain ⟨_, rfl⟩ := h; exact Owned.nil
  | .bl _, _, _, h => by obtain ⟨_, rfl⟩ := h; exact Owned.nil
  | .int _, _, _, h => by obtain ⟨_, rfl⟩ := h; exact Owned.nil
  | .str _, _, _, h => by obtain ⟨_, rfl⟩ := h; exact Owned.nil
  | .tup ms, _, _, h => by
    unfold RP at h
    obtain ⟨a, vs, rfl, h1, h2⟩ := h
    exact RPs.owned ms h2
  | .lst o ms, _, _, h => by
    unfold RP at h
    obtain ⟨a, vs, fp', rfl, h1, h2⟩ := h
    exact h1.owned rfl (RPs.owned ms h2)
  | .klst ms, _, _, h => by
    unfold RP at h
    obtain ⟨a, vs, rfl, rfl, _⟩ := h
    exact Owned.nil
  | .dct o kvs, _, _, h => by
    unfold RP at h
    obtain ⟨a, fp', rfl, h⟩ := h
    rcases h with ⟨ws, h1, h2⟩ | ⟨ws, h1, h2⟩
    · exact h1.owned rfl (RPk.owned kvs h2)
    · exact h1.owned rfl (RPt.owned kvs h2)
  | .ins o c fs, _, _, h => by
    unfold RP at h
    obtain ⟨a, A, dx, ws, fp', rfl, hc, h1, h2⟩ := h
    exact h1.owned rfl (RPf.owned fs h2)
  | .exc c m, _, _, h => by
    unfold RP at h
    obtain ⟨a, A, dd, u, rfl, rfl, _⟩ := h
    exact Owned.nil
  | .tbs qs, _, _, h => by
    unfold RP at h
    obtain ⟨_, T, rfl, h1, _⟩ := h
    intro a ha
    obtain ⟨p, hp, rfl⟩ := List.mem_map.mp ha
    obtain ⟨ps, e1, _⟩ := h1 p hp
    exact ⟨_, e1, rfl⟩
theorem RPs.owned {C : Kt} {H : Hp} : ∀ (ms : List D) {vs : List V} {fp : List Addr}, RPs C H ms vs fp → Owned H fp
  | [], _, _, h => by obtain ⟨_, rfl⟩ := h; exact Owned.nil
  | m :: ms, _, _, h => by
    unfold RPs at h
    obtain ⟨v, vr, f1, f2, rfl, rfl, h1, h2⟩ := h
    exact (RP.owned m h1).app (RPs.owned ms h2)
theorem RPk.owned {C : Kt} {H : Hp} : ∀ (ms : List (D × D)) {ws : List (Key × V)} {fp : List Addr}, RPk C H ms ws fp → Owned H fp
  | [], _, _, h => by obtain ⟨_, rfl⟩ := h; exact Owned.nil
  | (k, m) :: ms, _, _, h => by
    unfold RPk at h
    obtain ⟨y, v, vr, f1, f2, rfl, rfl, hk, h1, h2⟩ := h
    exact (RP.owned m h1).app (RPk.owned ms h2)
theorem RPt.owned {C : Kt} {H : Hp} : ∀ (ms : List (D × D)) {ws : List (List Key × V)} {fp : List Addr}, RPt C H ms ws fp → Owned H fp
  | [], _, _, h => by obtain ⟨_, rfl⟩ := h; exact Owned.nil
  | (k, m) :: ms, _, _, h => by
    unfold RPt at h
    obtain ⟨y, v, vr, f1, f2, rfl, rfl, hk, h1, h2⟩ := h
    exact (RP.owned m h1).app (RPt.owned ms h2)
theorem RPf.owned {C : Kt} {H : Hp} : ∀ (ms : List (Str × D)) {ws : List (Str × V)} {fp : List Addr}, RPf C H ms ws fp → Owned H fp
  | [], _, _, h => by obtain ⟨_, rfl⟩ := h; exact Owned.nil
  | (k, m) :: ms, _, _, h => by
    unfold RPf at h
    obtain ⟨v, vr, f1, f2, rfl, rfl, h1, h2⟩ := h
    exact (RP.owned m h1).app (RPf.owned ms h2)
end
mutual
def fz : D → Bool
  | .non => true
  | .bl _ => true
  | .int _ => true
  | .str _ => true
  | .tup ms => fzs ms
  | .lst o _ => !o
  | .klst _ => true
  | .dct o _ => !o
  | .ins o _ _ => !o
  | .exc _ _ => true
  | .tbs _ => false
def fzs : List D → Bool
  | [] => true
  | m :: ms => fz m && fzs ms
end
mutual
theorem RP.fz {C : Kt} {H : Hp} : ∀ (m : D) {v : V} {fp : List Addr}, RP C H m v fp → T.fz m = true → fp = []
  | .non, _, _, h, _ => h.2
  | .bl _, _, _, h, _ => h.2
  | .int _, _, _, h, _ => h.2
  | .str _, _, _, h, _ => h.2
  | .tup ms, _, _, h, z => by
    unfold RP at h
    unfold T.fz at z
    obtain ⟨a, vs, rfl, h1, h2⟩ := h
    exact RPs.fz ms h2 z
  | .lst o ms, _, _, h, z => by
    unfold RP at h
    unfold T.fz at z
    obtain ⟨a, vs, fp', rfl, h1, h2⟩ := h
    cases o with
    | true => cases z
    | false => exact h1.2.1
  | .klst ms, _, _, h, _ => by
    unfold RP at h
    obtain ⟨a, vs, rfl, h0, _⟩ := h
    exact h0
  | .dct o kvs, _, _, h, z => by
    unfold RP at h
    unfold T.fz at z
    obtain ⟨a, fp', rfl, h⟩ := h
    cases o with
    | true => cases z
    | false => rcases h with ⟨ws, h1, h2⟩ | ⟨ws, h1, h2⟩ <;> exact h1.2.1
  | .ins o c fs, _, _, h, z => by
    unfold RP at h
    unfold T.fz at z
    obtain ⟨a, A, dx, ws, fp', rfl, hc, h1, h2⟩ := h
    cases o with
    | true => cases z
    | false => exact h1.2.1
  | .exc c m, _, _, h, _ => by
    unfold RP at h
    obtain ⟨a, A, dd, u, rfl, h0, _⟩ := h
    exact h0
  | .tbs _, _, _, _, z => by cases z
theorem RPs.fz {C : Kt} {H : Hp} : ∀ (ms : List D) {vs : List V} {fp : List Addr}, RPs C H ms vs fp → T.fzs ms = true → fp = []
  | [], _, _, h, _ => h.2
  | m :: ms, _, _, h, z => by
    unfold RPs at h
    unfold T.fzs at z
    rw [Bool.and_eq_true] at z
    obtain ⟨v, vr, f1, f2, rfl, rfl, h1, h2⟩ := h
    rw [RP.fz m h1 z.1, RPs.fz ms h2 z.2]
    rfl
end
end T
set_option Elab.async false
set_option linter.all false
set_option maxRecDepth 100000
set_option maxHeartbeats 4000000
namespace T
open PySem L2
abbrev Env := List (Option D)
/-- the slots of a frame, as trees (none: nothing is known of it) -/
def ER (C : Kt) (H : Hp) : Env → L2.St → List Addr → Prop
  | [], σ, fp => σ = [] ∧ fp = []
  | none :: r, σ, fp => ∃ w σ', σ = w :: σ' ∧ ER C H r σ' fp
  | some m :: r, σ, fp => ∃ v σ' f1 f2, σ = some v :: σ' ∧ fp = f1 ++ f2 ∧ RP C H m v f1 ∧ ER C H r σ' f2
theorem ER.st {C : Kt} {H H' : Hp} : ∀ (env : Env) {σ : L2.St} {fp : List Addr}, ER C H env σ fp → St1 H H' fp → ER C H' env σ fp
  | [], _, _, h, _ => h
  | none :: r, _, _, h, s => by
    obtain ⟨w, σ', rfl, h⟩ := h
    exact ⟨w, σ', rfl, ER.st r h s⟩
  | some m :: r, _, _, h, s => by
    obtain ⟨v, σ', f1, f2, rfl, rfl, h1, h2⟩ := h
    exact ⟨v, σ', f1, f2, rfl, rfl, h1.st m s.left, ER.st r h2 s.right⟩
theorem ER.owned {C : Kt} {H : Hp} : ∀ (env : Env) {σ : L2.St} {fp : List Addr}, ER C H env σ fp → Owned H fp
  | [], _, _, h => by obtain ⟨_, rfl⟩ := h; exact Owned.nil
  | none :: r, _, _, h => by
    obtain ⟨w, σ', rfl, h⟩ := h
    exact ER.owned r h
  | some m :: r, _, _, h => by
    obtain ⟨v, σ', f1, f2, rfl, rfl, h1, h2⟩ := h
    exact (h1.owned m).app (ER.owned r h2)
theorem ER.len {C : Kt} {H : Hp} : ∀ (env : Env) {σ : L2.St} {fp : List Addr}, ER C H env σ fp → env.length = σ.length
  | [], _, _, h => by obtain ⟨rfl, _⟩ := h; rfl
  | none :: r, _, _, h => by
    obtain ⟨w, σ', rfl, h⟩ := h
    simp [ER.len r h]
  | some m :: r, _, _, h => by
    obtain ⟨v, σ', f1, f2, rfl, rfl, h1, h2⟩ := h
    simp [ER.len r h2]
/-- what may be put into a slot -/
def Slt (C : Kt) (H : Hp) : Option D → Option V → List Addr → Prop
  | none, _, fp => fp = []
  | some m, w, fp => ∃ v, w = some v ∧ RP C H m v fp
/-- one slot in sight -/
theorem ER.focus {C : Kt} {H : Hp} : ∀ (env : Env) {σ : L2.St} {fp : List Addr} {i : Nat} {x : Option D}, ER C H env σ fp → env[i]? = some x →
    ∃ w f1 f2 f3, σ[i]? = some w ∧ fp = f1 ++ (f2 ++ f3) ∧ Slt C H x w f2 ∧
      ∀ (H' : Hp) (y : Option D) (u : Option V) (f : List Addr), St1 H H' (f1 ++ f3) → Slt C H' y u f → ER C H' (env.set i y) (σ.set i u) (f1 ++ (f ++ f3))
  | [], _, _, _, _, _, e => by simp at e
  | none :: r, _, fp, 0, x, h, e => by
    obtain ⟨w, σ', rfl, h⟩ := h
    have e : none = x := by simpa using e
    subst e
    refine ⟨w, [], [], fp, rfl, rfl, rfl, fun H' y u f s q => ?_⟩
    have h' : ER C H' r σ' fp := ER.st r h (by simpa using s)
    cases y with
    | none =>
      have : f = [] := q
      subst this
      exact ⟨u, σ', rfl, h'⟩
    | some m =>
      obtain ⟨v, rfl, q⟩ := q
      exact ⟨v, σ', f, fp, rfl, by simp, q, h'⟩
  | some m :: r, _, _, 0, x, h, e => by
    obtain ⟨v, σ', f1, f2, rfl, rfl, h1, h2⟩ := h
    have e : some m = x := by simpa using e
    subst e
    refine ⟨some v, [], f1, f2, rfl, rfl, ⟨v, rfl, h1⟩, fun H' y u f s q => ?_⟩
    have h' : ER C H' r σ' f2 := ER.st r h2 (by simpa using s)
    cases y with
    | none =>
      have : f = [] := q
      subst this
      exact ⟨u, σ', rfl, h'⟩
    | some m =>
      obtain ⟨v, rfl, q⟩ := q
      exact ⟨v, σ', f, f2, rfl, by simp, q, h'⟩
  | none :: r, _, _, i + 1, x, h, e => by
    obtain ⟨w, σ', rfl, h⟩ := h
    obtain ⟨w', f1, f2, f3, e1, rfl, q, k⟩ := ER.focus r h (by simpa using e)
    exact ⟨w', f1, f2, f3, by simpa using e1, rfl, q, fun H' y u f s q => ⟨w, _, rfl, k H' y u f s q⟩⟩
  | some m :: r, _, _, i + 1, x, h, e => by
    obtain ⟨v, σ', g1, g2, rfl, rfl, h1, h2⟩ := h
    obtain ⟨w', f1, f2, f3, e1, rfl, q, k⟩ := ER.focus r h2 (by simpa using e)
    refine ⟨w', g1 ++ f1, f2, f3, by simpa using e1, by simp, q, fun H' y u f s q => ?_⟩
    have s1 : St1 H H' (g1 ++ (f1 ++ f3)) := by simpa using s
    exact ⟨v, _, g1, f1 ++ (f ++ f3), rfl, by simp, h1.st m s1.left, k H' y u f s1.right q⟩
/-- from a heap with fp owned to one with fq owned: all else stands as it stood -/
structure Mv (H H' : Hp) (fp fq : List Addr) : Prop where
  keep : ∀ a o, H a = some o → (a ∈ fp → Fixed o = true) → H' a = some o
  sub : ∀ a ∈ fq, a ∈ fp ∨ H a = none
theorem Mv.refl (H : Hp) (fp : List Addr) : Mv H H fp fp := ⟨fun _ _ e _ => e, fun _ h => .inl h⟩
theorem Mv.trans {H H1 H2 : Hp} {f0 f1 f2 : List Addr} (a : Mv H H1 f0 f1) (b : Mv H1 H2 f1 f2) : Mv H H2 f0 f2 where
  keep := fun c o e x => b.keep c o (a.keep c o e x) fun h => (a.sub c h).elim x fun z => by rw [e] at z; cases z
  sub := fun c h => by
    rcases b.sub c h with h1 | h1
    · exact a.sub c h1
    · by_cases hc : c ∈ f0
      · exact .inl hc
      · refine .inr ?_
        cases q : H c with
        | none => rfl
        | some o => rw [a.keep c o q fun z => absurd z hc] at h1; cases h1
theorem Mv.same {H H' : Hp} {fp fm : List Addr} (h : Same H H') (hm : ∀ a ∈ fm, H a = none) : Mv H H' fp (fm ++ fp) :=
  ⟨fun a o e _ => h a o e, fun a x => (List.mem_append.mp x).elim (fun z => .inr (hm a z)) .inl⟩
theorem Mv.less {H H' : Hp} {fp f1 f2 : List Addr} (h : Mv H H' fp f1) (s : ∀ a ∈ f2, a ∈ f1) : Mv H H' fp f2 := ⟨h.keep, fun a x => h.sub a (s a x)⟩
theorem Mv.st {H H' : Hp} {f fp fq : List Addr} (m : Mv H H' fp fq) (nd : (f ++ fp).Nodup) : St1 H H' f := fun a o e x =>
  m.keep a o e fun h => by
    rcases x with x | x
    · exact absurd rfl ((List.nodup_append.mp nd).2.2 a x a h)
    · exact x
theorem Mv.nodup {H H' : Hp} {f fp fq : List Addr} (m : Mv H H' fp fq) (nd : (f ++ fp).Nodup) (ow : Owned H f) (nq : fq.Nodup) : (f ++ fq).Nodup := by
  obtain ⟨n1, n2, n3⟩ := List.nodup_append.mp nd
  refine List.nodup_append.mpr ⟨n1, nq, fun a ha b hb => ?_⟩
  rintro rfl
  rcases m.sub a hb with h | h
  · exact n3 a ha a h rfl
  · obtain ⟨o, e, _⟩ := ow a ha
    rw [e] at h; cases h
theorem Mv.frame {H H' : Hp} {f fp fq : List Addr} (m : Mv H H' fp fq) (nd : (f ++ fp).Nodup) (ow : Owned H f) : Mv H H' (f ++ fp) (f ++ fq) where
  keep := fun a o e x => m.keep a o e fun h => x (List.mem_append_right _ h)
  sub := fun a h => by
    rcases List.mem_append.mp h with h | h
    · exact .inl (List.mem_append_left _ h)
    · exact (m.sub a h).imp (List.mem_append_right _) id
theorem Same.st1 {H H' : Hp} (h : Same H H') (fp : List Addr) : St1 H H' fp := fun a o e _ => h a o e
inductive Rs (α : Type) where
  | ok (a : α)
  | ex (c : Str) (m : D)
abbrev SE := Env → Option (Rs D × Env)
abbrev SV := Env → Option D
abbrev STe := Env → Option (Rs Bool × Env)
abbrev STu := Env → Option Bool
/-- an exception of an own class with its value -/
def ExRep (C : Kt) (H : Hp) (c : Str) (m : D) (cls : Value) (d : Option Addr) (fm : List Addr) : Prop :=
  ∃ A dd v, C.mg c = some (.ref A) ∧ cls = .ref A ∧ d = some dd ∧ H dd = some (.xd [("value", v)]) ∧ RP C H m v fm
abbrev WXT := Value → Option Addr → L2.St → Hp → Prop
def PostE (C : Kt) (W : WXT) (σ : L2.St) (H : Hp) (fp : List Addr) (Q : VK) : Option (Rs D × Env) → Prop
  | none => False
  | some (.ok m, env') => ∀ v H' fm fe, RP C H' m v fm → ER C H' env' σ fe → (fm ++ fe).Nodup → Mv H H' fp (fm ++ fe) → Q v H'
  | some (.ex c m, env') => ∀ cls d H' fm fe, ExRep C H' c m cls d fm → ER C H' env' σ fe → (fm ++ fe).Nodup → Mv H H' fp (fm ++ fe) → W cls d σ H'
/-- an expression that may change what is owned, and raise -/
def tE (C : Kt) (W : WXT) (s : SE) : TE := fun σ H Q => ∃ env fp, ER C H env σ fp ∧ fp.Nodup ∧ PostE C W σ H fp Q (s env)
/-- an expression that changes nothing; its value is new or frozen -/
def tU (C : Kt) (p : SV) : TE := fun σ H Q => ∃ env fp m, ER C H env σ fp ∧ p env = some m ∧ ∀ v H' fm, Same H H' → RP C H' m v fm → fm.Nodup → (∀ a ∈ fm, H a = none) → Q v H'
/-- a look: its value may be a part of what a slot holds -/
def tV (C : Kt) (p : SV) : TE := fun σ H Q => ∃ env fp m, ER C H env σ fp ∧ p env = some m ∧ ∀ v H' fm, Same H H' → RP C H' m v fm → Q v H'
def PostT (C : Kt) (W : WXT) (σ : L2.St) (H : Hp) (fp : List Addr) (Q : Bool → Hp → Prop) : Option (Rs Bool × Env) → Prop
  | none => False
  | some (.ok b, env') => ∀ H' fe, ER C H' env' σ fe → fe.Nodup → Mv H H' fp fe → Q b H'
  | some (.ex c m, env') => ∀ cls d H' fm fe, ExRep C H' c m cls d fm → ER C H' env' σ fe → (fm ++ fe).Nodup → Mv H H' fp (fm ++ fe) → W cls d σ H'
def tTE (C : Kt) (W : WXT) (s : STe) : TT := fun σ H Q => ∃ env fp, ER C H env σ fp ∧ fp.Nodup ∧ PostT C W σ H fp Q (s env)
def tTU (C : Kt) (p : STu) : TT := fun σ H Q => ∃ env fp b, ER C H env σ fp ∧ p env = some b ∧ ∀ H', Same H H' → Q b H'
theorem pe_imp {X : Cx} {e : Expr} {t t' : TE} (h : PE X e t) (f : ∀ σ H Q, t' σ H Q → t σ H Q) : PE X e t' := ⟨fun pins s σ H Q I q => h.run pins s σ H Q I (f σ H Q q)⟩
theorem pt_imp {X : Cx} {e : Expr} {t t' : TT} (h : PT X e t) (f : ∀ σ H Q, t' σ H Q → t σ H Q) : PT X e t' := ⟨fun pins s σ H Q I q => h.run pins s σ H Q I (f σ H Q q)⟩
theorem pw_imp {X : Cx} {e : Expr} {t t' : TT} (h : PW X e t) (f : ∀ σ H Q, t' σ H Q → t σ H Q) : PW X e t' := ⟨fun wh pins s σ H Q I q => h.run wh pins s σ H Q I (f σ H Q q)⟩
theorem ps_imp {X : Cx} {e : Stmt} {t t' : TS} (h : PS X e t) (f : ∀ D σ H, t' D σ H → t D σ H) : PS X e t' := ⟨fun pins s σ H D I q => h.run pins s σ H D I (f D σ H q)⟩
theorem pss_imp {X : Cx} {e : List Stmt} {t t' : TS} (h : PSs X e t) (f : ∀ D σ H, t' D σ H → t D σ H) : PSs X e t' := ⟨fun pins s σ H D I q => h.run pins s σ H D I (f D σ H q)⟩
section
variable {X : Cx} {C : Kt} {W : WXT} {e : Expr}
/-- new is a look, too -/
theorem vOfU {p : SV} (h : PE X e (tU C p)) : PE X e (tV C p) := pe_imp h fun σ H Q ⟨env, fp, m, r, q, k⟩ => ⟨env, fp, m, r, q, fun v H' fm s x _ _ => k v H' fm s x⟩
def pFz (p : SV) : SV := fun env => match p env with
  | some m => if fz m then some m else none
  | none => none
/-- a look at what is frozen -/
theorem uOfV {p : SV} (h : PE X e (tV C p)) : PE X e (tU C (pFz p)) := pe_imp h fun σ H Q ⟨env, fp, m, r, q, k⟩ => by
  unfold pFz at q
  split at q
  · rename_i m' e1
    split at q
    · rename_i hz
      cases q
      refine ⟨env, fp, m, r, e1, fun v H' fm s x => ?_⟩
      have := x.fz m hz
      subst this
      exact k v H' [] s x List.nodup_nil fun _ z => nomatch z
    · cases q
  · cases q
def sU (p : SV) : SE := fun env => (p env).map fun m => (.ok m, env)
theorem eOfU {p : SV} (h : PE X e (tU C p)) : PE X e (tE C W (sU p)) := pe_imp h fun σ H Q ⟨env, fp, r, nd, k⟩ => by
  unfold sU at k
  cases q : p env with
  | none => rw [q] at k; exact k.elim
  | some m =>
    rw [q] at k
    refine ⟨env, fp, m, r, q, fun v H' fm s x nm fr => ?_⟩
    have ow := r.owned env
    refine k v H' fm fp x (r.st env (Same.st1 s fp)) (List.nodup_append.mpr ⟨nm, nd, fun a ha b hb => ?_⟩) (Mv.same s fr)
    rintro rfl
    obtain ⟨o, e, _⟩ := ow a hb
    rw [fr a ha] at e; cases e
def pVar (i : Nat) : SV := fun env => match env[i]? with
  | some (some m) => some m
  | _ => none
theorem vVar (i : Nat) (h : PE X e (tVar i)) : PE X e (tV C (pVar i)) := pe_imp h fun σ H Q ⟨env, fp, m, r, q, k⟩ => by
  unfold pVar at q
  split at q
  · rename_i m' e1
    cases q
    obtain ⟨w, f1, f2, f3, e2, rfl, ⟨v, rfl, x⟩, _⟩ := r.focus env e1
    exact ⟨v, e2, k v H f2 (Same.refl H) x⟩
  · cases q
/-- the name's value is handed on, the name given up -/
def sMove (i : Nat) : SE := fun env => match env[i]? with
  | some (some m) => some (.ok m, env.set i none)
  | _ => none
theorem nodup_move {f1 f2 f3 : List Addr} (nd : (f1 ++ (f2 ++ f3)).Nodup) : (f2 ++ (f1 ++ ([] ++ f3))).Nodup := by
  rw [List.nil_append, ← List.append_assoc]
  rw [← List.append_assoc] at nd
  refine (List.Perm.nodup_iff ?_).mp nd
  exact List.Perm.append_right _ List.perm_append_comm
theorem mem_move {f1 f2 f3 : List Addr} {a : Addr} : a ∈ f2 ++ (f1 ++ ([] ++ f3)) → a ∈ f1 ++ (f2 ++ f3) := by
  simp only [List.mem_append, List.nil_append]
  rintro (h | h | h)
  · exact .inr (.inl h)
  · exact .inl h
  · exact .inr (.inr h)
theorem eMove (i : Nat) (h : PE X e (tVar i)) : PE X e (tE C W (sMove i)) := pe_imp h fun σ H Q ⟨env, fp, r, nd, k⟩ => by
  unfold sMove at k
  split at k
  · rename_i m e1
    obtain ⟨w, f1, f2, f3, e2, rfl, ⟨v, rfl, x⟩, g⟩ := r.focus env e1
    refine ⟨v, e2, k v H f2 (f1 ++ ([] ++ f3)) x ?_ (nodup_move nd) ((Mv.refl H _).less fun a => mem_move)⟩
    have g1 := g H none (some v) [] (fun _ _ e _ => e) rfl
    have : σ.set i (some v) = σ := by
      have hl := (List.getElem?_eq_some_iff.mp e2).1
      have : σ[i] = some v := (List.getElem?_eq_some_iff.mp e2).2
      rw [← this]; exact List.set_getElem_self hl
    rw [this] at g1
    exact g1
  · exact k.elim
end
end T
set_option Elab.async false
set_option linter.all false
set_option maxRecDepth 100000
set_option maxHeartbeats 4000000
namespace T
open PySem L2
/-- an argument: a value, or a name whose thing is lent -/
inductive Av where
  | val (m : D)
  | lend (i : Nat)
def AvR (C : Kt) (H : Hp) (σ : L2.St) : List Av → List V → List Addr → Prop
  | [], vs, fp => vs = [] ∧ fp = []
  | .val m :: r, vs, fp => ∃ v vr f1 f2, vs = v :: vr ∧ fp = f1 ++ f2 ∧ RP C H m v f1 ∧ AvR C H σ r vr f2
  | .lend i :: r, vs, fp => ∃ v vr, vs = v :: vr ∧ σ[i]? = some (some v) ∧ AvR C H σ r vr fp
theorem AvR.st {C : Kt} {H H' : Hp} {σ : L2.St} : ∀ (as : List Av) {vs : List V} {fp : List Addr}, AvR C H σ as vs fp → St1 H H' fp → AvR C H' σ as vs fp
  | [], _, _, h, _ => h
  | .val m :: r, _, _, h, s => by
    obtain ⟨v, vr, f1, f2, rfl, rfl, h1, h2⟩ := h
    exact ⟨v, vr, f1, f2, rfl, rfl, h1.st m s.left, AvR.st r h2 s.right⟩
  | .lend i :: r, _, _, h, s => by
    obtain ⟨v, vr, rfl, h1, h2⟩ := h
    exact ⟨v, vr, rfl, h1, AvR.st r h2 s⟩
theorem AvR.owned {C : Kt} {H : Hp} {σ : L2.St} : ∀ (as : List Av) {vs : List V} {fp : List Addr}, AvR C H σ as vs fp → Owned H fp
  | [], _, _, h => by obtain ⟨_, rfl⟩ := h; exact Owned.nil
  | .val m :: r, _, _, h => by
    obtain ⟨v, vr, f1, f2, rfl, rfl, h1, h2⟩ := h
    exact (h1.owned m).app (AvR.owned r h2)
  | .lend i :: r, _, _, h => by
    obtain ⟨v, vr, rfl, h1, h2⟩ := h
    exact AvR.owned r h2
theorem AvR.snoc {C : Kt} {H : Hp} {σ : L2.St} {m : D} {v : V} {f : List Addr} (x : RP C H m v f) : ∀ (as : List Av) {vs : List V} {fp : List Addr}, AvR C H σ as vs fp → AvR C H σ (as ++ [.val m]) (vs ++ [v]) (fp ++ f)
  | [], _, _, h => by
    obtain ⟨rfl, rfl⟩ := h
    exact ⟨v, [], f, [], rfl, by simp, x, rfl, rfl⟩
  | .val m' :: r, _, _, h => by
    obtain ⟨v', vr, f1, f2, rfl, rfl, h1, h2⟩ := h
    exact ⟨v', vr ++ [v], f1, f2 ++ f, rfl, by simp, h1, AvR.snoc x r h2⟩
  | .lend i :: r, _, _, h => by
    obtain ⟨v', vr, rfl, h1, h2⟩ := h
    exact ⟨v', vr ++ [v], rfl, h1, AvR.snoc x r h2⟩
/-- where an evaluation that began at H with fp owned stands: the values so far, the slots -/
def Now (C : Kt) (σ : L2.St) (H : Hp) (fp : List Addr) (H1 : Hp) (ts : List Av) (vs : List V) (env : Env) : Prop :=
  ∃ ft fe, AvR C H1 σ ts vs ft ∧ ER C H1 env σ fe ∧ (ft ++ fe).Nodup ∧ Mv H H1 fp (ft ++ fe)
theorem Now.start {C : Kt} {σ : L2.St} {H : Hp} {fp : List Addr} {env : Env} (h : ER C H env σ fp) (nd : fp.Nodup) : Now C σ H fp H [] [] env :=
  ⟨[], fp, ⟨rfl, rfl⟩, h, nd, Mv.refl H fp⟩
def sBind (s : SE) (k : D → SE) : SE := fun env => match s env with
  | some (.ok m, env1) => k m env1
  | some (.ex c m, env1) => some (.ex c m, env1)
  | none => none
def sOpt (o : Option D) : SE := fun env => o.map fun m => (.ok m, env)
def sOk (m : D) : SE := fun env => some (.ok m, env)
section
variable {C : Kt} {W : WXT} {σ : L2.St} {H H1 H2 : Hp} {fp : List Addr} {Q : VK} {ts : List Av} {vs : List V} {env : Env}
/-- an expression is evaluated -/
theorem Now.step {s : SE} {k : D → SE} (n : Now C σ H fp H1 ts vs env) (h : PostE C W σ H fp Q (sBind s k env)) :
    tE C W s σ H1 fun v H2 => ∃ m env2, Now C σ H fp H2 (ts ++ [.val m]) (vs ++ [v]) env2 ∧ s env = some (.ok m, env2) ∧ PostE C W σ H fp Q (k m env2) := by
  obtain ⟨ft, fe, a, r, nd, mv⟩ := n
  refine ⟨env, fe, r, (List.nodup_append.mp nd).2.1, ?_⟩
  have ow := a.owned ts
  unfold sBind at h
  cases q : s env with
  | none => rw [q] at h; exact h.elim
  | some z =>
    obtain ⟨z, env2⟩ := z
    rw [q] at h
    cases z with
    | ok m =>
      refine fun v H2 fm fe2 x r2 n2 mv2 => ⟨m, env2, ⟨ft ++ fm, fe2, ?_, r2, ?_, ?_⟩, rfl, h⟩
      · exact (a.st ts (mv2.st nd)).snoc x
      · rw [List.append_assoc]; exact mv2.nodup nd ow n2
      · rw [List.append_assoc]; exact mv.trans (mv2.frame nd ow)
    | ex c m =>
      refine fun cls d H2 fm fe2 x r2 n2 mv2 => h cls d H2 fm fe2 x r2 n2 ?_
      exact (mv.trans (mv2.frame nd ow)).less fun b hb => List.mem_append_right _ hb
/-- a look -/
theorem Now.look {p : SV} {m : D} (n : Now C σ H fp H1 ts vs env) (h : p env = some m) :
    tV C p σ H1 fun v H2 => ∃ fm, RP C H2 m v fm ∧ Same H1 H2 ∧ Now C σ H fp H2 ts vs env := by
  obtain ⟨ft, fe, a, r, nd, mv⟩ := n
  refine ⟨env, fe, m, r, h, fun v H2 fm s x => ⟨fm, x, s, ft, fe, a.st ts (Same.st1 s _), r.st env (Same.st1 s _), nd, ?_⟩⟩
  exact mv.trans ((Mv.same (fm := []) s fun _ z => nomatch z).less fun _ z => z)
/-- only the slots are kept in sight -/
theorem Now.drop (n : Now C σ H fp H1 ts vs env) : Now C σ H fp H1 [] [] env := by
  obtain ⟨ft, fe, a, r, nd, mv⟩ := n
  exact ⟨[], fe, ⟨rfl, rfl⟩, r, (List.nodup_append.mp nd).2.1, mv.less fun b hb => List.mem_append_right _ hb⟩
/-- the end: a value that is new or frozen -/
theorem Now.done {m : D} (n : Now C σ H fp H1 ts vs env) (h : PostE C W σ H fp Q (some (.ok m, env))) {v : V} {fm : List Addr} (s : Same H1 H2) (x : RP C H2 m v fm) (nm : fm.Nodup) (fr : ∀ a ∈ fm, H1 a = none) : Q v H2 := by
  obtain ⟨ft, fe, a, r, nd, mv⟩ := n.drop
  have e : ft = [] := a.2
  subst e
  have ow := r.owned env
  refine h v H2 fm fe x (r.st env (Same.st1 s _)) (List.nodup_append.mpr ⟨nm, nd, fun b hb c hc => ?_⟩) (mv.trans (Mv.same s fr))
  rintro rfl
  obtain ⟨o, e, _⟩ := ow b hc
  rw [fr b hb] at e; cases e
end
theorem tE_mono {C : Kt} {W : WXT} {s : SE} {σ : L2.St} {H : Hp} {Q Q' : VK} (h : tE C W s σ H Q) (k : ∀ v H', Q v H' → Q' v H') : tE C W s σ H Q' := by
  obtain ⟨env, fp, e, nd, h⟩ := h
  refine ⟨env, fp, e, nd, ?_⟩
  cases q : s env with
  | none => rw [q] at h; exact h
  | some z =>
    obtain ⟨z, env2⟩ := z
    rw [q] at h
    cases z with
    | ok m => exact fun v H2 fm fe2 x r2 n2 mv2 => k v H2 (h v H2 fm fe2 x r2 n2 mv2)
    | ex c m => exact h
theorem tV_mono {C : Kt} {p : SV} {σ : L2.St} {H : Hp} {Q Q' : VK} (h : tV C p σ H Q) (k : ∀ v H', Q v H' → Q' v H') : tV C p σ H Q' := by
  obtain ⟨env, fp, m, e, nd, h⟩ := h
  exact ⟨env, fp, m, e, nd, fun v H' fm a b => k _ _ (h v H' fm a b)⟩
/-- r on values that read as x and y hands on what reads as f x y, new or frozen -/
def Op2 (C : Kt) (r : R2) (f : D → D → Option D) : Prop := ∀ (H : Hp) (x y : D) (v u : V) (f1 f2 : List Addr) (m : D), RP C H x v f1 → RP C H y u f2 → f x y = some m →
  ∀ Q : VK, (∀ w H' fm, Same H H' → RP C H' m w fm → fm.Nodup → (∀ a ∈ fm, H a = none) → Q w H') → r v u H Q
def p2 (f : D → D → Option D) (p q : SV) : SV := fun env => match p env, q env with
  | some x, some y => f x y
  | _, _ => none
def s2 (f : D → D → Option D) (sa sb : SE) : SE := sBind sa fun x => sBind sb fun y => sOpt (f x y)
def s2V (f : D → D → Option D) (sa : SE) (q : SV) : SE := sBind sa fun x env => match q env with
  | some y => sOpt (f x y) env
  | none => none
def s2N (f : D → D → Option D) (i : Nat) (sb : SE) : SE := fun env => match pVar i env with
  | some _ => sBind sb (fun y env1 => match pVar i env1 with
    | some x => sOpt (f x y) env1
    | none => none) env
  | none => none
section
variable {C : Kt} {W : WXT} {σ : L2.St} {H : Hp} {Q : VK} {r : R2} {f : D → D → Option D}
theorem op_vv (h : Op2 C r f) {p q : SV} (x : tU C (p2 f p q) σ H Q) : tOp r (tV C p) (tV C q) σ H Q := by
  obtain ⟨env, fp, m, e, hm, k⟩ := x
  unfold p2 at hm
  split at hm
  · rename_i a b e1 e2
    refine ⟨env, fp, a, e, e1, fun v H1 f1 s1 x1 => ⟨env, fp, b, e.st env (Same.st1 s1 _), e2, fun u H2 f2 s2 x2 => ?_⟩⟩
    exact h H2 a b v u f1 f2 m (x1.st a (Same.st1 s2 _)) x2 hm Q fun w H3 fm s3 x3 n3 fr => k w H3 fm (s1.trans (s2.trans s3)) x3 n3 fun a ha => s1.free (s2.free (fr a ha))
  · cases hm
theorem sOpt_some {fp : List Addr} {o : Option D} {env : Env} (h : PostE C W σ H fp Q (sOpt o env)) : ∃ m, o = some m ∧ PostE C W σ H fp Q (some (.ok m, env)) := by
  cases o with
  | none => exact h.elim
  | some m => exact ⟨m, rfl, h⟩
theorem op_ev (h : Op2 C r f) {sa : SE} {q : SV} (x : tE C W (s2V f sa q) σ H Q) : tOp r (tE C W sa) (tV C q) σ H Q := by
  obtain ⟨env, fp, e, nd, k⟩ := x
  refine tE_mono ((Now.start e nd).step k) fun v H1 ⟨a, env1, n1, q1, k1⟩ => ?_
  split at k1
  · rename_i b e2
    obtain ⟨m, hm, k3⟩ := sOpt_some k1
    refine tV_mono (n1.look e2) fun u H2 ⟨f3, x2, s2, n2⟩ => ?_
    obtain ⟨ft, fe, ar, _⟩ := id n2
    obtain ⟨v1, vr, f1, f2, e1, rfl, x1, ar⟩ := ar
    cases e1
    exact h H2 a b v u f1 f3 m x1 x2 hm Q fun w H3 fm s3 x3 n3 fr => n2.done k3 s3 x3 n3 fr
  · exact k1.elim
theorem pVar_get {C : Kt} {H : Hp} {σ : L2.St} {fp : List Addr} {env : Env} {i : Nat} {m : D} (h : pVar i env = some m) (r : ER C H env σ fp) : ∃ v f1 f2 f3, σ[i]? = some (some v) ∧ fp = f1 ++ (f2 ++ f3) ∧ RP C H m v f2 ∧
      ∀ (H' : Hp) (y : Option D) (u : Option V) (f : List Addr), St1 H H' (f1 ++ f3) → Slt C H' y u f → ER C H' (env.set i y) (σ.set i u) (f1 ++ (f ++ f3)) := by
  unfold pVar at h
  split at h
  · rename_i m' e1
    cases h
    obtain ⟨w, f1, f2, f3, e2, rfl, ⟨v, rfl, x⟩, g⟩ := r.focus env e1
    exact ⟨v, f1, f2, f3, e2, rfl, x, g⟩
  · cases h
theorem op_ne (h : Op2 C r f) {i : Nat} {sb : SE} (x : tE C W (s2N f i sb) σ H Q) : tOp r (tVar i) (tE C W sb) σ H Q := by
  obtain ⟨env, fp, e, nd, k⟩ := x
  unfold s2N at k
  split at k
  · rename_i a e1
    obtain ⟨v, _, _, _, hv, _⟩ := pVar_get e1 e
    refine ⟨v, hv, ?_⟩
    refine tE_mono ((Now.start e nd).step k) fun u H1 ⟨b, env1, n1, q1, k1⟩ => ?_
    split at k1
    · rename_i a' e2
      obtain ⟨m, hm, k3⟩ := sOpt_some k1
      obtain ⟨ft, fe, ar, r1, _⟩ := id n1
      obtain ⟨v', f1, f2, f3, hv', rfl, x1, _⟩ := pVar_get e2 r1
      rw [hv] at hv'
      cases hv'
      obtain ⟨v2, vr, g1, g2, e3, rfl, x2, ar⟩ := ar
      cases e3
      exact h H1 a' b v u f2 g1 m x1 x2 hm Q fun w H3 fm s3 x3 n3 fr => n1.done k3 s3 x3 n3 fr
    · exact k1.elim
  · exact k.elim
end
inductive Fl where
  | nx | rt (m : D) | bk | ct | ex (c : Str) (m : D)
abbrev SS := Env → Option (Fl × Env)
def Kp (kp : Nat → Bool) (σ σ' : L2.St) : Prop := σ'.length = σ.length ∧ ∀ i, kp i = true → σ'[i]? = σ[i]?
theorem Kp.refl (kp : Nat → Bool) (σ : L2.St) : Kp kp σ σ := ⟨rfl, fun _ _ => rfl⟩
theorem Kp.trans {kp : Nat → Bool} {σ σ1 σ2 : L2.St} (a : Kp kp σ σ1) (b : Kp kp σ1 σ2) : Kp kp σ σ2 := ⟨b.1.trans a.1, fun i h => (b.2 i h).trans (a.2 i h)⟩
def PostS (C : Kt) (kp : Nat → Bool) (W : WXT) (Z : Ends) (σ : L2.St) (H : Hp) (fp : List Addr) : Option (Fl × Env) → Prop
  | none => False
  | some (.nx, env') => ∀ σ' H' fe, ER C H' env' σ' fe → fe.Nodup → Mv H H' fp fe → Kp kp σ σ' → Z.nx σ' H'
  | some (.bk, env') => ∀ σ' H' fe, ER C H' env' σ' fe → fe.Nodup → Mv H H' fp fe → Kp kp σ σ' → Z.bk σ' H'
  | some (.ct, env') => ∀ σ' H' fe, ER C H' env' σ' fe → fe.Nodup → Mv H H' fp fe → Kp kp σ σ' → Z.ct σ' H'
  | some (.rt m, env') => ∀ v σ' H' fm fe, RP C H' m v fm → ER C H' env' σ' fe → (fm ++ fe).Nodup → Mv H H' fp (fm ++ fe) → Kp kp σ σ' → Z.rt v H'
  | some (.ex c m, env') => ∀ cls d σ' H' fm fe, ExRep C H' c m cls d fm → ER C H' env' σ' fe → (fm ++ fe).Nodup → Mv H H' fp (fm ++ fe) → Kp kp σ σ' → W cls d σ' H'
def tS (C : Kt) (kp : Nat → Bool) (W : WXT) (s : SS) : TS := fun Z σ H => ∃ env fp, ER C H env σ fp ∧ fp.Nodup ∧ PostS C kp W Z σ H fp (s env)
section
variable {C : Kt} {kp : Nat → Bool} {W : WXT} {σ σ1 : L2.St} {H H1 : Hp} {fp fe : List Addr} {Z : Ends} {env : Env}
/-- the same wish from where it stands now -/
theorem PostS.shift {r : Option (Fl × Env)} (h : PostS C kp W Z σ H fp r) (mv : Mv H H1 fp fe) (kk : Kp kp σ σ1) : PostS C kp W Z σ1 H1 fe r := by
  cases r with
  | none => exact h
  | some z =>
    obtain ⟨z, env'⟩ := z
    cases z with
    | nx => exact fun σ' H' f r n m k => h σ' H' f r n (mv.trans m) (kk.trans k)
    | bk => exact fun σ' H' f r n m k => h σ' H' f r n (mv.trans m) (kk.trans k)
    | ct => exact fun σ' H' f r n m k => h σ' H' f r n (mv.trans m) (kk.trans k)
    | rt m => exact fun v σ' H' f g x r n m k => h v σ' H' f g x r n (mv.trans m) (kk.trans k)
    | ex c m => exact fun cls d σ' H' f g x r n m k => h cls d σ' H' f g x r n (mv.trans m) (kk.trans k)
def sSeq (s u : SS) : SS := fun env => match s env with
  | some (.nx, env1) => u env1
  | some (.rt m, env1) => some (.rt m, env1)
  | some (.bk, env1) => some (.bk, env1)
  | some (.ct, env1) => some (.ct, env1)
  | some (.ex c m, env1) => some (.ex c m, env1)
  | none => none
theorem seq_i {s u : SS} (x : tS C kp W (sSeq s u) Z σ H) : tSeq (tS C kp W s) (tS C kp W u) Z σ H := by
  obtain ⟨env, fp, r, nd, h⟩ := x
  refine ⟨env, fp, r, nd, ?_⟩
  unfold sSeq at h
  cases q : s env with
  | none => rw [q] at h; exact h.elim
  | some z =>
    obtain ⟨z, env2⟩ := z
    rw [q] at h
    cases z with
    | nx => exact fun σ' H' f r n m k => ⟨env2, f, r, n, h.shift m k⟩
    | bk => exact h
    | ct => exact h
    | rt m => exact h
    | ex c m => exact h
/-- an expression within a statement -/
theorem e_in {s : SE} (r : ER C H env σ fp) (nd : fp.Nodup) {Q : VK} (hx : ∀ c m env2, s env = some (.ex c m, env2) → PostS C kp W Z σ H fp (some (.ex c m, env2)))
    (hq : ∀ m env2, s env = some (.ok m, env2) → ∀ v H2 fm f2, RP C H2 m v fm → ER C H2 env2 σ f2 → (fm ++ f2).Nodup → Mv H H2 fp (fm ++ f2) → Q v H2) (hn : s env ≠ none) : tE C W s σ H Q := by
  refine ⟨env, fp, r, nd, ?_⟩
  cases q : s env with
  | none => exact (hn q).elim
  | some z =>
    obtain ⟨z, env2⟩ := z
    cases z with
    | ok m => exact hq m env2 q
    | ex c m => exact fun cls d H2 fm f2 x r2 n2 m2 => hx c m env2 q cls d σ H2 fm f2 x r2 n2 m2 (Kp.refl kp σ)
def sRet (s : SE) : SS := fun env => match s env with
  | some (.ok m, env1) => some (.rt m, env1)
  | some (.ex c m, env1) => some (.ex c m, env1)
  | none => none
theorem ret_i {s : SE} (x : tS C kp W (sRet s) Z σ H) : tRet (tE C W s) Z σ H := by
  obtain ⟨env, fp, r, nd, h⟩ := x
  unfold sRet at h
  refine e_in (Z := Z) (kp := kp) r nd (fun c m e2 q => ?_) (fun m e2 q => ?_) fun q => ?_
  · rw [q] at h; exact h
  · rw [q] at h; exact fun v H2 fm f2 x r n mv => h v σ H2 fm f2 x r n mv (Kp.refl kp σ)
  · rw [q] at h; exact h
def sRetN : SS := fun env => some (.rt .non, env)
def sDrop (s : SE) : SS := fun env => match s env with
  | some (.ok _, env1) => some (.nx, env1)
  | some (.ex c m, env1) => some (.ex c m, env1)
  | none => none
theorem drop_i {s : SE} (x : tS C kp W (sDrop s) Z σ H) : tDrop (tE C W s) Z σ H := by
  obtain ⟨env, fp, r, nd, h⟩ := x
  unfold sDrop at h
  refine e_in (Z := Z) (kp := kp) r nd (fun c m e2 q => ?_) (fun m e2 q => ?_) fun q => ?_
  · rw [q] at h; exact h
  · rw [q] at h
    exact fun v H2 fm f2 x r n mv => h σ H2 f2 r (List.nodup_append.mp n).2.1 (mv.less fun b hb => List.mem_append_right _ hb) (Kp.refl kp σ)
  · rw [q] at h; exact h
def sPass : SS := fun env => some (.nx, env)
def sBrk : SS := fun env => some (.bk, env)
def sCont : SS := fun env => some (.ct, env)
theorem pass_i (x : tS C kp W sPass Z σ H) : tNext Z σ H := by
  obtain ⟨env, fp, r, nd, h⟩ := x
  exact h σ H fp r nd (Mv.refl H fp) (Kp.refl kp σ)
def sIf (t : STe) (a b : SS) : SS := fun env => match t env with
  | some (.ok true, env1) => a env1
  | some (.ok false, env1) => b env1
  | some (.ex c m, env1) => some (.ex c m, env1)
  | none => none
theorem if_i {t : STe} {a b : SS} (x : tS C kp W (sIf t a b) Z σ H) : tIfS (tTE C W t) (tS C kp W a) (tS C kp W b) Z σ H := by
  obtain ⟨env, fp, r, nd, h⟩ := x
  refine ⟨env, fp, r, nd, ?_⟩
  unfold sIf at h
  cases q : t env with
  | none => rw [q] at h; exact h.elim
  | some z =>
    obtain ⟨z, env2⟩ := z
    rw [q] at h
    cases z with
    | ok b =>
      intro H2 f2 r2 n2 m2
      cases b with
      | true =>
        rw [if_pos rfl]
        exact ⟨env2, f2, r2, n2, h.shift m2 (Kp.refl kp σ)⟩
      | false =>
        rw [if_neg Bool.false_ne_true]
        exact ⟨env2, f2, r2, n2, h.shift m2 (Kp.refl kp σ)⟩
    | ex c m => exact fun cls d H2 fm f2 x r2 n2 m2 => h cls d σ H2 fm f2 x r2 n2 m2 (Kp.refl kp σ)
def sSet (i : Nat) (s : SE) : SS := fun env => match s env with
  | some (.ok m, env1) => if i < env1.length then some (.nx, env1.set i (some m)) else none
  | some (.ex c m, env1) => some (.ex c m, env1)
  | none => none
theorem ER.put {m : D} {v : V} {fm f2 : List Addr} {i : Nat} {env : Env} (hi : i < env.length) (x : RP C H m v fm) (r : ER C H env σ f2) (n : (fm ++ f2).Nodup) :
    ∃ f3, ER C H (env.set i (some m)) (σ.set i (some v)) f3 ∧ f3.Nodup ∧ ∀ b ∈ f3, b ∈ fm ++ f2 := by
  obtain ⟨w, g1, g2, g3, e2, rfl, y, k⟩ := r.focus env (List.getElem?_eq_getElem hi)
  refine ⟨g1 ++ (fm ++ g3), k H (some m) (some v) fm (fun _ _ e _ => e) ⟨v, rfl, x⟩, ?_, fun b hb => ?_⟩
  · simp only [List.nodup_append, List.mem_append] at n ⊢
    grind
  · simp only [List.mem_append] at hb ⊢
    grind
theorem Kp.set {i : Nat} {w : Option V} (hk : kp i = false) : Kp kp σ (σ.set i w) := ⟨by simp, fun j hj => by
  rw [List.getElem?_set_ne]
  rintro rfl
  rw [hk] at hj; cases hj⟩
theorem set_i {i : Nat} {s : SE} (hk : kp i = false) (x : tS C kp W (sSet i s) Z σ H) : tAsg (tE C W s) (gName i) Z σ H := by
  obtain ⟨env, fp, r, nd, h⟩ := x
  unfold sSet at h
  refine e_in (Z := Z) (kp := kp) r nd (fun c m e2 q => ?_) (fun m e2 q => ?_) fun q => ?_
  · rw [q] at h; exact h
  · rw [q] at h
    intro v H2 fm f2 x r n mv
    dsimp only at h
    split at h
    · rename_i hi
      obtain ⟨f3, r3, n3, s3⟩ := r.put hi x n
      exact h (σ.set i (some v)) H2 f3 r3 n3 (mv.less s3) (Kp.set hk)
    · exact h.elim
  · rw [q] at h; exact h
end
end T
set_option Elab.async false
set_option linter.all false
set_option maxRecDepth 100000
set_option maxHeartbeats 4000000
namespace T
open PySem PySem.Spec PyProof.Rows L2
structure Room (k : Nat) (A : Around) : Prop where
  rm : L2.Room k A
  gd : A.guards = some []
theorem Room.hd {k : Nat} {A : Around} (r : Room k A) : A.handled = none := r.rm.hd
theorem Room.un {k : Nat} {A : Around} (r : Room k A) : A.units + 16 * k + 200 < cLine := r.rm.un
theorem Room.units {k : Nat} {A : Around} (r : Room k A) : A.units + 64 < cLine := r.rm.units
theorem Room.depth {k : Nat} {A : Around} (r : Room k A) : A.depth < recursionLimit := r.rm.depth
theorem Room.mono {j k : Nat} {A : Around} (r : Room k A) (h : j ≤ k) : Room j A := ⟨r.rm.mono h, r.gd⟩
theorem Room.deeper {k : Nat} {A : Around} (r : Room (k + 1) A) (env : PySem.Env) : Room k (A.deeper env) := ⟨r.rm.deeper env, r.gd⟩
theorem Room.in1 {k : Nat} {A : Around} (r : Room (k + 1) A) : Room k A.in1 := ⟨r.rm.in1, r.gd⟩
theorem Room.make {k : Nat} {A : Around} (r : Room (k + 1) A) (C : Addr) (us : List Value) (kw : List (Str × Value)) : Room k (A.under (.builtin "type.__call__" ⟨.ref C :: us, kw⟩)) :=
  ⟨r.rm.make C us kw, by
    have e : (Code.builtin "type.__call__" ⟨.ref C :: us, kw⟩).isGuard = false := by first | rfl | simp [Code.isGuard, guardIds]
    have e2 : (Code.builtin "type.__call__" ⟨.ref C :: us, kw⟩).guards = [] := by unfold Code.guards; rw [e]; rfl
    show pushGuards (Code.builtin "type.__call__" ⟨.ref C :: us, kw⟩).guards A.guards = some []
    rw [e2, r.gd]
    rfl⟩
structure FnOk (P : Program) (w : World) (K : PySem.W.Frag) (mg : Str → Option Value) (base : Heap) (CX : CXT) (k : Nat) (f : Addr) (fd : FuncData) (ps : List Str) (sp : Sp) : Prop where
  len : ∀ vs H Q E, sp vs H Q E → vs.length = ps.length
  run : ∀ (A : Around) (outer : List PySem.Env) (s : Shared) (H : Hp) (args : Args) (us : List Value) (vs : List V) (Q : VK) (E : XK), Room k A → Env0 P w K mg base A outer s H → BindsTo s fd args (ps.zip us) → Vals vs us → sp vs H Q E →
    codeAny (model P w) A (.call (.ref f) args) (CR CX outer P w H s Q E) s
theorem fn_of {CX : CXT} {P : Program} {w : World} {K : PySem.W.Frag} {mg : Str → Option Value} {base : Heap} {k : Nat} {f : Addr} {name qual : Str} {params : Arguments} {body : List Stmt} {scope : Scope} {dV kV doc pm cdv ct oc : Value} {an od : Option Addr}
    {osl : Array (Option Value)} {N ps : List Str} {sp : Sp} (lk : K.lookup f = some ⟨oc, od, .func (PySem.W.fnOf name qual params body scope dV kV doc pm an cdv ct), osl⟩) (hcd : PySem.W.codeIn K cdv qual = true) (S : FnScope N ps scope)
    (len : ∀ vs H Q E, sp vs H Q E → vs.length = ps.length)
    (hbody : ∀ (A : Around) (outer : List PySem.Env) (s : Shared) (H : Hp) (vs : List V) (Q : VK) (E : XK), Room k (A.deeper (envOfC qual scope s.heap.objs.size f cdv)) → sp vs H Q E →
      ∃ t, PSs (cxOf CX P w K mg base N qual scope f cdv A outer s H E) body t ∧ t { nx := fun _ H' => Q .non H', rt := Q } (start N vs) H) :
    FnOk P w K mg base CX (k + 1) f (PySem.W.fnOf name qual params body scope dV kV doc pm an cdv ct) ps sp := by
  refine ⟨len, fun A outer s H args us vs Q E hr e0 hb r hsp => ?_⟩
  have hl := len _ _ _ _ hsp
  have KX : K.In s.heap := e0.mod.kin.keeps fun b o e => (e0.bs b o e).1
  have lim : s.heap.NoLimit := e0.mod.nolimit.keeps fun b o e => (e0.bs b o e).1
  have hkind : ∀ y ∈ ps.zip us, scope.names.lookup y.1 = some .local ∨ (scope.names.lookup y.1 = some .cell ∧ ((cellsFrom (s.heap.objs.size + 1) scope.names []).lookup y.1).isSome = true) := fun ⟨n, v⟩ hy => by
    rcases S.par n (List.of_mem_zip hy).1 with q | q
    · exact .inl q
    · exact .inr ⟨q, PySem.W.cellsFrom_some _ _ _ (.inl q)⟩
  refine codeAny_call_function hr.depth (KX _ _ lk) rfl S.co S.gen rfl (PySem.W.codeRec_of KX hcd) (hb _ _ _ _ ?_)
  refine wpAny_newFunctionEnv_cells S.kind hkind fun env he s1 x => ?_
  subst he
  refine ⟨lim.keeps x.toInCall.keep, codeAny_func ?_⟩
  obtain ⟨t, ht, hq⟩ := hbody A outer s H vs Q E (hr.deeper _) hsp
  have I : Inv (cxOf CX P w K mg base N qual scope f cdv A outer s H E) [] (start N vs) H s1 := inv_start S hr.hd e0 hl r x
  refine wpAny_mono (ht.run [] s1 (start N vs) H _ I hq) (fun fl s' hs => ?_) fun e s' hs => hs
  have fin : ∀ {σ' : L2.St} {H' : Hp} {v : V} {u : Value}, Inv (cxOf CX P w K mg base N qual scope f cdv A outer s H E) [] σ' H' s' → RelV v u → Q v H' → CE outer P w H s Q u s' :=
    fun {σ' H' v u} J rv q => ⟨v, H', J.os, J.bare, J.base, J.hok, rv, q⟩
  cases fl with
  | ret u =>
    obtain ⟨v, σ', H', J, rv, q⟩ := hs
    exact fin J rv q
  | next =>
    obtain ⟨σ', H', J, q⟩ := hs
    exact fin (v := V.non) (u := Value.none) J rfl q
  | brk =>
    obtain ⟨_, _, _, q⟩ := hs
    exact False.elim q
  | cont =>
    obtain ⟨_, _, _, q⟩ := hs
    exact False.elim q
section
variable {X : Cx} {CX : CXT} {k : Nat} {f C : Addr} {fd : FuncData} {ps : List Str} {sp : Sp} {E : L2.St → XK} {x m : Str} {p pos apos : Pos} {e o : Expr} {es : List Expr} {ta : TE} {t : TA}
theorem run_fnS {pins : List (Addr × Obj)} {σ : L2.St} {H : Hp} {s : Shared} {Q : VK} {us : List Value} {vs : List V} (F : FnOk X.prog X.w X.K X.mg X.base CX k f fd ps sp) (hr : Room k X.A) (hb : Binds X.K fd ps []) (hx : PassesAt CX X σ (E σ))
    (I : Inv X pins σ H s) (r : Vals vs us) (h : sp vs H Q (E σ)) : wpAny (model X.prog X.w) X.A (call (.ref f) us) (EP X pins σ Q) X.xe s := by
  have hl : us.length = ps.length := by rw [← r.length]; exact F.len _ _ _ _ h
  have b := hb s us I.kIn (by rw [List.append_nil]; exact hl)
  rw [List.append_nil] at b
  refine wpAny_call (codeAny_mono (F.run X.A X.stack s H ⟨us, []⟩ us vs Q (E σ) hr I.env0 b r h) fun r s' hq => ?_)
  cases r with
  | error e => exact hx pins H s e s' I hq
  | ok fl =>
    cases fl with
    | ret u => exact I.after hq
    | next => exact False.elim hq
    | brk => exact False.elim hq
    | cont => exact False.elim hq
theorem pe_callS (F : FnOk X.prog X.w X.K X.mg X.base CX k f fd ps sp) (hr : Room k X.A) (hg : Gl X x) (hm : X.mg x = some (.ref f)) (hk : PySem.W.keepIn X.K (.ref f) = true) (hb : Binds X.K fd ps []) (hx : ∀ σ, PassesAt CX X σ (E σ))
    (ha : PA X (e :: es) t) (hdb : (x == ("__debug__" : Str)) = false := by decide) (he : starEach (e :: es) X.env = (false, eval e X.env) :: starEach es X.env := by rfl) (hpl : (backTo pos (starEach es X.env)).any (·.1) = false := by rfl) :
    PE X (.Call (.Name x p) (e :: es) [] pos) (tCallS sp E t) := by
  refine ⟨fun pins s σ H Q I h => ?_⟩
  refine wpAny_Call_Name_kw (ld_glob I hg hm ?_ hdb)
  refine PySem.W.callWith_K (h₀ := X.base) I.ok.mod.kin hk (thn (ha.run pos pins s σ H _ I h) fun us s1 ⟨vs, H1, I1, r, q⟩ => ⟨I1.kIn, ?_⟩) he hpl
  exact run_fnS F hr hb (hx σ) I1 r q
end
end T
set_option Elab.async false
set_option linter.all false
set_option maxRecDepth 100000
set_option maxHeartbeats 4000000
namespace T
open PySem PySem.Spec PyProof.Rows L2
abbrev SA := Env → Option (Rs (List Av) × Env)
def PostA (C : Kt) (W : WXT) (σ : L2.St) (H : Hp) (fp : List Addr) (Q : List V → Hp → Prop) : Option (Rs (List Av) × Env) → Prop
  | none => False
  | some (.ok as, env') => ∀ vs H' fa fe, AvR C H' σ as vs fa → ER C H' env' σ fe → (fa ++ fe).Nodup → Mv H H' fp (fa ++ fe) → Q vs H'
  | some (.ex c m, env') => ∀ cls d H' fm fe, ExRep C H' c m cls d fm → ER C H' env' σ fe → (fm ++ fe).Nodup → Mv H H' fp (fm ++ fe) → W cls d σ H'
def tA (C : Kt) (W : WXT) (s : SA) : TA := fun σ H Q => ∃ env fp, ER C H env σ fp ∧ fp.Nodup ∧ PostA C W σ H fp Q (s env)
/-- pure ones: looks (tAV), or new | frozen values (tAU) -/
abbrev SAV := Env → Option (List D)
def tAV (C : Kt) (p : SAV) : TA := fun σ H Q => ∃ env fp ms, ER C H env σ fp ∧ p env = some ms ∧ ∀ vs H' fm, Same H H' → RPs C H' ms vs fm → Q vs H'
def tAU (C : Kt) (p : SAV) : TA := fun σ H Q => ∃ env fp ms, ER C H env σ fp ∧ p env = some ms ∧ ∀ vs H' fm, Same H H' → RPs C H' ms vs fm → fm.Nodup → (∀ a ∈ fm, H a = none) → Q vs H'
theorem pa_imp {X : Cx} {e : List Expr} {t t' : TA} (h : PA X e t) (f : ∀ σ H Q, t' σ H Q → t σ H Q) : PA X e t' := ⟨fun pos pins s σ H Q I q => h.run pos pins s σ H Q I (f σ H Q q)⟩
def aNil : SA := fun env => some (.ok [], env)
def aE (s : SE) (r : SA) : SA := fun env => match s env with
  | some (.ok m, env1) => match r env1 with
    | some (.ok as, env2) => some (.ok (.val m :: as), env2)
    | some (.ex c m, env2) => some (.ex c m, env2)
    | none => none
  | some (.ex c m, env1) => some (.ex c m, env1)
  | none => none
def aN (i : Nat) (r : SA) : SA := fun env => match pVar i env with
  | some _ => match r env with
    | some (.ok as, env2) => some (.ok (.lend i :: as), env2)
    | some (.ex c m, env2) => some (.ex c m, env2)
    | none => none
  | none => none
def vNil : SAV := fun _ => some []
def vCons (p : SV) (r : SAV) : SAV := fun env => match p env, r env with
  | some m, some ms => some (m :: ms)
  | _, _ => none
section
variable {C : Kt} {W : WXT} {σ : L2.St} {H : Hp} {Q : List V → Hp → Prop}
theorem aNil_i (x : tA C W aNil σ H Q) : tNil σ H Q := by
  obtain ⟨env, fp, r, nd, h⟩ := x
  exact h [] H [] fp ⟨rfl, rfl⟩ r nd (Mv.refl H fp)
theorem aE_i {s : SE} {r : SA} (x : tA C W (aE s r) σ H Q) : tCons (tE C W s) (tA C W r) σ H Q := by
  obtain ⟨env, fp, e, nd, h⟩ := x
  refine ⟨env, fp, e, nd, ?_⟩
  unfold aE at h
  cases q : s env with
  | none => rw [q] at h; exact h.elim
  | some z =>
    obtain ⟨z, env1⟩ := z
    rw [q] at h
    cases z with
    | ex c m => exact h
    | ok m =>
      intro v H1 fm fe x1 r1 n1 m1
      refine ⟨env1, fe, r1, (List.nodup_append.mp n1).2.1, ?_⟩
      have ow := x1.owned m
      dsimp only at h
      cases q2 : r env1 with
      | none => rw [q2] at h; exact h.elim
      | some z =>
        obtain ⟨z, env2⟩ := z
        rw [q2] at h
        cases z with
        | ex c m => exact fun cls d H2 f2 fe2 x2 r2 n2 m2 => h cls d H2 f2 fe2 x2 r2 n2 ((m1.trans (m2.frame n1 ow)).less fun b hb => List.mem_append_right _ hb)
        | ok as =>
          intro vs H2 fa fe2 x2 r2 n2 m2
          refine h (v :: vs) H2 (fm ++ fa) fe2 ⟨v, vs, fm, fa, rfl, rfl, x1.st m (m2.st n1), x2⟩ r2 ?_ ?_
          · rw [List.append_assoc]; exact m2.nodup n1 ow n2
          · rw [List.append_assoc]; exact m1.trans (m2.frame n1 ow)
theorem aN_i {i : Nat} {r : SA} (x : tA C W (aN i r) σ H Q) : tCons (tVar i) (tA C W r) σ H Q := by
  obtain ⟨env, fp, e, nd, h⟩ := x
  unfold aN at h
  split at h
  · rename_i m q
    obtain ⟨v, f1, f2, f3, hv, _⟩ := pVar_get q e
    refine ⟨v, hv, env, fp, e, nd, ?_⟩
    cases q2 : r env with
    | none => rw [q2] at h; exact h.elim
    | some z =>
      obtain ⟨z, env2⟩ := z
      rw [q2] at h
      cases z with
      | ex c m => exact h
      | ok as => exact fun vs H2 fa fe2 x2 r2 n2 m2 => h (v :: vs) H2 fa fe2 ⟨v, vs, rfl, hv, x2⟩ r2 n2 m2
  · exact h.elim
theorem vNil_i (x : tAV C vNil σ H Q) : tNil σ H Q := by
  obtain ⟨env, fp, ms, r, e, h⟩ := x
  cases e
  exact h [] H [] (Same.refl H) ⟨rfl, rfl⟩
theorem uNil_i (x : tAU C vNil σ H Q) : tNil σ H Q := by
  obtain ⟨env, fp, ms, r, e, h⟩ := x
  cases e
  exact h [] H [] (Same.refl H) ⟨rfl, rfl⟩ List.nodup_nil fun _ z => nomatch z
theorem vCons_i {p : SV} {r : SAV} (x : tAV C (vCons p r) σ H Q) : tCons (tV C p) (tAV C r) σ H Q := by
  obtain ⟨env, fp, ms, e, q, h⟩ := x
  unfold vCons at q
  split at q
  · rename_i m mr e1 e2
    cases q
    exact ⟨env, fp, m, e, e1, fun v H1 f1 s1 x1 => ⟨env, fp, mr, e.st env (Same.st1 s1 _), e2, fun vs H2 f2 s2 x2 => h (v :: vs) H2 (f1 ++ f2) (s1.trans s2) ⟨v, vs, f1, f2, rfl, rfl, x1.st m (Same.st1 s2 _), x2⟩⟩⟩
  · cases q
theorem fresh_app {H H1 : Hp} {f1 f2 : List Addr} (ow : Owned H1 f1) (n1 : f1.Nodup) (n2 : f2.Nodup) (h2 : ∀ a ∈ f2, H1 a = none) : (f1 ++ f2).Nodup :=
  List.nodup_append.mpr ⟨n1, n2, fun a ha b hb => by
    rintro rfl
    obtain ⟨o, e, _⟩ := ow a ha
    rw [h2 a hb] at e; cases e⟩
theorem uCons_i {p : SV} {r : SAV} (x : tAU C (vCons p r) σ H Q) : tCons (tU C p) (tAU C r) σ H Q := by
  obtain ⟨env, fp, ms, e, q, h⟩ := x
  unfold vCons at q
  split at q
  · rename_i m mr e1 e2
    cases q
    refine ⟨env, fp, m, e, e1, fun v H1 f1 s1 x1 n1 g1 => ⟨env, fp, mr, e.st env (Same.st1 s1 _), e2, fun vs H2 f2 s2 x2 n2 g2 => ?_⟩⟩
    refine h (v :: vs) H2 (f1 ++ f2) (s1.trans s2) ⟨v, vs, f1, f2, rfl, rfl, x1.st m (Same.st1 s2 _), x2⟩ (fresh_app (H := H1) (x1.owned m) n1 n2 g2) fun a ha => ?_
    exact (List.mem_append.mp ha).elim (g1 a) fun z => s1.free (g2 a z)
  · cases q
end
abbrev SF := List D → Option (Rs D × List (Option D))
def OutR (C : Kt) (H : Hp) : List (Option D) → List V → List Addr → Prop
  | [], vs, fp => vs = [] ∧ fp = []
  | none :: r, vs, fp => ∃ v vr, vs = v :: vr ∧ OutR C H r vr fp
  | some m :: r, vs, fp => ∃ v vr f1 f2, vs = v :: vr ∧ fp = f1 ++ f2 ∧ RP C H m v f1 ∧ OutR C H r vr f2
def PostF (C : Kt) (H : Hp) (fp : List Addr) (vs : List V) (Q : VK) (E : XK) : Option (Rs D × List (Option D)) → Prop
  | none => False
  | some (.ok m, os) => ∀ v H' fm fo, RP C H' m v fm → OutR C H' os vs fo → (fm ++ fo).Nodup → Mv H H' fp (fm ++ fo) → Q v H'
  | some (.ex c m, os) => ∀ cls d H' fm fo, ExRep C H' c m cls d fm → OutR C H' os vs fo → (fm ++ fo).Nodup → Mv H H' fp (fm ++ fo) → E cls d H'
/-- the promise of a def whose meaning is F -/
def spF (C : Kt) (F : SF) : Sp := fun vs H Q E => ∃ ms fp, RPs C H ms vs fp ∧ fp.Nodup ∧ PostF C H fp vs Q E (F ms)
def takeA : List Av → Env → Option (List D × Env)
  | [], env => some ([], env)
  | .val m :: r, env => match takeA r env with
    | some (ms, env') => some (m :: ms, env')
    | none => none
  | .lend i :: r, env => match pVar i env with
    | some m => match takeA r (if fz m then env else env.set i none) with
      | some (ms, env') => some (m :: ms, env')
      | none => none
    | none => none
def backA : List Av → List (Option D) → Env → Env
  | .val _ :: r, _ :: os, env => backA r os env
  | .lend i :: r, o :: os, env => match env[i]? with
    | some none => backA r os (env.set i o)
    | _ => backA r os env
  | _, _, env => env
def sCallA (F : SF) (a : SA) : SE := fun env => match a env with
  | some (.ok as, env1) => match takeA as env1 with
    | some (ms, env2) => match F ms with
      | some (.ok m, os) => some (.ok m, backA as os env2)
      | some (.ex c m, os) => some (.ex c m, backA as os env2)
      | none => none
    | none => none
  | some (.ex c m, env1) => some (.ex c m, env1)
  | none => none
theorem set_self {σ : L2.St} {i : Nat} {w : Option V} (h : σ[i]? = some w) : σ.set i w = σ := by
  have hl := (List.getElem?_eq_some_iff.mp h).1
  have : σ[i] = w := (List.getElem?_eq_some_iff.mp h).2
  rw [← this]; exact List.set_getElem_self hl
theorem takeA_ok {C : Kt} {H : Hp} {σ : L2.St} : ∀ (as : List Av) {vs : List V} {fa fe : List Addr} {env env' : Env} {ms : List D}, AvR C H σ as vs fa → ER C H env σ fe → takeA as env = some (ms, env') →
    ∃ fm fe', RPs C H ms vs fm ∧ ER C H env' σ fe' ∧ (fm ++ fe').Perm (fa ++ fe)
  | [], _, _, fe, _, _, _, a, r, h => by
    obtain ⟨rfl, rfl⟩ := a
    cases h
    exact ⟨[], fe, ⟨rfl, rfl⟩, r, .refl _⟩
  | .val m :: as, _, _, fe, env, env', ms, a, r, h => by
    obtain ⟨v, vr, f1, f2, rfl, rfl, x, a⟩ := a
    unfold takeA at h
    split at h
    · rename_i ms' env'' q
      cases h
      obtain ⟨fm, fe', x2, r2, p⟩ := takeA_ok as a r q
      exact ⟨f1 ++ fm, fe', ⟨v, vr, f1, fm, rfl, rfl, x, x2⟩, r2, by rw [List.append_assoc, List.append_assoc]; exact p.append_left f1⟩
    · cases h
  | .lend i :: as, _, fa, fe, env, env', ms, a, r, h => by
    obtain ⟨v, vr, rfl, hv, a⟩ := a
    unfold takeA at h
    split at h
    · rename_i m q
      obtain ⟨v', f1, f2, f3, hv', rfl, x, k⟩ := pVar_get q r
      rw [hv] at hv'
      cases hv'
      split at h
      · rename_i ms' env'' q2
        cases h
        by_cases hz : fz m = true
        · rw [if_pos hz] at q2
          have := x.fz m hz
          subst this
          obtain ⟨fm, fe', x2, r2, p⟩ := takeA_ok as a r q2
          exact ⟨fm, fe', ⟨v, vr, [], fm, rfl, rfl, x, x2⟩, r2, p⟩
        · rw [if_neg hz] at q2
          have r1 := k H none (some v) [] (fun _ _ e _ => e) rfl
          rw [set_self hv] at r1
          obtain ⟨fm, fe', x2, r2, p⟩ := takeA_ok as a r1 q2
          refine ⟨f2 ++ fm, fe', ⟨v, vr, f2, fm, rfl, rfl, x, x2⟩, r2, ?_⟩
          rw [List.append_assoc]
          refine (p.append_left f2).trans ?_
          simp only [List.nil_append]
          refine (List.perm_append_comm_assoc _ _ _).trans (.append_left fa ?_)
          exact List.perm_append_comm_assoc _ _ _
      · cases h
    · cases h
theorem backA_ok {C : Kt} {H0 H : Hp} {σ : L2.St} : ∀ (as : List Av) {vs : List V} {f0 fo fe : List Addr} {env : Env} {os : List (Option D)}, AvR C H0 σ as vs f0 → OutR C H os vs fo → ER C H env σ fe → (fo ++ fe).Nodup →
    ∃ fe', ER C H (backA as os env) σ fe' ∧ fe'.Nodup ∧ ∀ b ∈ fe', b ∈ fo ++ fe
  | [], _, _, fo, fe, env, os, a, o, r, nd => by
    refine ⟨fe, ?_, (List.nodup_append.mp nd).2.1, fun b hb => List.mem_append_right _ hb⟩
    unfold backA; exact r
  | .val m :: as, _, _, fo, fe, env, os, a, o, r, nd => by
    obtain ⟨v, vr, f1, f2, rfl, rfl, x, a⟩ := a
    cases os with
    | nil => exact nomatch o.1
    | cons w os =>
      unfold backA
      cases w with
      | none =>
        obtain ⟨v', vr', e, o⟩ := o
        cases e
        exact backA_ok as a o r nd
      | some m =>
        obtain ⟨v', vr', g1, g2, e, rfl, x, o⟩ := o
        cases e
        obtain ⟨fe', r2, n2, s2⟩ := backA_ok as a o r (by rw [List.append_assoc] at nd; exact (List.nodup_append.mp nd).2.1)
        exact ⟨fe', r2, n2, fun b hb => by rw [List.append_assoc]; exact List.mem_append_right _ (s2 b hb)⟩
  | .lend i :: as, _, _, fo, fe, env, os, a, o, r, nd => by
    obtain ⟨v, vr, rfl, hv, a⟩ := a
    cases os with
    | nil => exact nomatch o.1
    | cons w os =>
      have ho : ∃ g1 g2, fo = g1 ++ g2 ∧ Slt C H w (some v) g1 ∧ OutR C H os vr g2 := by
        cases w with
        | none =>
          obtain ⟨v', vr', e, o⟩ := o
          cases e
          exact ⟨[], fo, rfl, rfl, o⟩
        | some m =>
          obtain ⟨v', vr', g1, g2, e, rfl, x, o⟩ := o
          cases e
          exact ⟨g1, g2, rfl, ⟨v, rfl, x⟩, o⟩
      obtain ⟨g1, g2, rfl, sl, o⟩ := ho
      unfold backA
      split
      · rename_i q
        obtain ⟨w', f1, f2, f3, e2, rfl, y, k⟩ := r.focus env q
        have r1 := k H w (some v) g1 (fun _ _ e _ => e) sl
        rw [set_self hv] at r1
        have y : f2 = [] := y
        subst y
        obtain ⟨fe', r2, n2, s2⟩ := backA_ok as a o r1 (by
          simp only [List.nodup_append, List.mem_append, List.nil_append] at nd ⊢
          grind)
        refine ⟨fe', r2, n2, fun b hb => ?_⟩
        have := s2 b hb
        simp only [List.mem_append] at this ⊢
        grind
      · obtain ⟨fe', r2, n2, s2⟩ := backA_ok as a o r (by rw [List.append_assoc] at nd; exact (List.nodup_append.mp nd).2.1)
        exact ⟨fe', r2, n2, fun b hb => by rw [List.append_assoc]; exact List.mem_append_right _ (s2 b hb)⟩
section
variable {C : Kt} {W : WXT} {σ : L2.St} {H : Hp} {Q : VK} {F : SF}
/-- what a call comes to, its arguments being there -/
theorem call_core {fp : List Addr} {H1 : Hp} {as : List Av} {vs : List V} {fa fe : List Addr} {env1 : Env} (h : PostE C W σ H fp Q (match takeA as env1 with
    | some (ms, env2) => match F ms with
      | some (.ok m, os) => some (.ok m, backA as os env2)
      | some (.ex c m, os) => some (.ex c m, backA as os env2)
      | none => none
    | none => none)) (a : AvR C H1 σ as vs fa) (r : ER C H1 env1 σ fe) (nd : (fa ++ fe).Nodup) (mv : Mv H H1 fp (fa ++ fe)) : spF C F vs H1 Q (fun cls d H' => W cls d σ H') := by
  split at h
  · rename_i ms env2 q
    obtain ⟨fm, fe', x, r2, p⟩ := takeA_ok as a r q
    have nd2 : (fm ++ fe').Nodup := p.nodup_iff.mpr nd
    have nd3 : (fe' ++ fm).Nodup := List.perm_append_comm.nodup_iff.mp nd2
    have mv2 : Mv H H1 fp (fe' ++ fm) := mv.less fun b hb => p.mem_iff.mp (List.perm_append_comm.mem_iff.mp hb)
    have ow := r2.owned env2
    refine ⟨ms, fm, x, (List.nodup_append.mp nd2).1, ?_⟩
    cases q2 : F ms with
    | none => rw [q2] at h; exact h.elim
    | some z =>
      obtain ⟨z, os⟩ := z
      rw [q2] at h
      cases z with
      | ok m =>
        intro v H2 fv fo y o n m2
        have st := m2.st nd3
        have n4 := m2.nodup nd3 ow n
        have m4 := mv2.trans (m2.frame nd3 ow)
        obtain ⟨fe3, r3, n3, s3⟩ := backA_ok as a o (r2.st env2 st) (by
          simp only [List.nodup_append, List.mem_append] at n4 ⊢
          grind)
        refine h v H2 fv fe3 y r3 ?_ (m4.less fun b hb => ?_)
        · simp only [List.nodup_append, List.mem_append] at n4 n3 s3 ⊢
          grind
        · simp only [List.mem_append] at hb s3 ⊢
          grind
      | ex c m =>
        intro cls d H2 fv fo y o n m2
        have st := m2.st nd3
        have n4 := m2.nodup nd3 ow n
        have m4 := mv2.trans (m2.frame nd3 ow)
        obtain ⟨fe3, r3, n3, s3⟩ := backA_ok as a o (r2.st env2 st) (by
          simp only [List.nodup_append, List.mem_append] at n4 ⊢
          grind)
        refine h cls d H2 fv fe3 y r3 ?_ (m4.less fun b hb => ?_)
        · simp only [List.nodup_append, List.mem_append] at n4 n3 s3 ⊢
          grind
        · simp only [List.mem_append] at hb s3 ⊢
          grind
  · exact h.elim
/-- f(..) -/
theorem call_i {a : SA} (x : tE C W (sCallA F a) σ H Q) : tCallS (spF C F) (fun σ cls d H' => W cls d σ H') (tA C W a) σ H Q := by
  obtain ⟨env, fp, r, nd, h⟩ := x
  refine ⟨env, fp, r, nd, ?_⟩
  unfold sCallA at h
  cases q : a env with
  | none => rw [q] at h; exact h.elim
  | some z =>
    obtain ⟨z, env1⟩ := z
    rw [q] at h
    cases z with
    | ex c m => exact h
    | ok as => exact fun vs H1 fa fe a r n mv => call_core h a r n mv
end
def outsF (kp : Nat → Bool) : Nat → Nat → Env → List (Option D)
  | _, 0, _ => []
  | j, n + 1, [] => none :: outsF kp (j + 1) n []
  | j, n + 1, x :: r => (if kp j then x else none) :: outsF kp (j + 1) n r
/-- n names, np of them parameters; kp: those that are never stored to -/
def fnS (n np : Nat) (kp : Nat → Bool) (s : SS) : SF := fun ms => if ms.length = np then
    match s (ms.map some ++ List.replicate (n - np) none) with
    | some (.nx, env) => some (.ok .non, outsF kp 0 np env)
    | some (.rt m, env) => some (.ok m, outsF kp 0 np env)
    | some (.ex c m, env) => some (.ex c m, outsF kp 0 np env)
    | _ => none
  else none
theorem ER.start {C : Kt} {H : Hp} : ∀ {ms : List D} {vs : List V} {fp : List Addr} (k : Nat), RPs C H ms vs fp → ER C H (ms.map some ++ List.replicate k none) (vs.map some ++ List.replicate k none) fp
  | [], _, _, k, h => by
    obtain ⟨rfl, rfl⟩ := h
    induction k with
    | zero => exact ⟨rfl, rfl⟩
    | succ k ih => exact ⟨none, _, rfl, ih⟩
  | m :: ms, _, _, k, h => by
    obtain ⟨v, vr, f1, f2, rfl, rfl, h1, h2⟩ := h
    exact ⟨v, _, f1, f2, rfl, rfl, h1, ER.start k h2⟩
theorem outs_ok {C : Kt} {H : Hp} (kp : Nat → Bool) : ∀ (vs : List V) (j : Nat) (env : Env) {σ : L2.St} {fp : List Addr}, ER C H env σ fp → (∀ i, i < vs.length → kp (j + i) = true → σ[i]? = some (vs[i]?)) →
    ∃ fo, OutR C H (outsF kp j vs.length env) vs fo ∧ List.Sublist fo fp
  | [], _, _, _, fp, _, _ => ⟨[], ⟨rfl, rfl⟩, List.nil_sublist fp⟩
  | v :: vs, j, [], _, fp, r, h => by
    obtain ⟨rfl, rfl⟩ := r
    have e0 : ∀ (vs : List V) (j : Nat), ∃ fo, OutR C H (outsF kp j vs.length []) vs fo ∧ List.Sublist fo [] := by
      intro vs
      induction vs with
      | nil => exact fun j => ⟨[], ⟨rfl, rfl⟩, List.nil_sublist _⟩
      | cons v vs ih =>
        intro j
        obtain ⟨fo, o, s⟩ := ih (j + 1)
        exact ⟨fo, ⟨v, vs, rfl, o⟩, s⟩
    exact e0 (v :: vs) j
  | v :: vs, j, none :: r, _, fp, x, h => by
    obtain ⟨w, σ', rfl, x⟩ := x
    obtain ⟨fo, o, s⟩ := outs_ok kp vs (j + 1) r x fun i hi hk => by
      have := h (i + 1) (by simpa using hi) (by rw [Nat.add_assoc, Nat.add_comm 1] at hk; exact hk)
      simpa using this
    refine ⟨fo, ?_, s⟩
    show OutR C H ((if kp j then none else none) :: _) _ _
    rw [ite_self]
    exact ⟨v, vs, rfl, o⟩
  | v :: vs, j, some m :: r, _, fp, x, h => by
    obtain ⟨v', σ', f1, f2, rfl, rfl, x1, x⟩ := x
    obtain ⟨fo, o, s⟩ := outs_ok kp vs (j + 1) r x fun i hi hk => by
      have := h (i + 1) (by simpa using hi) (by rw [Nat.add_assoc, Nat.add_comm 1] at hk; exact hk)
      simpa using this
    show ∃ fo, OutR C H ((if kp j then some m else none) :: _) _ fo ∧ _
    by_cases hj : kp j = true
    · rw [if_pos hj]
      have := h 0 (by simp) (by simpa using hj)
      simp only [List.getElem?_cons_zero, Option.some.injEq] at this
      subst this
      exact ⟨f1 ++ fo, ⟨v', vs, f1, fo, rfl, rfl, x1, o⟩, s.append_left f1⟩
    · rw [if_neg hj]
      exact ⟨fo, ⟨v, vs, rfl, o⟩, s.trans (List.sublist_append_right f1 f2)⟩
theorem RPs.len {C : Kt} {H : Hp} : ∀ {ms : List D} {vs : List V} {fp : List Addr}, RPs C H ms vs fp → ms.length = vs.length
  | [], _, _, h => by obtain ⟨rfl, _⟩ := h; rfl
  | m :: ms, _, _, h => by
    obtain ⟨v, vr, f1, f2, rfl, rfl, h1, h2⟩ := h
    simp [RPs.len h2]
section
variable {P : Program} {w : World} {K : PySem.W.Frag} {mg : Str → Option Value} {base : Heap}
theorem fn_ok {x qual : Str} {st : Stmt} {f : Addr} {fd : FuncData} {N ps : List Str} {k : Nat} {kp : Nat → Bool} {s : SS} (F : Fun K x qual st f fd) (S : FnScope N ps (defScope st)) (hl : ps.length ≤ N.length)
    (hk : ∀ i, kp i = true → i < ps.length)
    (hbody : ∀ (cdv : Value) (A : Around) (outer : List PySem.Env) (s0 : Shared) (H : Hp) (E : XK), Room k (A.deeper (envOfC qual (defScope st) s0.heap.objs.size f cdv)) →
      PSs (cxOf (L2.CX P w) P w K mg base N qual (defScope st) f cdv A outer s0 H E) (defBody st) (tS ⟨K, mg⟩ kp (fun cls d _ H' => E cls d H') s)) :
    FnOk P w K mg base (L2.CX P w) (k + 1) f fd ps (spF ⟨K, mg⟩ (fnS N.length ps.length kp s)) := by
  obtain ⟨oc, od, kV, doc, pm, an, cdv, ct, osl, rfl, lk, hcd⟩ := F.ex
  refine fn_of lk hcd S (fun vs H Q E h => ?_) (fun A outer s0 H vs Q E hr h => ⟨_, hbody cdv A outer s0 H E hr, ?_⟩)
  · obtain ⟨ms, fp, x, nd, h⟩ := h
    unfold fnS at h
    split at h
    · rename_i e
      rw [← x.len]; exact e
    · exact h.elim
  · obtain ⟨ms, fp, x, nd, h⟩ := h
    unfold fnS at h
    split at h
    · rename_i e
      have hv : vs.length = ps.length := by rw [← x.len]; exact e
      have r0 : ER ⟨K, mg⟩ H (ms.map some ++ List.replicate (N.length - ps.length) none) (L2.start N vs) fp := by
        unfold L2.start
        rw [hv]
        exact ER.start _ x
      refine ⟨_, fp, r0, nd, ?_⟩
      have hs : ∀ i, i < vs.length → (L2.start N vs)[i]? = some (vs[i]?) := fun i hi => by
        unfold L2.start
        rw [List.getElem?_append_left (by simpa using hi)]
        simp [hi]
      have ho : ∀ {env' : Env} {σ' : L2.St} {H' : Hp} {fe : List Addr}, ER ⟨K, mg⟩ H' env' σ' fe → Kp kp (L2.start N vs) σ' → ∃ fo, OutR ⟨K, mg⟩ H' (outsF kp 0 ps.length env') vs fo ∧ List.Sublist fo fe := fun {env' σ' H' fe} r kk => by
        rw [← hv]
        refine outs_ok kp vs 0 env' r fun i hi hik => ?_
        rw [Nat.zero_add] at hik
        rw [kk.2 i hik]; exact hs i hi
      cases q : s (ms.map some ++ List.replicate (N.length - ps.length) none) with
      | none => rw [q] at h; exact h.elim
      | some z =>
        obtain ⟨z, env'⟩ := z
        rw [q] at h
        cases z with
        | nx =>
          intro σ' H' fe r n mv kk
          obtain ⟨fo, o, su⟩ := ho r kk
          exact h .non H' [] fo ⟨rfl, rfl⟩ o (su.nodup n) (mv.less fun b hb => su.subset hb)
        | rt m =>
          intro v σ' H' fm fe y r n mv kk
          obtain ⟨fo, o, su⟩ := ho r kk
          have su2 := su.append_left fm
          exact h v H' fm fo y o (su2.nodup n) (mv.less fun b hb => su2.subset hb)
        | ex c m =>
          intro cls d σ' H' fm fe y r n mv kk
          obtain ⟨fo, o, su⟩ := ho r kk
          have su2 := su.append_left fm
          exact h cls d H' fm fo y o (su2.nodup n) (mv.less fun b hb => su2.subset hb)
        | bk => exact h.elim
        | ct => exact h.elim
    · exact h.elim
end
end T
set_option Elab.async false
set_option linter.all false
set_option maxRecDepth 100000
set_option maxHeartbeats 4000000
namespace T
open PySem PySem.Spec PyProof.Rows L2
mutual
def toP : D → Option PyData
  | .non => some .none
  | .bl b => some (.bool b)
  | .int i => some (.int i)
  | .str s => some (.str s)
  | .tup ms => (toPs ms).map .tuple
  | .lst _ ms => (toPs ms).map .list
  | .klst _ => none
  | .dct _ _ => none
  | .ins _ _ _ => none
  | .exc _ _ => none
  | .tbs _ => none
def toPs : List D → Option (List PyData)
  | [] => some []
  | m :: ms => match toP m, toPs ms with
    | some d, some ds => some (d :: ds)
    | _, _ => none
end
theorem At.seqL {o : Bool} {K : PySem.W.Frag} {H : Hp} {a : Addr} {vs : List V} {fp fp' : List Addr} (h : At o H a (.lst vs) fp fp') : SqL K H a vs := by
  cases o with
  | true => exact .inl (.inl h.1)
  | false => obtain ⟨⟨ob, h⟩, _⟩ := h; exact .inl (.inr ⟨ob, h⟩)
theorem At.rd {o : Bool} {H : Hp} {a : Addr} {u : HO} {fp fp' : List Addr} (h : At o H a u fp fp') : Rd H a u := by
  cases o with
  | true => exact .inl h.1
  | false => obtain ⟨⟨ob, h⟩, _⟩ := h; exact .inr ⟨ob, h⟩
mutual
theorem RP.dp {C : Kt} {H : Hp} : ∀ (m : D) {v : V} {fp : List Addr} {d : PyData}, RP C H m v fp → toP m = some d → Dp C.K H v d
  | .non, _, _, _, h, e => by obtain ⟨rfl, _⟩ := h; cases e; exact .non
  | .bl b, _, _, _, h, e => by obtain ⟨rfl, _⟩ := h; cases e; exact .bl b
  | .int i, _, _, _, h, e => by obtain ⟨rfl, _⟩ := h; cases e; exact .int i
  | .str s, _, _, _, h, e => by obtain ⟨rfl, _⟩ := h; cases e; exact .str s
  | .tup ms, _, _, _, h, e => by
    unfold RP at h
    unfold toP at e
    obtain ⟨a, vs, rfl, h1, h2⟩ := h
    cases q : toPs ms with
    | none => rw [q] at e; cases e
    | some ds => rw [q] at e; cases e; exact .tup (SqT.of h1) (RPs.dp ms h2 q)
  | .lst o ms, _, _, _, h, e => by
    unfold RP at h
    unfold toP at e
    obtain ⟨a, vs, fp', rfl, h1, h2⟩ := h
    cases q : toPs ms with
    | none => rw [q] at e; cases e
    | some ds => rw [q] at e; cases e; exact .lst h1.seqL (RPs.dp ms h2 q)
  | .klst _, _, _, _, _, e => by cases e
  | .dct _ _, _, _, _, _, e => by cases e
  | .ins _ _ _, _, _, _, _, e => by cases e
  | .exc _ _, _, _, _, _, e => by cases e
  | .tbs _, _, _, _, _, e => by cases e
theorem RPs.dp {C : Kt} {H : Hp} : ∀ (ms : List D) {vs : List V} {fp : List Addr} {ds : List PyData}, RPs C H ms vs fp → toPs ms = some ds → DpAll C.K H vs ds
  | [], _, _, _, h, e => by obtain ⟨rfl, _⟩ := h; cases e; exact .nil
  | m :: ms, _, _, _, h, e => by
    unfold RPs at h
    unfold toPs at e
    obtain ⟨v, vr, f1, f2, rfl, rfl, h1, h2⟩ := h
    split at e
    · rename_i d ds e1 e2
      cases e
      exact .cons (RP.dp m h1 e1) (RPs.dp ms h2 e2)
    · cases e
end
theorem RPs.fzAll {C : Kt} {H : Hp} {ms : List D} {vs : List V} {fp : List Addr} (h : RPs C H ms vs fp) (z : fzs ms = true) : RPs C H ms vs [] := by
  have := RPs.fz ms h z
  subst this
  exact h
theorem RPs.get {C : Kt} {H : Hp} : ∀ {ms : List D} {vs : List V} {i : Nat} {m : D}, RPs C H ms vs [] → ms[i]? = some m → ∃ v, vs[i]? = some v ∧ RP C H m v []
  | [], _, _, _, _, e => by simp at e
  | m :: ms, _, 0, m', h, e => by
    obtain ⟨v, vr, f1, f2, rfl, e1, h1, h2⟩ := h
    have e : m = m' := by simpa using e
    subst e
    obtain ⟨rfl, rfl⟩ := List.append_eq_nil_iff.mp e1.symm
    exact ⟨v, rfl, h1⟩
  | m :: ms, _, i + 1, m', h, e => by
    obtain ⟨v, vr, f1, f2, rfl, e1, h1, h2⟩ := h
    obtain ⟨rfl, rfl⟩ := List.append_eq_nil_iff.mp e1.symm
    obtain ⟨v', e2, x⟩ := RPs.get h2 (by simpa using e)
    exact ⟨v', by simpa using e2, x⟩
theorem RPs.app {C : Kt} {H : Hp} : ∀ {ms ns : List D} {vs ws : List V} {f g : List Addr}, RPs C H ms vs f → RPs C H ns ws g → RPs C H (ms ++ ns) (vs ++ ws) (f ++ g)
  | [], _, _, _, _, _, h, k => by obtain ⟨rfl, rfl⟩ := h; exact k
  | m :: ms, _, _, _, _, _, h, k => by
    obtain ⟨v, vr, f1, f2, rfl, rfl, h1, h2⟩ := h
    exact ⟨v, _, f1, _, rfl, by rw [List.append_assoc], h1, RPs.app h2 k⟩
theorem RPs.app0 {C : Kt} {H : Hp} {ms ns : List D} {vs ws : List V} (h : RPs C H ms vs []) (k : RPs C H ns ws []) : RPs C H (ms ++ ns) (vs ++ ws) [] := h.app k
theorem RPs.drop {C : Kt} {H : Hp} : ∀ {ms : List D} {vs : List V} (n : Nat), RPs C H ms vs [] → RPs C H (ms.drop n) (vs.drop n) []
  | _, _, 0, h => h
  | [], _, n + 1, h => by obtain ⟨rfl, _⟩ := h; exact ⟨rfl, rfl⟩
  | m :: ms, _, n + 1, h => by
    obtain ⟨v, vr, f1, f2, rfl, e1, h1, h2⟩ := h
    obtain ⟨rfl, rfl⟩ := List.append_eq_nil_iff.mp e1.symm
    exact RPs.drop n h2
theorem RPs.take {C : Kt} {H : Hp} : ∀ {ms : List D} {vs : List V} (n : Nat), RPs C H ms vs [] → RPs C H (ms.take n) (vs.take n) []
  | _, _, 0, h => ⟨rfl, rfl⟩
  | [], _, n + 1, h => by obtain ⟨rfl, _⟩ := h; exact ⟨rfl, rfl⟩
  | m :: ms, _, n + 1, h => by
    obtain ⟨v, vr, f1, f2, rfl, e1, h1, h2⟩ := h
    obtain ⟨rfl, rfl⟩ := List.append_eq_nil_iff.mp e1.symm
    exact ⟨v, _, [], [], rfl, rfl, h1, RPs.take n h2⟩
theorem RPs.rep {C : Kt} {H : Hp} {ms : List D} {vs : List V} (h : RPs C H ms vs []) : ∀ n : Nat, RPs C H (List.replicate n ms).flatten (List.replicate n vs).flatten []
  | 0 => ⟨rfl, rfl⟩
  | n + 1 => by
    rw [List.replicate_succ, List.replicate_succ, List.flatten_cons, List.flatten_cons]
    exact h.app0 (RPs.rep h n)
/-- a new list | tuple of frozen things -/
theorem new_lst {C : Kt} {H : Hp} {ms : List D} {vs : List V} (h : RPs C H ms vs []) {p : Addr} (hp : H p = none) : Same H (upd H p (.lst vs)) ∧ RP C (upd H p (.lst vs)) (.lst true ms) (.ref p) [p] := by
  have s : Same H (upd H p (.lst vs)) := fun b o e => by rw [upd_ne (ne_of_none e hp)]; exact e
  exact ⟨s, p, vs, [], rfl, ⟨upd_same, rfl⟩, h.st ms (Same.st1 s _)⟩
theorem new_tup {C : Kt} {H : Hp} {ms : List D} {vs : List V} {f : List Addr} (h : RPs C H ms vs f) {p : Addr} (hp : H p = none) : Same H (upd H p (.tup vs)) ∧ RP C (upd H p (.tup vs)) (.tup ms) (.ref p) f := by
  have s : Same H (upd H p (.tup vs)) := fun b o e => by rw [upd_ne (ne_of_none e hp)]; exact e
  exact ⟨s, p, vs, rfl, upd_same, h.st ms (Same.st1 s _)⟩
theorem fresh1 {H : Hp} {p : Addr} (hp : H p = none) : ∀ a ∈ [p], H a = none := fun a ha => by
  have : a = p := by simpa using ha
  subst this; exact hp
theorem nd1 {p : Addr} : [p].Nodup := by simp
theorem noneIn {H : Hp} : ∀ a ∈ ([] : List Addr), H a = none := fun _ z => nomatch z
theorem OpR.or {X : Cx} {f : Value → Value → Sem Value} {r r' : R2} (h : OpR X f r) (h' : OpR X f r') : OpR X f (fun x y H Q => r x y H Q ∨ r' x y H Q) := by
  intro pins s σ H x y v u Q I rx ry q
  rcases q with q | q
  · exact h pins s σ H x y v u Q I rx ry q
  · exact h' pins s σ H x y v u Q I rx ry q
theorem Inv.lstR {X : Cx} {pins : List (Addr × Obj)} {σ : L2.St} {H : Hp} {s : Shared} {a : Addr} {xs : List V} (I : Inv X pins σ H s) (h : Rd H a (.lst xs)) :
    xs.length ≤ sizeLine ∧ ∃ (its : List Value) (n : Nat), Vals xs its ∧ s.heap.get? a = some { cls := .type "list", data := .seq its.toArray n } := h.ok I.hok
/-- list + list, both only read -/
def rCatR : R2 := fun x y H Q => ∃ l b xs zs, x = .ref l ∧ y = .ref b ∧ Rd H l (.lst xs) ∧ Rd H b (.lst zs) ∧ xs.length + zs.length ≤ sizeLine ∧ ∀ p, H p = none → Q (.ref p) (upd H p (.lst (xs ++ zs)))
theorem op_catR {X : Cx} : OpR X (binaryOp .Add) rCatR := by
  intro pins s σ H x y v u Q I rx ry h
  obtain ⟨l, b, xs, zs, rfl, rfl, hH, hB, hz, q⟩ := h
  cases rx
  cases ry
  obtain ⟨z, its, n, r, e⟩ := Inv.lstR I hH
  obtain ⟨z2, its2, n2, r2, e2⟩ := Inv.lstR I hB
  have hl := r.length
  have hl2 := r2.length
  refine PySem.P.add_list e e2 ?_ (by rw [List.size_toArray, List.size_toArray]; omega)
  have ea : its.toArray ++ its2.toArray = (its ++ its2).toArray := by simp
  rw [ea]
  exact ⟨.ref _, _, I.lnew (t' := s.toks) (r.append r2) (by rw [List.length_append]; omega), rfl, q _ I.fresh⟩
def addD : D → D → Option D
  | .int i, .int j => some (.int (i + j))
  | .str a, .str b => if a.length + b.length ≤ sizeLine then some (.str (a ++ b)) else none
  | .lst _ ms, .lst _ ns => if ms.length + ns.length ≤ sizeLine then (if fzs ms && fzs ns then some (.lst true (ms ++ ns)) else none) else none
  | .tup ms, .tup ns => if ms.length + ns.length ≤ sizeLine then (if fzs ms && fzs ns then some (.tup (ms ++ ns)) else none) else none
  | _, _ => none
def rAdd (K : PySem.W.Frag) : R2 := fun x y H Q => ((rI0 fun i j => .int (i + j)) x y H Q ∨ (∃ i j, x = .str i ∧ y = .str j ∧ i.length + j.length ≤ sizeLine ∧ Q (.str (i ++ j)) H)) ∨ (rCatR x y H Q ∨ rCatA K x y H Q)
theorem or_add {X : Cx} : OpR X (binaryOp .Add) (rAdd X.K) := OpR.or (OpR.or op_add op_add_str) (OpR.or op_catR op_catA)
theorem o2_add {C : Kt} : Op2 C (rAdd C.K) addD := by
  intro H x y v u f1 f2 m h1 h2 e Q k
  unfold addD at e
  split at e
  · cases e
    obtain ⟨rfl, _⟩ := h1
    obtain ⟨rfl, _⟩ := h2
    exact .inl (.inl ⟨_, _, rfl, rfl, k _ H [] (Same.refl H) ⟨rfl, rfl⟩ List.nodup_nil noneIn⟩)
  · split at e
    · rename_i hz
      cases e
      obtain ⟨rfl, _⟩ := h1
      obtain ⟨rfl, _⟩ := h2
      exact .inl (.inr ⟨_, _, rfl, rfl, hz, k _ H [] (Same.refl H) ⟨rfl, rfl⟩ List.nodup_nil noneIn⟩)
    · cases e
  · split at e
    · split at e
      · rename_i hl hz
        rw [Bool.and_eq_true] at hz
        cases e
        obtain ⟨a, vs, g1, rfl, a1, r1⟩ := h1
        obtain ⟨b, ws, g2, rfl, a2, r2⟩ := h2
        have q1 := r1.fzAll hz.1
        have q2 := r2.fzAll hz.2
        refine .inr (.inl ⟨a, b, vs, ws, rfl, rfl, a1.rd, a2.rd, by rw [← q1.len, ← q2.len]; exact hl, fun p hp => ?_⟩)
        obtain ⟨s, x⟩ := new_lst (q1.app0 q2) hp
        exact k _ _ [p] s x nd1 (fresh1 hp)
      · cases e
    · cases e
  · split at e
    · split at e
      · rename_i hl hz
        rw [Bool.and_eq_true] at hz
        cases e
        obtain ⟨a, vs, rfl, a1, r1⟩ := h1
        obtain ⟨b, ws, rfl, a2, r2⟩ := h2
        have q1 := r1.fzAll hz.1
        have q2 := r2.fzAll hz.2
        refine .inr (.inr ⟨a, b, vs, ws, rfl, rfl, SqT.of a1, SqT.of a2, by rw [← q1.len, ← q2.len]; exact hl, fun e => ?_, fun e e' => ?_, fun _ _ p hp => ?_⟩)
        · subst e
          have := q1.len
          have := List.length_eq_zero_iff.mp this
          subst this
          exact k _ H [] (Same.refl H) ⟨b, ws, rfl, a2, q2⟩ List.nodup_nil noneIn
        · subst e'
          have := q2.len
          have := List.length_eq_zero_iff.mp this
          subst this
          exact k _ H [] (Same.refl H) ⟨a, vs, rfl, a1, by rw [List.append_nil]; exact q1⟩ List.nodup_nil noneIn
        · obtain ⟨s, x⟩ := new_tup (q1.app0 q2) hp
          exact k _ _ [] s x List.nodup_nil noneIn
      · cases e
    · cases e
  · cases e
def subD : D → D → Option D
  | .int i, .int j => some (.int (i - j))
  | _, _ => none
theorem int_res {C : Kt} {H : Hp} {Q : VK} {i : Int} (k : ∀ w H' fm, Same H H' → RP C H' (.int i) w fm → fm.Nodup → (∀ a ∈ fm, H a = none) → Q w H') : Q (.int i) H := k _ H [] (Same.refl H) ⟨rfl, rfl⟩ List.nodup_nil noneIn
theorem bl_res {C : Kt} {H : Hp} {Q : VK} {i : Bool} (k : ∀ w H' fm, Same H H' → RP C H' (.bl i) w fm → fm.Nodup → (∀ a ∈ fm, H a = none) → Q w H') : Q (.bl i) H := k _ H [] (Same.refl H) ⟨rfl, rfl⟩ List.nodup_nil noneIn
theorem str_res {C : Kt} {H : Hp} {Q : VK} {i : Str} (k : ∀ w H' fm, Same H H' → RP C H' (.str i) w fm → fm.Nodup → (∀ a ∈ fm, H a = none) → Q w H') : Q (.str i) H := k _ H [] (Same.refl H) ⟨rfl, rfl⟩ List.nodup_nil noneIn
theorem fz_res {C : Kt} {H : Hp} {Q : VK} {m : D} {v : V} (x : RP C H m v []) (k : ∀ w H' fm, Same H H' → RP C H' m w fm → fm.Nodup → (∀ a ∈ fm, H a = none) → Q w H') : Q v H := k v H [] (Same.refl H) x List.nodup_nil noneIn
theorem lst_res {C : Kt} {H : Hp} {Q : VK} {ms : List D} {vs : List V} {p : Addr} (x : RPs C H ms vs []) (hp : H p = none) (k : ∀ w H' fm, Same H H' → RP C H' (.lst true ms) w fm → fm.Nodup → (∀ a ∈ fm, H a = none) → Q w H') : Q (.ref p) (upd H p (.lst vs)) := by
  obtain ⟨s, y⟩ := new_lst x hp
  exact k _ _ [p] s y nd1 (fresh1 hp)
theorem tup_res {C : Kt} {H : Hp} {Q : VK} {ms : List D} {vs : List V} {p : Addr} (x : RPs C H ms vs []) (hp : H p = none) (k : ∀ w H' fm, Same H H' → RP C H' (.tup ms) w fm → fm.Nodup → (∀ a ∈ fm, H a = none) → Q w H') : Q (.ref p) (upd H p (.tup vs)) := by
  obtain ⟨s, y⟩ := new_tup x hp
  exact k _ _ [] s y List.nodup_nil noneIn
theorem o2_sub {C : Kt} : Op2 C (rI0 fun i j => .int (i - j)) subD := by
  intro H x y v u f1 f2 m h1 h2 e Q k
  unfold subD at e
  split at e
  · cases e
    obtain ⟨rfl, _⟩ := h1
    obtain ⟨rfl, _⟩ := h2
    exact ⟨_, _, rfl, rfl, int_res k⟩
  · cases e
instance (i j : Int) : Decidable (CMul i j) := by unfold CMul; infer_instance
instance (i j : Int) : Decidable (CDivN i j) := by unfold CDivN; infer_instance
instance (i j : Int) : Decidable (CPow i j) := by unfold CPow; infer_instance
def divD : D → D → Option D
  | .int i, .int j => if CDivN i j then some (.int (i.fdiv j)) else none
  | _, _ => none
theorem o2_div {C : Kt} : Op2 C (rI CDivN fun i j => .int (i.fdiv j)) divD := by
  intro H x y v u f1 f2 m h1 h2 e Q k
  unfold divD at e
  split at e
  · split at e
    · cases e
      obtain ⟨rfl, _⟩ := h1
      obtain ⟨rfl, _⟩ := h2
      exact ⟨_, _, rfl, rfl, by assumption, int_res k⟩
    · cases e
  · cases e
def modD : D → D → Option D
  | .int i, .int j => if j ≠ 0 then some (.int (i.fmod j)) else none
  | _, _ => none
theorem o2_mod {C : Kt} : Op2 C (rI (fun _ j => j ≠ 0) fun i j => .int (i.fmod j)) modD := by
  intro H x y v u f1 f2 m h1 h2 e Q k
  unfold modD at e
  split at e
  · split at e
    · cases e
      obtain ⟨rfl, _⟩ := h1
      obtain ⟨rfl, _⟩ := h2
      exact ⟨_, _, rfl, rfl, by assumption, int_res k⟩
    · cases e
  · cases e
def mulD : D → D → Option D
  | .int i, .int j => if CMul i j then some (.int (i * j)) else none
  | .lst _ ms, .int k => if -(2 ^ 63) ≤ k ∧ k < 2 ^ 63 ∧ ms.length * k.toNat ≤ sizeLine then (if fzs ms then some (.lst true (List.replicate k.toNat ms).flatten) else none) else none
  | .tup ms, .int k => if ms ≠ [] ∧ 2 ≤ k ∧ k ≤ 1000 ∧ ms.length ≤ 1000 then (if fzs ms then some (.tup (List.replicate k.toNat ms).flatten) else none) else none
  | _, _ => none
/-- a list times an int, the list only read -/
def rRepR : R2 := fun x y H Q => ∃ l k xs, x = .ref l ∧ y = .int k ∧ Rd H l (.lst xs) ∧ -(2 ^ 63) ≤ k ∧ k < 2 ^ 63 ∧ xs.length * k.toNat ≤ sizeLine ∧
  ∀ p, H p = none → Q (.ref p) (upd H p (.lst (List.replicate k.toNat xs).flatten))
theorem op_repR {X : Cx} : OpR X (binaryOp .Mult) rRepR := by
  intro pins s σ H x y v u Q I rx ry h
  obtain ⟨l, k, xs, rfl, rfl, hH, h1, h2, hz, q⟩ := h
  cases rx
  obtain ⟨t, rfl⟩ := ry
  obtain ⟨z, its, n, r, e⟩ := Inv.lstR I hH
  have hl := r.length
  have hlen : its.toArray.size * k.toNat ≤ sizeLine := by rw [List.size_toArray, ← hl]; exact hz
  have hcap : ¬ its.toArray.size * k.toNat > (2 ^ 63 - 1) / 8 := by
    have : (sizeLine : Nat) ≤ (2 ^ 63 - 1) / 8 := by decide
    omega
  have hfit : ¬ (!Builtin.List.listFitsIndex k) = true := by
    rw [fitsIndex_both h1 h2]
    exact Bool.false_ne_true
  have hlong : ¬ Builtin.List.listTooLong (its.toArray.size * k.toNat) = true := by
    rw [notLongL hlen]
    exact Bool.false_ne_true
  have hnew : List.foldl (fun x1 x2 => x1 ++ x2) #[] (List.replicate (if its.toArray.isEmpty = true then 0 else k.toNat) its.toArray) = (List.replicate k.toNat its).flatten.toArray := by
    have f0 : ∀ m : Nat, List.foldl (fun x1 x2 => x1 ++ x2) #[] (List.replicate m its.toArray) = (List.replicate m its).flatten.toArray := fun m => by
      have := foldl_rep its m []
      rw [List.nil_append] at this
      exact this
    rw [f0]
    cases its with
    | nil => simp
    | cons a r' => rw [if_neg (by simp)]
  refine wpAny_binaryOp_repeat_ref (T := "list") (U := "int") (by decide) ⟨_, e, rfl⟩ (fun s' => typeIs_int s' k t) noFill_list_mul F.fills_int_mul F.slot_int_rmul repeat_list F.slot_int_index.lookup
    (call_meets F.slot_int_rmul (typeIs_int s k t) F.entry_int_rmul (F.args_int_rmul_2 _ _) (int___rmul___int_list k t l its.toArray n)
      ⟨e, rfl, ⟨_, e, rfl⟩, call_meets F.slot_list_mul ⟨_, e, rfl⟩ F.entry_list_mul (F.args_list_mul_2 _ _) (AutoListH.list___mul___list_int_3 l its.toArray n k t hfit hcap hlong) ⟨e, ?_⟩⟩)
  rw [hnew]
  exact ⟨.ref _, _, I.lnew (t' := s.toks) (r.rep k.toNat) (by rw [PyProof.Rows.lm_len_rep_flat, Nat.mul_comm]; exact hz), rfl, q _ I.fresh⟩
def rMul (K : PySem.W.Frag) : R2 := fun x y H Q => (rI CMul fun i j => .int (i * j)) x y H Q ∨ (rRepR x y H Q ∨ rRepT K x y H Q)
theorem or_mul {X : Cx} : OpR X (binaryOp .Mult) (rMul X.K) := OpR.or op_mul (OpR.or op_repR op_repT)
theorem o2_mul {C : Kt} : Op2 C (rMul C.K) mulD := by
  intro H x y v u f1 f2 m h1 h2 e Q k
  unfold mulD at e
  split at e
  · split at e
    · cases e
      obtain ⟨rfl, _⟩ := h1
      obtain ⟨rfl, _⟩ := h2
      exact .inl ⟨_, _, rfl, rfl, by assumption, int_res k⟩
    · cases e
  · split at e
    · split at e
      · rename_i hl hz
        cases e
        obtain ⟨a, vs, g1, rfl, a1, r1⟩ := h1
        obtain ⟨rfl, _⟩ := h2
        have q1 := r1.fzAll hz
        exact .inr (.inl ⟨a, _, vs, rfl, rfl, a1.rd, hl.1, hl.2.1, by rw [← q1.len]; exact hl.2.2, fun p hp => lst_res (q1.rep _) hp k⟩)
      · cases e
    · cases e
  · split at e
    · split at e
      · rename_i hl hz
        cases e
        obtain ⟨a, vs, rfl, a1, r1⟩ := h1
        obtain ⟨rfl, _⟩ := h2
        have q1 := r1.fzAll hz
        refine .inr (.inr ⟨a, _, vs, rfl, rfl, SqT.of a1, ?_, hl.2.1, hl.2.2.1, by rw [← q1.len]; exact hl.2.2.2, fun p hp => tup_res (q1.rep _) hp k⟩)
        rintro rfl
        have := q1.len
        exact hl.1 (List.length_eq_zero_iff.mp this)
      · cases e
    · cases e
  · cases e
def CPowW (i j : Int) : Prop := 0 ≤ j ∧ ((j ≤ 1000000 ∧ i.natAbs < 2 ^ 64) ∨ (j ≤ 100 ∧ i.natAbs < 2 ^ 1000))
instance (i j : Int) : Decidable (CPowW i j) := by unfold CPowW; infer_instance
theorem op_powW {X : Cx} : OpR X (binaryOp .Pow) (rI CPowW fun i j => .int (i ^ j.toNat)) := opI fun i j _ _ _ _ _ hc q => by
  rcases hc.2 with h | h
  · exact pow_int_small hc.1 h.1 h.2 q
  · refine pow_int hc.1 ?_ q
    have hb : Builtin.Int.intBits i ≤ 1000 := intBits_le h.2
    have h1 : (Builtin.Int.intBits i : Int) * j ≤ 1000 * j := Int.mul_le_mul_of_nonneg_right (by omega) hc.1
    omega
def powD : D → D → Option D
  | .int i, .int j => if CPowW i j then some (.int (i ^ j.toNat)) else none
  | _, _ => none
theorem o2_pow {C : Kt} : Op2 C (rI CPowW fun i j => .int (i ^ j.toNat)) powD := by
  intro H x y v u f1 f2 m h1 h2 e Q k
  unfold powD at e
  split at e
  · split at e
    · cases e
      obtain ⟨rfl, _⟩ := h1
      obtain ⟨rfl, _⟩ := h2
      exact ⟨_, _, rfl, rfl, by assumption, int_res k⟩
    · cases e
  · cases e
def cmpD (f : Int → Int → Bool) : D → D → Option D
  | .int i, .int j => some (.bl (f i j))
  | _, _ => none
theorem o2_cmp {C : Kt} (f : Int → Int → Bool) : Op2 C (rI0 fun i j => .bl (f i j)) (cmpD f) := by
  intro H x y v u f1 f2 m h1 h2 e Q k
  unfold cmpD at e
  split at e
  · cases e
    obtain ⟨rfl, _⟩ := h1
    obtain ⟨rfl, _⟩ := h2
    exact ⟨_, _, rfl, rfl, bl_res k⟩
  · cases e
/-- == of plain data -/
def eqB (x y : D) : Option Bool := match toP x, toP y with
  | some d, some e => if SeqAt.shaped d && SeqAt.shaped e then some (PyData.eqv d e) else none
  | _, _ => none
def eqD (x y : D) : Option D := (eqB x y).map .bl
def neD (x y : D) : Option D := (eqB x y).map fun b => .bl (!b)
theorem eqB_some {x y : D} {b : Bool} (h : eqB x y = some b) : ∃ d e, toP x = some d ∧ toP y = some e ∧ SeqAt.shaped d = true ∧ SeqAt.shaped e = true ∧ PyData.eqv d e = b := by
  unfold eqB at h
  split at h
  · rename_i d e q1 q2
    split at h
    · rename_i hs
      rw [Bool.and_eq_true] at hs
      cases h
      exact ⟨d, e, q1, q2, hs.1, hs.2, rfl⟩
    · cases h
  · cases h
theorem o2_eq {C : Kt} : Op2 C (rEqD C.K) eqD := by
  intro H x y v u f1 f2 m h1 h2 e Q k
  unfold eqD at e
  cases q : eqB x y with
  | none => rw [q] at e; cases e
  | some b =>
    rw [q] at e; cases e
    obtain ⟨d, e, q1, q2, s1, s2, rfl⟩ := eqB_some q
    exact ⟨d, e, h1.dp x q1, h2.dp y q2, s1, s2, bl_res k⟩
theorem o2_ne {C : Kt} : Op2 C (rNeD C.K) neD := by
  intro H x y v u f1 f2 m h1 h2 e Q k
  unfold neD at e
  cases q : eqB x y with
  | none => rw [q] at e; cases e
  | some b =>
    rw [q] at e; cases e
    obtain ⟨d, e, q1, q2, s1, s2, rfl⟩ := eqB_some q
    exact ⟨d, e, h1.dp x q1, h2.dp y q2, s1, s2, bl_res k⟩
def ixD : D → D → Option D
  | .lst _ ms, .int i => (match atI ms i with
    | some m => if fzs ms then some m else none
    | none => none)
  | .tup ms, .int i => (match atI ms i with
    | some m => if fzs ms then some m else none
    | none => none)
  | .klst ms, .int i => (match atI ms i with
    | some m => if fzs ms then some m else none
    | none => none)
  | .str s, .int i => if s.length ≤ sizeLine then (atI s.cps.toList i).map fun c => .str ⟨#[c]⟩ else none
  | _, _ => none
theorem atI_get {C : Kt} {H : Hp} {ms : List D} {vs : List V} {i : Int} {m : D} (h : RPs C H ms vs []) (e : atI ms i = some m) : ∃ v, atI vs i = some v ∧ RP C H m v [] := by
  unfold atI at e ⊢
  rw [← h.len]
  cases q : ixN ms.length i with
  | none => rw [q] at e; cases e
  | some j =>
    rw [q] at e
    exact h.get e
theorem o2_ix {C : Kt} : Op2 C (rIx C.K) ixD := by
  intro H x y v u f1 f2 m h1 h2 e Q k
  unfold ixD at e
  split at e
  · split at e
    · rename_i m' q
      split at e
      · rename_i hz
        cases e
        obtain ⟨a, vs, g1, rfl, a1, r1⟩ := h1
        obtain ⟨rfl, _⟩ := h2
        obtain ⟨w, e1, x1⟩ := atI_get (r1.fzAll hz) q
        exact .inl ⟨a, vs, _, w, rfl, rfl, a1.seqL, e1, fz_res x1 k⟩
      · cases e
    · cases e
  · split at e
    · rename_i m' q
      split at e
      · rename_i hz
        cases e
        obtain ⟨a, vs, rfl, a1, r1⟩ := h1
        obtain ⟨rfl, _⟩ := h2
        obtain ⟨w, e1, x1⟩ := atI_get (r1.fzAll hz) q
        exact .inr (.inl ⟨a, vs, _, w, rfl, rfl, SqT.of a1, e1, fz_res x1 k⟩)
      · cases e
    · cases e
  · split at e
    · rename_i m' q
      split at e
      · rename_i hz
        cases e
        obtain ⟨a, vs, rfl, _, a1, r1⟩ := h1
        obtain ⟨rfl, _⟩ := h2
        obtain ⟨w, e1, x1⟩ := atI_get r1 q
        exact .inl ⟨a, vs, _, w, rfl, rfl, a1.seqL, e1, fz_res x1 k⟩
      · cases e
    · cases e
  · split at e
    · rename_i z i hz
      cases q : atI z.cps.toList i with
      | none => rw [q] at e; cases e
      | some c =>
        rw [q] at e
        cases e
        obtain ⟨rfl, _⟩ := h1
        obtain ⟨rfl, _⟩ := h2
        exact .inr (.inr ⟨_, _, c, rfl, rfl, hz, q, str_res k⟩)
    · cases e
  · cases e
end T
set_option Elab.async false
set_option linter.all false
set_option maxRecDepth 100000
set_option maxHeartbeats 4000000
namespace T
open PySem PySem.Spec PyProof.Rows L2
abbrev RC := List V → Hp → VK → Prop
def CallD (C : Kt) (r : RC) (f : List D → Option D) : Prop := ∀ (H : Hp) (ms : List D) (vs : List V) (fp : List Addr) (m : D), RPs C H ms vs fp → f ms = some m →
  ∀ Q : VK, (∀ w H' fm, Same H H' → RP C H' m w fm → fm.Nodup → (∀ a ∈ fm, H a = none) → Q w H') → r vs H Q
theorem CallD.or {C : Kt} {r r' : RC} {f g : List D → Option D} (h : CallD C r f) (h' : CallD C r' g) : CallD C (fun xs H Q => r xs H Q ∨ r' xs H Q) (fun ms => match f ms with | some m => some m | none => g ms) := by
  intro H ms vs fp m x e Q k
  cases q : f ms with
  | some z =>
    have e2 : some z = some m := by simpa only [q] using e
    exact .inl (h H ms vs fp m x (q.trans e2) Q k)
  | none =>
    have e2 : g ms = some m := by simpa only [q] using e
    exact .inr (h' H ms vs fp m x e2 Q k)
def pC (f : List D → Option D) (p : SAV) : SV := fun env => match p env with
  | some ms => f ms
  | none => none
def lookA : List Av → Env → Option (List D)
  | [], _ => some []
  | .val m :: r, env => match lookA r env with
    | some ms => some (m :: ms)
    | none => none
  | .lend i :: r, env => match pVar i env, lookA r env with
    | some m, some ms => some (m :: ms)
    | _, _ => none
theorem lookA_ok {C : Kt} {H : Hp} {σ : L2.St} {env : Env} {fe : List Addr} (r : ER C H env σ fe) : ∀ (as : List Av) {vs : List V} {fa : List Addr} {ms : List D}, AvR C H σ as vs fa → lookA as env = some ms → ∃ fm, RPs C H ms vs fm
  | [], _, _, _, a, h => by
    obtain ⟨rfl, rfl⟩ := a
    cases h
    exact ⟨[], rfl, rfl⟩
  | .val m :: as, _, _, _, a, h => by
    obtain ⟨v, vr, f1, f2, rfl, rfl, x, a⟩ := a
    unfold lookA at h
    split at h
    · rename_i ms q
      cases h
      obtain ⟨fm, y⟩ := lookA_ok r as a q
      exact ⟨f1 ++ fm, v, vr, f1, fm, rfl, rfl, x, y⟩
    · cases h
  | .lend i :: as, _, _, _, a, h => by
    obtain ⟨v, vr, rfl, hv, a⟩ := a
    unfold lookA at h
    split at h
    · rename_i m ms q1 q2
      cases h
      obtain ⟨v', f1, f2, f3, hv', rfl, x, _⟩ := pVar_get q1 r
      rw [hv] at hv'
      cases hv'
      obtain ⟨fm, y⟩ := lookA_ok r as a q2
      exact ⟨f2 ++ fm, v, vr, f2, fm, rfl, rfl, x, y⟩
    · cases h
def sC (f : List D → Option D) (a : SA) : SE := fun env => match a env with
  | some (.ok as, env1) => match lookA as env1 with
    | some ms => sOpt (f ms) env1
    | none => none
  | some (.ex c m, env1) => some (.ex c m, env1)
  | none => none
section
variable {C : Kt} {W : WXT} {σ : L2.St} {H : Hp} {Q : VK} {r : RC} {f : List D → Option D}
theorem cb_v (h : CallD C r f) {p : SAV} (x : tU C (pC f p) σ H Q) : tCB r (tAV C p) σ H Q := by
  obtain ⟨env, fp, m, e, hm, k⟩ := x
  unfold pC at hm
  split at hm
  · rename_i ms e1
    refine ⟨env, fp, ms, e, e1, fun vs H1 f1 s1 x1 => ?_⟩
    exact h H1 ms vs f1 m x1 hm Q fun w H3 fm s3 x3 n3 fr => k w H3 fm (s1.trans s3) x3 n3 fun a ha => s1.free (fr a ha)
  · cases hm
/-- a value that is new or frozen, behind an evaluation -/
theorem post_new {fp : List Addr} {m : D} {env1 : Env} {H1 H2 : Hp} {fa fe : List Addr} (k : PostE C W σ H fp Q (some (.ok m, env1))) (r1 : ER C H1 env1 σ fe) (nd : (fa ++ fe).Nodup) (mv : Mv H H1 fp (fa ++ fe))
    {w : V} {fm : List Addr} (s : Same H1 H2) (x : RP C H2 m w fm) (n : fm.Nodup) (fr : ∀ a ∈ fm, H1 a = none) : Q w H2 := by
  have n0 : Now C σ H fp H1 [] [] env1 := ⟨[], fe, ⟨rfl, rfl⟩, r1, (List.nodup_append.mp nd).2.1, mv.less fun b hb => List.mem_append_right _ hb⟩
  exact n0.done k s x n fr
theorem cb_e (h : CallD C r f) {a : SA} (x : tE C W (sC f a) σ H Q) : tCB r (tA C W a) σ H Q := by
  obtain ⟨env, fp, e, nd, k⟩ := x
  refine ⟨env, fp, e, nd, ?_⟩
  unfold sC at k
  cases q : a env with
  | none => rw [q] at k; exact k.elim
  | some z =>
    obtain ⟨z, env1⟩ := z
    rw [q] at k
    cases z with
    | ex c m => exact k
    | ok as =>
      intro vs H1 fa fe x1 r1 n1 m1
      dsimp only at k
      split at k
      · rename_i ms q2
        obtain ⟨m, hm, k⟩ := sOpt_some k
        obtain ⟨fm, y⟩ := lookA_ok r1 as x1 q2
        exact h H1 ms vs fm m y hm Q fun w H3 fm s3 x3 n3 fr => post_new k r1 n1 m1 s3 x3 n3 fr
      · exact k.elim
end
def pTup (p : SAV) : SV := fun env => match p env with
  | some ms => if ms.length ≤ 1000 then some (.tup ms) else none
  | none => none
def pLst (p : SAV) : SV := fun env => match p env with
  | some ms => if ms.length ≤ 1000 then some (.lst true ms) else none
  | none => none
def valsA : List Av → Option (List D)
  | [] => some []
  | .val m :: r => match valsA r with
    | some ms => some (m :: ms)
    | none => none
  | .lend _ :: _ => none
theorem valsA_ok {C : Kt} {H : Hp} {σ : L2.St} : ∀ (as : List Av) {vs : List V} {fa : List Addr} {ms : List D}, AvR C H σ as vs fa → valsA as = some ms → RPs C H ms vs fa
  | [], _, _, _, a, h => by
    cases h; exact a
  | .val m :: as, _, _, _, a, h => by
    obtain ⟨v, vr, f1, f2, rfl, rfl, x, a⟩ := a
    unfold valsA at h
    split at h
    · rename_i ms q
      cases h
      exact ⟨v, vr, f1, f2, rfl, rfl, x, valsA_ok as a q⟩
    · cases h
  | .lend i :: as, _, _, _, a, h => by cases h
def sDisp (f : List D → D) (a : SA) : SE := fun env => match a env with
  | some (.ok as, env1) => match valsA as with
    | some ms => if ms.length ≤ 1000 then some (.ok (f ms), env1) else none
    | none => none
  | some (.ex c m, env1) => some (.ex c m, env1)
  | none => none
theorem le_line {n : Nat} (h : n ≤ 1000) : n ≤ sizeLine := Nat.le_trans h (by decide)
theorem ne_memb {H : Hp} {p : Addr} {fm : List Addr} (hp : H p = none) (ow : Owned H fm) : p ∉ fm := fun h => by
  obtain ⟨o, e, _⟩ := ow p h
  rw [hp] at e; cases e
section
variable {C : Kt} {W : WXT} {σ : L2.St} {H : Hp} {Q : VK}
theorem tup_u {p : SAV} (x : tU C (pTup p) σ H Q) : tTup (tAU C p) σ H Q := by
  obtain ⟨env, fp, m, e, hm, k⟩ := x
  unfold pTup at hm
  split at hm
  · rename_i ms q
    split at hm
    · rename_i hl
      cases hm
      refine ⟨env, fp, ms, e, q, fun vs H1 fm s1 x1 n1 fr => ⟨by rw [← x1.len]; exact le_line hl, fun p hp => ?_⟩⟩
      obtain ⟨s, y⟩ := new_tup x1 hp
      exact k _ _ fm (s1.trans s) y n1 fr
    · cases hm
  · cases hm
theorem lst_u {p : SAV} (x : tU C (pLst p) σ H Q) : tLst (tAU C p) σ H Q := by
  obtain ⟨env, fp, m, e, hm, k⟩ := x
  unfold pLst at hm
  split at hm
  · rename_i ms q
    split at hm
    · rename_i hl
      cases hm
      refine ⟨env, fp, ms, e, q, fun vs H1 fm s1 x1 n1 fr => ⟨by rw [← x1.len]; exact le_line hl, fun p hp => ?_⟩⟩
      have s : Same H1 (upd H1 p (.lst vs)) := fun b o e => by rw [upd_ne (ne_of_none e hp)]; exact e
      refine k _ _ (p :: fm) (s1.trans s) ⟨p, vs, fm, rfl, ⟨upd_same, rfl⟩, x1.st ms (Same.st1 s _)⟩ (List.nodup_cons.mpr ⟨ne_memb hp (x1.owned ms), n1⟩) fun a ha => ?_
      rcases List.mem_cons.mp ha with rfl | ha
      · exact s1.free hp
      · exact fr a ha
    · cases hm
  · cases hm
end
def truD : D → Option Bool
  | .non => some false
  | .bl b => some b
  | .int i => some (i != 0)
  | .str s => if s.length ≤ sizeLine then some ((s.length : Int) != 0) else none
  | .tup ms => some (!ms.isEmpty)
  | .lst _ ms => some (!ms.isEmpty)
  | _ => none
theorem emp_len {α β : Type} {xs : List α} {ys : List β} (h : xs.length = ys.length) : (!xs.isEmpty) = !ys.isEmpty := by
  cases xs <;> cases ys <;> simp_all
theorem truD_ok {C : Kt} {H : Hp} {m : D} {v : V} {f : List Addr} {b : Bool} (x : RP C H m v f) (h : truD m = some b) : TruV C.K v H b := by
  unfold truD at h
  split at h
  · cases h; obtain ⟨rfl, _⟩ := x; exact rfl
  · cases h; obtain ⟨rfl, _⟩ := x; exact rfl
  · cases h; obtain ⟨rfl, _⟩ := x; exact rfl
  · split at h
    · rename_i hz
      cases h; obtain ⟨rfl, _⟩ := x; exact ⟨hz, rfl⟩
    · cases h
  · cases h
    obtain ⟨a, vs, rfl, a1, r1⟩ := x
    refine .inr (.inl ⟨vs, SqT.of a1, ?_⟩)
    exact emp_len r1.len
  · cases h
    obtain ⟨a, vs, g, rfl, a1, r1⟩ := x
    refine .inl ⟨vs, a1.seqL, ?_⟩
    exact emp_len r1.len
  · cases h
def qT (p : SV) : STu := fun env => match p env with
  | some m => truD m
  | none => none
def qTE (s : SE) : STe := fun env => match s env with
  | some (.ok m, env1) => (truD m).map fun b => (.ok b, env1)
  | some (.ex c m, env1) => some (.ex c m, env1)
  | none => none
def qU (p : STu) : STe := fun env => (p env).map fun b => (.ok b, env)
def qNot (p : STu) : STu := fun env => (p env).map (!·)
def qAnd (p q : STu) : STu := fun env => match p env with
  | some true => q env
  | some false => some false
  | none => none
def qOr (p q : STu) : STu := fun env => match p env with
  | some true => some true
  | some false => q env
  | none => none
def eNot (t : STe) : STe := fun env => match t env with
  | some (.ok b, env1) => some (.ok (!b), env1)
  | some (.ex c m, env1) => some (.ex c m, env1)
  | none => none
def eAnd (t u : STe) : STe := fun env => match t env with
  | some (.ok true, env1) => u env1
  | some (.ok false, env1) => some (.ok false, env1)
  | some (.ex c m, env1) => some (.ex c m, env1)
  | none => none
def eOr (t u : STe) : STe := fun env => match t env with
  | some (.ok true, env1) => some (.ok true, env1)
  | some (.ok false, env1) => u env1
  | some (.ex c m, env1) => some (.ex c m, env1)
  | none => none
def pIf (t : STu) (a b : SV) : SV := fun env => match t env with
  | some true => a env
  | some false => b env
  | none => none
def sIfE (t : STe) (a b : SE) : SE := fun env => match t env with
  | some (.ok true, env1) => a env1
  | some (.ok false, env1) => b env1
  | some (.ex c m, env1) => some (.ex c m, env1)
  | none => none
section
variable {C : Kt} {W : WXT} {σ : L2.St} {H : Hp} {Q : Bool → Hp → Prop}
theorem tru_v {p : SV} (x : tTU C (qT p) σ H Q) : tV C p σ H fun v H' => ∃ k, TruV C.K v H' k ∧ Q k H' := by
  obtain ⟨env, fp, b, r, h, k⟩ := x
  unfold qT at h
  split at h
  · rename_i m q
    exact ⟨env, fp, m, r, q, fun v H' fm s x => ⟨b, truD_ok x h, k H' s⟩⟩
  · cases h
theorem tru_e {s : SE} (x : tTE C W (qTE s) σ H Q) : tE C W s σ H fun v H' => ∃ k, TruV C.K v H' k ∧ Q k H' := by
  obtain ⟨env, fp, r, nd, k⟩ := x
  refine ⟨env, fp, r, nd, ?_⟩
  unfold qTE at k
  cases q : s env with
  | none => rw [q] at k; exact k.elim
  | some z =>
    obtain ⟨z, env1⟩ := z
    rw [q] at k
    cases z with
    | ex c m => exact k
    | ok m =>
      dsimp only at k
      cases q2 : truD m with
      | none => rw [q2] at k; exact k.elim
      | some b =>
        rw [q2] at k
        exact fun v H' fm fe x r n mv => ⟨b, truD_ok x q2, k H' fe r (List.nodup_append.mp n).2.1 (mv.less fun b hb => List.mem_append_right _ hb)⟩
theorem qU_i {t : STu} (x : tTE C W (qU t) σ H Q) : tTU C t σ H Q := by
  obtain ⟨env, fp, r, nd, k⟩ := x
  unfold qU at k
  cases q : t env with
  | none => rw [q] at k; exact k.elim
  | some b =>
    rw [q] at k
    exact ⟨env, fp, b, r, q, fun H' s => k H' fp (r.st env (Same.st1 s _)) nd ((Mv.same (fm := []) s noneIn).less fun b hb => hb)⟩
theorem not_u {t : STu} (x : tTU C (qNot t) σ H Q) : tNot (tTU C t) σ H Q := by
  obtain ⟨env, fp, b, r, h, k⟩ := x
  unfold qNot at h
  cases q : t env with
  | none => rw [q] at h; cases h
  | some c =>
    rw [q] at h
    cases h
    exact ⟨env, fp, c, r, q, k⟩
theorem or_u {t u : STu} (x : tTU C (qOr t u) σ H Q) : tOr (tTU C t) (tTU C u) σ H Q := by
  obtain ⟨env, fp, b, r, h, k⟩ := x
  unfold qOr at h
  split at h
  · rename_i q
    cases h
    refine ⟨env, fp, true, r, q, fun H' s => ?_⟩
    refine iteT ?_
    exact k H' s
  · rename_i q
    refine ⟨env, fp, false, r, q, fun H' s => ?_⟩
    refine iteF ?_
    exact ⟨env, fp, b, r.st env (Same.st1 s _), h, fun H2 s2 => k H2 (s.trans s2)⟩
  · cases h
theorem PostT.shift {H1 : Hp} {fp fe : List Addr} {r : Option (Rs Bool × Env)} (h : PostT C W σ H fp Q r) (mv : Mv H H1 fp fe) : PostT C W σ H1 fe Q r := by
  cases r with
  | none => exact h
  | some z =>
    obtain ⟨z, env'⟩ := z
    cases z with
    | ok b => exact fun H' f r n m => h H' f r n (mv.trans m)
    | ex c m => exact fun cls d H' f g x r n m => h cls d H' f g x r n (mv.trans m)
theorem or_e {t u : STe} (x : tTE C W (eOr t u) σ H Q) : tOr (tTE C W t) (tTE C W u) σ H Q := by
  obtain ⟨env, fp, r, nd, k⟩ := x
  refine ⟨env, fp, r, nd, ?_⟩
  unfold eOr at k
  cases q : t env with
  | none => rw [q] at k; exact k.elim
  | some z =>
    obtain ⟨z, env1⟩ := z
    rw [q] at k
    cases z with
    | ex c m => exact k
    | ok b =>
      intro H2 f2 r2 n2 m2
      cases b with
      | true => exact iteT (k H2 f2 r2 n2 m2)
      | false => exact iteF ⟨env1, f2, r2, n2, k.shift m2⟩
end
section
variable {C : Kt} {W : WXT} {σ : L2.St} {H : Hp} {Q : VK}
theorem PostE.shift {H1 : Hp} {fp fe : List Addr} {r : Option (Rs D × Env)} (h : PostE C W σ H fp Q r) (mv : Mv H H1 fp fe) : PostE C W σ H1 fe Q r := by
  cases r with
  | none => exact h
  | some z =>
    obtain ⟨z, env'⟩ := z
    cases z with
    | ok b => exact fun v H' f g x r n m => h v H' f g x r n (mv.trans m)
    | ex c m => exact fun cls d H' f g x r n m => h cls d H' f g x r n (mv.trans m)
theorem ifE_u {t : STu} {a b : SV} (x : tU C (pIf t a b) σ H Q) : tIf (tTU C t) (tU C a) (tU C b) σ H Q := by
  obtain ⟨env, fp, m, r, h, k⟩ := x
  unfold pIf at h
  split at h
  · rename_i q
    refine ⟨env, fp, true, r, q, fun H' s => ?_⟩
    refine iteT ?_
    exact ⟨env, fp, m, r.st env (Same.st1 s _), h, fun v H2 fm s2 x n fr => k v H2 fm (s.trans s2) x n fun a ha => s.free (fr a ha)⟩
  · rename_i q
    refine ⟨env, fp, false, r, q, fun H' s => ?_⟩
    refine iteF ?_
    exact ⟨env, fp, m, r.st env (Same.st1 s _), h, fun v H2 fm s2 x n fr => k v H2 fm (s.trans s2) x n fun a ha => s.free (fr a ha)⟩
  · cases h
theorem ifE_e {t : STe} {a b : SE} (x : tE C W (sIfE t a b) σ H Q) : tIf (tTE C W t) (tE C W a) (tE C W b) σ H Q := by
  obtain ⟨env, fp, r, nd, k⟩ := x
  refine ⟨env, fp, r, nd, ?_⟩
  unfold sIfE at k
  cases q : t env with
  | none => rw [q] at k; exact k.elim
  | some z =>
    obtain ⟨z, env1⟩ := z
    rw [q] at k
    cases z with
    | ex c m => exact k
    | ok b =>
      intro H2 f2 r2 n2 m2
      cases b with
      | true => exact iteT ⟨env1, f2, r2, n2, k.shift m2⟩
      | false => exact iteF ⟨env1, f2, r2, n2, k.shift m2⟩
end
end T
set_option Elab.async false
set_option linter.all false
set_option maxRecDepth 100000
set_option maxHeartbeats 4000000
namespace T
open PySem PySem.Spec PyProof.Rows L2
abbrev Bd := D → Env → Option Env
def tG (C : Kt) (kp : Nat → Bool) (b : Bd) : TG := fun v σ H Q => ∃ env fp m fm env', RP C H m v fm ∧ ER C H env σ fp ∧ (fm ++ fp).Nodup ∧ b m env = some env' ∧
  ∀ σ' fe, ER C H env' σ' fe → fe.Nodup → (∀ a ∈ fe, a ∈ fm ++ fp) → Kp kp σ σ' → Q σ' H
def bName (i : Nat) : Bd := fun m env => if i < env.length then some (env.set i (some m)) else none
abbrev Bds := List D → Env → Option Env
def tGs (C : Kt) (kp : Nat → Bool) (b : Bds) : TGs := fun vs σ H Q => ∃ env fp ms fm env', RPs C H ms vs fm ∧ ER C H env σ fp ∧ (fm ++ fp).Nodup ∧ b ms env = some env' ∧
  ∀ σ' fe, ER C H env' σ' fe → fe.Nodup → (∀ a ∈ fe, a ∈ fm ++ fp) → Kp kp σ σ' → Q σ' H
def bNil : Bds := fun ms env => match ms with
  | [] => some env
  | _ => none
def bCons (b : Bd) (r : Bds) : Bds := fun ms env => match ms with
  | m :: ms => match b m env with
    | some env1 => r ms env1
    | none => none
  | [] => none
def bTup (n : Nat) (b : Bds) : Bd := fun m env => match m with
  | .tup ms => if ms.length = n then b ms env else none
  | _ => none
section
variable {C : Kt} {kp : Nat → Bool} {σ : L2.St} {H : Hp} {Q : L2.St → Hp → Prop} {v : V} {vs : List V}
theorem bName_i {i : Nat} (hk : kp i = false) (x : tG C kp (bName i) v σ H Q) : gName i v σ H Q := by
  obtain ⟨env, fp, m, fm, env', y, r, nd, h, k⟩ := x
  unfold bName at h
  split at h
  · rename_i hi
    cases h
    obtain ⟨f3, r3, n3, s3⟩ := r.put hi y nd
    exact k _ f3 r3 n3 s3 (Kp.set hk)
  · cases h
theorem bNil_i (x : tGs C kp bNil vs σ H Q) : gNil vs σ H Q := by
  obtain ⟨env, fp, ms, fm, env', y, r, nd, h, k⟩ := x
  cases ms with
  | cons m ms => cases h
  | nil =>
    cases h
    obtain ⟨rfl, rfl⟩ := y
    exact ⟨rfl, k σ fp r nd (fun a h => h) (Kp.refl kp σ)⟩
theorem bCons_i {b : Bd} {r : Bds} (x : tGs C kp (bCons b r) vs σ H Q) : gCons (tG C kp b) (tGs C kp r) vs σ H Q := by
  obtain ⟨env, fp, ms, fm, env', y, e, nd, h, k⟩ := x
  cases ms with
  | nil => cases h
  | cons m ms =>
    unfold bCons at h
    dsimp only at h
    split at h
    · rename_i env1 q
      obtain ⟨v, vr, f1, f2, rfl, rfl, y1, y2⟩ := y
      have n2 : (f2 ++ (f1 ++ fp)).Nodup := by
        simp only [List.nodup_append, List.mem_append] at nd ⊢
        grind
      refine ⟨v, vr, rfl, env, fp, m, f1, env1, y1, e, (List.nodup_append.mp n2).2.1, q, fun σ1 fe r1 n1 s1 k1 => ?_⟩
      refine ⟨env1, fe, ms, f2, env', y2, r1, ?_, h, fun σ2 f3 r2 n3 s2 k2 => ?_⟩
      · simp only [List.nodup_append, List.mem_append] at n2 s1 ⊢
        grind
      · refine k σ2 f3 r2 n3 (fun a ha => ?_) (k1.trans k2)
        have := s2 a ha
        simp only [List.mem_append] at this s1 ⊢
        grind
    · cases h
theorem bTup_i {n : Nat} {b : Bds} (x : tG C kp (bTup n b) v σ H Q) : gTup C.K n (tGs C kp b) v σ H Q := by
  obtain ⟨env, fp, m, fm, env', y, r, nd, h, k⟩ := x
  unfold bTup at h
  split at h
  · split at h
    · rename_i ms hl
      obtain ⟨a, vs, rfl, a1, r1⟩ := y
      exact ⟨a, vs, rfl, SqT.of a1, by rw [← r1.len]; exact hl, env, fp, ms, fm, env', r1, r, nd, h, k⟩
    · cases h
  · cases h
end
/-- .. of frozen values, where it does not matter what is owned -/
def tGU (C : Kt) (kp : Nat → Bool) (b : Bd) : TG := fun v σ H Q => ∃ env fp m env', RP C H m v [] ∧ ER C H env σ fp ∧ b m env = some env' ∧ ∀ σ' fe, ER C H env' σ' fe → (∀ a ∈ fe, a ∈ fp) → Kp kp σ σ' → Q σ' H
section
variable {C : Kt} {kp : Nat → Bool} {σ : L2.St} {H : Hp} {Q : L2.St → Hp → Prop} {v : V} {vs : List V}
theorem bName_u {i : Nat} (hk : kp i = false) (x : tGU C kp (bName i) v σ H Q) : gName i v σ H Q := by
  obtain ⟨env, fp, m, env', y, r, h, k⟩ := x
  unfold bName at h
  split at h
  · rename_i hi
    cases h
    obtain ⟨w, g1, g2, g3, e2, rfl, _, kk⟩ := r.focus env (List.getElem?_eq_getElem hi)
    exact k _ _ (kk H (some m) (some v) [] (fun _ _ e _ => e) ⟨v, rfl, y⟩) (fun a ha => by simp only [List.mem_append, List.nil_append] at ha ⊢; grind) (Kp.set hk)
  · cases h
end
/-- target = value -/
def sAsg (b : Bd) (s : SE) : SS := fun env => match s env with
  | some (.ok m, env1) => (b m env1).map fun e => (.nx, e)
  | some (.ex c m, env1) => some (.ex c m, env1)
  | none => none
def ItsOk (C : Kt) (J : It) (H : Hp) (ms : List D) (ft : List Addr) : Prop := ∀ i H', St1 H H' ft →
  (ms.length ≤ i → J.stop i H') ∧ (∀ m, ms[i]? = some m → J.go i H' ∧ ∀ x H'', J.yld i H' x H'' → Same H' H'' ∧ RP C H'' m x [])
abbrev SI := Env → Option (Rs (List D) × Env)
def PostI (C : Kt) (W : WXT) (σ : L2.St) (H : Hp) (fp : List Addr) (R : It → Hp → Prop) : Option (Rs (List D) × Env) → Prop
  | none => False
  | some (.ok ms, env') => ∀ J H' ft fe, ItsOk C J H' ms ft → Owned H' ft → ER C H' env' σ fe → (ft ++ fe).Nodup → Mv H H' fp (ft ++ fe) → R J H'
  | some (.ex c m, env') => ∀ cls d H' fm fe, ExRep C H' c m cls d fm → ER C H' env' σ fe → (fm ++ fe).Nodup → Mv H H' fp (fm ++ fe) → W cls d σ H'
def tI (C : Kt) (W : WXT) (s : SI) : TI := fun σ H R => ∃ env fp, ER C H env σ fp ∧ fp.Nodup ∧ PostI C W σ H fp R (s env)
def tIU (C : Kt) (p : SAV) : TI := fun σ H R => ∃ env fp ms, ER C H env σ fp ∧ p env = some ms ∧ ∀ J H' ft, ItsOk C J H' ms ft → Owned H' ft → ft.Nodup → (∀ a ∈ ft, H a = none) → Same H H' → R J H'
/-- .. where nothing that is there changes meanwhile: what is walked may be a part of what a slot holds -/
def tIV (C : Kt) (p : SAV) : TI := fun σ H R => ∃ env fp ms, ER C H env σ fp ∧ p env = some ms ∧ ∀ J H' ft, ItsOk C J H' ms ft → Same H H' → R J H'
theorem iV_of {C : Kt} {p : SAV} {σ : L2.St} {H : Hp} {R : It → Hp → Prop} (x : tIV C p σ H R) : tIU C p σ H R := by
  obtain ⟨env, fp, ms, r, h, k⟩ := x
  exact ⟨env, fp, ms, r, h, fun J H' ft its _ _ _ s => k J H' ft its s⟩
/-- a list | tuple, whichever -/
def iSeq (K : PySem.W.Frag) (tl : TE) : TI := fun σ H R => tl σ H fun x H1 => (∃ a, x = .ref a ∧ (∃ xs, SqL K H1 a xs) ∧ R (Itl K a) H1) ∨ (∃ a, x = .ref a ∧ (∃ xs, SqT K H1 a xs) ∧ R (Itt K a) H1)
theorem pi_seq {X : Cx} {tg l : Expr} {tl : TE} (hl : PE X l tl) : PI X tg l (iSeq X.K tl) := by
  refine ⟨fun pins s σ H R I h => ?_⟩
  refine thn (hl.run pins s σ H _ I h) fun v s1 ⟨x, H1, I1, r1, q1⟩ => ?_
  rcases q1 with ⟨a, e, ⟨xs, hq⟩, q⟩ | ⟨a, e, ⟨xs, hq⟩, q⟩
  · subst e
    cases r1
    obtain ⟨its, rv, p, hz⟩ := I1.list hq
    refine wpAny_pyIter_list p.isList ?_
    refine ⟨s1.heap.objs.size, [s1.heap.objs.size], _, _, H1, rfl, I1.kept (t' := s1.toks) fun b o e => Heap.get?_push_of_some _ e, turn_list a _, ⟨_, Heap.get?_push_size _ rfl, rfl, rfl⟩, fun b hb => ?_, q⟩
    have e : b = s1.heap.objs.size := by simpa using hb
    subst e
    exact I1.fpOk (Nat.le_refl _) (I1.hok.fresh (Nat.le_refl _))
  · subst e
    cases r1
    obtain ⟨its, rv, p, hz⟩ := I1.tuple hq
    refine wpAny_pyIter_tuple (show s1.heap.IsTuple a its.toArray from p) ?_
    refine ⟨s1.heap.objs.size, [s1.heap.objs.size], _, _, H1, rfl, I1.kept (t' := s1.toks) fun b o e => Heap.get?_push_of_some _ e, turn_tuple a _, ⟨_, Heap.get?_push_size _ rfl, rfl, rfl⟩, fun b hb => ?_, q⟩
    have e : b = s1.heap.objs.size := by simpa using hb
    subst e
    exact I1.fpOk (Nat.le_refl _) (I1.hok.fresh (Nat.le_refl _))
def seqD : D → Option (List D)
  | .lst _ ms => if fzs ms then some ms else none
  | .tup ms => if fzs ms then some ms else none
  | _ => none
theorem its_list {C : Kt} {H : Hp} {o : Bool} {a : Addr} {vs : List V} {fp fp' : List Addr} {ms : List D} (h : At o H a (.lst vs) fp fp') (r : RPs C H ms vs []) : ItsOk C (Itl C.K a) H ms fp := fun i H' s => by
  have q := (h.st s).1.seqL (K := C.K)
  refine ⟨fun hi => ⟨vs, q, by rw [← r.len]; exact hi⟩, fun m hm => ?_⟩
  obtain ⟨v, e, x⟩ := r.get hm
  refine ⟨⟨vs, v, q, e⟩, fun x' H'' y => ?_⟩
  obtain ⟨rfl, y⟩ := y
  have := y vs q
  rw [e] at this; cases this
  exact ⟨Same.refl _, x.st m fun a o e z => s a o e (z.elim (fun z => nomatch z) .inr)⟩
theorem its_tup {C : Kt} {H : Hp} {a : Addr} {vs : List V} {fp : List Addr} {ms : List D} (h : SqT C.K H a vs) (r : RPs C H ms vs []) : ItsOk C (Itt C.K a) H ms fp := fun i H' s => by
  have q := seqT_st h s
  refine ⟨fun hi => ⟨vs, q, by rw [← r.len]; exact hi⟩, fun m hm => ?_⟩
  obtain ⟨v, e, x⟩ := r.get hm
  refine ⟨⟨vs, v, q, e⟩, fun x' H'' y => ?_⟩
  obtain ⟨rfl, y⟩ := y
  have := y vs q
  rw [e] at this; cases this
  exact ⟨Same.refl _, x.st m fun a o e z => s a o e (z.elim (fun z => nomatch z) .inr)⟩
def iE (s : SE) : SI := fun env => match s env with
  | some (.ok m, env1) => (seqD m).map fun ms => (.ok ms, env1)
  | some (.ex c m, env1) => some (.ex c m, env1)
  | none => none
def iP (p : SV) : SAV := fun env => match p env with
  | some m => seqD m
  | none => none
theorem seq_its {C : Kt} {H : Hp} {m : D} {ms : List D} {v : V} {fm : List Addr} (x : RP C H m v fm) (h : seqD m = some ms) :
    (∃ a, v = .ref a ∧ (∃ xs, SqL C.K H a xs) ∧ ItsOk C (Itl C.K a) H ms fm) ∨ (∃ a, v = .ref a ∧ (∃ xs, SqT C.K H a xs) ∧ ItsOk C (Itt C.K a) H ms fm) := by
  unfold seqD at h
  split at h
  · split at h
    · rename_i hz
      cases h
      obtain ⟨a, vs, g, rfl, a1, r1⟩ := x
      exact .inl ⟨a, rfl, ⟨vs, a1.seqL⟩, its_list a1 (r1.fzAll hz)⟩
    · cases h
  · split at h
    · rename_i hz
      cases h
      obtain ⟨a, vs, rfl, a1, r1⟩ := x
      exact .inr ⟨a, rfl, ⟨vs, SqT.of a1⟩, its_tup (SqT.of a1) (r1.fzAll hz)⟩
    · cases h
  · cases h
section
variable {C : Kt} {W : WXT} {σ : L2.St} {H : Hp} {R : It → Hp → Prop}
theorem iP_u {p : SV} (x : tIU C (iP p) σ H R) : iSeq C.K (tU C p) σ H R := by
  obtain ⟨env, fp, ms, r, h, k⟩ := x
  unfold iP at h
  split at h
  · rename_i m q
    refine ⟨env, fp, m, r, q, fun v H1 fm s x n fr => ?_⟩
    rcases seq_its x h with ⟨a, rfl, hq, its⟩ | ⟨a, rfl, hq, its⟩
    · exact .inl ⟨a, rfl, hq, k _ H1 fm its (x.owned m) n fr s⟩
    · exact .inr ⟨a, rfl, hq, k _ H1 fm its (x.owned m) n fr s⟩
  · cases h
def iU (p : SAV) : SI := fun env => (p env).map fun ms => (.ok ms, env)
theorem iU_i {p : SAV} (x : tI C W (iU p) σ H R) : tIU C p σ H R := by
  obtain ⟨env, fp, r, nd, h⟩ := x
  unfold iU at h
  cases q : p env with
  | none => rw [q] at h; exact h.elim
  | some ms =>
    rw [q] at h
    refine ⟨env, fp, ms, r, q, fun J H' ft its ow n fr s => h J H' ft fp its ow (r.st env (Same.st1 s _)) ?_ (Mv.same s fr)⟩
    have o2 := r.owned env
    refine List.nodup_append.mpr ⟨n, nd, fun a ha b hb => ?_⟩
    rintro rfl
    obtain ⟨o, e, _⟩ := o2 a hb
    rw [fr a ha] at e; cases e
end
/-- range(n), range(a, b) -/
def rng1D : List D → Option (List D)
  | [.int n] => if n < 2 ^ 62 ∧ -(2 ^ 62) ≤ n then some ((List.range n.toNat).map fun i => .int (i : Nat)) else none
  | _ => none
theorem its_rng {C : Kt} {H : Hp} {lo : Int} {n : Nat} {ft : List Addr} : ItsOk C (Itr lo n) H ((List.range n).map fun i => .int (lo + (i : Nat))) ft := fun i H' s => by
  refine ⟨fun hi => (by simpa using hi : n ≤ i), fun m hm => ?_⟩
  have hi : i < n := by
    have := (List.getElem?_eq_some_iff.mp hm).1
    simpa using this
  refine ⟨hi, fun x H'' y => ?_⟩
  obtain ⟨rfl, rfl⟩ := y
  rw [List.getElem?_map, List.getElem?_range hi] at hm
  cases hm
  exact ⟨Same.refl _, rfl, rfl⟩
def iRg (f : List D → Option (List D)) (a : SA) : SI := fun env => match a env with
  | some (.ok as, env1) => match lookA as env1 with
    | some ms => (f ms).map fun ms => (.ok ms, env1)
    | none => none
  | some (.ex c m, env1) => some (.ex c m, env1)
  | none => none
def iRgU (f : List D → Option (List D)) (p : SAV) : SAV := fun env => match p env with
  | some ms => f ms
  | none => none
theorem rng1_its {C : Kt} {H : Hp} {ms is : List D} {vs : List V} {fm ft : List Addr} (x : RPs C H ms vs fm) (h : rng1D ms = some is) :
    ∃ j : Int, vs = [V.int j] ∧ -(2 ^ 62) ≤ j ∧ j < 2 ^ 62 ∧ ItsOk C (Itr 0 j.toNat) H is ft := by
  unfold rng1D at h
  split at h
  · split at h
    · rename_i n hn
      cases h
      obtain ⟨v, vr, f1, f2, rfl, rfl, ⟨rfl, _⟩, rfl, _⟩ := x
      refine ⟨n, rfl, hn.2, hn.1, ?_⟩
      have := its_rng (C := C) (H := H) (lo := 0) (n := n.toNat) (ft := ft)
      simpa using this
    · cases h
  · cases h
theorem pi_imp {X : Cx} {tg e : Expr} {t t' : TI} (h : PI X tg e t) (f : ∀ σ H R, t' σ H R → t σ H R) : PI X tg e t' := ⟨fun pins s σ H R I q => h.run pins s σ H R I (f σ H R q)⟩
/-- an iterator made of arguments by values -/
def ItC (C : Kt) (w : List V → Hp → (It → Hp → Prop) → Prop) (f : List D → Option (List D)) : Prop := ∀ (H : Hp) (ms is : List D) (vs : List V) (fm : List Addr) (R : It → Hp → Prop), RPs C H ms vs fm → f ms = some is →
  (∀ J, ItsOk C J H is [] → R J H) → w vs H R
def iC (w : List V → Hp → (It → Hp → Prop) → Prop) (ta : TA) : TI := fun σ H R => ta σ H fun vs H1 => w vs H1 R
def wRng1 : List V → Hp → (It → Hp → Prop) → Prop := fun vs H1 R => ∃ j : Int, vs = [V.int j] ∧ -(2 ^ 62) ≤ j ∧ j < 2 ^ 62 ∧ R (Itr 0 j.toNat) H1
theorem ic_rng1 {C : Kt} : ItC C wRng1 rng1D := fun H ms is vs fm R x h k => by
  obtain ⟨j, e, h1, h2, its⟩ := rng1_its (ft := []) x h
  exact ⟨j, e, h1, h2, k _ its⟩
section
variable {C : Kt} {W : WXT} {σ : L2.St} {H : Hp} {R : It → Hp → Prop} {w : List V → Hp → (It → Hp → Prop) → Prop} {f : List D → Option (List D)}
theorem rg_i (hf : ItC C w f) {a : SA} (x : tI C W (iRg f a) σ H R) : iC w (tA C W a) σ H R := by
  obtain ⟨env, fp, r, nd, h⟩ := x
  refine ⟨env, fp, r, nd, ?_⟩
  unfold iRg at h
  cases q : a env with
  | none => rw [q] at h; exact h.elim
  | some z =>
    obtain ⟨z, env1⟩ := z
    rw [q] at h
    cases z with
    | ex c m => exact h
    | ok as =>
      intro vs H1 fa fe x1 r1 n1 m1
      dsimp only at h
      split at h
      · rename_i ms q2
        obtain ⟨fm, y⟩ := lookA_ok r1 as x1 q2
        cases q3 : f ms with
        | none => rw [q3] at h; exact h.elim
        | some is =>
          rw [q3] at h
          have n2 := (List.nodup_append.mp n1).2.1
          have m2 : Mv H H1 fp ([] ++ fe) := m1.less fun b hb => List.mem_append_right _ hb
          exact hf H1 ms is vs fm R y q3 fun J its => h J H1 [] fe its Owned.nil r1 n2 m2
      · exact h.elim
theorem rg_u (hf : ItC C w f) {p : SAV} (x : tIU C (iRgU f p) σ H R) : iC w (tAV C p) σ H R := by
  obtain ⟨env, fp, is, r, h, k⟩ := x
  unfold iRgU at h
  split at h
  · rename_i ms q
    refine ⟨env, fp, ms, r, q, fun vs H1 fm s y => ?_⟩
    exact hf H1 ms is vs fm R y h fun J its => k J H1 [] its Owned.nil List.nodup_nil noneIn s
  · cases h
end
def loopS (b : Bd) (body : SS) : List D → SS
  | [], env => some (.nx, env)
  | m :: r, env => match b m env with
    | some env1 => match body env1 with
      | some (.nx, env2) => loopS b body r env2
      | some (.ct, env2) => loopS b body r env2
      | some (.bk, env2) => some (.nx, env2)
      | some (.rt m, env2) => some (.rt m, env2)
      | some (.ex c m, env2) => some (.ex c m, env2)
      | none => none
    | none => none
def sFor (it : SI) (b : Bd) (body : SS) : SS := fun env => match it env with
  | some (.ok ms, env1) => loopS b body ms env1
  | some (.ex c m, env1) => some (.ex c m, env1)
  | none => none
theorem for_i {C : Kt} {kp : Nat → Bool} {W : WXT} {σ : L2.St} {H : Hp} {Z : Ends} {it : SI} {b : Bd} {body : SS} (x : tS C kp W (sFor it b body) Z σ H) : tFor (tI C W it) (tG C kp b) (tS C kp W body) Z σ H := by
  obtain ⟨env, fp, r, nd, h⟩ := x
  refine ⟨env, fp, r, nd, ?_⟩
  unfold sFor at h
  cases q : it env with
  | none => rw [q] at h; exact h.elim
  | some z =>
    obtain ⟨z, env1⟩ := z
    rw [q] at h
    cases z with
    | ex c m => exact fun cls d H' fm fe y r' n' mv => h cls d σ H' fm fe y r' n' mv (Kp.refl kp σ)
    | ok ms =>
      intro J H1 ft fe its ow r1 n1 m1
      dsimp only at h
      refine ⟨fun i m σ' H' => m = ms.length - i ∧ i ≤ ms.length ∧ ∃ env' fe', ER C H' env' σ' fe' ∧ (ft ++ fe').Nodup ∧ Mv H H' fp (ft ++ fe') ∧ St1 H1 H' ft ∧ Kp kp σ σ' ∧ PostS C kp W Z σ H fp (loopS b body (ms.drop i) env'),
        ⟨ms.length, by simp, Nat.zero_le _, env1, fe, r1, n1, m1, fun _ _ e _ => e, Kp.refl kp σ, h⟩, ?_⟩
      rintro i m σ' H' ⟨rfl, hi, env', fe', r', n', mv', st', kk', h'⟩
      by_cases hlt : i < ms.length
      · right
        have e1 : ms[i]? = some ms[i] := List.getElem?_eq_getElem hlt
        obtain ⟨_, go⟩ := its i H' st'
        obtain ⟨go, yl⟩ := go _ e1
        rw [List.drop_eq_getElem_cons hlt] at h'
        unfold loopS at h'
        cases q2 : b ms[i] env' with
        | none => rw [q2] at h'; exact h'.elim
        | some env2 =>
          rw [q2] at h'
          dsimp only at h'
          refine ⟨go, fun σ2 H2 => i + 1 ≤ ms.length ∧ ∃ env' fe', ER C H2 env' σ2 fe' ∧ (ft ++ fe').Nodup ∧ Mv H H2 fp (ft ++ fe') ∧ St1 H1 H2 ft ∧ Kp kp σ σ2 ∧ PostS C kp W Z σ H fp (loopS b body (ms.drop (i + 1)) env'), fun σ2 H2 w => ⟨ms.length - (i + 1), by omega, rfl, w.1, w.2⟩, fun x H2 y => ?_⟩
          obtain ⟨s2, y2⟩ := yl x H2 y
          have oft : Owned H' ft := fun a ha => by
            obtain ⟨o, e, f⟩ := ow a ha
            exact ⟨o, st' a o e (.inl ha), f⟩
          have n2 : fe'.Nodup := (List.nodup_append.mp n').2.1
          refine ⟨env', fe', ms[i], [], env2, y2, r'.st env' (Same.st1 s2 _), by simpa using n2, q2, fun σ3 f3 r3 n3 s3 k3 => ⟨env2, f3, r3, n3, ?_⟩⟩
          have mv2 : Mv H' H2 fe' f3 := ⟨fun a o e _ => s2 a o e, fun a ha => .inl (by simpa using s3 a ha)⟩
          have nft : (ft ++ f3).Nodup := mv2.nodup n' oft n3
          have mv3 : Mv H H2 fp (ft ++ f3) := mv'.trans (mv2.frame n' oft)
          have st3 : St1 H1 H2 ft := fun a o e z => s2 a o (st' a o e z)
          have oft2 : Owned H2 ft := fun a ha => by
            obtain ⟨o, e, f⟩ := oft a ha
            exact ⟨o, s2 a o e, f⟩
          have step : ∀ σ4 H4 f4 env4, ER C H4 env4 σ4 f4 → f4.Nodup → Mv H2 H4 f3 f4 → Kp kp σ3 σ4 → PostS C kp W Z σ H fp (loopS b body (ms.drop (i + 1)) env4) →
              i + 1 ≤ ms.length ∧ ∃ env' fe', ER C H4 env' σ4 fe' ∧ (ft ++ fe').Nodup ∧ Mv H H4 fp (ft ++ fe') ∧ St1 H1 H4 ft ∧ Kp kp σ σ4 ∧ PostS C kp W Z σ H fp (loopS b body (ms.drop (i + 1)) env') := fun σ4 H4 f4 env4 r4 n4 m4 k4 p4 =>
            ⟨hlt, env4, f4, r4, m4.nodup nft oft2 n4, mv3.trans (m4.frame nft oft2), fun a o e z => by
              have s4 := m4.st (f := ft) nft
              exact s4 a o (st3 a o e z) z, (kk'.trans k3).trans k4, p4⟩
          cases q3 : body env2 with
          | none => rw [q3] at h'; exact h'.elim
          | some w =>
            obtain ⟨w, env3⟩ := w
            rw [q3] at h'
            cases w with
            | nx => exact fun σ4 H4 f4 r4 n4 m4 k4 => step σ4 H4 f4 env3 r4 n4 m4 k4 h'
            | ct => exact fun σ4 H4 f4 r4 n4 m4 k4 => step σ4 H4 f4 env3 r4 n4 m4 k4 h'
            | bk => exact fun σ4 H4 f4 r4 n4 m4 k4 => h' σ4 H4 f4 r4 n4 ((mv3.trans (m4.frame nft oft2)).less fun a ha => List.mem_append_right _ ha) ((kk'.trans k3).trans k4)
            | rt m => exact fun v σ4 H4 fv f4 y4 r4 n4 m4 k4 => h' v σ4 H4 fv f4 y4 r4 n4 ((mv3.trans (m4.frame nft oft2)).less fun a ha => List.mem_append_right _ ha) ((kk'.trans k3).trans k4)
            | ex c m => exact fun cls d σ4 H4 fv f4 y4 r4 n4 m4 k4 => h' cls d σ4 H4 fv f4 y4 r4 n4 ((mv3.trans (m4.frame nft oft2)).less fun a ha => List.mem_append_right _ ha) ((kk'.trans k3).trans k4)
      · left
        have e : i = ms.length := by omega
        subst e
        rw [List.drop_length] at h'
        exact ⟨(its _ H' st').1 (Nat.le_refl _), h' σ' H' fe' r' (List.nodup_append.mp n').2.1 (mv'.less fun a ha => List.mem_append_right _ ha) kk'⟩
end T
set_option Elab.async false
set_option linter.all false
set_option maxRecDepth 100000
set_option maxHeartbeats 4000000
namespace T
open PySem PySem.Spec PyProof.Rows L2
def wipeE : List Nat → Env → Env
  | [], env => env
  | v :: vs, env => (wipeE vs env).set v none
def restE (env0 : Env) : List Nat → Env → Env
  | [], env => env
  | v :: vs, env => match pVar v env0 with
    | some m => if fz m then (restE env0 vs env).set v (some m) else restE env0 vs env
    | none => restE env0 vs env
theorem wipe_get (σ : L2.St) (i : Nat) : ∀ vs : List Nat, (wipe σ vs)[i]? = if i ∈ vs ∧ i < σ.length then some none else σ[i]?
  | [] => by simp [wipe]
  | v :: vs => by
    unfold wipe
    rw [List.getElem?_set, wipe_length, wipe_get σ i vs]
    by_cases h : v = i
    · subst h
      by_cases hl : v < σ.length
      · simp [hl]
      · simp [hl, List.getElem?_eq_none (Nat.le_of_not_lt hl)]
    · simp only [h, if_false, List.mem_cons]
      have : ¬ i = v := fun e => h e.symm
      simp [this]
theorem wipe_eq {σ σ' : L2.St} {vs : List Nat} (hl : σ'.length = σ.length) (h : ∀ i, i ∉ vs → σ'[i]? = σ[i]?) : wipe σ' vs = wipe σ vs := by
  refine List.ext_getElem? fun i => ?_
  rw [wipe_get, wipe_get, hl]
  by_cases hi : i ∈ vs
  · by_cases hz : i < σ.length
    · simp [hi, hz]
    · simp [hz, List.getElem?_eq_none (Nat.le_of_not_lt hz), List.getElem?_eq_none (show σ'.length ≤ i by omega)]
  · simp [hi, h i hi]
theorem er_none {C : Kt} {H : Hp} {env : Env} {σ : L2.St} {fe : List Addr} {i : Nat} {w : Option V} (r : ER C H env σ fe) (h : env[i]? = some none) : ER C H env (σ.set i w) fe := by
  obtain ⟨w', f1, f2, f3, e, rfl, y, k⟩ := r.focus env h
  have y : f2 = [] := y
  subst y
  have := k H none w [] (fun _ _ e _ => e) rfl
  have e2 : env.set i none = env := by
    have hl := (List.getElem?_eq_some_iff.mp h).1
    have : env[i] = none := (List.getElem?_eq_some_iff.mp h).2
    rw [← this]; exact List.set_getElem_self hl
  rw [e2] at this
  exact this
def NoneAt (own : List Nat) (env : Env) : Prop := ∀ i ∈ own, i < env.length → env[i]? = some none
theorem er_wipe {C : Kt} {H : Hp} {env : Env} {σ : L2.St} {fe : List Addr} : ∀ (own : List Nat), NoneAt own env → ER C H env σ fe → ER C H env (wipe σ own) fe
  | [], _, r => r
  | v :: vs, h, r => by
    have r1 := er_wipe vs (fun i hi => h i (List.mem_cons_of_mem _ hi)) r
    unfold wipe
    by_cases hv : v < env.length
    · exact er_none r1 (h v (by simp) hv)
    · rw [List.set_eq_of_length_le]
      · exact r1
      · rw [← r1.len]; omega
theorem er_unwipe {C : Kt} {H : Hp} {env : Env} {σ : L2.St} {fe : List Addr} : ∀ (own : List Nat), NoneAt own env → ER C H env (wipe σ own) fe → ER C H env σ fe
  | [], _, r => r
  | v :: vs, h, r => by
    refine er_unwipe vs (fun i hi => h i (List.mem_cons_of_mem _ hi)) ?_
    unfold wipe at r
    by_cases hv : v < env.length
    · have r2 := er_none (w := ((wipe σ vs)[v]?).join) r (h v (by simp) hv)
      rw [List.set_set] at r2
      have hl : v < (wipe σ vs).length := by
        have := r.len
        rw [List.length_set] at this
        omega
      have : (wipe σ vs).set v ((wipe σ vs)[v]?).join = wipe σ vs := by
        rw [List.getElem?_eq_getElem hl]
        show (wipe σ vs).set v (wipe σ vs)[v] = _
        exact List.set_getElem_self hl
      rw [this] at r2
      exact r2
    · rw [List.set_eq_of_length_le] at r
      · exact r
      · have := r.len
        rw [List.length_set] at this
        omega
theorem wipeE_len (env : Env) : ∀ own : List Nat, (wipeE own env).length = env.length
  | [] => rfl
  | v :: vs => by unfold wipeE; rw [List.length_set, wipeE_len env vs]
theorem wipeE_none (env : Env) (own : List Nat) : NoneAt own (wipeE own env) := by
  induction own with
  | nil => intro i hi; cases hi
  | cons v vs ih =>
    intro i hi hl
    unfold wipeE at hl ⊢
    rw [List.length_set] at hl
    rw [List.getElem?_set]
    by_cases h : v = i
    · rw [if_pos h]
      subst h
      rw [if_pos hl]
    · rw [if_neg h]
      rcases List.mem_cons.mp hi with e | hi
      · exact absurd e.symm h
      · exact ih i hi hl
theorem er_wipeE {C : Kt} {H : Hp} {env : Env} {σ : L2.St} {fe : List Addr} (r : ER C H env σ fe) : ∀ own : List Nat, ∃ f, ER C H (wipeE own env) (wipe σ own) f ∧ List.Sublist f fe
  | [] => ⟨fe, r, .refl _⟩
  | v :: vs => by
    obtain ⟨f, r1, s1⟩ := er_wipeE r vs
    unfold wipeE wipe
    by_cases hv : v < (wipeE vs env).length
    · obtain ⟨w', f1, f2, f3, e, rfl, y, k⟩ := r1.focus _ (List.getElem?_eq_getElem hv)
      exact ⟨_, k H none none [] (fun _ _ e _ => e) rfl, List.Sublist.trans (List.Sublist.append_left (List.Sublist.append_right (List.nil_sublist f2) f3) f1) s1⟩
    · rw [List.set_eq_of_length_le (by omega), List.set_eq_of_length_le (by rw [← r1.len]; omega)]
      exact ⟨f, r1, s1⟩
/-- the slots own forgotten -/
theorem er_forget {C : Kt} {H : Hp} {env : Env} {σ σ' : L2.St} {fe : List Addr} {own : List Nat} (r : ER C H env σ' fe) (hw : wipe σ' own = wipe σ own) : ∃ f, ER C H (wipeE own env) σ f ∧ List.Sublist f fe := by
  obtain ⟨f, r1, s⟩ := er_wipeE r own
  rw [hw] at r1
  exact ⟨f, er_unwipe own (wipeE_none env own) r1, s⟩
theorem er_rest {C : Kt} {H H0 : Hp} {env0 env : Env} {σ : L2.St} {f0 fe : List Addr} (r0 : ER C H0 env0 σ f0) (s : St1 H0 H []) (hl : env.length = env0.length) (r : ER C H env σ fe) : ∀ own : List Nat, ∃ f, ER C H (restE env0 own env) σ f ∧ List.Sublist f fe
  | [] => ⟨fe, r, .refl _⟩
  | v :: vs => by
    obtain ⟨f, r1, s1⟩ := er_rest r0 s hl r vs
    unfold restE
    split
    · rename_i m q
      split
      · rename_i hz
        obtain ⟨w, g1, g2, g3, hw, rfl, x, _⟩ := pVar_get q r0
        have := x.fz m hz
        subst this
        have x' := x.st m s
        have hv : v < (restE env0 vs env).length := by
          have h1 := r1.len
          have h2 := (List.getElem?_eq_some_iff.mp hw).1
          omega
        obtain ⟨w', f1, f2, f3, e, rfl, y, k⟩ := r1.focus _ (List.getElem?_eq_getElem hv)
        have := k H (some m) (some w) [] (fun _ _ e _ => e) ⟨w, rfl, x'⟩
        rw [set_self hw] at this
        exact ⟨_, this, List.Sublist.trans (List.Sublist.append_left (List.Sublist.append_right (List.nil_sublist f2) f3) f1) s1⟩
      · exact ⟨f, r1, s1⟩
    · exact ⟨f, r1, s1⟩
/-- pure: what the turns give -/
def pLcL (b : Bd) (t : STu) (el : SV) (env : Env) : List D → Option (List D)
  | [] => some []
  | m :: r => match b m env with
    | some e1 => match t e1 with
      | some true => match el e1, pLcL b t el env r with
        | some x, some xs => some (x :: xs)
        | _, _ => none
      | some false => pLcL b t el env r
      | none => none
    | none => none
def pLc (own : List Nat) (it : SAV) (b : Bd) (t : STu) (el : SV) : SV := fun env => match it env with
  | some ms => if ms.length ≤ 100000 then (pLcL b t el (wipeE own env) ms).map (.lst true) else none
  | none => none
def kpOwn (own : List Nat) : Nat → Bool := fun i => !own.contains i
theorem kp_wipe {own : List Nat} {σ σ2 : L2.St} (k : Kp (kpOwn own) (wipe σ own) σ2) : wipe σ2 own = wipe σ own := by
  have h1 : wipe σ2 own = wipe (wipe σ own) own := wipe_eq k.1 fun i hi => k.2 i (by simp [kpOwn, hi])
  rw [h1]
  refine wipe_eq (wipe_length σ own) fun i hi => ?_
  rw [wipe_get]; simp [hi]
theorem lc_u {C : Kt} {σ : L2.St} {H : Hp} {Q : VK} {own : List Nat} {it : SAV} {b : Bd} {t : STu} {el : SV} (x : tU C (pLc own it b t el) σ H Q) : tLc (tIV C it) (tGU C (kpOwn own) b) (tTU C t) (tU C el) own σ H Q := by
  obtain ⟨env, fp, m, r, h, k⟩ := x
  unfold pLc at h
  cases q : it env with
  | none => rw [q] at h; cases h
  | some ms =>
    rw [q] at h
    dsimp only at h
    split at h
    · rename_i hlen
      cases q2 : pLcL b t el (wipeE own env) ms with
      | none => rw [q2] at h; cases h
      | some tot =>
        rw [q2] at h
        cases h
        refine ⟨env, fp, ms, r, q, fun J H1 ft its s1 D hD => ?_⟩
        have up : ∀ (xs : List V), ∀ a o, H1 a = some o → upd H1 D (.lst xs) a = some o := fun xs a o e => by rw [upd_ne (ne_of_none e hD)]; exact e
        refine ⟨fun i m H' => m = ms.length - i ∧ i ≤ ms.length ∧ (∀ a o, H1 a = some o → H' a = some o) ∧ ∃ acc vs fx rest, H' D = some (.lst vs) ∧ RPs C H' acc vs fx ∧ fx.Nodup ∧ D ∉ fx ∧ (∀ a ∈ fx, H1 a = none) ∧ acc.length ≤ i ∧
            pLcL b t el (wipeE own env) (ms.drop i) = some rest ∧ tot = acc ++ rest,
          ⟨ms.length, by simp, Nat.zero_le _, up [], [], [], [], tot, upd_same, ⟨rfl, rfl⟩, List.nodup_nil, by simp, noneIn, Nat.le_refl _, by simpa using q2, rfl⟩, ?_⟩
        rintro i m H' ⟨rfl, hi, sm, acc, vs, fx, rest, hd, hr, nfx, dfx, ffx, hal, hrest, htot⟩
        have st' : St1 H1 H' ft := fun a o e _ => sm a o e
        have s01 : Same H1 H' := sm
        by_cases hlt : i < ms.length
        · right
          have e1 : ms[i]? = some ms[i] := List.getElem?_eq_getElem hlt
          obtain ⟨_, go⟩ := its i H' st'
          obtain ⟨go, yl⟩ := go _ e1
          rw [List.drop_eq_getElem_cons hlt] at hrest
          unfold pLcL at hrest
          cases q3 : b ms[i] (wipeE own env) with
          | none => rw [q3] at hrest; cases hrest
          | some env2 =>
            rw [q3] at hrest
            dsimp only at hrest
            refine ⟨go, fun H2 => i + 1 ≤ ms.length ∧ (∀ a o, H1 a = some o → H2 a = some o) ∧ ∃ acc vs fx rest, H2 D = some (.lst vs) ∧ RPs C H2 acc vs fx ∧ fx.Nodup ∧ D ∉ fx ∧ (∀ a ∈ fx, H1 a = none) ∧ acc.length ≤ i + 1 ∧
                pLcL b t el (wipeE own env) (ms.drop (i + 1)) = some rest ∧ tot = acc ++ rest, fun H2 w => ⟨ms.length - (i + 1), by omega, rfl, w⟩, fun x H2 y => ?_⟩
            obtain ⟨s2, y2⟩ := yl x H2 y
            have sA : Same H1 H2 := s01.trans s2
            obtain ⟨f, rw1, sub⟩ := er_wipeE (r.st env (Same.st1 (s1.trans sA) _)) own
            refine ⟨wipeE own env, f, ms[i], env2, y2, rw1, q3, fun σ2 f2 r2 _ k2 => ⟨kp_wipe k2, ?_⟩⟩
            cases q4 : t env2 with
            | none => rw [q4] at hrest; cases hrest
            | some bb =>
              rw [q4] at hrest
              refine ⟨env2, f2, bb, r2, q4, fun H3 s3 => ?_⟩
              have sB : Same H1 H3 := sA.trans s3
              have hd3 : H3 D = some (.lst vs) := s3 D _ (s2 D _ hd)
              have hr3 : RPs C H3 acc vs fx := hr.st acc (Same.st1 (s2.trans s3) _)
              cases bb with
              | false =>
                refine iteF ⟨hlt, sB, acc, vs, fx, rest, hd3, hr3, nfx, dfx, ffx, Nat.le_succ_of_le hal, hrest, htot⟩
              | true =>
                refine iteT ?_
                dsimp only at hrest
                cases q5 : el env2 with
                | none => rw [q5] at hrest; cases hrest
                | some xm =>
                  cases q6 : pLcL b t el (wipeE own env) (ms.drop (i + 1)) with
                  | none => rw [q5, q6] at hrest; cases hrest
                  | some rest' =>
                    rw [q5, q6] at hrest
                    cases hrest
                    refine ⟨env2, f2, xm, r2.st env2 (Same.st1 s3 _), q5, fun yv H4 fy s4 y4 n4 fr4 => ?_⟩
                    have sC : Same H1 H4 := sB.trans s4
                    have hr4 : RPs C H4 acc vs fx := hr3.st acc (Same.st1 s4 _)
                    refine ⟨vs, s4 D _ hd3, ?_, hlt, ?_, acc ++ [xm], vs ++ [yv], fx ++ fy, rest', upd_same, ?_, ?_, ?_, ?_, by simp; omega, rfl, by simp [htot]⟩
                    · rw [← hr4.len]
                      have : 100000 < sizeLine := by rw [sizeLine_eq]; omega
                      omega
                    · exact fun a o e => by rw [upd_ne (ne_of_none e hD)]; exact sC a o e
                    · have st5 : ∀ g : List Addr, D ∉ g → St1 H4 (upd H4 D (.lst (vs ++ [yv]))) g := fun g hg a o e z => by
                        rw [upd_ne]
                        · exact e
                        · rintro rfl
                          rcases z with z | z
                          · exact hg z
                          · rw [s4 _ _ hd3] at e; cases e; cases z
                      refine RPs.app (hr4.st acc (st5 fx dfx)) ⟨yv, [], fy, [], rfl, by simp, y4.st xm (st5 fy fun hz => ?_), rfl, rfl⟩
                      rw [fr4 D hz] at hd3; cases hd3
                    · exact fresh_app (H := H3) (hr3.owned acc) nfx n4 fr4
                    · rw [List.mem_append]
                      rintro (z | z)
                      · exact dfx z
                      · rw [fr4 D z] at hd3; cases hd3
                    · intro a ha
                      rcases List.mem_append.mp ha with z | z
                      · exact ffx a z
                      · exact sB.free (fr4 a z)
        · left
          have e : i = ms.length := by omega
          subst e
          rw [List.drop_length] at hrest
          cases hrest
          rw [List.append_nil] at htot
          subst htot
          refine ⟨(its _ H' st').1 (Nat.le_refl _), k _ H' (D :: fx) (s1.trans s01) ⟨D, vs, fx, rfl, ⟨hd, rfl⟩, hr⟩ (List.nodup_cons.mpr ⟨dfx, nfx⟩) fun a ha => ?_⟩
          rcases List.mem_cons.mp ha with rfl | ha
          · exact s1.free hD
          · exact s1.free (ffx a ha)
    · cases h
def lcLoop (own : List Nat) (b : Bd) (t : STe) (el : SE) : List D → List D → Env → Option (List D × Env)
  | [], acc, env => some (acc, env)
  | m :: r, acc, env => match b m env with
    | some e1 => match t e1 with
      | some (.ok true, e2) => match el e2 with
        | some (.ok x, e3) => lcLoop own b t el r (acc ++ [x]) (wipeE own e3)
        | _ => none
      | some (.ok false, e2) => lcLoop own b t el r acc (wipeE own e2)
      | _ => none
    | none => none
def sLc (own : List Nat) (it : SI) (b : Bd) (t : STe) (el : SE) : SE := fun env => match it env with
  | some (.ok ms, env1) => if ms.length ≤ 100000 then (match lcLoop own b t el ms [] (wipeE own env1) with
    | some (acc, env2) => some (.ok (.lst true acc), restE env1 own env2)
    | none => none) else none
  | some (.ex c m, env1) => some (.ex c m, env1)
  | none => none
def W0 : WXT := fun _ _ _ _ => False
theorem lc_i {C : Kt} {W : WXT} {σ : L2.St} {H : Hp} {Q : VK} {own : List Nat} {it : SI} {b : Bd} {t : STe} {el : SE} (x : tE C W (sLc own it b t el) σ H Q) :
    tLc (tI C W it) (tG C (kpOwn own) b) (tTE C W0 t) (tE C W0 el) own σ H Q := by
  obtain ⟨env, fp, r, nd, h⟩ := x
  refine ⟨env, fp, r, nd, ?_⟩
  unfold sLc at h
  cases q : it env with
  | none => rw [q] at h; exact h.elim
  | some z =>
    obtain ⟨z, env1⟩ := z
    rw [q] at h
    cases z with
    | ex c m => exact h
    | ok ms =>
      intro J H1 ft fe its ow r1 n1 m1 D hD
      dsimp only at h
      split at h
      · rename_i hlen
        cases q2 : lcLoop own b t el ms [] (wipeE own env1) with
        | none => rw [q2] at h; exact h.elim
        | some res =>
          obtain ⟨tot, envR⟩ := res
          rw [q2] at h
          have up : ∀ (xs : List V), ∀ a o, H1 a = some o → upd H1 D (.lst xs) a = some o := fun xs a o e => by rw [upd_ne (ne_of_none e hD)]; exact e
          have ow1 : Owned H1 (ft ++ fe) := ow.app (r1.owned env1)
          obtain ⟨f0, r0, sub0⟩ := er_forget (own := own) (r1.st env1 (Same.st1 (up []) _)) rfl
          refine ⟨fun i m H' => m = ms.length - i ∧ i ≤ ms.length ∧ ∃ acc vs fx envw f, H' D = some (.lst vs) ∧ RPs C H' acc vs fx ∧ ER C H' envw σ f ∧ NoneAt own envw ∧ ((D :: (fx ++ ft)) ++ f).Nodup ∧ Mv H H' fp ((D :: (fx ++ ft)) ++ f) ∧
              St1 H1 H' ft ∧ envw.length = env1.length ∧ acc.length ≤ i ∧ lcLoop own b t el (ms.drop i) acc envw = some (tot, envR),
            ⟨ms.length, by simp, Nat.zero_le _, [], [], [], wipeE own env1, f0, upd_same, ⟨rfl, rfl⟩, r0, wipeE_none env1 own, ?_, ?_, fun a o e _ => up [] a o e, wipeE_len env1 own, Nat.le_refl _, by simpa using q2⟩, ?_⟩
          · have n2 : (ft ++ f0).Nodup := (sub0.append_left ft).nodup n1
            refine List.nodup_cons.mpr ⟨fun hz => ?_, n2⟩
            exact ne_memb hD ow1 ((sub0.append_left ft).subset hz)
          · refine m1.trans ⟨fun a o e _ => up [] a o e, fun a ha => ?_⟩
            rcases List.mem_cons.mp ha with rfl | ha
            · exact .inr hD
            · exact .inl ((sub0.append_left ft).subset ha)
          · rintro i m H' ⟨rfl, hi, acc, vs, fx, envw, f, hd, hr, rw', na, nF, mF, st', hle, hal, hrest⟩
            by_cases hlt : i < ms.length
            · right
              have e1 : ms[i]? = some ms[i] := List.getElem?_eq_getElem hlt
              obtain ⟨_, go⟩ := its i H' st'
              obtain ⟨go, yl⟩ := go _ e1
              rw [List.drop_eq_getElem_cons hlt] at hrest
              unfold lcLoop at hrest
              cases q3 : b ms[i] envw with
              | none => rw [q3] at hrest; cases hrest
              | some env2 =>
                rw [q3] at hrest
                dsimp only at hrest
                refine ⟨go, fun H2 => i + 1 ≤ ms.length ∧ ∃ acc vs fx envw f, H2 D = some (.lst vs) ∧ RPs C H2 acc vs fx ∧ ER C H2 envw σ f ∧ NoneAt own envw ∧ ((D :: (fx ++ ft)) ++ f).Nodup ∧ Mv H H2 fp ((D :: (fx ++ ft)) ++ f) ∧
                    St1 H1 H2 ft ∧ envw.length = env1.length ∧ acc.length ≤ i + 1 ∧ lcLoop own b t el (ms.drop (i + 1)) acc envw = some (tot, envR), fun H2 w => ⟨ms.length - (i + 1), by omega, rfl, w⟩, fun x H2 y => ?_⟩
                obtain ⟨s2, y2⟩ := yl x H2 y
                have oF : Owned H' (D :: (fx ++ ft)) := fun a ha => by
                  rcases List.mem_cons.mp ha with rfl | ha
                  · exact ⟨_, hd, rfl⟩
                  · rcases List.mem_append.mp ha with ha | ha
                    · exact hr.owned acc a ha
                    · obtain ⟨o, e, z⟩ := ow a ha
                      exact ⟨o, st' a o e (.inl ha), z⟩
                have oF2 : Owned H2 (D :: (fx ++ ft)) := fun a ha => by
                  obtain ⟨o, e, z⟩ := oF a ha
                  exact ⟨o, s2 a o e, z⟩
                refine ⟨envw, f, ms[i], [], env2, y2, (er_wipe own na rw').st envw (Same.st1 s2 _), by simpa using (List.nodup_append.mp nF).2.1, q3, fun σ2 f2 r2 n2 s3 k2 => ⟨kp_wipe k2, ?_⟩⟩
                have mv2 : Mv H' H2 f f2 := ⟨fun a o e _ => s2 a o e, fun a ha => .inl (by simpa using s3 a ha)⟩
                have nF2 := mv2.nodup nF oF n2
                have mF2 := mF.trans (mv2.frame nF oF)
                refine ⟨env2, f2, r2, n2, ?_⟩
                -- behind the test
                cases q4 : t env2 with
                | none => rw [q4] at hrest; cases hrest
                | some z =>
                  obtain ⟨z, env3⟩ := z
                  rw [q4] at hrest
                  cases z with
                  | ex c m => cases hrest
                  | ok bb =>
                    intro H3 f3 r3 n3 m3
                    have st3 := m3.st nF2
                    have nF3 := m3.nodup nF2 oF2 n3
                    have mF3 := mF2.trans (m3.frame nF2 oF2)
                    have hd3 : H3 D = some (.lst vs) := st3 D _ (s2 D _ hd) (.inl (by simp))
                    have stx : St1 H2 H3 fx := fun a o e z => st3 a o e (z.imp (fun h => by simp [h]) id)
                    have hr3 : RPs C H3 acc vs fx := (hr.st acc (Same.st1 s2 _)).st acc stx
                    have stt : St1 H1 H3 ft := fun a o e z => st3 a o (s2 a o (st' a o e z)) (z.imp (fun h => by simp [h]) id)
                    have oF3 : Owned H3 (D :: (fx ++ ft)) := fun a ha => by
                      obtain ⟨o, e, z⟩ := oF2 a ha
                      exact ⟨o, st3 a o e (.inl ha), z⟩
                    have len3 : env3.length = env1.length := by
                      have h1 := r3.len
                      have h2 := r2.len
                      have h3 := rw'.len
                      have h4 := k2.1
                      rw [wipe_length] at h4
                      omega
                    cases bb with
                    | false =>
                      refine iteF ⟨hlt, ?_⟩
                      dsimp only at hrest
                      obtain ⟨f4, r4, sub4⟩ := er_forget r3 (kp_wipe k2)
                      exact ⟨acc, vs, fx, _, f4, hd3, hr3, r4, wipeE_none env3 own, (sub4.append_left _).nodup nF3, mF3.less fun a ha => (sub4.append_left _).subset ha, stt, by rw [wipeE_len]; exact len3, Nat.le_succ_of_le hal, hrest⟩
                    | true =>
                      refine iteT ?_
                      dsimp only at hrest
                      refine ⟨env3, f3, r3, n3, ?_⟩
                      cases q5 : el env3 with
                      | none => rw [q5] at hrest; cases hrest
                      | some z =>
                        obtain ⟨z, env4⟩ := z
                        rw [q5] at hrest
                        cases z with
                        | ex c m => cases hrest
                        | ok xm =>
                          dsimp only at hrest
                          intro yv H4 fy f4 y4 r4 n4 m4
                          have st4 := m4.st nF3
                          have nF4 := m4.nodup nF3 oF3 n4
                          have mF4 := mF3.trans (m4.frame nF3 oF3)
                          have hd4 : H4 D = some (.lst vs) := st4 D _ hd3 (.inl (by simp))
                          have hr4 : RPs C H4 acc vs fx := hr3.st acc fun a o e z => st4 a o e (z.imp (fun h => by simp [h]) id)
                          have len4 : env4.length = env1.length := by
                            have h1 := r4.len
                            have h2 := r3.len
                            omega
                          obtain ⟨f5, r5, sub5⟩ := er_forget r4 (kp_wipe k2)
                          have dn : D ∉ fx ++ (ft ++ (fy ++ f4)) := by
                            have := (List.nodup_cons.mp (show (D :: ((fx ++ ft) ++ (fy ++ f4))).Nodup from nF4)).1
                            simpa using this
                          have st5 : ∀ g : List Addr, (∀ a ∈ g, a ∈ fx ++ (ft ++ (fy ++ f4))) → St1 H4 (upd H4 D (.lst (vs ++ [yv]))) g := fun g hg a o e z => by
                            rw [upd_ne]
                            · exact e
                            · rintro rfl
                              rcases z with z | z
                              · exact dn (hg _ z)
                              · rw [hd4] at e; cases e; cases z
                          have up4 : ∀ a o, H4 a = some o → a ≠ D → upd H4 D (.lst (vs ++ [yv])) a = some o := fun a o e z => by rw [upd_ne z]; exact e
                          have nF4' : (D :: ((fx ++ ft) ++ (fy ++ f4))).Nodup := nF4
                          refine ⟨vs, hd4, ?_, hlt, acc ++ [xm], vs ++ [yv], fx ++ fy, wipeE own env4, f5, upd_same, ?_, ?_, wipeE_none env4 own, ?_, ?_, ?_, by rw [wipeE_len]; exact len4, by simp; omega, hrest⟩
                          · rw [← hr4.len]
                            have : 100000 < sizeLine := by rw [sizeLine_eq]; omega
                            omega
                          · refine RPs.app (hr4.st acc (st5 fx fun a ha => by simp [ha])) ⟨yv, [], fy, [], rfl, by simp, y4.st xm (st5 fy fun a ha => by simp [ha]), rfl, rfl⟩
                          · exact r5.st _ (st5 f5 fun a ha => by simp [sub5.subset ha])
                          · have n5 : (D :: ((fx ++ fy) ++ ft ++ f4)).Nodup := by
                              refine (List.Perm.nodup_iff (List.Perm.cons D ?_)).mp nF4'
                              simp only [List.append_assoc]
                              refine List.Perm.append_left fx ?_
                              rw [← List.append_assoc, ← List.append_assoc]
                              exact List.Perm.append_right f4 List.perm_append_comm
                            exact (sub5.append_left (D :: ((fx ++ fy) ++ ft))).nodup n5
                          · refine mF4.trans ⟨fun a o e z => ?_, fun a ha => .inl ?_⟩
                            · by_cases ha : a = D
                              · subst ha
                                have := z (by simp)
                                rw [hd4] at e; cases e; cases this
                              · exact up4 a o e ha
                            · simp only [List.cons_append, List.mem_cons, List.mem_append] at ha ⊢
                              rcases ha with ha | ha | ha
                              · exact .inl ha
                              · rcases ha with (ha | ha) | ha
                                · exact .inr (.inl (.inl ha))
                                · exact .inr (.inr (.inl ha))
                                · exact .inr (.inl (.inr ha))
                              · exact .inr (.inr (.inr (sub5.subset ha)))
                          · intro a o e z
                            have e4 : H4 a = some o := st4 a o (stt a o e z) (z.imp (fun h => by simp [h]) id)
                            refine up4 a o e4 ?_
                            rintro rfl
                            rcases z with z | z
                            · exact dn (by simp [z])
                            · rw [hd4] at e4; cases e4; cases z
            · left
              have e : i = ms.length := by omega
              subst e
              rw [List.drop_length] at hrest
              cases hrest
              have sfix : St1 H1 H' [] := fun a o e z => st' a o e (z.elim (fun h => nomatch h) .inr)
              obtain ⟨f5, r5, sub5⟩ := er_rest r1 sfix hle rw' own
              refine ⟨(its _ H' st').1 (Nat.le_refl _), h (.ref D) H' (D :: fx) f5 ⟨D, vs, fx, rfl, ⟨hd, rfl⟩, hr⟩ r5 ?_ (mF.less fun a ha => ?_)⟩
              · have : ((D :: fx) ++ f5).Sublist ((D :: (fx ++ ft)) ++ f) := by
                  simp only [List.cons_append, List.append_assoc]
                  exact List.Sublist.cons_cons D ((sub5.trans (List.sublist_append_right ft f)).append_left fx)
                exact this.nodup nF
              · simp only [List.cons_append, List.mem_cons, List.mem_append] at ha ⊢
                rcases ha with ha | ha | ha
                · exact .inl ha
                · exact .inr (.inl (.inl ha))
                · exact .inr (.inr (sub5.subset ha))
      · exact h.elim
end T
set_option Elab.async false
set_option linter.all false
set_option maxRecDepth 100000
set_option maxHeartbeats 4000000
namespace T
open PySem PySem.Spec PyProof.Rows L2
theorem slot_lst {C : Kt} {H : Hp} {env : Env} {σ : L2.St} {fe : List Addr} {i : Nat} {ms : List D} (r : ER C H env σ fe) (q : pVar i env = some (.lst true ms)) :
    ∃ a vs f1 f2 f3, σ[i]? = some (some (.ref a)) ∧ fe = f1 ++ ((a :: f2) ++ f3) ∧ H a = some (.lst vs) ∧ RPs C H ms vs f2 ∧
      ∀ H' ms' vs' g, H' a = some (.lst vs') → RPs C H' ms' vs' g → St1 H H' (f1 ++ f3) → ER C H' (env.set i (some (.lst true ms'))) σ (f1 ++ ((a :: g) ++ f3)) := by
  obtain ⟨v, f1, f2, f3, hv, rfl, x, k⟩ := pVar_get q r
  obtain ⟨a, vs, f2', rfl, ⟨h1, rfl⟩, h2⟩ := x
  refine ⟨a, vs, f1, f2', f3, hv, rfl, h1, h2, fun H' ms' vs' g e y s => ?_⟩
  have := k H' (some (.lst true ms')) (some (.ref a)) (a :: g) s ⟨_, rfl, a, vs', g, rfl, ⟨e, rfl⟩, y⟩
  rw [set_self hv] at this
  exact this
/-- writing at a tracked list leaves what does not own it -/
theorem st_upd {H : Hp} {a : Addr} {vs vs' : List V} {f : List Addr} (h : H a = some (.lst vs)) (n : a ∉ f) : St1 H (upd H a (.lst vs')) f := fun b o e z => by
  rw [upd_ne]
  · exact e
  · rintro rfl
    rcases z with z | z
    · exact n z
    · rw [h] at e; cases e; cases z
theorem mv_upd {H : Hp} {a : Addr} {vs vs' : List V} {f : List Addr} (h : H a = some (.lst vs)) (n : a ∈ f) : Mv H (upd H a (.lst vs')) f f where
  keep := fun b o e z => by
    rw [upd_ne]
    · exact e
    · rintro rfl
      have := z n
      rw [h] at e; cases e; cases this
  sub := fun _ z => .inl z
theorem nd_a {a : Addr} {g1 g2 g3 fm : List Addr} (n : (fm ++ (g1 ++ ((a :: g2) ++ g3))).Nodup) : a ∉ g2 ∧ a ∉ fm ∧ a ∉ g1 ++ g3 ∧ (g2 ++ fm).Nodup := by
  simp only [List.nodup_append, List.mem_append, List.nodup_cons, List.cons_append, List.mem_cons] at n ⊢
  grind
theorem nd_b {a : Addr} {g1 g2 g3 fm fx g' : List Addr} (n : (fm ++ (g1 ++ ((a :: g2) ++ g3))).Nodup) (ns : (fx ++ g').Nodup) (su : ∀ b ∈ fx ++ g', b ∈ g2 ++ fm) : (fx ++ (g1 ++ ((a :: g') ++ g3))).Nodup := by
  simp only [List.nodup_append, List.mem_append, List.nodup_cons, List.cons_append, List.mem_cons] at n ns su ⊢
  grind
theorem nd_c {a b : Addr} {g1 g2 g3 fm fx g' : List Addr} (su : ∀ b ∈ fx ++ g', b ∈ g2 ++ fm) (h : b ∈ fx ++ (g1 ++ ((a :: g') ++ g3))) : b ∈ fm ++ (g1 ++ ((a :: g2) ++ g3)) := by
  simp only [List.mem_append, List.cons_append, List.mem_cons] at h su ⊢
  grind
theorem nd_d {g1 g2 g3 : List Addr} (n : (g1 ++ (g2 ++ g3)).Nodup) : (g2 ++ (g1 ++ g3)).Nodup := by
  simp only [List.nodup_append, List.mem_append] at n ⊢
  grind
def isL : D → Bool
  | .lst _ _ => true
  | _ => false
theorem isL_ty {C : Kt} {H : Hp} {m : D} {v : V} {f : List Addr} (x : RP C H m v f) (h : isL m = true) : tyV C.K "list" v H := by
  cases m with
  | lst o ms =>
    obtain ⟨a, vs, g, rfl, h1, h2⟩ := x
    exact .inl ⟨rfl, vs, h1.seqL⟩
  | _ => cases h
/-- a method of a list in slot i, its argument evaluated first: f the argument, the list's items -> what comes out, the items behind -/
def sLstM (i : Nat) (s : SE) (f : List D → D → Option (D × List D)) : SE := fun env => match pVar i env with
  | some m0 => if isL m0 then (match s env with
    | some (.ok m, env1) => match pVar i env1 with
      | some (.lst true ms) => match f ms m with
        | some (x, ms') => some (.ok x, env1.set i (some (.lst true ms')))
        | none => none
      | _ => none
    | some (.ex c m, env1) => some (.ex c m, env1)
    | none => none) else none
  | none => none
/-- what f must say of the built-in method r -/
def LstM (C : Kt) (r : V → List V → Hp → VK → Prop) (f : List D → D → Option (D × List D)) : Prop := ∀ (H : Hp) (a : Addr) (vs : List V) (ms : List D) (g : List Addr) (m : D) (v : V) (fm : List Addr) (x : D) (ms' : List D),
  H a = some (.lst vs) → RPs C H ms vs g → RP C H m v fm → a ∉ g → a ∉ fm → (g ++ fm).Nodup → f ms m = some (x, ms') →
  ∀ Q : VK, (∀ w vs' g' fx, RPs C (upd H a (.lst vs')) ms' vs' g' → RP C (upd H a (.lst vs')) x w fx → (fx ++ g').Nodup → (∀ b ∈ fx ++ g', b ∈ g ++ fm) → Q w (upd H a (.lst vs'))) → r (.ref a) [v] H Q
theorem lstM_i {C : Kt} {W : WXT} {σ : L2.St} {H : Hp} {Q : VK} {i : Nat} {s : SE} {r : V → List V → Hp → VK → Prop} {f : List D → D → Option (D × List D)} (hf : LstM C r f) (x : tE C W (sLstM i s f) σ H Q) :
    tBM C.K "list" r (tVar i) (tCons (tE C W s) tNil) σ H Q := by
  obtain ⟨env, fp, e, nd, k⟩ := x
  unfold sLstM at k
  split at k
  · rename_i m0 q0
    split at k
    · rename_i hL
      obtain ⟨v0, f1, f2, f3, hv0, _, x0, _⟩ := pVar_get q0 e
      refine ⟨v0, hv0, isL_ty x0 hL, env, fp, e, nd, ?_⟩
      cases q : s env with
      | none => rw [q] at k; exact k.elim
      | some z =>
        obtain ⟨z, env1⟩ := z
        rw [q] at k
        cases z with
        | ex c m => exact k
        | ok m =>
          intro v H1 fm fe x1 r1 n1 m1
          dsimp only at k
          split at k
          · rename_i ms q1
            obtain ⟨a, vs, g1, g2, g3, hv, rfl, ha, hr, kk⟩ := slot_lst r1 q1
            rw [hv0] at hv
            cases hv
            cases q2 : f ms m with
            | none => rw [q2] at k; exact k.elim
            | some p =>
              obtain ⟨xo, ms'⟩ := p
              rw [q2] at k
              have na := nd_a n1
              refine hf H1 a vs ms g2 m v fm xo ms' ha hr x1 na.1 na.2.1 na.2.2.2 q2 Q fun w vs' g' fx y1 y2 nsu su => ?_
              have r2 := kk (upd H1 a (.lst vs')) ms' vs' g' upd_same y1 (st_upd ha na.2.2.1)
              have m2 : Mv H (upd H1 a (.lst vs')) fp (fm ++ (g1 ++ ((a :: g2) ++ g3))) := m1.trans (mv_upd ha (by simp))
              exact k w _ fx _ y2 r2 (nd_b n1 nsu su) (m2.less fun b hb => nd_c su hb)
          · exact k.elim
    · exact k.elim
  · exact k.elim
/-- list.extend with a list that is only read -/
def rExtR : V → List V → Hp → VK → Prop := fun x vs H Q => ∃ l b xs zs, x = .ref l ∧ vs = [.ref b] ∧ H l = some (.lst xs) ∧ Rd H b (.lst zs) ∧ xs.length + zs.length ≤ sizeLine ∧ Q .non (upd H l (.lst (xs ++ zs)))
theorem mt_extR {X : Cx} : MtM X "list.extend" rExtR := by
  intro pins s σ H x vs v us Q I rx rv h
  obtain ⟨l, b, xs, zs, rfl, rfl, hH, hB, hz, q⟩ := h
  rcases hB with hB | ⟨ob, hB⟩
  · exact mt_extend pins s σ H _ _ v us Q I rx rv ⟨l, b, xs, zs, rfl, rfl, hH, hB, hz, q⟩
  · cases rx
    obtain ⟨u, rfl, ru⟩ := rv.one
    cases ru
    obtain ⟨z, its, n, r, hl, e⟩ := I.lstM hH
    obtain ⟨z2, its2, n2, r2, e2⟩ := Inv.lstR I (.inr ⟨ob, hB⟩)
    have hl2 := r2.length
    have hsz : its.toArray.size + its2.toArray.size ≤ sizeLine := by rw [List.size_toArray, List.size_toArray]; omega
    have hlong : ¬ (!its.toArray.isEmpty && Builtin.List.listTooLong (its.toArray.size + its2.toArray.size)) = true := by
      rw [notLongL hsz, Bool.and_false]
      exact Bool.false_ne_true
    refine call_meets F.slot_list_extend ⟨_, e, rfl⟩ F.entry_list_extend (F.args_list_extend_2 _ _)
      (AutoSeq1.list_extend_list_list_0 l its.toArray n b its2.toArray n2 hlong (by rw [List.size_toArray]; omega) (by omega)) ⟨e, e2, ?_⟩
    refine ⟨.non, _, I.lset (its' := its ++ its2) hH e (by simp) (r.append r2) ?_, rfl, q⟩
    rw [List.length_append]; omega
def fExtend (ms : List D) (m : D) : Option (D × List D) := match m with
  | .lst _ ns => if ms.length + ns.length ≤ sizeLine then (if fzs ns then some (.non, ms ++ ns) else none) else none
  | _ => none
theorem lm_extend {C : Kt} : LstM C rExtR fExtend := by
  intro H a vs ms g m v fm x ms' ha hr hm nag nam nd hf Q k
  unfold fExtend at hf
  split at hf
  · split at hf
    · rename_i o ns hl
      split at hf
      · rename_i hz
        cases hf
        obtain ⟨b, ws, g2, rfl, a2, r2⟩ := hm
        have r3 := r2.fzAll hz
        refine ⟨a, b, vs, ws, rfl, rfl, ha, a2.rd, by rw [← hr.len, ← r3.len]; exact hl, ?_⟩
        refine k .non (vs ++ ws) (g ++ []) [] ?_ ⟨rfl, rfl⟩ (by simpa using (List.nodup_append.mp nd).1) fun b hb => by simp at hb; simp [hb]
        exact RPs.app (hr.st ms (st_upd ha nag)) (r3.st ns (st_upd ha (by simp)))
      · cases hf
    · cases hf
  · cases hf
/-- x[k] = e, the list in slot i -/
def sSetIx (i : Nat) (s : SE) (ix : SV) : SS := fun env => match s env with
  | some (.ok m, env1) => match pVar i env1, ix env1 with
    | some (.lst true ms), some (.int k) => match ixN ms.length k with
      | some j => if fzs ms then some (.nx, env1.set i (some (.lst true (ms.set j m)))) else none
      | none => none
    | _, _ => none
  | some (.ex c m, env1) => some (.ex c m, env1)
  | none => none
theorem RPs.set {C : Kt} {H : Hp} {m : D} {v : V} {f : List Addr} (x : RP C H m v f) : ∀ {ms : List D} {vs : List V} {j : Nat}, RPs C H ms vs [] → j < ms.length → RPs C H (ms.set j m) (vs.set j v) f
  | [], _, _, _, h => by simp at h
  | m' :: ms, _, 0, h, _ => by
    obtain ⟨v', vr, f1, f2, rfl, e, h1, h2⟩ := h
    obtain ⟨rfl, rfl⟩ := List.append_eq_nil_iff.mp e.symm
    exact ⟨v, vr, f, [], rfl, by simp, x, h2⟩
  | m' :: ms, _, j + 1, h, hj => by
    obtain ⟨v', vr, f1, f2, rfl, e, h1, h2⟩ := h
    obtain ⟨rfl, rfl⟩ := List.append_eq_nil_iff.mp e.symm
    exact ⟨v', _, [], f, rfl, rfl, h1, RPs.set x h2 (by simpa using hj)⟩
theorem setIx_i {C : Kt} {kp : Nat → Bool} {W : WXT} {σ : L2.St} {H : Hp} {Z : Ends} {i : Nat} {s : SE} {ix : SV} (x : tS C kp W (sSetIx i s ix) Z σ H) : tAsg (tE C W s) (gSub (tVar i) (tV C ix) rSetL) Z σ H := by
  obtain ⟨env, fp, r, nd, h⟩ := x
  unfold sSetIx at h
  refine e_in (Z := Z) (kp := kp) r nd (fun c m e2 q => ?_) (fun m e2 q => ?_) fun q => ?_
  · rw [q] at h; exact h
  · rw [q] at h
    intro v H2 fm f2 x2 r2 n2 mv
    dsimp only at h
    split at h
    · rename_i ms k q1 q2
      split at h
      · rename_i j hj
        split at h
        · rename_i hz
          obtain ⟨a, vs, g1, g2, g3, hv, rfl, ha, hr, kk⟩ := slot_lst r2 q1
          have hz' := hr.fz ms hz
          subst hz'
          refine ⟨_, hv, e2, _, .int k, r2, q2, fun iv H3 fk s3 ⟨e3, _⟩ => ?_⟩
          subst e3
          have ha3 := s3 a _ ha
          have na := nd_a n2
          have hj2 : j < ms.length := by
            unfold ixN at hj
            split at hj <;> split at hj <;> cases hj <;> omega
          refine ⟨a, vs, k, j, rfl, rfl, ha3, by rw [← hr.len]; exact hj, ?_⟩
          have hr3 : RPs C (upd H3 a (.lst (vs.set j v))) ms vs [] := (hr.st ms (Same.st1 s3 _)).st ms (st_upd ha3 (by simp))
          have x3 : RP C (upd H3 a (.lst (vs.set j v))) m v fm := (x2.st m (Same.st1 s3 _)).st m (st_upd ha3 na.2.1)
          have st : St1 H2 (upd H3 a (.lst (vs.set j v))) (g1 ++ g3) := fun b o e z => st_upd ha3 na.2.2.1 b o (s3 b o e) z
          have r4 := kk _ (ms.set j m) (vs.set j v) fm upd_same (hr3.set x3 hj2) st
          have m3 : Mv H (upd H3 a (.lst (vs.set j v))) fp (fm ++ (g1 ++ ((a :: []) ++ g3))) := (mv.trans ((Mv.same (fm := []) s3 noneIn).less fun b hb => hb)).trans (mv_upd ha3 (by simp))
          refine h σ _ _ r4 (nd_b (fx := []) n2 (by simpa using na.2.2.2) (by simp)) (m3.less fun b hb => nd_c (fx := []) (g' := fm) (by simp) hb) (Kp.refl kp σ)
        · exact h.elim
      · exact h.elim
    · exact h.elim
  · rw [q] at h; exact h
/-- (a, b) = (e1, e2): plain local names -/
def sPar (is : List Nat) (a : SA) : SS := fun env => match a env with
  | some (.ok as, env1) => match valsA as with
    | some ms => if ms.length = is.length ∧ is.all (fun i => decide (i < env1.length)) = true then some (.nx, (is.zip ms).foldl (fun e p => e.set p.1 (some p.2)) env1) else none
    | none => none
  | some (.ex c m, env1) => some (.ex c m, env1)
  | none => none
theorem put_all {C : Kt} {H : Hp} : ∀ (is : List Nat) (ms : List D) {vs : List V} {fm fe : List Addr} {env : Env} {σ : L2.St}, ms.length = is.length → is.all (fun i => decide (i < env.length)) = true → RPs C H ms vs fm → ER C H env σ fe → (fm ++ fe).Nodup →
    ∃ f, ER C H ((is.zip ms).foldl (fun e p => e.set p.1 (some p.2)) env) ((is.zip vs).foldl (fun s p => s.set p.1 (some p.2)) σ) f ∧ f.Nodup ∧ ∀ b ∈ f, b ∈ fm ++ fe
  | [], ms, _, fm, fe, env, σ, hl, _, x, r, nd => by
    exact ⟨fe, r, (List.nodup_append.mp nd).2.1, fun b hb => List.mem_append_right _ hb⟩
  | i :: is, [], _, _, _, _, _, hl, _, _, _, _ => by simp at hl
  | i :: is, m :: ms, _, _, fe, env, σ, hl, hi, x, r, nd => by
    obtain ⟨v, vr, f1, f2, rfl, rfl, x1, x2⟩ := x
    rw [List.all_cons, Bool.and_eq_true] at hi
    have n1 : (f1 ++ fe).Nodup ∧ ∀ a ∈ f2, a ∉ f1 ++ fe := by
      simp only [List.nodup_append, List.mem_append] at nd ⊢
      grind
    obtain ⟨f3, r3, n3, s3⟩ := r.put (of_decide_eq_true hi.1) x1 n1.1
    have n4 : (f2 ++ f3).Nodup := by
      refine List.nodup_append.mpr ⟨?_, n3, fun a ha b hb => ?_⟩
      · simp only [List.nodup_append, List.mem_append] at nd
        grind
      · rintro rfl
        exact n1.2 a ha (s3 a hb)
    obtain ⟨f, r5, n5, s5⟩ := put_all is ms (by simpa using hl) (by simpa using hi.2) x2 r3 n4
    refine ⟨f, r5, n5, fun b hb => ?_⟩
    have h1 := s5 b hb
    rcases List.mem_append.mp h1 with h1 | h1
    · exact List.mem_append_left _ (List.mem_append_right _ h1)
    · have := s3 b h1
      simp only [List.mem_append] at this ⊢
      grind
theorem kp_all {kp : Nat → Bool} : ∀ (is : List Nat) (vs : List V) (σ : L2.St), (∀ i ∈ is, kp i = false) → Kp kp σ ((is.zip vs).foldl (fun s p => s.set p.1 (some p.2)) σ)
  | [], _, σ, _ => Kp.refl kp σ
  | i :: is, [], σ, _ => Kp.refl kp σ
  | i :: is, v :: vs, σ, h => (Kp.set (h i (by simp))).trans (kp_all is vs _ fun j hj => h j (List.mem_cons_of_mem _ hj))
theorem par_core {C : Kt} {kp : Nat → Bool} {W : WXT} {σ : L2.St} {H : Hp} {Z : Ends} {is : List Nat} {a : SA} (hk : ∀ i ∈ is, kp i = false) (x : tS C kp W (sPar is a) Z σ H) :
    tA C W a σ H fun vs H1 => vs.length = is.length ∧ Z.nx ((is.zip vs).foldl (fun s p => s.set p.1 (some p.2)) σ) H1 := by
  obtain ⟨env, fp, r, nd, h⟩ := x
  refine ⟨env, fp, r, nd, ?_⟩
  unfold sPar at h
  cases q : a env with
  | none => rw [q] at h; exact h.elim
  | some z =>
    obtain ⟨z, env1⟩ := z
    rw [q] at h
    cases z with
    | ex c m => exact fun cls d H' fm fe y r' n' mv => h cls d σ H' fm fe y r' n' mv (Kp.refl kp σ)
    | ok as =>
      intro vs H1 fa fe x1 r1 n1 m1
      dsimp only at h
      split at h
      · rename_i ms q2
        split at h
        · rename_i hc
          have y := valsA_ok as x1 q2
          obtain ⟨f, r5, n5, s5⟩ := put_all is ms hc.1 hc.2 y r1 n1
          exact ⟨by rw [← y.len]; exact hc.1, h _ H1 f r5 n5 (m1.less s5) (kp_all is vs σ hk)⟩
        · exact h.elim
      · exact h.elim
theorem tA_mono {C : Kt} {W : WXT} {s : SA} {σ : L2.St} {H : Hp} {Q Q' : List V → Hp → Prop} (h : tA C W s σ H Q) (k : ∀ v H', Q v H' → Q' v H') : tA C W s σ H Q' := by
  obtain ⟨env, fp, e, nd, h⟩ := h
  refine ⟨env, fp, e, nd, ?_⟩
  cases q : s env with
  | none => rw [q] at h; exact h
  | some z =>
    obtain ⟨z, env2⟩ := z
    rw [q] at h
    cases z with
    | ok m => exact fun v H2 fm fe2 x r2 n2 mv2 => k v H2 (h v H2 fm fe2 x r2 n2 mv2)
    | ex c m => exact h
theorem par2_i {C : Kt} {kp : Nat → Bool} {W : WXT} {σ : L2.St} {H : Hp} {Z : Ends} {i j : Nat} {a : SA} (hi : kp i = false) (hj : kp j = false) (x : tS C kp W (sPar [i, j] a) Z σ H) : tPar i j (tA C W a) Z σ H :=
  tA_mono (par_core (fun k hk => by rcases List.mem_cons.mp hk with rfl | hk; exact hi; rw [List.mem_singleton.mp hk]; exact hj) x) fun vs H1 ⟨hl, h⟩ => by
    match vs, hl with
    | [v, w], _ => exact ⟨v, w, rfl, h⟩
end T
set_option Elab.async false
set_option linter.all false
set_option maxRecDepth 100000
set_option maxHeartbeats 4000000
namespace T
open PySem PySem.Spec PyProof.Rows L2
abbrev kt (X : Cx) : Kt := ⟨X.K, X.mg⟩
/-- the built-ins are what they are -/
structure Blt (mg : Str → Option Value) : Prop where
  len : mg "len" = none
  int : mg "int" = none
  abs : mg "abs" = none
  str : mg "str" = none
  tuple : mg "tuple" = none
  list : mg "list" = none
  range : mg "range" = none
  zip : mg "zip" = none
  enumerate : mg "enumerate" = none
  max : mg "max" = none
  min : mg "min" = none
  sum : mg "sum" = none
  all : mg "all" = none
  any : mg "any" = none
  sorted : mg "sorted" = none
  set : mg "set" = none
  isinstance : mg "isinstance" = none
  repr : mg "repr" = none
  bool : mg "bool" = none
  dict : mg "dict" = none
section
variable {X : Cx} {W : WXT} {e a b : Expr} {pos : Pos} {p q : SV} {sa sb : SE}
def pK (m : D) : SV := fun _ => some m
theorem k_u {C : Kt} {σ : L2.St} {H : Hp} {Q : VK} {m : D} {v : V} (h : ∀ H, RP C H m v []) (x : tU C (pK m) σ H Q) : tC v σ H Q := by
  obtain ⟨env, fp, m', r, e, k⟩ := x
  cases e
  exact k v H [] (Same.refl H) (h H) List.nodup_nil noneIn
theorem U_int {i j pos} : PE X (.Constant (.int i) j pos) (tU (kt X) (pK (.int i))) := pe_imp pe_int fun _ _ _ => k_u fun _ => ⟨rfl, rfl⟩
theorem U_str {x j pos} : PE X (.Constant (.str x) j pos) (tU (kt X) (pK (.str x))) := pe_imp pe_str fun _ _ _ => k_u fun _ => ⟨rfl, rfl⟩
theorem U_bl {b j pos} : PE X (.Constant (.bool b) j pos) (tU (kt X) (pK (.bl b))) := pe_imp pe_bl fun _ _ _ => k_u fun _ => ⟨rfl, rfl⟩
theorem U_non {j pos} : PE X (.Constant .none j pos) (tU (kt X) (pK .non)) := pe_imp pe_non fun _ _ _ => k_u fun _ => ⟨rfl, rfl⟩
theorem V_var {i : Nat} (h : PE X e (tVar i)) : PE X e (tV (kt X) (pVar i)) := vVar i h
theorem U_var {i : Nat} (h : PE X e (tVar i)) : PE X e (tU (kt X) (pFz (pVar i))) := uOfV (vVar i h)
theorem U_op {op : Operator} {r : R2} {f : D → D → Option D} (ho : OpR X (binaryOp op) r) (h : Op2 (kt X) r f) (ha : PE X a (tV (kt X) p)) (hb : PE X b (tV (kt X) q)) : PE X (.BinOp a op b pos) (tU (kt X) (p2 f p q)) := pe_imp (pe_op ho ha hb) fun _ _ _ => op_vv h
theorem U_cmp {op : CmpOp} {r : R2} {f : D → D → Option D} (ho : OpR X (compareOp op) r) (h : Op2 (kt X) r f) (hm : behindInMarks op b = false) (ha : PE X a (tV (kt X) p)) (hb : PE X b (tV (kt X) q)) : PE X (.Compare a [op] [b] pos) (tU (kt X) (p2 f p q)) := pe_imp (pe_cmpR ho ha hb hm) fun _ _ _ => op_vv h
/-- a comparison as a test -/
def qB (p : SV) : STu := fun env => match p env with
  | some (.bl b) => some b
  | _ => none
def qBE (s : SE) : STe := fun env => match s env with
  | some (.ok (.bl b), env1) => some (.ok b, env1)
  | some (.ex c m, env1) => some (.ex c m, env1)
  | _ => none
theorem tt_u {C : Kt} {σ : L2.St} {H : Hp} {Q : Bool → Hp → Prop} {t : TE} (h : ∀ Q, tU C p σ H Q → t σ H Q) (x : tTU C (qB p) σ H Q) : tTest t σ H Q := by
  obtain ⟨env, fp, b, r, e, k⟩ := x
  unfold qB at e
  split at e
  · rename_i b' q
    cases e
    exact h _ ⟨env, fp, _, r, q, fun v H' fm s ⟨e, _⟩ _ _ => ⟨b, e, k H' s⟩⟩
  · cases e
theorem tt_e {C : Kt} {σ : L2.St} {H : Hp} {Q : Bool → Hp → Prop} {t : TE} (h : ∀ Q, tE C W sa σ H Q → t σ H Q) (x : tTE C W (qBE sa) σ H Q) : tTest t σ H Q := by
  obtain ⟨env, fp, r, nd, k⟩ := x
  refine h _ ⟨env, fp, r, nd, ?_⟩
  unfold qBE at k
  cases q : sa env with
  | none => rw [q] at k; exact k.elim
  | some z =>
    obtain ⟨z, env1⟩ := z
    rw [q] at k
    cases z with
    | ex c m => exact k
    | ok m =>
      cases m with
      | bl b => exact fun v H' fm fe ⟨e, e2⟩ r n mv => ⟨b, e, k H' fe r (List.nodup_append.mp n).2.1 (mv.less fun b hb => List.mem_append_right _ hb)⟩
      | _ => exact k.elim
theorem TU_cmp {op : CmpOp} {r : R2} {f : D → D → Option D} (ho : OpR X (compareOp op) r) (h : Op2 (kt X) r f) (hm : behindInMarks op b = false) (ha : PE X a (tV (kt X) p)) (hb : PE X b (tV (kt X) q)) : PT X (.Compare a [op] [b] pos) (tTU (kt X) (qB (p2 f p q))) := pt_imp (pt_cmpR ho ha hb hm) fun _ _ _ => tt_u fun _ => op_vv h
theorem TE_cmpEV {op : CmpOp} {r : R2} {f : D → D → Option D} (ho : OpR X (compareOp op) r) (h : Op2 (kt X) r f) (hm : behindInMarks op b = false) (ha : PE X a (tE (kt X) W sa)) (hb : PE X b (tV (kt X) q)) : PT X (.Compare a [op] [b] pos) (tTE (kt X) W (qBE (s2V f sa q))) := pt_imp (pt_cmpR ho ha hb hm) fun _ _ _ => tt_e fun _ => op_ev h
/-- any other expression as a test -/
theorem TU_tru (ha : PE X a (tV (kt X) p)) (he : ∀ whole, isTrue a X.env whole = (do let v ← whole; standAt a.pos; holding [v] (truthy v)) := by intro _; rfl) : PT X a (tTU (kt X) (qT p)) := pt_imp (pt_truth ha he) fun _ _ _ => tru_v
theorem TE_tru (ha : PE X a (tE (kt X) W sa)) (he : ∀ whole, isTrue a X.env whole = (do let v ← whole; standAt a.pos; holding [v] (truthy v)) := by intro _; rfl) : PT X a (tTE (kt X) W (qTE sa)) := pt_imp (pt_truth ha he) fun _ _ _ => tru_e
variable {t u : STu} {te ue : STe} {rest : List Expr}
theorem TE_of (h : PT X a (tTU (kt X) t)) : PT X a (tTE (kt X) W (qU t)) := pt_imp h fun _ _ _ => qU_i
theorem TU_not (h : PT X a (tTU (kt X) t)) : PT X (.UnaryOp .Not a pos) (tTU (kt X) (qNot t)) := pt_imp (pt_not h) fun _ _ _ => not_u
theorem WU_or1 (h : PT X a (tTU (kt X) t)) : PW X (.BoolOp .Or [a] pos) (tTU (kt X) t) := pw_or1 h
theorem WE_or1 (h : PT X a (tTE (kt X) W te)) : PW X (.BoolOp .Or [a] pos) (tTE (kt X) W te) := pw_or1 h
theorem WU_or (h : PT X a (tTU (kt X) t)) (h2 : PW X (.BoolOp .Or (b :: rest) pos) (tTU (kt X) u)) : PW X (.BoolOp .Or (a :: b :: rest) pos) (tTU (kt X) (qOr t u)) := pw_imp (pw_or h h2) fun _ _ _ => or_u
theorem WE_or (h : PT X a (tTE (kt X) W te)) (h2 : PW X (.BoolOp .Or (b :: rest) pos) (tTE (kt X) W ue)) : PW X (.BoolOp .Or (a :: b :: rest) pos) (tTE (kt X) W (eOr te ue)) := pw_imp (pw_or h h2) fun _ _ _ => or_e
theorem U_if {c : Expr} (hc : PT X c (tTU (kt X) t)) (ha : PE X a (tU (kt X) p)) (hb : PE X b (tU (kt X) q)) : PE X (.IfExp c a b pos) (tU (kt X) (pIf t p q)) := pe_imp (pe_ifExp hc ha hb) fun _ _ _ => ifE_u
theorem E_if {c : Expr} (hc : PT X c (tTE (kt X) W te)) (ha : PE X a (tE (kt X) W sa)) (hb : PE X b (tE (kt X) W sb)) : PE X (.IfExp c a b pos) (tE (kt X) W (sIfE te sa sb)) := pe_imp (pe_ifExp hc ha hb) fun _ _ _ => ifE_e
theorem U_ix (ha : PE X a (tV (kt X) p)) (hb : PE X b (tV (kt X) q)) (hs : PlainIx b := by exact fun _ _ => rfl) : PE X (.Subscript a b pos) (tU (kt X) (p2 ixD p q)) := pe_imp (pe_ix ix_seq ha hb hs) fun _ _ _ => op_vv o2_ix
theorem E_ixNE {i : Nat} (ha : PE X a (tVar i)) (hb : PE X b (tE (kt X) W sb)) (hs : PlainIx b := by exact fun _ _ => rfl) : PE X (.Subscript a b pos) (tE (kt X) W (s2N ixD i sb)) := pe_imp (pe_ix ix_seq ha hb hs) fun _ _ _ => op_ne o2_ix
variable {es : List Expr} {pa : SAV} {ra : SA}
theorem AV_nil : PA X [] (tAV (kt X) vNil) := pa_imp pa_nil fun _ _ _ => vNil_i
theorem AU_nil : PA X [] (tAU (kt X) vNil) := pa_imp pa_nil fun _ _ _ => uNil_i
theorem A_nil : PA X [] (tA (kt X) W aNil) := pa_imp pa_nil fun _ _ _ => aNil_i
theorem AV_cons (h : PE X e (tV (kt X) p)) (hr : PA X es (tAV (kt X) pa)) (he : starEach (e :: es) X.env = (false, eval e X.env) :: starEach es X.env := by rfl) : PA X (e :: es) (tAV (kt X) (vCons p pa)) := pa_imp (pa_cons h hr he) fun _ _ _ => vCons_i
theorem AU_cons (h : PE X e (tU (kt X) p)) (hr : PA X es (tAU (kt X) pa)) (he : starEach (e :: es) X.env = (false, eval e X.env) :: starEach es X.env := by rfl) : PA X (e :: es) (tAU (kt X) (vCons p pa)) := pa_imp (pa_cons h hr he) fun _ _ _ => uCons_i
theorem A_cons (h : PE X e (tE (kt X) W sa)) (hr : PA X es (tA (kt X) W ra)) (he : starEach (e :: es) X.env = (false, eval e X.env) :: starEach es X.env := by rfl) : PA X (e :: es) (tA (kt X) W (aE sa ra)) := pa_imp (pa_cons h hr he) fun _ _ _ => aE_i
theorem A_consN {i : Nat} (h : PE X e (tVar i)) (hr : PA X es (tA (kt X) W ra)) (he : starEach (e :: es) X.env = (false, eval e X.env) :: starEach es X.env := by rfl) : PA X (e :: es) (tA (kt X) W (aN i ra)) := pa_imp (pa_cons h hr he) fun _ _ _ => aN_i
theorem U_tup {n : Nat} (h : PA X es (tAU (kt X) pa)) : PE X (.Tuple es n pos) (tU (kt X) (pTup pa)) := pe_imp (pe_tup h) fun _ _ _ => tup_u
theorem U_lst (h : PA X es (tAU (kt X) pa)) : PE X (.List es pos) (tU (kt X) (pLst pa)) := pe_imp (pe_lst h) fun _ _ _ => lst_u
end
end T
set_option Elab.async false
set_option linter.all false
set_option maxRecDepth 100000
set_option maxHeartbeats 4000000
namespace T
open PySem PySem.Spec PyProof.Rows L2
def lenD : List D → Option D
  | [.lst _ ms] => some (.int ms.length)
  | [.tup ms] => some (.int ms.length)
  | [.klst ms] => some (.int ms.length)
  | [.str s] => if s.length ≤ sizeLine then some (.int s.length) else none
  | _ => none
abbrev rLenA (K : PySem.W.Frag) : RC := fun xs H Q => (∃ p ys, xs = [.ref p] ∧ (SqL K H p ys ∨ SqT K H p ys) ∧ Q (.int ys.length) H) ∨ (∃ z, xs = [.str z] ∧ z.length ≤ sizeLine ∧ Q (.int z.length) H)
theorem cr_lenA {X : Cx} : CallR X (.builtin "len") (rLenA X.K) := CallR.or call_len_seq call_len_str
theorem one_of {C : Kt} {H : Hp} {m : D} {vs : List V} {fp : List Addr} (x : RPs C H [m] vs fp) : ∃ v, vs = [v] ∧ RP C H m v fp := by
  obtain ⟨v, vr, f1, f2, rfl, rfl, x1, rfl, rfl⟩ := x
  exact ⟨v, rfl, by simpa using x1⟩
theorem two_of {C : Kt} {H : Hp} {m n : D} {vs : List V} {fp : List Addr} (x : RPs C H [m, n] vs fp) : ∃ v w f g, vs = [v, w] ∧ RP C H m v f ∧ RP C H n w g := by
  obtain ⟨v, vr, f1, f2, rfl, rfl, x1, x2⟩ := x
  obtain ⟨w, rfl, y2⟩ := one_of x2
  exact ⟨v, w, f1, f2, rfl, x1, y2⟩
theorem cd_len {C : Kt} : CallD C (rLenA C.K) lenD := by
  intro H ms vs fp m x e Q k
  unfold lenD at e
  split at e
  · cases e
    obtain ⟨v, rfl, a, ws, g, rfl, a1, r1⟩ := one_of x
    refine .inl ⟨a, ws, rfl, .inl a1.seqL, ?_⟩
    rw [← r1.len]; exact int_res k
  · cases e
    obtain ⟨v, rfl, a, ws, rfl, a1, r1⟩ := one_of x
    refine .inl ⟨a, ws, rfl, .inr (SqT.of a1), ?_⟩
    rw [← r1.len]; exact int_res k
  · cases e
    obtain ⟨v, rfl, a, ws, rfl, _, a1, r1⟩ := one_of x
    refine .inl ⟨a, ws, rfl, .inl a1.seqL, ?_⟩
    rw [← r1.len]; exact int_res k
  · split at e
    · cases e
      obtain ⟨v, rfl, rfl, _⟩ := one_of x
      exact .inr ⟨_, rfl, by assumption, int_res k⟩
    · cases e
  · cases e
def intD : List D → Option D
  | [.int i] => some (.int i)
  | [.bl b] => some (.int (if b then 1 else 0))
  | [.str a] => (match PySem.intText? a with
    | some n => if a.length ≤ 640 then some (.int n) else none
    | none => none)
  | _ => none
abbrev rIntA : RC := fun xs H Q => ((∃ i, xs = [.int i] ∧ Q (.int i) H) ∨ ∃ k, xs = [.bl k] ∧ Q (.int (if k then 1 else 0)) H) ∨ (∃ a n, xs = [.str a] ∧ PySem.intText? a = some n ∧ a.length ≤ 640 ∧ Q (.int n) H)
theorem cr_intA {X : Cx} : CallR X (.type "int") rIntA := CallR.or call_int1 call_int_str
theorem cd_int {C : Kt} : CallD C rIntA intD := by
  intro H ms vs fp m x e Q k
  unfold intD at e
  split at e
  · cases e
    obtain ⟨v, rfl, rfl, _⟩ := one_of x
    exact .inl (.inl ⟨_, rfl, int_res k⟩)
  · cases e
    obtain ⟨v, rfl, rfl, _⟩ := one_of x
    exact .inl (.inr ⟨_, rfl, int_res k⟩)
  · split at e
    · rename_i n q
      split at e
      · cases e
        obtain ⟨v, rfl, rfl, _⟩ := one_of x
        exact .inr ⟨_, n, rfl, q, by assumption, int_res k⟩
      · cases e
    · cases e
  · cases e
def absD : List D → Option D
  | [.int i] => some (.int (if i < 0 then -i else i))
  | _ => none
theorem cd_abs {C : Kt} : CallD C (fun xs H Q => ∃ i, xs = [.int i] ∧ Q (.int (if i < 0 then -i else i)) H) absD := by
  intro H ms vs fp m x e Q k
  unfold absD at e
  split at e
  · cases e
    obtain ⟨v, rfl, rfl, _⟩ := one_of x
    exact ⟨_, rfl, int_res k⟩
  · cases e
def max2D : List D → Option D
  | [.int i, .int j] => some (.int (if j > i then j else i))
  | _ => none
def min2D : List D → Option D
  | [.int i, .int j] => some (.int (if j < i then j else i))
  | _ => none
theorem cd_max2 {C : Kt} : CallD C (fun xs H Q => ∃ i j, xs = [.int i, .int j] ∧ Q (.int (if j > i then j else i)) H) max2D := by
  intro H ms vs fp m x e Q k
  unfold max2D at e
  split at e
  · cases e
    obtain ⟨v, w, f, g, rfl, ⟨rfl, _⟩, ⟨rfl, _⟩⟩ := two_of x
    exact ⟨_, _, rfl, int_res k⟩
  · cases e
theorem cd_min2 {C : Kt} : CallD C (fun xs H Q => ∃ i j, xs = [.int i, .int j] ∧ Q (.int (if j < i then j else i)) H) min2D := by
  intro H ms vs fp m x e Q k
  unfold min2D at e
  split at e
  · cases e
    obtain ⟨v, w, f, g, rfl, ⟨rfl, _⟩, ⟨rfl, _⟩⟩ := two_of x
    exact ⟨_, _, rfl, int_res k⟩
  · cases e
def tupleD : List D → Option D
  | [.lst _ ms] => if fzs ms then some (.tup ms) else none
  | [.tup ms] => if fzs ms then some (.tup ms) else none
  | _ => none
theorem cd_tuple {C : Kt} : CallD C (fun xs H Q => ∃ p ys, xs = [.ref p] ∧ ((SqL C.K H p ys ∧ ∀ l, H l = none → Q (.ref l) (upd H l (.tup ys))) ∨ (SqT C.K H p ys ∧ Q (.ref p) H))) tupleD := by
  intro H ms vs fp m x e Q k
  unfold tupleD at e
  split at e
  · split at e
    · rename_i hz
      cases e
      obtain ⟨v, rfl, a, ws, g, rfl, a1, r1⟩ := one_of x
      exact ⟨a, ws, rfl, .inl ⟨a1.seqL, fun l hl => tup_res (r1.fzAll hz) hl k⟩⟩
    · cases e
  · split at e
    · rename_i hz
      cases e
      obtain ⟨v, rfl, a, ws, rfl, a1, r1⟩ := one_of x
      have y : RP C H (.tup _) (.ref a) [] := ⟨a, ws, rfl, a1, r1.fzAll hz⟩
      exact ⟨a, ws, rfl, .inr ⟨SqT.of a1, fz_res y k⟩⟩
    · cases e
  · cases e
def listD : List D → Option D
  | [.lst _ ms] => if fzs ms then some (.lst true ms) else none
  | [.tup ms] => if fzs ms then some (.lst true ms) else none
  | _ => none
def boolsL : List D → Option (List Bool)
  | [] => some []
  | .bl b :: r => (boolsL r).map (b :: ·)
  | _ :: _ => none
theorem bools_ok {C : Kt} {H : Hp} : ∀ {ms : List D} {vs : List V} {fp : List Addr} {bs : List Bool}, RPs C H ms vs fp → boolsL ms = some bs → vs = bs.map V.bl
  | [], _, _, _, x, e => by obtain ⟨rfl, _⟩ := x; cases e; rfl
  | .bl b :: r, _, _, _, x, e => by
    obtain ⟨v, vr, f1, f2, rfl, rfl, ⟨rfl, _⟩, x2⟩ := x
    unfold boolsL at e
    cases q : boolsL r with
    | none => rw [q] at e; cases e
    | some bs => rw [q] at e; cases e; rw [bools_ok x2 q]; rfl
  | .non :: _, _, _, _, _, e | .int _ :: _, _, _, _, _, e | .str _ :: _, _, _, _, _, e | .tup _ :: _, _, _, _, _, e | .lst _ _ :: _, _, _, _, _, e | .dct _ _ :: _, _, _, _, _, e | .klst _ :: _, _, _, _, _, e | .ins _ _ _ :: _, _, _, _, _, e | .exc _ _ :: _, _, _, _, _, e | .tbs _ :: _, _, _, _, _, e => by cases e
def allD : List D → Option D
  | [.lst _ ms] => (boolsL ms).map fun bs => .bl (bs.all id)
  | _ => none
def anyD : List D → Option D
  | [.lst _ ms] => (boolsL ms).map fun bs => .bl (bs.any id)
  | _ => none
theorem cd_all {C : Kt} : CallD C (rAll C.K) allD := by
  intro H ms vs fp m x e Q k
  unfold allD at e
  split at e
  · rename_i o ms
    cases q : boolsL ms with
    | none => rw [q] at e; cases e
    | some bs =>
      rw [q] at e; cases e
      obtain ⟨v, rfl, a, ws, g, rfl, a1, r1⟩ := one_of x
      exact ⟨a, bs, rfl, by rw [← bools_ok r1 q]; exact a1.seqL, bl_res k⟩
  · cases e
theorem cd_any {C : Kt} : CallD C (rAny C.K) anyD := by
  intro H ms vs fp m x e Q k
  unfold anyD at e
  split at e
  · rename_i o ms
    cases q : boolsL ms with
    | none => rw [q] at e; cases e
    | some bs =>
      rw [q] at e; cases e
      obtain ⟨v, rfl, a, ws, g, rfl, a1, r1⟩ := one_of x
      exact ⟨a, bs, rfl, by rw [← bools_ok r1 q]; exact a1.seqL, bl_res k⟩
  · cases e
section
variable {X : Cx} {W : WXT} {e : Expr} {es : List Expr} {p pos : Pos} {pa : SAV} {ra : SA} {x : Str}
/-- a built-in by its name -/
theorem U_bi {id : String} {r : RC} {f : List D → Option D} (hc : CallR X (.builtin id) r) (h : CallD (kt X) r f) (hg : Gl X x) (hm : X.mg x = none) (hv : bootBuiltins x = some (.builtin id)) (ha : PA X (e :: es) (tAV (kt X) pa)) (hn : x ≠ "__name__" := by decide) (hdb : (x == ("__debug__" : Str)) = false := by decide)
    (he : starEach (e :: es) X.env = (false, eval e X.env) :: starEach es X.env := by rfl) (hpl : (backTo pos (starEach es X.env)).any (·.1) = false := by rfl) :
    PE X (.Call (.Name x p) (e :: es) [] pos) (tU (kt X) (pC f pa)) := pe_imp (pe_callB hc hg hm hv ha hn hdb he hpl) fun _ _ _ => cb_v h
theorem E_bi {id : String} {r : RC} {f : List D → Option D} (hc : CallR X (.builtin id) r) (h : CallD (kt X) r f) (hg : Gl X x) (hm : X.mg x = none) (hv : bootBuiltins x = some (.builtin id)) (ha : PA X (e :: es) (tA (kt X) W ra)) (hn : x ≠ "__name__" := by decide) (hdb : (x == ("__debug__" : Str)) = false := by decide)
    (he : starEach (e :: es) X.env = (false, eval e X.env) :: starEach es X.env := by rfl) (hpl : (backTo pos (starEach es X.env)).any (·.1) = false := by rfl) :
    PE X (.Call (.Name x p) (e :: es) [] pos) (tE (kt X) W (sC f ra)) := pe_imp (pe_callB hc hg hm hv ha hn hdb he hpl) fun _ _ _ => cb_e h
theorem U_ty {id : String} {r : RC} {f : List D → Option D} (hc : CallR X (.type id) r) (h : CallD (kt X) r f) (hg : Gl X x) (hm : X.mg x = none) (hv : bootBuiltins x = some (.type id)) (ha : PA X (e :: es) (tAV (kt X) pa)) (hn : x ≠ "__name__" := by decide) (hdb : (x == ("__debug__" : Str)) = false := by decide)
    (he : starEach (e :: es) X.env = (false, eval e X.env) :: starEach es X.env := by rfl) (hpl : (backTo pos (starEach es X.env)).any (·.1) = false := by rfl) :
    PE X (.Call (.Name x p) (e :: es) [] pos) (tU (kt X) (pC f pa)) := pe_imp (pe_callTy hc hg hm hv ha hn hdb he hpl) fun _ _ _ => cb_v h
theorem E_ty {id : String} {r : RC} {f : List D → Option D} (hc : CallR X (.type id) r) (h : CallD (kt X) r f) (hg : Gl X x) (hm : X.mg x = none) (hv : bootBuiltins x = some (.type id)) (ha : PA X (e :: es) (tA (kt X) W ra)) (hn : x ≠ "__name__" := by decide) (hdb : (x == ("__debug__" : Str)) = false := by decide)
    (he : starEach (e :: es) X.env = (false, eval e X.env) :: starEach es X.env := by rfl) (hpl : (backTo pos (starEach es X.env)).any (·.1) = false := by rfl) :
    PE X (.Call (.Name x p) (e :: es) [] pos) (tE (kt X) W (sC f ra)) := pe_imp (pe_callTy hc hg hm hv ha hn hdb he hpl) fun _ _ _ => cb_e h
end
/-- x is a def of the text whose meaning is F (called by position, the last arguments dms by default) -/
structure Df (P : Program) (w : World) (K : PySem.W.Frag) (mg : Str → Option Value) (base : Heap) (k : Nat) (x : Str) (F : SF) : Prop where
  ex : ∃ f fd ps, FnOk P w K mg base (L2.CX P w) k f fd ps (spF ⟨K, mg⟩ F) ∧ mg x = some (.ref f) ∧ PySem.W.keepIn K (.ref f) = true ∧ Binds K fd ps []
section
variable {X : Cx} {W : WXT} {e : Expr} {es : List Expr} {p pos : Pos} {ra : SA} {x : Str} {k j : Nat} {F : SF}
theorem E_call (d : Df X.prog X.w X.K X.mg X.base k x F) (hr : Room j X.A) (hk : k ≤ j) (tk : Takes X W) (hg : Gl X x) (ha : PA X (e :: es) (tA (kt X) W ra)) (hdb : (x == ("__debug__" : Str)) = false := by decide)
    (he : starEach (e :: es) X.env = (false, eval e X.env) :: starEach es X.env := by rfl) (hpl : (backTo pos (starEach es X.env)).any (·.1) = false := by rfl) :
    PE X (.Call (.Name x p) (e :: es) [] pos) (tE (kt X) W (sCallA F ra)) := by
  obtain ⟨f, fd, ps, G, hm, hkp, hb⟩ := d.ex
  exact pe_imp (pe_callS G (hr.mono hk) hg hm hkp hb (fun σ => passAt tk σ) ha hdb he hpl) fun _ _ _ => call_i
end
theorem pg_imp {X : Cx} {e : Expr} {t t' : TG} (h : PG X e t) (f : ∀ v σ H Q, t' v σ H Q → t v σ H Q) : PG X e t' := ⟨fun pins s σ H v u Q I r q => h.run pins s σ H v u Q I r (f v σ H Q q)⟩
theorem pgs_imp {X : Cx} {e : List Expr} {t t' : TGs} (h : PGs X e t) (f : ∀ v σ H Q, t' v σ H Q → t v σ H Q) : PGs X e t' := ⟨fun pins s σ H v u Q I r q => h.run pins s σ H v u Q I r (f v σ H Q q)⟩
theorem pts_imp {X : Cx} {e : List Expr} {t t' : TT} (h : PTs X e t) (f : ∀ σ H Q, t' σ H Q → t σ H Q) : PTs X e t' := ⟨fun pins s σ H Q I q => h.run pins s σ H Q I (f σ H Q q)⟩
end T
set_option Elab.async false
set_option linter.all false
set_option maxRecDepth 100000
set_option maxHeartbeats 4000000
namespace T
open PySem PySem.Spec PyProof.Rows L2
def qYes : STu := fun _ => some true
def eYes : STe := fun env => some (.ok true, env)
theorem yes_u {C : Kt} {σ : L2.St} {H : Hp} {Q : Bool → Hp → Prop} (x : tTU C qYes σ H Q) : tYes σ H Q := by
  obtain ⟨env, fp, b, r, e, k⟩ := x
  cases e
  exact k H (Same.refl H)
theorem yes_e {C : Kt} {W : WXT} {σ : L2.St} {H : Hp} {Q : Bool → Hp → Prop} (x : tTE C W eYes σ H Q) : tYes σ H Q := by
  obtain ⟨env, fp, r, nd, k⟩ := x
  exact k H fp r nd (Mv.refl H fp)
section
variable {X : Cx} {W : WXT} {e tg it elt : Expr} {pos : Pos} {p : SV} {sa : SE} {kp : Nat → Bool}
theorem GU_name {i : Nat} {x : Str} (hN : X.N.Nodup) (hi : X.N[i]? = some x) (hx : Loc X.env.scope x) (hk : kp i = false) (hf : X.fn x = true ∨ X.env.scope.names.lookup x = some .local := by first | exact .inl rfl | exact .inr rfl | assumption) : PG X (.Name x pos) (tGU (kt X) kp (bName i)) := pg_imp (pg_name hN hi hx hf) fun _ _ _ _ => bName_u hk
theorem G_name {i : Nat} {x : Str} (hN : X.N.Nodup) (hi : X.N[i]? = some x) (hx : Loc X.env.scope x) (hk : kp i = false) (hf : X.fn x = true ∨ X.env.scope.names.lookup x = some .local := by first | exact .inl rfl | exact .inr rfl | assumption) : PG X (.Name x pos) (tG (kt X) kp (bName i)) := pg_imp (pg_name hN hi hx hf) fun _ _ _ _ => bName_i hk
theorem Gs_nil : PGs X [] (tGs (kt X) kp bNil) := pgs_imp pgs_nil fun _ _ _ _ => bNil_i
theorem Gs_cons {es : List Expr} {b : Bd} {r : Bds} (h : PG X e (tG (kt X) kp b)) (hr : PGs X es (tGs (kt X) kp r)) (hs : (assignEach (e :: es) X.env).map (·.2) = assign e X.env :: (assignEach es X.env).map (·.2) := by rfl) : PGs X (e :: es) (tGs (kt X) kp (bCons b r)) := pgs_imp (pgs_cons h hr hs) fun _ _ _ _ => bCons_i
theorem G_tup {es : List Expr} {k n : Nat} {b : Bds} (hc : X.calm = true) (h : PGs X es (tGs (kt X) kp b)) (hn : (assignEach es X.env).length = n := by rfl) (hst : (assignEach es X.env).findIdx? (·.1) = none := by rfl) : PG X (.Tuple es k pos) (tG (kt X) kp (bTup n b)) := pg_imp (pg_tup hc h hn hst) fun _ _ _ _ => bTup_i
theorem IV_of {pa : SAV} (h : PI X tg it (tIU (kt X) pa)) : PI X tg it (tIV (kt X) pa) := pi_imp h fun _ _ _ => iV_of
theorem IU_seq (h : PE X it (tU (kt X) p)) : PI X tg it (tIU (kt X) (iP p)) := pi_imp (pi_seq h) fun _ _ _ => iP_u
theorem IE_of {pa : SAV} (h : PI X tg it (tIU (kt X) pa)) : PI X tg it (tI (kt X) W (iU pa)) := pi_imp h fun _ _ _ => iU_i
theorem IU_rng1 {a : Expr} {pa : SAV} {p pos : Pos} (hg : Gl X "range") (hm : X.mg "range" = none) (ha : PA X [a] (tAV (kt X) pa)) (hs : starEach [a] X.env = [(false, eval a X.env)] := by rfl) : PI X tg (.Call (.Name "range" p) [a] [] pos) (tIU (kt X) (iRgU rng1D pa)) := pi_imp (pi_range1 hg hm ha hs) fun _ _ _ => rg_u ic_rng1
theorem IE_rng1 {a : Expr} {ra : SA} {p pos : Pos} (hg : Gl X "range") (hm : X.mg "range" = none) (ha : PA X [a] (tA (kt X) W ra)) (hs : starEach [a] X.env = [(false, eval a X.env)] := by rfl) : PI X tg (.Call (.Name "range" p) [a] [] pos) (tI (kt X) W (iRg rng1D ra)) := pi_imp (pi_range1 hg hm ha hs) fun _ _ _ => rg_i ic_rng1
variable {ifs : List Expr} {scope : Scope} {own : List (Str × Nat)}
theorem U_lc {pa : SAV} {b : Bd} {t : STu} (hc : X.calm = true) (hN : X.N.Nodup) (ok : BlkOk X.N X.env.scope scope own) (hi : PI X tg it (tIV (kt X) pa))
    (hg : ∀ (s : Shared) (H : Hp) (C : Addr) (cl : List (Str × Addr)) (fp : List Addr), PG (X.blk s H scope (compEnvC scope cl C X.env) fp) tg (tGU (kt X) (kpOwn (own.map (·.2))) b))
    (ht : ∀ (s : Shared) (H : Hp) (C : Addr) (cl : List (Str × Addr)) (fp : List Addr), PTs (X.blk s H scope (compEnvC scope cl C X.env) fp) ifs (tTU (kt X) t))
    (he : ∀ (s : Shared) (H : Hp) (C : Addr) (cl : List (Str × Addr)) (fp : List Addr), PE (X.blk s H scope (compEnvC scope cl C X.env) fp) elt (tU (kt X) p))
    (hs : ∀ x, foldedSetIterable it X.env x = pure x := by intro _; rfl) : PE X (.ListComp elt [⟨tg, it, ifs, 0⟩] scope pos) (tU (kt X) (pLc (own.map (·.2)) pa b t p)) := pe_imp (pe_lc hc hN hi ok hg ht he hs) fun _ _ _ => lc_u
theorem E_lc {ia : SI} {b : Bd} {t : STe} (hc : X.calm = true) (hN : X.N.Nodup) (ok : BlkOk X.N X.env.scope scope own) (hi : PI X tg it (tI (kt X) W ia))
    (hg : ∀ (s : Shared) (H : Hp) (C : Addr) (cl : List (Str × Addr)) (fp : List Addr), PG (X.blk s H scope (compEnvC scope cl C X.env) fp) tg (tG (kt X) (kpOwn (own.map (·.2))) b))
    (ht : ∀ (s : Shared) (H : Hp) (C : Addr) (cl : List (Str × Addr)) (fp : List Addr), PTs (X.blk s H scope (compEnvC scope cl C X.env) fp) ifs (tTE (kt X) W0 t))
    (he : ∀ (s : Shared) (H : Hp) (C : Addr) (cl : List (Str × Addr)) (fp : List Addr), PE (X.blk s H scope (compEnvC scope cl C X.env) fp) elt (tE (kt X) W0 sa))
    (hs : ∀ x, foldedSetIterable it X.env x = pure x := by intro _; rfl) : PE X (.ListComp elt [⟨tg, it, ifs, 0⟩] scope pos) (tE (kt X) W (sLc (own.map (·.2)) ia b t sa)) := pe_imp (pe_lc hc hN hi ok hg ht he hs) fun _ _ _ => lc_i
theorem PsU_nil : PTs X [] (tTU (kt X) qYes) := pts_imp pts_nil fun _ _ _ => yes_u
theorem PsE_nil : PTs X [] (tTE (kt X) W eYes) := pts_imp pts_nil fun _ _ _ => yes_e
variable {st : Stmt} {rest : List Stmt} {s u : SS}
theorem S_cons (h : PS X st (tS (kt X) kp W s)) (hr : PSs X rest (tS (kt X) kp W u)) : PSs X (st :: rest) (tS (kt X) kp W (sSeq s u)) := pss_imp (pss_cons h hr) fun _ _ _ => seq_i
theorem S_one (h : PS X st (tS (kt X) kp W s)) : PSs X [st] (tS (kt X) kp W s) := pss_one h
theorem S_nil : PSs X [] (tS (kt X) kp W sPass) := pss_imp pss_nil fun _ _ _ => pass_i
theorem S_ret (h : PE X e (tE (kt X) W sa)) : PS X (.Return (some e) pos) (tS (kt X) kp W (sRet sa)) := ps_imp (ps_ret h) fun _ _ _ => ret_i
theorem S_expr (h : PE X e (tE (kt X) W sa)) (hs : swapsWith e none pos.line X.env = pure false := by rfl) : PS X (.Expr e pos) (tS (kt X) kp W (sDrop sa)) := ps_imp (ps_expr h hs) fun _ _ _ => drop_i
theorem S_if {c : Expr} {a b : List Stmt} {t : STe} (hc : PT X c (tTE (kt X) W t)) (ha : PSs X a (tS (kt X) kp W s)) (hb : PSs X b (tS (kt X) kp W u)) : PS X (.If c a b pos) (tS (kt X) kp W (sIf t s u)) := ps_imp (ps_if hc ha hb) fun _ _ _ => if_i
theorem S_set {i : Nat} {x : Str} {pos' : Pos} (hN : X.N.Nodup) (hi : X.N[i]? = some x) (hx : Loc X.env.scope x) (hk : kp i = false) (he : PE X e (tE (kt X) W sa)) (hs : swapsWith e (some (.Name x pos')) pos.line X.env = pure false := by rfl) (hf : X.fn x = true ∨ X.env.scope.names.lookup x = some .local := by first | exact .inl rfl | exact .inr rfl | assumption) :
    PS X (.Assign [.Name x pos'] e pos) (tS (kt X) kp W (sSet i sa)) := ps_imp (ps_set hN hi hx he hs hf) fun _ _ _ => set_i hk
theorem S_for {ia : SI} {b : Bd} {body : List Stmt} (hp : PassesOwn (model X.prog X.w) X.A X.env X.xe) (hc : X.calm = true) (hi : PI X tg it (tI (kt X) W ia)) (hg : PG X tg (tG (kt X) kp b)) (hb : PSs X body (tS (kt X) kp W s))
    (hs : ∀ x, foldedSetIterable it X.env x = pure x := by intro _; rfl) : PS X (.For tg it body [] pos) (tS (kt X) kp W (sFor ia b s)) := ps_imp (ps_for hp hc hi hg hb hs) fun _ _ _ => for_i
theorem S_setIx {i : Nat} {o ix : Expr} {q : SV} {tp : Pos} (he : PE X e (tE (kt X) W sa)) (ho : PE X o (tVar i)) (hi : PE X ix (tV (kt X) q))
    (hs : swapsWithSole [.Subscript o ix tp] e pos.line X.env = pure false := by rfl) (hw : swappedStores [.Subscript o ix tp] e X.env = pure none := by rfl) (h1 : (assignEach [.Subscript o ix tp] X.env).map (·.2) = [assign (.Subscript o ix tp) X.env] := by rfl)
    (ha : ∀ v, assign (.Subscript o ix tp) X.env v = (do
      let ov ← holding [v] (eval o X.env)
      let iv ← holding [v, ov] (eval ix X.env)
      standAt tp
      holding [v, ov, iv] (setItem ov iv v)
      release [v, ov, iv] []) := by intro _; rfl) :
    PS X (.Assign [.Subscript o ix tp] e pos) (tS (kt X) kp W (sSetIx i sa q)) := ps_imp (ps_asg he (pg_sub ho hi set_list ha) hs hw h1) fun _ _ _ => setIx_i
theorem E_lm {i : Nat} {r : V → List V → Hp → VK → Prop} {f : List D → D → Option (D × List D)} (hf : LstM (kt X) r f) (h : PE X e (tBM X.K "list" r (tVar i) (tCons (tE (kt X) W sa) tNil))) : PE X e (tE (kt X) W (sLstM i sa f)) := pe_imp h fun _ _ _ => lstM_i hf
theorem E_of (h : PE X e (tU (kt X) p)) : PE X e (tE (kt X) W (sU p)) := eOfU h
theorem E_move {i : Nat} (h : PE X e (tVar i)) : PE X e (tE (kt X) W (sMove i)) := eMove i h
theorem V_of (h : PE X e (tU (kt X) p)) : PE X e (tV (kt X) p) := vOfU h
theorem S_par2 {i j : Nat} {x y : Str} {a b : Expr} {ra : SA} {px py pt : Pos} {k1 k2 pt2} (hc : X.calm = true) (hN : X.N.Nodup) (hi : X.N[i]? = some x) (hj : X.N[j]? = some y) (hij : i ≠ j)
    (hx : X.env.scope.names.lookup x = some .local) (hy : X.env.scope.names.lookup y = some .local) (ki : kp i = false) (kj : kp j = false) (ha : PA X [a, b] (tA (kt X) W ra))
    (hw : swappedStores [.Tuple [.Name x px, .Name y py] k1 pt] (.Tuple [a, b] k2 pt2) X.env = pure (some [x, y]) := by rfl)
    (hs : swapsWithSole [.Tuple [.Name x px, .Name y py] k1 pt] (.Tuple [a, b] k2 pt2) pos.line X.env = pure false := by rfl) :
    PS X (.Assign [.Tuple [.Name x px, .Name y py] k1 pt] (.Tuple [a, b] k2 pt2) pos) (tS (kt X) kp W (sPar [i, j] ra)) := ps_imp (ps_par hc hN hi hj hij hx hy ha hw hs) fun _ _ _ => par2_i ki kj
end
def isNon : D → Bool
  | .non => true
  | .tbs _ => true
  | _ => false
def isD (x y : D) : Option D := match y with
  | .non => some (.bl (isNon x))
  | _ => none
def isNotD (x y : D) : Option D := match y with
  | .non => some (.bl (!isNon x))
  | _ => none
theorem hu64 {A : Around} {k : Nat} (hr : Room k A) : A.units + 64 < cLine := hr.units
def kpL (l : List Nat) : Nat → Bool := fun i => l.contains i
theorem kpL_lt {l : List Nat} {n : Nat} (h : l.all (fun i => decide (i < n)) = true) : ∀ i, kpL l i = true → i < n := fun i hi => by
  have := List.all_eq_true.mp h i (by simpa [kpL] using hi)
  exact of_decide_eq_true this
end T
set_option Elab.async false
set_option linter.all false
set_option maxRecDepth 100000
set_option maxHeartbeats 4000000
namespace T
open PySem PySem.Spec PyProof.Rows L2
def pFld (L : List Str) (f : Str) (p : SV) : SV := fun env => match p env with
  | some (.ins _ c fs) => if L.contains c then fs.lookup f else none
  | _ => none
theorem RPf.look {C : Kt} {H : Hp} {f : Str} {m : D} : ∀ {fs : List (Str × D)} {ws : List (Str × V)} {fp : List Addr}, RPf C H fs ws fp → fs.lookup f = some m → ∃ v fm, ws.lookup f = some v ∧ RP C H m v fm
  | [], _, _, _, e => by cases e
  | (k, x) :: r, _, _, h, e => by
    obtain ⟨v, wr, f1, f2, rfl, rfl, h1, h2⟩ := h
    rw [List.lookup_cons] at e ⊢
    cases hk : (f == k) with
    | true =>
      rw [hk] at e
      cases e
      exact ⟨v, f1, rfl, h1⟩
    | false =>
      rw [hk] at e
      exact RPf.look h2 e
def pAndV (p q : SV) : SV := fun env => match p env with
  | some (.bl true) => q env
  | some (.bl false) => some (.bl false)
  | _ => none
def pOrV (p q : SV) : SV := fun env => match p env with
  | some (.bl false) => q env
  | some (.bl true) => some (.bl true)
  | _ => none
def sAndV (a b : SE) : SE := sBind a fun x => match x with
  | .bl true => b
  | .bl false => sOk (.bl false)
  | _ => fun _ => none
/-- one-place operations -/
def Op1 (C : Kt) (r : V → Hp → VK → Prop) (f : D → Option D) : Prop := ∀ (H : Hp) (x : D) (v : V) (f1 : List Addr) (m : D), RP C H x v f1 → f x = some m →
  ∀ Q : VK, (∀ w H' fm, Same H H' → RP C H' m w fm → fm.Nodup → (∀ a ∈ fm, H a = none) → Q w H') → r v H Q
def p1 (f : D → Option D) (p : SV) : SV := fun env => (p env).bind f
theorem un_v {C : Kt} {σ : L2.St} {H : Hp} {Q : VK} {r : V → Hp → VK → Prop} {f : D → Option D} (h : Op1 C r f) {p : SV} (x : tU C (p1 f p) σ H Q) : tUn r (tV C p) σ H Q := by
  obtain ⟨env, fp, m, e, hm, k⟩ := x
  unfold p1 at hm
  cases q : p env with
  | none => rw [q] at hm; cases hm
  | some z =>
    rw [q] at hm
    exact ⟨env, fp, z, e, q, fun v H1 f1 s1 x1 => h H1 z v f1 m x1 hm Q fun w H3 fm s3 x3 n3 fr => k w H3 fm (s1.trans s3) x3 n3 fun a ha => s1.free (fr a ha)⟩
def negD : D → Option D
  | .int i => some (.int (-i))
  | _ => none
theorem o1_neg {C : Kt} : Op1 C (rU fun i => .int (-i)) negD := by
  intro H x v f1 m h e Q k
  unfold negD at e
  split at e
  · cases e
    obtain ⟨rfl, _⟩ := h
    exact ⟨_, rfl, int_res k⟩
  · cases e
section
variable {X : Cx} {W : WXT} {e a b : Expr} {rest : List Expr} {pos : Pos} {p q : SV} {sa sb : SE}
theorem U_neg (ha : PE X a (tV (kt X) p)) : PE X (.UnaryOp .USub a pos) (tU (kt X) (p1 negD p)) := pe_imp (pe_un un_neg ha) fun _ _ _ => un_v o1_neg
end
def s1 (f : D → Option D) (a : SE) : SE := sBind a fun x => sOpt (f x)
end T
set_option Elab.async false
set_option linter.all false
set_option maxRecDepth 100000
set_option maxHeartbeats 4000000
namespace T
open PySem PySem.Spec PyProof.Rows L2
def tyN : D → Option String
  | .non => some "NoneType"
  | .bl _ => some "bool"
  | .int _ => some "int"
  | .str _ => some "str"
  | .tup _ => some "tuple"
  | .lst _ _ => some "list"
  | .klst _ => none
  | .dct _ _ => some "dict"
  | .ins _ _ _ => none
  | .exc _ _ => none
  | .tbs _ => none
theorem At.rdd {o : Bool} {H : Hp} {a : Addr} {u : HO} {f g : List Addr} (h : At o H a u f g) : Rd H a u := by
  cases o with
  | true => exact .inl h.1
  | false => exact .inr h.1
theorem kit_D {X : Cx} {pins : List (Addr × Obj)} {σ : L2.St} {H : Hp} {s : Shared} {m : D} {v : V} {f : List Addr} {u : Value} {t : String} (I : Inv X pins σ H s) (x : RP (kt X) H m v f) (r : RelV v u) (e : tyN m = some t) :
    ∃ P : Heap → Prop, PySem.W.KitX X.K u (.type t) P ∧ P s.heap ∧ u ≠ .builtin "__main__.__loader__#opaque" := by
  cases m with
  | non => cases e; obtain ⟨rfl, _⟩ := x; cases (show u = Value.none from r); exact ⟨_, PySem.W.kitx_none, True.intro, fun z => nomatch z⟩
  | bl y => cases e; obtain ⟨rfl, _⟩ := x; cases (show u = Value.bool y from r); exact ⟨_, PySem.W.kitx_bool, True.intro, fun z => nomatch z⟩
  | int i => cases e; obtain ⟨rfl, _⟩ := x; obtain ⟨t, q⟩ := (show ∃ t, u = Value.int i t from r); cases q; exact ⟨_, PySem.W.kitx_int, True.intro, fun z => nomatch z⟩
  | str y => cases e; obtain ⟨rfl, _⟩ := x; obtain ⟨t, q⟩ := (show ∃ t, u = Value.str y t from r); cases q; exact ⟨_, PySem.W.kitx_str, True.intro, fun z => nomatch z⟩
  | tup ms =>
    cases e
    obtain ⟨a, vs, rfl, h1, _⟩ := x
    cases (show u = Value.ref a from r)
    obtain ⟨_, _, _, o, h1, h2, _⟩ := (show ObjOk X.prog X.w H s.heap a (.tup vs) from I.hok a _ h1)
    exact ⟨_, PySem.W.kitx_tuple, ⟨o, h1, h2⟩, fun z => nomatch z⟩
  | lst o ms =>
    cases e
    obtain ⟨a, vs, g, rfl, h1, _⟩ := x
    cases (show u = Value.ref a from r)
    obtain ⟨_, _, n, _, h1⟩ := (show ObjOk X.prog X.w H s.heap a (.lst vs) from h1.rdd.ok I.hok)
    exact ⟨_, PySem.W.kitx_list, ⟨_, h1, rfl⟩, fun z => nomatch z⟩
  | klst _ => cases e
  | dct o kvs =>
    cases e
    obtain ⟨a, g, rfl, h⟩ := x
    cases (show u = Value.ref a from r)
    rcases h with ⟨ws, h1, _⟩ | ⟨ws, h1, _⟩
    · obtain ⟨_, _, vs, _, o, es, ep, h1, h2, _⟩ := (show ObjOk X.prog X.w H s.heap a (.dK ws) from h1.rdd.ok I.hok)
      exact ⟨_, PySem.W.kitx_dict, ⟨o, h1, h2.1⟩, fun z => nomatch z⟩
    · obtain ⟨_, _, xs, _, o, es, ep, h1, h2, _⟩ := (show ObjOk X.prog X.w H s.heap a (.dT ws) from h1.rdd.ok I.hok)
      exact ⟨_, PySem.W.kitx_dict, ⟨o, h1, h2.1⟩, fun z => nomatch z⟩
  | ins _ _ _ => cases e
  | exc _ _ => cases e
  | tbs _ => cases e
def MuF : HO → Prop
  | .lst _ => True
  | .dK _ => True
  | .dT _ => True
  | .set _ _ => True
  | .ins _ _ _ => True
  | _ => False
theorem MuF.mut {u : HO} (h : MuF u) : Mut (some u) := by cases u <;> first | exact trivial | exact h.elim
def FrL (H H' : Hp) (l : List Addr) : Prop := (∀ b, b ∉ l → H' b = H b) ∧ ∀ a ∈ l, ∃ od u, H a = some u ∧ MuF u ∧ H' a = some (.frz od u)
def tFrz (t : TE) : TE := fun σ H Q => ∃ l : List Addr, (∀ a ∈ l, ∃ u, H a = some u ∧ MuF u) ∧ l.Nodup ∧ ∀ H', FrL H H' l → t σ H' Q
theorem Inv.locks {X : Cx} {pins : List (Addr × Obj)} {σ : L2.St} {s : Shared} : ∀ (l : List Addr) {H : Hp}, Inv X pins σ H s → (∀ a ∈ l, ∃ u, H a = some u ∧ MuF u) → l.Nodup → ∃ H', FrL H H' l ∧ Inv X pins σ H' s
  | [], H, I, _, _ => ⟨H, ⟨fun _ _ => rfl, fun _ z => nomatch z⟩, I⟩
  | a :: l, H, I, h, nd => by
    obtain ⟨u, hu, mu⟩ := h a (by simp)
    obtain ⟨od, I1⟩ := I.lock hu mu.mut
    obtain ⟨na, nl⟩ := List.nodup_cons.mp nd
    obtain ⟨H', ⟨f1, f2⟩, I2⟩ := Inv.locks l I1 (fun b hb => by
      obtain ⟨u', e, m⟩ := h b (List.mem_cons_of_mem _ hb)
      exact ⟨u', (upd_ne (fun z : b = a => na (by rw [← z]; exact hb))).trans e, m⟩) nl
    refine ⟨H', ⟨fun b hb => ?_, fun b hb => ?_⟩, I2⟩
    · rw [f1 b fun z => hb (List.mem_cons_of_mem _ z), upd_ne (fun z => hb (by simp [z]))]
    · rcases List.mem_cons.mp hb with rfl | hb
      · exact ⟨od, u, hu, mu, by rw [f1 b na, upd_same]⟩
      · obtain ⟨od', u', e, m, e'⟩ := f2 b hb
        rw [upd_ne (fun z : b = a => na (by rw [← z]; exact hb))] at e
        exact ⟨od', u', e, m, e'⟩
theorem pe_frz {X : Cx} {e : Expr} {t : TE} (h : PE X e t) : PE X e (tFrz t) := by
  refine ⟨fun pins s σ H Q I hw => ?_⟩
  obtain ⟨l, hl, nd, k⟩ := hw
  obtain ⟨H', fr, I'⟩ := Inv.locks l I hl nd
  exact h.run pins s σ H' Q I' (k H' fr)
mutual
def fr : D → D
  | .non => .non
  | .bl b => .bl b
  | .int i => .int i
  | .str s => .str s
  | .tup ms => .tup (frs ms)
  | .lst _ ms => .lst false (frs ms)
  | .klst ms => .klst ms
  | .dct _ kvs => .dct false (frk kvs)
  | .ins _ c fs => .ins false c (frf fs)
  | .exc c m => .exc c m
  | .tbs _ => .non
def frs : List D → List D
  | [] => []
  | m :: r => fr m :: frs r
def frk : List (D × D) → List (D × D)
  | [] => []
  | (k, m) :: r => (k, fr m) :: frk r
def frf : List (Str × D) → List (Str × D)
  | [] => []
  | (k, m) :: r => (k, fr m) :: frf r
end
def Mtb (H : Hp) (a : Addr) : Prop := ∃ u, H a = some u ∧ MuF u
open Classical in
/-- what of a footprint may be locked -/
noncomputable def mtl (H : Hp) (fp : List Addr) : List Addr := fp.filter fun a => decide (Mtb H a)
theorem mem_mtl {H : Hp} {fp : List Addr} {a : Addr} : a ∈ mtl H fp ↔ a ∈ fp ∧ Mtb H a := by
  unfold mtl
  simp
theorem FrL.fixed {H H' : Hp} {l : List Addr} (h : FrL H H' l) {a : Addr} {o : HO} (e : H a = some o) (hf : Fixed o = true) : H' a = some o := by
  rw [h.1 a]
  · exact e
  · intro z
    obtain ⟨od, u, e2, m, _⟩ := h.2 a z
    rw [e] at e2
    cases e2
    cases o <;> first | exact m | cases hf
theorem FrL.st {H H' : Hp} {l f : List Addr} (h : FrL H H' l) (n : ∀ a ∈ f, a ∉ l) : St1 H H' f := fun a o e z => by
  rcases z with z | z
  · rw [h.1 a (n a z)]; exact e
  · exact h.fixed e z
theorem At.fr {o : Bool} {H H' : Hp} {l : List Addr} {a : Addr} {u : HO} {fp fp' : List Addr} (h : At o H a u fp fp') (f : FrL H H' l) (s : ∀ b ∈ fp, Mtb H b → b ∈ l) (hu : MuF u) : At false H' a u [] [] ∧ ∀ b ∈ fp', Mtb H b → b ∈ l := by
  cases o with
  | true =>
    obtain ⟨h1, rfl⟩ := h
    obtain ⟨od, u', e, m, e'⟩ := f.2 a (s a (by simp) ⟨u, h1, hu⟩)
    rw [h1] at e
    cases e
    exact ⟨⟨⟨od, e'⟩, rfl, rfl⟩, fun b hb => s b (List.mem_cons_of_mem _ hb)⟩
  | false =>
    obtain ⟨⟨ob, h1⟩, rfl, rfl⟩ := h
    exact ⟨⟨⟨ob, f.fixed h1 rfl⟩, rfl, rfl⟩, s⟩
mutual
theorem RP.fr {C : Kt} {H H' : Hp} {l : List Addr} (f : FrL H H' l) : ∀ (m : D) {v : V} {fp : List Addr}, RP C H m v fp → (∀ b ∈ fp, Mtb H b → b ∈ l) → RP C H' (T.fr m) v []
  | .non, _, _, h, _ => ⟨h.1, rfl⟩
  | .bl _, _, _, h, _ => ⟨h.1, rfl⟩
  | .int _, _, _, h, _ => ⟨h.1, rfl⟩
  | .str _, _, _, h, _ => ⟨h.1, rfl⟩
  | .tup ms, _, _, h, s => by
    unfold RP at h
    obtain ⟨a, vs, rfl, h1, h2⟩ := h
    unfold T.fr RP
    exact ⟨a, vs, rfl, f.fixed h1 rfl, RPs.fr f ms h2 s⟩
  | .lst o ms, _, _, h, s => by
    unfold RP at h
    obtain ⟨a, vs, fp', rfl, h1, h2⟩ := h
    obtain ⟨h3, s'⟩ := h1.fr f s trivial
    unfold T.fr RP
    exact ⟨a, vs, [], rfl, h3, RPs.fr f ms h2 s'⟩
  | .klst ms, _, _, h, s => by
    unfold RP at h
    obtain ⟨a, vs, rfl, h0, h1, h2⟩ := h
    unfold T.fr RP
    have st0 : St1 H H' [] := f.st fun _ z => nomatch z
    exact ⟨a, vs, rfl, rfl, h1.st st0, h2.st ms st0⟩
  | .dct o kvs, _, _, h, s => by
    unfold RP at h
    obtain ⟨a, fp', rfl, h⟩ := h
    unfold T.fr RP
    refine ⟨a, [], rfl, ?_⟩
    rcases h with ⟨ws, h1, h2⟩ | ⟨ws, h1, h2⟩
    · obtain ⟨h3, s'⟩ := h1.fr f s trivial
      exact .inl ⟨ws, h3, RPk.fr f kvs h2 s'⟩
    · obtain ⟨h3, s'⟩ := h1.fr f s trivial
      exact .inr ⟨ws, h3, RPt.fr f kvs h2 s'⟩
  | .ins o c fs, _, _, h, s => by
    unfold RP at h
    obtain ⟨a, A, dx, ws, fp', rfl, hc, h1, h2⟩ := h
    obtain ⟨h3, s'⟩ := h1.fr f s trivial
    unfold T.fr RP
    exact ⟨a, A, dx, ws, [], rfl, hc, h3, RPf.fr f fs h2 s'⟩
  | .exc c m, _, _, h, s => by
    unfold RP at h
    obtain ⟨a, A, dd, u, rfl, h0, hc, h1, h2, h3⟩ := h
    have st0 : St1 H H' [] := f.st fun _ z => nomatch z
    unfold T.fr RP
    exact ⟨a, A, dd, u, rfl, rfl, hc, f.fixed h1 rfl, f.fixed h2 rfl, h3.st m st0⟩
  | .tbs qs, _, _, h, _ => ⟨h.1, rfl⟩
theorem RPs.fr {C : Kt} {H H' : Hp} {l : List Addr} (f : FrL H H' l) : ∀ (ms : List D) {vs : List V} {fp : List Addr}, RPs C H ms vs fp → (∀ b ∈ fp, Mtb H b → b ∈ l) → RPs C H' (frs ms) vs []
  | [], _, _, h, _ => ⟨h.1, rfl⟩
  | m :: ms, _, _, h, s => by
    unfold RPs at h
    obtain ⟨v, vr, f1, f2, rfl, rfl, h1, h2⟩ := h
    unfold frs RPs
    exact ⟨v, vr, [], [], rfl, rfl, RP.fr f m h1 fun b hb => s b (List.mem_append_left _ hb), RPs.fr f ms h2 fun b hb => s b (List.mem_append_right _ hb)⟩
theorem RPk.fr {C : Kt} {H H' : Hp} {l : List Addr} (f : FrL H H' l) : ∀ (ms : List (D × D)) {ws : List (Key × V)} {fp : List Addr}, RPk C H ms ws fp → (∀ b ∈ fp, Mtb H b → b ∈ l) → RPk C H' (frk ms) ws []
  | [], _, _, h, _ => ⟨h.1, rfl⟩
  | (k, m) :: ms, _, _, h, s => by
    unfold RPk at h
    obtain ⟨y, v, vr, f1, f2, rfl, rfl, hk, h1, h2⟩ := h
    unfold frk RPk
    exact ⟨y, v, vr, [], [], rfl, rfl, hk, RP.fr f m h1 fun b hb => s b (List.mem_append_left _ hb), RPk.fr f ms h2 fun b hb => s b (List.mem_append_right _ hb)⟩
theorem RPt.fr {C : Kt} {H H' : Hp} {l : List Addr} (f : FrL H H' l) : ∀ (ms : List (D × D)) {ws : List (List Key × V)} {fp : List Addr}, RPt C H ms ws fp → (∀ b ∈ fp, Mtb H b → b ∈ l) → RPt C H' (frk ms) ws []
  | [], _, _, h, _ => ⟨h.1, rfl⟩
  | (k, m) :: ms, _, _, h, s => by
    unfold RPt at h
    obtain ⟨y, v, vr, f1, f2, rfl, rfl, hk, h1, h2⟩ := h
    unfold frk RPt
    exact ⟨y, v, vr, [], [], rfl, rfl, hk, RP.fr f m h1 fun b hb => s b (List.mem_append_left _ hb), RPt.fr f ms h2 fun b hb => s b (List.mem_append_right _ hb)⟩
theorem RPf.fr {C : Kt} {H H' : Hp} {l : List Addr} (f : FrL H H' l) : ∀ (ms : List (Str × D)) {ws : List (Str × V)} {fp : List Addr}, RPf C H ms ws fp → (∀ b ∈ fp, Mtb H b → b ∈ l) → RPf C H' (frf ms) ws []
  | [], _, _, h, _ => ⟨h.1, rfl⟩
  | (k, m) :: ms, _, _, h, s => by
    unfold RPf at h
    obtain ⟨v, vr, f1, f2, rfl, rfl, h1, h2⟩ := h
    unfold frf RPf
    exact ⟨v, vr, [], [], rfl, rfl, RP.fr f m h1 fun b hb => s b (List.mem_append_left _ hb), RPf.fr f ms h2 fun b hb => s b (List.mem_append_right _ hb)⟩
end
/-- the name's value, frozen for good -/
def sFz (i : Nat) : SE := fun env => match pVar i env with
  | some m => some (.ok (fr m), env.set i (some (fr m)))
  | none => none
theorem fz_i {C : Kt} {W : WXT} {σ : L2.St} {H : Hp} {Q : VK} {i : Nat} (x : tE C W (sFz i) σ H Q) : tFrz (tVar i) σ H Q := by
  obtain ⟨env, fp, e, nd, k⟩ := x
  unfold sFz at k
  split at k
  · rename_i m q
    obtain ⟨v, f1, f2, f3, hv, rfl, x, kk⟩ := pVar_get q e
    have n2 := List.nodup_append.mp (nd_d nd)
    refine ⟨mtl H f2, fun a ha => (mem_mtl.mp ha).2, n2.1.filter _, fun H' f => ⟨v, hv, ?_⟩⟩
    have y := x.fr f m fun b hb hm => mem_mtl.mpr ⟨hb, hm⟩
    have r := kk H' (some (T.fr m)) (some v) [] (f.st fun a ha z => n2.2.2 a (mem_mtl.mp z).1 a ha rfl) ⟨v, rfl, y⟩
    rw [set_self hv] at r
    refine k v H' [] _ y r ?_ ⟨fun a o e z => ?_, fun a ha => .inl ?_⟩
    · simpa using n2.2.1
    · by_cases hz : a ∈ mtl H f2
      · exact f.fixed e (z (by simp [(mem_mtl.mp hz).1]))
      · rw [f.1 a hz]; exact e
    · simp only [List.mem_append, List.nil_append] at ha ⊢
      grind
  · exact k.elim
theorem E_fz {X : Cx} {W : WXT} {e : Expr} {i : Nat} (h : PE X e (tVar i)) : PE X e (tE (kt X) W (sFz i)) := pe_imp (pe_frz h) fun _ _ _ => fz_i
end T
set_option Elab.async false
set_option linter.all false
set_option maxRecDepth 100000
set_option maxHeartbeats 4000000
namespace T
open PySem PySem.Spec PyProof.Rows L2
theorem st_updG {H : Hp} {a : Addr} {u u' : HO} {f : List Addr} (h : H a = some u) (hu : Fixed u = false) (n : a ∉ f) : St1 H (upd H a u') f := fun b o e z => by
  rw [upd_ne]
  · exact e
  · rintro rfl
    rcases z with z | z
    · exact n z
    · rw [h] at e; cases e; rw [hu] at z; cases z
theorem mv_updG {H : Hp} {a : Addr} {u u' : HO} {f : List Addr} (h : H a = some u) (hu : Fixed u = false) (n : a ∈ f) : Mv H (upd H a u') f f where
  keep := fun b o e z => by
    rw [upd_ne]
    · exact e
    · rintro rfl
      have := z n
      rw [h] at e; cases e; rw [hu] at this; cases this
  sub := fun _ z => .inl z
def putD (f : Str) (m : D) : List (Str × D) → List (Str × D)
  | [] => [(f, m)]
  | (g, x) :: r => if g = f then (g, m) :: r else (g, x) :: putD f m r
theorem RPf.put {C : Kt} {H : Hp} {f : Str} {m : D} {v : V} {fm : List Addr} (x : RP C H m v fm) : ∀ {fs : List (Str × D)} {ws : List (Str × V)} {g : List Addr}, RPf C H fs ws g → (g ++ fm).Nodup → ∃ g', RPf C H (putD f m fs) (putF f v ws) g' ∧ g'.Nodup ∧ ∀ b ∈ g', b ∈ g ++ fm
  | [], _, _, h, nd => by
    obtain ⟨rfl, rfl⟩ := h
    exact ⟨fm, ⟨v, [], fm, [], rfl, by simp, x, rfl, rfl⟩, by simpa using nd, fun b hb => by simpa using hb⟩
  | (k, y) :: r, _, _, h, nd => by
    obtain ⟨w, wr, f1, f2, rfl, rfl, h1, h2⟩ := h
    unfold putD putF
    by_cases hk : k = f
    · rw [if_pos hk, if_pos hk]
      refine ⟨fm ++ f2, ⟨v, wr, fm, f2, rfl, rfl, x, h2⟩, ?_, fun b hb => ?_⟩
      · simp only [List.nodup_append, List.mem_append] at nd ⊢
        grind
      · simp only [List.mem_append] at hb ⊢
        grind
    · rw [if_neg hk, if_neg hk]
      obtain ⟨g', y1, n1, s1⟩ := RPf.put x h2 (by simp only [List.nodup_append, List.mem_append] at nd ⊢; grind)
      refine ⟨f1 ++ g', ⟨w, _, f1, g', rfl, rfl, h1, y1⟩, ?_, fun b hb => ?_⟩
      · simp only [List.nodup_append, List.mem_append] at nd n1 s1 ⊢
        grind
      · simp only [List.mem_append] at hb s1 ⊢
        grind
theorem RPf.len {C : Kt} {H : Hp} : ∀ {fs : List (Str × D)} {ws : List (Str × V)} {g : List Addr}, RPf C H fs ws g → fs.length = ws.length
  | [], _, _, h => by obtain ⟨rfl, _⟩ := h; rfl
  | (k, y) :: r, _, _, h => by
    obtain ⟨w, wr, f1, f2, rfl, rfl, h1, h2⟩ := h
    simp [RPf.len h2]
theorem RPf.none {C : Kt} {H : Hp} {f : Str} : ∀ {fs : List (Str × D)} {ws : List (Str × V)} {g : List Addr}, RPf C H fs ws g → fs.lookup f = none → ws.lookup f = none
  | [], _, _, h, _ => by obtain ⟨rfl, _⟩ := h; rfl
  | (k, y) :: r, _, _, h, e => by
    obtain ⟨w, wr, f1, f2, rfl, rfl, h1, h2⟩ := h
    rw [List.lookup_cons] at e ⊢
    cases hk : (f == k) with
    | true => rw [hk] at e; cases e
    | false => rw [hk] at e; exact RPf.none h2 e
/-- self.f = e, self in slot i -/
def sSetF (L : List Str) (i : Nat) (f : Str) (s : SE) : SS := fun env => match s env with
  | some (.ok m, env1) => match pVar i env1 with
    | some (.ins true c fs) => if L.contains c ∧ fs.length < 1000 then some (.nx, env1.set i (some (.ins true c (putD f m fs)))) else none
    | _ => none
  | some (.ex c m, env1) => some (.ex c m, env1)
  | none => none
/-- one field in sight -/
theorem RPf.focus {C : Kt} {H : Hp} {f : Str} {m : D} : ∀ {fs : List (Str × D)} {ws : List (Str × V)} {fp : List Addr}, RPf C H fs ws fp → fs.lookup f = some m →
    ∃ v f1 f2 f3, ws.lookup f = some v ∧ fp = f1 ++ (f2 ++ f3) ∧ RP C H m v f2 ∧ ∀ H' m' g, St1 H H' (f1 ++ f3) → RP C H' m' v g → RPf C H' (putD f m' fs) ws (f1 ++ (g ++ f3))
  | [], _, _, _, e => by cases e
  | (k, x) :: r, _, _, h, e => by
    obtain ⟨v, wr, f1, f2, rfl, rfl, h1, h2⟩ := h
    rw [List.lookup_cons] at e ⊢
    cases hk : (f == k) with
    | true =>
      rw [hk] at e
      cases e
      have hk' : k = f := (by simpa using hk : f = k).symm
      refine ⟨v, [], f1, f2, rfl, rfl, h1, fun H' m' g s y => ?_⟩
      unfold putD
      rw [if_pos hk']
      exact ⟨v, wr, g, f2, rfl, rfl, y, h2.st r (by simpa using s)⟩
    | false =>
      rw [hk] at e
      have hk' : ¬ k = f := fun z => by subst z; simp at hk
      obtain ⟨w, g1, g2, g3, l, rfl, x2, k2⟩ := RPf.focus h2 e
      refine ⟨w, f1 ++ g1, g2, g3, l, by simp, x2, fun H' m' g s y => ?_⟩
      unfold putD
      rw [if_neg hk']
      have s' : St1 H H' (f1 ++ (g1 ++ g3)) := by simpa using s
      exact ⟨v, wr, f1, g1 ++ (g ++ g3), rfl, by simp, h1.st x s'.left, k2 H' m' g s'.right y⟩
/-- a method of the list in the field f of slot i, its argument a pure one -/
def sLstF (L : List Str) (i : Nat) (f : Str) (p : SV) (g : List D → D → Option (D × List D)) : SE := fun env => match pVar i env with
  | some (.ins true c fs) => if L.contains c then (match fs.lookup f, p env with
    | some (.lst true ms), some m => match g ms m with
      | some (x, ms') => some (.ok x, env.set i (some (.ins true c (putD f (.lst true ms') fs))))
      | none => none
    | _, _ => none) else none
  | _ => none
end T
set_option Elab.async false
set_option linter.all false
set_option maxRecDepth 100000
set_option maxHeartbeats 4000000
namespace T
open PySem PySem.Spec PyProof.Rows L2
def sMethN (c m : Str) (i : Nat) (F : SF) (ra : SA) : SE := fun env => match pVar i env with
  | some (.ins _ c' fs) => if c' = c ∧ fs.lookup m = none then sCallA F (aN i ra) env else none
  | _ => none
def aVal (m : D) (r : SA) : SA := fun env => match r env with
  | some (.ok as, env2) => some (.ok (.val m :: as), env2)
  | some (.ex c x, env2) => some (.ex c x, env2)
  | none => none
/-- the receiver is frozen -/
def sMethV (c m : Str) (p : SV) (F : SF) (ra : SA) : SE := fun env => match p env with
  | some (.ins false c' fs) => if c' = c ∧ fs.lookup m = none then sCallA F (aVal (.ins false c' fs) ra) env else none
  | _ => none
def sNoEx (s : SE) : SE := fun env => match s env with
  | some (.ok m, env1) => some (.ok m, env1)
  | _ => none
def sPropN (c : Str) (i : Nat) (F : SF) : SE := fun env => match pVar i env with
  | some (.ins _ c' _) => if c' = c then sNoEx (sCallA F (aN i aNil)) env else none
  | _ => none
def sPropV (c : Str) (p : SV) (F : SF) : SE := fun env => match p env with
  | some (.ins false c' fs) => if c' = c then sNoEx (sCallA F (aVal (.ins false c' fs) aNil)) env else none
  | _ => none
def sMake (c : Str) (F : SF) (ra : SA) : SE := fun env => match ra env with
  | some (.ok as, env1) => match takeA as env1 with
    | some (ms, env2) => match F (.ins true c [] :: ms) with
      | some (.ok .non, some x :: os) => some (.ok x, backA as os env2)
      | some (.ex c m, _ :: os) => some (.ex c m, backA as os env2)
      | _ => none
    | none => none
  | some (.ex c m, env1) => some (.ex c m, env1)
  | none => none
end T
set_option Elab.async false
set_option linter.all false
set_option maxRecDepth 100000
set_option maxHeartbeats 4000000
namespace T
open PySem PySem.Spec PyProof.Rows L2
theorem meets_enum_new1 {v : Value} {o : Obj} {H : Heap → Prop} (B : Begins v o H) :
    Meets (Builtin.«enumerate.__new__» ⟨[.type "enumerate", v], []⟩) (fun _ R s => H s.heap ∧
      R (.ok (.ret (.ref (s.heap.push o).objs.size))) { s with heap := (s.heap.push o).push { cls := .type "enumerate", data := .fields #[.none, .bool false, .ref s.heap.objs.size, rawInt 0, .none, .none] } }) :=
  .of_wp fun prog w A R s h => by
    obtain ⟨hp, g, d, tk, os⟩ := s; obtain ⟨h1, h⟩ := h
    have hsub := sub_enumerate
    have q1 : ∀ {A' : Around} {E : Value → Shared → Prop} {Q : Value → Shared → Prop}, Q (.ref hp.objs.size) ⟨hp.push o, g, d, tk, os⟩ → wpAny (model prog w) A' (pyIter v) Q E ⟨hp, g, d, tk, os⟩ :=
      fun q => B.iter prog w _ _ ⟨hp, g, d, tk, os⟩ _ h1 q
    wp_walk using q1
    refine wpAny_stack_any fun st => wpAny_pure ?_
    split
    · rename_i c _ _ _ _ _
      cases (c == Value.type "enumerate")
      · wp_walk using q1
        exact ⟨_, rfl, h⟩
      · wp_walk using q1
        exact ⟨_, rfl, h⟩
    · wp_walk using q1
      exact ⟨_, rfl, h⟩
theorem call_enum1 {prog : Program} {w : World} {A : Around} {E : Value → Shared → Prop} {s : Shared} {v : Value} {o : Obj} {H : Heap → Prop} {Q : Value → Shared → Prop} (B : Begins v o H) (h1 : H s.heap)
    (h : ∀ h', IsEnum h' (s.heap.objs.size + 1) s.heap.objs.size 0 .none → h'.get? s.heap.objs.size = some o → h'.objs.size = s.heap.objs.size + 2 →
      (∀ b o, s.heap.get? b = some o → h'.get? b = some o) → Q (.ref (s.heap.objs.size + 1)) { s with heap := h' }) :
    wpAny (model prog w) A (call (.type "enumerate") [v]) Q E s := by
  refine callType_new F.called_enumerate (by decide) (F.typeCall_enumerate_1 _) (F.newCall_enumerate_1 _) (fun obj => F.args_object_init_2 obj _) F.entry_enumerate_new
    (meets_enum_new1 B) ⟨h1, ?_⟩
  have hz : (s.heap.push o).objs.size = s.heap.objs.size + 1 := Heap.size_push ..
  show _ ∧ _
  rw [hz]
  have he : IsEnum ((s.heap.push o).push { cls := .type "enumerate", data := .fields #[.none, .bool false, .ref s.heap.objs.size, rawInt 0, .none, .none] }) (s.heap.objs.size + 1) s.heap.objs.size 0 .none := by
    have := Heap.get?_push_size (s.heap.push o) (o := { cls := .type "enumerate", data := .fields #[.none, .bool false, .ref s.heap.objs.size, rawInt 0, .none, .none] }) rfl
    rw [hz] at this; exact this
  refine ⟨⟨_, he, rfl⟩, h _ he (Heap.get?_push_of_some _ (Heap.get?_push_size _ B.free)) (by rw [Heap.size_push, hz]) fun b o x => Heap.get?_push_of_some _ (Heap.get?_push_of_some _ x)⟩
theorem enum_endT {prog : Program} {w : World} {A : Around} {E : Value → Shared → Prop} {s : Shared} {e it l : Addr} {i : Nat} {items : Array Value} {old : Value} {Q : Option Value → Shared → Prop} (hh : A.handled = none)
    (he : IsEnum s.heap e it i old) (hit : s.heap.IsTupleIter it l i) (hl : s.heap.IsTuple l items) (hx : items[i]? = none)
    (hQ : ∀ h', Heap.ExtBut it s.heap h' → Q none { s with heap := h' }) : wpAny (model prog w) A (pyNext (.ref e)) Q E s := by
  have hT : s.TypeIs (.ref e) "enumerate" := ⟨_, he, rfl⟩
  unfold pyNext
  refine wpAny_bind (wpAny_attempt (wpAny_callSpecial?_slot (name := Str.ofString "__next__") hT F.slot_enumerate_next
    (wpAny_call_entry F.slot_enumerate_next hT F.entry_enumerate_next ?_ (F.args_enumerate_next_1 _))))
  show wpAny _ _ (field (.ref e) 2 >>= _) _ _ _
  refine wpAny_bind (wpAny_field he rfl (x := .ref it) rfl ?_)
  refine wpAny_bind (wpAny_nextOf_tuple_end hh hit hl hx fun h' x he' hx' => ?_)
  obtain ⟨o, ho, hc⟩ := hx'
  refine wpAny_bind (wpAny_isInstance (T := "StopIteration") (b := true) ⟨o, ho, hc⟩ isSubtype_stop ?_)
  exact wpAny_pure (hQ _ he')
def IteT (K : PySem.W.Frag) (a : Addr) : It :=
  ⟨fun i H => ∃ (xs : List V) (x : V), SqT K H a xs ∧ xs[i]? = some x, fun i H v H' => ∃ T x, v = .ref T ∧ H T = none ∧ H' = upd H T (.tup [.int (i : Nat), x]) ∧ ∀ xs, SqT K H a xs → xs[i]? = some x, fun i H => ∃ xs : List V, SqT K H a xs ∧ xs.length ≤ i⟩
theorem turn_enumT {P : Program} {w : World} {K : PySem.W.Frag} {elts : List Expr} {kk : Nat} {tpos : Pos} (a e it : Addr) (hai : a ≠ it) (hae : a ≠ e) :
    Turn P w K (.Tuple elts kk tpos) (IteT K a) [e, it] e (fun i h => (∃ old, IsEnum h e it ((i : Nat) : Int) old) ∧ h.IsTupleIter it a i ∧ e ≠ it) where
  mem := by simp
  obj := fun i h st b hb => by
    obtain ⟨⟨old, he⟩, ⟨o, ho, hc, hd⟩, _⟩ := st
    have e' : b = e ∨ b = it := by simpa using hb
    rcases e' with z | z
    · rw [z]; exact ⟨_, he, fun v q => nomatch q⟩
    · rw [z]; exact ⟨o, ho, fun v q => by rw [hd] at q; cases q⟩
  keep := fun i h h' st k => let ⟨⟨old, he⟩, hi, hne⟩ := st; ⟨⟨old, k e (by simp) _ he⟩, hi.at fun o q => k it (by simp) o q, hne⟩
  item := by
    intro X hP hw hK hc i pins s σ H E I hf st hg
    subst hP hw hK
    obtain ⟨⟨old, he⟩, hit, hne⟩ := st
    obtain ⟨xs, x, hq, hx⟩ := hg
    obtain ⟨its, rv, p, hz⟩ := I.tuple hq
    obtain ⟨u, hu, ru⟩ := rv.get hx
    have hel : e < s.heap.objs.size := Heap.lt_size he
    have hil : it < s.heap.objs.size := by obtain ⟨_, q, _⟩ := hit; exact Heap.lt_size q
    have hlt : i < its.toArray.size := by
      have := (List.getElem?_eq_some_iff.mp hu).1
      simpa using this
    refine wpAny_pyNext_enum_itemD (Draws.tuple (A := X.A.in1) (prog := X.prog) (w := X.w) (show X.A.in1.handled = none from I.ok.hd hc) it a hai its.toArray) he ⟨hit, p⟩ hlt hne (by simp [hne, Ne.symm hae]) fun u' h' tk hu' ho hit' hT hsz hk => ?_
    have eu : u' = u := by
      have : its[i]? = some u' := by simpa using hu'
      rw [hu] at this; cases this; rfl
    subst eu
    refine ⟨_, rfl, wpAny_letOwnedTupleGo_enum (s := { s with heap := h', toks := tk + 1 }) ho fun h'' he' sb => ?_⟩
    have hT2 : h''.get? s.heap.objs.size = some { cls := .type "tuple", data := .seq #[.int i tk, u'] } := (sb.2 _ (Nat.ne_of_gt hel)).trans hT
    have new : ObjOk X.prog X.w (upd H s.heap.objs.size (.tup [.int (i : Nat), x])) h'' s.heap.objs.size (.tup [.int (i : Nat), x]) :=
      ⟨by show 2 ≤ sizeLine; decide, [.int i tk, u'], .cons ⟨_, rfl⟩ (.cons ru .nil), ⟨_, hT2, rfl, _, rfl⟩⟩
    have I1 : Inv X pins σ (upd H s.heap.objs.size (.tup [.int (i : Nat), x])) { s with heap := h'', toks := tk + 1 } :=
      I.turnedNew (ch := [e, it]) (fun b ob hb q => (sb.2 b (fun z => hb (by simp [z]))).trans (hk b ob (fun z => hb (by simp [z])) (fun z => hb (by simp [z])) q)) hf (Nat.le_refl _) new
    refine ⟨.ref s.heap.objs.size, _, I1, rfl, ⟨_, x, rfl, I.hok.fresh (Nat.le_refl _), rfl, fun ys hy => by rw [I.tuple_inj hy hq]; exact hx⟩, ⟨⟨u', ?_⟩, hit'.1.at fun o q => (sb.2 it (Ne.symm hne)).trans q, hne⟩, fun b hb => ?_⟩
    · have e1 : ((i + 1 : Nat) : Int) = (i : Int) + 1 := by omega
      rw [e1]; exact he'
    · have hb' : b < s.heap.objs.size := by
        have e' : b = e ∨ b = it := by simpa using hb
        rcases e' with z | z
        · rw [z]; exact hel
        · rw [z]; exact hil
      rw [upd_ne (Nat.ne_of_lt hb')]
      exact (hf b hb).1
  done := by
    intro X hP hw hK hc i pins s σ H E I hf st hg
    subst hP hw hK
    obtain ⟨⟨old, he⟩, hit, hne⟩ := st
    obtain ⟨xs, hq, hx⟩ := hg
    obtain ⟨its, rv, p, hz⟩ := I.tuple hq
    obtain ⟨f0, f1, f2, f3, f4, f5⟩ := hf it (by simp)
    have hl := rv.length
    exact enum_endT (I.ok.hd hc) he hit p (by simp; omega) fun h' eb => ⟨rfl, I.turned (t' := s.toks) (fun b o hb q => eb b o hb q) f0 f1 f3 f4 f5⟩
  self := fun A i s Q E st h => let ⟨⟨_, he⟩, _⟩ := st; wpAny_pyIter_enum he h
/-- a list | tuple, whichever -/
def iEnumA (K : PySem.W.Frag) (ta : TA) : TI := fun σ H R => ta σ H fun vs H1 => ∃ a, vs = [.ref a] ∧ ((∃ xs, SqL K H1 a xs ∧ R (Ite K a) H1) ∨ (∃ xs, SqT K H1 a xs ∧ R (IteT K a) H1))
theorem pi_enumA {X : Cx} {e : Expr} {ta : TA} {p pos tpos : Pos} {elts : List Expr} {kk : Nat} (hg : Gl X "enumerate") (hm : X.mg "enumerate" = none) (ha : PA X [e] ta) (hs : starEach [e] X.env = [(false, eval e X.env)] := by rfl) :
    PI X (.Tuple elts kk tpos) (.Call (.Name "enumerate" p) [e] [] pos) (iEnumA X.K ta) := by
  refine ⟨fun pins s σ H R I h => ?_⟩
  refine Call_ (ld_blt I hg hm boot_enumerate (PyProof.Rows.callWith_type1 (thn (ha.run pos pins s σ H _ I h) fun us s1 ⟨vs, H1, I1, r1, q1⟩ => ?_) hs rfl))
  obtain ⟨a, ex, q1⟩ := q1
  subst ex
  cases r1 with
  | cons r rr =>
    cases rr
    cases r
    have hfp : ∀ b ∈ [s1.heap.objs.size + 1, s1.heap.objs.size], FpOk X pins H1 b := fun b hb => by
      have e' : b = s1.heap.objs.size + 1 ∨ b = s1.heap.objs.size := by simpa using hb
      have hle : s1.heap.objs.size ≤ b := by
        rcases e' with z | z
        · rw [z]; exact Nat.le_add_right _ _
        · rw [z]; exact Nat.le_refl _
      exact I1.fpOk hle (I1.hok.fresh hle)
    rcases q1 with ⟨xs, hq, q⟩ | ⟨xs, hq, q⟩
    · obtain ⟨its, rv, p', hz⟩ := I1.list hq
      refine call_enumerate_list p'.isList fun h' he hit hsz hk => wpAny_pyIter_enum he ?_
      have I2 : Inv X pins σ H1 { s1 with heap := h' } := I1.kept (t' := s1.toks) hk
      exact ⟨s1.heap.objs.size + 1, [s1.heap.objs.size + 1, s1.heap.objs.size], _, _, H1, rfl, I2, turn_enum a (s1.heap.objs.size + 1) s1.heap.objs.size, ⟨⟨.none, he⟩, hit, Nat.succ_ne_self _⟩, hfp, q⟩
    · obtain ⟨its, rv, p', hz⟩ := I1.tuple hq
      obtain ⟨o1, ho1, _⟩ := id p'
      have hlt : a < s1.heap.objs.size := Heap.lt_size ho1
      refine call_enum1 (begins_tuple a its.toArray) (show s1.heap.IsTuple a its.toArray from p') fun h' he hit hsz hk => wpAny_pyIter_enum he ?_
      have I2 : Inv X pins σ H1 { s1 with heap := h' } := I1.kept (t' := s1.toks) hk
      exact ⟨s1.heap.objs.size + 1, [s1.heap.objs.size + 1, s1.heap.objs.size], _, _, H1, rfl, I2, turn_enumT a (s1.heap.objs.size + 1) s1.heap.objs.size (Nat.ne_of_lt hlt) (Nat.ne_of_lt (Nat.lt_succ_of_lt hlt)), ⟨⟨.none, he⟩, ⟨_, hit, rfl, rfl⟩, Nat.succ_ne_self _⟩, hfp, q⟩
def enumL : Nat → List D → List D
  | _, [] => []
  | k, m :: r => .tup [.int k, m] :: enumL (k + 1) r
theorem enumL_len : ∀ (k : Nat) (ms : List D), (enumL k ms).length = ms.length
  | _, [] => rfl
  | k, m :: r => by simp [enumL, enumL_len (k + 1) r]
theorem enumL_get : ∀ (k : Nat) (ms : List D) (i : Nat), (enumL k ms)[i]? = (ms[i]?).map fun m => .tup [.int (k + i : Nat), m]
  | _, [], _ => by simp [enumL]
  | k, m :: r, 0 => by simp [enumL]
  | k, m :: r, i + 1 => by
    have : k + 1 + i = k + (i + 1) := by omega
    simp [enumL, enumL_get (k + 1) r i, this]
theorem same_tup {H : Hp} {T : Addr} {u : HO} (h : H T = none) : Same H (upd H T u) := fun a o e => by
  rw [upd_ne (ne_of_none e h)]; exact e
theorem its_enumL {C : Kt} {H : Hp} {o : Bool} {a : Addr} {vs : List V} {fp fp' : List Addr} {ms : List D} (h : At o H a (.lst vs) fp fp') (r : RPs C H ms vs []) : ItsOk C (Ite C.K a) H (enumL 0 ms) fp := fun i H' s => by
  have q := (h.st s).1.seqL (K := C.K)
  rw [enumL_len]
  refine ⟨fun hi => ⟨vs, q, by rw [← r.len]; exact hi⟩, fun m hm => ?_⟩
  rw [enumL_get] at hm
  cases hg : ms[i]? with
  | none => rw [hg] at hm; cases hm
  | some m0 =>
    rw [hg] at hm
    have e0 : m = .tup [.int ((i : Nat) : Int), m0] := by simpa using hm.symm
    subst e0
    obtain ⟨v, e, x⟩ := r.get hg
    refine ⟨⟨vs, v, q, e⟩, fun x' H'' y => ?_⟩
    obtain ⟨T, x2, rfl, hT, rfl, y⟩ := y
    have := y vs q
    rw [e] at this; cases this
    have sm := same_tup (u := .tup [.int (i : Nat), v]) hT
    exact ⟨sm, T, _, rfl, upd_same, _, _, [], [], rfl, rfl, ⟨rfl, rfl⟩, v, [], [], [], rfl, rfl, x.st m0 fun b o e z => sm b o (s b o e (z.elim (fun z => nomatch z) .inr)), rfl, rfl⟩
theorem its_enumT {C : Kt} {H : Hp} {a : Addr} {vs : List V} {fp : List Addr} {ms : List D} (h : SqT C.K H a vs) (r : RPs C H ms vs []) : ItsOk C (IteT C.K a) H (enumL 0 ms) fp := fun i H' s => by
  have q := seqT_st h s
  rw [enumL_len]
  refine ⟨fun hi => ⟨vs, q, by rw [← r.len]; exact hi⟩, fun m hm => ?_⟩
  rw [enumL_get] at hm
  cases hg : ms[i]? with
  | none => rw [hg] at hm; cases hm
  | some m0 =>
    rw [hg] at hm
    have e0 : m = .tup [.int ((i : Nat) : Int), m0] := by simpa using hm.symm
    subst e0
    obtain ⟨v, e, x⟩ := r.get hg
    refine ⟨⟨vs, v, q, e⟩, fun x' H'' y => ?_⟩
    obtain ⟨T, x2, rfl, hT, rfl, y⟩ := y
    have := y vs q
    rw [e] at this; cases this
    have sm := same_tup (u := .tup [.int (i : Nat), v]) hT
    exact ⟨sm, T, _, rfl, upd_same, _, _, [], [], rfl, rfl, ⟨rfl, rfl⟩, v, [], [], [], rfl, rfl, x.st m0 fun b o e z => sm b o (s b o e (z.elim (fun z => nomatch z) .inr)), rfl, rfl⟩
theorem RP.seqD {C : Kt} {H : Hp} {m : D} {ms : List D} {v : V} {fm : List Addr} (x : RP C H m v fm) (h : T.seqD m = some ms) :
    ∃ a, v = .ref a ∧ ((∃ vs fp', m = .lst true ms ∧ At true H a (.lst vs) fm fp' ∧ RPs C H ms vs []) ∨ (∃ vs fp', m = .lst false ms ∧ At false H a (.lst vs) fm fp' ∧ RPs C H ms vs []) ∨ (∃ vs, m = .tup ms ∧ SqT C.K H a vs ∧ RPs C H ms vs [])) := by
  unfold T.seqD at h
  split at h
  · split at h
    · rename_i o _ hz
      cases h
      obtain ⟨a, vs, g, rfl, a1, r1⟩ := x
      cases o with
      | true => exact ⟨a, rfl, .inl ⟨vs, g, rfl, a1, r1.fzAll hz⟩⟩
      | false => exact ⟨a, rfl, .inr (.inl ⟨vs, g, rfl, a1, r1.fzAll hz⟩)⟩
    · cases h
  · split at h
    · rename_i hz
      cases h
      obtain ⟨a, vs, rfl, a1, r1⟩ := x
      exact ⟨a, rfl, .inr (.inr ⟨vs, rfl, SqT.of a1, r1.fzAll hz⟩)⟩
    · cases h
  · cases h
theorem enum_its {C : Kt} {H : Hp} {m : D} {ms : List D} {v : V} {fm : List Addr} (x : RP C H m v fm) (h : T.seqD m = some ms) :
    ∃ a, v = .ref a ∧ ((∃ xs, SqL C.K H a xs ∧ ItsOk C (Ite C.K a) H (enumL 0 ms) fm) ∨ (∃ xs, SqT C.K H a xs ∧ ItsOk C (IteT C.K a) H (enumL 0 ms) fm)) := by
  obtain ⟨a, rfl, h⟩ := x.seqD h
  rcases h with ⟨vs, g, _, a1, r1⟩ | ⟨vs, g, _, a1, r1⟩ | ⟨vs, _, a1, r1⟩
  · exact ⟨a, rfl, .inl ⟨vs, a1.seqL, its_enumL a1 r1⟩⟩
  · exact ⟨a, rfl, .inl ⟨vs, a1.seqL, its_enumL a1 r1⟩⟩
  · exact ⟨a, rfl, .inr ⟨vs, a1, its_enumT a1 r1⟩⟩
def enumD : List D → Option (List D)
  | [m] => (seqD m).map (enumL 0)
  | _ => none
/-- an iterator of values: RPs of its arguments -/
def ItV (C : Kt) (w : List V → Hp → (It → Hp → Prop) → Prop) (f : List D → Option (List D)) : Prop := ∀ (H : Hp) (ms is : List D) (vs : List V) (fm : List Addr) (R : It → Hp → Prop), RPs C H ms vs fm → f ms = some is →
  (∀ J, ItsOk C J H is fm → R J H) → w vs H R
def wEnum (K : PySem.W.Frag) : List V → Hp → (It → Hp → Prop) → Prop := fun vs H1 R => ∃ a, vs = [.ref a] ∧ ((∃ xs, SqL K H1 a xs ∧ R (Ite K a) H1) ∨ (∃ xs, SqT K H1 a xs ∧ R (IteT K a) H1))
theorem itv_enum {C : Kt} : ItV C (wEnum C.K) enumD := by
  intro H ms is vs fm R x h k
  unfold enumD at h
  split at h
  · rename_i m
    cases q : seqD m with
    | none => rw [q] at h; cases h
    | some l =>
      rw [q] at h
      cases h
      obtain ⟨v, vr, f1, f2, rfl, rfl, x1, rfl, rfl⟩ := x
      rw [List.append_nil] at k
      obtain ⟨a, rfl, z⟩ := enum_its x1 q
      refine ⟨a, rfl, ?_⟩
      rcases z with ⟨xs, h1, h2⟩ | ⟨xs, h1, h2⟩
      · exact .inl ⟨xs, h1, k _ h2⟩
      · exact .inr ⟨xs, h1, k _ h2⟩
  · cases h
section
variable {C : Kt} {W : WXT} {σ : L2.St} {H : Hp} {R : It → Hp → Prop} {w : List V → Hp → (It → Hp → Prop) → Prop} {f : List D → Option (List D)}
/-- of frozen arguments -/
def fzA (p : SAV) : SAV := fun env => match p env with
  | some ms => if fzs ms then some ms else none
  | none => none
/-- of one evaluated argument, that is kept by the iterator -/
def iC1 (f : List D → Option (List D)) (s : SE) : SI := fun env => match s env with
  | some (.ok m, env1) => (f [m]).map fun ms => (.ok ms, env1)
  | some (.ex c m, env1) => some (.ex c m, env1)
  | none => none
theorem itv_e1 (hw : ItV C w f) {s : SE} (x : tI C W (iC1 f s) σ H R) : iC w (tCons (tE C W s) tNil) σ H R := by
  obtain ⟨env, fp, r, nd, h⟩ := x
  refine ⟨env, fp, r, nd, ?_⟩
  unfold iC1 at h
  cases q : s env with
  | none => rw [q] at h; exact h.elim
  | some z =>
    obtain ⟨z, env1⟩ := z
    rw [q] at h
    cases z with
    | ex c m => exact h
    | ok m =>
      intro v H1 fm fe x1 r1 n1 m1
      dsimp only at h
      cases q2 : f [m] with
      | none => rw [q2] at h; exact h.elim
      | some ms =>
        rw [q2] at h
        exact hw H1 [m] ms [v] fm R ⟨v, [], fm, [], rfl, by simp, x1, rfl, rfl⟩ q2 fun J its => h J H1 fm fe its (x1.owned m) r1 n1 m1
end
section
variable {X : Cx} {W : WXT} {a b : Expr} {p pos tpos : Pos} {elts : List Expr} {kk : Nat} {pa : SAV}
theorem IE_enum {s : SE} (hg : Gl X "enumerate") (hm : X.mg "enumerate" = none) (ha : PE X a (tE (kt X) W s)) (hs : starEach [a] X.env = [(false, eval a X.env)] := by rfl) : PI X (.Tuple elts kk tpos) (.Call (.Name "enumerate" p) [a] [] pos) (tI (kt X) W (iC1 enumD s)) :=
  pi_imp (pi_enumA hg hm (pa_cons ha pa_nil hs) hs) fun _ _ _ => itv_e1 itv_enum
end
end T
set_option Elab.async false
set_option linter.all false
set_option maxRecDepth 100000
set_option maxHeartbeats 4000000
namespace T
open PySem PySem.Spec PyProof.Rows L2
def keyEq (a b : D) : Bool := match kyK a, kyK b with
  | some x, some y => decide (x = y)
  | _, _ => match kyT a, kyT b with
    | some x, some y => decide (x = y)
    | _, _ => false
def dFind : List (D × D) → D → Option D
  | [], _ => none
  | (k', m) :: r, k => if keyEq k' k then some m else dFind r k
/-- which kind of dict: told by its first key -/
def dKind : List (D × D) → Option Bool
  | [] => none
  | (k, _) :: _ => if (kyK k).isSome then some true else some false
/-- a lookup: the dict is not empty, the key is of its kind -/
def dLk (kvs : List (D × D)) (k : D) : Option (Option D) := match dKind kvs with
  | some true => if (kyK k).isSome = true then some (dFind kvs k) else none
  | some false => if (kyT k).isSome = true then some (dFind kvs k) else none
  | none => none
def dLook (m k : D) : Option (Option D) := match m with
  | .dct _ kvs => dLk kvs k
  | _ => none
/-- d[k], a look -/
def pDG (p q : SV) : SV := fun env => match p env, q env with
  | some m, some k => match dLook m k with
    | some (some n) => some n
    | _ => none
  | _, _ => none
def pDG2 (p q d : SV) : SV := fun env => match p env, q env, d env with
  | some m, some k, some z => match dLook m k with
    | some (some n) => if fz n then some n else none
    | some none => if fz z then some z else none
    | none => none
  | _, _, _ => none
def pDIn (b : Bool) (q p : SV) : SV := fun env => match p env, q env with
  | some m, some k => match dLook m k with
    | some o => some (.bl (o.isSome == b))
    | none => none
  | _, _ => none
end T
set_option Elab.async false
set_option linter.all false
set_option maxRecDepth 100000
set_option maxHeartbeats 4000000
namespace T
open PySem PySem.Spec PyProof.Rows L2
/-- a new key -/
def dFits (kvs : List (D × D)) (k : D) : Bool := match kvs with
  | [] => (kyK k).isSome || (kyT k).isSome
  | _ => match dLk kvs k with
    | some none => true
    | _ => false
def dPutN (kvs : List (D × D)) (k m : D) : Option (List (D × D)) := if dFits kvs k = true ∧ kvs.length ≤ 1000000 then some (kvs ++ [(k, m)]) else none
theorem RPk.snoc {C : Kt} {H : Hp} {k m : D} {y : Key} {v : V} {fm : List Addr} (hk : kyK k = some y) (x : RP C H m v fm) : ∀ {kvs : List (D × D)} {ws : List (Key × V)} {g : List Addr}, RPk C H kvs ws g → RPk C H (kvs ++ [(k, m)]) (ws ++ [(y, v)]) (g ++ fm)
  | [], _, _, h => by
    obtain ⟨rfl, rfl⟩ := h
    exact ⟨y, v, [], fm, [], rfl, by simp, hk, x, rfl, rfl⟩
  | (k', m') :: r, _, _, h => by
    obtain ⟨z, w, wr, f1, f2, rfl, rfl, h1, h2, h3⟩ := h
    exact ⟨z, w, _, f1, f2 ++ fm, rfl, by simp, h1, h2, RPk.snoc hk x h3⟩
theorem RPt.snoc {C : Kt} {H : Hp} {k m : D} {y : List Key} {v : V} {fm : List Addr} (hk : kyT k = some y) (x : RP C H m v fm) : ∀ {kvs : List (D × D)} {ws : List (List Key × V)} {g : List Addr}, RPt C H kvs ws g → RPt C H (kvs ++ [(k, m)]) (ws ++ [(y, v)]) (g ++ fm)
  | [], _, _, h => by
    obtain ⟨rfl, rfl⟩ := h
    exact ⟨y, v, [], fm, [], rfl, by simp, hk, x, rfl, rfl⟩
  | (k', m') :: r, _, _, h => by
    obtain ⟨z, w, wr, f1, f2, rfl, rfl, h1, h2, h3⟩ := h
    exact ⟨z, w, _, f1, f2 ++ fm, rfl, by simp, h1, h2, RPt.snoc hk x h3⟩
theorem RPk.len {C : Kt} {H : Hp} : ∀ {kvs : List (D × D)} {ws : List (Key × V)} {g : List Addr}, RPk C H kvs ws g → kvs.length = ws.length
  | [], _, _, h => by obtain ⟨rfl, _⟩ := h; rfl
  | (k', m') :: r, _, _, h => by
    obtain ⟨z, w, wr, f1, f2, rfl, rfl, h1, h2, h3⟩ := h
    simp [RPk.len h3]
theorem RPt.len {C : Kt} {H : Hp} : ∀ {kvs : List (D × D)} {ws : List (List Key × V)} {g : List Addr}, RPt C H kvs ws g → kvs.length = ws.length
  | [], _, _, h => by obtain ⟨rfl, _⟩ := h; rfl
  | (k', m') :: r, _, _, h => by
    obtain ⟨z, w, wr, f1, f2, rfl, rfl, h1, h2, h3⟩ := h
    simp [RPt.len h3]
/-- x[k] = e, the dict in slot i -/
def sPut (i : Nat) (s : SE) (q : SV) : SS := fun env => match s env with
  | some (.ok m, env1) => match pVar i env1, q env1 with
    | some (.dct true kvs), some k => match dPutN kvs k m with
      | some kvs' => some (.nx, env1.set i (some (.dct true kvs')))
      | none => none
    | _, _ => none
  | some (.ex c m, env1) => some (.ex c m, env1)
  | none => none
/-- self.f[k] = e -/
def sPutF (L : List Str) (i : Nat) (f : Str) (s : SE) (q : SV) : SS := fun env => match s env with
  | some (.ok m, env1) => match pVar i env1, q env1 with
    | some (.ins true c fs), some k => if L.contains c then (match fs.lookup f with
      | some (.dct true kvs) => match dPutN kvs k m with
        | some kvs' => some (.nx, env1.set i (some (.ins true c (putD f (.dct true kvs') fs))))
        | none => none
      | _ => none) else none
    | _, _ => none
  | some (.ex c m, env1) => some (.ex c m, env1)
  | none => none
def pDN : SV := fun _ => some (.dct true [])
theorem dn_u {C : Kt} {σ : L2.St} {H : Hp} {Q : VK} (x : tU C pDN σ H Q) : tDNewT σ H Q := by
  obtain ⟨env, fp, m, r, h, k⟩ := x
  cases h
  intro p hp
  exact k (.ref p) _ [p] (same_tup hp) ⟨p, [], rfl, .inr ⟨[], ⟨upd_same, rfl⟩, rfl, rfl⟩⟩ (by simp) fun a ha => by rw [List.mem_singleton.mp ha]; exact hp
theorem U_dn {X : Cx} {pos : Pos} : PE X (.Dict [] [] pos) (tU (kt X) pDN) := pe_imp pe_dnewT fun _ _ _ => dn_u
def sDisp1 (k : Str) (s : SE) : SE := sBind s fun m => sOk (.dct true [(.str k, m)])
theorem disp1_i {C : Kt} {W : WXT} {σ : L2.St} {H : Hp} {Q : VK} {k : Str} {s : SE} (x : tE C W (sDisp1 k s) σ H Q) : tDisp [(tC (.str k), tE C W s)] σ H Q := by
  obtain ⟨env, fp, r, nd, h⟩ := x
  intro p hp
  have sm : Same H (upd H p (.dK [])) := same_tup hp
  have ow := r.owned env
  have pf : p ∉ fp := fun z => by
    obtain ⟨o, e, _⟩ := ow p z
    rw [hp] at e; cases e
  refine ⟨env, fp, r.st env (Same.st1 sm _), nd, ?_⟩
  have mv0 : Mv H (upd H p (.dK [])) fp (p :: fp) := (Mv.same (fm := [p]) sm fun a ha => by rw [List.mem_singleton.mp ha]; exact hp)
  unfold sDisp1 sBind at h
  cases q : s env with
  | none => rw [q] at h; exact h.elim
  | some z =>
    obtain ⟨z, env1⟩ := z
    rw [q] at h
    cases z with
    | ex c m =>
      exact fun cls d H1 fm fe y r1 n1 m1 => h cls d H1 fm fe y r1 n1 ((mv0.less fun b hb => List.mem_cons_of_mem _ hb).trans m1)
    | ok m =>
      intro v H1 fm fe y r1 n1 m1
      have hp1 : H1 p = some (.dK []) := m1.keep p _ upd_same fun z => absurd z pf
      refine ⟨hp1, [(.inr k, v)], rfl, by show 1 ≤ 15; decide, ?_⟩
      have pn : p ∉ fm ++ fe := fun z => by
        rcases m1.sub p z with z | z
        · exact pf z
        · rw [upd_same] at z; cases z
      have y2 : RP C (upd H1 p (.dK (mergeK [] [(.inr k, v)]))) m v fm := y.st m (st_updG hp1 rfl fun z => pn (List.mem_append_left _ z))
      have r2 := r1.st env1 (H' := upd H1 p (.dK (mergeK [] [(.inr k, v)]))) (st_updG hp1 rfl fun z => pn (List.mem_append_right _ z))
      have m2 : Mv H H1 fp (p :: (fm ++ fe)) := by
        have e1 := m1.frame (f := [p]) (by simpa using ⟨pf, nd⟩) (fun a ha => by rw [List.mem_singleton.mp ha]; exact ⟨_, upd_same, rfl⟩)
        exact mv0.trans e1
      have m3 := m2.trans (mv_updG (u' := .dK (mergeK [] [(.inr k, v)])) hp1 rfl (by simp))
      exact h (.ref p) _ (p :: fm) fe ⟨p, fm, rfl, .inl ⟨[(.inr k, v)], ⟨upd_same, rfl⟩, .inr k, v, [], fm, [], rfl, by simp, rfl, y2, rfl, rfl⟩⟩ r2 (by simpa using ⟨by simpa using pn, n1⟩) (by simpa using m3)
theorem E_disp1 {X : Cx} {W : WXT} {k : Str} {e : Expr} {s : SE} {jj : Nat} {p1 pos : Pos} (he : PE X e (tE (kt X) W s)) : PE X (.Dict [some (.Constant (.str k) jj p1)] [e] pos) (tE (kt X) W (sDisp1 k s)) :=
  pe_imp (pe_disp (pps_cons pe_str he pps_nil) rfl rfl (by simp) (by show 1 ≤ 15; decide)) fun _ _ _ => disp1_i
def tFrzA (t : TE) : TE := fun σ H Q => t σ H fun v H1 => ∃ l : List Addr, (∀ a ∈ l, ∃ u, H1 a = some u ∧ MuF u) ∧ l.Nodup ∧ ∀ H', FrL H1 H' l → Q v H'
theorem pe_frzA {X : Cx} {e : Expr} {t : TE} (h : PE X e t) : PE X e (tFrzA t) := by
  refine ⟨fun pins s σ H Q I hw => ?_⟩
  refine thn (h.run pins s σ H _ I hw) fun u s1 ⟨v, H1, I1, r, l, hl, nd, k⟩ => ?_
  obtain ⟨H', f, I'⟩ := Inv.locks l I1 hl nd
  exact ⟨v, H', I', r, k H' f⟩
def sFrA (s : SE) : SE := sBind s fun m => sOk (fr m)
theorem frA_i {C : Kt} {W : WXT} {σ : L2.St} {H : Hp} {Q : VK} {s : SE} (x : tE C W (sFrA s) σ H Q) : tFrzA (tE C W s) σ H Q := by
  obtain ⟨env, fp, r, nd, h⟩ := x
  refine ⟨env, fp, r, nd, ?_⟩
  unfold sFrA sBind at h
  cases q : s env with
  | none => rw [q] at h; exact h.elim
  | some z =>
    obtain ⟨z, env1⟩ := z
    rw [q] at h
    cases z with
    | ex c m => exact h
    | ok m =>
      intro v H1 fm fe y r1 n1 m1
      have n2 := List.nodup_append.mp n1
      refine ⟨mtl H1 fm, fun a ha => (mem_mtl.mp ha).2, n2.1.filter _, fun H' f => ?_⟩
      have r2 := r1.st env1 (f.st fun a ha z => n2.2.2 a (mem_mtl.mp z).1 a ha rfl)
      refine h v H' [] fe (y.fr f m fun b hb hm => mem_mtl.mpr ⟨hb, hm⟩) r2 (by simpa using n2.2.1) ⟨fun a o e z => ?_, fun a ha => m1.sub a (List.mem_append_right _ (by simpa using ha))⟩
      have e2 := m1.keep a o e z
      by_cases ha : a ∈ mtl H1 fm
      · refine f.fixed e2 ?_
        rcases m1.sub a (List.mem_append_left _ (mem_mtl.mp ha).1) with z2 | z2
        · exact z z2
        · rw [e] at z2; cases z2
      · rw [f.1 a ha]; exact e2
theorem E_frA {X : Cx} {W : WXT} {e : Expr} {s : SE} (h : PE X e (tE (kt X) W s)) : PE X e (tE (kt X) W (sFrA s)) := pe_imp (pe_frzA h) fun _ _ _ => frA_i
end T
set_option Elab.async false
set_option linter.all false
set_option maxRecDepth 100000
set_option maxHeartbeats 4000000
namespace T
open PySem PySem.Spec PyProof.Rows L2
def cutD (ms : List D) (lo hi : Option Int) : List D := (ms.drop (HT.sIx ms.length 0 lo)).take (HT.sIx ms.length ms.length hi - HT.sIx ms.length 0 lo)
def slD (m : D) (lo hi : Option Int) : Option D := match m with
  | .lst _ ms => if fzs ms then some (.lst true (cutD ms lo hi)) else none
  | .tup ms => if fzs ms then some (.tup (cutD ms lo hi)) else none
  | .str z => if z.length ≤ 1000000 then some (.str (cutS z lo hi)) else none
  | _ => none
/-- a slice's part -/
def oPart (q : Option SV) (env : Env) : Option (Option Int) := match q with
  | none => some none
  | some p => match p env with
    | some (.int i) => some (some i)
    | _ => none
def pSl (p : SV) (lo hi : Option SV) : SV := fun env => match p env, oPart lo env, oPart hi env with
  | some m, some l, some h => slD m l h
  | _, _, _ => none
def isSD : D → Bool
  | .str _ => true
  | _ => false
def pM (f : D → D → Option D) (p q : SV) : SV := fun env => match p env, q env with
  | some m, some n => if isSD m then f m n else none
  | _, _ => none
def strsD (ys : List Str) : List D := ys.map D.str
def vStar (p : SV) (r : SAV) : SAV := fun env => match p env, r env with
  | some m, some ms => match seqD m with
    | some ns => some (ns ++ ms)
    | none => none
  | _, _ => none
end T
set_option Elab.async false
set_option linter.all false
set_option maxRecDepth 100000
set_option maxHeartbeats 4000000
namespace T
open PySem PySem.Spec PyProof.Rows L2
def sStar (i j : Nat) (s : SE) : SS := fun env => match s env with
  | some (.ok m, env1) => match m with
    | .lst _ (x :: xs) => if fz x = true ∧ fzs xs = true ∧ xs.length ≤ 100000 ∧ i < env1.length ∧ j < env1.length then some (.nx, (env1.set i (some x)).set j (some (.lst true xs))) else none
    | _ => none
  | some (.ex c m, env1) => some (.ex c m, env1)
  | none => none
abbrev CsS := List (Str × SS)
def csGo (z : Str) (env : Env) : CsS → Option (Fl × Env)
  | [] => some (.nx, env)
  | (t, b) :: r => match eqD (.str z) (.str t) with
    | some (.bl true) => b env
    | some (.bl false) => csGo z env r
    | _ => none
def sMatch (p : SV) (cs : CsS) : SS := fun env => match p env with
  | some (.str z) => csGo z env cs
  | _ => none
end T
set_option Elab.async false
set_option linter.all false
set_option maxRecDepth 100000
set_option maxHeartbeats 4000000
namespace T
open PySem PySem.Spec PyProof.Rows L2
mutual
def noFz : D → Bool
  | .non => true
  | .bl _ => true
  | .int _ => true
  | .str _ => true
  | .tup ms => noFzs ms
  | .lst o ms => o && noFzs ms
  | .klst _ => false
  | .dct o kvs => o && noFzk kvs
  | .ins o _ fs => o && noFzf fs
  | .exc _ m => noFz m
  | .tbs _ => false
def noFzs : List D → Bool
  | [] => true
  | m :: r => noFz m && noFzs r
def noFzk : List (D × D) → Bool
  | [] => true
  | (_, m) :: r => noFz m && noFzk r
def noFzf : List (Str × D) → Bool
  | [] => true
  | (_, m) :: r => noFz m && noFzf r
end
/-- what is not frozen stays -/
def Un1 (H H' : Hp) : Prop := ∀ a o, H a = some o → (∀ od u, o ≠ .frz od u) → H' a = some o
theorem At.un {o : Bool} {H H' : Hp} {a : Addr} {u : HO} {fp fp' : List Addr} (h : At o H a u fp fp') (ho : o = true) (hu : ∀ od w, u ≠ .frz od w) (s : Un1 H H') : At o H' a u fp fp' := by
  subst ho
  exact ⟨s a u h.1 hu, h.2⟩
mutual
theorem RP.un {C : Kt} {H H' : Hp} (s : Un1 H H') : ∀ (m : D) {v : V} {fp : List Addr}, RP C H m v fp → noFz m = true → RP C H' m v fp
  | .non, _, _, h, _ => h
  | .bl _, _, _, h, _ => h
  | .int _, _, _, h, _ => h
  | .str _, _, _, h, _ => h
  | .tup ms, _, _, h, z => by
    unfold noFz at z
    unfold RP at h ⊢
    obtain ⟨a, vs, rfl, h1, h2⟩ := h
    exact ⟨a, vs, rfl, s a _ h1 (fun _ _ z => nomatch z), RPs.un s ms h2 z⟩
  | .lst o ms, _, _, h, z => by
    unfold noFz at z
    rw [Bool.and_eq_true] at z
    unfold RP at h ⊢
    obtain ⟨a, vs, fp', rfl, h1, h2⟩ := h
    exact ⟨a, vs, fp', rfl, h1.un z.1 (fun _ _ z => nomatch z) s, RPs.un s ms h2 z.2⟩
  | .klst _, _, _, _, z => by
    unfold noFz at z
    cases z
  | .dct o kvs, _, _, h, z => by
    unfold noFz at z
    rw [Bool.and_eq_true] at z
    unfold RP at h ⊢
    obtain ⟨a, fp', rfl, h⟩ := h
    refine ⟨a, fp', rfl, ?_⟩
    rcases h with ⟨ws, h1, h2⟩ | ⟨ws, h1, h2⟩
    · exact .inl ⟨ws, h1.un z.1 (fun _ _ z => nomatch z) s, RPk.un s kvs h2 z.2⟩
    · exact .inr ⟨ws, h1.un z.1 (fun _ _ z => nomatch z) s, RPt.un s kvs h2 z.2⟩
  | .ins o c fs, _, _, h, z => by
    unfold noFz at z
    rw [Bool.and_eq_true] at z
    unfold RP at h ⊢
    obtain ⟨a, A, dx, ws, fp', rfl, hc, h1, h2⟩ := h
    exact ⟨a, A, dx, ws, fp', rfl, hc, h1.un z.1 (fun _ _ z => nomatch z) s, RPf.un s fs h2 z.2⟩
  | .exc c m, _, _, h, z => by
    unfold noFz at z
    unfold RP at h ⊢
    obtain ⟨a, A, dd, u, rfl, h0, hc, h1, h2, h3⟩ := h
    exact ⟨a, A, dd, u, rfl, h0, hc, s a _ h1 (fun _ _ z => nomatch z), s dd _ h2 (fun _ _ z => nomatch z), RP.un s m h3 z⟩
  | .tbs _, _, _, _, z => by cases z
theorem RPs.un {C : Kt} {H H' : Hp} (s : Un1 H H') : ∀ (ms : List D) {vs : List V} {fp : List Addr}, RPs C H ms vs fp → noFzs ms = true → RPs C H' ms vs fp
  | [], _, _, h, _ => h
  | m :: ms, _, _, h, z => by
    unfold noFzs at z
    rw [Bool.and_eq_true] at z
    unfold RPs at h ⊢
    obtain ⟨v, vr, f1, f2, rfl, rfl, h1, h2⟩ := h
    exact ⟨v, vr, f1, f2, rfl, rfl, RP.un s m h1 z.1, RPs.un s ms h2 z.2⟩
theorem RPk.un {C : Kt} {H H' : Hp} (s : Un1 H H') : ∀ (ms : List (D × D)) {ws : List (Key × V)} {fp : List Addr}, RPk C H ms ws fp → noFzk ms = true → RPk C H' ms ws fp
  | [], _, _, h, _ => h
  | (k, m) :: ms, _, _, h, z => by
    unfold noFzk at z
    rw [Bool.and_eq_true] at z
    unfold RPk at h ⊢
    obtain ⟨y, v, vr, f1, f2, rfl, rfl, hk, h1, h2⟩ := h
    exact ⟨y, v, vr, f1, f2, rfl, rfl, hk, RP.un s m h1 z.1, RPk.un s ms h2 z.2⟩
theorem RPt.un {C : Kt} {H H' : Hp} (s : Un1 H H') : ∀ (ms : List (D × D)) {ws : List (List Key × V)} {fp : List Addr}, RPt C H ms ws fp → noFzk ms = true → RPt C H' ms ws fp
  | [], _, _, h, _ => h
  | (k, m) :: ms, _, _, h, z => by
    unfold noFzk at z
    rw [Bool.and_eq_true] at z
    unfold RPt at h ⊢
    obtain ⟨y, v, vr, f1, f2, rfl, rfl, hk, h1, h2⟩ := h
    exact ⟨y, v, vr, f1, f2, rfl, rfl, hk, RP.un s m h1 z.1, RPt.un s ms h2 z.2⟩
theorem RPf.un {C : Kt} {H H' : Hp} (s : Un1 H H') : ∀ (ms : List (Str × D)) {ws : List (Str × V)} {fp : List Addr}, RPf C H ms ws fp → noFzf ms = true → RPf C H' ms ws fp
  | [], _, _, h, _ => h
  | (k, m) :: ms, _, _, h, z => by
    unfold noFzf at z
    rw [Bool.and_eq_true] at z
    unfold RPf at h ⊢
    obtain ⟨v, vr, f1, f2, rfl, rfl, h1, h2⟩ := h
    exact ⟨v, vr, f1, f2, rfl, rfl, RP.un s m h1 z.1, RPf.un s ms h2 z.2⟩
end
def frE : Env → Env
  | [] => []
  | none :: r => none :: frE r
  | some m :: r => some (fr m) :: frE r
theorem ER.fr {C : Kt} {H H' : Hp} {l : List Addr} (f : FrL H H' l) : ∀ (env : Env) {σ : L2.St} {fp : List Addr}, ER C H env σ fp → (∀ b ∈ fp, Mtb H b → b ∈ l) → ER C H' (frE env) σ []
  | [], _, _, h, _ => ⟨h.1, rfl⟩
  | none :: r, _, _, h, s => by
    obtain ⟨w, σ', rfl, h⟩ := h
    exact ⟨w, σ', rfl, ER.fr f r h s⟩
  | some m :: r, _, _, h, s => by
    obtain ⟨v, σ', f1, f2, rfl, rfl, h1, h2⟩ := h
    exact ⟨v, σ', [], [], rfl, rfl, h1.fr f m fun b hb => s b (List.mem_append_left _ hb), ER.fr f r h2 fun b hb => s b (List.mem_append_right _ hb)⟩
def pThaw (p : SV) : SV := fun env => match p (frE env) with
  | some m => if noFz m then some m else none
  | none => none
def okF (F : SF) (ms : List D) : Option D := match F ms with
  | some (.ok m, _) => some m
  | _ => none
def pCall (F : SF) (pa : SAV) : SV := fun env => match pa env with
  | some ms => if fzs ms then okF F ms else none
  | none => none
theorem spF_pure {C : Kt} {F : SF} {H : Hp} {ms : List D} {vs : List V} {m : D} {Q : VK} {E : XK} (h : okF F ms = some m) (x : RPs C H ms vs []) (k : ∀ w H' fm, Same H H' → RP C H' m w fm → fm.Nodup → (∀ a ∈ fm, H a = none) → Q w H') : spF C F vs H Q E := by
  unfold okF at h
  split at h
  · rename_i m' os q
    cases h
    refine ⟨ms, [], x, List.nodup_nil, ?_⟩
    rw [q]
    intro v H' fm fo y o nd mv
    exact k v H' fm (fun a o e => mv.keep a o e fun z => nomatch z) y (List.nodup_append.mp nd).1 fun a ha => (mv.sub a (List.mem_append_left _ ha)).elim (fun z => nomatch z) id
  · cases h
theorem pcall_u {C : Kt} {σ : L2.St} {H : Hp} {Q : VK} {F : SF} {pa : SAV} {E : L2.St → XK} (x : tU C (pCall F pa) σ H Q) : tCallS (spF C F) E (tAV C pa) σ H Q := by
  obtain ⟨env, fp, m, r, h, k⟩ := x
  unfold pCall at h
  split at h
  · rename_i ms q
    split at h
    · rename_i hz
      refine ⟨env, fp, ms, r, q, fun vs H1 fm s x => ?_⟩
      have := RPs.fz ms x hz
      subst this
      exact spF_pure h x fun w H2 f2 s2 y nd frs => k w H2 f2 (s.trans s2) y nd fun a ha => s.free (frs a ha)
    · cases h
  · cases h
/-- o.m(..): the receiver and the arguments frozen -/
def pMeth (c m : Str) (p : SV) (F : SF) (pa : SAV) : SV := fun env => match p env, pa env with
  | some (.ins false c' fs), some ms => if c' = c ∧ fs.lookup m = none ∧ fzs ms = true then okF F (.ins false c' fs :: ms) else none
  | _, _ => none
/-- o.f, a property -/
def pProp (c : Str) (p : SV) (F : SF) : SV := fun env => match p env with
  | some (.ins false c' fs) => if c' = c then okF F [.ins false c' fs] else none
  | _ => none
section
variable {X : Cx} {k j : Nat} {F : SF} {c m x : Str} {q p pos apos : Pos} {e o : Expr} {es : List Expr} {pa : SAV} {po : SV}
theorem U_call (d : Df X.prog X.w X.K X.mg X.base k x F) (hr : Room j X.A) (hk : k ≤ j) (hg : Gl X x) (ha : PA X (e :: es) (tAV (kt X) pa)) (hdb : (x == ("__debug__" : Str)) = false := by decide)
    (he : starEach (e :: es) X.env = (false, eval e X.env) :: starEach es X.env := by rfl) (hpl : (backTo pos (starEach es X.env)).any (·.1) = false := by rfl) :
    PE X (.Call (.Name x p) (e :: es) [] pos) (tU (kt X) (pCall F pa)) := by
  obtain ⟨f, fd, ps, G, hm, hkp, hb⟩ := d.ex
  exact pe_imp (pe_callS G (hr.mono hk) hg hm hkp hb (fun σ => passAt takes0 σ) ha hdb he hpl) fun _ _ _ => pcall_u
end
theorem S_never {X : Cx} {kp : Nat → Bool} {W : WXT} {st : Stmt} : PS X st (tS (kt X) kp W (fun _ => none)) := ⟨fun _ _ _ _ _ _ ⟨_, _, _, _, h⟩ => h.elim⟩
end T
set_option Elab.async false
set_option linter.all false
set_option maxRecDepth 100000
set_option maxHeartbeats 4000000
namespace T
open PySem PySem.Spec PyProof.Rows L2
/-- the list at D in the making -/
def AccL (C : Kt) (H1 : Hp) (D : Addr) (acc : List T.D) (H : Hp) : Prop := (∀ a o, H1 a = some o → H a = some o) ∧ ∃ vs fx, H D = some (.lst vs) ∧ RPs C H acc vs fx ∧ fx.Nodup ∧ D ∉ fx ∧ (∀ a ∈ fx, H1 a = none)
theorem AccL.start {C : Kt} {H1 : Hp} {D : Addr} (hD : H1 D = none) : AccL C H1 D [] (upd H1 D (.lst [])) := ⟨fun a o e => by rw [upd_ne (ne_of_none e hD)]; exact e, [], [], upd_same, ⟨rfl, rfl⟩, List.nodup_nil, by simp, noneIn⟩
theorem AccL.push {C : Kt} {H1 H3 H4 : Hp} {D : Addr} {acc : List T.D} {x : T.D} {y : V} {fy : List Addr} (hD : H1 D = none) (h : AccL C H1 D acc H3) (hl : acc.length ≤ 1000000) (s4 : Same H3 H4) (y4 : RP C H4 x y fy) (n4 : fy.Nodup) (fr4 : ∀ a ∈ fy, H3 a = none) :
    ∃ vs, H4 D = some (.lst vs) ∧ vs.length < sizeLine ∧ AccL C H1 D (acc ++ [x]) (upd H4 D (.lst (vs ++ [y]))) := by
  obtain ⟨sm, vs, fx, hd3, hr3, nfx, dfx, ffx⟩ := h
  have hr4 := hr3.st acc (Same.st1 s4 _)
  have sC : ∀ a o, H1 a = some o → H4 a = some o := fun a o e => s4 a o (sm a o e)
  have st5 : ∀ g : List Addr, D ∉ g → St1 H4 (upd H4 D (.lst (vs ++ [y]))) g := fun g hg a o e z => by
    rw [upd_ne]
    · exact e
    · rintro rfl
      rcases z with z | z
      · exact hg z
      · rw [s4 _ _ hd3] at e; cases e; cases z
  have dfy : D ∉ fy := fun z => by rw [fr4 D z] at hd3; cases hd3
  refine ⟨vs, s4 D _ hd3, ?_, fun a o e => by rw [upd_ne (ne_of_none e hD)]; exact sC a o e, vs ++ [y], fx ++ fy, upd_same, ?_, ?_, ?_, ?_⟩
  · rw [← hr4.len, sizeLine_eq]; omega
  · exact RPs.app (hr4.st acc (st5 fx dfx)) ⟨y, [], fy, [], rfl, by simp, y4.st x (st5 fy dfy), rfl, rfl⟩
  · exact fresh_app (H := H3) (hr3.owned acc) nfx n4 fr4
  · rw [List.mem_append]
    rintro (z | z)
    · exact dfx z
    · exact dfy z
  · intro a ha
    rcases List.mem_append.mp ha with z | z
    · exact ffx a z
    · cases q : H1 a with
      | none => rfl
      | some o => rw [← fr4 a z]; exact (sm a o q).symm ▸ rfl
theorem AccL.done {C : Kt} {H H1 H2 : Hp} {D : Addr} {acc : List T.D} {Q : VK} (hD : H1 D = none) (s1 : Same H H1) (h : AccL C H1 D acc H2) (k : ∀ w H' fm, Same H H' → RP C H' (.lst true acc) w fm → fm.Nodup → (∀ a ∈ fm, H a = none) → Q w H') : Q (.ref D) H2 := by
  obtain ⟨sm, vs, fx, hd, hr, nfx, dfx, ffx⟩ := h
  refine k _ H2 (D :: fx) (s1.trans sm) ⟨D, vs, fx, rfl, ⟨hd, rfl⟩, hr⟩ (List.nodup_cons.mpr ⟨dfx, nfx⟩) fun a ha => ?_
  rcases List.mem_cons.mp ha with rfl | ha
  · exact s1.free hD
  · exact s1.free (ffx a ha)
def pIn (vs1 : List Nat) (it1 : SAV) (b1 : Bd) (t1 : STu) (el : SV) (env : Env) : Option (List T.D) := match it1 env with
  | some ns => pLcL b1 t1 el (wipeE vs1 env) ns
  | none => none
def pLc2L (b : Bd) (t : STu) (vs1 : List Nat) (it1 : SAV) (b1 : Bd) (t1 : STu) (el : SV) (env : Env) : List T.D → Option (List T.D)
  | [] => some []
  | m :: r => match b m env with
    | some e1 => match t e1 with
      | some true => match pIn vs1 it1 b1 t1 el e1, pLc2L b t vs1 it1 b1 t1 el env r with
        | some xs, some ys => some (xs ++ ys)
        | _, _ => none
      | some false => pLc2L b t vs1 it1 b1 t1 el env r
      | none => none
    | none => none
def pLc2 (own vs1 : List Nat) (it : SAV) (b : Bd) (t : STu) (it1 : SAV) (b1 : Bd) (t1 : STu) (el : SV) : SV := fun env => match it env with
  | some ms => match pLc2L b t vs1 it1 b1 t1 el (wipeE own env) ms with
    | some xs => if xs.length ≤ 100000 then some (.lst true xs) else none
    | none => none
  | none => none
end T
set_option Elab.async false
set_option linter.all false
set_option maxRecDepth 100000
set_option maxHeartbeats 4000000
namespace T
open PySem PySem.Spec PyProof.Rows L2
def pDcL (b : Bd) (t : STu) (ke ve : SV) (env : Env) : List T.D → List (T.D × T.D) → Option (List (T.D × T.D))
  | [], acc => some acc
  | m :: r, acc => match b m env with
    | some e1 => match t e1 with
      | some true => match ke e1, ve e1 with
        | some k, some x => match dPutN acc k x with
          | some acc' => pDcL b t ke ve env r acc'
          | none => none
        | _, _ => none
      | some false => pDcL b t ke ve env r acc
      | none => none
    | none => none
def pDc (own : List Nat) (it : SAV) (b : Bd) (t : STu) (ke ve : SV) : SV := fun env => match it env with
  | some ms => (pDcL b t ke ve (wipeE own env) ms []).map (.dct true)
  | none => none
end T
set_option Elab.async false
set_option linter.all false
set_option maxRecDepth 100000
set_option maxHeartbeats 4000000
namespace T
open PySem PySem.Spec PySem.Calls PyProof.Rows L2 SS
end T
set_option Elab.async false
set_option linter.all false
set_option maxRecDepth 100000
set_option maxHeartbeats 4000000
namespace T
open PySem PySem.Spec PyProof.Rows L2
def rowD (l : List Int) : D := .tup (l.map .int)
theorem RPs.ints {C : Kt} {H : Hp} : ∀ (l : List Int), RPs C H (l.map D.int) (l.map V.int) []
  | [] => ⟨rfl, rfl⟩
  | i :: r => ⟨_, _, [], [], rfl, rfl, ⟨rfl, rfl⟩, RPs.ints r⟩
end T
set_option Elab.async false
set_option linter.all false
set_option maxRecDepth 100000
set_option maxHeartbeats 4000000
namespace T
open PySem PySem.Spec PyProof.Rows L2
def sgn (c : Nat) : D := .str ⟨#[c]⟩
def iTx (p : SV) : SAV := fun env => match p env with
  | some (.str z) => some (z.cps.toList.map sgn)
  | _ => none
end T
set_option Elab.async false
set_option linter.all false
set_option maxRecDepth 100000
set_option maxHeartbeats 4000000
namespace T
open PySem PySem.Spec PySem.Calls PyProof.Rows L2
def RawD (d : Addr) (es : Array DictEntry) (ep : Nat) (h : Heap) : Prop := ∃ o, h.get? d = some o ∧ o.ExactDict ∧ o.data = .dict es ep
theorem RawD.at {d : Addr} {es : Array DictEntry} {ep : Nat} {h h' : Heap} (x : RawD d es ep h) (k : ∀ o, h.get? d = some o → h'.get? d = some o) : RawD d es ep h' := let ⟨o, e, r⟩ := x; ⟨o, k o e, r⟩
end T
set_option Elab.async false
set_option linter.all false
set_option maxRecDepth 100000
set_option maxHeartbeats 4000000
namespace T
open PySem PySem.Spec PyProof.Rows L2
def rReprC (K : PySem.W.Frag) : RC := fun xs H Q => ∃ a d, xs = [.ref a] ∧ Dp K H (.ref a) d ∧ d.showable = true ∧ d.hasDict = false ∧ d.depth ≤ 50 ∧ d.shown.length ≤ 1000000 ∧ Q (.str d.shown) H
theorem call_reprC {X : Cx} {j : Nat} (hr : Room j X.A) : CallR X (.builtin "repr") (rReprC X.K) := by
  intro pins s σ H xs us Q I r h
  obtain ⟨a, d, rfl, hd, h1, h2, h3, h4, q⟩ := h
  rw [Vals.ref1 r]
  obtain ⟨as, rd⟩ := Dp.reads I d (.ref a) (.ref a) hd rfl
  refine repr_of_reads' rd h1 (fun z => by rw [h2] at z; cases z) hr.gd (by have := hr.un; omega) (fun b o e => e) (fun h' u tk hk => ?_) (by rw [sizeLine_eq]; omega)
  exact ⟨.str d.shown, H, I.kept (t' := tk) hk, ⟨u, rfl⟩, q⟩
def isCt : D → Bool
  | .tup _ => true
  | .lst _ _ => true
  | _ => false
def reprC : List D → Option D
  | [m] => if isCt m = true then (match toP m with
    | some d => if d.showable = true ∧ d.hasDict = false ∧ d.depth ≤ 50 ∧ d.shown.length ≤ 1000000 then some (.str d.shown) else none
    | none => none) else none
  | _ => none
theorem cd_reprC {C : Kt} : CallD C (rReprC C.K) reprC := by
  intro H ms vs fp m x e Q k
  unfold reprC at e
  split at e
  · rename_i m0
    split at e
    · rename_i hc
      split at e
      · rename_i d q
        split at e
        · rename_i hh
          cases e
          obtain ⟨v, ev, x2⟩ := one_of x
          subst ev
          have dp := x2.dp m0 q
          have : ∃ a, v = .ref a := by
            cases m0 with
            | tup ms => obtain ⟨a, _, rfl, _⟩ := x2; exact ⟨a, rfl⟩
            | lst o ms => obtain ⟨a, _, _, rfl, _⟩ := x2; exact ⟨a, rfl⟩
            | _ => cases hc
          obtain ⟨a, rfl⟩ := this
          exact ⟨a, d, rfl, dp, hh.1, hh.2.1, hh.2.2.1, hh.2.2.2, str_res k⟩
        · cases e
      · cases e
    · cases e
  · cases e
def rRepr0 : RC := fun xs H Q => (∃ b, xs = [.bl b] ∧ Q (.str (if b then "True" else "False")) H) ∨ (xs = [.non] ∧ Q (.str "None") H) ∨ (∃ i, xs = [.int i] ∧ i.natAbs.log2 < 1920 ∧ Q (.str (toString i)) H) ∨ (∃ x, xs = [.str x] ∧ (reprText x).length ≤ 1000000 ∧ Q (.str (reprText x)) H)
theorem call_repr0 {X : Cx} : CallR X (.builtin "repr") rRepr0 := by
  intro pins s σ H xs us Q I r h
  rcases h with ⟨b, rfl, q⟩ | ⟨rfl, q⟩ | ⟨i, rfl, hz, q⟩ | ⟨x, rfl, hz, q⟩
  · obtain ⟨u, rfl, e⟩ := vals1 r
    cases e
    exact PySem.P.repr_of_bool ⟨.str _, H, I.tok _, ⟨_, rfl⟩, q⟩
  · obtain ⟨u, rfl, e⟩ := vals1 r
    cases e
    exact PySem.P.repr_of_none ⟨.str _, H, I.tok _, ⟨_, rfl⟩, q⟩
  · obtain ⟨u, rfl, t, rfl⟩ := vals1 r
    exact PySem.P.repr_of_int hz ⟨.str _, H, I.tok _, ⟨_, rfl⟩, q⟩
  · obtain ⟨u, rfl, t, rfl⟩ := vals1 r
    exact PySem.P.repr_of_str ⟨.str _, H, I.tok _, ⟨_, rfl⟩, q⟩ (by rw [sizeLine_eq]; omega)
def repr0 : List D → Option D
  | [.bl b] => some (.str (if b then "True" else "False"))
  | [.non] => some (.str "None")
  | [.int i] => if i.natAbs.log2 < 1920 then some (.str (toString i)) else none
  | [.str x] => if (reprText x).length ≤ 1000000 then some (.str (reprText x)) else none
  | _ => none
theorem cd_repr0 {C : Kt} : CallD C rRepr0 repr0 := by
  intro H ms vs fp m x e Q k
  unfold repr0 at e
  split at e
  · cases e
    obtain ⟨v, ev, x2⟩ := one_of x
    subst ev
    obtain ⟨rfl, _⟩ := x2
    exact .inl ⟨_, rfl, str_res k⟩
  · cases e
    obtain ⟨v, ev, x2⟩ := one_of x
    subst ev
    obtain ⟨rfl, _⟩ := x2
    exact .inr (.inl ⟨rfl, str_res k⟩)
  · split at e
    · rename_i i hi
      cases e
      obtain ⟨v, ev, x2⟩ := one_of x
      subst ev
      obtain ⟨rfl, _⟩ := x2
      exact .inr (.inr (.inl ⟨_, rfl, hi, str_res k⟩))
    · cases e
  · split at e
    · rename_i z hi
      cases e
      obtain ⟨v, ev, x2⟩ := one_of x
      subst ev
      obtain ⟨rfl, _⟩ := x2
      exact .inr (.inr (.inr ⟨_, rfl, hi, str_res k⟩))
    · cases e
  · cases e
def reprD : List D → Option D := fun ms => match reprC ms with
  | some m => some m
  | none => repr0 ms
theorem call_repr {X : Cx} {j : Nat} (hr : Room j X.A) : CallR X (.builtin "repr") (fun xs H Q => rReprC X.K xs H Q ∨ rRepr0 xs H Q) := CallR.or (call_reprC hr) call_repr0
theorem cd_repr {C : Kt} : CallD C (fun xs H Q => rReprC C.K xs H Q ∨ rRepr0 xs H Q) reprD := CallD.or cd_reprC cd_repr0
end T
set_option Elab.async false
set_option linter.all false
set_option maxRecDepth 100000
set_option maxHeartbeats 4000000
namespace T
open PySem PySem.Spec PyProof.Rows L2
theorem law_callG {P : Program} {w : World} {K : PySem.W.Frag} {mg mb : Str → Option Value} {CX : CXT} {k : Nat} {fa a : Addr} {fd : FuncData} {x : Str} {sp : Sp} {s₁ : Shared} {vs : List Value} {ns : List Int}
    (KX : K.In s₁.heap) (hns : s₁.heap.Ns mainGlobals mg) (hb : s₁.heap.Ns builtinsNs mb) (hbb : ∀ x : Str, x ≠ "__name__" → mb x = bootBuiltins x) (hlim : s₁.heap.NoLimit) (hg : s₁.gens = #[])
    (ha : s₁.heap.get? a = some { cls := .type "list", data := .seq vs.toArray }) (hi : IntsAre vs ns) (hl : ns.length ≤ sizeLine) (hr : L2.Room k callerA)
    (F : ∀ base : Heap, K.In base → base.Ns mainGlobals mg → FnOk P w K mg base CX k fa fd [x] sp) (hbind : ∀ (s : Shared) (u : Value), BindsTo s fd ⟨[u], []⟩ [(x, u)])
    (hsp : ∀ H : Hp, Only H → SqL K H a (ns.map V.int) → sp [.ref a] H (fun v _ => v = .bl true) fun _ _ _ => False)
    (hCX : ∀ H e s', CX [] H s₁ (fun _ _ _ => False) e s' → False) :
    codeAny (model P w) callerA (.call (.ref fa) ⟨[.ref a], []⟩) (fun r s' => r = .ok (.ret (.bool true)) ∧ OldK s₁.heap s'.heap ∧ s'.os = s₁.os ∧ AllBare s'.gens) s₁ := by
  have rv := vals_ints hi
  have lenV := hi.length
  -- from an abstract heap in which nothing but the script may be tracked
  have core : ∀ H : Hp, Only H → SqL K H a (ns.map V.int) → HOk P w H s₁.heap → (∀ b, H b ≠ none → b = a) → (H a ≠ none → K.lookup a = none) →
      codeAny (model P w) callerA (.call (.ref fa) ⟨[.ref a], []⟩) (fun r s' => r = .ok (.ret (.bool true)) ∧ OldK s₁.heap s'.heap ∧ s'.os = s₁.os ∧ AllBare s'.gens) s₁ := by
    intro H hO hS hok hA hK
    have base_of : ∀ {b : Addr} {o : Obj}, s₁.heap.get? b = some o → H b = none → (hidT s₁.heap H).get? b = some o := fun e n => hidT_get e n
    have noA : ∀ {b : Addr} {o : Obj} {es : Array DictEntry} {ep : Nat}, s₁.heap.get? b = some o → o.data = .dict es ep → H b = none := fun {b o es ep} e d => by
      cases q : H b with
      | none => rfl
      | some u =>
        have e' : b = a := hA b (by rw [q]; simp)
        subst e'
        rw [ha] at e; cases e
        have d' : Data.seq vs.toArray _ = Data.dict es ep := d
        cases d'
    have nsK : ∀ {b : Addr} {m : Str → Option Value}, s₁.heap.Ns b m → (hidT s₁.heap H).Ns b m := fun {b m} ⟨o, es, ep, e, d, r⟩ => ⟨o, es, ep, base_of e (noA e d), d, r⟩
    have hKb : K.In (hidT s₁.heap H) := fun b o e => base_of (KX b o e) (by
      cases q : H b with
      | none => rfl
      | some u =>
        have e' : b = a := hA b (by rw [q]; simp)
        subst e'
        rw [hK (by rw [q]; simp)] at e; cases e)
    have hM : Mod K mg (hidT s₁.heap H) := ⟨hKb, nsK hns, ⟨mb, nsK hb, hbb⟩, let ⟨mc, h1, h2⟩ := hlim; ⟨mc, nsK h1, h2⟩⟩
    have e0 : Env0 P w K mg (hidT s₁.heap H) callerA [] s₁ H := ⟨rfl, hM, fun b o e => of_hidT e, Nat.le_of_eq (hidT_size _ _), trivial, fun b hb => absurd (show b ∈ ([] : List Addr) from hb) (by simp), hok, .of_eq hg⟩
    refine codeAny_mono ((F _ hKb (nsK hns)).run callerA [] s₁ H ⟨[.ref a], []⟩ [.ref a] [.ref a] _ _ ⟨hr, rfl⟩ e0 (hbind s₁ (.ref a)) (.cons rfl .nil) (hsp H hO hS)) fun r s' h => ?_
    cases r with
    | error e => exact (hCX H e s' h).elim
    | ok fl =>
      cases fl with
      | next => exact False.elim h
      | brk => exact False.elim h
      | cont => exact False.elim h
      | ret u =>
        obtain ⟨v, H', os, bare, un, hok', r', q⟩ := h
        have q' : v = .bl true := q
        subst q'
        obtain rfl : u = Value.bool true := r'
        refine ⟨rfl, OldK.of_keep fun b o e => ?_, os, bare⟩
        cases q : H b with
        | none => exact un.keep b o e q (by intro z; exact absurd (show b ∈ ([] : List Addr) from z) (by simp)) (by simp)
        | some u =>
          rcases hO b with z | ⟨ob, xs, z⟩
          · rw [q] at z; cases z
          · have z2 := un.frzs b ob _ z
            obtain ⟨e1, _⟩ := hok b _ z
            obtain ⟨e2, _⟩ := hok' b _ z2
            rw [e] at e1; cases e1
            exact e2
  cases hk : K.lookup a with
  | some o =>
    -- the script is one of the module's own objects
    have e := KX a o hk
    rw [ha] at e
    cases e
    refine core (fun _ => none) (fun _ => .inl rfl) (.inr ⟨_, vs.toArray, _, hk, rfl, rfl, rfl, by rw [List.size_toArray, lenV]; exact hl, by simpa using rv⟩) (fun b u z => by have z' : (none : Option HO) = some u := z; cases z') (fun b z => absurd rfl z) fun z => absurd rfl z
  | none =>
    refine core (fun b => if b = a then some (.frz { cls := .type "list", data := .seq vs.toArray } (.lst (ns.map V.int))) else none) (fun b => ?_) (.inl (.inr ⟨{ cls := .type "list", data := .seq vs.toArray }, if_pos rfl⟩)) (fun b u z => ?_) (fun b z => ?_) fun _ => hk
    · by_cases hb : b = a
      · exact .inr ⟨_, _, if_pos hb⟩
      · exact .inl (if_neg hb)
    · by_cases hb : b = a
      · have z' := (if_pos hb).symm.trans z
        cases z'
        subst hb
        exact ⟨ha, by rw [List.length_map]; exact hl, vs, _, rv, ha⟩
      · have z' := (if_neg hb).symm.trans z
        cases z'
    · by_cases hb : b = a
      · exact hb
      · exact absurd (if_neg hb) z
theorem walk_ofG {l : PySem.W.OpenLaw} {n k : Nat} {q : Program} {loose : List Str} {XP : (Str → Option Value) → Heap → Prop} {YP : World → Heap → Prop} {d : DefRec} {K : Params → PySem.W.Frag} {CX : World → CXT} {sp : World → Sp} {x : Str}
    (hn : l.most = some n) (hn2 : n ≤ sizeLine) (hdf : d.params.defaults = []) (hr : L2.Room k callerA)
    (hY : ∀ (w : World) (h : Heap), YP w h → (K w.params).In h)
    (F : ∀ (w : World) (mg : Str → Option Value) (fa : Addr) (h : Heap), (K w.params).In h → h.Ns mainGlobals mg → mg d.name = some (.ref fa) →
      ∃ fd : FuncData, (∀ (s : Shared) (u : Value), BindsTo s fd ⟨[u], []⟩ [(x, u)]) ∧
        ∀ base : Heap, (K w.params).In base → base.Ns mainGlobals mg → FnOk l.prog w (K w.params) mg base (CX w) k fa fd [x] (sp w))
    (hsp : ∀ (w : World) (H : Hp) (a : Addr) (ns : List Int), ns.length ≤ n → Only H → SqL (K w.params) H a (ns.map V.int) → sp w [.ref a] H (fun v _ => v = .bl true) fun _ _ _ => False)
    (hCX : ∀ (w : World) (H : Hp) (s : Shared) (e : Value) (s' : Shared), CX w [] H s (fun _ _ _ => False) e s' → False) :
    PySem.W.WalkO q loose XP YP l.row.toRowW d [] (fun f vs => PySem.call f vs) := by
  refine Att.attach_call hn hdf fun w s₀ s₁ mg mb fa o pm cd doc a vs ns G Y ho hd hcd hmg hobj hints hlen hg => ?_
  have KX := hY w _ Y
  obtain ⟨fd, hb, hF⟩ := F w mg fa _ KX G.T.g hmg
  exact law_callG KX G.T.g G.T.b G.T.builtins G.T.nolimit hg hobj hints (Nat.le_trans hlen hn2) hr hF hb (fun H hO hS => hsp w H a ns hlen hO hS) fun H e s' => hCX w H s₁ e s'
end T
set_option Elab.async false
set_option linter.all false
set_option maxRecDepth 100000
set_option maxHeartbeats 4000000
namespace T
open PySem PySem.Spec PyProof.Rows L2
def pChain (f g : D → D → Option D) (p q r : SV) : SV := fun env => match p env, q env with
  | some x, some y => match f x y with
    | some (.bl true) => (match r env with
      | some z => g y z
      | none => none)
    | some (.bl false) => some (.bl false)
    | _ => none
  | _, _ => none
def rgL (n : Int) : Option D := if 0 ≤ n ∧ n ≤ 1000000 then some (.lst true ((List.range n.toNat).map fun i => .int (i : Nat))) else none
def lstRg : D → Option D
  | .int n => rgL n
  | _ => none
theorem lstRg_u {C : Kt} {σ : L2.St} {H : Hp} {Q : VK} {p : SV} (x : tU C (p1 lstRg p) σ H Q) : tLstRg (tRg1 (tV C p)) σ H Q := by
  obtain ⟨env, fp, m, r, e, k⟩ := x
  unfold p1 at e
  cases q : p env with
  | none => rw [q] at e; cases e
  | some z =>
    rw [q] at e
    simp only [Option.bind_some] at e
    cases z with
    | int n =>
      unfold lstRg rgL at e
      dsimp only at e
      split at e
      · rename_i hn
        cases e
        refine ⟨env, fp, _, r, q, fun v H1 fm s y => ⟨n, y.1, ⟨by omega, by omega, by omega, by omega, by omega⟩, fun a ha => ?_⟩⟩
        have sm := same_tup (u := .lst (rgV 0 n)) ha
        have : RPs C (upd H1 a (.lst (rgV 0 n))) ((List.range n.toNat).map fun i => D.int (i : Nat)) (rgV 0 n) [] := by
          have e1 : rgV 0 n = ((List.range n.toNat).map fun i => ((i : Nat) : Int)).map V.int := by
            unfold rgV
            simp
          have e2 : ((List.range n.toNat).map fun i => D.int (i : Nat)) = ((List.range n.toNat).map fun i => ((i : Nat) : Int)).map D.int := by simp
          rw [e1, e2]
          exact RPs.ints _
        exact k (.ref a) _ [a] (s.trans sm) ⟨a, _, [], rfl, ⟨upd_same, rfl⟩, this⟩ (by simp) fun b hb => by rw [List.mem_singleton.mp hb]; exact s.free ha
      · cases e
    | _ => cases e
theorem U_lstRg {X : Cx} {a : Expr} {p p2 pos pos2 : Pos} {sp : SV} (hc : X.calm = true) (hg : Gl X "list") (hm : X.mg "list" = none) (hg2 : Gl X "range") (hm2 : X.mg "range" = none) (ha : PE X a (tV (kt X) sp))
    (na : starEach [a] X.env = (false, eval a X.env) :: starEach [] X.env := by rfl) (na2 : starEach [.Call (.Name "range" p2) [a] [] pos2] X.env = (false, eval (.Call (.Name "range" p2) [a] [] pos2) X.env) :: starEach [] X.env := by rfl) :
    PE X (.Call (.Name "list" p) [.Call (.Name "range" p2) [a] [] pos2] [] pos) (tU (kt X) (p1 lstRg sp)) := pe_imp (pe_listRg hc hg hm (prg_1 hg2 hm2 ha na) na2) fun _ _ _ => lstRg_u
end T
set_option Elab.async false
set_option linter.all false
set_option maxRecDepth 100000
set_option maxHeartbeats 4000000
namespace T
open PySem PySem.Spec PyProof.Rows L2
end T
set_option Elab.async false
set_option linter.all false
set_option maxRecDepth 100000
set_option maxHeartbeats 4000000
namespace T
open PySem PySem.Spec PyProof.Rows L2
def pCallU (F : SF) (pa : SAV) : SV := fun env => match pa env with
  | some ms => okF F ms
  | none => none
end T
set_option Elab.async false
set_option linter.all false
set_option maxRecDepth 100000
set_option maxHeartbeats 4000000
namespace T
open PySem PySem.Spec PyProof.Rows L2
end T
set_option Elab.async false
set_option linter.all false
set_option maxRecDepth 100000
set_option maxHeartbeats 4000000
namespace PySem.W
open PySem PySem.Spec PyProof.Rows PySem.SeqAt
end PySem.W
set_option Elab.async false
set_option linter.all false
set_option maxRecDepth 100000
set_option maxHeartbeats 4000000
namespace T
open PySem PySem.Spec PyProof.Rows L2
end T
set_option Elab.async false
set_option linter.all false
set_option maxRecDepth 100000
set_option maxHeartbeats 4000000
namespace T
open PySem PySem.Spec PyProof.Rows L2
end T
set_option Elab.async false
set_option linter.all false
set_option maxRecDepth 100000
set_option maxHeartbeats 4000000
namespace T
open PySem PySem.Spec PyProof.Rows L2
end T
set_option Elab.async false
set_option linter.all false
set_option maxRecDepth 100000
set_option maxHeartbeats 4000000
namespace T
open PySem PySem.Spec PyProof.Rows L2
def pmArgs (q1 q2 : Pos) : Arguments := { posonlyargs := [], args := [{ arg := "self", annotation := none, pos := q1 }, { arg := "value", annotation := none, pos := q2 }], vararg := none, kwonlyargs := [], kw_defaults := [], kwarg := none, defaults := [] }
def pmScope : Scope := { kind := .function, names := [(Str.ofString "self", .local), (Str.ofString "value", .local), (Str.ofString "__class__", .free), (Str.ofString "super", .globalImplicit)], isGenerator := false, isCoroutine := false, more := [] }
def pmBody (p0 p1 p2 p3 p4 p5 p6 p7 p8 p9 : Pos) : List Stmt :=
  [.Expr (.Call (.Attribute (.Call (.Name "super" p0) [] [] p1) "__init__" p2) [.Name "value" p3] [] p4) p5, .Assign [.Attribute (.Name "self" p6) "value" p7] (.Name "value" p8) p9]
/-- what the written part says of the class D of all these errors -/
structure PmD (K : PySem.W.Frag) (main : Str) (D fI : Addr) : Prop where
  fn : ∃ oc od p0 p1 p2 p3 p4 p5 p6 p7 p8 p9 q1 q2 kV doc pm an cda ct cc osl, K.lookup fI = some ⟨oc, od, .func (PySem.W.ksFn "__init__" "PlateError.__init__" (pmArgs q1 q2) (pmBody p0 p1 p2 p3 p4 p5 p6 p7 p8 p9) pmScope .none kV doc pm an (.ref cda) ct cc), osl⟩ ∧
    PySem.W.codeIn K (.ref cda) "PlateError.__init__" = true ∧ (p2.endLine == p4.line) = true ∧
    (∃ ccl cdd vs file tf ccs, K.lookup cda = some ⟨ccl, cdd, .fields vs, ccs⟩ ∧ vs[2]? = some (.str file tf) ∧ (main == file) = true) ∧ ∃ cl cld csl, K.lookup cc = some ⟨cl, cld, .cell (some (.ref D)), csl⟩
  cd : ∃ cdD, PySem.W.clsIn K D = some cdD
  ty : PySem.W.typeIn K (.ref fI) = some (.type "function")
  op : PySem.W.nsIn K cStatics "thirdparty.any" = some none
/-- .. of the class C of an error -/
structure PmC (K : PySem.W.Frag) (D fI C : Addr) : Prop where
  cls : ∃ nm q N bs bm sn sub ab col dd k0 k1 k2 k3 k5, K.lookup C = some (excClassObj nm q C N bs bm true sn sub ab col dd k0 k1 k2 k3 k5 "ValueError.__new__") ∧ PySem.HandSPX.refsVE bm = true
  sa : PySem.W.findIn K (.ref C) "__setattr__" = some (some (.builtin "object.__setattr__"))
  exC : PySem.W.subIn K (.ref C) (.type "BaseException") = some true
  exV : PySem.W.subIn K (.ref C) (.type "ValueError") = some true
  tyC : PySem.W.typeIn K (.ref C) = some (.type "type")
  kC : PySem.W.keepIn K (.ref C) = true
  md : PySem.W.mroIn K C (.ref D) = some true
  sup : PySem.W.ks_superIn K C D "__init__" = some (some (.builtin "ValueError.__init__"))
  no : PySem.W.findIn K (.ref C) "value" = some none
  ini : PySem.W.findIn K (.ref C) "__init__" = some (some (.ref fI))
theorem pm_bind {q1 q2 : Pos} {body : List Stmt} {kV doc pm cdv ct : Value} {an : Option Addr} {cc : Addr} {s : Shared} {a u : Value} :
    BindsTo s (PySem.W.ksFn "__init__" "PlateError.__init__" (pmArgs q1 q2) body pmScope .none kV doc pm an cdv ct cc) ⟨[a, u], []⟩ [("self", a), ("value", u)] := .of_eq rfl
theorem pm_call {p0 p1 p2 p3 p4 : Pos} {env : PySem.Env} (hl : (p2.endLine == p4.line) = true) : eval (.Call (.Attribute (.Call (.Name "super" p0) [] [] p1) "__init__" p2) [.Name "value" p3] [] p4) env = (do
      let ov ← attributeBase (.Call (.Name "super" p0) [] [] p1) "__init__" env (eval (.Call (.Name "super" p0) [] [] p1) env)
      standAt p2.atName
      let (f, first) ← holding [ov] (getMethod ov "__init__" (plainOf (.Call (.Name "super" p0) [] [] p1) env))
      callWith p4 f first (backTo p4 (starEach [.Name "value" p3] env)) []) := by
  rw [arm_eval_Call]
  refine congrArg _ (funext fun ov => ?_)
  refine congrArg _ (funext fun _ => ?_)
  exact mcall_line rfl hl
section
open PySem.W PySem.Calls
variable {prog : Program} {w : World} {A : Around} {R : Result → Shared → Prop} {hp : Heap} {g : Array GenState} {d : Drawn} {t : Nat} {os : OsState}
/-- the walk of __init__ -/
theorem pm_init {K : PySem.W.Frag} {D C fI e t0 : Addr} {u : Value} {mg mb : Str → Option Value} (X : K.In hp) (TD : PmD K prog.main.file D fI) (TC : PmC K D fI C) (hroom : A.depth < recursionLimit) (hlim : hp.NoLimit)
    (hg : hp.Ns mainGlobals mg) (hgs : mg "super" = none) (hb : hp.Ns builtinsNs mb) (hbs : mb "super" = some (.type "super")) (htop : (prog.main.scope.names.lookup ("super" : Str)).isSome = false)
    (he : hp.get? e = some (PySem.HandSPX.excO C t0)) (hKe : K.lookup e = none)
    (hq : ∀ h' t' t1 dx, (∀ b o, b ≠ e → hp.get? b = some o → h'.get? b = some o) → hp.objs.size ≤ dx → dx ≠ e → h'.get? e = some ({ cls := .ref C, dict := some dx, data := .fields #[.ref t1, .none, .none, .none, .bool false, .none] } : Obj) →
      h'.Ns1 dx (fun y => if y = "value" then some u else none) → R (.ok (.ret .none)) ⟨h', g, d, t', os⟩) :
    codeAny (model prog w) A (.call (.ref fI) ⟨[.ref e, u], []⟩) R ⟨hp, g, d, t, os⟩ := by
  obtain ⟨⟨oc, od, p0, p1, p2, p3, p4, p5, p6, p7, p8, p9, q1, q2, kV, doc, pm, an, cda, ct, cc, osl, hf, hcd, hl, ⟨ccl, cdd, vs, file, tf, ccs, hcode, hvs, hfile⟩, cl, cld, csl, hcell⟩, ⟨cdD, hD⟩, hty, hop⟩ := TD
  obtain ⟨nm, q, N, bs, bm, sn, sub, ab, col, dd, k0, k1, k2, k3, k5, hC, hbm⟩ := TC.cls
  refine ks_codeAny_call_defAt (fd := PySem.W.ksFn "__init__" "PlateError.__init__" (pmArgs q1 q2) (pmBody p0 p1 p2 p3 p4 p5 p6 p7 p8 p9) pmScope .none kV doc pm an (.ref cda) ct cc) (body := pmBody p0 p1 p2 p3 p4 p5 p6 p7 p8 p9) (binds := [("self", .ref e), ("value", u)])
    hroom (X _ _ hf) rfl hlim (codeRec_of X hcd) rfl pm_bind (show ∀ x ∈ pmScope.names, x.2 ≠ .cell by decide) (fun x hx => ?_) (fun h₁ hns hk₁ => ?_)
  · rcases List.mem_cons.mp hx with rfl | hx
    · rfl
    · rw [List.mem_singleton.mp hx]; rfl
  have X1 : K.In h₁ := X.keeps hk₁
  have he1 := hk₁ _ _ he
  obtain ⟨oD, hD1, hD2⟩ : ∃ oD, h₁.get? D = some oD ∧ oD.data = .cls cdD := by
    unfold clsIn at hD
    split at hD
    · rename_i c d cd' sl ho
      cases hD
      exact ⟨_, X1 _ _ ho, rfl⟩
    · cases hD
  have I1 : InstAt h₁ e (PySem.HandSPX.excO C t0) C none := ⟨he1, rfl, rfl, trivial⟩
  refine ks_wpAt_execs_cons (ks_wpAt_Expr_any (ks_wpAt_MethodCall (ks_wpAt_super_base rfl rfl rfl rfl (X1 _ _ hf) rfl rfl rfl (X1 _ _ hcode) rfl hvs hfile htop ?_) (pm_call hl)))
  have nsk : ∀ {a : Addr} {m : Str → Option Value} {ha hb : Heap}, ha.Ns a m → (∀ b o, ha.get? b = some o → hb.get? b = some o) → hb.Ns a m := fun ⟨o, es, ep, e, r⟩ k => ⟨o, es, ep, k _ _ e, r⟩
  refine ks_loadName_global rfl rfl (loadGlobal_builtin (nsk hg hk₁) hgs (nsk hb hk₁) hbs ⟨rfl, ?_⟩)
  refine wpAny_loadName_free rfl rfl rfl ⟨_, X1 _ _ hcell, rfl⟩ ?_
  refine wpAny_loadName_local rfl rfl hns (v := .ref e) rfl ?_
  refine ks_wpAny_isType_cls hD1 hD2 ⟨rfl, ?_⟩
  refine ks_wpAny_call_super hD1 hD2 he1 rfl (fun c z => by cases z) (looks_mroIn X1 TC.md) (fun h2 e2 k2 => ?_)
  have X2 : K.In h2 := X1.keeps k2
  have he2 := k2 _ _ he1
  have I2 : InstAt h2 e (PySem.HandSPX.excO C t0) C none := ⟨he2, rfl, rfl, trivial⟩
  have hcl : PySem.W.clsIn K C = some { name := nm, bases := bs, mro := .ref C :: bm, ns := N, qualname := q, hasDict := true, slotNames := sn, subclasses := sub, abstract := ab, collection := col, hasDel := false } := by unfold PySem.W.clsIn; rw [hC] <;> rfl
  have hsup := TC.sup
  unfold ks_superIn at hsup
  rw [hcl] at hsup
  have hneC : e ≠ C := ks_ne X2 I2 hcl
  refine kxs_getMethod kxs_ValueError e2 (looks_opaque X2 hop) (l₀ := .ref C :: bm) (fun A Q E s k q => wpAny_bind ((looks_clsIn X2 hcl) A _ E s k (wpAny_pure q))) rfl X2 hsup (I2.type.andThen (looks_subIn X2 TC.exV)) hneC rfl ?_
  refine kxs_callWith (i := "ValueError.__init__") (x := e) rfl ?_
  refine evalArgs_plain (spliced_cons ?_)
  have k3 : ∀ b o, h2.get? b = some o → (h2.push (kxs_mw "ValueError.__init__" e)).get? b = some o := fun b o z => Heap.get?_push_of_some _ z
  refine wpAny_Name (wpAny_loadName_local rfl rfl (nsk (nsk hns k2) k3) (v := u) rfl ?_) (by decide)
  refine spliced_nil ⟨Heap.get?_push_size _ rfl, ?_⟩
  have X3 := X2.keeps k3
  have he3 := k3 _ _ he2
  refine wpAny_call (codeAny_of_tree ?_)
  show wpAny _ _ (callAny (.ref h2.objs.size) ⟨[u], []⟩) _ _ _
  simp only [callAny]
  refine wpAny_bind (wpAny_load (Heap.get?_push_size _ rfl) ?_)
  simp only [kxs_mw, show (Value.type "method-wrapper" == Value.type "method" || Value.type "method-wrapper" == Value.type "builtin_function_or_method" || Value.type "method-wrapper" == Value.type "method-wrapper") = true by decide, if_true]
  refine KFB.if_so (by decide) ?_
  refine wpAny_bind (PySem.W.check_bound_init F.excBase_ValueError.toExcCallFacts (X3 _ _ hC) he3 rfl ?_)
  refine wpAny_bind (wpAny_pure (wpAny_pure ?_))
  refine ⟨plainId_quiet F.excBase_ValueError.init.plain _, codeAny_builtin F.excBase_ValueError.initEntry ?_⟩
  refine exc_init_tree (cls := .ref C) (t0 := t0) (dv := none) (c2 := .none) (c3 := .none) (b4 := .bool false) he3 (by show 1 ≤ sizeLine; rw [sizeLine_eq]; omega) (fun h4 k4 e4 _ => ?_)
  have X4 : K.In h4 := fun b o z => k4 b o (fun y => by
    rw [y] at z
    rw [hKe] at z
    cases z) (X3 b o z)
  have hLe : hp.objs.size ≠ e := Nat.ne_of_gt (Heap.lt_size he)
  have hn4 : h4.Ns hp.objs.size (fun x => [(Str.ofString "self", Value.ref e), (Str.ofString "value", u)].reverse.lookup x) := by
    obtain ⟨o, es, ep, q, r⟩ := hns
    exact ⟨o, es, ep, k4 _ _ hLe (k3 _ _ (k2 _ _ q)), r⟩
  have kk : ∀ b o, b ≠ e → hp.get? b = some o → h4.get? b = some o := fun b o hb z => k4 b o hb (k3 _ _ (k2 _ _ (hk₁ _ _ z)))
  show PySem.wpAt _ _ _ (execs _ _) _ _ _
  refine ks_wpAt_execs_cons (ks_wpAt_Assign_Attr (wpAt_of_wpAny (wpAny_Name (wpAny_loadName_local rfl rfl hn4 (v := u) rfl ?_) (by decide))))
  refine wpAny_Name (wpAny_loadName_local rfl rfl hn4 (v := .ref e) rfl ?_) (by decide)
  refine PySem.W.set_plain X4 (ox := { cls := .ref C, dict := none, data := .fields #[.ref (h2.push (kxs_mw "ValueError.__init__" e)).objs.size, .none, .none, .none, .bool false, .none] }) (od := none) ⟨e4, rfl, rfl, trivial⟩ TC.sa ?_
  refine PySem.HandSPX.exc_osa X4 e4 hcl (show PySem.HandSPX.refsVE (.ref C :: bm) = true from hbm) rfl TC.no (fun h5 tk dx k5 dn dne hx hn5 => ?_)
  show PySem.wpAt _ _ _ (execs [] _) _ _ _
  refine wpAt_of_wpAny (wpAny_execs_nil ?_)
  refine hq h5 _ _ dx (fun b o hb z => k5 b o hb (kk b o hb z)) ?_ dne hx hn5
  have e9 : hp.objs.size < h4.objs.size := by
    obtain ⟨o, es, ep, q, r⟩ := hn4
    exact Heap.lt_size q
  exact Nat.le_trans (Nat.le_of_lt e9) dn
end
section
variable {X : Cx} {e : Expr} {te : TE} {p pos : Pos}
/-- C(e), the error being made -/
def tMkV (C : Addr) (te : TE) : L2.St → Hp → XK → Prop := fun σ H Q => te σ H fun v H1 => ∀ d, H1 d = none → Q (.ref C) (some d) (upd H1 d (.xd [("value", v)]))
theorem pmk_v {x : Str} {D C fI : Addr} {k : Nat} (TD : PmD X.K X.prog.main.file D fI) (TC : PmC X.K D fI C) (hgs : X.mg "super" = none) (htop : (X.prog.main.scope.names.lookup ("super" : Str)).isSome = false) (hr : Room (k + 2) X.A) (hg : Gl X x) (hm : X.mg x = some (.ref C)) (he : PE X e te)
    (hdb : (x == ("__debug__" : Str)) = false := by decide) (hst : starEach [e] X.env = (false, eval e X.env) :: starEach [] X.env := by rfl) (hpl : (backTo pos (starEach [] X.env)).any (·.1) = false := by rfl) :
    PMk X (.Call (.Name x p) [e] [] pos) (tMkV C te) := by
  intro pins s σ H Q I h
  obtain ⟨nm, q, N, bs, bm, sn, sub, ab, col, dd, k0, k1, k2, k3, k5, hC, hbm⟩ := TC.cls
  refine wpAny_Call_Name_kw (ld_glob I hg hm ?_ hdb)
  refine PySem.W.callWith_K (h₀ := X.base) I.ok.mod.kin TC.kC ?_ hst hpl
  rw [hst]
  show wpAny _ _ (spliced ((false, eval e X.env) :: backTo pos (starEach [] X.env))) _ _ s
  refine Calls.spliced_cons (thn (he.run pins s σ H _ I h) fun u s1 ⟨v, H1, I1, r1, q1⟩ => ?_)
  refine Calls.spliced_nil ⟨I1.kIn, ?_⟩
  show wpAny _ _ (call (.ref C) [u]) _ _ _
  obtain ⟨mb, hbn, hbb⟩ := I1.ok.mod.blt
  have lim := I1.nolimit
  have glob := I1.ok.mod.glob
  have bk := I1.bk
  have bare := I1.bare
  obtain ⟨hp, g, dr, tk, os⟩ := s1
  have nsk : ∀ {a : Addr} {m : Str → Option Value} {ha hb : Heap}, ha.Ns a m → (∀ b o, ha.get? b = some o → hb.get? b = some o) → hb.Ns a m := fun ⟨o, es, ep, e, r⟩ k => ⟨o, es, ep, k _ _ e, r⟩
  have kk : ∀ b o, hp.get? b = some o → ((hp.push (PySem.W.kdv_tup [u])).push (PySem.HandSPX.excO C hp.objs.size)).get? b = some o := fun b o e => Heap.get?_push_of_some _ (Heap.get?_push_of_some _ e)
  have hget : ((hp.push (PySem.W.kdv_tup [u])).push (PySem.HandSPX.excO C hp.objs.size)).get? (hp.objs.size + 1) = some (PySem.HandSPX.excO C hp.objs.size) := by heap_get
  have hsz : hp.objs.size ≤ hp.objs.size + 1 := Nat.le_succ _
  have XK : X.K.In hp := I1.kIn
  have hKe : X.K.lookup (hp.objs.size + 1) = none := by
    cases q : X.K.lookup (hp.objs.size + 1) with
    | none => rfl
    | some o => exact absurd (Heap.lt_size (XK _ _ q)) (Nat.not_lt.mpr (Nat.le_succ _))
  refine wpAny_call (PySem.HandSPX.call_own F.excBase_ValueError (fun Y => PySem.HandSPX.refsVE_contains Y bm hbm) (XK _ _ hC) (PySem.W.looks_findIn XK TC.ini) (fun self => PySem.W.bind_fn XK self TD.ty) (by show 1 ≤ sizeLine; rw [sizeLine_eq]; omega) ?_)
  have hr2 := hr.make (k := k + 1) C [u] []
  refine pm_init (XK.keeps kk) TD TC hr2.depth (lim.keeps kk) (nsk (nsk glob bk) kk) hgs (nsk (nsk hbn bk) kk) ((hbb _ (by decide)).trans (by kernel_rfl)) htop hget hKe fun h' t' t1 dx k dn dne hx hn => ?_
  have hd2 : hp.objs.size ≤ dx := Nat.le_trans (Nat.le_trans (Nat.le_succ _) (Nat.le_succ _)) (by simpa only [Heap.size_push] using dn)
  have hn1 : H1 dx = none := I1.hok.fresh hd2
  obtain ⟨G, g1, g2⟩ := restrict h' fun b => decide (b ≠ hp.objs.size + 1)
  have gk : ∀ b o, b ≠ hp.objs.size + 1 → h'.get? b = some o → G.get? b = some o := fun b o hb e => by
    rw [g1 b (decide_eq_true hb)]
    exact e
  have ga : G.get? (hp.objs.size + 1) = none := g2 _ (decide_eq_false fun z => z rfl)
  have gs : ∀ b o, G.get? b = some o → h'.get? b = some o := fun b o e => by
    by_cases hb : b = hp.objs.size + 1
    · rw [hb, ga] at e; cases e
    · rw [← g1 b (decide_eq_true hb)]
      exact e
  have kG : ∀ b o, hp.get? b = some o → G.get? b = some o := fun b o e => by
    have hb : b ≠ hp.objs.size + 1 := Nat.ne_of_lt (Nat.lt_of_lt_of_le (Heap.lt_size e) hsz)
    exact gk b o hb (k b o hb (kk b o e))
  have nd : hp.get? dx = none := by
    cases q : hp.get? dx with
    | none => rfl
    | some o => exact absurd (Heap.lt_size q) (Nat.not_lt.mpr hd2)
  have J := I1.laidN (h' := G) (a := dx) (o := .xd [("value", v)]) (t' := t') kG nd hn1 (by
    obtain ⟨o, es, ep, e, r⟩ := hn
    refine ⟨_, ⟨o, es, ep, gk _ _ dne e, r⟩, fun f => ?_⟩
    rw [lookup_put]
    by_cases hf : f = "value"
    · rw [if_pos hf, if_pos hf]; exact r1
    · rw [if_neg hf, if_neg hf]; trivial)
  exact ⟨rfl, _, _, _, ⟨G, g, dr, t', os⟩, _, .ref C, some dx, rfl, J, gs, ga, hx, ⟨rfl, rfl⟩, rfl, rfl, by rw [upd_ne (Ne.symm dne)]; exact I1.hok.fresh hsz, rfl, bare, raises_own TC.exC TC.tyC, q1 dx hn1⟩
end
/-- the class x, one of the errors -/
structure Erk (P : Program) (K : PySem.W.Frag) (mg : Str → Option Value) (x : Str) : Prop where
  ex : ∃ D C fI, PmD K P.main.file D fI ∧ PmC K D fI C ∧ mg x = some (.ref C) ∧ mg "super" = none ∧ (P.main.scope.names.lookup ("super" : Str)).isSome = false
end T
set_option Elab.async false
set_option linter.all false
set_option maxRecDepth 100000
set_option maxHeartbeats 4000000
namespace T
open PySem PySem.Spec PyProof.Rows L2
end T
set_option Elab.async false
set_option linter.all false
set_option maxRecDepth 100000
set_option maxHeartbeats 4000000
namespace T
open PySem PySem.Spec PyProof.Rows L2 LamX
end T
set_option Elab.async false
set_option linter.all false
set_option maxRecDepth 100000
set_option maxHeartbeats 4000000
namespace T
open PySem PySem.Spec PyProof.Rows L2 LamX
end T
set_option Elab.async false
set_option linter.all false
set_option maxRecDepth 100000
set_option maxHeartbeats 4000000
namespace T
open PySem PySem.Spec PyProof.Rows L2 LamX
end T
set_option Elab.async false
set_option linter.all false
set_option maxRecDepth 100000
set_option maxHeartbeats 4000000
namespace T
open PySem PySem.Spec PyProof.Rows L2 LamX
end T
set_option Elab.async false
set_option linter.all false
set_option maxRecDepth 100000
set_option maxHeartbeats 4000000
namespace T
open PySem PySem.Spec PyProof.Rows L2
/-- what an error's class says -/
structure ErrC (K : PySem.W.Frag) (A : Addr) : Prop where
  cl : (PySem.W.clsIn K A).isSome = true
  ga : PySem.W.findIn K (.ref A) "__getattribute__" = some (some (.builtin "BaseException.__getattribute__"))
  gt : PySem.W.findIn K (.ref A) "__getattr__" = some none
  sb : PySem.W.subIn K (.ref A) (.type "BaseException") = some true
  ha : PySem.W.findIn K (.ref A) "__class__" = some (some (.builtin "object.__class__"))
  hn : PySem.W.specialIn K (.builtin "object.__class__") "__get__" = some (some (.builtin "getset_descriptor.__get__"))
  ht : PySem.W.takesIn K (.builtin "object.__class__") = some true
  hm : PySem.W.mroIn K A (.type "object") = some true
  hd : PySem.W.hasDictIn K A = true
  no : PySem.W.findIn K (.ref A) "value" = some none
/-- x is an errors' class; L: what isinstance tells of the errors' classes -/
structure IsX (K : PySem.W.Frag) (mg : Str → Option Value) (x : Str) (L : List (Str × Bool)) : Prop where
  ex : ∃ C, mg x = some (.ref C) ∧ (∀ t, t ∈ ["NoneType", "bool", "int", "str", "tuple", "list", "dict"] → PySem.W.kitOne K (.type t) (.ref C) = some false) ∧ ∀ c b A, L.lookup c = some b → mg c = some (.ref A) → ErrC K A ∧ PySem.W.kitOne K (.ref A) (.ref C) = some b
def isXD (L : List (Str × Bool)) : D → Option D
  | .exc c _ => (L.lookup c).map .bl
  | m => match tyN m with
    | some _ => some (.bl false)
    | none => none
/-- the object of a kept error, its dict -/
theorem exc_at {X : Cx} {pins : List (Addr × Obj)} {σ : L2.St} {H : Hp} {s : Shared} {a dd A : Addr} {fs : List (Str × V)} (I : Inv X pins σ H s) (h1 : H a = some (ExK (.ref A) (some dd) a)) (h2 : H dd = some (.xd fs)) :
    ∃ oe od, PySem.W.InstAt s.heap a oe A (some od) ∧ oe.dict = some dd ∧ s.heap.get? dd = some od ∧ ∃ mA, s.heap.Ns1 dd mA ∧ ∀ f, RelO (fs.lookup f) (mA f) := by
  have x1 : ObjOk X.prog X.w H s.heap a (ExK (.ref A) (some dd) a) := I.hok a _ h1
  have x2 : ObjOk X.prog X.w H s.heap dd (.xd fs) := I.hok dd _ h2
  obtain ⟨⟨oe, vs, e1, z, hd⟩, _⟩ := x1
  obtain ⟨mA, hns, hr⟩ := x2
  obtain ⟨od, es, ep, e2, r⟩ := id hns
  exact ⟨oe, od, ⟨e1, z.1, by unfold PySem.W.notCls; rw [hd], by rw [z.2]; exact e2⟩, z.2, e2, mA, hns, hr⟩
def rIsX (C : Kt) (u : Value) (L : List (Str × Bool)) : List V → Hp → VK → Prop := fun xs H Q => ∃ (x c : V) (m : D) (f : List Addr) (b : Bool), xs = [x, c] ∧ ClsV c u ∧ RP C H m x f ∧ isXD L m = some (.bl b) ∧ Q (.bl b) H
theorem call_isX {X : Cx} {C : Addr} {L : List (Str × Bool)} (ok : (∀ t, t ∈ ["NoneType", "bool", "int", "str", "tuple", "list", "dict"] → PySem.W.kitOne X.K (.type t) (.ref C) = some false) ∧ ∀ c b A, L.lookup c = some b → X.mg c = some (.ref A) → ErrC X.K A ∧ PySem.W.kitOne X.K (.ref A) (.ref C) = some b) :
    CallR X (.builtin "isinstance") (rIsX (kt X) (.ref C) L) := by
  intro pins s σ H xs us Q I r h
  obtain ⟨x, c, m, f, b, rfl, k, ty, e, q⟩ := h
  obtain ⟨u1, u2, rfl, r1, r2⟩ := vals2 r
  have e2 := k.eq r2
  subst e2
  unfold isXD at e
  split at e
  · rename_i c' m'
    unfold RP at ty
    obtain ⟨a, A, dd, w, rfl, _, hc, h1, h2, _⟩ := ty
    cases (show u1 = Value.ref a from r1)
    cases q2 : L.lookup c' with
    | none => rw [q2] at e; cases e
    | some bb =>
      rw [q2] at e
      cases e
      obtain ⟨E, z2⟩ := ok.2 _ _ _ q2 hc
      obtain ⟨oe, od, J, _⟩ := exc_at I h1 h2
      exact PySem.W.kia_one (PySem.W.kitx_exc E.cl E.ga E.gt E.sb E.ha E.hn E.ht E.hm) I.kIn J z2 (fun z => nomatch z) fun tk => ⟨.bl _, H, I.tok tk, rfl, q⟩
  · split at e
    · rename_i t q1
      cases e
      obtain ⟨P, Z, p, hx⟩ := kit_D I ty r1 q1
      refine PySem.W.kia_one Z I.kIn p (ok.1 _ ?_) hx fun tk => ⟨.bl _, H, I.tok tk, rfl, q⟩
      cases m <;> cases q1 <;> simp
    · cases e
theorem isX_v {C : Kt} {u : Value} {c : V} {L : List (Str × Bool)} (k : ClsV c u) {p : SV} {σ : L2.St} {H : Hp} {Q : VK} (x : tU C (p1 (isXD L) p) σ H Q) : tCB (rIsX C u L) (tCons (tV C p) (tCons (tC c) tNil)) σ H Q := by
  obtain ⟨env, fp, m, r, e, kk⟩ := x
  unfold p1 at e
  cases q : p env with
  | none => rw [q] at e; cases e
  | some z =>
    rw [q] at e
    refine ⟨env, fp, z, r, q, fun v H1 f1 s1 x1 => ?_⟩
    have : ∃ b, m = .bl b := by
      simp only [Option.bind_some] at e
      unfold isXD at e
      split at e
      · rename_i c' m'
        cases q2 : L.lookup c' with
        | none => rw [q2] at e; cases e
        | some bb => rw [q2] at e; cases e; exact ⟨_, rfl⟩
      · split at e
        · cases e; exact ⟨_, rfl⟩
        · cases e
    obtain ⟨b, rfl⟩ := this
    exact ⟨v, c, z, f1, b, rfl, k, x1, by simpa using e, kk (.bl b) H1 [] s1 ⟨rfl, rfl⟩ List.nodup_nil noneIn⟩
theorem U_isX {X : Cx} {a : Expr} {p q pos : Pos} {sp : SV} {x : Str} {L : List (Str × Bool)} (h : IsX X.K X.mg x L) (hg : Gl X "isinstance") (hm : X.mg "isinstance" = none) (hgT : Gl X x) (ha : PE X a (tV (kt X) sp)) (hd : (x == ("__debug__" : Str)) = false := by decide)
    (hs : starEach [a, .Name x q] X.env = (false, eval a X.env) :: starEach [.Name x q] X.env := by rfl) : PE X (.Call (.Name "isinstance" p) [a, .Name x q] [] pos) (tU (kt X) (p1 (isXD L) sp)) := by
  obtain ⟨C, hmT, ok⟩ := h.ex
  exact pe_imp (pe_callB (call_isX ok) hg hm (by decide +kernel) (pa_cons ha (pa_cons (pe_glob (v := .ref C) hgT hmT rfl hd) pa_nil) hs) (he := hs)) fun _ _ _ => isX_v (ClsV.own C)
structure XvC (K : PySem.W.Frag) (mg : Str → Option Value) (L : List Str) : Prop where
  c : ∀ c ∈ L, ∀ A, mg c = some (.ref A) → ErrC K A
def pXv (L : List Str) (p : SV) : SV := fun env => match p env with
  | some (.exc c m) => if L.contains c then some m else none
  | _ => none
theorem V_xv {X : Cx} {e : Expr} {pos : Pos} {L : List Str} {p : SV} (hL : XvC X.K X.mg L) (h : PE X e (tV (kt X) p)) (hb : attributeBase e "value" X.env (eval e X.env) = eval e X.env := by rfl) : PE X (.Attribute e "value" pos) (tV (kt X) (pXv L p)) := by
  refine ⟨fun pins s σ H Q I hw => ?_⟩
  obtain ⟨env, fp, m, r, eq, k⟩ := hw
  unfold pXv at eq
  split at eq
  · rename_i c m' q
    split at eq
    · rename_i hc
      cases eq
      refine attr_of hb (thn (h.run pins s σ H (fun v H1 => ∃ a A dd u, v = .ref a ∧ X.mg c = some (.ref A) ∧ H1 a = some (ExK (.ref A) (some dd) a) ∧ H1 dd = some (.xd [("value", u)]) ∧ Q u H1) I ⟨env, fp, _, r, q, fun v H' fm sm y => ?_⟩) fun u s1 hh => ?_)
      · unfold RP at y
        obtain ⟨a, A, dd, u, rfl, _, hm, h1, h2, h3⟩ := y
        exact ⟨a, A, dd, u, rfl, hm, h1, h2, k u H' [] sm h3⟩
      · obtain ⟨x, H1, I1, rx, a, A, dd, w, rfl, hm, h1, h2, hq⟩ := hh
        obtain rfl : u = Value.ref a := rx
        have E := hL.c c (by simpa using hc) A hm
        obtain ⟨oe, od, J, ed, eo, mA, hns, hr⟩ := exc_at I1 h1 h2
        obtain ⟨od', ho', hl⟩ := lookIn_ns hns
        rw [eo] at ho'
        cases ho'
        obtain ⟨z, hz, rz⟩ := RelO.some_of (v := w) (o := mA "value") (by
          have := hr "value"
          simpa [List.lookup] using this)
        exact HandSPX.exc_get I1.kIn J E.ga E.gt E.sb (PySem.W.findObj_own E.hd E.no rfl (by rw [hl, hz])) (handed_of rz) ⟨w, H1, I1.tok _, rz, hq⟩
    · cases eq
  · cases eq
end T
set_option Elab.async false
set_option linter.all false
set_option maxRecDepth 100000
set_option maxHeartbeats 4000000
namespace T
open PySem PySem.Sem PySem.Spec PyProof.Rows L2
end T
set_option Elab.async false
set_option linter.all false
set_option maxRecDepth 100000
set_option maxHeartbeats 4000000
namespace T
open PySem PySem.Spec PyProof.Rows L2
end T
set_option Elab.async false
set_option linter.all false
set_option maxRecDepth 100000
set_option maxHeartbeats 4000000
namespace T
open PySem PySem.Spec PyProof.Rows L2
def opI (c : Str) (F : SF) : D → D → Option D
  | .ins false c1 fs, .ins false c2 gs => if c1 = c ∧ c2 = c then okF F [.ins false c1 fs, .ins false c2 gs] else none
  | _, _ => none
end T
set_option Elab.async false
set_option linter.all false
set_option maxRecDepth 100000
set_option maxHeartbeats 4000000
namespace T
open PySem PySem.Sem PySem.Spec PyProof.Rows L2
end T
set_option Elab.async false
set_option linter.all false
set_option maxRecDepth 100000
set_option maxHeartbeats 4000000
namespace T
open PySem PySem.Sem PySem.Spec PyProof.Rows L2
end T
set_option Elab.async false
set_option linter.all false
set_option maxRecDepth 100000
set_option maxHeartbeats 4000000
namespace T
open PySem PySem.Sem PySem.Spec PyProof.Rows L2
end T
set_option Elab.async false
set_option linter.all false
set_option maxRecDepth 100000
set_option maxHeartbeats 4000000
namespace T
open PySem PySem.Sem PySem.Spec PyProof.Rows L2
end T
set_option Elab.async false
set_option linter.all false
set_option maxRecDepth 100000
set_option maxHeartbeats 4000000
namespace T
open PySem PySem.Spec PyProof.Rows L2
end T
set_option Elab.async false
set_option linter.all false
set_option maxRecDepth 100000
set_option maxHeartbeats 4000000
namespace T
open PySem PySem.Spec PyProof.Rows L2
end T
set_option Elab.async false
set_option linter.all false
set_option maxRecDepth 100000
set_option maxHeartbeats 4000000
namespace T
open PySem PySem.Spec PyProof.Rows L2
def pFrz (p : SV) : SV := fun env => (p env).map fr
theorem frU_i {C : Kt} {σ : L2.St} {H : Hp} {Q : VK} {p : SV} (x : tU C (pFrz p) σ H Q) : tFrzA (tU C p) σ H Q := by
  obtain ⟨env, fp, m', r, q, k⟩ := x
  unfold pFrz at q
  cases e : p env with
  | none => rw [e] at q; cases q
  | some m =>
    rw [e] at q
    cases q
    refine ⟨env, fp, m, r, e, fun v H1 fm s y nd fr0 => ⟨mtl H1 fm, fun a ha => (mem_mtl.mp ha).2, nd.filter _, fun H' f => ?_⟩⟩
    refine k v H' [] (fun a o e2 => ?_) (y.fr f m fun b hb hm => mem_mtl.mpr ⟨hb, hm⟩) List.nodup_nil fun _ z => nomatch z
    have na : a ∉ mtl H1 fm := fun ha => by
      have := fr0 a (mem_mtl.mp ha).1
      rw [e2] at this
      cases this
    rw [f.1 a na]
    exact s a o e2
theorem U_frz {X : Cx} {e : Expr} {p : SV} (h : PE X e (tU (kt X) p)) : PE X e (tU (kt X) (pFrz p)) := pe_imp (pe_frzA h) fun _ _ _ => frU_i
end T
set_option Elab.async false
set_option linter.all false
set_option maxRecDepth 100000
set_option maxHeartbeats 4000000
namespace T
open PySem PySem.Spec PyProof.Rows L2
end T
set_option Elab.async false
set_option linter.all false
set_option maxRecDepth 100000
set_option maxHeartbeats 4000000
namespace T
open PySem PySem.Sem PySem.Spec PyProof.Rows L2
end T
set_option Elab.async false
set_option linter.all false
set_option maxRecDepth 100000
set_option maxHeartbeats 4000000
namespace T
open PySem PySem.Sem PySem.Spec PyProof.Rows L2
end T
set_option Elab.async false
set_option linter.all false
set_option maxRecDepth 100000
set_option maxHeartbeats 4000000
namespace T
open PySem PySem.Sem PySem.Spec PyProof.Rows L2
end T
set_option Elab.async false
set_option linter.all false
set_option maxRecDepth 100000
set_option maxHeartbeats 4000000
namespace T
open PySem PySem.Spec PyProof.Rows L2
end T
set_option Elab.async false
set_option linter.all false
set_option maxRecDepth 100000
set_option maxHeartbeats 4000000
namespace T
open PySem PySem.Spec PyProof.Rows L2 HT
end T
set_option Elab.async false
set_option linter.all false
set_option maxRecDepth 100000
set_option maxHeartbeats 4000000
namespace T
open PySem PySem.Spec PyProof.Rows L2
end T
set_option Elab.async false
set_option linter.all false
set_option maxRecDepth 100000
set_option maxHeartbeats 4000000
namespace T
open PySem PySem.Spec PyProof.Rows L2
def kvP (kis : List (Str × Int)) : List (PyData × PyData) := kis.map fun p => (.str p.1, .int p.2)
def kvsI : List (D × D) → Option (List (Str × Int))
  | [] => some []
  | (.str k, .int i) :: r => (kvsI r).map ((k, i) :: ·)
  | _ => none
def reprK : List D → Option D
  | [.dct _ kvs] => match kvsI kvs with
    | some kis => if (PyData.dict (kvP kis)).showable = true ∧ (PyData.dict (kvP kis)).depth ≤ 50 ∧ (PyData.dict (kvP kis)).shown.length ≤ 1000000 then some (.str (PyData.dict (kvP kis)).shown) else none
    | none => none
  | _ => none
/-- repr of data, or of such a dict -/
def reprX : List D → Option D := fun ms => match reprD ms with
  | some m => some m
  | none => reprK ms
end T
set_option Elab.async false
set_option linter.all false
set_option maxRecDepth 100000
set_option maxHeartbeats 4000000
namespace T
open PySem PySem.Spec PyProof.Rows L2
end T
set_option Elab.async false
set_option linter.all false
set_option maxRecDepth 100000
set_option maxHeartbeats 4000000
namespace T
open PySem PySem.Spec PyProof.Rows L2
end T
set_option Elab.async false
set_option linter.all false
set_option maxRecDepth 100000
set_option maxHeartbeats 4000000
namespace T
open PySem PySem.Sem PySem.Spec PyProof.Rows L2
end T
set_option Elab.async false
set_option linter.all false
set_option maxRecDepth 100000
set_option maxHeartbeats 4000000
namespace T
open PySem PySem.Spec PyProof.Rows L2
end T
set_option Elab.async false
set_option linter.all false
set_option maxRecDepth 100000
set_option maxHeartbeats 4000000
namespace T
open PySem PySem.Spec PyProof.Rows L2
end T
set_option Elab.async false
set_option linter.all false
set_option maxRecDepth 100000
set_option maxHeartbeats 4000000
namespace T
open PySem PySem.Spec PyProof.Rows L2
end T
set_option Elab.async false
set_option linter.all false
set_option maxRecDepth 100000
set_option maxHeartbeats 4000000
namespace T
open PySem PySem.Spec PyProof.Rows L2
/-- C(m), an own error as a value -/
def mkX (c : Str) : D → Option D := fun m => if fz m = true then some (.exc c m) else none
theorem pe_of_mk {X : Cx} {e : Expr} {t : L2.St → Hp → XK → Prop} (h : PMk X e t) : PE X e (fun σ H Q => t σ H fun cls d H' => ∀ a, H' a = none → Q (.ref a) (upd H' a (ExK cls d a))) := by
  refine ⟨fun pins s σ H Q I hw => wpAny_mono (h pins s σ H _ I hw) (fun u s1 hu => ?_) fun _ _ x => x⟩
  obtain ⟨a, oe, vs, sI, H', cls, d, rfl, J, k, hne, ha, hz, hd, h1, na, os, ag, r, q⟩ := hu
  have ok : ObjOk X.prog X.w (upd H' a (ExK cls d a)) s1.heap a (ExK cls d a) := ⟨⟨oe, vs, ha, hz, hd⟩, ⟨oe, ha⟩, fun h1 h2 ⟨o, w, e, z, y⟩ st => ⟨o, w, st _ e, z, y⟩⟩
  have I2 := J.laidN (h' := s1.heap) (a := a) (o := ExK cls d a) (t' := s1.toks) k hne na ok
  exact ⟨.ref a, _, ⟨I2.ok, by rw [os]; exact I2.os, ag, I2.base, I2.loc, I2.cell, I2.free, I2.freeC, I2.pin, I2.hok, I2.len⟩, rfl, q a na⟩
theorem mkX_u {C : Kt} {A : Addr} {c : Str} {σ : L2.St} {H : Hp} {Q : VK} {p : SV} (hm : C.mg c = some (.ref A)) (x : tU C (p1 (mkX c) p) σ H Q) : tMkV A (tV C p) σ H fun cls d H' => ∀ a, H' a = none → Q (.ref a) (upd H' a (ExK cls d a)) := by
  obtain ⟨env, fp, m, r, e, kk⟩ := x
  unfold p1 at e
  cases q : p env with
  | none => rw [q] at e; cases e
  | some z =>
    rw [q] at e
    simp only [Option.bind_some] at e
    unfold mkX at e
    split at e
    · rename_i hz
      cases e
      refine ⟨env, fp, z, r, q, fun v H1 f1 s1 x1 d hd a ha => ?_⟩
      have f0 := x1.fz _ hz
      subst f0
      have ne : a ≠ d := fun e => by rw [e, upd_same] at ha; cases ha
      have ha1 : H1 a = none := by rw [upd_ne ne] at ha; exact ha
      have sm1 : Same H1 (upd H1 d (.xd [("value", v)])) := fun b o e => by rw [upd_ne (ne_of_none e hd)]; exact e
      have sm2 : Same (upd H1 d (.xd [("value", v)])) (upd (upd H1 d (.xd [("value", v)])) a (ExK (.ref A) (some d) a)) := fun b o e => by rw [upd_ne (ne_of_none e ha)]; exact e
      have sm : Same H1 (upd (upd H1 d (.xd [("value", v)])) a (ExK (.ref A) (some d) a)) := sm1.trans sm2
      refine kk (.ref a) _ [] (s1.trans sm) ?_ List.nodup_nil noneIn
      exact ⟨a, A, d, v, rfl, rfl, hm, upd_same, by rw [upd_ne (Ne.symm ne)]; exact upd_same, x1.st z (Same.st1 sm _)⟩
    · cases e
theorem U_mkX {X : Cx} {x : Str} {e : Expr} {sp : SV} {j : Nat} {p pos : Pos} (h : Erk X.prog X.K X.mg x) (hr : Room (j + 2) X.A) (hg : Gl X x) (he : PE X e (tV (kt X) sp))
    (hdb : (x == ("__debug__" : Str)) = false := by decide) (hst : starEach [e] X.env = (false, eval e X.env) :: starEach [] X.env := by rfl) (hpl : (backTo pos (starEach [] X.env)).any (·.1) = false := by rfl) :
    PE X (.Call (.Name x p) [e] [] pos) (tU (kt X) (p1 (mkX x) sp)) := by
  obtain ⟨D, C, fI, TD, TC, hm, hs, ht⟩ := h.ex
  exact pe_imp (pe_of_mk (pmk_v TD TC hs ht hr hg hm he hdb hst hpl)) fun _ _ _ => mkX_u hm
structure IsXB (K : PySem.W.Frag) (mg : Str → Option Value) (x : Str) (ty : String) (L : List (Str × Bool)) : Prop where
  z : mg x = none
  t : ∀ t, t ∈ ["NoneType", "bool", "int", "str", "tuple", "list", "dict"] → PySem.W.kitOne K (.type t) (.type ty) = some false
  c : ∀ c b A, L.lookup c = some b → mg c = some (.ref A) → ErrC K A ∧ PySem.W.kitOne K (.ref A) (.type ty) = some b
theorem call_isXB {X : Cx} {x0 : Str} {ty : String} {L : List (Str × Bool)} (ok : IsXB X.K X.mg x0 ty L) :
    CallR X (.builtin "isinstance") (rIsX (kt X) (.type ty) L) := by
  intro pins s σ H xs us Q I r h
  obtain ⟨x, c, m, f, b, rfl, k, ty', e, q⟩ := h
  obtain ⟨u1, u2, rfl, r1, r2⟩ := vals2 r
  have e2 := k.eq r2
  subst e2
  unfold isXD at e
  split at e
  · rename_i c' m'
    unfold RP at ty'
    obtain ⟨a, A, dd, w, rfl, _, hc, h1, h2, _⟩ := ty'
    cases (show u1 = Value.ref a from r1)
    cases q2 : L.lookup c' with
    | none => rw [q2] at e; cases e
    | some bb =>
      rw [q2] at e
      cases e
      obtain ⟨E, z2⟩ := ok.c _ _ _ q2 hc
      obtain ⟨oe, od, J, _⟩ := exc_at I h1 h2
      exact PySem.W.kia_one (PySem.W.kitx_exc E.cl E.ga E.gt E.sb E.ha E.hn E.ht E.hm) I.kIn J z2 (fun z => nomatch z) fun tk => ⟨.bl _, H, I.tok tk, rfl, q⟩
  · split at e
    · rename_i t q1
      cases e
      obtain ⟨P, Z, p, hx⟩ := kit_D I ty' r1 q1
      refine PySem.W.kia_one Z I.kIn p (ok.t _ ?_) hx fun tk => ⟨.bl _, H, I.tok tk, rfl, q⟩
      cases m <;> cases q1 <;> simp
    · cases e
theorem U_isXB {X : Cx} {a : Expr} {p q pos : Pos} {sp : SV} {ty : String} {x : Str} {L : List (Str × Bool)} (h : IsXB X.K X.mg x ty L) (hg : Gl X "isinstance") (hm : X.mg "isinstance" = none)
    (hgT : Gl X x) (hv : bootBuiltins x = some (.type ty)) (ha : PE X a (tV (kt X) sp)) (hn : x ≠ "__name__" := by decide) (hd : (x == ("__debug__" : Str)) = false := by decide)
    (hs : starEach [a, .Name x q] X.env = (false, eval a X.env) :: starEach [.Name x q] X.env := by rfl) : PE X (.Call (.Name "isinstance" p) [a, .Name x q] [] pos) (tU (kt X) (p1 (isXD L) sp)) :=
  pe_imp (pe_callB (call_isXB h) hg hm (by decide +kernel) (pa_cons ha (pa_cons (pe_bltn (v := .ty ty) hgT h.z hv rfl hn hd) pa_nil) hs) (he := hs)) fun _ _ _ => isX_v (ClsV.ty ty)
end T
set_option Elab.async false
set_option linter.all false
set_option maxRecDepth 100000
set_option maxHeartbeats 4000000
namespace T
open PySem PySem.Spec PyProof.Rows L2
section
variable {P : Program} {w : World} {h : Heap}
/-- a value that reads as d, and shows as d does -/
structure Sh (P : Program) (w : World) (h : Heap) (u : Value) (d : PyData) : Prop where
  ex : ∃ as bs, Reads h u d as ∧ ReadAtMost h d.depth bs ∧ ReprK P w bs h d.depth u d.shown
  top : ∀ a, u = .ref a → ∃ T idr, ShowsBy P w h a d T idr
def ShAll (P : Program) (w : World) (h : Heap) (us : List Value) (ds : List PyData) : Prop :=
  ∃ as bs, ReadsAll h us ds as ∧ ReadAtMost h (PyData.depthAll ds) bs ∧ ReprAllK P w bs h (PyData.depthAll ds) us (PyData.shownAll ds)
theorem sh_leaf {u : Value} {d : PyData} (r : Reads h u d []) (k : ReprIs P w u d.shown) (n : ∀ a, u ≠ .ref a) : Sh P w h u d := ⟨⟨[], [], r, (fun _ z => nomatch z), .of_is k _ _ _⟩, fun a e => absurd e (n a)⟩
theorem shAll_nil : ShAll P w h [] [] := ⟨[], [], .nil, (fun _ z => nomatch z), by simp only [PyData.shownAll]; exact .nil⟩
theorem shAll_cons {u : Value} {us : List Value} {d : PyData} {ds : List PyData} (a : Sh P w h u d) (b : ShAll P w h us ds) : ShAll P w h (u :: us) (d :: ds) := by
  obtain ⟨a1, b1, r1, m1, k1⟩ := a.ex
  obtain ⟨a2, b2, r2, m2, k2⟩ := b
  have l : d.depth ≤ PyData.depthAll (d :: ds) := by simp only [PyData.depthAll]; exact Nat.le_max_left _ _
  have r : PyData.depthAll ds ≤ PyData.depthAll (d :: ds) := by simp only [PyData.depthAll]; exact Nat.le_max_right _ _
  refine ⟨a1 ++ a2, b1 ++ b2, .cons r1 r2, (m1.mono l).append (m2.mono r), ?_⟩
  rw [show PyData.shownAll (d :: ds) = d.shown :: PyData.shownAll ds by simp only [PyData.shownAll]]
  exact .cons ((k1.more fun b hb => List.mem_append_left _ hb).level_le l) (k2.more_le (fun b hb => List.mem_append_right _ hb) r)
theorem sh_list {a : Addr} {o : Obj} {vs : Array Value} {n : Nat} {ds : List PyData} (h1 : h.get? a = some o) (h2 : o.cls = .type "list") (h3 : o.data = .seq vs n) (q : ShAll P w h vs.toList ds) (z : (PyData.list ds).shown.length ≤ sizeLine) : Sh P w h (.ref a) (.list ds) := by
  obtain ⟨as, bs, r, m, k⟩ := q
  have rr : Reads h (.ref a) (.list ds) (a :: as) := .list h1 h2 h3 r
  have na : a ∉ bs := not_mem_of_deeper rr (by simp only [PyData.depth]; omega) m
  have z' : (listText (PyData.shownAll ds)).length ≤ sizeLine := by simpa only [PyData.shown] using z
  obtain ⟨l⟩ := vs
  cases l with
  | nil =>
    have r' : ReadsAll h [] ds as := r
    cases r'
    refine ⟨⟨_, a :: bs, rr, .cons rr (by simp only [PyData.depth]; omega) m, ?_⟩, fun b e => ?_⟩
    · simp only [PyData.depth, PyData.shown, PyData.shownAll, listText_nil]
      exact ReprK.listEmpty h1 h2 h3
    · cases e
      refine ⟨"list", "list.__repr__", F.slot_list_repr.toG, F.slot_list_str, F.slot_list_format, fun s hk => ⟨o, hk _ _ h1, h2⟩, fun A E s Q hg hu hk hQ => ?_⟩
      simp only [PyData.shown, PyData.shownAll, listText_nil] at hQ
      exact call_list_repr_empty ⟨o, hk _ _ h1, h2⟩ (hk _ _ h1) h3 (hQ s.heap _ _ fun _ _ e => e)
  | cons x l =>
    refine ⟨⟨_, a :: bs, rr, .cons rr (by simp only [PyData.depth]; omega) m, ?_⟩, fun b e => ?_⟩
    · simp only [PyData.depth, PyData.shown]
      exact ReprK.list h1 h2 h3 na (by simpa using k.length_eq) (fun i y e => k.item i y (by simpa using e))
    · cases e
      refine ⟨"list", "list.__repr__", F.slot_list_repr.toG, F.slot_list_str, F.slot_list_format, fun s hk => ⟨o, hk _ _ h1, h2⟩, fun A E s Q hg hu hk hQ => ?_⟩
      simp only [PyData.depth] at hu
      simp only [PyData.shown] at hQ
      exact call_list_reprK h1 h2 h3 na (by simpa using k.length_eq) (fun i y e => k.item i y (by simpa using e)) hg (fun b _ => Clear.nil b) hu hk hQ z'
theorem sh_tuple {a : Addr} {o : Obj} {vs : Array Value} {n : Nat} {ds : List PyData} (h1 : h.get? a = some o) (h2 : o.cls = .type "tuple") (h3 : o.data = .seq vs n) (q : ShAll P w h vs.toList ds) (z : (PyData.tuple ds).shown.length ≤ sizeLine) : Sh P w h (.ref a) (.tuple ds) := by
  obtain ⟨as, bs, r, m, k⟩ := q
  have rr : Reads h (.ref a) (.tuple ds) as := .tuple h1 h2 h3 r
  have na : a ∉ bs := not_mem_of_deeper rr (by simp only [PyData.depth]; omega) m
  have z' : (tupleText (PyData.shownAll ds)).length ≤ sizeLine := by simpa only [PyData.shown] using z
  refine ⟨⟨_, a :: bs, rr, .cons rr (by simp only [PyData.depth]; omega) m, ?_⟩, fun b e => ?_⟩
  · simp only [PyData.depth, PyData.shown]
    exact ReprK.tuple h1 h2 h3 na k
  · cases e
    refine ⟨"tuple", "tuple.__repr__", F.slot_tuple_repr, F.slot_tuple_str, F.slot_tuple_format, fun s hk => ⟨o, hk _ _ h1, h2⟩, fun A E s Q hg hu hk hQ => ?_⟩
    simp only [PyData.depth] at hu
    simp only [PyData.shown] at hQ
    exact call_tuple_reprK h1 h2 h3 na k hg (fun b _ => Clear.nil b) hu hk hQ z'
theorem sh_dict {a : Addr} {o : Obj} {es : Array DictEntry} {n : Nat} {kvs : List (PyData × PyData)} (h1 : h.get? a = some o) (h2 : o.cls = .type "dict") (h3 : o.data = .dict es n) (ns : (a == sysModules) = false)
    (q1 : ShAll P w h (es.toList.map (·.key)) (kvs.map (·.1))) (q2 : ShAll P w h (es.toList.map (·.val)) (kvs.map (·.2))) (z : (PyData.dict kvs).shown.length ≤ sizeLine) : Sh P w h (.ref a) (.dict kvs) := by
  obtain ⟨as1, bs1, r1, m1, k1⟩ := q1
  obtain ⟨as2, bs2, r2, m2, k2⟩ := q2
  have rr : Reads h (.ref a) (.dict kvs) (a :: as1 ++ as2) := .dict h1 h2 h3 r1 r2
  have m : ReadAtMost h (PyData.depthKv kvs) (bs1 ++ bs2) := (m1.mono (PyData.depthAll_keys_le kvs)).append (m2.mono (PyData.depthAll_vals_le kvs))
  have na : a ∉ bs1 ++ bs2 := not_mem_of_deeper rr (by simp only [PyData.depth]; omega) m
  have z' : (dictText (PyData.shownKv kvs)).length ≤ sizeLine := by simpa only [PyData.shown] using z
  have k := ReprEntriesK.of_two es.toList _ _ (k1.more_le (as' := bs1 ++ bs2) (fun b hb => List.mem_append_left _ hb) (PyData.depthAll_keys_le kvs)) (k2.more_le (as' := bs1 ++ bs2) (fun b hb => List.mem_append_right _ hb) (PyData.depthAll_vals_le kvs))
  refine ⟨⟨_, a :: (bs1 ++ bs2), rr, .cons rr (by simp only [PyData.depth]; omega) m, ?_⟩, fun b e => ?_⟩
  · simp only [PyData.depth, PyData.shown, PyData.shownKv_eq]
    exact ReprK.dict h1 h2 h3 ns na k
  · cases e
    refine ⟨"dict", "dict.__repr__", F.slot_dict_repr, F.slot_dict_str, F.slot_dict_format, fun s hk => ⟨o, hk _ _ h1, h2⟩, fun A E s Q hg hu hk hQ => ?_⟩
    simp only [PyData.depth] at hu
    simp only [PyData.shown, PyData.shownKv_eq] at hQ
    exact call_dict_reprK h1 h2 h3 ns na k hg (fun b _ => Clear.nil b) hu hk hQ (by rw [← PyData.shownKv_eq]; exact z')
theorem Sh.call {a : Addr} {d : PyData} {s : Shared} {A : Around} {E : Value → Shared → Prop} {Q : Value → Shared → Prop} (x : Sh P w s.heap (.ref a) d) (hg : A.guards = some []) (hu : A.units + (d.depth + 1) < cLine)
    (hQ : ∀ h' u tk, (∀ b o, s.heap.get? b = some o → h'.get? b = some o) → Q (.str d.shown u) { s with heap := h', toks := tk }) : wpAny (model P w) A (call (.builtin "repr") [.ref a]) Q E s := by
  obtain ⟨T, idr, S⟩ := x.top a rfl
  have k0 : ∀ b o, s.heap.get? b = some o → s.heap.get? b = some o := fun _ _ e => e
  exact call_repr_slot (by omega) (S.typeIs s k0) S.slotRepr (S.call A.in1 E s _ hg (by show A.units + 1 + d.depth < cLine; omega) k0 fun h' u tk hk => ⟨_, _, rfl, hQ h' u tk hk⟩)
end
mutual
/-- the data that a tree tells, dicts of texts too -/
def toQ : D → Option PyData
  | .non => some .none
  | .bl b => some (.bool b)
  | .int i => some (.int i)
  | .str s => some (.str s)
  | .tup ms => (toQs ms).map .tuple
  | .lst _ ms => (toQs ms).map .list
  | .dct _ kvs => (toQk kvs).map .dict
  | .klst _ => none
  | .ins _ _ _ => none
  | .exc _ _ => none
  | .tbs _ => none
def toQs : List D → Option (List PyData)
  | [] => some []
  | m :: ms => match toQ m, toQs ms with
    | some d, some ds => some (d :: ds)
    | _, _ => none
def toQk : List (D × D) → Option (List (PyData × PyData))
  | [] => some []
  | (k, m) :: r => match k, toQ m, toQk r with
    | .str x, some d, some ds => some ((.str x, d) :: ds)
    | _, _, _ => none
end
section
variable {X : Cx} {pins : List (Addr × Obj)} {σ : L2.St} {H : Hp} {s : Shared}
theorem str_key {P : Program} {w : World} {x : Str} {e : DictEntry} {v : Value} (h : (mixKind P w).is (Sum.inr x : Key) e.key) : ∃ t, e.key = .str x t := by
  have h : Value.isStrOf x e.key = true := h
  cases q : e.key with
  | str y u =>
    rw [q] at h
    have : y = x := by simpa [Value.isStrOf] using h
    exact ⟨u, by rw [this]⟩
  | _ => rw [q] at h; simp [Value.isStrOf] at h
mutual
theorem RP.sh (I : Inv X pins σ H s) : ∀ (m : D) {v : V} {u : Value} {fp : List Addr} {d : PyData}, RP (kt X) H m v fp → toQ m = some d → RelV v u → d.showable = true → d.shown.length ≤ sizeLine → Sh X.prog X.w s.heap u d
  | .non, _, _, _, _, h, e, r, _, _ => by
    obtain ⟨rfl, _⟩ := h; cases e; cases r
    exact sh_leaf .none (by simp only [PyData.shown]; exact ReprIs.none) (fun _ z => nomatch z)
  | .bl b, _, _, _, _, h, e, r, _, _ => by
    obtain ⟨rfl, _⟩ := h; cases e; cases r
    exact sh_leaf (.bool b) (by simp only [PyData.shown]; exact ReprIs.bool b) (fun _ z => nomatch z)
  | .int i, _, _, _, _, h, e, r, hs, _ => by
    obtain ⟨rfl, _⟩ := h; cases e; obtain ⟨t, rfl⟩ := r
    exact sh_leaf (.int i t) (by simp only [PyData.shown]; exact ReprIs.int t (by simpa [PyData.showable] using hs)) (fun _ z => nomatch z)
  | .str x, _, _, _, _, h, e, r, _, hz => by
    obtain ⟨rfl, _⟩ := h; cases e; obtain ⟨t, rfl⟩ := r
    exact sh_leaf (.str x t) (by simp only [PyData.shown]; exact ReprIs.str x t (by simpa only [PyData.shown] using hz)) (fun _ z => nomatch z)
  | .tup ms, _, _, _, _, h, e, r, hs, hz => by
    unfold RP at h
    unfold toQ at e
    obtain ⟨a, vs, rfl, h1, h2⟩ := h
    cases q : toQs ms with
    | none => rw [q] at e; cases e
    | some ds =>
      rw [q] at e
      cases e
      cases r
      obtain ⟨its, rv, ⟨o, ho, hc, n, hd⟩, _⟩ := I.tuple (SqT.of h1)
      exact sh_tuple ho hc hd (RPs.sh I ms h2 q rv (by simpa [PyData.showable] using hs) fun t ht => Nat.le_trans (tupleText_mem_le ht) (by simpa only [PyData.shown] using hz)) hz
  | .lst o ms, _, _, _, _, h, e, r, hs, hz => by
    unfold RP at h
    unfold toQ at e
    obtain ⟨a, vs, fp', rfl, h1, h2⟩ := h
    cases q : toQs ms with
    | none => rw [q] at e; cases e
    | some ds =>
      rw [q] at e
      cases e
      cases r
      obtain ⟨its, rv, ⟨o, n, ho, hc, _, hd⟩, _⟩ := I.list (h1.seqL (K := X.K))
      exact sh_list ho hc hd (RPs.sh I ms h2 q rv (by simpa [PyData.showable] using hs) fun t ht => Nat.le_trans (listText_mem_le ht) (by simpa only [PyData.shown] using hz)) hz
  | .dct o kvs, _, _, _, _, h, e, r, hs, hz => by
    unfold RP at h
    unfold toQ at e
    obtain ⟨a, fp', rfl, hh⟩ := h
    cases q : toQk kvs with
    | none => rw [q] at e; cases e
    | some ds =>
      rw [q] at e
      cases e
      cases r
      obtain ⟨hs1, hs2⟩ := PyData.showableKv_split ds (by simpa [PyData.showable] using hs)
      have hz' : (dictText (PyData.shownKv ds)).length ≤ sizeLine := by simpa only [PyData.shown] using hz
      rcases hh with ⟨ws, h1, h2⟩ | ⟨ws, h1, h2⟩
      · obtain ⟨_, ns, vs, kv, o, es, ep, ho, hex, hdat, hko, hp, hnd⟩ := dk_rd I.hok h1.rd
        obtain ⟨a1, a2⟩ := RPk.sh I kvs h2 q kv hp hs1 hs2 (fun t ht => let ⟨p, hp, hl⟩ := PyData.shownKv_key_le ds t ht; Nat.le_trans hl (Nat.le_trans (dictText_mem_le hp) hz')) (fun t ht => let ⟨p, hp, hl⟩ := PyData.shownKv_val_le ds t ht; Nat.le_trans hl (Nat.le_trans (dictText_mem_le hp) hz'))
        exact sh_dict ho hex.1 hdat ns a1 a2 hz
      · cases kvs with
        | nil =>
          obtain ⟨rfl, _⟩ := h2
          cases q
          obtain ⟨_, ns, xs, kt, o, es, ep, ho, hex, hdat, he, _⟩ := dt_rd I.hok h1.rd
          cases kt
          have e0 : es.toList = [] := by simpa using he
          exact sh_dict ho hex.1 hdat ns (by rw [e0]; exact shAll_nil) (by rw [e0]; exact shAll_nil) hz
        | cons km r =>
          exfalso
          obtain ⟨k, m⟩ := km
          obtain ⟨y, v, wr, f1, f2, rfl, rfl, hk, _, _⟩ := h2
          cases k with
          | str x => cases hk
          | _ => simp [toQk] at q
  | .klst _, _, _, _, _, _, e, _, _, _ => by cases e
  | .ins _ _ _, _, _, _, _, _, e, _, _, _ => by cases e
  | .exc _ _, _, _, _, _, _, e, _, _, _ => by cases e
  | .tbs _, _, _, _, _, _, e, _, _, _ => by cases e
theorem RPs.sh (I : Inv X pins σ H s) : ∀ (ms : List D) {vs : List V} {us : List Value} {fp : List Addr} {ds : List PyData}, RPs (kt X) H ms vs fp → toQs ms = some ds → Vals vs us → PyData.showableAll ds = true → (∀ t ∈ PyData.shownAll ds, t.length ≤ sizeLine) → ShAll X.prog X.w s.heap us ds
  | [], _, _, _, _, h, e, r, _, _ => by obtain ⟨rfl, _⟩ := h; cases e; cases r; exact shAll_nil
  | m :: ms, _, _, _, _, h, e, r, hs, hz => by
    unfold RPs at h
    unfold toQs at e
    obtain ⟨v, vr, f1, f2, rfl, rfl, h1, h2⟩ := h
    split at e
    · rename_i d ds e1 e2
      cases e
      cases r with
      | cons r1 r2 =>
        have hs' : d.showable = true ∧ PyData.showableAll ds = true := by simpa [PyData.showableAll] using hs
        exact shAll_cons (RP.sh I m h1 e1 r1 hs'.1 (hz _ (by simp only [PyData.shownAll]; exact List.mem_cons_self ..))) (RPs.sh I ms h2 e2 r2 hs'.2 fun t ht => hz t (by simp only [PyData.shownAll]; exact List.mem_cons_of_mem _ ht))
    · cases e
theorem RPk.sh (I : Inv X pins σ H s) : ∀ (kvs : List (D × D)) {ws : List (Key × V)} {fp : List Addr} {ds : List (PyData × PyData)} {vs : List (Key × Value)} {es : List DictEntry}, RPk (kt X) H kvs ws fp → toQk kvs = some ds → KV ws vs → Pairs (mixKind X.prog X.w) es vs →
    PyData.showableAll (ds.map (·.1)) = true → PyData.showableAll (ds.map (·.2)) = true → (∀ t ∈ PyData.shownAll (ds.map (·.1)), t.length ≤ sizeLine) → (∀ t ∈ PyData.shownAll (ds.map (·.2)), t.length ≤ sizeLine) →
    ShAll X.prog X.w s.heap (es.map (·.key)) (ds.map (·.1)) ∧ ShAll X.prog X.w s.heap (es.map (·.val)) (ds.map (·.2))
  | [], _, _, _, _, _, h, e, r, p, _, _, _, _ => by
    obtain ⟨rfl, _⟩ := h
    cases e
    cases r
    cases p
    exact ⟨shAll_nil, shAll_nil⟩
  | (k, m) :: kvs, _, _, _, _, _, h, e, r, p, hs1, hs2, hz1, hz2 => by
    obtain ⟨y, v, wr, f1, f2, rfl, rfl, hk, h1, h2⟩ := h
    unfold toQk at e
    split at e
    · rename_i x d ds e1 e2
      cases e
      cases r with
      | cons r1 r2 =>
        cases p with
        | cons p1 p2 p3 =>
          obtain ⟨ka, kb⟩ := r1
          have hk : some (Sum.inr x : Key) = some y := hk
          cases hk
          have s1 : PyData.showableAll (ds.map (·.1)) = true := by
            have := hs1
            simp only [List.map_cons, PyData.showableAll, Bool.and_eq_true] at this
            exact this.2
          have s2 : d.showable = true ∧ PyData.showableAll (ds.map (·.2)) = true := by
            have := hs2
            simp only [List.map_cons, PyData.showableAll, Bool.and_eq_true] at this
            exact this
          obtain ⟨a, b⟩ := RPk.sh I kvs h2 e2 r2 p3 s1 s2.2 (fun t ht => hz1 t (by simp only [List.map_cons, PyData.shownAll]; exact List.mem_cons_of_mem _ ht)) (fun t ht => hz2 t (by simp only [List.map_cons, PyData.shownAll]; exact List.mem_cons_of_mem _ ht))
          have kk : ∃ t, _ = Value.str x t := str_key (P := X.prog) (w := X.w) (v := .none) (by rw [show (Sum.inr x : Key) = _ from ka]; exact p1)
          obtain ⟨t, kk⟩ := kk
          refine ⟨?_, ?_⟩
          · rw [List.map_cons, List.map_cons, kk]
            exact shAll_cons (sh_leaf (.str x t) (by simp only [PyData.shown]; exact ReprIs.str x t (by have := hz1 (PyData.shown (.str x)) (by simp only [List.map_cons, PyData.shownAll]; exact List.mem_cons_self ..); simpa only [PyData.shown] using this)) (fun _ z => nomatch z)) a
          · rw [List.map_cons, List.map_cons]
            exact shAll_cons (RP.sh I m h1 e1 (by rw [p2]; exact kb) s2.1 (hz2 _ (by simp only [List.map_cons, PyData.shownAll]; exact List.mem_cons_self ..))) b
    · cases e
end
end
def isRefD : D → Bool
  | .tup _ => true
  | .lst _ _ => true
  | .dct _ _ => true
  | _ => false
def rReprQ (C : Kt) : RC := fun xs H Q => ∃ a m f d, xs = [.ref a] ∧ RP C H m (.ref a) f ∧ toQ m = some d ∧ d.showable = true ∧ d.depth ≤ 50 ∧ d.shown.length ≤ 1000000 ∧ Q (.str d.shown) H
theorem call_reprQ {X : Cx} {j : Nat} (hr : Room j X.A) : CallR X (.builtin "repr") (rReprQ (kt X)) := by
  intro pins s σ H xs us Q I r h
  obtain ⟨a, m, f, d, rfl, x, e, h1, h2, h3, q⟩ := h
  rw [Vals.ref1 r]
  have S := RP.sh I m x e (u := .ref a) rfl h1 (by rw [sizeLine_eq]; omega)
  exact S.call hr.gd (by have := hr.un; omega) fun h' u tk hk => ⟨.str _, H, I.kept (t' := tk) hk, ⟨u, rfl⟩, q⟩
def reprQ : List D → Option D
  | [m] => match toQ m with
    | some d => if isRefD m = true ∧ d.showable = true ∧ d.depth ≤ 50 ∧ d.shown.length ≤ 1000000 then some (.str d.shown) else none
    | none => none
  | _ => none
theorem cd_reprQ {C : Kt} : CallD C (rReprQ C) reprQ := by
  intro H ms vs fp m x e Q k
  unfold reprQ at e
  split at e
  · rename_i m'
    split at e
    · rename_i d q
      split at e
      · rename_i hh
        cases e
        obtain ⟨v, ev, x2⟩ := one_of x
        subst ev
        have hv : ∃ a, v = .ref a := by
          have hr := hh.1
          cases m' with
          | tup ms => unfold RP at x2; obtain ⟨a, _, rfl, _⟩ := x2; exact ⟨a, rfl⟩
          | lst o ms => unfold RP at x2; obtain ⟨a, _, _, rfl, _⟩ := x2; exact ⟨a, rfl⟩
          | dct o ms => unfold RP at x2; obtain ⟨a, _, rfl, _⟩ := x2; exact ⟨a, rfl⟩
          | _ => cases hr
        obtain ⟨a, rfl⟩ := hv
        exact ⟨a, m', _, d, rfl, x2, q, hh.2.1, hh.2.2.1, hh.2.2.2, str_res k⟩
      · cases e
    · cases e
  · cases e
/-- repr of plain data, or of data with dicts of texts at any depth -/
def reprZ : List D → Option D := fun ms => match reprD ms with
  | some m => some m
  | none => reprQ ms
theorem call_reprZ {X : Cx} {j : Nat} (hr : Room j X.A) : CallR X (.builtin "repr") (fun xs H Q => (rReprC X.K xs H Q ∨ rRepr0 xs H Q) ∨ rReprQ (kt X) xs H Q) := CallR.or (call_repr hr) (call_reprQ hr)
theorem cd_reprZ {C : Kt} : CallD C (fun xs H Q => (rReprC C.K xs H Q ∨ rRepr0 xs H Q) ∨ rReprQ C xs H Q) reprZ := CallD.or cd_repr cd_reprQ
end T
set_option Elab.async false
set_option linter.all false
set_option maxRecDepth 100000
set_option maxHeartbeats 4000000
namespace T
open PySem PySem.Spec PyProof.Rows L2
def xvB (o : Option (Option Value)) (s : String) : Bool := match o with
  | some (some (.builtin t)) => t == s
  | _ => false
theorem xvB_ok {o : Option (Option Value)} {s : String} (h : xvB o s = true) : o = some (some (.builtin s)) := by
  unfold xvB at h
  split at h
  · rw [beq_iff_eq] at h; rw [h]
  · cases h
def xnB (o : Option (Option Value)) : Bool := match o with
  | some none => true
  | _ => false
theorem xnB_ok {o : Option (Option Value)} (h : xnB o = true) : o = some none := by
  unfold xnB at h
  split at h
  · rfl
  · cases h
def xtB (o : Option Bool) (b : Bool) : Bool := match o with
  | some x => x == b
  | none => false
theorem xtB_ok {o : Option Bool} {b : Bool} (h : xtB o b = true) : o = some b := by
  unfold xtB at h
  split at h
  · rw [beq_iff_eq] at h; rw [h]
  · cases h
def xrB (o : Option (Option Value)) (f : Addr) : Bool := match o with
  | some (some (.ref a)) => a == f
  | _ => false
theorem xrB_ok {o : Option (Option Value)} {f : Addr} (h : xrB o f = true) : o = some (some (.ref f)) := by
  unfold xrB at h
  split at h
  · rw [beq_iff_eq] at h; rw [h]
  · cases h
def xyB (o : Option Value) (s : String) : Bool := match o with
  | some (.type t) => t == s
  | _ => false
theorem xyB_ok {o : Option Value} {s : String} (h : xyB o s = true) : o = some (.type s) := by
  unfold xyB at h
  split at h
  · rw [beq_iff_eq] at h; rw [h]
  · cases h
def errB (K : PySem.W.Frag) (A : Addr) : Bool :=
  (PySem.W.clsIn K A).isSome && (xvB (PySem.W.findIn K (.ref A) "__getattribute__") "BaseException.__getattribute__" && (xnB (PySem.W.findIn K (.ref A) "__getattr__") && (xtB (PySem.W.subIn K (.ref A) (.type "BaseException")) true &&
  (xvB (PySem.W.findIn K (.ref A) "__class__") "object.__class__" && (xtB (PySem.W.mroIn K A (.type "object")) true && (PySem.W.hasDictIn K A && xnB (PySem.W.findIn K (.ref A) "value")))))))
theorem errB_ok {K : PySem.W.Frag} {A : Addr} (hn : PySem.W.specialIn K (.builtin "object.__class__") "__get__" = some (some (.builtin "getset_descriptor.__get__"))) (ht : PySem.W.takesIn K (.builtin "object.__class__") = some true) (h : errB K A = true) : ErrC K A := by
  unfold errB at h
  simp only [Bool.and_eq_true] at h
  obtain ⟨a, b, c, d, e, f, g, i⟩ := h
  exact ⟨a, xvB_ok b, xnB_ok c, xtB_ok d, xvB_ok e, hn, ht, xtB_ok f, g, xnB_ok i⟩
def pmB (K : PySem.W.Frag) (D fI C : Addr) : Bool :=
  xvB (PySem.W.findIn K (.ref C) "__setattr__") "object.__setattr__" && (xtB (PySem.W.subIn K (.ref C) (.type "BaseException")) true && (xtB (PySem.W.subIn K (.ref C) (.type "ValueError")) true && (xyB (PySem.W.typeIn K (.ref C)) "type" &&
  (PySem.W.keepIn K (.ref C) && (xtB (PySem.W.mroIn K C (.ref D)) true && (xvB (PySem.W.ks_superIn K C D "__init__") "ValueError.__init__" && (xnB (PySem.W.findIn K (.ref C) "value") && xrB (PySem.W.findIn K (.ref C) "__init__") fI)))))))
theorem pmB_ok {K : PySem.W.Frag} {D fI C : Addr} (hc : ∃ nm q N bs bm sn sub ab col dd k0 k1 k2 k3 k5, K.lookup C = some (excClassObj nm q C N bs bm true sn sub ab col dd k0 k1 k2 k3 k5 "ValueError.__new__") ∧ PySem.HandSPX.refsVE bm = true) (h : pmB K D fI C = true) : PmC K D fI C := by
  unfold pmB at h
  simp only [Bool.and_eq_true] at h
  obtain ⟨a, b, c, d, e, f, g, i, j⟩ := h
  exact ⟨hc, xvB_ok a, xtB_ok b, xtB_ok c, xyB_ok d, e, xtB_ok f, xvB_ok g, xnB_ok i, xrB_ok j⟩
def xkB (K : PySem.W.Frag) (u : Value) (As : List Addr) (bs : List Bool) : Bool :=
  (["NoneType", "bool", "int", "str", "tuple", "list", "dict"].all fun t => xtB (PySem.W.kitOne K (.type t) u) false) && (As.zip bs).all fun p => xtB (PySem.W.kitOne K (.ref p.1) u) p.2
theorem xkB_ty {K : PySem.W.Frag} {u : Value} {As : List Addr} {bs : List Bool} (h : xkB K u As bs = true) : ∀ t, t ∈ ["NoneType", "bool", "int", "str", "tuple", "list", "dict"] → PySem.W.kitOne K (.type t) u = some false := fun t ht => by
  unfold xkB at h
  rw [Bool.and_eq_true] at h
  exact xtB_ok (List.all_eq_true.mp h.1 t ht)
theorem xkB_of {K : PySem.W.Frag} {mg : Str → Option Value} {u : Value} : ∀ {PA : List (Str × Addr)} {bs : List Bool}, (∀ p ∈ PA, mg p.1 = some (.ref p.2) ∧ ErrC K p.2) → (((PA.map (·.2)).zip bs).all fun p => xtB (PySem.W.kitOne K (.ref p.1) u) p.2) = true →
    ∀ c b A, ((PA.zip bs).map fun q => (q.1.1, q.2)).lookup c = some b → mg c = some (.ref A) → ErrC K A ∧ PySem.W.kitOne K (.ref A) u = some b
  | [], bs, _, _, c, b, A, e, _ => by simp at e
  | _ :: _, [], _, _, c, b, A, e, _ => by simp at e
  | p :: PA, x :: bs, g, h, c, b, A, e, m => by
    rw [List.map_cons, List.zip_cons_cons, List.all_cons, Bool.and_eq_true] at h
    rw [List.zip_cons_cons, List.map_cons, List.lookup_cons] at e
    split at e
    · rename_i q
      cases e
      have e2 := eq_of_beq q
      subst e2
      obtain ⟨g1, g2⟩ := g p (List.mem_cons_self ..)
      rw [g1] at m
      cases m
      exact ⟨g2, xtB_ok h.1⟩
    · exact xkB_of (fun q hq => g q (List.mem_cons_of_mem _ hq)) h.2 c b A e m
theorem isx_of {K : PySem.W.Frag} {mg : Str → Option Value} {u : Value} {PA : List (Str × Addr)} {bs : List Bool} (g : ∀ p ∈ PA, mg p.1 = some (.ref p.2) ∧ ErrC K p.2) (h : xkB K u (PA.map (·.2)) bs = true) :
    ∀ c b A, ((PA.zip bs).map fun q => (q.1.1, q.2)).lookup c = some b → mg c = some (.ref A) → ErrC K A ∧ PySem.W.kitOne K (.ref A) u = some b := by
  unfold xkB at h
  rw [Bool.and_eq_true] at h
  exact xkB_of g h.2
theorem xv_of {K : PySem.W.Frag} {mg : Str → Option Value} {PA : List (Str × Addr)} (g : ∀ p ∈ PA, mg p.1 = some (.ref p.2) ∧ ErrC K p.2) : ∀ c ∈ PA.map (·.1), ∀ A, mg c = some (.ref A) → ErrC K A := fun c hc A m => by
  obtain ⟨p, hp, rfl⟩ := List.mem_map.mp hc
  obtain ⟨g1, g2⟩ := g p hp
  rw [g1] at m
  cases m
  exact g2
end T
set_option Elab.async false
set_option linter.all false
set_option maxRecDepth 100000
set_option maxHeartbeats 4000000
namespace T
open PySem PySem.Spec PyProof.Rows L2
end T
set_option Elab.async false
set_option linter.all false
set_option maxRecDepth 100000
set_option maxHeartbeats 2000000
namespace T
open PySem PySem.Spec PyProof.Rows L2
theorem sap_len (a b : Str) : (a ++ b).length = a.length + b.length := by rw [TL.len_tl, TL.len_tl, TL.len_tl, TL.tl_append, List.length_append]
/-- a name: one to eight small letters -/
structure IsNm (x : Str) : Prop where
  lo : 1 ≤ x.length
  hi : x.length ≤ 8
  al : ∀ c ∈ TL.tl x, 97 ≤ c ∧ c ≤ 122
theorem IsNm.free {x : Str} (h : IsNm x) {c : Nat} (hc : c < 97 ∨ 122 < c) : c ∉ TL.tl x := fun m => by have := h.al c m; omega
theorem IsNm.ok {x : Str} (h : IsNm x) : PyData.strOk x = true := by
  unfold PyData.strOk
  rw [← Array.all_toList, List.all_eq_true]
  intro c hc
  have := h.al c hc
  exact decide_eq_true (by omega)
/-- a text of small signs -/
def Plain (x : Str) : Prop := ∀ c ∈ TL.tl x, c < 128
theorem IsNm.plain {x : Str} (h : IsNm x) : Plain x := fun c hc => by have := h.al c hc; omega
theorem Plain.app {a b : Str} (h : Plain a) (k : Plain b) : Plain (a ++ b) := fun c hc => by
  rw [TL.tl_append] at hc
  exact (List.mem_append.mp hc).elim (h c) (k c)
theorem Plain.ok {x : Str} (h : Plain x) : PyData.strOk x = true := by
  unfold PyData.strOk
  rw [← Array.all_toList, List.all_eq_true]
  intro c hc
  have := h c hc
  exact decide_eq_true (by omega)
instance (x : Str) : Decidable (Plain x) := inferInstanceAs (Decidable (∀ c ∈ TL.tl x, c < 128))
theorem Plain.join {s : Str} (hs : Plain s) : ∀ {l : List Str}, (∀ x ∈ l, Plain x) → Plain (Str.join s l)
  | [], _ => fun c hc => nomatch hc
  | [x], h => h x (List.mem_singleton.mpr rfl)
  | x :: y :: r, h => by
    show Plain (x ++ s ++ Str.join s (y :: r))
    exact ((h x (List.mem_cons_self ..)).app hs).app (Plain.join hs fun z hz => h z (List.mem_cons_of_mem _ hz))
theorem split_lines {ws : List Str} (hne : ws ≠ []) (h : ∀ w ∈ ws, 10 ∉ TL.tl w) : Txt.split (Txt.join "\n" ws) "\n" = ws := TL.split_join (s := 10) (S := []) (by decide +kernel) (by decide +kernel) hne h
theorem reprChar_plain : ∀ c ∈ List.range 128, (Builtin.Str.reprChar 34 c).all (· < 128) = true ∧ (Builtin.Str.reprChar 39 c).all (· < 128) = true := by decide +kernel
theorem reprText_plain {x : Str} (h : Plain x) : Plain (reprText x) := by
  have q : reprQuote x = 34 ∨ reprQuote x = 39 := by unfold reprQuote; split <;> simp
  have key : ∀ (l : List Nat) (acc : Array Nat), (∀ c ∈ l, c < 128) → (∀ c ∈ acc.toList, c < 128) → ∀ c ∈ (l.foldl (fun out c => out ++ (Builtin.Str.reprChar (reprQuote x) c).toArray) acc).toList, c < 128 := by
    intro l
    induction l with
    | nil => intro acc _ ha; exact ha
    | cons d l ih =>
      intro acc hl ha
      rw [List.foldl_cons]
      refine ih _ (fun c hc => hl c (List.mem_cons_of_mem _ hc)) fun c hc => ?_
      rw [Array.toList_append] at hc
      rcases List.mem_append.mp hc with z | z
      · exact ha c z
      · have p := reprChar_plain d (List.mem_range.mpr (hl d (List.mem_cons_self ..)))
        have z : c ∈ Builtin.Str.reprChar (reprQuote x) d := z
        rcases q with e | e
        · rw [e] at z
          exact of_decide_eq_true (List.all_eq_true.mp p.1 c z)
        · rw [e] at z
          exact of_decide_eq_true (List.all_eq_true.mp p.2 c z)
  intro c hc
  have hc : c ∈ ((x.cps.foldl (fun out c => out ++ (Builtin.Str.reprChar (reprQuote x) c).toArray) #[reprQuote x]).push (reprQuote x)).toList := hc
  rw [Array.toList_push, ← Array.foldl_toList] at hc
  rcases List.mem_append.mp hc with z | z
  · exact key _ _ h (fun d hd => by
      have : d = reprQuote x := by simpa using hd
      rw [this]
      omega) c z
  · rw [List.mem_singleton.mp z]
    omega
theorem textFrom_plain : ∀ (ts : List Str) (k : Nat) (acc : Str), Plain acc → (∀ t ∈ ts, Plain t) → Plain (textFrom k acc ts)
  | [], _, acc, h, _ => h
  | t :: ts, k, acc, h, ht => by
    show Plain (textFrom (k + 1) (acc ++ (if k > 0 then ", " else "" : String) ++ t) ts)
    refine textFrom_plain ts (k + 1) _ ((h.app ?_).app (ht t (List.mem_cons_self ..))) fun z hz => ht z (List.mem_cons_of_mem _ hz)
    split <;> decide +kernel
theorem tupleText_plain {ts : List Str} (h : ∀ t ∈ ts, Plain t) : Plain (tupleText ts) := by
  unfold tupleText
  refine ((show Plain ("(" : Str) from by decide +kernel).app (Plain.join (by decide +kernel) h)).app ?_
  split <;> decide +kernel
theorem listText_plain {ts : List Str} (h : ∀ t ∈ ts, Plain t) : Plain (listText ts) := by
  unfold listText
  exact (textFrom_plain ts 0 _ (by decide +kernel) h).app (by decide +kernel)
structure Ly (n w : Nat) (m : D) (d : PyData) : Prop where
  p : toP m = some d
  c : d.canLay0 = true
  t : d.depth ≤ n
  s : d.showable = true
  i : d.intsShort 13 = true
  w : d.weight ≤ w
  pl : Plain d.shown
structure Lys (n w : Nat) (ms : List D) (ds : List PyData) : Prop where
  p : toPs ms = some ds
  c : PyData.canLayAll0 ds = true
  t : PyData.depthAll ds ≤ n
  s : PyData.showableAll ds = true
  i : PyData.intsShortAll 13 ds = true
  w : PyData.weightAll ds ≤ w
  l : ds.length = ms.length
  pl : ∀ t ∈ PyData.shownAll ds, Plain t
theorem Lys.nil {n w : Nat} : Lys n w [] [] := ⟨rfl, by simp only [PyData.canLayAll0], by simp only [PyData.depthAll]; omega, by simp only [PyData.showableAll], by simp only [PyData.intsShortAll], by simp only [PyData.weightAll]; omega, rfl, fun t h => by simp only [PyData.shownAll] at h; cases h⟩
theorem Lys.cons {n w w' : Nat} {m : D} {d : PyData} {ms : List D} {ds : List PyData} (h : Ly n w m d) (k : Lys n w' ms ds) : Lys n (w + 1 + w') (m :: ms) (d :: ds) :=
  ⟨by simp only [toPs, h.p, k.p], by simp only [PyData.canLayAll0, h.c, k.c, Bool.and_self], by simp only [PyData.depthAll]; exact Nat.max_le.mpr ⟨h.t, k.t⟩, by simp only [PyData.showableAll, h.s, k.s, Bool.and_self], by simp only [PyData.intsShortAll, h.i, k.i, Bool.and_self], by simp only [PyData.weightAll]; have := h.w; have := k.w; omega, by simp only [List.length_cons, k.l], fun t ht => by
    simp only [PyData.shownAll] at ht
    rcases List.mem_cons.mp ht with rfl | z
    · exact h.pl
    · exact k.pl t z⟩
theorem Lys.map {α : Type} {n w : Nat} {f : α → D} {g : α → PyData} : ∀ {l : List α}, (∀ x ∈ l, Ly n w (f x) (g x)) → Lys n ((w + 1) * l.length) (l.map f) (l.map g)
  | [], _ => .nil
  | x :: l, h => by
    have e := Lys.cons (h x (List.mem_cons_self ..)) (Lys.map (n := n) (w := w) (f := f) (g := g) (l := l) fun y hy => h y (List.mem_cons_of_mem _ hy))
    rw [List.map_cons, List.map_cons, List.length_cons, Nat.mul_succ]
    exact { e with w := by have := e.w; omega }
theorem Lys.mono {n w n' w' : Nat} {ms : List D} {ds : List PyData} (h : Lys n w ms ds) (a : n ≤ n') (b : w ≤ w') : Lys n' w' ms ds := { h with t := Nat.le_trans h.t a, w := Nat.le_trans h.w b }
theorem Ly.mono {n w n' w' : Nat} {m : D} {d : PyData} (h : Ly n w m d) (a : n ≤ n') (b : w ≤ w') : Ly n' w' m d := { h with t := Nat.le_trans h.t a, w := Nat.le_trans h.w b }
theorem Ly.tup {n w : Nat} {ms : List D} {ds : List PyData} (h : Lys n w ms ds) : Ly (n + 1) w (.tup ms) (.tuple ds) :=
  ⟨by simp only [toP, h.p, Option.map_some], by simp only [PyData.canLay0, h.c], by simp only [PyData.depth]; have := h.t; omega, by simp only [PyData.showable, h.s], by simp only [PyData.intsShort, h.i], by simp only [PyData.weight]; exact h.w, by simp only [PyData.shown]; exact tupleText_plain h.pl⟩
theorem Ly.lst {n w : Nat} {o : Bool} {ms : List D} {ds : List PyData} (h : Lys n w ms ds) : Ly (n + 1) w (.lst o ms) (.list ds) :=
  ⟨by simp only [toP, h.p, Option.map_some], by simp only [PyData.canLay0, h.c], by simp only [PyData.depth]; have := h.t; omega, by simp only [PyData.showable, h.s], by simp only [PyData.intsShort, h.i], by simp only [PyData.weight]; exact h.w, by simp only [PyData.shown]; exact listText_plain h.pl⟩
theorem Ly.str {n w : Nat} {x : Str} (h : Plain x) (k : x.length ≤ w) : Ly n w (.str x) (.str x) :=
  ⟨rfl, by simp only [PyData.canLay0]; exact h.ok, by simp only [PyData.depth]; omega, by simp only [PyData.showable], by simp only [PyData.intsShort], by simp only [PyData.weight]; exact k, by simp only [PyData.shown]; exact reprText_plain h⟩
theorem Ly.non {n w : Nat} : Ly n w .non .none := ⟨rfl, by simp only [PyData.canLay0], by simp only [PyData.depth]; omega, by simp only [PyData.showable], by simp only [PyData.intsShort], by simp only [PyData.weight]; omega, by simp only [PyData.shown]; decide +kernel⟩
theorem Ly.nm {n : Nat} {x : Str} (h : IsNm x) : Ly n 8 (.str x) (.str x) := .str h.plain h.hi
def optD : Option Str → D
  | none => .non
  | some x => .str x
theorem Ly.int {n : Nat} {i : Int} (h : 0 ≤ i) (k : i < 4096) : Ly n 12 (.int i) (.int i) := by
  obtain ⟨j, rfl⟩ := Int.eq_ofNat_of_zero_le h
  have hl : j < 2 ^ 12 := by omega
  have hg : j.log2 < 12 := by
    by_cases z : j = 0
    · subst z; decide
    · exact (Nat.log2_lt z).mpr hl
  refine ⟨rfl, by simp only [PyData.canLay0], by simp only [PyData.depth]; omega, ?_, ?_, ?_, ?_⟩
  · simp only [PyData.showable]
    exact decide_eq_true (by show j.log2 < 1920; omega)
  · simp only [PyData.intsShort]
    refine decide_eq_true ?_
    rw [show (PyData.int (j : Int)).shown = Str.ofString (toString (j : Int)) from by simp only [PyData.shown]]
    rw [TL.len_tl, TL.tl_num]
    have := TL.numL_len (n := j) (k := 4) (by decide) (by omega)
    omega
  · simp only [PyData.weight]
    split
    · omega
    · show j.log2 + 1 ≤ 12
      omega
  · rw [show (PyData.int (j : Int)).shown = Str.ofString (toString (j : Int)) from by simp only [PyData.shown]]
    intro c hc
    rw [TL.tl_num] at hc
    have := TL.numL_digits j c hc
    omega
theorem Ly.shp {n w : Nat} {m : D} {d : PyData} (h : Ly n w m d) (k : n ≤ 64) : SeqAt.shaped d = true := by
  unfold SeqAt.shaped
  rw [h.c, Bool.true_and]
  exact decide_eq_true (Nat.le_trans h.t k)
theorem eqB_of {n w n' w' : Nat} {x y : D} {d e : PyData} (h : Ly n w x d) (k : Ly n' w' y e) (hn : n ≤ 64) (hn' : n' ≤ 64) : eqB x y = some (PyData.eqv d e) := by
  unfold eqB
  rw [h.p, k.p]
  show (if (SeqAt.shaped d && SeqAt.shaped e) = true then _ else _) = _
  rw [h.shp hn, k.shp hn'] <;> rfl
theorem repr_of {n w : Nat} {m : D} {d : PyData} (hc : isCt m = true) (h : Ly n w m d) (hn : n ≤ 50) (hw : w ≤ 66000) : reprD [m] = some (.str d.shown) := by
  have e := PyData.shown_le 13 (by decide) d (PyData.leavesShort_of_canLay0 13 d h.c h.i)
  have hw' := h.w
  have ht := h.t
  simp only [reprD, reprC, if_pos hc, h.p]
  rw [if_pos ⟨h.s, PyData.hasDict_of_canLay d h.c, by omega, by omega⟩]
theorem eqv_str (a b : Str) : PyData.eqv (.str a) (.str b) = decide (a = b) := by
  simp only [PyData.eqv]
  by_cases h : a = b
  · subst h; simp
  · simp [h]
theorem eqv_int (a b : Int) : PyData.eqv (.int a) (.int b) = decide (a = b) := by
  simp only [PyData.eqv]
  by_cases h : a = b
  · subst h; simp
  · simp [h]
end T
set_option Elab.async false
set_option linter.all false
set_option maxRecDepth 100000
set_option maxHeartbeats 2000000
namespace T
open PySem PySem.Spec PyProof.Rows L2
structure Plate where
  name : Str
  room : Str
  num : Int
  kind : Option Str
structure Gate where
  name : Str
  one : Str
  two : Str
  kind : Option Str
  held : List Str
structure Lore where
  rooms : List Str
  kinds : List (Str × Str)
  plates : List Plate
  gates : List Gate
def kindD (k : Str × Str) : D := .tup [.str k.1, .str k.2]
def plateD (p : Plate) : D := .tup [.str p.name, .str p.room, .int p.num, optD p.kind]
def gateD (g : Gate) : D := .tup [.str g.name, .str g.one, .str g.two, optD g.kind, .tup (strsD g.held)]
structure PlateOk (rooms kinds : List Str) (p : Plate) : Prop where
  nm : IsNm p.name
  rm : p.room ∈ rooms
  lo : 1 ≤ p.num
  hi : p.num ≤ 3
  kd : ∀ k, p.kind = some k → k ∈ kinds
structure GateOk (rooms kinds plates : List Str) (g : Gate) : Prop where
  nm : IsNm g.name
  a : g.one ∈ rooms
  b : g.two ∈ rooms
  ne : g.one ≠ g.two
  kd : ∀ k, g.kind = some k → k ∈ kinds
  hd : ∀ x ∈ g.held, x ∈ plates
  nd : g.held.Nodup
  le : g.held.length ≤ 2
abbrev Lore.kn (L : Lore) : List Str := L.kinds.map (·.1)
abbrev Lore.pn (L : Lore) : List Str := L.plates.map (·.name)
abbrev Lore.gn (L : Lore) : List Str := L.gates.map (·.name)
structure LoreOk (L : Lore) : Prop where
  r1 : 2 ≤ L.rooms.length
  r2 : L.rooms.length ≤ 5
  rn : ∀ x ∈ L.rooms, IsNm x
  rd : L.rooms.Nodup
  k1 : L.kinds ≠ []
  k2 : L.kinds.length ≤ if L.rooms.length < 5 then 2 else 1
  kk : ∀ k ∈ L.kinds, IsNm k.1 ∧ k.2 ∈ L.rooms
  kd : L.kn.Nodup
  p2 : L.plates.length ≤ 4
  pk : ∀ p ∈ L.plates, PlateOk L.rooms L.kn p
  pd : L.pn.Nodup
  g1 : L.gates ≠ []
  g2 : L.gates.length ≤ 8
  gk : ∀ g ∈ L.gates, GateOk L.rooms L.kn L.pn g
  gd : L.gn.Nodup
theorem LoreOk.kindNm {L : Lore} (h : LoreOk L) : ∀ x ∈ L.kn, IsNm x := fun x hx => by
  obtain ⟨k, hk, rfl⟩ := List.mem_map.mp hx
  exact (h.kk k hk).1
theorem LoreOk.plateNm {L : Lore} (h : LoreOk L) : ∀ x ∈ L.pn, IsNm x := fun x hx => by
  obtain ⟨k, hk, rfl⟩ := List.mem_map.mp hx
  exact (h.pk k hk).nm
abbrev numS (i : Int) : Str := toString i
def roomL (r : Str) : Str := ("room " : Str) ++ r
def kindL (k : Str × Str) : Str := ("kind " : Str) ++ k.1 ++ (" " : Str) ++ k.2
def plateL (p : Plate) : Str := ("plate " : Str) ++ p.name ++ (" " : Str) ++ p.room ++ (" " : Str) ++ numS p.num ++ (match p.kind with | some k => (" " : Str) ++ k | none => ("" : Str))
def gateL0 (g : Gate) : Str := ("gate " : Str) ++ g.name ++ (" " : Str) ++ g.one ++ (" " : Str) ++ g.two ++ (match g.kind with | some k => (" for " : Str) ++ k | none => ("" : Str))
def heldL (ps : List Str) : Str := if ps = [] then ("" : Str) else (" while " : Str) ++ Txt.join "," ps
def gateL (g : Gate) : Str := gateL0 g ++ heldL g.held
def optW : Option Str → List Str
  | some k => [k]
  | none => []
def forW : Option Str → List Str
  | some k => ["for", k]
  | none => []
def heldW (ps : List Str) : List Str := if ps = [] then [] else ["while", Txt.join "," ps]
def plateW (p : Plate) : List Str := "plate" :: p.name :: p.room :: numS p.num :: optW p.kind
def gateW (g : Gate) : List Str := "gate" :: g.name :: g.one :: g.two :: (forW g.kind ++ heldW g.held)
theorem tl_0 : TL.tl ("" : Str) = [] := by decide +kernel
theorem tl_1 : TL.tl (" " : Str) = [32] := by decide +kernel
theorem tl_2 : TL.tl ("room " : Str) = TL.tl ("room" : Str) ++ [32] := by decide +kernel
theorem tl_3 : TL.tl ("kind " : Str) = TL.tl ("kind" : Str) ++ [32] := by decide +kernel
theorem tl_4 : TL.tl ("plate " : Str) = TL.tl ("plate" : Str) ++ [32] := by decide +kernel
theorem tl_5 : TL.tl ("gate " : Str) = TL.tl ("gate" : Str) ++ [32] := by decide +kernel
theorem tl_6 : TL.tl (" for " : Str) = [32] ++ TL.tl ("for" : Str) ++ [32] := by decide +kernel
theorem tl_7 : TL.tl (" while " : Str) = [32] ++ TL.tl ("while" : Str) ++ [32] := by decide +kernel
theorem roomL_eq (r : Str) : roomL r = Str.join " " ["room", r] := TL.ext_tl (by simp only [roomL, Str.join, TL.tl_append, tl_0, tl_1, tl_2, List.append_assoc])
theorem kindL_eq (k : Str × Str) : kindL k = Str.join " " ["kind", k.1, k.2] := TL.ext_tl (by simp only [kindL, Str.join, TL.tl_append, tl_0, tl_1, tl_3, List.append_assoc])
theorem plateL_eq (p : Plate) : plateL p = Str.join " " (plateW p) := TL.ext_tl (by
  cases p with
  | mk a b c d => cases d <;> simp only [plateL, plateW, optW, Str.join, TL.tl_append, tl_0, tl_1, tl_4, List.append_assoc, List.append_nil])
theorem gateL_eq (g : Gate) : gateL g = Str.join " " (gateW g) := TL.ext_tl (by
  cases g with
  | mk a b c d e =>
    by_cases h : e = []
    · subst h
      cases d <;> simp only [gateL, gateL0, heldL, gateW, forW, heldW, Str.join, TL.tl_append, tl_0, tl_1, tl_5, tl_6, tl_7, List.append_assoc, List.append_nil, if_true, List.cons_append, List.nil_append]
    · cases d <;> simp only [gateL, gateL0, heldL, gateW, forW, heldW, Str.join, TL.tl_append, tl_0, tl_1, tl_5, tl_6, tl_7, List.append_assoc, List.append_nil, if_neg h, List.cons_append, List.nil_append])
/-- a word of a line -/
structure WdOk (w : Str) : Prop where
  sp : 32 ∉ TL.tl w
  nl : 10 ∉ TL.tl w
  pl : Plain w
  le : w.length ≤ 17
theorem IsNm.wd {x : Str} (h : IsNm x) : WdOk x := ⟨h.free (by omega), h.free (by omega), h.plain, by have := h.hi; omega⟩
theorem wd_num {i : Int} (h : 1 ≤ i) (k : i ≤ 3) : WdOk (numS i) := by
  have e : i = 1 ∨ i = 2 ∨ i = 3 := by omega
  rcases e with rfl | rfl | rfl <;> exact ⟨by decide +kernel, by decide +kernel, by decide +kernel, by decide +kernel⟩
theorem not_join {c : Nat} {s : Str} (hs : c ∉ TL.tl s) : ∀ {l : List Str}, (∀ x ∈ l, c ∉ TL.tl x) → c ∉ TL.tl (Str.join s l)
  | [], _ => fun h => nomatch h
  | [x], h => h x (List.mem_singleton.mpr rfl)
  | x :: y :: r, h => by
    show c ∉ TL.tl (x ++ s ++ Str.join s (y :: r))
    rw [TL.tl_append, TL.tl_append]
    intro m
    rcases List.mem_append.mp m with m | m
    · rcases List.mem_append.mp m with m | m
      · exact h x (List.mem_cons_self ..) m
      · exact hs m
    · exact not_join hs (fun z hz => h z (List.mem_cons_of_mem _ hz)) m
theorem sum_le {n : Nat} : ∀ {l : List Nat}, (∀ x ∈ l, x ≤ n) → l.sum ≤ n * l.length
  | [], _ => Nat.zero_le _
  | x :: l, h => by
    have a := h x (List.mem_cons_self ..)
    have b := sum_le (n := n) (l := l) fun y hy => h y (List.mem_cons_of_mem _ hy)
    rw [List.sum_cons, List.length_cons, Nat.mul_succ]
    omega
theorem join_len {s : Str} {n : Nat} {l : List Str} (h : ∀ x ∈ l, x.length ≤ n) : (Str.join s l).length ≤ (n + s.length) * l.length := by
  have a := StrLaws.join_length_le s l
  have b := sum_le (n := n) (l := l.map (·.length)) fun x hx => by
    obtain ⟨y, hy, rfl⟩ := List.mem_map.mp hx
    exact h y hy
  rw [List.length_map] at b
  rw [Nat.add_mul]
  have := Nat.mul_comm s.length l.length
  omega
theorem wd_held {ps : List Str} (h : ∀ x ∈ ps, IsNm x) (k : ps.length ≤ 2) : WdOk (Txt.join "," ps) := by
  rw [TL.join_eq]
  refine ⟨not_join (by decide +kernel) fun x hx => (h x hx).free (by omega), not_join (by decide +kernel) fun x hx => (h x hx).free (by omega), Plain.join (by decide +kernel) fun x hx => (h x hx).plain, ?_⟩
  match ps, k with
  | [], _ => exact Nat.zero_le _
  | [a], _ => have := (h a (by simp)).hi; show a.length ≤ 17; omega
  | [a, b], _ =>
    have h1 := (h a (by simp)).hi
    have h2 := (h b (by simp)).hi
    show (a ++ ("," : Str) ++ b).length ≤ 17
    rw [sap_len, sap_len, show (("," : Str)).length = 1 from by decide +kernel]
    omega
theorem wds_room {r : Str} (h : IsNm r) : ∀ w ∈ ([("room" : Str), r] : List Str), WdOk w := by
  intro w hw
  simp only [List.mem_cons, List.not_mem_nil, or_false] at hw
  rcases hw with rfl | rfl
  · exact ⟨by decide +kernel, by decide +kernel, by decide +kernel, by decide +kernel⟩
  · exact h.wd
theorem wds_kind {k : Str × Str} (h : IsNm k.1) (h2 : IsNm k.2) : ∀ w ∈ ([("kind" : Str), k.1, k.2] : List Str), WdOk w := by
  intro w hw
  simp only [List.mem_cons, List.not_mem_nil, or_false] at hw
  rcases hw with rfl | rfl | rfl
  · exact ⟨by decide +kernel, by decide +kernel, by decide +kernel, by decide +kernel⟩
  · exact h.wd
  · exact h2.wd
theorem wds_plate {p : Plate} (h : IsNm p.name) (h2 : IsNm p.room) (a : 1 ≤ p.num) (b : p.num ≤ 3) (c : ∀ k, p.kind = some k → IsNm k) : ∀ w ∈ plateW p, WdOk w := by
  intro w hw
  simp only [plateW, List.mem_cons] at hw
  rcases hw with rfl | rfl | rfl | rfl | hw
  · exact ⟨by decide +kernel, by decide +kernel, by decide +kernel, by decide +kernel⟩
  · exact h.wd
  · exact h2.wd
  · exact wd_num a b
  · cases e : p.kind with
    | none => rw [e] at hw; cases hw
    | some k =>
      rw [e] at hw
      rw [List.mem_singleton.mp hw]
      exact (c k e).wd
theorem wds_gate {g : Gate} (h : IsNm g.name) (h1 : IsNm g.one) (h2 : IsNm g.two) (c : ∀ k, g.kind = some k → IsNm k) (d : ∀ x ∈ g.held, IsNm x) (e : g.held.length ≤ 2) : ∀ w ∈ gateW g, WdOk w := by
  intro w hw
  simp only [gateW, List.mem_cons, List.mem_append] at hw
  rcases hw with rfl | rfl | rfl | rfl | hw | hw
  · exact ⟨by decide +kernel, by decide +kernel, by decide +kernel, by decide +kernel⟩
  · exact h.wd
  · exact h1.wd
  · exact h2.wd
  · cases q : g.kind with
    | none => rw [q] at hw; cases hw
    | some k =>
      rw [q] at hw
      simp only [forW, List.mem_cons, List.not_mem_nil, or_false] at hw
      rcases hw with rfl | rfl
      · exact ⟨by decide +kernel, by decide +kernel, by decide +kernel, by decide +kernel⟩
      · exact (c _ q).wd
  · unfold heldW at hw
    split at hw
    · cases hw
    · simp only [List.mem_cons, List.not_mem_nil, or_false] at hw
      rcases hw with rfl | rfl
      · exact ⟨by decide +kernel, by decide +kernel, by decide +kernel, by decide +kernel⟩
      · exact wd_held d e
/-- a line of a text -/
structure LnOk (l : Str) : Prop where
  nl : 10 ∉ TL.tl l
  pl : Plain l
  le : l.length ≤ 144
theorem ln_of {ws : List Str} (h : ∀ w ∈ ws, WdOk w) (k : ws.length ≤ 8) : LnOk (Str.join " " ws) := by
  refine ⟨not_join (by decide +kernel) fun x hx => (h x hx).nl, Plain.join (by decide +kernel) fun x hx => (h x hx).pl, ?_⟩
  have e := join_len (s := " ") (n := 17) (l := ws) fun x hx => (h x hx).le
  rw [show ((" " : Str)).length = 1 from by decide +kernel] at e
  omega
theorem len_plateW (p : Plate) : (plateW p).length ≤ 8 := by
  unfold plateW
  cases p.kind <;> simp [optW]
theorem len_gateW (g : Gate) : (gateW g).length ≤ 8 := by
  unfold gateW heldW
  cases g.kind <;> simp only [forW] <;> split <;> simp
def Lore.lines (L : Lore) : List Str := (L.rooms.map roomL ++ L.kinds.map kindL) ++ L.plates.map plateL ++ L.gates.map gateL
def Lore.text (L : Lore) : Str := Txt.join "\n" L.lines
theorem LoreOk.plateW {L : Lore} (h : LoreOk L) {p : Plate} (hp : p ∈ L.plates) : ∀ w ∈ T.plateW p, WdOk w := by
  have z := h.pk p hp
  exact wds_plate z.nm (h.rn _ z.rm) z.lo z.hi fun k hk => h.kindNm k (z.kd k hk)
theorem LoreOk.gateW {L : Lore} (h : LoreOk L) {g : Gate} (hg : g ∈ L.gates) : ∀ w ∈ T.gateW g, WdOk w := by
  have z := h.gk g hg
  exact wds_gate z.nm (h.rn _ z.a) (h.rn _ z.b) (fun k hk => h.kindNm k (z.kd k hk)) (fun x hx => h.plateNm x (z.hd x hx)) z.le
theorem LoreOk.lines {L : Lore} (h : LoreOk L) : ∀ l ∈ L.lines, LnOk l := by
  intro l hl
  simp only [Lore.lines, List.mem_append, List.mem_map] at hl
  rcases hl with ((⟨r, hr, rfl⟩ | ⟨k, hk, rfl⟩) | ⟨p, hp, rfl⟩) | ⟨g, hg, rfl⟩
  · rw [roomL_eq]
    exact ln_of (wds_room (h.rn r hr)) (by simp)
  · rw [kindL_eq]
    exact ln_of (wds_kind (h.kk k hk).1 (h.rn _ (h.kk k hk).2)) (by simp)
  · rw [plateL_eq]
    exact ln_of (h.plateW hp) (len_plateW p)
  · rw [gateL_eq]
    exact ln_of (h.gateW hg) (len_gateW g)
theorem LoreOk.count {L : Lore} (h : LoreOk L) : L.lines.length ≤ 19 := by
  have a := h.r2
  have b := h.k2
  have c := h.p2
  have d := h.g2
  simp only [Lore.lines, List.length_append, List.length_map]
  split at b <;> omega
theorem LoreOk.lines_ne {L : Lore} (h : LoreOk L) : L.lines ≠ [] := fun e => by
  have a := h.r1
  have := congrArg List.length e
  simp only [Lore.lines, List.length_append, List.length_map, List.length_nil] at this
  omega
theorem LoreOk.split {L : Lore} (h : LoreOk L) : Txt.split L.text "\n" = L.lines := split_lines h.lines_ne fun w hw => (h.lines w hw).nl
theorem LoreOk.plain {L : Lore} (h : LoreOk L) : Plain L.text := by
  unfold Lore.text
  rw [TL.join_eq]
  exact Plain.join (by decide +kernel) fun w hw => (h.lines w hw).pl
theorem LoreOk.len {L : Lore} (h : LoreOk L) : L.text.length ≤ 2755 := by
  unfold Lore.text
  rw [TL.join_eq]
  have e := join_len (s := "\n") (n := 144) (l := L.lines) fun x hx => (h.lines x hx).le
  rw [show (("\n" : Str)).length = 1 from by decide +kernel] at e
  have := h.count
  omega
end T
set_option Elab.async false
set_option linter.all false
set_option maxRecDepth 100000
set_option maxHeartbeats 2000000
namespace T
open PySem PySem.Spec PyProof.Rows L2
@[simp] theorem pFz_ap (p : SV) (env : Env) : pFz p env = match p env with
  | some m => if fz m then some m else none
  | none => none := Eq.trans rfl rfl
@[simp] theorem sU_ap (p : SV) (env : Env) : sU p env = (p env).map fun m => (.ok m, env) := Eq.trans rfl rfl
@[simp] theorem pVar_ap (i : Nat) (env : Env) : pVar i env = match env[i]? with
  | some (some m) => some m
  | _ => none := Eq.trans rfl rfl
@[simp] theorem sMove_ap (i : Nat) (env : Env) : sMove i env = match env[i]? with
  | some (some m) => some (.ok m, env.set i none)
  | _ => none := Eq.trans rfl rfl
@[simp] theorem sBind_ap (s : SE) (k : D → SE) (env : Env) : sBind s k env = match s env with
  | some (.ok m, env1) => k m env1
  | some (.ex c m, env1) => some (.ex c m, env1)
  | none => none := Eq.trans rfl rfl
@[simp] theorem sOpt_ap (o : Option D) (env : Env) : sOpt o env = o.map fun m => (.ok m, env) := Eq.trans rfl rfl
@[simp] theorem sOk_ap (m : D) (env : Env) : sOk m env = some (.ok m, env) := Eq.trans rfl rfl
@[simp] theorem p2_ap (f : D → D → Option D) (p q : SV) (env : Env) : p2 f p q env = match p env, q env with
  | some x, some y => f x y
  | _, _ => none := Eq.trans rfl rfl
@[simp] theorem s2N_ap (f : D → D → Option D) (i : Nat) (sb : SE) (env : Env) : s2N f i sb env = match pVar i env with
  | some _ => sBind sb (fun y env1 => match pVar i env1 with
    | some x => sOpt (f x y) env1
    | none => none) env
  | none => none := Eq.trans rfl rfl
@[simp] theorem sSeq_ap (s u : SS) (env : Env) : sSeq s u env = match s env with
  | some (.nx, env1) => u env1
  | some (.rt m, env1) => some (.rt m, env1)
  | some (.bk, env1) => some (.bk, env1)
  | some (.ct, env1) => some (.ct, env1)
  | some (.ex c m, env1) => some (.ex c m, env1)
  | none => none := Eq.trans rfl rfl
@[simp] theorem sRet_ap (s : SE) (env : Env) : sRet s env = match s env with
  | some (.ok m, env1) => some (.rt m, env1)
  | some (.ex c m, env1) => some (.ex c m, env1)
  | none => none := Eq.trans rfl rfl
@[simp] theorem sRetN_ap (env : Env) : sRetN  env = some (.rt .non, env) := Eq.trans rfl rfl
@[simp] theorem sDrop_ap (s : SE) (env : Env) : sDrop s env = match s env with
  | some (.ok _, env1) => some (.nx, env1)
  | some (.ex c m, env1) => some (.ex c m, env1)
  | none => none := Eq.trans rfl rfl
@[simp] theorem sPass_ap (env : Env) : sPass  env = some (.nx, env) := Eq.trans rfl rfl
@[simp] theorem sBrk_ap (env : Env) : sBrk  env = some (.bk, env) := Eq.trans rfl rfl
@[simp] theorem sCont_ap (env : Env) : sCont  env = some (.ct, env) := Eq.trans rfl rfl
@[simp] theorem sIf_ap (t : STe) (a b : SS) (env : Env) : sIf t a b env = match t env with
  | some (.ok true, env1) => a env1
  | some (.ok false, env1) => b env1
  | some (.ex c m, env1) => some (.ex c m, env1)
  | none => none := Eq.trans rfl rfl
@[simp] theorem sSet_ap (i : Nat) (s : SE) (env : Env) : sSet i s env = match s env with
  | some (.ok m, env1) => if i < env1.length then some (.nx, env1.set i (some m)) else none
  | some (.ex c m, env1) => some (.ex c m, env1)
  | none => none := Eq.trans rfl rfl
@[simp] theorem aNil_ap (env : Env) : aNil  env = some (.ok [], env) := Eq.trans rfl rfl
@[simp] theorem aE_ap (s : SE) (r : SA) (env : Env) : aE s r env = match s env with
  | some (.ok m, env1) => match r env1 with
    | some (.ok as, env2) => some (.ok (.val m :: as), env2)
    | some (.ex c m, env2) => some (.ex c m, env2)
    | none => none
  | some (.ex c m, env1) => some (.ex c m, env1)
  | none => none := Eq.trans rfl rfl
@[simp] theorem aN_ap (i : Nat) (r : SA) (env : Env) : aN i r env = match pVar i env with
  | some _ => match r env with
    | some (.ok as, env2) => some (.ok (.lend i :: as), env2)
    | some (.ex c m, env2) => some (.ex c m, env2)
    | none => none
  | none => none := Eq.trans rfl rfl
@[simp] theorem vNil_ap (e0 : Env) : vNil  e0 = some [] := Eq.trans rfl rfl
@[simp] theorem vCons_ap (p : SV) (r : SAV) (env : Env) : vCons p r env = match p env, r env with
  | some m, some ms => some (m :: ms)
  | _, _ => none := Eq.trans rfl rfl
@[simp] theorem sCallA_ap (F : SF) (a : SA) (env : Env) : sCallA F a env = match a env with
  | some (.ok as, env1) => match takeA as env1 with
    | some (ms, env2) => match F ms with
      | some (.ok m, os) => some (.ok m, backA as os env2)
      | some (.ex c m, os) => some (.ex c m, backA as os env2)
      | none => none
    | none => none
  | some (.ex c m, env1) => some (.ex c m, env1)
  | none => none := Eq.trans rfl rfl
@[simp] theorem fnS_ap (n np : Nat) (kp : Nat → Bool) (s : SS) (ms : List D) : fnS n np kp s ms = if ms.length = np then
    match s (ms.map some ++ List.replicate (n - np) none) with
    | some (.nx, env) => some (.ok .non, outsF kp 0 np env)
    | some (.rt m, env) => some (.ok m, outsF kp 0 np env)
    | some (.ex c m, env) => some (.ex c m, outsF kp 0 np env)
    | _ => none
  else none := Eq.trans rfl rfl
@[simp] theorem pC_ap (f : List D → Option D) (p : SAV) (env : Env) : pC f p env = match p env with
  | some ms => f ms
  | none => none := Eq.trans rfl rfl
@[simp] theorem sC_ap (f : List D → Option D) (a : SA) (env : Env) : sC f a env = match a env with
  | some (.ok as, env1) => match lookA as env1 with
    | some ms => sOpt (f ms) env1
    | none => none
  | some (.ex c m, env1) => some (.ex c m, env1)
  | none => none := Eq.trans rfl rfl
@[simp] theorem pTup_ap (p : SAV) (env : Env) : pTup p env = match p env with
  | some ms => if ms.length ≤ 1000 then some (.tup ms) else none
  | none => none := Eq.trans rfl rfl
@[simp] theorem pLst_ap (p : SAV) (env : Env) : pLst p env = match p env with
  | some ms => if ms.length ≤ 1000 then some (.lst true ms) else none
  | none => none := Eq.trans rfl rfl
@[simp] theorem sDisp_ap (f : List D → D) (a : SA) (env : Env) : sDisp f a env = match a env with
  | some (.ok as, env1) => match valsA as with
    | some ms => if ms.length ≤ 1000 then some (.ok (f ms), env1) else none
    | none => none
  | some (.ex c m, env1) => some (.ex c m, env1)
  | none => none := Eq.trans rfl rfl
@[simp] theorem qT_ap (p : SV) (env : Env) : qT p env = match p env with
  | some m => truD m
  | none => none := Eq.trans rfl rfl
@[simp] theorem qTE_ap (s : SE) (env : Env) : qTE s env = match s env with
  | some (.ok m, env1) => (truD m).map fun b => (.ok b, env1)
  | some (.ex c m, env1) => some (.ex c m, env1)
  | none => none := Eq.trans rfl rfl
@[simp] theorem qU_ap (p : STu) (env : Env) : qU p env = (p env).map fun b => (.ok b, env) := Eq.trans rfl rfl
@[simp] theorem qNot_ap (p : STu) (env : Env) : qNot p env = (p env).map (!·) := Eq.trans rfl rfl
@[simp] theorem qAnd_ap (p q : STu) (env : Env) : qAnd p q env = match p env with
  | some true => q env
  | some false => some false
  | none => none := Eq.trans rfl rfl
@[simp] theorem qOr_ap (p q : STu) (env : Env) : qOr p q env = match p env with
  | some true => some true
  | some false => q env
  | none => none := Eq.trans rfl rfl
@[simp] theorem eNot_ap (t : STe) (env : Env) : eNot t env = match t env with
  | some (.ok b, env1) => some (.ok (!b), env1)
  | some (.ex c m, env1) => some (.ex c m, env1)
  | none => none := Eq.trans rfl rfl
@[simp] theorem eAnd_ap (t u : STe) (env : Env) : eAnd t u env = match t env with
  | some (.ok true, env1) => u env1
  | some (.ok false, env1) => some (.ok false, env1)
  | some (.ex c m, env1) => some (.ex c m, env1)
  | none => none := Eq.trans rfl rfl
@[simp] theorem eOr_ap (t u : STe) (env : Env) : eOr t u env = match t env with
  | some (.ok true, env1) => some (.ok true, env1)
  | some (.ok false, env1) => u env1
  | some (.ex c m, env1) => some (.ex c m, env1)
  | none => none := Eq.trans rfl rfl
@[simp] theorem pIf_ap (t : STu) (a b : SV) (env : Env) : pIf t a b env = match t env with
  | some true => a env
  | some false => b env
  | none => none := Eq.trans rfl rfl
@[simp] theorem sIfE_ap (t : STe) (a b : SE) (env : Env) : sIfE t a b env = match t env with
  | some (.ok true, env1) => a env1
  | some (.ok false, env1) => b env1
  | some (.ex c m, env1) => some (.ex c m, env1)
  | none => none := Eq.trans rfl rfl
@[simp] theorem bName_ap (i : Nat) (m : D) (env : Env) : bName i m env = if i < env.length then some (env.set i (some m)) else none := Eq.trans rfl rfl
@[simp] theorem bNil_ap (ms : List D) (env : Env) : bNil  ms env = match ms with
  | [] => some env
  | _ => none := Eq.trans rfl rfl
@[simp] theorem bCons_ap (b : Bd) (r : Bds) (ms : List D) (env : Env) : bCons b r ms env = match ms with
  | m :: ms => match b m env with
    | some env1 => r ms env1
    | none => none
  | [] => none := Eq.trans rfl rfl
@[simp] theorem bTup_ap (n : Nat) (b : Bds) (m : D) (env : Env) : bTup n b m env = match m with
  | .tup ms => if ms.length = n then b ms env else none
  | _ => none := Eq.trans rfl rfl
@[simp] theorem sAsg_ap (b : Bd) (s : SE) (env : Env) : sAsg b s env = match s env with
  | some (.ok m, env1) => (b m env1).map fun e => (.nx, e)
  | some (.ex c m, env1) => some (.ex c m, env1)
  | none => none := Eq.trans rfl rfl
@[simp] theorem iE_ap (s : SE) (env : Env) : iE s env = match s env with
  | some (.ok m, env1) => (seqD m).map fun ms => (.ok ms, env1)
  | some (.ex c m, env1) => some (.ex c m, env1)
  | none => none := Eq.trans rfl rfl
@[simp] theorem iP_ap (p : SV) (env : Env) : iP p env = match p env with
  | some m => seqD m
  | none => none := Eq.trans rfl rfl
@[simp] theorem iU_ap (p : SAV) (env : Env) : iU p env = (p env).map fun ms => (.ok ms, env) := Eq.trans rfl rfl
@[simp] theorem iRg_ap (f : List D → Option (List D)) (a : SA) (env : Env) : iRg f a env = match a env with
  | some (.ok as, env1) => match lookA as env1 with
    | some ms => (f ms).map fun ms => (.ok ms, env1)
    | none => none
  | some (.ex c m, env1) => some (.ex c m, env1)
  | none => none := Eq.trans rfl rfl
@[simp] theorem iRgU_ap (f : List D → Option (List D)) (p : SAV) (env : Env) : iRgU f p env = match p env with
  | some ms => f ms
  | none => none := Eq.trans rfl rfl
@[simp] theorem sFor_ap (it : SI) (b : Bd) (body : SS) (env : Env) : sFor it b body env = match it env with
  | some (.ok ms, env1) => loopS b body ms env1
  | some (.ex c m, env1) => some (.ex c m, env1)
  | none => none := Eq.trans rfl rfl
@[simp] theorem pLc_ap (own : List Nat) (it : SAV) (b : Bd) (t : STu) (el : SV) (env : Env) : pLc own it b t el env = match it env with
  | some ms => if ms.length ≤ 100000 then (pLcL b t el (wipeE own env) ms).map (.lst true) else none
  | none => none := Eq.trans rfl rfl
@[simp] theorem sLc_ap (own : List Nat) (it : SI) (b : Bd) (t : STe) (el : SE) (env : Env) : sLc own it b t el env = match it env with
  | some (.ok ms, env1) => if ms.length ≤ 100000 then (match lcLoop own b t el ms [] (wipeE own env1) with
    | some (acc, env2) => some (.ok (.lst true acc), restE env1 own env2)
    | none => none) else none
  | some (.ex c m, env1) => some (.ex c m, env1)
  | none => none := Eq.trans rfl rfl
@[simp] theorem sLstM_ap (i : Nat) (s : SE) (f : List D → D → Option (D × List D)) (env : Env) : sLstM i s f env = match pVar i env with
  | some m0 => if isL m0 then (match s env with
    | some (.ok m, env1) => match pVar i env1 with
      | some (.lst true ms) => match f ms m with
        | some (x, ms') => some (.ok x, env1.set i (some (.lst true ms')))
        | none => none
      | _ => none
    | some (.ex c m, env1) => some (.ex c m, env1)
    | none => none) else none
  | none => none := Eq.trans rfl rfl
@[simp] theorem sSetIx_ap (i : Nat) (s : SE) (ix : SV) (env : Env) : sSetIx i s ix env = match s env with
  | some (.ok m, env1) => match pVar i env1, ix env1 with
    | some (.lst true ms), some (.int k) => match ixN ms.length k with
      | some j => if fzs ms then some (.nx, env1.set i (some (.lst true (ms.set j m)))) else none
      | none => none
    | _, _ => none
  | some (.ex c m, env1) => some (.ex c m, env1)
  | none => none := Eq.trans rfl rfl
@[simp] theorem sPar_ap (is : List Nat) (a : SA) (env : Env) : sPar is a env = match a env with
  | some (.ok as, env1) => match valsA as with
    | some ms => if ms.length = is.length ∧ is.all (fun i => decide (i < env1.length)) = true then some (.nx, (is.zip ms).foldl (fun e p => e.set p.1 (some p.2)) env1) else none
    | none => none
  | some (.ex c m, env1) => some (.ex c m, env1)
  | none => none := Eq.trans rfl rfl
@[simp] theorem pK_ap (m : D) (e0 : Env) : pK m e0 = some m := Eq.trans rfl rfl
@[simp] theorem qB_ap (p : SV) (env : Env) : qB p env = match p env with
  | some (.bl b) => some b
  | _ => none := Eq.trans rfl rfl
@[simp] theorem qBE_ap (s : SE) (env : Env) : qBE s env = match s env with
  | some (.ok (.bl b), env1) => some (.ok b, env1)
  | some (.ex c m, env1) => some (.ex c m, env1)
  | _ => none := Eq.trans rfl rfl
@[simp] theorem qYes_ap (e0 : Env) : qYes  e0 = some true := Eq.trans rfl rfl
@[simp] theorem eYes_ap (env : Env) : eYes  env = some (.ok true, env) := Eq.trans rfl rfl
@[simp] theorem pFld_ap (L : List Str) (f : Str) (p : SV) (env : Env) : pFld L f p env = match p env with
  | some (.ins _ c fs) => if L.contains c then fs.lookup f else none
  | _ => none := Eq.trans rfl rfl
@[simp] theorem pAndV_ap (p q : SV) (env : Env) : pAndV p q env = match p env with
  | some (.bl true) => q env
  | some (.bl false) => some (.bl false)
  | _ => none := Eq.trans rfl rfl
@[simp] theorem pOrV_ap (p q : SV) (env : Env) : pOrV p q env = match p env with
  | some (.bl false) => q env
  | some (.bl true) => some (.bl true)
  | _ => none := Eq.trans rfl rfl
@[simp] theorem p1_ap (f : D → Option D) (p : SV) (env : Env) : p1 f p env = (p env).bind f := Eq.trans rfl rfl
@[simp] theorem sFz_ap (i : Nat) (env : Env) : sFz i env = match pVar i env with
  | some m => some (.ok (fr m), env.set i (some (fr m)))
  | none => none := Eq.trans rfl rfl
@[simp] theorem sSetF_ap (L : List Str) (i : Nat) (f : Str) (s : SE) (env : Env) : sSetF L i f s env = match s env with
  | some (.ok m, env1) => match pVar i env1 with
    | some (.ins true c fs) => if L.contains c ∧ fs.length < 1000 then some (.nx, env1.set i (some (.ins true c (putD f m fs)))) else none
    | _ => none
  | some (.ex c m, env1) => some (.ex c m, env1)
  | none => none := Eq.trans rfl rfl
@[simp] theorem sLstF_ap (L : List Str) (i : Nat) (f : Str) (p : SV) (g : List D → D → Option (D × List D)) (env : Env) : sLstF L i f p g env = match pVar i env with
  | some (.ins true c fs) => if L.contains c then (match fs.lookup f, p env with
    | some (.lst true ms), some m => match g ms m with
      | some (x, ms') => some (.ok x, env.set i (some (.ins true c (putD f (.lst true ms') fs))))
      | none => none
    | _, _ => none) else none
  | _ => none := Eq.trans rfl rfl
@[simp] theorem sMethN_ap (c m : Str) (i : Nat) (F : SF) (ra : SA) (env : Env) : sMethN c m i F ra env = match pVar i env with
  | some (.ins _ c' fs) => if c' = c ∧ fs.lookup m = none then sCallA F (aN i ra) env else none
  | _ => none := Eq.trans rfl rfl
@[simp] theorem aVal_ap (m : D) (r : SA) (env : Env) : aVal m r env = match r env with
  | some (.ok as, env2) => some (.ok (.val m :: as), env2)
  | some (.ex c x, env2) => some (.ex c x, env2)
  | none => none := Eq.trans rfl rfl
@[simp] theorem sMethV_ap (c m : Str) (p : SV) (F : SF) (ra : SA) (env : Env) : sMethV c m p F ra env = match p env with
  | some (.ins false c' fs) => if c' = c ∧ fs.lookup m = none then sCallA F (aVal (.ins false c' fs) ra) env else none
  | _ => none := Eq.trans rfl rfl
@[simp] theorem sNoEx_ap (s : SE) (env : Env) : sNoEx s env = match s env with
  | some (.ok m, env1) => some (.ok m, env1)
  | _ => none := Eq.trans rfl rfl
@[simp] theorem sPropN_ap (c : Str) (i : Nat) (F : SF) (env : Env) : sPropN c i F env = match pVar i env with
  | some (.ins _ c' _) => if c' = c then sNoEx (sCallA F (aN i aNil)) env else none
  | _ => none := Eq.trans rfl rfl
@[simp] theorem sPropV_ap (c : Str) (p : SV) (F : SF) (env : Env) : sPropV c p F env = match p env with
  | some (.ins false c' fs) => if c' = c then sNoEx (sCallA F (aVal (.ins false c' fs) aNil)) env else none
  | _ => none := Eq.trans rfl rfl
@[simp] theorem sMake_ap (c : Str) (F : SF) (ra : SA) (env : Env) : sMake c F ra env = match ra env with
  | some (.ok as, env1) => match takeA as env1 with
    | some (ms, env2) => match F (.ins true c [] :: ms) with
      | some (.ok .non, some x :: os) => some (.ok x, backA as os env2)
      | some (.ex c m, _ :: os) => some (.ex c m, backA as os env2)
      | _ => none
    | none => none
  | some (.ex c m, env1) => some (.ex c m, env1)
  | none => none := Eq.trans rfl rfl
@[simp] theorem fzA_ap (p : SAV) (env : Env) : fzA p env = match p env with
  | some ms => if fzs ms then some ms else none
  | none => none := Eq.trans rfl rfl
@[simp] theorem iC1_ap (f : List D → Option (List D)) (s : SE) (env : Env) : iC1 f s env = match s env with
  | some (.ok m, env1) => (f [m]).map fun ms => (.ok ms, env1)
  | some (.ex c m, env1) => some (.ex c m, env1)
  | none => none := Eq.trans rfl rfl
@[simp] theorem pDG_ap (p q : SV) (env : Env) : pDG p q env = match p env, q env with
  | some m, some k => match dLook m k with
    | some (some n) => some n
    | _ => none
  | _, _ => none := Eq.trans rfl rfl
@[simp] theorem pDG2_ap (p q d : SV) (env : Env) : pDG2 p q d env = match p env, q env, d env with
  | some m, some k, some z => match dLook m k with
    | some (some n) => if fz n then some n else none
    | some none => if fz z then some z else none
    | none => none
  | _, _, _ => none := Eq.trans rfl rfl
@[simp] theorem pDIn_ap (b : Bool) (q p : SV) (env : Env) : pDIn b q p env = match p env, q env with
  | some m, some k => match dLook m k with
    | some o => some (.bl (o.isSome == b))
    | none => none
  | _, _ => none := Eq.trans rfl rfl
@[simp] theorem sPut_ap (i : Nat) (s : SE) (q : SV) (env : Env) : sPut i s q env = match s env with
  | some (.ok m, env1) => match pVar i env1, q env1 with
    | some (.dct true kvs), some k => match dPutN kvs k m with
      | some kvs' => some (.nx, env1.set i (some (.dct true kvs')))
      | none => none
    | _, _ => none
  | some (.ex c m, env1) => some (.ex c m, env1)
  | none => none := Eq.trans rfl rfl
@[simp] theorem sPutF_ap (L : List Str) (i : Nat) (f : Str) (s : SE) (q : SV) (env : Env) : sPutF L i f s q env = match s env with
  | some (.ok m, env1) => match pVar i env1, q env1 with
    | some (.ins true c fs), some k => if L.contains c then (match fs.lookup f with
      | some (.dct true kvs) => match dPutN kvs k m with
        | some kvs' => some (.nx, env1.set i (some (.ins true c (putD f (.dct true kvs') fs))))
        | none => none
      | _ => none) else none
    | _, _ => none
  | some (.ex c m, env1) => some (.ex c m, env1)
  | none => none := Eq.trans rfl rfl
@[simp] theorem pDN_ap (e0 : Env) : pDN  e0 = some (.dct true []) := Eq.trans rfl rfl
@[simp] theorem pSl_ap (p : SV) (lo hi : Option SV) (env : Env) : pSl p lo hi env = match p env, oPart lo env, oPart hi env with
  | some m, some l, some h => slD m l h
  | _, _, _ => none := Eq.trans rfl rfl
@[simp] theorem pM_ap (f : D → D → Option D) (p q : SV) (env : Env) : pM f p q env = match p env, q env with
  | some m, some n => if isSD m then f m n else none
  | _, _ => none := Eq.trans rfl rfl
@[simp] theorem vStar_ap (p : SV) (r : SAV) (env : Env) : vStar p r env = match p env, r env with
  | some m, some ms => match seqD m with
    | some ns => some (ns ++ ms)
    | none => none
  | _, _ => none := Eq.trans rfl rfl
@[simp] theorem sStar_ap (i j : Nat) (s : SE) (env : Env) : sStar i j s env = match s env with
  | some (.ok m, env1) => match m with
    | .lst _ (x :: xs) => if fz x = true ∧ fzs xs = true ∧ xs.length ≤ 100000 ∧ i < env1.length ∧ j < env1.length then some (.nx, (env1.set i (some x)).set j (some (.lst true xs))) else none
    | _ => none
  | some (.ex c m, env1) => some (.ex c m, env1)
  | none => none := Eq.trans rfl rfl
@[simp] theorem sMatch_ap (p : SV) (cs : CsS) (env : Env) : sMatch p cs env = match p env with
  | some (.str z) => csGo z env cs
  | _ => none := Eq.trans rfl rfl
@[simp] theorem pThaw_ap (p : SV) (env : Env) : pThaw p env = match p (frE env) with
  | some m => if noFz m then some m else none
  | none => none := Eq.trans rfl rfl
@[simp] theorem pCall_ap (F : SF) (pa : SAV) (env : Env) : pCall F pa env = match pa env with
  | some ms => if fzs ms then okF F ms else none
  | none => none := Eq.trans rfl rfl
@[simp] theorem pMeth_ap (c m : Str) (p : SV) (F : SF) (pa : SAV) (env : Env) : pMeth c m p F pa env = match p env, pa env with
  | some (.ins false c' fs), some ms => if c' = c ∧ fs.lookup m = none ∧ fzs ms = true then okF F (.ins false c' fs :: ms) else none
  | _, _ => none := Eq.trans rfl rfl
@[simp] theorem pProp_ap (c : Str) (p : SV) (F : SF) (env : Env) : pProp c p F env = match p env with
  | some (.ins false c' fs) => if c' = c then okF F [.ins false c' fs] else none
  | _ => none := Eq.trans rfl rfl
@[simp] theorem pLc2_ap (own vs1 : List Nat) (it : SAV) (b : Bd) (t : STu) (it1 : SAV) (b1 : Bd) (t1 : STu) (el : SV) (env : Env) : pLc2 own vs1 it b t it1 b1 t1 el env = match it env with
  | some ms => match pLc2L b t vs1 it1 b1 t1 el (wipeE own env) ms with
    | some xs => if xs.length ≤ 100000 then some (.lst true xs) else none
    | none => none
  | none => none := Eq.trans rfl rfl
@[simp] theorem pDc_ap (own : List Nat) (it : SAV) (b : Bd) (t : STu) (ke ve : SV) (env : Env) : pDc own it b t ke ve env = match it env with
  | some ms => (pDcL b t ke ve (wipeE own env) ms []).map (.dct true)
  | none => none := Eq.trans rfl rfl
@[simp] theorem iTx_ap (p : SV) (env : Env) : iTx p env = match p env with
  | some (.str z) => some (z.cps.toList.map sgn)
  | _ => none := Eq.trans rfl rfl
@[simp] theorem pChain_ap (f g : D → D → Option D) (p q r : SV) (env : Env) : pChain f g p q r env = match p env, q env with
  | some x, some y => match f x y with
    | some (.bl true) => (match r env with
      | some z => g y z
      | none => none)
    | some (.bl false) => some (.bl false)
    | _ => none
  | _, _ => none := Eq.trans rfl rfl
@[simp] theorem pCallU_ap (F : SF) (pa : SAV) (env : Env) : pCallU F pa env = match pa env with
  | some ms => okF F ms
  | none => none := Eq.trans rfl rfl
@[simp] theorem cmpD_1 (f : Int → Int → Bool) (i j : Int) : cmpD f (.int i) (.int j) = some (.bl (f i j)) := rfl
@[simp] theorem sAndV_ap (a b : SE) (env : Env) : sAndV a b env = match a env with
  | some (.ok (.bl true), e) => b e
  | some (.ok (.bl false), e) => some (.ok (.bl false), e)
  | some (.ok _, _) => none
  | some (.ex c m, e) => some (.ex c m, e)
  | none => none := by
  unfold sAndV sBind
  cases a env with
  | none => rfl
  | some p =>
    obtain ⟨r, e⟩ := p
    cases r with
    | ex c m => rfl
    | ok m =>
      cases m with
      | bl b => cases b <;> rfl
      | _ => rfl
@[simp] theorem s2_ap (f : D → D → Option D) (sa sb : SE) (env : Env) : s2 f sa sb env = match sa env with
  | some (.ok x, e) => (match sb e with
    | some (.ok y, e2) => (f x y).map fun m => (.ok m, e2)
    | some (.ex c m, e2) => some (.ex c m, e2)
    | none => none)
  | some (.ex c m, e) => some (.ex c m, e)
  | none => none := Eq.trans rfl rfl
@[simp] theorem sFrA_ap (s : SE) (env : Env) : sFrA s env = match s env with
  | some (.ok m, e) => some (.ok (fr m), e)
  | some (.ex c m, e) => some (.ex c m, e)
  | none => none := Eq.trans rfl rfl
@[simp] theorem sDisp1_ap (k : Str) (s : SE) (env : Env) : sDisp1 k s env = match s env with
  | some (.ok m, e) => some (.ok (.dct true [(.str k, m)]), e)
  | some (.ex c m, e) => some (.ex c m, e)
  | none => none := rfl
@[simp] theorem wipeE_0 (e : Env) : wipeE [] e = e := rfl
@[simp] theorem wipeE_1 (v : Nat) (r : List Nat) (e : Env) : wipeE (v :: r) e = (wipeE r e).set v none := rfl
@[simp] theorem restE_0 (e0 e : Env) : restE e0 [] e = e := rfl
@[simp] theorem restE_1 (e0 : Env) (v : Nat) (r : List Nat) (e : Env) : restE e0 (v :: r) e = match pVar v e0 with
    | some m => if fz m then (restE e0 r e).set v (some m) else restE e0 r e
    | none => restE e0 r e := rfl
@[simp] theorem takeA_0 (e : Env) : takeA [] e = some ([], e) := rfl
@[simp] theorem takeA_1 (m : D) (r : List Av) (e : Env) : takeA (.val m :: r) e = match takeA r e with
    | some (ms, env') => some (m :: ms, env')
    | none => none := rfl
@[simp] theorem takeA_2 (i : Nat) (r : List Av) (e : Env) : takeA (.lend i :: r) e = match pVar i e with
    | some m => match takeA r (if fz m then e else e.set i none) with
      | some (ms, env') => some (m :: ms, env')
      | none => none
    | none => none := rfl
@[simp] theorem lookA_0 (e : Env) : lookA [] e = some [] := rfl
@[simp] theorem lookA_1 (m : D) (r : List Av) (e : Env) : lookA (.val m :: r) e = match lookA r e with
    | some ms => some (m :: ms)
    | none => none := rfl
@[simp] theorem lookA_2 (i : Nat) (r : List Av) (e : Env) : lookA (.lend i :: r) e = match pVar i e, lookA r e with
    | some m, some ms => some (m :: ms)
    | _, _ => none := rfl
@[simp] theorem backA_0 (os : List (Option D)) (e : Env) : backA [] os e = e := rfl
@[simp] theorem backA_1 (m : D) (r : List Av) (o : Option D) (os : List (Option D)) (e : Env) : backA (.val m :: r) (o :: os) e = backA r os e := rfl
@[simp] theorem backA_2 (i : Nat) (r : List Av) (o : Option D) (os : List (Option D)) (e : Env) : backA (.lend i :: r) (o :: os) e = match e[i]? with
    | some none => backA r os (e.set i o)
    | _ => backA r os e := rfl
@[simp] theorem valsA_0 : valsA [] = some [] := rfl
@[simp] theorem valsA_1 (m : D) (r : List Av) : valsA (.val m :: r) = match valsA r with
    | some ms => some (m :: ms)
    | none => none := rfl
@[simp] theorem oPart_0 (e : Env) : oPart none e = some none := rfl
@[simp] theorem oPart_1 (p : SV) (e : Env) : oPart (some p) e = match p e with
    | some (.int i) => some (some i)
    | _ => none := rfl
@[simp] theorem fz_1 : fz .non = true := by simp only [fz]
@[simp] theorem fz_2 (b : Bool) : fz (.bl b) = true := by simp only [fz]
@[simp] theorem fz_3 (b : Int) : fz (.int b) = true := by simp only [fz]
@[simp] theorem fz_4 (b : Str) : fz (.str b) = true := by simp only [fz]
@[simp] theorem fz_5 (b : List D) : fz (.tup b) = fzs b := by simp only [fz]
@[simp] theorem fz_6 (o : Bool) (b : List D) : fz (.lst o b) = !o := by simp only [fz]
@[simp] theorem fz_7 (o : Bool) (b : List (D × D)) : fz (.dct o b) = !o := by simp only [fz]
@[simp] theorem fz_8 (o : Bool) (c : Str) (b : List (Str × D)) : fz (.ins o c b) = !o := by simp only [fz]
@[simp] theorem fz_9 (b : List D) : fz (.klst b) = true := by simp only [fz]
@[simp] theorem fzs_0 : fzs [] = true := by simp only [fzs]
@[simp] theorem fzs_1 (m : D) (b : List D) : fzs (m :: b) = (fz m && fzs b) := by simp only [fzs]
@[simp] theorem fr_1 : fr .non = .non := by simp only [fr]
@[simp] theorem fr_2 (b : Bool) : fr (.bl b) = .bl b := by simp only [fr]
@[simp] theorem fr_3 (b : Int) : fr (.int b) = .int b := by simp only [fr]
@[simp] theorem fr_4 (b : Str) : fr (.str b) = .str b := by simp only [fr]
@[simp] theorem fr_5 (b : List D) : fr (.tup b) = .tup (frs b) := by simp only [fr]
@[simp] theorem fr_6 (o : Bool) (b : List D) : fr (.lst o b) = .lst false (frs b) := by simp only [fr]
@[simp] theorem fr_7 (o : Bool) (b : List (D × D)) : fr (.dct o b) = .dct false (frk b) := by simp only [fr]
@[simp] theorem fr_8 (o : Bool) (c : Str) (b : List (Str × D)) : fr (.ins o c b) = .ins false c (frf b) := by simp only [fr]
@[simp] theorem fr_9 (b : List D) : fr (.klst b) = .klst b := by simp only [fr]
@[simp] theorem frs_0 : frs [] = [] := by simp only [frs]
@[simp] theorem frs_1 (m : D) (b : List D) : frs (m :: b) = fr m :: frs b := by simp only [frs]
@[simp] theorem frk_0 : frk [] = [] := by simp only [frk]
@[simp] theorem frk_1 (k m : D) (b : List (D × D)) : frk ((k, m) :: b) = (k, fr m) :: frk b := by simp only [frk]
@[simp] theorem frf_0 : frf [] = [] := by simp only [frf]
@[simp] theorem frf_1 (k : Str) (m : D) (b : List (Str × D)) : frf ((k, m) :: b) = (k, fr m) :: frf b := by simp only [frf]
@[simp] theorem frE_0 : frE [] = [] := rfl
@[simp] theorem frE_1 (r : Env) : frE (none :: r) = none :: frE r := rfl
@[simp] theorem frE_2 (m : D) (r : Env) : frE (some m :: r) = some (fr m) :: frE r := rfl
@[simp] theorem noFz_1 : noFz .non = true := by simp only [noFz]
@[simp] theorem noFz_2 (b : Bool) : noFz (.bl b) = true := by simp only [noFz]
@[simp] theorem noFz_3 (b : Int) : noFz (.int b) = true := by simp only [noFz]
@[simp] theorem noFz_4 (b : Str) : noFz (.str b) = true := by simp only [noFz]
@[simp] theorem noFz_5 (b : List D) : noFz (.tup b) = noFzs b := by simp only [noFz]
@[simp] theorem noFz_6 (o : Bool) (b : List D) : noFz (.lst o b) = (o && noFzs b) := by simp only [noFz]
@[simp] theorem noFz_7 (o : Bool) (b : List (D × D)) : noFz (.dct o b) = (o && noFzk b) := by simp only [noFz]
@[simp] theorem noFz_8 (o : Bool) (c : Str) (b : List (Str × D)) : noFz (.ins o c b) = (o && noFzf b) := by simp only [noFz]
@[simp] theorem noFzs_0 : noFzs [] = true := by simp only [noFzs]
@[simp] theorem noFzs_1 (m : D) (b : List D) : noFzs (m :: b) = (noFz m && noFzs b) := by simp only [noFzs]
@[simp] theorem isL_1 (o : Bool) (b : List D) : isL (.lst o b) = true := rfl
@[simp] theorem isSD_1 (b : Str) : isSD (.str b) = true := rfl
@[simp] theorem seqD_1 (o : Bool) (b : List D) : seqD (.lst o b) = if fzs b then some b else none := rfl
@[simp] theorem seqD_2 (b : List D) : seqD (.tup b) = if fzs b then some b else none := rfl
@[simp] theorem lenD_1 (o : Bool) (b : List D) : lenD [.lst o b] = some (.int b.length) := rfl
@[simp] theorem lenD_2 (b : List D) : lenD [.tup b] = some (.int b.length) := rfl
@[simp] theorem lenD_3 (b : List D) : lenD [.klst b] = some (.int b.length) := rfl
@[simp] theorem lenD_4 (s : Str) : lenD [.str s] = if s.length ≤ sizeLine then some (.int s.length) else none := rfl
@[simp] theorem intD_1 (b : Int) : intD [.int b] = some (.int b) := rfl
@[simp] theorem intD_2 (b : Bool) : intD [.bl b] = some (.int (if b then 1 else 0)) := rfl
@[simp] theorem tupleD_1 (o : Bool) (b : List D) : tupleD [.lst o b] = if fzs b then some (.tup b) else none := rfl
@[simp] theorem tupleD_2 (b : List D) : tupleD [.tup b] = if fzs b then some (.tup b) else none := rfl
@[simp] theorem listD_1 (o : Bool) (b : List D) : listD [.lst o b] = if fzs b then some (.lst true b) else none := rfl
@[simp] theorem listD_2 (b : List D) : listD [.tup b] = if fzs b then some (.lst true b) else none := rfl
@[simp] theorem absD_1 (i : Int) : absD [.int i] = some (.int (if i < 0 then -i else i)) := rfl
@[simp] theorem max2D_1 (i j : Int) : max2D [.int i, .int j] = some (.int (if j > i then j else i)) := rfl
@[simp] theorem min2D_1 (i j : Int) : min2D [.int i, .int j] = some (.int (if j < i then j else i)) := rfl
@[simp] theorem addD_1 (i j : Int) : addD (.int i) (.int j) = some (.int (i + j)) := rfl
@[simp] theorem addD_2 (a b : Str) : addD (.str a) (.str b) = if a.length + b.length ≤ sizeLine then some (.str (a ++ b)) else none := rfl
@[simp] theorem addD_3 (o p : Bool) (ms ns : List D) : addD (.lst o ms) (.lst p ns) = if ms.length + ns.length ≤ sizeLine then (if fzs ms && fzs ns then some (.lst true (ms ++ ns)) else none) else none := rfl
@[simp] theorem addD_4 (ms ns : List D) : addD (.tup ms) (.tup ns) = if ms.length + ns.length ≤ sizeLine then (if fzs ms && fzs ns then some (.tup (ms ++ ns)) else none) else none := rfl
@[simp] theorem subD_1 (i j : Int) : subD (.int i) (.int j) = some (.int (i - j)) := rfl
@[simp] theorem okF_ap (F : SF) (ms : List D) : okF F ms = match F ms with
    | some (.ok m, _) => some m
    | _ => none := Eq.trans rfl rfl
@[simp] theorem putD_0 (f : Str) (m : D) : putD f m [] = [(f, m)] := rfl
@[simp] theorem putD_1 (f : Str) (m : D) (g : Str) (x : D) (r : List (Str × D)) : putD f m ((g, x) :: r) = if g = f then (g, m) :: r else (g, x) :: putD f m r := rfl
@[simp] theorem lk_0 {α : Type} (f : Str) : List.lookup f ([] : List (Str × α)) = none := rfl
@[simp] theorem lk_1 {α : Type} (f g : Str) (x : α) (r : List (Str × α)) : List.lookup f ((g, x) :: r) = if f = g then some x else List.lookup f r := by
  rw [List.lookup_cons]
  by_cases h : f = g
  · subst h; simp
  · rw [if_neg h, beq_eq_false_iff_ne.mpr h]
@[simp] theorem atI_0 {α : Type} (a : α) (r : List α) : atI (a :: r) 0 = some a := atI_nat (j := 0) rfl
@[simp] theorem atI_1 {α : Type} (a b : α) (r : List α) : atI (a :: b :: r) 1 = some b := atI_nat (j := 1) rfl
@[simp] theorem atI_2 {α : Type} (a b c : α) (r : List α) : atI (a :: b :: c :: r) 2 = some c := atI_nat (j := 2) rfl
@[simp] theorem ixD_1 (o : Bool) (ms : List D) (i : Int) : ixD (.lst o ms) (.int i) = match atI ms i with
    | some m => if fzs ms then some m else none
    | none => none := rfl
@[simp] theorem ixD_2 (ms : List D) (i : Int) : ixD (.tup ms) (.int i) = match atI ms i with
    | some m => if fzs ms then some m else none
    | none => none := rfl
@[simp] theorem ixD_3 (ms : List D) (i : Int) : ixD (.klst ms) (.int i) = match atI ms i with
    | some m => if fzs ms then some m else none
    | none => none := rfl
@[simp] theorem ofS_inj {a b : String} : Str.ofString a = Str.ofString b ↔ a = b := by
  constructor
  · intro h
    rw [Str.ofString_eq_toList, Str.ofString_eq_toList] at h
    have h1 : a.toList.map Char.toNat = b.toList.map Char.toNat := by
      have := congrArg (fun x : Str => x.cps.toList) h
      simpa using this
    have h2 : a.toList = b.toList := List.map_inj_right (fun x y e => Char.ext (UInt32.toNat_inj.mp e)) |>.mp h1
    exact String.toList_inj.mp h2
  · rintro rfl; rfl
theorem szl : sizeLine = 16777216 := by decide +kernel
@[simp] theorem truD_1 (b : Bool) : truD (.bl b) = some b := rfl
@[simp] theorem truD_2 : truD .non = some false := rfl
@[simp] theorem truD_3 (o : Bool) (ms : List D) : truD (.lst o ms) = some (!ms.isEmpty) := rfl
@[simp] theorem truD_4 (ms : List D) : truD (.tup ms) = some (!ms.isEmpty) := rfl
@[simp] theorem isD_1 (m : D) : isD m .non = some (.bl (isNon m)) := rfl
@[simp] theorem isNotD_1 (m : D) : isNotD m .non = some (.bl (!isNon m)) := rfl
@[simp] theorem isNon_1 : isNon .non = true := rfl
@[simp] theorem isNon_2 (ms : List D) : isNon (.tup ms) = false := rfl
@[simp] theorem isNon_3 (x : Str) : isNon (.str x) = false := rfl
@[simp] theorem isNon_4 (o : Option Str) : isNon (optD o) = o.isNone := by cases o <;> rfl
@[simp] theorem slD_1 (o : Bool) (ms : List D) (lo hi : Option Int) : slD (.lst o ms) lo hi = if fzs ms then some (.lst true (cutD ms lo hi)) else none := rfl
@[simp] theorem slD_2 (ms : List D) (lo hi : Option Int) : slD (.tup ms) lo hi = if fzs ms then some (.tup (cutD ms lo hi)) else none := rfl
@[simp] theorem strsD_0 : strsD [] = [] := rfl
@[simp] theorem strsD_1 (x : Str) (l : List Str) : strsD (x :: l) = .str x :: strsD l := rfl
@[simp] theorem strsD_snoc (l : List Str) (x : Str) : strsD (l ++ [x]) = strsD l ++ [.str x] := by simp [strsD]
theorem fzs_map {α : Type} {f : α → D} (l : List α) (h : ∀ x, fz (f x) = true) : fzs (l.map f) = true := by
  induction l with
  | nil => rfl
  | cons x l ih => rw [List.map_cons]; unfold fzs; rw [h x, ih]; rfl
theorem noFzs_map {α : Type} {f : α → D} (l : List α) (h : ∀ x, noFz (f x) = true) : noFzs (l.map f) = true := by
  induction l with
  | nil => rfl
  | cons x l ih => rw [List.map_cons]; unfold noFzs; rw [h x, ih]; rfl
theorem frs_map {α : Type} {f : α → D} (l : List α) (h : ∀ x, fr (f x) = f x) : frs (l.map f) = l.map f := by
  induction l with
  | nil => rfl
  | cons x l ih => rw [List.map_cons]; unfold frs; rw [h x, ih]
@[simp] theorem fz_opt (o : Option Str) : fz (optD o) = true := by cases o <;> rfl
@[simp] theorem noFz_opt (o : Option Str) : noFz (optD o) = true := by cases o <;> rfl
@[simp] theorem fr_opt (o : Option Str) : fr (optD o) = optD o := by cases o <;> rfl
@[simp] theorem fzs_strs (l : List Str) : fzs (strsD l) = true := fzs_map l fun _ => rfl
@[simp] theorem noFzs_strs (l : List Str) : noFzs (strsD l) = true := noFzs_map l fun _ => rfl
@[simp] theorem frs_strs (l : List Str) : frs (strsD l) = strsD l := frs_map l fun _ => by simp
@[simp] theorem len_strs (l : List Str) : (strsD l).length = l.length := List.length_map _
@[simp] theorem fz_kind (k : Str × Str) : fz (kindD k) = true := rfl
@[simp] theorem noFz_kind (k : Str × Str) : noFz (kindD k) = true := rfl
@[simp] theorem fr_kind (k : Str × Str) : fr (kindD k) = kindD k := by simp [kindD]
@[simp] theorem fz_plate (k : Plate) : fz (plateD k) = true := by simp [plateD]
@[simp] theorem noFz_plate (k : Plate) : noFz (plateD k) = true := by simp [plateD]
@[simp] theorem fr_plate (k : Plate) : fr (plateD k) = plateD k := by simp [plateD]
@[simp] theorem fz_gate (k : Gate) : fz (gateD k) = true := by simp [gateD]
@[simp] theorem noFz_gate (k : Gate) : noFz (gateD k) = true := by simp [gateD]
@[simp] theorem fr_gate (k : Gate) : fr (gateD k) = gateD k := by simp [gateD]
@[simp] theorem fzs_kinds (l : List (Str × Str)) : fzs (l.map kindD) = true := fzs_map l fz_kind
@[simp] theorem frs_kinds (l : List (Str × Str)) : frs (l.map kindD) = l.map kindD := frs_map l fr_kind
@[simp] theorem noFzs_kinds (l : List (Str × Str)) : noFzs (l.map kindD) = true := noFzs_map l noFz_kind
@[simp] theorem fzs_plates (l : List Plate) : fzs (l.map plateD) = true := fzs_map l fz_plate
@[simp] theorem frs_plates (l : List Plate) : frs (l.map plateD) = l.map plateD := frs_map l fr_plate
@[simp] theorem noFzs_plates (l : List Plate) : noFzs (l.map plateD) = true := noFzs_map l noFz_plate
@[simp] theorem fzs_gates (l : List Gate) : fzs (l.map gateD) = true := fzs_map l fz_gate
@[simp] theorem frs_gates (l : List Gate) : frs (l.map gateD) = l.map gateD := frs_map l fr_gate
@[simp] theorem noFzs_gates (l : List Gate) : noFzs (l.map gateD) = true := noFzs_map l noFz_gate
theorem loopS_inv {b : Bd} {body : SS} (I : Nat → Env → Prop) (ms : List D) (h : ∀ k m env, ms[k]? = some m → I k env → ∃ e1 e2, b m env = some e1 ∧ body e1 = some (.nx, e2) ∧ I (k + 1) e2) :
    ∀ env, I 0 env → ∃ env', loopS b body ms env = some (.nx, env') ∧ I ms.length env' := by
  suffices z : ∀ (r : List D) (k : Nat) (env : Env), (∀ j, r[j]? = ms[k + j]?) → k + r.length = ms.length → I k env → ∃ env', loopS b body r env = some (.nx, env') ∧ I ms.length env' from
    fun env i => z ms 0 env (fun j => by rw [Nat.zero_add]) (Nat.zero_add _) i
  intro r
  induction r with
  | nil =>
    intro k env _ hl i
    rw [List.length_nil, Nat.add_zero] at hl
    exact ⟨env, rfl, hl ▸ i⟩
  | cons m r ih =>
    intro k env hj hl i
    obtain ⟨e1, e2, h1, h2, i2⟩ := h k m env (by have := hj 0; rw [Nat.add_zero] at this; rw [← this]; rfl) i
    obtain ⟨e3, h3, i3⟩ := ih (k + 1) e2 (fun j => by have := hj (j + 1); rw [show k + 1 + j = k + (j + 1) by omega, ← this]; rfl) (by rw [List.length_cons] at hl; omega) i2
    refine ⟨e3, ?_, i3⟩
    rw [loopS, h1]
    show (match body e1 with
      | some (.nx, env2) => loopS b body r env2
      | some (.ct, env2) => loopS b body r env2
      | some (.bk, env2) => some (.nx, env2)
      | some (.rt m, env2) => some (.rt m, env2)
      | some (.ex c m, env2) => some (.ex c m, env2)
      | none => none) = _
    rw [h2]
    exact h3
def LRun (b : Bd) (body : SS) : List D → Env → Env → Prop
  | [], e, e' => e = e'
  | m :: r, e, e' => ∃ e1 e2, b m e = some e1 ∧ body e1 = some (.nx, e2) ∧ LRun b body r e2 e'
theorem LRun.app {b : Bd} {body : SS} : ∀ {xs ys : List D} {e e1 e2 : Env}, LRun b body xs e e1 → LRun b body ys e1 e2 → LRun b body (xs ++ ys) e e2
  | [], _, _, _, _, h, k => by cases h; exact k
  | _ :: _, _, _, _, _, ⟨a, c, h1, h2, h3⟩, k => ⟨a, c, h1, h2, h3.app k⟩
theorem lcLoop_inv {own : List Nat} {b : Bd} {t : STe} {el : SE} (I : Nat → List D → Env → Prop) (ms : List D)
    (h : ∀ k m acc env, ms[k]? = some m → I k acc env → ∃ e1 e2 x e3, b m env = some e1 ∧ t e1 = some (.ok true, e2) ∧ el e2 = some (.ok x, e3) ∧ I (k + 1) (acc ++ [x]) (wipeE own e3)) :
    ∀ acc env, I 0 acc env → ∃ acc' env', lcLoop own b t el ms acc env = some (acc', env') ∧ I ms.length acc' env' := by
  suffices z : ∀ (r : List D) (k : Nat) (acc : List D) (env : Env), (∀ j, r[j]? = ms[k + j]?) → k + r.length = ms.length → I k acc env → ∃ acc' env', lcLoop own b t el r acc env = some (acc', env') ∧ I ms.length acc' env' from
    fun acc env i => z ms 0 acc env (fun j => by rw [Nat.zero_add]) (Nat.zero_add _) i
  intro r
  induction r with
  | nil =>
    intro k acc env _ hl i
    rw [List.length_nil, Nat.add_zero] at hl
    exact ⟨acc, env, rfl, hl ▸ i⟩
  | cons m r ih =>
    intro k acc env hj hl i
    obtain ⟨e1, e2, x, e3, h1, h2, h3, i2⟩ := h k m acc env (by have := hj 0; rw [Nat.add_zero] at this; rw [← this]; rfl) i
    obtain ⟨a4, e4, h4, i4⟩ := ih (k + 1) (acc ++ [x]) (wipeE own e3) (fun j => by have := hj (j + 1); rw [show k + 1 + j = k + (j + 1) by omega, ← this]; rfl) (by rw [List.length_cons] at hl; omega) i2
    refine ⟨a4, e4, ?_, i4⟩
    rw [lcLoop, h1]
    show (match t e1 with
      | some (.ok true, e2) => match el e2 with
        | some (.ok x, e3) => lcLoop own b t el r (acc ++ [x]) (wipeE own e3)
        | _ => none
      | some (.ok false, e2) => lcLoop own b t el r acc (wipeE own e2)
      | _ => none) = _
    rw [h2]
    show (match el e2 with
        | some (.ok x, e3) => lcLoop own b t el r (acc ++ [x]) (wipeE own e3)
        | _ => none) = _
    rw [h3]
    exact h4
theorem pLcL_map {α : Type} {b : Bd} {t : STu} {el : SV} {env : Env} {f : α → D} {g : α → D} : ∀ {l : List α}, (∀ x ∈ l, ∃ e1, b (f x) env = some e1 ∧ t e1 = some true ∧ el e1 = some (g x)) → pLcL b t el env (l.map f) = some (l.map g)
  | [], _ => rfl
  | x :: l, h => by
    obtain ⟨e1, h1, h2, h3⟩ := h x (List.mem_cons_self ..)
    have ih := pLcL_map (b := b) (t := t) (el := el) (env := env) (f := f) (g := g) (l := l) fun y hy => h y (List.mem_cons_of_mem _ hy)
    rw [List.map_cons, pLcL, h1]
    simp [h2, h3, ih]
@[simp] theorem outs1 (a : Option D) (r : Env) : outsF (kpL [0]) 0 1 (a :: r) = [a] := rfl
@[simp] theorem outs2 (a b : Option D) (r : Env) : outsF (kpL [0, 1]) 0 2 (a :: b :: r) = [a, b] := rfl
@[simp] theorem outs2a (a b : Option D) (r : Env) : outsF (kpL [0]) 0 2 (a :: b :: r) = [a, none] := rfl
@[simp] theorem outs3 (a b c : Option D) (r : Env) : outsF (kpL [0, 1, 2]) 0 3 (a :: b :: c :: r) = [a, b, c] := rfl
@[simp] theorem outs4 (a b c d : Option D) (r : Env) : outsF (kpL [0, 1, 2, 3]) 0 4 (a :: b :: c :: d :: r) = [a, b, c, d] := rfl
@[simp] theorem outs5 (a b c d e : Option D) (r : Env) : outsF (kpL [0, 1, 2, 3, 4]) 0 5 (a :: b :: c :: d :: e :: r) = [a, b, c, d, e] := rfl
end T
set_option Elab.async false
set_option linter.all false
set_option maxRecDepth 100000
set_option maxHeartbeats 4000000
namespace Q
open PySem PySem.Spec PyProof.Rows L2 T
def b_pot : SS :=
  (sSeq (sSet 2 (sU (pIf (qB (p2 (cmpD fun i j => decide (i < j)) (pVar 1) (pC lenD (vCons (pVar 0) vNil)))) (p2 ixD (pVar 0) (pVar 1)) (p2 addD (p2 mulD (pK (.int 67)) (pVar 1)) (pK (.int 31))))))
    (sSeq (sSet 3 (sU (p2 mulD (p2 modD (pC intD (vCons (pC absD (vCons (pVar 2) vNil)) vNil)) (p2 powD (p2 powD (pK (.int 10)) (pK (.int 60))) (pK (.int 5)))) (pC intD (vCons (p2 (cmpD fun i j => decide (j ≤ i)) (pC absD (vCons (pVar 2) vNil)) (p2 powD (pK (.int 10)) (pK (.int 18)))) vNil)))))
    (sSeq (sSet 4 (sU (p2 modD (pC intD (vCons (pVar 2) vNil)) (pK (.int 2305843009213693951)))))
    (sRet (sU (pLst (vCons (pFz (pVar 3)) (vCons (p2 modD (pC intD (vCons (p2 addD (p2 addD (p2 mulD (pVar 4) (pK (.int 74507))) (p2 mulD (p2 mulD (pK (.int 8011)) (pVar 1)) (pVar 1))) (pK (.int 97))) vNil)) (pK (.int 2305843009213693921))) (vCons (pK (.int 0)) vNil)))))))))
def F_pot : SF := fnS 5 2 (kpL [0, 1]) b_pot
def b_take : SS :=
  (sSeq (sIf (qU (qB (p2 (cmpD fun i j => decide (j < i)) (p2 ixD (pVar 0) (pK (.int 0))) (pK (.int 0))))) (sSeq (sSet 2 (sU (p2 modD (pC intD (vCons (p2 ixD (pVar 0) (pK (.int 0))) vNil)) (pVar 1))))
    (sSeq (sSetIx 0 (sU (p2 divD (p2 ixD (pVar 0) (pK (.int 0))) (pVar 1))) (pK (.int 0)))
    (sRet (sMove 2)))) sPass)
    (sSeq (sSetIx 0 (sU (p2 addD (p2 ixD (pVar 0) (pK (.int 2))) (pK (.int 1)))) (pK (.int 2)))
    (sSeq (sSet 3 (sU (p2 ixD (pLst (vCons (pK (.int 2147483647)) (vCons (pK (.int 2147483629)) (vCons (pK (.int 2147483587)) (vCons (pK (.int 2147483579)) (vCons (pK (.int 2147483563)) vNil)))))) (p2 modD (pC intD (vCons (p2 ixD (pVar 0) (pK (.int 2))) vNil)) (pK (.int 5))))))
    (sSeq (sSet 4 (sU (p2 modD (pC intD (vCons (p2 powD (pC intD (vCons (p2 addD (p2 addD (p2 ixD (pVar 0) (pK (.int 1))) (p2 mulD (p2 mulD (pK (.int 90017)) (p2 ixD (pVar 0) (pK (.int 2)))) (p2 ixD (pVar 0) (pK (.int 2))))) (pK (.int 61))) vNil)) (pK (.int 3))) vNil)) (pVar 3))))
    (sRet (sU (p2 modD (pC intD (vCons (p2 divD (p2 mulD (pVar 4) (p2 addD (p2 modD (pC intD (vCons (pVar 4) vNil)) (pK (.int 10007))) (p2 mulD (pK (.int 97)) (p2 ixD (pVar 0) (pK (.int 2)))))) (pK (.int 127))) vNil)) (pVar 1))))))))
def F_take : SF := fnS 5 2 (kpL [0, 1]) b_take
def b_of : SS :=
  (sRet (s2N ixD 1 (sCallA F_take (aN 0 (aE (sU (pC lenD (vCons (pVar 1) vNil))) aNil)))))
def F_of : SF := fnS 2 2 (kpL [0, 1]) b_of
def b_odd : SS :=
  (sSeq (sSet 1 (sU (pLst (vCons (pK .non) (vCons (pK (.bl true)) (vCons (pK (.bl false)) (vCons (pK (.int 0)) (vCons (pK (.int 1)) (vCons (p1 negD (pK (.int 1))) (vCons (p2 powD (pK (.int 10)) (pK (.int 8))) (vCons (pK (.str "")) (vCons (pK (.str "a")) (vCons (pK (.str "never")) (vCons (pK (.str "can")) (vCons (pTup vNil) (vCons (pFrz (pLst vNil)) (vCons (pFrz pDN) (vCons (pTup (vCons (pK (.int 0)) vNil)) (vCons (pTup (vCons (pTup vNil) vNil)) (vCons (pFrz (pLst (vCons (pK (.int 0)) vNil))) (vCons (pTup (vCons (pK (.str "never")) vNil)) vNil)))))))))))))))))))))
    (sRet (sCallA F_of (aN 0 (aE (sU (p2 addD (pVar 1) (pLst (vCons (pTup (vCons (pK (.int 1)) (vCons (pK (.int 0)) vNil))) (vCons (pTup (vCons (pK (.str "a")) (vCons (pK (.str "b")) vNil))) (vCons (pTup (vCons (pK (.str "never")) (vCons (pTup vNil) vNil))) (vCons (pTup (vCons (pK (.str "within")) (vCons (pTup vNil) vNil))) (vCons (pTup (vCons (pK (.bl true)) (vCons (pK (.int 0)) vNil))) (vCons (pTup (vCons (pTup (vCons (pK (.int 0)) (vCons (pK (.int 1)) vNil))) (vCons (pTup vNil) vNil))) vNil))))))))) aNil)))))
def F_odd : SF := fnS 2 1 (kpL [0]) b_odd
def b_cells : SS :=
  (sRet (sU (p1 lstRg (pC max2D (vCons (pK (.int 1)) (vCons (pC min2D (vCons (pVar 1) (vCons (pC lenD (vCons (pVar 0) vNil)) vNil))) vNil))))))
def F_cells : SF := fnS 2 2 (kpL [0, 1]) b_cells
def b_errors : SS :=
  (sSeq (sSet 1 (sU (pLst (vCons (p1 (mkX "BadLevel") (pVar 0)) (vCons (p1 (mkX "BadNumbers") (pVar 0)) (vCons (p1 (mkX "NoPlace") (pVar 0)) (vCons (p1 (mkX "OtherLevel") (pVar 0)) (vCons (p1 (mkX "BadCrowd") (pVar 0)) vNil))))))))
    (sSeq (sDrop (sLstM 1 (sU (pLst (vCons (p1 (mkX "BadStep") (pVar 0)) (vCons (p1 (mkX "Shut") (pVar 0)) (vCons (p1 (mkX "BadSteps") (pVar 0)) (vCons (p1 (mkX "TooMany") (pVar 0)) (vCons (p1 (mkX "BadWish") (pVar 0)) vNil))))))) fExtend))
    (sSeq (sDrop (sLstM 1 (sU (pLst (vCons (p1 (mkX "NoKind") (pVar 0)) (vCons (p1 (mkX "NoRoom") (pVar 0)) (vCons (p1 (mkX "Unlike") (pVar 0)) (vCons (p1 (mkX "BadOffers") (pVar 0)) (vCons (p1 (mkX "BadHopes") (pVar 0)) vNil))))))) fExtend))
    (sSeq (sDrop (sLstM 1 (sU (pLst (vCons (p1 (mkX "BadName") (pVar 0)) (vCons (p1 (mkX "NoPlayer") (pVar 0)) (vCons (p1 (mkX "Taken") (pVar 0)) (vCons (p1 (mkX "Full") (pVar 0)) (vCons (p1 (mkX "NoGate") (pVar 0)) vNil))))))) fExtend))
    (sSeq (sDrop (sLstM 1 (sU (pLst (vCons (p1 (mkX "NotThere") (pVar 0)) (vCons (p1 (mkX "NothingToUndo") (pVar 0)) (vCons (p1 (mkX "NothingToRedo") (pVar 0)) (vCons (p1 (mkX "NoTrial") (pVar 0)) (vCons (p1 (mkX "BadJournal") (pVar 0)) vNil))))))) fExtend))
    (sSeq (sDrop (sLstM 1 (sU (pLst (vCons (p1 (mkX "BadLine") (pVar 0)) vNil))) fExtend))
    (sRet (sMove 1))))))))
def F_errors : SF := fnS 2 1 (kpL [0]) b_errors
def b_marks : SS :=
  (sSeq (sSet 1 (sU (pLst (vCons (p1 (isXD [("PlateError", false), ("BadLevel", true), ("BadNumbers", false), ("NoPlace", false), ("OtherLevel", false), ("BadCrowd", false), ("BadStep", false), ("Shut", false), ("BadSteps", false), ("TooMany", false), ("BadWish", false), ("NoKind", false), ("NoRoom", false), ("Unlike", false), ("BadOffers", false), ("BadHopes", false), ("BadName", false), ("NoPlayer", false), ("Taken", false), ("Full", false), ("NoGate", false), ("NotThere", false), ("NothingToUndo", false), ("NothingToRedo", false), ("NoTrial", false), ("BadJournal", false), ("BadLine", false)]) (pVar 0)) (vCons (p1 (isXD [("PlateError", false), ("BadLevel", false), ("BadNumbers", true), ("NoPlace", false), ("OtherLevel", false), ("BadCrowd", false), ("BadStep", false), ("Shut", false), ("BadSteps", false), ("TooMany", false), ("BadWish", false), ("NoKind", false), ("NoRoom", false), ("Unlike", false), ("BadOffers", false), ("BadHopes", false), ("BadName", false), ("NoPlayer", false), ("Taken", false), ("Full", false), ("NoGate", false), ("NotThere", false), ("NothingToUndo", false), ("NothingToRedo", false), ("NoTrial", false), ("BadJournal", false), ("BadLine", false)]) (pVar 0)) (vCons (p1 (isXD [("PlateError", false), ("BadLevel", false), ("BadNumbers", false), ("NoPlace", true), ("OtherLevel", false), ("BadCrowd", false), ("BadStep", false), ("Shut", false), ("BadSteps", false), ("TooMany", false), ("BadWish", false), ("NoKind", false), ("NoRoom", false), ("Unlike", false), ("BadOffers", false), ("BadHopes", false), ("BadName", false), ("NoPlayer", false), ("Taken", false), ("Full", false), ("NoGate", false), ("NotThere", false), ("NothingToUndo", false), ("NothingToRedo", false), ("NoTrial", false), ("BadJournal", false), ("BadLine", false)]) (pVar 0)) vNil))))))
    (sSeq (sDrop (sLstM 1 (sU (pLst (vCons (p1 (isXD [("PlateError", false), ("BadLevel", false), ("BadNumbers", false), ("NoPlace", false), ("OtherLevel", true), ("BadCrowd", false), ("BadStep", false), ("Shut", false), ("BadSteps", false), ("TooMany", false), ("BadWish", false), ("NoKind", false), ("NoRoom", false), ("Unlike", false), ("BadOffers", false), ("BadHopes", false), ("BadName", false), ("NoPlayer", false), ("Taken", false), ("Full", false), ("NoGate", false), ("NotThere", false), ("NothingToUndo", false), ("NothingToRedo", false), ("NoTrial", false), ("BadJournal", false), ("BadLine", false)]) (pVar 0)) (vCons (p1 (isXD [("PlateError", false), ("BadLevel", false), ("BadNumbers", false), ("NoPlace", false), ("OtherLevel", false), ("BadCrowd", true), ("BadStep", false), ("Shut", false), ("BadSteps", false), ("TooMany", false), ("BadWish", false), ("NoKind", false), ("NoRoom", false), ("Unlike", false), ("BadOffers", false), ("BadHopes", false), ("BadName", false), ("NoPlayer", false), ("Taken", false), ("Full", false), ("NoGate", false), ("NotThere", false), ("NothingToUndo", false), ("NothingToRedo", false), ("NoTrial", false), ("BadJournal", false), ("BadLine", false)]) (pVar 0)) (vCons (p1 (isXD [("PlateError", false), ("BadLevel", false), ("BadNumbers", false), ("NoPlace", false), ("OtherLevel", false), ("BadCrowd", false), ("BadStep", true), ("Shut", false), ("BadSteps", false), ("TooMany", false), ("BadWish", false), ("NoKind", false), ("NoRoom", false), ("Unlike", false), ("BadOffers", false), ("BadHopes", false), ("BadName", false), ("NoPlayer", false), ("Taken", false), ("Full", false), ("NoGate", false), ("NotThere", false), ("NothingToUndo", false), ("NothingToRedo", false), ("NoTrial", false), ("BadJournal", false), ("BadLine", false)]) (pVar 0)) vNil))))) fExtend))
    (sSeq (sDrop (sLstM 1 (sU (pLst (vCons (p1 (isXD [("PlateError", false), ("BadLevel", false), ("BadNumbers", false), ("NoPlace", false), ("OtherLevel", false), ("BadCrowd", false), ("BadStep", false), ("Shut", true), ("BadSteps", false), ("TooMany", false), ("BadWish", false), ("NoKind", false), ("NoRoom", false), ("Unlike", false), ("BadOffers", false), ("BadHopes", false), ("BadName", false), ("NoPlayer", false), ("Taken", false), ("Full", false), ("NoGate", false), ("NotThere", false), ("NothingToUndo", false), ("NothingToRedo", false), ("NoTrial", false), ("BadJournal", false), ("BadLine", false)]) (pVar 0)) (vCons (p1 (isXD [("PlateError", false), ("BadLevel", false), ("BadNumbers", false), ("NoPlace", false), ("OtherLevel", false), ("BadCrowd", false), ("BadStep", false), ("Shut", false), ("BadSteps", true), ("TooMany", false), ("BadWish", false), ("NoKind", false), ("NoRoom", false), ("Unlike", false), ("BadOffers", false), ("BadHopes", false), ("BadName", false), ("NoPlayer", false), ("Taken", false), ("Full", false), ("NoGate", false), ("NotThere", false), ("NothingToUndo", false), ("NothingToRedo", false), ("NoTrial", false), ("BadJournal", false), ("BadLine", false)]) (pVar 0)) (vCons (p1 (isXD [("PlateError", false), ("BadLevel", false), ("BadNumbers", false), ("NoPlace", false), ("OtherLevel", false), ("BadCrowd", false), ("BadStep", false), ("Shut", false), ("BadSteps", false), ("TooMany", true), ("BadWish", false), ("NoKind", false), ("NoRoom", false), ("Unlike", false), ("BadOffers", false), ("BadHopes", false), ("BadName", false), ("NoPlayer", false), ("Taken", false), ("Full", false), ("NoGate", false), ("NotThere", false), ("NothingToUndo", false), ("NothingToRedo", false), ("NoTrial", false), ("BadJournal", false), ("BadLine", false)]) (pVar 0)) vNil))))) fExtend))
    (sSeq (sDrop (sLstM 1 (sU (pLst (vCons (p1 (isXD [("PlateError", false), ("BadLevel", false), ("BadNumbers", false), ("NoPlace", false), ("OtherLevel", false), ("BadCrowd", false), ("BadStep", false), ("Shut", false), ("BadSteps", false), ("TooMany", false), ("BadWish", true), ("NoKind", false), ("NoRoom", false), ("Unlike", false), ("BadOffers", false), ("BadHopes", false), ("BadName", false), ("NoPlayer", false), ("Taken", false), ("Full", false), ("NoGate", false), ("NotThere", false), ("NothingToUndo", false), ("NothingToRedo", false), ("NoTrial", false), ("BadJournal", false), ("BadLine", false)]) (pVar 0)) (vCons (p1 (isXD [("PlateError", false), ("BadLevel", false), ("BadNumbers", false), ("NoPlace", false), ("OtherLevel", false), ("BadCrowd", false), ("BadStep", false), ("Shut", false), ("BadSteps", false), ("TooMany", false), ("BadWish", false), ("NoKind", true), ("NoRoom", false), ("Unlike", false), ("BadOffers", false), ("BadHopes", false), ("BadName", false), ("NoPlayer", false), ("Taken", false), ("Full", false), ("NoGate", false), ("NotThere", false), ("NothingToUndo", false), ("NothingToRedo", false), ("NoTrial", false), ("BadJournal", false), ("BadLine", false)]) (pVar 0)) (vCons (p1 (isXD [("PlateError", false), ("BadLevel", false), ("BadNumbers", false), ("NoPlace", false), ("OtherLevel", false), ("BadCrowd", false), ("BadStep", false), ("Shut", false), ("BadSteps", false), ("TooMany", false), ("BadWish", false), ("NoKind", false), ("NoRoom", true), ("Unlike", false), ("BadOffers", false), ("BadHopes", false), ("BadName", false), ("NoPlayer", false), ("Taken", false), ("Full", false), ("NoGate", false), ("NotThere", false), ("NothingToUndo", false), ("NothingToRedo", false), ("NoTrial", false), ("BadJournal", false), ("BadLine", false)]) (pVar 0)) vNil))))) fExtend))
    (sSeq (sDrop (sLstM 1 (sU (pLst (vCons (p1 (isXD [("PlateError", false), ("BadLevel", false), ("BadNumbers", false), ("NoPlace", false), ("OtherLevel", false), ("BadCrowd", false), ("BadStep", false), ("Shut", false), ("BadSteps", false), ("TooMany", false), ("BadWish", false), ("NoKind", false), ("NoRoom", false), ("Unlike", true), ("BadOffers", false), ("BadHopes", false), ("BadName", false), ("NoPlayer", false), ("Taken", false), ("Full", false), ("NoGate", false), ("NotThere", false), ("NothingToUndo", false), ("NothingToRedo", false), ("NoTrial", false), ("BadJournal", false), ("BadLine", false)]) (pVar 0)) (vCons (p1 (isXD [("PlateError", false), ("BadLevel", false), ("BadNumbers", false), ("NoPlace", false), ("OtherLevel", false), ("BadCrowd", false), ("BadStep", false), ("Shut", false), ("BadSteps", false), ("TooMany", false), ("BadWish", false), ("NoKind", false), ("NoRoom", false), ("Unlike", false), ("BadOffers", true), ("BadHopes", false), ("BadName", false), ("NoPlayer", false), ("Taken", false), ("Full", false), ("NoGate", false), ("NotThere", false), ("NothingToUndo", false), ("NothingToRedo", false), ("NoTrial", false), ("BadJournal", false), ("BadLine", false)]) (pVar 0)) (vCons (p1 (isXD [("PlateError", false), ("BadLevel", false), ("BadNumbers", false), ("NoPlace", false), ("OtherLevel", false), ("BadCrowd", false), ("BadStep", false), ("Shut", false), ("BadSteps", false), ("TooMany", false), ("BadWish", false), ("NoKind", false), ("NoRoom", false), ("Unlike", false), ("BadOffers", false), ("BadHopes", true), ("BadName", false), ("NoPlayer", false), ("Taken", false), ("Full", false), ("NoGate", false), ("NotThere", false), ("NothingToUndo", false), ("NothingToRedo", false), ("NoTrial", false), ("BadJournal", false), ("BadLine", false)]) (pVar 0)) vNil))))) fExtend))
    (sSeq (sDrop (sLstM 1 (sU (pLst (vCons (p1 (isXD [("PlateError", false), ("BadLevel", false), ("BadNumbers", false), ("NoPlace", false), ("OtherLevel", false), ("BadCrowd", false), ("BadStep", false), ("Shut", false), ("BadSteps", false), ("TooMany", false), ("BadWish", false), ("NoKind", false), ("NoRoom", false), ("Unlike", false), ("BadOffers", false), ("BadHopes", false), ("BadName", true), ("NoPlayer", false), ("Taken", false), ("Full", false), ("NoGate", false), ("NotThere", false), ("NothingToUndo", false), ("NothingToRedo", false), ("NoTrial", false), ("BadJournal", false), ("BadLine", false)]) (pVar 0)) (vCons (p1 (isXD [("PlateError", false), ("BadLevel", false), ("BadNumbers", false), ("NoPlace", false), ("OtherLevel", false), ("BadCrowd", false), ("BadStep", false), ("Shut", false), ("BadSteps", false), ("TooMany", false), ("BadWish", false), ("NoKind", false), ("NoRoom", false), ("Unlike", false), ("BadOffers", false), ("BadHopes", false), ("BadName", false), ("NoPlayer", true), ("Taken", false), ("Full", false), ("NoGate", false), ("NotThere", false), ("NothingToUndo", false), ("NothingToRedo", false), ("NoTrial", false), ("BadJournal", false), ("BadLine", false)]) (pVar 0)) (vCons (p1 (isXD [("PlateError", false), ("BadLevel", false), ("BadNumbers", false), ("NoPlace", false), ("OtherLevel", false), ("BadCrowd", false), ("BadStep", false), ("Shut", false), ("BadSteps", false), ("TooMany", false), ("BadWish", false), ("NoKind", false), ("NoRoom", false), ("Unlike", false), ("BadOffers", false), ("BadHopes", false), ("BadName", false), ("NoPlayer", false), ("Taken", true), ("Full", false), ("NoGate", false), ("NotThere", false), ("NothingToUndo", false), ("NothingToRedo", false), ("NoTrial", false), ("BadJournal", false), ("BadLine", false)]) (pVar 0)) vNil))))) fExtend))
    (sSeq (sDrop (sLstM 1 (sU (pLst (vCons (p1 (isXD [("PlateError", false), ("BadLevel", false), ("BadNumbers", false), ("NoPlace", false), ("OtherLevel", false), ("BadCrowd", false), ("BadStep", false), ("Shut", false), ("BadSteps", false), ("TooMany", false), ("BadWish", false), ("NoKind", false), ("NoRoom", false), ("Unlike", false), ("BadOffers", false), ("BadHopes", false), ("BadName", false), ("NoPlayer", false), ("Taken", false), ("Full", true), ("NoGate", false), ("NotThere", false), ("NothingToUndo", false), ("NothingToRedo", false), ("NoTrial", false), ("BadJournal", false), ("BadLine", false)]) (pVar 0)) (vCons (p1 (isXD [("PlateError", false), ("BadLevel", false), ("BadNumbers", false), ("NoPlace", false), ("OtherLevel", false), ("BadCrowd", false), ("BadStep", false), ("Shut", false), ("BadSteps", false), ("TooMany", false), ("BadWish", false), ("NoKind", false), ("NoRoom", false), ("Unlike", false), ("BadOffers", false), ("BadHopes", false), ("BadName", false), ("NoPlayer", false), ("Taken", false), ("Full", false), ("NoGate", true), ("NotThere", false), ("NothingToUndo", false), ("NothingToRedo", false), ("NoTrial", false), ("BadJournal", false), ("BadLine", false)]) (pVar 0)) (vCons (p1 (isXD [("PlateError", false), ("BadLevel", false), ("BadNumbers", false), ("NoPlace", false), ("OtherLevel", false), ("BadCrowd", false), ("BadStep", false), ("Shut", false), ("BadSteps", false), ("TooMany", false), ("BadWish", false), ("NoKind", false), ("NoRoom", false), ("Unlike", false), ("BadOffers", false), ("BadHopes", false), ("BadName", false), ("NoPlayer", false), ("Taken", false), ("Full", false), ("NoGate", false), ("NotThere", true), ("NothingToUndo", false), ("NothingToRedo", false), ("NoTrial", false), ("BadJournal", false), ("BadLine", false)]) (pVar 0)) vNil))))) fExtend))
    (sSeq (sDrop (sLstM 1 (sU (pLst (vCons (p1 (isXD [("PlateError", false), ("BadLevel", false), ("BadNumbers", false), ("NoPlace", false), ("OtherLevel", false), ("BadCrowd", false), ("BadStep", false), ("Shut", false), ("BadSteps", false), ("TooMany", false), ("BadWish", false), ("NoKind", false), ("NoRoom", false), ("Unlike", false), ("BadOffers", false), ("BadHopes", false), ("BadName", false), ("NoPlayer", false), ("Taken", false), ("Full", false), ("NoGate", false), ("NotThere", false), ("NothingToUndo", true), ("NothingToRedo", false), ("NoTrial", false), ("BadJournal", false), ("BadLine", false)]) (pVar 0)) (vCons (p1 (isXD [("PlateError", false), ("BadLevel", false), ("BadNumbers", false), ("NoPlace", false), ("OtherLevel", false), ("BadCrowd", false), ("BadStep", false), ("Shut", false), ("BadSteps", false), ("TooMany", false), ("BadWish", false), ("NoKind", false), ("NoRoom", false), ("Unlike", false), ("BadOffers", false), ("BadHopes", false), ("BadName", false), ("NoPlayer", false), ("Taken", false), ("Full", false), ("NoGate", false), ("NotThere", false), ("NothingToUndo", false), ("NothingToRedo", true), ("NoTrial", false), ("BadJournal", false), ("BadLine", false)]) (pVar 0)) (vCons (p1 (isXD [("PlateError", false), ("BadLevel", false), ("BadNumbers", false), ("NoPlace", false), ("OtherLevel", false), ("BadCrowd", false), ("BadStep", false), ("Shut", false), ("BadSteps", false), ("TooMany", false), ("BadWish", false), ("NoKind", false), ("NoRoom", false), ("Unlike", false), ("BadOffers", false), ("BadHopes", false), ("BadName", false), ("NoPlayer", false), ("Taken", false), ("Full", false), ("NoGate", false), ("NotThere", false), ("NothingToUndo", false), ("NothingToRedo", false), ("NoTrial", true), ("BadJournal", false), ("BadLine", false)]) (pVar 0)) vNil))))) fExtend))
    (sSeq (sDrop (sLstM 1 (sU (pLst (vCons (p1 (isXD [("PlateError", false), ("BadLevel", false), ("BadNumbers", false), ("NoPlace", false), ("OtherLevel", false), ("BadCrowd", false), ("BadStep", false), ("Shut", false), ("BadSteps", false), ("TooMany", false), ("BadWish", false), ("NoKind", false), ("NoRoom", false), ("Unlike", false), ("BadOffers", false), ("BadHopes", false), ("BadName", false), ("NoPlayer", false), ("Taken", false), ("Full", false), ("NoGate", false), ("NotThere", false), ("NothingToUndo", false), ("NothingToRedo", false), ("NoTrial", false), ("BadJournal", true), ("BadLine", false)]) (pVar 0)) (vCons (p1 (isXD [("PlateError", false), ("BadLevel", false), ("BadNumbers", false), ("NoPlace", false), ("OtherLevel", false), ("BadCrowd", false), ("BadStep", false), ("Shut", false), ("BadSteps", false), ("TooMany", false), ("BadWish", false), ("NoKind", false), ("NoRoom", false), ("Unlike", false), ("BadOffers", false), ("BadHopes", false), ("BadName", false), ("NoPlayer", false), ("Taken", false), ("Full", false), ("NoGate", false), ("NotThere", false), ("NothingToUndo", false), ("NothingToRedo", false), ("NoTrial", false), ("BadJournal", false), ("BadLine", true)]) (pVar 0)) vNil)))) fExtend))
    (sRet (sMove 1)))))))))))
def F_marks : SF := fnS 2 1 (kpL [0]) b_marks
def b_value0 : SS :=
  (sSeq (sSet 2 (sIfE (qU (qB (p2 (cmpD fun i j => decide (j < i)) (pVar 1) (pK (.int 0))))) (sCallA F_take (aN 0 (aE (sU (pK (.int 4))) aNil))) (sU (pK (.int 3)))))
    (sSeq (sIf (qU (qB (p2 eqD (pVar 2) (pK (.int 0))))) (fun _ => none) sPass)
    (sSeq (sIf (qU (qB (p2 eqD (pVar 2) (pK (.int 1))))) (fun _ => none) sPass)
    (sSeq (sIf (qU (qB (p2 eqD (pVar 2) (pK (.int 2))))) (fun _ => none) sPass)
    (sRet (sCallA F_odd (aN 0 aNil)))))))
def F_value0 : SF := fnS 4 2 (kpL [0, 1]) b_value0
def b_value1 : SS :=
  (sSeq (sSet 2 (sIfE (qU (qB (p2 (cmpD fun i j => decide (j < i)) (pVar 1) (pK (.int 0))))) (sCallA F_take (aN 0 (aE (sU (pK (.int 4))) aNil))) (sU (pK (.int 3)))))
    (sSeq (sIf (qU (qB (p2 eqD (pVar 2) (pK (.int 0))))) (sRet (sC tupleD (aE (sLc [3] (iRg rng1D (aE (sCallA F_take (aN 0 (aE (sU (pK (.int 3))) aNil))) aNil)) (bName 3) eYes (sFrA (sCallA F_value0 (aN 0 (aE (sU (p2 subD (pVar 1) (pK (.int 1)))) aNil))))) aNil))) sPass)
    (sSeq (sIf (qU (qB (p2 eqD (pVar 2) (pK (.int 1))))) (sRet (sLc [3] (iRg rng1D (aE (sCallA F_take (aN 0 (aE (sU (pK (.int 3))) aNil))) aNil)) (bName 3) eYes (sFrA (sCallA F_value0 (aN 0 (aE (sU (p2 subD (pVar 1) (pK (.int 1)))) aNil)))))) sPass)
    (sSeq (sIf (qU (qB (p2 eqD (pVar 2) (pK (.int 2))))) (sRet (sDisp1 "a" (sFrA (sFrA (sCallA F_value0 (aN 0 (aE (sU (p2 subD (pVar 1) (pK (.int 1)))) aNil))))))) sPass)
    (sRet (sCallA F_odd (aN 0 aNil)))))))
def F_value1 : SF := fnS 4 2 (kpL [0, 1]) b_value1
def b_value2 : SS :=
  (sSeq (sSet 2 (sIfE (qU (qB (p2 (cmpD fun i j => decide (j < i)) (pVar 1) (pK (.int 0))))) (sCallA F_take (aN 0 (aE (sU (pK (.int 4))) aNil))) (sU (pK (.int 3)))))
    (sSeq (sIf (qU (qB (p2 eqD (pVar 2) (pK (.int 0))))) (sRet (sC tupleD (aE (sLc [3] (iRg rng1D (aE (sCallA F_take (aN 0 (aE (sU (pK (.int 3))) aNil))) aNil)) (bName 3) eYes (sFrA (sCallA F_value1 (aN 0 (aE (sU (p2 subD (pVar 1) (pK (.int 1)))) aNil))))) aNil))) sPass)
    (sSeq (sIf (qU (qB (p2 eqD (pVar 2) (pK (.int 1))))) (sRet (sLc [3] (iRg rng1D (aE (sCallA F_take (aN 0 (aE (sU (pK (.int 3))) aNil))) aNil)) (bName 3) eYes (sFrA (sCallA F_value1 (aN 0 (aE (sU (p2 subD (pVar 1) (pK (.int 1)))) aNil)))))) sPass)
    (sSeq (sIf (qU (qB (p2 eqD (pVar 2) (pK (.int 2))))) (sRet (sDisp1 "a" (sFrA (sFrA (sCallA F_value1 (aN 0 (aE (sU (p2 subD (pVar 1) (pK (.int 1)))) aNil))))))) sPass)
    (sRet (sCallA F_odd (aN 0 aNil)))))))
def F_value2 : SF := fnS 4 2 (kpL [0, 1]) b_value2
def b_value3 : SS :=
  (sSeq (sSet 2 (sIfE (qU (qB (p2 (cmpD fun i j => decide (j < i)) (pVar 1) (pK (.int 0))))) (sCallA F_take (aN 0 (aE (sU (pK (.int 4))) aNil))) (sU (pK (.int 3)))))
    (sSeq (sIf (qU (qB (p2 eqD (pVar 2) (pK (.int 0))))) (sRet (sC tupleD (aE (sLc [3] (iRg rng1D (aE (sCallA F_take (aN 0 (aE (sU (pK (.int 3))) aNil))) aNil)) (bName 3) eYes (sFrA (sCallA F_value2 (aN 0 (aE (sU (p2 subD (pVar 1) (pK (.int 1)))) aNil))))) aNil))) sPass)
    (sSeq (sIf (qU (qB (p2 eqD (pVar 2) (pK (.int 1))))) (sRet (sLc [3] (iRg rng1D (aE (sCallA F_take (aN 0 (aE (sU (pK (.int 3))) aNil))) aNil)) (bName 3) eYes (sFrA (sCallA F_value2 (aN 0 (aE (sU (p2 subD (pVar 1) (pK (.int 1)))) aNil)))))) sPass)
    (sSeq (sIf (qU (qB (p2 eqD (pVar 2) (pK (.int 2))))) (sRet (sDisp1 "a" (sFrA (sFrA (sCallA F_value2 (aN 0 (aE (sU (p2 subD (pVar 1) (pK (.int 1)))) aNil))))))) sPass)
    (sRet (sCallA F_odd (aN 0 aNil)))))))
def F_value3 : SF := fnS 4 2 (kpL [0, 1]) b_value3
def b_fine : SS :=
  (sSeq (sFor (iU (iRgU rng1D (vCons (pK (.int 3)) vNil))) (bName 1) (sSeq (sSet 2 (sFrA (sCallA F_value3 (aN 0 (aE (sU (pK (.int 3))) aNil)))))
    (sSeq (sPar [3, 4] (aE (sCallA F_errors (aN 2 aNil)) (aE (sU (p1 (mkX "PlateError") (pVar 2))) aNil)))
    (sSeq (sFor (iC1 enumD (sFz 3)) (bTup 2 (bCons (bName 5) (bCons (bName 6) bNil))) (sSeq (sIf (qU (qOr (qNot (qT (p1 (isXD [("PlateError", true), ("BadLevel", true), ("BadNumbers", true), ("NoPlace", true), ("OtherLevel", true), ("BadCrowd", true), ("BadStep", true), ("Shut", true), ("BadSteps", true), ("TooMany", true), ("BadWish", true), ("NoKind", true), ("NoRoom", true), ("Unlike", true), ("BadOffers", true), ("BadHopes", true), ("BadName", true), ("NoPlayer", true), ("Taken", true), ("Full", true), ("NoGate", true), ("NotThere", true), ("NothingToUndo", true), ("NothingToRedo", true), ("NoTrial", true), ("BadJournal", true), ("BadLine", true)]) (pVar 6)))) (qNot (qT (p1 (isXD [("PlateError", true), ("BadLevel", true), ("BadNumbers", true), ("NoPlace", true), ("OtherLevel", true), ("BadCrowd", true), ("BadStep", true), ("Shut", true), ("BadSteps", true), ("TooMany", true), ("BadWish", true), ("NoKind", true), ("NoRoom", true), ("Unlike", true), ("BadOffers", true), ("BadHopes", true), ("BadName", true), ("NoPlayer", true), ("Taken", true), ("Full", true), ("NoGate", true), ("NotThere", true), ("NothingToUndo", true), ("NothingToRedo", true), ("NoTrial", true), ("BadJournal", true), ("BadLine", true)]) (pVar 6)))))) (sRet (sU (pK (.bl false)))) sPass)
    (sIf (eOr (qBE (s2V neD (sCallA F_marks (aN 6 aNil)) (pLc [7] (iRgU rng1D (vCons (pC lenD (vCons (pVar 3) vNil)) vNil)) (bName 7) qYes (p2 eqD (pVar 5) (pVar 7))))) (qU (qB (p2 neD (pC reprZ (vCons (pXv ["PlateError", "BadLevel", "BadNumbers", "NoPlace", "OtherLevel", "BadCrowd", "BadStep", "Shut", "BadSteps", "TooMany", "BadWish", "NoKind", "NoRoom", "Unlike", "BadOffers", "BadHopes", "BadName", "NoPlayer", "Taken", "Full", "NoGate", "NotThere", "NothingToUndo", "NothingToRedo", "NoTrial", "BadJournal", "BadLine"] (pVar 6)) vNil)) (pC reprZ (vCons (pVar 2) vNil)))))) (sRet (sU (pK (.bl false)))) sPass)))
    (sIf (eOr (qU (qB (p2 neD (pC reprZ (vCons (pXv ["PlateError", "BadLevel", "BadNumbers", "NoPlace", "OtherLevel", "BadCrowd", "BadStep", "Shut", "BadSteps", "TooMany", "BadWish", "NoKind", "NoRoom", "Unlike", "BadOffers", "BadHopes", "BadName", "NoPlayer", "Taken", "Full", "NoGate", "NotThere", "NothingToUndo", "NothingToRedo", "NoTrial", "BadJournal", "BadLine"] (pVar 4)) vNil)) (pC reprZ (vCons (pVar 2) vNil))))) (eOr (qU (qNot (qT (p1 (isXD [("PlateError", true), ("BadLevel", true), ("BadNumbers", true), ("NoPlace", true), ("OtherLevel", true), ("BadCrowd", true), ("BadStep", true), ("Shut", true), ("BadSteps", true), ("TooMany", true), ("BadWish", true), ("NoKind", true), ("NoRoom", true), ("Unlike", true), ("BadOffers", true), ("BadHopes", true), ("BadName", true), ("NoPlayer", true), ("Taken", true), ("Full", true), ("NoGate", true), ("NotThere", true), ("NothingToUndo", true), ("NothingToRedo", true), ("NoTrial", true), ("BadJournal", true), ("BadLine", true)]) (pVar 4))))) (qTE (sC anyD (aE (sCallA F_marks (aN 4 aNil)) aNil))))) (sRet (sU (pK (.bl false)))) sPass)))))
    (sRet (sU (pK (.bl true)))))
def F_fine : SF := fnS 8 1 (kpL [0]) b_fine
def b_P_law : SS :=
  (sRet (sC allD (aE (sLc [1] (iU (iP (pCall F_cells (vCons (pVar 0) (vCons (pK (.int 3)) vNil))))) (bName 1) eYes (sCallA F_fine (aE (sCallA F_pot (aN 0 (aN 1 aNil))) aNil))) aNil)))
def F_P_law : SF := fnS 2 1 (kpL [0]) b_P_law
end Q
set_option Elab.async false
set_option linter.all false
set_option maxRecDepth 100000
set_option maxHeartbeats 4000000
namespace Q
open PySem PySem.Spec PyProof.Rows L2 T
@[simp] theorem fzs_ints (l : List Int) : fzs (l.map .int) = true := fzs_map l fun _ => by simp
@[simp] theorem fz_row (l : List Int) : fz (rowD l) = true := by rw [rowD, fz_5]; exact fzs_map l fun _ => by simp
@[simp] theorem noFz_row (l : List Int) : noFz (rowD l) = true := by rw [rowD, noFz_5]; exact noFzs_map l fun _ => by simp
@[simp] theorem fr_row (l : List Int) : fr (rowD l) = rowD l := by rw [rowD, fr_5, frs_map l fun _ => by simp]
@[simp] theorem dLook_1 (o : Bool) (kvs : List (D × D)) (k : D) : dLook (.dct o kvs) k = dLk kvs k := rfl
@[simp] theorem frE_3 (x : Option D) (r : T.Env) : frE (x :: r) = x.map fr :: frE r := by cases x <;> rfl
@[simp] theorem neD_int (i j : Int) : neD (.int i) (.int j) = some (.bl (!decide (i = j))) := by
  simp only [neD, eqB, toP, SeqAt.shaped, PyData.canLay0, PyData.depth, eqv_int]; rfl
@[simp] theorem eqD_int (i j : Int) : eqD (.int i) (.int j) = some (.bl (decide (i = j))) := by
  simp only [eqD, eqB, toP, SeqAt.shaped, PyData.canLay0, PyData.depth, eqv_int]; rfl
theorem neD_str {a b : Str} (h : Plain a) (k : Plain b) : neD (.str a) (.str b) = some (.bl (!decide (a = b))) := by
  unfold neD
  rw [eqB_of (Ly.str (n := 0) h (Nat.le_refl _)) (Ly.str (n := 0) k (Nat.le_refl _)) (by omega) (by omega), eqv_str]
  rfl
end Q
set_option Elab.async false
set_option linter.all false
set_option maxRecDepth 100000
set_option maxHeartbeats 4000000
namespace Q
open PySem PySem.Spec PyProof.Rows L2 T
def potD (a b c : Int) : D := .lst true [.int a, .int b, .int c]
structure Pot (n : Int) (m : D) : Prop where
  ex : ∃ a b c, m = potD a b c ∧ 0 ≤ a ∧ 0 ≤ b ∧ b < 2 ^ 61 ∧ 0 ≤ c ∧ c ≤ n
theorem Pot.mono {n n' : Int} {m : D} (h : Pot n m) (k : n ≤ n') : Pot n' m := by
  obtain ⟨a, b, c, e, h1, h2, h3, h4, h5⟩ := h.ex
  exact ⟨a, b, c, e, h1, h2, h3, h4, by omega⟩
theorem Pot.nfz {n : Int} {m : D} (h : Pot n m) : fz m = false := by
  obtain ⟨a, b, c, rfl, _⟩ := h.ex
  rfl
theorem mod_ex (i : Int) {j : Int} (h : 0 < j) : ∃ r, modD (.int i) (.int j) = some (.int r) ∧ 0 ≤ r ∧ r < j :=
  ⟨i.fmod j, by show (if j ≠ 0 then some (D.int (i.fmod j)) else none) = _; rw [if_pos (by omega)], Int.fmod_nonneg_of_pos i h, Int.fmod_lt_of_pos i h⟩
theorem mul_ex {i j : Int} (h : -18000000000000000000 ≤ i) (k : i ≤ 18000000000000000000) : mulD (.int i) (.int j) = some (.int (i * j)) := by
  show (if CMul i j then some (D.int (i * j)) else none) = _
  rw [if_pos (.inl ⟨by omega, by omega⟩)]
theorem div_ex {i j : Int} (h : 0 ≤ i) (h1 : 0 < j) (h2 : j < 1073741824) : ∃ r, divD (.int i) (.int j) = some (.int r) ∧ 0 ≤ r :=
  ⟨i.fdiv j, by show (if CDivN i j then some (D.int (i.fdiv j)) else none) = _; rw [if_pos ⟨by omega, by omega⟩], Int.fdiv_nonneg h (by omega)⟩
theorem pow3_ex {i : Int} (h : 0 ≤ i) (k : i < 18000000000000000000) : ∃ r, powD (.int i) (.int 3) = some (.int r) :=
  ⟨i ^ 3, by show (if CPowW i 3 then some (D.int (i ^ (3 : Int).toNat)) else none) = _; rw [if_pos ⟨by omega, .inl ⟨by omega, by omega⟩⟩]; rfl⟩
@[simp] theorem ixN_30 : ixN 3 0 = some 0 := rfl
@[simp] theorem ixN_32 : ixN 3 2 = some 2 := rfl
theorem prime_ex {r : Int} (h : 0 ≤ r) (k : r < 5) : ∃ p, atI [D.int 2147483647, D.int 2147483629, D.int 2147483587, D.int 2147483579, D.int 2147483563] r = some (.int p) ∧ 0 < p ∧ p < 2147483648 := by
  have e : r = 0 ∨ r = 1 ∨ r = 2 ∨ r = 3 ∨ r = 4 := by omega
  rcases e with rfl | rfl | rfl | rfl | rfl
  · exact ⟨_, rfl, by decide, by decide⟩
  · exact ⟨_, rfl, by decide, by decide⟩
  · exact ⟨_, rfl, by decide, by decide⟩
  · exact ⟨_, rfl, by decide, by decide⟩
  · exact ⟨_, rfl, by decide, by decide⟩
theorem take_ok {n u : Int} {m : D} (h : Pot n m) (hn : n ≤ 1000000) (h1 : 1 ≤ u) (h2 : u ≤ 1000000) : ∃ d m', F_take [m, .int u] = some (.ok (.int d), [some m', some (.int u)]) ∧ 0 ≤ d ∧ d < u ∧ Pot (n + 1) m' := by
  obtain ⟨a, b, c, rfl, ha, hb, hb2, hc, hc2⟩ := h.ex
  by_cases q : 0 < a
  · obtain ⟨d, e1, d1, d2⟩ := mod_ex a (j := u) (by omega)
    obtain ⟨a', e2, a1⟩ := div_ex ha (j := u) (by omega) (by omega)
    refine ⟨d, potD a' b c, ?_, d1, d2, ⟨a', b, c, rfl, a1, hb, hb2, hc, by omega⟩⟩
    simp [F_take, b_take, potD, q, e1, e2]
  · obtain ⟨c1, hc1⟩ : ∃ c1, c + 1 = c1 := ⟨_, rfl⟩
    obtain ⟨r, f2, r1, r2⟩ := mod_ex c1 (j := 5) (by omega)
    obtain ⟨p, f3, p1, p2⟩ := prime_ex r1 r2
    have f4 : mulD (.int 90017) (.int c1) = some (.int (90017 * c1)) := mul_ex (by omega) (by omega)
    obtain ⟨x4, hx4⟩ : ∃ x4, 90017 * c1 = x4 := ⟨_, rfl⟩
    rw [hx4] at f4
    have f5 : mulD (.int x4) (.int c1) = some (.int (x4 * c1)) := mul_ex (by omega) (by omega)
    have b5 : 0 ≤ x4 * c1 ∧ x4 * c1 ≤ 90017 * 1000001 * 1000001 := by
      have z1 : 0 ≤ x4 := by omega
      have z2 : x4 ≤ 90017 * 1000001 := by omega
      have z3 : c1 ≤ 1000001 := by omega
      have z4 : 0 ≤ c1 := by omega
      exact ⟨Int.mul_nonneg z1 z4, Int.mul_le_mul z2 z3 z4 (by omega)⟩
    obtain ⟨x5, hx5⟩ : ∃ x5, x4 * c1 = x5 := ⟨_, rfl⟩
    rw [hx5] at f5 b5
    obtain ⟨P, f6⟩ := pow3_ex (i := b + x5 + 61) (by omega) (by omega)
    obtain ⟨M, f7, m1, m2⟩ := mod_ex P p1
    obtain ⟨y8, f8, y1, y2⟩ := mod_ex M (j := 10007) (by omega)
    have f9 : mulD (.int 97) (.int c1) = some (.int (97 * c1)) := mul_ex (by omega) (by omega)
    obtain ⟨y9, hy9⟩ : ∃ y9, 97 * c1 = y9 := ⟨_, rfl⟩
    rw [hy9] at f9
    have f10 : mulD (.int M) (.int (y8 + y9)) = some (.int (M * (y8 + y9))) := mul_ex (by omega) (by omega)
    have b10 : 0 ≤ M * (y8 + y9) := Int.mul_nonneg m1 (by omega)
    obtain ⟨z, hz⟩ : ∃ z, M * (y8 + y9) = z := ⟨_, rfl⟩
    rw [hz] at f10 b10
    obtain ⟨z2, f11, _⟩ := div_ex b10 (j := 127) (by omega) (by omega)
    obtain ⟨d, f12, d1, d2⟩ := mod_ex z2 (j := u) (by omega)
    refine ⟨d, potD a b c1, ?_, d1, d2, ⟨a, b, c1, rfl, ha, hb, hb2, by omega, by omega⟩⟩
    simp [F_take, b_take, potD, q, hc1, f2, f3, f4, f5, f6, f7, f8, f9, f10, f11, f12]
theorem of_ok {n : Int} {m : D} {ms : List D} {o : Bool} (h : Pot n m) (hn : n ≤ 1000000) (hf : fzs ms = true) (h1 : ms ≠ []) (h2 : ms.length ≤ 1000) : ∃ x m', F_of [m, .lst o ms] = some (.ok x, [some m', some (.lst o ms)]) ∧ x ∈ ms ∧ Pot (n + 1) m' := by
  have l1 : ms.length ≠ 0 := fun e => h1 (List.length_eq_zero_iff.mp e)
  obtain ⟨d, m', e, d1, d2, hp⟩ := take_ok h hn (u := ms.length) (by omega) (by omega)
  obtain ⟨j, rfl⟩ := Int.eq_ofNat_of_zero_le d1
  have jl : j < ms.length := by omega
  have at1 : atI ms (j : Int) = some ms[j] := atI_nat (List.getElem?_eq_getElem jl)
  have nf := h.nfz
  refine ⟨ms[j], m', ?_, List.getElem_mem jl, hp⟩
  simp [F_of, b_of, e, at1, hf, nf]
end Q
set_option Elab.async false
set_option linter.all false
set_option maxRecDepth 100000
set_option maxHeartbeats 4000000
namespace Q
open PySem PySem.Spec PyProof.Rows L2 T
theorem sSeq_nx {s u : SS} {e e1 : T.Env} (h : s e = some (.nx, e1)) : sSeq s u e = u e1 := by
  unfold sSeq
  rw [h]
theorem sFor_val {it : SI} {b : Bd} {body : SS} {e e1 : T.Env} {ms : List D} {r : Option (Fl × T.Env)} (h : it e = some (.ok ms, e1)) (k : loopS b body ms e1 = r) : sFor it b body e = r := by
  unfold sFor
  rw [h]
  exact k
theorem sRet_val {s : SE} {e e1 : T.Env} {m : D} (h : s e = some (.ok m, e1)) : sRet s e = some (.rt m, e1) := by
  unfold sRet
  rw [h]
theorem sSet_val {s : SE} {i : Nat} {e e1 : T.Env} {m : D} (h : s e = some (.ok m, e1)) (k : i < e1.length) : sSet i s e = some (.nx, e1.set i (some m)) := by
  unfold sSet
  rw [h]
  exact if_pos k
theorem fnS_rt {n np : Nat} {kp : Nat → Bool} {s : SS} {ms : List D} {m : D} {e : T.Env} (l : ms.length = np) (h : s (ms.map some ++ List.replicate (n - np) none) = some (.rt m, e)) : fnS n np kp s ms = some (.ok m, outsF kp 0 np e) := by
  unfold fnS
  rw [if_pos l, h]
theorem iRgU_val {f : List D → Option (List D)} {p : SAV} {env : T.Env} {ms r : List D} (h : p env = some ms) (h2 : f ms = some r) : iU (iRgU f p) env = some (.ok r, env) := by
  unfold iU iRgU
  rw [h]
  show Option.map _ (f ms) = _
  rw [h2]
  rfl
theorem sCallA_val {F : SF} {a : SA} {env env1 env2 : T.Env} {as : List Av} {ms : List D} {m : D} {os : List (Option D)} (h1 : a env = some (.ok as, env1)) (h2 : takeA as env1 = some (ms, env2)) (h3 : F ms = some (.ok m, os)) : sCallA F a env = some (.ok m, backA as os env2) := by
  unfold sCallA
  rw [h1]
  simp only []
  rw [h2]
  simp only []
  rw [h3]
instance (x : Str) : Decidable (IsNm x) := decidable_of_iff (1 ≤ x.length ∧ x.length ≤ 8 ∧ ∀ c ∈ TL.tl x, 97 ≤ c ∧ c ≤ 122) ⟨fun h => ⟨h.1, h.2.1, h.2.2⟩, fun h => ⟨h.lo, h.hi, h.al⟩⟩
end Q
set_option Elab.async false
set_option linter.all false
set_option maxRecDepth 100000
set_option maxHeartbeats 4000000
namespace Q
open PySem PySem.Spec PyProof.Rows L2 T
theorem mul_exR {i : Int} {b : Bool} (h : 0 ≤ i) : ∃ r, mulD (.int i) (.int (if b then 1 else 0)) = some (.int r) ∧ 0 ≤ r := by
  refine ⟨i * (if b then 1 else 0), ?_, ?_⟩
  · show (if CMul i (if b then 1 else 0) then some (D.int (i * (if b then 1 else 0))) else none) = _
    rw [if_pos (.inr (by cases b <;> constructor <;> simp))]
  · cases b <;> simp [h]
theorem pow_60 : powD (.int 10) (.int 60) = some (.int (10 ^ 60)) := by
  show (if CPowW 10 60 then some (D.int (10 ^ (60 : Int).toNat)) else none) = _
  rw [if_pos ⟨by decide, .inl ⟨by decide, by decide +kernel⟩⟩]
  rfl
theorem pow_5 : powD (.int (10 ^ 60)) (.int 5) = some (.int ((10 ^ 60) ^ 5)) := by
  show (if CPowW (10 ^ 60) 5 then some (D.int ((10 ^ 60) ^ (5 : Int).toNat)) else none) = _
  rw [if_pos ⟨by decide, .inr ⟨by decide, by decide +kernel⟩⟩]
  rfl
theorem pow_18 : powD (.int 10) (.int 18) = some (.int (10 ^ 18)) := by
  show (if CPowW 10 18 then some (D.int (10 ^ (18 : Int).toNat)) else none) = _
  rw [if_pos ⟨by decide, .inl ⟨by decide, by decide +kernel⟩⟩]
  rfl
theorem pows : ∃ p q r : Int, powD (.int 10) (.int 60) = some (.int p) ∧ powD (.int p) (.int 5) = some (.int q) ∧ powD (.int 10) (.int 18) = some (.int r) ∧ 0 < q := ⟨_, _, _, pow_60, pow_5, pow_18, by decide +kernel⟩
theorem ints_at {l : List Int} {j : Nat} (h : j < l.length) : atI (l.map D.int) (j : Int) = some (.int l[j]) := atI_nat (by
  rw [List.getElem?_map, List.getElem?_eq_getElem h]
  rfl)
theorem pot_ok (ns : List Int) (k : Nat) (hk : k ≤ 63) : ∃ m, F_pot [.klst (ns.map .int), .int k] = some (.ok m, [some (.klst (ns.map .int)), some (.int k)]) ∧ Pot 0 m := by
  obtain ⟨p, q, r, w1, w2, w3, qp⟩ := pows
  have s1 : ∃ c : Int, sSet 2 (sU (pIf (qB (p2 (cmpD fun i j => decide (i < j)) (pVar 1) (pC lenD (vCons (pVar 0) vNil)))) (p2 ixD (pVar 0) (pVar 1)) (p2 addD (p2 mulD (pK (.int 67)) (pVar 1)) (pK (.int 31))))) [some (.klst (ns.map .int)), some (.int k), none, none, none] = some (.nx, [some (.klst (ns.map .int)), some (.int k), some (.int c), none, none]) := by
    by_cases h : k < ns.length
    · have h' : (k : Int) < ns.length := by omega
      have a := ints_at h
      exact ⟨ns[k], by simp [h', h, a]⟩
    · have h' : ¬ (k : Int) < ns.length := by omega
      have a : mulD (.int 67) (.int k) = some (.int (67 * k)) := mul_ex (by omega) (by omega)
      exact ⟨67 * k + 31, by simp [h', h, a]⟩
  obtain ⟨c, s1⟩ := s1
  obtain ⟨ab, hab⟩ : ∃ ab : Int, (if c < 0 then -c else c) = ab := ⟨_, rfl⟩
  obtain ⟨m1, f1, f2, _⟩ := mod_ex ab qp
  obtain ⟨b, hb⟩ : ∃ b : Bool, decide (r ≤ ab) = b := ⟨_, rfl⟩
  obtain ⟨ow, g1, g2⟩ := mul_exR (b := b) f2
  have s2 : sSet 3 (sU (p2 mulD (p2 modD (pC intD (vCons (pC absD (vCons (pVar 2) vNil)) vNil)) (p2 powD (p2 powD (pK (.int 10)) (pK (.int 60))) (pK (.int 5)))) (pC intD (vCons (p2 (cmpD fun i j => decide (j ≤ i)) (pC absD (vCons (pVar 2) vNil)) (p2 powD (pK (.int 10)) (pK (.int 18)))) vNil)))) [some (.klst (ns.map .int)), some (.int k), some (.int c), none, none] = some (.nx, [some (.klst (ns.map .int)), some (.int k), some (.int c), some (.int ow), none]) := by
    simp only [sSet_ap, sU_ap, p2_ap, pC_ap, vCons_ap, vNil_ap, pVar_ap, pK_ap, List.getElem?_cons_succ, List.getElem?_cons_zero, absD_1, hab, intD_1, w1, w2, w3, f1, cmpD_1, hb, intD_2, g1, Option.map_some]
    simp
  obtain ⟨sm, h1, h2, h3⟩ := mod_ex c (j := 2305843009213693951) (by omega)
  have s3 : sSet 4 (sU (p2 modD (pC intD (vCons (pVar 2) vNil)) (pK (.int 2305843009213693951)))) [some (.klst (ns.map .int)), some (.int k), some (.int c), some (.int ow), none] = some (.nx, [some (.klst (ns.map .int)), some (.int k), some (.int c), some (.int ow), some (.int sm)]) := by
    simp only [sSet_ap, sU_ap, p2_ap, pC_ap, vCons_ap, vNil_ap, pVar_ap, pK_ap, List.getElem?_cons_succ, List.getElem?_cons_zero, intD_1, h1, Option.map_some]
    simp
  have a1 : mulD (.int sm) (.int 74507) = some (.int (sm * 74507)) := mul_ex (by omega) (by omega)
  have a2 : mulD (.int 8011) (.int k) = some (.int (8011 * k)) := mul_ex (by omega) (by omega)
  have a3 : mulD (.int (8011 * k)) (.int k) = some (.int (8011 * k * k)) := mul_ex (by omega) (by omega)
  obtain ⟨b1, e1, e2, e3⟩ := mod_ex (sm * 74507 + 8011 * k * k + 97) (j := 2305843009213693921) (by omega)
  have s4 : sU (pLst (vCons (pFz (pVar 3)) (vCons (p2 modD (pC intD (vCons (p2 addD (p2 addD (p2 mulD (pVar 4) (pK (.int 74507))) (p2 mulD (p2 mulD (pK (.int 8011)) (pVar 1)) (pVar 1))) (pK (.int 97))) vNil)) (pK (.int 2305843009213693921))) (vCons (pK (.int 0)) vNil)))) [some (.klst (ns.map .int)), some (.int k), some (.int c), some (.int ow), some (.int sm)] = some (.ok (potD ow b1 0), [some (.klst (ns.map .int)), some (.int k), some (.int c), some (.int ow), some (.int sm)]) := by
    simp only [sU_ap, pLst_ap, pFz_ap, p2_ap, pC_ap, vCons_ap, vNil_ap, pVar_ap, pK_ap, List.getElem?_cons_succ, List.getElem?_cons_zero, intD_1, addD_1, a1, a2, a3, e1, fz_3, if_true, Option.map_some]
    simp [potD]
  have p6 : b_pot ([.klst (ns.map .int), .int k].map some ++ List.replicate (5 - 2) none) = some (.rt (potD ow b1 0), [some (.klst (ns.map .int)), some (.int k), some (.int c), some (.int ow), some (.int sm)]) := (sSeq_nx s1).trans ((sSeq_nx s2).trans ((sSeq_nx s3).trans (sRet_val s4)))
  exact ⟨potD ow b1 0, fnS_rt (n := 5) (np := 2) (kp := kpL [0, 1]) rfl p6, ⟨ow, b1, 0, rfl, g2, e2, by omega, by omega, by omega⟩⟩
end Q
set_option Elab.async false
set_option linter.all false
set_option maxRecDepth 100000
set_option maxHeartbeats 4000000
namespace Q
open PySem PySem.Spec PyProof.Rows L2 T
theorem rng_nat {c : Nat} (h : c ≤ 1000) : rng1D [.int (c : Int)] = some ((List.range c).map fun (i : Nat) => .int (i : Int)) := by
  have a1 : (c : Int) < 4611686018427387904 := by omega
  have a2 : -4611686018427387904 ≤ (c : Int) := by omega
  simp [rng1D, a1, a2]
theorem pLc_valU {own : List Nat} {it : SAV} {b : Bd} {t : STu} {el : SV} {env : T.Env} {ms acc : List D} (h : it env = some ms) (hl : ms.length ≤ 100000) (k : pLcL b t el (wipeE own env) ms = some acc) : pLc own it b t el env = some (.lst true acc) := by
  rw [pLc_ap, h]
  show (if ms.length ≤ 100000 then (pLcL b t el (wipeE own env) ms).map (D.lst true) else none) = _
  rw [if_pos hl, k]
  rfl
theorem iRgU_valU {f : List D → Option (List D)} {p : SAV} {env : T.Env} {ms r : List D} (h : p env = some ms) (h2 : f ms = some r) : iRgU f p env = some r := by
  rw [iRgU_ap, h]
  exact h2
theorem pC_val {f : List D → Option D} {p : SAV} {env : T.Env} {ms : List D} {m : D} (h : p env = some ms) (h2 : f ms = some m) : pC f p env = some m := by
  rw [pC_ap, h]
  exact h2
theorem vCons_val {p : SV} {r : SAV} {env : T.Env} {m : D} {ms : List D} (h : p env = some m) (h2 : r env = some ms) : vCons p r env = some (m :: ms) := by
  rw [vCons_ap, h, h2]
theorem sU_val {p : SV} {env : T.Env} {m : D} (h : p env = some m) : sU p env = some (.ok m, env) := by
  rw [sU_ap, h]
  rfl
theorem p2_val {f : D → D → Option D} {p q : SV} {env : T.Env} {x y z : D} (h : p env = some x) (h2 : q env = some y) (h3 : f x y = some z) : p2 f p q env = some z := by
  rw [p2_ap, h, h2]
  exact h3
theorem pCall_val {F : SF} {pa : SAV} {env : T.Env} {ms : List D} {m : D} {os : List (Option D)} (h : pa env = some ms) (z : fzs ms = true) (k : F ms = some (.ok m, os)) : pCall F pa env = some m := by
  rw [pCall_ap, h]
  show (if fzs ms then okF F ms else none) = _
  rw [if_pos z, okF_ap, k]
theorem sIf_f {t : STe} {a b : SS} {e e1 : T.Env} (h : t e = some (.ok false, e1)) : sIf t a b e = b e1 := by
  rw [sIf_ap, h]
theorem sIf_t {t : STe} {a b : SS} {e e1 : T.Env} (h : t e = some (.ok true, e1)) : sIf t a b e = a e1 := by
  rw [sIf_ap, h]
theorem qU_val {p : STu} {e : T.Env} {b : Bool} (h : p e = some b) : qU p e = some (.ok b, e) := by
  rw [qU_ap, h]
  rfl
theorem qB_val {p : SV} {e : T.Env} {b : Bool} (h : p e = some (.bl b)) : qB p e = some b := by
  rw [qB_ap, h]
theorem pVar_at {env : T.Env} {i : Nat} {m : D} (h : env[i]? = some (some m)) : pVar i env = some m := by
  unfold pVar
  rw [h]
theorem qT_val {p : SV} {e : T.Env} {m : D} {b : Bool} (h : p e = some m) (t : truD m = some b) : qT p e = some b := by
  rw [qT_ap, h]
  exact t
theorem p1_val {f : D → Option D} {p : SV} {e : T.Env} {x m : D} (h : p e = some x) (k : f x = some m) : p1 f p e = some m := by
  rw [p1_ap, h]
  exact k
theorem qNot_val {p : STu} {e : T.Env} {b : Bool} (h : p e = some b) : qNot p e = some (!b) := by
  rw [qNot_ap, h]
  rfl
theorem qOr_f {p q : STu} {e : T.Env} (h : p e = some false) : qOr p q e = q e := by
  rw [qOr_ap, h]
theorem iP_val {p : SV} {e : T.Env} {m : D} {ms : List D} (h : p e = some m) (k : seqD m = some ms) : iP p e = some ms := by
  rw [iP_ap, h]
  exact k
end Q
set_option Elab.async false
set_option linter.all false
set_option maxRecDepth 100000
set_option maxHeartbeats 4000000
namespace T
open PySem PySem.Spec PyProof.Rows L2
instance (x : Str) : Decidable (Plain x) := by unfold Plain; infer_instance
/-- data that can be looked through, by computing -/
def lyB (m : D) : Bool := match toP m with
  | some d => d.canLay0 && decide (d.depth ≤ 10) && d.showable && d.intsShort 13 && decide (d.weight ≤ 200) && decide (Plain d.shown)
  | none => false
theorem Ly.dec {m : D} (h : lyB m = true) : ∃ d, Ly 10 200 m d := by
  unfold lyB at h
  cases q : toP m with
  | none => rw [q] at h; cases h
  | some d =>
    rw [q] at h
    simp only [Bool.and_eq_true, decide_eq_true_eq] at h
    obtain ⟨⟨⟨⟨⟨a, b⟩, c⟩, d1⟩, e⟩, f⟩ := h
    exact ⟨d, q, a, b, c, d1, e, f⟩
/-- a value of any kind: all frozen, plain data, or a small dict -/
structure Anyv (m : D) : Prop where
  fz : fz m = true
  fr : fr m = m
  ly : (∃ n w d, Ly n w m d ∧ n ≤ 40 ∧ w ≤ 30000) ∨ m = .dct false [] ∨ m = .dct false [(.str "a", .int 1)]
  sz : ∀ ms, m = .tup ms → ms.length ≤ 1000
theorem Anyv.ty {m : D} (h : Anyv m) : ∃ t, tyN m = some t := by
  rcases h.ly with ⟨n, w, d, l, _⟩ | rfl | rfl
  · have p := l.p
    cases m <;> first | exact ⟨_, rfl⟩ | (simp [toP] at p)
  · exact ⟨_, rfl⟩
  · exact ⟨_, rfl⟩
theorem reprX_of {ms : List D} {m : D} (h : reprD ms = some m) : reprX ms = some m := by
  unfold reprX
  rw [h]
theorem Ly.repr {n w : Nat} {m : D} {d : PyData} (h : Ly n w m d) (hn : n ≤ 50) (hw : w ≤ 66000) : ∃ t, reprX [m] = some (.str t) ∧ Plain t := by
  cases m with
  | tup ms => exact ⟨_, reprX_of (T.repr_of rfl h hn hw), h.pl⟩
  | lst o ms => exact ⟨_, reprX_of (T.repr_of rfl h hn hw), h.pl⟩
  | bl b => exact ⟨_, reprX_of rfl, by cases b <;> decide +kernel⟩
  | non => exact ⟨_, reprX_of rfl, by decide +kernel⟩
  | int i =>
    have p := h.p
    have s := h.s
    have e := h.pl
    cases p
    simp only [PyData.showable, decide_eq_true_eq] at s
    simp only [PyData.shown] at e
    refine ⟨toString i, reprX_of ?_, e⟩
    show (if i.natAbs.log2 < 1920 then some (D.str (toString i)) else none) = _
    rw [if_pos s]
  | str x =>
    have p := h.p
    have e := h.pl
    have hw' := h.w
    have ht := h.t
    have q := PyData.shown_le 13 (by decide) d (PyData.leavesShort_of_canLay0 13 d h.c h.i)
    cases p
    simp only [PyData.shown] at e q
    refine ⟨reprText x, reprX_of ?_, e⟩
    show (if (reprText x).length ≤ 1000000 then some (D.str (reprText x)) else none) = _
    rw [if_pos (by omega)]
  | _ => have p := h.p; simp [toP] at p
theorem reprX_dB : reprX [.dct false [(.str "a", .int 1)]] = some (.str "{'a': 1}") := by
  have e1 : reprD [D.dct false [(.str "a", .int 1)]] = none := rfl
  have e2 : (PyData.dict (kvP [("a", 1)])).shown = "{'a': 1}" := by decide +kernel
  unfold reprX
  rw [e1]
  show (if (PyData.dict (kvP [("a", 1)])).showable = true ∧ (PyData.dict (kvP [("a", 1)])).depth ≤ 50 ∧ (PyData.dict (kvP [("a", 1)])).shown.length ≤ 1000000 then some (D.str (PyData.dict (kvP [("a", 1)])).shown) else none) = _
  rw [if_pos (by decide +kernel), e2]
theorem Anyv.repr {m : D} (h : Anyv m) : ∃ t, reprX [m] = some (.str t) ∧ Plain t := by
  rcases h.ly with ⟨n, w, d, l, hn, hw⟩ | rfl | rfl
  · exact l.repr (by omega) (by omega)
  · exact ⟨_, rfl, by decide +kernel⟩
  · exact ⟨"{'a': 1}", reprX_dB, by decide +kernel⟩
/-- small numbers, below 0 too -/
theorem Ly.intS {n : Nat} {i : Int} (h : -200 ≤ i) (k : i < 4096) : Ly n 12 (.int i) (.int i) := by
  by_cases z : 0 ≤ i
  · exact Ly.int z k
  · have q : ∀ j ∈ List.range 200, (PyData.int (-((j : Int) + 1))).showable = true ∧ (PyData.int (-((j : Int) + 1))).intsShort 13 = true ∧ (PyData.int (-((j : Int) + 1))).weight ≤ 12 ∧ Plain (PyData.int (-((j : Int) + 1))).shown := by decide +kernel
    have e := q (-i - 1).toNat (List.mem_range.mpr (by omega))
    have ei : -((((-i - 1).toNat : Nat) : Int) + 1) = i := by omega
    rw [ei] at e
    exact ⟨rfl, by simp only [PyData.canLay0], by simp only [PyData.depth]; omega, e.1, e.2.1, e.2.2.1, e.2.2.2⟩
theorem Lys.app {n w w' : Nat} {b : List D} {es : List PyData} : ∀ {a : List D} {ds : List PyData}, Lys n w a ds → Lys n w' b es → Lys n (w + w') (a ++ b) (ds ++ es) := by
  intro a ds h k
  have l1 := h.l
  have toPs_app : ∀ {a b : List D} {ds es : List PyData}, toPs a = some ds → toPs b = some es → toPs (a ++ b) = some (ds ++ es) := by
    intro a
    induction a with
    | nil => intro b ds es h k; cases h; exact k
    | cons x a ih =>
      intro b ds es h k
      unfold toPs at h
      cases q : toP x with
      | none => rw [q] at h; simp at h
      | some d =>
        cases q2 : toPs a with
        | none => rw [q, q2] at h; simp at h
        | some r =>
          rw [q, q2] at h
          cases h
          rw [List.cons_append]
          simp only [toPs, q, ih q2 k, List.cons_append]
  have cA : ∀ a b : List PyData, PyData.canLayAll0 (a ++ b) = (PyData.canLayAll0 a && PyData.canLayAll0 b) := by
    intro a b; induction a with
    | nil => simp [PyData.canLayAll0]
    | cons x a ih => simp only [List.cons_append, PyData.canLayAll0, ih, Bool.and_assoc]
  have dA : ∀ a b : List PyData, PyData.depthAll (a ++ b) = max (PyData.depthAll a) (PyData.depthAll b) := by
    intro a b; induction a with
    | nil => simp [PyData.depthAll]
    | cons x a ih => simp only [List.cons_append, PyData.depthAll, ih]; omega
  have sA : ∀ a b : List PyData, PyData.showableAll (a ++ b) = (PyData.showableAll a && PyData.showableAll b) := by
    intro a b; induction a with
    | nil => simp [PyData.showableAll]
    | cons x a ih => simp only [List.cons_append, PyData.showableAll, ih, Bool.and_assoc]
  have iA : ∀ a b : List PyData, PyData.intsShortAll 13 (a ++ b) = (PyData.intsShortAll 13 a && PyData.intsShortAll 13 b) := by
    intro a b; induction a with
    | nil => simp [PyData.intsShortAll]
    | cons x a ih => simp only [List.cons_append, PyData.intsShortAll, ih, Bool.and_assoc]
  have wA : ∀ a b : List PyData, PyData.weightAll (a ++ b) = PyData.weightAll a + PyData.weightAll b := by
    intro a b; induction a with
    | nil => simp [PyData.weightAll]
    | cons x a ih => simp only [List.cons_append, PyData.weightAll, ih]; omega
  have pA : ∀ a b : List PyData, PyData.shownAll (a ++ b) = PyData.shownAll a ++ PyData.shownAll b := by
    intro a b; induction a with
    | nil => simp [PyData.shownAll]
    | cons x a ih => simp only [List.cons_append, PyData.shownAll, ih]
  exact ⟨toPs_app h.p k.p, by rw [cA, h.c, k.c]; rfl, by rw [dA]; exact Nat.max_le.mpr ⟨h.t, k.t⟩, by rw [sA, h.s, k.s]; rfl, by rw [iA, h.i, k.i]; rfl, by rw [wA]; exact Nat.add_le_add h.w k.w, by rw [List.length_append, List.length_append, h.l, k.l], fun t ht => by
    rw [pA] at ht
    exact (List.mem_append.mp ht).elim (h.pl t) (k.pl t)⟩
end T
set_option Elab.async false
set_option linter.all false
set_option maxRecDepth 100000
set_option maxHeartbeats 4000000
namespace Q
open PySem PySem.Spec PyProof.Rows L2 T
theorem Anyv.of {n w : Nat} {m : D} {d : PyData} (l : Ly n w m d) (hn : n ≤ 40) (hw : w ≤ 30000) (z : fz m = true) (f : fr m = m) (s : ∀ ms, m = .tup ms → ms.length ≤ 1000) : Anyv m := ⟨z, f, .inl ⟨n, w, d, l, hn, hw⟩, s⟩
theorem Ly.bl (b : Bool) {n : Nat} : Ly n 12 (.bl b) (.bool b) := by
  cases b <;> exact ⟨rfl, by simp only [PyData.canLay0], by simp only [PyData.depth]; omega, by decide +kernel, by decide +kernel, by decide +kernel, by unfold Plain; decide +kernel⟩
/-- the texts of small numbers -/
theorem argsV {m x : D} {r : T.Env} {v : SV} (hv : v (some m :: r) = some x) : aN 0 (aE (sU v) aNil) (some m :: r) = some (.ok [.lend 0, .val x], some m :: r) := by
  rw [aN_ap, aE_ap, sU_ap, hv]
  rfl
theorem takesV {m x : D} {r : T.Env} (nf : fz m = false) : takeA [.lend 0, .val x] (some m :: r) = some ([m, x], none :: r) := by
  simp only [takeA_2, pVar_ap, List.getElem?_cons_zero, nf]
  rfl
theorem takeC {n u : Int} {m : D} {r : T.Env} {v : SV} (q : Pot n m) (hn : n ≤ 1000000) (h1 : 1 ≤ u) (h2 : u ≤ 1000000) (hv : v (some m :: r) = some (.int u)) : ∃ d m', sCallA F_take (aN 0 (aE (sU v) aNil)) (some m :: r) = some (.ok (.int d), some m' :: r) ∧ 0 ≤ d ∧ d < u ∧ Pot (n + 1) m' := by
  obtain ⟨d, m', o, a, b, q1⟩ := take_ok q hn h1 h2
  exact ⟨d, m', sCallA_val (argsV hv) (takesV q.nfz) o, a, b, q1⟩
theorem Lys.row {n : Nat} {l : List Int} (h : ∀ i ∈ l, -200 ≤ i ∧ i < 4096) : Lys n (13 * l.length) (l.map .int) (l.map .int) := Lys.map fun i hi => Ly.intS (h i hi).1 (h i hi).2
theorem s2V_val {f : D → D → Option D} {s : SE} {q : SV} {e e1 : T.Env} {x y z : D} (h : s e = some (.ok x, e1)) (h2 : q e1 = some y) (h3 : f x y = some z) : s2V f s q e = some (.ok z, e1) := by
  unfold s2V
  rw [sBind_ap, h]
  show (match q e1 with | some b => sOpt (f x b) e1 | none => none) = _
  rw [h2]
  show sOpt (f x y) e1 = _
  rw [h3]
  rfl
theorem qBE_val {s : SE} {e e1 : T.Env} {b : Bool} (h : s e = some (.ok (.bl b), e1)) : qBE s e = some (.ok b, e1) := by
  rw [qBE_ap, h]
end Q
set_option Elab.async false
set_option linter.all false
set_option maxRecDepth 100000
set_option maxHeartbeats 4000000
namespace Q
open PySem PySem.Spec PyProof.Rows L2 T
abbrev oddA : List D := [.non, .bl true, .bl false, .int 0, .int 1, .int (-1), .int 100000000, .str "", .str "a", .str "never", .str "can", .tup [], .lst false [], .dct false [], .tup [.int 0], .tup [.tup []], .lst false [.int 0], .tup [.str "never"]]
abbrev oddB : List D := [.tup [.int 1, .int 0], .tup [.str "a", .str "b"], .tup [.str "never", .tup []], .tup [.str "within", .tup []], .tup [.bl true, .int 0], .tup [.tup [.int 0, .int 1], .tup []]]
theorem pow_8 : powD (.int 10) (.int 8) = some (.int 100000000) := by
  show (if CPowW 10 8 then some (D.int (10 ^ (8 : Int).toNat)) else none) = _
  rw [if_pos ⟨by decide, .inl ⟨by decide, by decide +kernel⟩⟩]
  rfl
theorem fz_oddA : fzs oddA = true := by simp
theorem fz_oddAB : fzs (oddA ++ oddB) = true := by simp
theorem odd_in {n : Int} {m : D} (q : Pot n m) (hn : n ≤ 900000) : ∃ x m', F_odd [m] = some (.ok x, [some m']) ∧ x ∈ oddA ++ oddB ∧ Pot (n + 1) m' := by
  obtain ⟨x, m', o, xin, q1⟩ := of_ok (o := true) q (by omega) (ms := oddA ++ oddB) fz_oddAB (by simp) (by simp)
  refine ⟨x, m', ?_, xin, q1⟩
  have nf := q.nfz
  have s1 : sSet 1 (sU (pLst (vCons (pK .non) (vCons (pK (.bl true)) (vCons (pK (.bl false)) (vCons (pK (.int 0)) (vCons (pK (.int 1)) (vCons (p1 negD (pK (.int 1))) (vCons (p2 powD (pK (.int 10)) (pK (.int 8))) (vCons (pK (.str "")) (vCons (pK (.str "a")) (vCons (pK (.str "never")) (vCons (pK (.str "can")) (vCons (pTup vNil) (vCons (pFrz (pLst vNil)) (vCons (pFrz pDN) (vCons (pTup (vCons (pK (.int 0)) vNil)) (vCons (pTup (vCons (pTup vNil) vNil)) (vCons (pFrz (pLst (vCons (pK (.int 0)) vNil))) (vCons (pTup (vCons (pK (.str "never")) vNil)) vNil)))))))))))))))))))) [some m, none] = some (.nx, [some m, some (.lst true oddA)]) := by
    have f1 : pFrz (pLst vNil) [some m, none] = some (.lst false []) := by unfold pFrz; simp
    have f2 : pFrz pDN [some m, none] = some (.dct false []) := by unfold pFrz; simp
    have f3 : pFrz (pLst (vCons (pK (.int 0)) vNil)) [some m, none] = some (.lst false [.int 0]) := by unfold pFrz; simp
    have n1 : p1 negD (pK (.int 1)) [some m, none] = some (.int (-1)) := rfl
    have p8 : p2 powD (pK (.int 10)) (pK (.int 8)) [some m, none] = some (.int 100000000) := by rw [p2_ap]; exact pow_8
    rw [sSet_ap, sU_ap, pLst_ap]
    simp only [vCons_ap, pK_ap, n1, p8, f1, f2, f3, vNil_ap, pTup_ap]
    simp
  have g : pLst (vCons (pTup (vCons (pK (.int 1)) (vCons (pK (.int 0)) vNil))) (vCons (pTup (vCons (pK (.str "a")) (vCons (pK (.str "b")) vNil))) (vCons (pTup (vCons (pK (.str "never")) (vCons (pTup vNil) vNil))) (vCons (pTup (vCons (pK (.str "within")) (vCons (pTup vNil) vNil))) (vCons (pTup (vCons (pK (.bl true)) (vCons (pK (.int 0)) vNil))) (vCons (pTup (vCons (pTup (vCons (pK (.int 0)) (vCons (pK (.int 1)) vNil))) (vCons (pTup vNil) vNil))) vNil)))))) [some m, some (.lst true oddA)] = some (.lst true oddB) := by
    rw [pLst_ap]
    simp
  have ad : addD (.lst true oddA) (.lst true oddB) = some (.lst true (oddA ++ oddB)) := by
    rw [addD_3, if_pos (by rw [szl]; decide), if_pos (by rw [fz_oddA]; simp)]
  have v : p2 addD (pVar 1) (pLst (vCons (pTup (vCons (pK (.int 1)) (vCons (pK (.int 0)) vNil))) (vCons (pTup (vCons (pK (.str "a")) (vCons (pK (.str "b")) vNil))) (vCons (pTup (vCons (pK (.str "never")) (vCons (pTup vNil) vNil))) (vCons (pTup (vCons (pK (.str "within")) (vCons (pTup vNil) vNil))) (vCons (pTup (vCons (pK (.bl true)) (vCons (pK (.int 0)) vNil))) (vCons (pTup (vCons (pTup (vCons (pK (.int 0)) (vCons (pK (.int 1)) vNil))) (vCons (pTup vNil) vNil))) vNil))))))) [some m, some (.lst true oddA)] = some (.lst true (oddA ++ oddB)) := p2_val (by simp) g ad
  have c := sCallA_val (argsV v) (takesV nf) o
  have b : backA [.lend 0, .val (.lst true (oddA ++ oddB))] [some m', some (.lst true (oddA ++ oddB))] [none, some (.lst true oddA)] = [some m', some (.lst true oddA)] := by simp only [backA_2, backA_1, backA_0]; rfl
  rw [b] at c
  have p6 : b_odd ([m].map some ++ List.replicate (2 - 1) none) = some (.rt x, [some m', some (.lst true oddA)]) := (sSeq_nx s1).trans (sRet_val c)
  exact fnS_rt (n := 2) (np := 1) (kp := kpL [0]) rfl p6
end Q
set_option Elab.async false
set_option linter.all false
set_option maxRecDepth 100000
set_option maxHeartbeats 4000000
namespace Q
open PySem PySem.Spec PyProof.Rows L2 T
mutual
theorem toQ_of : ∀ (m : D) {d : PyData}, toP m = some d → toQ m = some d
  | .non, _, e => e
  | .bl _, _, e => e
  | .int _, _, e => e
  | .str _, _, e => e
  | .tup ms, _, e => by
    unfold toP at e
    unfold toQ
    cases q : toPs ms with
    | none => rw [q] at e; cases e
    | some ds => rw [q] at e; rw [toQs_of ms q]; exact e
  | .lst o ms, _, e => by
    unfold toP at e
    unfold toQ
    cases q : toPs ms with
    | none => rw [q] at e; cases e
    | some ds => rw [q] at e; rw [toQs_of ms q]; exact e
  | .klst _, _, e => by cases e
  | .dct _ _, _, e => by cases e
  | .ins _ _ _, _, e => by cases e
  | .exc _ _, _, e => by cases e
  | .tbs _, _, e => by cases e
theorem toQs_of : ∀ (ms : List D) {ds : List PyData}, toPs ms = some ds → toQs ms = some ds
  | [], _, e => e
  | m :: ms, _, e => by
    unfold toPs at e
    unfold toQs
    cases q1 : toP m with
    | none => rw [q1] at e; cases e
    | some d =>
      cases q2 : toPs ms with
      | none => rw [q1, q2] at e; cases e
      | some ds => rw [q1, q2] at e; rw [toQ_of m q1, toQs_of ms q2]; exact e
end
structure Zy (n w : Nat) (m : D) (d : PyData) : Prop where
  p : toQ m = some d
  t : d.depth ≤ n
  s : d.showable = true
  l : d.leavesShort 13 = true
  w : d.weight ≤ w
  pl : Plain d.shown
structure Zys (n w : Nat) (ms : List D) (ds : List PyData) : Prop where
  p : toQs ms = some ds
  t : PyData.depthAll ds ≤ n
  s : PyData.showableAll ds = true
  l : PyData.leavesShortAll 13 ds = true
  w : PyData.weightAll ds ≤ w
  pl : ∀ t ∈ PyData.shownAll ds, Plain t
theorem Zy.of {n w : Nat} {m : D} {d : PyData} (h : Ly n w m d) : Zy n w m d := ⟨toQ_of m h.p, h.t, h.s, PyData.leavesShort_of_canLay0 13 d h.c h.i, h.w, h.pl⟩
theorem Zy.mono {n w n' w' : Nat} {m : D} {d : PyData} (h : Zy n w m d) (a : n ≤ n') (b : w ≤ w') : Zy n' w' m d := { h with t := Nat.le_trans h.t a, w := Nat.le_trans h.w b }
theorem Zys.nil {n : Nat} : Zys n 0 [] [] := ⟨rfl, by simp only [PyData.depthAll]; omega, by simp only [PyData.showableAll], by simp only [PyData.leavesShortAll], by simp only [PyData.weightAll]; omega, fun t h => by simp only [PyData.shownAll] at h; cases h⟩
theorem Zys.cons {n w w' : Nat} {m : D} {d : PyData} {ms : List D} {ds : List PyData} (h : Zy n w m d) (k : Zys n w' ms ds) : Zys n (w + 1 + w') (m :: ms) (d :: ds) :=
  ⟨by simp only [toQs, h.p, k.p], by simp only [PyData.depthAll]; exact Nat.max_le.mpr ⟨h.t, k.t⟩, by simp only [PyData.showableAll, h.s, k.s, Bool.and_self], by simp only [PyData.leavesShortAll, h.l, k.l, Bool.and_self], by simp only [PyData.weightAll]; have := h.w; have := k.w; omega, fun t ht => by
    simp only [PyData.shownAll] at ht
    rcases List.mem_cons.mp ht with rfl | ht
    · exact h.pl
    · exact k.pl t ht⟩
theorem Zy.tup {n w : Nat} {ms : List D} {ds : List PyData} (h : Zys n w ms ds) : Zy (n + 1) w (.tup ms) (.tuple ds) :=
  ⟨by simp only [toQ, h.p, Option.map_some], by simp only [PyData.depth]; have := h.t; omega, by simp only [PyData.showable, h.s], by simp only [PyData.leavesShort, h.l], by simp only [PyData.weight]; exact h.w, by simp only [PyData.shown]; exact tupleText_plain h.pl⟩
theorem Zy.lst {n w : Nat} {o : Bool} {ms : List D} {ds : List PyData} (h : Zys n w ms ds) : Zy (n + 1) w (.lst o ms) (.list ds) :=
  ⟨by simp only [toQ, h.p, Option.map_some], by simp only [PyData.depth]; have := h.t; omega, by simp only [PyData.showable, h.s], by simp only [PyData.leavesShort, h.l], by simp only [PyData.weight]; exact h.w, by simp only [PyData.shown]; exact listText_plain h.pl⟩
theorem dictText_plain {ts : List Str} (h : ∀ t ∈ ts, Plain t) : Plain (dictText ts) := by
  unfold dictText
  exact ((show Plain ("{" : Str) from by decide +kernel).app (Plain.join (by decide +kernel) h)).app (by decide +kernel)
theorem Zy.dct0 {n : Nat} {o : Bool} : Zy (n + 1) 0 (.dct o []) (.dict []) :=
  ⟨by simp only [toQ, toQk, Option.map_some], by simp only [PyData.depth, PyData.depthKv]; omega, by simp only [PyData.showable, PyData.showableKv], by simp only [PyData.leavesShort, PyData.leavesShortKv], by simp only [PyData.weight, PyData.weightKv]; omega, by simp only [PyData.shown, PyData.shownKv]; exact dictText_plain fun t ht => nomatch ht⟩
theorem Zy.dct1 {n w : Nat} {o : Bool} {m : D} {d : PyData} (h : Zy n w m d) : Zy (n + 1) (w + 3) (.dct o [(.str "a", m)]) (.dict [(.str "a", d)]) := by
  have w1 : PyData.weight (.str "a") = 1 := by decide +kernel
  have d1 : PyData.depth (.str "a") = 0 := rfl
  have l1 : PyData.leavesShort 13 (.str "a") = true := by decide +kernel
  have hw := h.w
  have ht := h.t
  refine ⟨by simp only [toQ, toQk, h.p, Option.map_some], ?_, ?_, ?_, ?_, ?_⟩
  · simp only [PyData.depth, PyData.depthKv]
    omega
  · simp only [PyData.showable, PyData.showableKv, h.s, Bool.and_self]
  · simp only [PyData.leavesShort, PyData.leavesShortKv, h.l, Bool.and_true]
    exact l1
  · rw [show PyData.weight (.dict [(.str "a", d)]) = PyData.weight (.str "a") + d.weight + 2 + 0 by simp only [PyData.weight, PyData.weightKv], w1]
    omega
  · simp only [PyData.shown, PyData.shownKv]
    refine dictText_plain fun t ht => ?_
    rw [List.mem_singleton.mp ht]
    exact ((show Plain (reprText "a") from by decide +kernel).app (by decide +kernel)).app h.pl
theorem Zy.repr {n w : Nat} {m : D} {d : PyData} (h : Zy n w m d) (hn : n ≤ 50) (hw : w ≤ 66000) : ∃ t, reprZ [m] = some (.str t) ∧ Plain t := by
  have e := PyData.shown_le 13 (by decide) d h.l
  have hw' := h.w
  have ht := h.t
  have hp := h.p
  have hpl := h.pl
  have hz : d.shown.length ≤ 1000000 := by omega
  have q : isRefD m = true → reprQ [m] = some (.str d.shown) := fun hr => by
    unfold reprQ
    simp only [hp]
    rw [if_pos ⟨hr, h.s, by omega, hz⟩]
  have ct : isCt m = true → isRefD m = true → repr0 [m] = none → ∃ t, reprZ [m] = some (.str t) ∧ Plain t := fun hc hr h0 => by
    unfold reprZ reprD
    cases c : reprC [m] with
    | some x =>
      unfold reprC at c
      simp only [hc, if_true] at c
      cases c2 : toP m with
      | none => rw [c2] at c; cases c
      | some d' =>
        rw [c2] at c
        have := toQ_of m c2
        rw [hp] at this
        cases this
        simp only [] at c
        split at c
        · cases c
          exact ⟨_, rfl, hpl⟩
        · cases c
    | none =>
      simp only [h0]
      exact ⟨_, q hr, hpl⟩
  cases m with
  | non => exact ⟨"None", rfl, by decide +kernel⟩
  | bl b => exact ⟨if b then "True" else "False", rfl, by cases b <;> decide +kernel⟩
  | int i =>
    cases hp
    have hs : i.natAbs.log2 < 1920 := by have := h.s; simpa [PyData.showable] using this
    refine ⟨toString i, ?_, by simpa only [PyData.shown] using hpl⟩
    show (match (match reprC [D.int i] with | some m => some m | none => repr0 [D.int i]) with | some m => some m | none => reprQ [D.int i]) = _
    rw [show reprC [D.int i] = none from rfl]
    simp only [repr0, hs, if_true]
  | str x =>
    cases hp
    have hz' : (reprText x).length ≤ 1000000 := by simpa only [PyData.shown] using hz
    refine ⟨reprText x, ?_, by simpa only [PyData.shown] using hpl⟩
    show (match (match reprC [D.str x] with | some m => some m | none => repr0 [D.str x]) with | some m => some m | none => reprQ [D.str x]) = _
    rw [show reprC [D.str x] = none from rfl]
    simp only [repr0, hz', if_true]
  | tup ms => exact ct rfl rfl rfl
  | lst o ms => exact ct rfl rfl rfl
  | dct o kvs =>
    refine ⟨d.shown, ?_, hpl⟩
    have := q rfl
    show (match (match reprC [D.dct o kvs] with | some m => some m | none => repr0 [D.dct o kvs]) with | some m => some m | none => reprQ [D.dct o kvs]) = _
    rw [show reprC [D.dct o kvs] = none from rfl, show repr0 [D.dct o kvs] = none from rfl]
    exact this
  | klst _ => cases hp
  | ins _ _ _ => cases hp
  | exc _ _ => cases hp
  | tbs _ => cases hp
/-- a value that is drawn: frozen, and shown -/
structure Zv (n w : Nat) (m : D) : Prop where
  fz : fz m = true
  fr : fr m = m
  ly : ∃ d, Zy n w m d
theorem Zv.mono {n w n' w' : Nat} {m : D} (h : Zv n w m) (a : n ≤ n') (b : w ≤ w') : Zv n' w' m := ⟨h.fz, h.fr, let ⟨d, e⟩ := h.ly; ⟨d, e.mono a b⟩⟩
theorem odd_zv : ∀ x ∈ oddA ++ oddB, Zv 10 200 x := by
  have dA : Zv 10 200 (.dct false []) := ⟨rfl, by simp, _, (Zy.dct0 (n := 9)).mono (by omega) (by omega)⟩
  have c : ∀ m : D, (fz m && lyB m) = true → fr m = m → Zv 10 200 m := fun m h f => by
    rw [Bool.and_eq_true] at h
    obtain ⟨d, l⟩ := Ly.dec h.2
    exact ⟨h.1, f, d, .of l⟩
  intro x hx
  simp only [oddA, oddB, List.cons_append, List.nil_append, List.mem_cons, List.not_mem_nil, or_false] at hx
  rcases hx with rfl | rfl | rfl | rfl | rfl | rfl | rfl | rfl | rfl | rfl | rfl | rfl | rfl | rfl | rfl | rfl | rfl | rfl | rfl | rfl | rfl | rfl | rfl | rfl
  all_goals first | exact dA | exact c _ (by decide +kernel) (by simp)
def zvs (n w : Nat) (ms : List D) : Prop := fzs ms = true ∧ frs ms = ms ∧ ∃ ds, Zys n w ms ds
theorem zvs_nil {n : Nat} : zvs n 0 [] := ⟨rfl, by simp, _, .nil⟩
theorem zvs_all {n w : Nat} : ∀ {ms : List D}, (∀ x ∈ ms, Zv n w x) → zvs n ((w + 1) * ms.length) ms
  | [], _ => zvs_nil
  | m :: ms, h => by
    obtain ⟨a, b, c⟩ := h m (List.mem_cons_self ..)
    obtain ⟨d, l⟩ := c
    obtain ⟨a2, b2, ds, l2⟩ := zvs_all fun x hx => h x (List.mem_cons_of_mem _ hx)
    have k := Zys.cons l l2
    refine ⟨by simp [a, a2], by simp [b, b2], d :: ds, k.p, k.t, k.s, k.l, ?_, k.pl⟩
    have kw := k.w
    rw [List.length_cons, Nat.mul_succ]
    omega
end Q
set_option Elab.async false
set_option linter.all false
set_option maxRecDepth 100000
set_option maxHeartbeats 4000000
namespace Q
open PySem PySem.Spec PyProof.Rows L2 T
theorem iRg_val {f : List D → Option (List D)} {a : SA} {e e1 : T.Env} {as : List Av} {ms r : List D} (h : a e = some (.ok as, e1)) (h2 : lookA as e1 = some ms) (h3 : f ms = some r) : iRg f a e = some (.ok r, e1) := by
  rw [iRg_ap, h]
  simp only [h2, h3, Option.map_some]
theorem aE_val {s : SE} {r : SA} {e e1 e2 : T.Env} {m : D} {as : List Av} (h : s e = some (.ok m, e1)) (k : r e1 = some (.ok as, e2)) : aE s r e = some (.ok (.val m :: as), e2) := by
  rw [aE_ap, h]
  simp only [k]
theorem sFrA_val {s : SE} {e e1 : T.Env} {m m' : D} (h : s e = some (.ok m, e1)) (k : fr m = m') : sFrA s e = some (.ok m', e1) := by
  rw [sFrA_ap, h, ← k]
theorem sLc_val {own : List Nat} {it : SI} {b : Bd} {t : STe} {el : SE} {env e1 e2 : T.Env} {ms acc : List D} (h : it env = some (.ok ms, e1)) (hl : ms.length ≤ 100000) (k : lcLoop own b t el ms [] (wipeE own e1) = some (acc, e2)) : sLc own it b t el env = some (.ok (.lst true acc), restE e1 own e2) := by
  unfold sLc
  rw [h]
  simp only []
  rw [if_pos hl, k]
theorem sSeq_rt' {s u : SS} {e e1 : T.Env} {m : D} (h : s e = some (.rt m, e1)) : sSeq s u e = some (.rt m, e1) := by
  rw [sSeq_ap, h]
/-- what a function does that draws a value, so deep -/
def Draws (F : SF) (deep : Int) (nb wb : Nat) (c B : Int) : Prop := ∀ {n : Int} {m : D}, Pot n m → n ≤ B → ∃ y m', F [m, .int deep] = some (.ok y, [some m', some (.int deep)]) ∧ Zv nb wb (fr y) ∧ Pot (n + c) m'
abbrev u1 : SS := sSet 2 (sIfE (qU (qB (p2 (cmpD fun i j => decide (j < i)) (pVar 1) (pK (.int 0))))) (sCallA F_take (aN 0 (aE (sU (pK (.int 4))) aNil))) (sU (pK (.int 3))))
abbrev lcV (F : SF) : SE := sLc [3] (iRg rng1D (aE (sCallA F_take (aN 0 (aE (sU (pK (.int 3))) aNil))) aNil)) (bName 3) eYes (sFrA (sCallA F (aN 0 (aE (sU (p2 subD (pVar 1) (pK (.int 1)))) aNil))))
abbrev isW (k : Int) : STe := qU (qB (p2 eqD (pVar 2) (pK (.int k))))
abbrev u5 : SS := sRet (sCallA F_odd (aN 0 aNil))
abbrev bodyV (F : SF) : SS := sSeq u1 (sSeq (sIf (isW 0) (sRet (sC tupleD (aE (lcV F) aNil))) sPass) (sSeq (sIf (isW 1) (sRet (lcV F)) sPass) (sSeq (sIf (isW 2) (sRet (sDisp1 "a" (sFrA (sFrA (sCallA F (aN 0 (aE (sU (p2 subD (pVar 1) (pK (.int 1)))) aNil))))))) sPass) u5)))
section
variable {n : Int} {m : D} {x2 x3 : Option D} {deep w : Int}
theorem isW_ok {k : Int} : isW k [some m, some (.int deep), some (.int w), x3] = some (.ok (decide (w = k)), [some m, some (.int deep), some (.int w), x3]) := by
  simp
theorem isW_no {k : Int} {s : SS} (hk : w ≠ k) : sIf (isW k) s sPass [some m, some (.int deep), some (.int w), x3] = some (.nx, [some m, some (.int deep), some (.int w), x3]) := by
  have := isW_ok (m := m) (deep := deep) (w := w) (x3 := x3) (k := k)
  rw [decide_eq_false hk] at this
  rw [sIf_f this]
  simp
theorem odd_ret (q : Pot n m) (hn : n ≤ 900000) : ∃ x m', u5 [some m, some (.int deep), some (.int w), x3] = some (.rt x, [some m', some (.int deep), some (.int w), x3]) ∧ Zv 10 200 (fr x) ∧ Pot (n + 1) m' := by
  obtain ⟨x, m', a, b, c⟩ := odd_in q hn
  have nf := q.nfz
  have z := odd_zv x b
  refine ⟨x, m', sRet_val ?_, by rw [z.fr]; exact z, c⟩
  simp [a, nf]
theorem value0_ok : Draws F_value0 0 10 200 1 800000 := by
  intro n m q hn
  have s1 : u1 [some m, some (.int 0), none, none] = some (.nx, [some m, some (.int 0), some (.int 3), none]) := by simp
  obtain ⟨x, m', a, b, c⟩ := odd_ret (deep := 0) (w := 3) (x3 := none) q (by omega)
  have t0 : sIf (isW 0) (fun _ => none) sPass [some m, some (.int 0), some (.int 3), none] = some (.nx, [some m, some (.int 0), some (.int 3), none]) := isW_no (by omega)
  have t1 : sIf (isW 1) (fun _ => none) sPass [some m, some (.int 0), some (.int 3), none] = some (.nx, [some m, some (.int 0), some (.int 3), none]) := isW_no (by omega)
  have t2 : sIf (isW 2) (fun _ => none) sPass [some m, some (.int 0), some (.int 3), none] = some (.nx, [some m, some (.int 0), some (.int 3), none]) := isW_no (by omega)
  have p6 : b_value0 ([m, .int 0].map some ++ List.replicate (4 - 2) none) = some (.rt x, [some m', some (.int 0), some (.int 3), none]) := (sSeq_nx s1).trans ((sSeq_nx t0).trans ((sSeq_nx t1).trans ((sSeq_nx t2).trans a)))
  exact ⟨x, m', fnS_rt (n := 4) (np := 2) (kp := kpL [0, 1]) rfl p6, b, c⟩
theorem callV {F : SF} {nb wb : Nat} {c B : Int} (h : Draws F (deep - 1) nb wb c B) (q : Pot n m) (hn : n ≤ B) : ∃ y m', sFrA (sCallA F (aN 0 (aE (sU (p2 subD (pVar 1) (pK (.int 1)))) aNil))) [some m, some (.int deep), some (.int w), x3] = some (.ok y, [some m', some (.int deep), some (.int w), x3]) ∧ Zv nb wb y ∧ Pot (n + c) m' := by
  obtain ⟨y, m', a, b, d⟩ := h q hn
  have v : p2 subD (pVar 1) (pK (.int 1)) [some m, some (.int deep), some (.int w), x3] = some (.int (deep - 1)) := by simp
  exact ⟨fr y, m', sFrA_val (sCallA_val (argsV v) (takesV q.nfz) a) rfl, b, d⟩
theorem lcV_ok {F : SF} {nb wb : Nat} {c B : Int} (h : Draws F (deep - 1) nb wb c B) (c0 : 0 ≤ c) (c1 : c ≤ 1000) (hB : B ≤ 800000) (q : Pot n m) (hn : n ≤ B - 2500) : ∃ ys m', lcV F [some m, some (.int deep), some (.int w), none] = some (.ok (.lst true ys), [some m', some (.int deep), some (.int w), none]) ∧ ys.length ≤ 2 ∧ (∀ y ∈ ys, Zv nb wb y) ∧ Pot (n + 1 + 2 * c) m' := by
  obtain ⟨d, m1, a, d0, d1, q1⟩ := takeC (u := 3) (r := [some (.int deep), some (.int w), none]) (v := pK (.int 3)) q (by omega) (by omega) (by omega) (pK_ap _ _)
  obtain ⟨k, rfl⟩ := Int.eq_ofNat_of_zero_le d0
  have it := iRg_val (f := rng1D) (aE_val a (aNil_ap _)) (ms := [.int k]) (by simp) (rng_nat (c := k) (by omega))
  obtain ⟨acc, e', lp, m', he, hq, hl, hz⟩ := lcLoop_inv (own := [3]) (b := bName 3) (t := eYes) (el := sFrA (sCallA F (aN 0 (aE (sU (p2 subD (pVar 1) (pK (.int 1)))) aNil)))) (fun j acc env => ∃ m', env = [some m', some (.int deep), some (.int w), none] ∧ Pot (n + 1 + c * j) m' ∧ acc.length = j ∧ ∀ y ∈ acc, Zv nb wb y) ((List.range k).map fun (i : Nat) => D.int (i : Int))
    (fun j x acc env hx ⟨m', he, hq, hl, hz⟩ => by
      have jl : j < k := by
        have := (List.getElem?_eq_some_iff.mp hx).1
        rwa [List.length_map, List.length_range] at this
      have jc : c * (j : Int) ≤ c * 2 := Int.mul_le_mul_of_nonneg_left (by omega) c0
      obtain ⟨y, m2, b, zy, q2⟩ := callV (w := w) (x3 := some x) h hq (by omega)
      refine ⟨[some m', some (.int deep), some (.int w), some x], [some m', some (.int deep), some (.int w), some x], y, [some m2, some (.int deep), some (.int w), some x], by rw [he]; simp, by simp, b, m2, by simp, ?_, by rw [List.length_append, hl]; rfl, ?_⟩
      · have : n + 1 + c * ((j + 1 : Nat) : Int) = n + 1 + c * j + c := by push_cast; rw [Int.mul_add]; omega
        rw [this]
        exact q2
      · intro z hzz
        rcases List.mem_append.mp hzz with g | g
        · exact hz z g
        · rw [List.mem_singleton.mp g]; exact zy)
    [] (wipeE [3] [some m1, some (.int deep), some (.int w), none]) ⟨m1, by simp, by simpa using q1, rfl, fun _ z => nomatch z⟩
  rw [List.length_map, List.length_range] at hl
  rw [he] at lp
  have lc := sLc_val it (by rw [List.length_map, List.length_range]; omega) lp
  have re : restE [some m1, some (.int deep), some (.int w), none] [3] [some m', some (.int deep), some (.int w), none] = [some m', some (.int deep), some (.int w), none] := by simp
  rw [re] at lc
  refine ⟨acc, m', lc, by omega, hz, hq.mono ?_⟩
  rw [List.length_map, List.length_range]
  have : c * (k : Int) ≤ c * 2 := Int.mul_le_mul_of_nonneg_left (by omega) c0
  omega
theorem step_ok {F : SF} {nb wb : Nat} {c B : Int} (h : Draws F (deep - 1) nb wb c B) (n1 : 9 ≤ nb) (w1 : 200 ≤ wb) (dp : 0 < deep) (c0 : 0 ≤ c) (c1 : c ≤ 1000) (hB : B ≤ 800000) : Draws (fnS 4 2 (kpL [0, 1]) (bodyV F)) deep (nb + 1) (2 * wb + 2) (2 * c + 3) (B - 3000) := by
  intro n m q hn
  obtain ⟨w, m1, a, w0, w4, q1⟩ := takeC (u := 4) (r := [some (.int deep), none, none]) (v := pK (.int 4)) q (by omega) (by omega) (by omega) (pK_ap _ _)
  have s1 : u1 [some m, some (.int deep), none, none] = some (.nx, [some m1, some (.int deep), some (.int w), none]) := by
    have dp' : (0 : Int) < deep := dp
    have c2 : sIfE (qU (qB (p2 (cmpD fun i j => decide (j < i)) (pVar 1) (pK (.int 0))))) (sCallA F_take (aN 0 (aE (sU (pK (.int 4))) aNil))) (sU (pK (.int 3))) [some m, some (.int deep), none, none] = some (.ok (.int w), [some m1, some (.int deep), none, none]) := by
      rw [sIfE_ap]
      have tt : qU (qB (p2 (cmpD fun i j => decide (j < i)) (pVar 1) (pK (.int 0)))) [some m, some (.int deep), none, none] = some (.ok true, [some m, some (.int deep), none, none]) := by simp [dp']
      rw [tt]
      exact a
    exact (sSet_val c2 (by simp)).trans (by simp)
  have fin : ∀ {y m' : D} {e' : T.Env}, bodyV F ([m, .int deep].map some ++ List.replicate (4 - 2) none) = some (.rt y, [some m', some (.int deep)] ++ e') → fnS 4 2 (kpL [0, 1]) (bodyV F) [m, .int deep] = some (.ok y, [some m', some (.int deep)]) := fun {y m' e'} p => fnS_rt (n := 4) (np := 2) (kp := kpL [0, 1]) rfl p
  have st : ∀ {r : Option (Fl × T.Env)}, (sSeq (sIf (isW 0) (sRet (sC tupleD (aE (lcV F) aNil))) sPass) (sSeq (sIf (isW 1) (sRet (lcV F)) sPass) (sSeq (sIf (isW 2) (sRet (sDisp1 "a" (sFrA (sFrA (sCallA F (aN 0 (aE (sU (p2 subD (pVar 1) (pK (.int 1)))) aNil))))))) sPass) u5))) [some m1, some (.int deep), some (.int w), none] = r → bodyV F ([m, .int deep].map some ++ List.replicate (4 - 2) none) = r := fun e => (sSeq_nx s1).trans e
  have lst : ∀ {ys : List D}, ys.length ≤ 2 → (∀ y ∈ ys, Zv nb wb y) → zvs nb (2 * wb + 2) ys := fun {ys} hl hz => by
    obtain ⟨x, y, ds, z⟩ := zvs_all hz
    refine ⟨x, y, ds, { z with w := Nat.le_trans z.w ?_ }⟩
    have := Nat.mul_le_mul_left (wb + 1) hl
    omega
  have cases4 : w = 0 ∨ w = 1 ∨ w = 2 ∨ w = 3 := by omega
  have no : ∀ {k : Int} {s : SS}, w ≠ k → sIf (isW k) s sPass [some m1, some (.int deep), some (.int w), none] = some (.nx, [some m1, some (.int deep), some (.int w), none]) := fun {k s} hk => by
    have := isW_ok (m := m1) (deep := deep) (w := w) (x3 := none) (k := k)
    rw [decide_eq_false hk] at this
    rw [sIf_f this]
    simp
  have yes : ∀ {k : Int} {s : SS}, w = k → sIf (isW k) s sPass [some m1, some (.int deep), some (.int w), none] = s [some m1, some (.int deep), some (.int w), none] := fun {k s} hk => by
    have := isW_ok (m := m1) (deep := deep) (w := w) (x3 := none) (k := k)
    rw [decide_eq_true hk] at this
    exact sIf_t this
  rcases cases4 with e | e | e | e
  · obtain ⟨ys, m', b, hl, hz, q2⟩ := lcV_ok (w := w) h c0 c1 hB q1 (by omega)
    obtain ⟨z1, z2, ds, z3⟩ := lst hl hz
    have v : sC tupleD (aE (lcV F) aNil) [some m1, some (.int deep), some (.int w), none] = some (.ok (.tup ys), [some m', some (.int deep), some (.int w), none]) := by
      rw [sC_ap, aE_val b (aNil_ap _)]
      simp [z1]
    exact ⟨.tup ys, m', fin (e' := [some (.int w), none]) (st (sSeq_rt' ((yes e).trans (sRet_val v)))), ⟨by simp [z1, z2], by simp [z2], _, by rw [fr_5, z2]; exact .tup z3⟩, q2.mono (by omega)⟩
  · obtain ⟨ys, m', b, hl, hz, q2⟩ := lcV_ok (w := w) h c0 c1 hB q1 (by omega)
    obtain ⟨z1, z2, ds, z3⟩ := lst hl hz
    exact ⟨.lst true ys, m', fin (e' := [some (.int w), none]) (st ((sSeq_nx (no (by omega))).trans (sSeq_rt' ((yes e).trans (sRet_val b))))), ⟨by simp, by simp [z2], _, by rw [fr_6, z2]; exact .lst z3⟩, q2.mono (by omega)⟩
  · obtain ⟨y, m', b, zy, q2⟩ := callV (w := w) (x3 := none) h q1 (by omega)
    have v : sDisp1 "a" (sFrA (sFrA (sCallA F (aN 0 (aE (sU (p2 subD (pVar 1) (pK (.int 1)))) aNil))))) [some m1, some (.int deep), some (.int w), none] = some (.ok (.dct true [(.str "a", y)]), [some m', some (.int deep), some (.int w), none]) := by
      rw [sDisp1_ap, sFrA_val b zy.fr]
    obtain ⟨d, zd⟩ := zy.ly
    have zf := zy.fr
    exact ⟨_, m', fin (e' := [some (.int w), none]) (st ((sSeq_nx (no (by omega))).trans ((sSeq_nx (no (by omega))).trans (sSeq_rt' ((yes e).trans (sRet_val v)))))), ⟨by simp, by simp [zf], _, by simp [zf]; exact (Zy.dct1 zd).mono (by omega) (by omega)⟩, q2.mono (by omega)⟩
  · obtain ⟨x, m', b, zx, q2⟩ := odd_ret (deep := deep) (w := w) (x3 := none) q1 (by omega)
    exact ⟨x, m', fin (e' := [some (.int w), none]) (st ((sSeq_nx (no (by omega))).trans ((sSeq_nx (no (by omega))).trans ((sSeq_nx (no (by omega))).trans b)))), zx.mono (by omega) (by omega), q2.mono (by omega)⟩
end
theorem value1_ok : Draws F_value1 1 11 402 5 797000 := step_ok (deep := 1) value0_ok (by omega) (by omega) (by omega) (by omega) (by omega) (by omega)
theorem value2_ok : Draws F_value2 2 12 806 13 794000 := step_ok (deep := 2) value1_ok (by omega) (by omega) (by omega) (by omega) (by omega) (by omega)
theorem value3_ok : Draws F_value3 3 13 1614 29 791000 := step_ok (deep := 3) value2_ok (by omega) (by omega) (by omega) (by omega) (by omega) (by omega)
end Q
set_option Elab.async false
set_option linter.all false
set_option maxRecDepth 100000
set_option maxHeartbeats 4000000
namespace Q
open PySem PySem.Spec PyProof.Rows L2 T
abbrev eN : List Str := ["BadLevel", "BadNumbers", "NoPlace", "OtherLevel", "BadCrowd", "BadStep", "Shut", "BadSteps", "TooMany", "BadWish", "NoKind", "NoRoom", "Unlike", "BadOffers", "BadHopes", "BadName", "NoPlayer", "Taken", "Full", "NoGate", "NotThere", "NothingToUndo", "NothingToRedo", "NoTrial", "BadJournal", "BadLine"]
abbrev allE : List Str := ["PlateError", "BadLevel", "BadNumbers", "NoPlace", "OtherLevel", "BadCrowd", "BadStep", "Shut", "BadSteps", "TooMany", "BadWish", "NoKind", "NoRoom", "Unlike", "BadOffers", "BadHopes", "BadName", "NoPlayer", "Taken", "Full", "NoGate", "NotThere", "NothingToUndo", "NothingToRedo", "NoTrial", "BadJournal", "BadLine"]
abbrev allT : List (Str × Bool) := [("PlateError", true), ("BadLevel", true), ("BadNumbers", true), ("NoPlace", true), ("OtherLevel", true), ("BadCrowd", true), ("BadStep", true), ("Shut", true), ("BadSteps", true), ("TooMany", true), ("BadWish", true), ("NoKind", true), ("NoRoom", true), ("Unlike", true), ("BadOffers", true), ("BadHopes", true), ("BadName", true), ("NoPlayer", true), ("Taken", true), ("Full", true), ("NoGate", true), ("NotThere", true), ("NothingToUndo", true), ("NothingToRedo", true), ("NoTrial", true), ("BadJournal", true), ("BadLine", true)]
def exD (v : D) (c : Str) : D := .exc c v
def mkD (c : Str) : D := .lst true (eN.map fun x => .bl (decide (x = c)))
theorem errors_ok {v : D} (hz : fz v = true) : F_errors [v] = some (.ok (.lst true (eN.map (exD v))), [some v]) := by
  have mk : ∀ c, mkX c v = some (.exc c v) := fun c => by unfold mkX; rw [if_pos hz]
  have fe : ∀ c m, fz (.exc c m) = true := fun _ _ => rfl
  simp [F_errors, b_errors, mk, fExtend, szl, exD, fe, hz]
theorem marks_ok : ∀ c ∈ allE, ∀ v : D, F_marks [.exc c v] = some (.ok (mkD c), [some (.exc c v)]) := by
  intro c hc v
  simp only [allE, List.mem_cons, List.not_mem_nil, or_false] at hc
  rcases hc with rfl | rfl | rfl | rfl | rfl | rfl | rfl | rfl | rfl | rfl | rfl | rfl | rfl | rfl | rfl | rfl | rfl | rfl | rfl | rfl | rfl | rfl | rfl | rfl | rfl | rfl | rfl <;> kernel_rfl
theorem allT_ok : ∀ c ∈ allE, List.lookup c allT = some true := by decide +kernel
theorem eN_in : ∀ c ∈ eN, c ∈ allE := by decide +kernel
end Q
set_option Elab.async false
set_option linter.all false
set_option maxRecDepth 100000
set_option maxHeartbeats 4000000
namespace Q
open PySem PySem.Spec PyProof.Rows L2 T
abbrev y2 : SS := sSet 2 (sFrA (sCallA F_value3 (aN 0 (aE (sU (pK (.int 3))) aNil))))
abbrev y3 : SS := sPar [3, 4] (aE (sCallA F_errors (aN 2 aNil)) (aE (sU (p1 (mkX "PlateError") (pVar 2))) aNil))
abbrev yA : SS := sIf (qU (qOr (qNot (qT (p1 (isXD allT) (pVar 6)))) (qNot (qT (p1 (isXD allT) (pVar 6)))))) (sRet (sU (pK (.bl false)))) sPass
abbrev lcM : SV := pLc [7] (iRgU rng1D (vCons (pC lenD (vCons (pVar 3) vNil)) vNil)) (bName 7) qYes (p2 eqD (pVar 5) (pVar 7))
abbrev yB : SS := sIf (eOr (qBE (s2V neD (sCallA F_marks (aN 6 aNil)) lcM)) (qU (qB (p2 neD (pC reprZ (vCons (pXv allE (pVar 6)) vNil)) (pC reprZ (vCons (pVar 2) vNil)))))) (sRet (sU (pK (.bl false)))) sPass
abbrev y4 : SS := sFor (iC1 enumD (sFz 3)) (bTup 2 (bCons (bName 5) (bCons (bName 6) bNil))) (sSeq yA yB)
abbrev y5 : SS := sIf (eOr (qU (qB (p2 neD (pC reprZ (vCons (pXv allE (pVar 4)) vNil)) (pC reprZ (vCons (pVar 2) vNil))))) (eOr (qU (qNot (qT (p1 (isXD allT) (pVar 4))))) (qTE (sC anyD (aE (sCallA F_marks (aN 4 aNil)) aNil))))) (sRet (sU (pK (.bl false)))) sPass
abbrev bodyY : SS := sSeq y2 (sSeq y3 (sSeq y4 y5))
theorem sPar2_val {s t : SE} {i j : Nat} {e e1 e2 : T.Env} {x y : D} (h : s e = some (.ok x, e1)) (k : t e1 = some (.ok y, e2)) (hi : i < e2.length) (hj : j < e2.length) : sPar [i, j] (aE s (aE t aNil)) e = some (.nx, (e2.set i (some x)).set j (some y)) := by
  rw [sPar_ap, aE_val h (aE_val k (aNil_ap _))]
  simp [hi, hj]
theorem eOr_f {t u : STe} {e e1 : T.Env} (h : t e = some (.ok false, e1)) : eOr t u e = u e1 := by
  unfold eOr
  rw [h]
theorem neD_self {n w : Nat} {x : D} {d : PyData} (h : Ly n w x d) (hn : n ≤ 64) : neD x x = some (.bl false) := by
  unfold neD
  rw [eqB_of h h hn hn, SeqAt.eqv_refl d h.c]
  rfl
theorem isT_ok {c : Str} (hc : c ∈ allE) {v : D} {i : Nat} {e : T.Env} (h : pVar i e = some (.exc c v)) : qNot (qT (p1 (isXD allT) (pVar i))) e = some false := by
  have l := allT_ok c hc
  have x : isXD allT (.exc c v) = some (.bl true) := by
    show (List.lookup c allT).map D.bl = _
    rw [l]
    rfl
  exact qNot_val (b := true) (qT_val (p1_val h x) rfl)
theorem xv_ok {c : Str} (hc : c ∈ allE) {v : D} {i : Nat} {e : T.Env} (h : pVar i e = some (.exc c v)) : pXv allE (pVar i) e = some v := by
  unfold pXv
  rw [h]
  simp only []
  rw [if_pos (List.contains_iff_mem.mpr hc)]
section
variable {n : Int} {m v : D} {x1 x2 x3 x4 x5 x6 x7 : Option D}
theorem y2_ok (q : Pot n m) (hn : n ≤ 700000) : ∃ v m', y2 [some m, x1, x2, x3, x4, x5, x6, x7] = some (.nx, [some m', x1, some v, x3, x4, x5, x6, x7]) ∧ Zv 13 1614 v ∧ Pot (n + 29) m' := by
  obtain ⟨y, m', a, b, c⟩ := value3_ok q (by omega)
  have g := sFrA_val (sCallA_val (argsV (r := [x1, x2, x3, x4, x5, x6, x7]) (pK_ap (.int 3) _)) (takesV q.nfz) a) rfl
  exact ⟨fr y, m', (sSet_val g (by simp)).trans (by simp), b, c⟩
theorem y3_ok (hz : fz v = true) : y3 [some m, x1, some v, x3, x4, x5, x6, x7] = some (.nx, [some m, x1, some v, some (.lst true (eN.map (exD v))), some (.exc "PlateError" v), x5, x6, x7]) := by
  have e := errors_ok hz
  have z1 : aN 2 aNil [some m, x1, some v, x3, x4, x5, x6, x7] = some (.ok [.lend 2], [some m, x1, some v, x3, x4, x5, x6, x7]) := by simp
  have z2 : takeA [.lend 2] [some m, x1, some v, x3, x4, x5, x6, x7] = some ([v], [some m, x1, some v, x3, x4, x5, x6, x7]) := by simp [hz]
  have z3 := sCallA_val z1 z2 e
  have z4 : backA [.lend 2] [some v] [some m, x1, some v, x3, x4, x5, x6, x7] = [some m, x1, some v, x3, x4, x5, x6, x7] := by simp
  rw [z4] at z3
  have g : sU (p1 (mkX "PlateError") (pVar 2)) [some m, x1, some v, x3, x4, x5, x6, x7] = some (.ok (.exc "PlateError" v), [some m, x1, some v, x3, x4, x5, x6, x7]) := sU_val (p1_val (x := v) (by simp) (by unfold mkX; rw [if_pos hz]))
  exact sPar2_val z3 g (by simp) (by simp)
theorem bools_ly (l : List Bool) : ∃ d, Ly 1 (13 * l.length) (.lst true (l.map .bl)) d := ⟨_, .lst (Lys.map fun b _ => Ly.bl b)⟩
theorem marks_at : ∀ j < 26, (eN.map fun x => decide (x = eN.getD j "")) = (List.range 26).map fun i => decide (j = i) := by decide +kernel
theorem eN_len : eN.length = 26 := rfl
theorem lcM_ok {j : Nat} (hj : j < 26) : lcM [some m, x1, some v, some (.lst false (eN.map (exD v))), x4, some (.int (j : Int)), x6, x7] = some (.lst true (((List.range 26).map fun i => decide (j = i)).map .bl)) := by
  have it : iRgU rng1D (vCons (pC lenD (vCons (pVar 3) vNil)) vNil) [some m, x1, some v, some (.lst false (eN.map (exD v))), x4, some (.int (j : Int)), x6, x7] = some ((List.range 26).map fun (i : Nat) => D.int (i : Int)) := iRgU_valU (ms := [.int ((26 : Nat) : Int)]) (by simp) (rng_nat (c := 26) (by omega))
  refine pLc_valU it (by rw [List.length_map, List.length_range]; omega) ?_
  rw [List.map_map]
  refine pLcL_map fun i hi => ⟨[some m, x1, some v, some (.lst false (eN.map (exD v))), x4, some (.int (j : Int)), x6, some (.int (i : Int))], by simp, by simp, ?_⟩
  refine p2_val (x := .int (j : Int)) (y := .int (i : Int)) (pVar_at rfl) (pVar_at rfl) ?_
  rw [eqD_int]
  by_cases q : j = i
  · subst q; simp
  · have : ¬ ((j : Int) = (i : Int)) := by omega
    simp [q, this]
theorem marks_call {c : Str} (hc : c ∈ allE) {i : Nat} {e : T.Env} (h : e[i]? = some (some (.exc c v))) : sCallA F_marks (aN i aNil) e = some (.ok (mkD c), e) := by
  have z1 : aN i aNil e = some (.ok [.lend i], e) := by rw [aN_ap, pVar_at h]; rfl
  have z2 : takeA [.lend i] e = some ([.exc c v], e) := by
    have fz0 : fz (.exc c v) = true := rfl
    simp [h, fz0]
  have z3 := sCallA_val z1 z2 (marks_ok c hc v)
  have z4 : backA [.lend i] [some (.exc c v)] e = e := by
    have fz0 : fz (.exc c v) = true := rfl
    simp [h]
  rw [z4] at z3
  exact z3
theorem yAB_ok (hv : Zv 13 1614 v) {j : Nat} (hj : j < 26) : sSeq yA yB [some m, x1, some v, some (.lst false (eN.map (exD v))), x4, some (.int (j : Int)), some (.exc (eN.getD j "") v), x7] = some (.nx, [some m, x1, some v, some (.lst false (eN.map (exD v))), x4, some (.int (j : Int)), some (.exc (eN.getD j "") v), x7]) := by
  have cin : eN.getD j "" ∈ allE := eN_in _ (by
    rw [List.getD_eq_getElem?_getD, List.getElem?_eq_getElem (show j < eN.length from hj)]
    exact List.getElem_mem _)
  have a : yA [some m, x1, some v, some (.lst false (eN.map (exD v))), x4, some (.int (j : Int)), some (.exc (eN.getD j "") v), x7] = some (.nx, [some m, x1, some v, some (.lst false (eN.map (exD v))), x4, some (.int (j : Int)), some (.exc (eN.getD j "") v), x7]) := by
    have t := isT_ok cin (v := v) (i := 6) (e := [some m, x1, some v, some (.lst false (eN.map (exD v))), x4, some (.int (j : Int)), some (.exc (eN.getD j "") v), x7]) rfl
    exact (sIf_f (qU_val ((qOr_f t).trans t))).trans (sPass_ap _)
  refine (sSeq_nx a).trans ?_
  obtain ⟨d, zd⟩ := hv.ly
  obtain ⟨t, rp, pl⟩ := zd.repr (by omega) (by omega)
  have mc := marks_call cin (v := v) (i := 6) (e := [some m, x1, some v, some (.lst false (eN.map (exD v))), x4, some (.int (j : Int)), some (.exc (eN.getD j "") v), x7]) rfl
  have l := lcM_ok (m := m) (v := v) (x1 := x1) (x4 := x4) (x6 := some (.exc (eN.getD j "") v)) (x7 := x7) hj
  have e : mkD (eN.getD j "") = .lst true (((List.range 26).map fun i => decide (j = i)).map .bl) := by
    unfold mkD
    rw [← marks_at j hj, List.map_map]
    rfl
  rw [e] at mc
  obtain ⟨d2, ly⟩ := bools_ly ((List.range 26).map fun i => decide (j = i))
  have b1 := qBE_val (s2V_val (f := neD) mc l (neD_self ly (by omega)))
  have xv := xv_ok cin (v := v) (i := 6) (e := [some m, x1, some v, some (.lst false (eN.map (exD v))), x4, some (.int (j : Int)), some (.exc (eN.getD j "") v), x7]) rfl
  have ne := neD_str pl pl
  rw [decide_eq_true rfl] at ne
  have b2 : qU (qB (p2 neD (pC reprZ (vCons (pXv allE (pVar 6)) vNil)) (pC reprZ (vCons (pVar 2) vNil)))) [some m, x1, some v, some (.lst false (eN.map (exD v))), x4, some (.int (j : Int)), some (.exc (eN.getD j "") v), x7] = some (.ok false, [some m, x1, some v, some (.lst false (eN.map (exD v))), x4, some (.int (j : Int)), some (.exc (eN.getD j "") v), x7]) :=
    qU_val (qB_val (p2_val (f := neD) (pC_val (vCons_val xv (vNil_ap _)) rp) (pC_val (vCons_val (pVar_at (i := 2) rfl) (vNil_ap _)) rp) ne))
  exact (sIf_f ((eOr_f b1).trans b2)).trans (sPass_ap _)
theorem frs_ex (l : List Str) : T.frs (l.map (exD v)) = l.map (exD v) := frs_map l fun c => by unfold exD; simp only [fr]
theorem fzs_ex (l : List Str) : fzs (l.map (exD v)) = true := fzs_map l fun _ => rfl
theorem y4_ok (hv : Zv 13 1614 v) : ∃ y5 y6, y4 [some m, x1, some v, some (.lst true (eN.map (exD v))), x4, x5, x6, x7] = some (.nx, [some m, x1, some v, some (.lst false (eN.map (exD v))), x4, y5, y6, x7]) := by
  have it : iC1 enumD (sFz 3) [some m, x1, some v, some (.lst true (eN.map (exD v))), x4, x5, x6, x7] = some (.ok (enumL 0 (eN.map (exD v))), [some m, x1, some v, some (.lst false (eN.map (exD v))), x4, x5, x6, x7]) := by
    have f : sFz 3 [some m, x1, some v, some (.lst true (eN.map (exD v))), x4, x5, x6, x7] = some (.ok (.lst false (eN.map (exD v))), [some m, x1, some v, some (.lst false (eN.map (exD v))), x4, x5, x6, x7]) := by
      unfold sFz
      rw [show pVar 3 [some m, x1, some v, some (.lst true (eN.map (exD v))), x4, x5, x6, x7] = some (.lst true (eN.map (exD v))) from rfl]
      simp only [fr_6, frs_ex]
      rfl
    have g : enumD [.lst false (eN.map (exD v))] = some (enumL 0 (eN.map (exD v))) := by
      show (seqD (.lst false (eN.map (exD v)))).map (enumL 0) = _
      rw [seqD_1, fzs_ex, if_pos rfl]
      rfl
    rw [iC1_ap, f]
    simp only [g, Option.map_some]
  obtain ⟨e', lp, y5, y6, he⟩ := loopS_inv (b := bTup 2 (bCons (bName 5) (bCons (bName 6) bNil))) (body := sSeq yA yB) (fun j env => ∃ y5 y6, env = [some m, x1, some v, some (.lst false (eN.map (exD v))), x4, y5, y6, x7]) (enumL 0 (eN.map (exD v)))
    (fun j x env hx ⟨y5, y6, he⟩ => by
      have jl : j < 26 := by
        have := (List.getElem?_eq_some_iff.mp hx).1
        rwa [enumL_len, List.length_map, eN_len] at this
      rw [enumL_get, List.getElem?_map, List.getElem?_eq_getElem (show j < eN.length from jl)] at hx
      have hx : some (D.tup [.int ((0 + j : Nat) : Int), exD v eN[j]]) = some x := hx
      cases hx
      have cd : eN.getD j "" = eN[j]'(show j < eN.length from jl) := by rw [List.getD_eq_getElem?_getD, List.getElem?_eq_getElem (show j < eN.length from jl)]; rfl
      have y := yAB_ok (m := m) (x1 := x1) (x4 := x4) (x7 := x7) hv jl
      rw [cd] at y
      refine ⟨[some m, x1, some v, some (.lst false (eN.map (exD v))), x4, some (.int (j : Int)), some (.exc (eN[j]'(show j < eN.length from jl)) v), x7], _, by rw [he, Nat.zero_add]; simp [exD], y, _, _, rfl⟩) _ ⟨x5, x6, rfl⟩
  rw [he] at lp
  exact ⟨y5, y6, sFor_val it lp⟩
theorem none_marks : anyD [mkD "PlateError"] = some (.bl false) := by kernel_rfl
theorem y5_ok (hv : Zv 13 1614 v) : y5 [some m, x1, some v, x3, some (.exc "PlateError" v), x5, x6, x7] = some (.nx, [some m, x1, some v, x3, some (.exc "PlateError" v), x5, x6, x7]) := by
  have cin : ("PlateError" : Str) ∈ allE := by decide +kernel
  obtain ⟨d, zd⟩ := hv.ly
  obtain ⟨t, rp, pl⟩ := zd.repr (by omega) (by omega)
  have mc := marks_call cin (v := v) (i := 4) (e := [some m, x1, some v, x3, some (.exc "PlateError" v), x5, x6, x7]) rfl
  have xv := xv_ok cin (v := v) (i := 4) (e := [some m, x1, some v, x3, some (.exc "PlateError" v), x5, x6, x7]) rfl
  have ne := neD_str pl pl
  rw [decide_eq_true rfl] at ne
  have b2 : qU (qB (p2 neD (pC reprZ (vCons (pXv allE (pVar 4)) vNil)) (pC reprZ (vCons (pVar 2) vNil)))) [some m, x1, some v, x3, some (.exc "PlateError" v), x5, x6, x7] = some (.ok false, [some m, x1, some v, x3, some (.exc "PlateError" v), x5, x6, x7]) :=
    qU_val (qB_val (p2_val (f := neD) (pC_val (vCons_val xv (vNil_ap _)) rp) (pC_val (vCons_val (pVar_at (i := 2) rfl) (vNil_ap _)) rp) ne))
  have b3 := qU_val (isT_ok cin (v := v) (i := 4) (e := [some m, x1, some v, x3, some (.exc "PlateError" v), x5, x6, x7]) rfl)
  have b4 : qTE (sC anyD (aE (sCallA F_marks (aN 4 aNil)) aNil)) [some m, x1, some v, x3, some (.exc "PlateError" v), x5, x6, x7] = some (.ok false, [some m, x1, some v, x3, some (.exc "PlateError" v), x5, x6, x7]) := by
    rw [qTE_ap, sC_ap, aE_val mc (aNil_ap _)]
    simp only [lookA_1, lookA_0, none_marks, sOpt_ap, Option.map_some]
    rfl
  exact (sIf_f ((eOr_f b2).trans ((eOr_f b3).trans b4))).trans (sPass_ap _)
end
theorem fine_ok {m : D} (h : Pot 0 m) : ∃ m', F_fine [m] = some (.ok (.bl true), [some m']) := by
  obtain ⟨e', lp, m', x1, x2, x3, x4, x5, x6, he, hp⟩ := loopS_inv (b := bName 1) (body := bodyY) (fun j env => ∃ (m' : D) (x1 x2 x3 x4 x5 x6 : Option D), env = [some m', x1, x2, x3, x4, x5, x6, none] ∧ Pot (50 * j) m') [.int 0, .int 1, .int 2]
    (fun j x env hx ⟨m', x1, x2, x3, x4, x5, x6, he, hp⟩ => by
      have jl : j < 3 := (List.getElem?_eq_some_iff.mp hx).1
      obtain ⟨v, m2, a2, hv, q2⟩ := y2_ok (x1 := some x) (x2 := x2) (x3 := x3) (x4 := x4) (x5 := x5) (x6 := x6) (x7 := none) hp (by omega)
      have a3 := y3_ok (m := m2) (x1 := some x) (x3 := x3) (x4 := x4) (x5 := x5) (x6 := x6) (x7 := none) hv.fz
      obtain ⟨z5, z6, a4⟩ := y4_ok (m := m2) (x1 := some x) (x4 := some (.exc "PlateError" v)) (x5 := x5) (x6 := x6) (x7 := none) hv
      have a5 := y5_ok (m := m2) (x1 := some x) (x3 := some (.lst false (eN.map (exD v)))) (x5 := z5) (x6 := z6) (x7 := none) hv
      exact ⟨[some m', some x, x2, x3, x4, x5, x6, none], _, by rw [he]; simp, (sSeq_nx a2).trans ((sSeq_nx a3).trans ((sSeq_nx a4).trans a5)), m2, some x, some v, some (.lst false (eN.map (exD v))), some (.exc "PlateError" v), z5, z6, rfl, q2.mono (by omega)⟩)
    [some m, none, none, none, none, none, none, none] ⟨m, none, none, none, none, none, none, rfl, h.mono (by omega)⟩
  rw [he] at lp
  have rg : rng1D [.int 3] = some [.int 0, .int 1, .int 2] := by
    show (if (3 : Int) < 2 ^ 62 ∧ -(2 ^ 62) ≤ (3 : Int) then some ((List.range (3 : Int).toNat).map fun i => D.int (i : Nat)) else none) = _
    rw [if_pos ⟨by decide, by decide⟩]
    rfl
  have it := iRgU_val (f := rng1D) (p := vCons (pK (.int 3)) vNil) (env := [some m, none, none, none, none, none, none, none]) (ms := [.int 3]) (by simp) rg
  have s3 : sU (pK (.bl true)) [some m', x1, x2, x3, x4, x5, x6, none] = some (.ok (.bl true), [some m', x1, x2, x3, x4, x5, x6, none]) := by simp
  have z6 : b_fine ([m].map some ++ List.replicate (8 - 1) none) = some (.rt (.bl true), [some m', x1, x2, x3, x4, x5, x6, none]) := (sSeq_nx (sFor_val it lp)).trans (sRet_val s3)
  exact ⟨m', fnS_rt (n := 8) (np := 1) (kp := kpL [0]) rfl z6⟩
end Q
set_option Elab.async false
set_option linter.all false
set_option maxRecDepth 100000
set_option maxHeartbeats 4000000
namespace Q
open PySem PySem.Spec PyProof.Rows L2 T
theorem cells_ok (ns : List Int) : ∃ c : Nat, c ≤ 3 ∧ F_cells [.klst (ns.map .int), .int 3] = some (.ok (.lst true ((List.range c).map fun (i : Nat) => .int (i : Int))), [some (.klst (ns.map .int)), some (.int 3)]) := by
  obtain ⟨z, hz, z1, z2⟩ : ∃ z : Int, (if (if (ns.length : Int) < 3 then (ns.length : Int) else 3) > 1 then (if (ns.length : Int) < 3 then (ns.length : Int) else 3) else 1) = z ∧ 1 ≤ z ∧ z ≤ 3 := ⟨_, rfl, by split <;> split <;> omega, by split <;> split <;> omega⟩
  obtain ⟨c, rfl⟩ := Int.eq_ofNat_of_zero_le (show 0 ≤ z by omega)
  have a1 : (c : Int) ≤ 1000000 := by omega
  have rg : lstRg (.int (c : Int)) = some (.lst true ((List.range c).map fun (i : Nat) => .int (i : Int))) := by
    show (if 0 ≤ (c : Int) ∧ (c : Int) ≤ 1000000 then some (D.lst true ((List.range (c : Int).toNat).map fun i => .int (i : Nat))) else none) = _
    rw [if_pos ⟨by omega, a1⟩, Int.toNat_natCast]
  have s : sU (p1 lstRg (pC max2D (vCons (pK (.int 1)) (vCons (pC min2D (vCons (pVar 1) (vCons (pC lenD (vCons (pVar 0) vNil)) vNil))) vNil)))) [some (.klst (ns.map .int)), some (.int 3)] = some (.ok (.lst true ((List.range c).map fun (i : Nat) => .int (i : Int))), [some (.klst (ns.map .int)), some (.int 3)]) := by
    simp only [sU_ap, p1_ap, pC_ap, vCons_ap, vNil_ap, pVar_ap, pK_ap, List.getElem?_cons_succ, List.getElem?_cons_zero, lenD_3, List.length_map, min2D_1, max2D_1, hz, Option.bind_some, rg, Option.map_some]
  have p6 : b_cells ([.klst (ns.map .int), .int 3].map some ++ List.replicate (2 - 2) none) = some (.rt (.lst true ((List.range c).map fun (i : Nat) => .int (i : Int))), [some (.klst (ns.map .int)), some (.int 3)]) := sRet_val s
  exact ⟨c, by omega, fnS_rt (n := 2) (np := 2) (kp := kpL [0, 1]) rfl p6⟩
theorem law_ok (ns : List Int) : ∃ os, F_P_law [.klst (ns.map .int)] = some (.ok (.bl true), os) := by
  obtain ⟨c, c3, ce⟩ := cells_ok ns
  have fk : fz (D.klst (ns.map .int)) = true := by simp
  have z : fzs ((List.range c).map fun (i : Nat) => D.int (i : Int)) = true := fzs_map _ fun _ => by simp
  have a0 : vCons (pVar 0) (vCons (pK (.int 3)) vNil) [some (.klst (ns.map .int)), none] = some [.klst (ns.map .int), .int 3] := vCons_val rfl (vCons_val rfl rfl)
  have it : iU (iP (pCall F_cells (vCons (pVar 0) (vCons (pK (.int 3)) vNil)))) [some (.klst (ns.map .int)), none] = some (.ok ((List.range c).map fun (i : Nat) => .int (i : Int)), [some (.klst (ns.map .int)), none]) := by
    have q := iP_val (pCall_val a0 (by simp) ce) (ms := (List.range c).map fun (i : Nat) => .int (i : Int)) (by rw [seqD_1, if_pos z])
    rw [iU_ap, q]
    rfl
  obtain ⟨acc, e', lp, he, ha⟩ := lcLoop_inv (own := [1]) (b := bName 1) (t := eYes) (el := sCallA F_fine (aE (sCallA F_pot (aN 0 (aN 1 aNil))) aNil)) (fun j acc env => env = [some (.klst (ns.map .int)), none] ∧ acc = List.replicate j (.bl true)) ((List.range c).map fun (i : Nat) => .int (i : Int))
    (fun j x acc env hx ⟨he, ha⟩ => by
      rw [List.getElem?_map] at hx
      cases q : (List.range c)[j]? with
      | none => rw [q] at hx; cases hx
      | some i =>
        rw [q] at hx
        cases hx
        have ic : i < c := List.mem_range.mp (List.mem_of_getElem? q)
        obtain ⟨m, a, pm⟩ := pot_ok ns i (by omega)
        obtain ⟨m', b⟩ := fine_ok pm
        have g1 : sCallA F_pot (aN 0 (aN 1 aNil)) [some (.klst (ns.map .int)), some (.int i)] = some (.ok m, [some (.klst (ns.map .int)), some (.int i)]) := by
          have p1 : aN 0 (aN 1 aNil) [some (.klst (ns.map .int)), some (.int i)] = some (.ok [.lend 0, .lend 1], [some (.klst (ns.map .int)), some (.int i)]) := by simp
          have p2 : takeA [.lend 0, .lend 1] [some (.klst (ns.map .int)), some (.int i)] = some ([.klst (ns.map .int), .int i], [some (.klst (ns.map .int)), some (.int i)]) := by simp
          have p3 := sCallA_val p1 p2 a
          have p4 : backA [.lend 0, .lend 1] [some (.klst (ns.map .int)), some (.int i)] [some (.klst (ns.map .int)), some (.int i)] = [some (.klst (ns.map .int)), some (.int i)] := by simp
          rw [p4] at p3
          exact p3
        have g2 : sCallA F_fine (aE (sCallA F_pot (aN 0 (aN 1 aNil))) aNil) [some (.klst (ns.map .int)), some (.int i)] = some (.ok (.bl true), [some (.klst (ns.map .int)), some (.int i)]) := by
          have p1 : aE (sCallA F_pot (aN 0 (aN 1 aNil))) aNil [some (.klst (ns.map .int)), some (.int i)] = some (.ok [.val m], [some (.klst (ns.map .int)), some (.int i)]) := by
            rw [aE_ap, g1]
            simp
          have p2 : takeA [.val m] [some (.klst (ns.map .int)), some (.int i)] = some ([m], [some (.klst (ns.map .int)), some (.int i)]) := by simp
          have p3 := sCallA_val p1 p2 b
          have p4 : backA [.val m] [some m'] [some (.klst (ns.map .int)), some (.int i)] = [some (.klst (ns.map .int)), some (.int i)] := by simp
          rw [p4] at p3
          exact p3
        refine ⟨[some (.klst (ns.map .int)), some (.int i)], [some (.klst (ns.map .int)), some (.int i)], .bl true, [some (.klst (ns.map .int)), some (.int i)], by rw [he]; simp, by simp, g2, by simp, ?_⟩
        rw [ha, List.replicate_succ'])
    [] [some (.klst (ns.map .int)), none] ⟨rfl, rfl⟩
  rw [List.length_map, List.length_range] at ha
  rw [he, ha] at lp
  have lc := sLc_val it (by rw [List.length_map, List.length_range]; omega) (b := bName 1) (t := eYes) (own := [1]) (el := sCallA F_fine (aE (sCallA F_pot (aN 0 (aN 1 aNil))) aNil)) lp
  have bl : boolsL (List.replicate c (D.bl true)) = some (List.replicate c true) := by
    clear lp lc ha it z a0 ce c3
    induction c with
    | zero => rfl
    | succ c ih => rw [List.replicate_succ, List.replicate_succ, boolsL, ih]; rfl
  have al : allD [.lst true (List.replicate c (D.bl true))] = some (.bl true) := by
    simp only [allD, bl, Option.map_some]
    simp
  have re : restE [some (.klst (ns.map .int)), none] [1] [some (.klst (ns.map .int)), none] = [some (.klst (ns.map .int)), none] := by simp
  rw [re] at lc
  have s : sC allD (aE (sLc [1] (iU (iP (pCall F_cells (vCons (pVar 0) (vCons (pK (.int 3)) vNil))))) (bName 1) eYes (sCallA F_fine (aE (sCallA F_pot (aN 0 (aN 1 aNil))) aNil))) aNil) [some (.klst (ns.map .int)), none] = some (.ok (.bl true), [some (.klst (ns.map .int)), none]) := by
    rw [sC_ap, aE_ap, lc]
    simp only [aNil_ap, lookA_1, lookA_0, sOpt_ap, al, Option.map_some]
  have p6 : b_P_law ([.klst (ns.map .int)].map some ++ List.replicate (2 - 1) none) = some (.rt (.bl true), [some (.klst (ns.map .int)), none]) := sRet_val s
  exact ⟨_, fnS_rt (n := 2) (np := 1) (kp := kpL [0]) rfl p6⟩
end Q
set_option Elab.async false
set_option linter.all false
set_option maxRecDepth 100000
set_option maxHeartbeats 4000000
namespace Q
open PySem PySem.Spec PyProof.Rows L2 T
def top (i : Nat) : Stmt := PySem.Challenge.pw_holdplates_k00_errors_keep_their_values.main.body.getD i (.Pass ⟨0, 0, 0, 0⟩)
section
variable {P : Program} {w : World} {K : PySem.W.Frag} {mg : Str → Option Value} {base : Heap}
abbrev st_pot : Stmt := top 29
theorem sc_pot : FnScope ["_law_script", "_law_k", "_law_cell", "_law_own", "_law_small"] ["_law_script", "_law_k"] (defScope st_pot) := ⟨rfl, rfl, rfl, by decide +kernel, rfl, by decide +kernel, by decide +kernel⟩
theorem ok_pot {f : Addr} {fd : FuncData} (F : Fun K "_law_pot" "_law_pot" st_pot f fd) (B : Blt mg)  : T.FnOk P w K mg base (L2.CX P w) 1 f fd ["_law_script", "_law_k"] (spF ⟨K, mg⟩ F_pot) := by
  have sc := sc_pot
  refine fn_ok (N := ["_law_script", "_law_k", "_law_cell", "_law_own", "_law_small"]) (ps := ["_law_script", "_law_k"]) (k := 0) (kp := kpL [0, 1]) (s := b_pot) F sc (by decide) (kpL_lt (by decide)) fun cdv A outer s0 H E hr => ?_
  have tk : Takes (cxOf (L2.CX P w) P w K mg base ["_law_script", "_law_k", "_law_cell", "_law_own", "_law_small"] "_law_pot" (defScope st_pot) f cdv A outer s0 H E) (fun cls d _ H => E cls d H) := takes_of rfl rfl rfl rfl
  exact (S_cons (S_set sc.nd rfl (by first | exact Or.inl rfl | exact Or.inr rfl) rfl (E_of (U_if (TU_cmp op_lt (o2_cmp fun i j => decide (i < j)) (nomark _) (V_var (pv 1)) (V_of (U_bi cr_lenA cd_len (by rfl) B.len PySem.boot_len (AV_cons (V_var (pv 0)) AV_nil)))) (U_ix (V_var (pv 0)) (V_var (pv 1))) (U_op or_add o2_add (V_of (U_op or_mul o2_mul (V_of U_int) (V_var (pv 1)))) (V_of U_int)))))
    (S_cons (S_set sc.nd rfl (by first | exact Or.inl rfl | exact Or.inr rfl) rfl (E_of (U_op or_mul o2_mul (V_of (U_op op_modN o2_mod (V_of (U_ty cr_intA cd_int (by rfl) B.int PyProof.Rows.boot_int (AV_cons (V_of (U_bi call_abs cd_abs (by rfl) B.abs PyProof.Rows.boot_abs (AV_cons (V_var (pv 2)) AV_nil))) AV_nil))) (V_of (U_op op_powW o2_pow (V_of (U_op op_powW o2_pow (V_of U_int) (V_of U_int))) (V_of U_int))))) (V_of (U_ty cr_intA cd_int (by rfl) B.int PyProof.Rows.boot_int (AV_cons (V_of (U_cmp op_ge (o2_cmp fun i j => decide (j ≤ i)) (nomark _) (V_of (U_bi call_abs cd_abs (by rfl) B.abs PyProof.Rows.boot_abs (AV_cons (V_var (pv 2)) AV_nil))) (V_of (U_op op_powW o2_pow (V_of U_int) (V_of U_int))))) AV_nil))))))
    (S_cons (S_set sc.nd rfl (by first | exact Or.inl rfl | exact Or.inr rfl) rfl (E_of (U_op op_modN o2_mod (V_of (U_ty cr_intA cd_int (by rfl) B.int PyProof.Rows.boot_int (AV_cons (V_var (pv 2)) AV_nil))) (V_of U_int))))
    (S_one (S_ret (E_of (U_lst (AU_cons (U_var (pv 3)) (AU_cons (U_op op_modN o2_mod (V_of (U_ty cr_intA cd_int (by rfl) B.int PyProof.Rows.boot_int (AV_cons (V_of (U_op or_add o2_add (V_of (U_op or_add o2_add (V_of (U_op or_mul o2_mul (V_var (pv 4)) (V_of U_int))) (V_of (U_op or_mul o2_mul (V_of (U_op or_mul o2_mul (V_of U_int) (V_var (pv 1)))) (V_var (pv 1)))))) (V_of U_int))) AV_nil))) (V_of U_int)) (AU_cons U_int AU_nil))))))))))
abbrev st_take : Stmt := top 30
theorem sc_take : FnScope ["_law_pot_here", "_law_upto", "_law_digit", "_law_prime", "_law_mixed"] ["_law_pot_here", "_law_upto"] (defScope st_take) := ⟨rfl, rfl, rfl, by decide +kernel, rfl, by decide +kernel, by decide +kernel⟩
theorem ok_take {f : Addr} {fd : FuncData} (F : Fun K "_law_take" "_law_take" st_take f fd) (B : Blt mg)  : T.FnOk P w K mg base (L2.CX P w) 1 f fd ["_law_pot_here", "_law_upto"] (spF ⟨K, mg⟩ F_take) := by
  have sc := sc_take
  refine fn_ok (N := ["_law_pot_here", "_law_upto", "_law_digit", "_law_prime", "_law_mixed"]) (ps := ["_law_pot_here", "_law_upto"]) (k := 0) (kp := kpL [0, 1]) (s := b_take) F sc (by decide) (kpL_lt (by decide)) fun cdv A outer s0 H E hr => ?_
  have tk : Takes (cxOf (L2.CX P w) P w K mg base ["_law_pot_here", "_law_upto", "_law_digit", "_law_prime", "_law_mixed"] "_law_take" (defScope st_take) f cdv A outer s0 H E) (fun cls d _ H => E cls d H) := takes_of rfl rfl rfl rfl
  exact (S_cons (S_if (TE_of (TU_cmp op_gt (o2_cmp fun i j => decide (j < i)) (nomark _) (V_of (U_ix (V_var (pv 0)) (V_of U_int))) (V_of U_int))) (S_cons (S_set sc.nd rfl (by first | exact Or.inl rfl | exact Or.inr rfl) rfl (E_of (U_op op_modN o2_mod (V_of (U_ty cr_intA cd_int (by rfl) B.int PyProof.Rows.boot_int (AV_cons (V_of (U_ix (V_var (pv 0)) (V_of U_int))) AV_nil))) (V_var (pv 1)))))
    (S_cons (S_setIx (E_of (U_op op_fdivN o2_div (V_of (U_ix (V_var (pv 0)) (V_of U_int))) (V_var (pv 1)))) (pv 0) (V_of U_int))
    (S_one (S_ret (E_move (pv 2)))))) S_nil)
    (S_cons (S_setIx (E_of (U_op or_add o2_add (V_of (U_ix (V_var (pv 0)) (V_of U_int))) (V_of U_int))) (pv 0) (V_of U_int))
    (S_cons (S_set sc.nd rfl (by first | exact Or.inl rfl | exact Or.inr rfl) rfl (E_of (U_ix (V_of (U_lst (AU_cons U_int (AU_cons U_int (AU_cons U_int (AU_cons U_int (AU_cons U_int AU_nil))))))) (V_of (U_op op_modN o2_mod (V_of (U_ty cr_intA cd_int (by rfl) B.int PyProof.Rows.boot_int (AV_cons (V_of (U_ix (V_var (pv 0)) (V_of U_int))) AV_nil))) (V_of U_int))))))
    (S_cons (S_set sc.nd rfl (by first | exact Or.inl rfl | exact Or.inr rfl) rfl (E_of (U_op op_modN o2_mod (V_of (U_ty cr_intA cd_int (by rfl) B.int PyProof.Rows.boot_int (AV_cons (V_of (U_op op_powW o2_pow (V_of (U_ty cr_intA cd_int (by rfl) B.int PyProof.Rows.boot_int (AV_cons (V_of (U_op or_add o2_add (V_of (U_op or_add o2_add (V_of (U_ix (V_var (pv 0)) (V_of U_int))) (V_of (U_op or_mul o2_mul (V_of (U_op or_mul o2_mul (V_of U_int) (V_of (U_ix (V_var (pv 0)) (V_of U_int))))) (V_of (U_ix (V_var (pv 0)) (V_of U_int))))))) (V_of U_int))) AV_nil))) (V_of U_int))) AV_nil))) (V_var (pv 3)))))
    (S_one (S_ret (E_of (U_op op_modN o2_mod (V_of (U_ty cr_intA cd_int (by rfl) B.int PyProof.Rows.boot_int (AV_cons (V_of (U_op op_fdivN o2_div (V_of (U_op or_mul o2_mul (V_var (pv 4)) (V_of (U_op or_add o2_add (V_of (U_op op_modN o2_mod (V_of (U_ty cr_intA cd_int (by rfl) B.int PyProof.Rows.boot_int (AV_cons (V_var (pv 4)) AV_nil))) (V_of U_int))) (V_of (U_op or_mul o2_mul (V_of U_int) (V_of (U_ix (V_var (pv 0)) (V_of U_int))))))))) (V_of U_int))) AV_nil))) (V_var (pv 1))))))))))
abbrev st_of : Stmt := top 31
theorem sc_of : FnScope ["_law_pot_here", "_law_some"] ["_law_pot_here", "_law_some"] (defScope st_of) := ⟨rfl, rfl, rfl, by decide +kernel, rfl, by decide +kernel, by decide +kernel⟩
theorem ok_of {f : Addr} {fd : FuncData} (F : Fun K "_law_of" "_law_of" st_of f fd) (B : Blt mg) (d_take : Df P w K mg base 1 "_law_take" F_take) : T.FnOk P w K mg base (L2.CX P w) 2 f fd ["_law_pot_here", "_law_some"] (spF ⟨K, mg⟩ F_of) := by
  have sc := sc_of
  refine fn_ok (N := ["_law_pot_here", "_law_some"]) (ps := ["_law_pot_here", "_law_some"]) (k := 1) (kp := kpL [0, 1]) (s := b_of) F sc (by decide) (kpL_lt (by decide)) fun cdv A outer s0 H E hr => ?_
  have tk : Takes (cxOf (L2.CX P w) P w K mg base ["_law_pot_here", "_law_some"] "_law_of" (defScope st_of) f cdv A outer s0 H E) (fun cls d _ H => E cls d H) := takes_of rfl rfl rfl rfl
  exact (S_one (S_ret (E_ixNE (pv 1) (E_call d_take hr (by decide) tk (by rfl) (A_consN (pv 0) (A_cons (E_of (U_bi cr_lenA cd_len (by rfl) B.len PySem.boot_len (AV_cons (V_var (pv 1)) AV_nil))) A_nil))))))
abbrev st_odd : Stmt := top 32
theorem sc_odd : FnScope ["_law_pot_here", "_law_some"] ["_law_pot_here"] (defScope st_odd) := ⟨rfl, rfl, rfl, by decide +kernel, rfl, by decide +kernel, by decide +kernel⟩
theorem ok_odd {f : Addr} {fd : FuncData} (F : Fun K "_law_odd" "_law_odd" st_odd f fd) (B : Blt mg) (d_of : Df P w K mg base 2 "_law_of" F_of) : T.FnOk P w K mg base (L2.CX P w) 3 f fd ["_law_pot_here"] (spF ⟨K, mg⟩ F_odd) := by
  have sc := sc_odd
  refine fn_ok (N := ["_law_pot_here", "_law_some"]) (ps := ["_law_pot_here"]) (k := 2) (kp := kpL [0]) (s := b_odd) F sc (by decide) (kpL_lt (by decide)) fun cdv A outer s0 H E hr => ?_
  have tk : Takes (cxOf (L2.CX P w) P w K mg base ["_law_pot_here", "_law_some"] "_law_odd" (defScope st_odd) f cdv A outer s0 H E) (fun cls d _ H => E cls d H) := takes_of rfl rfl rfl rfl
  exact (S_cons (S_set sc.nd rfl (by first | exact Or.inl rfl | exact Or.inr rfl) rfl (E_of (U_lst (AU_cons U_non (AU_cons U_bl (AU_cons U_bl (AU_cons U_int (AU_cons U_int (AU_cons (U_neg (V_of U_int)) (AU_cons (U_op op_powW o2_pow (V_of U_int) (V_of U_int)) (AU_cons U_str (AU_cons U_str (AU_cons U_str (AU_cons U_str (AU_cons (U_tup AU_nil) (AU_cons (U_frz (U_lst AU_nil)) (AU_cons (U_frz U_dn) (AU_cons (U_tup (AU_cons U_int AU_nil)) (AU_cons (U_tup (AU_cons (U_tup AU_nil) AU_nil)) (AU_cons (U_frz (U_lst (AU_cons U_int AU_nil))) (AU_cons (U_tup (AU_cons U_str AU_nil)) AU_nil)))))))))))))))))))))
    (S_one (S_ret (E_call d_of hr (by decide) tk (by rfl) (A_consN (pv 0) (A_cons (E_of (U_op or_add o2_add (V_var (pv 1)) (V_of (U_lst (AU_cons (U_tup (AU_cons U_int (AU_cons U_int AU_nil))) (AU_cons (U_tup (AU_cons U_str (AU_cons U_str AU_nil))) (AU_cons (U_tup (AU_cons U_str (AU_cons (U_tup AU_nil) AU_nil))) (AU_cons (U_tup (AU_cons U_str (AU_cons (U_tup AU_nil) AU_nil))) (AU_cons (U_tup (AU_cons U_bl (AU_cons U_int AU_nil))) (AU_cons (U_tup (AU_cons (U_tup (AU_cons U_int (AU_cons U_int AU_nil))) (AU_cons (U_tup AU_nil) AU_nil))) AU_nil)))))))))) A_nil))))))
abbrev st_cells : Stmt := top 33
theorem sc_cells : FnScope ["_law_script", "_law_limit"] ["_law_script", "_law_limit"] (defScope st_cells) := ⟨rfl, rfl, rfl, by decide +kernel, rfl, by decide +kernel, by decide +kernel⟩
theorem ok_cells {f : Addr} {fd : FuncData} (F : Fun K "_law_cells" "_law_cells" st_cells f fd) (B : Blt mg)  : T.FnOk P w K mg base (L2.CX P w) 1 f fd ["_law_script", "_law_limit"] (spF ⟨K, mg⟩ F_cells) := by
  have sc := sc_cells
  refine fn_ok (N := ["_law_script", "_law_limit"]) (ps := ["_law_script", "_law_limit"]) (k := 0) (kp := kpL [0, 1]) (s := b_cells) F sc (by decide) (kpL_lt (by decide)) fun cdv A outer s0 H E hr => ?_
  have tk : Takes (cxOf (L2.CX P w) P w K mg base ["_law_script", "_law_limit"] "_law_cells" (defScope st_cells) f cdv A outer s0 H E) (fun cls d _ H => E cls d H) := takes_of rfl rfl rfl rfl
  exact (S_one (S_ret (E_of (U_lstRg rfl (by rfl) B.list (by rfl) B.range (V_of (U_bi (call_max2 rfl) cd_max2 (by rfl) B.max PyProof.Rows.boot_max (AV_cons (V_of U_int) (AV_cons (V_of (U_bi (call_min2 rfl) cd_min2 (by rfl) B.min PyProof.Rows.boot_min (AV_cons (V_var (pv 1)) (AV_cons (V_of (U_bi cr_lenA cd_len (by rfl) B.len PySem.boot_len (AV_cons (V_var (pv 0)) AV_nil))) AV_nil)))) AV_nil))))))))
abbrev st_errors : Stmt := top 34
theorem sc_errors : FnScope ["_law_value_here", "_law_found"] ["_law_value_here"] (defScope st_errors) := ⟨rfl, rfl, rfl, by decide +kernel, rfl, by decide +kernel, by decide +kernel⟩
theorem ok_errors {f : Addr} {fd : FuncData} (F : Fun K "_law_errors" "_law_errors" st_errors f fd) (B : Blt mg) (r_BadCrowd : Erk P K mg "BadCrowd") (r_OtherLevel : Erk P K mg "OtherLevel") (r_NoPlace : Erk P K mg "NoPlace") (r_BadNumbers : Erk P K mg "BadNumbers") (r_BadLevel : Erk P K mg "BadLevel") (r_BadWish : Erk P K mg "BadWish") (r_TooMany : Erk P K mg "TooMany") (r_BadSteps : Erk P K mg "BadSteps") (r_Shut : Erk P K mg "Shut") (r_BadStep : Erk P K mg "BadStep") (r_BadHopes : Erk P K mg "BadHopes") (r_BadOffers : Erk P K mg "BadOffers") (r_Unlike : Erk P K mg "Unlike") (r_NoRoom : Erk P K mg "NoRoom") (r_NoKind : Erk P K mg "NoKind") (r_NoGate : Erk P K mg "NoGate") (r_Full : Erk P K mg "Full") (r_Taken : Erk P K mg "Taken") (r_NoPlayer : Erk P K mg "NoPlayer") (r_BadName : Erk P K mg "BadName") (r_BadJournal : Erk P K mg "BadJournal") (r_NoTrial : Erk P K mg "NoTrial") (r_NothingToRedo : Erk P K mg "NothingToRedo") (r_NothingToUndo : Erk P K mg "NothingToUndo") (r_NotThere : Erk P K mg "NotThere") (r_BadLine : Erk P K mg "BadLine") : T.FnOk P w K mg base (L2.CX P w) 3 f fd ["_law_value_here"] (spF ⟨K, mg⟩ F_errors) := by
  have sc := sc_errors
  refine fn_ok (N := ["_law_value_here", "_law_found"]) (ps := ["_law_value_here"]) (k := 2) (kp := kpL [0]) (s := b_errors) F sc (by decide) (kpL_lt (by decide)) fun cdv A outer s0 H E hr => ?_
  have tk : Takes (cxOf (L2.CX P w) P w K mg base ["_law_value_here", "_law_found"] "_law_errors" (defScope st_errors) f cdv A outer s0 H E) (fun cls d _ H => E cls d H) := takes_of rfl rfl rfl rfl
  exact (S_cons (S_set sc.nd rfl (by first | exact Or.inl rfl | exact Or.inr rfl) rfl (E_of (U_lst (AU_cons (U_mkX (j := 0) r_BadLevel (hr.mono (by decide)) (by rfl) (V_var (pv 0))) (AU_cons (U_mkX (j := 0) r_BadNumbers (hr.mono (by decide)) (by rfl) (V_var (pv 0))) (AU_cons (U_mkX (j := 0) r_NoPlace (hr.mono (by decide)) (by rfl) (V_var (pv 0))) (AU_cons (U_mkX (j := 0) r_OtherLevel (hr.mono (by decide)) (by rfl) (V_var (pv 0))) (AU_cons (U_mkX (j := 0) r_BadCrowd (hr.mono (by decide)) (by rfl) (V_var (pv 0))) AU_nil))))))))
    (S_cons (S_expr (E_lm lm_extend (pe_bm PySem.F.plainAttrs_list PySem.F.slot_list_extend PySem.F.type_list_extend mt_extR (pv 1) (pa_cons (E_of (U_lst (AU_cons (U_mkX (j := 0) r_BadStep (hr.mono (by decide)) (by rfl) (V_var (pv 0))) (AU_cons (U_mkX (j := 0) r_Shut (hr.mono (by decide)) (by rfl) (V_var (pv 0))) (AU_cons (U_mkX (j := 0) r_BadSteps (hr.mono (by decide)) (by rfl) (V_var (pv 0))) (AU_cons (U_mkX (j := 0) r_TooMany (hr.mono (by decide)) (by rfl) (V_var (pv 0))) (AU_cons (U_mkX (j := 0) r_BadWish (hr.mono (by decide)) (by rfl) (V_var (pv 0))) AU_nil))))))) pa_nil))))
    (S_cons (S_expr (E_lm lm_extend (pe_bm PySem.F.plainAttrs_list PySem.F.slot_list_extend PySem.F.type_list_extend mt_extR (pv 1) (pa_cons (E_of (U_lst (AU_cons (U_mkX (j := 0) r_NoKind (hr.mono (by decide)) (by rfl) (V_var (pv 0))) (AU_cons (U_mkX (j := 0) r_NoRoom (hr.mono (by decide)) (by rfl) (V_var (pv 0))) (AU_cons (U_mkX (j := 0) r_Unlike (hr.mono (by decide)) (by rfl) (V_var (pv 0))) (AU_cons (U_mkX (j := 0) r_BadOffers (hr.mono (by decide)) (by rfl) (V_var (pv 0))) (AU_cons (U_mkX (j := 0) r_BadHopes (hr.mono (by decide)) (by rfl) (V_var (pv 0))) AU_nil))))))) pa_nil))))
    (S_cons (S_expr (E_lm lm_extend (pe_bm PySem.F.plainAttrs_list PySem.F.slot_list_extend PySem.F.type_list_extend mt_extR (pv 1) (pa_cons (E_of (U_lst (AU_cons (U_mkX (j := 0) r_BadName (hr.mono (by decide)) (by rfl) (V_var (pv 0))) (AU_cons (U_mkX (j := 0) r_NoPlayer (hr.mono (by decide)) (by rfl) (V_var (pv 0))) (AU_cons (U_mkX (j := 0) r_Taken (hr.mono (by decide)) (by rfl) (V_var (pv 0))) (AU_cons (U_mkX (j := 0) r_Full (hr.mono (by decide)) (by rfl) (V_var (pv 0))) (AU_cons (U_mkX (j := 0) r_NoGate (hr.mono (by decide)) (by rfl) (V_var (pv 0))) AU_nil))))))) pa_nil))))
    (S_cons (S_expr (E_lm lm_extend (pe_bm PySem.F.plainAttrs_list PySem.F.slot_list_extend PySem.F.type_list_extend mt_extR (pv 1) (pa_cons (E_of (U_lst (AU_cons (U_mkX (j := 0) r_NotThere (hr.mono (by decide)) (by rfl) (V_var (pv 0))) (AU_cons (U_mkX (j := 0) r_NothingToUndo (hr.mono (by decide)) (by rfl) (V_var (pv 0))) (AU_cons (U_mkX (j := 0) r_NothingToRedo (hr.mono (by decide)) (by rfl) (V_var (pv 0))) (AU_cons (U_mkX (j := 0) r_NoTrial (hr.mono (by decide)) (by rfl) (V_var (pv 0))) (AU_cons (U_mkX (j := 0) r_BadJournal (hr.mono (by decide)) (by rfl) (V_var (pv 0))) AU_nil))))))) pa_nil))))
    (S_cons (S_expr (E_lm lm_extend (pe_bm PySem.F.plainAttrs_list PySem.F.slot_list_extend PySem.F.type_list_extend mt_extR (pv 1) (pa_cons (E_of (U_lst (AU_cons (U_mkX (j := 0) r_BadLine (hr.mono (by decide)) (by rfl) (V_var (pv 0))) AU_nil))) pa_nil))))
    (S_one (S_ret (E_move (pv 1))))))))))
abbrev st_marks : Stmt := top 35
theorem sc_marks : FnScope ["_law_error", "_law_found"] ["_law_error"] (defScope st_marks) := ⟨rfl, rfl, rfl, by decide +kernel, rfl, by decide +kernel, by decide +kernel⟩
theorem ok_marks {f : Addr} {fd : FuncData} (F : Fun K "_law_marks" "_law_marks" st_marks f fd) (B : Blt mg) (x_NoPlace : IsX K mg "NoPlace" [("PlateError", false), ("BadLevel", false), ("BadNumbers", false), ("NoPlace", true), ("OtherLevel", false), ("BadCrowd", false), ("BadStep", false), ("Shut", false), ("BadSteps", false), ("TooMany", false), ("BadWish", false), ("NoKind", false), ("NoRoom", false), ("Unlike", false), ("BadOffers", false), ("BadHopes", false), ("BadName", false), ("NoPlayer", false), ("Taken", false), ("Full", false), ("NoGate", false), ("NotThere", false), ("NothingToUndo", false), ("NothingToRedo", false), ("NoTrial", false), ("BadJournal", false), ("BadLine", false)]) (x_BadNumbers : IsX K mg "BadNumbers" [("PlateError", false), ("BadLevel", false), ("BadNumbers", true), ("NoPlace", false), ("OtherLevel", false), ("BadCrowd", false), ("BadStep", false), ("Shut", false), ("BadSteps", false), ("TooMany", false), ("BadWish", false), ("NoKind", false), ("NoRoom", false), ("Unlike", false), ("BadOffers", false), ("BadHopes", false), ("BadName", false), ("NoPlayer", false), ("Taken", false), ("Full", false), ("NoGate", false), ("NotThere", false), ("NothingToUndo", false), ("NothingToRedo", false), ("NoTrial", false), ("BadJournal", false), ("BadLine", false)]) (x_BadLevel : IsX K mg "BadLevel" [("PlateError", false), ("BadLevel", true), ("BadNumbers", false), ("NoPlace", false), ("OtherLevel", false), ("BadCrowd", false), ("BadStep", false), ("Shut", false), ("BadSteps", false), ("TooMany", false), ("BadWish", false), ("NoKind", false), ("NoRoom", false), ("Unlike", false), ("BadOffers", false), ("BadHopes", false), ("BadName", false), ("NoPlayer", false), ("Taken", false), ("Full", false), ("NoGate", false), ("NotThere", false), ("NothingToUndo", false), ("NothingToRedo", false), ("NoTrial", false), ("BadJournal", false), ("BadLine", false)]) (x_BadStep : IsX K mg "BadStep" [("PlateError", false), ("BadLevel", false), ("BadNumbers", false), ("NoPlace", false), ("OtherLevel", false), ("BadCrowd", false), ("BadStep", true), ("Shut", false), ("BadSteps", false), ("TooMany", false), ("BadWish", false), ("NoKind", false), ("NoRoom", false), ("Unlike", false), ("BadOffers", false), ("BadHopes", false), ("BadName", false), ("NoPlayer", false), ("Taken", false), ("Full", false), ("NoGate", false), ("NotThere", false), ("NothingToUndo", false), ("NothingToRedo", false), ("NoTrial", false), ("BadJournal", false), ("BadLine", false)]) (x_BadCrowd : IsX K mg "BadCrowd" [("PlateError", false), ("BadLevel", false), ("BadNumbers", false), ("NoPlace", false), ("OtherLevel", false), ("BadCrowd", true), ("BadStep", false), ("Shut", false), ("BadSteps", false), ("TooMany", false), ("BadWish", false), ("NoKind", false), ("NoRoom", false), ("Unlike", false), ("BadOffers", false), ("BadHopes", false), ("BadName", false), ("NoPlayer", false), ("Taken", false), ("Full", false), ("NoGate", false), ("NotThere", false), ("NothingToUndo", false), ("NothingToRedo", false), ("NoTrial", false), ("BadJournal", false), ("BadLine", false)]) (x_OtherLevel : IsX K mg "OtherLevel" [("PlateError", false), ("BadLevel", false), ("BadNumbers", false), ("NoPlace", false), ("OtherLevel", true), ("BadCrowd", false), ("BadStep", false), ("Shut", false), ("BadSteps", false), ("TooMany", false), ("BadWish", false), ("NoKind", false), ("NoRoom", false), ("Unlike", false), ("BadOffers", false), ("BadHopes", false), ("BadName", false), ("NoPlayer", false), ("Taken", false), ("Full", false), ("NoGate", false), ("NotThere", false), ("NothingToUndo", false), ("NothingToRedo", false), ("NoTrial", false), ("BadJournal", false), ("BadLine", false)]) (x_TooMany : IsX K mg "TooMany" [("PlateError", false), ("BadLevel", false), ("BadNumbers", false), ("NoPlace", false), ("OtherLevel", false), ("BadCrowd", false), ("BadStep", false), ("Shut", false), ("BadSteps", false), ("TooMany", true), ("BadWish", false), ("NoKind", false), ("NoRoom", false), ("Unlike", false), ("BadOffers", false), ("BadHopes", false), ("BadName", false), ("NoPlayer", false), ("Taken", false), ("Full", false), ("NoGate", false), ("NotThere", false), ("NothingToUndo", false), ("NothingToRedo", false), ("NoTrial", false), ("BadJournal", false), ("BadLine", false)]) (x_BadSteps : IsX K mg "BadSteps" [("PlateError", false), ("BadLevel", false), ("BadNumbers", false), ("NoPlace", false), ("OtherLevel", false), ("BadCrowd", false), ("BadStep", false), ("Shut", false), ("BadSteps", true), ("TooMany", false), ("BadWish", false), ("NoKind", false), ("NoRoom", false), ("Unlike", false), ("BadOffers", false), ("BadHopes", false), ("BadName", false), ("NoPlayer", false), ("Taken", false), ("Full", false), ("NoGate", false), ("NotThere", false), ("NothingToUndo", false), ("NothingToRedo", false), ("NoTrial", false), ("BadJournal", false), ("BadLine", false)]) (x_Shut : IsX K mg "Shut" [("PlateError", false), ("BadLevel", false), ("BadNumbers", false), ("NoPlace", false), ("OtherLevel", false), ("BadCrowd", false), ("BadStep", false), ("Shut", true), ("BadSteps", false), ("TooMany", false), ("BadWish", false), ("NoKind", false), ("NoRoom", false), ("Unlike", false), ("BadOffers", false), ("BadHopes", false), ("BadName", false), ("NoPlayer", false), ("Taken", false), ("Full", false), ("NoGate", false), ("NotThere", false), ("NothingToUndo", false), ("NothingToRedo", false), ("NoTrial", false), ("BadJournal", false), ("BadLine", false)]) (x_NoRoom : IsX K mg "NoRoom" [("PlateError", false), ("BadLevel", false), ("BadNumbers", false), ("NoPlace", false), ("OtherLevel", false), ("BadCrowd", false), ("BadStep", false), ("Shut", false), ("BadSteps", false), ("TooMany", false), ("BadWish", false), ("NoKind", false), ("NoRoom", true), ("Unlike", false), ("BadOffers", false), ("BadHopes", false), ("BadName", false), ("NoPlayer", false), ("Taken", false), ("Full", false), ("NoGate", false), ("NotThere", false), ("NothingToUndo", false), ("NothingToRedo", false), ("NoTrial", false), ("BadJournal", false), ("BadLine", false)]) (x_NoKind : IsX K mg "NoKind" [("PlateError", false), ("BadLevel", false), ("BadNumbers", false), ("NoPlace", false), ("OtherLevel", false), ("BadCrowd", false), ("BadStep", false), ("Shut", false), ("BadSteps", false), ("TooMany", false), ("BadWish", false), ("NoKind", true), ("NoRoom", false), ("Unlike", false), ("BadOffers", false), ("BadHopes", false), ("BadName", false), ("NoPlayer", false), ("Taken", false), ("Full", false), ("NoGate", false), ("NotThere", false), ("NothingToUndo", false), ("NothingToRedo", false), ("NoTrial", false), ("BadJournal", false), ("BadLine", false)]) (x_BadWish : IsX K mg "BadWish" [("PlateError", false), ("BadLevel", false), ("BadNumbers", false), ("NoPlace", false), ("OtherLevel", false), ("BadCrowd", false), ("BadStep", false), ("Shut", false), ("BadSteps", false), ("TooMany", false), ("BadWish", true), ("NoKind", false), ("NoRoom", false), ("Unlike", false), ("BadOffers", false), ("BadHopes", false), ("BadName", false), ("NoPlayer", false), ("Taken", false), ("Full", false), ("NoGate", false), ("NotThere", false), ("NothingToUndo", false), ("NothingToRedo", false), ("NoTrial", false), ("BadJournal", false), ("BadLine", false)]) (x_BadHopes : IsX K mg "BadHopes" [("PlateError", false), ("BadLevel", false), ("BadNumbers", false), ("NoPlace", false), ("OtherLevel", false), ("BadCrowd", false), ("BadStep", false), ("Shut", false), ("BadSteps", false), ("TooMany", false), ("BadWish", false), ("NoKind", false), ("NoRoom", false), ("Unlike", false), ("BadOffers", false), ("BadHopes", true), ("BadName", false), ("NoPlayer", false), ("Taken", false), ("Full", false), ("NoGate", false), ("NotThere", false), ("NothingToUndo", false), ("NothingToRedo", false), ("NoTrial", false), ("BadJournal", false), ("BadLine", false)]) (x_BadOffers : IsX K mg "BadOffers" [("PlateError", false), ("BadLevel", false), ("BadNumbers", false), ("NoPlace", false), ("OtherLevel", false), ("BadCrowd", false), ("BadStep", false), ("Shut", false), ("BadSteps", false), ("TooMany", false), ("BadWish", false), ("NoKind", false), ("NoRoom", false), ("Unlike", false), ("BadOffers", true), ("BadHopes", false), ("BadName", false), ("NoPlayer", false), ("Taken", false), ("Full", false), ("NoGate", false), ("NotThere", false), ("NothingToUndo", false), ("NothingToRedo", false), ("NoTrial", false), ("BadJournal", false), ("BadLine", false)]) (x_Unlike : IsX K mg "Unlike" [("PlateError", false), ("BadLevel", false), ("BadNumbers", false), ("NoPlace", false), ("OtherLevel", false), ("BadCrowd", false), ("BadStep", false), ("Shut", false), ("BadSteps", false), ("TooMany", false), ("BadWish", false), ("NoKind", false), ("NoRoom", false), ("Unlike", true), ("BadOffers", false), ("BadHopes", false), ("BadName", false), ("NoPlayer", false), ("Taken", false), ("Full", false), ("NoGate", false), ("NotThere", false), ("NothingToUndo", false), ("NothingToRedo", false), ("NoTrial", false), ("BadJournal", false), ("BadLine", false)]) (x_Taken : IsX K mg "Taken" [("PlateError", false), ("BadLevel", false), ("BadNumbers", false), ("NoPlace", false), ("OtherLevel", false), ("BadCrowd", false), ("BadStep", false), ("Shut", false), ("BadSteps", false), ("TooMany", false), ("BadWish", false), ("NoKind", false), ("NoRoom", false), ("Unlike", false), ("BadOffers", false), ("BadHopes", false), ("BadName", false), ("NoPlayer", false), ("Taken", true), ("Full", false), ("NoGate", false), ("NotThere", false), ("NothingToUndo", false), ("NothingToRedo", false), ("NoTrial", false), ("BadJournal", false), ("BadLine", false)]) (x_NoPlayer : IsX K mg "NoPlayer" [("PlateError", false), ("BadLevel", false), ("BadNumbers", false), ("NoPlace", false), ("OtherLevel", false), ("BadCrowd", false), ("BadStep", false), ("Shut", false), ("BadSteps", false), ("TooMany", false), ("BadWish", false), ("NoKind", false), ("NoRoom", false), ("Unlike", false), ("BadOffers", false), ("BadHopes", false), ("BadName", false), ("NoPlayer", true), ("Taken", false), ("Full", false), ("NoGate", false), ("NotThere", false), ("NothingToUndo", false), ("NothingToRedo", false), ("NoTrial", false), ("BadJournal", false), ("BadLine", false)]) (x_BadName : IsX K mg "BadName" [("PlateError", false), ("BadLevel", false), ("BadNumbers", false), ("NoPlace", false), ("OtherLevel", false), ("BadCrowd", false), ("BadStep", false), ("Shut", false), ("BadSteps", false), ("TooMany", false), ("BadWish", false), ("NoKind", false), ("NoRoom", false), ("Unlike", false), ("BadOffers", false), ("BadHopes", false), ("BadName", true), ("NoPlayer", false), ("Taken", false), ("Full", false), ("NoGate", false), ("NotThere", false), ("NothingToUndo", false), ("NothingToRedo", false), ("NoTrial", false), ("BadJournal", false), ("BadLine", false)]) (x_NotThere : IsX K mg "NotThere" [("PlateError", false), ("BadLevel", false), ("BadNumbers", false), ("NoPlace", false), ("OtherLevel", false), ("BadCrowd", false), ("BadStep", false), ("Shut", false), ("BadSteps", false), ("TooMany", false), ("BadWish", false), ("NoKind", false), ("NoRoom", false), ("Unlike", false), ("BadOffers", false), ("BadHopes", false), ("BadName", false), ("NoPlayer", false), ("Taken", false), ("Full", false), ("NoGate", false), ("NotThere", true), ("NothingToUndo", false), ("NothingToRedo", false), ("NoTrial", false), ("BadJournal", false), ("BadLine", false)]) (x_NoGate : IsX K mg "NoGate" [("PlateError", false), ("BadLevel", false), ("BadNumbers", false), ("NoPlace", false), ("OtherLevel", false), ("BadCrowd", false), ("BadStep", false), ("Shut", false), ("BadSteps", false), ("TooMany", false), ("BadWish", false), ("NoKind", false), ("NoRoom", false), ("Unlike", false), ("BadOffers", false), ("BadHopes", false), ("BadName", false), ("NoPlayer", false), ("Taken", false), ("Full", false), ("NoGate", true), ("NotThere", false), ("NothingToUndo", false), ("NothingToRedo", false), ("NoTrial", false), ("BadJournal", false), ("BadLine", false)]) (x_Full : IsX K mg "Full" [("PlateError", false), ("BadLevel", false), ("BadNumbers", false), ("NoPlace", false), ("OtherLevel", false), ("BadCrowd", false), ("BadStep", false), ("Shut", false), ("BadSteps", false), ("TooMany", false), ("BadWish", false), ("NoKind", false), ("NoRoom", false), ("Unlike", false), ("BadOffers", false), ("BadHopes", false), ("BadName", false), ("NoPlayer", false), ("Taken", false), ("Full", true), ("NoGate", false), ("NotThere", false), ("NothingToUndo", false), ("NothingToRedo", false), ("NoTrial", false), ("BadJournal", false), ("BadLine", false)]) (x_NoTrial : IsX K mg "NoTrial" [("PlateError", false), ("BadLevel", false), ("BadNumbers", false), ("NoPlace", false), ("OtherLevel", false), ("BadCrowd", false), ("BadStep", false), ("Shut", false), ("BadSteps", false), ("TooMany", false), ("BadWish", false), ("NoKind", false), ("NoRoom", false), ("Unlike", false), ("BadOffers", false), ("BadHopes", false), ("BadName", false), ("NoPlayer", false), ("Taken", false), ("Full", false), ("NoGate", false), ("NotThere", false), ("NothingToUndo", false), ("NothingToRedo", false), ("NoTrial", true), ("BadJournal", false), ("BadLine", false)]) (x_NothingToRedo : IsX K mg "NothingToRedo" [("PlateError", false), ("BadLevel", false), ("BadNumbers", false), ("NoPlace", false), ("OtherLevel", false), ("BadCrowd", false), ("BadStep", false), ("Shut", false), ("BadSteps", false), ("TooMany", false), ("BadWish", false), ("NoKind", false), ("NoRoom", false), ("Unlike", false), ("BadOffers", false), ("BadHopes", false), ("BadName", false), ("NoPlayer", false), ("Taken", false), ("Full", false), ("NoGate", false), ("NotThere", false), ("NothingToUndo", false), ("NothingToRedo", true), ("NoTrial", false), ("BadJournal", false), ("BadLine", false)]) (x_NothingToUndo : IsX K mg "NothingToUndo" [("PlateError", false), ("BadLevel", false), ("BadNumbers", false), ("NoPlace", false), ("OtherLevel", false), ("BadCrowd", false), ("BadStep", false), ("Shut", false), ("BadSteps", false), ("TooMany", false), ("BadWish", false), ("NoKind", false), ("NoRoom", false), ("Unlike", false), ("BadOffers", false), ("BadHopes", false), ("BadName", false), ("NoPlayer", false), ("Taken", false), ("Full", false), ("NoGate", false), ("NotThere", false), ("NothingToUndo", true), ("NothingToRedo", false), ("NoTrial", false), ("BadJournal", false), ("BadLine", false)]) (x_BadLine : IsX K mg "BadLine" [("PlateError", false), ("BadLevel", false), ("BadNumbers", false), ("NoPlace", false), ("OtherLevel", false), ("BadCrowd", false), ("BadStep", false), ("Shut", false), ("BadSteps", false), ("TooMany", false), ("BadWish", false), ("NoKind", false), ("NoRoom", false), ("Unlike", false), ("BadOffers", false), ("BadHopes", false), ("BadName", false), ("NoPlayer", false), ("Taken", false), ("Full", false), ("NoGate", false), ("NotThere", false), ("NothingToUndo", false), ("NothingToRedo", false), ("NoTrial", false), ("BadJournal", false), ("BadLine", true)]) (x_BadJournal : IsX K mg "BadJournal" [("PlateError", false), ("BadLevel", false), ("BadNumbers", false), ("NoPlace", false), ("OtherLevel", false), ("BadCrowd", false), ("BadStep", false), ("Shut", false), ("BadSteps", false), ("TooMany", false), ("BadWish", false), ("NoKind", false), ("NoRoom", false), ("Unlike", false), ("BadOffers", false), ("BadHopes", false), ("BadName", false), ("NoPlayer", false), ("Taken", false), ("Full", false), ("NoGate", false), ("NotThere", false), ("NothingToUndo", false), ("NothingToRedo", false), ("NoTrial", false), ("BadJournal", true), ("BadLine", false)]) : T.FnOk P w K mg base (L2.CX P w) 1 f fd ["_law_error"] (spF ⟨K, mg⟩ F_marks) := by
  have sc := sc_marks
  refine fn_ok (N := ["_law_error", "_law_found"]) (ps := ["_law_error"]) (k := 0) (kp := kpL [0]) (s := b_marks) F sc (by decide) (kpL_lt (by decide)) fun cdv A outer s0 H E hr => ?_
  have tk : Takes (cxOf (L2.CX P w) P w K mg base ["_law_error", "_law_found"] "_law_marks" (defScope st_marks) f cdv A outer s0 H E) (fun cls d _ H => E cls d H) := takes_of rfl rfl rfl rfl
  exact (S_cons (S_set sc.nd rfl (by first | exact Or.inl rfl | exact Or.inr rfl) rfl (E_of (U_lst (AU_cons (U_isX x_BadLevel (by rfl) B.isinstance (by rfl) (V_var (pv 0))) (AU_cons (U_isX x_BadNumbers (by rfl) B.isinstance (by rfl) (V_var (pv 0))) (AU_cons (U_isX x_NoPlace (by rfl) B.isinstance (by rfl) (V_var (pv 0))) AU_nil))))))
    (S_cons (S_expr (E_lm lm_extend (pe_bm PySem.F.plainAttrs_list PySem.F.slot_list_extend PySem.F.type_list_extend mt_extR (pv 1) (pa_cons (E_of (U_lst (AU_cons (U_isX x_OtherLevel (by rfl) B.isinstance (by rfl) (V_var (pv 0))) (AU_cons (U_isX x_BadCrowd (by rfl) B.isinstance (by rfl) (V_var (pv 0))) (AU_cons (U_isX x_BadStep (by rfl) B.isinstance (by rfl) (V_var (pv 0))) AU_nil))))) pa_nil))))
    (S_cons (S_expr (E_lm lm_extend (pe_bm PySem.F.plainAttrs_list PySem.F.slot_list_extend PySem.F.type_list_extend mt_extR (pv 1) (pa_cons (E_of (U_lst (AU_cons (U_isX x_Shut (by rfl) B.isinstance (by rfl) (V_var (pv 0))) (AU_cons (U_isX x_BadSteps (by rfl) B.isinstance (by rfl) (V_var (pv 0))) (AU_cons (U_isX x_TooMany (by rfl) B.isinstance (by rfl) (V_var (pv 0))) AU_nil))))) pa_nil))))
    (S_cons (S_expr (E_lm lm_extend (pe_bm PySem.F.plainAttrs_list PySem.F.slot_list_extend PySem.F.type_list_extend mt_extR (pv 1) (pa_cons (E_of (U_lst (AU_cons (U_isX x_BadWish (by rfl) B.isinstance (by rfl) (V_var (pv 0))) (AU_cons (U_isX x_NoKind (by rfl) B.isinstance (by rfl) (V_var (pv 0))) (AU_cons (U_isX x_NoRoom (by rfl) B.isinstance (by rfl) (V_var (pv 0))) AU_nil))))) pa_nil))))
    (S_cons (S_expr (E_lm lm_extend (pe_bm PySem.F.plainAttrs_list PySem.F.slot_list_extend PySem.F.type_list_extend mt_extR (pv 1) (pa_cons (E_of (U_lst (AU_cons (U_isX x_Unlike (by rfl) B.isinstance (by rfl) (V_var (pv 0))) (AU_cons (U_isX x_BadOffers (by rfl) B.isinstance (by rfl) (V_var (pv 0))) (AU_cons (U_isX x_BadHopes (by rfl) B.isinstance (by rfl) (V_var (pv 0))) AU_nil))))) pa_nil))))
    (S_cons (S_expr (E_lm lm_extend (pe_bm PySem.F.plainAttrs_list PySem.F.slot_list_extend PySem.F.type_list_extend mt_extR (pv 1) (pa_cons (E_of (U_lst (AU_cons (U_isX x_BadName (by rfl) B.isinstance (by rfl) (V_var (pv 0))) (AU_cons (U_isX x_NoPlayer (by rfl) B.isinstance (by rfl) (V_var (pv 0))) (AU_cons (U_isX x_Taken (by rfl) B.isinstance (by rfl) (V_var (pv 0))) AU_nil))))) pa_nil))))
    (S_cons (S_expr (E_lm lm_extend (pe_bm PySem.F.plainAttrs_list PySem.F.slot_list_extend PySem.F.type_list_extend mt_extR (pv 1) (pa_cons (E_of (U_lst (AU_cons (U_isX x_Full (by rfl) B.isinstance (by rfl) (V_var (pv 0))) (AU_cons (U_isX x_NoGate (by rfl) B.isinstance (by rfl) (V_var (pv 0))) (AU_cons (U_isX x_NotThere (by rfl) B.isinstance (by rfl) (V_var (pv 0))) AU_nil))))) pa_nil))))
    (S_cons (S_expr (E_lm lm_extend (pe_bm PySem.F.plainAttrs_list PySem.F.slot_list_extend PySem.F.type_list_extend mt_extR (pv 1) (pa_cons (E_of (U_lst (AU_cons (U_isX x_NothingToUndo (by rfl) B.isinstance (by rfl) (V_var (pv 0))) (AU_cons (U_isX x_NothingToRedo (by rfl) B.isinstance (by rfl) (V_var (pv 0))) (AU_cons (U_isX x_NoTrial (by rfl) B.isinstance (by rfl) (V_var (pv 0))) AU_nil))))) pa_nil))))
    (S_cons (S_expr (E_lm lm_extend (pe_bm PySem.F.plainAttrs_list PySem.F.slot_list_extend PySem.F.type_list_extend mt_extR (pv 1) (pa_cons (E_of (U_lst (AU_cons (U_isX x_BadJournal (by rfl) B.isinstance (by rfl) (V_var (pv 0))) (AU_cons (U_isX x_BadLine (by rfl) B.isinstance (by rfl) (V_var (pv 0))) AU_nil)))) pa_nil))))
    (S_one (S_ret (E_move (pv 1)))))))))))))
abbrev st_value0 : Stmt := top 36
theorem sc_value0 : FnScope ["_law_pot_here", "_law_deep", "_law_way", "_law_lap"] ["_law_pot_here", "_law_deep"] (defScope st_value0) := ⟨rfl, rfl, rfl, by decide +kernel, rfl, by decide +kernel, by decide +kernel⟩
theorem ok_value0 {f : Addr} {fd : FuncData} (F : Fun K "_law_value" "_law_value" st_value0 f fd) (B : Blt mg) (d_take : Df P w K mg base 1 "_law_take" F_take) (d_odd : Df P w K mg base 3 "_law_odd" F_odd) : T.FnOk P w K mg base (L2.CX P w) 4 f fd ["_law_pot_here", "_law_deep"] (spF ⟨K, mg⟩ F_value0) := by
  have sc := sc_value0
  refine fn_ok (N := ["_law_pot_here", "_law_deep", "_law_way", "_law_lap"]) (ps := ["_law_pot_here", "_law_deep"]) (k := 3) (kp := kpL [0, 1]) (s := b_value0) F sc (by decide) (kpL_lt (by decide)) fun cdv A outer s0 H E hr => ?_
  have tk : Takes (cxOf (L2.CX P w) P w K mg base ["_law_pot_here", "_law_deep", "_law_way", "_law_lap"] "_law_value" (defScope st_value0) f cdv A outer s0 H E) (fun cls d _ H => E cls d H) := takes_of rfl rfl rfl rfl
  exact (S_cons (S_set sc.nd rfl (by first | exact Or.inl rfl | exact Or.inr rfl) rfl (E_if (TE_of (TU_cmp op_gt (o2_cmp fun i j => decide (j < i)) (nomark _) (V_var (pv 1)) (V_of U_int))) (E_call d_take hr (by decide) tk (by rfl) (A_consN (pv 0) (A_cons (E_of U_int) A_nil))) (E_of U_int)))
    (S_cons (S_if (TE_of (TU_cmp (op_eqD (hu64 hr)) o2_eq (nomark _) (V_var (pv 2)) (V_of U_int))) (S_one S_never) S_nil)
    (S_cons (S_if (TE_of (TU_cmp (op_eqD (hu64 hr)) o2_eq (nomark _) (V_var (pv 2)) (V_of U_int))) (S_one S_never) S_nil)
    (S_cons (S_if (TE_of (TU_cmp (op_eqD (hu64 hr)) o2_eq (nomark _) (V_var (pv 2)) (V_of U_int))) (S_one S_never) S_nil)
    (S_one (S_ret (E_call d_odd hr (by decide) tk (by rfl) (A_consN (pv 0) A_nil))))))))
abbrev st_value1 : Stmt := top 36
theorem sc_value1 : FnScope ["_law_pot_here", "_law_deep", "_law_way", "_law_lap"] ["_law_pot_here", "_law_deep"] (defScope st_value1) := ⟨rfl, rfl, rfl, by decide +kernel, rfl, by decide +kernel, by decide +kernel⟩
theorem ok_value1 {f : Addr} {fd : FuncData} (F : Fun K "_law_value" "_law_value" st_value1 f fd) (B : Blt mg) (d_take : Df P w K mg base 1 "_law_take" F_take) (d_value0 : Df P w K mg base 4 "_law_value" F_value0) (d_odd : Df P w K mg base 3 "_law_odd" F_odd) : T.FnOk P w K mg base (L2.CX P w) 5 f fd ["_law_pot_here", "_law_deep"] (spF ⟨K, mg⟩ F_value1) := by
  have sc := sc_value1
  refine fn_ok (N := ["_law_pot_here", "_law_deep", "_law_way", "_law_lap"]) (ps := ["_law_pot_here", "_law_deep"]) (k := 4) (kp := kpL [0, 1]) (s := b_value1) F sc (by decide) (kpL_lt (by decide)) fun cdv A outer s0 H E hr => ?_
  have tk : Takes (cxOf (L2.CX P w) P w K mg base ["_law_pot_here", "_law_deep", "_law_way", "_law_lap"] "_law_value" (defScope st_value1) f cdv A outer s0 H E) (fun cls d _ H => E cls d H) := takes_of rfl rfl rfl rfl
  exact (S_cons (S_set sc.nd rfl (by first | exact Or.inl rfl | exact Or.inr rfl) rfl (E_if (TE_of (TU_cmp op_gt (o2_cmp fun i j => decide (j < i)) (nomark _) (V_var (pv 1)) (V_of U_int))) (E_call d_take hr (by decide) tk (by rfl) (A_consN (pv 0) (A_cons (E_of U_int) A_nil))) (E_of U_int)))
    (S_cons (S_if (TE_of (TU_cmp (op_eqD (hu64 hr)) o2_eq (nomark _) (V_var (pv 2)) (V_of U_int))) (S_one (S_ret (E_ty call_tuple_of cd_tuple (by rfl) B.tuple PyProof.Rows.boot_tuple (A_cons (E_lc (own := [("_law_lap", 3)]) rfl sc.nd (blkOk_by (N := ["_law_pot_here", "_law_deep", "_law_way", "_law_lap"]) (sc := defScope st_value1) (own := [("_law_lap", 3)]) (by decide +kernel)) (IE_rng1 (by rfl) B.range (A_cons (E_call d_take hr (by decide) tk (by rfl) (A_consN (pv 0) (A_cons (E_of U_int) A_nil))) A_nil)) (fun _ _ _ _ _ => (G_name sc.nd rfl (by first | exact Or.inl rfl | exact Or.inr rfl) rfl)) (fun _ _ _ _ _ => PsE_nil) (fun _ _ _ _ _ => (E_frA (E_call d_value0 hr (by decide) takes0 (by rfl) (A_consN (pv 0) (A_cons (E_of (U_op op_sub o2_sub (V_var (pv 1)) (V_of U_int))) A_nil)))))) A_nil)))) S_nil)
    (S_cons (S_if (TE_of (TU_cmp (op_eqD (hu64 hr)) o2_eq (nomark _) (V_var (pv 2)) (V_of U_int))) (S_one (S_ret (E_lc (own := [("_law_lap", 3)]) rfl sc.nd (blkOk_by (N := ["_law_pot_here", "_law_deep", "_law_way", "_law_lap"]) (sc := defScope st_value1) (own := [("_law_lap", 3)]) (by decide +kernel)) (IE_rng1 (by rfl) B.range (A_cons (E_call d_take hr (by decide) tk (by rfl) (A_consN (pv 0) (A_cons (E_of U_int) A_nil))) A_nil)) (fun _ _ _ _ _ => (G_name sc.nd rfl (by first | exact Or.inl rfl | exact Or.inr rfl) rfl)) (fun _ _ _ _ _ => PsE_nil) (fun _ _ _ _ _ => (E_frA (E_call d_value0 hr (by decide) takes0 (by rfl) (A_consN (pv 0) (A_cons (E_of (U_op op_sub o2_sub (V_var (pv 1)) (V_of U_int))) A_nil)))))))) S_nil)
    (S_cons (S_if (TE_of (TU_cmp (op_eqD (hu64 hr)) o2_eq (nomark _) (V_var (pv 2)) (V_of U_int))) (S_one (S_ret (E_disp1 (E_frA (E_frA (E_call d_value0 hr (by decide) tk (by rfl) (A_consN (pv 0) (A_cons (E_of (U_op op_sub o2_sub (V_var (pv 1)) (V_of U_int))) A_nil)))))))) S_nil)
    (S_one (S_ret (E_call d_odd hr (by decide) tk (by rfl) (A_consN (pv 0) A_nil))))))))
abbrev st_value2 : Stmt := top 36
theorem sc_value2 : FnScope ["_law_pot_here", "_law_deep", "_law_way", "_law_lap"] ["_law_pot_here", "_law_deep"] (defScope st_value2) := ⟨rfl, rfl, rfl, by decide +kernel, rfl, by decide +kernel, by decide +kernel⟩
theorem ok_value2 {f : Addr} {fd : FuncData} (F : Fun K "_law_value" "_law_value" st_value2 f fd) (B : Blt mg) (d_take : Df P w K mg base 1 "_law_take" F_take) (d_value1 : Df P w K mg base 5 "_law_value" F_value1) (d_odd : Df P w K mg base 3 "_law_odd" F_odd) : T.FnOk P w K mg base (L2.CX P w) 6 f fd ["_law_pot_here", "_law_deep"] (spF ⟨K, mg⟩ F_value2) := by
  have sc := sc_value2
  refine fn_ok (N := ["_law_pot_here", "_law_deep", "_law_way", "_law_lap"]) (ps := ["_law_pot_here", "_law_deep"]) (k := 5) (kp := kpL [0, 1]) (s := b_value2) F sc (by decide) (kpL_lt (by decide)) fun cdv A outer s0 H E hr => ?_
  have tk : Takes (cxOf (L2.CX P w) P w K mg base ["_law_pot_here", "_law_deep", "_law_way", "_law_lap"] "_law_value" (defScope st_value2) f cdv A outer s0 H E) (fun cls d _ H => E cls d H) := takes_of rfl rfl rfl rfl
  exact (S_cons (S_set sc.nd rfl (by first | exact Or.inl rfl | exact Or.inr rfl) rfl (E_if (TE_of (TU_cmp op_gt (o2_cmp fun i j => decide (j < i)) (nomark _) (V_var (pv 1)) (V_of U_int))) (E_call d_take hr (by decide) tk (by rfl) (A_consN (pv 0) (A_cons (E_of U_int) A_nil))) (E_of U_int)))
    (S_cons (S_if (TE_of (TU_cmp (op_eqD (hu64 hr)) o2_eq (nomark _) (V_var (pv 2)) (V_of U_int))) (S_one (S_ret (E_ty call_tuple_of cd_tuple (by rfl) B.tuple PyProof.Rows.boot_tuple (A_cons (E_lc (own := [("_law_lap", 3)]) rfl sc.nd (blkOk_by (N := ["_law_pot_here", "_law_deep", "_law_way", "_law_lap"]) (sc := defScope st_value2) (own := [("_law_lap", 3)]) (by decide +kernel)) (IE_rng1 (by rfl) B.range (A_cons (E_call d_take hr (by decide) tk (by rfl) (A_consN (pv 0) (A_cons (E_of U_int) A_nil))) A_nil)) (fun _ _ _ _ _ => (G_name sc.nd rfl (by first | exact Or.inl rfl | exact Or.inr rfl) rfl)) (fun _ _ _ _ _ => PsE_nil) (fun _ _ _ _ _ => (E_frA (E_call d_value1 hr (by decide) takes0 (by rfl) (A_consN (pv 0) (A_cons (E_of (U_op op_sub o2_sub (V_var (pv 1)) (V_of U_int))) A_nil)))))) A_nil)))) S_nil)
    (S_cons (S_if (TE_of (TU_cmp (op_eqD (hu64 hr)) o2_eq (nomark _) (V_var (pv 2)) (V_of U_int))) (S_one (S_ret (E_lc (own := [("_law_lap", 3)]) rfl sc.nd (blkOk_by (N := ["_law_pot_here", "_law_deep", "_law_way", "_law_lap"]) (sc := defScope st_value2) (own := [("_law_lap", 3)]) (by decide +kernel)) (IE_rng1 (by rfl) B.range (A_cons (E_call d_take hr (by decide) tk (by rfl) (A_consN (pv 0) (A_cons (E_of U_int) A_nil))) A_nil)) (fun _ _ _ _ _ => (G_name sc.nd rfl (by first | exact Or.inl rfl | exact Or.inr rfl) rfl)) (fun _ _ _ _ _ => PsE_nil) (fun _ _ _ _ _ => (E_frA (E_call d_value1 hr (by decide) takes0 (by rfl) (A_consN (pv 0) (A_cons (E_of (U_op op_sub o2_sub (V_var (pv 1)) (V_of U_int))) A_nil)))))))) S_nil)
    (S_cons (S_if (TE_of (TU_cmp (op_eqD (hu64 hr)) o2_eq (nomark _) (V_var (pv 2)) (V_of U_int))) (S_one (S_ret (E_disp1 (E_frA (E_frA (E_call d_value1 hr (by decide) tk (by rfl) (A_consN (pv 0) (A_cons (E_of (U_op op_sub o2_sub (V_var (pv 1)) (V_of U_int))) A_nil)))))))) S_nil)
    (S_one (S_ret (E_call d_odd hr (by decide) tk (by rfl) (A_consN (pv 0) A_nil))))))))
abbrev st_value3 : Stmt := top 36
theorem sc_value3 : FnScope ["_law_pot_here", "_law_deep", "_law_way", "_law_lap"] ["_law_pot_here", "_law_deep"] (defScope st_value3) := ⟨rfl, rfl, rfl, by decide +kernel, rfl, by decide +kernel, by decide +kernel⟩
theorem ok_value3 {f : Addr} {fd : FuncData} (F : Fun K "_law_value" "_law_value" st_value3 f fd) (B : Blt mg) (d_take : Df P w K mg base 1 "_law_take" F_take) (d_value2 : Df P w K mg base 6 "_law_value" F_value2) (d_odd : Df P w K mg base 3 "_law_odd" F_odd) : T.FnOk P w K mg base (L2.CX P w) 7 f fd ["_law_pot_here", "_law_deep"] (spF ⟨K, mg⟩ F_value3) := by
  have sc := sc_value3
  refine fn_ok (N := ["_law_pot_here", "_law_deep", "_law_way", "_law_lap"]) (ps := ["_law_pot_here", "_law_deep"]) (k := 6) (kp := kpL [0, 1]) (s := b_value3) F sc (by decide) (kpL_lt (by decide)) fun cdv A outer s0 H E hr => ?_
  have tk : Takes (cxOf (L2.CX P w) P w K mg base ["_law_pot_here", "_law_deep", "_law_way", "_law_lap"] "_law_value" (defScope st_value3) f cdv A outer s0 H E) (fun cls d _ H => E cls d H) := takes_of rfl rfl rfl rfl
  exact (S_cons (S_set sc.nd rfl (by first | exact Or.inl rfl | exact Or.inr rfl) rfl (E_if (TE_of (TU_cmp op_gt (o2_cmp fun i j => decide (j < i)) (nomark _) (V_var (pv 1)) (V_of U_int))) (E_call d_take hr (by decide) tk (by rfl) (A_consN (pv 0) (A_cons (E_of U_int) A_nil))) (E_of U_int)))
    (S_cons (S_if (TE_of (TU_cmp (op_eqD (hu64 hr)) o2_eq (nomark _) (V_var (pv 2)) (V_of U_int))) (S_one (S_ret (E_ty call_tuple_of cd_tuple (by rfl) B.tuple PyProof.Rows.boot_tuple (A_cons (E_lc (own := [("_law_lap", 3)]) rfl sc.nd (blkOk_by (N := ["_law_pot_here", "_law_deep", "_law_way", "_law_lap"]) (sc := defScope st_value3) (own := [("_law_lap", 3)]) (by decide +kernel)) (IE_rng1 (by rfl) B.range (A_cons (E_call d_take hr (by decide) tk (by rfl) (A_consN (pv 0) (A_cons (E_of U_int) A_nil))) A_nil)) (fun _ _ _ _ _ => (G_name sc.nd rfl (by first | exact Or.inl rfl | exact Or.inr rfl) rfl)) (fun _ _ _ _ _ => PsE_nil) (fun _ _ _ _ _ => (E_frA (E_call d_value2 hr (by decide) takes0 (by rfl) (A_consN (pv 0) (A_cons (E_of (U_op op_sub o2_sub (V_var (pv 1)) (V_of U_int))) A_nil)))))) A_nil)))) S_nil)
    (S_cons (S_if (TE_of (TU_cmp (op_eqD (hu64 hr)) o2_eq (nomark _) (V_var (pv 2)) (V_of U_int))) (S_one (S_ret (E_lc (own := [("_law_lap", 3)]) rfl sc.nd (blkOk_by (N := ["_law_pot_here", "_law_deep", "_law_way", "_law_lap"]) (sc := defScope st_value3) (own := [("_law_lap", 3)]) (by decide +kernel)) (IE_rng1 (by rfl) B.range (A_cons (E_call d_take hr (by decide) tk (by rfl) (A_consN (pv 0) (A_cons (E_of U_int) A_nil))) A_nil)) (fun _ _ _ _ _ => (G_name sc.nd rfl (by first | exact Or.inl rfl | exact Or.inr rfl) rfl)) (fun _ _ _ _ _ => PsE_nil) (fun _ _ _ _ _ => (E_frA (E_call d_value2 hr (by decide) takes0 (by rfl) (A_consN (pv 0) (A_cons (E_of (U_op op_sub o2_sub (V_var (pv 1)) (V_of U_int))) A_nil)))))))) S_nil)
    (S_cons (S_if (TE_of (TU_cmp (op_eqD (hu64 hr)) o2_eq (nomark _) (V_var (pv 2)) (V_of U_int))) (S_one (S_ret (E_disp1 (E_frA (E_frA (E_call d_value2 hr (by decide) tk (by rfl) (A_consN (pv 0) (A_cons (E_of (U_op op_sub o2_sub (V_var (pv 1)) (V_of U_int))) A_nil)))))))) S_nil)
    (S_one (S_ret (E_call d_odd hr (by decide) tk (by rfl) (A_consN (pv 0) A_nil))))))))
abbrev st_fine : Stmt := top 37
theorem sc_fine : FnScope ["_law_pot_here", "_law_lap", "_law_value_here", "_law_made", "_law_base", "_law_at", "_law_error", "_law_spot"] ["_law_pot_here"] (defScope st_fine) := ⟨rfl, rfl, rfl, by decide +kernel, rfl, by decide +kernel, by decide +kernel⟩
theorem ok_fine {f : Addr} {fd : FuncData} (F : Fun K "_law_fine" "_law_fine" st_fine f fd) (B : Blt mg) (d_value3 : Df P w K mg base 7 "_law_value" F_value3) (r_PlateError : Erk P K mg "PlateError") (d_errors : Df P w K mg base 3 "_law_errors" F_errors) (x_PlateError : IsX K mg "PlateError" [("PlateError", true), ("BadLevel", true), ("BadNumbers", true), ("NoPlace", true), ("OtherLevel", true), ("BadCrowd", true), ("BadStep", true), ("Shut", true), ("BadSteps", true), ("TooMany", true), ("BadWish", true), ("NoKind", true), ("NoRoom", true), ("Unlike", true), ("BadOffers", true), ("BadHopes", true), ("BadName", true), ("NoPlayer", true), ("Taken", true), ("Full", true), ("NoGate", true), ("NotThere", true), ("NothingToUndo", true), ("NothingToRedo", true), ("NoTrial", true), ("BadJournal", true), ("BadLine", true)]) (xb_ValueError : IsXB K mg "ValueError" "ValueError" [("PlateError", true), ("BadLevel", true), ("BadNumbers", true), ("NoPlace", true), ("OtherLevel", true), ("BadCrowd", true), ("BadStep", true), ("Shut", true), ("BadSteps", true), ("TooMany", true), ("BadWish", true), ("NoKind", true), ("NoRoom", true), ("Unlike", true), ("BadOffers", true), ("BadHopes", true), ("BadName", true), ("NoPlayer", true), ("Taken", true), ("Full", true), ("NoGate", true), ("NotThere", true), ("NothingToUndo", true), ("NothingToRedo", true), ("NoTrial", true), ("BadJournal", true), ("BadLine", true)]) (d_marks : Df P w K mg base 1 "_law_marks" F_marks) (v_err : XvC K mg ["PlateError", "BadLevel", "BadNumbers", "NoPlace", "OtherLevel", "BadCrowd", "BadStep", "Shut", "BadSteps", "TooMany", "BadWish", "NoKind", "NoRoom", "Unlike", "BadOffers", "BadHopes", "BadName", "NoPlayer", "Taken", "Full", "NoGate", "NotThere", "NothingToUndo", "NothingToRedo", "NoTrial", "BadJournal", "BadLine"]) : T.FnOk P w K mg base (L2.CX P w) 8 f fd ["_law_pot_here"] (spF ⟨K, mg⟩ F_fine) := by
  have sc := sc_fine
  refine fn_ok (N := ["_law_pot_here", "_law_lap", "_law_value_here", "_law_made", "_law_base", "_law_at", "_law_error", "_law_spot"]) (ps := ["_law_pot_here"]) (k := 7) (kp := kpL [0]) (s := b_fine) F sc (by decide) (kpL_lt (by decide)) fun cdv A outer s0 H E hr => ?_
  have tk : Takes (cxOf (L2.CX P w) P w K mg base ["_law_pot_here", "_law_lap", "_law_value_here", "_law_made", "_law_base", "_law_at", "_law_error", "_law_spot"] "_law_fine" (defScope st_fine) f cdv A outer s0 H E) (fun cls d _ H => E cls d H) := takes_of rfl rfl rfl rfl
  exact (S_cons (S_for (passes_of rfl) rfl (IE_of (IU_rng1 (by rfl) B.range (AV_cons (V_of U_int) AV_nil))) (G_name sc.nd rfl (by first | exact Or.inl rfl | exact Or.inr rfl) rfl) (S_cons (S_set sc.nd rfl (by first | exact Or.inl rfl | exact Or.inr rfl) rfl (E_frA (E_call d_value3 hr (by decide) tk (by rfl) (A_consN (pv 0) (A_cons (E_of U_int) A_nil)))))
    (S_cons (S_par2 rfl sc.nd rfl rfl (by decide) rfl rfl rfl rfl (A_cons (E_call d_errors hr (by decide) tk (by rfl) (A_consN (pv 2) A_nil)) (A_cons (E_of (U_mkX (j := 0) r_PlateError (hr.mono (by decide)) (by rfl) (V_var (pv 2)))) A_nil)))
    (S_cons (S_for (passes_of rfl) rfl (IE_enum (by rfl) B.enumerate (E_fz (pv 3))) (G_tup rfl (Gs_cons (G_name sc.nd rfl (by first | exact Or.inl rfl | exact Or.inr rfl) rfl) (Gs_cons (G_name sc.nd rfl (by first | exact Or.inl rfl | exact Or.inr rfl) rfl) Gs_nil))) (S_cons (S_if (TE_of (PW.pt (WU_or (TU_not (TU_tru (V_of (U_isX x_PlateError (by rfl) B.isinstance (by rfl) (V_var (pv 6)))))) (WU_or1 (TU_not (TU_tru (V_of (U_isXB xb_ValueError (by rfl) B.isinstance (by rfl) (by decide +kernel) (V_var (pv 6)))))))))) (S_one (S_ret (E_of U_bl))) S_nil)
    (S_one (S_if (PW.pt (WE_or (TE_cmpEV (op_neD (hu64 hr)) o2_ne (nomark _) (E_call d_marks hr (by decide) tk (by rfl) (A_consN (pv 6) A_nil)) (V_of (U_lc (own := [("_law_spot", 7)]) rfl sc.nd (blkOk_by (N := ["_law_pot_here", "_law_lap", "_law_value_here", "_law_made", "_law_base", "_law_at", "_law_error", "_law_spot"]) (sc := defScope st_fine) (own := [("_law_spot", 7)]) (by decide +kernel)) (IV_of (IU_rng1 (by rfl) B.range (AV_cons (V_of (U_bi cr_lenA cd_len (by rfl) B.len PySem.boot_len (AV_cons (V_var (pv 3)) AV_nil))) AV_nil))) (fun _ _ _ _ _ => (GU_name sc.nd rfl (by first | exact Or.inl rfl | exact Or.inr rfl) rfl)) (fun _ _ _ _ _ => PsU_nil) (fun _ _ _ _ _ => (U_cmp (op_eqD (hu64 hr)) o2_eq (nomark _) (V_var (pv 5)) (V_var (pv 7))))))) (WE_or1 (TE_of (TU_cmp (op_neD (hu64 hr)) o2_ne (nomark _) (V_of (U_bi (call_reprZ hr) cd_reprZ (by rfl) B.repr (by decide +kernel) (AV_cons (V_xv v_err (V_var (pv 6))) AV_nil))) (V_of (U_bi (call_reprZ hr) cd_reprZ (by rfl) B.repr (by decide +kernel) (AV_cons (V_var (pv 2)) AV_nil)))))))) (S_one (S_ret (E_of U_bl))) S_nil))))
    (S_one (S_if (PW.pt (WE_or (TE_of (TU_cmp (op_neD (hu64 hr)) o2_ne (nomark _) (V_of (U_bi (call_reprZ hr) cd_reprZ (by rfl) B.repr (by decide +kernel) (AV_cons (V_xv v_err (V_var (pv 4))) AV_nil))) (V_of (U_bi (call_reprZ hr) cd_reprZ (by rfl) B.repr (by decide +kernel) (AV_cons (V_var (pv 2)) AV_nil))))) (WE_or (TE_of (TU_not (TU_tru (V_of (U_isXB xb_ValueError (by rfl) B.isinstance (by rfl) (by decide +kernel) (V_var (pv 4))))))) (WE_or1 (TE_tru (E_bi (cr_any rfl) cd_any (by rfl) B.any PyProof.Rows.boot_any (A_cons (E_call d_marks hr (by decide) tk (by rfl) (A_consN (pv 4) A_nil)) A_nil))))))) (S_one (S_ret (E_of U_bl))) S_nil))))))
    (S_one (S_ret (E_of U_bl))))
abbrev st_P_law : Stmt := top 38
theorem sc_P_law : FnScope ["_law_script", "_law_k"] ["_law_script"] (defScope st_P_law) := ⟨rfl, rfl, rfl, by decide +kernel, rfl, by decide +kernel, by decide +kernel⟩
theorem ok_P_law {f : Addr} {fd : FuncData} (F : Fun K "law" "law" st_P_law f fd) (B : Blt mg) (d_cells : Df P w K mg base 1 "_law_cells" F_cells) (d_pot : Df P w K mg base 1 "_law_pot" F_pot) (d_fine : Df P w K mg base 8 "_law_fine" F_fine) : T.FnOk P w K mg base (L2.CX P w) 9 f fd ["_law_script"] (spF ⟨K, mg⟩ F_P_law) := by
  have sc := sc_P_law
  refine fn_ok (N := ["_law_script", "_law_k"]) (ps := ["_law_script"]) (k := 8) (kp := kpL [0]) (s := b_P_law) F sc (by decide) (kpL_lt (by decide)) fun cdv A outer s0 H E hr => ?_
  have tk : Takes (cxOf (L2.CX P w) P w K mg base ["_law_script", "_law_k"] "law" (defScope st_P_law) f cdv A outer s0 H E) (fun cls d _ H => E cls d H) := takes_of rfl rfl rfl rfl
  exact (S_one (S_ret (E_bi (cr_all rfl) cd_all (by rfl) B.all PyProof.Rows.boot_all (A_cons (E_lc (own := [("_law_k", 1)]) rfl sc.nd (blkOk_by (N := ["_law_script", "_law_k"]) (sc := defScope st_P_law) (own := [("_law_k", 1)]) (by decide +kernel)) (IE_of (IU_seq (U_call d_cells hr (by decide) (by rfl) (AV_cons (V_var (pv 0)) (AV_cons (V_of U_int) AV_nil))))) (fun _ _ _ _ _ => (G_name sc.nd rfl (by first | exact Or.inl rfl | exact Or.inr rfl) rfl)) (fun _ _ _ _ _ => PsE_nil) (fun _ _ _ _ _ => (E_call d_fine hr (by decide) takes0 (by rfl) (A_cons (E_call d_pot hr (by decide) takes0 (by rfl) (A_consN (pv 0) (A_consN (pv 1) A_nil))) A_nil)))) A_nil))))
end
end Q
set_option Elab.async false
set_option linter.all false
set_option maxRecDepth 100000
set_option maxHeartbeats 4000000
namespace Q
open PySem PySem.Spec PyProof.Rows L2 T
theorem fn_imp {P : Program} {w : World} {K : PySem.W.Frag} {mg : Str → Option Value} {base : Heap} {X : CXT} {k : Nat} {f : Addr} {fd : FuncData} {ps : List Str} {sp sp' : Sp} (G : T.FnOk P w K mg base X k f fd ps sp) (h : ∀ vs H Q E, sp' vs H Q E → sp vs H Q E) : T.FnOk P w K mg base X k f fd ps sp' :=
  ⟨fun vs H Q E z => G.len vs H Q E (h vs H Q E z), fun A outer s H args us vs Q E hr e0 hb hv z => G.run A outer s H args us vs Q E hr e0 hb hv (h vs H Q E z)⟩
def spLaw (K : PySem.W.Frag) : Sp := fun vs H Q _ => ∃ (a : Addr) (ns : List Int), vs = [.ref a] ∧ Only H ∧ SqL K H a (ns.map V.int) ∧ ns.length ≤ 63 ∧ ∀ H', Q (.bl true) H'
theorem rps_ints {C : Kt} {H : Hp} : ∀ ns : List Int, RPs C H (ns.map .int) (ns.map V.int) []
  | [] => ⟨rfl, rfl⟩
  | i :: ns => ⟨.int i, ns.map V.int, [], [], rfl, rfl, ⟨rfl, rfl⟩, rps_ints ns⟩
theorem spLaw_imp {K : PySem.W.Frag} {mg : Str → Option Value} (vs : List V) (H : Hp) (Q : VK) (E : XK) (h : spLaw K vs H Q E) : spF ⟨K, mg⟩ F_P_law vs H Q E := by
  obtain ⟨a, ns, rfl, hO, hS, hl, k⟩ := h
  have sf : SqLf K H a (ns.map V.int) := by
    rcases hS with (z | z) | z
    · rcases hO a with y | ⟨o, xs, y⟩
      · rw [y] at z; cases z
      · rw [y] at z; cases z
    · exact .inl z
    · exact .inr z
  have rk : RP ⟨K, mg⟩ H (.klst (ns.map .int)) (.ref a) [] := by
    unfold RP
    exact ⟨a, _, rfl, rfl, sf, rps_ints ns⟩
  obtain ⟨os, e⟩ := law_ok ns
  refine ⟨[.klst (ns.map .int)], [], ⟨.ref a, [], [], [], rfl, rfl, rk, rfl, rfl⟩, List.nodup_nil, ?_⟩
  rw [e]
  intro v H' fm fo r _ _ _
  rw [r.1]
  exact k H'
theorem all_mk {l : PySem.W.OpenLaw} {w : World} {K : PySem.W.Frag} {h : Heap} {mg : Str → Option Value} {fa : Addr} (X : K.In h) (G : h.Ns mainGlobals mg) (hfa : mg "law" = some (.ref fa))
    (hnX : PySem.W.specialIn K (.builtin "object.__class__") "__get__" = some (some (.builtin "getset_descriptor.__get__")))
    (htkX : PySem.W.takesIn K (.builtin "object.__class__") = some true)
    {E_BadCrowd : Addr} (ae_BadCrowd : PySem.W.nsIn K mainGlobals "BadCrowd" = some (some (.ref E_BadCrowd)))
    {E_OtherLevel : Addr} (ae_OtherLevel : PySem.W.nsIn K mainGlobals "OtherLevel" = some (some (.ref E_OtherLevel)))
    {E_NoPlace : Addr} (ae_NoPlace : PySem.W.nsIn K mainGlobals "NoPlace" = some (some (.ref E_NoPlace)))
    {E_BadNumbers : Addr} (ae_BadNumbers : PySem.W.nsIn K mainGlobals "BadNumbers" = some (some (.ref E_BadNumbers)))
    {E_BadLevel : Addr} (ae_BadLevel : PySem.W.nsIn K mainGlobals "BadLevel" = some (some (.ref E_BadLevel)))
    {E_BadWish : Addr} (ae_BadWish : PySem.W.nsIn K mainGlobals "BadWish" = some (some (.ref E_BadWish)))
    {E_TooMany : Addr} (ae_TooMany : PySem.W.nsIn K mainGlobals "TooMany" = some (some (.ref E_TooMany)))
    {E_BadSteps : Addr} (ae_BadSteps : PySem.W.nsIn K mainGlobals "BadSteps" = some (some (.ref E_BadSteps)))
    {E_Shut : Addr} (ae_Shut : PySem.W.nsIn K mainGlobals "Shut" = some (some (.ref E_Shut)))
    {E_BadStep : Addr} (ae_BadStep : PySem.W.nsIn K mainGlobals "BadStep" = some (some (.ref E_BadStep)))
    {E_BadHopes : Addr} (ae_BadHopes : PySem.W.nsIn K mainGlobals "BadHopes" = some (some (.ref E_BadHopes)))
    {E_BadOffers : Addr} (ae_BadOffers : PySem.W.nsIn K mainGlobals "BadOffers" = some (some (.ref E_BadOffers)))
    {E_Unlike : Addr} (ae_Unlike : PySem.W.nsIn K mainGlobals "Unlike" = some (some (.ref E_Unlike)))
    {E_NoRoom : Addr} (ae_NoRoom : PySem.W.nsIn K mainGlobals "NoRoom" = some (some (.ref E_NoRoom)))
    {E_NoKind : Addr} (ae_NoKind : PySem.W.nsIn K mainGlobals "NoKind" = some (some (.ref E_NoKind)))
    {E_NoGate : Addr} (ae_NoGate : PySem.W.nsIn K mainGlobals "NoGate" = some (some (.ref E_NoGate)))
    {E_Full : Addr} (ae_Full : PySem.W.nsIn K mainGlobals "Full" = some (some (.ref E_Full)))
    {E_Taken : Addr} (ae_Taken : PySem.W.nsIn K mainGlobals "Taken" = some (some (.ref E_Taken)))
    {E_NoPlayer : Addr} (ae_NoPlayer : PySem.W.nsIn K mainGlobals "NoPlayer" = some (some (.ref E_NoPlayer)))
    {E_BadName : Addr} (ae_BadName : PySem.W.nsIn K mainGlobals "BadName" = some (some (.ref E_BadName)))
    {E_BadJournal : Addr} (ae_BadJournal : PySem.W.nsIn K mainGlobals "BadJournal" = some (some (.ref E_BadJournal)))
    {E_NoTrial : Addr} (ae_NoTrial : PySem.W.nsIn K mainGlobals "NoTrial" = some (some (.ref E_NoTrial)))
    {E_NothingToRedo : Addr} (ae_NothingToRedo : PySem.W.nsIn K mainGlobals "NothingToRedo" = some (some (.ref E_NothingToRedo)))
    {E_NothingToUndo : Addr} (ae_NothingToUndo : PySem.W.nsIn K mainGlobals "NothingToUndo" = some (some (.ref E_NothingToUndo)))
    {E_NotThere : Addr} (ae_NotThere : PySem.W.nsIn K mainGlobals "NotThere" = some (some (.ref E_NotThere)))
    {E_BadLine : Addr} (ae_BadLine : PySem.W.nsIn K mainGlobals "BadLine" = some (some (.ref E_BadLine)))
    {E_PlateError : Addr} (ae_PlateError : PySem.W.nsIn K mainGlobals "PlateError" = some (some (.ref E_PlateError)))
    (eB_PlateError : errB K E_PlateError = true)
    (eB_BadLevel : errB K E_BadLevel = true)
    (eB_BadNumbers : errB K E_BadNumbers = true)
    (eB_NoPlace : errB K E_NoPlace = true)
    (eB_OtherLevel : errB K E_OtherLevel = true)
    (eB_BadCrowd : errB K E_BadCrowd = true)
    (eB_BadStep : errB K E_BadStep = true)
    (eB_Shut : errB K E_Shut = true)
    (eB_BadSteps : errB K E_BadSteps = true)
    (eB_TooMany : errB K E_TooMany = true)
    (eB_BadWish : errB K E_BadWish = true)
    (eB_NoKind : errB K E_NoKind = true)
    (eB_NoRoom : errB K E_NoRoom = true)
    (eB_Unlike : errB K E_Unlike = true)
    (eB_BadOffers : errB K E_BadOffers = true)
    (eB_BadHopes : errB K E_BadHopes = true)
    (eB_BadName : errB K E_BadName = true)
    (eB_NoPlayer : errB K E_NoPlayer = true)
    (eB_Taken : errB K E_Taken = true)
    (eB_Full : errB K E_Full = true)
    (eB_NoGate : errB K E_NoGate = true)
    (eB_NotThere : errB K E_NotThere = true)
    (eB_NothingToUndo : errB K E_NothingToUndo = true)
    (eB_NothingToRedo : errB K E_NothingToRedo = true)
    (eB_NoTrial : errB K E_NoTrial = true)
    (eB_BadJournal : errB K E_BadJournal = true)
    (eB_BadLine : errB K E_BadLine = true)
    (xB_NoPlace : xkB K (.ref E_NoPlace) [E_PlateError, E_BadLevel, E_BadNumbers, E_NoPlace, E_OtherLevel, E_BadCrowd, E_BadStep, E_Shut, E_BadSteps, E_TooMany, E_BadWish, E_NoKind, E_NoRoom, E_Unlike, E_BadOffers, E_BadHopes, E_BadName, E_NoPlayer, E_Taken, E_Full, E_NoGate, E_NotThere, E_NothingToUndo, E_NothingToRedo, E_NoTrial, E_BadJournal, E_BadLine] [false, false, false, true, false, false, false, false, false, false, false, false, false, false, false, false, false, false, false, false, false, false, false, false, false, false, false] = true)
    (xB_BadNumbers : xkB K (.ref E_BadNumbers) [E_PlateError, E_BadLevel, E_BadNumbers, E_NoPlace, E_OtherLevel, E_BadCrowd, E_BadStep, E_Shut, E_BadSteps, E_TooMany, E_BadWish, E_NoKind, E_NoRoom, E_Unlike, E_BadOffers, E_BadHopes, E_BadName, E_NoPlayer, E_Taken, E_Full, E_NoGate, E_NotThere, E_NothingToUndo, E_NothingToRedo, E_NoTrial, E_BadJournal, E_BadLine] [false, false, true, false, false, false, false, false, false, false, false, false, false, false, false, false, false, false, false, false, false, false, false, false, false, false, false] = true)
    (xB_BadLevel : xkB K (.ref E_BadLevel) [E_PlateError, E_BadLevel, E_BadNumbers, E_NoPlace, E_OtherLevel, E_BadCrowd, E_BadStep, E_Shut, E_BadSteps, E_TooMany, E_BadWish, E_NoKind, E_NoRoom, E_Unlike, E_BadOffers, E_BadHopes, E_BadName, E_NoPlayer, E_Taken, E_Full, E_NoGate, E_NotThere, E_NothingToUndo, E_NothingToRedo, E_NoTrial, E_BadJournal, E_BadLine] [false, true, false, false, false, false, false, false, false, false, false, false, false, false, false, false, false, false, false, false, false, false, false, false, false, false, false] = true)
    (xB_BadStep : xkB K (.ref E_BadStep) [E_PlateError, E_BadLevel, E_BadNumbers, E_NoPlace, E_OtherLevel, E_BadCrowd, E_BadStep, E_Shut, E_BadSteps, E_TooMany, E_BadWish, E_NoKind, E_NoRoom, E_Unlike, E_BadOffers, E_BadHopes, E_BadName, E_NoPlayer, E_Taken, E_Full, E_NoGate, E_NotThere, E_NothingToUndo, E_NothingToRedo, E_NoTrial, E_BadJournal, E_BadLine] [false, false, false, false, false, false, true, false, false, false, false, false, false, false, false, false, false, false, false, false, false, false, false, false, false, false, false] = true)
    (xB_BadCrowd : xkB K (.ref E_BadCrowd) [E_PlateError, E_BadLevel, E_BadNumbers, E_NoPlace, E_OtherLevel, E_BadCrowd, E_BadStep, E_Shut, E_BadSteps, E_TooMany, E_BadWish, E_NoKind, E_NoRoom, E_Unlike, E_BadOffers, E_BadHopes, E_BadName, E_NoPlayer, E_Taken, E_Full, E_NoGate, E_NotThere, E_NothingToUndo, E_NothingToRedo, E_NoTrial, E_BadJournal, E_BadLine] [false, false, false, false, false, true, false, false, false, false, false, false, false, false, false, false, false, false, false, false, false, false, false, false, false, false, false] = true)
    (xB_OtherLevel : xkB K (.ref E_OtherLevel) [E_PlateError, E_BadLevel, E_BadNumbers, E_NoPlace, E_OtherLevel, E_BadCrowd, E_BadStep, E_Shut, E_BadSteps, E_TooMany, E_BadWish, E_NoKind, E_NoRoom, E_Unlike, E_BadOffers, E_BadHopes, E_BadName, E_NoPlayer, E_Taken, E_Full, E_NoGate, E_NotThere, E_NothingToUndo, E_NothingToRedo, E_NoTrial, E_BadJournal, E_BadLine] [false, false, false, false, true, false, false, false, false, false, false, false, false, false, false, false, false, false, false, false, false, false, false, false, false, false, false] = true)
    (xB_TooMany : xkB K (.ref E_TooMany) [E_PlateError, E_BadLevel, E_BadNumbers, E_NoPlace, E_OtherLevel, E_BadCrowd, E_BadStep, E_Shut, E_BadSteps, E_TooMany, E_BadWish, E_NoKind, E_NoRoom, E_Unlike, E_BadOffers, E_BadHopes, E_BadName, E_NoPlayer, E_Taken, E_Full, E_NoGate, E_NotThere, E_NothingToUndo, E_NothingToRedo, E_NoTrial, E_BadJournal, E_BadLine] [false, false, false, false, false, false, false, false, false, true, false, false, false, false, false, false, false, false, false, false, false, false, false, false, false, false, false] = true)
    (xB_BadSteps : xkB K (.ref E_BadSteps) [E_PlateError, E_BadLevel, E_BadNumbers, E_NoPlace, E_OtherLevel, E_BadCrowd, E_BadStep, E_Shut, E_BadSteps, E_TooMany, E_BadWish, E_NoKind, E_NoRoom, E_Unlike, E_BadOffers, E_BadHopes, E_BadName, E_NoPlayer, E_Taken, E_Full, E_NoGate, E_NotThere, E_NothingToUndo, E_NothingToRedo, E_NoTrial, E_BadJournal, E_BadLine] [false, false, false, false, false, false, false, false, true, false, false, false, false, false, false, false, false, false, false, false, false, false, false, false, false, false, false] = true)
    (xB_Shut : xkB K (.ref E_Shut) [E_PlateError, E_BadLevel, E_BadNumbers, E_NoPlace, E_OtherLevel, E_BadCrowd, E_BadStep, E_Shut, E_BadSteps, E_TooMany, E_BadWish, E_NoKind, E_NoRoom, E_Unlike, E_BadOffers, E_BadHopes, E_BadName, E_NoPlayer, E_Taken, E_Full, E_NoGate, E_NotThere, E_NothingToUndo, E_NothingToRedo, E_NoTrial, E_BadJournal, E_BadLine] [false, false, false, false, false, false, false, true, false, false, false, false, false, false, false, false, false, false, false, false, false, false, false, false, false, false, false] = true)
    (xB_NoRoom : xkB K (.ref E_NoRoom) [E_PlateError, E_BadLevel, E_BadNumbers, E_NoPlace, E_OtherLevel, E_BadCrowd, E_BadStep, E_Shut, E_BadSteps, E_TooMany, E_BadWish, E_NoKind, E_NoRoom, E_Unlike, E_BadOffers, E_BadHopes, E_BadName, E_NoPlayer, E_Taken, E_Full, E_NoGate, E_NotThere, E_NothingToUndo, E_NothingToRedo, E_NoTrial, E_BadJournal, E_BadLine] [false, false, false, false, false, false, false, false, false, false, false, false, true, false, false, false, false, false, false, false, false, false, false, false, false, false, false] = true)
    (xB_NoKind : xkB K (.ref E_NoKind) [E_PlateError, E_BadLevel, E_BadNumbers, E_NoPlace, E_OtherLevel, E_BadCrowd, E_BadStep, E_Shut, E_BadSteps, E_TooMany, E_BadWish, E_NoKind, E_NoRoom, E_Unlike, E_BadOffers, E_BadHopes, E_BadName, E_NoPlayer, E_Taken, E_Full, E_NoGate, E_NotThere, E_NothingToUndo, E_NothingToRedo, E_NoTrial, E_BadJournal, E_BadLine] [false, false, false, false, false, false, false, false, false, false, false, true, false, false, false, false, false, false, false, false, false, false, false, false, false, false, false] = true)
    (xB_BadWish : xkB K (.ref E_BadWish) [E_PlateError, E_BadLevel, E_BadNumbers, E_NoPlace, E_OtherLevel, E_BadCrowd, E_BadStep, E_Shut, E_BadSteps, E_TooMany, E_BadWish, E_NoKind, E_NoRoom, E_Unlike, E_BadOffers, E_BadHopes, E_BadName, E_NoPlayer, E_Taken, E_Full, E_NoGate, E_NotThere, E_NothingToUndo, E_NothingToRedo, E_NoTrial, E_BadJournal, E_BadLine] [false, false, false, false, false, false, false, false, false, false, true, false, false, false, false, false, false, false, false, false, false, false, false, false, false, false, false] = true)
    (xB_BadHopes : xkB K (.ref E_BadHopes) [E_PlateError, E_BadLevel, E_BadNumbers, E_NoPlace, E_OtherLevel, E_BadCrowd, E_BadStep, E_Shut, E_BadSteps, E_TooMany, E_BadWish, E_NoKind, E_NoRoom, E_Unlike, E_BadOffers, E_BadHopes, E_BadName, E_NoPlayer, E_Taken, E_Full, E_NoGate, E_NotThere, E_NothingToUndo, E_NothingToRedo, E_NoTrial, E_BadJournal, E_BadLine] [false, false, false, false, false, false, false, false, false, false, false, false, false, false, false, true, false, false, false, false, false, false, false, false, false, false, false] = true)
    (xB_BadOffers : xkB K (.ref E_BadOffers) [E_PlateError, E_BadLevel, E_BadNumbers, E_NoPlace, E_OtherLevel, E_BadCrowd, E_BadStep, E_Shut, E_BadSteps, E_TooMany, E_BadWish, E_NoKind, E_NoRoom, E_Unlike, E_BadOffers, E_BadHopes, E_BadName, E_NoPlayer, E_Taken, E_Full, E_NoGate, E_NotThere, E_NothingToUndo, E_NothingToRedo, E_NoTrial, E_BadJournal, E_BadLine] [false, false, false, false, false, false, false, false, false, false, false, false, false, false, true, false, false, false, false, false, false, false, false, false, false, false, false] = true)
    (xB_Unlike : xkB K (.ref E_Unlike) [E_PlateError, E_BadLevel, E_BadNumbers, E_NoPlace, E_OtherLevel, E_BadCrowd, E_BadStep, E_Shut, E_BadSteps, E_TooMany, E_BadWish, E_NoKind, E_NoRoom, E_Unlike, E_BadOffers, E_BadHopes, E_BadName, E_NoPlayer, E_Taken, E_Full, E_NoGate, E_NotThere, E_NothingToUndo, E_NothingToRedo, E_NoTrial, E_BadJournal, E_BadLine] [false, false, false, false, false, false, false, false, false, false, false, false, false, true, false, false, false, false, false, false, false, false, false, false, false, false, false] = true)
    (xB_Taken : xkB K (.ref E_Taken) [E_PlateError, E_BadLevel, E_BadNumbers, E_NoPlace, E_OtherLevel, E_BadCrowd, E_BadStep, E_Shut, E_BadSteps, E_TooMany, E_BadWish, E_NoKind, E_NoRoom, E_Unlike, E_BadOffers, E_BadHopes, E_BadName, E_NoPlayer, E_Taken, E_Full, E_NoGate, E_NotThere, E_NothingToUndo, E_NothingToRedo, E_NoTrial, E_BadJournal, E_BadLine] [false, false, false, false, false, false, false, false, false, false, false, false, false, false, false, false, false, false, true, false, false, false, false, false, false, false, false] = true)
    (xB_NoPlayer : xkB K (.ref E_NoPlayer) [E_PlateError, E_BadLevel, E_BadNumbers, E_NoPlace, E_OtherLevel, E_BadCrowd, E_BadStep, E_Shut, E_BadSteps, E_TooMany, E_BadWish, E_NoKind, E_NoRoom, E_Unlike, E_BadOffers, E_BadHopes, E_BadName, E_NoPlayer, E_Taken, E_Full, E_NoGate, E_NotThere, E_NothingToUndo, E_NothingToRedo, E_NoTrial, E_BadJournal, E_BadLine] [false, false, false, false, false, false, false, false, false, false, false, false, false, false, false, false, false, true, false, false, false, false, false, false, false, false, false] = true)
    (xB_BadName : xkB K (.ref E_BadName) [E_PlateError, E_BadLevel, E_BadNumbers, E_NoPlace, E_OtherLevel, E_BadCrowd, E_BadStep, E_Shut, E_BadSteps, E_TooMany, E_BadWish, E_NoKind, E_NoRoom, E_Unlike, E_BadOffers, E_BadHopes, E_BadName, E_NoPlayer, E_Taken, E_Full, E_NoGate, E_NotThere, E_NothingToUndo, E_NothingToRedo, E_NoTrial, E_BadJournal, E_BadLine] [false, false, false, false, false, false, false, false, false, false, false, false, false, false, false, false, true, false, false, false, false, false, false, false, false, false, false] = true)
    (xB_NotThere : xkB K (.ref E_NotThere) [E_PlateError, E_BadLevel, E_BadNumbers, E_NoPlace, E_OtherLevel, E_BadCrowd, E_BadStep, E_Shut, E_BadSteps, E_TooMany, E_BadWish, E_NoKind, E_NoRoom, E_Unlike, E_BadOffers, E_BadHopes, E_BadName, E_NoPlayer, E_Taken, E_Full, E_NoGate, E_NotThere, E_NothingToUndo, E_NothingToRedo, E_NoTrial, E_BadJournal, E_BadLine] [false, false, false, false, false, false, false, false, false, false, false, false, false, false, false, false, false, false, false, false, false, true, false, false, false, false, false] = true)
    (xB_NoGate : xkB K (.ref E_NoGate) [E_PlateError, E_BadLevel, E_BadNumbers, E_NoPlace, E_OtherLevel, E_BadCrowd, E_BadStep, E_Shut, E_BadSteps, E_TooMany, E_BadWish, E_NoKind, E_NoRoom, E_Unlike, E_BadOffers, E_BadHopes, E_BadName, E_NoPlayer, E_Taken, E_Full, E_NoGate, E_NotThere, E_NothingToUndo, E_NothingToRedo, E_NoTrial, E_BadJournal, E_BadLine] [false, false, false, false, false, false, false, false, false, false, false, false, false, false, false, false, false, false, false, false, true, false, false, false, false, false, false] = true)
    (xB_Full : xkB K (.ref E_Full) [E_PlateError, E_BadLevel, E_BadNumbers, E_NoPlace, E_OtherLevel, E_BadCrowd, E_BadStep, E_Shut, E_BadSteps, E_TooMany, E_BadWish, E_NoKind, E_NoRoom, E_Unlike, E_BadOffers, E_BadHopes, E_BadName, E_NoPlayer, E_Taken, E_Full, E_NoGate, E_NotThere, E_NothingToUndo, E_NothingToRedo, E_NoTrial, E_BadJournal, E_BadLine] [false, false, false, false, false, false, false, false, false, false, false, false, false, false, false, false, false, false, false, true, false, false, false, false, false, false, false] = true)
    (xB_NoTrial : xkB K (.ref E_NoTrial) [E_PlateError, E_BadLevel, E_BadNumbers, E_NoPlace, E_OtherLevel, E_BadCrowd, E_BadStep, E_Shut, E_BadSteps, E_TooMany, E_BadWish, E_NoKind, E_NoRoom, E_Unlike, E_BadOffers, E_BadHopes, E_BadName, E_NoPlayer, E_Taken, E_Full, E_NoGate, E_NotThere, E_NothingToUndo, E_NothingToRedo, E_NoTrial, E_BadJournal, E_BadLine] [false, false, false, false, false, false, false, false, false, false, false, false, false, false, false, false, false, false, false, false, false, false, false, false, true, false, false] = true)
    (xB_NothingToRedo : xkB K (.ref E_NothingToRedo) [E_PlateError, E_BadLevel, E_BadNumbers, E_NoPlace, E_OtherLevel, E_BadCrowd, E_BadStep, E_Shut, E_BadSteps, E_TooMany, E_BadWish, E_NoKind, E_NoRoom, E_Unlike, E_BadOffers, E_BadHopes, E_BadName, E_NoPlayer, E_Taken, E_Full, E_NoGate, E_NotThere, E_NothingToUndo, E_NothingToRedo, E_NoTrial, E_BadJournal, E_BadLine] [false, false, false, false, false, false, false, false, false, false, false, false, false, false, false, false, false, false, false, false, false, false, false, true, false, false, false] = true)
    (xB_NothingToUndo : xkB K (.ref E_NothingToUndo) [E_PlateError, E_BadLevel, E_BadNumbers, E_NoPlace, E_OtherLevel, E_BadCrowd, E_BadStep, E_Shut, E_BadSteps, E_TooMany, E_BadWish, E_NoKind, E_NoRoom, E_Unlike, E_BadOffers, E_BadHopes, E_BadName, E_NoPlayer, E_Taken, E_Full, E_NoGate, E_NotThere, E_NothingToUndo, E_NothingToRedo, E_NoTrial, E_BadJournal, E_BadLine] [false, false, false, false, false, false, false, false, false, false, false, false, false, false, false, false, false, false, false, false, false, false, true, false, false, false, false] = true)
    (xB_BadLine : xkB K (.ref E_BadLine) [E_PlateError, E_BadLevel, E_BadNumbers, E_NoPlace, E_OtherLevel, E_BadCrowd, E_BadStep, E_Shut, E_BadSteps, E_TooMany, E_BadWish, E_NoKind, E_NoRoom, E_Unlike, E_BadOffers, E_BadHopes, E_BadName, E_NoPlayer, E_Taken, E_Full, E_NoGate, E_NotThere, E_NothingToUndo, E_NothingToRedo, E_NoTrial, E_BadJournal, E_BadLine] [false, false, false, false, false, false, false, false, false, false, false, false, false, false, false, false, false, false, false, false, false, false, false, false, false, false, true] = true)
    (xB_BadJournal : xkB K (.ref E_BadJournal) [E_PlateError, E_BadLevel, E_BadNumbers, E_NoPlace, E_OtherLevel, E_BadCrowd, E_BadStep, E_Shut, E_BadSteps, E_TooMany, E_BadWish, E_NoKind, E_NoRoom, E_Unlike, E_BadOffers, E_BadHopes, E_BadName, E_NoPlayer, E_Taken, E_Full, E_NoGate, E_NotThere, E_NothingToUndo, E_NothingToRedo, E_NoTrial, E_BadJournal, E_BadLine] [false, false, false, false, false, false, false, false, false, false, false, false, false, false, false, false, false, false, false, false, false, false, false, false, false, true, false] = true)
    (xB_PlateError : xkB K (.ref E_PlateError) [E_PlateError, E_BadLevel, E_BadNumbers, E_NoPlace, E_OtherLevel, E_BadCrowd, E_BadStep, E_Shut, E_BadSteps, E_TooMany, E_BadWish, E_NoKind, E_NoRoom, E_Unlike, E_BadOffers, E_BadHopes, E_BadName, E_NoPlayer, E_Taken, E_Full, E_NoGate, E_NotThere, E_NothingToUndo, E_NothingToRedo, E_NoTrial, E_BadJournal, E_BadLine] [true, true, true, true, true, true, true, true, true, true, true, true, true, true, true, true, true, true, true, true, true, true, true, true, true, true, true] = true)
    (xB_ValueError : xkB K (.type "ValueError") [E_PlateError, E_BadLevel, E_BadNumbers, E_NoPlace, E_OtherLevel, E_BadCrowd, E_BadStep, E_Shut, E_BadSteps, E_TooMany, E_BadWish, E_NoKind, E_NoRoom, E_Unlike, E_BadOffers, E_BadHopes, E_BadName, E_NoPlayer, E_Taken, E_Full, E_NoGate, E_NotThere, E_NothingToUndo, E_NothingToRedo, E_NoTrial, E_BadJournal, E_BadLine] [true, true, true, true, true, true, true, true, true, true, true, true, true, true, true, true, true, true, true, true, true, true, true, true, true, true, true] = true)
    (zx_ValueError : PySem.W.nsIn K mainGlobals "ValueError" = some none)
    {CS : Addr} (aCS : PySem.W.nsIn K mainGlobals "PlateError" = some (some (.ref CS)))
    (z_super : PySem.W.nsIn K mainGlobals "super" = some none)
    (zs_super : (l.prog.main.scope.names.lookup ("super" : Str)).isSome = false)
    {fI : Addr} (eini_BadCrowd : PySem.W.findIn K (.ref E_BadCrowd) "__init__" = some (some (.ref fI)))
    {poc pkV pdoc ppm pct : Value} {pod pan : Option Addr} {pq1 pq2 pp0 pp1 pp2 pp3 pp4 pp5 pp6 pp7 pp8 pp9 : Pos} {pcda pcc : Addr} {posl : Array (Option Value)} (pml : K.lookup fI = some ⟨poc, pod, .func (PySem.W.ksFn "__init__" "PlateError.__init__" (pmArgs pq1 pq2) (pmBody pp0 pp1 pp2 pp3 pp4 pp5 pp6 pp7 pp8 pp9) pmScope .none pkV pdoc ppm pan (.ref pcda) pct pcc), posl⟩)
    (pmc : PySem.W.codeIn K (.ref pcda) "PlateError.__init__" = true)
    (pmn : (pp2.endLine == pp4.line) = true)
    {pccl : Value} {pcdd : Option Addr} {pvs : Array Value} {pccs : Array (Option Value)} (pmd : K.lookup pcda = some ⟨pccl, pcdd, .fields pvs, pccs⟩)
    {pfile : Str} {ptf : Tok} (pmf : pvs[2]? = some (.str pfile ptf))
    (pmg : (l.prog.main.file == pfile) = true)
    {pcl2 : Value} {pcld : Option Addr} {pcsl : Array (Option Value)} (pme : K.lookup pcc = some ⟨pcl2, pcld, .cell (some (.ref CS)), pcsl⟩)
    (pmh : (PySem.W.clsIn K CS).isSome = true)
    (pmi : PySem.W.typeIn K (.ref fI) = some (.type "function"))
    (pmj : PySem.W.nsIn K cStatics "thirdparty.any" = some none)
    {xnm_BadCrowd xq_BadCrowd : Str} {xN_BadCrowd : Addr} {xbs_BadCrowd xbm_BadCrowd xsub_BadCrowd : List Value} {xsn_BadCrowd : List Str} {xab_BadCrowd : Bool} {xcol_BadCrowd : Option Bool} {xdd_BadCrowd : Option Addr} {xk0_BadCrowd xk1_BadCrowd xk2_BadCrowd xk3_BadCrowd xk5_BadCrowd : Option Value} (xl_BadCrowd : K.lookup E_BadCrowd = some (excClassObj xnm_BadCrowd xq_BadCrowd E_BadCrowd xN_BadCrowd xbs_BadCrowd xbm_BadCrowd true xsn_BadCrowd xsub_BadCrowd xab_BadCrowd xcol_BadCrowd xdd_BadCrowd xk0_BadCrowd xk1_BadCrowd xk2_BadCrowd xk3_BadCrowd xk5_BadCrowd "ValueError.__new__"))
    (xr_BadCrowd : PySem.HandSPX.refsVE xbm_BadCrowd = true)
    (pB_BadCrowd : pmB K CS fI E_BadCrowd = true)
    {xnm_OtherLevel xq_OtherLevel : Str} {xN_OtherLevel : Addr} {xbs_OtherLevel xbm_OtherLevel xsub_OtherLevel : List Value} {xsn_OtherLevel : List Str} {xab_OtherLevel : Bool} {xcol_OtherLevel : Option Bool} {xdd_OtherLevel : Option Addr} {xk0_OtherLevel xk1_OtherLevel xk2_OtherLevel xk3_OtherLevel xk5_OtherLevel : Option Value} (xl_OtherLevel : K.lookup E_OtherLevel = some (excClassObj xnm_OtherLevel xq_OtherLevel E_OtherLevel xN_OtherLevel xbs_OtherLevel xbm_OtherLevel true xsn_OtherLevel xsub_OtherLevel xab_OtherLevel xcol_OtherLevel xdd_OtherLevel xk0_OtherLevel xk1_OtherLevel xk2_OtherLevel xk3_OtherLevel xk5_OtherLevel "ValueError.__new__"))
    (xr_OtherLevel : PySem.HandSPX.refsVE xbm_OtherLevel = true)
    (pB_OtherLevel : pmB K CS fI E_OtherLevel = true)
    {xnm_NoPlace xq_NoPlace : Str} {xN_NoPlace : Addr} {xbs_NoPlace xbm_NoPlace xsub_NoPlace : List Value} {xsn_NoPlace : List Str} {xab_NoPlace : Bool} {xcol_NoPlace : Option Bool} {xdd_NoPlace : Option Addr} {xk0_NoPlace xk1_NoPlace xk2_NoPlace xk3_NoPlace xk5_NoPlace : Option Value} (xl_NoPlace : K.lookup E_NoPlace = some (excClassObj xnm_NoPlace xq_NoPlace E_NoPlace xN_NoPlace xbs_NoPlace xbm_NoPlace true xsn_NoPlace xsub_NoPlace xab_NoPlace xcol_NoPlace xdd_NoPlace xk0_NoPlace xk1_NoPlace xk2_NoPlace xk3_NoPlace xk5_NoPlace "ValueError.__new__"))
    (xr_NoPlace : PySem.HandSPX.refsVE xbm_NoPlace = true)
    (pB_NoPlace : pmB K CS fI E_NoPlace = true)
    {xnm_BadNumbers xq_BadNumbers : Str} {xN_BadNumbers : Addr} {xbs_BadNumbers xbm_BadNumbers xsub_BadNumbers : List Value} {xsn_BadNumbers : List Str} {xab_BadNumbers : Bool} {xcol_BadNumbers : Option Bool} {xdd_BadNumbers : Option Addr} {xk0_BadNumbers xk1_BadNumbers xk2_BadNumbers xk3_BadNumbers xk5_BadNumbers : Option Value} (xl_BadNumbers : K.lookup E_BadNumbers = some (excClassObj xnm_BadNumbers xq_BadNumbers E_BadNumbers xN_BadNumbers xbs_BadNumbers xbm_BadNumbers true xsn_BadNumbers xsub_BadNumbers xab_BadNumbers xcol_BadNumbers xdd_BadNumbers xk0_BadNumbers xk1_BadNumbers xk2_BadNumbers xk3_BadNumbers xk5_BadNumbers "ValueError.__new__"))
    (xr_BadNumbers : PySem.HandSPX.refsVE xbm_BadNumbers = true)
    (pB_BadNumbers : pmB K CS fI E_BadNumbers = true)
    {xnm_BadLevel xq_BadLevel : Str} {xN_BadLevel : Addr} {xbs_BadLevel xbm_BadLevel xsub_BadLevel : List Value} {xsn_BadLevel : List Str} {xab_BadLevel : Bool} {xcol_BadLevel : Option Bool} {xdd_BadLevel : Option Addr} {xk0_BadLevel xk1_BadLevel xk2_BadLevel xk3_BadLevel xk5_BadLevel : Option Value} (xl_BadLevel : K.lookup E_BadLevel = some (excClassObj xnm_BadLevel xq_BadLevel E_BadLevel xN_BadLevel xbs_BadLevel xbm_BadLevel true xsn_BadLevel xsub_BadLevel xab_BadLevel xcol_BadLevel xdd_BadLevel xk0_BadLevel xk1_BadLevel xk2_BadLevel xk3_BadLevel xk5_BadLevel "ValueError.__new__"))
    (xr_BadLevel : PySem.HandSPX.refsVE xbm_BadLevel = true)
    (pB_BadLevel : pmB K CS fI E_BadLevel = true)
    {xnm_BadWish xq_BadWish : Str} {xN_BadWish : Addr} {xbs_BadWish xbm_BadWish xsub_BadWish : List Value} {xsn_BadWish : List Str} {xab_BadWish : Bool} {xcol_BadWish : Option Bool} {xdd_BadWish : Option Addr} {xk0_BadWish xk1_BadWish xk2_BadWish xk3_BadWish xk5_BadWish : Option Value} (xl_BadWish : K.lookup E_BadWish = some (excClassObj xnm_BadWish xq_BadWish E_BadWish xN_BadWish xbs_BadWish xbm_BadWish true xsn_BadWish xsub_BadWish xab_BadWish xcol_BadWish xdd_BadWish xk0_BadWish xk1_BadWish xk2_BadWish xk3_BadWish xk5_BadWish "ValueError.__new__"))
    (xr_BadWish : PySem.HandSPX.refsVE xbm_BadWish = true)
    (pB_BadWish : pmB K CS fI E_BadWish = true)
    {xnm_TooMany xq_TooMany : Str} {xN_TooMany : Addr} {xbs_TooMany xbm_TooMany xsub_TooMany : List Value} {xsn_TooMany : List Str} {xab_TooMany : Bool} {xcol_TooMany : Option Bool} {xdd_TooMany : Option Addr} {xk0_TooMany xk1_TooMany xk2_TooMany xk3_TooMany xk5_TooMany : Option Value} (xl_TooMany : K.lookup E_TooMany = some (excClassObj xnm_TooMany xq_TooMany E_TooMany xN_TooMany xbs_TooMany xbm_TooMany true xsn_TooMany xsub_TooMany xab_TooMany xcol_TooMany xdd_TooMany xk0_TooMany xk1_TooMany xk2_TooMany xk3_TooMany xk5_TooMany "ValueError.__new__"))
    (xr_TooMany : PySem.HandSPX.refsVE xbm_TooMany = true)
    (pB_TooMany : pmB K CS fI E_TooMany = true)
    {xnm_BadSteps xq_BadSteps : Str} {xN_BadSteps : Addr} {xbs_BadSteps xbm_BadSteps xsub_BadSteps : List Value} {xsn_BadSteps : List Str} {xab_BadSteps : Bool} {xcol_BadSteps : Option Bool} {xdd_BadSteps : Option Addr} {xk0_BadSteps xk1_BadSteps xk2_BadSteps xk3_BadSteps xk5_BadSteps : Option Value} (xl_BadSteps : K.lookup E_BadSteps = some (excClassObj xnm_BadSteps xq_BadSteps E_BadSteps xN_BadSteps xbs_BadSteps xbm_BadSteps true xsn_BadSteps xsub_BadSteps xab_BadSteps xcol_BadSteps xdd_BadSteps xk0_BadSteps xk1_BadSteps xk2_BadSteps xk3_BadSteps xk5_BadSteps "ValueError.__new__"))
    (xr_BadSteps : PySem.HandSPX.refsVE xbm_BadSteps = true)
    (pB_BadSteps : pmB K CS fI E_BadSteps = true)
    {xnm_Shut xq_Shut : Str} {xN_Shut : Addr} {xbs_Shut xbm_Shut xsub_Shut : List Value} {xsn_Shut : List Str} {xab_Shut : Bool} {xcol_Shut : Option Bool} {xdd_Shut : Option Addr} {xk0_Shut xk1_Shut xk2_Shut xk3_Shut xk5_Shut : Option Value} (xl_Shut : K.lookup E_Shut = some (excClassObj xnm_Shut xq_Shut E_Shut xN_Shut xbs_Shut xbm_Shut true xsn_Shut xsub_Shut xab_Shut xcol_Shut xdd_Shut xk0_Shut xk1_Shut xk2_Shut xk3_Shut xk5_Shut "ValueError.__new__"))
    (xr_Shut : PySem.HandSPX.refsVE xbm_Shut = true)
    (pB_Shut : pmB K CS fI E_Shut = true)
    {xnm_BadStep xq_BadStep : Str} {xN_BadStep : Addr} {xbs_BadStep xbm_BadStep xsub_BadStep : List Value} {xsn_BadStep : List Str} {xab_BadStep : Bool} {xcol_BadStep : Option Bool} {xdd_BadStep : Option Addr} {xk0_BadStep xk1_BadStep xk2_BadStep xk3_BadStep xk5_BadStep : Option Value} (xl_BadStep : K.lookup E_BadStep = some (excClassObj xnm_BadStep xq_BadStep E_BadStep xN_BadStep xbs_BadStep xbm_BadStep true xsn_BadStep xsub_BadStep xab_BadStep xcol_BadStep xdd_BadStep xk0_BadStep xk1_BadStep xk2_BadStep xk3_BadStep xk5_BadStep "ValueError.__new__"))
    (xr_BadStep : PySem.HandSPX.refsVE xbm_BadStep = true)
    (pB_BadStep : pmB K CS fI E_BadStep = true)
    {xnm_BadHopes xq_BadHopes : Str} {xN_BadHopes : Addr} {xbs_BadHopes xbm_BadHopes xsub_BadHopes : List Value} {xsn_BadHopes : List Str} {xab_BadHopes : Bool} {xcol_BadHopes : Option Bool} {xdd_BadHopes : Option Addr} {xk0_BadHopes xk1_BadHopes xk2_BadHopes xk3_BadHopes xk5_BadHopes : Option Value} (xl_BadHopes : K.lookup E_BadHopes = some (excClassObj xnm_BadHopes xq_BadHopes E_BadHopes xN_BadHopes xbs_BadHopes xbm_BadHopes true xsn_BadHopes xsub_BadHopes xab_BadHopes xcol_BadHopes xdd_BadHopes xk0_BadHopes xk1_BadHopes xk2_BadHopes xk3_BadHopes xk5_BadHopes "ValueError.__new__"))
    (xr_BadHopes : PySem.HandSPX.refsVE xbm_BadHopes = true)
    (pB_BadHopes : pmB K CS fI E_BadHopes = true)
    {xnm_BadOffers xq_BadOffers : Str} {xN_BadOffers : Addr} {xbs_BadOffers xbm_BadOffers xsub_BadOffers : List Value} {xsn_BadOffers : List Str} {xab_BadOffers : Bool} {xcol_BadOffers : Option Bool} {xdd_BadOffers : Option Addr} {xk0_BadOffers xk1_BadOffers xk2_BadOffers xk3_BadOffers xk5_BadOffers : Option Value} (xl_BadOffers : K.lookup E_BadOffers = some (excClassObj xnm_BadOffers xq_BadOffers E_BadOffers xN_BadOffers xbs_BadOffers xbm_BadOffers true xsn_BadOffers xsub_BadOffers xab_BadOffers xcol_BadOffers xdd_BadOffers xk0_BadOffers xk1_BadOffers xk2_BadOffers xk3_BadOffers xk5_BadOffers "ValueError.__new__"))
    (xr_BadOffers : PySem.HandSPX.refsVE xbm_BadOffers = true)
    (pB_BadOffers : pmB K CS fI E_BadOffers = true)
    {xnm_Unlike xq_Unlike : Str} {xN_Unlike : Addr} {xbs_Unlike xbm_Unlike xsub_Unlike : List Value} {xsn_Unlike : List Str} {xab_Unlike : Bool} {xcol_Unlike : Option Bool} {xdd_Unlike : Option Addr} {xk0_Unlike xk1_Unlike xk2_Unlike xk3_Unlike xk5_Unlike : Option Value} (xl_Unlike : K.lookup E_Unlike = some (excClassObj xnm_Unlike xq_Unlike E_Unlike xN_Unlike xbs_Unlike xbm_Unlike true xsn_Unlike xsub_Unlike xab_Unlike xcol_Unlike xdd_Unlike xk0_Unlike xk1_Unlike xk2_Unlike xk3_Unlike xk5_Unlike "ValueError.__new__"))
    (xr_Unlike : PySem.HandSPX.refsVE xbm_Unlike = true)
    (pB_Unlike : pmB K CS fI E_Unlike = true)
    {xnm_NoRoom xq_NoRoom : Str} {xN_NoRoom : Addr} {xbs_NoRoom xbm_NoRoom xsub_NoRoom : List Value} {xsn_NoRoom : List Str} {xab_NoRoom : Bool} {xcol_NoRoom : Option Bool} {xdd_NoRoom : Option Addr} {xk0_NoRoom xk1_NoRoom xk2_NoRoom xk3_NoRoom xk5_NoRoom : Option Value} (xl_NoRoom : K.lookup E_NoRoom = some (excClassObj xnm_NoRoom xq_NoRoom E_NoRoom xN_NoRoom xbs_NoRoom xbm_NoRoom true xsn_NoRoom xsub_NoRoom xab_NoRoom xcol_NoRoom xdd_NoRoom xk0_NoRoom xk1_NoRoom xk2_NoRoom xk3_NoRoom xk5_NoRoom "ValueError.__new__"))
    (xr_NoRoom : PySem.HandSPX.refsVE xbm_NoRoom = true)
    (pB_NoRoom : pmB K CS fI E_NoRoom = true)
    {xnm_NoKind xq_NoKind : Str} {xN_NoKind : Addr} {xbs_NoKind xbm_NoKind xsub_NoKind : List Value} {xsn_NoKind : List Str} {xab_NoKind : Bool} {xcol_NoKind : Option Bool} {xdd_NoKind : Option Addr} {xk0_NoKind xk1_NoKind xk2_NoKind xk3_NoKind xk5_NoKind : Option Value} (xl_NoKind : K.lookup E_NoKind = some (excClassObj xnm_NoKind xq_NoKind E_NoKind xN_NoKind xbs_NoKind xbm_NoKind true xsn_NoKind xsub_NoKind xab_NoKind xcol_NoKind xdd_NoKind xk0_NoKind xk1_NoKind xk2_NoKind xk3_NoKind xk5_NoKind "ValueError.__new__"))
    (xr_NoKind : PySem.HandSPX.refsVE xbm_NoKind = true)
    (pB_NoKind : pmB K CS fI E_NoKind = true)
    {xnm_NoGate xq_NoGate : Str} {xN_NoGate : Addr} {xbs_NoGate xbm_NoGate xsub_NoGate : List Value} {xsn_NoGate : List Str} {xab_NoGate : Bool} {xcol_NoGate : Option Bool} {xdd_NoGate : Option Addr} {xk0_NoGate xk1_NoGate xk2_NoGate xk3_NoGate xk5_NoGate : Option Value} (xl_NoGate : K.lookup E_NoGate = some (excClassObj xnm_NoGate xq_NoGate E_NoGate xN_NoGate xbs_NoGate xbm_NoGate true xsn_NoGate xsub_NoGate xab_NoGate xcol_NoGate xdd_NoGate xk0_NoGate xk1_NoGate xk2_NoGate xk3_NoGate xk5_NoGate "ValueError.__new__"))
    (xr_NoGate : PySem.HandSPX.refsVE xbm_NoGate = true)
    (pB_NoGate : pmB K CS fI E_NoGate = true)
    {xnm_Full xq_Full : Str} {xN_Full : Addr} {xbs_Full xbm_Full xsub_Full : List Value} {xsn_Full : List Str} {xab_Full : Bool} {xcol_Full : Option Bool} {xdd_Full : Option Addr} {xk0_Full xk1_Full xk2_Full xk3_Full xk5_Full : Option Value} (xl_Full : K.lookup E_Full = some (excClassObj xnm_Full xq_Full E_Full xN_Full xbs_Full xbm_Full true xsn_Full xsub_Full xab_Full xcol_Full xdd_Full xk0_Full xk1_Full xk2_Full xk3_Full xk5_Full "ValueError.__new__"))
    (xr_Full : PySem.HandSPX.refsVE xbm_Full = true)
    (pB_Full : pmB K CS fI E_Full = true)
    {xnm_Taken xq_Taken : Str} {xN_Taken : Addr} {xbs_Taken xbm_Taken xsub_Taken : List Value} {xsn_Taken : List Str} {xab_Taken : Bool} {xcol_Taken : Option Bool} {xdd_Taken : Option Addr} {xk0_Taken xk1_Taken xk2_Taken xk3_Taken xk5_Taken : Option Value} (xl_Taken : K.lookup E_Taken = some (excClassObj xnm_Taken xq_Taken E_Taken xN_Taken xbs_Taken xbm_Taken true xsn_Taken xsub_Taken xab_Taken xcol_Taken xdd_Taken xk0_Taken xk1_Taken xk2_Taken xk3_Taken xk5_Taken "ValueError.__new__"))
    (xr_Taken : PySem.HandSPX.refsVE xbm_Taken = true)
    (pB_Taken : pmB K CS fI E_Taken = true)
    {xnm_NoPlayer xq_NoPlayer : Str} {xN_NoPlayer : Addr} {xbs_NoPlayer xbm_NoPlayer xsub_NoPlayer : List Value} {xsn_NoPlayer : List Str} {xab_NoPlayer : Bool} {xcol_NoPlayer : Option Bool} {xdd_NoPlayer : Option Addr} {xk0_NoPlayer xk1_NoPlayer xk2_NoPlayer xk3_NoPlayer xk5_NoPlayer : Option Value} (xl_NoPlayer : K.lookup E_NoPlayer = some (excClassObj xnm_NoPlayer xq_NoPlayer E_NoPlayer xN_NoPlayer xbs_NoPlayer xbm_NoPlayer true xsn_NoPlayer xsub_NoPlayer xab_NoPlayer xcol_NoPlayer xdd_NoPlayer xk0_NoPlayer xk1_NoPlayer xk2_NoPlayer xk3_NoPlayer xk5_NoPlayer "ValueError.__new__"))
    (xr_NoPlayer : PySem.HandSPX.refsVE xbm_NoPlayer = true)
    (pB_NoPlayer : pmB K CS fI E_NoPlayer = true)
    {xnm_BadName xq_BadName : Str} {xN_BadName : Addr} {xbs_BadName xbm_BadName xsub_BadName : List Value} {xsn_BadName : List Str} {xab_BadName : Bool} {xcol_BadName : Option Bool} {xdd_BadName : Option Addr} {xk0_BadName xk1_BadName xk2_BadName xk3_BadName xk5_BadName : Option Value} (xl_BadName : K.lookup E_BadName = some (excClassObj xnm_BadName xq_BadName E_BadName xN_BadName xbs_BadName xbm_BadName true xsn_BadName xsub_BadName xab_BadName xcol_BadName xdd_BadName xk0_BadName xk1_BadName xk2_BadName xk3_BadName xk5_BadName "ValueError.__new__"))
    (xr_BadName : PySem.HandSPX.refsVE xbm_BadName = true)
    (pB_BadName : pmB K CS fI E_BadName = true)
    {xnm_BadJournal xq_BadJournal : Str} {xN_BadJournal : Addr} {xbs_BadJournal xbm_BadJournal xsub_BadJournal : List Value} {xsn_BadJournal : List Str} {xab_BadJournal : Bool} {xcol_BadJournal : Option Bool} {xdd_BadJournal : Option Addr} {xk0_BadJournal xk1_BadJournal xk2_BadJournal xk3_BadJournal xk5_BadJournal : Option Value} (xl_BadJournal : K.lookup E_BadJournal = some (excClassObj xnm_BadJournal xq_BadJournal E_BadJournal xN_BadJournal xbs_BadJournal xbm_BadJournal true xsn_BadJournal xsub_BadJournal xab_BadJournal xcol_BadJournal xdd_BadJournal xk0_BadJournal xk1_BadJournal xk2_BadJournal xk3_BadJournal xk5_BadJournal "ValueError.__new__"))
    (xr_BadJournal : PySem.HandSPX.refsVE xbm_BadJournal = true)
    (pB_BadJournal : pmB K CS fI E_BadJournal = true)
    {xnm_NoTrial xq_NoTrial : Str} {xN_NoTrial : Addr} {xbs_NoTrial xbm_NoTrial xsub_NoTrial : List Value} {xsn_NoTrial : List Str} {xab_NoTrial : Bool} {xcol_NoTrial : Option Bool} {xdd_NoTrial : Option Addr} {xk0_NoTrial xk1_NoTrial xk2_NoTrial xk3_NoTrial xk5_NoTrial : Option Value} (xl_NoTrial : K.lookup E_NoTrial = some (excClassObj xnm_NoTrial xq_NoTrial E_NoTrial xN_NoTrial xbs_NoTrial xbm_NoTrial true xsn_NoTrial xsub_NoTrial xab_NoTrial xcol_NoTrial xdd_NoTrial xk0_NoTrial xk1_NoTrial xk2_NoTrial xk3_NoTrial xk5_NoTrial "ValueError.__new__"))
    (xr_NoTrial : PySem.HandSPX.refsVE xbm_NoTrial = true)
    (pB_NoTrial : pmB K CS fI E_NoTrial = true)
    {xnm_NothingToRedo xq_NothingToRedo : Str} {xN_NothingToRedo : Addr} {xbs_NothingToRedo xbm_NothingToRedo xsub_NothingToRedo : List Value} {xsn_NothingToRedo : List Str} {xab_NothingToRedo : Bool} {xcol_NothingToRedo : Option Bool} {xdd_NothingToRedo : Option Addr} {xk0_NothingToRedo xk1_NothingToRedo xk2_NothingToRedo xk3_NothingToRedo xk5_NothingToRedo : Option Value} (xl_NothingToRedo : K.lookup E_NothingToRedo = some (excClassObj xnm_NothingToRedo xq_NothingToRedo E_NothingToRedo xN_NothingToRedo xbs_NothingToRedo xbm_NothingToRedo true xsn_NothingToRedo xsub_NothingToRedo xab_NothingToRedo xcol_NothingToRedo xdd_NothingToRedo xk0_NothingToRedo xk1_NothingToRedo xk2_NothingToRedo xk3_NothingToRedo xk5_NothingToRedo "ValueError.__new__"))
    (xr_NothingToRedo : PySem.HandSPX.refsVE xbm_NothingToRedo = true)
    (pB_NothingToRedo : pmB K CS fI E_NothingToRedo = true)
    {xnm_NothingToUndo xq_NothingToUndo : Str} {xN_NothingToUndo : Addr} {xbs_NothingToUndo xbm_NothingToUndo xsub_NothingToUndo : List Value} {xsn_NothingToUndo : List Str} {xab_NothingToUndo : Bool} {xcol_NothingToUndo : Option Bool} {xdd_NothingToUndo : Option Addr} {xk0_NothingToUndo xk1_NothingToUndo xk2_NothingToUndo xk3_NothingToUndo xk5_NothingToUndo : Option Value} (xl_NothingToUndo : K.lookup E_NothingToUndo = some (excClassObj xnm_NothingToUndo xq_NothingToUndo E_NothingToUndo xN_NothingToUndo xbs_NothingToUndo xbm_NothingToUndo true xsn_NothingToUndo xsub_NothingToUndo xab_NothingToUndo xcol_NothingToUndo xdd_NothingToUndo xk0_NothingToUndo xk1_NothingToUndo xk2_NothingToUndo xk3_NothingToUndo xk5_NothingToUndo "ValueError.__new__"))
    (xr_NothingToUndo : PySem.HandSPX.refsVE xbm_NothingToUndo = true)
    (pB_NothingToUndo : pmB K CS fI E_NothingToUndo = true)
    {xnm_NotThere xq_NotThere : Str} {xN_NotThere : Addr} {xbs_NotThere xbm_NotThere xsub_NotThere : List Value} {xsn_NotThere : List Str} {xab_NotThere : Bool} {xcol_NotThere : Option Bool} {xdd_NotThere : Option Addr} {xk0_NotThere xk1_NotThere xk2_NotThere xk3_NotThere xk5_NotThere : Option Value} (xl_NotThere : K.lookup E_NotThere = some (excClassObj xnm_NotThere xq_NotThere E_NotThere xN_NotThere xbs_NotThere xbm_NotThere true xsn_NotThere xsub_NotThere xab_NotThere xcol_NotThere xdd_NotThere xk0_NotThere xk1_NotThere xk2_NotThere xk3_NotThere xk5_NotThere "ValueError.__new__"))
    (xr_NotThere : PySem.HandSPX.refsVE xbm_NotThere = true)
    (pB_NotThere : pmB K CS fI E_NotThere = true)
    {xnm_BadLine xq_BadLine : Str} {xN_BadLine : Addr} {xbs_BadLine xbm_BadLine xsub_BadLine : List Value} {xsn_BadLine : List Str} {xab_BadLine : Bool} {xcol_BadLine : Option Bool} {xdd_BadLine : Option Addr} {xk0_BadLine xk1_BadLine xk2_BadLine xk3_BadLine xk5_BadLine : Option Value} (xl_BadLine : K.lookup E_BadLine = some (excClassObj xnm_BadLine xq_BadLine E_BadLine xN_BadLine xbs_BadLine xbm_BadLine true xsn_BadLine xsub_BadLine xab_BadLine xcol_BadLine xdd_BadLine xk0_BadLine xk1_BadLine xk2_BadLine xk3_BadLine xk5_BadLine "ValueError.__new__"))
    (xr_BadLine : PySem.HandSPX.refsVE xbm_BadLine = true)
    (pB_BadLine : pmB K CS fI E_BadLine = true)
    {xnm_PlateError xq_PlateError : Str} {xN_PlateError : Addr} {xbs_PlateError xbm_PlateError xsub_PlateError : List Value} {xsn_PlateError : List Str} {xab_PlateError : Bool} {xcol_PlateError : Option Bool} {xdd_PlateError : Option Addr} {xk0_PlateError xk1_PlateError xk2_PlateError xk3_PlateError xk5_PlateError : Option Value} (xl_PlateError : K.lookup E_PlateError = some (excClassObj xnm_PlateError xq_PlateError E_PlateError xN_PlateError xbs_PlateError xbm_PlateError true xsn_PlateError xsub_PlateError xab_PlateError xcol_PlateError xdd_PlateError xk0_PlateError xk1_PlateError xk2_PlateError xk3_PlateError xk5_PlateError "ValueError.__new__"))
    (xr_PlateError : PySem.HandSPX.refsVE xbm_PlateError = true)
    (pB_PlateError : pmB K CS fI E_PlateError = true)
    (z_len : PySem.W.nsIn K mainGlobals "len" = some none)
    (z_int : PySem.W.nsIn K mainGlobals "int" = some none)
    (z_abs : PySem.W.nsIn K mainGlobals "abs" = some none)
    (z_str : PySem.W.nsIn K mainGlobals "str" = some none)
    (z_tuple : PySem.W.nsIn K mainGlobals "tuple" = some none)
    (z_list : PySem.W.nsIn K mainGlobals "list" = some none)
    (z_range : PySem.W.nsIn K mainGlobals "range" = some none)
    (z_zip : PySem.W.nsIn K mainGlobals "zip" = some none)
    (z_enumerate : PySem.W.nsIn K mainGlobals "enumerate" = some none)
    (z_max : PySem.W.nsIn K mainGlobals "max" = some none)
    (z_min : PySem.W.nsIn K mainGlobals "min" = some none)
    (z_sum : PySem.W.nsIn K mainGlobals "sum" = some none)
    (z_all : PySem.W.nsIn K mainGlobals "all" = some none)
    (z_any : PySem.W.nsIn K mainGlobals "any" = some none)
    (z_sorted : PySem.W.nsIn K mainGlobals "sorted" = some none)
    (z_set : PySem.W.nsIn K mainGlobals "set" = some none)
    (z_isinstance : PySem.W.nsIn K mainGlobals "isinstance" = some none)
    (z_repr : PySem.W.nsIn K mainGlobals "repr" = some none)
    (z_bool : PySem.W.nsIn K mainGlobals "bool" = some none)
    (z_dict : PySem.W.nsIn K mainGlobals "dict" = some none)
    {f0 : Addr} (a0 : PySem.W.nsIn K mainGlobals "_law_pot" = some (some (.ref f0)))
    {od0 an0 : Option Addr} {sl0 : Array (Option Value)} {oc0 kV0 dc0 pm0 cd0 ct0 : Value} (l0 : K.lookup f0 = some ⟨oc0, od0, .func (PySem.W.fnOf "_law_pot" "_law_pot" (defArgs st_pot) (defBody st_pot) (defScope st_pot) .none kV0 dc0 pm0 an0 cd0 ct0), sl0⟩)
    (c0 : PySem.W.codeIn K cd0 "_law_pot" = true)
    (k0 : PySem.W.keepIn K (.ref f0) = true)
    {f1 : Addr} (a1 : PySem.W.nsIn K mainGlobals "_law_take" = some (some (.ref f1)))
    {od1 an1 : Option Addr} {sl1 : Array (Option Value)} {oc1 kV1 dc1 pm1 cd1 ct1 : Value} (l1 : K.lookup f1 = some ⟨oc1, od1, .func (PySem.W.fnOf "_law_take" "_law_take" (defArgs st_take) (defBody st_take) (defScope st_take) .none kV1 dc1 pm1 an1 cd1 ct1), sl1⟩)
    (c1 : PySem.W.codeIn K cd1 "_law_take" = true)
    (k1 : PySem.W.keepIn K (.ref f1) = true)
    {f2 : Addr} (a2 : PySem.W.nsIn K mainGlobals "_law_of" = some (some (.ref f2)))
    {od2 an2 : Option Addr} {sl2 : Array (Option Value)} {oc2 kV2 dc2 pm2 cd2 ct2 : Value} (l2 : K.lookup f2 = some ⟨oc2, od2, .func (PySem.W.fnOf "_law_of" "_law_of" (defArgs st_of) (defBody st_of) (defScope st_of) .none kV2 dc2 pm2 an2 cd2 ct2), sl2⟩)
    (c2 : PySem.W.codeIn K cd2 "_law_of" = true)
    (k2 : PySem.W.keepIn K (.ref f2) = true)
    {f3 : Addr} (a3 : PySem.W.nsIn K mainGlobals "_law_odd" = some (some (.ref f3)))
    {od3 an3 : Option Addr} {sl3 : Array (Option Value)} {oc3 kV3 dc3 pm3 cd3 ct3 : Value} (l3 : K.lookup f3 = some ⟨oc3, od3, .func (PySem.W.fnOf "_law_odd" "_law_odd" (defArgs st_odd) (defBody st_odd) (defScope st_odd) .none kV3 dc3 pm3 an3 cd3 ct3), sl3⟩)
    (c3 : PySem.W.codeIn K cd3 "_law_odd" = true)
    (k3 : PySem.W.keepIn K (.ref f3) = true)
    {f4 : Addr} (a4 : PySem.W.nsIn K mainGlobals "_law_cells" = some (some (.ref f4)))
    {od4 an4 : Option Addr} {sl4 : Array (Option Value)} {oc4 kV4 dc4 pm4 cd4 ct4 : Value} (l4 : K.lookup f4 = some ⟨oc4, od4, .func (PySem.W.fnOf "_law_cells" "_law_cells" (defArgs st_cells) (defBody st_cells) (defScope st_cells) .none kV4 dc4 pm4 an4 cd4 ct4), sl4⟩)
    (c4 : PySem.W.codeIn K cd4 "_law_cells" = true)
    (k4 : PySem.W.keepIn K (.ref f4) = true)
    {f5 : Addr} (a5 : PySem.W.nsIn K mainGlobals "_law_errors" = some (some (.ref f5)))
    {od5 an5 : Option Addr} {sl5 : Array (Option Value)} {oc5 kV5 dc5 pm5 cd5 ct5 : Value} (l5 : K.lookup f5 = some ⟨oc5, od5, .func (PySem.W.fnOf "_law_errors" "_law_errors" (defArgs st_errors) (defBody st_errors) (defScope st_errors) .none kV5 dc5 pm5 an5 cd5 ct5), sl5⟩)
    (c5 : PySem.W.codeIn K cd5 "_law_errors" = true)
    (k5 : PySem.W.keepIn K (.ref f5) = true)
    {f6 : Addr} (a6 : PySem.W.nsIn K mainGlobals "_law_marks" = some (some (.ref f6)))
    {od6 an6 : Option Addr} {sl6 : Array (Option Value)} {oc6 kV6 dc6 pm6 cd6 ct6 : Value} (l6 : K.lookup f6 = some ⟨oc6, od6, .func (PySem.W.fnOf "_law_marks" "_law_marks" (defArgs st_marks) (defBody st_marks) (defScope st_marks) .none kV6 dc6 pm6 an6 cd6 ct6), sl6⟩)
    (c6 : PySem.W.codeIn K cd6 "_law_marks" = true)
    (k6 : PySem.W.keepIn K (.ref f6) = true)
    {f7 : Addr} (a7 : PySem.W.nsIn K mainGlobals "_law_value" = some (some (.ref f7)))
    {od7 an7 : Option Addr} {sl7 : Array (Option Value)} {oc7 kV7 dc7 pm7 cd7 ct7 : Value} (l7 : K.lookup f7 = some ⟨oc7, od7, .func (PySem.W.fnOf "_law_value" "_law_value" (defArgs st_value0) (defBody st_value0) (defScope st_value0) .none kV7 dc7 pm7 an7 cd7 ct7), sl7⟩)
    (c7 : PySem.W.codeIn K cd7 "_law_value" = true)
    (k7 : PySem.W.keepIn K (.ref f7) = true)
    {f8 : Addr} (a8 : PySem.W.nsIn K mainGlobals "_law_value" = some (some (.ref f8)))
    {od8 an8 : Option Addr} {sl8 : Array (Option Value)} {oc8 kV8 dc8 pm8 cd8 ct8 : Value} (l8 : K.lookup f8 = some ⟨oc8, od8, .func (PySem.W.fnOf "_law_value" "_law_value" (defArgs st_value1) (defBody st_value1) (defScope st_value1) .none kV8 dc8 pm8 an8 cd8 ct8), sl8⟩)
    (c8 : PySem.W.codeIn K cd8 "_law_value" = true)
    (k8 : PySem.W.keepIn K (.ref f8) = true)
    {f9 : Addr} (a9 : PySem.W.nsIn K mainGlobals "_law_value" = some (some (.ref f9)))
    {od9 an9 : Option Addr} {sl9 : Array (Option Value)} {oc9 kV9 dc9 pm9 cd9 ct9 : Value} (l9 : K.lookup f9 = some ⟨oc9, od9, .func (PySem.W.fnOf "_law_value" "_law_value" (defArgs st_value2) (defBody st_value2) (defScope st_value2) .none kV9 dc9 pm9 an9 cd9 ct9), sl9⟩)
    (c9 : PySem.W.codeIn K cd9 "_law_value" = true)
    (k9 : PySem.W.keepIn K (.ref f9) = true)
    {f10 : Addr} (a10 : PySem.W.nsIn K mainGlobals "_law_value" = some (some (.ref f10)))
    {od10 an10 : Option Addr} {sl10 : Array (Option Value)} {oc10 kV10 dc10 pm10 cd10 ct10 : Value} (l10 : K.lookup f10 = some ⟨oc10, od10, .func (PySem.W.fnOf "_law_value" "_law_value" (defArgs st_value3) (defBody st_value3) (defScope st_value3) .none kV10 dc10 pm10 an10 cd10 ct10), sl10⟩)
    (c10 : PySem.W.codeIn K cd10 "_law_value" = true)
    (k10 : PySem.W.keepIn K (.ref f10) = true)
    {f11 : Addr} (a11 : PySem.W.nsIn K mainGlobals "_law_fine" = some (some (.ref f11)))
    {od11 an11 : Option Addr} {sl11 : Array (Option Value)} {oc11 kV11 dc11 pm11 cd11 ct11 : Value} (l11 : K.lookup f11 = some ⟨oc11, od11, .func (PySem.W.fnOf "_law_fine" "_law_fine" (defArgs st_fine) (defBody st_fine) (defScope st_fine) .none kV11 dc11 pm11 an11 cd11 ct11), sl11⟩)
    (c11 : PySem.W.codeIn K cd11 "_law_fine" = true)
    (k11 : PySem.W.keepIn K (.ref f11) = true)
    {f12 : Addr} (a12 : PySem.W.nsIn K mainGlobals "law" = some (some (.ref f12)))
    {od12 an12 : Option Addr} {sl12 : Array (Option Value)} {oc12 kV12 dc12 pm12 cd12 ct12 : Value} (l12 : K.lookup f12 = some ⟨oc12, od12, .func (PySem.W.fnOf "law" "law" (defArgs st_P_law) (defBody st_P_law) (defScope st_P_law) .none kV12 dc12 pm12 an12 cd12 ct12), sl12⟩)
    (c12 : PySem.W.codeIn K cd12 "law" = true)
    (k12 : PySem.W.keepIn K (.ref f12) = true) :
    ∃ fd : FuncData, (∀ (s : Shared) (v : Value), BindsTo s fd ⟨[v], []⟩ [("_law_script", v)]) ∧ ∀ base : Heap, K.In base → base.Ns mainGlobals mg → T.FnOk l.prog w K mg base (L2.CX l.prog w) 9 fa fd ["_law_script"] (spLaw K) := by
  have e := hfa.symm.trans (PySem.W.mg_of X G a12)
  cases e
  have B : Blt mg := ⟨PySem.W.mg_none_of X G z_len, PySem.W.mg_none_of X G z_int, PySem.W.mg_none_of X G z_abs, PySem.W.mg_none_of X G z_str, PySem.W.mg_none_of X G z_tuple, PySem.W.mg_none_of X G z_list, PySem.W.mg_none_of X G z_range, PySem.W.mg_none_of X G z_zip, PySem.W.mg_none_of X G z_enumerate, PySem.W.mg_none_of X G z_max, PySem.W.mg_none_of X G z_min, PySem.W.mg_none_of X G z_sum, PySem.W.mg_none_of X G z_all, PySem.W.mg_none_of X G z_any, PySem.W.mg_none_of X G z_sorted, PySem.W.mg_none_of X G z_set, PySem.W.mg_none_of X G z_isinstance, PySem.W.mg_none_of X G z_repr, PySem.W.mg_none_of X G z_bool, PySem.W.mg_none_of X G z_dict⟩
  have ge_BadCrowd := PySem.W.mg_of X G ae_BadCrowd
  have ge_OtherLevel := PySem.W.mg_of X G ae_OtherLevel
  have ge_NoPlace := PySem.W.mg_of X G ae_NoPlace
  have ge_BadNumbers := PySem.W.mg_of X G ae_BadNumbers
  have ge_BadLevel := PySem.W.mg_of X G ae_BadLevel
  have ge_BadWish := PySem.W.mg_of X G ae_BadWish
  have ge_TooMany := PySem.W.mg_of X G ae_TooMany
  have ge_BadSteps := PySem.W.mg_of X G ae_BadSteps
  have ge_Shut := PySem.W.mg_of X G ae_Shut
  have ge_BadStep := PySem.W.mg_of X G ae_BadStep
  have ge_BadHopes := PySem.W.mg_of X G ae_BadHopes
  have ge_BadOffers := PySem.W.mg_of X G ae_BadOffers
  have ge_Unlike := PySem.W.mg_of X G ae_Unlike
  have ge_NoRoom := PySem.W.mg_of X G ae_NoRoom
  have ge_NoKind := PySem.W.mg_of X G ae_NoKind
  have ge_NoGate := PySem.W.mg_of X G ae_NoGate
  have ge_Full := PySem.W.mg_of X G ae_Full
  have ge_Taken := PySem.W.mg_of X G ae_Taken
  have ge_NoPlayer := PySem.W.mg_of X G ae_NoPlayer
  have ge_BadName := PySem.W.mg_of X G ae_BadName
  have ge_BadJournal := PySem.W.mg_of X G ae_BadJournal
  have ge_NoTrial := PySem.W.mg_of X G ae_NoTrial
  have ge_NothingToRedo := PySem.W.mg_of X G ae_NothingToRedo
  have ge_NothingToUndo := PySem.W.mg_of X G ae_NothingToUndo
  have ge_NotThere := PySem.W.mg_of X G ae_NotThere
  have ge_BadLine := PySem.W.mg_of X G ae_BadLine
  have ge_PlateError := PySem.W.mg_of X G ae_PlateError
  have ec_PlateError := errB_ok hnX htkX eB_PlateError
  have ec_BadLevel := errB_ok hnX htkX eB_BadLevel
  have ec_BadNumbers := errB_ok hnX htkX eB_BadNumbers
  have ec_NoPlace := errB_ok hnX htkX eB_NoPlace
  have ec_OtherLevel := errB_ok hnX htkX eB_OtherLevel
  have ec_BadCrowd := errB_ok hnX htkX eB_BadCrowd
  have ec_BadStep := errB_ok hnX htkX eB_BadStep
  have ec_Shut := errB_ok hnX htkX eB_Shut
  have ec_BadSteps := errB_ok hnX htkX eB_BadSteps
  have ec_TooMany := errB_ok hnX htkX eB_TooMany
  have ec_BadWish := errB_ok hnX htkX eB_BadWish
  have ec_NoKind := errB_ok hnX htkX eB_NoKind
  have ec_NoRoom := errB_ok hnX htkX eB_NoRoom
  have ec_Unlike := errB_ok hnX htkX eB_Unlike
  have ec_BadOffers := errB_ok hnX htkX eB_BadOffers
  have ec_BadHopes := errB_ok hnX htkX eB_BadHopes
  have ec_BadName := errB_ok hnX htkX eB_BadName
  have ec_NoPlayer := errB_ok hnX htkX eB_NoPlayer
  have ec_Taken := errB_ok hnX htkX eB_Taken
  have ec_Full := errB_ok hnX htkX eB_Full
  have ec_NoGate := errB_ok hnX htkX eB_NoGate
  have ec_NotThere := errB_ok hnX htkX eB_NotThere
  have ec_NothingToUndo := errB_ok hnX htkX eB_NothingToUndo
  have ec_NothingToRedo := errB_ok hnX htkX eB_NothingToRedo
  have ec_NoTrial := errB_ok hnX htkX eB_NoTrial
  have ec_BadJournal := errB_ok hnX htkX eB_BadJournal
  have ec_BadLine := errB_ok hnX htkX eB_BadLine
  have gPA : ∀ p ∈ ([("PlateError", E_PlateError), ("BadLevel", E_BadLevel), ("BadNumbers", E_BadNumbers), ("NoPlace", E_NoPlace), ("OtherLevel", E_OtherLevel), ("BadCrowd", E_BadCrowd), ("BadStep", E_BadStep), ("Shut", E_Shut), ("BadSteps", E_BadSteps), ("TooMany", E_TooMany), ("BadWish", E_BadWish), ("NoKind", E_NoKind), ("NoRoom", E_NoRoom), ("Unlike", E_Unlike), ("BadOffers", E_BadOffers), ("BadHopes", E_BadHopes), ("BadName", E_BadName), ("NoPlayer", E_NoPlayer), ("Taken", E_Taken), ("Full", E_Full), ("NoGate", E_NoGate), ("NotThere", E_NotThere), ("NothingToUndo", E_NothingToUndo), ("NothingToRedo", E_NothingToRedo), ("NoTrial", E_NoTrial), ("BadJournal", E_BadJournal), ("BadLine", E_BadLine)] : List (Str × Addr)), mg p.1 = some (.ref p.2) ∧ ErrC K p.2 := (List.forall_mem_cons.mpr ⟨⟨ge_PlateError, ec_PlateError⟩, (List.forall_mem_cons.mpr ⟨⟨ge_BadLevel, ec_BadLevel⟩, (List.forall_mem_cons.mpr ⟨⟨ge_BadNumbers, ec_BadNumbers⟩, (List.forall_mem_cons.mpr ⟨⟨ge_NoPlace, ec_NoPlace⟩, (List.forall_mem_cons.mpr ⟨⟨ge_OtherLevel, ec_OtherLevel⟩, (List.forall_mem_cons.mpr ⟨⟨ge_BadCrowd, ec_BadCrowd⟩, (List.forall_mem_cons.mpr ⟨⟨ge_BadStep, ec_BadStep⟩, (List.forall_mem_cons.mpr ⟨⟨ge_Shut, ec_Shut⟩, (List.forall_mem_cons.mpr ⟨⟨ge_BadSteps, ec_BadSteps⟩, (List.forall_mem_cons.mpr ⟨⟨ge_TooMany, ec_TooMany⟩, (List.forall_mem_cons.mpr ⟨⟨ge_BadWish, ec_BadWish⟩, (List.forall_mem_cons.mpr ⟨⟨ge_NoKind, ec_NoKind⟩, (List.forall_mem_cons.mpr ⟨⟨ge_NoRoom, ec_NoRoom⟩, (List.forall_mem_cons.mpr ⟨⟨ge_Unlike, ec_Unlike⟩, (List.forall_mem_cons.mpr ⟨⟨ge_BadOffers, ec_BadOffers⟩, (List.forall_mem_cons.mpr ⟨⟨ge_BadHopes, ec_BadHopes⟩, (List.forall_mem_cons.mpr ⟨⟨ge_BadName, ec_BadName⟩, (List.forall_mem_cons.mpr ⟨⟨ge_NoPlayer, ec_NoPlayer⟩, (List.forall_mem_cons.mpr ⟨⟨ge_Taken, ec_Taken⟩, (List.forall_mem_cons.mpr ⟨⟨ge_Full, ec_Full⟩, (List.forall_mem_cons.mpr ⟨⟨ge_NoGate, ec_NoGate⟩, (List.forall_mem_cons.mpr ⟨⟨ge_NotThere, ec_NotThere⟩, (List.forall_mem_cons.mpr ⟨⟨ge_NothingToUndo, ec_NothingToUndo⟩, (List.forall_mem_cons.mpr ⟨⟨ge_NothingToRedo, ec_NothingToRedo⟩, (List.forall_mem_cons.mpr ⟨⟨ge_NoTrial, ec_NoTrial⟩, (List.forall_mem_cons.mpr ⟨⟨ge_BadJournal, ec_BadJournal⟩, (List.forall_mem_cons.mpr ⟨⟨ge_BadLine, ec_BadLine⟩, (fun _ z => nomatch z)⟩)⟩)⟩)⟩)⟩)⟩)⟩)⟩)⟩)⟩)⟩)⟩)⟩)⟩)⟩)⟩)⟩)⟩)⟩)⟩)⟩)⟩)⟩)⟩)⟩)⟩)⟩)
  have x_NoPlace : IsX K mg "NoPlace" [("PlateError", false), ("BadLevel", false), ("BadNumbers", false), ("NoPlace", true), ("OtherLevel", false), ("BadCrowd", false), ("BadStep", false), ("Shut", false), ("BadSteps", false), ("TooMany", false), ("BadWish", false), ("NoKind", false), ("NoRoom", false), ("Unlike", false), ("BadOffers", false), ("BadHopes", false), ("BadName", false), ("NoPlayer", false), ("Taken", false), ("Full", false), ("NoGate", false), ("NotThere", false), ("NothingToUndo", false), ("NothingToRedo", false), ("NoTrial", false), ("BadJournal", false), ("BadLine", false)] := ⟨E_NoPlace, ge_NoPlace, xkB_ty xB_NoPlace, isx_of gPA xB_NoPlace⟩
  have x_BadNumbers : IsX K mg "BadNumbers" [("PlateError", false), ("BadLevel", false), ("BadNumbers", true), ("NoPlace", false), ("OtherLevel", false), ("BadCrowd", false), ("BadStep", false), ("Shut", false), ("BadSteps", false), ("TooMany", false), ("BadWish", false), ("NoKind", false), ("NoRoom", false), ("Unlike", false), ("BadOffers", false), ("BadHopes", false), ("BadName", false), ("NoPlayer", false), ("Taken", false), ("Full", false), ("NoGate", false), ("NotThere", false), ("NothingToUndo", false), ("NothingToRedo", false), ("NoTrial", false), ("BadJournal", false), ("BadLine", false)] := ⟨E_BadNumbers, ge_BadNumbers, xkB_ty xB_BadNumbers, isx_of gPA xB_BadNumbers⟩
  have x_BadLevel : IsX K mg "BadLevel" [("PlateError", false), ("BadLevel", true), ("BadNumbers", false), ("NoPlace", false), ("OtherLevel", false), ("BadCrowd", false), ("BadStep", false), ("Shut", false), ("BadSteps", false), ("TooMany", false), ("BadWish", false), ("NoKind", false), ("NoRoom", false), ("Unlike", false), ("BadOffers", false), ("BadHopes", false), ("BadName", false), ("NoPlayer", false), ("Taken", false), ("Full", false), ("NoGate", false), ("NotThere", false), ("NothingToUndo", false), ("NothingToRedo", false), ("NoTrial", false), ("BadJournal", false), ("BadLine", false)] := ⟨E_BadLevel, ge_BadLevel, xkB_ty xB_BadLevel, isx_of gPA xB_BadLevel⟩
  have x_BadStep : IsX K mg "BadStep" [("PlateError", false), ("BadLevel", false), ("BadNumbers", false), ("NoPlace", false), ("OtherLevel", false), ("BadCrowd", false), ("BadStep", true), ("Shut", false), ("BadSteps", false), ("TooMany", false), ("BadWish", false), ("NoKind", false), ("NoRoom", false), ("Unlike", false), ("BadOffers", false), ("BadHopes", false), ("BadName", false), ("NoPlayer", false), ("Taken", false), ("Full", false), ("NoGate", false), ("NotThere", false), ("NothingToUndo", false), ("NothingToRedo", false), ("NoTrial", false), ("BadJournal", false), ("BadLine", false)] := ⟨E_BadStep, ge_BadStep, xkB_ty xB_BadStep, isx_of gPA xB_BadStep⟩
  have x_BadCrowd : IsX K mg "BadCrowd" [("PlateError", false), ("BadLevel", false), ("BadNumbers", false), ("NoPlace", false), ("OtherLevel", false), ("BadCrowd", true), ("BadStep", false), ("Shut", false), ("BadSteps", false), ("TooMany", false), ("BadWish", false), ("NoKind", false), ("NoRoom", false), ("Unlike", false), ("BadOffers", false), ("BadHopes", false), ("BadName", false), ("NoPlayer", false), ("Taken", false), ("Full", false), ("NoGate", false), ("NotThere", false), ("NothingToUndo", false), ("NothingToRedo", false), ("NoTrial", false), ("BadJournal", false), ("BadLine", false)] := ⟨E_BadCrowd, ge_BadCrowd, xkB_ty xB_BadCrowd, isx_of gPA xB_BadCrowd⟩
  have x_OtherLevel : IsX K mg "OtherLevel" [("PlateError", false), ("BadLevel", false), ("BadNumbers", false), ("NoPlace", false), ("OtherLevel", true), ("BadCrowd", false), ("BadStep", false), ("Shut", false), ("BadSteps", false), ("TooMany", false), ("BadWish", false), ("NoKind", false), ("NoRoom", false), ("Unlike", false), ("BadOffers", false), ("BadHopes", false), ("BadName", false), ("NoPlayer", false), ("Taken", false), ("Full", false), ("NoGate", false), ("NotThere", false), ("NothingToUndo", false), ("NothingToRedo", false), ("NoTrial", false), ("BadJournal", false), ("BadLine", false)] := ⟨E_OtherLevel, ge_OtherLevel, xkB_ty xB_OtherLevel, isx_of gPA xB_OtherLevel⟩
  have x_TooMany : IsX K mg "TooMany" [("PlateError", false), ("BadLevel", false), ("BadNumbers", false), ("NoPlace", false), ("OtherLevel", false), ("BadCrowd", false), ("BadStep", false), ("Shut", false), ("BadSteps", false), ("TooMany", true), ("BadWish", false), ("NoKind", false), ("NoRoom", false), ("Unlike", false), ("BadOffers", false), ("BadHopes", false), ("BadName", false), ("NoPlayer", false), ("Taken", false), ("Full", false), ("NoGate", false), ("NotThere", false), ("NothingToUndo", false), ("NothingToRedo", false), ("NoTrial", false), ("BadJournal", false), ("BadLine", false)] := ⟨E_TooMany, ge_TooMany, xkB_ty xB_TooMany, isx_of gPA xB_TooMany⟩
  have x_BadSteps : IsX K mg "BadSteps" [("PlateError", false), ("BadLevel", false), ("BadNumbers", false), ("NoPlace", false), ("OtherLevel", false), ("BadCrowd", false), ("BadStep", false), ("Shut", false), ("BadSteps", true), ("TooMany", false), ("BadWish", false), ("NoKind", false), ("NoRoom", false), ("Unlike", false), ("BadOffers", false), ("BadHopes", false), ("BadName", false), ("NoPlayer", false), ("Taken", false), ("Full", false), ("NoGate", false), ("NotThere", false), ("NothingToUndo", false), ("NothingToRedo", false), ("NoTrial", false), ("BadJournal", false), ("BadLine", false)] := ⟨E_BadSteps, ge_BadSteps, xkB_ty xB_BadSteps, isx_of gPA xB_BadSteps⟩
  have x_Shut : IsX K mg "Shut" [("PlateError", false), ("BadLevel", false), ("BadNumbers", false), ("NoPlace", false), ("OtherLevel", false), ("BadCrowd", false), ("BadStep", false), ("Shut", true), ("BadSteps", false), ("TooMany", false), ("BadWish", false), ("NoKind", false), ("NoRoom", false), ("Unlike", false), ("BadOffers", false), ("BadHopes", false), ("BadName", false), ("NoPlayer", false), ("Taken", false), ("Full", false), ("NoGate", false), ("NotThere", false), ("NothingToUndo", false), ("NothingToRedo", false), ("NoTrial", false), ("BadJournal", false), ("BadLine", false)] := ⟨E_Shut, ge_Shut, xkB_ty xB_Shut, isx_of gPA xB_Shut⟩
  have x_NoRoom : IsX K mg "NoRoom" [("PlateError", false), ("BadLevel", false), ("BadNumbers", false), ("NoPlace", false), ("OtherLevel", false), ("BadCrowd", false), ("BadStep", false), ("Shut", false), ("BadSteps", false), ("TooMany", false), ("BadWish", false), ("NoKind", false), ("NoRoom", true), ("Unlike", false), ("BadOffers", false), ("BadHopes", false), ("BadName", false), ("NoPlayer", false), ("Taken", false), ("Full", false), ("NoGate", false), ("NotThere", false), ("NothingToUndo", false), ("NothingToRedo", false), ("NoTrial", false), ("BadJournal", false), ("BadLine", false)] := ⟨E_NoRoom, ge_NoRoom, xkB_ty xB_NoRoom, isx_of gPA xB_NoRoom⟩
  have x_NoKind : IsX K mg "NoKind" [("PlateError", false), ("BadLevel", false), ("BadNumbers", false), ("NoPlace", false), ("OtherLevel", false), ("BadCrowd", false), ("BadStep", false), ("Shut", false), ("BadSteps", false), ("TooMany", false), ("BadWish", false), ("NoKind", true), ("NoRoom", false), ("Unlike", false), ("BadOffers", false), ("BadHopes", false), ("BadName", false), ("NoPlayer", false), ("Taken", false), ("Full", false), ("NoGate", false), ("NotThere", false), ("NothingToUndo", false), ("NothingToRedo", false), ("NoTrial", false), ("BadJournal", false), ("BadLine", false)] := ⟨E_NoKind, ge_NoKind, xkB_ty xB_NoKind, isx_of gPA xB_NoKind⟩
  have x_BadWish : IsX K mg "BadWish" [("PlateError", false), ("BadLevel", false), ("BadNumbers", false), ("NoPlace", false), ("OtherLevel", false), ("BadCrowd", false), ("BadStep", false), ("Shut", false), ("BadSteps", false), ("TooMany", false), ("BadWish", true), ("NoKind", false), ("NoRoom", false), ("Unlike", false), ("BadOffers", false), ("BadHopes", false), ("BadName", false), ("NoPlayer", false), ("Taken", false), ("Full", false), ("NoGate", false), ("NotThere", false), ("NothingToUndo", false), ("NothingToRedo", false), ("NoTrial", false), ("BadJournal", false), ("BadLine", false)] := ⟨E_BadWish, ge_BadWish, xkB_ty xB_BadWish, isx_of gPA xB_BadWish⟩
  have x_BadHopes : IsX K mg "BadHopes" [("PlateError", false), ("BadLevel", false), ("BadNumbers", false), ("NoPlace", false), ("OtherLevel", false), ("BadCrowd", false), ("BadStep", false), ("Shut", false), ("BadSteps", false), ("TooMany", false), ("BadWish", false), ("NoKind", false), ("NoRoom", false), ("Unlike", false), ("BadOffers", false), ("BadHopes", true), ("BadName", false), ("NoPlayer", false), ("Taken", false), ("Full", false), ("NoGate", false), ("NotThere", false), ("NothingToUndo", false), ("NothingToRedo", false), ("NoTrial", false), ("BadJournal", false), ("BadLine", false)] := ⟨E_BadHopes, ge_BadHopes, xkB_ty xB_BadHopes, isx_of gPA xB_BadHopes⟩
  have x_BadOffers : IsX K mg "BadOffers" [("PlateError", false), ("BadLevel", false), ("BadNumbers", false), ("NoPlace", false), ("OtherLevel", false), ("BadCrowd", false), ("BadStep", false), ("Shut", false), ("BadSteps", false), ("TooMany", false), ("BadWish", false), ("NoKind", false), ("NoRoom", false), ("Unlike", false), ("BadOffers", true), ("BadHopes", false), ("BadName", false), ("NoPlayer", false), ("Taken", false), ("Full", false), ("NoGate", false), ("NotThere", false), ("NothingToUndo", false), ("NothingToRedo", false), ("NoTrial", false), ("BadJournal", false), ("BadLine", false)] := ⟨E_BadOffers, ge_BadOffers, xkB_ty xB_BadOffers, isx_of gPA xB_BadOffers⟩
  have x_Unlike : IsX K mg "Unlike" [("PlateError", false), ("BadLevel", false), ("BadNumbers", false), ("NoPlace", false), ("OtherLevel", false), ("BadCrowd", false), ("BadStep", false), ("Shut", false), ("BadSteps", false), ("TooMany", false), ("BadWish", false), ("NoKind", false), ("NoRoom", false), ("Unlike", true), ("BadOffers", false), ("BadHopes", false), ("BadName", false), ("NoPlayer", false), ("Taken", false), ("Full", false), ("NoGate", false), ("NotThere", false), ("NothingToUndo", false), ("NothingToRedo", false), ("NoTrial", false), ("BadJournal", false), ("BadLine", false)] := ⟨E_Unlike, ge_Unlike, xkB_ty xB_Unlike, isx_of gPA xB_Unlike⟩
  have x_Taken : IsX K mg "Taken" [("PlateError", false), ("BadLevel", false), ("BadNumbers", false), ("NoPlace", false), ("OtherLevel", false), ("BadCrowd", false), ("BadStep", false), ("Shut", false), ("BadSteps", false), ("TooMany", false), ("BadWish", false), ("NoKind", false), ("NoRoom", false), ("Unlike", false), ("BadOffers", false), ("BadHopes", false), ("BadName", false), ("NoPlayer", false), ("Taken", true), ("Full", false), ("NoGate", false), ("NotThere", false), ("NothingToUndo", false), ("NothingToRedo", false), ("NoTrial", false), ("BadJournal", false), ("BadLine", false)] := ⟨E_Taken, ge_Taken, xkB_ty xB_Taken, isx_of gPA xB_Taken⟩
  have x_NoPlayer : IsX K mg "NoPlayer" [("PlateError", false), ("BadLevel", false), ("BadNumbers", false), ("NoPlace", false), ("OtherLevel", false), ("BadCrowd", false), ("BadStep", false), ("Shut", false), ("BadSteps", false), ("TooMany", false), ("BadWish", false), ("NoKind", false), ("NoRoom", false), ("Unlike", false), ("BadOffers", false), ("BadHopes", false), ("BadName", false), ("NoPlayer", true), ("Taken", false), ("Full", false), ("NoGate", false), ("NotThere", false), ("NothingToUndo", false), ("NothingToRedo", false), ("NoTrial", false), ("BadJournal", false), ("BadLine", false)] := ⟨E_NoPlayer, ge_NoPlayer, xkB_ty xB_NoPlayer, isx_of gPA xB_NoPlayer⟩
  have x_BadName : IsX K mg "BadName" [("PlateError", false), ("BadLevel", false), ("BadNumbers", false), ("NoPlace", false), ("OtherLevel", false), ("BadCrowd", false), ("BadStep", false), ("Shut", false), ("BadSteps", false), ("TooMany", false), ("BadWish", false), ("NoKind", false), ("NoRoom", false), ("Unlike", false), ("BadOffers", false), ("BadHopes", false), ("BadName", true), ("NoPlayer", false), ("Taken", false), ("Full", false), ("NoGate", false), ("NotThere", false), ("NothingToUndo", false), ("NothingToRedo", false), ("NoTrial", false), ("BadJournal", false), ("BadLine", false)] := ⟨E_BadName, ge_BadName, xkB_ty xB_BadName, isx_of gPA xB_BadName⟩
  have x_NotThere : IsX K mg "NotThere" [("PlateError", false), ("BadLevel", false), ("BadNumbers", false), ("NoPlace", false), ("OtherLevel", false), ("BadCrowd", false), ("BadStep", false), ("Shut", false), ("BadSteps", false), ("TooMany", false), ("BadWish", false), ("NoKind", false), ("NoRoom", false), ("Unlike", false), ("BadOffers", false), ("BadHopes", false), ("BadName", false), ("NoPlayer", false), ("Taken", false), ("Full", false), ("NoGate", false), ("NotThere", true), ("NothingToUndo", false), ("NothingToRedo", false), ("NoTrial", false), ("BadJournal", false), ("BadLine", false)] := ⟨E_NotThere, ge_NotThere, xkB_ty xB_NotThere, isx_of gPA xB_NotThere⟩
  have x_NoGate : IsX K mg "NoGate" [("PlateError", false), ("BadLevel", false), ("BadNumbers", false), ("NoPlace", false), ("OtherLevel", false), ("BadCrowd", false), ("BadStep", false), ("Shut", false), ("BadSteps", false), ("TooMany", false), ("BadWish", false), ("NoKind", false), ("NoRoom", false), ("Unlike", false), ("BadOffers", false), ("BadHopes", false), ("BadName", false), ("NoPlayer", false), ("Taken", false), ("Full", false), ("NoGate", true), ("NotThere", false), ("NothingToUndo", false), ("NothingToRedo", false), ("NoTrial", false), ("BadJournal", false), ("BadLine", false)] := ⟨E_NoGate, ge_NoGate, xkB_ty xB_NoGate, isx_of gPA xB_NoGate⟩
  have x_Full : IsX K mg "Full" [("PlateError", false), ("BadLevel", false), ("BadNumbers", false), ("NoPlace", false), ("OtherLevel", false), ("BadCrowd", false), ("BadStep", false), ("Shut", false), ("BadSteps", false), ("TooMany", false), ("BadWish", false), ("NoKind", false), ("NoRoom", false), ("Unlike", false), ("BadOffers", false), ("BadHopes", false), ("BadName", false), ("NoPlayer", false), ("Taken", false), ("Full", true), ("NoGate", false), ("NotThere", false), ("NothingToUndo", false), ("NothingToRedo", false), ("NoTrial", false), ("BadJournal", false), ("BadLine", false)] := ⟨E_Full, ge_Full, xkB_ty xB_Full, isx_of gPA xB_Full⟩
  have x_NoTrial : IsX K mg "NoTrial" [("PlateError", false), ("BadLevel", false), ("BadNumbers", false), ("NoPlace", false), ("OtherLevel", false), ("BadCrowd", false), ("BadStep", false), ("Shut", false), ("BadSteps", false), ("TooMany", false), ("BadWish", false), ("NoKind", false), ("NoRoom", false), ("Unlike", false), ("BadOffers", false), ("BadHopes", false), ("BadName", false), ("NoPlayer", false), ("Taken", false), ("Full", false), ("NoGate", false), ("NotThere", false), ("NothingToUndo", false), ("NothingToRedo", false), ("NoTrial", true), ("BadJournal", false), ("BadLine", false)] := ⟨E_NoTrial, ge_NoTrial, xkB_ty xB_NoTrial, isx_of gPA xB_NoTrial⟩
  have x_NothingToRedo : IsX K mg "NothingToRedo" [("PlateError", false), ("BadLevel", false), ("BadNumbers", false), ("NoPlace", false), ("OtherLevel", false), ("BadCrowd", false), ("BadStep", false), ("Shut", false), ("BadSteps", false), ("TooMany", false), ("BadWish", false), ("NoKind", false), ("NoRoom", false), ("Unlike", false), ("BadOffers", false), ("BadHopes", false), ("BadName", false), ("NoPlayer", false), ("Taken", false), ("Full", false), ("NoGate", false), ("NotThere", false), ("NothingToUndo", false), ("NothingToRedo", true), ("NoTrial", false), ("BadJournal", false), ("BadLine", false)] := ⟨E_NothingToRedo, ge_NothingToRedo, xkB_ty xB_NothingToRedo, isx_of gPA xB_NothingToRedo⟩
  have x_NothingToUndo : IsX K mg "NothingToUndo" [("PlateError", false), ("BadLevel", false), ("BadNumbers", false), ("NoPlace", false), ("OtherLevel", false), ("BadCrowd", false), ("BadStep", false), ("Shut", false), ("BadSteps", false), ("TooMany", false), ("BadWish", false), ("NoKind", false), ("NoRoom", false), ("Unlike", false), ("BadOffers", false), ("BadHopes", false), ("BadName", false), ("NoPlayer", false), ("Taken", false), ("Full", false), ("NoGate", false), ("NotThere", false), ("NothingToUndo", true), ("NothingToRedo", false), ("NoTrial", false), ("BadJournal", false), ("BadLine", false)] := ⟨E_NothingToUndo, ge_NothingToUndo, xkB_ty xB_NothingToUndo, isx_of gPA xB_NothingToUndo⟩
  have x_BadLine : IsX K mg "BadLine" [("PlateError", false), ("BadLevel", false), ("BadNumbers", false), ("NoPlace", false), ("OtherLevel", false), ("BadCrowd", false), ("BadStep", false), ("Shut", false), ("BadSteps", false), ("TooMany", false), ("BadWish", false), ("NoKind", false), ("NoRoom", false), ("Unlike", false), ("BadOffers", false), ("BadHopes", false), ("BadName", false), ("NoPlayer", false), ("Taken", false), ("Full", false), ("NoGate", false), ("NotThere", false), ("NothingToUndo", false), ("NothingToRedo", false), ("NoTrial", false), ("BadJournal", false), ("BadLine", true)] := ⟨E_BadLine, ge_BadLine, xkB_ty xB_BadLine, isx_of gPA xB_BadLine⟩
  have x_BadJournal : IsX K mg "BadJournal" [("PlateError", false), ("BadLevel", false), ("BadNumbers", false), ("NoPlace", false), ("OtherLevel", false), ("BadCrowd", false), ("BadStep", false), ("Shut", false), ("BadSteps", false), ("TooMany", false), ("BadWish", false), ("NoKind", false), ("NoRoom", false), ("Unlike", false), ("BadOffers", false), ("BadHopes", false), ("BadName", false), ("NoPlayer", false), ("Taken", false), ("Full", false), ("NoGate", false), ("NotThere", false), ("NothingToUndo", false), ("NothingToRedo", false), ("NoTrial", false), ("BadJournal", true), ("BadLine", false)] := ⟨E_BadJournal, ge_BadJournal, xkB_ty xB_BadJournal, isx_of gPA xB_BadJournal⟩
  have x_PlateError : IsX K mg "PlateError" [("PlateError", true), ("BadLevel", true), ("BadNumbers", true), ("NoPlace", true), ("OtherLevel", true), ("BadCrowd", true), ("BadStep", true), ("Shut", true), ("BadSteps", true), ("TooMany", true), ("BadWish", true), ("NoKind", true), ("NoRoom", true), ("Unlike", true), ("BadOffers", true), ("BadHopes", true), ("BadName", true), ("NoPlayer", true), ("Taken", true), ("Full", true), ("NoGate", true), ("NotThere", true), ("NothingToUndo", true), ("NothingToRedo", true), ("NoTrial", true), ("BadJournal", true), ("BadLine", true)] := ⟨E_PlateError, ge_PlateError, xkB_ty xB_PlateError, isx_of gPA xB_PlateError⟩
  have xb_ValueError : IsXB K mg "ValueError" "ValueError" [("PlateError", true), ("BadLevel", true), ("BadNumbers", true), ("NoPlace", true), ("OtherLevel", true), ("BadCrowd", true), ("BadStep", true), ("Shut", true), ("BadSteps", true), ("TooMany", true), ("BadWish", true), ("NoKind", true), ("NoRoom", true), ("Unlike", true), ("BadOffers", true), ("BadHopes", true), ("BadName", true), ("NoPlayer", true), ("Taken", true), ("Full", true), ("NoGate", true), ("NotThere", true), ("NothingToUndo", true), ("NothingToRedo", true), ("NoTrial", true), ("BadJournal", true), ("BadLine", true)] := ⟨PySem.W.mg_none_of X G zx_ValueError, xkB_ty xB_ValueError, isx_of gPA xB_ValueError⟩
  have v_err : XvC K mg ["PlateError", "BadLevel", "BadNumbers", "NoPlace", "OtherLevel", "BadCrowd", "BadStep", "Shut", "BadSteps", "TooMany", "BadWish", "NoKind", "NoRoom", "Unlike", "BadOffers", "BadHopes", "BadName", "NoPlayer", "Taken", "Full", "NoGate", "NotThere", "NothingToUndo", "NothingToRedo", "NoTrial", "BadJournal", "BadLine"] := ⟨xv_of gPA⟩
  have gCS := PySem.W.mg_of X G aCS
  have pmD : PmD K l.prog.main.file CS fI := ⟨⟨_, _, _, _, _, _, _, _, _, _, _, _, _, _, _, _, _, _, _, _, _, _, pml, pmc, pmn, ⟨_, _, _, _, _, _, pmd, pmf, pmg⟩, _, _, _, pme⟩, Option.isSome_iff_exists.mp pmh, pmi, pmj⟩
  have pmC_BadCrowd : PmC K CS fI E_BadCrowd := pmB_ok ⟨_, _, _, _, _, _, _, _, _, _, _, _, _, _, _, xl_BadCrowd, xr_BadCrowd⟩ pB_BadCrowd
  have r_BadCrowd : Erk l.prog K mg "BadCrowd" := ⟨CS, E_BadCrowd, fI, pmD, pmC_BadCrowd, ge_BadCrowd, PySem.W.mg_none_of X G z_super, zs_super⟩
  have pmC_OtherLevel : PmC K CS fI E_OtherLevel := pmB_ok ⟨_, _, _, _, _, _, _, _, _, _, _, _, _, _, _, xl_OtherLevel, xr_OtherLevel⟩ pB_OtherLevel
  have r_OtherLevel : Erk l.prog K mg "OtherLevel" := ⟨CS, E_OtherLevel, fI, pmD, pmC_OtherLevel, ge_OtherLevel, PySem.W.mg_none_of X G z_super, zs_super⟩
  have pmC_NoPlace : PmC K CS fI E_NoPlace := pmB_ok ⟨_, _, _, _, _, _, _, _, _, _, _, _, _, _, _, xl_NoPlace, xr_NoPlace⟩ pB_NoPlace
  have r_NoPlace : Erk l.prog K mg "NoPlace" := ⟨CS, E_NoPlace, fI, pmD, pmC_NoPlace, ge_NoPlace, PySem.W.mg_none_of X G z_super, zs_super⟩
  have pmC_BadNumbers : PmC K CS fI E_BadNumbers := pmB_ok ⟨_, _, _, _, _, _, _, _, _, _, _, _, _, _, _, xl_BadNumbers, xr_BadNumbers⟩ pB_BadNumbers
  have r_BadNumbers : Erk l.prog K mg "BadNumbers" := ⟨CS, E_BadNumbers, fI, pmD, pmC_BadNumbers, ge_BadNumbers, PySem.W.mg_none_of X G z_super, zs_super⟩
  have pmC_BadLevel : PmC K CS fI E_BadLevel := pmB_ok ⟨_, _, _, _, _, _, _, _, _, _, _, _, _, _, _, xl_BadLevel, xr_BadLevel⟩ pB_BadLevel
  have r_BadLevel : Erk l.prog K mg "BadLevel" := ⟨CS, E_BadLevel, fI, pmD, pmC_BadLevel, ge_BadLevel, PySem.W.mg_none_of X G z_super, zs_super⟩
  have pmC_BadWish : PmC K CS fI E_BadWish := pmB_ok ⟨_, _, _, _, _, _, _, _, _, _, _, _, _, _, _, xl_BadWish, xr_BadWish⟩ pB_BadWish
  have r_BadWish : Erk l.prog K mg "BadWish" := ⟨CS, E_BadWish, fI, pmD, pmC_BadWish, ge_BadWish, PySem.W.mg_none_of X G z_super, zs_super⟩
  have pmC_TooMany : PmC K CS fI E_TooMany := pmB_ok ⟨_, _, _, _, _, _, _, _, _, _, _, _, _, _, _, xl_TooMany, xr_TooMany⟩ pB_TooMany
  have r_TooMany : Erk l.prog K mg "TooMany" := ⟨CS, E_TooMany, fI, pmD, pmC_TooMany, ge_TooMany, PySem.W.mg_none_of X G z_super, zs_super⟩
  have pmC_BadSteps : PmC K CS fI E_BadSteps := pmB_ok ⟨_, _, _, _, _, _, _, _, _, _, _, _, _, _, _, xl_BadSteps, xr_BadSteps⟩ pB_BadSteps
  have r_BadSteps : Erk l.prog K mg "BadSteps" := ⟨CS, E_BadSteps, fI, pmD, pmC_BadSteps, ge_BadSteps, PySem.W.mg_none_of X G z_super, zs_super⟩
  have pmC_Shut : PmC K CS fI E_Shut := pmB_ok ⟨_, _, _, _, _, _, _, _, _, _, _, _, _, _, _, xl_Shut, xr_Shut⟩ pB_Shut
  have r_Shut : Erk l.prog K mg "Shut" := ⟨CS, E_Shut, fI, pmD, pmC_Shut, ge_Shut, PySem.W.mg_none_of X G z_super, zs_super⟩
  have pmC_BadStep : PmC K CS fI E_BadStep := pmB_ok ⟨_, _, _, _, _, _, _, _, _, _, _, _, _, _, _, xl_BadStep, xr_BadStep⟩ pB_BadStep
  have r_BadStep : Erk l.prog K mg "BadStep" := ⟨CS, E_BadStep, fI, pmD, pmC_BadStep, ge_BadStep, PySem.W.mg_none_of X G z_super, zs_super⟩
  have pmC_BadHopes : PmC K CS fI E_BadHopes := pmB_ok ⟨_, _, _, _, _, _, _, _, _, _, _, _, _, _, _, xl_BadHopes, xr_BadHopes⟩ pB_BadHopes
  have r_BadHopes : Erk l.prog K mg "BadHopes" := ⟨CS, E_BadHopes, fI, pmD, pmC_BadHopes, ge_BadHopes, PySem.W.mg_none_of X G z_super, zs_super⟩
  have pmC_BadOffers : PmC K CS fI E_BadOffers := pmB_ok ⟨_, _, _, _, _, _, _, _, _, _, _, _, _, _, _, xl_BadOffers, xr_BadOffers⟩ pB_BadOffers
  have r_BadOffers : Erk l.prog K mg "BadOffers" := ⟨CS, E_BadOffers, fI, pmD, pmC_BadOffers, ge_BadOffers, PySem.W.mg_none_of X G z_super, zs_super⟩
  have pmC_Unlike : PmC K CS fI E_Unlike := pmB_ok ⟨_, _, _, _, _, _, _, _, _, _, _, _, _, _, _, xl_Unlike, xr_Unlike⟩ pB_Unlike
  have r_Unlike : Erk l.prog K mg "Unlike" := ⟨CS, E_Unlike, fI, pmD, pmC_Unlike, ge_Unlike, PySem.W.mg_none_of X G z_super, zs_super⟩
  have pmC_NoRoom : PmC K CS fI E_NoRoom := pmB_ok ⟨_, _, _, _, _, _, _, _, _, _, _, _, _, _, _, xl_NoRoom, xr_NoRoom⟩ pB_NoRoom
  have r_NoRoom : Erk l.prog K mg "NoRoom" := ⟨CS, E_NoRoom, fI, pmD, pmC_NoRoom, ge_NoRoom, PySem.W.mg_none_of X G z_super, zs_super⟩
  have pmC_NoKind : PmC K CS fI E_NoKind := pmB_ok ⟨_, _, _, _, _, _, _, _, _, _, _, _, _, _, _, xl_NoKind, xr_NoKind⟩ pB_NoKind
  have r_NoKind : Erk l.prog K mg "NoKind" := ⟨CS, E_NoKind, fI, pmD, pmC_NoKind, ge_NoKind, PySem.W.mg_none_of X G z_super, zs_super⟩
  have pmC_NoGate : PmC K CS fI E_NoGate := pmB_ok ⟨_, _, _, _, _, _, _, _, _, _, _, _, _, _, _, xl_NoGate, xr_NoGate⟩ pB_NoGate
  have r_NoGate : Erk l.prog K mg "NoGate" := ⟨CS, E_NoGate, fI, pmD, pmC_NoGate, ge_NoGate, PySem.W.mg_none_of X G z_super, zs_super⟩
  have pmC_Full : PmC K CS fI E_Full := pmB_ok ⟨_, _, _, _, _, _, _, _, _, _, _, _, _, _, _, xl_Full, xr_Full⟩ pB_Full
  have r_Full : Erk l.prog K mg "Full" := ⟨CS, E_Full, fI, pmD, pmC_Full, ge_Full, PySem.W.mg_none_of X G z_super, zs_super⟩
  have pmC_Taken : PmC K CS fI E_Taken := pmB_ok ⟨_, _, _, _, _, _, _, _, _, _, _, _, _, _, _, xl_Taken, xr_Taken⟩ pB_Taken
  have r_Taken : Erk l.prog K mg "Taken" := ⟨CS, E_Taken, fI, pmD, pmC_Taken, ge_Taken, PySem.W.mg_none_of X G z_super, zs_super⟩
  have pmC_NoPlayer : PmC K CS fI E_NoPlayer := pmB_ok ⟨_, _, _, _, _, _, _, _, _, _, _, _, _, _, _, xl_NoPlayer, xr_NoPlayer⟩ pB_NoPlayer
  have r_NoPlayer : Erk l.prog K mg "NoPlayer" := ⟨CS, E_NoPlayer, fI, pmD, pmC_NoPlayer, ge_NoPlayer, PySem.W.mg_none_of X G z_super, zs_super⟩
  have pmC_BadName : PmC K CS fI E_BadName := pmB_ok ⟨_, _, _, _, _, _, _, _, _, _, _, _, _, _, _, xl_BadName, xr_BadName⟩ pB_BadName
  have r_BadName : Erk l.prog K mg "BadName" := ⟨CS, E_BadName, fI, pmD, pmC_BadName, ge_BadName, PySem.W.mg_none_of X G z_super, zs_super⟩
  have pmC_BadJournal : PmC K CS fI E_BadJournal := pmB_ok ⟨_, _, _, _, _, _, _, _, _, _, _, _, _, _, _, xl_BadJournal, xr_BadJournal⟩ pB_BadJournal
  have r_BadJournal : Erk l.prog K mg "BadJournal" := ⟨CS, E_BadJournal, fI, pmD, pmC_BadJournal, ge_BadJournal, PySem.W.mg_none_of X G z_super, zs_super⟩
  have pmC_NoTrial : PmC K CS fI E_NoTrial := pmB_ok ⟨_, _, _, _, _, _, _, _, _, _, _, _, _, _, _, xl_NoTrial, xr_NoTrial⟩ pB_NoTrial
  have r_NoTrial : Erk l.prog K mg "NoTrial" := ⟨CS, E_NoTrial, fI, pmD, pmC_NoTrial, ge_NoTrial, PySem.W.mg_none_of X G z_super, zs_super⟩
  have pmC_NothingToRedo : PmC K CS fI E_NothingToRedo := pmB_ok ⟨_, _, _, _, _, _, _, _, _, _, _, _, _, _, _, xl_NothingToRedo, xr_NothingToRedo⟩ pB_NothingToRedo
  have r_NothingToRedo : Erk l.prog K mg "NothingToRedo" := ⟨CS, E_NothingToRedo, fI, pmD, pmC_NothingToRedo, ge_NothingToRedo, PySem.W.mg_none_of X G z_super, zs_super⟩
  have pmC_NothingToUndo : PmC K CS fI E_NothingToUndo := pmB_ok ⟨_, _, _, _, _, _, _, _, _, _, _, _, _, _, _, xl_NothingToUndo, xr_NothingToUndo⟩ pB_NothingToUndo
  have r_NothingToUndo : Erk l.prog K mg "NothingToUndo" := ⟨CS, E_NothingToUndo, fI, pmD, pmC_NothingToUndo, ge_NothingToUndo, PySem.W.mg_none_of X G z_super, zs_super⟩
  have pmC_NotThere : PmC K CS fI E_NotThere := pmB_ok ⟨_, _, _, _, _, _, _, _, _, _, _, _, _, _, _, xl_NotThere, xr_NotThere⟩ pB_NotThere
  have r_NotThere : Erk l.prog K mg "NotThere" := ⟨CS, E_NotThere, fI, pmD, pmC_NotThere, ge_NotThere, PySem.W.mg_none_of X G z_super, zs_super⟩
  have pmC_BadLine : PmC K CS fI E_BadLine := pmB_ok ⟨_, _, _, _, _, _, _, _, _, _, _, _, _, _, _, xl_BadLine, xr_BadLine⟩ pB_BadLine
  have r_BadLine : Erk l.prog K mg "BadLine" := ⟨CS, E_BadLine, fI, pmD, pmC_BadLine, ge_BadLine, PySem.W.mg_none_of X G z_super, zs_super⟩
  have pmC_PlateError : PmC K CS fI E_PlateError := pmB_ok ⟨_, _, _, _, _, _, _, _, _, _, _, _, _, _, _, xl_PlateError, xr_PlateError⟩ pB_PlateError
  have r_PlateError : Erk l.prog K mg "PlateError" := ⟨CS, E_PlateError, fI, pmD, pmC_PlateError, ge_PlateError, PySem.W.mg_none_of X G z_super, zs_super⟩
  refine ⟨PySem.W.fnOf "law" "law" (defArgs st_P_law) (defBody st_P_law) (defScope st_P_law) .none kV12 dc12 pm12 an12 cd12 ct12, fun s v => .of_eq rfl, fun base _ _ => ?_⟩
  have F0 := fun_mk (st := st_pot) l0 c0 k0
  have b0 := F0.binds (ps := ["_law_script", "_law_k"]) fun _ _ _ _ _ _ us hl => match us, hl with | [_, _], _ => rfl
  have d_pot : Df l.prog w K mg base 1 "_law_pot" F_pot := ⟨f0, _, _, (ok_pot F0 B), PySem.W.mg_of X G a0, k0, b0⟩
  have F1 := fun_mk (st := st_take) l1 c1 k1
  have b1 := F1.binds (ps := ["_law_pot_here", "_law_upto"]) fun _ _ _ _ _ _ us hl => match us, hl with | [_, _], _ => rfl
  have d_take : Df l.prog w K mg base 1 "_law_take" F_take := ⟨f1, _, _, (ok_take F1 B), PySem.W.mg_of X G a1, k1, b1⟩
  have F2 := fun_mk (st := st_of) l2 c2 k2
  have b2 := F2.binds (ps := ["_law_pot_here", "_law_some"]) fun _ _ _ _ _ _ us hl => match us, hl with | [_, _], _ => rfl
  have d_of : Df l.prog w K mg base 2 "_law_of" F_of := ⟨f2, _, _, (ok_of F2 B d_take), PySem.W.mg_of X G a2, k2, b2⟩
  have F3 := fun_mk (st := st_odd) l3 c3 k3
  have b3 := F3.binds (ps := ["_law_pot_here"]) fun _ _ _ _ _ _ us hl => match us, hl with | [_], _ => rfl
  have d_odd : Df l.prog w K mg base 3 "_law_odd" F_odd := ⟨f3, _, _, (ok_odd F3 B d_of), PySem.W.mg_of X G a3, k3, b3⟩
  have F4 := fun_mk (st := st_cells) l4 c4 k4
  have b4 := F4.binds (ps := ["_law_script", "_law_limit"]) fun _ _ _ _ _ _ us hl => match us, hl with | [_, _], _ => rfl
  have d_cells : Df l.prog w K mg base 1 "_law_cells" F_cells := ⟨f4, _, _, (ok_cells F4 B), PySem.W.mg_of X G a4, k4, b4⟩
  have F5 := fun_mk (st := st_errors) l5 c5 k5
  have b5 := F5.binds (ps := ["_law_value_here"]) fun _ _ _ _ _ _ us hl => match us, hl with | [_], _ => rfl
  have d_errors : Df l.prog w K mg base 3 "_law_errors" F_errors := ⟨f5, _, _, (ok_errors F5 B r_BadCrowd r_OtherLevel r_NoPlace r_BadNumbers r_BadLevel r_BadWish r_TooMany r_BadSteps r_Shut r_BadStep r_BadHopes r_BadOffers r_Unlike r_NoRoom r_NoKind r_NoGate r_Full r_Taken r_NoPlayer r_BadName r_BadJournal r_NoTrial r_NothingToRedo r_NothingToUndo r_NotThere r_BadLine), PySem.W.mg_of X G a5, k5, b5⟩
  have F6 := fun_mk (st := st_marks) l6 c6 k6
  have b6 := F6.binds (ps := ["_law_error"]) fun _ _ _ _ _ _ us hl => match us, hl with | [_], _ => rfl
  have d_marks : Df l.prog w K mg base 1 "_law_marks" F_marks := ⟨f6, _, _, (ok_marks F6 B x_NoPlace x_BadNumbers x_BadLevel x_BadStep x_BadCrowd x_OtherLevel x_TooMany x_BadSteps x_Shut x_NoRoom x_NoKind x_BadWish x_BadHopes x_BadOffers x_Unlike x_Taken x_NoPlayer x_BadName x_NotThere x_NoGate x_Full x_NoTrial x_NothingToRedo x_NothingToUndo x_BadLine x_BadJournal), PySem.W.mg_of X G a6, k6, b6⟩
  have F7 := fun_mk (st := st_value0) l7 c7 k7
  have b7 := F7.binds (ps := ["_law_pot_here", "_law_deep"]) fun _ _ _ _ _ _ us hl => match us, hl with | [_, _], _ => rfl
  have d_value0 : Df l.prog w K mg base 4 "_law_value" F_value0 := ⟨f7, _, _, (ok_value0 F7 B d_take d_odd), PySem.W.mg_of X G a7, k7, b7⟩
  have F8 := fun_mk (st := st_value1) l8 c8 k8
  have b8 := F8.binds (ps := ["_law_pot_here", "_law_deep"]) fun _ _ _ _ _ _ us hl => match us, hl with | [_, _], _ => rfl
  have d_value1 : Df l.prog w K mg base 5 "_law_value" F_value1 := ⟨f8, _, _, (ok_value1 F8 B d_take d_value0 d_odd), PySem.W.mg_of X G a8, k8, b8⟩
  have F9 := fun_mk (st := st_value2) l9 c9 k9
  have b9 := F9.binds (ps := ["_law_pot_here", "_law_deep"]) fun _ _ _ _ _ _ us hl => match us, hl with | [_, _], _ => rfl
  have d_value2 : Df l.prog w K mg base 6 "_law_value" F_value2 := ⟨f9, _, _, (ok_value2 F9 B d_take d_value1 d_odd), PySem.W.mg_of X G a9, k9, b9⟩
  have F10 := fun_mk (st := st_value3) l10 c10 k10
  have b10 := F10.binds (ps := ["_law_pot_here", "_law_deep"]) fun _ _ _ _ _ _ us hl => match us, hl with | [_, _], _ => rfl
  have d_value3 : Df l.prog w K mg base 7 "_law_value" F_value3 := ⟨f10, _, _, (ok_value3 F10 B d_take d_value2 d_odd), PySem.W.mg_of X G a10, k10, b10⟩
  have F11 := fun_mk (st := st_fine) l11 c11 k11
  have b11 := F11.binds (ps := ["_law_pot_here"]) fun _ _ _ _ _ _ us hl => match us, hl with | [_], _ => rfl
  have d_fine : Df l.prog w K mg base 8 "_law_fine" F_fine := ⟨f11, _, _, (ok_fine F11 B d_value3 r_PlateError d_errors x_PlateError xb_ValueError d_marks v_err), PySem.W.mg_of X G a11, k11, b11⟩
  have F12 := fun_mk (st := st_P_law) l12 c12 k12
  exact fn_imp (ok_P_law F12 B d_cells d_pot d_fine) fun vs H Q E => spLaw_imp vs H Q E
theorem walk {l : PySem.W.OpenLaw} {q : Program} {loose : List Str} {XP : (Str → Option Value) → Heap → Prop} {YP : World → Heap → Prop} {d : DefRec} {K : Params → PySem.W.Frag} (hn : l.most = some 63) (hdf : d.params.defaults = [])
    (hY : ∀ (w : World) (h : Heap), YP w h → (K w.params).In h)
    (F : ∀ (w : World) (mg : Str → Option Value) (fa : Addr) (h : Heap), (K w.params).In h → h.Ns mainGlobals mg → mg d.name = some (.ref fa) →
      ∃ fd : FuncData, (∀ (s : Shared) (u : Value), BindsTo s fd ⟨[u], []⟩ [("_law_script", u)]) ∧ ∀ base : Heap, (K w.params).In base → base.Ns mainGlobals mg → T.FnOk l.prog w (K w.params) mg base (L2.CX l.prog w) 9 fa fd ["_law_script"] (spLaw (K w.params))) :
    PySem.W.WalkO q loose XP YP l.row.toRowW d [] (fun f vs => PySem.call f vs) :=
  T.walk_ofG (n := 63) (k := 9) (x := "_law_script") (CX := fun w => L2.CX l.prog w) (sp := fun w => spLaw (K w.params)) hn (by decide) hdf ⟨rfl, by decide, by decide⟩ hY F (fun _ _ a ns hl hO hS => ⟨a, ns, rfl, hO, hS, hl, fun _ => rfl⟩) fun _ _ _ _ _ ⟨_, _, _, _, _, _, _, _, _, _, _, _, z⟩ => z
end Q
open PySem PySem.W PyProof.Rows
set_option maxRecDepth 100000
local macro_rules | `(tactic| kernel_rfl) => `(tactic| (refine k00idd ?_; exact k00run _ _))
set_option maxRecDepth 100000 in
set_option maxHeartbeats 0 in
theorem PySem.Challenge.cw_holdplates_k00_errors_keep_their_values_holds : PySem.Challenge.rw_holdplates_k00_errors_keep_their_values.Holds := by
  w_on; o_law; k_headL; (case hw => w_witness2)
  k_fill
  refine Q.walk (l := PySem.Challenge.rw_holdplates_k00_errors_keep_their_values) rfl rfl (fun w h Y => PySem.W.kIn_of Y) ?F
  case F =>
    intro w mg fa h KX G hmg
    refine' Q.all_mk KX G hmg ?hnX ?htkX ?ae_BadCrowd ?ae_OtherLevel ?ae_NoPlace ?ae_BadNumbers ?ae_BadLevel ?ae_BadWish ?ae_TooMany ?ae_BadSteps ?ae_Shut ?ae_BadStep ?ae_BadHopes ?ae_BadOffers ?ae_Unlike ?ae_NoRoom ?ae_NoKind ?ae_NoGate ?ae_Full ?ae_Taken ?ae_NoPlayer ?ae_BadName ?ae_BadJournal ?ae_NoTrial ?ae_NothingToRedo ?ae_NothingToUndo ?ae_NotThere ?ae_BadLine ?ae_PlateError ?eB_PlateError ?eB_BadLevel ?eB_BadNumbers ?eB_NoPlace ?eB_OtherLevel ?eB_BadCrowd ?eB_BadStep ?eB_Shut ?eB_BadSteps ?eB_TooMany ?eB_BadWish ?eB_NoKind ?eB_NoRoom ?eB_Unlike ?eB_BadOffers ?eB_BadHopes ?eB_BadName ?eB_NoPlayer ?eB_Taken ?eB_Full ?eB_NoGate ?eB_NotThere ?eB_NothingToUndo ?eB_NothingToRedo ?eB_NoTrial ?eB_BadJournal ?eB_BadLine ?xB_NoPlace ?xB_BadNumbers ?xB_BadLevel ?xB_BadStep ?xB_BadCrowd ?xB_OtherLevel ?xB_TooMany ?xB_BadSteps ?xB_Shut ?xB_NoRoom ?xB_NoKind ?xB_BadWish ?xB_BadHopes ?xB_BadOffers ?xB_Unlike ?xB_Taken ?xB_NoPlayer ?xB_BadName ?xB_NotThere ?xB_NoGate ?xB_Full ?xB_NoTrial ?xB_NothingToRedo ?xB_NothingToUndo ?xB_BadLine ?xB_BadJournal ?xB_PlateError ?xB_ValueError ?zx_ValueError ?aCS ?z_super ?zs_super ?eini_BadCrowd ?pml ?pmc ?pmn ?pmd ?pmf ?pmg ?pme ?pmh ?pmi ?pmj ?xl_BadCrowd ?xr_BadCrowd ?pB_BadCrowd ?xl_OtherLevel ?xr_OtherLevel ?pB_OtherLevel ?xl_NoPlace ?xr_NoPlace ?pB_NoPlace ?xl_BadNumbers ?xr_BadNumbers ?pB_BadNumbers ?xl_BadLevel ?xr_BadLevel ?pB_BadLevel ?xl_BadWish ?xr_BadWish ?pB_BadWish ?xl_TooMany ?xr_TooMany ?pB_TooMany ?xl_BadSteps ?xr_BadSteps ?pB_BadSteps ?xl_Shut ?xr_Shut ?pB_Shut ?xl_BadStep ?xr_BadStep ?pB_BadStep ?xl_BadHopes ?xr_BadHopes ?pB_BadHopes ?xl_BadOffers ?xr_BadOffers ?pB_BadOffers ?xl_Unlike ?xr_Unlike ?pB_Unlike ?xl_NoRoom ?xr_NoRoom ?pB_NoRoom ?xl_NoKind ?xr_NoKind ?pB_NoKind ?xl_NoGate ?xr_NoGate ?pB_NoGate ?xl_Full ?xr_Full ?pB_Full ?xl_Taken ?xr_Taken ?pB_Taken ?xl_NoPlayer ?xr_NoPlayer ?pB_NoPlayer ?xl_BadName ?xr_BadName ?pB_BadName ?xl_BadJournal ?xr_BadJournal ?pB_BadJournal ?xl_NoTrial ?xr_NoTrial ?pB_NoTrial ?xl_NothingToRedo ?xr_NothingToRedo ?pB_NothingToRedo ?xl_NothingToUndo ?xr_NothingToUndo ?pB_NothingToUndo ?xl_NotThere ?xr_NotThere ?pB_NotThere ?xl_BadLine ?xr_BadLine ?pB_BadLine ?xl_PlateError ?xr_PlateError ?pB_PlateError ?z_len ?z_int ?z_abs ?z_str ?z_tuple ?z_list ?z_range ?z_zip ?z_enumerate ?z_max ?z_min ?z_sum ?z_all ?z_any ?z_sorted ?z_set ?z_isinstance ?z_repr ?z_bool ?z_dict ?a0 ?l0 ?c0 ?k0 ?a1 ?l1 ?c1 ?k1 ?a2 ?l2 ?c2 ?k2 ?a3 ?l3 ?c3 ?k3 ?a4 ?l4 ?c4 ?k4 ?a5 ?l5 ?c5 ?k5 ?a6 ?l6 ?c6 ?k6 ?a7 ?l7 ?c7 ?k7 ?a8 ?l8 ?c8 ?k8 ?a9 ?l9 ?c9 ?k9 ?a10 ?l10 ?c10 ?k10 ?a11 ?l11 ?c11 ?k11 ?a12 ?l12 ?c12 ?k12
    (case hnX => k_is)
    (case htkX => k_is)
    (case ae_BadCrowd => k_is)
    (case ae_OtherLevel => k_is)
    (case ae_NoPlace => k_is)
    (case ae_BadNumbers => k_is)
    (case ae_BadLevel => k_is)
    (case ae_BadWish => k_is)
    (case ae_TooMany => k_is)
    (case ae_BadSteps => k_is)
    (case ae_Shut => k_is)
    (case ae_BadStep => k_is)
    (case ae_BadHopes => k_is)
    (case ae_BadOffers => k_is)
    (case ae_Unlike => k_is)
    (case ae_NoRoom => k_is)
    (case ae_NoKind => k_is)
    (case ae_NoGate => k_is)
    (case ae_Full => k_is)
    (case ae_Taken => k_is)
    (case ae_NoPlayer => k_is)
    (case ae_BadName => k_is)
    (case ae_BadJournal => k_is)
    (case ae_NoTrial => k_is)
    (case ae_NothingToRedo => k_is)
    (case ae_NothingToUndo => k_is)
    (case ae_NotThere => k_is)
    (case ae_BadLine => k_is)
    (case ae_PlateError => k_is)
    (case eB_PlateError => first | kernel_rfl | k_is | kit_is | rfl)
    (case eB_BadLevel => first | kernel_rfl | k_is | kit_is | rfl)
    (case eB_BadNumbers => first | kernel_rfl | k_is | kit_is | rfl)
    (case eB_NoPlace => first | kernel_rfl | k_is | kit_is | rfl)
    (case eB_OtherLevel => first | kernel_rfl | k_is | kit_is | rfl)
    (case eB_BadCrowd => first | kernel_rfl | k_is | kit_is | rfl)
    (case eB_BadStep => first | kernel_rfl | k_is | kit_is | rfl)
    (case eB_Shut => first | kernel_rfl | k_is | kit_is | rfl)
    (case eB_BadSteps => first | kernel_rfl | k_is | kit_is | rfl)
    (case eB_TooMany => first | kernel_rfl | k_is | kit_is | rfl)
    (case eB_BadWish => first | kernel_rfl | k_is | kit_is | rfl)
    (case eB_NoKind => first | kernel_rfl | k_is | kit_is | rfl)
    (case eB_NoRoom => first | kernel_rfl | k_is | kit_is | rfl)
    (case eB_Unlike => first | kernel_rfl | k_is | kit_is | rfl)
    (case eB_BadOffers => first | kernel_rfl | k_is | kit_is | rfl)
    (case eB_BadHopes => first | kernel_rfl | k_is | kit_is | rfl)
    (case eB_BadName => first | kernel_rfl | k_is | kit_is | rfl)
    (case eB_NoPlayer => first | kernel_rfl | k_is | kit_is | rfl)
    (case eB_Taken => first | kernel_rfl | k_is | kit_is | rfl)
    (case eB_Full => first | kernel_rfl | k_is | kit_is | rfl)
    (case eB_NoGate => first | kernel_rfl | k_is | kit_is | rfl)
    (case eB_NotThere => first | kernel_rfl | k_is | kit_is | rfl)
    (case eB_NothingToUndo => first | kernel_rfl | k_is | kit_is | rfl)
    (case eB_NothingToRedo => first | kernel_rfl | k_is | kit_is | rfl)
    (case eB_NoTrial => first | kernel_rfl | k_is | kit_is | rfl)
    (case eB_BadJournal => first | kernel_rfl | k_is | kit_is | rfl)
    (case eB_BadLine => first | kernel_rfl | k_is | kit_is | rfl)
    (case xB_NoPlace => first | kernel_rfl | k_is | kit_is | rfl)
    (case xB_BadNumbers => first | kernel_rfl | k_is | kit_is | rfl)
    (case xB_BadLevel => first | kernel_rfl | k_is | kit_is | rfl)
    (case xB_BadStep => first | kernel_rfl | k_is | kit_is | rfl)
    (case xB_BadCrowd => first | kernel_rfl | k_is | kit_is | rfl)
    (case xB_OtherLevel => first | kernel_rfl | k_is | kit_is | rfl)
    (case xB_TooMany => first | kernel_rfl | k_is | kit_is | rfl)
    (case xB_BadSteps => first | kernel_rfl | k_is | kit_is | rfl)
    (case xB_Shut => first | kernel_rfl | k_is | kit_is | rfl)
    (case xB_NoRoom => first | kernel_rfl | k_is | kit_is | rfl)
    (case xB_NoKind => first | kernel_rfl | k_is | kit_is | rfl)
    (case xB_BadWish => first | kernel_rfl | k_is | kit_is | rfl)
    (case xB_BadHopes => first | kernel_rfl | k_is | kit_is | rfl)
    (case xB_BadOffers => first | kernel_rfl | k_is | kit_is | rfl)
    (case xB_Unlike => first | kernel_rfl | k_is | kit_is | rfl)
    (case xB_Taken => first | kernel_rfl | k_is | kit_is | rfl)
    (case xB_NoPlayer => first | kernel_rfl | k_is | kit_is | rfl)
    (case xB_BadName => first | kernel_rfl | k_is | kit_is | rfl)
    (case xB_NotThere => first | kernel_rfl | k_is | kit_is | rfl)
    (case xB_NoGate => first | kernel_rfl | k_is | kit_is | rfl)
    (case xB_Full => first | kernel_rfl | k_is | kit_is | rfl)
    (case xB_NoTrial => first | kernel_rfl | k_is | kit_is | rfl)
    (case xB_NothingToRedo => first | kernel_rfl | k_is | kit_is | rfl)
    (case xB_NothingToUndo => first | kernel_rfl | k_is | kit_is | rfl)
    (case xB_BadLine => first | kernel_rfl | k_is | kit_is | rfl)
    (case xB_BadJournal => first | kernel_rfl | k_is | kit_is | rfl)
    (case xB_PlateError => first | kernel_rfl | k_is | kit_is | rfl)
    (case xB_ValueError => first | kernel_rfl | k_is | kit_is | rfl)
    (case zx_ValueError => k_is)
    (case aCS => first | k_is | kit_is | kernel_rfl)
    (case z_super => k_is)
    (case zs_super => first | rfl | kernel_rfl)
    (case eini_BadCrowd => first | k_is | kit_is | kernel_rfl)
    (case pml => first | k_is | kit_is | kernel_rfl)
    (case pmc => first | k_is | kit_is | kernel_rfl)
    (case pmn => first | rfl | kernel_rfl)
    (case pmd => first | k_is | kit_is | kernel_rfl)
    (case pmf => first | rfl | kernel_rfl)
    (case pmg => first | kernel_rfl | k_is | kit_is | rfl)
    (case pme => first | k_is | kit_is | kernel_rfl)
    (case pmh => first | kernel_rfl | k_is | kit_is | rfl)
    (case pmi => first | k_is | kit_is | kernel_rfl)
    (case pmj => first | k_is | kit_is | kernel_rfl)
    (case xl_BadCrowd => first | k_is | kit_is | kernel_rfl)
    (case xr_BadCrowd => first | kernel_rfl | k_is | kit_is | rfl)
    (case pB_BadCrowd => first | kernel_rfl | k_is | kit_is | rfl)
    (case xl_OtherLevel => first | k_is | kit_is | kernel_rfl)
    (case xr_OtherLevel => first | kernel_rfl | k_is | kit_is | rfl)
    (case pB_OtherLevel => first | kernel_rfl | k_is | kit_is | rfl)
    (case xl_NoPlace => first | k_is | kit_is | kernel_rfl)
    (case xr_NoPlace => first | kernel_rfl | k_is | kit_is | rfl)
    (case pB_NoPlace => first | kernel_rfl | k_is | kit_is | rfl)
    (case xl_BadNumbers => first | k_is | kit_is | kernel_rfl)
    (case xr_BadNumbers => first | kernel_rfl | k_is | kit_is | rfl)
    (case pB_BadNumbers => first | kernel_rfl | k_is | kit_is | rfl)
    (case xl_BadLevel => first | k_is | kit_is | kernel_rfl)
    (case xr_BadLevel => first | kernel_rfl | k_is | kit_is | rfl)
    (case pB_BadLevel => first | kernel_rfl | k_is | kit_is | rfl)
    (case xl_BadWish => first | k_is | kit_is | kernel_rfl)
    (case xr_BadWish => first | kernel_rfl | k_is | kit_is | rfl)
    (case pB_BadWish => first | kernel_rfl | k_is | kit_is | rfl)
    (case xl_TooMany => first | k_is | kit_is | kernel_rfl)
    (case xr_TooMany => first | kernel_rfl | k_is | kit_is | rfl)
    (case pB_TooMany => first | kernel_rfl | k_is | kit_is | rfl)
    (case xl_BadSteps => first | k_is | kit_is | kernel_rfl)
    (case xr_BadSteps => first | kernel_rfl | k_is | kit_is | rfl)
    (case pB_BadSteps => first | kernel_rfl | k_is | kit_is | rfl)
    (case xl_Shut => first | k_is | kit_is | kernel_rfl)
    (case xr_Shut => first | kernel_rfl | k_is | kit_is | rfl)
    (case pB_Shut => first | kernel_rfl | k_is | kit_is | rfl)
    (case xl_BadStep => first | k_is | kit_is | kernel_rfl)
    (case xr_BadStep => first | kernel_rfl | k_is | kit_is | rfl)
    (case pB_BadStep => first | kernel_rfl | k_is | kit_is | rfl)
    (case xl_BadHopes => first | k_is | kit_is | kernel_rfl)
    (case xr_BadHopes => first | kernel_rfl | k_is | kit_is | rfl)
    (case pB_BadHopes => first | kernel_rfl | k_is | kit_is | rfl)
    (case xl_BadOffers => first | k_is | kit_is | kernel_rfl)
    (case xr_BadOffers => first | kernel_rfl | k_is | kit_is | rfl)
    (case pB_BadOffers => first | kernel_rfl | k_is | kit_is | rfl)
    (case xl_Unlike => first | k_is | kit_is | kernel_rfl)
    (case xr_Unlike => first | kernel_rfl | k_is | kit_is | rfl)
    (case pB_Unlike => first | kernel_rfl | k_is | kit_is | rfl)
    (case xl_NoRoom => first | k_is | kit_is | kernel_rfl)
    (case xr_NoRoom => first | kernel_rfl | k_is | kit_is | rfl)
    (case pB_NoRoom => first | kernel_rfl | k_is | kit_is | rfl)
    (case xl_NoKind => first | k_is | kit_is | kernel_rfl)
    (case xr_NoKind => first | kernel_rfl | k_is | kit_is | rfl)
    (case pB_NoKind => first | kernel_rfl | k_is | kit_is | rfl)
    (case xl_NoGate => first | k_is | kit_is | kernel_rfl)
    (case xr_NoGate => first | kernel_rfl | k_is | kit_is | rfl)
    (case pB_NoGate => first | kernel_rfl | k_is | kit_is | rfl)
    (case xl_Full => first | k_is | kit_is | kernel_rfl)
    (case xr_Full => first | kernel_rfl | k_is | kit_is | rfl)
    (case pB_Full => first | kernel_rfl | k_is | kit_is | rfl)
    (case xl_Taken => first | k_is | kit_is | kernel_rfl)
    (case xr_Taken => first | kernel_rfl | k_is | kit_is | rfl)
    (case pB_Taken => first | kernel_rfl | k_is | kit_is | rfl)
    (case xl_NoPlayer => first | k_is | kit_is | kernel_rfl)
    (case xr_NoPlayer => first | kernel_rfl | k_is | kit_is | rfl)
    (case pB_NoPlayer => first | kernel_rfl | k_is | kit_is | rfl)
    (case xl_BadName => first | k_is | kit_is | kernel_rfl)
    (case xr_BadName => first | kernel_rfl | k_is | kit_is | rfl)
    (case pB_BadName => first | kernel_rfl | k_is | kit_is | rfl)
    (case xl_BadJournal => first | k_is | kit_is | kernel_rfl)
    (case xr_BadJournal => first | kernel_rfl | k_is | kit_is | rfl)
    (case pB_BadJournal => first | kernel_rfl | k_is | kit_is | rfl)
    (case xl_NoTrial => first | k_is | kit_is | kernel_rfl)
    (case xr_NoTrial => first | kernel_rfl | k_is | kit_is | rfl)
    (case pB_NoTrial => first | kernel_rfl | k_is | kit_is | rfl)
    (case xl_NothingToRedo => first | k_is | kit_is | kernel_rfl)
    (case xr_NothingToRedo => first | kernel_rfl | k_is | kit_is | rfl)
    (case pB_NothingToRedo => first | kernel_rfl | k_is | kit_is | rfl)
    (case xl_NothingToUndo => first | k_is | kit_is | kernel_rfl)
    (case xr_NothingToUndo => first | kernel_rfl | k_is | kit_is | rfl)
    (case pB_NothingToUndo => first | kernel_rfl | k_is | kit_is | rfl)
    (case xl_NotThere => first | k_is | kit_is | kernel_rfl)
    (case xr_NotThere => first | kernel_rfl | k_is | kit_is | rfl)
    (case pB_NotThere => first | kernel_rfl | k_is | kit_is | rfl)
    (case xl_BadLine => first | k_is | kit_is | kernel_rfl)
    (case xr_BadLine => first | kernel_rfl | k_is | kit_is | rfl)
    (case pB_BadLine => first | kernel_rfl | k_is | kit_is | rfl)
    (case xl_PlateError => first | k_is | kit_is | kernel_rfl)
    (case xr_PlateError => first | kernel_rfl | k_is | kit_is | rfl)
    (case pB_PlateError => first | kernel_rfl | k_is | kit_is | rfl)
    (case z_len => k_is)
    (case z_int => k_is)
    (case z_abs => k_is)
    (case z_str => k_is)
    (case z_tuple => k_is)
    (case z_list => k_is)
    (case z_range => k_is)
    (case z_zip => k_is)
    (case z_enumerate => k_is)
    (case z_max => k_is)
    (case z_min => k_is)
    (case z_sum => k_is)
    (case z_all => k_is)
    (case z_any => k_is)
    (case z_sorted => k_is)
    (case z_set => k_is)
    (case z_isinstance => k_is)
    (case z_repr => k_is)
    (case z_bool => k_is)
    (case z_dict => k_is)
    (case a0 => k_is)
    (case l0 => k_is)
    (case c0 => k_is)
    (case k0 => k_is)
    (case a1 => k_is)
    (case l1 => k_is)
    (case c1 => k_is)
    (case k1 => k_is)
    (case a2 => k_is)
    (case l2 => k_is)
    (case c2 => k_is)
    (case k2 => k_is)
    (case a3 => k_is)
    (case l3 => k_is)
    (case c3 => k_is)
    (case k3 => k_is)
    (case a4 => k_is)
    (case l4 => k_is)
    (case c4 => k_is)
    (case k4 => k_is)
    (case a5 => k_is)
    (case l5 => k_is)
    (case c5 => k_is)
    (case k5 => k_is)
    (case a6 => k_is)
    (case l6 => k_is)
    (case c6 => k_is)
    (case k6 => k_is)
    (case a7 => k_is)
    (case l7 => k_is)
    (case c7 => k_is)
    (case k7 => k_is)
    (case a8 => k_is)
    (case l8 => k_is)
    (case c8 => k_is)
    (case k8 => k_is)
    (case a9 => k_is)
    (case l9 => k_is)
    (case c9 => k_is)
    (case k9 => k_is)
    (case a10 => k_is)
    (case l10 => k_is)
    (case c10 => k_is)
    (case k10 => k_is)
    (case a11 => k_is)
    (case l11 => k_is)
    (case c11 => k_is)
    (case k11 => k_is)
    (case a12 => k_is)
    (case l12 => k_is)
    (case c12 => k_is)
    (case k12 => k_is)
#print axioms PySem.Challenge.cw_holdplates_k00_errors_keep_their_values_holds
