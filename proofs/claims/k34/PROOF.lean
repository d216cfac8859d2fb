import PyProof.Rows.All
import Wide.All
import OpenK.AllK
import Wide.FinOn
import HandS.ForMost
import HandS.Lambda
import HandS.HeadHook4
import KE.DataCmp
import KE.SortData
import KE.SortKeyHeap
import HandS.Sort
import HandS.IsInst
import HandS.Zip
import HandS.RepeatKit
import PyProof.TupleOfSeq
import HandS.Iter
import HandS.Style
import HandS.DictComp
import HandS.Defaults
import HandS.NoneIn
import HandS.Conv
import HandS.Head0
import HandS.Head1
import HandS.Head2
import HandS.HeadEnd
import HandS.HeadHook1
import HandS.HeadHook2
import KE.DataMinMax
import KE.KDictPairs
import KE.KDictList
import HandS.SetFor
import HandS.Strs
import KE.KDictWalk
import HandS.DictTup
import PyProof.Draws
import HandS.SetBool
import PySem.Challenge.RW_pulledpegs_k34_nests_pair_by_pair
set_option Elab.async false
set_option linter.all false
set_option maxRecDepth 100000
set_option maxHeartbeats 4000000
namespace Dv
open PySem PySem.Spec PyProof.Rows L2
/-- plain data; lists and dicts are values here -/
inductive W where
  | non | bl (b : Bool) | int (i : Int) | str (x : Str) | tup (ws : List W) | lst (ws : List W) | fl (ws : List W)
  | dk (ks : List Key) (ws : List W) | dt (ks : List (List Key)) (ws : List W) | ins (c : Str) (fs : List Str) (ws : List W)
  | fk (ks : List Key) (ws : List W) | fd (ks : List (List Key)) (ws : List W)
  | hole (a : Addr)
mutual
def W.imm : W → Bool
  | .tup ws => W.imms ws
  | .fl ws => W.imms ws
  | .fk _ ws => W.imms ws
  | .fd _ ws => W.imms ws
  | .lst _ => false
  | .dk _ _ => false
  | .dt _ _ => false
  | .ins _ _ _ => false
  | .hole _ => false
  | _ => true
def W.imms : List W → Bool
  | [] => true
  | w :: ws => w.imm && W.imms ws
end
abbrev Ex (H H' : Hp) : Prop := ∀ a o, H a = some o → H' a = some o
theorem Ex.refl (H : Hp) : Ex H H := fun _ _ h => h
theorem Ex.trans {H H1 H2 : Hp} (a : Ex H H1) (b : Ex H1 H2) : Ex H H2 := fun x o h => b x o (a x o h)
theorem Ex.new {H : Hp} {p : Addr} {o : HO} (h : H p = none) : Ex H (upd H p o) := fun a u e => by
  rw [upd_ne (ne_of_none e h)]
  exact e
theorem Ex.back {H H' : Hp} {p : Addr} (e : Ex H H') (h : H' p = none) : H p = none := by
  cases h1 : H p with
  | none => rfl
  | some o => rw [e p o h1] at h; cases h
/-- what may be written; the tables of code objects grow -/
def Mut : Option HO → Prop
  | some (.lst _) => True
  | some (.dK _) => True
  | some (.dT _) => True
  | some (.set _ _) => True
  | some (.ins _ _ _) => True
  | some (.tbl _) => True
  | some (.ext φ) => ∀ c q, HO.ext φ ≠ LamX.CodeO c q
  | _ => False
/-- data that may be written -/
def MutD : Option HO → Prop
  | some (.lst _) => True
  | some (.dK _) => True
  | some (.dT _) => True
  | some (.set _ _) => True
  | some (.ins _ _ _) => True
  | _ => False
/-- no table -/
abbrev NT (o : HO) : Prop := ∀ ps, o ≠ .tbl ps
theorem MutD.m {o : HO} (h : MutD (some o)) : Mut (some o) := by
  cases o <;> first | trivial | exact h.elim
theorem MutD.nt {o : HO} (h : MutD (some o)) : NT o := fun ps z => by subst z; exact h
/-- all stands but for the tables, which grow -/
structure ExT (H H' : Hp) : Prop where
  n : ∀ a o, H a = some o → NT o → H' a = some o
  t : ∀ a ps, H a = some (.tbl ps) → ∃ ps', H' a = some (.tbl ps')
theorem ExT.of {H H' : Hp} (e : Ex H H') : ExT H H' := ⟨fun a o h _ => e a o h, fun a ps h => ⟨ps, e a _ h⟩⟩
theorem ExT.refl (H : Hp) : ExT H H := .of (Ex.refl H)
theorem nt_or (o : HO) : NT o ∨ ∃ ps, o = .tbl ps := by
  cases o with
  | tbl ps => exact .inr ⟨ps, rfl⟩
  | _ => exact .inl fun _ z => nomatch z
theorem ExT.some {H H' : Hp} (e : ExT H H') {a : Addr} {o : HO} (h : H a = some o) : ∃ o', H' a = some o' := by
  rcases nt_or o with n | ⟨ps, rfl⟩
  · exact ⟨_, e.n a o h n⟩
  · obtain ⟨ps', q⟩ := e.t a ps h
    exact ⟨_, q⟩
theorem ExT.back {H H' : Hp} {p : Addr} (e : ExT H H') (h : H' p = none) : H p = none := by
  cases h1 : H p with
  | none => rfl
  | some o =>
    obtain ⟨o', q⟩ := e.some h1
    rw [q] at h
    cases h
theorem ExT.trans {H H1 H2 : Hp} (a : ExT H H1) (b : ExT H1 H2) : ExT H H2 := ⟨fun x o h n => b.n x o (a.n x o h n) n, fun x ps h => by
  obtain ⟨ps', q⟩ := a.t x ps h
  exact b.t x ps' q⟩
def lamDefs : List Str := ["least_only"]
def tabOf1 (K : PySem.W.Frag) (x : Str) : Option (Addr × Addr × Str) :=
  if PySem.W.codeHdIn K (He.cT K (x, none)).1 (He.cT K (x, none)).2 then Option.some ((He.cT K (x, none)).1, (He.cT K (x, none)).2, x ++ ".<locals>.<lambda>") else Option.none
/-- code object, table, the lambdas' name -/
def tabsK (K : PySem.W.Frag) : List (Addr × Addr × Str) := lamDefs.filterMap (tabOf1 K)
/-- a list that never changes: the script -/
def FzL (K : PySem.W.Frag) (H : Hp) (a : Addr) (vs : List V) : Prop := (∃ o, H a = some (.frz o (.lst vs))) ∨
  ∃ (o : Obj) (its : Array Value) (n : Nat), K.lookup a = some o ∧ o.cls = .type "list" ∧ o.dict = none ∧ o.data = .seq its n ∧ its.size ≤ sizeLine ∧ Vals vs its.toList
theorem FzL.sq {K : PySem.W.Frag} {H : Hp} {a : Addr} {vs : List V} (h : FzL K H a vs) : SqL K H a vs := by
  rcases h with h | h
  · exact .inl (.inr h)
  · exact .inr h
mutual
/-- v bears w in the heap H; A: the lists, dicts and instances that it is made of -/
def Rp (K : PySem.W.Frag) (H : Hp) : W → V → List Addr → Prop
  | .non, v, A => v = .non ∧ A = []
  | .bl b, v, A => v = .bl b ∧ A = []
  | .int i, v, A => v = .int i ∧ A = []
  | .str x, v, A => v = .str x ∧ A = []
  | .tup ws, v, A => ∃ a vs, v = .ref a ∧ H a = some (.tup vs) ∧ Rps K H ws vs A
  | .lst ws, v, A => ∃ a vs B, v = .ref a ∧ H a = some (.lst vs) ∧ A = a :: B ∧ Rps K H ws vs B
  | .fl ws, v, A => ∃ a vs, v = .ref a ∧ FzL K H a vs ∧ Rps K H ws vs A
  | .dk ks ws, v, A => ∃ a vs B, v = .ref a ∧ H a = some (.dK (ks.zip vs)) ∧ ks.length = vs.length ∧ A = a :: B ∧ Rps K H ws vs B
  | .dt ks ws, v, A => ∃ a vs B, v = .ref a ∧ H a = some (.dT (ks.zip vs)) ∧ ks.length = vs.length ∧ A = a :: B ∧ Rps K H ws vs B
  | .ins C fs ws, v, A => ∃ a dx vs B, v = .ref a ∧ H a = some (.ins (He.ga K C) dx (fs.zip vs)) ∧ fs.length = vs.length ∧ A = a :: B ∧ Rps K H ws vs B
  | .fk ks ws, v, A => ∃ a vs, v = .ref a ∧ (∃ o, H a = some (.frz o (.dK (ks.zip vs)))) ∧ ks.length = vs.length ∧ Rps K H ws vs A
  | .fd ks ws, v, A => ∃ a vs, v = .ref a ∧ (∃ o, H a = some (.frz o (.dT (ks.zip vs)))) ∧ ks.length = vs.length ∧ Rps K H ws vs A
  | .hole a, v, A => v = .ref a ∧ A = []
def Rps (K : PySem.W.Frag) (H : Hp) : List W → List V → List Addr → Prop
  | [], vs, A => vs = [] ∧ A = []
  | w :: ws, vs, A => ∃ v vr B C, vs = v :: vr ∧ A = B ++ C ∧ Rp K H w v B ∧ Rps K H ws vr C
end
theorem rd_ex {G G' : Hp} {a : Addr} {u : HO} (h : ∀ o, G a = some o → G' a = some o) (r : Rd G a u) : Rd G' a u := by
  rcases r with r | ⟨o, r⟩
  · exact .inl (h _ r)
  · exact .inr ⟨o, h _ r⟩
structure TupK (K : PySem.W.Frag) (G G' : Hp) : Prop where
  t : ∀ a vs, G a = some (.tup vs) → G' a = some (.tup vs)
  l : ∀ a vs, FzL K G a vs → FzL K G' a vs
  z : ∀ a o u, G a = some (.frz o u) → G' a = some (.frz o u)
/-- what can't be written stands -/
theorem TupK.of {K : PySem.W.Frag} {G G' : Hp} (h : ∀ a o, G a = some o → ¬ Mut (some o) → G' a = some o) : TupK K G G' := by
  refine ⟨fun a vs q => h a _ q fun z => z, fun a vs q => ?_, fun a o u q => h a _ q fun z => z⟩
  rcases q with ⟨o, q⟩ | q
  · exact .inl ⟨o, h a _ q fun z => z⟩
  · exact .inr q
theorem TupK.ex {K : PySem.W.Frag} {G G' : Hp} (e : Ex G G') : TupK K G G' := .of fun a o h _ => e a o h
theorem TupK.trans {K : PySem.W.Frag} {G G1 G2 : Hp} (a : TupK K G G1) (b : TupK K G1 G2) : TupK K G G2 := ⟨fun x vs h => b.1 x vs (a.1 x vs h), fun x vs h => b.2 x vs (a.2 x vs h), fun x o u h => b.3 x o u (a.3 x o u h)⟩
section
variable {K : PySem.W.Frag} {G G' : Hp}
mutual
theorem Rp.frameN (t : TupK K G G') : ∀ (w : W) (v : V) (A : List Addr), (∀ a ∈ A, ∀ o, G a = some o → NT o → G' a = some o) → Rp K G w v A → Rp K G' w v A
  | .hole _, _, _, _, h => by unfold Rp at h ⊢; exact h
  | .non, _, _, _, h => by unfold Rp at h ⊢; exact h
  | .bl _, _, _, _, h => by unfold Rp at h ⊢; exact h
  | .int _, _, _, _, h => by unfold Rp at h ⊢; exact h
  | .str _, _, _, _, h => by unfold Rp at h ⊢; exact h
  | .tup ws, v, A, f, h => by
    unfold Rp at h ⊢
    obtain ⟨a, vs, e, q, r⟩ := h
    exact ⟨a, vs, e, t.1 a vs q, Rps.frameN t ws vs A f r⟩
  | .lst ws, v, A, f, h => by
    unfold Rp at h ⊢
    obtain ⟨a, vs, B, e, q, rfl, r⟩ := h
    exact ⟨a, vs, B, e, f a (List.mem_cons_self ..) _ q (fun _ z => nomatch z), rfl, Rps.frameN t ws vs B (fun b hb => f b (List.mem_cons_of_mem _ hb)) r⟩
  | .fl ws, v, A, f, h => by
    unfold Rp at h ⊢
    obtain ⟨a, vs, e, q, r⟩ := h
    exact ⟨a, vs, e, t.2 a vs q, Rps.frameN t ws vs A f r⟩
  | .dk ks ws, v, A, f, h => by
    unfold Rp at h ⊢
    obtain ⟨a, vs, B, e, q, l, rfl, r⟩ := h
    exact ⟨a, vs, B, e, f a (List.mem_cons_self ..) _ q (fun _ z => nomatch z), l, rfl, Rps.frameN t ws vs B (fun b hb => f b (List.mem_cons_of_mem _ hb)) r⟩
  | .dt ks ws, v, A, f, h => by
    unfold Rp at h ⊢
    obtain ⟨a, vs, B, e, q, l, rfl, r⟩ := h
    exact ⟨a, vs, B, e, f a (List.mem_cons_self ..) _ q (fun _ z => nomatch z), l, rfl, Rps.frameN t ws vs B (fun b hb => f b (List.mem_cons_of_mem _ hb)) r⟩
  | .ins C fs ws, v, A, f, h => by
    unfold Rp at h ⊢
    obtain ⟨a, dx, vs, B, e, q, l, rfl, r⟩ := h
    exact ⟨a, dx, vs, B, e, f a (List.mem_cons_self ..) _ q (fun _ z => nomatch z), l, rfl, Rps.frameN t ws vs B (fun b hb => f b (List.mem_cons_of_mem _ hb)) r⟩
  | .fk ks ws, v, A, f, h => by
    unfold Rp at h ⊢
    obtain ⟨a, vs, e, ⟨o, q⟩, l, r⟩ := h
    exact ⟨a, vs, e, ⟨o, t.3 a o _ q⟩, l, Rps.frameN t ws vs A f r⟩
  | .fd ks ws, v, A, f, h => by
    unfold Rp at h ⊢
    obtain ⟨a, vs, e, ⟨o, q⟩, l, r⟩ := h
    exact ⟨a, vs, e, ⟨o, t.3 a o _ q⟩, l, Rps.frameN t ws vs A f r⟩
theorem Rps.frameN (t : TupK K G G') : ∀ (ws : List W) (vs : List V) (A : List Addr), (∀ a ∈ A, ∀ o, G a = some o → NT o → G' a = some o) → Rps K G ws vs A → Rps K G' ws vs A
  | [], _, _, _, h => by unfold Rps at h ⊢; exact h
  | w :: ws, vs, A, f, h => by
    unfold Rps at h ⊢
    obtain ⟨v, vr, B, C, rfl, rfl, h1, h2⟩ := h
    exact ⟨v, vr, B, C, rfl, rfl, Rp.frameN t w v B (fun a ha => f a (List.mem_append_left _ ha)) h1, Rps.frameN t ws vr C (fun a ha => f a (List.mem_append_right _ ha)) h2⟩
end
theorem Rp.frame (t : TupK K G G') (w : W) (v : V) (A : List Addr) (f : ∀ a ∈ A, ∀ o, G a = some o → G' a = some o) (h : Rp K G w v A) : Rp K G' w v A := Rp.frameN t w v A (fun a ha o q _ => f a ha o q) h
theorem Rps.frame (t : TupK K G G') (ws : List W) (vs : List V) (A : List Addr) (f : ∀ a ∈ A, ∀ o, G a = some o → G' a = some o) (h : Rps K G ws vs A) : Rps K G' ws vs A := Rps.frameN t ws vs A (fun a ha o q _ => f a ha o q) h
theorem Rp.mono {w : W} {v : V} {A : List Addr} (e : Ex G G') (h : Rp K G w v A) : Rp K G' w v A := Rp.frame (TupK.ex e) w v A (fun a _ o q => e a o q) h
theorem TupK.exT (e : ExT G G') : TupK K G G' := .of fun a o h n => e.n a o h fun ps z => n (by rw [z]; trivial)
theorem Rp.monoT {w : W} {v : V} {A : List Addr} (e : ExT G G') (h : Rp K G w v A) : Rp K G' w v A := Rp.frameN (TupK.exT e) w v A (fun a _ o q n => e.n a o q n) h
theorem Rps.mono {ws : List W} {vs : List V} {A : List Addr} (e : Ex G G') (h : Rps K G ws vs A) : Rps K G' ws vs A := Rps.frame (TupK.ex e) ws vs A (fun a _ o q => e a o q) h
mutual
theorem Rp.fp : ∀ (w : W) (v : V) (A : List Addr), Rp K G w v A → ∀ a ∈ A, ∃ o, G a = some o
  | .hole _, _, _, h => by unfold Rp at h; obtain ⟨_, rfl⟩ := h; exact fun _ z => nomatch z
  | .non, _, _, h => by unfold Rp at h; obtain ⟨_, rfl⟩ := h; exact fun _ z => nomatch z
  | .bl _, _, _, h => by unfold Rp at h; obtain ⟨_, rfl⟩ := h; exact fun _ z => nomatch z
  | .int _, _, _, h => by unfold Rp at h; obtain ⟨_, rfl⟩ := h; exact fun _ z => nomatch z
  | .str _, _, _, h => by unfold Rp at h; obtain ⟨_, rfl⟩ := h; exact fun _ z => nomatch z
  | .tup ws, v, A, h => by
    unfold Rp at h
    obtain ⟨a, vs, e, q, r⟩ := h
    exact Rps.fp ws vs A r
  | .lst ws, v, A, h => by
    unfold Rp at h
    obtain ⟨a, vs, B, e, q, rfl, r⟩ := h
    intro b hb
    rcases List.mem_cons.mp hb with rfl | hb
    · exact ⟨_, q⟩
    · exact Rps.fp ws vs B r b hb
  | .fl ws, v, A, h => by
    unfold Rp at h
    obtain ⟨a, vs, e, q, r⟩ := h
    exact Rps.fp ws vs A r
  | .dk ks ws, v, A, h => by
    unfold Rp at h
    obtain ⟨a, vs, B, e, q, l, rfl, r⟩ := h
    intro b hb
    rcases List.mem_cons.mp hb with rfl | hb
    · exact ⟨_, q⟩
    · exact Rps.fp ws vs B r b hb
  | .dt ks ws, v, A, h => by
    unfold Rp at h
    obtain ⟨a, vs, B, e, q, l, rfl, r⟩ := h
    intro b hb
    rcases List.mem_cons.mp hb with rfl | hb
    · exact ⟨_, q⟩
    · exact Rps.fp ws vs B r b hb
  | .ins C fs ws, v, A, h => by
    unfold Rp at h
    obtain ⟨a, dx, vs, B, e, q, l, rfl, r⟩ := h
    intro b hb
    rcases List.mem_cons.mp hb with rfl | hb
    · exact ⟨_, q⟩
    · exact Rps.fp ws vs B r b hb
  | .fk ks ws, v, A, h => by
    unfold Rp at h
    obtain ⟨a, vs, e, q, l, r⟩ := h
    exact Rps.fp ws vs A r
  | .fd ks ws, v, A, h => by
    unfold Rp at h
    obtain ⟨a, vs, e, q, l, r⟩ := h
    exact Rps.fp ws vs A r
theorem Rps.fp : ∀ (ws : List W) (vs : List V) (A : List Addr), Rps K G ws vs A → ∀ a ∈ A, ∃ o, G a = some o
  | [], _, _, h => by unfold Rps at h; obtain ⟨_, rfl⟩ := h; exact fun _ z => nomatch z
  | w :: ws, vs, A, h => by
    unfold Rps at h
    obtain ⟨v, vr, B, C, rfl, rfl, h1, h2⟩ := h
    intro a ha
    rcases List.mem_append.mp ha with ha | ha
    · exact Rp.fp w v B h1 a ha
    · exact Rps.fp ws vr C h2 a ha
end
mutual
theorem Rp.imm : ∀ (w : W) (v : V) (A : List Addr), w.imm = true → Rp K G w v A → A = []
  | .hole _, _, _, _, h => by unfold Rp at h; exact h.2
  | .non, _, _, _, h => by unfold Rp at h; exact h.2
  | .bl _, _, _, _, h => by unfold Rp at h; exact h.2
  | .int _, _, _, _, h => by unfold Rp at h; exact h.2
  | .str _, _, _, _, h => by unfold Rp at h; exact h.2
  | .tup ws, v, A, i, h => by
    unfold Rp at h
    unfold W.imm at i
    obtain ⟨a, vs, e, q, r⟩ := h
    exact Rps.imm ws vs A i r
  | .lst _, _, _, i, _ => by unfold W.imm at i; cases i
  | .fl ws, v, A, i, h => by
    unfold Rp at h
    unfold W.imm at i
    obtain ⟨a, vs, e, q, r⟩ := h
    exact Rps.imm ws vs A i r
  | .dk _ _, _, _, i, _ => by unfold W.imm at i; cases i
  | .dt _ _, _, _, i, _ => by unfold W.imm at i; cases i
  | .ins _ _ _, _, _, i, _ => by unfold W.imm at i; cases i
  | .fk ks ws, v, A, i, h => by
    unfold Rp at h
    unfold W.imm at i
    obtain ⟨a, vs, e, q, l, r⟩ := h
    exact Rps.imm ws vs A i r
  | .fd ks ws, v, A, i, h => by
    unfold Rp at h
    unfold W.imm at i
    obtain ⟨a, vs, e, q, l, r⟩ := h
    exact Rps.imm ws vs A i r
theorem Rps.imm : ∀ (ws : List W) (vs : List V) (A : List Addr), W.imms ws = true → Rps K G ws vs A → A = []
  | [], _, _, _, h => by unfold Rps at h; exact h.2
  | w :: ws, vs, A, i, h => by
    unfold Rps at h
    unfold W.imms at i
    obtain ⟨v, vr, B, C, rfl, rfl, h1, h2⟩ := h
    obtain ⟨i1, i2⟩ := Bool.and_eq_true_iff.mp i
    rw [Rp.imm w v B i1 h1, Rps.imm ws vr C i2 h2]
    rfl
end
theorem Rps.len : ∀ {ws : List W} {vs : List V} {A : List Addr}, Rps K G ws vs A → ws.length = vs.length
  | [], _, _, h => by unfold Rps at h; obtain ⟨rfl, _⟩ := h; rfl
  | w :: ws, vs, A, h => by
    unfold Rps at h
    obtain ⟨v, vr, B, C, rfl, rfl, h1, h2⟩ := h
    rw [List.length_cons, List.length_cons, Rps.len h2]
theorem Rps.get : ∀ {ws : List W} {vs : List V} {A : List Addr} {i : Nat} {w : W}, Rps K G ws vs A → ws[i]? = some w → ∃ v B, vs[i]? = some v ∧ Rp K G w v B ∧ ∀ a ∈ B, a ∈ A
  | [], _, _, i, w, _, e => by simp at e
  | w0 :: ws, vs, A, 0, w, h, e => by
    unfold Rps at h
    obtain ⟨v, vr, B, C, rfl, rfl, h1, h2⟩ := h
    simp at e
    subst e
    exact ⟨v, B, rfl, h1, fun a ha => List.mem_append_left _ ha⟩
  | w0 :: ws, vs, A, i + 1, w, h, e => by
    unfold Rps at h
    obtain ⟨v, vr, B, C, rfl, rfl, h1, h2⟩ := h
    obtain ⟨v', B', e', r', m'⟩ := Rps.get (i := i) (w := w) h2 (by simpa using e)
    exact ⟨v', B', by simpa using e', r', fun a ha => List.mem_append_right _ (m' a ha)⟩
theorem Rps.append : ∀ {ws xs : List W} {vs us : List V} {A B : List Addr}, Rps K G ws vs A → Rps K G xs us B → Rps K G (ws ++ xs) (vs ++ us) (A ++ B)
  | [], _, _, _, _, _, h, h' => by unfold Rps at h; obtain ⟨rfl, rfl⟩ := h; exact h'
  | w :: ws, xs, vs, us, A, B, h, h' => by
    unfold Rps at h
    obtain ⟨v, vr, B1, C, rfl, rfl, h1, h2⟩ := h
    show Rps K G (w :: (ws ++ xs)) _ _
    unfold Rps
    exact ⟨v, vr ++ us, B1, C ++ B, rfl, by rw [List.append_assoc], h1, Rps.append h2 h'⟩
theorem Rps.nil : Rps K G [] [] [] := by unfold Rps; exact ⟨rfl, rfl⟩
theorem Rps.cons {w : W} {ws : List W} {v : V} {vs : List V} {A B : List Addr} (h : Rp K G w v A) (t : Rps K G ws vs B) : Rps K G (w :: ws) (v :: vs) (A ++ B) := by
  unfold Rps
  exact ⟨v, vs, A, B, rfl, rfl, h, t⟩
theorem Rps.one {w : W} {v : V} {A : List Addr} (h : Rp K G w v A) : Rps K G [w] [v] A := by
  have := Rps.cons h (Rps.nil (K := K) (G := G))
  rwa [List.append_nil] at this
end
end Dv
set_option Elab.async false
set_option linter.all false
set_option maxRecDepth 100000
set_option maxHeartbeats 4000000
namespace Dv
open PySem PySem.Spec PyProof.Rows L2
abbrev Env := List (Option W)
abbrev Own := Nat → Bool
/-- the tables of code objects: known, seen by nobody, owned by nobody -/
def Tb (K : PySem.W.Frag) (M : Own) (G H : Hp) (φ : Nat → List Addr) : Prop := ∀ p ∈ tabsK K, G p.2.1 = none ∧ (∀ i, M i = true → p.2.1 ∉ φ i) ∧ LamX.TabS H p.2.1 p.2.2
theorem tabS_some {H : Hp} {P : Addr} {q : Str} (h : LamX.TabS H P q) : ∃ ps, H P = some (.tbl ps) := ⟨_, h.choose_spec.1⟩
theorem tabS_upd {H : Hp} {P D : Addr} {q : Str} {o o' : HO} (h : LamX.TabS H P q) (hD : H D = some o) (m : Mut (some o)) (nt : NT o) : LamX.TabS (upd H D o') P q := by
  obtain ⟨ps, h1, h2, h3⟩ := h
  refine ⟨ps, by rw [upd_ne (fun e => by subst e; rw [hD] at h1; cases h1; exact nt _ rfl)]; exact h1, h2, fun pos cv hc => ?_⟩
  obtain ⟨c, e1, e2⟩ := h3 pos cv hc
  exact ⟨c, e1, by rw [upd_ne (fun e => by subst e; rw [hD] at e2; cases e2; exact m _ _ rfl)]; exact e2⟩
theorem Tb.newH {K : PySem.W.Frag} {M : Own} {G H : Hp} {φ : Nat → List Addr} {p : Addr} {o : HO} (t : Tb K M G H φ) (hp : H p = none) : Tb K M G (upd H p o) φ := fun q hq =>
  ⟨(t q hq).1, (t q hq).2.1, (t q hq).2.2.ext (Ex.new hp)⟩
theorem Tb.wr {K : PySem.W.Frag} {M : Own} {G H : Hp} {φ : Nat → List Addr} {D : Addr} {o o' : HO} (t : Tb K M G H φ) (hD : H D = some o) (m : Mut (some o)) (nt : NT o) : Tb K M G (upd H D o') φ := fun q hq =>
  ⟨(t q hq).1, (t q hq).2.1, tabS_upd (t q hq).2.2 hD m nt⟩
theorem Tb.newG {K : PySem.W.Frag} {M : Own} {G H : Hp} {φ : Nat → List Addr} {D : Addr} {o o' : HO} (t : Tb K M G H φ) (hD : H D = some o) (nt : NT o) : Tb K M (upd G D o') H φ := fun q hq => by
  obtain ⟨t1, t2, t3⟩ := t q hq
  obtain ⟨ps, e⟩ := tabS_some t3
  exact ⟨by rw [upd_ne (fun e' => by rw [e', hD] at e; cases e; exact nt _ rfl)]; exact t1, t2, t3⟩
/-- σ bears δ: the slots of M in parts of H that G doesn't see, the others in G -/
structure Sta (K : PySem.W.Frag) (M : Own) (G H : Hp) (φ : Nat → List Addr) (σ : L2.St) (δ : Env) : Prop where
  sub : Ex G H
  sep : ∀ i, M i = true → ∀ a ∈ φ i, G a = none
  mt : ∀ i, M i = true → ∀ a ∈ φ i, Mut (H a)
  nd : ∀ i, M i = true → (φ i).Nodup
  dis : ∀ i j, M i = true → M j = true → i ≠ j → ∀ a ∈ φ i, a ∉ φ j
  own : ∀ i w, M i = true → δ[i]? = some (some w) → ∃ v, σ[i]? = some (some v) ∧ Rp K H w v (φ i)
  non : ∀ i w, M i = false → δ[i]? = some (some w) → ∃ v A, σ[i]? = some (some v) ∧ Rp K G w v A
  len : σ.length = δ.length
  tup : ∀ a o, H a = some o → ¬ Mut (some o) → G a = some o
  tb : Tb K M G H φ
structure Evo (M : Own) (G H : Hp) (φ : Nat → List Addr) (M' : Own) (G' H' : Hp) (φ' : Nat → List Addr) : Prop where
  ex : Ex G G'
  keep : ∀ a o, H a = some o → NT o → (∀ i, M i = true → a ∉ φ i) → H' a = some o
  tbl : ∀ a ps, H a = some (.tbl ps) → ∃ ps', H' a = some (.tbl ps')
  new : ∀ a o, G a = none → G' a = some o → H a = none ∨ ∃ i, M i = true ∧ a ∈ φ i
  nown : ∀ i, M' i = true → ∀ a ∈ φ' i, H a = none ∨ ∃ j, M j = true ∧ a ∈ φ j
def Fresh (G G' : Hp) (A : List Addr) : Prop := A.Nodup ∧ ∀ a ∈ A, G a = none ∧ Mut (G' a)
theorem Fresh.nil {G G' : Hp} : Fresh G G' [] := ⟨List.nodup_nil, fun _ h => nomatch h⟩
theorem Fresh.mono {G G1 G2 : Hp} {A : List Addr} (e : Ex G1 G2) (h : Fresh G G1 A) (s : ∀ a ∈ A, ∃ o, G1 a = some o) : Fresh G G2 A :=
  ⟨h.1, fun a ha => ⟨(h.2 a ha).1, by
    obtain ⟨o, q⟩ := s a ha
    have m := (h.2 a ha).2
    rw [q] at m
    rw [e a o q]
    exact m⟩⟩
theorem Fresh.back {G G1 G2 : Hp} {A : List Addr} (e : Ex G G1) (h : Fresh G1 G2 A) : Fresh G G2 A := ⟨h.1, fun a ha => ⟨e.back (h.2 a ha).1, (h.2 a ha).2⟩⟩
theorem Fresh.append {G G1 G2 : Hp} {A B : List Addr} (e : Ex G G1) (e2 : Ex G1 G2) (h : Fresh G G1 A) (s : ∀ a ∈ A, ∃ o, G1 a = some o) (h2 : Fresh G1 G2 B) : Fresh G G2 (A ++ B) := by
  refine ⟨List.nodup_append.mpr ⟨h.1, h2.1, fun a ha b hb e => ?_⟩, fun a ha => ?_⟩
  · subst e
    obtain ⟨o, q⟩ := s a ha
    rw [(h2.2 a hb).1] at q
    cases q
  · rcases List.mem_append.mp ha with ha | ha
    · exact (h.mono e2 s).2 a ha
    · exact (h2.back e).2 a ha
theorem mut_some {H : Hp} {a : Addr} (h : Mut (H a)) : ∃ o, H a = some o := by
  cases q : H a with
  | none => rw [q] at h; exact h.elim
  | some o => exact ⟨o, rfl⟩
section
variable {K : PySem.W.Frag} {M M' M2 : Own} {G H G' H' G2 H2 : Hp} {φ φ' φ2 : Nat → List Addr} {σ : L2.St} {δ δ' : Env} {w : W} {v : V} {A : List Addr}
theorem Sta.tk (s : Sta K M G H φ σ δ) : TupK K H G := .of s.tup
theorem Evo.refl : Evo M G H φ M G H φ := ⟨Ex.refl G, fun _ _ h _ _ => h, fun _ ps h => ⟨ps, h⟩, fun a o h h' => (by rw [h] at h'; cases h'), fun i hi a ha => .inr ⟨i, hi, ha⟩⟩
theorem Evo.stays (a : Evo M G H φ M' G' H' φ') {x : Addr} {o : HO} (h : H x = some o) (n : ∀ i, M i = true → x ∉ φ i) : ∃ o', H' x = some o' := by
  rcases nt_or o with nt | ⟨ps, rfl⟩
  · exact ⟨_, a.keep x o h nt n⟩
  · obtain ⟨ps', q⟩ := a.tbl x ps h
    exact ⟨_, q⟩
theorem Evo.trans (a : Evo M G H φ M' G' H' φ') (b : Evo M' G' H' φ' M2 G2 H2 φ2) : Evo M G H φ M2 G2 H2 φ2 where
  ex := a.ex.trans b.ex
  tbl := fun x ps h => by
    obtain ⟨ps1, q⟩ := a.tbl x ps h
    exact b.tbl x ps1 q
  keep := fun x o h nt n => b.keep x o (a.keep x o h nt n) nt fun i hi hx => by
    rcases a.nown i hi x hx with q | ⟨j, hj, q⟩
    · rw [q] at h; cases h
    · exact n j hj q
  new := fun x o h h2 => by
    have key : H' x = none → H x = none ∨ ∃ i, M i = true ∧ x ∈ φ i := fun q => by
      cases e : H x with
      | none => exact .inl rfl
      | some u =>
        refine .inr ?_
        by_cases c : ∃ i, M i = true ∧ x ∈ φ i
        · exact c
        · obtain ⟨o', q'⟩ := a.stays e fun i hi hx => c ⟨i, hi, hx⟩
          rw [q] at q'
          cases q'
    cases e : G' x with
    | some u => exact a.new x u h e
    | none =>
      rcases b.new x o e h2 with q | ⟨i, hi, q⟩
      · exact key q
      · exact a.nown i hi x q
  nown := fun i hi x hx => by
    rcases b.nown i hi x hx with q | ⟨j, hj, q⟩
    · cases e : H x with
      | none => exact .inl rfl
      | some u =>
        refine .inr ?_
        by_cases c : ∃ i, M i = true ∧ x ∈ φ i
        · exact c
        · obtain ⟨o', q'⟩ := a.stays e fun i hi hx => c ⟨i, hi, hx⟩
          rw [q] at q'
          cases q'
    · exact a.nown j hj x q
/-- tuples stand through evolutions -/
theorem Sta.tupH (s : Sta K M G H φ σ δ) (e : Evo M G H φ M' G' H' φ') : TupK K H H' := .of fun a o h n =>
  e.keep a o h (fun ps z => n (by rw [z]; trivial)) fun i hi ha => n (by have := s.mt i hi a ha; rwa [h] at this)
/-- a new object of the visible heap -/
theorem Sta.laid {p : Addr} {o : HO} (s : Sta K M G H φ σ δ) (hp : H p = none) : Sta K M (upd G p o) (upd H p o) φ σ δ := by
  have hg : G p = none := s.sub.back hp
  have ne : ∀ i, M i = true → ∀ a ∈ φ i, a ≠ p := fun i hi a ha e => by
    subst e
    have := s.mt i hi a ha
    rw [hp] at this
    exact this
  refine ⟨fun a u h => ?_, fun i hi a ha => ?_, fun i hi a ha => ?_, s.nd, s.dis, fun i w hi e => ?_, fun i w hi e => ?_, s.len, fun a u h n => ?_, fun q hq => ?_⟩
  · by_cases c : a = p
    · subst c
      rw [upd_same] at h ⊢
      exact h
    · rw [upd_ne c] at h ⊢
      exact s.sub a u h
  · rw [upd_ne (ne i hi a ha)]
    exact s.sep i hi a ha
  · rw [upd_ne (ne i hi a ha)]
    exact s.mt i hi a ha
  · obtain ⟨v, e1, r⟩ := s.own i w hi e
    exact ⟨v, e1, r.mono (Ex.new hp)⟩
  · obtain ⟨v, A, e1, r⟩ := s.non i w hi e
    exact ⟨v, A, e1, r.mono (Ex.new hg)⟩
  · by_cases c : a = p
    · subst c
      rw [upd_same] at h ⊢
      exact h
    · rw [upd_ne c] at h ⊢
      exact s.tup a u h n
  · obtain ⟨t1, t2, t3⟩ := s.tb q hq
    obtain ⟨ps, e⟩ := tabS_some t3
    have n := ne_of_none e hp
    exact ⟨by rw [upd_ne n]; exact t1, t2, t3.ext (Ex.new hp)⟩
theorem Evo.laid {p : Addr} {o : HO} (s : Ex G H) (hp : H p = none) : Evo M G H φ M (upd G p o) (upd H p o) φ := by
  refine ⟨Ex.new (s.back hp), fun a u h _ _ => Ex.new hp a u h, fun a ps h => ⟨ps, Ex.new hp a _ h⟩, fun a u h h' => ?_, fun i hi a ha => .inr ⟨i, hi, ha⟩⟩
  by_cases c : a = p
  · subst c
    exact .inl hp
  · rw [upd_ne c, h] at h'
    cases h'
/-- what is wanted behind an expression -/
def Post (K : PySem.W.Frag) (M : Own) (G H : Hp) (φ : Nat → List Addr) (σ : L2.St) (w : W) (fr : Bool) (δ' : Env) (Q : VK) : Prop :=
  ∀ v G' H' φ' A, Sta K M G' H' φ' σ δ' → Evo M G H φ M G' H' φ' → Rp K G' w v A → (fr = true → Fresh G G' A) → Q v H'
theorem Post.here {fr : Bool} {Q : VK} (P : Post K M G H φ σ w fr δ Q) (s : Sta K M G H φ σ δ) (r : Rp K G w v A) (f : fr = true → Fresh G G A) : Q v H := P v G H φ A s Evo.refl r f
theorem Post.scal {fr : Bool} {Q : VK} (P : Post K M G H φ σ w fr δ Q) (s : Sta K M G H φ σ δ) (r : Rp K G w v []) : Q v H := P.here s r fun _ => Fresh.nil
theorem Post.laid {fr : Bool} {Q : VK} {p : Addr} {o : HO} (P : Post K M G H φ σ w fr δ Q) (s : Sta K M G H φ σ δ) (hp : H p = none) (r : Rp K (upd G p o) w (.ref p) A) (f : fr = true → Fresh G (upd G p o) A) : Q (.ref p) (upd H p o) :=
  P (.ref p) _ _ φ A (s.laid hp) (Evo.laid s.sub hp) r f
/-- a later state's post from an earlier one's -/
theorem Post.after {fr : Bool} {Q : VK} (P : Post K M G H φ σ w fr δ' Q) (e : Evo M G H φ M G' H' φ') : Post K M G' H' φ' σ w fr δ' Q := fun v G2 H2 φ2 A s2 e2 r f =>
  P v G2 H2 φ2 A s2 (e.trans e2) r fun h => (f h).back e.ex
end
def Off (M : Own) (δ δ' : Env) : Prop := δ'.length = δ.length ∧ ∀ i, M i = false → δ'[i]? = δ[i]?
theorem Off.refl {M : Own} {δ : Env} : Off M δ δ := ⟨rfl, fun _ _ => rfl⟩
theorem Off.trans {M : Own} {δ δ1 δ2 : Env} (a : Off M δ δ1) (b : Off M δ1 δ2) : Off M δ δ2 := ⟨b.1.trans a.1, fun i h => (b.2 i h).trans (a.2 i h)⟩
abbrev Res := W × Bool × Env
abbrev Den := Own → Env → Option Res
abbrev DenA := Own → Env → Option (List W × Bool × Env)
abbrev DenT := Own → Env → Option (Bool × Env)
structure Sd (K : PySem.W.Frag) (t : TE) (f : Den) : Prop where
  off : ∀ {M δ r}, f M δ = some r → Off M δ r.2.2
  run : ∀ {M G H φ σ δ r}, Sta K M G H φ σ δ → f M δ = some r → ∀ Q, Post K M G H φ σ r.1 r.2.1 r.2.2 Q → t σ H Q
def PostA (K : PySem.W.Frag) (M : Own) (G H : Hp) (φ : Nat → List Addr) (σ : L2.St) (ws : List W) (fr : Bool) (δ' : Env) (Q : List V → Hp → Prop) : Prop :=
  ∀ vs G' H' φ' A, Sta K M G' H' φ' σ δ' → Evo M G H φ M G' H' φ' → Rps K G' ws vs A → (fr = true → Fresh G G' A) → Q vs H'
structure Sa (K : PySem.W.Frag) (t : TA) (f : DenA) : Prop where
  off : ∀ {M δ r}, f M δ = some r → Off M δ r.2.2
  run : ∀ {M G H φ σ δ r}, Sta K M G H φ σ δ → f M δ = some r → ∀ Q, PostA K M G H φ σ r.1 r.2.1 r.2.2 Q → t σ H Q
def PostT (K : PySem.W.Frag) (M : Own) (G H : Hp) (φ : Nat → List Addr) (σ : L2.St) (b : Bool) (δ' : Env) (Q : Bool → Hp → Prop) : Prop :=
  ∀ G' H' φ', Sta K M G' H' φ' σ δ' → Evo M G H φ M G' H' φ' → Q b H'
structure Sb (K : PySem.W.Frag) (t : TT) (f : DenT) : Prop where
  off : ∀ {M δ r}, f M δ = some r → Off M δ r.2
  run : ∀ {M G H φ σ δ r}, Sta K M G H φ σ δ → f M δ = some r → ∀ Q, PostT K M G H φ σ r.1 r.2 Q → t σ H Q
def dVar (i : Nat) : Den := fun M δ => match δ[i]? with
  | some (some w) => if M i && !w.imm then none else some (w, w.imm, δ)
  | _ => none
def dC (w : W) : Den := fun _ δ => some (w, w.imm, δ)
/-- a name that is read for the last time: a list's owner goes over -/
def dMv (i : Nat) : Den := fun M δ => match δ[i]? with
  | some (some w) => if w.imm then some (w, true, δ) else if M i then some (w, true, δ.set i none) else none
  | _ => none
section
variable {K : PySem.W.Frag}
theorem sd_var (i : Nat) : Sd K (tVar i) (dVar i) := by
  refine ⟨fun {M δ r} h => ?_, fun {M G H φ σ δ r} s h Q P => ?_⟩
  · unfold dVar at h
    split at h
    · split at h
      · cases h
      · cases h; exact Off.refl
    · cases h
  · unfold dVar at h
    split at h
    · rename_i w e
      split at h
      · cases h
      · rename_i c
        cases h
        by_cases hm : M i = true
        · have im : w.imm = true := by
            rw [hm] at c
            simpa using c
          obtain ⟨v, e1, r⟩ := s.own i w hm e
          have ea := Rp.imm w v _ im r
          rw [ea] at r
          have r' : Rp K G w v [] := Rp.frame (G := H) s.tk w v [] (fun _ z => nomatch z) r
          exact ⟨v, e1, P.scal s r'⟩
        · obtain ⟨v, A, e1, r⟩ := s.non i w (by simpa using hm) e
          exact ⟨v, e1, P.here s r fun im => by
            rw [Rp.imm w v A im r]
            exact Fresh.nil⟩
    · cases h
end
end Dv
set_option Elab.async false
set_option linter.all false
set_option maxRecDepth 100000
set_option maxHeartbeats 4000000
namespace Dv
open PySem PySem.Spec PyProof.Rows L2
mutual
def W.py : W → PyData
  | .non => .none
  | .bl b => .bool b
  | .int i => .int i
  | .str x => .str x
  | .tup ws => .tuple (W.pys ws)
  | .lst ws => .list (W.pys ws)
  | .fl ws => .list (W.pys ws)
  | .dk _ _ => .dict []
  | .dt _ _ => .dict []
  | .ins _ _ _ => .dict []
  | .fk _ _ => .dict []
  | .fd _ _ => .dict []
  | .hole _ => .dict []
def W.pys : List W → List PyData
  | [] => []
  | w :: ws => w.py :: W.pys ws
end
mutual
def W.plain : W → Bool
  | .tup ws => W.plains ws
  | .lst ws => W.plains ws
  | .fl ws => W.plains ws
  | .dk _ _ => false
  | .dt _ _ => false
  | .ins _ _ _ => false
  | .fk _ _ => false
  | .fd _ _ => false
  | .hole _ => false
  | _ => true
def W.plains : List W → Bool
  | [] => true
  | w :: ws => w.plain && W.plains ws
end
theorem W.pys_map : ∀ ws : List W, W.pys ws = ws.map W.py
  | [] => by unfold W.pys; rfl
  | w :: ws => by unfold W.pys; rw [W.pys_map ws]; rfl
section
variable {K : PySem.W.Frag} {G H : Hp}
mutual
theorem Rp.dp : ∀ (w : W) (v : V) (A : List Addr), w.plain = true → Rp K G w v A → Dp K G v w.py
  | .non, _, _, _, h => by unfold Rp at h; unfold W.py; rw [h.1]; exact .non
  | .bl _, _, _, _, h => by unfold Rp at h; unfold W.py; rw [h.1]; exact .bl _
  | .int _, _, _, _, h => by unfold Rp at h; unfold W.py; rw [h.1]; exact .int _
  | .str _, _, _, _, h => by unfold Rp at h; unfold W.py; rw [h.1]; exact .str _
  | .tup ws, v, A, p, h => by
    unfold Rp at h
    unfold W.plain at p
    unfold W.py
    obtain ⟨a, vs, rfl, q, r⟩ := h
    exact .tup (SqT.of q) (Rps.dp ws vs A p r)
  | .lst ws, v, A, p, h => by
    unfold Rp at h
    unfold W.plain at p
    unfold W.py
    obtain ⟨a, vs, B, rfl, q, _, r⟩ := h
    exact .lst (.inl (.inl q)) (Rps.dp ws vs B p r)
  | .fl ws, v, A, p, h => by
    unfold Rp at h
    unfold W.plain at p
    unfold W.py
    obtain ⟨a, vs, rfl, q, r⟩ := h
    exact .lst q.sq (Rps.dp ws vs A p r)
  | .dk _ _, _, _, p, _ => by unfold W.plain at p; cases p
  | .dt _ _, _, _, p, _ => by unfold W.plain at p; cases p
  | .ins _ _ _, _, _, p, _ => by unfold W.plain at p; cases p
  | .fk _ _, _, _, p, _ => by unfold W.plain at p; cases p
  | .fd _ _, _, _, p, _ => by unfold W.plain at p; cases p
  | .hole _, _, _, p, _ => by unfold W.plain at p; cases p
theorem Rps.dp : ∀ (ws : List W) (vs : List V) (A : List Addr), W.plains ws = true → Rps K G ws vs A → DpAll K G vs (W.pys ws)
  | [], _, _, _, h => by unfold Rps at h; unfold W.pys; rw [h.1]; exact .nil
  | w :: ws, vs, A, p, h => by
    unfold Rps at h
    unfold W.plains at p
    unfold W.pys
    obtain ⟨p1, p2⟩ := Bool.and_eq_true_iff.mp p
    obtain ⟨v, vr, B, C, rfl, _, h1, h2⟩ := h
    exact .cons (Rp.dp w v B p1 h1) (Rps.dp ws vr C p2 h2)
end
end
section
variable {K : PySem.W.Frag}
theorem off_set {M : Own} {δ : Env} {i : Nat} {x : Option W} (h : M i = true) : Off M δ (δ.set i x) := ⟨List.length_set, fun j hj => by
  have : i ≠ j := fun e => by rw [e, hj] at h; cases h
  rw [List.getElem?_set_ne this]⟩
theorem sd_c {v : V} {w : W} (h : ∀ H, Rp K H w v []) (i : w.imm = true := by rfl) : Sd K (tC v) (dC w) := by
  refine ⟨fun {M δ r} h => ?_, fun {M G H φ σ δ r} s e Q P => ?_⟩
  · unfold dC at h
    cases h
    exact Off.refl
  · unfold dC at e
    cases e
    exact P.scal s (h G)
theorem sd_int (i : Int) : Sd K (tC (.int i)) (dC (.int i)) := sd_c fun H => by unfold Rp; exact ⟨rfl, rfl⟩
theorem sd_bl (b : Bool) : Sd K (tC (.bl b)) (dC (.bl b)) := sd_c fun H => by unfold Rp; exact ⟨rfl, rfl⟩
theorem sd_non : Sd K (tC .non) (dC .non) := sd_c fun H => by unfold Rp; exact ⟨rfl, rfl⟩
theorem sd_str (x : Str) : Sd K (tC (.str x)) (dC (.str x)) := sd_c fun H => by unfold Rp; exact ⟨rfl, rfl⟩
/-- an owner's slot is given up -/
theorem Sta.drop {M : Own} {G H : Hp} {φ : Nat → List Addr} {σ : L2.St} {δ : Env} {i : Nat} {w : W} {v : V} (s : Sta K M G H φ σ δ) (hm : M i = true) (e : δ[i]? = some (some w)) (hv : σ[i]? = some (some v)) (r : Rp K H w v (φ i)) :
    ∃ G' φ', Sta K M G' H φ' σ (δ.set i none) ∧ Evo M G H φ M G' H φ' ∧ Rp K G' w v (φ i) ∧ Fresh G G' (φ i) := by
  classical
  let G' : Hp := fun a => if a ∈ φ i then H a else G a
  let φ' : Nat → List Addr := fun j => if j = i then [] else φ j
  have ex : Ex G G' := fun a o h => by
    show (if a ∈ φ i then H a else G a) = some o
    split
    · exact s.sub a o h
    · exact h
  have sub' : Ex G' H := fun a o h => by
    have h' : (if a ∈ φ i then H a else G a) = some o := h
    split at h'
    · exact h'
    · exact s.sub a o h'
  have tp0 : ∀ a o, H a = some o → ¬ Mut (some o) → G' a = some o := fun a o h n => ex a o (s.tup a o h n)
  have tp : TupK K H G' := .of tp0
  have tb0 : Tb K M G' H φ' := fun q hq => by
    obtain ⟨t1, t2, t3⟩ := s.tb q hq
    refine ⟨?_, fun j hj hz => ?_, t3⟩
    · show (if q.2.1 ∈ φ i then H q.2.1 else G q.2.1) = none
      rw [if_neg (t2 i hm)]
      exact t1
    · have hz' : q.2.1 ∈ (if j = i then [] else φ j) := hz
      split at hz'
      · cases hz'
      · exact t2 j hj hz'
  have rr : Rp K G' w v (φ i) := Rp.frame tp w v _ (fun a ha o h => by
    show (if a ∈ φ i then H a else G a) = some o
    rw [if_pos ha]
    exact h) r
  refine ⟨G', φ', ⟨sub', fun j hj a ha => ?_, fun j hj a ha => ?_, fun j hj => ?_, fun j k hj hk n a ha => ?_, fun j x hj q => ?_, fun j x hj q => ?_, by rw [List.length_set]; exact s.len, tp0, tb0⟩, ⟨ex, fun a o h _ _ => h, fun _ ps h => ⟨ps, h⟩, fun a o h h' => ?_, fun j hj a ha => ?_⟩, rr, s.nd i hm, fun a ha => ⟨s.sep i hm a ha, ?_⟩⟩
  · have ha' : a ∈ (if j = i then [] else φ j) := ha
    split at ha'
    · cases ha'
    · rename_i n
      show (if a ∈ φ i then H a else G a) = none
      rw [if_neg (s.dis j i hj hm n a ha')]
      exact s.sep j hj a ha'
  · have ha' : a ∈ (if j = i then [] else φ j) := ha
    split at ha'
    · cases ha'
    · exact s.mt j hj a ha'
  · show (if j = i then [] else φ j).Nodup
    split
    · exact List.nodup_nil
    · exact s.nd j hj
  · have ha' : a ∈ (if j = i then [] else φ j) := ha
    show a ∉ (if k = i then [] else φ k)
    split at ha'
    · cases ha'
    · split
      · exact fun z => nomatch z
      · exact s.dis j k hj hk n a ha'
  · by_cases c : i = j
    · subst c
      have li : i < δ.length := (List.getElem?_eq_some_iff.mp e).1
      rw [List.getElem?_set_self li] at q
      cases q
    · rw [List.getElem?_set_ne c] at q
      obtain ⟨v', e1, r1⟩ := s.own j x hj q
      refine ⟨v', e1, ?_⟩
      show Rp K H x v' (if j = i then [] else φ j)
      rw [if_neg (fun z => c z.symm)]
      exact r1
  · have c : i ≠ j := fun z => by rw [z, hj] at hm; cases hm
    rw [List.getElem?_set_ne c] at q
    obtain ⟨v', A, e1, r1⟩ := s.non j x hj q
    exact ⟨v', A, e1, r1.mono ex⟩
  · have h2 : (if a ∈ φ i then H a else G a) = some o := h'
    split at h2
    · rename_i c
      exact .inr ⟨i, hm, c⟩
    · rw [h] at h2
      cases h2
  · have ha' : a ∈ (if j = i then [] else φ j) := ha
    split at ha'
    · cases ha'
    · exact .inr ⟨j, hj, ha'⟩
  · show Mut (if a ∈ φ i then H a else G a)
    rw [if_pos ha]
    exact s.mt i hm a ha
theorem sd_mv (i : Nat) : Sd K (tVar i) (dMv i) := by
  refine ⟨fun {M δ r} h => ?_, fun {M G H φ σ δ r} s h Q P => ?_⟩
  · unfold dMv at h
    split at h
    · split at h
      · cases h; exact Off.refl
      · split at h
        · rename_i c
          cases h
          exact off_set c
        · cases h
    · cases h
  · unfold dMv at h
    split at h
    · rename_i w e
      split at h
      · rename_i im
        cases h
        by_cases hm : M i = true
        · obtain ⟨v, e1, r⟩ := s.own i w hm e
          have ea := Rp.imm w v _ im r
          rw [ea] at r
          exact ⟨v, e1, P.scal s (Rp.frame (G := H) s.tk w v [] (fun _ z => nomatch z) r)⟩
        · obtain ⟨v, A, e1, r⟩ := s.non i w (by simpa using hm) e
          have ea := Rp.imm w v _ im r
          rw [ea] at r
          exact ⟨v, e1, P.scal s r⟩
      · split at h
        · rename_i hm
          cases h
          obtain ⟨v, e1, r⟩ := s.own i w hm e
          obtain ⟨G', φ', s', ev, r', f⟩ := s.drop hm e e1 r
          exact ⟨v, e1, P v G' H φ' _ s' ev r' fun _ => f⟩
        · cases h
    · cases h
/-- an operation by values -/
def R2W (K : PySem.W.Frag) (r : R2) (k : W → W → Option (W × Bool)) : Prop :=
  ∀ {M G H φ σ δ w1 w2 v1 v2 A1 A2 w fr}, Sta K M G H φ σ δ → Rp K G w1 v1 A1 → Rp K G w2 v2 A2 → k w1 w2 = some (w, fr) → ∀ Q : VK, Post K M G H φ σ w fr δ Q → r v1 v2 H Q
def dOp (k : W → W → Option (W × Bool)) (f g : Den) : Den := fun M δ => (f M δ).bind fun r1 => (g M r1.2.2).bind fun r2 => (k r1.1 r2.1).map fun x => (x.1, x.2, r2.2.2)
theorem sd_op {r : R2} {k : W → W → Option (W × Bool)} {ta tb : TE} {f g : Den} (hr : R2W K r k) (ha : Sd K ta f) (hb : Sd K tb g) : Sd K (tOp r ta tb) (dOp k f g) := by
  refine ⟨fun {M δ r} h => ?_, fun {M G H φ σ δ r} s h Q P => ?_⟩
  · unfold dOp at h
    obtain ⟨r1, h1, h⟩ := Option.bind_eq_some_iff.mp h
    obtain ⟨r2, h2, h⟩ := Option.bind_eq_some_iff.mp h
    obtain ⟨x, h3, h⟩ := Option.map_eq_some_iff.mp h
    have o1 := ha.off h1
    have o2 := hb.off h2
    cases h
    exact o1.trans o2
  · unfold dOp at h
    obtain ⟨r1, h1, h⟩ := Option.bind_eq_some_iff.mp h
    obtain ⟨r2, h2, h⟩ := Option.bind_eq_some_iff.mp h
    obtain ⟨⟨w, fr⟩, h3, h⟩ := Option.map_eq_some_iff.mp h
    cases h
    refine ha.run s h1 _ fun v1 G1 H1 φ1 A1 s1 e1 q1 _ => ?_
    refine hb.run s1 h2 _ fun v2 G2 H2 φ2 A2 s2 e2 q2 _ => ?_
    exact hr s2 (q1.mono e2.ex) q2 h3 Q (P.after (e1.trans e2))
def R1W (K : PySem.W.Frag) (r : V → Hp → VK → Prop) (k : W → Option (W × Bool)) : Prop :=
  ∀ {M G H φ σ δ w1 v1 A1 w fr}, Sta K M G H φ σ δ → Rp K G w1 v1 A1 → k w1 = some (w, fr) → ∀ Q : VK, Post K M G H φ σ w fr δ Q → r v1 H Q
def dUn (k : W → Option (W × Bool)) (f : Den) : Den := fun M δ => (f M δ).bind fun r1 => (k r1.1).map fun x => (x.1, x.2, r1.2.2)
theorem sd_un {r : V → Hp → VK → Prop} {k : W → Option (W × Bool)} {ta : TE} {f : Den} (hr : R1W K r k) (ha : Sd K ta f) : Sd K (tUn r ta) (dUn k f) := by
  refine ⟨fun {M δ r} h => ?_, fun {M G H φ σ δ r} s h Q P => ?_⟩
  · unfold dUn at h
    obtain ⟨r1, h1, h⟩ := Option.bind_eq_some_iff.mp h
    obtain ⟨x, h3, h⟩ := Option.map_eq_some_iff.mp h
    have o1 := ha.off h1
    cases h
    exact o1
  · unfold dUn at h
    obtain ⟨r1, h1, h⟩ := Option.bind_eq_some_iff.mp h
    obtain ⟨⟨w, fr⟩, h3, h⟩ := Option.map_eq_some_iff.mp h
    cases h
    exact ha.run s h1 _ fun v1 G1 H1 φ1 A1 s1 e1 q1 _ => hr s1 q1 h3 Q (P.after e1)
def aNil : DenA := fun _ δ => some ([], true, δ)
def aCons (f : Den) (g : DenA) : DenA := fun M δ => (f M δ).bind fun r1 => (g M r1.2.2).map fun r2 => (r1.1 :: r2.1, r1.2.1 && r2.2.1, r2.2.2)
theorem sa_nil : Sa K tNil aNil := by
  refine ⟨fun {M δ r} h => ?_, fun {M G H φ σ δ r} s h Q P => ?_⟩
  · unfold aNil at h
    cases h
    exact Off.refl
  · unfold aNil at h
    cases h
    exact P [] G H φ [] s Evo.refl Rps.nil fun _ => Fresh.nil
theorem sa_cons {ta : TE} {tr : TA} {f : Den} {g : DenA} (ha : Sd K ta f) (hr : Sa K tr g) : Sa K (tCons ta tr) (aCons f g) := by
  refine ⟨fun {M δ r} h => ?_, fun {M G H φ σ δ r} s h Q P => ?_⟩
  · unfold aCons at h
    obtain ⟨r1, h1, h⟩ := Option.bind_eq_some_iff.mp h
    obtain ⟨r2, h2, h⟩ := Option.map_eq_some_iff.mp h
    have o1 := ha.off h1
    have o2 := hr.off h2
    cases h
    exact o1.trans o2
  · unfold aCons at h
    obtain ⟨r1, h1, h⟩ := Option.bind_eq_some_iff.mp h
    obtain ⟨r2, h2, h⟩ := Option.map_eq_some_iff.mp h
    cases h
    refine ha.run s h1 _ fun v1 G1 H1 φ1 A1 s1 e1 q1 f1 => ?_
    refine hr.run s1 h2 _ fun vs G2 H2 φ2 A2 s2 e2 q2 f2 => ?_
    refine P (v1 :: vs) G2 H2 φ2 (A1 ++ A2) s2 (e1.trans e2) (Rps.cons (q1.mono e2.ex) q2) fun c => ?_
    obtain ⟨c1, c2⟩ := Bool.and_eq_true_iff.mp c
    exact Fresh.append e1.ex e2.ex (f1 c1) (Rp.fp _ _ _ q1) (f2 c2)
abbrev LIM : Nat := 1000000
theorem lim_line {n : Nat} (h : n ≤ LIM) : n ≤ sizeLine := Nat.le_trans h (by decide)
theorem lim_lt {n : Nat} (h : n ≤ LIM) : n < sizeLine := Nat.lt_of_le_of_lt h (by decide)
def dTup (g : DenA) : Den := fun M δ => (g M δ).bind fun r => if r.1.length ≤ LIM then some (.tup r.1, r.2.1, r.2.2) else none
def dLst (g : DenA) : Den := fun M δ => (g M δ).bind fun r => if r.1.length ≤ LIM then some (.lst r.1, r.2.1, r.2.2) else none
theorem sd_tup {t : TA} {g : DenA} (h : Sa K t g) : Sd K (tTup t) (dTup g) := by
  refine ⟨fun {M δ r} e => ?_, fun {M G H φ σ δ r} s e Q P => ?_⟩
  · unfold dTup at e
    obtain ⟨r1, h1, e⟩ := Option.bind_eq_some_iff.mp e
    split at e
    · cases e; exact h.off h1
    · cases e
  · unfold dTup at e
    obtain ⟨r1, h1, e⟩ := Option.bind_eq_some_iff.mp e
    split at e
    · rename_i hl
      cases e
      refine h.run s h1 _ fun vs G1 H1 φ1 A1 s1 e1 q1 f1 => ⟨lim_line (by rw [← q1.len]; exact hl), fun p hp => ?_⟩
      have hg := s1.sub.back hp
      refine P (.ref p) _ _ φ1 A1 (s1.laid hp) (e1.trans (Evo.laid s1.sub hp)) ?_ fun c => (f1 c).mono (Ex.new hg) (Rps.fp _ _ _ q1)
      unfold Rp
      exact ⟨p, vs, rfl, upd_same, q1.mono (Ex.new hg)⟩
    · cases e
theorem fresh_cons {G G1 : Hp} {p : Addr} {A : List Addr} {vs : List V} (e : Ex G G1) (hg : G1 p = none) (f : Fresh G G1 A) (s : ∀ a ∈ A, ∃ o, G1 a = some o) : Fresh G (upd G1 p (.lst vs)) (p :: A) := by
  refine ⟨List.nodup_cons.mpr ⟨fun h => ?_, f.1⟩, fun a ha => ?_⟩
  · obtain ⟨o, q⟩ := s p h
    rw [hg] at q
    cases q
  · rcases List.mem_cons.mp ha with rfl | ha
    · exact ⟨e.back hg, by rw [upd_same]; trivial⟩
    · exact (f.mono (Ex.new hg) s).2 a ha
theorem sd_lst {t : TA} {g : DenA} (h : Sa K t g) : Sd K (tLst t) (dLst g) := by
  refine ⟨fun {M δ r} e => ?_, fun {M G H φ σ δ r} s e Q P => ?_⟩
  · unfold dLst at e
    obtain ⟨r1, h1, e⟩ := Option.bind_eq_some_iff.mp e
    split at e
    · cases e; exact h.off h1
    · cases e
  · unfold dLst at e
    obtain ⟨r1, h1, e⟩ := Option.bind_eq_some_iff.mp e
    split at e
    · rename_i hl
      cases e
      refine h.run s h1 _ fun vs G1 H1 φ1 A1 s1 e1 q1 f1 => ⟨lim_line (by rw [← q1.len]; exact hl), fun p hp => ?_⟩
      have hg := s1.sub.back hp
      refine P (.ref p) _ _ φ1 (p :: A1) (s1.laid hp) (e1.trans (Evo.laid s1.sub hp)) ?_ fun c => fresh_cons e1.ex hg (f1 c) (Rps.fp _ _ _ q1)
      unfold Rp
      exact ⟨p, vs, A1, rfl, upd_same, rfl, q1.mono (Ex.new hg)⟩
    · cases e
abbrev RC := List V → Hp → VK → Prop
def RCW (K : PySem.W.Frag) (r : RC) (k : List W → Option (W × Bool)) : Prop :=
  ∀ {M G H φ σ δ ws vs A w fr}, Sta K M G H φ σ δ → Rps K G ws vs A → k ws = some (w, fr) → ∀ Q : VK, Post K M G H φ σ w fr δ Q → r vs H Q
def dCb (k : List W → Option (W × Bool)) (g : DenA) : Den := fun M δ => (g M δ).bind fun r1 => (k r1.1).map fun x => (x.1, x.2, r1.2.2)
theorem sd_cb {r : RC} {k : List W → Option (W × Bool)} {t : TA} {g : DenA} (hr : RCW K r k) (ha : Sa K t g) : Sd K (tCB r t) (dCb k g) := by
  refine ⟨fun {M δ r} h => ?_, fun {M G H φ σ δ r} s h Q P => ?_⟩
  · unfold dCb at h
    obtain ⟨r1, h1, h⟩ := Option.bind_eq_some_iff.mp h
    obtain ⟨x, h3, h⟩ := Option.map_eq_some_iff.mp h
    have o1 := ha.off h1
    cases h
    exact o1
  · unfold dCb at h
    obtain ⟨r1, h1, h⟩ := Option.bind_eq_some_iff.mp h
    obtain ⟨⟨w, fr⟩, h3, h⟩ := Option.map_eq_some_iff.mp h
    cases h
    exact ha.run s h1 _ fun v1 G1 H1 φ1 A1 s1 e1 q1 _ => hr s1 q1 h3 Q (P.after e1)
def bTest (f : Den) : DenT := fun M δ => (f M δ).bind fun r => match r.1 with
  | .bl b => some (b, r.2.2)
  | _ => none
theorem sb_of {te : TE} {tt : TT} {f : Den} (ha : Sd K te f) (h : ∀ σ H Q, te σ H (fun x H1 => ∃ k, x = .bl k ∧ Q k H1) → tt σ H Q) : Sb K tt (bTest f) := by
  refine ⟨fun {M δ r} e => ?_, fun {M G H φ σ δ r} s e Q P => ?_⟩
  · unfold bTest at e
    obtain ⟨r1, h1, e⟩ := Option.bind_eq_some_iff.mp e
    have o1 := ha.off h1
    split at e
    · cases e; exact o1
    · cases e
  · unfold bTest at e
    obtain ⟨⟨w, fr, δ'⟩, h1, e⟩ := Option.bind_eq_some_iff.mp e
    split at e
    · rename_i b eb
      cases e
      have eb' : w = .bl b := eb
      subst eb'
      refine h σ H Q (ha.run s h1 _ fun v1 G1 H1 φ1 A1 s1 e1 q1 _ => ?_)
      unfold Rp at q1
      exact ⟨b, q1.1, P G1 H1 φ1 s1 e1⟩
    · cases e
theorem sb_test {te : TE} {f : Den} (ha : Sd K te f) : Sb K (tTest te) (bTest f) := sb_of ha fun _ _ _ h => h
theorem sb_b {te : TE} {f : Den} (ha : Sd K te f) : Sb K (tB te) (bTest f) := sb_of ha fun _ _ _ h => h
def bAnd (f g : DenT) : DenT := fun M δ => (f M δ).bind fun r => if r.1 then g M r.2 else some (false, r.2)
def bOr (f g : DenT) : DenT := fun M δ => (f M δ).bind fun r => if r.1 then some (true, r.2) else g M r.2
def bNot (f : DenT) : DenT := fun M δ => (f M δ).map fun r => (!r.1, r.2)
theorem sb_and {t u : TT} {f g : DenT} (ha : Sb K t f) (hb : Sb K u g) : Sb K (tAnd t u) (bAnd f g) := by
  refine ⟨fun {M δ r} e => ?_, fun {M G H φ σ δ r} s e Q P => ?_⟩
  · unfold bAnd at e
    obtain ⟨r1, h1, e⟩ := Option.bind_eq_some_iff.mp e
    have o1 := ha.off h1
    split at e
    · exact o1.trans (hb.off e)
    · cases e; exact o1
  · unfold bAnd at e
    obtain ⟨⟨b, δ1⟩, h1, e⟩ := Option.bind_eq_some_iff.mp e
    refine ha.run s h1 _ fun G1 H1 φ1 s1 e1 => ?_
    cases b with
    | true => exact hb.run s1 e Q fun G2 H2 φ2 s2 e2 => P G2 H2 φ2 s2 (e1.trans e2)
    | false => cases e; exact P G1 H1 φ1 s1 e1
theorem sb_or {t u : TT} {f g : DenT} (ha : Sb K t f) (hb : Sb K u g) : Sb K (tOr t u) (bOr f g) := by
  refine ⟨fun {M δ r} e => ?_, fun {M G H φ σ δ r} s e Q P => ?_⟩
  · unfold bOr at e
    obtain ⟨r1, h1, e⟩ := Option.bind_eq_some_iff.mp e
    have o1 := ha.off h1
    split at e
    · cases e; exact o1
    · exact o1.trans (hb.off e)
  · unfold bOr at e
    obtain ⟨⟨b, δ1⟩, h1, e⟩ := Option.bind_eq_some_iff.mp e
    refine ha.run s h1 _ fun G1 H1 φ1 s1 e1 => ?_
    cases b with
    | true => cases e; exact P G1 H1 φ1 s1 e1
    | false => exact hb.run s1 e Q fun G2 H2 φ2 s2 e2 => P G2 H2 φ2 s2 (e1.trans e2)
theorem sb_not {t : TT} {f : DenT} (ha : Sb K t f) : Sb K (tNot t) (bNot f) := by
  refine ⟨fun {M δ r} e => ?_, fun {M G H φ σ δ r} s e Q P => ?_⟩
  · unfold bNot at e
    obtain ⟨r1, h1, e⟩ := Option.map_eq_some_iff.mp e
    have o1 := ha.off h1
    cases e
    exact o1
  · unfold bNot at e
    obtain ⟨⟨b, δ1⟩, h1, e⟩ := Option.map_eq_some_iff.mp e
    cases e
    exact ha.run s h1 _ fun G1 H1 φ1 s1 e1 => P G1 H1 φ1 s1 e1
def bYes : DenT := fun _ δ => some (true, δ)
theorem sb_yes : Sb K tYes bYes := by
  refine ⟨fun {M δ r} e => ?_, fun {M G H φ σ δ r} s e Q P => ?_⟩
  · unfold bYes at e; cases e; exact Off.refl
  · unfold bYes at e; cases e; exact P G H φ s Evo.refl
/-- a if c else b -/
def dIf (c : DenT) (f g : Den) : Den := fun M δ => (c M δ).bind fun r => if r.1 then f M r.2 else g M r.2
theorem sd_if {t : TT} {ta tb : TE} {c : DenT} {f g : Den} (hc : Sb K t c) (ha : Sd K ta f) (hb : Sd K tb g) : Sd K (tIf t ta tb) (dIf c f g) := by
  refine ⟨fun {M δ r} e => ?_, fun {M G H φ σ δ r} s e Q P => ?_⟩
  · unfold dIf at e
    obtain ⟨r1, h1, e⟩ := Option.bind_eq_some_iff.mp e
    have o1 := hc.off h1
    split at e
    · exact o1.trans (ha.off e)
    · exact o1.trans (hb.off e)
  · unfold dIf at e
    obtain ⟨⟨b, δ1⟩, h1, e⟩ := Option.bind_eq_some_iff.mp e
    refine hc.run s h1 _ fun G1 H1 φ1 s1 e1 => ?_
    cases b with
    | true => exact ha.run s1 e Q (P.after e1)
    | false => exact hb.run s1 e Q (P.after e1)
/-- and, or, not as values (truth values) -/
def dAnd (f g : Den) : Den := fun M δ => (f M δ).bind fun r => match r.1 with
  | .bl true => g M r.2.2
  | .bl false => some (.bl false, true, r.2.2)
  | _ => none
def dOr (f g : Den) : Den := fun M δ => (f M δ).bind fun r => match r.1 with
  | .bl true => some (.bl true, true, r.2.2)
  | .bl false => g M r.2.2
  | _ => none
def dNot (f : Den) : Den := fun M δ => (f M δ).bind fun r => match r.1 with
  | .bl b => some (.bl (!b), true, r.2.2)
  | _ => none
theorem rp_bl {G : Hp} {b : Bool} : Rp K G (.bl b) (.bl b) [] := by unfold Rp; exact ⟨rfl, rfl⟩
theorem rp_int {G : Hp} {i : Int} : Rp K G (.int i) (.int i) [] := by unfold Rp; exact ⟨rfl, rfl⟩
theorem rp_str {G : Hp} {x : Str} : Rp K G (.str x) (.str x) [] := by unfold Rp; exact ⟨rfl, rfl⟩
theorem rp_non {G : Hp} : Rp K G .non .non [] := by unfold Rp; exact ⟨rfl, rfl⟩
theorem sd_and {ta tb : TE} {f g : Den} (ha : Sd K ta f) (hb : Sd K tb g) : Sd K (tAndV ta tb) (dAnd f g) := by
  refine ⟨fun {M δ r} e => ?_, fun {M G H φ σ δ r} s e Q P => ?_⟩
  · unfold dAnd at e
    obtain ⟨r1, h1, e⟩ := Option.bind_eq_some_iff.mp e
    have o1 := ha.off h1
    split at e
    · exact o1.trans (hb.off e)
    · cases e; exact o1
    · cases e
  · unfold dAnd at e
    obtain ⟨⟨w, fr, δ1⟩, h1, e⟩ := Option.bind_eq_some_iff.mp e
    refine ha.run s h1 _ fun v1 G1 H1 φ1 A1 s1 e1 q1 _ => ?_
    split at e
    · rename_i eb
      have eb' : w = .bl true := eb
      subst eb'
      unfold Rp at q1
      exact ⟨true, q1.1, hb.run s1 e Q (P.after e1)⟩
    · rename_i eb
      have eb' : w = .bl false := eb
      subst eb'
      cases e
      unfold Rp at q1
      exact ⟨false, q1.1, (P.after e1).scal s1 rp_bl⟩
    · cases e
theorem sd_or {ta tb : TE} {f g : Den} (ha : Sd K ta f) (hb : Sd K tb g) : Sd K (tOrV ta tb) (dOr f g) := by
  refine ⟨fun {M δ r} e => ?_, fun {M G H φ σ δ r} s e Q P => ?_⟩
  · unfold dOr at e
    obtain ⟨r1, h1, e⟩ := Option.bind_eq_some_iff.mp e
    have o1 := ha.off h1
    split at e
    · cases e; exact o1
    · exact o1.trans (hb.off e)
    · cases e
  · unfold dOr at e
    obtain ⟨⟨w, fr, δ1⟩, h1, e⟩ := Option.bind_eq_some_iff.mp e
    refine ha.run s h1 _ fun v1 G1 H1 φ1 A1 s1 e1 q1 _ => ?_
    split at e
    · rename_i eb
      have eb' : w = .bl true := eb
      subst eb'
      cases e
      unfold Rp at q1
      exact ⟨true, q1.1, (P.after e1).scal s1 rp_bl⟩
    · rename_i eb
      have eb' : w = .bl false := eb
      subst eb'
      unfold Rp at q1
      exact ⟨false, q1.1, hb.run s1 e Q (P.after e1)⟩
    · cases e
theorem sd_not {ta : TE} {f : Den} (ha : Sd K ta f) : Sd K (tNotV ta) (dNot f) := by
  refine ⟨fun {M δ r} e => ?_, fun {M G H φ σ δ r} s e Q P => ?_⟩
  · unfold dNot at e
    obtain ⟨r1, h1, e⟩ := Option.bind_eq_some_iff.mp e
    have o1 := ha.off h1
    split at e
    · cases e; exact o1
    · cases e
  · unfold dNot at e
    obtain ⟨⟨w, fr, δ1⟩, h1, e⟩ := Option.bind_eq_some_iff.mp e
    refine ha.run s h1 _ fun v1 G1 H1 φ1 A1 s1 e1 q1 _ => ?_
    split at e
    · rename_i b eb
      have eb' : w = .bl b := eb
      subst eb'
      cases e
      unfold Rp at q1
      exact ⟨b, q1.1, (P.after e1).scal s1 rp_bl⟩
    · cases e
/-- a < b < c -/
def dChain (k k' : W → W → Option (W × Bool)) (f g h : Den) : Den := fun M δ => (f M δ).bind fun r1 => (g M r1.2.2).bind fun r2 => (k r1.1 r2.1).bind fun x => match x.1 with
  | .bl true => (h M r2.2.2).bind fun r3 => (k' r2.1 r3.1).map fun y => (y.1, y.2, r3.2.2)
  | .bl false => some (.bl false, true, r2.2.2)
  | _ => none
theorem sd_chain {r r' : R2} {k k' : W → W → Option (W × Bool)} {ta tb tc : TE} {f g h : Den} (hr : R2W K r k) (hr' : R2W K r' k') (ha : Sd K ta f) (hb : Sd K tb g) (hc : Sd K tc h) : Sd K (tChain r r' ta tb tc) (dChain k k' f g h) := by
  refine ⟨fun {M δ r} e => ?_, fun {M G H φ σ δ r} s e Q P => ?_⟩
  · unfold dChain at e
    obtain ⟨r1, h1, e⟩ := Option.bind_eq_some_iff.mp e
    obtain ⟨r2, h2, e⟩ := Option.bind_eq_some_iff.mp e
    obtain ⟨x, h3, e⟩ := Option.bind_eq_some_iff.mp e
    have o1 := ha.off h1
    have o2 := hb.off h2
    split at e
    · obtain ⟨r3, h4, e⟩ := Option.bind_eq_some_iff.mp e
      obtain ⟨y, h5, e⟩ := Option.map_eq_some_iff.mp e
      have o3 := hc.off h4
      cases e
      exact (o1.trans o2).trans o3
    · cases e; exact o1.trans o2
    · cases e
  · unfold dChain at e
    obtain ⟨r1, h1, e⟩ := Option.bind_eq_some_iff.mp e
    obtain ⟨r2, h2, e⟩ := Option.bind_eq_some_iff.mp e
    obtain ⟨⟨x, fx⟩, h3, e⟩ := Option.bind_eq_some_iff.mp e
    refine ha.run s h1 _ fun v1 G1 H1 φ1 A1 s1 e1 q1 _ => ?_
    refine hb.run s1 h2 _ fun v2 G2 H2 φ2 A2 s2 e2 q2 _ => ?_
    refine hr s2 (q1.mono e2.ex) q2 h3 _ fun v3 G3 H3 φ3 A3 s3 e3 q3 _ => ?_
    split at e
    · rename_i eb
      have eb' : x = .bl true := eb
      subst eb'
      unfold Rp at q3
      obtain ⟨r3, h4, e⟩ := Option.bind_eq_some_iff.mp e
      obtain ⟨⟨y, fy⟩, h5, e⟩ := Option.map_eq_some_iff.mp e
      cases e
      refine ⟨true, q3.1, ?_⟩
      rw [if_pos rfl]
      refine hc.run s3 h4 _ fun v4 G4 H4 φ4 A4 s4 e4 q4 _ => ?_
      exact hr' s4 (q2.mono (e3.ex.trans e4.ex)) q4 h5 Q (P.after (((e1.trans e2).trans e3).trans e4))
    · rename_i eb
      have eb' : x = .bl false := eb
      subst eb'
      unfold Rp at q3
      cases e
      refine ⟨false, q3.1, ?_⟩
      rw [if_neg Bool.false_ne_true]
      exact (P.after ((e1.trans e2).trans e3)).scal s3 rp_bl
    · cases e
end
end Dv
set_option Elab.async false
set_option linter.all false
set_option maxRecDepth 100000
set_option maxHeartbeats 4000000
namespace DvR
open PySem PySem.Spec PyProof.Rows L2 PySem.W
theorem noFill_tuple_mul : fillsNumberSlot (.type "tuple") "mul" = pure false :=
  PySem.fillsNumberSlot_seq (id := "tuple.__mul__") (r := some (.builtin "tuple.__rmul__")) F.slot_tuple_mul.lookup (by decide +kernel) F.slot_tuple_rmul.lookup (by decide +kernel)
theorem repeat_tuple : seqRepeat? (.type "tuple") = pure (some (.builtin "tuple.__mul__")) := by
  unfold seqRepeat?
  rw [PySem.seqSlot_of (T := "tuple") (name := "__mul__") (id := "tuple.__mul__") F.slot_tuple_mul.lookup (by decide +kernel), PySem.seqSlot_of (T := "tuple") (name := "__rmul__") (id := "tuple.__rmul__") F.slot_tuple_rmul.lookup (by decide +kernel)]
  rfl
theorem int___rmul___int_tuple (a : Int) (t : Tok) (l : Addr) (items : Array Value) (n : Nat) (dd : Option Addr) (sl : Array (Option Value)) :
    Meets (Builtin.«int.__rmul__» ⟨[.int a t, .ref l], []⟩) (fun _ R s => s.heap.get? l = some { cls := .type "tuple", dict := dd, data := .seq items n, slots := sl } ∧ R (.ok (.ret Value.notImplemented)) s) :=
  .of_wp fun prog w A R s h => by obtain ⟨hp, g, d, tk, os⟩ := s; obtain ⟨hl, h⟩ := h; wp_walk; exact ⟨_, rfl, h⟩
theorem tuple_mul_same (l : Addr) (items : Array Value) (n : Nat) (dd : Option Addr) (sl : Array (Option Value)) (k : Int) (u : Tok) (hlo : -2 ^ 63 ≤ k) (hhi : k < 2 ^ 63) (hc : (items.isEmpty || k == 1) = true) :
    Meets (Builtin.«tuple.__mul__» ⟨[.ref l, .int k u], []⟩) (fun _ R s => s.heap.get? l = some { cls := .type "tuple", dict := dd, data := .seq items n, slots := sl } ∧ R (.ok (.ret (.ref l))) s) :=
  .of_wp fun prog w A R s h => by
    obtain ⟨hp, g, d, tk, os⟩ := s; obtain ⟨hl, h⟩ := h
    have f1 := AutoSeq1.idx_int
    have hf : ¬ (decide (k < -2 ^ 63) || decide (k ≥ 2 ^ 63)) = true := by simp; omega
    wp_walk using wpAny_loadPart' hl
    refine wpAny_ite_false (by simp; omega) ?_
    wp_walk using wpAny_loadPart' hl
    exact ⟨_, rfl, h⟩
theorem tuple_mul_new (l : Addr) (items : Array Value) (n : Nat) (dd : Option Addr) (sl : Array (Option Value)) (k : Int) (u : Tok) (hlo : -2 ^ 63 ≤ k) (hhi : k < 2 ^ 63) (hc : (items.isEmpty || k == 1) = false) (hz : items.size * k.toNat ≤ 2 ^ 23) :
    Meets (Builtin.«tuple.__mul__» ⟨[.ref l, .int k u], []⟩) (fun _ R s => s.heap.get? l = some { cls := .type "tuple", dict := dd, data := .seq items n, slots := sl } ∧
      R (.ok (.ret (.ref s.heap.objs.size))) { s with heap := s.heap.push { cls := .type "tuple", data := .seq ((List.replicate k.toNat items).foldl (· ++ ·) #[]) } }) :=
  .of_wp fun prog w A R s h => by
    obtain ⟨hp, g, d, tk, os⟩ := s; obtain ⟨hl, h⟩ := h
    have f1 := AutoSeq1.idx_int
    have hf : ¬ (decide (k < -2 ^ 63) || decide (k ≥ 2 ^ 63)) = true := by simp; omega
    wp_walk using wpAny_loadPart' hl
    refine wpAny_ite_false (by simp; omega) ?_
    wp_walk using wpAny_loadPart' hl
    have hz1 : ((List.replicate k.toNat items).foldl (· ++ ·) #[]).size ≤ sizeLine := by
      have e : ∀ (m : Nat) (acc : Array Value), ((List.replicate m items).foldl (· ++ ·) acc).size = acc.size + items.size * m := by
        intro m
        induction m with
        | zero => intro acc; simp
        | succ m ih =>
          intro acc
          rw [List.replicate_succ, List.foldl_cons, ih, Array.size_append, Nat.mul_succ]
          omega
      rw [e, sizeLine_eq]
      simp
      omega
    by_cases hk0 : k ≤ 0
    · refine wpAny_ite_true (by simp [hk0]) ?_
      have e0 : k.toNat = 0 := by omega
      rw [e0] at h
      wp_walk
      exact ⟨_, rfl, h⟩
    · refine wpAny_ite_false (by
        rw [Bool.or_eq_false_iff] at hc
        simp [hk0, hc.1]) ?_
      have hm : (items.size : Int) * k ≤ 2 ^ 23 := by
        have : (items.size : Int) * k = ((items.size * k.toNat : Nat) : Int) := by
          rw [Int.natCast_mul, Int.toNat_of_nonneg (by omega)]
        rw [this]
        omega
      refine wpAny_ite_false (decide_eq_false (by
        have e : ((2 ^ 63 - 1) / 8 : Int) = 1152921504606846975 := by decide
        rw [e]
        omega)) ?_
      have hs : (sizeLine : Int) = 16777216 := by rw [sizeLine_eq]; rfl
      refine wpAny_ite_false (decide_eq_false (by
        unfold Builtin.Tuple.tupleTooMany
        have : ¬ ((items.size : Int) * k > (sizeLine : Int)) := by omega
        rw [decide_eq_false this]
        exact Bool.false_ne_true)) ?_
      wp_walk
      exact ⟨_, rfl, h⟩
section
variable {X : Cx}
/-- t * k: itself where t is empty or k is 1 -/
def rRepT (K : PySem.W.Frag) : R2 := fun x y H Q => ∃ l k xs, x = .ref l ∧ y = .int k ∧ SqT K H l xs ∧ -(2 ^ 63) ≤ k ∧ k < 2 ^ 63 ∧ xs.length * k.toNat ≤ 2 ^ 23 ∧
  ((xs = [] ∨ k = 1) → Q (.ref l) H) ∧ (¬ (xs = [] ∨ k = 1) → ∀ p, H p = none → Q (.ref p) (upd H p (.tup (List.replicate k.toNat xs).flatten)))
theorem op_repT : OpR X (binaryOp .Mult) (rRepT X.K) := by
  intro pins s σ H x y v u Q I rx ry h
  obtain ⟨l, k, xs, rfl, rfl, hH, h1, h2, hz, q1, q2⟩ := h
  cases rx
  obtain ⟨t, rfl⟩ := ry
  obtain ⟨its, r, ht, z⟩ := I.tuple hH
  obtain ⟨⟨cls, dd, data, sl⟩, ho, hc, n, hd⟩ := id ht
  simp only at hc hd
  subst hc hd
  have hlen : its.toArray.size = xs.length := by rw [List.size_toArray]; exact r.length.symm
  have emp : its.toArray.isEmpty = true ↔ xs = [] := by
    rw [← r.nil_iff]
    simp
  by_cases c : xs = [] ∨ k = 1
  · have hc : (its.toArray.isEmpty || k == 1) = true := by
      rcases c with c | c
      · rw [emp.mpr c]; rfl
      · rw [c]; simp
    refine wpAny_binaryOp_repeat_ref (T := "tuple") (U := "int") (by decide) ⟨_, ho, rfl⟩ (fun s' => typeIs_int s' k t) noFill_tuple_mul F.fills_int_mul F.slot_int_rmul repeat_tuple F.slot_int_index.lookup
      (call_meets F.slot_int_rmul (typeIs_int s k t) F.entry_int_rmul (F.args_int_rmul_2 _ _) (int___rmul___int_tuple k t l its.toArray n dd sl)
        ⟨ho, rfl, ⟨_, ho, rfl⟩, call_meets F.slot_tuple_mul ⟨_, ho, rfl⟩ F.entry_tuple_mul (F.args_tuple_mul_2 _ _) (tuple_mul_same l its.toArray n dd sl k t h1 h2 hc) ⟨ho, ?_⟩⟩)
    exact ⟨.ref l, H, I, rfl, q1 c⟩
  · have hc : (its.toArray.isEmpty || k == 1) = false := by
      rw [not_or] at c
      rw [Bool.or_eq_false_iff]
      exact ⟨Bool.eq_false_iff.mpr fun e => c.1 (emp.mp e), by simpa using c.2⟩
    refine wpAny_binaryOp_repeat_ref (T := "tuple") (U := "int") (by decide) ⟨_, ho, rfl⟩ (fun s' => typeIs_int s' k t) noFill_tuple_mul F.fills_int_mul F.slot_int_rmul repeat_tuple F.slot_int_index.lookup
      (call_meets F.slot_int_rmul (typeIs_int s k t) F.entry_int_rmul (F.args_int_rmul_2 _ _) (int___rmul___int_tuple k t l its.toArray n dd sl)
        ⟨ho, rfl, ⟨_, ho, rfl⟩, call_meets F.slot_tuple_mul ⟨_, ho, rfl⟩ F.entry_tuple_mul (F.args_tuple_mul_2 _ _) (tuple_mul_new l its.toArray n dd sl k t h1 h2 hc (by rw [hlen]; exact hz)) ⟨ho, ?_⟩⟩)
    have e : (List.replicate k.toNat its.toArray).foldl (· ++ ·) #[] = (List.replicate k.toNat its).flatten.toArray := by
      have := foldl_rep its k.toNat []
      rw [List.nil_append] at this
      exact this
    rw [e]
    refine ⟨.ref s.heap.objs.size, _, I.laid (t' := s.toks) (o := .tup (List.replicate k.toNat xs).flatten) (fun b ob q => Heap.get?_push_of_some _ q) (Nat.le_refl _) ?_, rfl, q2 c _ I.fresh⟩
    refine ⟨?_, _, r.rep k.toNat, IsTup.new _ _⟩
    rw [PyProof.Rows.lm_len_rep_flat, Nat.mul_comm, sizeLine_eq]
    omega
/-- () + t -/
def rCatT0 (K : PySem.W.Frag) : R2 := fun x y H Q => ∃ a b ys, x = .ref a ∧ y = .ref b ∧ SqT K H a [] ∧ SqT K H b ys ∧ Q (.ref b) H
theorem op_catT0 : OpR X (binaryOp .Add) (rCatT0 X.K) := by
  intro pins s σ H x y v u Q I rx ry h
  obtain ⟨a, b, ys, rfl, rfl, ha, hb, q⟩ := h
  cases rx
  cases ry
  obtain ⟨its, r1, p1, _⟩ := I.tuple ha
  obtain ⟨its2, r2, p2, _⟩ := I.tuple hb
  obtain ⟨⟨cls, dd, data, sl⟩, ho, hc, n, hd⟩ := id p1
  obtain ⟨⟨cls2, dd2, data2, sl2⟩, ho2, hc2, n2, hd2⟩ := id p2
  simp only at hc hd hc2 hd2
  subst hc hd hc2 hd2
  have e0 : its = [] := r1.nil_iff.mpr rfl
  subst e0
  exact concat_meets ⟨_, ho, rfl⟩ ⟨_, ho2, rfl⟩ noFill_tuple_add seq_tuple_add PySem.F.slot_tuple_add PySem.F.entry_tuple_add (PySem.F.args_tuple_add_2 _ _)
      (PyProof.Rows.tuple_addW0 a b #[] its2.toArray n n2 dd dd2 sl sl2 rfl) ⟨ho, ho2, ⟨.ref b, H, I, rfl, q⟩⟩
theorem getItem_tuple_whole {prog : Program} {w : World} {A : Around} {E : Value → Shared → Prop} {s : Shared} {t sl : Addr} {items : Array Value} {vl vu : Value} {lo hi : Option Int} {Q : Value → Shared → Prop} (ht : IsTup s.heap t items) (hs : s.heap.IsSliceOf sl vl vu .none) (pl : IsPart vl lo) (pu : IsPart vu hi)
    (hw : HT.sIx items.size 0 lo = 0 ∧ HT.sIx items.size items.size hi = items.size)
    (h : Q (.ref t) s) : wpAny (model prog w) A (getItem (.ref t) (.ref sl)) Q E s := by
  obtain ⟨os, hos, hcs, hds⟩ := id hs
  have hTs : s.TypeIs (.ref sl) "slice" := ⟨os, hos, hcs⟩
  unfold getItem
  try with_reducible refine wpAny_holding ?_
  first | refine wpAny_bind (wpAny_pure ?_) | skip
  refine wpAny_bind (wpAny_sequenceKey ht.typeIs (by decide) ?_)
  refine wpAny_bind (wpAny_callSpecial?_slot (name := Str.ofString "__getitem__") ht.typeIs PyProof.Rows.slot_tuple_getitem
    (wpAny_call_entry PyProof.Rows.slot_tuple_getitem ht.typeIs PyProof.Rows.entry_tuple_getitem ?_ (args_tuple_getitem _ _)))
  show wpAny _ _ (Builtin.Tuple.tupleItemsOf (.ref t) >>= _) _ _ s
  refine wpAny_bind (tupleItemsOf_ ht ?_)
  refine wpAny_bind (wpAny_typeOf hTs ?_)
  rw [if_pos (by decide)]
  refine wpAny_bind (HT.sliceApplied_gen hs pl pu ?_)
  have hyes : ((((HT.sIx items.size 0 lo : Nat) : Int) == 0 && (1 : Int) == 1 && (HT.sIx items.size items.size hi - HT.sIx items.size 0 lo) == items.size) = true) := by
    rw [hw.1, hw.2]
    simp
  show wpAny _ _ (if (((HT.sIx items.size 0 lo : Nat) : Int) == 0 && (1 : Int) == 1 && (HT.sIx items.size items.size hi - HT.sIx items.size 0 lo) == items.size) = true then _ else _) _ _ s
  rw [if_pos hyes]
  unfold Builtin.Tuple.tupleIsExact
  refine wpAny_bind (wpAny_bind (wpAny_typeOf ht.typeIs (wpAny_pure ?_)))
  rw [if_pos (by decide)]
  wp_walk
  exact ⟨_, rfl, wpAny_pure h⟩
def rSlT2 (K : PySem.W.Frag) : V → Option Int → Option Int → Hp → VK → Prop := fun x lo hi H Q => ∃ a xs, x = .ref a ∧ SqT K H a xs ∧
  ((cutV xs lo hi = xs → Q (.ref a) H) ∧ ∀ p, H p = none → Q (.ref p) (upd H p (.tup (cutV xs lo hi))))
theorem sl_tup2 : SlR X (rSlT2 X.K) := by
  intro pins s σ H x v vl vu lo hi sl Q I rx hs pl pu h
  obtain ⟨a, xs, rfl, hx, q1, q2⟩ := h
  by_cases c : HT.sIx xs.length 0 lo = 0 ∧ HT.sIx xs.length xs.length hi = xs.length
  · cases rx
    obtain ⟨its, r, ht, hz⟩ := I.tuple hx
    have hlen : its.toArray.size = xs.length := by rw [List.size_toArray]; exact r.length.symm
    refine ⟨"tuple", _, PyProof.Rows.slot_tuple_getitem.lookup, ht.typeIs, ?_⟩
    refine getItem_tuple_whole ht hs pl pu (by rw [hlen]; exact c) ⟨.ref a, H, I, rfl, q1 ?_⟩
    unfold cutV
    rw [c.1, c.2, List.drop_zero, Nat.sub_zero, List.take_length]
  · exact sl_tup pins s σ H _ v vl vu lo hi sl Q I rx hs pl pu ⟨a, xs, rfl, hx, c, q2⟩
def rCmpD (K : PySem.W.Frag) (g : PyData → PyData → Bool) : R2 := fun x y H Q => ∃ d e, Dp K H x d ∧ Dp K H y e ∧ alike d e = true ∧ d ≠ .none ∧ d.depth ≤ 64 ∧ Q (.bl (g d e)) H
theorem room_dp {A : Around} {d e : PyData} (h : d.depth ≤ 64) (hu : A.units + 64 < cLine) : A.units + min d.depth e.depth < cLine := by
  have : min d.depth e.depth ≤ d.depth := Nat.min_le_left _ _
  omega
theorem op_ltD (hu : X.A.units + 64 < cLine) : OpR X (compareOp .Lt) (rCmpD X.K dataLt) := by
  intro pins s σ H x y v u Q I rx ry h
  obtain ⟨d, e, hd, he, al, nn, dp, q⟩ := h
  obtain ⟨as, r1⟩ := Dp.reads I d x v hd rx
  obtain ⟨bs, r2⟩ := Dp.reads I e y u he ry
  exact lt_data r1 r2 al nn (room_dp dp hu) ⟨.bl _, H, I, rfl, q⟩
theorem op_gtD (hu : X.A.units + 64 < cLine) : OpR X (compareOp .Gt) (rCmpD X.K fun d e => dataLt e d) := by
  intro pins s σ H x y v u Q I rx ry h
  obtain ⟨d, e, hd, he, al, nn, dp, q⟩ := h
  obtain ⟨as, r1⟩ := Dp.reads I d x v hd rx
  obtain ⟨bs, r2⟩ := Dp.reads I e y u he ry
  exact gt_data r1 r2 al nn (room_dp dp hu) ⟨.bl _, H, I, rfl, q⟩
theorem op_leD (hu : X.A.units + 64 < cLine) : OpR X (compareOp .LtE) (rCmpD X.K fun d e => !dataLt e d) := by
  intro pins s σ H x y v u Q I rx ry h
  obtain ⟨d, e, hd, he, al, nn, dp, q⟩ := h
  obtain ⟨as, r1⟩ := Dp.reads I d x v hd rx
  obtain ⟨bs, r2⟩ := Dp.reads I e y u he ry
  exact le_data r1 r2 al nn (room_dp dp hu) ⟨.bl _, H, I, rfl, q⟩
theorem op_geD (hu : X.A.units + 64 < cLine) : OpR X (compareOp .GtE) (rCmpD X.K fun d e => !dataLt d e) := by
  intro pins s σ H x y v u Q I rx ry h
  obtain ⟨d, e, hd, he, al, nn, dp, q⟩ := h
  obtain ⟨as, r1⟩ := Dp.reads I d x v hd rx
  obtain ⟨bs, r2⟩ := Dp.reads I e y u he ry
  exact ge_data r1 r2 al nn (room_dp dp hu) ⟨.bl _, H, I, rfl, q⟩
def rInD (K : PySem.W.Frag) (neg : Bool) : R2 := fun x y H Q => ∃ d es, Dp K H x d ∧ (Dp K H y (.list es) ∨ Dp K H y (.tuple es)) ∧ PyData.canLayAll0 es = true ∧ d.canLay0 = true ∧ d.depth ≤ 63 ∧ Q (.bl (if neg then !es.any (fun z => PyData.eqv z d) else es.any (fun z => PyData.eqv z d))) H
theorem room_in {A : Around} {d : PyData} {n : Nat} (h : d.depth ≤ 63) (hu : A.units + 64 < cLine) : A.units + 1 + min n d.depth < cLine := by
  have : min n d.depth ≤ d.depth := Nat.min_le_right _ _
  omega
theorem op_inD (hu : X.A.units + 64 < cLine) : OpR X (compareOp .In) (rInD X.K false) := by
  intro pins s σ H x y v u Q I rx ry h
  obtain ⟨d, es, hd, he, c1, c2, dp, q⟩ := h
  obtain ⟨as, r1⟩ := Dp.reads I d x v hd rx
  rcases he with he | he
  · obtain ⟨bs, r2⟩ := Dp.reads I _ y u he ry
    exact SeqAt.in_list_reads r2 r1 c1 c2 (room_in dp hu) ⟨.bl _, H, I, rfl, q⟩
  · obtain ⟨bs, r2⟩ := Dp.reads I _ y u he ry
    exact SeqAt.in_tuple_reads r2 r1 c1 c2 (room_in dp hu) ⟨.bl _, H, I, rfl, q⟩
theorem op_notInD (hu : X.A.units + 64 < cLine) : OpR X (compareOp .NotIn) (rInD X.K true) := by
  intro pins s σ H x y v u Q I rx ry h
  obtain ⟨d, es, hd, he, c1, c2, dp, q⟩ := h
  obtain ⟨as, r1⟩ := Dp.reads I d x v hd rx
  rcases he with he | he
  · obtain ⟨bs, r2⟩ := Dp.reads I _ y u he ry
    exact SeqAt.notIn_list_reads r2 r1 c1 c2 (room_in dp hu) ⟨.bl _, H, I, rfl, q⟩
  · obtain ⟨bs, r2⟩ := Dp.reads I _ y u he ry
    exact SeqAt.notIn_tuple_reads r2 r1 c1 c2 (room_in dp hu) ⟨.bl _, H, I, rfl, q⟩
mutual
theorem dp_noDict {K : PySem.W.Frag} {H : Hp} : ∀ (d : PyData) (v : V), Dp K H v d → d.hasDict = false
  | .none, _, _ => by unfold PyData.hasDict; rfl
  | .bool _, _, _ => by unfold PyData.hasDict; rfl
  | .int _, _, _ => by unfold PyData.hasDict; rfl
  | .str _, _, _ => by unfold PyData.hasDict; rfl
  | .list ds, _, h => by
    cases h with
    | lst _ ha => unfold PyData.hasDict; exact dp_noDicts ds _ ha
  | .tuple ds, _, h => by
    cases h with
    | tup _ ha => unfold PyData.hasDict; exact dp_noDicts ds _ ha
  | .dict _, _, h => by cases h
theorem dp_noDicts {K : PySem.W.Frag} {H : Hp} : ∀ (ds : List PyData) (vs : List V), DpAll K H vs ds → PyData.hasDictAll ds = false
  | [], _, _ => by unfold PyData.hasDictAll; rfl
  | d :: ds, _, h => by
    cases h with
    | cons h1 h2 =>
      unfold PyData.hasDictAll
      rw [dp_noDict d _ h1, dp_noDicts ds _ h2]
      rfl
end
def rReprD (K : PySem.W.Frag) : List V → Hp → VK → Prop := fun xs H Q => ∃ x d, xs = [x] ∧ Dp K H x d ∧ d.showable = true ∧ d.depth ≤ 60 ∧ d.shown.length ≤ sizeLine ∧ Q (.str d.shown) H
theorem call_reprD (hg : X.A.guards = some []) (hu : X.A.units + 64 < cLine) : CallR X (.builtin "repr") (rReprD X.K) := by
  intro pins s σ H xs us Q I r h
  obtain ⟨x, d, rfl, hd, sh, dp, sz, q⟩ := h
  obtain ⟨u, rfl, ru⟩ := vals1 r
  obtain ⟨as, rd⟩ := Dp.reads I d x u hd ru
  have fin : ∀ h' t tk, (∀ b o, s.heap.get? b = some o → h'.get? b = some o) → EP X pins σ Q (.str d.shown t) { s with heap := h', toks := tk } := fun h' t tk hk => ⟨.str _, H, I.kept (t' := tk) hk, ⟨_, rfl⟩, q⟩
  cases hd with
  | non => cases ru; simp only [PyData.shown] at fin; exact PySem.P.repr_of_none (fin s.heap _ _ fun _ _ e => e)
  | bl b => cases ru; simp only [PyData.shown] at fin; exact PySem.P.repr_of_bool (fin s.heap _ _ fun _ _ e => e)
  | int i => obtain ⟨t, rfl⟩ := ru; simp only [PyData.shown] at fin; exact PySem.P.repr_of_int (by simpa [PyData.showable] using sh) (fin s.heap _ _ fun _ _ e => e)
  | str z => obtain ⟨t, rfl⟩ := ru; simp only [PyData.shown] at fin sz; exact PySem.P.repr_of_str (fin s.heap _ _ fun _ _ e => e) sz
  | lst hs ha => cases ru; exact repr_of_reads' rd sh (fun z => by rw [dp_noDict _ _ (.lst hs ha)] at z; cases z) hg (by omega) (fun _ _ e => e) fin sz
  | tup hs ha => cases ru; exact repr_of_reads' rd sh (fun z => by rw [dp_noDict _ _ (.tup hs ha)] at z; cases z) hg (by omega) (fun _ _ e => e) fin sz
end
end DvR
set_option Elab.async false
set_option linter.all false
set_option maxRecDepth 100000
set_option maxHeartbeats 4000000
namespace Dv
open PySem PySem.Spec PyProof.Rows L2 DvR
section
variable {K : PySem.W.Frag} {M : Own} {G H : Hp} {φ : Nat → List Addr} {σ : L2.St} {δ : Env} {w : W} {fr : Bool} {Q : VK}
theorem Post.obs {v : V} {A : List Addr} (P : Post K M G H φ σ w fr δ Q) (s : Sta K M G H φ σ δ) (r : Rp K G w v A) (i : fr = true → w.imm = true) : Q v H := P.here s r fun h => by
  rw [Rp.imm w v A (i h) r]
  exact Fresh.nil
theorem Post.newT {p : Addr} {ws : List W} {vs : List V} {A : List Addr} (P : Post K M G H φ σ (.tup ws) fr δ Q) (s : Sta K M G H φ σ δ) (hp : H p = none) (r : Rps K G ws vs A) (i : fr = true → W.imms ws = true) : Q (.ref p) (upd H p (.tup vs)) := by
  have hg := s.sub.back hp
  refine P.laid s hp (A := A) ?_ fun h => ?_
  · unfold Rp
    exact ⟨p, vs, rfl, upd_same, r.mono (Ex.new hg)⟩
  · rw [Rps.imm ws vs A (i h) r]
    exact Fresh.nil
theorem Post.newL {p : Addr} {ws : List W} {vs : List V} {A : List Addr} (P : Post K M G H φ σ (.lst ws) fr δ Q) (s : Sta K M G H φ σ δ) (hp : H p = none) (r : Rps K G ws vs A) (i : fr = true → W.imms ws = true) : Q (.ref p) (upd H p (.lst vs)) := by
  have hg := s.sub.back hp
  refine P.laid s hp (A := p :: A) ?_ fun h => ?_
  · unfold Rp
    exact ⟨p, vs, A, rfl, upd_same, rfl, r.mono (Ex.new hg)⟩
  · rw [Rps.imm ws vs A (i h) r]
    exact ⟨List.nodup_cons.mpr ⟨(fun z => nomatch z), List.nodup_nil⟩, fun a ha => by
      have e : a = p := by simpa using ha
      subst e
      exact ⟨hg, by rw [upd_same]; trivial⟩⟩
end
section
variable {K : PySem.W.Frag}
theorem R2W.or {r r' : R2} {k k' : W → W → Option (W × Bool)} (h : R2W K r k) (h' : R2W K r' k') : R2W K (fun x y H Q => r x y H Q ∨ r' x y H Q) (fun a b => (k a b).or (k' a b)) := by
  intro M G H φ σ δ w1 w2 v1 v2 A1 A2 w fr s q1 q2 e Q P
  cases e1 : k w1 w2 with
  | some z =>
    have e1' : (k w1 w2).or (k' w1 w2) = some (w, fr) := e
    rw [e1] at e1'
    rw [Option.some_or] at e1'
    exact .inl (h s q1 q2 (e1.trans e1') Q P)
  | none =>
    have e1' : (k w1 w2).or (k' w1 w2) = some (w, fr) := e
    rw [e1, Option.none_or] at e1'
    exact .inr (h' s q1 q2 e1' Q P)
theorem R2W.inl {r r' : R2} {k : W → W → Option (W × Bool)} (h : R2W K r k) : R2W K (fun x y H Q => r x y H Q ∨ r' x y H Q) k :=
  fun s q1 q2 e Q P => .inl (h s q1 q2 e Q P)
def kInt (C : Int → Int → Bool) (g : Int → Int → W) : W → W → Option (W × Bool)
  | .int i, .int j => if C i j then some (g i j, true) else none
  | _, _ => none
theorem r2_int {C : Int → Int → Prop} {c : Int → Int → Bool} {g : Int → Int → V} {gw : Int → Int → W} (hc : ∀ i j, c i j = true → C i j) (hg : ∀ G i j, Rp K G (gw i j) (g i j) []) : R2W K (rI C g) (kInt c gw) := by
  intro M G H φ σ δ w1 w2 v1 v2 A1 A2 w fr s q1 q2 e Q P
  unfold kInt at e
  split at e
  · rename_i i j
    split at e
    · rename_i ec
      cases e
      unfold Rp at q1 q2
      exact ⟨i, j, q1.1, q2.1, hc i j ec, P.scal s (hg G i j)⟩
    · cases e
  · cases e
def kInt0 (g : Int → Int → W) : W → W → Option (W × Bool)
  | .int i, .int j => some (g i j, true)
  | _, _ => none
theorem r2_int0 {g : Int → Int → V} {gw : Int → Int → W} (hg : ∀ G i j, Rp K G (gw i j) (g i j) []) : R2W K (rI0 g) (kInt0 gw) := by
  intro M G H φ σ δ w1 w2 v1 v2 A1 A2 w fr s q1 q2 e Q P
  unfold kInt0 at e
  split at e
  · rename_i i j
    cases e
    unfold Rp at q1 q2
    exact ⟨i, j, q1.1, q2.1, P.scal s (hg G i j)⟩
  · cases e
abbrev kISub := kInt0 fun i j => .int (i - j)
theorem w_sub : R2W K (rI0 fun i j => .int (i - j)) kISub := r2_int0 fun _ _ _ => rp_int
def cDiv (i j : Int) : Bool := decide (j ≠ 0) && decide (j.natAbs < 1073741824)
abbrev kFdiv := kInt cDiv fun i j => .int (i.fdiv j)
theorem w_fdiv : R2W K (rI CDivN fun i j => .int (i.fdiv j)) kFdiv := r2_int (fun i j h => by
  unfold cDiv at h
  obtain ⟨h1, h2⟩ := Bool.and_eq_true_iff.mp h
  exact ⟨of_decide_eq_true h1, of_decide_eq_true h2⟩) fun _ _ _ => rp_int
abbrev kMod := kInt (fun _ j => decide (j ≠ 0)) fun i j => .int (i.fmod j)
theorem w_mod : R2W K (rI (fun _ j => j ≠ 0) fun i j => .int (i.fmod j)) kMod := r2_int (fun i j h => of_decide_eq_true h) fun _ _ _ => rp_int
def cPow (i j : Int) : Bool := decide (0 ≤ j) && decide (j ≤ 1000000) && decide (i.natAbs < 2 ^ 64)
theorem cPow_ok {i j : Int} (h : cPow i j = true) : CPow i j := by
  unfold cPow at h
  obtain ⟨h1, h3⟩ := Bool.and_eq_true_iff.mp h
  obtain ⟨h1, h2⟩ := Bool.and_eq_true_iff.mp h1
  exact ⟨of_decide_eq_true h1, of_decide_eq_true h2, of_decide_eq_true h3⟩
abbrev kPow := kInt cPow fun i j => .int (i ^ j.toNat)
theorem w_pow : R2W K (rI CPow fun i j => .int (i ^ j.toNat)) kPow := r2_int (fun _ _ h => cPow_ok h) fun _ _ _ => rp_int
abbrev kBAnd := kInt0 fun i j => .int (Builtin.bitAnd i j)
abbrev kBOr := kInt0 fun i j => .int (Builtin.bitOr i j)
def rAddW (K : PySem.W.Frag) : R2 := fun x y H Q => rI0 (fun i j => .int (i + j)) x y H Q ∨ ((∃ i j, x = .str i ∧ y = .str j ∧ i.length + j.length ≤ sizeLine ∧ Q (.str (i ++ j)) H) ∨ (rCatT K x y H Q ∨ (rCatT0 K x y H Q ∨ rCat x y H Q)))
theorem op_addW {X : Cx} : OpR X (binaryOp .Add) (rAddW X.K) := op_add.or (op_add_str.or (op_catT.or (op_catT0.or op_cat)))
def kAdd : W → W → Option (W × Bool)
  | .int i, .int j => some (.int (i + j), true)
  | .str x, .str y => if x.length + y.length ≤ LIM then some (.str (x ++ y), true) else none
  | .tup xs, .tup ys => if xs.length + ys.length ≤ LIM then some (.tup (xs ++ ys), W.imms xs && W.imms ys) else none
  | .lst xs, .lst ys => if xs.length + ys.length ≤ LIM then some (.lst (xs ++ ys), W.imms xs && W.imms ys) else none
  | _, _ => none
theorem imms_cons (w : W) (ws : List W) : W.imms (w :: ws) = (w.imm && W.imms ws) := by rw [W.imms]
theorem imms_append : ∀ xs ys : List W, W.imms (xs ++ ys) = (W.imms xs && W.imms ys)
  | [], ys => by simp [W.imms]
  | x :: xs, ys => by
    rw [List.cons_append, imms_cons, imms_cons, imms_append xs ys, Bool.and_assoc]
theorem w_add : R2W K (rAddW K) kAdd := by
  intro M G H φ σ δ w1 w2 v1 v2 A1 A2 w fr s q1 q2 e Q P
  unfold kAdd at e
  split at e
  · rename_i i j
    cases e
    unfold Rp at q1 q2
    exact .inl ⟨i, j, q1.1, q2.1, P.scal s rp_int⟩
  · rename_i x y
    split at e
    · rename_i hl
      cases e
      unfold Rp at q1 q2
      exact .inr (.inl ⟨x, y, q1.1, q2.1, lim_line hl, P.scal s rp_str⟩)
    · cases e
  · rename_i xs ys
    split at e
    · rename_i hl
      cases e
      unfold Rp at q1 q2
      obtain ⟨a, vs, rfl, ha, r1⟩ := q1
      obtain ⟨b, us, rfl, hb, r2⟩ := q2
      have ra := Rps.append r1 r2
      have im : W.imms (xs ++ ys) = (W.imms xs && W.imms ys) := imms_append xs ys
      by_cases c : vs = []
      · subst c
        refine .inr (.inr (.inr (.inl ⟨a, b, us, rfl, rfl, (SqT.of (s.sub _ _ ha)), (SqT.of (s.sub _ _ hb)), ?_⟩)))
        refine P.obs s (A := A2) ?_ fun h => ?_
        · unfold Rp
          have e0 : xs = [] := by
            have := r1.len
            simpa using this
          subst e0
          exact ⟨b, us, rfl, hb, r2⟩
        · unfold W.imm
          rw [im]
          exact h
      · refine .inr (.inr (.inl ⟨a, b, vs, us, rfl, rfl, (SqT.of (s.sub _ _ ha)), (SqT.of (s.sub _ _ hb)), c, lim_line (by rw [← r1.len, ← r2.len]; exact hl), fun c2 => ?_, fun c2 p hp => ?_⟩))
        · subst c2
          refine P.obs s (A := A1) ?_ fun h => ?_
          · unfold Rp
            have e0 : ys = [] := by
              have := r2.len
              simpa using this
            subst e0
            rw [List.append_nil]
            exact ⟨a, vs, rfl, ha, r1⟩
          · unfold W.imm
            rw [im]
            exact h
        · exact P.newT s hp ra fun h => by rw [im]; exact h
    · cases e
  · rename_i xs ys
    split at e
    · rename_i hl
      cases e
      unfold Rp at q1 q2
      obtain ⟨a, vs, B1, rfl, ha, _, r1⟩ := q1
      obtain ⟨b, us, B2, rfl, hb, _, r2⟩ := q2
      refine .inr (.inr (.inr (.inr ⟨a, b, vs, us, rfl, rfl, s.sub _ _ ha, s.sub _ _ hb, lim_line (by rw [← r1.len, ← r2.len]; exact hl), fun p hp => ?_⟩)))
      exact P.newL s hp (Rps.append r1 r2) fun h => by rw [imms_append]; exact h
    · cases e
  · cases e
def cMul (i j : Int) : Bool := (decide (-(2 ^ 64) < i) && decide (i < 2 ^ 64)) || (decide (-(2 ^ 64) < j) && decide (j < 2 ^ 64))
theorem cMul_ok {i j : Int} (h : cMul i j = true) : CMul i j := by
  unfold cMul at h
  rcases Bool.or_eq_true_iff.mp h with h | h
  · obtain ⟨h1, h2⟩ := Bool.and_eq_true_iff.mp h
    exact .inl ⟨of_decide_eq_true h1, of_decide_eq_true h2⟩
  · obtain ⟨h1, h2⟩ := Bool.and_eq_true_iff.mp h
    exact .inr ⟨of_decide_eq_true h1, of_decide_eq_true h2⟩
def rMulW (K : PySem.W.Frag) : R2 := fun x y H Q => rI CMul (fun i j => .int (i * j)) x y H Q ∨ (rRep x y H Q ∨ rRepT K x y H Q)
theorem op_mulW2 {X : Cx} : OpR X (binaryOp .Mult) (rMulW X.K) := op_mul.or (op_rep.or op_repT)
def cRep (n : Nat) (k : Int) : Bool := decide (-(2 ^ 63) ≤ k) && decide (k < 2 ^ 63) && decide (n * k.toNat ≤ LIM)
def kMul : W → W → Option (W × Bool)
  | .int i, .int j => if cMul i j then some (.int (i * j), true) else none
  | .lst xs, .int k => if cRep xs.length k && W.imms xs then some (.lst (List.replicate k.toNat xs).flatten, true) else none
  | .tup xs, .int k => if cRep xs.length k && W.imms xs then some (.tup (List.replicate k.toNat xs).flatten, true) else none
  | _, _ => none
theorem rps_rep {G : Hp} {ws : List W} {vs : List V} (r : Rps K G ws vs []) : ∀ k : Nat, Rps K G (List.replicate k ws).flatten (List.replicate k vs).flatten []
  | 0 => by simpa using Rps.nil
  | k + 1 => by
    rw [List.replicate_succ, List.replicate_succ, List.flatten_cons, List.flatten_cons]
    have := Rps.append r (rps_rep r k)
    simpa using this
theorem imms_rep {ws : List W} (h : W.imms ws = true) : ∀ k : Nat, W.imms (List.replicate k ws).flatten = true
  | 0 => by simp [W.imms]
  | k + 1 => by
    rw [List.replicate_succ, List.flatten_cons, imms_append, h, imms_rep h k]
    rfl
theorem cRep_ok {n : Nat} {k : Int} (h : cRep n k = true) : -(2 ^ 63) ≤ k ∧ k < 2 ^ 63 ∧ n * k.toNat ≤ LIM := by
  unfold cRep at h
  obtain ⟨h1, h3⟩ := Bool.and_eq_true_iff.mp h
  obtain ⟨h1, h2⟩ := Bool.and_eq_true_iff.mp h1
  exact ⟨of_decide_eq_true h1, of_decide_eq_true h2, of_decide_eq_true h3⟩
theorem w_mul : R2W K (rMulW K) kMul := by
  intro M G H φ σ δ w1 w2 v1 v2 A1 A2 w fr s q1 q2 e Q P
  unfold kMul at e
  split at e
  · rename_i i j
    split at e
    · rename_i hc
      cases e
      unfold Rp at q1 q2
      exact .inl ⟨i, j, q1.1, q2.1, cMul_ok hc, P.scal s rp_int⟩
    · cases e
  · rename_i xs k
    split at e
    · rename_i hc
      cases e
      obtain ⟨hc, im⟩ := Bool.and_eq_true_iff.mp hc
      obtain ⟨c1, c2, c3⟩ := cRep_ok hc
      unfold Rp at q1 q2
      obtain ⟨a, vs, B1, rfl, ha, _, r1⟩ := q1
      have eB := Rps.imm _ _ _ im r1
      subst eB
      refine .inr (.inl ⟨a, k, vs, rfl, q2.1, s.sub _ _ ha, c1, c2, lim_line (by rw [← r1.len]; exact c3), fun p hp => ?_⟩)
      exact P.newL s hp (rps_rep r1 _) fun _ => imms_rep im _
    · cases e
  · rename_i xs k
    split at e
    · rename_i hc
      cases e
      obtain ⟨hc, im⟩ := Bool.and_eq_true_iff.mp hc
      obtain ⟨c1, c2, c3⟩ := cRep_ok hc
      unfold Rp at q1 q2
      obtain ⟨a, vs, rfl, ha, r1⟩ := q1
      have eB := Rps.imm _ _ _ im r1
      subst eB
      refine .inr (.inr ⟨a, k, vs, rfl, q2.1, (SqT.of (s.sub _ _ ha)), c1, c2, by rw [← r1.len]; exact Nat.le_trans c3 (by decide), fun c => ?_, fun c p hp => ?_⟩)
      · refine P.obs s (A := []) ?_ fun _ => by unfold W.imm; exact imms_rep im _
        unfold Rp
        refine ⟨a, vs, rfl, ha, ?_⟩
        have rr := rps_rep r1 k.toNat
        have e0 : (List.replicate k.toNat vs).flatten = vs := by
          rcases c with c | c
          · subst c
            simp
          · subst c
            simp
        rw [e0] at rr
        exact rr
      · exact P.newT s hp (rps_rep r1 _) fun _ => imms_rep im _
    · cases e
  · cases e
def kNeg : W → Option (W × Bool)
  | .int i => some (.int (-i), true)
  | _ => none
theorem w_neg : R1W K (rU fun i => .int (-i)) kNeg := by
  intro M G H φ σ δ w1 v1 A1 w fr s q1 e Q P
  unfold kNeg at e
  split at e
  · rename_i i
    cases e
    unfold Rp at q1
    exact ⟨i, q1.1, P.scal s rp_int⟩
  · cases e
/-- data that == and in can look at: no dicts, texts of right signs, not too deep -/
def W.shp (n : Nat) (w : W) : Bool := w.plain && w.py.canLay0 && decide (w.py.depth ≤ n)
theorem W.shp_ok {n : Nat} {w : W} (h : w.shp n = true) : w.plain = true ∧ w.py.canLay0 = true ∧ w.py.depth ≤ n := by
  unfold W.shp at h
  obtain ⟨h1, h3⟩ := Bool.and_eq_true_iff.mp h
  obtain ⟨h1, h2⟩ := Bool.and_eq_true_iff.mp h1
  exact ⟨h1, h2, of_decide_eq_true h3⟩
theorem shaped_of {n : Nat} {w : W} (h : w.shp n = true) (hn : n ≤ 64) : SeqAt.shaped w.py = true := by
  obtain ⟨_, h2, h3⟩ := W.shp_ok h
  unfold SeqAt.shaped
  rw [h2, decide_eq_true (Nat.le_trans h3 hn)]
  rfl
def rEqW (K : PySem.W.Frag) : R2 := fun x y H Q => rEq x y H Q ∨ rEqD K x y H Q
def rNeW (K : PySem.W.Frag) : R2 := fun x y H Q => rNe x y H Q ∨ rNeD K x y H Q
theorem op_eqW {X : Cx} (hu : X.A.units + 64 < cLine) : OpR X (compareOp .Eq) (rEqW X.K) := op_eq.or (op_eqD hu)
theorem op_neW {X : Cx} (hu : X.A.units + 64 < cLine) : OpR X (compareOp .NotEq) (rNeW X.K) := op_ne.or (op_neD hu)
def eqW (a b : W) : Bool := PyData.eqv a.py b.py
def kEq (a b : W) : Option (W × Bool) := match a, b with
  | .str x, .str y => some (.bl (x == y), true)
  | a, b => if a.shp 60 && b.shp 60 then some (.bl (eqW a b), true) else none
def kNe (a b : W) : Option (W × Bool) := match a, b with
  | .str x, .str y => some (.bl (!(x == y)), true)
  | a, b => if a.shp 60 && b.shp 60 then some (.bl (!eqW a b), true) else none
theorem dp_at {G H : Hp} {w : W} {v : V} {A : List Addr} {n : Nat} (e : Ex G H) (h : w.shp n = true) (r : Rp K G w v A) : Dp K H v w.py := Rp.dp w v A (W.shp_ok h).1 (r.mono e)
theorem w_eq : R2W K (rEqW K) kEq := by
  intro M G H φ σ δ w1 w2 v1 v2 A1 A2 w fr s q1 q2 e Q P
  unfold kEq at e
  split at e
  · rename_i x y
    cases e
    unfold Rp at q1 q2
    obtain ⟨rfl, _⟩ := q1
    obtain ⟨rfl, _⟩ := q2
    refine .inl ⟨rfl, ?_⟩
    rw [dec_str]
    exact P.scal s rp_bl
  · split at e
    · rename_i hc
      cases e
      obtain ⟨h1, h2⟩ := Bool.and_eq_true_iff.mp hc
      exact .inr ⟨_, _, dp_at s.sub h1 q1, dp_at s.sub h2 q2, shaped_of h1 (by decide), shaped_of h2 (by decide), P.scal s rp_bl⟩
    · cases e
theorem w_ne : R2W K (rNeW K) kNe := by
  intro M G H φ σ δ w1 w2 v1 v2 A1 A2 w fr s q1 q2 e Q P
  unfold kNe at e
  split at e
  · rename_i x y
    cases e
    unfold Rp at q1 q2
    obtain ⟨rfl, _⟩ := q1
    obtain ⟨rfl, _⟩ := q2
    refine .inl ⟨rfl, ?_⟩
    rw [dec_str]
    exact P.scal s rp_bl
  · split at e
    · rename_i hc
      cases e
      obtain ⟨h1, h2⟩ := Bool.and_eq_true_iff.mp hc
      exact .inr ⟨_, _, dp_at s.sub h1 q1, dp_at s.sub h2 q2, shaped_of h1 (by decide), shaped_of h2 (by decide), P.scal s rp_bl⟩
    · cases e
def isNonW : W → Bool
  | .non => true
  | _ => false
def kCmp (g : PyData → PyData → Bool) (a b : W) : Option (W × Bool) := if a.shp 60 && b.plain && PySem.W.alike a.py b.py && !isNonW a then some (.bl (g a.py b.py), true) else none
theorem py_none {a : W} (h : a.py = .none) : a = .non := by
  cases a <;> first | rfl | (unfold W.py at h; cases h)
theorem w_cmp {g : PyData → PyData → Bool} : R2W K (rCmpD K g) (kCmp g) := by
  intro M G H φ σ δ w1 w2 v1 v2 A1 A2 w fr s q1 q2 e Q P
  unfold kCmp at e
  split at e
  · rename_i hc
    cases e
    obtain ⟨hc, h4⟩ := Bool.and_eq_true_iff.mp hc
    obtain ⟨hc, h3⟩ := Bool.and_eq_true_iff.mp hc
    obtain ⟨h1, h2⟩ := Bool.and_eq_true_iff.mp hc
    refine ⟨_, _, dp_at s.sub h1 q1, Rp.dp _ _ _ h2 (q2.mono s.sub), h3, fun z => ?_, Nat.le_trans (W.shp_ok h1).2.2 (by decide), P.scal s rp_bl⟩
    rw [py_none z] at h4
    simp [isNonW] at h4
  · cases e
abbrev kLt := kCmp PySem.W.dataLt
abbrev kGt := kCmp fun d e => PySem.W.dataLt e d
abbrev kLe := kCmp fun d e => !PySem.W.dataLt e d
abbrev kGe := kCmp fun d e => !PySem.W.dataLt d e
def inW (x : W) (ws : List W) : Bool := ws.any fun z => eqW z x
def kIn (neg : Bool) (x c : W) : Option (W × Bool) := match c with
  | .lst ws => if x.shp 60 && (W.lst ws).shp 60 then some (.bl (if neg then !inW x ws else inW x ws), true) else none
  | .tup ws => if x.shp 60 && (W.tup ws).shp 60 then some (.bl (if neg then !inW x ws else inW x ws), true) else none
  | _ => none
theorem any_pys (x : W) : ∀ ws : List W, ((W.pys ws).any fun z => PyData.eqv z x.py) = inW x ws := fun ws => by
  rw [W.pys_map, List.any_map]
  rfl
theorem w_in {neg : Bool} : R2W K (rInD K neg) (kIn neg) := by
  intro M G H φ σ δ w1 w2 v1 v2 A1 A2 w fr s q1 q2 e Q P
  unfold kIn at e
  split at e
  · rename_i ws
    split at e
    · rename_i hc
      cases e
      obtain ⟨h1, h2⟩ := Bool.and_eq_true_iff.mp hc
      have d2 := dp_at s.sub h2 q2
      have c2 := (W.shp_ok h2).2.1
      unfold W.py at d2 c2
      unfold PyData.canLay0 at c2
      refine ⟨_, _, dp_at s.sub h1 q1, .inl d2, c2, (W.shp_ok h1).2.1, Nat.le_trans (W.shp_ok h1).2.2 (by decide), ?_⟩
      rw [any_pys]
      exact P.scal s rp_bl
    · cases e
  · rename_i ws
    split at e
    · rename_i hc
      cases e
      obtain ⟨h1, h2⟩ := Bool.and_eq_true_iff.mp hc
      have d2 := dp_at s.sub h2 q2
      have c2 := (W.shp_ok h2).2.1
      unfold W.py at d2 c2
      unfold PyData.canLay0 at c2
      refine ⟨_, _, dp_at s.sub h1 q1, .inr d2, c2, (W.shp_ok h1).2.1, Nat.le_trans (W.shp_ok h1).2.2 (by decide), ?_⟩
      rw [any_pys]
      exact P.scal s rp_bl
    · cases e
  · cases e
def kIsN (neg : Bool) (a b : W) : Option (W × Bool) := match b with
  | .non => some (.bl (if neg then !isNonW a else isNonW a), true)
  | _ => none
theorem non_iff {G : Hp} {w : W} {v : V} {A : List Addr} (r : Rp K G w v A) : decide (v = .non) = isNonW w := by
  cases w with
  | non => unfold Rp at r; rw [r.1]; rfl
  | bl b => unfold Rp at r; rw [r.1]; rfl
  | int b => unfold Rp at r; rw [r.1]; rfl
  | str b => unfold Rp at r; rw [r.1]; rfl
  | tup ws => unfold Rp at r; obtain ⟨a, _, rfl, _⟩ := r; rfl
  | lst ws => unfold Rp at r; obtain ⟨a, _, _, rfl, _⟩ := r; rfl
  | fl ws => unfold Rp at r; obtain ⟨a, _, rfl, _⟩ := r; rfl
  | dk ks ws => unfold Rp at r; obtain ⟨a, _, _, rfl, _⟩ := r; rfl
  | dt ks ws => unfold Rp at r; obtain ⟨a, _, _, rfl, _⟩ := r; rfl
  | ins C fs ws => unfold Rp at r; obtain ⟨a, _, _, _, rfl, _⟩ := r; rfl
  | fk ks ws => unfold Rp at r; obtain ⟨a, _, rfl, _⟩ := r; rfl
  | fd ks ws => unfold Rp at r; obtain ⟨a, _, rfl, _⟩ := r; rfl
  | hole a => unfold Rp at r; rw [r.1]; rfl
theorem w_isN : R2W K (fun x y H Q => y = .non ∧ Q (.bl (decide (x = .non))) H) (kIsN false) := by
  intro M G H φ σ δ w1 w2 v1 v2 A1 A2 w fr s q1 q2 e Q P
  unfold kIsN at e
  split at e
  · cases e
    have q3 := q2
    unfold Rp at q3
    refine ⟨q3.1, ?_⟩
    rw [non_iff q1]
    exact P.scal s rp_bl
  · cases e
def kIx (a b : W) : Option (W × Bool) := match a, b with
  | .lst ws, .int i => (atI ws i).map fun w => (w, w.imm)
  | .tup ws, .int i => (atI ws i).map fun w => (w, w.imm)
  | .str x, .int i => if x.length ≤ LIM then (atI x.cps.toList i).map fun c => (.str ⟨#[c]⟩, true) else none
  | _, _ => none
theorem atI_rel {G : Hp} {ws : List W} {vs : List V} {A : List Addr} {i : Int} {w : W} (r : Rps K G ws vs A) (e : atI ws i = some w) : ∃ v B, atI vs i = some v ∧ Rp K G w v B := by
  unfold atI at e ⊢
  rw [← r.len]
  obtain ⟨j, h1, h2⟩ := Option.bind_eq_some_iff.mp e
  obtain ⟨v, B, h3, h4, _⟩ := r.get h2
  exact ⟨v, B, by rw [h1]; exact h3, h4⟩
theorem w_ix : R2W K (rIx K) kIx := by
  intro M G H φ σ δ w1 w2 v1 v2 A1 A2 w fr s q1 q2 e Q P
  unfold kIx at e
  split at e
  · rename_i ws i
    obtain ⟨x, e1, e2⟩ := Option.map_eq_some_iff.mp e
    cases e2
    unfold Rp at q1 q2
    obtain ⟨a, vs, B, rfl, ha, _, r1⟩ := q1
    obtain ⟨v, B2, e3, r3⟩ := atI_rel r1 e1
    exact .inl ⟨a, vs, i, v, rfl, q2.1, SqL.of (s.sub _ _ ha), e3, P.obs s r3 fun h => h⟩
  · rename_i ws i
    obtain ⟨x, e1, e2⟩ := Option.map_eq_some_iff.mp e
    cases e2
    unfold Rp at q1 q2
    obtain ⟨a, vs, rfl, ha, r1⟩ := q1
    obtain ⟨v, B2, e3, r3⟩ := atI_rel r1 e1
    exact .inr (.inl ⟨a, vs, i, v, rfl, q2.1, (SqT.of (s.sub _ _ ha)), e3, P.obs s r3 fun h => h⟩)
  · rename_i x i
    split at e
    · rename_i hl
      obtain ⟨c, e1, e2⟩ := Option.map_eq_some_iff.mp e
      cases e2
      unfold Rp at q1 q2
      exact .inr (.inr ⟨x, i, c, q1.1, q2.1, lim_line hl, e1, P.scal s rp_str⟩)
    · cases e
  · cases e
def cutW (ws : List W) (lo hi : Option Int) : List W := (ws.drop (HT.sIx ws.length 0 lo)).take (HT.sIx ws.length ws.length hi - HT.sIx ws.length 0 lo)
def kSl (a : W) (lo hi : Option Int) : Option (W × Bool) := match a with
  | .lst ws => some (.lst (cutW ws lo hi), W.imms ws)
  | .fl ws => some (.lst (cutW ws lo hi), W.imms ws)
  | .tup ws => some (.tup (cutW ws lo hi), W.imms ws)
  | .str x => if x.length ≤ LIM then some (.str (cutS x lo hi), true) else none
  | _ => none
def rSlW (K : PySem.W.Frag) : V → Option Int → Option Int → Hp → VK → Prop := fun x lo hi H Q => rSlL K x lo hi H Q ∨ (rSlT2 K x lo hi H Q ∨ rSlS x lo hi H Q)
theorem sl_W {X : Cx} : SlR X (rSlW X.K) := sl_list.or (sl_tup2.or sl_str)
theorem rps_drop {G : Hp} : ∀ {ws : List W} {vs : List V} {A : List Addr} (n : Nat), Rps K G ws vs A → ∃ B, Rps K G (ws.drop n) (vs.drop n) B
  | _, _, A, 0, h => ⟨A, h⟩
  | [], vs, A, n + 1, h => by unfold Rps at h; obtain ⟨rfl, rfl⟩ := h; exact ⟨[], Rps.nil⟩
  | w :: ws, vs, A, n + 1, h => by
    unfold Rps at h
    obtain ⟨v, vr, B, C, rfl, rfl, h1, h2⟩ := h
    exact rps_drop n h2
theorem rps_take {G : Hp} : ∀ {ws : List W} {vs : List V} {A : List Addr} (n : Nat), Rps K G ws vs A → ∃ B, Rps K G (ws.take n) (vs.take n) B
  | _, _, _, 0, _ => ⟨[], Rps.nil⟩
  | [], vs, A, n + 1, h => by unfold Rps at h; obtain ⟨rfl, rfl⟩ := h; exact ⟨[], Rps.nil⟩
  | w :: ws, vs, A, n + 1, h => by
    unfold Rps at h
    obtain ⟨v, vr, B, C, rfl, rfl, h1, h2⟩ := h
    obtain ⟨D, h3⟩ := rps_take n h2
    exact ⟨B ++ D, Rps.cons h1 h3⟩
theorem imms_drop : ∀ (ws : List W) (n : Nat), W.imms ws = true → W.imms (ws.drop n) = true
  | _, 0, h => h
  | [], _ + 1, h => h
  | w :: ws, n + 1, h => imms_drop ws n (by rw [imms_cons] at h; exact (Bool.and_eq_true_iff.mp h).2)
theorem imms_take : ∀ (ws : List W) (n : Nat), W.imms ws = true → W.imms (ws.take n) = true
  | _, 0, h => by rw [List.take_zero]; simp [W.imms]
  | [], _ + 1, h => h
  | w :: ws, n + 1, h => by
    rw [imms_cons] at h
    obtain ⟨h1, h2⟩ := Bool.and_eq_true_iff.mp h
    rw [List.take_succ_cons, imms_cons, h1, imms_take ws n h2]
    rfl
theorem rps_cut {G : Hp} {ws : List W} {vs : List V} {A : List Addr} (lo hi : Option Int) (r : Rps K G ws vs A) : ∃ B, Rps K G (cutW ws lo hi) (cutV vs lo hi) B := by
  unfold cutW cutV
  rw [← r.len]
  obtain ⟨B, h⟩ := rps_drop (HT.sIx ws.length 0 lo) r
  exact rps_take _ h
theorem imms_cut {ws : List W} (lo hi : Option Int) (h : W.imms ws = true) : W.imms (cutW ws lo hi) = true := imms_take _ _ (imms_drop _ _ h)
def SlW (K : PySem.W.Frag) (r : V → Option Int → Option Int → Hp → VK → Prop) (k : W → Option Int → Option Int → Option (W × Bool)) : Prop :=
  ∀ {M G H φ σ δ w1 v1 A1 lo hi w fr}, Sta K M G H φ σ δ → Rp K G w1 v1 A1 → k w1 lo hi = some (w, fr) → ∀ Q : VK, Post K M G H φ σ w fr δ Q → r v1 lo hi H Q
theorem w_sl : SlW K (rSlW K) kSl := by
  intro M G H φ σ δ w1 v1 A1 lo hi w fr s q1 e Q P
  unfold kSl at e
  split at e
  · rename_i ws
    cases e
    unfold Rp at q1
    obtain ⟨a, vs, B, rfl, ha, _, r1⟩ := q1
    obtain ⟨C, r2⟩ := rps_cut lo hi r1
    exact .inl ⟨a, vs, rfl, SqL.of (s.sub _ _ ha), fun p hp => P.newL s hp r2 fun h => imms_cut lo hi h⟩
  · rename_i ws
    cases e
    unfold Rp at q1
    obtain ⟨a, vs, rfl, ha, r1⟩ := q1
    obtain ⟨C, r2⟩ := rps_cut lo hi r1
    exact .inl ⟨a, vs, rfl, ((TupK.ex s.sub).2 _ _ ha).sq, fun p hp => P.newL s hp r2 fun h => imms_cut lo hi h⟩
  · rename_i ws
    cases e
    unfold Rp at q1
    obtain ⟨a, vs, rfl, ha, r1⟩ := q1
    obtain ⟨C, r2⟩ := rps_cut lo hi r1
    refine .inr (.inl ⟨a, vs, rfl, (SqT.of (s.sub _ _ ha)), fun c => ?_, fun p hp => P.newT s hp r2 fun h => imms_cut lo hi h⟩)
    rw [c] at r2
    refine P.obs s (A := C) ?_ fun h => by unfold W.imm; exact imms_cut lo hi h
    unfold Rp
    exact ⟨a, vs, rfl, ha, r2⟩
  · rename_i x
    split at e
    · rename_i hl
      cases e
      unfold Rp at q1
      exact .inr (.inr ⟨x, q1.1, lim_line hl, P.scal s rp_str⟩)
    · cases e
  · cases e
/-- a slice's bounds -/
abbrev DenO := Own → Env → Option (Option Int × Env)
structure So (K : PySem.W.Frag) (t : TO) (f : DenO) : Prop where
  off : ∀ {M δ r}, f M δ = some r → Off M δ r.2
  run : ∀ {M G H φ σ δ r}, Sta K M G H φ σ δ → f M δ = some r → ∀ Q : Option Int → Hp → Prop, (∀ G' H' φ', Sta K M G' H' φ' σ r.2 → Evo M G H φ M G' H' φ' → Q r.1 H') → t σ H Q
def oNone : DenO := fun _ δ => some (none, δ)
def oSome (f : Den) : DenO := fun M δ => (f M δ).bind fun r => match r.1 with
  | .int i => some (some i, r.2.2)
  | _ => none
theorem so_none : So K tNoPart oNone := by
  refine ⟨fun {M δ r} e => ?_, fun {M G H φ σ δ r} s e Q P => ?_⟩
  · unfold oNone at e; cases e; exact Off.refl
  · unfold oNone at e; cases e; exact P G H φ s Evo.refl
theorem so_some {te : TE} {f : Den} (ha : Sd K te f) : So K (tPart te) (oSome f) := by
  refine ⟨fun {M δ r} e => ?_, fun {M G H φ σ δ r} s e Q P => ?_⟩
  · unfold oSome at e
    obtain ⟨r1, h1, e⟩ := Option.bind_eq_some_iff.mp e
    have o1 := ha.off h1
    split at e
    · cases e; exact o1
    · cases e
  · unfold oSome at e
    obtain ⟨⟨w, fr, δ1⟩, h1, e⟩ := Option.bind_eq_some_iff.mp e
    split at e
    · rename_i i ei
      have ei' : w = .int i := ei
      subst ei'
      cases e
      refine ha.run s h1 _ fun v1 G1 H1 φ1 A1 s1 e1 q1 _ => ?_
      unfold Rp at q1
      exact ⟨i, q1.1, P G1 H1 φ1 s1 e1⟩
    · cases e
def dSl (f : Den) (lo hi : DenO) : Den := fun M δ => (f M δ).bind fun r => (lo M r.2.2).bind fun l => (hi M l.2).bind fun h => (kSl r.1 l.1 h.1).map fun x => (x.1, x.2, h.2)
theorem sd_sl {te : TE} {tl th : TO} {f : Den} {lo hi : DenO} (ha : Sd K te f) (hl : So K tl lo) (hh : So K th hi) : Sd K (tSl (rSlW K) te tl th) (dSl f lo hi) := by
  refine ⟨fun {M δ r} e => ?_, fun {M G H φ σ δ r} s e Q P => ?_⟩
  · unfold dSl at e
    obtain ⟨r1, h1, e⟩ := Option.bind_eq_some_iff.mp e
    obtain ⟨r2, h2, e⟩ := Option.bind_eq_some_iff.mp e
    obtain ⟨r3, h3, e⟩ := Option.bind_eq_some_iff.mp e
    obtain ⟨x, h4, e⟩ := Option.map_eq_some_iff.mp e
    have o1 := ha.off h1
    have o2 := hl.off h2
    have o3 := hh.off h3
    cases e
    exact (o1.trans o2).trans o3
  · unfold dSl at e
    obtain ⟨r1, h1, e⟩ := Option.bind_eq_some_iff.mp e
    obtain ⟨r2, h2, e⟩ := Option.bind_eq_some_iff.mp e
    obtain ⟨r3, h3, e⟩ := Option.bind_eq_some_iff.mp e
    obtain ⟨⟨w, fr⟩, h4, e⟩ := Option.map_eq_some_iff.mp e
    cases e
    refine ha.run s h1 _ fun v1 G1 H1 φ1 A1 s1 e1 q1 _ => ?_
    refine hl.run s1 h2 _ fun G2 H2 φ2 s2 e2 => ?_
    refine hh.run s2 h3 _ fun G3 H3 φ3 s3 e3 => ?_
    exact w_sl s3 (q1.mono (e2.ex.trans e3.ex)) h4 Q (P.after ((e1.trans e2).trans e3))
end
end Dv
set_option Elab.async false
set_option linter.all false
set_option maxRecDepth 100000
set_option maxHeartbeats 4000000
namespace Dv
open PySem PySem.Spec PyProof.Rows L2 DvR PySem.W
section
variable {prog : Program} {w : World} {A : Around} {E : Value → Shared → Prop} {s : Shared}
theorem collect_tup {l : Addr} {vs : List Value} {Q : List Value → Shared → Prop} (hl : IsTup s.heap l vs.toArray)
    (h : Q vs { s with heap := (s.heap.push (seqObj "list" #[] 0)).update s.heap.objs.size (Obj.mapSeq (· ++ vs.toArray)) }) (hsz : vs.length ≤ sizeLine) :
    wpAny (model prog w) A (collect (.ref l)) Q E s := by
  obtain ⟨o, ho, hc, n, hd⟩ := id hl
  have ho2 : (s.heap.push (seqObj "list" #[] 0)).get? l = some o := Heap.get?_push_of_some _ ho
  have new : (s.heap.push (seqObj "list" #[] 0)).get? s.heap.objs.size = some (seqObj "list" #[] 0) := Heap.get?_push_size _ rfl
  unfold collect
  refine wpAny_bind (wpAny_runValue (codeAny_builtin entry_proto_collect' ?_))
  show wpAny _ _ (do again (.builtin "list.__iadd__" ⟨[← newList [], .ref l], []⟩)) _ _ s
  refine wpAny_bind (wpAny_newList (wpAny_pure ⟨Code.quiet_builtin _ (by decide +kernel), codeAny_builtin entry_list_iadd' ?_⟩))
  show wpAny _ _ (Builtin.List.listExtendWith (.ref s.heap.objs.size) (.ref l) (.ref s.heap.objs.size)) _ _ { s with heap := s.heap.push (seqObj "list" #[] 0) }
  unfold Builtin.List.listExtendWith
  refine wpAny_bind (wpAny_typeOf (T := "tuple") ⟨o, ho2, hc⟩ ?_)
  rw [if_pos (by rw [show (Value.type "tuple" == Value.type "tuple") = true from rfl, Bool.or_true])]
  refine wpAny_bind (listItems_at ho2 hd ?_)
  refine wpAny_bind (listItems_at new rfl ?_)
  rw [if_neg (by simp)]
  refine wpAny_bind (listUpdate_at new rfl ?_ (Nat.zero_le _) (by
    show (#[] ++ vs.toArray).size ≤ sizeLine + 1
    rw [Array.size_append, List.size_toArray]
    show 0 + vs.length ≤ _
    omega))
  refine wpAny_pure ?_
  show wpAny (model prog w) A (do
      let q ← load s.heap.objs.size
      match q.data with
      | .seq xs _ => pure xs.toList
      | _ => unsupported "internal:collect") Q E { s with heap := (s.heap.push (seqObj "list" #[] 0)).update s.heap.objs.size (Obj.mapSeq (· ++ vs.toArray)) }
  refine wpAny_bind (wpAny_load (get?_update_seq new _) ?_)
  have e : ((#[] : Array Value) ++ vs.toArray).toList = vs := by simp
  show wpAny _ _ (pure ((#[] : Array Value) ++ vs.toArray).toList) Q E _
  rw [e]
  exact wpAny_pure h
/-- sorted(x), x a list or a tuple of the values vs -/
theorem sorted_seq {κ : PyProof.Rows.KeyKind} {l : Addr} {vs : List Value} {Q : Value → Shared → Prop} (hl : s.heap.IsList l vs.toArray ∨ IsTup s.heap l vs.toArray)
    (S : SortsAt prog w A.in1.in1 { s with heap := sortingHeap (copyHeap s.heap vs) (s.heap.objs.size + 1) vs } κ vs) (hL : vs.length ≤ sizeLine)
    (h : Q (.ref (s.heap.objs.size + 1)) { s with heap := sortedAll s.heap vs (sortVals κ false vs vs).toArray }) : wpAny (model prog w) A (call (.builtin "sorted") [.ref l]) Q E s := by
  rcases hl with hl | hl
  · exact sorted_vals hl S hL h
  · refine call_function_entry_kw kind_sorted plain_sorted entry_sorted (args_sorted1 _) ?_
    unfold Builtin.«sorted»
    refine wpAny_bind (m := checkCount "sorted" 1 1 _) (wpAny_pure ?_)
    refine wpAny_bind (collect_tup hl ?_ hL)
    refine wpAny_bind (wpAny_newList ?_ hL)
    have hsz : ((s.heap.push (seqObj "list" #[] 0)).update s.heap.objs.size (Obj.mapSeq (· ++ vs.toArray))).objs.size = s.heap.objs.size + 1 := by
      rw [Heap.size_update, size_push']
    show wpAny _ _ _ _ _ { s with heap := copyHeap s.heap vs }
    rw [hsz]
    refine wpAny_bind (wpAny_holding (wpAny_call_entry_kw slot_list_sort ⟨_, copyHeap_at s.heap vs, rfl⟩ entry_list_sort ?_ (args_list_sort _)))
    refine wpAny_mono (list_sort_vals (s := { s with heap := copyHeap s.heap vs }) (copyHeap_at s.heap vs) S hL (P := fun f s' => f = .done (.ret .none) ∧ Q (.ref (s.heap.objs.size + 1)) s') ⟨rfl, h⟩) (fun f s2 q => ?_) fun _ _ e => e
    obtain ⟨rfl, q⟩ := q
    exact ⟨_, rfl, wpAny_pure ⟨_, rfl, q⟩⟩
/-- one item can always be sorted -/
theorem sorts_one {vs : List Value} {ds : List PyData} (e : EachIs (fun v d => ∃ as, Reads s.heap v d as) vs ds) (hal : AllAlike ds) (h1 : ds.length ≤ 1) (hn : ∀ d ∈ ds, d ≠ .none) (hu : ∀ d, d ∈ ds → A.units + d.depth < cLine) : SortsAt prog w A s (dataKind s.heap ds) vs := by
  refine ⟨fun v hv => ?_, general', fun E x y a b Q ha hb hq => ?_, fun h2 => ?_⟩
  · obtain ⟨d, hd, as, r⟩ := e.left v hv
    exact ⟨_, dataKind_some hal hd r⟩
  · obtain ⟨d, as, hd, ra, rfl⟩ := dataKind_inv ha
    obtain ⟨d', as', hd', rb, rfl⟩ := dataKind_inv hb
    have q : keyLt' general' x y = oneLt' false x y := rfl
    rw [q]
    exact oneLt_alike (fun z => nomatch z) ra rb (hal d hd d' hd') (hn d hd) (Nat.lt_of_le_of_lt (Nat.add_le_add_left (Nat.min_le_left _ _) _) (hu d hd)) hq
  · have := e.length
    omega
end
section
variable {X : Cx}
theorem each_rps {K : PySem.W.Frag} {G : Hp} : ∀ {us : List Value} {ws : List W}, EachIs (fun u w => ∃ v A, RelV v u ∧ Rp K G w v A) us ws → ∃ vs B, Vals vs us ∧ Rps K G ws vs B
  | _, _, .nil => ⟨[], [], .nil, Rps.nil⟩
  | _, _, .cons ⟨v, A, h1, h2⟩ t => by
    obtain ⟨vs, B, h3, h4⟩ := each_rps t
    exact ⟨v :: vs, A ++ B, .cons h1 h3, Rps.cons h2 h4⟩
theorem rps_each {K : PySem.W.Frag} {G : Hp} : ∀ {ws : List W} {vs : List V} {us : List Value} {A : List Addr}, Rps K G ws vs A → Vals vs us → EachIs (fun u w => ∃ v A, RelV v u ∧ Rp K G w v A) us ws
  | [], vs, us, A, h, r => by
    unfold Rps at h
    obtain ⟨rfl, _⟩ := h
    cases r
    exact .nil
  | w :: ws, vs, us, A, h, r => by
    unfold Rps at h
    obtain ⟨v, vr, B, C, rfl, rfl, h1, h2⟩ := h
    cases r with
    | cons r1 r2 => exact .cons ⟨v, B, r1, h1⟩ (rps_each h2 r2)
theorem plains_mem : ∀ {ws : List W} {w : W}, W.plains ws = true → w ∈ ws → w.plain = true
  | x :: ws, w, h, m => by
    unfold W.plains at h
    obtain ⟨h1, h2⟩ := Bool.and_eq_true_iff.mp h
    rcases List.mem_cons.mp m with rfl | m
    · exact h1
    · exact plains_mem h2 m
theorem eachIs_mem {α β : Type} {R : α → β → Prop} {S : α → β → Prop} : ∀ {as : List α} {bs : List β}, EachIs R as bs → (∀ a b, b ∈ bs → R a b → S a b) → EachIs S as bs
  | _, _, .nil, _ => .nil
  | _, _, .cons h t, f => .cons (f _ _ (List.mem_cons_self ..) h) (eachIs_mem t fun a b m => f a b (List.mem_cons_of_mem _ m))
/-- Python's order of data -/
def leW (a b : W) : Bool := dataLe false W.py a b
def rSortW (K : PySem.W.Frag) : RC := fun xs H Q => ∃ (a : Addr) (ws : List W) (vs : List V) (A : List Addr), xs = [.ref a] ∧ (SqL K H a vs ∨ SqT K H a vs) ∧ Rps K H ws vs A ∧ W.plains ws = true ∧ AllAlike (ws.map W.py) ∧
  (Sortable (ws.map W.py) ∨ ((ws.map W.py).length ≤ 1 ∧ ∀ d ∈ ws.map W.py, d ≠ .none)) ∧ (∀ d ∈ ws.map W.py, d.depth ≤ 60) ∧ ws.length ≤ sizeLine ∧ ∀ p vs' B, H p = none → Rps K H (ws.mergeSort leW) vs' B → Q (.ref p) (upd H p (.lst vs'))
theorem call_sortW (hu : X.A.units + 64 < cLine) : CallR X (.builtin "sorted") (rSortW X.K) := by
  intro pins s σ H xs us Q I r h
  obtain ⟨a, ws, vs, A, rfl, hs, rp, pl, al, so, dp, hz, q⟩ := h
  obtain ⟨u, rfl, ru⟩ := vals1 r
  cases ru
  obtain ⟨its, rv, hl⟩ : ∃ its : List Value, Vals vs its ∧ (s.heap.IsList a its.toArray ∨ IsTup s.heap a its.toArray) := by
    rcases hs with hs | hs
    · obtain ⟨its, rv, p, _⟩ := I.list hs
      exact ⟨its, rv, .inl p.isList⟩
    · obtain ⟨its, rv, p, _⟩ := I.tuple hs
      exact ⟨its, rv, .inr p⟩
  have e := rps_each rp rv
  have er : EachIs (fun v w => ∃ as, Reads s.heap v (W.py w) as) its ws := eachIs_mem e fun u w m ⟨v, A, h1, h2⟩ => Dp.reads I w.py v u (Rp.dp w v A (plains_mem pl m) h2) h1
  have er2 : EachIs (fun v w => ∃ as, Reads (sortingHeap (copyHeap s.heap its) (s.heap.objs.size + 1) its) v (W.py w) as) its ws := er.mono fun _ _ ⟨as, z⟩ => ⟨as, PyProof.Rows.Reads.keeps (fun _ _ => sorting_copy_old) z⟩
  have hlen : its.length = ws.length := e.length
  have hL : its.length ≤ sizeLine := by rw [hlen]; exact hz
  have du : ∀ d, d ∈ ws.map W.py → X.A.in1.in1.units + d.depth < cLine := fun d hd => by
    have := dp d hd
    show X.A.units + 1 + 1 + d.depth < cLine
    omega
  have er3 : EachIs (fun v d => ∃ as, Reads (sortingHeap (copyHeap s.heap its) (s.heap.objs.size + 1) its) v d as) its (ws.map W.py) := each_map (R := fun v d => ∃ as, Reads (sortingHeap (copyHeap s.heap its) (s.heap.objs.size + 1) its) v d as) W.py er2
  refine sorted_seq (κ := dataKind (sortingHeap (copyHeap s.heap its) (s.heap.objs.size + 1) its) (ws.map W.py)) hl ?_ hL ?_
  · rcases so with so | ⟨s1, s2⟩
    · exact SortsAt.data (s := { s with heap := sortingHeap (copyHeap s.heap its) (s.heap.objs.size + 1) its }) er3 al so du
    · exact sorts_one (s := { s with heap := sortingHeap (copyHeap s.heap its) (s.heap.objs.size + 1) its }) er3 al s1 s2 du
  · have eo := sortVals_data (R := fun u w => ∃ v A, RelV v u ∧ Rp X.K H w v A) false e er2 al
    obtain ⟨vs', B, h1, h2⟩ := each_rps eo
    obtain ⟨c, hc⟩ := sortedAll_at s.heap its (sortVals (dataKind (sortingHeap (copyHeap s.heap its) (s.heap.objs.size + 1) its) (ws.map W.py)) false its its).toArray
    have hln : (sortVals (dataKind (sortingHeap (copyHeap s.heap its) (s.heap.objs.size + 1) its) (ws.map W.py)) false its its).length = its.length := sortVals_length false rfl
    have fr : H (s.heap.objs.size + 1) = none := I.hok.fresh (Nat.le_succ _)
    refine ⟨.ref (s.heap.objs.size + 1), _, I.laid (t' := s.toks) (o := .lst vs') (fun b o eb => sortedAll_old eb) (Nat.le_succ _) ?_, rfl, q _ vs' B fr h2⟩
    exact ⟨by rw [h1.length, hln]; exact hL, _, c, h1, hc⟩
end
end Dv
set_option Elab.async false
set_option linter.all false
set_option maxRecDepth 100000
set_option maxHeartbeats 4000000
namespace Dv
open PySem PySem.Spec PyProof.Rows L2 DvR PySem.W
section
variable {K : PySem.W.Frag}
theorem RCW.one {r : RC} {k : W → Option (W × Bool)} (h : ∀ {M G H φ σ δ w1 v1 A1 w fr}, Sta K M G H φ σ δ → Rp K G w1 v1 A1 → k w1 = some (w, fr) → ∀ Q : VK, Post K M G H φ σ w fr δ Q → r [v1] H Q) :
    RCW K r (fun ws => match ws with | [w] => k w | _ => none) := by
  intro M G H φ σ δ ws vs A w fr s q e Q P
  match ws, q, e with
  | [w1], q, e =>
    unfold Rps at q
    obtain ⟨v, vr, B, C, rfl, rfl, h1, h2⟩ := q
    unfold Rps at h2
    obtain ⟨rfl, rfl⟩ := h2
    exact h s h1 e Q P
def rLenW (K : PySem.W.Frag) : RC := fun xs H Q => (∃ p ys, xs = [.ref p] ∧ (SqL K H p ys ∨ SqT K H p ys) ∧ Q (.int ys.length) H) ∨ ((∃ z, xs = [.str z] ∧ z.length ≤ sizeLine ∧ Q (.int z.length) H) ∨ ∃ a kvs, xs = [V.ref a] ∧ H a = some (.dK kvs) ∧ Q (.int kvs.length) H)
theorem call_lenW {X : Cx} : CallR X (.builtin "len") (rLenW X.K) := call_len_seq.or (call_len_str.or call_lenD)
def kLen1 : W → Option (W × Bool)
  | .lst ws => some (.int ws.length, true)
  | .fl ws => some (.int ws.length, true)
  | .tup ws => some (.int ws.length, true)
  | .str x => if x.length ≤ LIM then some (.int x.length, true) else none
  | .dk ks _ => some (.int ks.length, true)
  | _ => none
def kLen (ws : List W) : Option (W × Bool) := match ws with | [w] => kLen1 w | _ => none
theorem w_len : RCW K (rLenW K) kLen := RCW.one fun {M G H φ σ δ w1 v1 A1 w fr} s q1 e Q P => by
  unfold kLen1 at e
  split at e
  · cases e
    unfold Rp at q1
    obtain ⟨a, vs, B, rfl, ha, _, r1⟩ := q1
    refine .inl ⟨a, vs, rfl, .inl (SqL.of (s.sub _ _ ha)), ?_⟩
    rw [← r1.len]
    exact P.scal s rp_int
  · cases e
    unfold Rp at q1
    obtain ⟨a, vs, rfl, ha, r1⟩ := q1
    refine .inl ⟨a, vs, rfl, .inl ((TupK.ex s.sub).2 _ _ ha).sq, ?_⟩
    rw [← r1.len]
    exact P.scal s rp_int
  · cases e
    unfold Rp at q1
    obtain ⟨a, vs, rfl, ha, r1⟩ := q1
    refine .inl ⟨a, vs, rfl, .inr ((SqT.of (s.sub _ _ ha))), ?_⟩
    rw [← r1.len]
    exact P.scal s rp_int
  · rename_i x
    split at e
    · rename_i hl
      cases e
      unfold Rp at q1
      exact .inr (.inl ⟨x, by rw [q1.1], lim_line hl, P.scal s rp_int⟩)
    · cases e
  · rename_i ks ws
    cases e
    unfold Rp at q1
    obtain ⟨a, vs, B, rfl, ha, hl, _, r1⟩ := q1
    refine .inr (.inr ⟨a, _, rfl, s.sub _ _ ha, ?_⟩)
    have el : (ks.zip vs).length = ks.length := by rw [List.length_zip, ← hl, Nat.min_self]
    rw [el]
    exact P.scal s rp_int
  · cases e
def rTupW (K : PySem.W.Frag) : RC := fun xs H Q => ∃ p ys, xs = [.ref p] ∧ ((SqL K H p ys ∧ ∀ l, H l = none → Q (.ref l) (upd H l (.tup ys))) ∨ (SqT K H p ys ∧ Q (.ref p) H))
def kTup1 : W → Option (W × Bool)
  | .lst ws => some (.tup ws, W.imms ws)
  | .fl ws => some (.tup ws, W.imms ws)
  | .tup ws => some (.tup ws, W.imms ws)
  | _ => none
def kTupOf (ws : List W) : Option (W × Bool) := match ws with | [w] => kTup1 w | _ => none
theorem w_tupOf : RCW K (rTupW K) kTupOf := RCW.one fun {M G H φ σ δ w1 v1 A1 w fr} s q1 e Q P => by
  unfold kTup1 at e
  split at e
  · cases e
    unfold Rp at q1
    obtain ⟨a, vs, B, rfl, ha, _, r1⟩ := q1
    exact ⟨a, vs, rfl, .inl ⟨SqL.of (s.sub _ _ ha), fun p hp => P.newT s hp r1 fun h => h⟩⟩
  · cases e
    unfold Rp at q1
    obtain ⟨a, vs, rfl, ha, r1⟩ := q1
    exact ⟨a, vs, rfl, .inl ⟨((TupK.ex s.sub).2 _ _ ha).sq, fun p hp => P.newT s hp r1 fun h => h⟩⟩
  · cases e
    have q2 := q1
    unfold Rp at q1
    obtain ⟨a, vs, rfl, ha, r1⟩ := q1
    exact ⟨a, vs, rfl, .inr ⟨(SqT.of (s.sub _ _ ha)), P.obs s q2 fun h => by unfold W.imm; exact h⟩⟩
  · cases e
def rLstW (K : PySem.W.Frag) : RC := fun xs H Q => ∃ p ys, xs = [.ref p] ∧ (SqL K H p ys ∨ SqT K H p ys) ∧ ∀ l, H l = none → Q (.ref l) (upd H l (.lst ys))
def kLst1 : W → Option (W × Bool)
  | .lst ws => some (.lst ws, W.imms ws)
  | .fl ws => some (.lst ws, W.imms ws)
  | .tup ws => some (.lst ws, W.imms ws)
  | _ => none
def kLstOf (ws : List W) : Option (W × Bool) := match ws with | [w] => kLst1 w | _ => none
theorem w_lstOf : RCW K (rLstW K) kLstOf := RCW.one fun {M G H φ σ δ w1 v1 A1 w fr} s q1 e Q P => by
  unfold kLst1 at e
  split at e
  · cases e
    unfold Rp at q1
    obtain ⟨a, vs, B, rfl, ha, _, r1⟩ := q1
    exact ⟨a, vs, rfl, .inl (SqL.of (s.sub _ _ ha)), fun p hp => P.newL s hp r1 fun h => h⟩
  · cases e
    unfold Rp at q1
    obtain ⟨a, vs, rfl, ha, r1⟩ := q1
    exact ⟨a, vs, rfl, .inl ((TupK.ex s.sub).2 _ _ ha).sq, fun p hp => P.newL s hp r1 fun h => h⟩
  · cases e
    unfold Rp at q1
    obtain ⟨a, vs, rfl, ha, r1⟩ := q1
    exact ⟨a, vs, rfl, .inr ((SqT.of (s.sub _ _ ha))), fun p hp => P.newL s hp r1 fun h => h⟩
  · cases e
def rInt1 : RC := fun xs H Q => (∃ i, xs = [.int i] ∧ Q (.int i) H) ∨ ∃ k, xs = [.bl k] ∧ Q (.int (if k then 1 else 0)) H
def kInt1 : W → Option (W × Bool)
  | .int i => some (.int i, true)
  | .bl k => some (.int (if k then 1 else 0), true)
  | _ => none
def kIntOf (ws : List W) : Option (W × Bool) := match ws with | [w] => kInt1 w | _ => none
theorem w_intOf : RCW K rInt1 kIntOf := RCW.one fun {M G H φ σ δ w1 v1 A1 w fr} s q1 e Q P => by
  unfold kInt1 at e
  split at e
  · rename_i i
    cases e
    unfold Rp at q1
    exact .inl ⟨i, by rw [q1.1], P.scal s rp_int⟩
  · rename_i b
    cases e
    unfold Rp at q1
    exact .inr ⟨b, by rw [q1.1], P.scal s rp_int⟩
  · cases e
theorem rps_two {G : Hp} {a b : W} {vs : List V} {A : List Addr} (q : Rps K G [a, b] vs A) : ∃ x y B C, vs = [x, y] ∧ Rp K G a x B ∧ Rp K G b y C := by
  unfold Rps at q
  obtain ⟨v, vr, B, C, rfl, rfl, h1, h2⟩ := q
  unfold Rps at h2
  obtain ⟨v2, vr2, B2, C2, rfl, rfl, h3, h4⟩ := h2
  unfold Rps at h4
  obtain ⟨rfl, rfl⟩ := h4
  exact ⟨v, v2, B, B2, rfl, h1, h3⟩
def rMax2 : RC := fun xs H Q => ∃ i j, xs = [.int i, .int j] ∧ Q (.int (if j > i then j else i)) H
def rMin2 : RC := fun xs H Q => ∃ i j, xs = [.int i, .int j] ∧ Q (.int (if j < i then j else i)) H
def kMax2 (ws : List W) : Option (W × Bool) := match ws with | [.int i, .int j] => some (.int (if j > i then j else i), true) | _ => none
def kMin2 (ws : List W) : Option (W × Bool) := match ws with | [.int i, .int j] => some (.int (if j < i then j else i), true) | _ => none
theorem w_max2 : RCW K rMax2 kMax2 := by
  intro M G H φ σ δ ws vs A w fr s q e Q P
  unfold kMax2 at e
  split at e
  · rename_i i j
    cases e
    obtain ⟨x, y, B, C, rfl, h1, h2⟩ := rps_two q
    unfold Rp at h1 h2
    exact ⟨i, j, by rw [h1.1, h2.1], P.scal s rp_int⟩
  · cases e
theorem w_min2 : RCW K rMin2 kMin2 := by
  intro M G H φ σ δ ws vs A w fr s q e Q P
  unfold kMin2 at e
  split at e
  · rename_i i j
    cases e
    obtain ⟨x, y, B, C, rfl, h1, h2⟩ := rps_two q
    unfold Rp at h1 h2
    exact ⟨i, j, by rw [h1.1, h2.1], P.scal s rp_int⟩
  · cases e
def blsW : List W → Option (List Bool)
  | [] => some []
  | .bl b :: ws => (blsW ws).map (b :: ·)
  | _ :: _ => none
def intsW : List W → Option (List Int)
  | [] => some []
  | .int b :: ws => (intsW ws).map (b :: ·)
  | _ :: _ => none
theorem bls_rel {G : Hp} : ∀ {ws : List W} {bs : List Bool} {vs : List V} {A : List Addr}, blsW ws = some bs → Rps K G ws vs A → vs = bs.map V.bl
  | [], bs, vs, A, e, r => by
    unfold blsW at e
    cases e
    unfold Rps at r
    rw [r.1]
    rfl
  | w :: ws, bs, vs, A, e, r => by
    unfold Rps at r
    obtain ⟨v, vr, B, C, rfl, rfl, h1, h2⟩ := r
    cases w <;> unfold blsW at e <;> try (cases e)
    rename_i b
    obtain ⟨cs, e1, e2⟩ := Option.map_eq_some_iff.mp e
    subst e2
    unfold Rp at h1
    rw [h1.1, bls_rel e1 h2]
    rfl
def kBls (g : List Bool → Bool) : W → Option (W × Bool)
  | .lst ws => (blsW ws).map fun bs => (.bl (g bs), true)
  | _ => none
def kAll (ws : List W) : Option (W × Bool) := match ws with | [w] => kBls (fun bs => bs.all id) w | _ => none
def kAny (ws : List W) : Option (W × Bool) := match ws with | [w] => kBls (fun bs => bs.any id) w | _ => none
theorem w_all : RCW K (rAll K) kAll := RCW.one fun {M G H φ σ δ w1 v1 A1 w fr} s q1 e Q P => by
  unfold kBls at e
  split at e
  · obtain ⟨bs, e1, e2⟩ := Option.map_eq_some_iff.mp e
    cases e2
    unfold Rp at q1
    obtain ⟨a, vs, B, rfl, ha, _, r1⟩ := q1
    have := bls_rel e1 r1
    subst this
    exact ⟨a, bs, rfl, SqL.of (s.sub _ _ ha), P.scal s rp_bl⟩
  · cases e
theorem w_any : RCW K (rAny K) kAny := RCW.one fun {M G H φ σ δ w1 v1 A1 w fr} s q1 e Q P => by
  unfold kBls at e
  split at e
  · obtain ⟨bs, e1, e2⟩ := Option.map_eq_some_iff.mp e
    cases e2
    unfold Rp at q1
    obtain ⟨a, vs, B, rfl, ha, _, r1⟩ := q1
    have := bls_rel e1 r1
    subst this
    exact ⟨a, bs, rfl, SqL.of (s.sub _ _ ha), P.scal s rp_bl⟩
  · cases e
def kSum1 : W → Option (W × Bool)
  | .lst ws => (intsW ws).map fun bs => (.int bs.sum, true)
  | _ => none
def kSum (ws : List W) : Option (W × Bool) := match ws with | [w] => kSum1 w | _ => none
def W.sayable (w : W) : Bool := w.plain && w.py.showable && decide (w.py.depth ≤ 60) && decide (w.py.shown.length ≤ LIM)
def kRepr1 (w : W) : Option (W × Bool) := if w.sayable then some (.str w.py.shown, true) else none
def kRepr (ws : List W) : Option (W × Bool) := match ws with | [w] => kRepr1 w | _ => none
theorem w_repr : RCW K (rReprD K) kRepr := RCW.one fun {M G H φ σ δ w1 v1 A1 w fr} s q1 e Q P => by
  unfold kRepr1 at e
  split at e
  · rename_i hc
    cases e
    unfold W.sayable at hc
    obtain ⟨hc, h4⟩ := Bool.and_eq_true_iff.mp hc
    obtain ⟨hc, h3⟩ := Bool.and_eq_true_iff.mp hc
    obtain ⟨h1, h2⟩ := Bool.and_eq_true_iff.mp hc
    exact ⟨v1, _, rfl, Rp.dp _ _ _ h1 (q1.mono s.sub), h2, of_decide_eq_true h3, lim_line (of_decide_eq_true h4), P.scal s rp_str⟩
  · cases e
theorem py_tup (ws : List W) : (W.tup ws).py = .tuple (W.pys ws) := by rw [W.py]
theorem pys_cons (w : W) (ws : List W) : W.pys (w :: ws) = w.py :: W.pys ws := by rw [W.pys]
def alikesB (ws : List W) : Bool := ws.all fun a => ws.all fun b => alike a.py b.py
def isTup1 : W → Bool
  | .tup (_ :: _) => true
  | _ => false
def isOther : W → Bool
  | .tup _ => false
  | .non => false
  | _ => true
def sortB (ws : List W) : Bool := ws.all isTup1 || ws.all isOther || (decide (ws.length ≤ 1) && ws.all fun w => !isNonW w)
def W.canSort (ws : List W) : Bool := W.plains ws && alikesB ws && sortB ws && (ws.all fun w => decide (w.py.depth ≤ 60)) && decide (ws.length ≤ LIM) && W.imms ws
theorem imms_mem : ∀ {ws : List W}, W.imms ws = true ↔ ∀ w ∈ ws, w.imm = true
  | [] => by simp [W.imms]
  | w :: ws => by
    rw [imms_cons, Bool.and_eq_true, imms_mem (ws := ws)]
    constructor
    · rintro ⟨h1, h2⟩ x hx
      rcases List.mem_cons.mp hx with rfl | hx
      · exact h1
      · exact h2 x hx
    · exact fun h => ⟨h w (List.mem_cons_self ..), fun x hx => h x (List.mem_cons_of_mem _ hx)⟩
theorem canSort_ok {ws : List W} (h : W.canSort ws = true) : W.plains ws = true ∧ AllAlike (ws.map W.py) ∧ (Sortable (ws.map W.py) ∨ ((ws.map W.py).length ≤ 1 ∧ ∀ d ∈ ws.map W.py, d ≠ .none)) ∧ (∀ d ∈ ws.map W.py, d.depth ≤ 60) ∧ ws.length ≤ LIM ∧ W.imms ws = true := by
  unfold W.canSort at h
  simp only [Bool.and_eq_true] at h
  obtain ⟨⟨⟨⟨⟨h1, h2⟩, h3⟩, h4⟩, h5⟩, h6⟩ := h
  refine ⟨h1, fun d hd d' hd' => ?_, ?_, fun d hd => ?_, of_decide_eq_true h5, h6⟩
  · obtain ⟨w, hw, rfl⟩ := List.mem_map.mp hd
    obtain ⟨w', hw', rfl⟩ := List.mem_map.mp hd'
    unfold alikesB at h2
    exact List.all_eq_true.mp (List.all_eq_true.mp h2 w hw) w' hw'
  · unfold sortB at h3
    rcases Bool.or_eq_true_iff.mp h3 with h3 | h3
    · rcases Bool.or_eq_true_iff.mp h3 with h3 | h3
      · refine .inl (.inl fun d hd => ?_)
        obtain ⟨w, hw, rfl⟩ := List.mem_map.mp hd
        have := List.all_eq_true.mp h3 w hw
        unfold isTup1 at this
        split at this
        · rename_i x r
          exact ⟨x.py, W.pys r, by rw [py_tup, pys_cons]⟩
        · cases this
      · refine .inl (.inr fun d hd => ?_)
        obtain ⟨w, hw, rfl⟩ := List.mem_map.mp hd
        have := List.all_eq_true.mp h3 w hw
        cases w <;> unfold W.py <;> first | (unfold isOther at this; cases this; done) | exact ⟨(fun z => nomatch z), fun xs z => nomatch z⟩
    · obtain ⟨h3, h4⟩ := Bool.and_eq_true_iff.mp h3
      refine .inr ⟨by rw [List.length_map]; exact of_decide_eq_true h3, fun d hd z => ?_⟩
      obtain ⟨w, hw, rfl⟩ := List.mem_map.mp hd
      have := List.all_eq_true.mp h4 w hw
      rw [py_none z] at this
      simp [isNonW] at this
  · obtain ⟨w, hw, rfl⟩ := List.mem_map.mp hd
    exact of_decide_eq_true (List.all_eq_true.mp h4 w hw)
def itemsOf : W → Option (List W)
  | .lst ws => some ws
  | .tup ws => some ws
  | .fl ws => some ws
  | _ => none
def kSort1 (w : W) : Option (W × Bool) := (itemsOf w).bind fun ws => if W.canSort ws then some (.lst (ws.mergeSort leW), true) else none
def kSorted (ws : List W) : Option (W × Bool) := match ws with | [w] => kSort1 w | _ => none
theorem items_rel {G : Hp} {w : W} {v : V} {A : List Addr} {ws : List W} (e : itemsOf w = some ws) (r : Rp K G w v A) : ∃ a vs B, v = .ref a ∧ (SqL K G a vs ∨ SqT K G a vs) ∧ Rps K G ws vs B := by
  unfold itemsOf at e
  split at e
  · cases e
    unfold Rp at r
    obtain ⟨a, vs, B, rfl, ha, _, r1⟩ := r
    exact ⟨a, vs, B, rfl, .inl (SqL.of ha), r1⟩
  · cases e
    unfold Rp at r
    obtain ⟨a, vs, rfl, ha, r1⟩ := r
    exact ⟨a, vs, _, rfl, .inr (SqT.of ha), r1⟩
  · cases e
    unfold Rp at r
    obtain ⟨a, vs, rfl, ha, r1⟩ := r
    exact ⟨a, vs, _, rfl, .inl ha.sq, r1⟩
  · cases e
theorem sqt_ex {G H : Hp} {a : Addr} {vs : List V} (e : Ex G H) (h : SqT K G a vs) : SqT K H a vs := by
  rcases h with h | h
  · exact .inl (rd_ex (fun o q => e a o q) h)
  · exact .inr h
theorem sq_ex {G H : Hp} {a : Addr} {vs : List V} (e : Ex G H) (h : SqL K G a vs ∨ SqT K G a vs) : SqL K H a vs ∨ SqT K H a vs := by
  rcases h with h | h
  · rcases h with h | h
    · exact .inl (.inl (rd_ex (fun o q => e a o q) h))
    · exact .inl (.inr h)
  · exact .inr (sqt_ex e h)
theorem w_sorted : RCW K (rSortW K) kSorted := RCW.one fun {M G H φ σ δ w1 v1 A1 w fr} s q1 e Q P => by
  unfold kSort1 at e
  obtain ⟨ws, e1, e⟩ := Option.bind_eq_some_iff.mp e
  split at e
  · rename_i hc
    cases e
    obtain ⟨h1, h2, h3, h4, h5, h6⟩ := canSort_ok hc
    obtain ⟨a, vs, B, rfl, ha, r1⟩ := items_rel e1 q1
    refine ⟨a, ws, vs, B, rfl, sq_ex s.sub ha, r1.mono s.sub, h1, h2, h3, h4, lim_line h5, fun p vs' B' hp r2 => ?_⟩
    have im : W.imms (ws.mergeSort leW) = true := imms_mem.mpr fun x hx => imms_mem.mp h6 x (List.mem_mergeSort.mp hx)
    have eB := Rps.imm _ _ _ im r2
    subst eB
    refine P.newL s hp (A := []) ?_ fun _ => im
    exact Rps.frame s.tk _ _ _ (fun _ z => nomatch z) r2
  · cases e
def tyW : W → Option String
  | .non => some "NoneType"
  | .bl _ => some "bool"
  | .int _ => some "int"
  | .str _ => some "str"
  | .tup _ => some "tuple"
  | .lst _ => some "list"
  | .fl _ => some "list"
  | .dk _ _ => some "dict"
  | .dt _ _ => some "dict"
  | .ins _ _ _ => none
  | .fk _ _ => none
  | .fd _ _ => none
  | .hole _ => none
def kIsi (T : String) (w : W) : Option (W × Bool) := (tyW w).bind fun t => (kitB t T).map fun b => (.bl b, true)
theorem tyX_of {G H : Hp} {w : W} {v : V} {A : List Addr} {t : String} (e : tyW w = some t) (x : Ex G H) (r : Rp K G w v A) : TyX K H v (.type t) := by
  cases w with
  | non => cases e; unfold Rp at r; rw [r.1]; exact .base .non
  | bl b => cases e; unfold Rp at r; rw [r.1]; exact .base (.bl b)
  | int i => cases e; unfold Rp at r; rw [r.1]; exact .base (.int i)
  | str z => cases e; unfold Rp at r; rw [r.1]; exact .base (.str z)
  | tup ws =>
    cases e
    unfold Rp at r
    obtain ⟨a, vs, rfl, ha, _⟩ := r
    exact .base (.tup (x _ _ ha))
  | lst ws => cases e; unfold Rp at r; obtain ⟨a, vs, B, rfl, ha, _⟩ := r; exact .base (.lst (x _ _ ha))
  | fl ws =>
    cases e
    unfold Rp at r
    obtain ⟨a, vs, rfl, ha, _⟩ := r
    rcases ha with ⟨o, ha⟩ | ⟨o, its, n, h1, h2, _⟩
    · exact .base (.frz (x _ _ ha))
    · exact .kList h1 h2
  | dk ks ws => cases e; unfold Rp at r; obtain ⟨a, vs, B, rfl, ha, _⟩ := r; exact .base (.dK (x _ _ ha))
  | dt ks ws => cases e; unfold Rp at r; obtain ⟨a, vs, B, rfl, ha, _⟩ := r; exact .base (.dT (x _ _ ha))
  | ins C fs ws => cases e
  | hole a => cases e
  | fk ks ws => cases e
  | fd ks ws => cases e
def dIsi (T : String) (f : Den) : Den := fun M δ => (f M δ).bind fun r => (kIsi T r.1).map fun x => (x.1, x.2, r.2.2)
theorem sd_isi {te : TE} {f : Den} (T : String) (ha : Sd K te f) : Sd K (tCB (rIsi K) (tCons te (tCons (tC (.ty T)) tNil))) (dIsi T f) := by
  refine ⟨fun {M δ r} e => ?_, fun {M G H φ σ δ r} s e Q P => ?_⟩
  · unfold dIsi at e
    obtain ⟨r1, h1, e⟩ := Option.bind_eq_some_iff.mp e
    obtain ⟨x, h2, e⟩ := Option.map_eq_some_iff.mp e
    have o1 := ha.off h1
    cases e
    exact o1
  · unfold dIsi at e
    obtain ⟨r1, h1, e⟩ := Option.bind_eq_some_iff.mp e
    obtain ⟨x, h2, e⟩ := Option.map_eq_some_iff.mp e
    cases e
    unfold kIsi at h2
    obtain ⟨t, h3, h2⟩ := Option.bind_eq_some_iff.mp h2
    obtain ⟨b, h4, h2⟩ := Option.map_eq_some_iff.mp h2
    cases h2
    refine ha.run s h1 _ fun v1 G1 H1 φ1 A1 s1 e1 q1 _ => ?_
    exact ⟨v1, .ty T, .type t, .type T, b, rfl, .ty T, tyX_of h3 s1.sub q1, kit_ty h4, (P.after e1).scal s1 rp_bl⟩
end
end Dv
set_option Elab.async false
set_option linter.all false
set_option maxRecDepth 100000
set_option maxHeartbeats 4000000
namespace DvF
open PySem PySem.Spec PyProof.Rows L2
abbrev Grd (A : Around) : Prop := A.guards = some []
/-- the def at f keeps the promise sp wherever no repr is under way -/
structure FnG (P : Program) (w : World) (K : PySem.W.Frag) (mg : Str → Option Value) (base : Heap) (CX : CXT) (k : Nat) (f : Addr) (fd : FuncData) (ps : List Str) (sp : Sp) : Prop where
  many : ∀ {vs H Q E}, sp vs H Q E → vs.length = ps.length
  runs : ∀ {A outer s H args us vs Q E}, Grd A → Room k A → Env0 P w K mg base A outer s H → BindsTo s fd args (ps.zip us) → Vals vs us → sp vs H Q E →
    codeAny (model P w) A (.call (.ref f) args) (CR CX outer P w H s Q E) s
section
variable {P : Program} {w : World} {K : PySem.W.Frag} {mg : Str → Option Value} {base : Heap} {CX : CXT}
theorem FnG.up {j k : Nat} {f : Addr} {fd : FuncData} {ps : List Str} {sp : Sp} (F : FnG P w K mg base CX j f fd ps sp) (h : j ≤ k) : FnG P w K mg base CX k f fd ps sp :=
  ⟨F.many, fun g r => F.runs g (r.mono h)⟩
end
section
variable {X : Cx} {CX : CXT} {k : Nat} {f C : Addr} {fd : FuncData} {ps ks : List Str} {sp : Sp} {dvs : List V} {ds : List Value} {E : XK} {x m : Str} {p pos apos kpos : Pos} {e o : Expr} {es : List Expr} {kws : List Keyword} {ta : TE} {t tk : TA} {g : List Value → List Value → List Value} {gV : List V → List V → List V}
/-- what a call's end leaves -/
theorem end_call {pins : List (Addr × Obj)} {σ : L2.St} {H : Hp} {s : Shared} {Q : VK} (I : Inv X pins σ H s) (hx : Passes CX X E) {r : Result} {s2 : Shared} (h : CR CX X.stack X.prog X.w H s Q E r s2) :
    match r with
    | .ok (.ret u) => EP X pins σ Q u s2
    | .ok _ => False
    | .error e => X.xe e s2 := by
  cases r with
  | error e => exact hx pins σ H s e s2 I h
  | ok fl =>
    cases fl with
    | ret u => exact I.after h
    | next => exact h
    | brk => exact h
    | cont => exact h
theorem callG {pins : List (Addr × Obj)} {σ : L2.St} {H : Hp} {s : Shared} {Q : VK} {args : Args} {us : List Value} {vs : List V} (F : FnG X.prog X.w X.K X.mg X.base CX k f fd ps sp) (hg : Grd X.A) (hr : Room k X.A) (hx : Passes CX X E)
    (I : Inv X pins σ H s) (hb : us.length = ps.length → BindsTo s fd args (ps.zip us)) (r : Vals vs us) (h : sp vs H Q E) : wpAny (model X.prog X.w) X.A (call (.ref f) args.pos args.kw) (EP X pins σ Q) X.xe s := by
  have hl : us.length = ps.length := r.length.symm.trans (F.many h)
  refine wpAny_call (codeAny_mono (F.runs hg hr I.env0 (hb hl) r h) fun r2 s2 hq => ?_)
  have z := end_call I hx hq
  cases r2 with
  | error e => exact z
  | ok fl => cases fl <;> exact z
/-- f(a, ..) -/
theorem pe_callg (F : FnG X.prog X.w X.K X.mg X.base CX k f fd ps sp) (hgd : Grd X.A) (hr : Room k X.A) (hg : Gl X x) (hm : X.mg x = some (.ref f)) (hk : PySem.W.keepIn X.K (.ref f) = true) (hb : Binds X.K fd ps ds) (hd : Vals dvs ds) (hx : Passes CX X E)
    (ha : PA X (e :: es) t) (hdb : (x == ("__debug__" : Str)) = false := by decide) (he : starEach (e :: es) X.env = (false, eval e X.env) :: starEach es X.env := by rfl) (hpl : (backTo pos (starEach es X.env)).any (·.1) = false := by rfl) :
    PE X (.Call (.Name x p) (e :: es) [] pos) (tCall sp dvs E t) := by
  refine ⟨fun pins s σ H Q I h => wpAny_Call_Name_kw (ld_glob I hg hm ?_ hdb)⟩
  refine PySem.W.callWith_K (h₀ := X.base) I.ok.mod.kin hk (thn (ha.run pos pins s σ H _ I h) fun us s1 ⟨vs, H1, I1, r, q⟩ => ⟨I1.kIn, ?_⟩) he hpl
  exact callG (args := ⟨us, []⟩) (us := us ++ ds) F hgd hr hx I1 (hb s1 us I1.kIn) (r.append hd) q
/-- f(k = b, ..) -/
theorem pe_callKg0 (F : FnG X.prog X.w X.K X.mg X.base CX k f fd ps sp) (hgd : Grd X.A) (hr : Room k X.A) (hg : Gl X x) (hm : X.mg x = some (.ref f)) (hk : PySem.W.keepIn X.K (.ref f) = true) (hb : KBinds X.K fd ps ks g gV) (hx : Passes CX X E)
    (hkw : PK X kws tk) (hall : (backToKw pos (keywordEach kws X.env)).all (·.1.isSome) = true := by rfl) (hks : (backToKw pos (keywordEach kws X.env)).filterMap (·.1) = ks := by rfl)
    (hdb : (x == ("__debug__" : Str)) = false := by decide)
    (hpl : ((backTo pos (starEach [] X.env)).any (·.1) || (backToKw pos (keywordEach kws X.env)).any (·.1.isNone)) = false := by rfl) :
    PE X (.Call (.Name x p) [] kws pos) (tCallK sp gV E tNil tk) := by
  refine ⟨fun pins s σ H Q I h => wpAny_Call_Name_kw (ld_glob I hg hm ?_ hdb)⟩
  refine PySem.W.callWith_KW0 (h₀ := X.base) I.ok.mod.kin hk hall ?_ hpl
  refine thn (hkw.run pos pins s σ H _ I h) fun ws s2 ⟨zs, H2, I2, rz, q2⟩ => ⟨I2.kIn, ?_⟩
  rw [hks]
  exact callG (args := ⟨[], ks.zip ws⟩) F hgd hr hx I2 (hb.to s2 [] ws I2.kIn) (hb.rel .nil rz) q2
end
end DvF
set_option Elab.async false
set_option linter.all false
set_option maxRecDepth 100000
set_option maxHeartbeats 4000000
namespace Dv
open PySem PySem.Spec PyProof.Rows L2 DvR
section
variable {K : PySem.W.Frag} {M M' ms : Own} {G G0 G1 H H1 : Hp} {φ φ1 : Nat → List Addr} {σ : L2.St} {δ δ' : Env}
/-- fewer owners are asked for: the others' parts are seen -/
theorem Sta.split (s : Sta K M G H φ σ δ) (sub : ∀ i, ms i = true → M i = true) : ∃ G0, Sta K ms G0 H φ σ δ ∧ Ex G G0 ∧ (∀ a o, G0 a = some o → G a = some o ∨ ∃ i, M i = true ∧ a ∈ φ i) ∧ ∀ i, M i = true → ms i = false → ∀ a ∈ φ i, G0 a = H a := by
  classical
  let G0 : Hp := fun a => if ∃ i, M i = true ∧ ms i = false ∧ a ∈ φ i then H a else G a
  have pos : ∀ {a}, (∃ i, M i = true ∧ ms i = false ∧ a ∈ φ i) → G0 a = H a := fun h => if_pos h
  have neg : ∀ {a}, ¬ (∃ i, M i = true ∧ ms i = false ∧ a ∈ φ i) → G0 a = G a := fun h => if_neg h
  have ex : Ex G G0 := fun a o h => by
    by_cases c : ∃ i, M i = true ∧ ms i = false ∧ a ∈ φ i
    · rw [pos c]; exact s.sub a o h
    · rw [neg c]; exact h
  have tp : ∀ a o, H a = some o → ¬ Mut (some o) → G0 a = some o := fun a o h n => ex a o (s.tup a o h n)
  refine ⟨G0, ⟨fun a o h => ?_, fun i hi a ha => ?_, fun i hi => s.mt i (sub i hi), fun i hi => s.nd i (sub i hi), fun i j hi hj => s.dis i j (sub i hi) (sub j hj), fun i w hi => s.own i w (sub i hi), fun i w hi e => ?_, s.len, tp, fun q hq => by
    obtain ⟨t1, t2, t3⟩ := s.tb q hq
    refine ⟨?_, fun i hi => t2 i (sub i hi), t3⟩
    rw [neg ?_]
    · exact t1
    · rintro ⟨i, h1, _, h3⟩
      exact t2 i h1 h3⟩, ex, fun a o h => ?_, fun i h1 h2 a ha => pos ⟨i, h1, h2, ha⟩⟩
  · by_cases c : ∃ i, M i = true ∧ ms i = false ∧ a ∈ φ i
    · rw [pos c] at h; exact h
    · rw [neg c] at h; exact s.sub a o h
  · rw [neg ?_]
    · exact s.sep i (sub i hi) a ha
    · rintro ⟨j, h1, h2, h3⟩
      have n : i ≠ j := fun e => by subst e; rw [hi] at h2; cases h2
      exact s.dis i j (sub i hi) h1 n a ha h3
  · cases hm : M i with
    | true =>
      obtain ⟨v, e1, r⟩ := s.own i w hm e
      exact ⟨v, φ i, e1, Rp.frame (TupK.of tp) w v _ (fun a ha o h => by rw [pos ⟨i, hm, hi, ha⟩]; exact h) r⟩
    | false =>
      obtain ⟨v, A, e1, r⟩ := s.non i w hm e
      exact ⟨v, A, e1, r.mono ex⟩
  · by_cases c : ∃ i, M i = true ∧ ms i = false ∧ a ∈ φ i
    · obtain ⟨i, h1, _, h3⟩ := c
      exact .inr ⟨i, h1, h3⟩
    · rw [neg c] at h
      exact .inl h
/-- and back -/
theorem Sta.join {G01 : Hp} (s : Sta K M G H φ σ δ) (sub : ∀ i, ms i = true → M i = true) (s0 : Sta K ms G0 H φ σ δ) (x : Ex G G0) (y : ∀ a o, G0 a = some o → G a = some o ∨ ∃ i, M i = true ∧ a ∈ φ i) (z : ∀ i, M i = true → ms i = false → ∀ a ∈ φ i, G0 a = H a)
    (s1 : Sta K ms G01 H1 φ1 σ δ') (e : Evo ms G0 H φ ms G01 H1 φ1) (off : Off ms δ δ') :
    ∃ G1 φ2, Sta K M G1 H1 φ2 σ δ' ∧ Evo M G H φ M G1 H1 φ2 ∧ ∀ w v A, Rp K G01 w v A → Fresh G0 G01 A → Rp K G1 w v A ∧ Fresh G G1 A := by
  classical
  let φ2 : Nat → List Addr := fun i => if ms i = true then φ1 i else φ i
  let G1 : Hp := fun a => if ∃ i, M i = true ∧ a ∈ φ2 i then none else G01 a
  have pos : ∀ {a}, (∃ i, M i = true ∧ a ∈ φ2 i) → G1 a = none := fun h => if_pos h
  have neg : ∀ {a}, ¬ (∃ i, M i = true ∧ a ∈ φ2 i) → G1 a = G01 a := fun h => if_neg h
  have f1 : ∀ {i}, ms i = true → φ2 i = φ1 i := fun h => if_pos h
  have f2 : ∀ {i}, ms i = false → φ2 i = φ i := fun h => if_neg (by rw [h]; exact Bool.false_ne_true)
  -- what stands apart from the owners that were asked for is kept
  have kp : ∀ i, M i = true → ms i = false → ∀ a ∈ φ i, ∀ o, H a = some o → NT o → H1 a = some o := fun i h1 h2 a ha o h nt => e.keep a o h nt fun j hj hb => by
    have n : i ≠ j := fun q => by subst q; rw [h2] at hj; cases hj
    exact s.dis i j h1 (sub j hj) n a ha hb
  have mt2 : ∀ i, M i = true → ∀ a ∈ φ2 i, Mut (H1 a) := fun i hi a ha => by
    cases c : ms i with
    | true => rw [f1 c] at ha; exact s1.mt i c a ha
    | false =>
      rw [f2 c] at ha
      have m := s.mt i hi a ha
      obtain ⟨o, q⟩ := mut_some m
      rcases nt_or o with nt | ⟨ps, rfl⟩
      · rw [kp i hi c a ha o q nt]
        rw [q] at m
        exact m
      · obtain ⟨ps', q'⟩ := e.tbl a ps q
        rw [q']
        trivial
  have ex : Ex G G1 := fun a o h => by
    rw [neg ?_]
    · exact e.ex a o (x a o h)
    · rintro ⟨i, hi, ha⟩
      cases c : ms i with
      | true =>
        rw [f1 c] at ha
        have := s1.sep i c a ha
        rw [e.ex a o (x a o h)] at this
        cases this
      | false =>
        rw [f2 c] at ha
        have := s.sep i hi a ha
        rw [h] at this
        cases this
  have notOwn : ∀ a o, G01 a = some o → (∀ i, M i = true → ms i = false → a ∉ φ i) → G1 a = some o := fun a o h n => by
    rw [neg ?_]
    · exact h
    · rintro ⟨i, hi, ha⟩
      cases c : ms i with
      | true =>
        rw [f1 c] at ha
        have := s1.sep i c a ha
        rw [h] at this
        cases this
      | false =>
        rw [f2 c] at ha
        exact n i hi c ha
  have tp1 : ∀ a o, G01 a = some o → ¬ Mut (some o) → G1 a = some o := fun a o h n => notOwn a o h fun i hi c ha => n (by
    have := mt2 i hi a (by rw [f2 c]; exact ha)
    rwa [s1.sub a o h] at this)
  refine ⟨G1, φ2, ⟨fun a o h => ?_, fun i hi a ha => pos ⟨i, hi, ha⟩, mt2, fun i hi => ?_, fun i j hi hj n a ha => ?_, fun i w hi q => ?_, fun i w hi q => ?_, s1.len, fun a o h n => tp1 a o (s1.tup a o h n) n, fun q hq => by
    obtain ⟨t1, t2, t3⟩ := s1.tb q hq
    refine ⟨?_, fun i hi hz => ?_, t3⟩
    · by_cases c : ∃ i, M i = true ∧ q.2.1 ∈ φ2 i
      · exact pos c
      · rw [neg c]; exact t1
    · cases c : ms i with
      | true => rw [f1 c] at hz; exact t2 i c hz
      | false => rw [f2 c] at hz; exact (s.tb q hq).2.1 i hi hz⟩, ⟨ex, fun a o h nt n => e.keep a o h nt fun i hi => n i (sub i hi), e.tbl, fun a o h h2 => ?_, fun i hi a ha => ?_⟩, fun w v A r f => ?_⟩
  · by_cases c : ∃ i, M i = true ∧ a ∈ φ2 i
    · rw [pos c] at h; cases h
    · rw [neg c] at h; exact s1.sub a o h
  · cases c : ms i with
    | true => rw [f1 c]; exact s1.nd i c
    | false => rw [f2 c]; exact s.nd i hi
  · have cross : ∀ i j, ms i = true → M j = true → ms j = false → ∀ a ∈ φ1 i, a ∉ φ j := fun i j h1 h2 h3 a ha hb => by
      rcases e.nown i h1 a ha with q | ⟨k, hk, q⟩
      · obtain ⟨o, q2⟩ := mut_some (s.mt j h2 a hb)
        rw [q] at q2
        cases q2
      · have n : k ≠ j := fun e => by subst e; rw [hk] at h3; cases h3
        exact s.dis k j (sub k hk) h2 n a q hb
    cases c : ms i with
    | true =>
      rw [f1 c] at ha
      cases d : ms j with
      | true => rw [f1 d]; exact s1.dis i j c d n a ha
      | false => rw [f2 d]; exact cross i j c hj d a ha
    | false =>
      rw [f2 c] at ha
      cases d : ms j with
      | true => rw [f1 d]; exact fun hb => cross j i d hi c a hb ha
      | false => rw [f2 d]; exact s.dis i j hi hj n a ha
  · cases c : ms i with
    | true => rw [f1 c]; exact s1.own i w c q
    | false =>
      rw [f2 c]
      rw [off.2 i c] at q
      obtain ⟨v, e1, r⟩ := s.own i w hi q
      exact ⟨v, e1, Rp.frameN (s0.tupH e) w v _ (fun a ha o h nt => kp i hi c a ha o h nt) r⟩
  · have c : ms i = false := by
      cases c : ms i with
      | true => rw [sub i c] at hi; cases hi
      | false => rfl
    rw [off.2 i c] at q
    obtain ⟨v, A, e1, r⟩ := s.non i w hi q
    exact ⟨v, A, e1, r.mono ex⟩
  · have q1 : G01 a = some o := by
      by_cases c : ∃ i, M i = true ∧ a ∈ φ2 i
      · rw [pos c] at h2; cases h2
      · rw [neg c] at h2; exact h2
    cases q0 : G0 a with
    | none =>
      rcases e.new a o q0 q1 with q | ⟨i, hi, q⟩
      · exact .inl q
      · exact .inr ⟨i, sub i hi, q⟩
    | some u =>
      rcases y a u q0 with q | q
      · rw [h] at q; cases q
      · exact .inr q
  · cases c : ms i with
    | true =>
      rw [f1 c] at ha
      rcases e.nown i c a ha with q | ⟨k, hk, q⟩
      · exact .inl q
      · exact .inr ⟨k, sub k hk, q⟩
    | false =>
      rw [f2 c] at ha
      exact .inr ⟨i, hi, ha⟩
  · have st : ∀ a ∈ A, ∀ o, G01 a = some o → G1 a = some o := fun a ha o h => notOwn a o h fun i hi c hb => by
      have q := z i hi c a hb
      rw [(f.2 a ha).1] at q
      obtain ⟨o2, q2⟩ := mut_some (s.mt i hi a hb)
      rw [q2] at q
      cases q
    refine ⟨Rp.frame (TupK.of tp1) w v A st r, f.1, fun a ha => ⟨x.back (f.2 a ha).1, ?_⟩⟩
    have m := (f.2 a ha).2
    obtain ⟨o, q⟩ := mut_some m
    rw [st a ha o q]
    rw [q] at m
    exact m
/-- owners that hold nothing any more -/
theorem Sta.less (s : Sta K M G H φ σ δ) (sub : ∀ i, M' i = true → M i = true) (h : ∀ i w, M i = true → M' i = false → δ[i]? ≠ some (some w)) : Sta K M' G H φ σ δ :=
  ⟨s.sub, fun i hi => s.sep i (sub i hi), fun i hi => s.mt i (sub i hi), fun i hi => s.nd i (sub i hi), fun i j hi hj => s.dis i j (sub i hi) (sub j hj), fun i w hi => s.own i w (sub i hi), fun i w hi e => by
    cases c : M i with
    | true => exact absurd e (h i w c hi)
    | false => exact s.non i w c e, s.len, s.tup, fun q hq => ⟨(s.tb q hq).1, fun i hi => (s.tb q hq).2.1 i (sub i hi), (s.tb q hq).2.2⟩⟩
theorem Evo.less {G' H' : Hp} {φ' : Nat → List Addr} {M0 : Own} (e : Evo M G H φ M0 G' H' φ') (sub : ∀ i, M' i = true → M0 i = true) : Evo M G H φ M' G' H' φ' := ⟨e.ex, e.keep, e.tbl, e.new, fun i hi => e.nown i (sub i hi)⟩
/-- an owner's part becomes seen -/
theorem Sta.freeze (s : Sta K M G H φ σ δ) (sub : ∀ i, M' i = true → M i = true) : ∃ G', Sta K M' G' H φ σ δ ∧ Evo M G H φ M' G' H φ := by
  obtain ⟨G', s', x, y, z⟩ := s.split sub
  refine ⟨G', s', x, fun a o h _ _ => h, fun _ ps h => ⟨ps, h⟩, fun a o h h2 => ?_, fun i hi a ha => .inr ⟨i, sub i hi, ha⟩⟩
  rcases y a o h2 with q | q
  · rw [h] at q; cases q
  · exact .inr q
/-- a fresh value is stored: its slot becomes an owner -/
theorem Sta.store {x : Nat} {w : W} {v : V} {A : List Addr} (s : Sta K M G H φ σ δ) (x0 : Ex G0 G) (f : Fresh G0 G A) (r : Rp K G w v A) (hx : x < σ.length)
    (nb : ∀ i w, M i = false → i ≠ x → δ[i]? = some (some w) → ∃ v A, σ[i]? = some (some v) ∧ Rp K G0 w v A) :
    ∃ G' φ', Sta K (fun i => decide (i = x) || M i) G' H φ' (σ.set x (some v)) (δ.set x (some w)) ∧ Ex G0 G' ∧ (∀ a o, G' a = some o → G a = some o) ∧ (∀ i a, a ∈ φ' i → a ∈ A ∨ (i ≠ x ∧ a ∈ φ i)) ∧ (∀ a o, G a = some o → a ∉ A → G' a = some o) := by
  classical
  let G' : Hp := fun a => if a ∈ A then none else G a
  let φ' : Nat → List Addr := fun i => if i = x then A else φ i
  have f1 : φ' x = A := if_pos rfl
  have f2 : ∀ {i}, i ≠ x → φ' i = φ i := fun h => if_neg h
  have sa : ∀ a ∈ A, ∃ o, G a = some o := Rp.fp w v A r
  have hm : ∀ a ∈ A, Mut (H a) := fun a ha => by
    have m := (f.2 a ha).2
    obtain ⟨o, q⟩ := mut_some m
    rw [s.sub a o q]
    rw [q] at m
    exact m
  have mx : ∀ {i}, (decide (i = x) || M i) = true → i ≠ x → M i = true := fun h n => by
    rw [decide_eq_false n, Bool.false_or] at h
    exact h
  have ex : Ex G0 G' := fun a o h => by
    show (if a ∈ A then none else G a) = some o
    rw [if_neg (fun ha => by rw [(f.2 a ha).1] at h; cases h)]
    exact x0 a o h
  have back : ∀ a o, G' a = some o → G a = some o := fun a o h => by
    have h' : (if a ∈ A then none else G a) = some o := h
    split at h'
    · cases h'
    · exact h'
  refine ⟨G', φ', ⟨fun a o h => s.sub a o (back a o h), fun i hi a ha => ?_, fun i hi a ha => ?_, fun i hi => ?_, fun i j hi hj n a ha => ?_, fun i y hi e => ?_, fun i y hi e => ?_, by rw [List.length_set, List.length_set]; exact s.len, fun a o h n => ?_, fun q hq => by
    obtain ⟨t1, t2, t3⟩ := s.tb q hq
    refine ⟨?_, fun i hi hz => ?_, t3⟩
    · show (if q.2.1 ∈ A then none else G q.2.1) = none
      split
      · rfl
      · exact t1
    · by_cases c : i = x
      · subst c
        rw [f1] at hz
        obtain ⟨o, e⟩ := sa _ hz
        rw [t1] at e
        cases e
      · rw [f2 c] at hz
        exact t2 i (mx hi c) hz⟩, ex, back, fun i a ha => ?_, fun a o h n => by
    show (if a ∈ A then none else G a) = some o
    rw [if_neg n]
    exact h⟩
  · show (if a ∈ A then none else G a) = none
    by_cases c : i = x
    · subst c
      rw [f1] at ha
      rw [if_pos ha]
    · rw [f2 c] at ha
      split
      · rfl
      · exact s.sep i (mx hi c) a ha
  · by_cases c : i = x
    · subst c
      rw [f1] at ha
      exact hm a ha
    · rw [f2 c] at ha
      exact s.mt i (mx hi c) a ha
  · by_cases c : i = x
    · subst c
      rw [f1]
      exact f.1
    · rw [f2 c]
      exact s.nd i (mx hi c)
  · have cross : ∀ j, j ≠ x → M j = true → ∀ a ∈ A, a ∉ φ j := fun j nj hj a ha hb => by
      obtain ⟨o, q⟩ := sa a ha
      rw [s.sep j hj a hb] at q
      cases q
    by_cases c : i = x
    · subst c
      rw [f1] at ha
      have nj : j ≠ i := fun e => n e.symm
      rw [f2 nj]
      exact cross j nj (mx hj nj) a ha
    · rw [f2 c] at ha
      by_cases d : j = x
      · subst d
        rw [f1]
        exact fun hb => cross i c (mx hi c) a hb ha
      · rw [f2 d]
        exact s.dis i j (mx hi c) (mx hj d) n a ha
  · by_cases c : i = x
    · subst c
      have hd : i < δ.length := by rw [← s.len]; exact hx
      rw [List.getElem?_set_self hd] at e
      cases e
      refine ⟨v, List.getElem?_set_self hx, ?_⟩
      rw [f1]
      exact r.mono s.sub
    · rw [List.getElem?_set_ne (fun e => c e.symm)] at e
      obtain ⟨v', e1, r1⟩ := s.own i y (mx hi c) e
      refine ⟨v', by rw [List.getElem?_set_ne (fun e => c e.symm)]; exact e1, ?_⟩
      rw [f2 c]
      exact r1
  · have c : i ≠ x := fun e => by rw [decide_eq_true e] at hi; cases hi
    have mi : M i = false := by rw [decide_eq_false c, Bool.false_or] at hi; exact hi
    rw [List.getElem?_set_ne (fun e => c e.symm)] at e
    obtain ⟨v', B, e1, r1⟩ := nb i y mi c e
    exact ⟨v', B, by rw [List.getElem?_set_ne (fun e => c e.symm)]; exact e1, r1.mono ex⟩
  · have q := s.tup a o h n
    show (if a ∈ A then none else G a) = some o
    rw [if_neg (fun ha => n (by have := hm a ha; rwa [h] at this))]
    exact q
  · by_cases c : i = x
    · subst c
      rw [f1] at ha
      exact .inl ha
    · rw [f2 c] at ha
      exact .inr ⟨c, ha⟩
/-- a value that is seen elsewhere is stored -/
theorem Sta.see {x : Nat} {w : W} {v : V} {A : List Addr} (s : Sta K M G H φ σ δ) (r : Rp K G w v A) (hx : x < σ.length) :
    Sta K (fun i => !decide (i = x) && M i) G H φ (σ.set x (some v)) (δ.set x (some w)) := by
  have mx : ∀ {i}, (!decide (i = x) && M i) = true → i ≠ x ∧ M i = true := fun {i} h => by
    obtain ⟨h1, h2⟩ := Bool.and_eq_true_iff.mp h
    refine ⟨fun e => ?_, h2⟩
    rw [decide_eq_true e] at h1
    cases h1
  refine ⟨s.sub, fun i hi => s.sep i (mx hi).2, fun i hi => s.mt i (mx hi).2, fun i hi => s.nd i (mx hi).2, fun i j hi hj => s.dis i j (mx hi).2 (mx hj).2, fun i y hi e => ?_, fun i y hi e => ?_, by rw [List.length_set, List.length_set]; exact s.len, s.tup, fun q hq => ⟨(s.tb q hq).1, fun i hi => (s.tb q hq).2.1 i (mx hi).2, (s.tb q hq).2.2⟩⟩
  · have c := (mx hi).1
    rw [List.getElem?_set_ne (fun e => c e.symm)] at e ⊢
    exact s.own i y (mx hi).2 e
  · by_cases c : i = x
    · subst c
      have hd : i < δ.length := by rw [← s.len]; exact hx
      rw [List.getElem?_set_self hd] at e
      cases e
      exact ⟨v, A, List.getElem?_set_self hx, r⟩
    · have mi : M i = false := by rw [decide_eq_false c, Bool.not_false, Bool.true_and] at hi; exact hi
      rw [List.getElem?_set_ne (fun e => c e.symm)] at e ⊢
      exact s.non i y mi e
end
end Dv
set_option Elab.async false
set_option linter.all false
set_option maxRecDepth 100000
set_option maxHeartbeats 4000000
namespace Dv
open PySem PySem.Spec PyProof.Rows L2 DvR
section
variable {K : PySem.W.Frag}
/-- J walks the items ws wherever Gj stands -/
def Walks (K : PySem.W.Frag) (Gj : Hp) (J : It) (ws : List W) : Prop :=
  ∀ {M G H φ σ δ}, Sta K M G H φ σ δ → Ex Gj G → ∀ i, (ws.length ≤ i → J.stop i H) ∧
    ∀ w, ws[i]? = some w → J.go i H ∧ ∀ x H', J.yld i H x H' → ∃ G' A, Sta K M G' H' φ σ δ ∧ Evo M G H φ M G' H' φ ∧ Rp K G' w x A
abbrev DenI := Own → Env → Option (List W × Env)
structure Si (K : PySem.W.Frag) (t : TI) (f : DenI) : Prop where
  off : ∀ {M δ r}, f M δ = some r → Off M δ r.2
  run : ∀ {M G H φ σ δ r}, Sta K M G H φ σ δ → f M δ = some r → ∀ R : It → Hp → Prop, (∀ J G' H' φ', Sta K M G' H' φ' σ r.2 → Evo M G H φ M G' H' φ' → Walks K G' J r.1 → R J H') → t σ H R
theorem walks_seq {Gj : Hp} {a : Addr} {vs : List V} {ws : List W} {A : List Addr} (h : SqL K Gj a vs) (r : Rps K Gj ws vs A) : Walks K Gj (Itl K a) ws := fun {M G H φ σ δ} s x i => by
  have hH : SqL K H a vs := by
    rcases sq_ex (x.trans s.sub) (.inl h) with z | z
    · exact z
    · rcases h with h | h
      · exact .inl (rd_ex (fun o q => (x.trans s.sub) a o q) h)
      · exact .inr h
  refine ⟨fun hi => ⟨vs, hH, by rw [← r.len]; exact hi⟩, fun w e => ?_⟩
  obtain ⟨v, B, e1, r1, _⟩ := r.get e
  refine ⟨⟨vs, v, hH, e1⟩, fun y H' q => ?_⟩
  obtain ⟨rfl, q⟩ := q
  have ey : y = v := Option.some.inj ((q vs hH).symm.trans e1)
  subst ey
  exact ⟨G, B, s, Evo.refl, r1.mono x⟩
theorem walks_tup {Gj : Hp} {a : Addr} {vs : List V} {ws : List W} {A : List Addr} (h : SqT K Gj a vs) (r : Rps K Gj ws vs A) : Walks K Gj (Itt K a) ws := fun {M G H φ σ δ} s x i => by
  have hH : SqT K H a vs := sqt_ex (x.trans s.sub) h
  refine ⟨fun hi => ⟨vs, hH, by rw [← r.len]; exact hi⟩, fun w e => ?_⟩
  obtain ⟨v, B, e1, r1, _⟩ := r.get e
  refine ⟨⟨vs, v, hH, e1⟩, fun y H' q => ?_⟩
  obtain ⟨rfl, q⟩ := q
  have ey : y = v := Option.some.inj ((q vs hH).symm.trans e1)
  subst ey
  exact ⟨G, B, s, Evo.refl, r1.mono x⟩
/-- lists and tuples alike -/
def iAny (K : PySem.W.Frag) (tl : TE) : TI := fun σ H R => tl σ H fun x H1 => ∃ a, x = .ref a ∧ (((∃ xs, SqL K H1 a xs) ∧ R (Itl K a) H1) ∨ ((∃ xs, SqT K H1 a xs) ∧ R (Itt K a) H1))
theorem pi_any {X : Cx} {tg l : Expr} {tl : TE} (hl : PE X l tl) : PI X tg l (iAny X.K tl) := by
  refine ⟨fun pins s σ H R I h => ?_⟩
  refine thn (hl.run pins s σ H _ I h) fun v s1 ⟨x, H1, I1, r1, a, e, q⟩ => ?_
  subst e
  cases r1
  rcases q with ⟨⟨xs, hq⟩, q⟩ | ⟨⟨xs, hq⟩, q⟩
  · obtain ⟨its, rv, p, hz⟩ := I1.list hq
    refine wpAny_pyIter_list p.isList ?_
    refine ⟨s1.heap.objs.size, [s1.heap.objs.size], _, _, H1, rfl, I1.kept (t' := s1.toks) fun b o e => Heap.get?_push_of_some _ e, turn_list a _, ⟨_, Heap.get?_push_size _ rfl, rfl, rfl⟩, fun b hb => ?_, q⟩
    obtain rfl : b = s1.heap.objs.size := by simpa using hb
    exact I1.fpOk (Nat.le_refl _) (I1.hok.fresh (Nat.le_refl _))
  · obtain ⟨its, rv, p, hz⟩ := I1.tuple hq
    refine wpAny_pyIter_tuple (show s1.heap.IsTuple a its.toArray from p) ?_
    refine ⟨s1.heap.objs.size, [s1.heap.objs.size], _, _, H1, rfl, I1.kept (t' := s1.toks) fun b o e => Heap.get?_push_of_some _ e, turn_tuple a _, ⟨_, Heap.get?_push_size _ rfl, rfl, rfl⟩, fun b hb => ?_, q⟩
    obtain rfl : b = s1.heap.objs.size := by simpa using hb
    exact I1.fpOk (Nat.le_refl _) (I1.hok.fresh (Nat.le_refl _))
def iItems (f : Den) : DenI := fun M δ => (f M δ).bind fun r => (itemsOf r.1).map fun ws => (ws, r.2.2)
theorem si_any {te : TE} {f : Den} (ha : Sd K te f) : Si K (iAny K te) (iItems f) := by
  refine ⟨fun {M δ r} e => ?_, fun {M G H φ σ δ r} s e R P => ?_⟩
  · unfold iItems at e
    obtain ⟨r1, h1, e⟩ := Option.bind_eq_some_iff.mp e
    obtain ⟨ws, h2, e⟩ := Option.map_eq_some_iff.mp e
    have o1 := ha.off h1
    cases e
    exact o1
  · unfold iItems at e
    obtain ⟨⟨w, fr, δ1⟩, h1, e⟩ := Option.bind_eq_some_iff.mp e
    obtain ⟨ws, h2, e⟩ := Option.map_eq_some_iff.mp e
    cases e
    refine ha.run s h1 _ fun v1 G1 H1 φ1 A1 s1 e1 q1 _ => ?_
    obtain ⟨a, vs, B, rfl, hq, r1⟩ := items_rel h2 q1
    rcases hq with hq | hq
    · exact ⟨a, rfl, .inl ⟨⟨vs, (sq_ex s1.sub (.inl hq)).elim (fun z => z) fun z => by
        rcases hq with hq | hq
        · exact .inl (rd_ex (fun o q => s1.sub a o q) hq)
        · exact .inr hq⟩, P _ G1 H1 φ1 s1 e1 (walks_seq hq r1)⟩⟩
    · exact ⟨a, rfl, .inr ⟨⟨vs, sqt_ex s1.sub hq⟩, P _ G1 H1 φ1 s1 e1 (walks_tup hq r1)⟩⟩
def rangeW (lo : Int) (n : Nat) : List W := (List.range n).map fun i => W.int (lo + (i : Nat))
theorem walks_rng {Gj : Hp} {lo : Int} {n : Nat} : Walks K Gj (Itr lo n) (rangeW lo n) := fun {M G H φ σ δ} s x i => by
  have ln : (rangeW lo n).length = n := by unfold rangeW; rw [List.length_map, List.length_range]
  refine ⟨fun hi => by rw [ln] at hi; exact hi, fun w e => ?_⟩
  have hi : i < n := by
    have := (List.getElem?_eq_some_iff.mp e).1
    rw [ln] at this
    exact this
  refine ⟨hi, fun y H' q => ?_⟩
  obtain ⟨rfl, rfl⟩ := q
  unfold rangeW at e
  rw [List.getElem?_map, List.getElem?_range hi] at e
  cases e
  exact ⟨G, [], s, Evo.refl, rp_int⟩
def cRng (i j : Int) : Bool := decide (-(2 ^ 62) ≤ i) && decide (i < 2 ^ 62) && decide (-(2 ^ 62) ≤ j) && decide (j < 2 ^ 62)
theorem cRng_ok {i j : Int} (h : cRng i j = true) : -(2 ^ 62) ≤ i ∧ i < 2 ^ 62 ∧ -(2 ^ 62) ≤ j ∧ j < 2 ^ 62 := by
  unfold cRng at h
  simp only [Bool.and_eq_true, decide_eq_true_eq] at h
  exact ⟨h.1.1.1, h.1.1.2, h.1.2, h.2⟩
def iR1 (g : DenA) : DenI := fun M δ => (g M δ).bind fun r => match r.1 with
  | [.int j] => if cRng 0 j then some (rangeW 0 j.toNat, r.2.2) else none
  | _ => none
def iR2 (g : DenA) : DenI := fun M δ => (g M δ).bind fun r => match r.1 with
  | [.int i, .int j] => if cRng i j then some (rangeW i (j - i).toNat, r.2.2) else none
  | _ => none
theorem rps_one {G : Hp} {a : W} {vs : List V} {A : List Addr} (q : Rps K G [a] vs A) : ∃ x B, vs = [x] ∧ Rp K G a x B := by
  unfold Rps at q
  obtain ⟨v, vr, B, C, rfl, rfl, h1, h2⟩ := q
  unfold Rps at h2
  obtain ⟨rfl, rfl⟩ := h2
  exact ⟨v, B, rfl, h1⟩
theorem si_r1 {t : TA} {g : DenA} (ha : Sa K t g) : Si K (iRng1 t) (iR1 g) := by
  refine ⟨fun {M δ r} e => ?_, fun {M G H φ σ δ r} s e R P => ?_⟩
  · unfold iR1 at e
    obtain ⟨r1, h1, e⟩ := Option.bind_eq_some_iff.mp e
    have o1 := ha.off h1
    split at e
    · split at e
      · cases e; exact o1
      · cases e
    · cases e
  · unfold iR1 at e
    obtain ⟨⟨ws, fr, δ1⟩, h1, e⟩ := Option.bind_eq_some_iff.mp e
    refine ha.run s h1 _ fun vs G1 H1 φ1 A1 s1 e1 q1 _ => ?_
    split at e
    · rename_i j ew
      have ew' : ws = [.int j] := ew
      subst ew'
      split at e
      · rename_i hc
        cases e
        obtain ⟨c1, c2, c3, c4⟩ := cRng_ok hc
        obtain ⟨x, B, rfl, h⟩ := rps_one q1
        unfold Rp at h
        exact ⟨j, by rw [h.1], c3, c4, P _ G1 H1 φ1 s1 e1 walks_rng⟩
      · cases e
    · cases e
theorem si_r2 {t : TA} {g : DenA} (ha : Sa K t g) : Si K (iRng2 t) (iR2 g) := by
  refine ⟨fun {M δ r} e => ?_, fun {M G H φ σ δ r} s e R P => ?_⟩
  · unfold iR2 at e
    obtain ⟨r1, h1, e⟩ := Option.bind_eq_some_iff.mp e
    have o1 := ha.off h1
    split at e
    · split at e
      · cases e; exact o1
      · cases e
    · cases e
  · unfold iR2 at e
    obtain ⟨⟨ws, fr, δ1⟩, h1, e⟩ := Option.bind_eq_some_iff.mp e
    refine ha.run s h1 _ fun vs G1 H1 φ1 A1 s1 e1 q1 _ => ?_
    split at e
    · rename_i i j ew
      have ew' : ws = [.int i, .int j] := ew
      subst ew'
      split at e
      · rename_i hc
        cases e
        obtain ⟨x, y, B, C, rfl, h, h'⟩ := rps_two q1
        unfold Rp at h h'
        exact ⟨i, j, by rw [h.1, h'.1], cRng_ok hc, P _ G1 H1 φ1 s1 e1 walks_rng⟩
      · cases e
    · cases e
def pairsW (xs ys : List W) : List W := (xs.zip ys).map fun p => W.tup [p.1, p.2]
theorem step_pair {M : Own} {G H : Hp} {φ : Nat → List Addr} {σ : L2.St} {δ : Env} {T : Addr} {a b : W} {x y : V} {A B : List Addr} (s : Sta K M G H φ σ δ) (hT : H T = none) (ra : Rp K G a x A) (rb : Rp K G b y B) :
    ∃ G' C, Sta K M G' (upd H T (.tup [x, y])) φ σ δ ∧ Evo M G H φ M G' (upd H T (.tup [x, y])) φ ∧ Rp K G' (.tup [a, b]) (.ref T) C := by
  have hg := s.sub.back hT
  refine ⟨_, A ++ (B ++ []), s.laid hT, Evo.laid s.sub hT, ?_⟩
  unfold Rp
  exact ⟨T, [x, y], rfl, upd_same, Rps.cons (ra.mono (Ex.new hg)) (Rps.cons (rb.mono (Ex.new hg)) Rps.nil)⟩
theorem zip_get {xs ys : List W} {i : Nat} {w : W} (e : (pairsW xs ys)[i]? = some w) : ∃ a b, xs[i]? = some a ∧ ys[i]? = some b ∧ w = .tup [a, b] := by
  unfold pairsW at e
  rw [List.getElem?_map] at e
  obtain ⟨⟨a, b⟩, h, rfl⟩ := Option.map_eq_some_iff.mp e
  obtain ⟨h1, h2⟩ := List.getElem?_zip_eq_some.mp h
  exact ⟨a, b, h1, h2, rfl⟩
theorem pairs_len (xs ys : List W) : (pairsW xs ys).length = min xs.length ys.length := by unfold pairsW; rw [List.length_map, List.length_zip]
theorem sqL_up {G H : Hp} {a : Addr} {vs : List V} (e : Ex G H) (h : SqL K G a vs) : SqL K H a vs := by
  rcases h with h | h
  · exact .inl (rd_ex (fun o q => e a o q) h)
  · exact .inr h
theorem walks_zipL {Gj : Hp} {a b : Addr} {vs us : List V} {xs ys : List W} {A B : List Addr} (h : SqL K Gj a vs) (r : Rps K Gj xs vs A) (h' : SqL K Gj b us) (r' : Rps K Gj ys us B) : Walks K Gj (Itz K a b) (pairsW xs ys) := fun {M G H φ σ δ} s x i => by
  have h1 := sqL_up (x.trans s.sub) h
  have h2 := sqL_up (x.trans s.sub) h'
  refine ⟨fun hi => ⟨vs, us, h1, h2, ?_⟩, fun w e => ?_⟩
  · rw [pairs_len] at hi
    rw [← r.len, ← r'.len]
    omega
  · obtain ⟨p, q, e1, e2, rfl⟩ := zip_get e
    obtain ⟨v, B1, g1, r1, _⟩ := r.get e1
    obtain ⟨u, B2, g2, r2, _⟩ := r'.get e2
    refine ⟨⟨vs, us, v, u, h1, h2, g1, g2⟩, fun y H' q => ?_⟩
    obtain ⟨T, x1, x2, rfl, hT, rfl, f1, f2⟩ := q
    obtain rfl : x1 = v := Option.some.inj ((f1 vs h1).symm.trans g1)
    obtain rfl : x2 = u := Option.some.inj ((f2 us h2).symm.trans g2)
    exact step_pair s hT (r1.mono x) (r2.mono x)
theorem walks_zipT {Gj : Hp} {a b : Addr} {vs us : List V} {xs ys : List W} {A B : List Addr} (h : SqT K Gj a vs) (r : Rps K Gj xs vs A) (h' : SqT K Gj b us) (r' : Rps K Gj ys us B) : Walks K Gj (RZ.ItzT K a b) (pairsW xs ys) := fun {M G H φ σ δ} s x i => by
  have h1 := sqt_ex (x.trans s.sub) h
  have h2 := sqt_ex (x.trans s.sub) h'
  refine ⟨fun hi => ⟨vs, us, h1, h2, ?_⟩, fun w e => ?_⟩
  · rw [pairs_len] at hi
    rw [← r.len, ← r'.len]
    omega
  · obtain ⟨p, q, e1, e2, rfl⟩ := zip_get e
    obtain ⟨v, B1, g1, r1, _⟩ := r.get e1
    obtain ⟨u, B2, g2, r2, _⟩ := r'.get e2
    refine ⟨⟨vs, us, v, u, h1, h2, g1, g2⟩, fun y H' q => ?_⟩
    obtain ⟨T, x1, x2, rfl, hT, rfl, f1, f2⟩ := q
    obtain rfl : x1 = v := Option.some.inj ((f1 vs h1).symm.trans g1)
    obtain rfl : x2 = u := Option.some.inj ((f2 us h2).symm.trans g2)
    exact step_pair s hT (r1.mono x) (r2.mono x)
def kZip : List W → Option (List W)
  | [.lst xs, .lst ys] => some (pairsW xs ys)
  | [.tup xs, .tup ys] => some (pairsW xs ys)
  | _ => none
def iZipW (g : DenA) : DenI := fun M δ => (g M δ).bind fun r => (kZip r.1).map fun ws => (ws, r.2.2)
theorem si_zip {t : TA} {g : DenA} (ha : Sa K t g) : Si K (RZ.iZipA K t) (iZipW g) := by
  refine ⟨fun {M δ r} e => ?_, fun {M G H φ σ δ r} s e R P => ?_⟩
  · unfold iZipW at e
    obtain ⟨r1, h1, e⟩ := Option.bind_eq_some_iff.mp e
    obtain ⟨ws, h2, e⟩ := Option.map_eq_some_iff.mp e
    have o1 := ha.off h1
    cases e
    exact o1
  · unfold iZipW at e
    obtain ⟨⟨as, fr, δ1⟩, h1, e⟩ := Option.bind_eq_some_iff.mp e
    obtain ⟨ws, h2, e⟩ := Option.map_eq_some_iff.mp e
    cases e
    refine ha.run s h1 _ fun vs G1 H1 φ1 A1 s1 e1 q1 _ => ?_
    unfold kZip at h2
    split at h2
    · rename_i xs ys ew
      have ew' : as = [.lst xs, .lst ys] := ew
      subst ew'
      cases h2
      obtain ⟨x, y, B, C, rfl, h, h'⟩ := rps_two q1
      unfold Rp at h h'
      obtain ⟨a, us, B1, rfl, ha, _, r1⟩ := h
      obtain ⟨b, us2, B2, rfl, hb, _, r2⟩ := h'
      exact ⟨a, b, us, us2, rfl, .inl ⟨SqL.of (s1.sub _ _ ha), SqL.of (s1.sub _ _ hb), P _ G1 H1 φ1 s1 e1 (walks_zipL (SqL.of ha) r1 (SqL.of hb) r2)⟩⟩
    · rename_i xs ys ew
      have ew' : as = [.tup xs, .tup ys] := ew
      subst ew'
      cases h2
      obtain ⟨x, y, B, C, rfl, h, h'⟩ := rps_two q1
      unfold Rp at h h'
      obtain ⟨a, us, rfl, ha, r1⟩ := h
      obtain ⟨b, us2, rfl, hb, r2⟩ := h'
      exact ⟨a, b, us, us2, rfl, .inr ⟨(SqT.of (s1.sub _ _ ha)), (SqT.of (s1.sub _ _ hb)), P _ G1 H1 φ1 s1 e1 (walks_zipT (SqT.of ha) r1 (SqT.of hb) r2)⟩⟩
    · cases h2
def enumW (ws : List W) : List W := pairsW (rangeW 0 ws.length) ws
theorem range_get {n i : Nat} {lo : Int} {w : W} (e : (rangeW lo n)[i]? = some w) : i < n ∧ w = .int (lo + (i : Nat)) := by
  unfold rangeW at e
  rw [List.getElem?_map] at e
  obtain ⟨j, h, rfl⟩ := Option.map_eq_some_iff.mp e
  have hi : i < n := by
    have := (List.getElem?_eq_some_iff.mp h).1
    rw [List.length_range] at this
    exact this
  rw [List.getElem?_range hi] at h
  cases h
  exact ⟨hi, rfl⟩
def iEnumW (g : DenA) : DenI := fun M δ => (g M δ).bind fun r => match r.1 with
  | [.lst ws] => some (enumW ws, r.2.2)
  | _ => none
abbrev DenG := W → Env → Option Env
structure Sg (K : PySem.W.Frag) (g : TG) (f : DenG) (xs : List Nat) : Prop where
  run : ∀ {M G H φ σ δ w v A δ'}, Sta K M G H φ σ δ → (∀ x ∈ xs, M x = false) → Rp K G w v A → f w δ = some δ' → ∀ Q : L2.St → Hp → Prop, (∀ σ', Sta K M G H φ σ' δ' → (∀ i, i ∉ xs → σ'[i]? = σ[i]? ∧ δ'[i]? = δ[i]?) → Q σ' H) → g v σ H Q
structure Sgs (K : PySem.W.Frag) (g : TGs) (f : List W → Env → Option Env) (xs : List Nat) : Prop where
  run : ∀ {M G H φ σ δ ws vs A δ'}, Sta K M G H φ σ δ → (∀ x ∈ xs, M x = false) → Rps K G ws vs A → f ws δ = some δ' → ∀ Q : L2.St → Hp → Prop, (∀ σ', Sta K M G H φ σ' δ' → (∀ i, i ∉ xs → σ'[i]? = σ[i]? ∧ δ'[i]? = δ[i]?) → Q σ' H) → g vs σ H Q
def gNm (i : Nat) : DenG := fun w δ => if i < δ.length then some (δ.set i (some w)) else none
def gNilW : List W → Env → Option Env
  | [], δ => some δ
  | _, _ => none
def gConsW (f : DenG) (g : List W → Env → Option Env) : List W → Env → Option Env
  | w :: ws, δ => (f w δ).bind fun δ1 => g ws δ1
  | _, _ => none
def gTp (n : Nat) (g : List W → Env → Option Env) : DenG := fun w δ => match w with
  | .tup ws => if ws.length = n then g ws δ else none
  | _ => none
theorem sg_name (i : Nat) : Sg K (gName i) (gNm i) [i] := by
  refine ⟨fun {M G H φ σ δ w v A δ'} s hm r e Q P => ?_⟩
  unfold gNm at e
  split at e
  · rename_i hl
    cases e
    have mi := hm i (List.mem_singleton.mpr rfl)
    have s' := s.see r (x := i) (by rw [s.len]; exact hl)
    have eM : (fun j => !decide (j = i) && M j) = M := by
      funext j
      by_cases c : j = i
      · subst c; rw [mi]; simp
      · rw [decide_eq_false c]; rfl
    rw [eM] at s'
    refine P _ s' fun j hj => ?_
    have n : i ≠ j := fun z => hj (List.mem_singleton.mpr z.symm)
    exact ⟨List.getElem?_set_ne n, List.getElem?_set_ne n⟩
  · cases e
theorem sgs_nil : Sgs K gNil gNilW [] := by
  refine ⟨fun {M G H φ σ δ ws vs A δ'} s _ r e Q P => ?_⟩
  unfold gNilW at e
  split at e
  · cases e
    unfold Rps at r
    exact ⟨r.1, P σ s fun i _ => ⟨rfl, rfl⟩⟩
  · cases e
theorem sgs_cons {g : TG} {gs : TGs} {f : DenG} {fs : List W → Env → Option Env} {xs ys : List Nat} (h : Sg K g f xs) (hs : Sgs K gs fs ys) : Sgs K (gCons g gs) (gConsW f fs) (xs ++ ys) := by
  refine ⟨fun {M G H φ σ δ ws vs A δ'} s hm r e Q P => ?_⟩
  unfold gConsW at e
  split at e
  · rename_i w ws'
    obtain ⟨δ1, h1, e⟩ := Option.bind_eq_some_iff.mp e
    unfold Rps at r
    obtain ⟨v, vr, B, C, rfl, rfl, r1, r2⟩ := r
    refine ⟨v, vr, rfl, h.run s (fun x hx => hm x (List.mem_append_left _ hx)) r1 h1 _ fun σ1 s1 k1 => ?_⟩
    refine hs.run s1 (fun x hx => hm x (List.mem_append_right _ hx)) r2 e Q fun σ2 s2 k2 => P σ2 s2 fun i hi => ?_
    have a1 := k1 i fun z => hi (List.mem_append_left _ z)
    have a2 := k2 i fun z => hi (List.mem_append_right _ z)
    exact ⟨a2.1.trans a1.1, a2.2.trans a1.2⟩
  · cases e
theorem sg_tup {gs : TGs} {fs : List W → Env → Option Env} {xs : List Nat} {n : Nat} (hs : Sgs K gs fs xs) : Sg K (gTup K n gs) (gTp n fs) xs := by
  refine ⟨fun {M G H φ σ δ w v A δ'} s hm r e Q P => ?_⟩
  unfold gTp at e
  split at e
  · rename_i ws
    split at e
    · rename_i hl
      unfold Rp at r
      obtain ⟨a, vs, rfl, ha, r1⟩ := r
      exact ⟨a, vs, rfl, (SqT.of (s.sub _ _ ha)), by rw [← r1.len]; exact hl, hs.run s hm r1 e Q P⟩
    · cases e
  · cases e
end
end Dv
set_option Elab.async false
set_option linter.all false
set_option maxRecDepth 100000
set_option maxHeartbeats 4000000
namespace Dv
open PySem PySem.Spec PyProof.Rows L2 DvR
def wipeE (δ : Env) : List Nat → Env
  | [] => δ
  | v :: vs => (wipeE δ vs).set v none
def unwipe (δ0 δ : Env) : List Nat → Env
  | [] => δ
  | v :: vs => (unwipe δ0 δ vs).set v (δ0.getD v none)
theorem wipeE_len (δ : Env) : ∀ vs : List Nat, (wipeE δ vs).length = δ.length
  | [] => rfl
  | v :: vs => by unfold wipeE; rw [List.length_set, wipeE_len δ vs]
theorem unwipe_len (δ0 δ : Env) : ∀ vs : List Nat, (unwipe δ0 δ vs).length = δ.length
  | [] => rfl
  | v :: vs => by unfold unwipe; rw [List.length_set, unwipe_len δ0 δ vs]
theorem wipeE_out (δ : Env) {i : Nat} : ∀ {vs : List Nat}, i ∉ vs → (wipeE δ vs)[i]? = δ[i]?
  | [], _ => rfl
  | v :: vs, h => by
    rw [List.mem_cons, not_or] at h
    unfold wipeE
    rw [List.getElem?_set_ne (fun e => h.1 e.symm), wipeE_out δ h.2]
theorem wipeE_in (δ : Env) {i : Nat} {w : W} : ∀ {vs : List Nat}, i ∈ vs → (wipeE δ vs)[i]? ≠ some (some w)
  | v :: vs, h => by
    unfold wipeE
    by_cases c : v = i
    · subst c
      intro e
      by_cases hl : v < (wipeE δ vs).length
      · rw [List.getElem?_set_self hl] at e; cases e
      · rw [List.getElem?_eq_none (by rw [List.length_set]; omega)] at e; cases e
    · rw [List.getElem?_set_ne c]
      rcases List.mem_cons.mp h with e | h
      · exact absurd e.symm c
      · exact wipeE_in δ h
theorem unwipe_out (δ0 δ : Env) {i : Nat} : ∀ {vs : List Nat}, i ∉ vs → (unwipe δ0 δ vs)[i]? = δ[i]?
  | [], _ => rfl
  | v :: vs, h => by
    rw [List.mem_cons, not_or] at h
    unfold unwipe
    rw [List.getElem?_set_ne (fun e => h.1 e.symm), unwipe_out δ0 δ h.2]
theorem unwipe_in (δ0 δ : Env) {i : Nat} (hl : i < δ.length) : ∀ {vs : List Nat}, i ∈ vs → (unwipe δ0 δ vs)[i]? = some (δ0.getD i none)
  | v :: vs, h => by
    unfold unwipe
    by_cases c : v = i
    · subst c
      rw [List.getElem?_set_self (by rw [unwipe_len]; exact hl)]
    · rw [List.getElem?_set_ne c]
      rcases List.mem_cons.mp h with e | h
      · exact absurd e.symm c
      · exact unwipe_in δ0 δ hl h
theorem wipe_out2 (σ : L2.St) {i : Nat} : ∀ {vs : List Nat}, i ∉ vs → (wipe σ vs)[i]? = σ[i]?
  | [], _ => rfl
  | v :: vs, h => by
    rw [List.mem_cons, not_or] at h
    unfold wipe
    rw [List.getElem?_set_ne (fun e => h.1 e.symm), wipe_out2 σ h.2]
theorem wipe_in2 (σ : L2.St) {i : Nat} (hl : i < σ.length) : ∀ {vs : List Nat}, i ∈ vs → (wipe σ vs)[i]? = some none
  | v :: vs, h => by
    unfold wipe
    by_cases c : v = i
    · subst c
      rw [List.getElem?_set_self (by rw [wipe_length]; exact hl)]
    · rw [List.getElem?_set_ne c]
      rcases List.mem_cons.mp h with e | h
      · exact absurd e.symm c
      · exact wipe_in2 σ hl h
theorem wipe_eq {σ σ' : L2.St} {vs : List Nat} (hl : σ'.length = σ.length) (h : ∀ i, i ∉ vs → σ'[i]? = σ[i]?) : wipe σ' vs = wipe σ vs := by
  refine List.ext_getElem? fun i => ?_
  by_cases c : i ∈ vs
  · by_cases hi : i < σ.length
    · rw [wipe_in2 σ hi c, wipe_in2 σ' (by omega) c]
    · rw [List.getElem?_eq_none (by rw [wipe_length]; omega), List.getElem?_eq_none (by rw [wipe_length]; omega)]
  · rw [wipe_out2 σ c, wipe_out2 σ' c, h i c]
section
variable {K : PySem.W.Frag} {M : Own} {G H G1 H1 : Hp} {φ φ1 : Nat → List Addr} {σ σ' : L2.St} {δ δ1 : Env}
theorem Sta.wiped (s : Sta K M G H φ σ δ) {vs : List Nat} : Sta K M G H φ (wipe σ vs) (wipeE δ vs) := by
  refine ⟨s.sub, s.sep, s.mt, s.nd, s.dis, fun i w hi e => ?_, fun i w hi e => ?_, by rw [wipe_length, wipeE_len]; exact s.len, s.tup, s.tb⟩
  · by_cases c : i ∈ vs
    · exact absurd e (wipeE_in δ c)
    · rw [wipeE_out δ c] at e
      rw [wipe_out2 σ c]
      exact s.own i w hi e
  · by_cases c : i ∈ vs
    · exact absurd e (wipeE_in δ c)
    · rw [wipeE_out δ c] at e
      rw [wipe_out2 σ c]
      exact s.non i w hi e
/-- behind a comprehension its own names' slots are as they were -/
theorem Sta.unwiped {vs : List Nat} (s1 : Sta K M G1 H1 φ1 σ δ1) (x : Ex G1 G) (s : Sta K M G H φ (wipe σ vs) δ) (hv : ∀ v ∈ vs, M v = false) : Sta K M G H φ σ (unwipe δ1 δ vs) := by
  have hl : δ.length = σ.length := by rw [← s.len, wipe_length]
  refine ⟨s.sub, s.sep, s.mt, s.nd, s.dis, fun i w hi e => ?_, fun i w hi e => ?_, by rw [unwipe_len]; exact hl.symm, s.tup, s.tb⟩
  · have c : i ∉ vs := fun c => by rw [hv i c] at hi; cases hi
    rw [unwipe_out δ1 δ c] at e
    have := s.own i w hi e
    rw [wipe_out2 σ c] at this
    exact this
  · by_cases c : i ∈ vs
    · by_cases h : i < δ.length
      · rw [unwipe_in δ1 δ h c] at e
        have e1 : δ1[i]? = some (some w) := by
          have : δ1.getD i none = some w := Option.some.inj e
          rw [List.getD_eq_getElem?_getD] at this
          cases q : δ1[i]? with
          | none => rw [q] at this; cases this
          | some y => rw [q] at this; rw [Option.getD_some] at this; rw [this]
        obtain ⟨v, A, e2, r⟩ := s1.non i w hi e1
        exact ⟨v, A, e2, r.mono x⟩
      · rw [List.getElem?_eq_none (by rw [unwipe_len]; omega)] at e
        cases e
    · rw [unwipe_out δ1 δ c] at e
      have := s.non i w hi e
      rw [wipe_out2 σ c] at this
      exact this
/-- a hidden object is written -/
theorem Sta.hidden {D : Addr} {o o' : HO} (s : Sta K M G H φ σ δ) (hD : H D = some o) (hm : Mut (some o)) (gD : G D = none) (nD : ∀ i, M i = true → D ∉ φ i) (hm' : Mut (some o')) (nt : NT o := by (intro _ z; cases z)) : Sta K M G (upd H D o') φ σ δ := by
  have tk : TupK K H (upd H D o') := .of fun a u h n => by
    rw [upd_ne (fun e => by subst e; rw [hD] at h; cases h; exact n hm)]
    exact h
  refine ⟨fun a u h => ?_, s.sep, fun i hi a ha => ?_, s.nd, s.dis, fun i w hi e => ?_, s.non, s.len, fun a u h n => ?_, s.tb.wr hD hm nt⟩
  · rw [upd_ne (fun e => by subst e; rw [gD] at h; cases h)]
    exact s.sub a u h
  · rw [upd_ne (fun e => by subst e; exact nD i hi ha)]
    exact s.mt i hi a ha
  · obtain ⟨v, e1, r⟩ := s.own i w hi e
    exact ⟨v, e1, Rp.frame tk w v _ (fun a ha u h => by rw [upd_ne (fun e => by subst e; exact nD i hi ha)]; exact h) r⟩
  · by_cases c : a = D
    · subst c
      rw [upd_same] at h
      cases h
      exact absurd hm' n
    · rw [upd_ne c] at h
      exact s.tup a u h n
/-- a hidden object is shown -/
theorem Sta.shown {D : Addr} {o : HO} (s : Sta K M G H φ σ δ) (hD : H D = some o) (gD : G D = none) (nD : ∀ i, M i = true → D ∉ φ i) (nt : NT o := by (intro _ z; cases z)) : Sta K M (upd G D o) H φ σ δ := by
  have x : Ex G (upd G D o) := Ex.new gD
  refine ⟨fun a u h => ?_, fun i hi a ha => ?_, s.mt, s.nd, s.dis, s.own, fun i w hi e => ?_, s.len, fun a u h n => x a u (s.tup a u h n), s.tb.newG hD nt⟩
  · by_cases c : a = D
    · subst c
      rw [upd_same] at h
      rw [← h]
      exact hD
    · rw [upd_ne c] at h
      exact s.sub a u h
  · rw [upd_ne (fun e => by subst e; exact nD i hi ha)]
    exact s.sep i hi a ha
  · obtain ⟨v, A, e1, r⟩ := s.non i w hi e
    exact ⟨v, A, e1, r.mono x⟩
end
def lcGo (vs : List Nat) (tg : DenG) (test : DenT) (elt : Den) (M : Own) : List W → Env → Option (List W × Bool × Env)
  | [], δ => some ([], true, δ)
  | w :: ws, δ => (tg w δ).bind fun δ1 => (test M δ1).bind fun b =>
      if b.1 then (elt M b.2).bind fun r => (lcGo vs tg test elt M ws (wipeE r.2.2 vs)).map fun q => (r.1 :: q.1, r.2.1 && q.2.1, q.2.2)
      else lcGo vs tg test elt M ws (wipeE b.2 vs)
def dLc (vs : List Nat) (src : DenI) (tg : DenG) (test : DenT) (elt : Den) : Den := fun M δ => (src M δ).bind fun s =>
  if s.1.length ≤ LIM ∧ (vs.all fun v => !M v) = true then (lcGo vs tg test elt M s.1 (wipeE s.2 vs)).map fun q => (.lst q.1, q.2.1, unwipe s.2 q.2.2 vs) else none
/-- what a target does to the slots -/
def GOk (tg : DenG) (vs : List Nat) : Prop := ∀ {w δ δ'}, tg w δ = some δ' → δ'.length = δ.length ∧ ∀ i, i ∉ vs → δ'[i]? = δ[i]?
theorem gok_name {i : Nat} {vs : List Nat} (h : i ∈ vs) : GOk (gNm i) vs := fun {w δ δ'} e => by
  unfold gNm at e
  split at e
  · cases e
    exact ⟨List.length_set, fun j hj => List.getElem?_set_ne fun z => hj (by rw [← z]; exact h)⟩
  · cases e
def GOks (g : List W → Env → Option Env) (vs : List Nat) : Prop := ∀ {ws δ δ'}, g ws δ = some δ' → δ'.length = δ.length ∧ ∀ i, i ∉ vs → δ'[i]? = δ[i]?
theorem goks_nil {vs : List Nat} : GOks gNilW vs := fun {ws δ δ'} e => by
  unfold gNilW at e
  split at e
  · cases e; exact ⟨rfl, fun _ _ => rfl⟩
  · cases e
theorem goks_cons {f : DenG} {g : List W → Env → Option Env} {vs : List Nat} (h : GOk f vs) (hs : GOks g vs) : GOks (gConsW f g) vs := fun {ws δ δ'} e => by
  unfold gConsW at e
  split at e
  · obtain ⟨δ1, h1, e⟩ := Option.bind_eq_some_iff.mp e
    have a := h h1
    have b := hs e
    exact ⟨b.1.trans a.1, fun i hi => (b.2 i hi).trans (a.2 i hi)⟩
  · cases e
theorem gok_tup {g : List W → Env → Option Env} {n : Nat} {vs : List Nat} (hs : GOks g vs) : GOk (gTp n g) vs := fun {w δ δ'} e => by
  unfold gTp at e
  split at e
  · split at e
    · exact hs e
    · cases e
  · cases e
section
variable {K : PySem.W.Frag}
theorem lcGo_off {vs : List Nat} {tt : TT} {te : TE} {tg : DenG} {test : DenT} {elt : Den} (hg : GOk tg vs) (ht : Sb K tt test) (he : Sd K te elt) {M : Own} :
    ∀ {ws : List W} {δ : Env} {q : List W × Bool × Env}, lcGo vs tg test elt M ws δ = some q → q.2.2.length = δ.length ∧ ∀ i, M i = false → i ∉ vs → q.2.2[i]? = δ[i]?
  | [], δ, q, e => by unfold lcGo at e; cases e; exact ⟨rfl, fun _ _ _ => rfl⟩
  | w :: ws, δ, q, e => by
    unfold lcGo at e
    obtain ⟨δ1, h1, e⟩ := Option.bind_eq_some_iff.mp e
    obtain ⟨b, h2, e⟩ := Option.bind_eq_some_iff.mp e
    have a1 := hg h1
    have a2 := ht.off h2
    split at e
    · obtain ⟨r, h3, e⟩ := Option.bind_eq_some_iff.mp e
      obtain ⟨q2, h4, e⟩ := Option.map_eq_some_iff.mp e
      have a3 := he.off h3
      have a4 := lcGo_off hg ht he h4
      cases e
      exact ⟨a4.1.trans ((wipeE_len _ _).trans (a3.1.trans (a2.1.trans a1.1))), fun i hm hv => (a4.2 i hm hv).trans ((wipeE_out _ hv).trans ((a3.2 i hm).trans ((a2.2 i hm).trans (a1.2 i hv))))⟩
    · have a4 := lcGo_off hg ht he e
      exact ⟨a4.1.trans ((wipeE_len _ _).trans (a2.1.trans a1.1)), fun i hm hv => (a4.2 i hm hv).trans ((wipeE_out _ hv).trans ((a2.2 i hm).trans (a1.2 i hv)))⟩
theorem wipe_idem (σ : L2.St) (vs : List Nat) : wipe (wipe σ vs) vs = wipe σ vs := wipe_eq (wipe_length ..) fun i h => wipe_out2 σ h
theorem Evo.hid {M M' : Own} {G1 H1 G' H' : Hp} {φ1 φ' : Nat → List Addr} {D : Addr} {o : HO} (e : Evo M G1 H1 φ1 M' G' H' φ') (h : H1 D = none) : Evo M G1 H1 φ1 M' G' (upd H' D o) φ' :=
  ⟨e.ex, fun a u q nt n => by rw [upd_ne (fun z => by subst z; rw [h] at q; cases q)]; exact e.keep a u q nt n, fun a ps q => by rw [upd_ne (fun z => by subst z; rw [h] at q; cases q)]; exact e.tbl a ps q, e.new, e.nown⟩
theorem Evo.shown {M M' : Own} {G1 H1 G' H' : Hp} {φ1 φ' : Nat → List Addr} {D : Addr} {o : HO} (e : Evo M G1 H1 φ1 M' G' H' φ') (h : H1 D = none) (g : G' D = none) : Evo M G1 H1 φ1 M' (upd G' D o) H' φ' :=
  ⟨e.ex.trans (Ex.new g), e.keep, e.tbl, fun a u q n => by
    by_cases c : a = D
    · subst c; exact .inl h
    · rw [upd_ne c] at n
      exact e.new a u q n, e.nown⟩
theorem getD_none {δ : Env} {i : Nat} (h : i < δ.length) : some (δ.getD i none) = δ[i]? := by
  rw [List.getD_eq_getElem?_getD, List.getElem?_eq_getElem h]
  rfl
theorem off_unwipe {M : Own} {δ δ1 : Env} {vs : List Nat} (hl : δ1.length = δ.length) (h : ∀ i, M i = false → i ∉ vs → δ1[i]? = (wipeE δ vs)[i]?) : Off M δ (unwipe δ δ1 vs) := by
  refine ⟨(unwipe_len ..).trans hl, fun i hm => ?_⟩
  by_cases c : i ∈ vs
  · by_cases hi : i < δ1.length
    · rw [unwipe_in _ _ hi c]
      exact getD_none (by omega)
    · rw [List.getElem?_eq_none (by rw [unwipe_len]; omega), List.getElem?_eq_none (by omega)]
  · rw [unwipe_out _ _ c, h i hm c, wipeE_out _ c]
theorem sd_lc {vs xs : List Nat} {wi : TI} {g : TG} {tt : TT} {te : TE} {src : DenI} {tg : DenG} {test : DenT} {elt : Den} (hi : Si K wi src) (hg : Sg K g tg xs) (ht : Sb K tt test) (he : Sd K te elt) (go : GOk tg vs) (hx : ∀ x ∈ xs, x ∈ vs) :
    Sd K (tLc wi g tt te vs) (dLc vs src tg test elt) := by
  refine ⟨fun {M δ r} e => ?_, fun {M G H φ σ δ r} s e Q P => ?_⟩
  · unfold dLc at e
    obtain ⟨s, h1, e⟩ := Option.bind_eq_some_iff.mp e
    split at e
    · obtain ⟨q, h2, e⟩ := Option.map_eq_some_iff.mp e
      have o1 := hi.off h1
      have o2 := lcGo_off go ht he h2
      cases e
      exact o1.trans (off_unwipe (o2.1.trans (wipeE_len ..)) o2.2)
    · cases e
  · unfold dLc at e
    obtain ⟨⟨ws, δs⟩, h1, e⟩ := Option.bind_eq_some_iff.mp e
    split at e
    · rename_i hc
      obtain ⟨q0, h2, e⟩ := Option.map_eq_some_iff.mp e
      subst e
      obtain ⟨hlim, hall⟩ := hc
      have hv : ∀ v ∈ vs, M v = false := fun v hv => by
        have := List.all_eq_true.mp hall v hv
        cases c : M v with
        | true => rw [c] at this; cases this
        | false => rfl
      refine hi.run s h1 _ fun J G1 H1 φ1 s1 e1 wk D hD => ?_
      have nDs : ∀ i, M i = true → D ∉ φ1 i := fun i hi ha => by
        obtain ⟨o, z⟩ := mut_some (s1.mt i hi D ha)
        rw [hD] at z
        cases z
      refine ⟨fun i m H => i + m = ws.length ∧ ∃ G φ δ accW acc A fr0 q, Sta K M G H φ (wipe σ vs) δ ∧ G D = none ∧ H D = some (.lst acc) ∧ (∀ i, M i = true → D ∉ φ i) ∧ Evo M G1 H1 φ1 M G H φ ∧ Rps K G accW acc A ∧ (fr0 = true → Fresh G1 G A) ∧ accW.length ≤ i ∧ lcGo vs tg test elt M (ws.drop i) δ = some q ∧ q0.1 = accW ++ q.1 ∧ q0.2.1 = (fr0 && q.2.1) ∧ q0.2.2 = q.2.2, ⟨ws.length, by omega, G1, φ1, wipeE δs vs, [], [], [], true, q0, ?_, s1.sub.back hD, upd_same, nDs, Evo.refl.hid hD, Rps.nil, fun _ => Fresh.nil, Nat.le_refl _, h2, rfl, (Bool.true_and _).symm, rfl⟩, fun i m H' hw => ?_⟩
      · have := s1.wiped (vs := vs)
        refine ⟨this.sub.trans (Ex.new hD), this.sep, fun i hi a ha => ?_, this.nd, this.dis, fun i w hi e => ?_, this.non, this.len, fun a u h n => ?_, this.tb.newH hD⟩
        · rw [upd_ne (fun e => by subst e; exact nDs i hi ha)]
          exact this.mt i hi a ha
        · obtain ⟨v, e1, r⟩ := this.own i w hi e
          exact ⟨v, e1, r.mono (Ex.new hD)⟩
        · by_cases c : a = D
          · subst c
            rw [upd_same] at h
            cases h
            exact absurd trivial n
          · rw [upd_ne c] at h
            exact this.tup a u h n
      obtain ⟨im, G', φ', δ', accW, acc, A, fr0, q, s', gD, hD', nD, ev, ra, fa, al, hq, a1, a2, a3⟩ := hw
      by_cases hi' : ws.length ≤ i
      · refine .inl ⟨((wk s' ev.ex) i).1 hi', ?_⟩
        rw [List.drop_eq_nil_of_le hi'] at hq
        unfold lcGo at hq
        cases hq
        have sh := (s1.unwiped ev.ex s' hv).shown hD' gD nD
        have ev2 := ev.shown (o := .lst acc) hD gD
        have hP := P.after e1
        rw [a3] at hP
        have a1' : q0.1 = accW := a1.trans (List.append_nil _)
        rw [a1'] at hP
        refine hP (.ref D) _ H' φ' (D :: A) sh ev2 ?_ fun h => ?_
        · unfold Rp
          exact ⟨D, acc, A, rfl, upd_same, rfl, ra.mono (Ex.new gD)⟩
        · rw [a2] at h
          have fq := fa (Bool.and_eq_true_iff.mp h).1
          have sa : ∀ a ∈ A, ∃ o, G' a = some o := fun a ha => mut_some (fq.2 a ha).2
          have nA : D ∉ A := fun z => by
            obtain ⟨o, z⟩ := sa D z
            rw [gD] at z
            cases z
          refine ⟨List.nodup_cons.mpr ⟨nA, fq.1⟩, fun a ha => ?_⟩
          rcases List.mem_cons.mp ha with rfl | ha
          · exact ⟨s1.sub.back hD, by rw [upd_same]; trivial⟩
          · exact (fq.mono (Ex.new gD) sa).2 a ha
      · have hlt : i < ws.length := by omega
        obtain ⟨w, hw⟩ : ∃ w, ws[i]? = some w := ⟨_, List.getElem?_eq_getElem hlt⟩
        have hdrop : ws.drop i = w :: ws.drop (i + 1) := by
          rw [List.drop_eq_getElem_cons hlt]
          congr 1
          rw [List.getElem?_eq_getElem hlt] at hw
          exact Option.some.inj hw
        rw [hdrop] at hq
        unfold lcGo at hq
        obtain ⟨δ1, hq1, hq⟩ := Option.bind_eq_some_iff.mp hq
        obtain ⟨b, hq2, hq⟩ := Option.bind_eq_some_iff.mp hq
        obtain ⟨go1, ys⟩ := ((wk s' ev.ex) i).2 w hw
        refine .inr ⟨go1, _, fun H2 nx => ⟨m - 1, by omega, nx⟩, fun x H2 hy => ?_⟩
        obtain ⟨G2, B, s2, ev2, rw2⟩ := ys x H2 hy
        refine hg.run s2 (fun x hx' => hv x (hx x hx')) rw2 hq1 _ fun σ2 s3 fr => ?_
        have wp : wipe σ2 vs = wipe σ vs := by
          have l1 : σ2.length = (wipe σ vs).length := by rw [s3.len, (go hq1).1, s'.len]
          rw [wipe_eq l1 fun i hi => (fr i fun z => hi (hx i z)).1, wipe_idem]
        refine ⟨wp, ht.run s3 hq2 _ fun G4 H4 φ4 s4 ev4 => ?_⟩
        have evA := ev2.trans ev4
        have stay : ∀ {G5 H5 φ5}, Evo M G' H' φ' M G5 H5 φ5 → G5 D = none ∧ H5 D = some (.lst acc) ∧ ∀ i, M i = true → D ∉ φ5 i := fun {G5 H5 φ5} ev5 => by
          refine ⟨?_, ev5.keep D _ hD' (fun _ z => nomatch z) nD, fun i hi ha => ?_⟩
          · cases c : G5 D with
            | none => rfl
            | some o =>
              rcases ev5.new D o gD c with z | ⟨j, hj, z⟩
              · rw [hD'] at z; cases z
              · exact absurd z (nD j hj)
          · rcases ev5.nown i hi D ha with z | ⟨j, hj, z⟩
            · rw [hD'] at z; cases z
            · exact nD j hj z
        cases hb : b.1 with
        | true =>
          rw [hb] at hq
          simp only [if_true] at hq ⊢
          obtain ⟨r, hq3, hq⟩ := Option.bind_eq_some_iff.mp hq
          obtain ⟨q2, hq4, hq⟩ := Option.map_eq_some_iff.mp hq
          refine he.run s4 hq3 _ fun y G5 H5 φ5 B5 s5 ev5 r5 f5 => ?_
          have evB := evA.trans ev5
          obtain ⟨t1, t2, t3⟩ := stay evB
          have ln : acc.length < sizeLine := by
            rw [← ra.len]
            exact Nat.lt_of_le_of_lt (Nat.le_trans al (Nat.le_of_lt hlt)) (lim_lt hlim)
          refine ⟨acc, t2, ln, by omega, G5, φ5, wipeE r.2.2 vs, accW ++ [r.1], acc ++ [y], A ++ B5, fr0 && r.2.1, q2, ?_, t1, upd_same, t3, (ev.trans evB).hid hD, ?_, fun h => ?_, by rw [List.length_append]; simp; omega, hq4, ?_, ?_, ?_⟩
          · have := s5.wiped (vs := vs)
            rw [wp] at this
            exact this.hidden t2 trivial t1 t3 trivial
          · exact (ra.mono (evB.ex)).append (Rps.one r5)
          · obtain ⟨h1, h2⟩ := Bool.and_eq_true_iff.mp h
            have f0 := fa h1
            have sa : ∀ a ∈ A, ∃ o, G' a = some o := fun a ha => mut_some (f0.2 a ha).2
            exact Fresh.append ev.ex evB.ex f0 sa ((f5 h2).back evA.ex)
          · rw [a1, ← hq]
            simp
          · rw [a2, ← hq]
            simp [Bool.and_assoc]
          · rw [a3, ← hq]
        | false =>
          rw [hb] at hq
          simp only [Bool.false_eq_true, if_false] at hq ⊢
          obtain ⟨t1, t2, t3⟩ := stay evA
          refine ⟨by omega, G4, φ4, wipeE b.2 vs, accW, acc, A, fr0, q, ?_, t1, t2, t3, ev.trans evA, ra.mono evA.ex, fun h => ?_, by omega, hq, a1, a2, a3⟩
          · have := s4.wiped (vs := vs)
            rw [wp] at this
            exact this
          · have f0 := fa h
            exact f0.mono evA.ex fun a ha => mut_some (f0.2 a ha).2
    · cases e
end
end Dv
set_option Elab.async false
set_option linter.all false
set_option maxRecDepth 100000
set_option maxHeartbeats 4000000
namespace Dv
open PySem PySem.Spec PyProof.Rows L2 DvR DvF
section
variable {K : PySem.W.Frag}
theorem lc_core {vs xs : List Nat} {g : TG} {tt : TT} {te : TE} {tg : DenG} {test : DenT} {elt : Den} (hg : Sg K g tg xs) (ht : Sb K tt test) (he : Sd K te elt) (go : GOk tg vs) (hx : ∀ x ∈ xs, x ∈ vs)
    {M : Own} {Gb Hb G1 H1 : Hp} {φb φ1 : Nat → List Addr} {σ : L2.St} {δ1 : Env} {D : Addr} {ws : List W} {J : It} {accW0 : List W} {acc0 : List V} {A0 : List Addr} {fr00 : Bool} {q0 : List W × Bool × Env}
    (hv : ∀ v ∈ vs, M v = false) (s1 : Sta K M G1 H1 φ1 (wipe σ vs) δ1) (gD1 : G1 D = none) (hD1 : H1 D = some (.lst acc0)) (nD1 : ∀ i, M i = true → D ∉ φ1 i) (wk : Walks K G1 J ws) (ev0 : Evo M Gb Hb φb M G1 H1 φ1) (hbD : Hb D = none)
    (ra0 : Rps K G1 accW0 acc0 A0) (fa0 : fr00 = true → Fresh Gb G1 A0) (hlen : accW0.length + q0.1.length ≤ LIM) (h2 : lcGo vs tg test elt M ws δ1 = some q0) (Fin : Hp → Prop)
    (fin : ∀ G H φ acc A, Sta K M G H φ (wipe σ vs) q0.2.2 → G D = none → H D = some (.lst acc) → (∀ i, M i = true → D ∉ φ i) → Evo M Gb Hb φb M G H φ → Ex G1 G → Rps K G (accW0 ++ q0.1) acc A → ((fr00 && q0.2.1) = true → Fresh Gb G A) → Fin H) :
    ∃ W : Nat → Nat → Hp → Prop, (∃ m, W 0 m H1) ∧ ∀ i m H, W i m H → (J.stop i H ∧ Fin H) ∨ (J.go i H ∧ ∃ Nx : Hp → Prop, (∀ H', Nx H' → ∃ m', m' < m ∧ W (i + 1) m' H') ∧ ∀ x H', J.yld i H x H' → g x (wipe σ vs) H' fun σ3 H5 => wipe σ3 vs = wipe σ vs ∧ tt σ3 H5 fun b H6 => if b = true then te σ3 H6 fun y H7 => ∃ acc, H7 D = some (.lst acc) ∧ acc.length < sizeLine ∧ Nx (upd H7 D (.lst (acc ++ [y]))) else Nx H6) := by
  refine ⟨fun i m H => i + m = ws.length ∧ ∃ G φ δ accW acc A fr0 q, Sta K M G H φ (wipe σ vs) δ ∧ G D = none ∧ H D = some (.lst acc) ∧ (∀ i, M i = true → D ∉ φ i) ∧ Evo M Gb Hb φb M G H φ ∧ Ex G1 G ∧ Rps K G accW acc A ∧ (fr0 = true → Fresh Gb G A) ∧ lcGo vs tg test elt M (ws.drop i) δ = some q ∧ accW0 ++ q0.1 = accW ++ q.1 ∧ (fr00 && q0.2.1) = (fr0 && q.2.1) ∧ q0.2.2 = q.2.2, ⟨ws.length, by omega, G1, φ1, δ1, accW0, acc0, A0, fr00, q0, s1, gD1, hD1, nD1, ev0, Ex.refl _, ra0, fa0, h2, rfl, rfl, rfl⟩, fun i m H' hw => ?_⟩
  obtain ⟨im, G', φ', δ', accW, acc, A, fr0, q, s', gD, hD', nD, ev, ex1, ra, fa, hq, a1, a2, a3⟩ := hw
  by_cases hi' : ws.length ≤ i
  · refine .inl ⟨((wk s' ex1) i).1 hi', ?_⟩
    rw [List.drop_eq_nil_of_le hi'] at hq
    unfold lcGo at hq
    cases hq
    have e1 : accW0 ++ q0.1 = accW := a1.trans (List.append_nil _)
    have e2 : (fr00 && q0.2.1) = fr0 := a2.trans (Bool.and_true _)
    have e3 : q0.2.2 = δ' := a3
    exact fin G' H' φ' acc A (by rw [e3]; exact s') gD hD' nD ev ex1 (by rw [e1]; exact ra) fun h => fa (by rw [← e2]; exact h)
  · have hlt : i < ws.length := by omega
    obtain ⟨w, hw⟩ : ∃ w, ws[i]? = some w := ⟨_, List.getElem?_eq_getElem hlt⟩
    have hdrop : ws.drop i = w :: ws.drop (i + 1) := by
      rw [List.drop_eq_getElem_cons hlt]
      congr 1
      rw [List.getElem?_eq_getElem hlt] at hw
      exact Option.some.inj hw
    rw [hdrop] at hq
    unfold lcGo at hq
    obtain ⟨δ2, hq1, hq⟩ := Option.bind_eq_some_iff.mp hq
    obtain ⟨b, hq2, hq⟩ := Option.bind_eq_some_iff.mp hq
    obtain ⟨go1, ys⟩ := ((wk s' ex1) i).2 w hw
    refine .inr ⟨go1, _, fun H2 nx => ⟨m - 1, by omega, nx⟩, fun x H2 hy => ?_⟩
    obtain ⟨G2, B, s2, ev2, rw2⟩ := ys x H2 hy
    refine hg.run s2 (fun x hx' => hv x (hx x hx')) rw2 hq1 _ fun σ2 s3 fr => ?_
    have wp : wipe σ2 vs = wipe σ vs := by
      have l1 : σ2.length = (wipe σ vs).length := by rw [s3.len, (go hq1).1, s'.len]
      rw [wipe_eq l1 fun i hi => (fr i fun z => hi (hx i z)).1, wipe_idem]
    refine ⟨wp, ht.run s3 hq2 _ fun G4 H4 φ4 s4 ev4 => ?_⟩
    have evA := ev2.trans ev4
    have stay : ∀ {G5 H5 φ5}, Evo M G' H' φ' M G5 H5 φ5 → G5 D = none ∧ H5 D = some (.lst acc) ∧ ∀ i, M i = true → D ∉ φ5 i := fun {G5 H5 φ5} ev5 => by
      refine ⟨?_, ev5.keep D _ hD' (fun _ z => nomatch z) nD, fun i hi ha => ?_⟩
      · cases c : G5 D with
        | none => rfl
        | some o =>
          rcases ev5.new D o gD c with z | ⟨j, hj, z⟩
          · rw [hD'] at z; cases z
          · exact absurd z (nD j hj)
      · rcases ev5.nown i hi D ha with z | ⟨j, hj, z⟩
        · rw [hD'] at z; cases z
        · exact nD j hj z
    cases hb : b.1 with
    | true =>
      rw [hb] at hq
      simp only [if_true] at hq ⊢
      obtain ⟨r, hq3, hq⟩ := Option.bind_eq_some_iff.mp hq
      obtain ⟨q2, hq4, hq⟩ := Option.map_eq_some_iff.mp hq
      refine he.run s4 hq3 _ fun y G5 H5 φ5 B5 s5 ev5 r5 f5 => ?_
      have evB := evA.trans ev5
      obtain ⟨t1, t2, t3⟩ := stay evB
      have ln : acc.length < sizeLine := by
        rw [← ra.len]
        have : (accW0 ++ q0.1).length = (accW ++ q.1).length := by rw [a1]
        rw [List.length_append, List.length_append] at this
        have h3 : q.1 = r.1 :: q2.1 := by rw [← hq]
        rw [h3, List.length_cons] at this
        exact lim_lt (by omega)
      refine ⟨acc, t2, ln, by omega, G5, φ5, wipeE r.2.2 vs, accW ++ [r.1], acc ++ [y], A ++ B5, fr0 && r.2.1, q2, ?_, t1, upd_same, t3, (ev.trans evB).hid hbD, ex1.trans evB.ex, ?_, fun h => ?_, hq4, ?_, ?_, ?_⟩
      · have := s5.wiped (vs := vs)
        rw [wp] at this
        exact this.hidden t2 trivial t1 t3 trivial
      · exact (ra.mono (evB.ex)).append (Rps.one r5)
      · obtain ⟨h1, h2⟩ := Bool.and_eq_true_iff.mp h
        have f0 := fa h1
        have sa : ∀ a ∈ A, ∃ o, G' a = some o := fun a ha => mut_some (f0.2 a ha).2
        exact Fresh.append ev.ex evB.ex f0 sa ((f5 h2).back evA.ex)
      · rw [a1, ← hq]
        simp
      · rw [a2, ← hq]
        simp [Bool.and_assoc]
      · rw [a3, ← hq]
    | false =>
      rw [hb] at hq
      simp only [Bool.false_eq_true, if_false] at hq ⊢
      obtain ⟨t1, t2, t3⟩ := stay evA
      refine ⟨by omega, G4, φ4, wipeE b.2 vs, accW, acc, A, fr0, q, ?_, t1, t2, t3, ev.trans evA, ex1.trans evA.ex, ra.mono evA.ex, fun h => ?_, hq, a1, a2, a3⟩
      · have := s4.wiped (vs := vs)
        rw [wp] at this
        exact this
      · have f0 := fa h
        exact f0.mono evA.ex fun a ha => mut_some (f0.2 a ha).2
def lc2Go (vs : List Nat) (tg : DenG) (test : DenT) (src1 : DenI) (vs1 : List Nat) (tg1 : DenG) (test1 : DenT) (elt : Den) (M : Own) : List W → Env → Option (List W × Bool × Env)
  | [], δ => some ([], true, δ)
  | w :: ws, δ => (tg w δ).bind fun δ1 => (test M δ1).bind fun b =>
      if b.1 then (src1 M b.2).bind fun s => (lcGo vs1 tg1 test1 elt M s.1 (wipeE s.2 vs1)).bind fun r => (lc2Go vs tg test src1 vs1 tg1 test1 elt M ws (wipeE r.2.2 vs)).map fun q => (r.1 ++ q.1, r.2.1 && q.2.1, q.2.2)
      else lc2Go vs tg test src1 vs1 tg1 test1 elt M ws (wipeE b.2 vs)
def dLc2 (vs : List Nat) (src : DenI) (tg : DenG) (test : DenT) (src1 : DenI) (vs1 : List Nat) (tg1 : DenG) (test1 : DenT) (elt : Den) : Den := fun M δ => (src M δ).bind fun s =>
  if (vs.all fun v => !M v) = true then (lc2Go vs tg test src1 vs1 tg1 test1 elt M s.1 (wipeE s.2 vs)).bind fun q => if q.1.length ≤ LIM then some (.lst q.1, q.2.1, unwipe s.2 q.2.2 vs) else none else none
theorem lc2Go_off {vs vs1 : List Nat} {tt tt1 : TT} {te : TE} {wi1 : TI} {tg tg1 : DenG} {test test1 : DenT} {src1 : DenI} {elt : Den} (hg : GOk tg vs) (ht : Sb K tt test) (hi1 : Si K wi1 src1) (hg1 : GOk tg1 vs1) (ht1 : Sb K tt1 test1) (he : Sd K te elt) (h1v : ∀ v ∈ vs1, v ∈ vs) {M : Own} :
    ∀ {ws : List W} {δ : Env} {q : List W × Bool × Env}, lc2Go vs tg test src1 vs1 tg1 test1 elt M ws δ = some q → q.2.2.length = δ.length ∧ ∀ i, M i = false → i ∉ vs → q.2.2[i]? = δ[i]?
  | [], δ, q, e => by unfold lc2Go at e; cases e; exact ⟨rfl, fun _ _ _ => rfl⟩
  | w :: ws, δ, q, e => by
    unfold lc2Go at e
    obtain ⟨δ1, h1, e⟩ := Option.bind_eq_some_iff.mp e
    obtain ⟨b, h2, e⟩ := Option.bind_eq_some_iff.mp e
    have a1 := hg h1
    have a2 := ht.off h2
    split at e
    · obtain ⟨s, h3, e⟩ := Option.bind_eq_some_iff.mp e
      obtain ⟨r, h4, e⟩ := Option.bind_eq_some_iff.mp e
      obtain ⟨q2, h5, e⟩ := Option.map_eq_some_iff.mp e
      have a3 := hi1.off h3
      have a4 := lcGo_off hg1 ht1 he h4
      have a5 := lc2Go_off hg ht hi1 hg1 ht1 he h1v h5
      cases e
      exact ⟨a5.1.trans ((wipeE_len _ _).trans (a4.1.trans ((wipeE_len _ _).trans (a3.1.trans (a2.1.trans a1.1))))), fun i hm hv => (a5.2 i hm hv).trans ((wipeE_out _ hv).trans ((a4.2 i hm fun z => hv (h1v i z)).trans ((wipeE_out _ fun z => hv (h1v i z)).trans ((a3.2 i hm).trans ((a2.2 i hm).trans (a1.2 i hv))))))⟩
    · have a4 := lc2Go_off hg ht hi1 hg1 ht1 he h1v e
      exact ⟨a4.1.trans ((wipeE_len _ _).trans (a2.1.trans a1.1)), fun i hm hv => (a4.2 i hm hv).trans ((wipeE_out _ hv).trans ((a2.2 i hm).trans (a1.2 i hv)))⟩
theorem sd_lc2 {vs xs vs1 xs1 : List Nat} {wi wi1 : TI} {g g1 : TG} {tt tt1 : TT} {te : TE} {src src1 : DenI} {tg tg1 : DenG} {test test1 : DenT} {elt : Den} (hi : Si K wi src) (hg : Sg K g tg xs) (ht : Sb K tt test) (hi1 : Si K wi1 src1) (hg1 : Sg K g1 tg1 xs1) (ht1 : Sb K tt1 test1) (he : Sd K te elt)
    (go : GOk tg vs) (go1 : GOk tg1 vs1) (hx : ∀ x ∈ xs, x ∈ vs) (hx1 : ∀ x ∈ xs1, x ∈ vs1) (h1v : ∀ v ∈ vs1, v ∈ vs) :
    Sd K (tLc2 wi g tt wi1 g1 tt1 te vs vs1) (dLc2 vs src tg test src1 vs1 tg1 test1 elt) := by
  refine ⟨fun {M δ r} e => ?_, fun {M G H φ σ δ r} s e Q P => ?_⟩
  · unfold dLc2 at e
    obtain ⟨s, h1, e⟩ := Option.bind_eq_some_iff.mp e
    split at e
    · obtain ⟨q, h2, e⟩ := Option.bind_eq_some_iff.mp e
      split at e
      · have o1 := hi.off h1
        have o2 := lc2Go_off go ht hi1 go1 ht1 he h1v h2
        cases e
        exact o1.trans (off_unwipe (o2.1.trans (wipeE_len ..)) o2.2)
      · cases e
    · cases e
  · unfold dLc2 at e
    obtain ⟨⟨ws, δs⟩, h1, e⟩ := Option.bind_eq_some_iff.mp e
    split at e
    · rename_i hall
      obtain ⟨q0, h2, e⟩ := Option.bind_eq_some_iff.mp e
      split at e
      · rename_i hlim
        cases e
        have hv : ∀ v ∈ vs, M v = false := fun v hv => by
          have := List.all_eq_true.mp hall v hv
          cases c : M v with
          | true => rw [c] at this; cases this
          | false => rfl
        refine hi.run s h1 _ fun J G1 H1 φ1 s1 e1 wk D hD => ?_
        have nDs : ∀ i, M i = true → D ∉ φ1 i := fun i hi ha => by
          obtain ⟨o, z⟩ := mut_some (s1.mt i hi D ha)
          rw [hD] at z
          cases z
        refine ⟨fun i m H => i + m = ws.length ∧ ∃ G φ δ accW acc A fr0 q, Sta K M G H φ (wipe σ vs) δ ∧ G D = none ∧ H D = some (.lst acc) ∧ (∀ i, M i = true → D ∉ φ i) ∧ Evo M G1 H1 φ1 M G H φ ∧ Rps K G accW acc A ∧ (fr0 = true → Fresh G1 G A) ∧ lc2Go vs tg test src1 vs1 tg1 test1 elt M (ws.drop i) δ = some q ∧ q0.1 = accW ++ q.1 ∧ q0.2.1 = (fr0 && q.2.1) ∧ q0.2.2 = q.2.2, ⟨ws.length, by omega, G1, φ1, wipeE δs vs, [], [], [], true, q0, ?_, s1.sub.back hD, upd_same, nDs, Evo.refl.hid hD, Rps.nil, fun _ => Fresh.nil, h2, rfl, (Bool.true_and _).symm, rfl⟩, fun i m H' hw => ?_⟩
        · have := s1.wiped (vs := vs)
          refine ⟨this.sub.trans (Ex.new hD), this.sep, fun i hi a ha => ?_, this.nd, this.dis, fun i w hi e => ?_, this.non, this.len, fun a u h n => ?_, this.tb.newH hD⟩
          · rw [upd_ne (fun e => by subst e; exact nDs i hi ha)]
            exact this.mt i hi a ha
          · obtain ⟨v, e1, r⟩ := this.own i w hi e
            exact ⟨v, e1, r.mono (Ex.new hD)⟩
          · by_cases c : a = D
            · subst c
              rw [upd_same] at h
              cases h
              exact absurd trivial n
            · rw [upd_ne c] at h
              exact this.tup a u h n
        obtain ⟨im, G', φ', δ', accW, acc, A, fr0, q, s', gD, hD', nD, ev, ra, fa, hq, a1, a2, a3⟩ := hw
        by_cases hi' : ws.length ≤ i
        · refine .inl ⟨((wk s' ev.ex) i).1 hi', ?_⟩
          rw [List.drop_eq_nil_of_le hi'] at hq
          unfold lc2Go at hq
          cases hq
          have sh := (s1.unwiped ev.ex s' hv).shown hD' gD nD
          have ev2 := ev.shown (o := .lst acc) hD gD
          have hP := P.after e1
          rw [a3] at hP
          have a1' : q0.1 = accW := a1.trans (List.append_nil _)
          rw [a1'] at hP
          refine hP (.ref D) _ H' φ' (D :: A) sh ev2 ?_ fun h => ?_
          · unfold Rp
            exact ⟨D, acc, A, rfl, upd_same, rfl, ra.mono (Ex.new gD)⟩
          · rw [a2] at h
            have fq := fa (Bool.and_eq_true_iff.mp h).1
            have sa : ∀ a ∈ A, ∃ o, G' a = some o := fun a ha => mut_some (fq.2 a ha).2
            have nA : D ∉ A := fun z => by
              obtain ⟨o, z⟩ := sa D z
              rw [gD] at z
              cases z
            refine ⟨List.nodup_cons.mpr ⟨nA, fq.1⟩, fun a ha => ?_⟩
            rcases List.mem_cons.mp ha with rfl | ha
            · exact ⟨s1.sub.back hD, by rw [upd_same]; trivial⟩
            · exact (fq.mono (Ex.new gD) sa).2 a ha
        · have hlt : i < ws.length := by omega
          obtain ⟨w, hw⟩ : ∃ w, ws[i]? = some w := ⟨_, List.getElem?_eq_getElem hlt⟩
          have hdrop : ws.drop i = w :: ws.drop (i + 1) := by
            rw [List.drop_eq_getElem_cons hlt]
            congr 1
            rw [List.getElem?_eq_getElem hlt] at hw
            exact Option.some.inj hw
          rw [hdrop] at hq
          unfold lc2Go at hq
          obtain ⟨δ1, hq1, hq⟩ := Option.bind_eq_some_iff.mp hq
          obtain ⟨b, hq2, hq⟩ := Option.bind_eq_some_iff.mp hq
          obtain ⟨go1', ys⟩ := ((wk s' ev.ex) i).2 w hw
          refine .inr ⟨go1', _, fun H2 nx => ⟨m - 1, by omega, nx⟩, fun x H2 hy => ?_⟩
          obtain ⟨G2, B, s2, ev2, rw2⟩ := ys x H2 hy
          refine hg.run s2 (fun x hx' => hv x (hx x hx')) rw2 hq1 _ fun σ2 s3 fr => ?_
          have wp : wipe σ2 vs = wipe σ vs := by
            have l1 : σ2.length = (wipe σ vs).length := by rw [s3.len, (go hq1).1, s'.len]
            rw [wipe_eq l1 fun i hi => (fr i fun z => hi (hx i z)).1, wipe_idem]
          refine ⟨wp, ht.run s3 hq2 _ fun G4 H4 φ4 s4 ev4 => ?_⟩
          have evA := ev2.trans ev4
          have stay : ∀ {G5 H5 φ5}, Evo M G' H' φ' M G5 H5 φ5 → G5 D = none ∧ H5 D = some (.lst acc) ∧ ∀ i, M i = true → D ∉ φ5 i := fun {G5 H5 φ5} ev5 => by
            refine ⟨?_, ev5.keep D _ hD' (fun _ z => nomatch z) nD, fun i hi ha => ?_⟩
            · cases c : G5 D with
              | none => rfl
              | some o =>
                rcases ev5.new D o gD c with z | ⟨j, hj, z⟩
                · rw [hD'] at z; cases z
                · exact absurd z (nD j hj)
            · rcases ev5.nown i hi D ha with z | ⟨j, hj, z⟩
              · rw [hD'] at z; cases z
              · exact nD j hj z
          cases hb : b.1 with
          | true =>
            rw [hb] at hq
            simp only [if_true] at hq ⊢
            obtain ⟨⟨us, δi⟩, hq3, hq⟩ := Option.bind_eq_some_iff.mp hq
            obtain ⟨r, hq4, hq⟩ := Option.bind_eq_some_iff.mp hq
            obtain ⟨q2, hq5, hq⟩ := Option.map_eq_some_iff.mp hq
            refine hi1.run s4 hq3 _ fun J1 G5 H5 φ5 s5 ev5 wk1 => ?_
            have evB := evA.trans ev5
            obtain ⟨t1, t2, t3⟩ := stay evB
            have hl : accW.length + r.1.length ≤ LIM := by
              have h3 : q.1 = r.1 ++ q2.1 := by rw [← hq]
              rw [a1, h3, List.length_append, List.length_append] at hlim
              omega
            refine lc_core hg1 ht1 he go1 hx1 (fun v h => hv v (h1v v h)) s5.wiped t1 t2 t3 wk1 (ev.trans evB) hD (ra.mono evB.ex) (fun h => (fa h).mono evB.ex fun a ha => mut_some ((fa h).2 a ha).2) hl hq4 _ fun G6 H6 φ6 acc6 A6 s6 g6 h6 n6 ev6 ex6 r6 f6 => ?_
            have ww : wipe (wipe σ2 vs1) vs = wipe σ vs := by
              rw [wipe_eq (wipe_length ..) fun i hi => wipe_out2 σ2 fun z => hi (h1v i z), wp]
            refine ⟨by omega, G6, φ6, wipeE r.2.2 vs, accW ++ r.1, acc6, A6, fr0 && r.2.1, q2, ?_, g6, h6, n6, ev6, r6, f6, hq5, ?_, ?_, ?_⟩
            · have := s6.wiped (vs := vs)
              rw [ww] at this
              exact this
            · rw [a1, ← hq]
              simp
            · rw [a2, ← hq]
              simp [Bool.and_assoc]
            · rw [a3, ← hq]
          | false =>
            rw [hb] at hq
            simp only [Bool.false_eq_true, if_false] at hq ⊢
            obtain ⟨t1, t2, t3⟩ := stay evA
            refine ⟨by omega, G4, φ4, wipeE b.2 vs, accW, acc, A, fr0, q, ?_, t1, t2, t3, ev.trans evA, ra.mono evA.ex, fun h => ?_, hq, a1, a2, a3⟩
            · have := s4.wiped (vs := vs)
              rw [wp] at this
              exact this
            · have f0 := fa h
              exact f0.mono evA.ex fun a ha => mut_some (f0.2 a ha).2
      · cases e
    · cases e
end
end Dv
set_option Elab.async false
set_option linter.all false
set_option maxRecDepth 100000
set_option maxHeartbeats 4000000
namespace DvC
open PySem PySem.Spec CpRep
open Sem (wp)
theorem mro_cmb : mroOf (.type "itertools.combinations") = pure [.type "itertools.combinations", .type "object"] := by rw [mroOf_type]; kernel_rfl
theorem new_cmb : typeLookup (.type "itertools.combinations") "__new__" = pure (some (.builtin "itertools.combinations.__new__")) := by rw [typeLookup_type, builtinLookup_eq_fast]; kernel_rfl
theorem init_cmb : Slot "itertools.combinations" "__init__" "object.__init__" :=
  .of (owner := "object") (n := "__init__") (by rw [typeLookup_type, builtinLookup_eq_fast]; kernel_rfl) (by decide +kernel) (by decide +kernel) (by decide +kernel)
    (by first | exact .inl (by decide +kernel) | exact .inr (by decide +kernel)) (by rw [isSubtype_type]; kernel_rfl)
theorem sub_cmb : isSubtype (.type "itertools.combinations") (.type "itertools.combinations") = pure true := by rw [isSubtype_type]; kernel_rfl
theorem called_cmb : TypeCalled "itertools.combinations" "itertools.combinations.__new__" "object.__init__" :=
  ⟨by decide +kernel, by decide +kernel, ⟨_, _, mro_cmb⟩, madeBy_type mro_cmb new_cmb (by decide +kernel), by decide +kernel, sub_cmb, init_cmb⟩
theorem typeCall_cmb (a b : Value) : checkTypeCall "itertools.combinations" ⟨[a, b], []⟩ = pure () := by kernel_rfl
theorem newCall_cmb (a b : Value) : checkBuiltinCall "itertools.combinations.__new__" ⟨[.type "itertools.combinations", a, b], []⟩ = pure () := by kernel_rfl
theorem entry_cmb : entryFor table "itertools.combinations.__new__" = some Builtin.«itertools.combinations.__new__» := entryFor_of_tree (by kernel_rfl)
theorem iter_cmb : Slot "itertools.combinations" "__iter__" "itertools.combinations.__iter__" :=
  .of (owner := "itertools.combinations") (n := "__iter__") (by rw [typeLookup_type, builtinLookup_eq_fast]; kernel_rfl) (by decide +kernel) (by decide +kernel) (by decide +kernel)
    (by first | exact .inl (by decide +kernel) | exact .inr (by decide +kernel)) sub_cmb
theorem next_cmb : Slot "itertools.combinations" "__next__" "itertools.combinations.__next__" :=
  .of (owner := "itertools.combinations") (n := "__next__") (by rw [typeLookup_type, builtinLookup_eq_fast]; kernel_rfl) (by decide +kernel) (by decide +kernel) (by decide +kernel)
    (by first | exact .inl (by decide +kernel) | exact .inr (by decide +kernel)) sub_cmb
theorem entry_iter : entryFor table "itertools.combinations.__iter__" = some Builtin.«dict_keyiterator.__iter__» :=
  entryFor_alias (id' := "dict_keyiterator.__iter__") (by kernel_rfl) (by first | rfl | decide +kernel | (unfold String.splitOn; simp +decide [String.splitOnAux])) (by decide +kernel) (by kernel_rfl)
theorem entry_next : entryFor table "itertools.combinations.__next__" = some Builtin.«itertools.combinations.__next__» := entryFor_of_tree (by kernel_rfl)
theorem noDict_cmb : typeHasDict (.type "itertools.combinations") = false := by decide +kernel
/-- the iterator: its pool, its state, what it gave last, the places -/
abbrev IsCmb (h : Heap) (it pl : Addr) (st : Int) (last : Value) (ks : List Nat) : Prop :=
  h.get? it = some { cls := .type "itertools.combinations", dict := none, data := .fields ([Value.ref pl, .int st 0, last] ++ ks.map fun (n : Nat) => Value.int n 0).toArray, slots := #[] }
abbrev IsPool (h : Heap) (pl : Addr) (us : List Value) : Prop := h.get? pl = some { cls := .type "tuple", data := .seq us.toArray }
end DvC
set_option Elab.async false
set_option linter.all false
set_option maxRecDepth 100000
set_option maxHeartbeats 4000000
namespace DvC
open PySem PySem.Spec CpRep
open Sem (wp)
/-- a tuple's items, gathered; the heap grows -/
theorem col_tup {prog : Program} {w : World} {A : Around} {E : Value → Shared → Prop} {s : Shared} {Q : List Value → Shared → Prop} {l : Addr} {o : Obj} {us : List Value} {n : Nat} (ho : s.heap.get? l = some o) (hc : o.cls = .type "tuple") (hd : o.data = .seq us.toArray n) (hz : us.length ≤ sizeLine)
    (hQ : ∀ h', s.heap.objs.size ≤ h'.objs.size → (∀ b o', s.heap.get? b = some o' → h'.get? b = some o') → Q us { s with heap := h' }) : wpAny (model prog w) A (collect (.ref l)) Q E s := by
  let H1 : Heap := s.heap.push { cls := .type "list", data := .seq ([] : List Value).toArray }
  let H2 : Heap := H1.update s.heap.objs.size (Obj.mapSeq (· ++ us.toArray))
  have g1 : H1.get? s.heap.objs.size = some { cls := .type "list", data := .seq #[] 0 } := Heap.get?_push_size _ rfl
  have g2 := Heap.get?_update_self (Obj.mapSeq (· ++ us.toArray)) g1 rfl
  have sz : s.heap.objs.size ≤ H2.objs.size := by
    show s.heap.objs.size ≤ (H1.update _ _).objs.size
    rw [Heap.size_update, Heap.size_push]
    omega
  have kp : ∀ b o', s.heap.get? b = some o' → H2.get? b = some o' := fun b o' hb => (Heap.get?_update_other _ _ (Nat.ne_of_gt (Heap.lt_size hb))).trans (Heap.get?_push_of_some _ hb)
  have last : wpAny (model prog w) A (load s.heap.objs.size >>= fun o => match o.data with | .seq xs _ => pure xs.toList | _ => unsupported "internal:collect") Q E { s with heap := H2 } := by
    refine wpAny_bind (wpAny_load g2 (wpAny_pure ?_)); have e : ((#[] : Array Value) ++ us.toArray).toList = us := by simp
    show Q ((#[] : Array Value) ++ us.toArray).toList _
    rw [e]
    exact hQ H2 sz kp
  unfold collect
  refine wpAny_bind (wpAny_runValue (codeAny_builtin F.entry_proto_collect ?_)); rw [Around.under_plainId F.plain_proto_collect _]
  show wpAny _ A.in1 (newList [] >>= fun x => again (.builtin "list.__iadd__" ⟨[x, .ref l], []⟩)) _ _ s
  refine wpAny_bind (wpAny_newObj_type (wpAny_pure ⟨plainId_quiet F.plain_list_iadd _, codeAny_builtin F.entry_list_iadd ?_⟩)); rw [Around.under_plainId F.plain_list_iadd _]
  show wpAny _ A.in1 (Builtin.List.listExtendWith (.ref s.heap.objs.size) (.ref l) (.ref s.heap.objs.size)) _ _ { s with heap := H1 }
  refine wpAny_mono (wpAny_extend_seq (A := A) (s := { s with heap := H1 }) (R := fun r s' => r = .ok (.ret (.ref s.heap.objs.size)) ∧ s' = { s with heap := H2 }) _ l _ 0 (.inr rfl) g1 (Heap.get?_push_of_some _ ho) hc hd ⟨rfl, rfl⟩ (by simpa using hz)) (fun fin s' h => ?_) fun e s' h => nomatch h.1
  cases fin with
  | done f => obtain ⟨e, rfl⟩ := h; cases e; exact last
  | again c' => exact ⟨h.1, codeAny_mono h.2 fun r s2 hr => by obtain ⟨rfl, rfl⟩ := hr; exact last⟩
theorem bind_cmb (a b : Value) : Builtin.Itertools.itBindNamed "combinations" ["iterable", "r"] 2 2 [a, b] [] = pure [some a, some b] := by kernel_rfl
theorem class_cmb (a b : Value) : Builtin.Itertools.itClassAndRest "combinations" ⟨[.type "itertools.combinations", a, b], []⟩ = pure (.type "itertools.combinations", [a, b]) := by kernel_rfl
section
variable {prog : Program} {w : World} {A : Around} {E : Value → Shared → Prop} {s : Shared}
theorem meets_cmb (l : Addr) (us : List Value) (r : Nat) (t : Tok) (hr : r ≤ us.length) (hu : us.length ≤ 1000000) :
    Meets (Builtin.«itertools.combinations.__new__» ⟨[.type "itertools.combinations", .ref l, .int r t], []⟩)
      (fun _ R s => s.heap.IsTuple l us.toArray ∧ ∀ h' it pl, s.heap.objs.size ≤ it → s.heap.objs.size ≤ pl → it ≠ pl → IsCmb h' it pl 0 .none (List.range r) → IsPool h' pl us → (∀ b o, s.heap.get? b = some o → h'.get? b = some o) → R (.ok (.ret (.ref it))) { s with heap := h' }) :=
  .of_wp fun prog w A R s h => by
    obtain ⟨hp, g, dd, tk, os⟩ := s
    obtain ⟨hl, h⟩ := h
    have hsub := sub_cmb
    have hd := noDict_cmb
    have hn : ¬ ((!(decide (-(2 ^ 63 : Int) ≤ (r : Int)) && decide ((r : Int) < (2 ^ 63 : Int)))) = true) := by
      have a : decide (-(2 ^ 63 : Int) ≤ (r : Int)) = true := decide_eq_true (by omega)
      have b : decide ((r : Int) < (2 ^ 63 : Int)) = true := decide_eq_true (by omega)
      rw [a, b]
      decide
    refine wpAny_bind (wpAny_bind ?_)
    refine wpAny_of_eq (class_cmb _ _) ?_
    refine wpAny_bind (wpAny_of_eq (bind_cmb _ _) ?_)
    refine wpAny_bind ?_
    unfold Builtin.Itertools.itSsizeArg
    refine wpAny_bind (wpAny_of_eq (rfl : asIndex (.int r t) = pure (r : Int)) ?_)
    rw [if_neg (by simp; omega)]
    refine wpAny_pure ?_
    obtain ⟨o, ho, hc, n0, hdat⟩ := id hl
    refine wpAny_bind (col_tup ho hc hdat (Nat.le_trans hu (by decide)) fun h1 z1 k1 => ?_)
    rw [if_neg (by omega), if_neg (by unfold Builtin.Itertools.itTooMany; simp; omega)]
    refine wpAny_bind (wpAny_newTuple ?_ (Nat.le_trans hu (by decide)))
    refine wpAny_pure ?_
    refine wpAny_bind ?_
    unfold Builtin.Itertools.itNewRecord
    rw [if_pos (by rw [hd]; rfl)]
    refine wpAny_newObj_type (T := "itertools.combinations") ?_ ?_
    · have e0 : rawInt (if (r : Int).toNat > us.length then 2 else 0) = .int 0 0 := by
        rw [if_neg (by omega)]; rfl
      refine wpAny_pure ⟨_, rfl, h _ _ h1.objs.size ?_ z1 ?_ ?_ ?_ ?_⟩
      · show _ ≤ (h1.push _).objs.size
        rw [Heap.size_push]
        exact Nat.le_succ_of_le z1
      · show (h1.push _).objs.size ≠ _
        rw [Heap.size_push]
        omega
      · refine (Heap.get?_push_size _ rfl).trans ?_
        show some _ = some _
        rw [e0]
        rfl
      · exact Heap.get?_push_of_some _ (Heap.get?_push_size _ rfl)
      · exact fun b o q => Heap.get?_push_of_some _ (Heap.get?_push_of_some _ (k1 b o q))
    · show (_ : Array Value).size ≤ _
      rw [List.size_toArray, List.length_append, List.length_map, List.length_range]
      have e : (r : Int).toNat = r := Int.toNat_natCast r
      rw [e]
      exact Nat.le_trans (show 3 + r ≤ 1000003 by omega) (by decide)
theorem call_cmb {l : Addr} {us : List Value} {r : Nat} {t : Tok} {Q : Value → Shared → Prop} (hl : s.heap.IsTuple l us.toArray) (hr : r ≤ us.length) (hu : us.length ≤ 1000000)
    (h : ∀ h' it pl, s.heap.objs.size ≤ it → s.heap.objs.size ≤ pl → it ≠ pl → IsCmb h' it pl 0 .none (List.range r) → IsPool h' pl us → (∀ b o, s.heap.get? b = some o → h'.get? b = some o) → Q (.ref it) { s with heap := h' }) :
    wpAny (model prog w) A (call (.type "itertools.combinations") [.ref l, .int r t]) Q E s := by
  refine callType_new called_cmb (by decide +kernel) (typeCall_cmb _ _) (newCall_cmb _ _) (fun obj => F.args_object_init_3 obj _ _) entry_cmb (meets_cmb l us r t hr hu) ⟨hl, fun h' it pl a b c d e f => ?_⟩
  show _ ∧ _
  exact ⟨⟨_, d, rfl⟩, h h' it pl a b c d e f⟩
theorem owner_cmb : ∃ x, Manifest.owners.lookup (String.ofList ['s', 'n', 'o', 'i', 't', 'a', 'n', 'i', 'b', 'm', 'o', 'c', '.', 's', 'l', 'o', 'o', 't', 'r', 'e', 't', 'i'].reverse) = some x ∧ x = Manifest.sig_itertools_combinations := ⟨_, by kernel_rfl, rfl⟩
theorem args_iter (a : Value) : argsOk "itertools.combinations.__iter__" ⟨[a], []⟩ := by
  obtain ⟨x, h, rfl⟩ := owner_cmb
  unfold argsOk; rw [signature?_of (id := "itertools.combinations.__iter__") (n := ['_', '_', 'r', 'e', 't', 'i', '_', '_']) (o := ['s', 'n', 'o', 'i', 't', 'a', 'n', 'i', 'b', 'm', 'o', 'c', '.', 's', 'l', 'o', 'o', 't', 'r', 'e', 't', 'i']) (by kernel_rfl) h]; kernel_rfl
theorem args_next (a : Value) : argsOk "itertools.combinations.__next__" ⟨[a], []⟩ := by
  obtain ⟨x, h, rfl⟩ := owner_cmb
  unfold argsOk; rw [signature?_of (id := "itertools.combinations.__next__") (n := ['_', '_', 't', 'x', 'e', 'n', '_', '_']) (o := ['s', 'n', 'o', 'i', 't', 'a', 'n', 'i', 'b', 'm', 'o', 'c', '.', 's', 'l', 'o', 'o', 't', 'r', 'e', 't', 'i']) (by kernel_rfl) h]; kernel_rfl
theorem iter_cmb' {it pl : Addr} {st : Int} {last : Value} {ks : List Nat} {Q : Value → Shared → Prop} (hit : IsCmb s.heap it pl st last ks) (h : Q (.ref it) s) : wpAny (model prog w) A (pyIter (.ref it)) Q E s := by
  have hT : s.TypeIs (.ref it) "itertools.combinations" := ⟨_, hit, rfl⟩
  refine wpAny_pyIter_slot hT iter_cmb (wpAny_call_entry iter_cmb hT entry_iter ?_ (args_iter _))
  show wpAny _ _ (ret (.ref it)) _ _ s
  exact wpAny_pure ⟨_, rfl, "itertools.combinations", _, hT, next_cmb.lookup, h⟩
/-- the places behind these -/
def nextC (n : Nat) (ks : List Nat) : Option (List Nat) :=
  let r := ks.length
  match (List.range r).reverse.find? (fun i => ks.getD i 0 != i + n - r) with
  | none => none
  | some i => some (List.append (ks.take i) ((List.range (r - i)).map (ks.getD i 0 + 1 + ·)))
def gv (us : List Value) (ks : List Nat) : List Value := ks.map fun i => us.toArray.getD i .none
theorem nums (x y z : Value) (ks : List Nat) {g : Value → Nat} (h : ∀ n : Nat, g (.int n 0) = n) : (([x, y, z] ++ ks.map fun (n : Nat) => Value.int n 0).toArray.toList.drop 3).map g = ks := by
  show ((ks.map fun (n : Nat) => Value.int n 0).map _) = ks
  rw [List.map_map]
  exact List.map_id'' (fun n => h n) ks
theorem set1 (x y z u : Value) (vs : List Value) : (([x, y, z] ++ vs).toArray.setIfInBounds 1 u) = ([x, u, z] ++ vs).toArray := by simp
theorem set2 (x y z u : Value) (vs : List Value) : (([x, y, z] ++ vs).toArray.setIfInBounds 2 u) = ([x, y, u] ++ vs).toArray := by simp
/-- what is handed out -/
theorem out_cmb {it pl : Addr} {st : Int} {last : Value} {us : List Value} {ks : List Nat} {Q : Value → Shared → Prop} {m : Sem Value} (hne : it ≠ pl) (hit : IsCmb s.heap it pl st last ks) (hk : ks.length ≤ 1000000)
    (hm : ∀ R : Value → Shared → Prop, R (.ref s.heap.objs.size) { s with heap := s.heap.push { cls := .type "tuple", data := .seq (gv us ks).toArray } } → wpAny (model prog w) A m R E s)
    (hQ : ∀ h' T, T = s.heap.objs.size → IsCmb h' it pl st (.ref T) ks → h'.get? T = some { cls := .type "tuple", data := .seq (gv us ks).toArray } → (∀ b o, b ≠ it → s.heap.get? b = some o → h'.get? b = some o) → Q (.ref T) { s with heap := h' }) :
    wpAny (model prog w) A (m >>= fun result => field (.ref it) 2 >>= fun before => setField (.ref it) 2 result >>= fun _ => letGo [before] [result] >>= fun _ => ret result) (fun fin s' => ∃ v, fin = .done (.ret v) ∧ Q v s') E s := by
  refine wpAny_bind (hm _ ?_)
  have hlt : it < s.heap.objs.size := Heap.lt_size hit
  have hit1 : IsCmb (s.heap.push { cls := .type "tuple", data := .seq (gv us ks).toArray }) it pl st last ks := Heap.get?_push_of_some _ hit
  refine wpAny_bind (wpAny_field hit1 rfl (x := last) rfl ?_)
  refine wpAny_bind (wpAny_setField_rec hit1 (by simp) fun h' g sb => ?_)
  rw [set2] at g
  refine wpAny_bind (wpAny_letGo (wpAny_pure ⟨_, rfl, hQ h' _ rfl g ?_ fun b o hb e => ?_⟩))
  · exact (sb.2 _ (Nat.ne_of_gt hlt)).trans (Heap.get?_push_size _ rfl)
  · exact (sb.2 b hb).trans (Heap.get?_push_of_some _ e)
theorem pick_cmb {pl : Addr} {us : List Value} {ks : List Nat} {R : Value → Shared → Prop} (hp : IsPool s.heap pl us) (hk : ks.length ≤ 1000000) (h : R (.ref s.heap.objs.size) { s with heap := s.heap.push { cls := .type "tuple", data := .seq (gv us ks).toArray } }) :
    wpAny (model prog w) A (Builtin.Itertools.itPoolItems (.ref pl) >>= fun items => newTuple (ks.map fun i => items.getD i .none)) R E s := by
  refine wpAny_bind ?_
  unfold Builtin.Itertools.itPoolItems
  refine wpAny_bind (wpAny_seqItems hp rfl ?_)
  refine wpAny_pure ?_
  exact wpAny_newTuple h (by rw [List.length_map]; exact Nat.le_trans hk (by decide))
theorem first_cmb {it pl : Addr} {last : Value} {us : List Value} {ks : List Nat} {Q : Value → Shared → Prop} (hne : it ≠ pl) (hit : IsCmb s.heap it pl 0 last ks) (hp : IsPool s.heap pl us) (hk : ks.length ≤ 1000000)
    (hQ : ∀ h' T, T = s.heap.objs.size → IsCmb h' it pl 1 (.ref T) ks → h'.get? T = some { cls := .type "tuple", data := .seq (gv us ks).toArray } → (∀ b o, b ≠ it → s.heap.get? b = some o → h'.get? b = some o) → Q (.ref T) { s with heap := h' }) :
    wpAny (model prog w) A (Builtin.«itertools.combinations.__next__» ⟨[.ref it], []⟩) (fun fin s' => ∃ v, fin = .done (.ret v) ∧ Q v s') E s := by
  show wpAny _ _ (field (.ref it) 0 >>= _) _ _ s
  refine wpAny_bind (wpAny_field hit rfl (x := .ref pl) rfl ?_)
  refine wpAny_bind ?_
  show wpAny _ _ (load it >>= _) _ _ s
  refine wpAny_bind (wpAny_load hit (wpAny_pure ?_))
  rw [nums _ _ _ ks fun _ => rfl]
  show wpAny _ _ ((field (.ref it) 1 >>= _) >>= _) _ _ s
  refine wpAny_bind (wpAny_bind (wpAny_field hit rfl (x := .int 0 0) rfl (wpAny_pure ?_)))
  refine wpAny_bind (wpAny_setField_rec hit (by simp) fun h1 g1 sb1 => ?_)
  rw [set1] at g1
  exact out_cmb (s := { s with heap := h1 }) hne g1 hk (fun R hR => pick_cmb ((sb1.2 _ hne.symm).trans hp) hk hR) fun h' T a b c d => hQ h' T (a.trans sb1.1) b c fun x o hx e => d x o hx ((sb1.2 x hx).trans e)
theorem next_cmb' {it pl : Addr} {last : Value} {us : List Value} {ks ks' : List Nat} {Q : Value → Shared → Prop} (hne : it ≠ pl) (hit : IsCmb s.heap it pl 1 last ks) (hp : IsPool s.heap pl us) (hk : ks'.length ≤ 1000000) (hn : nextC us.length ks = some ks')
    (hQ : ∀ h' T, T = s.heap.objs.size → IsCmb h' it pl 1 (.ref T) ks' → h'.get? T = some { cls := .type "tuple", data := .seq (gv us ks').toArray } → (∀ b o, b ≠ it → s.heap.get? b = some o → h'.get? b = some o) → Q (.ref T) { s with heap := h' }) :
    wpAny (model prog w) A (Builtin.«itertools.combinations.__next__» ⟨[.ref it], []⟩) (fun fin s' => ∃ v, fin = .done (.ret v) ∧ Q v s') E s := by
  show wpAny _ _ (field (.ref it) 0 >>= _) _ _ s
  refine wpAny_bind (wpAny_field hit rfl (x := .ref pl) rfl ?_)
  refine wpAny_bind ?_
  show wpAny _ _ (load it >>= _) _ _ s
  refine wpAny_bind (wpAny_load hit (wpAny_pure ?_))
  rw [nums _ _ _ ks fun _ => rfl]
  show wpAny _ _ ((field (.ref it) 1 >>= _) >>= _) _ _ s
  refine wpAny_bind (wpAny_bind (wpAny_field hit rfl (x := .int 1 0) rfl (wpAny_pure ?_)))
  show wpAny _ _ (Builtin.Itertools.itPoolItems (.ref pl) >>= _) _ _ s
  refine wpAny_bind ?_
  unfold Builtin.Itertools.itPoolItems
  refine wpAny_bind (wpAny_seqItems hp rfl (wpAny_pure ?_))
  split
  · rename_i nx h
    have e : some nx = some ks' := h.symm.trans hn
    cases e
    refine wpAny_bind ?_
    show wpAny _ _ (updateFields it _) _ _ s
    have e3 : (([Value.ref pl, Value.int 1 0, last] ++ ks.map fun (n : Nat) => Value.int n 0).toArray.extract 0 3 ++ (ks'.map fun (n : Nat) => rawInt n).toArray) = ([Value.ref pl, Value.int 1 0, last] ++ ks'.map fun (n : Nat) => Value.int n 0).toArray := by
      simp [rawInt]
    refine wpAny_updateFields hit rfl ?_ (by
      show (_ : Array Value).size ≤ _
      rw [e3, List.size_toArray, List.length_append, List.length_map]
      exact Nat.le_trans (show 3 + ks'.length ≤ 1000003 by omega) (by decide))
    have sb : Heap.SameBut it s.heap (s.heap.update it (Obj.mapFields fun fs => fs.extract 0 3 ++ (ks'.map fun (n : Nat) => rawInt n).toArray)) := Heap.SameBut.update ..
    have g1 : IsCmb (s.heap.update it (Obj.mapFields fun fs => fs.extract 0 3 ++ (ks'.map fun (n : Nat) => rawInt n).toArray)) it pl 1 last ks' := by
      refine (Heap.get?_update_self _ hit rfl).trans ?_
      show some _ = some _
      rw [← e3]
      rfl
    generalize s.heap.update it (Obj.mapFields fun fs => fs.extract 0 3 ++ (ks'.map fun (n : Nat) => rawInt n).toArray) = h1 at sb g1
    exact out_cmb (s := { s with heap := h1 }) hne g1 hk (fun R hR => pick_cmb ((sb.2 _ hne.symm).trans hp) hk hR) fun h' T a b c d => hQ h' T (a.trans sb.1) b c fun x o hx e => d x o hx ((sb.2 x hx).trans e)
  · rename_i h
    have e : none = some ks' := h.symm.trans hn
    cases e
theorem end_cmb {it pl : Addr} {last : Value} {us : List Value} {ks : List Nat} {Q : Fin → Shared → Prop} (hh : A.handled = none) (hit : IsCmb s.heap it pl 1 last ks) (hp : IsPool s.heap pl us) (hn : nextC us.length ks = none)
    (hE : ∀ h' e, (∀ b o, b ≠ it → s.heap.get? b = some o → h'.get? b = some o) → (∃ o, h'.get? e = some o ∧ o.cls = .type "StopIteration") → E (.ref e) { s with heap := h' }) :
    wpAny (model prog w) A (Builtin.«itertools.combinations.__next__» ⟨[.ref it], []⟩) Q E s := by
  show wpAny _ _ (field (.ref it) 0 >>= _) _ _ s
  refine wpAny_bind (wpAny_field hit rfl (x := .ref pl) rfl ?_)
  refine wpAny_bind ?_
  show wpAny _ _ (load it >>= _) _ _ s
  refine wpAny_bind (wpAny_load hit (wpAny_pure ?_))
  rw [nums _ _ _ ks fun _ => rfl]
  show wpAny _ _ ((field (.ref it) 1 >>= _) >>= _) _ _ s
  refine wpAny_bind (wpAny_bind (wpAny_field hit rfl (x := .int 1 0) rfl (wpAny_pure ?_)))
  show wpAny _ _ (Builtin.Itertools.itPoolItems (.ref pl) >>= _) _ _ s
  refine wpAny_bind ?_
  unfold Builtin.Itertools.itPoolItems
  refine wpAny_bind (wpAny_seqItems hp rfl (wpAny_pure ?_))
  split
  · rename_i nx h
    have e : some nx = none := h.symm.trans hn
    cases e
  · refine wpAny_bind (wpAny_setField_rec hit (by simp) fun h1 g1 sb1 => ?_)
    show wpAny _ _ (newExc (.type "StopIteration") [] >>= _) _ _ _
    refine wpAny_bind ?_
    simp only [newExc, newTuple]
    refine wpAny_bind (wpAny_newObj_type ?_ (by size_fits))
    refine wpAny_bind (m := firstArgMember _ _) (wpAny_of_eq (a := Value.none) (by first | rfl | (simp only [firstArgMember]; rfl)) ?_)
    refine wpAny_newObj_type ?_ (by size_fits)
    simp only [raiseNew]
    refine wpAny_bind (wpAny_handled ?_)
    rw [hh]
    refine wpAny_bind (wpAny_pure (wpAny_throw ?_))
    refine hE _ _ (fun b o hb e => ?_) ⟨_, Heap.get?_push_size _ rfl, rfl⟩
    exact Heap.get?_push_of_some _ (Heap.get?_push_of_some _ ((sb1.2 b hb).trans e))
/-- as the loop asks -/
theorem pn_first {it pl : Addr} {last : Value} {us : List Value} {ks : List Nat} {Q : Option Value → Shared → Prop} (hne : it ≠ pl) (hit : IsCmb s.heap it pl 0 last ks) (hp : IsPool s.heap pl us) (hk : ks.length ≤ 1000000)
    (hQ : ∀ h' T, T = s.heap.objs.size → IsCmb h' it pl 1 (.ref T) ks → h'.get? T = some { cls := .type "tuple", data := .seq (gv us ks).toArray } → (∀ b o, b ≠ it → s.heap.get? b = some o → h'.get? b = some o) → Q (some (.ref T)) { s with heap := h' }) :
    wpAny (model prog w) A (pyNext (.ref it)) Q E s := by
  have hT : s.TypeIs (.ref it) "itertools.combinations" := ⟨_, hit, rfl⟩
  unfold pyNext
  exact wpAny_bind (wpAny_attempt (wpAny_callSpecial?_slot (name := Str.ofString "__next__") hT next_cmb (wpAny_call_entry next_cmb hT entry_next (first_cmb hne hit hp hk fun h' T a b c d => wpAny_pure (hQ h' T a b c d)) (args_next _))))
theorem pn_next {it pl : Addr} {last : Value} {us : List Value} {ks ks' : List Nat} {Q : Option Value → Shared → Prop} (hne : it ≠ pl) (hit : IsCmb s.heap it pl 1 last ks) (hp : IsPool s.heap pl us) (hk : ks'.length ≤ 1000000) (hn : nextC us.length ks = some ks')
    (hQ : ∀ h' T, T = s.heap.objs.size → IsCmb h' it pl 1 (.ref T) ks' → h'.get? T = some { cls := .type "tuple", data := .seq (gv us ks').toArray } → (∀ b o, b ≠ it → s.heap.get? b = some o → h'.get? b = some o) → Q (some (.ref T)) { s with heap := h' }) :
    wpAny (model prog w) A (pyNext (.ref it)) Q E s := by
  have hT : s.TypeIs (.ref it) "itertools.combinations" := ⟨_, hit, rfl⟩
  unfold pyNext
  exact wpAny_bind (wpAny_attempt (wpAny_callSpecial?_slot (name := Str.ofString "__next__") hT next_cmb (wpAny_call_entry next_cmb hT entry_next (next_cmb' hne hit hp hk hn fun h' T a b c d => wpAny_pure (hQ h' T a b c d)) (args_next _))))
theorem pn_end {it pl : Addr} {last : Value} {us : List Value} {ks : List Nat} {Q : Option Value → Shared → Prop} (hh : A.handled = none) (hit : IsCmb s.heap it pl 1 last ks) (hp : IsPool s.heap pl us) (hn : nextC us.length ks = none)
    (hQ : ∀ h', (∀ b o, b ≠ it → s.heap.get? b = some o → h'.get? b = some o) → Q none { s with heap := h' }) : wpAny (model prog w) A (pyNext (.ref it)) Q E s := by
  have hT : s.TypeIs (.ref it) "itertools.combinations" := ⟨_, hit, rfl⟩
  unfold pyNext
  refine wpAny_bind (wpAny_attempt (wpAny_callSpecial?_slot (name := Str.ofString "__next__") hT next_cmb (wpAny_call_entry next_cmb hT entry_next (end_cmb hh hit hp hn fun h' e hk he => ?_) (args_next _))))
  obtain ⟨o, ho, hc⟩ := he
  refine wpAny_bind (wpAny_isInstance (T := "StopIteration") (b := true) ⟨o, ho, hc⟩ isSubtype_stop ?_)
  exact wpAny_pure (hQ _ hk)
end
end DvC
set_option Elab.async false
set_option linter.all false
set_option maxRecDepth 100000
set_option maxHeartbeats 4000000
namespace DvC
open PySem PySem.Spec PyProof.Rows L2
open Sem (wp)
/-- C: the places of each turn -/
structure Chn (n : Nat) (C : List (List Nat)) : Prop where
  ne : C ≠ []
  nx : ∀ i ks, C[i]? = some ks → nextC n ks = C[i + 1]?
  lt : ∀ ks ∈ C, ks.length ≤ 1000000 ∧ ∀ k ∈ ks, k < n
def ItC (xs : List V) (C : List (List Nat)) : It :=
  ⟨fun i _ => i < C.length, fun i H v H' => ∃ T ks, C[i]? = some ks ∧ v = .ref T ∧ H T = none ∧ H' = upd H T (.tup (ks.map fun j => xs.getD j .non)), fun i _ => C.length ≤ i⟩
theorem vals_gv : ∀ {ks : List Nat} {xs : List V} {us : List Value}, Vals xs us → (∀ k ∈ ks, k < us.length) → Vals (ks.map fun j => xs.getD j .non) (gv us ks)
  | [], _, _, _, _ => .nil
  | k :: ks, xs, us, h, hk => by
    have h1 := hk k (List.mem_cons_self ..)
    have ih := vals_gv (ks := ks) h fun j hj => hk j (List.mem_cons_of_mem _ hj)
    have hl := h.length
    have hx : k < xs.length := by omega
    obtain ⟨u, e, r⟩ := h.get (List.getElem?_eq_getElem hx)
    refine .cons ?_ ih
    have e1 : xs.getD k .non = xs[k] := by rw [List.getD_eq_getElem?_getD, List.getElem?_eq_getElem hx]; rfl
    have e2 : us.toArray.getD k .none = u := by
      rw [Array.getD_eq_getD_getElem?, List.getElem?_toArray, e]
      rfl
    show L2.RelV (xs.getD k .non) (us.toArray.getD k .none)
    rw [e1, e2]
    exact r
theorem turn_cmb {P : Program} {w : World} {K : PySem.W.Frag} {tg : Expr} {it pl : Addr} {xs : List V} {us : List Value} {C : List (List Nat)} (hne : it ≠ pl) (rv : Vals xs us) (hC : Chn us.length C) :
    Turn P w K tg (ItC xs C) [it, pl] it (fun i h => i ≤ C.length ∧ IsPool h pl us ∧ ((i = 0 ∧ ∃ last, IsCmb h it pl 0 last (C.headD [])) ∨ ∃ j ks last, i = j + 1 ∧ C[j]? = some ks ∧ IsCmb h it pl 1 last ks)) where
  mem := by simp
  obj := fun i h st c hc => by
    obtain ⟨_, hp, hz⟩ := st
    have e' : c = it ∨ c = pl := by simpa using hc
    rcases e' with q | q
    · rw [q]
      rcases hz with ⟨_, _, z⟩ | ⟨_, _, _, _, _, z⟩
      · exact ⟨_, z, fun v q => nomatch q⟩
      · exact ⟨_, z, fun v q => nomatch q⟩
    · rw [q]; exact ⟨_, hp, fun v q => nomatch q⟩
  keep := fun i h h' st k => by
    obtain ⟨hi, hp, hz⟩ := st
    refine ⟨hi, k pl (by simp) _ hp, ?_⟩
    rcases hz with ⟨a, b, z⟩ | ⟨a, b, c, d, e, z⟩
    · exact .inl ⟨a, b, k it (by simp) _ z⟩
    · exact .inr ⟨a, b, c, d, e, k it (by simp) _ z⟩
  item := by
    intro X hP hw hK hc i pins s σ H E I hf st hg
    subst hP hw hK
    have hg : i < C.length := hg
    obtain ⟨hi, hp, hz⟩ := st
    have hks : C[i]? = some C[i] := List.getElem?_eq_getElem hg
    have hlt := hC.lt _ (List.getElem_mem hg)
    have fin : ∀ h' T, T = s.heap.objs.size → IsCmb h' it pl 1 (.ref T) C[i] → h'.get? T = some { cls := .type "tuple", data := .seq (gv us C[i]).toArray } → (∀ b o, b ≠ it → s.heap.get? b = some o → h'.get? b = some o) →
        ∃ u, some (Value.ref T) = some u ∧ wpAny (model X.prog X.w) X.A (letOwnedTupleGo tg (.ref it) u) (fun _ s2 => ∃ x H', Inv X pins σ H' s2 ∧ RelV x u ∧ (ItC xs C).yld i H x H' ∧ (i + 1 ≤ C.length ∧ IsPool s2.heap pl us ∧ ((i + 1 = 0 ∧ ∃ last, IsCmb s2.heap it pl 0 last (C.headD [])) ∨ ∃ j ks last, i + 1 = j + 1 ∧ C[j]? = some ks ∧ IsCmb s2.heap it pl 1 last ks)) ∧ ∀ b ∈ [it, pl], H' b = none) E { s with heap := h' } := by
      intro h' T eT g1 g2 k1
      subst eT
      have new : ObjOk X.prog X.w (upd H s.heap.objs.size (.tup (C[i].map fun j => xs.getD j .non))) h' s.heap.objs.size (.tup (C[i].map fun j => xs.getD j .non)) :=
        ⟨by show (C[i].map _).length ≤ sizeLine; rw [List.length_map]; exact Nat.le_trans hlt.1 (by decide), gv us C[i], vals_gv rv hlt.2, ⟨_, g2, rfl, _, rfl⟩⟩
      have I1 : Inv X pins σ (upd H s.heap.objs.size (.tup (C[i].map fun j => xs.getD j .non))) { s with heap := h' } :=
        I.turnedNew (t' := s.toks) (ch := [it]) (fun c o hb q => k1 c o (fun z => hb (by simp [z])) q) (fun b hb => hf b (List.mem_cons.mpr (.inl (List.mem_singleton.mp hb)))) (Nat.le_refl _) new
      refine ⟨_, rfl, go_of (s := { s with heap := h' }) g1 rfl rfl (by decide) ⟨.ref s.heap.objs.size, _, I1, rfl, ⟨_, _, hks, rfl, I.hok.fresh (Nat.le_refl _), rfl⟩, ⟨hg, k1 _ _ hne.symm hp, .inr ⟨i, _, _, rfl, hks, g1⟩⟩, fun b hb => ?_⟩⟩
      have hlt2 : b < s.heap.objs.size := by
        have e' : b = it ∨ b = pl := by simpa using hb
        rcases e' with q | q
        · rw [q]
          rcases hz with ⟨_, _, z⟩ | ⟨_, _, _, _, _, z⟩
          · exact Heap.lt_size z
          · exact Heap.lt_size z
        · rw [q]; exact Heap.lt_size hp
      rw [upd_ne (Nat.ne_of_lt hlt2)]
      exact (hf b hb).1
    rcases hz with ⟨rfl, last, z⟩ | ⟨j, ks, last, rfl, hj, z⟩
    · have e0 : C.headD [] = C[0] := by
        cases C with
        | nil => cases hg
        | cons a b => rfl
      rw [e0] at z
      exact pn_first hne z hp hlt.1 fin
    · have hn := hC.nx j ks hj
      rw [hks] at hn
      exact pn_next hne z hp hlt.1 hn fin
  done := by
    intro X hP hw hK hc i pins s σ H E I hf st hg
    subst hP hw hK
    have hg : C.length ≤ i := hg
    obtain ⟨hi, hp, hz⟩ := st
    have hi' : i = C.length := Nat.le_antisymm hi hg
    subst hi'
    rcases hz with ⟨h0, _⟩ | ⟨j, ks, last, hj0, hj, z⟩
    · exact absurd (List.length_eq_zero_iff.mp h0) hC.ne
    · have hn := hC.nx j ks hj
      rw [List.getElem?_eq_none (by omega)] at hn
      obtain ⟨f0, f1, f2, f3, f4, f5⟩ := hf it (by simp)
      exact pn_end (I.ok.hd hc) z hp hn fun h' k1 => ⟨rfl, I.turned (t' := s.toks) (fun b o hb e => k1 b o hb e) f0 f1 f3 f4 f5⟩
  self := fun A i s Q E st h => by
    obtain ⟨hi, hp, hz⟩ := st
    rcases hz with ⟨_, _, z⟩ | ⟨_, _, _, _, _, z⟩
    · exact iter_cmb' z h
    · exact iter_cmb' z h
def iCmb (K : PySem.W.Frag) (ta : TA) : TI := fun σ H R => ta σ H fun vs H1 => ∃ (a : Addr) (r : Nat) (xs : List V) (C : List (List Nat)), vs = [.ref a, .int r] ∧ SqT K H1 a xs ∧ r ≤ xs.length ∧ xs.length ≤ 1000000 ∧ C[0]? = some (List.range r) ∧ Chn xs.length C ∧ R (ItC xs C) H1
theorem pi_cmb {X : Cx} {tg e e2 : Expr} {ta : TA} {x : Str} {p pos : Pos} (hg : Gl X x) (hm : X.mg x = some (.type "itertools.combinations")) (ha : PA X [e, e2] ta)
    (hs : starEach [e, e2] X.env = (false, eval e X.env) :: starEach [e2] X.env := by rfl) (hpl : (backTo pos (starEach [e2] X.env)).any (·.1) = false := by rfl) (hd : (x == ("__debug__" : Str)) = false := by decide) :
    PI X tg (.Call (.Name x p) [e, e2] [] pos) (iCmb X.K ta) := by
  refine ⟨fun pins s σ H R I h => ?_⟩
  refine Call_ (ld_glob I hg hm (PyProof.Rows.callWith_type1 (thn (ha.run pos pins s σ H _ I h) fun us s1 ⟨vs, H1, I1, r1, q1⟩ => ?_) hs hpl) hd)
  obtain ⟨a, r, xs, C, ex, hq, hr, hx, h0, hC, q⟩ := q1
  subst ex
  cases r1 with
  | cons r0 rr =>
    cases rr with
    | cons r' rr =>
      cases rr
      cases r0
      obtain ⟨t, rfl⟩ := r'
      obtain ⟨its, rv, p1, _⟩ := I1.tuple hq
      have hl := rv.length
      refine call_cmb (show s1.heap.IsTuple a its.toArray from p1) (by omega) (by omega) fun h' it pl z1 z2 hne gc gp k1 => iter_cmb' gc ?_
      have I2 : Inv X pins σ H1 { s1 with heap := h' } := I1.kept (t' := s1.toks) k1
      rw [hl] at hC
      have eh : C.headD [] = List.range r := by
        cases C with
        | nil => cases h0
        | cons c C => exact Option.some.inj h0
      refine ⟨it, [it, pl], _, _, H1, rfl, I2, turn_cmb hne rv hC, ⟨Nat.zero_le _, gp, .inl ⟨rfl, _, by rw [eh]; exact gc⟩⟩, fun b hb => ?_, q⟩
      have hle : s1.heap.objs.size ≤ b := by
        have e' : b = it ∨ b = pl := by simpa using hb
        rcases e' with z | z
        · rw [z]; exact z1
        · rw [z]; exact z2
      exact I1.fpOk hle (I1.hok.fresh hle)
end DvC
set_option Elab.async false
set_option linter.all false
set_option maxRecDepth 100000
set_option maxHeartbeats 4000000
namespace Dv
open PySem PySem.Spec PyProof.Rows L2 DvR DvF DvC
def cmbF : Nat → Nat → List Nat → Option (List (List Nat))
  | 0, _, _ => none
  | f + 1, n, ks => match nextC n ks with
    | none => some [ks]
    | some ks' => (cmbF f n ks').map (ks :: ·)
theorem cmbF_ne : ∀ {f n : Nat} {ks : List Nat} {C : List (List Nat)}, cmbF f n ks = some C → C[0]? = some ks
  | 0, _, _, _, h => by cases h
  | f + 1, n, ks, C, h => by
    unfold cmbF at h
    split at h
    · cases h; rfl
    · obtain ⟨C', _, rfl⟩ := Option.map_eq_some_iff.mp h
      rfl
theorem cmbF_nx : ∀ {f n : Nat} {ks : List Nat} {C : List (List Nat)}, cmbF f n ks = some C → ∀ i a, C[i]? = some a → nextC n a = C[i + 1]?
  | 0, _, _, _, h => by cases h
  | f + 1, n, ks, C, h => by
    unfold cmbF at h
    split at h
    · rename_i hn
      cases h
      intro i a ha
      cases i with
      | zero => cases ha; exact hn
      | succ i => simp at ha
    · rename_i ks' hn
      obtain ⟨C', h', rfl⟩ := Option.map_eq_some_iff.mp h
      intro i a ha
      cases i with
      | zero =>
        cases ha
        show nextC n ks = C'[0]?
        rw [hn, cmbF_ne h']
      | succ i => exact cmbF_nx h' i a ha
def cmbOk (n : Nat) (C : List (List Nat)) : Bool := C.all fun ks => decide (ks.length ≤ 1000000) && ks.all fun k => decide (k < n)
def iCmbW (g : DenA) : DenI := fun M δ => (g M δ).bind fun r => match r.1 with
  | [.tup ws, .int k] => if 0 ≤ k ∧ k.toNat ≤ ws.length ∧ ws.length ≤ 1000000 then (cmbF 2000000 ws.length (List.range k.toNat)).bind fun C => if cmbOk ws.length C = true then some (C.map fun ks => W.tup (ks.map fun j => ws.getD j .non), r.2.2) else none else none
  | _ => none
section
variable {K : PySem.W.Frag}
theorem rps_pick {G : Hp} {ws : List W} {xs : List V} {A : List Addr} (r : Rps K G ws xs A) : ∀ {ks : List Nat}, (∀ k ∈ ks, k < ws.length) → ∃ B, Rps K G (ks.map fun j => ws.getD j .non) (ks.map fun j => xs.getD j .non) B
  | [], _ => ⟨[], Rps.nil⟩
  | k :: ks, h => by
    obtain ⟨B, rb⟩ := rps_pick r (ks := ks) fun j hj => h j (List.mem_cons_of_mem _ hj)
    have hk := h k (List.mem_cons_self ..)
    have hx : k < xs.length := by rw [← r.len]; exact hk
    obtain ⟨v, B1, e, r1, _⟩ := r.get (List.getElem?_eq_getElem hk)
    have e1 : ws.getD k .non = ws[k] := by rw [List.getD_eq_getElem?_getD, List.getElem?_eq_getElem hk]; rfl
    have e2 : xs.getD k .non = v := by rw [List.getD_eq_getElem?_getD, e]; rfl
    refine ⟨B1 ++ B, Rps.cons ?_ rb⟩
    show Rp K G (ws.getD k .non) (xs.getD k .non) B1
    rw [e1, e2]
    exact r1
theorem walks_cmb {Gj : Hp} {xs : List V} {ws : List W} {A : List Addr} {C : List (List Nat)} (r : Rps K Gj ws xs A) (hc : ∀ ks ∈ C, ∀ k ∈ ks, k < ws.length) : Walks K Gj (ItC xs C) (C.map fun ks => W.tup (ks.map fun j => ws.getD j .non)) := fun {M G H φ σ δ} s x i => by
  refine ⟨fun hi => ?_, fun w e => ?_⟩
  · rw [List.length_map] at hi
    exact hi
  · rw [List.getElem?_map] at e
    obtain ⟨ks, hk, rfl⟩ := Option.map_eq_some_iff.mp e
    have hi : i < C.length := (List.getElem?_eq_some_iff.mp hk).1
    refine ⟨hi, fun v H' y => ?_⟩
    obtain ⟨T, ks', h1, rfl, hT, rfl⟩ := y
    rw [hk] at h1
    cases h1
    have hg := s.sub.back hT
    obtain ⟨B, rb⟩ := rps_pick r (hc ks (List.mem_of_getElem? hk))
    refine ⟨upd G T (.tup (ks.map fun j => xs.getD j .non)), B, s.laid hT, Evo.laid s.sub hT, ?_⟩
    unfold Rp
    exact ⟨T, _, rfl, upd_same, (rb.mono x).mono (Ex.new hg)⟩
theorem si_cmb {t : TA} {g : DenA} (ha : Sa K t g) : Si K (iCmb K t) (iCmbW g) := by
  refine ⟨fun {M δ r} e => ?_, fun {M G H φ σ δ r} s e R P => ?_⟩
  · unfold iCmbW at e
    obtain ⟨r1, h1, e⟩ := Option.bind_eq_some_iff.mp e
    have o1 := ha.off h1
    split at e
    · split at e
      · obtain ⟨C, h2, e⟩ := Option.bind_eq_some_iff.mp e
        split at e
        · cases e; exact o1
        · cases e
      · cases e
    · cases e
  · unfold iCmbW at e
    obtain ⟨⟨as, fr, δ1⟩, h1, e⟩ := Option.bind_eq_some_iff.mp e
    refine ha.run s h1 _ fun vs G1 H1 φ1 A1 s1 e1 q1 _ => ?_
    split at e
    · rename_i ws k ew
      have ew' : as = [.tup ws, .int k] := ew
      subst ew'
      split at e
      · rename_i hc
        obtain ⟨C, h2, e⟩ := Option.bind_eq_some_iff.mp e
        split at e
        · rename_i hok
          cases e
          obtain ⟨c1, c2, c3⟩ := hc
          obtain ⟨x, y, B, D, rfl, hx, hy⟩ := rps_two q1
          unfold Rp at hx hy
          obtain ⟨a, us, rfl, ha', r1⟩ := hx
          obtain ⟨rfl, _⟩ := hy
          have hl := r1.len
          have hall : ∀ ks ∈ C, ks.length ≤ 1000000 ∧ ∀ k ∈ ks, k < ws.length := fun ks hks => by
            have := List.all_eq_true.mp hok ks hks
            obtain ⟨a1, a2⟩ := Bool.and_eq_true_iff.mp this
            exact ⟨of_decide_eq_true a1, fun k hk => of_decide_eq_true (List.all_eq_true.mp a2 k hk)⟩
          have ek : (k : Int) = ((k.toNat : Nat) : Int) := (Int.toNat_of_nonneg c1).symm
          refine ⟨a, k.toNat, us, C, by rw [← ek], (SqT.of (s1.sub _ _ ha')), by omega, by omega, cmbF_ne h2, ?_, P _ G1 H1 φ1 s1 e1 (walks_cmb r1 fun ks hks => (hall ks hks).2)⟩
          rw [← hl]
          exact ⟨fun z => (by rw [z] at h2; have := cmbF_ne h2; cases this), cmbF_nx h2, hall⟩
        · cases e
      · cases e
    · cases e
end
end Dv
set_option Elab.async false
set_option linter.all false
set_option maxRecDepth 100000
set_option maxHeartbeats 4000000
namespace Dv
open PySem PySem.Spec PyProof.Rows L2 DvR DvF
/-- G: a part of H with all that can't be written -/
structure Vw (K : PySem.W.Frag) (G H : Hp) : Prop where
  sub : Ex G H
  tup : ∀ a o, H a = some o → ¬ Mut (some o) → G a = some o
  tb : ∀ p ∈ tabsK K, G p.2.1 = none ∧ LamX.TabS H p.2.1 p.2.2
/-- nothing that stood was written -/
structure Grow (K : PySem.W.Frag) (G H G' H' : Hp) : Prop where
  ex : Ex G G'
  exH : ExT H H'
  vw : Vw K G' H'
  new : ∀ a o, G a = none → G' a = some o → H a = none
theorem Grow.refl {K : PySem.W.Frag} {G H : Hp} (v : Vw K G H) : Grow K G H G H := ⟨Ex.refl G, ExT.refl H, v, fun a o h h' => by rw [h] at h'; cases h'⟩
section
variable {K : PySem.W.Frag} {M : Own} {G H G' H' : Hp} {φ : Nat → List Addr} {σ : L2.St} {δ : Env}
theorem Sta.vw (s : Sta K M G H φ σ δ) : Vw K G H := ⟨s.sub, s.tup, fun p hp => ⟨(s.tb p hp).1, (s.tb p hp).2.2⟩⟩
theorem Sta.grow (s : Sta K M G H φ σ δ) (g : Grow K G H G' H') : Sta K M G' H' φ σ δ := by
  refine ⟨g.vw.sub, fun i hi a ha => ?_, fun i hi a ha => ?_, s.nd, s.dis, fun i w hi e => ?_, fun i w hi e => ?_, s.len, g.vw.tup, fun p hp => ⟨(g.vw.tb p hp).1, (s.tb p hp).2.1, (g.vw.tb p hp).2⟩⟩
  · cases c : G' a with
    | none => rfl
    | some o =>
      have n := g.new a o (s.sep i hi a ha) c
      obtain ⟨o2, q⟩ := mut_some (s.mt i hi a ha)
      rw [n] at q
      cases q
  · have m := s.mt i hi a ha
    obtain ⟨o, q⟩ := mut_some m
    rcases nt_or o with nt | ⟨ps, rfl⟩
    · rw [g.exH.n a o q nt]
      rw [q] at m
      exact m
    · obtain ⟨ps', q'⟩ := g.exH.t a ps q
      rw [q']
      trivial
  · obtain ⟨v, e1, r⟩ := s.own i w hi e
    exact ⟨v, e1, r.monoT g.exH⟩
  · obtain ⟨v, A, e1, r⟩ := s.non i w hi e
    exact ⟨v, A, e1, r.mono g.ex⟩
theorem Evo.grow (g : Grow K G H G' H') : Evo M G H φ M G' H' φ := ⟨g.ex, fun a o h nt _ => g.exH.n a o h nt, g.exH.t, fun a o h h' => .inl (g.new a o h h'), fun i hi a ha => .inr ⟨i, hi, ha⟩⟩
end
abbrev FnD := List W → Option (W × Bool)
/-- the promise of a def that writes nothing it was given -/
def spD (K : PySem.W.Frag) (n : Nat) (F : FnD) : Sp := fun vs H Q _ => vs.length = n ∧ ∃ G ws A r, Vw K G H ∧ Rps K G ws vs A ∧ F ws = some r ∧
  ∀ v G' H' A', Grow K G H G' H' → Rp K G' r.1 v A' → (r.2 = true → Fresh G G' A') → Q v H'
def dCall (F : FnD) (g : DenA) : Den := fun M δ => (g M δ).bind fun r => (F r.1).map fun q => (q.1, q.2, r.2.2)
/-- by position, then by name, then the defaults; in the parameters' order -/
def kwG {α : Type} (n m : Nat) (perm : List Nat) (ds us zs : List α) : List α := if us.length = n ∧ zs.length = m then perm.filterMap fun i => (us ++ zs ++ ds)[i]? else []
def dCallK (n m : Nat) (perm : List Nat) (ds : List W) (F : FnD) (g gk : DenA) : Den := fun M δ => (g M δ).bind fun r => (gk M r.2.2).bind fun z => (F (kwG n m perm ds r.1 z.1)).map fun q => (q.1, q.2, z.2.2)
section
variable {K : PySem.W.Frag}
theorem Rps.pick {G : Hp} : ∀ {perm : List Nat} {ws : List W} {vs : List V} {A : List Addr}, Rps K G ws vs A → ∃ B, Rps K G (perm.filterMap fun i => ws[i]?) (perm.filterMap fun i => vs[i]?) B
  | [], ws, vs, A, r => ⟨[], Rps.nil⟩
  | i :: perm, ws, vs, A, r => by
    obtain ⟨B, rB⟩ := Rps.pick (perm := perm) r
    by_cases h : i < ws.length
    · obtain ⟨v, B1, e1, r1, _⟩ := r.get (List.getElem?_eq_getElem h)
      rw [List.filterMap_cons, List.filterMap_cons, List.getElem?_eq_getElem h, e1]
      exact ⟨_, Rps.cons r1 rB⟩
    · rw [List.filterMap_cons, List.filterMap_cons, List.getElem?_eq_none (by omega), List.getElem?_eq_none (by have := r.len; omega)]
      exact ⟨B, rB⟩
theorem Rps.kw {G : Hp} {n m : Nat} {perm : List Nat} {dW ws zs : List W} {dV vs us : List V} {A B C : List Addr} (hd : Rps K G dW dV C) (r : Rps K G ws vs A) (r' : Rps K G zs us B) : ∃ D, Rps K G (kwG n m perm dW ws zs) (kwG n m perm dV vs us) D := by
  unfold kwG
  rw [r.len, r'.len]
  split
  · exact ((r.append r').append hd).pick
  · exact ⟨[], Rps.nil⟩
theorem sd_call {n : Nat} {F : FnD} {E : XK} {t : TA} {g : DenA} (ha : Sa K t g) (hn : ∀ {ws r}, F ws = some r → ws.length = n) : Sd K (tCall (spD K n F) [] E t) (dCall F g) := by
  refine ⟨fun {M δ r} e => ?_, fun {M G H φ σ δ r} s e Q P => ?_⟩
  · unfold dCall at e
    obtain ⟨r1, h1, e⟩ := Option.bind_eq_some_iff.mp e
    obtain ⟨q, h2, e⟩ := Option.map_eq_some_iff.mp e
    have o1 := ha.off h1
    cases e
    exact o1
  · unfold dCall at e
    obtain ⟨r1, h1, e⟩ := Option.bind_eq_some_iff.mp e
    obtain ⟨q, h2, e⟩ := Option.map_eq_some_iff.mp e
    subst e
    refine ha.run s h1 _ fun vs G1 H1 φ1 A1 s1 e1 q1 _ => ?_
    show spD K n F (vs ++ []) H1 Q E
    rw [List.append_nil]
    refine ⟨by rw [← q1.len]; exact hn h2, G1, r1.1, A1, q, s1.vw, q1, h2, fun v G' H' A' gr rp fr => ?_⟩
    exact P v G' H' φ1 A' (s1.grow gr) (e1.trans (Evo.grow gr)) rp fun h => (fr h).back e1.ex
theorem sd_callk {n k m : Nat} {perm : List Nat} {dW : List W} {dV : List V} {F : FnD} {E : XK} {t tk : TA} {g gk : DenA} (ha : Sa K t g) (hk : Sa K tk gk) (hd : ∀ G, Rps K G dW dV []) (hn : ∀ {ws r}, F ws = some r → ws.length = n) :
    Sd K (tCallK (spD K n F) (kwG k m perm dV) E t tk) (dCallK k m perm dW F g gk) := by
  refine ⟨fun {M δ r} e => ?_, fun {M G H φ σ δ r} s e Q P => ?_⟩
  · unfold dCallK at e
    obtain ⟨r1, h1, e⟩ := Option.bind_eq_some_iff.mp e
    obtain ⟨r2, h2, e⟩ := Option.bind_eq_some_iff.mp e
    obtain ⟨q, h3, e⟩ := Option.map_eq_some_iff.mp e
    have o1 := ha.off h1
    have o2 := hk.off h2
    cases e
    exact o1.trans o2
  · unfold dCallK at e
    obtain ⟨r1, h1, e⟩ := Option.bind_eq_some_iff.mp e
    obtain ⟨r2, h2, e⟩ := Option.bind_eq_some_iff.mp e
    obtain ⟨q, h3, e⟩ := Option.map_eq_some_iff.mp e
    subst e
    refine ha.run s h1 _ fun vs G1 H1 φ1 A1 s1 e1 q1 _ => ?_
    refine hk.run s1 h2 _ fun us G2 H2 φ2 A2 s2 e2 q2 _ => ?_
    obtain ⟨D, rk⟩ := Rps.kw (n := k) (m := m) (perm := perm) (hd G2) (q1.mono e2.ex) q2
    refine ⟨by rw [← rk.len]; exact hn h3, G2, _, D, q, s2.vw, rk, h3, fun v G' H' A' gr rp fr => ?_⟩
    exact P v G' H' φ2 A' (s2.grow gr) (e1.trans (e2.trans (Evo.grow gr))) rp fun h => ((fr h).back e2.ex).back e1.ex
end
abbrev FnM := W → List W → Option (W × Bool × W)
/-- the promise of a def that writes its first argument, which is its own -/
def spM (K : PySem.W.Frag) (n : Nat) (F : FnM) : Sp := fun vs H Q _ => vs.length = n + 1 ∧ ∃ v0 vr G B w0 ws A r, vs = v0 :: vr ∧ Vw K G H ∧ Rp K H w0 v0 B ∧ B.Nodup ∧ (∀ a ∈ B, G a = none ∧ Mut (H a)) ∧ (∀ p ∈ tabsK K, p.2.1 ∉ B) ∧ Rps K G ws vr A ∧ F w0 ws = some r ∧
  ∀ v G' H' B' A', Ex G G' → Vw K G' H' → (∀ a o, H a = some o → NT o → a ∉ B → H' a = some o) → (∀ a ps, H a = some (.tbl ps) → ∃ ps', H' a = some (.tbl ps')) → (∀ a o, G a = none → G' a = some o → H a = none ∨ a ∈ B) → B'.Nodup → (∀ a ∈ B', G' a = none ∧ Mut (H' a) ∧ (H a = none ∨ a ∈ B)) →
    Rp K H' r.2.2 v0 B' → Rp K G' r.1 v A' → (r.2.1 = true → Fresh G G' A') → Q v H'
def dCallM (i : Nat) (F : FnM) (g : DenA) : Den := fun M δ => match δ[i]? with
  | some (some _) => if M i = true then (g M δ).bind fun r => match r.2.2[i]? with
    | some (some w0) => (F w0 r.1).map fun q => (q.1, q.2.1, r.2.2.set i (some q.2.2))
    | _ => none
    else none
  | _ => none
section
variable {K : PySem.W.Frag}
/-- an owner's object was written by its holder -/
theorem Sta.wrote {M : Own} {G H G' H' : Hp} {φ : Nat → List Addr} {σ : L2.St} {δ : Env} {i : Nat} {v0 : V} {w' : W} {B' : List Addr} (s : Sta K M G H φ σ δ) (hm : M i = true) (hσ : σ[i]? = some (some v0)) (x : Ex G G') (vw : Vw K G' H')
    (kp : ∀ a o, H a = some o → NT o → a ∉ φ i → H' a = some o) (kt : ∀ a ps, H a = some (.tbl ps) → ∃ ps', H' a = some (.tbl ps')) (nw : ∀ a o, G a = none → G' a = some o → H a = none ∨ a ∈ φ i) (nd : B'.Nodup) (hb : ∀ a ∈ B', G' a = none ∧ Mut (H' a) ∧ (H a = none ∨ a ∈ φ i)) (r : Rp K H' w' v0 B') :
    ∃ φ', Sta K M G' H' φ' σ (δ.set i (some w')) ∧ Evo M G H φ M G' H' φ' := by
  classical
  let φ' : Nat → List Addr := fun j => if j = i then B' else φ j
  have f1 : φ' i = B' := if_pos rfl
  have f2 : ∀ {j}, j ≠ i → φ' j = φ j := fun h => if_neg h
  have some1 : ∀ j, M j = true → ∀ a ∈ φ j, H a ≠ none := fun j hj a ha z => by
    obtain ⟨o, q⟩ := mut_some (s.mt j hj a ha)
    rw [z] at q
    cases q
  have ni : ∀ j, M j = true → j ≠ i → ∀ a ∈ φ j, a ∉ φ i := fun j hj n a ha => s.dis j i hj hm n a ha
  have tk : TupK K H H' := .of fun a o h n => kp a o h (fun ps z => n (by rw [z]; trivial)) fun ha => n (by have := s.mt i hm a ha; rwa [h] at this)
  refine ⟨φ', ⟨vw.sub, fun j hj a ha => ?_, fun j hj a ha => ?_, fun j hj => ?_, fun j k hj hk n a ha => ?_, fun j w hj e => ?_, fun j w hj e => ?_, by rw [List.length_set]; exact s.len, vw.tup, fun p hp => ⟨(vw.tb p hp).1, fun j hj hz => by
    obtain ⟨t1, t2, t3⟩ := s.tb p hp
    obtain ⟨ps, e⟩ := tabS_some t3
    by_cases c : j = i
    · subst c
      rw [f1] at hz
      rcases (hb _ hz).2.2 with z | z
      · rw [e] at z; cases z
      · exact t2 j hj z
    · rw [f2 c] at hz
      exact t2 j hj hz, (vw.tb p hp).2⟩⟩, ⟨x, fun a o h nt n => kp a o h nt (n i hm), kt, fun a o h h' => (nw a o h h').elim .inl fun z => .inr ⟨i, hm, z⟩, fun j hj a ha => ?_⟩⟩
  · by_cases c : j = i
    · subst c; rw [f1] at ha; exact (hb a ha).1
    · rw [f2 c] at ha
      cases d : G' a with
      | none => rfl
      | some o =>
        rcases nw a o (s.sep j hj a ha) d with z | z
        · exact absurd z (some1 j hj a ha)
        · exact absurd z (ni j hj c a ha)
  · by_cases c : j = i
    · subst c; rw [f1] at ha; exact (hb a ha).2.1
    · rw [f2 c] at ha
      have m := s.mt j hj a ha
      obtain ⟨o, q⟩ := mut_some m
      rcases nt_or o with nt | ⟨ps, rfl⟩
      · rw [kp a o q nt (ni j hj c a ha)]
        rw [q] at m
        exact m
      · obtain ⟨ps', q'⟩ := kt a ps q
        rw [q']
        trivial
  · by_cases c : j = i
    · subst c; rw [f1]; exact nd
    · rw [f2 c]; exact s.nd j hj
  · have cross : ∀ k, k ≠ i → M k = true → ∀ a ∈ B', a ∉ φ k := fun k nk hk a ha hz => by
      rcases (hb a ha).2.2 with z | z
      · exact some1 k hk a hz z
      · exact ni k hk nk a hz z
    by_cases c : j = i
    · subst c
      rw [f1] at ha
      have nk : k ≠ j := fun e => n e.symm
      rw [f2 nk]
      exact cross k nk hk a ha
    · rw [f2 c] at ha
      by_cases d : k = i
      · subst d
        rw [f1]
        exact fun hz => cross j c hj a hz ha
      · rw [f2 d]
        exact s.dis j k hj hk n a ha
  · by_cases c : j = i
    · subst c
      have hl : j < δ.length := by
        rw [← s.len]
        exact (List.getElem?_eq_some_iff.mp hσ).1
      rw [List.getElem?_set_self hl] at e
      cases e
      rw [f1]
      exact ⟨v0, hσ, r⟩
    · rw [List.getElem?_set_ne (fun e => c e.symm)] at e
      obtain ⟨v, e1, r1⟩ := s.own j w hj e
      rw [f2 c]
      exact ⟨v, e1, Rp.frameN tk w v _ (fun a ha o q nt => kp a o q nt (ni j hj c a ha)) r1⟩
  · have c : i ≠ j := fun e => by subst e; rw [hm] at hj; cases hj
    rw [List.getElem?_set_ne c] at e
    obtain ⟨v, A, e1, r1⟩ := s.non j w hj e
    exact ⟨v, A, e1, r1.mono x⟩
  · by_cases c : j = i
    · subst c
      rw [f1] at ha
      rcases (hb a ha).2.2 with z | z
      · exact .inl z
      · exact .inr ⟨j, hm, z⟩
    · rw [f2 c] at ha
      exact .inr ⟨j, hj, ha⟩
theorem sd_callm {n i : Nat} {F : FnM} {E : XK} {t : TA} {g : DenA} (ha : Sa K t g) (hn : ∀ {w ws r}, F w ws = some r → ws.length = n) : Sd K (tCall (spM K n F) [] E (tCons (tVar i) t)) (dCallM i F g) := by
  refine ⟨fun {M δ r} e => ?_, fun {M G H φ σ δ r} s e Q P => ?_⟩
  · unfold dCallM at e
    split at e
    · split at e
      · rename_i hm
        obtain ⟨r1, h1, e⟩ := Option.bind_eq_some_iff.mp e
        have o1 := ha.off h1
        split at e
        · obtain ⟨q, h2, e⟩ := Option.map_eq_some_iff.mp e
          cases e
          exact o1.trans (off_set hm)
        · cases e
      · cases e
    · cases e
  · unfold dCallM at e
    split at e
    · rename_i w00 hw00
      split at e
      · rename_i hm
        obtain ⟨r1, h1, e⟩ := Option.bind_eq_some_iff.mp e
        split at e
        · rename_i w0 hw
          obtain ⟨q, h2, e⟩ := Option.map_eq_some_iff.mp e
          subst e
          obtain ⟨v0, e0, _⟩ := s.own i w00 hm hw00
          refine ⟨v0, e0, ha.run s h1 _ fun vs G1 H1 φ1 A1 s1 e1 q1 _ => ?_⟩
          obtain ⟨v1, e1', r0⟩ := s1.own i w0 hm hw
          obtain rfl : v1 = v0 := by
            rw [e0] at e1'
            exact (Option.some.inj (Option.some.inj e1')).symm
          show spM K n F (v1 :: vs ++ []) H1 Q E
          rw [List.append_nil]
          refine ⟨by rw [List.length_cons, ← q1.len, hn h2], v1, vs, G1, φ1 i, w0, r1.1, A1, q, rfl, s1.vw, r0, s1.nd i hm, fun a h => ⟨s1.sep i hm a h, s1.mt i hm a h⟩, fun p hp => (s1.tb p hp).2.1 i hm, q1, h2, fun v G' H' B' A' x vw kp kt nw nd hb rb ra fr => ?_⟩
          obtain ⟨φ2, s2, e2⟩ := s1.wrote hm e0 x vw kp kt nw nd hb rb
          exact P v G' H' φ2 A' s2 (e1.trans e2) ra fun h => (fr h).back e1.ex
        · cases e
      · cases e
    · cases e
end
end Dv
set_option Elab.async false
set_option linter.all false
set_option maxRecDepth 100000
set_option maxHeartbeats 4000000
namespace Dv
open PySem PySem.Spec PyProof.Rows L2 DvR DvF
def own (l : List Nat) : Own := fun i => l.contains i
def sub (a b : List Nat) : Bool := a.all fun i => b.contains i
theorem sub_own {a b : List Nat} (h : sub a b = true) : ∀ i, own a i = true → own b i = true := fun i hi => by
  unfold sub at h
  unfold own at hi ⊢
  exact List.all_eq_true.mp h i (List.contains_iff_mem.mp hi)
def dis (a b : List Nat) : Bool := a.all fun i => !b.contains i
theorem dis_own {a b : List Nat} (h : dis a b = true) : ∀ i ∈ a, own b i = false := fun i hi => by
  have := List.all_eq_true.mp h i hi
  unfold own
  cases c : b.contains i with
  | false => rfl
  | true => rw [c] at this; cases this
def evE (l ms : List Nat) (f : Den) (δ : Env) : Option Res := (f (own ms) δ).bind fun r => if (r.2.1 || l == ms) = true then some r else none
def evA (l ms : List Nat) (g : DenA) (δ : Env) : Option (List W × Bool × Env) := (g (own ms) δ).bind fun r => if (r.2.1 || l == ms) = true then some r else none
section
variable {K : PySem.W.Frag} {l ms : List Nat} {G H : Hp} {φ : Nat → List Addr} {σ : L2.St} {δ : Env}
theorem off_up {M M' : Own} {δ δ' : Env} (h : ∀ i, M i = true → M' i = true) (o : Off M δ δ') : Off M' δ δ' := ⟨o.1, fun i hi => o.2 i (by
  cases c : M i with
  | false => rfl
  | true => rw [h i c] at hi; cases hi)⟩
theorem fresh_parts {G G' : Hp} {B C : List Addr} (h : Fresh G G' (B ++ C)) : Fresh G G' B ∧ Fresh G G' C :=
  ⟨⟨(List.nodup_append.mp h.1).1, fun a ha => h.2 a (List.mem_append_left _ ha)⟩, ⟨(List.nodup_append.mp h.1).2.1, fun a ha => h.2 a (List.mem_append_right _ ha)⟩⟩
theorem rps_lift {G0 G01 G G1 : Hp} (h : ∀ w v A, Rp K G01 w v A → Fresh G0 G01 A → Rp K G1 w v A ∧ Fresh G G1 A) : ∀ (ws : List W) (vs : List V) (A : List Addr), Rps K G01 ws vs A → Fresh G0 G01 A → Rps K G1 ws vs A ∧ Fresh G G1 A
  | [], vs, A, r, f => by
    unfold Rps at r
    obtain ⟨rfl, rfl⟩ := r
    exact ⟨Rps.nil, Fresh.nil⟩
  | w :: ws, vs, A, r, f => by
    unfold Rps at r
    obtain ⟨v, vr, B, C, rfl, rfl, h1, h2⟩ := r
    obtain ⟨f1, f2⟩ := fresh_parts f
    obtain ⟨a1, b1⟩ := h w v B h1 f1
    obtain ⟨a2, b2⟩ := rps_lift h ws vr C h2 f2
    exact ⟨Rps.cons a1 a2, f.1, fun a ha => (List.mem_append.mp ha).elim (b1.2 a) (b2.2 a)⟩
theorem ev_e {t : TE} {f : Den} (h : Sd K t f) (hs : sub ms l = true) {r : Res} (s : Sta K (own l) G H φ σ δ) (e : evE l ms f δ = some r) (Q : VK)
    (P : ∀ v G' H' φ' A, Sta K (own l) G' H' φ' σ r.2.2 → Evo (own l) G H φ (own l) G' H' φ' → Rp K G' r.1 v A → (r.2.1 = true → Fresh G G' A) → Off (own l) δ r.2.2 → Q v H') : t σ H Q := by
  unfold evE at e
  obtain ⟨r1, h1, e⟩ := Option.bind_eq_some_iff.mp e
  split at e
  · rename_i hc
    cases e
    have o1 := off_up (sub_own hs) (h.off h1)
    cases c : r.2.1 with
    | true =>
      obtain ⟨G0, s0, x, y, z⟩ := s.split (sub_own hs)
      refine h.run s0 h1 Q fun v G' H' φ' A s' e' r' f' => ?_
      obtain ⟨G1, φ2, s2, e2, lift⟩ := s.join (sub_own hs) s0 x y z s' e' (h.off h1)
      obtain ⟨r2, f2⟩ := lift _ _ _ r' (f' c)
      exact P v G1 H' φ2 A s2 e2 r2 (fun _ => f2) o1
    | false =>
      rw [c, Bool.false_or] at hc
      obtain rfl := eq_of_beq hc
      exact h.run s h1 Q fun v G' H' φ' A s' e' r' f' => P v G' H' φ' A s' e' r' (fun q => f' q) o1
  · cases e
theorem ev_a {t : TA} {f : DenA} (h : Sa K t f) (hs : sub ms l = true) {r : List W × Bool × Env} (s : Sta K (own l) G H φ σ δ) (e : evA l ms f δ = some r) (Q : List V → Hp → Prop)
    (P : ∀ v G' H' φ' A, Sta K (own l) G' H' φ' σ r.2.2 → Evo (own l) G H φ (own l) G' H' φ' → Rps K G' r.1 v A → (r.2.1 = true → Fresh G G' A) → Off (own l) δ r.2.2 → Q v H') : t σ H Q := by
  unfold evA at e
  obtain ⟨r1, h1, e⟩ := Option.bind_eq_some_iff.mp e
  split at e
  · rename_i hc
    cases e
    have o1 := off_up (sub_own hs) (h.off h1)
    cases c : r.2.1 with
    | true =>
      obtain ⟨G0, s0, x, y, z⟩ := s.split (sub_own hs)
      refine h.run s0 h1 Q fun v G' H' φ' A s' e' r' f' => ?_
      obtain ⟨G1, φ2, s2, e2, lift⟩ := s.join (sub_own hs) s0 x y z s' e' (h.off h1)
      obtain ⟨r2, f2⟩ := rps_lift lift _ _ _ r' (f' c)
      exact P v G1 H' φ2 A s2 e2 r2 (fun _ => f2) o1
    | false =>
      rw [c, Bool.false_or] at hc
      obtain rfl := eq_of_beq hc
      exact h.run s h1 Q fun v G' H' φ' A s' e' r' f' => P v G' H' φ' A s' e' r' (fun q => f' q) o1
  · cases e
theorem ev_t {t : TT} {f : DenT} (h : Sb K t f) (hs : sub ms l = true) {r : Bool × Env} (s : Sta K (own l) G H φ σ δ) (e : f (own ms) δ = some r) (Q : Bool → Hp → Prop)
    (P : ∀ G' H' φ', Sta K (own l) G' H' φ' σ r.2 → Evo (own l) G H φ (own l) G' H' φ' → Q r.1 H') : t σ H Q := by
  obtain ⟨G0, s0, x, y, z⟩ := s.split (sub_own hs)
  refine h.run s0 e Q fun G' H' φ' s' e' => ?_
  obtain ⟨G1, φ2, s2, e2, _⟩ := s.join (sub_own hs) s0 x y z s' e' (h.off e)
  exact P G1 H' φ2 s2 e2
theorem ev_d {t : TE} {f : Den} (h : Sd K t f) (hs : sub ms l = true) {r : Res} (s : Sta K (own l) G H φ σ δ) (e : f (own ms) δ = some r) (Q : VK)
    (P : ∀ v G' H' φ', Sta K (own l) G' H' φ' σ r.2.2 → Evo (own l) G H φ (own l) G' H' φ' → Q v H') : t σ H Q := by
  obtain ⟨G0, s0, x, y, z⟩ := s.split (sub_own hs)
  refine h.run s0 e Q fun v G' H' φ' A s' e' _ _ => ?_
  obtain ⟨G1, φ2, s2, e2, _⟩ := s.join (sub_own hs) s0 x y z s' e' (h.off e)
  exact P v G1 H' φ2 s2 e2
end
inductive SR where
  | nx (δ : Env) | rt (w : W) (fr : Bool) (δ : Env) | bk (δ : Env) | ct (δ : Env)
abbrev DenS := Env → Option SR
def Kp (P : List Nat) (σ σ' : L2.St) : Prop := ∀ i, own P i = true → σ'[i]? = σ[i]?
theorem Kp.refl {P : List Nat} {σ : L2.St} : Kp P σ σ := fun _ _ => rfl
theorem Kp.trans {P : List Nat} {σ σ1 σ2 : L2.St} (a : Kp P σ σ1) (b : Kp P σ1 σ2) : Kp P σ σ2 := fun i h => (b i h).trans (a i h)
theorem Kp.set {P : List Nat} {σ : L2.St} {x : Nat} {v : Option V} (h : P.contains x = false) : Kp P σ (σ.set x v) := fun i hi => by
  have n : x ≠ i := fun e => by subst e; unfold own at hi; rw [h] at hi; cases hi
  exact List.getElem?_set_ne n
def PostS (K : PySem.W.Frag) (P L l l' : List Nat) (G H : Hp) (φ : Nat → List Addr) (σ : L2.St) (r : SR) (D : Ends) : Prop := match r with
  | .nx δ' => ∀ G' H' φ' σ', Sta K (own l') G' H' φ' σ' δ' → Evo (own l) G H φ (own l') G' H' φ' → Kp P σ σ' → D.nx σ' H'
  | .bk δ' => ∀ G' H' φ' σ', Sta K (own L) G' H' φ' σ' δ' → Evo (own l) G H φ (own L) G' H' φ' → Kp P σ σ' → D.bk σ' H'
  | .ct δ' => ∀ G' H' φ' σ', Sta K (own L) G' H' φ' σ' δ' → Evo (own l) G H φ (own L) G' H' φ' → Kp P σ σ' → D.ct σ' H'
  | .rt w fr δ' => ∀ v G' H' φ' σ' A, Sta K (own P) G' H' φ' σ' δ' → Evo (own l) G H φ (own P) G' H' φ' → Kp P σ σ' → Rp K G' w v A → (fr = true → Fresh G G' A) → D.rt v H'
/-- P: the slots of in-and-out parameters; L: the owners at the loop's head; l, l': the owners ahead and behind -/
structure Ss (K : PySem.W.Frag) (P L l l' : List Nat) (t : TS) (b : DenS) : Prop where
  run : ∀ {G H φ σ δ r}, Sta K (own l) G H φ σ δ → b δ = some r → ∀ D : Ends, PostS K P L l l' G H φ σ r D → t D σ H
section
variable {K : PySem.W.Frag} {P L l l1 l' lm ms : List Nat} {G H G1 H1 : Hp} {φ φ1 : Nat → List Addr} {σ σ1 : L2.St} {δ : Env} {r : SR} {D : Ends}
theorem PostS.after (p : PostS K P L l l' G H φ σ r D) (e : Evo (own l) G H φ (own l1) G1 H1 φ1) (k : Kp P σ σ1) : PostS K P L l1 l' G1 H1 φ1 σ1 r D := by
  cases r with
  | nx δ' => exact fun G2 H2 φ2 σ2 s2 e2 k2 => p G2 H2 φ2 σ2 s2 (e.trans e2) (k.trans k2)
  | bk δ' => exact fun G2 H2 φ2 σ2 s2 e2 k2 => p G2 H2 φ2 σ2 s2 (e.trans e2) (k.trans k2)
  | ct δ' => exact fun G2 H2 φ2 σ2 s2 e2 k2 => p G2 H2 φ2 σ2 s2 (e.trans e2) (k.trans k2)
  | rt w fr δ' => exact fun v G2 H2 φ2 σ2 A s2 e2 k2 r2 f2 => p v G2 H2 φ2 σ2 A s2 (e.trans e2) (k.trans k2) r2 fun h => (f2 h).back e.ex
def sNext : DenS := fun δ => some (.nx δ)
def sNever : DenS := fun _ => none
def sSeq (b c : DenS) : DenS := fun δ => (b δ).bind fun r => match r with
  | .nx δ1 => c δ1
  | r => some r
def sIf (ms : List Nat) (f : DenT) (b c : DenS) : DenS := fun δ => (f (own ms) δ).bind fun k => if k.1 = true then b k.2 else c k.2
def sRet (l ms : List Nat) (f : Den) : DenS := fun δ => (evE l ms f δ).map fun r => .rt r.1 r.2.1 r.2.2
def sRetN : DenS := fun δ => some (.rt .non true δ)
def sBreak : DenS := fun δ => some (.bk δ)
def sCont : DenS := fun δ => some (.ct δ)
def sDrop (ms : List Nat) (f : Den) : DenS := fun δ => (f (own ms) δ).map fun r => .nx r.2.2
def sAsg (l ms l' : List Nat) (x : Nat) (f : Den) : DenS := fun δ => (evE l ms f δ).bind fun r => if (!l'.contains x || r.2.1) = true ∧ x < r.2.2.length then some (.nx (r.2.2.set x (some r.1))) else none
theorem ss_next : Ss K P L l l tNext sNext := ⟨fun {G H φ σ δ r} s e D p => by
  unfold sNext at e
  cases e
  exact p G H φ σ s Evo.refl Kp.refl⟩
theorem ss_never : Ss K P L l l' tNever sNever := ⟨fun {G H φ σ δ r} s e D p => by unfold sNever at e; cases e⟩
theorem ss_seq {t u : TS} {b c : DenS} (h1 : Ss K P L l l1 t b) (h2 : Ss K P L l1 l' u c) : Ss K P L l l' (tSeq t u) (sSeq b c) := by
  refine ⟨fun {G H φ σ δ r} s e D p => ?_⟩
  unfold sSeq at e
  obtain ⟨r1, e1, e⟩ := Option.bind_eq_some_iff.mp e
  refine h1.run s e1 { D with nx := u D } ?_
  cases r1 with
  | nx δ1 => exact fun G1 H1 φ1 σ1 s1 ev k => h2.run s1 e D (p.after ev k)
  | bk δ1 => cases e; exact p
  | ct δ1 => cases e; exact p
  | rt w fr δ1 => cases e; exact p
theorem ss_if {c : TT} {f : DenT} {t u : TS} {b b' : DenS} (hc : Sb K c f) (h1 : Ss K P L l l' t b) (h2 : Ss K P L l l' u b') (hs : sub ms l = true := by rfl) : Ss K P L l l' (tIfS c t u) (sIf ms f b b') := by
  refine ⟨fun {G H φ σ δ r} s e D p => ?_⟩
  unfold sIf at e
  obtain ⟨k, e1, e⟩ := Option.bind_eq_some_iff.mp e
  refine ev_t hc hs s e1 _ fun G1 H1 φ1 s1 ev => ?_
  cases q : k.1 with
  | true => rw [q] at e; exact h1.run s1 e D (p.after ev Kp.refl)
  | false => rw [q] at e; exact h2.run s1 e D (p.after ev Kp.refl)
theorem ss_ret {te : TE} {f : Den} (h : Sd K te f) (hs : sub ms l = true := by rfl) (hp : sub P l = true := by rfl) : Ss K P L l l' (tRet te) (sRet l ms f) := by
  refine ⟨fun {G H φ σ δ r} s e D p => ?_⟩
  unfold sRet at e
  obtain ⟨r1, e1, e⟩ := Option.map_eq_some_iff.mp e
  subst e
  refine ev_e h hs s e1 _ fun v G1 H1 φ1 A s1 ev r1' f1 _ => ?_
  obtain ⟨G2, s2, e2⟩ := s1.freeze (sub_own hp)
  exact p v G2 H1 φ1 σ A s2 (ev.trans e2) Kp.refl (r1'.mono e2.ex) fun h => (f1 h).mono e2.ex fun a ha => mut_some ((f1 h).2 a ha).2
theorem ss_drop {te : TE} {f : Den} (h : Sd K te f) (hs : sub ms l = true := by rfl) : Ss K P L l l (tDrop te) (sDrop ms f) := by
  refine ⟨fun {G H φ σ δ r} s e D p => ?_⟩
  unfold sDrop at e
  obtain ⟨r1, e1, e⟩ := Option.map_eq_some_iff.mp e
  subst e
  exact ev_d h hs s e1 _ fun v G1 H1 φ1 s1 ev => p G1 H1 φ1 σ s1 ev Kp.refl
/-- a value is stored in a slot -/
theorem put {x : Nat} {w : W} {v : V} {A : List Addr} {fr : Bool} {δ' : Env} (s : Sta K (own l) G H φ σ δ) (s1 : Sta K (own l) G1 H1 φ1 σ δ') (ev : Evo (own l) G H φ (own l) G1 H1 φ1) (of : Off (own l) δ δ') (r1 : Rp K G1 w v A) (f1 : fr = true → Fresh G G1 A)
    (hx : x < δ'.length) (hf : (!l'.contains x || fr) = true) (hl : (l'.all fun i => i == x || l.contains i) = true) :
    ∃ G' φ', Sta K (own l') G' H1 φ' (σ.set x (some v)) (δ'.set x (some w)) ∧ Evo (own l) G H φ (own l') G' H1 φ' ∧ (fr = false → Ex G1 G') := by
  have hx' : x < σ.length := by rw [s1.len]; exact hx
  cases c : l'.contains x with
  | true =>
    rw [c, Bool.not_true, Bool.false_or] at hf
    have fa := f1 hf
    obtain ⟨G2, φ2, s2, x2, y2, z2, _⟩ := s1.store (x := x) ev.ex fa r1 hx' fun i y hi n e => by
      rw [of.2 i hi] at e
      exact s.non i y hi e
    have e2 : Evo (own l) G H φ (fun i => decide (i = x) || own l i) G2 H1 φ2 := by
      refine ⟨x2, ev.keep, ev.tbl, fun a o h h' => ev.new a o h (y2 a o h'), fun i hi a ha => ?_⟩
      rcases z2 i a ha with q | ⟨n, q⟩
      · obtain ⟨o, q2⟩ := mut_some (fa.2 a q).2
        exact ev.new a o (fa.2 a q).1 q2
      · refine ev.nown i ?_ a q
        rw [decide_eq_false n, Bool.false_or] at hi
        exact hi
    have sl : ∀ i, own l' i = true → (decide (i = x) || own l i) = true := fun i hi => by
      have := List.all_eq_true.mp hl i (List.contains_iff_mem.mp hi)
      by_cases n : i = x
      · rw [decide_eq_true n]; rfl
      · rw [decide_eq_false n, Bool.false_or]
        have nb : (i == x) = false := beq_eq_false_iff_ne.mpr n
        rw [nb, Bool.false_or] at this
        exact this
    obtain ⟨G3, s3, e3⟩ := s2.freeze sl
    exact ⟨G3, φ2, s3, e2.trans e3, fun h => by rw [hf] at h; cases h⟩
  | false =>
    have s2 := s1.see (x := x) r1 hx'
    have sl : ∀ i, own l' i = true → (!decide (i = x) && own l i) = true := fun i hi => by
      have := List.all_eq_true.mp hl i (List.contains_iff_mem.mp hi)
      by_cases n : i = x
      · subst n; unfold own at hi; rw [c] at hi; cases hi
      · rw [decide_eq_false n, Bool.not_false, Bool.true_and]
        have nb : (i == x) = false := beq_eq_false_iff_ne.mpr n
        rw [nb, Bool.false_or] at this
        exact this
    have e2 : Evo (own l) G H φ (fun i => !decide (i = x) && own l i) G1 H1 φ1 := ev.less fun i hi => (Bool.and_eq_true_iff.mp hi).2
    obtain ⟨G3, s3, e3⟩ := s2.freeze sl
    exact ⟨G3, φ1, s3, e2.trans e3, fun _ => e3.ex⟩
theorem ss_asg {te : TE} {f : Den} {x : Nat} (h : Sd K te f) (hs : sub ms l = true := by rfl) (hp : P.contains x = false := by rfl) (hl : (l'.all fun i => i == x || l.contains i) = true := by rfl) : Ss K P L l l' (tAsg te (gName x)) (sAsg l ms l' x f) := by
  refine ⟨fun {G H φ σ δ r} s e D p => ?_⟩
  unfold sAsg at e
  obtain ⟨r1, e1, e⟩ := Option.bind_eq_some_iff.mp e
  split at e
  · rename_i hc
    cases e
    refine ev_e h hs s e1 _ fun v G1 H1 φ1 A s1 ev r1' f1 of => ?_
    obtain ⟨G2, φ2, s2, e2, _⟩ := put (l' := l') s s1 ev of r1' f1 hc.2 hc.1 hl
    exact p G2 H1 φ2 _ s2 e2 (Kp.set hp)
  · cases e
end
end Dv
set_option Elab.async false
set_option linter.all false
set_option maxRecDepth 100000
set_option maxHeartbeats 4000000
namespace Dv
open PySem PySem.Spec PyProof.Rows L2 DvR DvF
def sets {α : Type} : List (Option α) → List Nat → List α → List (Option α)
  | σ, x :: xs, v :: vs => sets (σ.set x (some v)) xs vs
  | σ, _, _ => σ
section
variable {K : PySem.W.Frag} {P L l l1 l' lm ms : List Nat} {M : Own} {G H G0 G1 H1 : Hp} {φ φ1 : Nat → List Addr} {σ σ1 : L2.St} {δ : Env} {r : SR} {D : Ends}
theorem Sta.stores : ∀ {xs : List Nat} {ws : List W} {vs : List V} {A : List Addr} {M : Own} {G : Hp} {φ : Nat → List Addr} {σ : L2.St} {δ : Env}, Sta K M G H φ σ δ → Ex G0 G → Fresh G0 G A → Rps K G ws vs A → xs.length = ws.length → (∀ x ∈ xs, x < δ.length) →
    (∀ i w, M i = false → δ[i]? = some (some w) → ∃ v A, σ[i]? = some (some v) ∧ Rp K G0 w v A) →
    ∃ G' φ', Sta K (fun i => xs.contains i || M i) G' H φ' (sets σ xs vs) (sets δ xs ws) ∧ Ex G0 G' ∧ (∀ a o, G' a = some o → G a = some o) ∧ (∀ i a, (xs.contains i || M i) = true → a ∈ φ' i → a ∈ A ∨ (M i = true ∧ a ∈ φ i))
  | [], ws, vs, A, M, G, φ, σ, δ, s, x, f, r, hl, hx, nb => by
    cases ws with
    | cons _ _ => cases hl
    | nil =>
      unfold Rps at r
      obtain ⟨rfl, rfl⟩ := r
      refine ⟨G, φ, ?_, x, fun _ _ h => h, fun i a h ha => ?_⟩
      · have : (fun i => List.contains ([] : List Nat) i || M i) = M := by funext i; rfl
        rw [this]
        exact s
      · exact .inr ⟨h, ha⟩
  | x :: xs, ws, vs, A, M, G, φ, σ, δ, s, x0, f, r, hl, hx, nb => by
    cases ws with
    | nil => cases hl
    | cons w ws =>
      unfold Rps at r
      obtain ⟨v, vr, B, C, rfl, rfl, r1, r2⟩ := r
      obtain ⟨f1, f2⟩ := fresh_parts f
      have hx1 : x < δ.length := hx x (List.mem_cons_self ..)
      obtain ⟨G2, φ2, s2, x2, y2, z2, k2⟩ := s.store (x := x) x0 f1 r1 (by rw [s.len]; exact hx1) fun i y hi n e => nb i y hi e
      have nC : ∀ a ∈ C, a ∉ B := fun a ha hb => (List.nodup_append.mp f.1).2.2 a hb a ha rfl
      have stand : ∀ a ∈ C, ∀ o, G a = some o → G2 a = some o := fun a ha o h => k2 a o h (nC a ha)
      have tk : TupK K G G2 := .of fun a o h n => k2 a o h fun ha => n (by
        have := (f1.2 a ha).2
        rwa [h] at this)
      have r2' : Rps K G2 ws vr C := Rps.frame tk ws vr C stand r2
      have f2' : Fresh G0 G2 C := ⟨f2.1, fun a ha => ⟨(f2.2 a ha).1, by
        have m := (f2.2 a ha).2
        obtain ⟨o, q⟩ := mut_some m
        rw [stand a ha o q]
        rw [q] at m
        exact m⟩⟩
      obtain ⟨G3, φ3, s3, x3, y3, z3⟩ := Sta.stores (xs := xs) s2 x2 f2' r2' (Nat.succ.inj hl) (fun y hy => by rw [List.length_set]; exact hx y (List.mem_cons_of_mem _ hy)) fun i y hi e => by
        have n : i ≠ x := fun z => by rw [decide_eq_true z] at hi; cases hi
        rw [decide_eq_false n, Bool.false_or] at hi
        rw [List.getElem?_set_ne (fun z => n z.symm)] at e ⊢
        exact nb i y hi e
      have em : (fun i => (x :: xs).contains i || M i) = fun i => xs.contains i || (decide (i = x) || M i) := by
        funext i
        rw [List.contains_cons]
        by_cases n : i = x
        · subst n; simp
        · have nb : (i == x) = false := beq_eq_false_iff_ne.mpr n
          rw [nb, decide_eq_false n]
          rfl
      refine ⟨G3, φ3, by rw [em]; exact s3, x3, fun a o h => y2 a o (y3 a o h), fun i a h ha => ?_⟩
      have h' : (xs.contains i || (decide (i = x) || M i)) = true := by
        have := congrFun em i
        rw [← this]
        exact h
      rcases z3 i a h' ha with q | ⟨h2, q⟩
      · exact .inl (List.mem_append_right _ q)
      · rcases z2 i a q with q | ⟨n, q⟩
        · exact .inl (List.mem_append_left _ q)
        · rw [decide_eq_false n, Bool.false_or] at h2
          exact .inr ⟨h2, q⟩
theorem Sta.sees : ∀ {xs : List Nat} {ws : List W} {vs : List V} {A : List Addr} {M : Own} {σ : L2.St} {δ : Env}, Sta K M G H φ σ δ → Rps K G ws vs A → xs.length = ws.length → (∀ x ∈ xs, x < δ.length) →
    Sta K (fun i => !xs.contains i && M i) G H φ (sets σ xs vs) (sets δ xs ws)
  | [], ws, vs, A, M, σ, δ, s, r, hl, hx => by
    cases ws with
    | cons _ _ => cases hl
    | nil =>
      unfold Rps at r
      obtain ⟨rfl, rfl⟩ := r
      have : (fun i => !List.contains ([] : List Nat) i && M i) = M := by funext i; rfl
      rw [this]
      exact s
  | x :: xs, ws, vs, A, M, σ, δ, s, r, hl, hx => by
    cases ws with
    | nil => cases hl
    | cons w ws =>
      unfold Rps at r
      obtain ⟨v, vr, B, C, rfl, rfl, r1, r2⟩ := r
      have hx1 : x < δ.length := hx x (List.mem_cons_self ..)
      have s2 := s.see (x := x) r1 (by rw [s.len]; exact hx1)
      have s3 := Sta.sees (xs := xs) s2 r2 (Nat.succ.inj hl) (fun y hy => by rw [List.length_set]; exact hx y (List.mem_cons_of_mem _ hy))
      have em : (fun i => !(x :: xs).contains i && M i) = fun i => !xs.contains i && (!decide (i = x) && M i) := by
        funext i
        rw [List.contains_cons]
        by_cases n : i = x
        · subst n; simp
        · have nb : (i == x) = false := beq_eq_false_iff_ne.mpr n
          rw [nb, decide_eq_false n]
          rfl
      rw [em]
      exact s3
theorem puts {xs : List Nat} {ws : List W} {vs : List V} {A : List Addr} {fr : Bool} {δ' : Env} (s : Sta K (own l) G H φ σ δ) (s1 : Sta K (own l) G1 H1 φ1 σ δ') (ev : Evo (own l) G H φ (own l) G1 H1 φ1) (of : Off (own l) δ δ') (r1 : Rps K G1 ws vs A) (f1 : fr = true → Fresh G G1 A)
    (hn : xs.length = ws.length) (hx : ∀ x ∈ xs, x < δ'.length) (hf : (dis l' xs || fr) = true) (hl : (l'.all fun i => xs.contains i || l.contains i) = true) :
    ∃ G' φ', Sta K (own l') G' H1 φ' (sets σ xs vs) (sets δ' xs ws) ∧ Evo (own l) G H φ (own l') G' H1 φ' := by
  have al : ∀ i, own l' i = true → (xs.contains i || own l i) = true := fun i hi => List.all_eq_true.mp hl i (List.contains_iff_mem.mp hi)
  cases c : fr with
  | true =>
    have fa := f1 c
    obtain ⟨G2, φ2, s2, x2, y2, z2⟩ := s1.stores (xs := xs) ev.ex fa r1 hn hx fun i y hi e => by
      rw [of.2 i hi] at e
      exact s.non i y hi e
    have e2 : Evo (own l) G H φ (fun i => xs.contains i || own l i) G2 H1 φ2 := by
      refine ⟨x2, ev.keep, ev.tbl, fun a o h h' => ev.new a o h (y2 a o h'), fun i hi a ha => ?_⟩
      rcases z2 i a hi ha with q | ⟨n, q⟩
      · obtain ⟨o, q2⟩ := mut_some (fa.2 a q).2
        exact ev.new a o (fa.2 a q).1 q2
      · exact ev.nown i n a q
    obtain ⟨G3, s3, e3⟩ := s2.freeze al
    exact ⟨G3, φ2, s3, e2.trans e3⟩
  | false =>
    rw [c, Bool.or_false] at hf
    have s2 := s1.sees (xs := xs) r1 hn hx
    have e2 : Evo (own l) G H φ (fun i => !xs.contains i && own l i) G1 H1 φ1 := ev.less fun i hi => (Bool.and_eq_true_iff.mp hi).2
    obtain ⟨G3, s3, e3⟩ := s2.freeze (M' := own l') fun i hi => by
      have nx : xs.contains i = false := dis_own hf i (List.contains_iff_mem.mp hi)
      have := al i hi
      rw [nx, Bool.false_or] at this
      rw [nx, this]
      rfl
    exact ⟨G3, φ1, s3, e2.trans e3⟩
def sPar (l ms l' xs : List Nat) (g : DenA) : DenS := fun δ => (evA l ms g δ).bind fun r => if xs.length = r.1.length ∧ (dis l' xs || r.2.1) = true ∧ (xs.all fun x => decide (x < r.2.2.length)) = true then some (.nx (sets r.2.2 xs r.1)) else none
theorem Kp.sets : ∀ {xs : List Nat} {vs : List V} {σ : L2.St}, dis P xs = true → Kp P σ (sets σ xs vs)
  | [], vs, σ, h => by unfold Dv.sets; exact Kp.refl
  | x :: xs, [], σ, h => by unfold Dv.sets; exact Kp.refl
  | x :: xs, v :: vs, σ, h => by
    have h1 : P.contains x = false := by
      cases c : P.contains x with
      | false => rfl
      | true =>
        have := dis_own h x (List.contains_iff_mem.mp c)
        unfold own at this
        rw [List.contains_iff_mem.mpr (List.mem_cons_self ..)] at this
        cases this
    have h2 : dis P xs = true := by
      refine List.all_eq_true.mpr fun i hi => ?_
      have := List.all_eq_true.mp h i hi
      rw [List.contains_cons] at this
      cases c : xs.contains i with
      | false => rfl
      | true => rw [c, Bool.or_true] at this; cases this
    show Kp P σ (Dv.sets (σ.set x (some v)) xs vs)
    exact (Kp.set h1).trans (Kp.sets h2)
theorem ss_pars {t : TA} {g : DenA} {xs : List Nat} (h : Sa K t g) (hs : sub ms l = true) (hp : dis P xs = true) (hl : (l'.all fun i => xs.contains i || l.contains i) = true) {r : SR} (s : Sta K (own l) G H φ σ δ) (e : sPar l ms l' xs g δ = some r) (D : Ends) (p : PostS K P L l l' G H φ σ r D)
    (Q : List V → Hp → Prop) (hQ : ∀ vs H1, vs.length = xs.length → D.nx (sets σ xs vs) H1 → Q vs H1) : t σ H Q := by
  unfold sPar at e
  obtain ⟨r1, e1, e⟩ := Option.bind_eq_some_iff.mp e
  split at e
  · rename_i hc
    cases e
    refine ev_a h hs s e1 _ fun vs G1 H1 φ1 A s1 ev r1' f1 of => ?_
    obtain ⟨G2, φ2, s2, e2⟩ := puts (l' := l') s s1 ev of r1' f1 hc.1 (fun x hx => of_decide_eq_true (List.all_eq_true.mp hc.2.2 x hx)) hc.2.1 hl
    exact hQ vs H1 (by rw [← r1'.len]; exact hc.1.symm) (p G2 H1 φ2 _ s2 e2 (Kp.sets hp))
  · cases e
theorem ss_par {t : TA} {g : DenA} {x y : Nat} (h : Sa K t g) (hs : sub ms l = true := by rfl) (hp : dis P [x, y] = true := by rfl) (hl : (l'.all fun i => [x, y].contains i || l.contains i) = true := by rfl) : Ss K P L l l' (tPar x y t) (sPar l ms l' [x, y] g) := by
  refine ⟨fun {G H φ σ δ r} s e D p => ss_pars h hs hp hl s e D p _ fun vs H1 hv q => ?_⟩
  match vs, hv, q with
  | [v, w], _, q => exact ⟨v, w, rfl, q⟩
/-- name op= e for ints -/
def sAugI (l' ms : List Nat) (x : Nat) (k : Int → Int → Int) (f : Den) : DenS := fun δ => match δ[x]? with
  | some (some (.int a)) => if l'.contains x = true then none else (f (own ms) δ).bind fun r => match r.1 with
    | .int b => some (.nx (r.2.2.set x (some (.int (k a b)))))
    | _ => none
  | _ => none
theorem ss_augI {te : TE} {f : Den} {x : Nat} {k : Int → Int → Int} (h : Sd K te f) (hs : sub ms l = true := by rfl) (hp : P.contains x = false := by rfl) : Ss K P L l l (tAug x te (ipI k)) (sAugI l ms x k f) := by
  refine ⟨fun {G H φ σ δ r} s e D p => ?_⟩
  unfold sAugI at e
  split at e
  · rename_i a ha
    split at e
    · cases e
    · rename_i nl
      have nl' : own l x = false := by
        cases c : l.contains x with
        | true => exact absurd c nl
        | false => exact c
      obtain ⟨r1, e1, e⟩ := Option.bind_eq_some_iff.mp e
      split at e
      · rename_i b hb
        cases e
        obtain ⟨v, A, ev, rv⟩ := s.non x _ nl' ha
        unfold Rp at rv
        obtain ⟨rfl, _⟩ := rv
        have hx : x < σ.length := (List.getElem?_eq_some_iff.mp ev).1
        obtain ⟨G0, s0, x0, y0, z0⟩ := s.split (sub_own hs)
        refine ⟨.int a, ev, h.run s0 e1 _ fun v G1 H1 φ1 A1 s1 ev1 rv1 _ => ?_⟩
        obtain ⟨G2, φ2, s2, e2, _⟩ := s.join (sub_own hs) s0 x0 y0 z0 s1 ev1 (h.off e1)
        rw [hb] at rv1
        unfold Rp at rv1
        obtain ⟨rfl, _⟩ := rv1
        refine ⟨a, b, rfl, rfl, ?_⟩
        have s3 := s2.see (x := x) (w := .int (k a b)) (v := .int (k a b)) (A := []) rp_int hx
        have em : (fun j => !decide (j = x) && own l j) = own l := by
          funext j
          by_cases c : j = x
          · subst c; rw [nl']; simp
          · rw [decide_eq_false c]; rfl
        rw [em] at s3
        exact p G2 H1 φ2 _ s3 e2 (Kp.set hp)
      · cases e
  · cases e
def loopB (tg : DenG) (b : DenS) : List W → Env → Option SR
  | [], δ => some (.nx δ)
  | w :: ws, δ => (tg w δ).bind fun δ1 => (b δ1).bind fun r => match r with
    | .nx δ2 => loopB tg b ws δ2
    | .ct δ2 => loopB tg b ws δ2
    | .bk δ2 => some (.nx δ2)
    | .rt w fr δ2 => some (.rt w fr δ2)
def sFor (lm : List Nat) (src : DenI) (tg : DenG) (b : DenS) : DenS := fun δ => (src (own lm) δ).bind fun s => loopB tg b s.1 s.2
theorem for_core {g : TG} {tb : TS} {tg : DenG} {b : DenS} {xs : List Nat} {J : It} {ws : List W} (hg : Sg K g tg xs) (hb : Ss K P lm lm lm tb b) (hx : dis xs lm = true) (hp : dis P xs = true) (s1 : Sta K (own lm) G1 H1 φ1 σ δ) (wk : Walks K G1 J ws) {r : SR} (e : loopB tg b ws δ = some r)
    (D : Ends) (p : PostS K P L lm lm G1 H1 φ1 σ r D) :
    ∃ W : Nat → Nat → L2.St → Hp → Prop, (∃ m, W 0 m σ H1) ∧ ∀ i m σ H, W i m σ H →
      (J.stop i H ∧ D.nx σ H) ∨ (J.go i H ∧ ∃ N : L2.St → Hp → Prop, (∀ σ' H', N σ' H' → ∃ m', m' < m ∧ W (i + 1) m' σ' H') ∧ ∀ x H', J.yld i H x H' → g x σ H' fun σ2 H2 => tb { D with nx := N, ct := N, bk := D.nx } σ2 H2) := by
  refine ⟨fun i m σ' H => i + m = ws.length ∧ ∃ G φ δ', Sta K (own lm) G H φ σ' δ' ∧ Evo (own lm) G1 H1 φ1 (own lm) G H φ ∧ Kp P σ σ' ∧ loopB tg b (ws.drop i) δ' = some r, ⟨ws.length, by omega, G1, φ1, δ, s1, Evo.refl, Kp.refl, e⟩, fun i m σ' H hw => ?_⟩
  obtain ⟨im, G, φ, δ', s', ev, kp, hq⟩ := hw
  by_cases hi : ws.length ≤ i
  · refine .inl ⟨((wk s' ev.ex) i).1 hi, ?_⟩
    rw [List.drop_eq_nil_of_le hi] at hq
    unfold loopB at hq
    cases hq
    exact p G H φ σ' s' ev kp
  · have hlt : i < ws.length := by omega
    obtain ⟨w, hw⟩ : ∃ w, ws[i]? = some w := ⟨_, List.getElem?_eq_getElem hlt⟩
    have hdrop : ws.drop i = w :: ws.drop (i + 1) := by
      rw [List.drop_eq_getElem_cons hlt]
      congr 1
      rw [List.getElem?_eq_getElem hlt] at hw
      exact Option.some.inj hw
    rw [hdrop] at hq
    unfold loopB at hq
    obtain ⟨δ1, hq1, hq⟩ := Option.bind_eq_some_iff.mp hq
    obtain ⟨r1, hq2, hq⟩ := Option.bind_eq_some_iff.mp hq
    obtain ⟨go1, ys⟩ := ((wk s' ev.ex) i).2 w hw
    refine .inr ⟨go1, _, fun σ2 H2 nx => ⟨m - 1, by omega, nx⟩, fun x H2 hy => ?_⟩
    obtain ⟨G2, B, s2, ev2, rw2⟩ := ys x H2 hy
    refine hg.run s2 (dis_own hx) rw2 hq1 _ fun σ2 s3 fr => ?_
    have kp2 : Kp P σ' σ2 := fun i hi => (fr i fun z => by
      have := dis_own hp i (List.contains_iff_mem.mp hi)
      unfold own at this
      rw [List.contains_iff_mem.mpr z] at this
      cases this).1
    have evA := ev.trans ev2
    have kpA := kp.trans kp2
    refine hb.run s3 hq2 _ ?_
    cases r1 with
    | nx δ2 => exact fun G3 H3 φ3 σ3 s4 ev3 kp3 => ⟨by omega, G3, φ3, δ2, s4, evA.trans ev3, kpA.trans kp3, hq⟩
    | ct δ2 => exact fun G3 H3 φ3 σ3 s4 ev3 kp3 => ⟨by omega, G3, φ3, δ2, s4, evA.trans ev3, kpA.trans kp3, hq⟩
    | bk δ2 =>
      cases hq
      exact fun G3 H3 φ3 σ3 s4 ev3 kp3 => p G3 H3 φ3 σ3 s4 (evA.trans ev3) (kpA.trans kp3)
    | rt w fr δ2 =>
      cases hq
      exact fun v G3 H3 φ3 σ3 A s4 ev3 kp3 r3 f3 => p v G3 H3 φ3 σ3 A s4 (evA.trans ev3) (kpA.trans kp3) r3 fun h => (f3 h).back evA.ex
/-- the owners of lm are kept through the loop, the others become seen -/
theorem ss_for {wi : TI} {g : TG} {tb : TS} {src : DenI} {tg : DenG} {b : DenS} {xs : List Nat} (hi : Si K wi src) (hg : Sg K g tg xs) (hb : Ss K P lm lm lm tb b) (hs : sub lm l = true := by rfl) (hx : dis xs lm = true := by rfl) (hp : dis P xs = true := by rfl) :
    Ss K P L l lm (tFor wi g tb) (sFor lm src tg b) := by
  refine ⟨fun {G H φ σ δ r} s e D p => ?_⟩
  unfold sFor at e
  obtain ⟨⟨ws, δ1⟩, e1, e⟩ := Option.bind_eq_some_iff.mp e
  obtain ⟨G0, s0, ev0⟩ := s.freeze (sub_own hs)
  refine hi.run s0 e1 _ fun J G1 H1 φ1 s1 ev1 wk => ?_
  exact for_core (L := L) hg hb hx hp s1 wk e D (p.after (ev0.trans ev1) Kp.refl)
/-- what is walked is not on the heap: ranges -/
structure SiR (K : PySem.W.Frag) (t : TI) (f : DenI) : Prop where
  off : ∀ {M δ r}, f M δ = some r → Off M δ r.2
  run : ∀ {M G H φ σ δ r}, Sta K M G H φ σ δ → f M δ = some r → ∀ R : It → Hp → Prop, (∀ J G' H' φ', Sta K M G' H' φ' σ r.2 → Evo M G H φ M G' H' φ' → (∀ Gj, Walks K Gj J r.1) → R J H') → t σ H R
theorem sir_r1 {t : TA} {g : DenA} (ha : Sa K t g) : SiR K (iRng1 t) (iR1 g) := by
  refine ⟨(si_r1 ha).off, fun {M G H φ σ δ r} s e R P => ?_⟩
  unfold iR1 at e
  obtain ⟨⟨ws, fr, δ1⟩, h1, e⟩ := Option.bind_eq_some_iff.mp e
  refine ha.run s h1 _ fun vs G1 H1 φ1 A1 s1 e1 q1 _ => ?_
  split at e
  · rename_i j ew
    have ew' : ws = [.int j] := ew
    subst ew'
    split at e
    · rename_i hc
      cases e
      obtain ⟨c1, c2, c3, c4⟩ := cRng_ok hc
      obtain ⟨x, B, rfl, h⟩ := rps_one q1
      unfold Rp at h
      exact ⟨j, by rw [h.1], c3, c4, P _ G1 H1 φ1 s1 e1 fun _ => walks_rng⟩
    · cases e
  · cases e
theorem sir_r2 {t : TA} {g : DenA} (ha : Sa K t g) : SiR K (iRng2 t) (iR2 g) := by
  refine ⟨(si_r2 ha).off, fun {M G H φ σ δ r} s e R P => ?_⟩
  unfold iR2 at e
  obtain ⟨⟨ws, fr, δ1⟩, h1, e⟩ := Option.bind_eq_some_iff.mp e
  refine ha.run s h1 _ fun vs G1 H1 φ1 A1 s1 e1 q1 _ => ?_
  split at e
  · rename_i i j ew
    have ew' : ws = [.int i, .int j] := ew
    subst ew'
    split at e
    · rename_i hc
      cases e
      obtain ⟨x, y, B, C, rfl, h, h'⟩ := rps_two q1
      unfold Rp at h h'
      exact ⟨i, j, by rw [h.1, h'.1], cRng_ok hc, P _ G1 H1 φ1 s1 e1 fun _ => walks_rng⟩
    · cases e
  · cases e
def sForR (ms : List Nat) (src : DenI) (tg : DenG) (b : DenS) : DenS := fun δ => (src (own ms) δ).bind fun s => loopB tg b s.1 s.2
theorem ss_forR {wi : TI} {g : TG} {tb : TS} {src : DenI} {tg : DenG} {b : DenS} {xs : List Nat} (hi : SiR K wi src) (hg : Sg K g tg xs) (hb : Ss K P l l l tb b) (hs : sub ms l = true := by rfl) (hx : dis xs l = true := by rfl) (hp : dis P xs = true := by rfl) :
    Ss K P L l l (tFor wi g tb) (sForR ms src tg b) := by
  refine ⟨fun {G H φ σ δ r} s e D p => ?_⟩
  unfold sForR at e
  obtain ⟨⟨ws, δ1⟩, e1, e⟩ := Option.bind_eq_some_iff.mp e
  obtain ⟨G0, s0, x, y, z⟩ := s.split (sub_own hs)
  refine hi.run s0 e1 _ fun J G1 H1 φ1 s1 ev1 wk => ?_
  obtain ⟨G2, φ2, s2, e2, _⟩ := s.join (sub_own hs) s0 x y z s1 ev1 (hi.off e1)
  exact for_core (L := L) hg hb hx hp s2 (wk G2) e D (p.after e2 Kp.refl)
def whileB (ms : List Nat) (c : DenT) (b : DenS) : Nat → DenS
  | 0, _ => none
  | n + 1, δ => (c (own ms) δ).bind fun k => if k.1 = true then (b k.2).bind fun r => match r with
      | .nx δ2 => whileB ms c b n δ2
      | .ct δ2 => whileB ms c b n δ2
      | .bk δ2 => some (.nx δ2)
      | .rt w fr δ2 => some (.rt w fr δ2)
    else some (.nx k.2)
theorem ss_while {tc : TT} {tb : TS} {c : DenT} {b : DenS} {n : Nat} (hc : Sb K tc c) (hb : Ss K P l l l tb b) (hs : sub ms l = true := by rfl) : Ss K P L l l (tWhile tc tb) (whileB ms c b n) := by
  refine ⟨fun {G H φ σ δ r} s e D p => ?_⟩
  refine ⟨fun m σ' H' => ∃ G' φ' δ', Sta K (own l) G' H' φ' σ' δ' ∧ Evo (own l) G H φ (own l) G' H' φ' ∧ Kp P σ σ' ∧ whileB ms c b m δ' = some r, ⟨n, G, φ, δ, s, Evo.refl, Kp.refl, e⟩, fun m σ' H' hw => ?_⟩
  obtain ⟨G', φ', δ', s', ev, kp, hq⟩ := hw
  cases m with
  | zero => unfold whileB at hq; cases hq
  | succ m =>
    unfold whileB at hq
    obtain ⟨k, h1, hq⟩ := Option.bind_eq_some_iff.mp hq
    refine ev_t hc hs s' h1 _ fun G1 H1 φ1 s1 ev1 => ?_
    have evA := ev.trans ev1
    cases q : k.1 with
    | false =>
      rw [q] at hq
      cases hq
      exact p G1 H1 φ1 σ' s1 evA kp
    | true =>
      rw [q] at hq
      obtain ⟨r1, h2, hq⟩ := Option.bind_eq_some_iff.mp hq
      rw [if_pos rfl]
      refine ⟨_, fun σ2 H2 nx => ⟨m, by omega, nx⟩, hb.run s1 h2 _ ?_⟩
      cases r1 with
      | nx δ2 => exact fun G3 H3 φ3 σ3 s4 ev3 kp3 => ⟨G3, φ3, δ2, s4, evA.trans ev3, kp.trans kp3, hq⟩
      | ct δ2 => exact fun G3 H3 φ3 σ3 s4 ev3 kp3 => ⟨G3, φ3, δ2, s4, evA.trans ev3, kp.trans kp3, hq⟩
      | bk δ2 =>
        cases hq
        exact fun G3 H3 φ3 σ3 s4 ev3 kp3 => p G3 H3 φ3 σ3 s4 (evA.trans ev3) (kp.trans kp3)
      | rt w fr δ2 =>
        cases hq
        exact fun v G3 H3 φ3 σ3 A s4 ev3 kp3 r3 f3 => p v G3 H3 φ3 σ3 A s4 (evA.trans ev3) (kp.trans kp3) r3 fun h => (f3 h).back evA.ex
end
def start0 (n : Nat) (ws : List W) : Env := ws.map some ++ List.replicate (n - ws.length) none
def bodyD (n k : Nat) (b : DenS) : FnD := fun ws => if ws.length = k then (b (start0 n ws)).bind fun r => match r with
  | .nx _ => some (.non, true)
  | .rt w fr _ => some (w, fr)
  | _ => none
  else none
section
variable {K : PySem.W.Frag}
theorem body_d {N : List Str} {k : Nat} {t : TS} {b : DenS} {vs : List V} {H : Hp} {Q : VK} {E : XK} (hb : Ss K [] [] [] [] t b) (h : spD K k (bodyD N.length k b) vs H Q E) : t { nx := fun _ H' => Q .non H', rt := Q } (start N vs) H := by
  obtain ⟨hl, G, ws, A, r, vw, rp, e, q⟩ := h
  unfold bodyD at e
  split at e
  · obtain ⟨r1, e1, e⟩ := Option.bind_eq_some_iff.mp e
    have st : Sta K (own []) G H (fun _ => []) (start N vs) (start0 N.length ws) := by
      have em : own [] = fun _ => false := by funext i; rfl
      rw [em]
      refine ⟨vw.sub, (fun i hi => nomatch hi), (fun i hi => nomatch hi), (fun i hi => nomatch hi), (fun i j hi => nomatch hi), (fun i w hi => nomatch hi), fun i w _ e => ?_, ?_, vw.tup, fun p hp => ⟨(vw.tb p hp).1, (fun i hi => nomatch hi), (vw.tb p hp).2⟩⟩
      · unfold start0 at e
        by_cases c : i < ws.length
        · rw [List.getElem?_append_left (by rw [List.length_map]; exact c), List.getElem?_map] at e
          obtain ⟨y, h1, h2⟩ := Option.map_eq_some_iff.mp e
          cases h2
          obtain ⟨v, B, e2, r2, _⟩ := rp.get h1
          refine ⟨v, B, ?_, r2⟩
          unfold L2.start
          rw [List.getElem?_append_left (by rw [List.length_map, ← rp.len]; exact c), List.getElem?_map, e2]
          rfl
        · rw [List.getElem?_append_right (by rw [List.length_map]; omega)] at e
          have := List.mem_of_getElem? e
          have := List.eq_of_mem_replicate this
          cases this
      · unfold L2.start start0
        rw [List.length_append, List.length_append, List.length_map, List.length_map, List.length_replicate, List.length_replicate, rp.len]
    have gr : ∀ {G' H' φ' σ' δ'}, Sta K (own []) G' H' φ' σ' δ' → Evo (own []) G H (fun _ => []) (own []) G' H' φ' → Grow K G H G' H' := fun {G' H' φ' σ' δ'} s' ev => by
      refine ⟨ev.ex, ⟨fun a o h nt => ev.keep a o h nt fun i hi => (nomatch hi), ev.tbl⟩, s'.vw, fun a o h h' => ?_⟩
      rcases ev.new a o h h' with z | ⟨i, hi, _⟩
      · exact z
      · exact nomatch hi
    refine hb.run st e1 _ ?_
    cases r1 with
    | nx δ1 =>
      cases e
      exact fun G' H' φ' σ' s' ev _ => q .non G' H' [] (gr s' ev) rp_non fun _ => Fresh.nil
    | rt w fr δ1 =>
      cases e
      exact fun v G' H' φ' σ' A' s' ev _ rv f => q v G' H' A' (gr s' ev) rv f
    | bk δ1 => cases e
    | ct δ1 => cases e
  · cases e
theorem bodyD_len {n k : Nat} {b : DenS} {ws : List W} {r : W × Bool} (h : bodyD n k b ws = some r) : ws.length = k := by
  unfold bodyD at h
  split at h
  · rename_i c; exact c
  · cases h
end
end Dv
set_option Elab.async false
set_option linter.all false
set_option maxRecDepth 100000
set_option maxHeartbeats 4000000
namespace Dv
open PySem PySem.Spec PyProof.Rows L2 DvR DvF
inductive Stp where
  | ix (n : Nat) | key (k : Key) | fld (f : Str)
def keyIx (ks : List Key) (k : Key) : Option Nat := ks.findIdx? fun x => decide (x = k)
def fldIx (fs : List Str) (f : Str) : Option Nat := fs.findIdx? fun x => decide (x = f)
def W.step : W → Stp → Option W
  | .lst ws, .ix n => ws[n]?
  | .dk ks ws, .key k => (keyIx ks k).bind fun n => ws[n]?
  | .ins _ fs ws, .fld f => (fldIx fs f).bind fun n => ws[n]?
  | _, _ => none
def W.stepPut (w : W) (s : Stp) (w' : W) : W := match w, s with
  | .lst ws, .ix n => .lst (ws.set n w')
  | .dk ks ws, .key k => match keyIx ks k with
    | some n => .dk ks (ws.set n w')
    | none => .dk ks ws
  | .ins c fs ws, .fld f => match fldIx fs f with
    | some n => .ins c fs (ws.set n w')
    | none => .ins c fs ws
  | w, _ => w
def W.at : W → List Stp → Option W
  | w, [] => some w
  | w, s :: st => (w.step s).bind fun w1 => W.at w1 st
def W.put : W → List Stp → W → W
  | _, [], w' => w'
  | w, s :: st, w' => match w.step s with
    | some w1 => w.stepPut s (W.put w1 st w')
    | none => w
def At1 (H : Hp) (v : V) (s : Stp) (u : V) : Prop := match s with
  | .ix n => ∃ a vs, v = .ref a ∧ H a = some (.lst vs) ∧ vs[n]? = some u
  | .key k => ∃ a ks vs n, v = .ref a ∧ H a = some (.dK (ks.zip vs)) ∧ ks.length = vs.length ∧ keyIx ks k = some n ∧ vs[n]? = some u
  | .fld f => ∃ a C dx fs vs n, v = .ref a ∧ H a = some (.ins C dx (fs.zip vs)) ∧ fs.length = vs.length ∧ fldIx fs f = some n ∧ vs[n]? = some u
def At (H : Hp) : V → List Stp → V → Prop
  | v, [], u => v = u
  | v, s :: st, u => ∃ x, At1 H v s x ∧ At H x st u
theorem zip_inj {α β : Type} : ∀ {ks ks' : List α} {vs vs' : List β}, ks.length = vs.length → ks'.length = vs'.length → ks.zip vs = ks'.zip vs' → ks = ks' ∧ vs = vs'
  | [], [], [], [], _, _, _ => ⟨rfl, rfl⟩
  | [], _ :: _, [], _ :: _, _, _, e => by cases e
  | _ :: _, [], _ :: _, [], _, _, e => by cases e
  | k :: ks, k' :: ks', v :: vs, v' :: vs', h, h', e => by
    rw [List.zip_cons_cons, List.zip_cons_cons] at e
    injection e with e1 e2
    obtain ⟨a, b⟩ := zip_inj (Nat.succ.inj h) (Nat.succ.inj h') e2
    cases e1
    exact ⟨by rw [a], by rw [b]⟩
theorem At1.det {H : Hp} {v u u' : V} {s : Stp} (h : At1 H v s u) (h' : At1 H v s u') : u = u' := by
  cases s with
  | ix n =>
    obtain ⟨a, vs, rfl, e, q⟩ := h
    obtain ⟨a', vs', e1, e2, q'⟩ := h'
    cases e1
    rw [e] at e2
    cases e2
    rw [q] at q'
    exact Option.some.inj q'
  | key k =>
    obtain ⟨a, ks, vs, n, rfl, e, l, i, q⟩ := h
    obtain ⟨a', ks', vs', n', e1, e2, l', i', q'⟩ := h'
    cases e1
    rw [e] at e2
    obtain ⟨rfl, rfl⟩ := zip_inj l l' (HO.dK.inj (Option.some.inj e2))
    rw [i] at i'
    cases i'
    rw [q] at q'
    exact Option.some.inj q'
  | fld f =>
    obtain ⟨a, C, dx, fs, vs, n, rfl, e, l, i, q⟩ := h
    obtain ⟨a', C', dx', fs', vs', n', e1, e2, l', i', q'⟩ := h'
    cases e1
    rw [e] at e2
    obtain ⟨_, _, e3⟩ := HO.ins.inj (Option.some.inj e2)
    obtain ⟨rfl, rfl⟩ := zip_inj l l' e3
    rw [i] at i'
    cases i'
    rw [q] at q'
    exact Option.some.inj q'
theorem At.det {H : Hp} : ∀ {st : List Stp} {v u u' : V}, At H v st u → At H v st u' → u = u'
  | [], v, u, u', h, h' => by unfold At at h h'; exact h.symm.trans h'
  | s :: st, v, u, u', h, h' => by
    unfold At at h h'
    obtain ⟨x, h1, h2⟩ := h
    obtain ⟨x', h1', h2'⟩ := h'
    obtain rfl := h1.det h1'
    exact At.det h2 h2'
theorem At1.ex {H H' : Hp} {v u : V} {s : Stp} (e : Ex H H') (h : At1 H v s u) : At1 H' v s u := by
  cases s with
  | ix n =>
    obtain ⟨a, vs, rfl, e1, q⟩ := h
    exact ⟨a, vs, rfl, e a _ e1, q⟩
  | key k =>
    obtain ⟨a, ks, vs, n, rfl, e1, l, i, q⟩ := h
    exact ⟨a, ks, vs, n, rfl, e a _ e1, l, i, q⟩
  | fld f =>
    obtain ⟨a, C, dx, fs, vs, n, rfl, e1, l, i, q⟩ := h
    exact ⟨a, C, dx, fs, vs, n, rfl, e a _ e1, l, i, q⟩
theorem At.ex {H H' : Hp} (e : Ex H H') : ∀ {st : List Stp} {v u : V}, At H v st u → At H' v st u
  | [], v, u, h => h
  | s :: st, v, u, h => by
    unfold At at h ⊢
    obtain ⟨x, h1, h2⟩ := h
    exact ⟨x, h1.ex e, At.ex e h2⟩
theorem At.snoc {H : Hp} {s : Stp} : ∀ {st : List Stp} {v x u : V}, At H v st x → At1 H x s u → At H v (st ++ [s]) u
  | [], v, x, u, h, h' => by
    unfold At at h
    subst h
    exact ⟨u, h', rfl⟩
  | t :: st, v, x, u, h, h' => by
    unfold At at h
    obtain ⟨y, h1, h2⟩ := h
    exact ⟨y, h1, h2.snoc h'⟩
section
variable {K : PySem.W.Frag} {H : Hp}
theorem Rps.split : ∀ {ws : List W} {vs : List V} {B : List Addr} {n : Nat} {w : W}, Rps K H ws vs B → ws[n]? = some w → ∃ v B1 C B2, vs[n]? = some v ∧ B = B1 ++ C ++ B2 ∧ Rp K H w v C ∧
    ∀ H2 w2 v2 D, TupK K H H2 → (∀ a ∈ B1 ++ B2, ∀ o, H a = some o → H2 a = some o) → Rp K H2 w2 v2 D → Rps K H2 (ws.set n w2) (vs.set n v2) (B1 ++ D ++ B2)
  | [], vs, B, n, w, r, e => by simp at e
  | w0 :: ws, vs, B, 0, w, r, e => by
    unfold Rps at r
    obtain ⟨v, vr, B0, C, rfl, rfl, h1, h2⟩ := r
    simp at e
    subst e
    refine ⟨v, [], B0, C, rfl, by simp, h1, fun H2 w2 v2 D tk ag r2 => ?_⟩
    show Rps K H2 (w2 :: ws) (v2 :: vr) ([] ++ D ++ C)
    rw [List.nil_append]
    exact Rps.cons r2 (Rps.frame tk ws vr C (fun a ha => ag a (by simpa using ha)) h2)
  | w0 :: ws, vs, B, n + 1, w, r, e => by
    unfold Rps at r
    obtain ⟨v0, vr, B0, C, rfl, rfl, h1, h2⟩ := r
    obtain ⟨v, B1, D, B2, e1, rfl, r1, back⟩ := Rps.split (n := n) (w := w) h2 (by simpa using e)
    refine ⟨v, B0 ++ B1, D, B2, by simpa using e1, by simp, r1, fun H2 w2 v2 D2 tk ag r2 => ?_⟩
    show Rps K H2 (w0 :: ws.set n w2) (v0 :: vr.set n v2) _
    have a1 := Rp.frame tk w0 v0 B0 (fun a ha => ag a (by simp [ha])) h1
    have a2 := back H2 w2 v2 D2 tk (fun a ha => ag a (by
      rcases List.mem_append.mp ha with z | z
      · simp [z]
      · simp [z])) r2
    have := Rps.cons a1 a2
    simpa using this
theorem set_same {α : Type} {xs : List α} {n : Nat} {v : α} (h : xs[n]? = some v) : xs.set n v = xs := by
  refine List.ext_getElem? fun i => ?_
  by_cases c : n = i
  · subst c
    rw [List.getElem?_set_self (List.getElem?_eq_some_iff.mp h).1, h]
  · rw [List.getElem?_set_ne c]
theorem keyIx_lt {ks : List Key} {k : Key} {n : Nat} (h : keyIx ks k = some n) : n < ks.length := by
  unfold keyIx at h
  exact (List.findIdx?_eq_some_iff_getElem.mp h).1
theorem fldIx_lt {fs : List Str} {f : Str} {n : Nat} (h : fldIx fs f = some n) : n < fs.length := by
  unfold fldIx at h
  exact (List.findIdx?_eq_some_iff_getElem.mp h).1
theorem at_split : ∀ {st : List Stp} {w0 w : W} {v0 : V} {B : List Addr}, Rp K H w0 v0 B → w0.at st = some w → ∃ v P Bs S, At H v0 st v ∧ B = P ++ Bs ++ S ∧ Rp K H w v Bs ∧
    ∀ H2 w2 D, TupK K H H2 → (∀ a ∈ P ++ S, ∀ o, H a = some o → H2 a = some o) → Rp K H2 w2 v D → Rp K H2 (w0.put st w2) v0 (P ++ D ++ S)
  | [], w0, w, v0, B, r, e => by
    unfold W.at at e
    cases e
    refine ⟨v0, [], B, [], rfl, by simp, r, fun H2 w2 D _ _ r2 => ?_⟩
    unfold W.put
    simpa using r2
  | s :: st, w0, w, v0, B, r, e => by
    unfold W.at at e
    obtain ⟨w1, h1, e⟩ := Option.bind_eq_some_iff.mp e
    have key : ∃ x P Bs S, At1 H v0 s x ∧ B = P ++ Bs ++ S ∧ Rp K H w1 x Bs ∧ ∀ H2 w2 D, TupK K H H2 → (∀ a ∈ P ++ S, ∀ o, H a = some o → H2 a = some o) → Rp K H2 w2 x D → Rp K H2 (w0.stepPut s w2) v0 (P ++ D ++ S) := by
      unfold W.step at h1
      split at h1
      · rename_i ws n
        unfold Rp at r
        obtain ⟨a, vs, B0, rfl, ha, rfl, r⟩ := r
        obtain ⟨x, B1, C, B2, e1, rfl, r1, back⟩ := r.split h1
        refine ⟨x, a :: B1, C, B2, ⟨a, vs, rfl, ha, e1⟩, by simp, r1, fun H2 w2 D tk ag r2 => ?_⟩
        unfold W.stepPut
        have := back H2 w2 x D tk (fun b hb => ag b (by
          rcases List.mem_append.mp hb with z | z
          · simp [z]
          · simp [z])) r2
        rw [set_same e1] at this
        unfold Rp
        exact ⟨a, vs, B1 ++ D ++ B2, rfl, ag a (by simp) _ ha, by simp, this⟩
      · rename_i ks ws k
        obtain ⟨n, hn, h1⟩ := Option.bind_eq_some_iff.mp h1
        unfold Rp at r
        obtain ⟨a, vs, B0, rfl, ha, hl, rfl, r⟩ := r
        obtain ⟨x, B1, C, B2, e1, rfl, r1, back⟩ := r.split h1
        refine ⟨x, a :: B1, C, B2, ⟨a, ks, vs, n, rfl, ha, hl, hn, e1⟩, by simp, r1, fun H2 w2 D tk ag r2 => ?_⟩
        unfold W.stepPut
        simp only [hn]
        have := back H2 w2 x D tk (fun b hb => ag b (by
          rcases List.mem_append.mp hb with z | z
          · simp [z]
          · simp [z])) r2
        rw [set_same e1] at this
        unfold Rp
        exact ⟨a, vs, B1 ++ D ++ B2, rfl, ag a (by simp) _ ha, hl, by simp, this⟩
      · rename_i c ks ws k
        obtain ⟨n, hn, h1⟩ := Option.bind_eq_some_iff.mp h1
        unfold Rp at r
        obtain ⟨a, dx, vs, B0, rfl, ha, hl, rfl, r⟩ := r
        obtain ⟨x, B1, C, B2, e1, rfl, r1, back⟩ := r.split h1
        refine ⟨x, a :: B1, C, B2, ⟨a, _, dx, ks, vs, n, rfl, ha, hl, hn, e1⟩, by simp, r1, fun H2 w2 D tk ag r2 => ?_⟩
        unfold W.stepPut
        simp only [hn]
        have := back H2 w2 x D tk (fun b hb => ag b (by
          rcases List.mem_append.mp hb with z | z
          · simp [z]
          · simp [z])) r2
        rw [set_same e1] at this
        unfold Rp
        exact ⟨a, dx, vs, B1 ++ D ++ B2, rfl, ag a (by simp) _ ha, hl, by simp, this⟩
      · cases h1
    obtain ⟨x, P, Bs, S, hx, rfl, r1, back⟩ := key
    obtain ⟨v, P2, Bs2, S2, hv, rfl, r2, back2⟩ := at_split r1 e
    refine ⟨v, P ++ P2, Bs2, S2 ++ S, ⟨x, hx, hv⟩, by simp, r2, fun H2 w2 D tk ag r3 => ?_⟩
    unfold W.put
    rw [h1]
    have a1 := back2 H2 w2 D tk (fun a ha => ag a (by
      rcases List.mem_append.mp ha with z | z
      · simp [z]
      · simp [z])) r3
    have a2 := back H2 _ _ tk (fun a ha => ag a (by
      rcases List.mem_append.mp ha with z | z
      · simp [z]
      · simp [z])) a1
    simpa using a2
end
abbrev DenP := Own → Env → Option (List Stp × Env)
/-- t: the object at a path in the slot i, which is seen -/
structure Spt (K : PySem.W.Frag) (t : TE) (i : Nat) (π : DenP) : Prop where
  off : ∀ {M δ r}, π M δ = some r → Off M δ r.2
  run : ∀ {M G H φ σ δ r}, Sta K M G H φ σ δ → M i = false → π M δ = some r → ∀ Q : VK, (∀ v0 v G' H' φ', Sta K M G' H' φ' σ r.2 → Evo M G H φ M G' H' φ' → σ[i]? = some (some v0) → At G' v0 r.1 v → Q v H') → t σ H Q
def pVar (i : Nat) : DenP := fun M δ => match δ[i]? with
  | some (some _) => some ([], δ)
  | _ => none
def pIx (i : Nat) (π : DenP) (f : Den) : DenP := fun M δ => (π M δ).bind fun p => (f M p.2).bind fun r => match r.2.2[i]? with
  | some (some w0) => match w0.at p.1, r.1 with
    | some (.lst ws), .int k => (ixN ws.length k).map fun n => (p.1 ++ [.ix n], r.2.2)
    | _, _ => none
  | _ => none
def W.key : W → Option Key
  | .int i => some (.inl i)
  | .str x => some (.inr x)
  | _ => none
def pKey (i : Nat) (π : DenP) (f : Den) : DenP := fun M δ => (π M δ).bind fun p => (f M p.2).bind fun r => match r.2.2[i]? with
  | some (some w0) => match w0.at p.1, r.1.key with
    | some (.dk ks ws), some k => (keyIx ks k).map fun n => (p.1 ++ [.key k], r.2.2)
    | _, _ => none
  | _ => none
section
variable {K : PySem.W.Frag}
theorem spt_var (i : Nat) : Spt K (tVar i) i (pVar i) := by
  refine ⟨fun {M δ r} e => ?_, fun {M G H φ σ δ r} s hm e Q P => ?_⟩
  · unfold pVar at e
    split at e
    · cases e; exact Off.refl
    · cases e
  · unfold pVar at e
    split at e
    · rename_i w hw
      cases e
      obtain ⟨v, A, e1, r⟩ := s.non i w hm hw
      exact ⟨v, e1, P v v G H φ s Evo.refl e1 rfl⟩
    · cases e
theorem valV_ix {ks : List Key} {vs : List V} {k : Key} {n : Nat} {v : V} (hl : ks.length = vs.length) (h : keyIx ks k = some n) (e : vs[n]? = some v) : valV (ks.zip vs) k = some v := by
  unfold valV
  unfold keyIx at h
  induction ks generalizing vs n with
  | nil => cases h
  | cons k0 ks ih =>
    cases vs with
    | nil => cases hl
    | cons v0 vs =>
      rw [List.zip_cons_cons, List.find?_cons]
      rw [List.findIdx?_cons] at h
      cases c : decide (k0 = k) with
      | true =>
        rw [c] at h
        cases h
        simp at e
        subst e
        rfl
      | false =>
        rw [c] at h
        simp at h
        obtain ⟨m, hm, rfl⟩ := h
        exact ih (Nat.succ.inj hl) (by simpa using hm) (by simpa using e)
theorem key_rel {G : Hp} {w : W} {k : Key} {v : V} {A : List Addr} (h : w.key = some k) (r : Rp K G w v A) : v = kV k := by
  unfold W.key at h
  split at h
  · cases h; unfold Rp at r; rw [r.1]; rfl
  · cases h; unfold Rp at r; rw [r.1]; rfl
  · cases h
theorem spt_key {i : Nat} {to te : TE} {π : DenP} {f : Den} (hp : Spt K to i π) (he : Sd K te f) : Spt K (tDGet to te) i (pKey i π f) := by
  have inv : ∀ {M δ r}, pKey i π f M δ = some r → ∃ p r1 w0 ks ws k n, π M δ = some p ∧ f M p.2 = some r1 ∧ r1.2.2[i]? = some (some w0) ∧ w0.at p.1 = some (.dk ks ws) ∧ r1.1.key = some k ∧ keyIx ks k = some n ∧ r = (p.1 ++ [.key k], r1.2.2) := fun {M δ r} e => by
    unfold pKey at e
    obtain ⟨p, h1, e⟩ := Option.bind_eq_some_iff.mp e
    obtain ⟨r1, h2, e⟩ := Option.bind_eq_some_iff.mp e
    split at e
    · rename_i w0 hw
      split at e
      · rename_i ks ws k h3 h4
        obtain ⟨n, h5, e⟩ := Option.map_eq_some_iff.mp e
        exact ⟨p, r1, w0, ks, ws, k, n, h1, h2, hw, h3, h4, h5, e.symm⟩
      · cases e
    · cases e
  refine ⟨fun {M δ r} e => ?_, fun {M G H φ σ δ r} s hm e Q P => ?_⟩
  · obtain ⟨p, r1, w0, ks, ws, k, n, h1, h2, _, _, _, _, rfl⟩ := inv e
    exact (hp.off h1).trans (he.off h2)
  · obtain ⟨p, r1, w0, ks, ws, k, n, h1, h2, hw, h3, h4, h5, rfl⟩ := inv e
    refine hp.run s hm h1 _ fun v0 v G1 H1 φ1 s1 e1 hv0 a1 => ?_
    refine he.run s1 h2 _ fun y G2 H2 φ2 A2 s2 e2 q2 _ => ?_
    obtain ⟨v0', A0, hv0', r0⟩ := s2.non i w0 hm hw
    obtain rfl : v0' = v0 := by
      rw [hv0] at hv0'
      exact (Option.some.inj (Option.some.inj hv0')).symm
    obtain ⟨v', P1, Bs, S1, a2, _, rv, _⟩ := at_split r0 h3
    obtain rfl : v' = v := a2.det (a1.ex e2.ex)
    unfold Rp at rv
    obtain ⟨l, vs, B, rfl, hl, ln, _, rs⟩ := rv
    have hy := key_rel h4 q2
    subst hy
    have lt : n < vs.length := by rw [← ln]; exact keyIx_lt h5
    have hx : vs[n]? = some vs[n] := List.getElem?_eq_getElem lt
    exact ⟨l, vs[n], rfl, .inl ⟨_, k, .inl (s2.sub _ _ hl), rfl, (valV_ix ln h5 hx).symm⟩, P v0' _ G2 H2 φ2 s2 (e1.trans e2) hv0 (a2.snoc ⟨l, ks, vs, n, rfl, hl, ln, h5, hx⟩)⟩
/-- o.f at a path -/
def pFld (i : Nat) (c f : Str) (π : DenP) : DenP := fun M δ => (π M δ).bind fun p => match p.2[i]? with
  | some (some w0) => match w0.at p.1 with
    | some (.ins c' fs ws) => if c' = c then (fldIx fs f).map fun _ => (p.1 ++ [.fld f], p.2) else none
    | _ => none
  | _ => none
theorem lookup_ix {fs : List Str} {vs : List V} {f : Str} {n : Nat} {v : V} (hl : fs.length = vs.length) (h : fldIx fs f = some n) (e : vs[n]? = some v) : (fs.zip vs).lookup f = some v := by
  unfold fldIx at h
  induction fs generalizing vs n with
  | nil => cases h
  | cons k0 ks ih =>
    cases vs with
    | nil => cases hl
    | cons v0 vs =>
      rw [List.zip_cons_cons, List.lookup_cons]
      rw [List.findIdx?_cons] at h
      by_cases c : k0 = f
      · subst c
        rw [decide_eq_true rfl, if_pos rfl] at h
        cases h
        simp at e
        subst e
        simp
      · rw [decide_eq_false c] at h
        simp at h
        obtain ⟨m, hm, rfl⟩ := h
        have c' : (f == k0) = false := beq_eq_false_iff_ne.mpr fun z => c z.symm
        rw [c']
        exact ih (Nat.succ.inj hl) (by simpa using hm) (by simpa using e)
theorem spt_fld {i : Nat} {c f : Str} {to : TE} {π : DenP} (hc : Cls K (He.ga K c)) (hn : NoAttr K (He.ga K c) f) (hp : Spt K to i π) : Spt K (tFld K to f) i (pFld i c f π) := by
  have inv : ∀ {M δ r}, pFld i c f π M δ = some r → ∃ p w0 fs ws n, π M δ = some p ∧ p.2[i]? = some (some w0) ∧ w0.at p.1 = some (.ins c fs ws) ∧ fldIx fs f = some n ∧ r = (p.1 ++ [.fld f], p.2) := fun {M δ r} e => by
    unfold pFld at e
    obtain ⟨p, h1, e⟩ := Option.bind_eq_some_iff.mp e
    split at e
    · rename_i w0 hw
      split at e
      · rename_i c' fs ws h3
        split at e
        · rename_i hcc
          rw [hcc] at h3
          obtain ⟨n, h5, e⟩ := Option.map_eq_some_iff.mp e
          exact ⟨p, w0, fs, ws, n, h1, hw, h3, h5, e.symm⟩
        · cases e
      · cases e
    · cases e
  refine ⟨fun {M δ r} e => ?_, fun {M G H φ σ δ r} s hm e Q P => ?_⟩
  · obtain ⟨p, w0, fs, ws, n, h1, _, _, _, rfl⟩ := inv e
    have o := hp.off h1
    exact o
  · obtain ⟨p, w0, fs, ws, n, h1, hw, h3, h5, rfl⟩ := inv e
    refine hp.run s hm h1 _ fun v0 v G1 H1 φ1 s1 e1 hv0 a1 => ?_
    obtain ⟨v0', A0, hv0', r0⟩ := s1.non i w0 hm hw
    obtain rfl : v0' = v0 := by
      rw [hv0] at hv0'
      exact (Option.some.inj (Option.some.inj hv0')).symm
    obtain ⟨v', P1, Bs, S1, a2, _, rv, _⟩ := at_split r0 h3
    obtain rfl : v' = v := a2.det a1
    unfold Rp at rv
    obtain ⟨l, dx, vs, B, rfl, hl, ln, _, rs⟩ := rv
    have lt : n < vs.length := by rw [← ln]; exact fldIx_lt h5
    have hx : vs[n]? = some vs[n] := List.getElem?_eq_getElem lt
    exact ⟨l, _, dx, _, vs[n], rfl, s1.sub _ _ hl, hc, hn, lookup_ix ln h5 hx, P v0' _ G1 H1 φ1 s1 e1 hv0 (a1.snoc ⟨l, _, dx, fs, vs, n, rfl, hl, ln, h5, hx⟩)⟩
end
end Dv
set_option Elab.async false
set_option linter.all false
set_option maxRecDepth 100000
set_option maxHeartbeats 4000000
namespace Dv
open PySem PySem.Spec PyProof.Rows L2 DvR DvF
def but (M : Own) (i : Nat) : Own := fun j => !decide (j = i) && M j
theorem but_sub {M : Own} {i : Nat} : ∀ j, but M i j = true → M j = true := fun j h => (Bool.and_eq_true_iff.mp h).2
theorem but_self {M : Own} {i : Nat} : but M i i = false := by unfold but; rw [decide_eq_true rfl]; rfl
/-- what a method does, by values: the object behind it and what it returns -/
abbrev OpW := W → List W → Option (W × W)
/-- r does what op says -/
def OpOk (K : PySem.W.Frag) (r : V → List V → Hp → VK → Prop) (op : OpW) : Prop :=
  ∀ {H : Hp} {w : W} {v : V} {B : List Addr} {as : List W} {us : List V} {A : List Addr} {q : W × W}, Rp K H w v B → Rps K H as us A → (B ++ A).Nodup → op w as = some q →
    ∃ l o o' B' x C, v = .ref l ∧ H l = some o ∧ MutD (some o) ∧ MutD (some o') ∧ l ∈ B ∧ l ∉ C ∧ Rp K (upd H l o') q.1 v B' ∧ Rp K (upd H l o') q.2 x C ∧ (B' ++ C).Nodup ∧ (∀ a ∈ B' ++ C, a ∈ B ∨ a ∈ A) ∧ ∀ Q : VK, Q x (upd H l o') → r v us H Q
def dOpAt (i : Nat) (π : DenP) (op : OpW) (g : DenA) : Den := fun M δ => if M i = true then (π (but M i) δ).bind fun p => (g (but M i) p.2).bind fun r => if r.2.1 = true then match r.2.2[i]? with
    | some (some w0) => (w0.at p.1).bind fun w => (op w r.1).map fun q => (q.2, true, r.2.2.set i (some (w0.put p.1 q.1)))
    | _ => none
    else none
  else none
section
variable {K : PySem.W.Frag} {M : Own} {G H : Hp} {φ : Nat → List Addr} {σ : L2.St} {δ : Env}
/-- the core: the path's object and the arguments stand; the object is written -/
theorem Sta.writeAt {G3 H2 : Hp} {φ3 : Nat → List Addr} {δ2 : Env} {i : Nat} {st : List Stp} {w0 w : W} {v0 v : V} {as : List W} {us : List V} {A : List Addr} {r : V → List V → Hp → VK → Prop} {op : OpW} {q : W × W}
    (ok : OpOk K r op) (s : Sta K M G H φ σ δ) (hm : M i = true) (s3 : Sta K M G3 H2 φ3 σ δ2) (ev : Evo M G H φ M G3 H2 φ3) (of : Off M δ δ2) (ra : Rps K G3 as us A) (fa : Fresh G G3 A) (hw : δ2[i]? = some (some w0)) (hv0 : σ[i]? = some (some v0)) (ha : w0.at st = some w) (hat : At H2 v0 st v) (hop : op w as = some q)
    (Q : VK) (P : ∀ x G4 H4 φ4 C, Sta K M G4 H4 φ4 σ (δ2.set i (some (w0.put st q.1))) → Evo M G H φ M G4 H4 φ4 → Rp K G4 q.2 x C → Fresh G G4 C → Q x H4) : r v us H2 Q := by
  classical
  obtain ⟨v1, e1, r0⟩ := s3.own i w0 hm hw
  obtain rfl : v1 = v0 := by
    rw [hv0] at e1
    exact (Option.some.inj (Option.some.inj e1)).symm
  obtain ⟨v', Pp, Bs, S, a2, eB, rv, back⟩ := at_split r0 ha
  obtain rfl : v' = v := a2.det hat
  have vis : ∀ a ∈ A, ∃ o, G3 a = some o := fun a h => mut_some (fa.2 a h).2
  have hid : ∀ j, M j = true → ∀ a ∈ φ3 j, a ∉ A := fun j hj a h z => by
    obtain ⟨o, q⟩ := vis a z
    rw [s3.sep j hj a h] at q
    cases q
  have inB : ∀ a ∈ Bs, a ∈ φ3 i := fun a h => by rw [eB]; simp [h]
  have inP : ∀ a ∈ Pp, a ∈ φ3 i := fun a h => by rw [eB]; simp [h]
  have inS : ∀ a ∈ S, a ∈ φ3 i := fun a h => by rw [eB]; simp [h]
  have nd3 : (Pp ++ Bs ++ S).Nodup := by rw [← eB]; exact s3.nd i hm
  have ndPB := List.nodup_append.mp nd3
  have ndP := List.nodup_append.mp ndPB.1
  have nPB : ∀ a ∈ Pp, a ∉ Bs := fun a h z => ndP.2.2 a h a z rfl
  have nBS : ∀ a ∈ Bs, a ∉ S := fun a h z => ndPB.2.2 a (List.mem_append_right _ h) a z rfl
  have nPS : ∀ a ∈ Pp, a ∉ S := fun a h z => ndPB.2.2 a (List.mem_append_left _ h) a z rfl
  have ndBA : (Bs ++ A).Nodup := List.nodup_append.mpr ⟨ndP.2.1, fa.1, fun a h b hb e => by subst e; exact hid i hm a (inB a h) hb⟩
  obtain ⟨l, o, o', B', x, C, rfl, hl, moD, moD', lB, lC, rq1, rq2, nd', src, go⟩ := ok rv (ra.mono s3.sub) ndBA hop
  have mo := moD.m
  have mo' := moD'.m
  let H4 := upd H2 l o'
  have l3 : l ∈ φ3 i := inB l lB
  have G3l : G3 l = none := s3.sep i hm l l3
  have ne4 : ∀ a, a ≠ l → H4 a = H2 a := fun a n => upd_ne n
  have at4 : H4 l = some o' := upd_same
  let G4 : Hp := fun a => if a ∈ C then H4 a else if a ∈ A then none else G3 a
  have g1 : ∀ {a}, a ∈ C → G4 a = H4 a := fun h => if_pos h
  have g2 : ∀ {a}, a ∉ C → a ∈ A → G4 a = none := fun h h' => (if_neg h).trans (if_pos h')
  have g3 : ∀ {a}, a ∉ C → a ∉ A → G4 a = G3 a := fun h h' => (if_neg h).trans (if_neg h')
  have nd'' := List.nodup_append.mp nd'
  have srcB : ∀ a ∈ B', a ∈ Bs ∨ a ∈ A := fun a h => src a (List.mem_append_left _ h)
  have srcC : ∀ a ∈ C, a ∈ Bs ∨ a ∈ A := fun a h => src a (List.mem_append_right _ h)
  have CB : ∀ a ∈ C, a ∉ B' := fun a h z => nd''.2.2 a z a h rfl
  have CP : ∀ a ∈ C, a ∉ Pp := fun a h z => (srcC a h).elim (fun y => nPB a z y) fun y => hid i hm a (inP a z) y
  have CS : ∀ a ∈ C, a ∉ S := fun a h z => (srcC a h).elim (fun y => nBS a y z) fun y => hid i hm a (inS a z) y
  have Cj : ∀ j, M j = true → j ≠ i → ∀ a ∈ φ3 j, a ∉ C := fun j hj n a h z => (srcC a z).elim (fun y => s3.dis j i hj hm n a h (inB a y)) fun y => hid j hj a h y
  let F := Pp ++ B' ++ S
  have srcF : ∀ a ∈ F, a ∈ φ3 i ∨ a ∈ A := fun a h => by
    rcases List.mem_append.mp h with h | h
    · rcases List.mem_append.mp h with h | h
      · exact .inl (inP a h)
      · exact (srcB a h).elim (fun y => .inl (inB a y)) .inr
    · exact .inl (inS a h)
  have FC : ∀ a ∈ F, a ∉ C := fun a h z => by
    rcases List.mem_append.mp h with h | h
    · rcases List.mem_append.mp h with h | h
      · exact CP a z h
      · exact CB a z h
    · exact CS a z h
  have ndF : F.Nodup := by
    refine List.nodup_append.mpr ⟨List.nodup_append.mpr ⟨ndP.1, nd''.1, fun a h b hb e => ?_⟩, ndPB.2.1, fun a h b hb e => ?_⟩
    · subst e
      exact (srcB a hb).elim (fun y => nPB a h y) fun y => hid i hm a (inP a h) y
    · subst e
      rcases List.mem_append.mp h with h | h
      · exact nPS a h hb
      · exact (srcB a h).elim (fun y => nBS a y hb) fun y => hid i hm a (inS a hb) y
  have tk : TupK K H2 H4 := .of fun a u h n => by
    rw [ne4 a (fun e => by subst e; rw [hl] at h; cases h; exact n mo)]
    exact h
  have rF : Rp K H4 (w0.put st q.1) v1 F := back H4 q.1 B' tk (fun a ha u h => by
    rw [ne4 a (fun e => by
      subst e
      rcases List.mem_append.mp ha with z | z
      · exact nPB a z lB
      · exact nBS a lB z)]
    exact h) rq1
  let φ4 : Nat → List Addr := fun j => if j = i then F else φ3 j
  have p1 : φ4 i = F := if_pos rfl
  have p2 : ∀ {j}, j ≠ i → φ4 j = φ3 j := fun h => if_neg h
  have exG : Ex G G4 := fun a u h => by
    have nc : a ∉ C := fun z => by
      rcases srcC a z with y | y
      · have := ev.ex a u h
        rw [s3.sep i hm a (inB a y)] at this
        cases this
      · rw [(fa.2 a y).1] at h; cases h
    have na : a ∉ A := fun y => by rw [(fa.2 a y).1] at h; cases h
    rw [g3 nc na]
    exact ev.ex a u h
  have sub4 : Ex G4 H4 := fun a u h => by
    by_cases c : a ∈ C
    · rw [g1 c] at h; exact h
    · by_cases d : a ∈ A
      · rw [g2 c d] at h; cases h
      · rw [g3 c d] at h
        rw [ne4 a (fun e => by subst e; rw [G3l] at h; cases h)]
        exact s3.sub a u h
  have tup4 : ∀ a u, H4 a = some u → ¬ Mut (some u) → G4 a = some u := fun a u h n => by
    have nl : a ≠ l := fun e => by subst e; rw [at4] at h; cases h; exact n mo'
    have h2 : H2 a = some u := by rw [← ne4 a nl]; exact h
    by_cases c : a ∈ C
    · rw [g1 c]; exact h
    · have na : a ∉ A := fun y => by
        have m := (fa.2 a y).2
        obtain ⟨u2, q2⟩ := mut_some m
        have := s3.sub a u2 q2
        rw [h2] at this
        cases this
        rw [q2] at m
        exact n m
      rw [g3 c na]
      exact s3.tup a u h2 n
  have mutA : ∀ a ∈ A, Mut (H2 a) := fun a y => by
    have m := (fa.2 a y).2
    obtain ⟨u2, q2⟩ := mut_some m
    rw [s3.sub a u2 q2]
    rw [q2] at m
    exact m
  have mut4 : ∀ a, Mut (H2 a) → Mut (H4 a) := fun a m => by
    by_cases c : a = l
    · subst c; rw [at4]; exact mo'
    · rw [ne4 a c]; exact m
  have stay : ∀ j, M j = true → j ≠ i → ∀ a ∈ φ3 j, ∀ u, H2 a = some u → H4 a = some u := fun j hj n a h u e => by
    rw [ne4 a (fun z => by subst z; exact s3.dis j i hj hm n a h l3)]
    exact e
  have st4 : Sta K M G4 H4 φ4 σ (δ2.set i (some (w0.put st q.1))) := by
    refine ⟨sub4, fun j hj a h => ?_, fun j hj a h => ?_, fun j hj => ?_, fun j k hj hk n a h => ?_, fun j y hj e => ?_, fun j y hj e => ?_, by rw [List.length_set]; exact s3.len, tup4, fun p hp => by
      obtain ⟨t1, t2, t3⟩ := s3.tb p hp
      obtain ⟨ps, ep⟩ := tabS_some t3
      have nA : p.2.1 ∉ A := fun z => by
        obtain ⟨u, y⟩ := vis _ z
        rw [t1] at y
        cases y
      have nC : p.2.1 ∉ C := fun z => (srcC _ z).elim (fun y => t2 i hm (inB _ y)) nA
      refine ⟨by rw [g3 nC nA]; exact t1, fun j hj hz => ?_, tabS_upd t3 hl mo moD.nt⟩
      by_cases c : j = i
      · subst c
        rw [p1] at hz
        exact (srcF _ hz).elim (t2 j hj) nA
      · rw [p2 c] at hz
        exact t2 j hj hz⟩
    · by_cases c : j = i
      · subst c
        rw [p1] at h
        have nc := FC a h
        by_cases d : a ∈ A
        · exact g2 nc d
        · rw [g3 nc d]
          rcases srcF a h with y | y
          · exact s3.sep j hj a y
          · exact absurd y d
      · rw [p2 c] at h
        have nc := Cj j hj c a h
        rw [g3 nc (hid j hj a h)]
        exact s3.sep j hj a h
    · by_cases c : j = i
      · subst c
        rw [p1] at h
        rcases srcF a h with y | y
        · exact mut4 a (s3.mt j hj a y)
        · exact mut4 a (mutA a y)
      · rw [p2 c] at h
        exact mut4 a (s3.mt j hj a h)
    · by_cases c : j = i
      · subst c; rw [p1]; exact ndF
      · rw [p2 c]; exact s3.nd j hj
    · by_cases c : j = i
      · subst c
        rw [p1] at h
        have nk : k ≠ j := fun e => n e.symm
        rw [p2 nk]
        exact fun z => (srcF a h).elim (fun y => s3.dis j k hj hk n a y z) fun y => hid k hk a z y
      · rw [p2 c] at h
        by_cases d : k = i
        · subst d
          rw [p1]
          exact fun z => (srcF a z).elim (fun y => s3.dis j k hj hk n a h y) fun y => hid j hj a h y
        · rw [p2 d]
          exact s3.dis j k hj hk n a h
    · by_cases c : j = i
      · subst c
        have hl : j < δ2.length := (List.getElem?_eq_some_iff.mp hw).1
        rw [List.getElem?_set_self hl] at e
        cases e
        rw [p1]
        exact ⟨v1, hv0, rF⟩
      · rw [List.getElem?_set_ne (fun z => c z.symm)] at e
        obtain ⟨v, e1, r1⟩ := s3.own j y hj e
        rw [p2 c]
        exact ⟨v, e1, Rp.frame tk y v _ (stay j hj c) r1⟩
    · have c : i ≠ j := fun z => by subst z; rw [hm] at hj; cases hj
      rw [List.getElem?_set_ne c] at e
      rw [of.2 j hj] at e
      obtain ⟨v, A', e1, r1⟩ := s.non j y hj e
      exact ⟨v, A', e1, r1.mono exG⟩
  have ev4 : Evo M G H φ M G4 H4 φ4 := by
    have fromA : ∀ a ∈ A, H a = none ∨ ∃ i, M i = true ∧ a ∈ φ i := fun a y => by
      obtain ⟨u, q⟩ := vis a y
      exact ev.new a u (fa.2 a y).1 q
    refine ⟨exG, fun a u h nt n => ?_, fun a ps h => ?_, fun a u h h' => ?_, fun j hj a h => ?_⟩
    · rw [ne4 a (fun e => by
        subst e
        rcases ev.nown i hm a l3 with z | ⟨k, hk, z⟩
        · rw [h] at z; cases z
        · exact n k hk z)]
      exact ev.keep a u h nt n
    · obtain ⟨ps', e⟩ := ev.tbl a ps h
      exact ⟨ps', by rw [ne4 a (fun z => by subst z; rw [hl] at e; cases e; exact moD.nt _ rfl)]; exact e⟩
    · by_cases c : a ∈ C
      · rcases srcC a c with y | y
        · exact ev.nown i hm a (inB a y)
        · exact fromA a y
      · by_cases d : a ∈ A
        · rw [g2 c d] at h'; cases h'
        · rw [g3 c d] at h'; exact ev.new a u h h'
    · by_cases c : j = i
      · subst c
        rw [p1] at h
        rcases srcF a h with y | y
        · exact ev.nown j hj a y
        · exact fromA a y
      · rw [p2 c] at h
        exact ev.nown j hj a h
  refine go Q (P x G4 H4 φ4 C st4 ev4 ?_ ⟨nd''.2.1, fun a h => ⟨?_, ?_⟩⟩)
  · exact Rp.frame (TupK.of tup4) q.2 x C (fun a h u e => by rw [g1 h]; exact e) rq2
  · rcases srcC a h with y | y
    · cases c : G a with
      | none => rfl
      | some u =>
        have := ev.ex a u c
        rw [s3.sep i hm a (inB a y)] at this
        cases this
    · exact (fa.2 a y).1
  · rw [g1 h]
    rcases srcC a h with y | y
    · exact mut4 a (s3.mt i hm a (inB a y))
    · exact mut4 a (mutA a y)
/-- o.m(e, ..) that writes o -/
theorem sd_op_at {T : String} {r : V → List V → Hp → VK → Prop} {op : OpW} {i : Nat} {to : TE} {π : DenP} {t : TA} {g : DenA} (ok : OpOk K r op) (ty : ∀ {H w v B as q}, Rp K H w v B → op w as = some q → tyV K T v H) (hp : Spt K to i π) (ha : Sa K t g) :
    Sd K (tBM K T r to t) (dOpAt i π op g) := by
  have inv : ∀ {M δ r}, dOpAt i π op g M δ = some r → M i = true ∧ ∃ p r1 w0 w q, π (but M i) δ = some p ∧ g (but M i) p.2 = some r1 ∧ r1.2.1 = true ∧ r1.2.2[i]? = some (some w0) ∧ w0.at p.1 = some w ∧ op w r1.1 = some q ∧ r = (q.2, true, r1.2.2.set i (some (w0.put p.1 q.1))) := fun {M δ r} e => by
    unfold dOpAt at e
    split at e
    · rename_i hm
      obtain ⟨p, h1, e⟩ := Option.bind_eq_some_iff.mp e
      obtain ⟨r1, h2, e⟩ := Option.bind_eq_some_iff.mp e
      split at e
      · rename_i hf
        split at e
        · rename_i w0 hw
          obtain ⟨w, h3, e⟩ := Option.bind_eq_some_iff.mp e
          obtain ⟨q, h4, e⟩ := Option.map_eq_some_iff.mp e
          exact ⟨hm, p, r1, w0, w, q, h1, h2, hf, hw, h3, h4, e.symm⟩
        · cases e
      · cases e
    · cases e
  refine ⟨fun {M δ r} e => ?_, fun {M G H φ σ δ r'} s e Q P => ?_⟩
  · obtain ⟨hm, p, r1, w0, w, q, h1, h2, hf, hw, h3, h4, rfl⟩ := inv e
    exact (off_up but_sub ((hp.off h1).trans (ha.off h2))).trans (off_set hm)
  · obtain ⟨hm, p, r1, w0, w, q, h1, h2, hf, hw, h3, h4, rfl⟩ := inv e
    obtain ⟨G0, s0, x, y, z⟩ := s.split (ms := but M i) but_sub
    refine hp.run s0 but_self h1 _ fun v0 v G1 H1 φ1 s1 e1 hv0 a1 => ?_
    have nb : (but M i) i = false := but_self
    have tyv : tyV K T v H1 := by
      have hw1 : p.2[i]? = some (some w0) := by rw [← (ha.off h2).2 i nb]; exact hw
      obtain ⟨v1, A1, e1', r1'⟩ := s1.non i w0 nb hw1
      obtain rfl : v1 = v0 := by
        rw [hv0] at e1'
        exact (Option.some.inj (Option.some.inj e1')).symm
      obtain ⟨v', _, _, _, a2, _, rv, _⟩ := at_split r1' h3
      obtain rfl : v' = v := a2.det a1
      exact ty (rv.mono s1.sub) h4
    refine ⟨tyv, ha.run s1 h2 _ fun us G2 H2 φ2 A2 s2 e2 q2 f2 => ?_⟩
    obtain ⟨G3, φ3, s3, e3, lift⟩ := s.join but_sub s0 x y z s2 (e1.trans e2) ((hp.off h1).trans (ha.off h2))
    obtain ⟨ra, fa⟩ := rps_lift lift _ _ _ q2 ((f2 hf).back e1.ex)
    exact s.writeAt ok hm s3 e3 (off_up but_sub ((hp.off h1).trans (ha.off h2))) ra fa hw hv0 h3 (a1.ex (e2.ex.trans s2.sub)) h4 Q fun x G4 H4 φ4 C s4 e4 r4 f4 => P x G4 H4 φ4 C s4 e4 r4 fun _ => f4
end
end Dv
set_option Elab.async false
set_option linter.all false
set_option maxRecDepth 100000
set_option maxHeartbeats 4000000
namespace Dv
open PySem PySem.Spec PyProof.Rows L2 DvR DvF
section
variable {K : PySem.W.Frag} {H : Hp}
theorem Rps.unappend : ∀ {xs ys : List W} {vs : List V} {B : List Addr}, Rps K H (xs ++ ys) vs B → ∃ v1 v2 B1 B2, vs = v1 ++ v2 ∧ B = B1 ++ B2 ∧ Rps K H xs v1 B1 ∧ Rps K H ys v2 B2
  | [], ys, vs, B, r => ⟨[], vs, [], B, rfl, rfl, Rps.nil, r⟩
  | x :: xs, ys, vs, B, r => by
    have r : Rps K H (x :: (xs ++ ys)) vs B := r
    unfold Rps at r
    obtain ⟨v, vr, B0, C, rfl, rfl, h1, h2⟩ := r
    obtain ⟨v1, v2, B1, B2, rfl, rfl, a, b⟩ := Rps.unappend h2
    exact ⟨v :: v1, v2, B0 ++ B1, B2, rfl, (List.append_assoc ..).symm, Rps.cons h1 a, b⟩
theorem tk_upd {l : Addr} {o o' : HO} (hl : H l = some o) (mo : Mut (some o)) : TupK K H (upd H l o') := .of fun a u h n => by
  rw [upd_ne (fun e => by subst e; rw [hl] at h; cases h; exact n mo)]
  exact h
theorem Rps.updo {l : Addr} {o o' : HO} {ws : List W} {vs : List V} {B : List Addr} (hl : H l = some o) (mo : Mut (some o)) (n : l ∉ B) (r : Rps K H ws vs B) : Rps K (upd H l o') ws vs B :=
  Rps.frame (tk_upd hl mo) ws vs B (fun a ha u h => by rw [upd_ne (fun e => by subst e; exact n ha)]; exact h) r
theorem Rp.updo {l : Addr} {o o' : HO} {w : W} {v : V} {B : List Addr} (hl : H l = some o) (mo : Mut (some o)) (n : l ∉ B) (r : Rp K H w v B) : Rp K (upd H l o') w v B :=
  Rp.frame (tk_upd hl mo) w v B (fun a ha u h => by rw [upd_ne (fun e => by subst e; exact n ha)]; exact h) r
theorem rp_non' : Rp K H .non .non [] := by unfold Rp; exact ⟨rfl, rfl⟩
end
def opAppend : OpW := fun w as => match w, as with
  | .lst ws, [y] => if ws.length < LIM then some (.lst (ws ++ [y]), .non) else none
  | _, _ => none
theorem ok_append {K : PySem.W.Frag} : OpOk K rAppend opAppend := by
  intro H w v B as us A q r ra nd e
  unfold opAppend at e
  split at e
  · rename_i ws y
    split at e
    · rename_i hc
      cases e
      unfold Rp at r
      obtain ⟨l, vs, B0, rfl, hl, rfl, rs⟩ := r
      obtain ⟨x, A', rfl, rx⟩ := rps_one ra
      have ra' := ra
      obtain ⟨n1, n2, n3⟩ := List.nodup_append.mp nd
      have lB0 : l ∉ B0 := (List.nodup_cons.mp n1).1
      have lA : l ∉ A := fun z => n3 l (List.mem_cons_self ..) l z rfl
      refine ⟨l, _, .lst (vs ++ [x]), l :: (B0 ++ A), .non, [], rfl, hl, trivial, trivial, List.mem_cons_self .., (fun z => nomatch z), ?_, rp_non', ?_, fun a ha => ?_, fun Q hq => ⟨l, vs, x, rfl, rfl, hl, ?_, hq⟩⟩
      · unfold Rp
        exact ⟨l, vs ++ [x], B0 ++ A, rfl, upd_same, rfl, (rs.updo hl trivial lB0).append (ra.updo hl trivial lA)⟩
      · rw [List.append_nil]
        exact nd
      · rw [List.append_nil] at ha
        rcases List.mem_cons.mp ha with rfl | ha
        · exact .inl (List.mem_cons_self ..)
        · exact (List.mem_append.mp ha).elim (fun z => .inl (List.mem_cons_of_mem _ z)) .inr
      · rw [← rs.len]
        exact lim_lt (Nat.le_of_lt hc)
    · cases e
  · cases e
def opExtend : OpW := fun w as => match w, as with
  | .lst ws, [.lst ys] => if ws.length + ys.length ≤ LIM then some (.lst (ws ++ ys), .non) else none
  | _, _ => none
def opPop : OpW := fun w as => match w, as with
  | .lst ws, [] => if ws.length ≤ LIM then ws.getLast?.map fun x => (.lst ws.dropLast, x) else none
  | _, _ => none
theorem ok_pop {K : PySem.W.Frag} : OpOk K rPop opPop := by
  intro H w v B as us A q r ra nd e
  unfold opPop at e
  split at e
  · rename_i ws
    split at e
    · obtain ⟨y, hy, e⟩ := Option.map_eq_some_iff.mp e
      cases e
      unfold Rp at r
      obtain ⟨l, vs, B0, rfl, hl, rfl, rs⟩ := r
      unfold Rps at ra
      obtain ⟨rfl, rfl⟩ := ra
      rw [List.append_nil] at nd
      have lB0 : l ∉ B0 := (List.nodup_cons.mp nd).1
      have ews : ws = ws.dropLast ++ [y] := by
        obtain ⟨hn, h2⟩ := List.getLast?_eq_some_iff.mp hy
        rw [h2, List.dropLast_concat]
      rw [ews] at rs
      obtain ⟨v1, v2, B1, B2, rfl, rfl, r1, r2⟩ := rs.unappend
      obtain ⟨x, B3, rfl, rx⟩ := rps_one r2
      unfold Rps at r2
      obtain ⟨x', vr, A1, A2, e1, rfl, rx', rn⟩ := r2
      unfold Rps at rn
      obtain ⟨rfl, rfl⟩ := rn
      cases e1
      rw [List.append_nil] at nd lB0
      have lB1 : l ∉ B1 := fun z => lB0 (List.mem_append_left _ z)
      have lA1 : l ∉ A1 := fun z => lB0 (List.mem_append_right _ z)
      refine ⟨l, _, .lst v1, l :: B1, x, A1, rfl, hl, trivial, trivial, List.mem_cons_self .., lA1, ?_, rx'.updo hl trivial lA1, nd, fun a ha => .inl ?_, fun Q hq => ⟨l, v1 ++ [x], x, rfl, rfl, hl, by simp, ?_⟩⟩
      · unfold Rp
        exact ⟨l, v1, B1, rfl, upd_same, rfl, r1.updo hl trivial lB1⟩
      · rw [List.append_nil]
        exact ha
      · rw [List.dropLast_concat]
        exact hq
    · cases e
  · cases e
def opSet : OpW := fun w as => match w, as with
  | .lst ws, [.int k, y] => (ixN ws.length k).map fun j => (.lst (ws.set j y), .non)
  | _, _ => none
/-- o[i] = v as a method -/
def mSet (t : TSet) : V → List V → Hp → VK → Prop := fun o us H Q => match us with
  | [k, y] => t o k y H fun H' => Q .non H'
  | _ => False
theorem rps_two' {K : PySem.W.Frag} {H : Hp} {a b : W} {us : List V} {A : List Addr} (r : Rps K H [a, b] us A) : ∃ x y A1 A2, us = [x, y] ∧ A = A1 ++ A2 ∧ Rp K H a x A1 ∧ Rp K H b y A2 := by
  unfold Rps at r
  obtain ⟨x, vr, A1, A2, rfl, rfl, r1, r2⟩ := r
  unfold Rps at r2
  obtain ⟨y, vr2, A3, A4, rfl, rfl, r3, r4⟩ := r2
  unfold Rps at r4
  obtain ⟨rfl, rfl⟩ := r4
  exact ⟨x, y, A1, A3, rfl, by rw [List.append_nil], r1, r3⟩
theorem ok_set {K : PySem.W.Frag} : OpOk K (mSet rSetL) opSet := by
  intro H w v B as us A q r ra nd e
  unfold opSet at e
  split at e
  · rename_i ws k y
    obtain ⟨j, hj, e⟩ := Option.map_eq_some_iff.mp e
    cases e
    unfold Rp at r
    obtain ⟨l, vs, B0, rfl, hl, rfl, rs⟩ := r
    obtain ⟨x1, x2, A1, A2, rfl, rfl, r1, r2⟩ := rps_two' ra
    unfold Rp at r1
    obtain ⟨rfl, rfl⟩ := r1
    rw [List.nil_append] at nd ⊢
    obtain ⟨n1, n2, n3⟩ := List.nodup_append.mp nd
    have lB0 : l ∉ B0 := (List.nodup_cons.mp n1).1
    have lA : l ∉ A2 := fun z => n3 l (List.mem_cons_self ..) l z rfl
    have lt := (ixN_seq hj).2.1
    obtain ⟨u, B1, C, B2, e1, rfl, r3, back⟩ := rs.split (List.getElem?_eq_getElem lt)
    have nB := (List.nodup_cons.mp n1).2
    obtain ⟨m1, m2, m3⟩ := List.nodup_append.mp nB
    obtain ⟨m4, m5, m6⟩ := List.nodup_append.mp m1
    refine ⟨l, _, .lst (vs.set j x2), l :: (B1 ++ A2 ++ B2), .non, [], rfl, hl, trivial, trivial, List.mem_cons_self .., (fun z => nomatch z), ?_, rp_non', ?_, fun a ha => ?_, fun Q hq => ⟨l, vs, k, j, rfl, rfl, hl, by rw [← rs.len]; exact hj, hq⟩⟩
    · unfold Rp
      refine ⟨l, vs.set j x2, B1 ++ A2 ++ B2, rfl, upd_same, rfl, back _ _ _ _ (tk_upd hl trivial) (fun a ha u h => ?_) (r2.updo hl trivial lA)⟩
      rw [upd_ne (fun e => by
        subst e
        rcases List.mem_append.mp ha with z | z
        · exact lB0 (by simp [z])
        · exact lB0 (by simp [z]))]
      exact h
    · rw [List.append_nil]
      have dA : ∀ a ∈ A2, a ∉ l :: (B1 ++ C ++ B2) := fun a ha z => n3 a z a ha rfl
      refine List.nodup_cons.mpr ⟨fun z => ?_, List.nodup_append.mpr ⟨List.nodup_append.mpr ⟨m4, n2, fun a ha b hb e => ?_⟩, m2, fun a ha b hb e => ?_⟩⟩
      · rcases List.mem_append.mp z with z | z
        · rcases List.mem_append.mp z with z | z
          · exact lB0 (by simp [z])
          · exact lA z
        · exact lB0 (by simp [z])
      · subst e
        exact dA a hb (by simp [ha])
      · subst e
        rcases List.mem_append.mp ha with z | z
        · exact m3 a (List.mem_append_left _ z) a hb rfl
        · exact dA a z (by simp [hb])
    · rw [List.append_nil] at ha
      rcases List.mem_cons.mp ha with rfl | ha
      · exact .inl (List.mem_cons_self ..)
      · rcases List.mem_append.mp ha with ha | ha
        · rcases List.mem_append.mp ha with ha | ha
          · exact .inl (by simp [ha])
          · exact .inr ha
        · exact .inl (by simp [ha])
  · cases e
def dkPut (ks : List Key) (ws : List W) (k : Key) (w : W) : List Key × List W := match keyIx ks k with
  | some n => (ks, ws.set n w)
  | none => (ks ++ [k], ws ++ [w])
def opDPut : OpW := fun w as => match w, as with
  | .dk ks ws, [k, y] => if ks.length = ws.length ∧ ks.Nodup ∧ ks.length < LIM then k.key.map fun k => (.dk (dkPut ks ws k y).1 (dkPut ks ws k y).2, .non) else none
  | _, _ => none
def rDPut : V → List V → Hp → VK → Prop := fun o us H Q => match us with
  | [k, y] => ∃ a H', o = .ref a ∧ DPut H a k y H' ∧ Q .non H'
  | _ => False
theorem keyIx_none {ks : List Key} {k : Key} (h : keyIx ks k = none) : k ∉ ks := fun hk => by
  unfold keyIx at h
  have := List.findIdx?_eq_none_iff.mp h k hk
  simp at this
theorem keyIx_get {ks : List Key} {k : Key} {n : Nat} (h : keyIx ks k = some n) : ks[n]? = some k := by
  unfold keyIx at h
  obtain ⟨h1, h2, _⟩ := List.findIdx?_eq_some_iff_getElem.mp h
  rw [List.getElem?_eq_getElem h1]
  simp at h2
  rw [h2]
theorem putK_zip {ks : List Key} {vs : List V} {k : Key} {v : V} (hl : ks.length = vs.length) (nd : ks.Nodup) : putK (ks.zip vs) k v = match keyIx ks k with
    | some n => ks.zip (vs.set n v)
    | none => (ks ++ [k]).zip (vs ++ [v]) := by
  unfold putK
  cases c : keyIx ks k with
  | none =>
    have : (ks.zip vs).any (fun kv => decide (kv.1 = k)) = false := by
      rw [List.any_eq_false]
      intro kv h1 h2
      have := of_decide_eq_true h2
      exact keyIx_none c (this ▸ (List.of_mem_zip h1).1)
    rw [this]
    simp only [Bool.false_eq_true, if_false]
    rw [List.zip_append hl]
    rfl
  | some n =>
    have hk := keyIx_get c
    have hn : n < ks.length := keyIx_lt c
    have : (ks.zip vs).any (fun kv => decide (kv.1 = k)) = true := by
      refine List.any_eq_true.mpr ⟨(k, vs[n]'(by omega)), ?_, by simp⟩
      refine List.mem_iff_getElem.mpr ⟨n, by rw [List.length_zip]; omega, ?_⟩
      rw [List.getElem_zip]
      rw [List.getElem?_eq_getElem hn] at hk
      rw [Option.some.inj hk]
    rw [this, if_pos rfl]
    refine List.ext_getElem (by rw [List.length_map, List.length_zip, List.length_zip, List.length_set]) fun i h1 h2 => ?_
    rw [List.length_map, List.length_zip] at h1
    have hi : i < ks.length := by omega
    have hv : i < vs.length := by omega
    rw [List.getElem_map, List.getElem_zip, List.getElem_zip]
    rw [List.getElem?_eq_getElem hn] at hk
    by_cases e : ks[i] = k
    · rw [if_pos e]
      have : i = n := by
        have h3 : ks[i] = ks[n] := e.trans (Option.some.inj hk).symm
        exact (List.getElem_inj nd).mp h3
      subst this
      rw [List.getElem_set_self]
    · rw [if_neg e]
      have : n ≠ i := fun z => by subst z; exact e (Option.some.inj hk)
      rw [List.getElem_set_ne this]
theorem key_kV {K : PySem.W.Frag} {H : Hp} {w : W} {k : Key} {v : V} {A : List Addr} (h : w.key = some k) (r : Rp K H w v A) : v = kV k ∧ A = [] := by
  refine ⟨key_rel h r, Rp.imm w v A ?_ r⟩
  unfold W.key at h
  split at h
  · rfl
  · rfl
  · cases h
theorem ok_dput {K : PySem.W.Frag} : OpOk K rDPut opDPut := by
  intro H w v B as us A q r ra nd e
  unfold opDPut at e
  split at e
  · rename_i ks ws k0 y
    split at e
    · rename_i hc
      obtain ⟨k, hk, e⟩ := Option.map_eq_some_iff.mp e
      cases e
      unfold Rp at r
      obtain ⟨l, vs, B0, rfl, hl, ln, rfl, rs⟩ := r
      obtain ⟨x1, x2, A1, A2, rfl, rfl, r1, r2⟩ := rps_two' ra
      obtain ⟨rfl, rfl⟩ := key_kV hk r1
      rw [List.nil_append] at nd ⊢
      obtain ⟨n1, n2, n3⟩ := List.nodup_append.mp nd
      have lB0 : l ∉ B0 := (List.nodup_cons.mp n1).1
      have lA : l ∉ A2 := fun z => n3 l (List.mem_cons_self ..) l z rfl
      have pz := putK_zip (v := x2) (k := k) ln hc.2.1
      have zl : (ks.zip vs).length < sizeLine := by
        rw [List.length_zip, ← ln, Nat.min_self]
        exact lim_lt (Nat.le_of_lt hc.2.2)
      have go : ∀ Q : VK, Q .non (upd H l (.dK (putK (ks.zip vs) k x2))) → rDPut (.ref l) [kV k, x2] H Q := fun Q hq => ⟨l, _, rfl, DPut.k hl zl, hq⟩
      have nB := (List.nodup_cons.mp n1).2
      unfold dkPut
      cases c : keyIx ks k with
      | some n =>
        rw [c] at pz
        have pz : putK (ks.zip vs) k x2 = ks.zip (vs.set n x2) := pz
        rw [pz] at go
        have hn : n < ws.length := by rw [rs.len, ← ln]; exact keyIx_lt c
        obtain ⟨u, B1, C, B2, e1, rfl, r3, back⟩ := rs.split (List.getElem?_eq_getElem hn)
        obtain ⟨m1, m2, m3⟩ := List.nodup_append.mp nB
        obtain ⟨m4, m5, m6⟩ := List.nodup_append.mp m1
        refine ⟨l, _, .dK (ks.zip (vs.set n x2)), l :: (B1 ++ A2 ++ B2), .non, [], rfl, hl, trivial, trivial, List.mem_cons_self .., (fun z => nomatch z), ?_, rp_non', ?_, fun a ha => ?_, go⟩
        · show Rp K _ (.dk ks (ws.set n y)) _ _
          unfold Rp
          refine ⟨l, vs.set n x2, B1 ++ A2 ++ B2, rfl, upd_same, by rw [List.length_set]; exact ln, rfl, back _ _ _ _ (tk_upd hl trivial) (fun a ha u h => ?_) (r2.updo hl trivial lA)⟩
          rw [upd_ne (fun e => by
            subst e
            rcases List.mem_append.mp ha with z | z
            · exact lB0 (by simp [z])
            · exact lB0 (by simp [z]))]
          exact h
        · rw [List.append_nil]
          have dA : ∀ a ∈ A2, a ∉ l :: (B1 ++ C ++ B2) := fun a ha z => n3 a z a ha rfl
          refine List.nodup_cons.mpr ⟨fun z => ?_, List.nodup_append.mpr ⟨List.nodup_append.mpr ⟨m4, n2, fun a ha b hb e => ?_⟩, m2, fun a ha b hb e => ?_⟩⟩
          · rcases List.mem_append.mp z with z | z
            · rcases List.mem_append.mp z with z | z
              · exact lB0 (by simp [z])
              · exact lA z
            · exact lB0 (by simp [z])
          · subst e
            exact dA a hb (by simp [ha])
          · subst e
            rcases List.mem_append.mp ha with z | z
            · exact m3 a (List.mem_append_left _ z) a hb rfl
            · exact dA a z (by simp [hb])
        · rw [List.append_nil] at ha
          rcases List.mem_cons.mp ha with rfl | ha
          · exact .inl (List.mem_cons_self ..)
          · rcases List.mem_append.mp ha with ha | ha
            · rcases List.mem_append.mp ha with ha | ha
              · exact .inl (by simp [ha])
              · exact .inr ha
            · exact .inl (by simp [ha])
      | none =>
        rw [c] at pz
        have pz : putK (ks.zip vs) k x2 = (ks ++ [k]).zip (vs ++ [x2]) := pz
        rw [pz] at go
        refine ⟨l, _, .dK ((ks ++ [k]).zip (vs ++ [x2])), l :: (B0 ++ A2), .non, [], rfl, hl, trivial, trivial, List.mem_cons_self .., (fun z => nomatch z), ?_, rp_non', ?_, fun a ha => ?_, go⟩
        · show Rp K _ (.dk (ks ++ [k]) (ws ++ [y])) _ _
          unfold Rp
          exact ⟨l, vs ++ [x2], B0 ++ A2, rfl, upd_same, by rw [List.length_append, List.length_append, ln]; rfl, rfl, (rs.updo hl trivial lB0).append (Rps.one (r2.updo hl trivial lA))⟩
        · rw [List.append_nil]
          exact nd
        · rw [List.append_nil] at ha
          rcases List.mem_cons.mp ha with rfl | ha
          · exact .inl (List.mem_cons_self ..)
          · exact (List.mem_append.mp ha).elim (fun z => .inl (List.mem_cons_of_mem _ z)) .inr
    · cases e
  · cases e
/-- the value, the object, the index -/
def tSetAt (r : V → List V → Hp → VK → Prop) (te to ti : TE) : TE := fun σ H Q => te σ H fun x H1 => to σ H1 fun o H2 => ti σ H2 fun k H3 => r o [k, x] H3 Q
def dSetAt (i : Nat) (π : DenP) (op : OpW) (f fi : Den) : Den := fun M δ => if M i = true then (f (but M i) δ).bind fun r => (π (but M i) r.2.2).bind fun p => (fi (but M i) p.2).bind fun k => if r.2.1 = true ∧ k.1.imm = true then match k.2.2[i]? with
    | some (some w0) => (w0.at p.1).bind fun w => (op w [k.1, r.1]).map fun q => (q.2, true, k.2.2.set i (some (w0.put p.1 q.1)))
    | _ => none
    else none
  else none
theorem sd_set_at {K : PySem.W.Frag} {r : V → List V → Hp → VK → Prop} {op : OpW} {i : Nat} {te to ti : TE} {π : DenP} {f fi : Den} (ok : OpOk K r op) (he : Sd K te f) (hp : Spt K to i π) (hi : Sd K ti fi) : Sd K (tSetAt r te to ti) (dSetAt i π op f fi) := by
  have inv : ∀ {M δ r}, dSetAt i π op f fi M δ = some r → M i = true ∧ ∃ r1 p k w0 w q, f (but M i) δ = some r1 ∧ π (but M i) r1.2.2 = some p ∧ fi (but M i) p.2 = some k ∧ r1.2.1 = true ∧ k.1.imm = true ∧ k.2.2[i]? = some (some w0) ∧ w0.at p.1 = some w ∧ op w [k.1, r1.1] = some q ∧ r = (q.2, true, k.2.2.set i (some (w0.put p.1 q.1))) := fun {M δ r} e => by
    unfold dSetAt at e
    split at e
    · rename_i hm
      obtain ⟨r1, h1, e⟩ := Option.bind_eq_some_iff.mp e
      obtain ⟨p, h2, e⟩ := Option.bind_eq_some_iff.mp e
      obtain ⟨k, h3, e⟩ := Option.bind_eq_some_iff.mp e
      split at e
      · rename_i hf
        split at e
        · rename_i w0 hw
          obtain ⟨w, h4, e⟩ := Option.bind_eq_some_iff.mp e
          obtain ⟨q, h5, e⟩ := Option.map_eq_some_iff.mp e
          exact ⟨hm, r1, p, k, w0, w, q, h1, h2, h3, hf.1, hf.2, hw, h4, h5, e.symm⟩
        · cases e
      · cases e
    · cases e
  refine ⟨fun {M δ r} e => ?_, fun {M G H φ σ δ r'} s e Q P => ?_⟩
  · obtain ⟨hm, r1, p, k, w0, w, q, h1, h2, h3, _, _, _, _, _, rfl⟩ := inv e
    exact (off_up but_sub ((he.off h1).trans ((hp.off h2).trans (hi.off h3)))).trans (off_set hm)
  · obtain ⟨hm, r1, p, k, w0, w, q, h1, h2, h3, hf, im, hw, h4, h5, rfl⟩ := inv e
    obtain ⟨G0, s0, x, y, z⟩ := s.split (ms := but M i) but_sub
    refine he.run s0 h1 _ fun xv G1 H1 φ1 A1 s1 e1 q1 f1 => ?_
    refine hp.run s1 but_self h2 _ fun v0 v G2 H2 φ2 s2 e2 hv0 a1 => ?_
    refine hi.run s2 h3 _ fun kv G3 H3 φ3 A3 s3 e3 q3 _ => ?_
    have oo := (he.off h1).trans ((hp.off h2).trans (hi.off h3))
    obtain ⟨G4, φ4, s4, e4, lift⟩ := s.join but_sub s0 x y z s3 (e1.trans (e2.trans e3)) oo
    have eA := Rp.imm _ _ _ im q3
    rw [eA] at q3
    have f1' := f1 hf
    have rr : Rps K G3 [k.1, r1.1] [kv, xv] A1 := by
      have := Rps.cons q3 (Rps.one (q1.mono (e2.ex.trans e3.ex)))
      rwa [List.nil_append] at this
    have ff : Fresh G0 G3 A1 := f1'.mono (e2.ex.trans e3.ex) fun a ha => mut_some (f1'.2 a ha).2
    obtain ⟨ra, fa⟩ := rps_lift lift _ _ _ rr ff
    exact s.writeAt ok hm s4 e4 (off_up but_sub oo) ra fa hw hv0 h4 (a1.ex (e3.ex.trans s3.sub)) h5 Q fun x G4 H4 φ4 C s4 e4 r4 f4 => P x G4 H4 φ4 C s4 e4 r4 fun _ => f4
section
variable {K : PySem.W.Frag} {P L l ms : List Nat}
theorem ss_setL {i : Nat} {te to ti : TE} {π : DenP} {f fi : Den} (he : Sd K te f) (hp : Spt K to i π) (hi : Sd K ti fi) (hs : sub ms l = true := by rfl) : Ss K P L l l (tAsg te (gSub to ti rSetL)) (sDrop ms (dSetAt i π opSet f fi)) :=
  ss_drop (te := tSetAt (mSet rSetL) te to ti) (sd_set_at ok_set he hp hi) hs
theorem ss_setD {i : Nat} {te to ti : TE} {π : DenP} {f fi : Den} (he : Sd K te f) (hp : Spt K to i π) (hi : Sd K ti fi) (hs : sub ms l = true := by rfl) : Ss K P L l l (sDPut to ti te) (sDrop ms (dSetAt i π opDPut f fi)) := by
  have h := ss_drop (P := P) (L := L) (te := tSetAt rDPut te to ti) (sd_set_at ok_dput he hp hi) hs
  refine ⟨fun {G H φ σ δ r} s e D p => ?_⟩
  have := h.run s e D p
  exact this
theorem ty_lst {op : OpW} (h : ∀ w as q, op w as = some q → ∃ ws, w = .lst ws) : ∀ {H : Hp} {w : W} {v : V} {B : List Addr} {as : List W} {q : W × W}, Rp K H w v B → op w as = some q → tyV K "list" v H := fun {H w v B as q} r e => by
  obtain ⟨ws, rfl⟩ := h _ _ _ e
  unfold Rp at r
  obtain ⟨l, vs, B0, rfl, hl, _, _⟩ := r
  exact .inl ⟨rfl, vs, SqL.of hl⟩
theorem op_lst (w : W) (as : List W) (q : W × W) : (opAppend w as = some q → ∃ ws, w = .lst ws) ∧ (opExtend w as = some q → ∃ ws, w = .lst ws) ∧ (opPop w as = some q → ∃ ws, w = .lst ws) := by
  refine ⟨fun h => ?_, fun h => ?_, fun h => ?_⟩
  · unfold opAppend at h
    split at h
    · exact ⟨_, rfl⟩
    · cases h
  · unfold opExtend at h
    split at h
    · exact ⟨_, rfl⟩
    · cases h
  · unfold opPop at h
    split at h
    · exact ⟨_, rfl⟩
    · cases h
theorem sd_append {i : Nat} {to : TE} {π : DenP} {t : TA} {g : DenA} (hp : Spt K to i π) (ha : Sa K t g) : Sd K (tBM K "list" rAppend to t) (dOpAt i π opAppend g) := sd_op_at ok_append (ty_lst fun w as q h => (op_lst w as q).1 h) hp ha
theorem sd_pop {i : Nat} {to : TE} {π : DenP} (hp : Spt K to i π) : Sd K (tBM0 K "list" rPop to) (dOpAt i π opPop aNil) := sd_op_at (t := tNil) ok_pop (ty_lst fun w as q h => (op_lst w as q).2.2 h) hp sa_nil
end
def dDGet (f fi : Den) : Den := fun M δ => (f M δ).bind fun r => (fi M r.2.2).bind fun k => match r.1 with
  | .dk ks ws => k.1.key.bind fun y => (keyIx ks y).bind fun n => (ws[n]?).map fun w => (w, w.imm, k.2.2)
  | _ => none
def dDIn (neg : Bool) (fi f : Den) : Den := fun M δ => (fi M δ).bind fun k => (f M k.2.2).bind fun r => match r.1 with
  | .dk ks ws => k.1.key.map fun y => (.bl (xor neg (keyIx ks y).isSome), true, r.2.2)
  | _ => none
section
variable {K : PySem.W.Frag}
theorem sd_dget {t ti : TE} {f fi : Den} (h : Sd K t f) (hi : Sd K ti fi) : Sd K (tDGet t ti) (dDGet f fi) := by
  have inv : ∀ {M δ r}, dDGet f fi M δ = some r → ∃ r1 k ks ws y n w, f M δ = some r1 ∧ fi M r1.2.2 = some k ∧ r1.1 = .dk ks ws ∧ k.1.key = some y ∧ keyIx ks y = some n ∧ ws[n]? = some w ∧ r = (w, w.imm, k.2.2) := fun {M δ r} e => by
    unfold dDGet at e
    obtain ⟨r1, h1, e⟩ := Option.bind_eq_some_iff.mp e
    obtain ⟨k, h2, e⟩ := Option.bind_eq_some_iff.mp e
    split at e
    · rename_i ks ws hw
      obtain ⟨y, h3, e⟩ := Option.bind_eq_some_iff.mp e
      obtain ⟨n, h4, e⟩ := Option.bind_eq_some_iff.mp e
      obtain ⟨w, h5, e⟩ := Option.map_eq_some_iff.mp e
      exact ⟨r1, k, ks, ws, y, n, w, h1, h2, hw, h3, h4, h5, e.symm⟩
    · cases e
  refine ⟨fun {M δ r} e => ?_, fun {M G H φ σ δ r'} s e Q P => ?_⟩
  · obtain ⟨r1, k, ks, ws, y, n, w, h1, h2, _, _, _, _, rfl⟩ := inv e
    have o2 := hi.off h2
    exact (h.off h1).trans o2
  · obtain ⟨r1, k, ks, ws, y, n, w, h1, h2, hw, h3, h4, h5, rfl⟩ := inv e
    refine h.run s h1 _ fun v G1 H1 φ1 A1 s1 e1 q1 _ => ?_
    refine hi.run s1 h2 _ fun kv G2 H2 φ2 A2 s2 e2 q2 _ => ?_
    rw [hw] at q1
    have q1 := q1.mono e2.ex
    unfold Rp at q1
    obtain ⟨a, vs, B, rfl, ha, ln, _, rs⟩ := q1
    obtain ⟨x, C, hx, rx, _⟩ := rs.get h5
    obtain rfl := key_rel h3 q2
    refine ⟨a, x, rfl, .inl ⟨_, y, .inl (s2.sub _ _ ha), rfl, (valV_ix ln h4 hx).symm⟩, P x G2 H2 φ2 C s2 (e1.trans e2) rx fun im => ?_⟩
    rw [Rp.imm w x C im rx]
    exact Fresh.nil
/-- {} -/
def dDNew : Den := fun _ δ => some (.dk [] [], true, δ)
end
end Dv
set_option Elab.async false
set_option linter.all false
set_option maxRecDepth 100000
set_option maxHeartbeats 4000000
namespace DvR
open PySem PySem.Spec PyProof.Rows L2
end DvR
namespace Dv
open PySem PySem.Spec PyProof.Rows L2 DvR DvF
abbrev DenPs := Own → Env → Option (List Key × List W × Bool × Env)
def psNil : DenPs := fun _ δ => some ([], [], true, δ)
def psCons (k : Key) (f : Den) (g : DenPs) : DenPs := fun M δ => (f M δ).bind fun r => (g M r.2.2).map fun q => (k :: q.1, r.1 :: q.2.1, r.2.1 && q.2.2.1, q.2.2.2)
structure Spp (K : PySem.W.Frag) (trs : List (TE × TE)) (g : DenPs) : Prop where
  off : ∀ {M δ r}, g M δ = some r → Off M δ r.2.2.2
  run : ∀ {M G H φ σ δ r}, Sta K M G H φ σ δ → g M δ = some r → ∀ Q : List (V × V) → Hp → Prop, (∀ vs G' H' φ' A, Sta K M G' H' φ' σ r.2.2.2 → Evo M G H φ M G' H' φ' → Rps K G' r.2.1 vs A → r.1.length = vs.length → (r.2.2.1 = true → Fresh G G' A) → Q ((r.1.map kV).zip vs) H') → tPairs trs σ H Q
section
variable {K : PySem.W.Frag}
theorem spp_nil : Spp K [] psNil := ⟨fun {M δ r} e => by unfold psNil at e; cases e; exact Off.refl, fun {M G H φ σ δ r} s e Q P => by
  unfold psNil at e
  cases e
  exact P [] G H φ [] s Evo.refl Rps.nil rfl fun _ => Fresh.nil⟩
theorem spp_cons {k : Key} {t : TE} {f : Den} {trs : List (TE × TE)} {g : DenPs} (h : Sd K t f) (hs : Spp K trs g) : Spp K ((tC (kV k), t) :: trs) (psCons k f g) := by
  refine ⟨fun {M δ r} e => ?_, fun {M G H φ σ δ r} s e Q P => ?_⟩
  · unfold psCons at e
    obtain ⟨r1, h1, e⟩ := Option.bind_eq_some_iff.mp e
    obtain ⟨q, h2, e⟩ := Option.map_eq_some_iff.mp e
    have o1 := h.off h1
    have o2 := hs.off h2
    cases e
    exact o1.trans o2
  · unfold psCons at e
    obtain ⟨r1, h1, e⟩ := Option.bind_eq_some_iff.mp e
    obtain ⟨q, h2, e⟩ := Option.map_eq_some_iff.mp e
    subst e
    show t σ H _
    refine h.run s h1 _ fun v G1 H1 φ1 A1 s1 e1 q1 f1 => ?_
    refine hs.run s1 h2 _ fun vs G2 H2 φ2 A2 s2 e2 q2 l2 f2 => ?_
    refine P (v :: vs) G2 H2 φ2 (A1 ++ A2) s2 (e1.trans e2) (Rps.cons (q1.mono e2.ex) q2) (by show (k :: q.1).length = _; rw [List.length_cons, List.length_cons, l2]) fun hf => ?_
    obtain ⟨b1, b2⟩ := Bool.and_eq_true_iff.mp hf
    exact Fresh.append e1.ex e2.ex (f1 b1) (fun a ha => mut_some ((f1 b1).2 a ha).2) (f2 b2)
def dDisp (g : DenPs) : Den := fun M δ => (g M δ).bind fun r => if r.1.length ≤ 15 ∧ r.1.Nodup then some (.dk r.1 r.2.1, r.2.2.1, r.2.2.2) else none
theorem zip_kV : ∀ {ks : List Key} {vs : List V}, (ks.map kV).zip vs = (ks.zip vs).map fun kv => (kV kv.1, kv.2)
  | [], vs => by simp
  | k :: ks, [] => by simp
  | k :: ks, v :: vs => by
    rw [List.map_cons, List.zip_cons_cons, List.zip_cons_cons, List.map_cons, zip_kV]
theorem merge_nil : ∀ {ks2 ks : List Key} {vs2 vs : List V}, ks.length = vs.length → ks2.length = vs2.length → (ks ++ ks2).Nodup → mergeK (ks.zip vs) (ks2.zip vs2) = (ks ++ ks2).zip (vs ++ vs2)
  | [], ks, vs2, vs, h, h2, nd => by
    have : vs2 = [] := List.eq_nil_of_length_eq_zero h2.symm
    subst this
    simp [mergeK]
  | k :: ks2, ks, [], vs, h, h2, nd => nomatch h2
  | k :: ks2, ks, v :: vs2, vs, h, h2, nd => by
    obtain ⟨n1, n2, n3⟩ := List.nodup_append.mp nd
    have c : keyIx ks k = none := by
      cases c : keyIx ks k with
      | none => rfl
      | some n => exact absurd rfl (n3 k (List.mem_of_getElem? (keyIx_get c)) k (List.mem_cons_self ..))
    have pz := putK_zip (v := v) (k := k) h n1
    rw [c] at pz
    have pz : putK (ks.zip vs) k v = (ks ++ [k]).zip (vs ++ [v]) := pz
    show mergeK (putK (ks.zip vs) k v) (ks2.zip vs2) = _
    rw [pz, merge_nil (by rw [List.length_append, List.length_append, h]; rfl) (Nat.succ.inj h2) (by rw [List.append_assoc]; exact nd)]
    simp
theorem sd_disp {trs : List (TE × TE)} {g : DenPs} (h : Spp K trs g) : Sd K (tDisp trs) (dDisp g) := by
  refine ⟨fun {M δ r} e => ?_, fun {M G H φ σ δ r} s e Q P p hp => ?_⟩
  · unfold dDisp at e
    obtain ⟨r1, h1, e⟩ := Option.bind_eq_some_iff.mp e
    have o1 := h.off h1
    split at e
    · cases e; exact o1
    · cases e
  · unfold dDisp at e
    obtain ⟨r1, h1, e⟩ := Option.bind_eq_some_iff.mp e
    split at e
    · rename_i hc
      cases e
      have nD : ∀ i, M i = true → p ∉ φ i := fun i hi ha => by
        obtain ⟨o, z⟩ := mut_some (s.mt i hi p ha)
        rw [hp] at z
        cases z
      have s0 : Sta K M G (upd H p (.dK [])) φ σ δ := by
        refine ⟨s.sub.trans (Ex.new hp), s.sep, fun i hi a ha => ?_, s.nd, s.dis, fun i w hi e => ?_, s.non, s.len, fun a u h n => ?_, s.tb.newH hp⟩
        · rw [upd_ne (fun e => by subst e; exact nD i hi ha)]
          exact s.mt i hi a ha
        · obtain ⟨v, e1, r⟩ := s.own i w hi e
          exact ⟨v, e1, r.mono (Ex.new hp)⟩
        · by_cases c : a = p
          · subst c
            rw [upd_same] at h
            cases h
            exact absurd trivial n
          · rw [upd_ne c] at h
            exact s.tup a u h n
      refine h.run s0 h1 _ fun vs G1 H1 φ1 A1 s1 e1 q1 l1 f1 => ?_
      have gp : G p = none := s.sub.back hp
      have h1p : H1 p = some (.dK []) := e1.keep p _ upd_same (fun _ z => nomatch z) nD
      have g1p : G1 p = none := by
        cases c : G1 p with
        | none => rfl
        | some o =>
          rcases e1.new p o gp c with z | ⟨j, hj, z⟩
          · rw [upd_same] at z; cases z
          · exact absurd z (nD j hj)
      have nD1 : ∀ i, M i = true → p ∉ φ1 i := fun i hi ha => by
        rcases e1.nown i hi p ha with z | ⟨j, hj, z⟩
        · rw [upd_same] at z; cases z
        · exact nD j hj z
      refine ⟨h1p, r1.1.zip vs, zip_kV, by rw [List.length_zip]; omega, ?_⟩
      have mz := merge_nil (ks := []) (vs := []) rfl l1 (by simpa using hc.2)
      have mz : mergeK [] (r1.1.zip vs) = r1.1.zip vs := mz
      rw [mz]
      have s2 := (s1.hidden (o' := .dK (r1.1.zip vs)) h1p trivial g1p nD1 trivial).shown (o := .dK (r1.1.zip vs)) upd_same g1p nD1
      have e1' : Evo M G H φ M G1 H1 φ1 := ⟨e1.ex, fun a o h nt n => e1.keep a o (Ex.new hp a o h) nt n, fun a ps h => e1.tbl a ps (Ex.new hp a _ h), fun a o h h' => by
        rcases e1.new a o h h' with z | z
        · exact .inl (Ex.back (Ex.new hp) z)
        · exact .inr z, fun i hi a ha => by
        rcases e1.nown i hi a ha with z | z
        · exact .inl (Ex.back (Ex.new hp) z)
        · exact .inr z⟩
      refine P (.ref p) _ _ φ1 (p :: A1) s2 ((e1'.hid hp).shown hp g1p) ?_ fun hf => ?_
      · unfold Rp
        exact ⟨p, vs, A1, rfl, upd_same, l1, rfl, q1.mono (Ex.new g1p)⟩
      · have fa := f1 hf
        have nA : p ∉ A1 := fun z => by
          obtain ⟨o, z⟩ := mut_some (fa.2 p z).2
          rw [g1p] at z
          cases z
        refine ⟨List.nodup_cons.mpr ⟨nA, fa.1⟩, fun a ha => ?_⟩
        rcases List.mem_cons.mp ha with rfl | ha
        · exact ⟨gp, by rw [upd_same]; trivial⟩
        · exact (fa.mono (Ex.new g1p) fun a ha => mut_some (fa.2 a ha).2).2 a ha
    · cases e
def dRev (f : Den) : Den := fun M δ => (f M δ).bind fun r => match r.1 with
  | .lst ws => if ws.length ≤ LIM then some (.lst ws.reverse, W.imms ws, r.2.2) else none
  | .fl ws => if ws.length ≤ LIM then some (.lst ws.reverse, W.imms ws, r.2.2) else none
  | _ => none
theorem Rps.rev {G : Hp} : ∀ {ws : List W} {vs : List V} {A : List Addr}, Rps K G ws vs A → ∃ B, Rps K G ws.reverse vs.reverse B
  | [], vs, A, r => by
    unfold Rps at r
    obtain ⟨rfl, rfl⟩ := r
    exact ⟨[], Rps.nil⟩
  | w :: ws, vs, A, r => by
    unfold Rps at r
    obtain ⟨v, vr, B, C, rfl, rfl, h1, h2⟩ := r
    obtain ⟨D, h3⟩ := h2.rev
    rw [List.reverse_cons, List.reverse_cons]
    exact ⟨D ++ B, h3.append (Rps.one h1)⟩
theorem imms_rev {ws : List W} : W.imms ws = true → W.imms ws.reverse = true := by
  have key : ∀ xs : List W, W.imms xs = true ↔ ∀ x ∈ xs, x.imm = true := fun xs => by
    induction xs with
    | nil => unfold W.imms; simp
    | cons x xs ih => unfold W.imms; rw [Bool.and_eq_true_iff, ih, List.forall_mem_cons]
  rw [key, key]
  intro h x hx
  exact h x (List.mem_reverse.mp hx)
theorem sd_rev {t : TE} {f : Den} (h : Sd K t f) : Sd K (tRevL K t) (dRev f) := by
  have core : ∀ {M G H φ σ δ' ws vs a A} {Q : VK}, Sta K M G H φ σ δ' → SqL K H a vs → Rps K G ws vs A → (∀ v G' H' φ' A, Sta K M G' H' φ' σ δ' → Evo M G H φ M G' H' φ' → Rp K G' (.lst ws.reverse) v A → (W.imms ws = true → Fresh G G' A) → Q v H') →
      ∃ a' xs, V.ref a = .ref a' ∧ SqL K H a' xs ∧ ∀ p, H p = none → Q (.ref p) (upd H p (.lst xs.reverse)) := fun {M G H φ σ δ' ws vs a A Q} s hq r P => by
    refine ⟨a, vs, rfl, hq, fun p hp => ?_⟩
    obtain ⟨B, rb⟩ := r.rev
    have gp := s.sub.back hp
    refine P (.ref p) _ _ φ (p :: B) (s.laid hp) (Evo.laid s.sub hp) ?_ fun im => ?_
    · unfold Rp
      exact ⟨p, vs.reverse, B, rfl, upd_same, rfl, rb.mono (Ex.new gp)⟩
    · have : B = [] := Rps.imm _ _ _ (imms_rev im) rb
      subst this
      refine ⟨by simp, fun b hb => ?_⟩
      obtain rfl : b = p := by simpa using hb
      exact ⟨gp, by rw [upd_same]; trivial⟩
  refine ⟨fun {M δ r} e => ?_, fun {M G H φ σ δ r} s e Q P => ?_⟩
  · unfold dRev at e
    obtain ⟨r1, h1, e⟩ := Option.bind_eq_some_iff.mp e
    have o1 := h.off h1
    split at e
    · split at e
      · cases e; exact o1
      · cases e
    · split at e
      · cases e; exact o1
      · cases e
    · cases e
  · unfold dRev at e
    obtain ⟨r1, h1, e⟩ := Option.bind_eq_some_iff.mp e
    refine h.run s h1 _ fun v G1 H1 φ1 A1 s1 e1 q1 _ => ?_
    split at e
    · rename_i ws ew
      split at e
      · cases e
        rw [ew] at q1
        unfold Rp at q1
        obtain ⟨a, vs, B, rfl, ha, _, rs⟩ := q1
        exact core s1 (SqL.of (s1.sub _ _ ha)) rs fun v G' H' φ' A s' e' r' f' => P v G' H' φ' A s' (e1.trans e') r' fun q => (f' q).back e1.ex
      · cases e
    · rename_i ws ew
      split at e
      · cases e
        rw [ew] at q1
        unfold Rp at q1
        obtain ⟨a, vs, rfl, ha, rs⟩ := q1
        exact core s1 ((TupK.ex s1.sub).2 _ _ ha).sq rs fun v G' H' φ' A s' e' r' f' => P v G' H' φ' A s' (e1.trans e') r' fun q => (f' q).back e1.ex
      · cases e
    · cases e
end
end Dv
set_option Elab.async false
set_option linter.all false
set_option maxRecDepth 100000
set_option maxHeartbeats 4000000
namespace Dv
open PySem PySem.Spec PyProof.Rows L2 DvR DvF
def bodyM (n k : Nat) (b : DenS) : FnM := fun w0 ws => if ws.length = k then (b (start0 n (w0 :: ws))).bind fun r => match r with
  | .nx δ => match δ[0]? with
    | some (some w) => some (.non, true, w)
    | _ => none
  | .rt w fr δ => match δ[0]? with
    | some (some w') => some (w, fr, w')
    | _ => none
  | _ => none
  else none
theorem bodyM_len {n k : Nat} {b : DenS} {w : W} {ws : List W} {r : W × Bool × W} (h : bodyM n k b w ws = some r) : ws.length = k := by
  unfold bodyM at h
  split at h
  · rename_i c; exact c
  · cases h
theorem own0 {i : Nat} : own [0] i = true ↔ i = 0 := by
  unfold own
  rw [List.contains_iff_mem]
  simp
section
variable {K : PySem.W.Frag}
theorem start_get {N : List Str} {vs : List V} {ws : List W} {i : Nat} {w : W} {G : Hp} {A : List Addr} (r : Rps K G ws vs A) (e : (start0 N.length ws)[i]? = some (some w)) : ws[i]? = some w ∧ ∃ v, vs[i]? = some v ∧ (L2.start N vs)[i]? = some (some v) := by
  unfold start0 at e
  by_cases c : i < ws.length
  · rw [List.getElem?_append_left (by rw [List.length_map]; exact c), List.getElem?_map] at e
    obtain ⟨y, h1, h2⟩ := Option.map_eq_some_iff.mp e
    cases h2
    obtain ⟨v, B, e2, r2, _⟩ := r.get h1
    refine ⟨h1, v, e2, ?_⟩
    unfold L2.start
    rw [List.getElem?_append_left (by rw [List.length_map, ← r.len]; exact c), List.getElem?_map, e2]
    rfl
  · rw [List.getElem?_append_right (by rw [List.length_map]; omega)] at e
    have := List.mem_of_getElem? e
    have := List.eq_of_mem_replicate this
    cases this
theorem body_m {N : List Str} {k : Nat} {t : TS} {b : DenS} {L : List Nat} {vs : List V} {H : Hp} {Q : VK} {E : XK} (hb : Ss K [0] L [0] [0] t b) (h : spM K k (bodyM N.length k b) vs H Q E) : t { nx := fun _ H' => Q .non H', rt := Q } (L2.start N vs) H := by
  obtain ⟨hl, v0, vr, G, B, w0, ws, A, r, rfl, vw, r0, nd, hB, hT, rp, e, q⟩ := h
  unfold bodyM at e
  split at e
  · obtain ⟨r1, e1, e⟩ := Option.bind_eq_some_iff.mp e
    have tk : TupK K G H := TupK.ex vw.sub
    have rH : Rps K H (w0 :: ws) (v0 :: vr) (B ++ A) := Rps.cons r0 (rp.mono vw.sub)
    have st : Sta K (own [0]) G H (fun i => if i = 0 then B else []) (L2.start N (v0 :: vr)) (start0 N.length (w0 :: ws)) := by
      refine ⟨vw.sub, fun i hi a ha => ?_, fun i hi a ha => ?_, fun i hi => ?_, fun i j hi hj n => ?_, fun i w hi e => ?_, fun i w hi e => ?_, ?_, vw.tup, fun p hp => ⟨(vw.tb p hp).1, fun i hi hz => by
        obtain rfl := own0.mp hi
        exact hT p hp hz, (vw.tb p hp).2⟩⟩
      · obtain rfl := own0.mp hi
        exact (hB a ha).1
      · obtain rfl := own0.mp hi
        exact (hB a ha).2
      · obtain rfl := own0.mp hi
        exact nd
      · exact absurd ((own0.mp hi).trans (own0.mp hj).symm) n
      · obtain rfl := own0.mp hi
        obtain ⟨h1, v, h2, h3⟩ := start_get rH e
        cases h1
        cases h2
        exact ⟨v0, h3, r0⟩
      · obtain ⟨h1, v, h2, h3⟩ := start_get rH e
        cases i with
        | zero => rw [own0.mpr rfl] at hi; cases hi
        | succ i =>
          obtain ⟨v', C, e2, r2, _⟩ := rp.get (i := i) (w := w) (by simpa using h1)
          have : v' = v := by
            have h2 : vr[i]? = some v := by simpa using h2
            rw [e2] at h2
            exact Option.some.inj h2
          subst this
          exact ⟨v', C, h3, r2⟩
      · unfold L2.start start0
        rw [List.length_append, List.length_append, List.length_map, List.length_map, List.length_replicate, List.length_replicate, rH.len]
    have h0 : (L2.start N (v0 :: vr))[0]? = some (some v0) := by
      unfold L2.start
      rfl
    have gr : ∀ {G' H' φ' σ' δ' w' w fr v A'}, Sta K (own [0]) G' H' φ' σ' δ' → Evo (own [0]) G H (fun i => if i = 0 then B else []) (own [0]) G' H' φ' → Kp [0] (L2.start N (v0 :: vr)) σ' → δ'[0]? = some (some w') → r = (w, fr, w') → Rp K G' w v A' → (fr = true → Fresh G G' A') → Q v H' := fun {G' H' φ' σ' δ' w' w fr v A'} s' ev kp hw er rv fv => by
      subst er
      obtain ⟨v1, e1, r1⟩ := s'.own 0 w' (own0.mpr rfl) hw
      rw [kp 0 (own0.mpr rfl), h0] at e1
      cases e1
      refine q v G' H' (φ' 0) A' ev.ex s'.vw (fun a o h nt n => ev.keep a o h nt fun i hi => ?_) ev.tbl (fun a o h h' => ?_) (s'.nd 0 (own0.mpr rfl)) (fun a ha => ⟨s'.sep 0 (own0.mpr rfl) a ha, s'.mt 0 (own0.mpr rfl) a ha, ?_⟩) r1 rv fv
      · obtain rfl := own0.mp hi
        exact n
      · rcases ev.new a o h h' with z | ⟨i, hi, z⟩
        · exact .inl z
        · obtain rfl := own0.mp hi
          exact .inr z
      · rcases ev.nown 0 (own0.mpr rfl) a ha with z | ⟨i, hi, z⟩
        · exact .inl z
        · obtain rfl := own0.mp hi
          exact .inr z
    refine hb.run st e1 _ ?_
    cases r1 with
    | nx δ1 =>
      have e : (match δ1[0]? with | some (some w) => some (W.non, true, w) | _ => none) = some r := e
      split at e
      · rename_i w' hw
        cases e
        exact fun G' H' φ' σ' s' ev kp => gr s' ev kp hw rfl rp_non fun _ => Fresh.nil
      · cases e
    | rt w fr δ1 =>
      have e : (match δ1[0]? with | some (some w') => some (w, fr, w') | _ => none) = some r := e
      split at e
      · rename_i w' hw
        cases e
        exact fun v G' H' φ' σ' A' s' ev kp rv f => gr s' ev kp hw rfl rv f
      · cases e
    | bk δ1 => cases e
    | ct δ1 => cases e
  · cases e
end
end Dv
set_option Elab.async false
set_option linter.all false
set_option maxRecDepth 100000
set_option maxHeartbeats 4000000
namespace Dv
open PySem PySem.Spec PyProof.Rows L2 DvR DvF
section
variable {P : Program} {w : World} {K : PySem.W.Frag} {mg : Str → Option Value} {base : Heap} {CX : CXT} {x qual : Str} {params : Arguments} {body : List Stmt} {scope : Scope} {f : Addr} {fd : FuncData} {N ps : List Str} {k n : Nat}
theorem fnG_bodyD {dvs : List V} {kws : List (Str × V)} {sp : Sp} (F : FunD K x qual params body scope dvs kws f fd) (S : FnScope N ps scope) (len : ∀ {vs H Q E}, sp vs H Q E → vs.length = ps.length)
    (hb : ∀ (cdv : Value) (A : Around) (outer : List PySem.Env) (s : Shared) (H : Hp) (vs : List V) (Q : VK) (E : XK), Grd A → Room k (A.deeper (envOfC qual scope s.heap.objs.size f cdv)) → sp vs H Q E →
      ∃ t, PSs (cxOf CX P w K mg base N qual scope f cdv A outer s H E) body t ∧ t { nx := fun _ H' => Q .non H', rt := Q } (L2.start N vs) H) : FnG P w K mg base CX (k + 1) f fd ps sp := by
  obtain ⟨oc, od, dV, kV, doc, pm, an, cdv, ct, osl, rfl, lk, hcd, _, _⟩ := F.ex
  refine ⟨len, fun {A outer s H args us vs Q E} g r e0 hbd rv h => ?_⟩
  have inK : K.In s.heap := e0.mod.kin.keeps fun b o e => (e0.bs b o e).1
  have kinds : ∀ y ∈ ps.zip us, scope.names.lookup y.1 = some .local ∨ (scope.names.lookup y.1 = some .cell ∧ ((cellsFrom (s.heap.objs.size + 1) scope.names []).lookup y.1).isSome = true) := by
    rintro ⟨n, v⟩ hy
    rcases S.par n (List.of_mem_zip hy).1 with q | q
    · exact .inl q
    · exact .inr ⟨q, PySem.W.cellsFrom_some _ _ _ (.inl q)⟩
  refine codeAny_call_function r.depth (inK _ _ lk) rfl S.co S.gen rfl (PySem.W.codeRec_of inK hcd) (hbd _ _ _ _ ?_)
  refine wpAny_newFunctionEnv_cells S.kind kinds fun env he s1 x => ?_
  subst he
  refine ⟨(e0.mod.nolimit.keeps fun b o e => (e0.bs b o e).1).keeps x.toInCall.keep, codeAny_func ?_⟩
  obtain ⟨t, ht, hq⟩ := hb cdv A outer s H vs Q E g (r.deeper _) h
  refine wpAny_mono (ht.run [] s1 (L2.start N vs) H _ (inv_start S r.hd e0 (len h) rv x) hq) (fun fl s2 q => ?_) fun _ _ q => q
  cases fl with
  | ret u =>
    obtain ⟨v, σ2, H2, J, rv2, z⟩ := q
    exact ⟨v, H2, J.os, J.bare, J.base, J.hok, rv2, z⟩
  | next =>
    obtain ⟨σ2, H2, J, z⟩ := q
    exact ⟨.non, H2, J.os, J.bare, J.base, J.hok, rfl, z⟩
  | brk => exact (show False by obtain ⟨_, _, _, z⟩ := q; exact z).elim
  | cont => exact (show False by obtain ⟨_, _, _, z⟩ := q; exact z).elim
theorem fn_d' {dvs : List V} {kws : List (Str × V)} {b : DenS} (F : FunD K x qual params body scope dvs kws f fd) (S : FnScope N ps scope) (hn : ps.length = n)
    (hb : ∀ (cdv : Value) (A : Around) (outer : List PySem.Env) (s : Shared) (H : Hp) (E : XK), Grd A → Room k (A.deeper (envOfC qual scope s.heap.objs.size f cdv)) →
      ∃ t, PSs (cxOf CX P w K mg base N qual scope f cdv A outer s H E) body t ∧ Ss K [] [] [] [] t b) : FnG P w K mg base CX (k + 1) f fd ps (spD K n (bodyD N.length n b)) :=
  fnG_bodyD F S (fun h => h.1.trans hn.symm) fun cdv A outer s H vs Q E g r h => by
    obtain ⟨t, h1, h2⟩ := hb cdv A outer s H E g r
    exact ⟨t, h1, body_d h2 h⟩
theorem fn_m' {dvs : List V} {kws : List (Str × V)} {b : DenS} (F : FunD K x qual params body scope dvs kws f fd) (S : FnScope N ps scope) (hn : ps.length = n + 1)
    (hb : ∀ (cdv : Value) (A : Around) (outer : List PySem.Env) (s : Shared) (H : Hp) (E : XK), Grd A → Room k (A.deeper (envOfC qual scope s.heap.objs.size f cdv)) →
      ∃ t, PSs (cxOf CX P w K mg base N qual scope f cdv A outer s H E) body t ∧ Ss K [0] [0] [0] [0] t b) : FnG P w K mg base CX (k + 1) f fd ps (spM K n (bodyM N.length n b)) :=
  fnG_bodyD F S (fun h => h.1.trans hn.symm) fun cdv A outer s H vs Q E g r h => by
    obtain ⟨t, h1, h2⟩ := hb cdv A outer s H E g r
    exact ⟨t, h1, body_m h2 h⟩
/-- a call by position and by name, no defaults -/
theorem kbN {m : Nat} {ks : List Str} {perm : List Nat} (F : FunD K x qual params body scope [] [] f fd) (hp : 0 < ps.length)
    (h : ∀ (kV doc pm : Value) (an : Option Addr) (cdv ct : Value) (us ws : List Value), us.length = n → ws.length = m → bindArgs (PySem.W.fnOf x qual params body scope .none kV doc pm an cdv ct) ⟨us, ks.zip ws⟩ = pure (ps.zip (perm.filterMap fun i => (us ++ ws ++ [])[i]?))) :
    KBinds K fd ps ks (kwG n m perm []) (kwG n m perm []) := by
  obtain ⟨oc, od, dV, kV, doc, pm, an, cdv, ct, osl, rfl, lk, hcd, hD, hK⟩ := F.ex
  refine ⟨fun s us ws _ hl => ?_, fun {vs us zs ws} r r' => ?_⟩
  · unfold kwG at hl ⊢
    split at hl
    · rename_i hc
      rw [if_pos hc]
      rcases hD with ⟨_, rfl⟩ | ⟨e, _⟩
      · exact .of_eq (h kV doc pm an cdv ct us ws hc.1 hc.2)
      · exact absurd rfl e
    · rw [← hl] at hp
      exact absurd hp (Nat.lt_irrefl 0)
  · unfold kwG
    rw [r.length, r'.length]
    split
    · have rr : Vals (vs ++ zs ++ []) (us ++ ws ++ []) := (r.append r').append .nil
      clear h
      induction perm with
      | nil => exact .nil
      | cons i perm ih =>
        rw [List.filterMap_cons, List.filterMap_cons]
        cases c : (vs ++ zs ++ [])[i]? with
        | some v =>
          obtain ⟨u, hu, ru⟩ := rr.get c
          rw [hu]
          exact .cons ru ih
        | none =>
          have : (us ++ ws ++ [])[i]? = none := by
            rw [List.getElem?_eq_none_iff] at c ⊢
            rw [← rr.length]
            exact c
          rw [this]
          exact ih
    · exact .nil
end
structure Tn (g : TGs) (xs : List Nat) : Prop where
  run : ∀ {vs : List V} {σ : L2.St} {H : Hp} {Q : L2.St → Hp → Prop}, vs.length = xs.length → Q (sets σ xs vs) H → g vs σ H Q
theorem tn_nil : Tn gNil [] := ⟨fun {vs σ H Q} hl q => by
  have : vs = [] := List.eq_nil_of_length_eq_zero hl
  subst this
  exact ⟨rfl, q⟩⟩
theorem tn_cons {x : Nat} {g : TGs} {xs : List Nat} (h : Tn g xs) : Tn (gCons (gName x) g) (x :: xs) := ⟨fun {vs σ H Q} hl q => by
  cases vs with
  | nil => cases hl
  | cons v vs => exact ⟨v, vs, rfl, h.run (Nat.succ.inj hl) q⟩⟩
def sUnpN (l ms l' xs : List Nat) (f : Den) : DenS := fun δ => (evE l ms f δ).bind fun r => match r.1 with
  | .tup ws => if xs.length = ws.length ∧ (dis l' xs || r.2.1) = true ∧ (xs.all fun x => decide (x < r.2.2.length)) = true then some (.nx (sets r.2.2 xs ws)) else none
  | .lst ws => if xs.length = ws.length ∧ (dis l' xs || r.2.1) = true ∧ (xs.all fun x => decide (x < r.2.2.length)) = true then some (.nx (sets r.2.2 xs ws)) else none
  | _ => none
/-- (a, b, ..) = a tuple or a list of that length -/
def gUn (K : PySem.W.Frag) (n : Nat) (t : TGs) : TG := fun v σ H Q => gTup K n t v σ H Q ∨ gUnl K n t v σ H Q
theorem pg_un {X : Cx} {pos : Pos} {es : List Expr} {k : Nat} {t : TGs} {n : Nat} (hc : X.calm = true) (h : PGs X es t)
    (hn : (assignEach es X.env).length = n := by rfl) (hst : (assignEach es X.env).findIdx? (·.1) = none := by rfl) : PG X (.Tuple es k pos) (gUn X.K n t) :=
  ⟨fun pins s σ H v u Q I r hw => hw.elim (fun hw => (pg_tup hc h hn hst).run pins s σ H v u Q I r hw) fun hw => (pg_unl hc h hn hst).run pins s σ H v u Q I r hw⟩
section
variable {K : PySem.W.Frag} {P L l l' ms : List Nat}
theorem ss_unpN {te : TE} {f : Den} {g : TGs} {xs : List Nat} {n : Nat} (h : Sd K te f) (hg : Tn g xs) (hn : xs.length = n := by rfl) (hs : sub ms l = true := by rfl) (hp : dis P xs = true := by rfl) (hl : (l'.all fun i => xs.contains i || l.contains i) = true := by rfl) :
    Ss K P L l l' (tAsg te (gUn K n g)) (sUnpN l ms l' xs f) := by
  refine ⟨fun {G H φ σ δ r} s e D p => ?_⟩
  unfold sUnpN at e
  obtain ⟨r1, e1, e⟩ := Option.bind_eq_some_iff.mp e
  split at e
  · rename_i ws hw
    split at e
    · rename_i hc
      cases e
      refine ev_e h hs s e1 _ fun v G1 H1 φ1 A s1 ev r1' f1 of => ?_
      rw [hw] at r1'
      unfold Rp at r1'
      obtain ⟨a, vs, rfl, ha, rs⟩ := r1'
      obtain ⟨G2, φ2, s2, e2⟩ := puts (l' := l') s s1 ev of rs f1 hc.1 (fun x hx => of_decide_eq_true (List.all_eq_true.mp hc.2.2 x hx)) hc.2.1 hl
      have hl' : vs.length = xs.length := by rw [← rs.len]; exact hc.1.symm
      exact .inl ⟨a, vs, rfl, (SqT.of (s1.sub _ _ ha)), by rw [hl', hn], hg.run hl' (p G2 H1 φ2 _ s2 e2 (Kp.sets hp))⟩
    · cases e
  · rename_i ws hw
    split at e
    · rename_i hc
      cases e
      refine ev_e h hs s e1 _ fun v G1 H1 φ1 A s1 ev r1' f1 of => ?_
      rw [hw] at r1'
      unfold Rp at r1'
      obtain ⟨a, vs, B, rfl, ha, rfl, rs⟩ := r1'
      obtain ⟨G2, φ2, s2, e2⟩ := puts (l' := l') s s1 ev of rs (fun q => ⟨(List.nodup_cons.mp (f1 q).1).2, fun x hx => (f1 q).2 x (List.mem_cons_of_mem _ hx)⟩) hc.1 (fun x hx => of_decide_eq_true (List.all_eq_true.mp hc.2.2 x hx)) hc.2.1 hl
      have hl' : vs.length = xs.length := by rw [← rs.len]; exact hc.1.symm
      exact .inr ⟨a, vs, rfl, (SqL.of (s1.sub _ _ ha)), by rw [hl', hn], hg.run hl' (p G2 H1 φ2 _ s2 e2 (Kp.sets hp))⟩
    · cases e
  · cases e
end
end Dv
set_option Elab.async false
set_option linter.all false
set_option maxRecDepth 100000
set_option maxHeartbeats 4000000
namespace Dv
open PySem PySem.Spec PyProof.Rows L2 DvR DvF
section
variable {K : PySem.W.Frag}
theorem SiR.si {t : TI} {f : DenI} (h : SiR K t f) : Si K t f := ⟨h.off, fun {M G H φ σ δ r} s e R P => h.run s e R fun J G' H' φ' s' e' wk => P J G' H' φ' s' e' (wk G')⟩
def cRg (a b : Int) : Bool := cRng a b && decide ((b - a).toNat ≤ LIM)
theorem cRg_ok {a b : Int} (h : cRg a b = true) : RgOk a b ∧ (b - a).toNat ≤ LIM := by
  obtain ⟨h1, h2⟩ := Bool.and_eq_true_iff.mp h
  obtain ⟨c1, c2, c3, c4⟩ := cRng_ok h1
  have h2 := of_decide_eq_true h2
  exact ⟨⟨c1, c2, c3, c4, Nat.le_trans h2 (by decide)⟩, h2⟩
def dRg (mk : List W → W) (fa fb : Den) : Den := fun M δ => (fa M δ).bind fun r1 => (fb M r1.2.2).bind fun r2 => match r1.1, r2.1 with
  | .int a, .int b => if cRg a b = true then some (mk (rangeW a (b - a).toNat), true, r2.2.2) else none
  | _, _ => none
theorem rps_rg {G : Hp} (a : Int) (n : Nat) : Rps K G (rangeW a n) ((List.range n).map fun i => V.int (a + (i : Nat))) [] := by
  unfold rangeW
  generalize List.range n = l
  induction l with
  | nil => exact Rps.nil
  | cons i l ih =>
    have := Rps.cons (K := K) (G := G) (w := .int (a + (i : Nat))) (v := .int (a + (i : Nat))) rp_int ih
    exact this
theorem imms_rg (a : Int) (n : Nat) : W.imms (rangeW a n) = true := by
  rw [imms_mem]
  intro w hw
  unfold rangeW at hw
  obtain ⟨i, _, rfl⟩ := List.mem_map.mp hw
  rfl
theorem dRg_inv {mk : List W → W} {fa fb : Den} {M : Own} {δ : Env} {r : Res} (e : dRg mk fa fb M δ = some r) : ∃ r1 r2 a b, fa M δ = some r1 ∧ fb M r1.2.2 = some r2 ∧ r1.1 = .int a ∧ r2.1 = .int b ∧ cRg a b = true ∧ r = (mk (rangeW a (b - a).toNat), true, r2.2.2) := by
  unfold dRg at e
  obtain ⟨r1, h1, e⟩ := Option.bind_eq_some_iff.mp e
  obtain ⟨r2, h2, e⟩ := Option.bind_eq_some_iff.mp e
  split at e
  · rename_i a b ha hb
    split at e
    · rename_i hc
      cases e
      exact ⟨r1, r2, a, b, h1, h2, ha, hb, hc, rfl⟩
    · cases e
  · cases e
abbrev dTupRg2 := dRg W.tup
abbrev dLstRg2 := dRg W.lst
theorem rg_core {ta tb : TE} {fa fb : Den} (ha : Sd K ta fa) (hb : Sd K tb fb) {mk : List W → W} {mkH : List V → HO} (hm : ∀ {G : Hp} {p : Addr} {ws : List W} {vs : List V}, W.imms ws = true → G p = some (mkH vs) → Rps K G ws vs [] → ∃ A, Rp K G (mk ws) (.ref p) A ∧ (A = [] ∨ (A = [p] ∧ ∀ vs, Mut (some (mkH vs))))) {M : Own} {G H : Hp} {φ : Nat → List Addr} {σ : L2.St} {δ : Env} {r : Res} (s : Sta K M G H φ σ δ) (e : dRg mk fa fb M δ = some r) (Q : VK) (P : Post K M G H φ σ r.1 r.2.1 r.2.2 Q) :
    ta σ H fun x H1 => tb σ H1 fun y H2 => ∃ i j, x = .int i ∧ y = .int j ∧ (RgOk i j ∧ ∀ q, H2 q = none → Q (.ref q) (upd H2 q (mkH (rgV i j)))) := by
  obtain ⟨r1, r2, a, b, h1, h2, e1, e2, hc, rfl⟩ := dRg_inv e
  refine ha.run s h1 _ fun v G1 H1 φ1 A1 s1 ev1 q1 _ => hb.run s1 h2 _ fun u G2 H2 φ2 A2 s2 ev2 q2 _ => ?_
  rw [e1] at q1
  rw [e2] at q2
  unfold Rp at q1 q2
  refine ⟨a, b, q1.1, q2.1, (cRg_ok hc).1, fun p hp => ?_⟩
  obtain ⟨A, rp, hA⟩ := hm (G := upd G2 p (mkH (rgV a b))) (p := p) (imms_rg a (b - a).toNat) upd_same (rps_rg a (b - a).toNat)
  refine (P.after (ev1.trans ev2)).laid s2 hp rp fun _ => ?_
  rcases hA with rfl | ⟨rfl, mu⟩
  · exact Fresh.nil
  · refine ⟨by simp, fun c hc => ?_⟩
    obtain rfl : c = p := by simpa using hc
    exact ⟨s2.sub.back hp, by rw [upd_same]; exact mu _⟩
theorem mk_tup {G : Hp} {p : Addr} {ws : List W} {vs : List V} (_ : W.imms ws = true) (h : G p = some (.tup vs)) (r : Rps K G ws vs []) : ∃ A, Rp K G (.tup ws) (.ref p) A ∧ (A = [] ∨ (A = [p] ∧ ∀ vs, Mut (some (HO.tup vs)))) :=
  ⟨[], by unfold Rp; exact ⟨p, vs, rfl, h, r⟩, .inl rfl⟩
theorem mk_lst {G : Hp} {p : Addr} {ws : List W} {vs : List V} (_ : W.imms ws = true) (h : G p = some (.lst vs)) (r : Rps K G ws vs []) : ∃ A, Rp K G (.lst ws) (.ref p) A ∧ (A = [] ∨ (A = [p] ∧ ∀ vs, Mut (some (HO.lst vs)))) :=
  ⟨[p], by unfold Rp; exact ⟨p, vs, [], rfl, h, rfl, r⟩, .inr ⟨rfl, fun _ => trivial⟩⟩
theorem rg_off {ta tb : TE} {fa fb : Den} (ha : Sd K ta fa) (hb : Sd K tb fb) {mk : List W → W} {M : Own} {δ : Env} {r : Res} (e : dRg mk fa fb M δ = some r) : Off M δ r.2.2 := by
  obtain ⟨r1, r2, a, b, h1, h2, _, _, _, rfl⟩ := dRg_inv e
  have o1 := ha.off h1
  have o2 := hb.off h2
  exact o1.trans o2
theorem sd_tupRg2 {ta tb : TE} {fa fb : Den} (ha : Sd K ta fa) (hb : Sd K tb fb) : Sd K (tTupRg (tRg2 ta tb)) (dTupRg2 fa fb) := ⟨rg_off ha hb, fun s e Q P => rg_core ha hb mk_tup s e Q P⟩
theorem sd_lstRg2 {ta tb : TE} {fa fb : Den} (ha : Sd K ta fa) (hb : Sd K tb fb) : Sd K (tLstRg (tRg2 ta tb)) (dLstRg2 fa fb) := ⟨rg_off ha hb, fun s e Q P => rg_core ha hb mk_lst s e Q P⟩
end
end Dv
set_option Elab.async false
set_option linter.all false
set_option maxRecDepth 100000
set_option maxHeartbeats 4000000
namespace Dv
open PySem PySem.Spec PyProof.Rows L2 DvR DvF
theorem rps_ints {K : PySem.W.Frag} {G : Hp} : ∀ ns : List Int, Rps K G (ns.map W.int) (ns.map V.int) []
  | [] => Rps.nil
  | n :: ns => Rps.cons (A := []) rp_int (rps_ints ns)
/-- the tables stand aside -/
theorem sp_lawT {K : PySem.W.Frag} {F : FnD} {H : Hp} {a : Addr} {ns : List Int} {b : Bool} (hF : F [.fl (ns.map W.int)] = some (.bl true, b)) (h : FzL K H a (ns.map V.int)) (hT : ∀ p ∈ tabsK K, H p.2.1 = some (.tbl #[])) {E : XK} : spD K 1 F [.ref a] H (fun v _ => v = .bl true) E := by
  classical
  let G : Hp := fun b => if ∃ p ∈ tabsK K, p.2.1 = b then none else H b
  have pos : ∀ {b}, (∃ p ∈ tabsK K, p.2.1 = b) → G b = none := fun h => if_pos h
  have neg : ∀ {b}, ¬ (∃ p ∈ tabsK K, p.2.1 = b) → G b = H b := fun h => if_neg h
  have nt : ∀ b o, H b = some o → NT o → G b = some o := fun b o e n => by
    rw [neg ?_]
    · exact e
    · rintro ⟨p, hp, rfl⟩
      rw [hT p hp] at e
      cases e
      exact n _ rfl
  have hG : FzL K G a (ns.map V.int) := by
    rcases h with ⟨o, q⟩ | q
    · exact .inl ⟨o, nt a _ q fun _ z => nomatch z⟩
    · exact .inr q
  have r : Rp K G (.fl (ns.map W.int)) (.ref a) [] := by
    unfold Rp
    exact ⟨a, _, rfl, hG, rps_ints ns⟩
  refine ⟨rfl, G, _, _, _, ⟨fun b o e => ?_, fun b o e n => nt b o e fun ps z => n (by rw [z]; trivial), fun p hp => ⟨pos ⟨p, hp, rfl⟩, LamX.TabS.nil (hT p hp)⟩⟩, Rps.one r, hF, fun v G' H' A' _ rv _ => ?_⟩
  · by_cases c : ∃ p ∈ tabsK K, p.2.1 = b
    · rw [pos c] at e; cases e
    · rw [neg c] at e; exact e
  · unfold Rp at rv
    exact rv.1
theorem sp_law {K : PySem.W.Frag} {F : FnD} {H : Hp} {a : Addr} {ns : List Int} {b : Bool} (hF : F [.fl (ns.map W.int)] = some (.bl true, b)) (h : FzL K H a (ns.map V.int)) (hT : (tabsK K).isEmpty = true) {E : XK} : spD K 1 F [.ref a] H (fun v _ => v = .bl true) E :=
  sp_lawT hF h fun p hp => by
    rw [List.isEmpty_iff.mp hT] at hp
    cases hp
end Dv
set_option Elab.async false
set_option linter.all false
set_option maxRecDepth 100000
set_option maxHeartbeats 4000000
namespace Dv
open PySem PySem.Spec PyProof.Rows L2 DvR DvF
def dAugAt (i : Nat) (π : DenP) (fi : Den) (k : Int → Int → Int) (f : Den) : Den := fun M δ => if M i = true then (π (but M i) δ).bind fun p => (fi (but M i) p.2).bind fun x => match x.1, x.2.2[i]? with
    | .int n, some (some w0) => match w0.at p.1 with
      | some (.lst ws) => match atI ws n with
        | some (.int a) => if 0 ≤ n then (f (but M i) x.2.2).bind fun r => match r.1 with
          | .int b => (opSet (.lst ws) [.int n, .int (k a b)]).map fun q => (.non, true, r.2.2.set i (some (w0.put p.1 q.1)))
          | _ => none else none
        | _ => none
      | _ => none
    | _, _ => none
  else none
end Dv
set_option Elab.async false
set_option linter.all false
set_option maxRecDepth 100000
set_option maxHeartbeats 4000000
namespace Dv
open PySem PySem.Spec PyProof.Rows L2
theorem imms_map {α : Type} {f : α → W} (h : ∀ x, (f x).imm = true) (xs : List α) : W.imms (xs.map f) = true := by
  rw [imms_mem]
  intro w hw
  obtain ⟨x, _, rfl⟩ := List.mem_map.mp hw
  exact h x
theorem shp_iff {n : Nat} {w : W} : w.shp n = true ↔ w.plain = true ∧ w.py.canLay0 = true ∧ w.py.depth ≤ n := by
  unfold W.shp
  rw [Bool.and_eq_true_iff, Bool.and_eq_true_iff, decide_eq_true_iff, and_assoc]
theorem shp_mono {n m : Nat} {w : W} (h : w.shp n = true) (l : n ≤ m) : w.shp m = true := by
  rw [shp_iff] at h ⊢
  exact ⟨h.1, h.2.1, Nat.le_trans h.2.2 l⟩
theorem shp_int {n : Nat} {i : Int} : (W.int i).shp n = true := by
  rw [shp_iff]
  refine ⟨by unfold W.plain; rfl, by unfold W.py; rfl, by unfold W.py; exact Nat.zero_le _⟩
theorem shps {n : Nat} : ∀ {ws : List W}, (∀ w ∈ ws, w.shp n = true) → W.plains ws = true ∧ PyData.canLayAll0 (W.pys ws) = true ∧ PyData.depthAll (W.pys ws) ≤ n
  | [], _ => by unfold W.plains W.pys; exact ⟨rfl, rfl, Nat.zero_le _⟩
  | w :: ws, h => by
    obtain ⟨a1, a2, a3⟩ := shp_iff.mp (h w (List.mem_cons_self ..))
    obtain ⟨b1, b2, b3⟩ := shps fun x hx => h x (List.mem_cons_of_mem _ hx)
    unfold W.plains W.pys
    refine ⟨by rw [a1, b1]; rfl, ?_, ?_⟩
    · show (PyData.canLay0 _ && PyData.canLayAll0 _) = true
      rw [a2, b2]; rfl
    · show max _ _ ≤ n
      omega
theorem shp_tup {n : Nat} {ws : List W} (h : ∀ w ∈ ws, w.shp n = true) : (W.tup ws).shp (n + 1) = true := by
  obtain ⟨b1, b2, b3⟩ := shps h
  rw [shp_iff]
  unfold W.plain W.py
  exact ⟨b1, b2, by show PyData.depthAll _ + 1 ≤ _; omega⟩
theorem shp_lst {n : Nat} {ws : List W} (h : ∀ w ∈ ws, w.shp n = true) : (W.lst ws).shp (n + 1) = true := by
  obtain ⟨b1, b2, b3⟩ := shps h
  rw [shp_iff]
  unfold W.plain W.py
  exact ⟨b1, b2, by show PyData.depthAll _ + 1 ≤ _; omega⟩
theorem shp_ints {xs : List Int} : ∀ w ∈ xs.map W.int, w.shp 0 = true := fun w hw => by
  obtain ⟨x, _, rfl⟩ := List.mem_map.mp hw
  exact shp_int
theorem eqW_int (i j : Int) : eqW (.int i) (.int j) = decide (i = j) := by
  unfold eqW W.py
  show (i == j) = _
  rfl
theorem eqAll_map {α : Type} [DecidableEq α] {f : α → W} (h : ∀ a b, eqW (f a) (f b) = decide (a = b)) : ∀ xs ys : List α, PyData.eqvAll (W.pys (xs.map f)) (W.pys (ys.map f)) = decide (xs = ys)
  | [], [] => by unfold W.pys; rfl
  | [], y :: ys => by
    show PyData.eqvAll (W.pys []) (W.pys (f y :: ys.map f)) = _
    unfold W.pys
    rfl
  | x :: xs, [] => by
    show PyData.eqvAll (W.pys (f x :: xs.map f)) (W.pys []) = _
    unfold W.pys
    rfl
  | x :: xs, y :: ys => by
    show PyData.eqvAll (W.pys (f x :: xs.map f)) (W.pys (f y :: ys.map f)) = _
    rw [W.pys, W.pys]
    show (eqW (f x) (f y) && PyData.eqvAll (W.pys (xs.map f)) (W.pys (ys.map f))) = _
    rw [h, eqAll_map h xs ys]
    by_cases c : x = y
    · subst c; simp
    · simp [c]
theorem eqW_tup {α : Type} [DecidableEq α] {f : α → W} (h : ∀ a b, eqW (f a) (f b) = decide (a = b)) (xs ys : List α) : eqW (.tup (xs.map f)) (.tup (ys.map f)) = decide (xs = ys) := by
  rw [← eqAll_map h]
  unfold eqW W.py
  rfl
theorem eqW_lst {α : Type} [DecidableEq α] {f : α → W} (h : ∀ a b, eqW (f a) (f b) = decide (a = b)) (xs ys : List α) : eqW (.lst (xs.map f)) (.lst (ys.map f)) = decide (xs = ys) := by
  rw [← eqAll_map h]
  unfold eqW W.py
  rfl
theorem kEq_of {a b : W} {c : Bool} (ha : a.shp 60 = true) (hb : b.shp 60 = true) (hs : ∀ x, a ≠ .str x) (h : eqW a b = c) : kEq a b = some (.bl c, true) := by
  unfold kEq
  split
  · rename_i x y; exact absurd rfl (hs x)
  · rw [ha, hb, h]; rfl
theorem kNe_of {a b : W} {c : Bool} (ha : a.shp 60 = true) (hb : b.shp 60 = true) (hs : ∀ x, a ≠ .str x) (h : eqW a b = c) : kNe a b = some (.bl (!c), true) := by
  unfold kNe
  split
  · rename_i x y; exact absurd rfl (hs x)
  · rw [ha, hb, h]; rfl
theorem kEq_int (i j : Int) : kEq (.int i) (.int j) = some (.bl (decide (i = j)), true) := kEq_of shp_int shp_int (fun _ h => nomatch h) (eqW_int i j)
theorem kNe_int (i j : Int) : kNe (.int i) (.int j) = some (.bl (!decide (i = j)), true) := kNe_of shp_int shp_int (fun _ h => nomatch h) (eqW_int i j)
theorem lt_int (i j : Int) : PySem.W.dataLt (.int i) (.int j) = decide (i < j) := by
  show (decide (i < j) || (!decide (j < i) && false)) = decide (i < j)
  simp
theorem kCmp_int (g : PyData → PyData → Bool) (i j : Int) : kCmp g (.int i) (.int j) = some (.bl (g (.int i) (.int j)), true) := by
  unfold kCmp
  rw [shp_int]
  unfold W.plain W.py
  rfl
theorem kLt_int (i j : Int) : kLt (.int i) (.int j) = some (.bl (decide (i < j)), true) := (kCmp_int _ i j).trans (by rw [lt_int])
theorem kGt_int (i j : Int) : kGt (.int i) (.int j) = some (.bl (decide (j < i)), true) := (kCmp_int _ i j).trans (by rw [lt_int])
theorem kLe_int (i j : Int) : kLe (.int i) (.int j) = some (.bl (decide (i ≤ j)), true) := (kCmp_int _ i j).trans (by
  rw [lt_int]
  by_cases h : i ≤ j
  · rw [decide_eq_true h, decide_eq_false (by omega)]; rfl
  · rw [decide_eq_false h, decide_eq_true (by omega)]; rfl)
theorem kGe_int (i j : Int) : kGe (.int i) (.int j) = some (.bl (decide (j ≤ i)), true) := (kCmp_int _ i j).trans (by
  rw [lt_int]
  by_cases h : j ≤ i
  · rw [decide_eq_true h, decide_eq_false (by omega)]; rfl
  · rw [decide_eq_false h, decide_eq_true (by omega)]; rfl)
theorem inW_map {α : Type} [DecidableEq α] {f : α → W} (h : ∀ a b, eqW (f a) (f b) = decide (a = b)) (x : α) (xs : List α) : inW (f x) (xs.map f) = decide (x ∈ xs) := by
  unfold inW
  rw [List.any_map]
  induction xs with
  | nil => simp
  | cons y ys ih =>
    rw [List.any_cons, ih]
    show (eqW (f y) (f x) || _) = _
    rw [h]
    by_cases c : y = x
    · subst c; simp
    · have c' : x ≠ y := fun z => c z.symm
      simp [c, c']
end Dv
set_option Elab.async false
set_option linter.all false
set_option maxRecDepth 100000
set_option maxHeartbeats 4000000
namespace Dv
open PySem PySem.Spec PyProof.Rows L2 DvR DvF
/-- the constants of a deck -/
structure DkC where
  k0 : Str
  k2 : Str
  a : Int
  m1 : Int
  b : Int
  c : Int
  m2 : Int
  d : Int
  e : Int
  m3 : Int
  f : Int
  m4 : Int
def tDraw (z : DkC) : DenS := (sSeq (sDrop [0] (dSetAt 0 (pVar 0) opDPut (dOp kAdd (dDGet (dVar 0) (dC (.str z.k2))) (dC (.int 1))) (dC (.str z.k2))))
  (sSeq (sAsg [0] [] [0] 2 (dOp kAdd (dDGet (dVar 0) (dC (.str ("mixed" : Str)))) (dOp kMul (dC (.int z.a)) (dDGet (dVar 0) (dC (.str z.k2))))))
  (sSeq (sIf [] (bTest (dOp kNe (dDGet (dVar 0) (dC (.str z.k0))) (dLst aNil)))
  (sSeq (sAsg [0] [0] [0] 3 (dOpAt 0 (pKey 0 (pVar 0) (dC (.str z.k0))) opPop aNil))
  (sSeq (sIf [0] (bTest (dOp kGe (dVar 3) (dOp kPow (dC (.int 10)) (dC (.int 18)))))
  (sSeq (sDrop [0] (dOpAt 0 (pKey 0 (pVar 0) (dC (.str z.k0))) opAppend (aCons (dOp kFdiv (dVar 3) (dCb kMax2 (aCons (dC (.int 2)) (aCons (dVar 1) aNil)))) aNil)))
  (sRet [0] [0] (dOp kMod (dCb kIntOf (aCons (dVar 3) aNil)) (dVar 1))))
  sNext)
  (sAsg [0] [0] [0] 2 (dOp kAdd (dVar 2) (dOp kMod (dCb kIntOf (aCons (dVar 3) aNil)) (dC (.int z.m1)))))))
  sNext)
  (sSeq (sAsg [0] [0] [0] 2 (dOp kMod (dCb kIntOf (aCons (dOp kAdd (dOp kMul (dVar 2) (dC (.int z.b))) (dC (.int z.c))) aNil)) (dC (.int z.m2))))
  (sSeq (sAsg [0] [] [0] 2 (dOp kMod (dCb kIntOf (aCons (dOp kAdd (dOp kAdd (dOp kMul (dVar 2) (dVar 2)) (dOp kMul (dC (.int z.d)) (dDGet (dVar 0) (dC (.str z.k2))))) (dC (.int z.e))) aNil)) (dC (.int z.m3))))
  (sSeq (sAsg [0] [0] [0] 2 (dOp kMod (dCb kIntOf (aCons (dOp kMul (dVar 2) (dC (.int z.f))) aNil)) (dC (.int z.m4))))
  (sRet [0] [0] (dOp kMod (dCb kIntOf (aCons (dOp kFdiv (dVar 2) (dC (.int 64))) aNil)) (dVar 1)))))))))
structure Dk where
  cells : List Int
  mixed : Int
  draws : Int
def DkC.ks (z : DkC) : List Key := [.inr z.k0, .inr ("mixed" : Str), .inr z.k2]
def Dk.w (z : DkC) (D : Dk) : W := .dk z.ks [.lst (D.cells.map .int), .int D.mixed, .int D.draws]
structure DkC.Ok (z : DkC) : Prop where
  h0 : keyIx z.ks (.inr z.k0) = some 0
  h1 : keyIx z.ks (.inr ("mixed" : Str)) = some 1
  h2 : keyIx z.ks (.inr z.k2) = some 2
  nd : z.ks.Nodup
  ha : z.a.natAbs < 2 ^ 64
  hb : z.b.natAbs < 2 ^ 64
  hd : z.d.natAbs < 2 ^ 64
  hf : z.f.natAbs < 2 ^ 64
  hm1 : z.m1 ≠ 0
  hm2 : 0 < z.m2 ∧ z.m2 < 2 ^ 64
  hm3 : z.m3 ≠ 0
  hm4 : z.m4 ≠ 0
theorem own_self : own [0] 0 = true := rfl
theorem but_own {j : Nat} : but (own [0]) 0 j = false := by
  unfold but own
  cases j with
  | zero => rfl
  | succ j => simp
theorem DkC.len (z : DkC) : z.ks.length = 3 := rfl
def stW (z : DkC) (cells : List Int) (mixed draws : Int) : W := .dk z.ks [.lst (cells.map .int), .int mixed, .int draws]
theorem dr1 (z : DkC) (h : z.Ok) (cells : List Int) (mixed draws many : Int) (x y : Option W) : sDrop [0] (dSetAt 0 (pVar 0) opDPut (dOp kAdd (dDGet (dVar 0) (dC (.str z.k2))) (dC (.int 1))) (dC (.str z.k2))) [some (stW z cells mixed draws), some (.int many), x, y] =
    some (.nx [some (stW z cells mixed (draws + 1)), some (.int many), x, y]) := by
  simp [sDrop, dSetAt, own_self, dOp, dDGet, dVar, but_own, stW, dC, W.key, h.h2, kAdd, kInt0, pVar, W.imm, opDPut, dkPut, h.nd, W.at, W.put, z.len, LIM]
theorem cMul_l {i j : Int} (h : i.natAbs < 2 ^ 64) : cMul i j = true := by
  unfold cMul
  simp
  omega
theorem cMul_r {i j : Int} (h : j.natAbs < 2 ^ 64) : cMul i j = true := by
  unfold cMul
  simp
  omega
theorem dr2 (z : DkC) (h : z.Ok) (cells : List Int) (mixed draws many : Int) (x y : Option W) : sAsg [0] [] [0] 2 (dOp kAdd (dDGet (dVar 0) (dC (.str ("mixed" : Str)))) (dOp kMul (dC (.int z.a)) (dDGet (dVar 0) (dC (.str z.k2))))) [some (stW z cells mixed draws), some (.int many), x, y] =
    some (.nx [some (stW z cells mixed draws), some (.int many), some (.int (mixed + z.a * draws)), y]) := by
  have hc : cMul z.a draws = true := cMul_l h.ha
  simp [sAsg, evE, dOp, dDGet, dVar, own, stW, dC, W.key, h.h1, h.h2, kAdd, kMul, hc, W.imm]
theorem dr3 (z : DkC) (h : z.Ok) (cells : List Int) (mixed draws many : Int) (x y : Option W) : bTest (dOp kNe (dDGet (dVar 0) (dC (.str z.k0))) (dLst aNil)) (own []) [some (stW z cells mixed draws), some (.int many), x, y] =
    some (!decide (cells = []), [some (stW z cells mixed draws), some (.int many), x, y]) := by
  have e : kNe (.lst (cells.map .int)) (.lst []) = some (.bl (!decide (cells = [])), true) := kNe_of (shp_mono (shp_lst shp_ints) (by decide)) (shp_mono (shp_lst (n := 0) (fun w hw => nomatch hw)) (by decide)) (fun _ h => nomatch h) (eqW_lst eqW_int cells [])
  simp [bTest, dOp, dDGet, dVar, own, stW, dC, W.key, h.h0, W.imm, dLst, aNil, e, LIM]
theorem dr4 (z : DkC) (h : z.Ok) (cells : List Int) (c mixed draws many : Int) (x y : Option W) (hl : cells.length ≤ 1000) : sAsg [0] [0] [0] 3 (dOpAt 0 (pKey 0 (pVar 0) (dC (.str z.k0))) opPop aNil) [some (stW z (cells ++ [c]) mixed draws), some (.int many), x, y] =
    some (.nx [some (stW z cells mixed draws), some (.int many), x, some (.int c)]) := by
  have h1 : cells.length + 1 ≤ LIM := by unfold LIM; omega
  simp [sAsg, evE, dOpAt, own_self, but_own, pKey, pVar, dC, stW, W.at, W.key, h.h0, W.step, aNil, opPop, h1, W.put, W.stepPut]
theorem dr5 (a b x : Option W) (c : Int) : bTest (dOp kGe (dVar 3) (dOp kPow (dC (.int 10)) (dC (.int 18)))) (own [0]) [a, b, x, some (.int c)] = some (decide (10 ^ 18 ≤ c), [a, b, x, some (.int c)]) := by
  have e : cPow 10 18 = true := by decide
  simp [bTest, dOp, dVar, own, dC, kInt, e, kGe_int, W.imm]
theorem dr6 (z : DkC) (h : z.Ok) (cells : List Int) (c mixed draws many : Int) (x : Option W) (hl : cells.length ≤ 1000) (hm : 1 ≤ many ∧ many < 2 ^ 29) : ∃ q, sDrop [0] (dOpAt 0 (pKey 0 (pVar 0) (dC (.str z.k0))) opAppend (aCons (dOp kFdiv (dVar 3) (dCb kMax2 (aCons (dC (.int 2)) (aCons (dVar 1) aNil)))) aNil)) [some (stW z cells mixed draws), some (.int many), x, some (.int c)] =
    some (.nx [some (stW z (cells ++ [q]) mixed draws), some (.int many), x, some (.int c)]) := by
  have h1 : cells.length < LIM := by unfold LIM; omega
  have e : cDiv c (if many > 2 then many else 2) = true := by
    unfold cDiv
    by_cases g : many > 2
    · rw [if_pos g]; simp; omega
    · rw [if_neg g]; decide
  refine ⟨c.fdiv (if many > 2 then many else 2), ?_⟩
  simp [sDrop, dOpAt, own_self, but_own, pKey, pVar, dC, stW, W.at, W.key, h.h0, W.step, aNil, aCons, dOp, dVar, dCb, kMax2, kInt, e, opAppend, h1, W.put, W.stepPut, W.imm]
theorem dr7 (a x : Option W) (c many : Int) (hm : 1 ≤ many) : sRet [0] [0] (dOp kMod (dCb kIntOf (aCons (dVar 3) aNil)) (dVar 1)) [a, some (.int many), x, some (.int c)] = some (.rt (.int (c.fmod many)) true [a, some (.int many), x, some (.int c)]) := by
  have e : decide (many ≠ 0) = true := decide_eq_true (by omega)
  simp [sRet, evE, dOp, dCb, aCons, aNil, dVar, own, kIntOf, kInt1, kInt, W.imm]
  omega
theorem dr8 (z : DkC) (h : z.Ok) (a b : Option W) (n c : Int) : sAsg [0] [0] [0] 2 (dOp kAdd (dVar 2) (dOp kMod (dCb kIntOf (aCons (dVar 3) aNil)) (dC (.int z.m1)))) [a, b, some (.int n), some (.int c)] = some (.nx [a, b, some (.int (n + c.fmod z.m1)), some (.int c)]) := by
  have e := h.hm1
  simp [sAsg, evE, dOp, dCb, aCons, aNil, dVar, own, kIntOf, kInt1, kInt, W.imm, dC, e, kAdd]
theorem dr9 (z : DkC) (h : z.Ok) (a b y : Option W) (n : Int) : sAsg [0] [0] [0] 2 (dOp kMod (dCb kIntOf (aCons (dOp kAdd (dOp kMul (dVar 2) (dC (.int z.b))) (dC (.int z.c))) aNil)) (dC (.int z.m2))) [a, b, some (.int n), y] = some (.nx [a, b, some (.int ((n * z.b + z.c).fmod z.m2)), y]) := by
  have e : z.m2 ≠ 0 := by have := h.hm2; omega
  have e2 : cMul n z.b = true := cMul_r h.hb
  simp [sAsg, evE, dOp, dCb, aCons, aNil, dVar, own, kIntOf, kInt1, kInt, W.imm, dC, e, kAdd, kMul, e2]
theorem dr10 (z : DkC) (h : z.Ok) (cells : List Int) (mixed draws : Int) (b y : Option W) (n : Int) (hn : n.natAbs < 2 ^ 64) : sAsg [0] [] [0] 2 (dOp kMod (dCb kIntOf (aCons (dOp kAdd (dOp kAdd (dOp kMul (dVar 2) (dVar 2)) (dOp kMul (dC (.int z.d)) (dDGet (dVar 0) (dC (.str z.k2))))) (dC (.int z.e))) aNil)) (dC (.int z.m3))) [some (stW z cells mixed draws), b, some (.int n), y] =
    some (.nx [some (stW z cells mixed draws), b, some (.int ((n * n + z.d * draws + z.e).fmod z.m3)), y]) := by
  have e := h.hm3
  have e2 : cMul n n = true := cMul_r hn
  have e3 : cMul z.d draws = true := cMul_l h.hd
  simp [sAsg, evE, dOp, dCb, aCons, aNil, dVar, own, kIntOf, kInt1, kInt, W.imm, dC, e, kAdd, kMul, e2, e3, dDGet, stW, W.key, h.h2]
theorem dr11 (z : DkC) (h : z.Ok) (a b y : Option W) (n : Int) : sAsg [0] [0] [0] 2 (dOp kMod (dCb kIntOf (aCons (dOp kMul (dVar 2) (dC (.int z.f))) aNil)) (dC (.int z.m4))) [a, b, some (.int n), y] = some (.nx [a, b, some (.int ((n * z.f).fmod z.m4)), y]) := by
  have e := h.hm4
  have e2 : cMul n z.f = true := cMul_r h.hf
  simp [sAsg, evE, dOp, dCb, aCons, aNil, dVar, own, kIntOf, kInt1, kInt, W.imm, dC, e, kAdd, kMul, e2]
theorem dr12 (a y : Option W) (n many : Int) (hm : 1 ≤ many) : sRet [0] [0] (dOp kMod (dCb kIntOf (aCons (dOp kFdiv (dVar 2) (dC (.int 64))) aNil)) (dVar 1)) [a, some (.int many), some (.int n), y] = some (.rt (.int ((n.fdiv 64).fmod many)) true [a, some (.int many), some (.int n), y]) := by
  have e : many ≠ 0 := by omega
  have e2 : cDiv n 64 = true := by unfold cDiv; decide
  simp [sRet, evE, dOp, dCb, aCons, aNil, dVar, own, kIntOf, kInt1, kInt, W.imm, dC, e, e2]
theorem dr_tail (z : DkC) (h : z.Ok) (cells : List Int) (mixed draws many n : Int) (y : Option W) (hm : 1 ≤ many) :
    ∃ k, 0 ≤ k ∧ k < many ∧ ∃ δ, (sSeq (sAsg [0] [0] [0] 2 (dOp kMod (dCb kIntOf (aCons (dOp kAdd (dOp kMul (dVar 2) (dC (.int z.b))) (dC (.int z.c))) aNil)) (dC (.int z.m2))))
  (sSeq (sAsg [0] [] [0] 2 (dOp kMod (dCb kIntOf (aCons (dOp kAdd (dOp kAdd (dOp kMul (dVar 2) (dVar 2)) (dOp kMul (dC (.int z.d)) (dDGet (dVar 0) (dC (.str z.k2))))) (dC (.int z.e))) aNil)) (dC (.int z.m3))))
  (sSeq (sAsg [0] [0] [0] 2 (dOp kMod (dCb kIntOf (aCons (dOp kMul (dVar 2) (dC (.int z.f))) aNil)) (dC (.int z.m4))))
  (sRet [0] [0] (dOp kMod (dCb kIntOf (aCons (dOp kFdiv (dVar 2) (dC (.int 64))) aNil)) (dVar 1)))))) [some (stW z cells mixed draws), some (.int many), some (.int n), y] = some (.rt (.int k) true (some (stW z cells mixed draws) :: δ)) := by
  have p := h.hm2
  have b1 : 0 ≤ (n * z.b + z.c).fmod z.m2 := Int.fmod_nonneg_of_pos _ p.1
  have b2 : (n * z.b + z.c).fmod z.m2 < z.m2 := Int.fmod_lt_of_pos _ p.1
  have s1 := dr9 z h (some (stW z cells mixed draws)) (some (.int many)) y n
  generalize (n * z.b + z.c).fmod z.m2 = n1 at s1 b1 b2
  have s2 := dr10 z h cells mixed draws (some (.int many)) y n1 (by omega)
  generalize (n1 * n1 + z.d * draws + z.e).fmod z.m3 = n2 at s2
  have s3 := dr11 z h (some (stW z cells mixed draws)) (some (.int many)) y n2
  generalize (n2 * z.f).fmod z.m4 = n3 at s3
  refine ⟨(n3.fdiv 64).fmod many, Int.fmod_nonneg_of_pos _ (by omega), Int.fmod_lt_of_pos _ (by omega), [some (.int many), some (.int n3), y], ?_⟩
  rw [sSeq, s1]
  show (sSeq _ _ _) = _
  rw [sSeq, s2]
  show (sSeq _ _ _) = _
  rw [sSeq, s3]
  exact dr12 _ _ _ _ hm
/-- one draw: some number below many; the cells don't become more -/
theorem draw_ok (z : DkC) (h : z.Ok) (D : Dk) (many : Int) (hl : D.cells.length ≤ 1000) (hm : 1 ≤ many ∧ many < 2 ^ 29) : ∃ k D', 0 ≤ k ∧ k < many ∧ D'.cells.length ≤ D.cells.length ∧ bodyM 4 1 (tDraw z) (D.w z) [.int many] = some (.int k, true, Dk.w z D') := by
  obtain ⟨cells, mixed, draws⟩ := D
  have st : start0 4 [stW z cells mixed draws, .int many] = [some (stW z cells mixed draws), some (.int many), none, none] := rfl
  have fin : ∀ {k δ cells' mixed' draws'}, tDraw z (start0 4 [stW z cells mixed draws, .int many]) = some (.rt (.int k) true (some (stW z cells' mixed' draws') :: δ)) → bodyM 4 1 (tDraw z) (stW z cells mixed draws) [.int many] = some (.int k, true, stW z cells' mixed' draws') := fun {k δ cells' mixed' draws'} e => by
    unfold bodyM
    rw [if_pos (show [W.int many].length = 1 from rfl), e]
    rfl
  have go : ∀ {k cells'}, 0 ≤ k → k < many → cells'.length ≤ cells.length → (∃ δ, tDraw z (start0 4 [stW z cells mixed draws, .int many]) = some (.rt (.int k) true (some (stW z cells' mixed (draws + 1)) :: δ))) →
      ∃ k D', 0 ≤ k ∧ k < many ∧ D'.cells.length ≤ cells.length ∧ bodyM 4 1 (tDraw z) (stW z cells mixed draws) [.int many] = some (.int k, true, Dk.w z D') := fun {k cells'} a b c ⟨δ, e⟩ => ⟨k, ⟨cells', mixed, draws + 1⟩, a, b, c, fin e⟩
  rw [st] at go
  have head : tDraw z [some (stW z cells mixed draws), some (.int many), none, none] = ((sIf [] (bTest (dOp kNe (dDGet (dVar 0) (dC (.str z.k0))) (dLst aNil)))
  (sSeq (sAsg [0] [0] [0] 3 (dOpAt 0 (pKey 0 (pVar 0) (dC (.str z.k0))) opPop aNil))
  (sSeq (sIf [0] (bTest (dOp kGe (dVar 3) (dOp kPow (dC (.int 10)) (dC (.int 18)))))
  (sSeq (sDrop [0] (dOpAt 0 (pKey 0 (pVar 0) (dC (.str z.k0))) opAppend (aCons (dOp kFdiv (dVar 3) (dCb kMax2 (aCons (dC (.int 2)) (aCons (dVar 1) aNil)))) aNil)))
  (sRet [0] [0] (dOp kMod (dCb kIntOf (aCons (dVar 3) aNil)) (dVar 1))))
  sNext)
  (sAsg [0] [0] [0] 2 (dOp kAdd (dVar 2) (dOp kMod (dCb kIntOf (aCons (dVar 3) aNil)) (dC (.int z.m1)))))))
  sNext) [some (stW z cells mixed (draws + 1)), some (.int many), some (.int (mixed + z.a * (draws + 1))), none]).bind fun r => match r with
    | .nx δ1 => (sSeq (sAsg [0] [0] [0] 2 (dOp kMod (dCb kIntOf (aCons (dOp kAdd (dOp kMul (dVar 2) (dC (.int z.b))) (dC (.int z.c))) aNil)) (dC (.int z.m2))))
  (sSeq (sAsg [0] [] [0] 2 (dOp kMod (dCb kIntOf (aCons (dOp kAdd (dOp kAdd (dOp kMul (dVar 2) (dVar 2)) (dOp kMul (dC (.int z.d)) (dDGet (dVar 0) (dC (.str z.k2))))) (dC (.int z.e))) aNil)) (dC (.int z.m3))))
  (sSeq (sAsg [0] [0] [0] 2 (dOp kMod (dCb kIntOf (aCons (dOp kMul (dVar 2) (dC (.int z.f))) aNil)) (dC (.int z.m4))))
  (sRet [0] [0] (dOp kMod (dCb kIntOf (aCons (dOp kFdiv (dVar 2) (dC (.int 64))) aNil)) (dVar 1)))))) δ1
    | r => some r := by
    unfold tDraw
    rw [sSeq, dr1 z h]
    show (sSeq _ _ _) = _
    rw [sSeq, dr2 z h]
    rfl
  rw [head, sIf, dr3 z h] at go
  by_cases hc : cells = []
  · subst hc
    obtain ⟨k, k0, k1, δ, e⟩ := dr_tail z h [] mixed (draws + 1) many (mixed + z.a * (draws + 1)) none hm.1
    exact go (cells' := []) k0 k1 (Nat.le_refl _) ⟨δ, e⟩
  · obtain ⟨cs, c, rfl⟩ : ∃ cs c, cells = cs ++ [c] := ⟨cells.dropLast, cells.getLast hc, (List.dropLast_concat_getLast hc).symm⟩
    have hl' : cs.length ≤ 1000 := by have := hl; simp at this; omega
    have e1 : (!decide (cs ++ [c] = [])) = true := by simp
    rw [e1] at go
    have e4 := dr4 z h cs c mixed (draws + 1) many (some (.int (mixed + z.a * (draws + 1)))) none hl'
    by_cases hb : 10 ^ 18 ≤ c
    · obtain ⟨q, e6⟩ := dr6 z h cs c mixed (draws + 1) many (some (.int (mixed + z.a * (draws + 1)))) hl' hm
      refine go (k := c.fmod many) (cells' := cs ++ [q]) (Int.fmod_nonneg_of_pos _ (by omega)) (Int.fmod_lt_of_pos _ (by omega)) (by simp) ⟨[some (.int many), some (.int (mixed + z.a * (draws + 1))), some (.int c)], ?_⟩
      show ((sSeq _ _ _).bind _) = _
      rw [sSeq, e4]
      show ((sSeq _ _ _).bind _) = _
      rw [sSeq, sIf, dr5, decide_eq_true hb]
      show (((sSeq _ _ _).bind _).bind _) = _
      rw [sSeq, e6]
      show (((sRet _ _ _ _).bind _).bind _) = _
      rw [dr7 _ _ _ _ hm.1]
      rfl
    · obtain ⟨k, k0, k1, δ, e⟩ := dr_tail z h cs mixed (draws + 1) many (mixed + z.a * (draws + 1) + c.fmod z.m1) (some (.int c)) hm.1
      refine go (cells' := cs) k0 k1 (by simp) ⟨δ, ?_⟩
      rw [← e]
      show ((sSeq _ _ _).bind _) = _
      rw [sSeq, e4]
      show ((sSeq _ _ _).bind _) = _
      rw [sSeq, sIf, dr5, decide_eq_false hb]
      show ((sAsg _ _ _ _ _ _).bind _) = _
      rw [dr8 z h]
      rfl
structure DkI where
  a : Int
  m : Int
  p : Int
  q : Int
  r : Int
structure DkI.Ok (y : DkI) : Prop where
  hm : y.m.natAbs < 2 ^ 64
  hp : y.p ≠ 0
  hr : y.r ≠ 0
theorem imms_ints (ns : List Int) : W.imms (ns.map W.int) = true := imms_map (fun _ => rfl) ns
/-- F draws from decks of the kind z -/
def Draws (z : DkC) (F : FnM) : Prop := ∀ (D : Dk) (many : Int), D.cells.length ≤ 1000 → 1 ≤ many → many < 2 ^ 29 → ∃ k D', 0 ≤ k ∧ k < many ∧ D'.cells.length ≤ D.cells.length ∧ F (D.w z) [.int many] = some (.int k, true, Dk.w z D')
theorem draws_of (z : DkC) (h : z.Ok) : Draws z (bodyM 4 1 (tDraw z)) := fun D many hl h1 h2 => draw_ok z h D many hl ⟨h1, h2⟩
end Dv
set_option Elab.async false
set_option linter.all false
set_option maxRecDepth 100000
set_option maxHeartbeats 4000000
namespace Dv
open PySem PySem.Spec PyProof.Rows L2
theorem filter_t {α : Type} (xs : List α) : xs.filter (fun _ => true) = xs := List.filter_eq_self.mpr fun _ _ => rfl
theorem set_set {δ : Env} {i : Nat} {x y : Option W} : (δ.set i x).set i y = δ.set i y := List.set_set ..
theorem set_back {δ : Env} {i : Nat} (h : i < δ.length) : δ.set i (δ.getD i none) = δ := by
  refine List.ext_getElem? fun j => ?_
  by_cases c : i = j
  · subst c
    rw [List.getElem?_set_self h, getD_none h]
  · rw [List.getElem?_set_ne c]
theorem lc_go1 {α : Type} (enc : α → W) {i : Nat} {test : DenT} {elt : Den} {M : Own} {δ : Env} (hi : i < δ.length) (p : α → Bool) (f : α → W) : ∀ xs : List α, (∀ x ∈ xs, test M (δ.set i (some (enc x))) = some (p x, δ.set i (some (enc x)))) → (∀ x ∈ xs, p x = true → elt M (δ.set i (some (enc x))) = some (f x, true, δ.set i (some (enc x)))) →
    lcGo [i] (gNm i) test elt M (xs.map enc) (δ.set i none) = some ((xs.filter p).map f, true, δ.set i none)
  | [], ht, he => rfl
  | x :: xs, ht, he => by
    have ih := lc_go1 enc hi p f xs (fun y hy => ht y (List.mem_cons_of_mem _ hy)) (fun y hy => he y (List.mem_cons_of_mem _ hy))
    have t1 := ht x (List.mem_cons_self ..)
    show (gNm i (enc x) (δ.set i none)).bind _ = _
    unfold gNm
    rw [if_pos (by rw [List.length_set]; exact hi), set_set]
    show (test M (δ.set i (some (enc x)))).bind _ = _
    rw [t1]
    show (if p x = true then _ else _) = _
    cases c : p x with
    | true =>
      rw [if_pos rfl]
      have e1 := he x (List.mem_cons_self ..) c
      show (elt M (δ.set i (some (enc x)))).bind _ = _
      rw [e1]
      show (lcGo [i] (gNm i) test elt M (xs.map enc) ((δ.set i (some (enc x))).set i none)).map _ = _
      rw [set_set, ih, List.filter_cons, if_pos c]
      rfl
    | false =>
      rw [if_neg (by decide)]
      show lcGo [i] (gNm i) test elt M (xs.map enc) ((δ.set i (some (enc x))).set i none) = _
      rw [set_set, ih, List.filter_cons, if_neg (by rw [c]; decide)]
/-- pairs -/
theorem lc_go2 {α : Type} (e1 e2 : α → W) {i j : Nat} {test : DenT} {elt : Den} {M : Own} {δ : Env} (hij : i ≠ j) (hi : i < δ.length) (hj : j < δ.length) (p : α → Bool) (f : α → W) : ∀ xs : List α, (∀ x ∈ xs, test M ((δ.set i (some (e1 x))).set j (some (e2 x))) = some (p x, (δ.set i (some (e1 x))).set j (some (e2 x)))) → (∀ x ∈ xs, p x = true → elt M ((δ.set i (some (e1 x))).set j (some (e2 x))) = some (f x, true, (δ.set i (some (e1 x))).set j (some (e2 x)))) →
    lcGo [i, j] (gTp 2 (gConsW (gNm i) (gConsW (gNm j) gNilW))) test elt M (xs.map fun x => W.tup [e1 x, e2 x]) ((δ.set j none).set i none) = some ((xs.filter p).map f, true, (δ.set j none).set i none)
  | [], ht, he => rfl
  | x :: xs, ht, he => by
    have ih := lc_go2 e1 e2 hij hi hj p f xs (fun y hy => ht y (List.mem_cons_of_mem _ hy)) (fun y hy => he y (List.mem_cons_of_mem _ hy))
    have t1 := ht x (List.mem_cons_self ..)
    have env : (((δ.set j none).set i none).set i (some (e1 x))).set j (some (e2 x)) = (δ.set i (some (e1 x))).set j (some (e2 x)) := by
      rw [set_set, List.set_comm _ _ hij, set_set, List.set_comm _ _ hij.symm]
    have wp : (((δ.set i (some (e1 x))).set j (some (e2 x))).set j none).set i none = (δ.set j none).set i none := by
      rw [set_set, List.set_comm _ _ hij, set_set]
    show (Option.bind _ _) = _
    have tg : gTp 2 (gConsW (gNm i) (gConsW (gNm j) gNilW)) (.tup [e1 x, e2 x]) ((δ.set j none).set i none) = some ((δ.set i (some (e1 x))).set j (some (e2 x))) := by
      rw [← env]
      unfold gTp
      show (if [e1 x, e2 x].length = 2 then _ else _) = _
      rw [if_pos (show [e1 x, e2 x].length = 2 from rfl)]
      show (gNm i (e1 x) _).bind _ = _
      unfold gNm
      rw [if_pos (by rw [List.length_set, List.length_set]; exact hi)]
      show ((if j < (((δ.set j none).set i none).set i (some (e1 x))).length then some ((((δ.set j none).set i none).set i (some (e1 x))).set j (some (e2 x))) else none).bind _) = _
      rw [if_pos (by rw [List.length_set, List.length_set, List.length_set]; exact hj)]
      rfl
    show ((gTp 2 (gConsW (gNm i) (gConsW (gNm j) gNilW)) (.tup [e1 x, e2 x]) ((δ.set j none).set i none)).bind _) = _
    rw [tg]
    show (test M _).bind _ = _
    rw [t1]
    show (if p x = true then _ else _) = _
    cases c : p x with
    | true =>
      rw [if_pos rfl]
      have h1 := he x (List.mem_cons_self ..) c
      show (elt M _).bind _ = _
      rw [h1]
      show (lcGo _ _ test elt M (xs.map _) ((((δ.set i (some (e1 x))).set j (some (e2 x))).set j none).set i none)).map _ = _
      rw [wp, ih, List.filter_cons, if_pos c]
      rfl
    | false =>
      rw [if_neg (by decide)]
      show lcGo _ _ test elt M (xs.map _) ((((δ.set i (some (e1 x))).set j (some (e2 x))).set j none).set i none) = _
      rw [wp, ih, List.filter_cons, if_neg (by rw [c]; decide)]
theorem bls_map {α : Type} (b : α → Bool) : ∀ xs : List α, blsW (xs.map fun x => W.bl (b x)) = some (xs.map b)
  | [] => rfl
  | x :: xs => by
    show (blsW (xs.map fun x => W.bl (b x))).map _ = _
    rw [bls_map b xs]
    rfl
theorem kAll_map {α : Type} (b : α → Bool) (xs : List α) : kAll [.lst (xs.map fun x => W.bl (b x))] = some (.bl (xs.all b), true) := by
  show (blsW _).map _ = _
  rw [bls_map]
  show some (W.bl ((xs.map b).all id), true) = _
  rw [List.all_map]
  rfl
theorem kAny_map {α : Type} (b : α → Bool) (xs : List α) : kAny [.lst (xs.map fun x => W.bl (b x))] = some (.bl (xs.any b), true) := by
  show (blsW _).map _ = _
  rw [bls_map]
  show some (W.bl ((xs.map b).any id), true) = _
  rw [List.any_map]
  rfl
end Dv
set_option Elab.async false
set_option linter.all false
set_option maxRecDepth 100000
set_option maxHeartbeats 4000000
namespace Dv
open PySem PySem.Spec PyProof.Rows L2
abbrev tI (xs : List Int) : W := .tup (xs.map .int)
def ltI : List Int → List Int → Bool
  | [], [] => false
  | [], _ :: _ => true
  | _ :: _, [] => false
  | x :: xs, y :: ys => decide (x < y) || (!decide (y < x) && ltI xs ys)
theorem shp_tI {n : Nat} (xs : List Int) : (tI xs).shp (n + 1) = true := shp_mono (shp_tup shp_ints) (by omega)
theorem eqW_tI (xs ys : List Int) : eqW (tI xs) (tI ys) = decide (xs = ys) := eqW_tup eqW_int xs ys
theorem kIn_tup {α : Type} [DecidableEq α] {f : α → W} (h : ∀ a b, eqW (f a) (f b) = decide (a = b)) (hs : ∀ a, (f a).shp 59 = true) (neg : Bool) (x : α) (xs : List α) : kIn neg (f x) (.tup (xs.map f)) = some (.bl (xor neg (decide (x ∈ xs))), true) := by
  unfold kIn
  have h1 : (f x).shp 60 = true := shp_mono (hs x) (by decide)
  have h2 : (W.tup (xs.map f)).shp 60 = true := shp_tup fun w hw => by
    obtain ⟨a, _, rfl⟩ := List.mem_map.mp hw
    exact hs a
  show (if _ then _ else _) = _
  rw [h1, h2, inW_map h]
  cases neg <;> simp
theorem kIn_lst {α : Type} [DecidableEq α] {f : α → W} (h : ∀ a b, eqW (f a) (f b) = decide (a = b)) (hs : ∀ a, (f a).shp 59 = true) (neg : Bool) (x : α) (xs : List α) : kIn neg (f x) (.lst (xs.map f)) = some (.bl (xor neg (decide (x ∈ xs))), true) := by
  unfold kIn
  have h1 : (f x).shp 60 = true := shp_mono (hs x) (by decide)
  have h2 : (W.lst (xs.map f)).shp 60 = true := shp_lst fun w hw => by
    obtain ⟨a, _, rfl⟩ := List.mem_map.mp hw
    exact hs a
  show (if _ then _ else _) = _
  rw [h1, h2, inW_map h]
  cases neg <;> simp
def sortI (xs : List Int) : List Int := xs.mergeSort fun a b => decide (a ≤ b)
end Dv
set_option Elab.async false
set_option linter.all false
set_option maxRecDepth 100000
set_option maxHeartbeats 4000000
namespace Dv
open PySem PySem.Spec PyProof.Rows L2
end Dv
set_option Elab.async false
set_option linter.all false
set_option maxRecDepth 100000
set_option maxHeartbeats 4000000
namespace Dv
open PySem PySem.Spec PyProof.Rows L2
end Dv
set_option Elab.async false
set_option linter.all false
set_option maxRecDepth 100000
set_option maxHeartbeats 4000000
namespace Dv
open PySem PySem.Spec PyProof.Rows L2
theorem gNm_ok {i : Nat} {w : W} {δ : Env} (h : i < δ.length) : gNm i w δ = some (δ.set i (some w)) := by
  unfold gNm
  rw [if_pos h]
end Dv
set_option Elab.async false
set_option linter.all false
set_option maxRecDepth 100000
set_option maxHeartbeats 4000000
namespace Dv
open PySem PySem.Spec PyProof.Rows L2
/-- two sorted lists of the same things -/
theorem sorted_eq {α : Type} {le : α → α → Prop} (anti : ∀ a b, le a b → le b a → a = b) : ∀ {xs ys : List α}, xs.Pairwise le → ys.Pairwise le → xs.Perm ys → xs = ys
  | [], ys, _, _, p => by rw [List.Perm.nil_eq p]
  | x :: xs, [], _, _, p => absurd p.length_eq (by simp)
  | x :: xs, y :: ys, hx, hy, p => by
    have e : x = y := by
      have m1 : x ∈ y :: ys := p.mem_iff.mp (List.mem_cons_self ..)
      have m2 : y ∈ x :: xs := p.mem_iff.mpr (List.mem_cons_self ..)
      rcases List.mem_cons.mp m1 with h | h
      · exact h
      · rcases List.mem_cons.mp m2 with h' | h'
        · exact h'.symm
        · exact anti x y ((List.pairwise_cons.mp hx).1 y h') ((List.pairwise_cons.mp hy).1 x h)
    subst e
    rw [sorted_eq anti (List.pairwise_cons.mp hx).2 (List.pairwise_cons.mp hy).2 (List.Perm.cons_inv p)]
theorem sortI_perm (xs : List Int) : (sortI xs).Perm xs := List.mergeSort_perm ..
theorem sortI_sorted (xs : List Int) : (sortI xs).Pairwise (· ≤ ·) := by
  have := List.pairwise_mergeSort (le := fun a b : Int => decide (a ≤ b)) (fun a b c h1 h2 => by simp at *; omega) (fun a b => by simp; omega) xs
  exact this.imp fun h => of_decide_eq_true h
theorem sortI_eq {xs ys : List Int} (h : xs.Perm ys) (hs : ys.Pairwise (· < ·)) : sortI xs = ys :=
  sorted_eq (fun a b h1 h2 => by omega) (sortI_sorted xs) (hs.imp fun h => Int.le_of_lt h) ((sortI_perm xs).trans h)
end Dv
set_option Elab.async false
set_option linter.all false
set_option maxRecDepth 100000
set_option maxHeartbeats 4000000
namespace Dv
open PySem PySem.Spec PyProof.Rows L2
structure DOk (ks : List Key) (ws : List W) : Prop where
  nd : ks.Nodup
  len : ks.length = ws.length
  im : W.imms ws = true
theorem DOk.nil : DOk [] [] := ⟨List.nodup_nil, rfl, rfl⟩
end Dv
namespace Dv
open PySem PySem.Spec PyProof.Rows L2
end Dv
set_option Elab.async false
set_option linter.all false
set_option maxRecDepth 100000
set_option maxHeartbeats 4000000
namespace Dv
open PySem PySem.Spec PyProof.Rows L2
end Dv
set_option Elab.async false
set_option linter.all false
set_option maxRecDepth 100000
set_option maxHeartbeats 4000000
namespace Dv
open PySem PySem.Spec PyProof.Rows L2 DvR PySem.W
section
variable {prog : Program} {w : World} {A : Around} {E : Value → Shared → Prop} {s : Shared}
theorem min_seqW {l : Addr} {vs : Array Value} {ds : List PyData} {as : List Addr} {Q : Value → Shared → Prop} (hh : A.handled = none) (hl : s.heap.IsList l vs ∨ s.heap.IsTuple l vs) (hr : ReadsAll s.heap vs.toList ds as) (ha : AlikeAll ds) (hu : A.units + 1 + PyData.depthAll ds < cLine) (h0 : 0 < ds.length)
    (h : ∀ v h' tk, vs[argBest (fun i j => dataLt (ds.getD i .none) (ds.getD j .none)) (ds.length - 1)]? = some v → (∀ b o, s.heap.get? b = some o → h'.get? b = some o) → Q v { s with heap := h', toks := tk }) :
    wpAny (model prog w) A (call (.builtin "min") [.ref l]) Q E s := by
  have hn : vs.size = ds.length := readsAll_len hr
  rcases hl with hl | hl
  · refine call_min_walkH (iter_listW (A := A.in1) hh hl fun s₂ e W st hfp hw hk => ?_)
    refine ⟨_, _, _, _, _, _, _, s.heap, _, rfl, W, st, hfp, by omega, hw, hk, cmpIn_lt (A := A.in1) hr ha (by show A.units + 1 + _ < _; exact hu), fun v s' hP m => ?_⟩
    obtain ⟨h', tk, rfl, hk'⟩ := moved_old e rfl m
    rw [hn] at hP
    exact h v h' tk hP hk'
  · refine call_min_walkH (iter_tupleW (A := A.in1) hh hl fun s₂ e W st hfp hw hk => ?_)
    refine ⟨_, _, _, _, _, _, _, s.heap, _, rfl, W, st, hfp, by omega, hw, hk, cmpIn_lt (A := A.in1) hr ha (by show A.units + 1 + _ < _; exact hu), fun v s' hP m => ?_⟩
    obtain ⟨h', tk, rfl, hk'⟩ := moved_old e rfl m
    rw [hn] at hP
    exact h v h' tk hP hk'
theorem max_seqW {l : Addr} {vs : Array Value} {ds : List PyData} {as : List Addr} {Q : Value → Shared → Prop} (hh : A.handled = none) (hl : s.heap.IsList l vs ∨ s.heap.IsTuple l vs) (hr : ReadsAll s.heap vs.toList ds as) (ha : AlikeAll ds) (hu : A.units + 1 + PyData.depthAll ds < cLine) (h0 : 0 < ds.length)
    (h : ∀ v h' tk, vs[argBest (fun i j => dataLt (ds.getD j .none) (ds.getD i .none)) (ds.length - 1)]? = some v → (∀ b o, s.heap.get? b = some o → h'.get? b = some o) → Q v { s with heap := h', toks := tk }) :
    wpAny (model prog w) A (call (.builtin "max") [.ref l]) Q E s := by
  have hn : vs.size = ds.length := readsAll_len hr
  rcases hl with hl | hl
  · refine call_max_walkH (iter_listW (A := A.in1) hh hl fun s₂ e W st hfp hw hk => ?_)
    refine ⟨_, _, _, _, _, _, _, s.heap, _, rfl, W, st, hfp, by omega, hw, hk, cmpIn_gt (A := A.in1) hr ha (by show A.units + 1 + _ < _; exact hu), fun v s' hP m => ?_⟩
    obtain ⟨h', tk, rfl, hk'⟩ := moved_old e rfl m
    rw [hn] at hP
    exact h v h' tk hP hk'
  · refine call_max_walkH (iter_tupleW (A := A.in1) hh hl fun s₂ e W st hfp hw hk => ?_)
    refine ⟨_, _, _, _, _, _, _, s.heap, _, rfl, W, st, hfp, by omega, hw, hk, cmpIn_gt (A := A.in1) hr ha (by show A.units + 1 + _ < _; exact hu), fun v s' hP m => ?_⟩
    obtain ⟨h', tk, rfl, hk'⟩ := moved_old e rfl m
    rw [hn] at hP
    exact h v h' tk hP hk'
theorem readsAll_of {h : Heap} : ∀ {vs : List Value} {ds : List PyData}, EachIs (fun v d => ∃ as, Reads h v d as) vs ds → ∃ as, ReadsAll h vs ds as
  | _, _, .nil => ⟨[], .nil⟩
  | _, _, .cons ⟨as, r⟩ t => by
    obtain ⟨bs, r2⟩ := readsAll_of t
    exact ⟨_, .cons r r2⟩
theorem depthAll_le {n : Nat} : ∀ {ds : List PyData}, (∀ d ∈ ds, d.depth ≤ n) → PyData.depthAll ds ≤ n
  | [], _ => Nat.zero_le _
  | d :: ds, h => Nat.max_le.mpr ⟨h d (List.mem_cons_self ..), depthAll_le fun x hx => h x (List.mem_cons_of_mem _ hx)⟩
end
section
variable {X : Cx} {K : PySem.W.Frag}
/-- the first of the least (mx: of the greatest) of the items' data -/
def bestIx (mx : Bool) (ws : List W) : Nat := argBest (fun i j => if mx then dataLt ((ws.map W.py).getD j .none) ((ws.map W.py).getD i .none) else dataLt ((ws.map W.py).getD i .none) ((ws.map W.py).getD j .none)) (ws.length - 1)
def rBest (mx : Bool) (K : PySem.W.Frag) : RC := fun xs H Q => ∃ (a : Addr) (ws : List W) (vs : List V) (A : List Addr), xs = [.ref a] ∧ (SqL K H a vs ∨ SqT K H a vs) ∧ Rps K H ws vs A ∧ W.plains ws = true ∧ AlikeAll (ws.map W.py) ∧
  (∀ d ∈ ws.map W.py, d.depth ≤ 60) ∧ 0 < ws.length ∧ ∀ v w, vs[bestIx mx ws]? = some v → ws[bestIx mx ws]? = some w → Q v H
theorem vals_get {vs : List V} {us : List Value} (r : Vals vs us) {i : Nat} {u : Value} (h : us[i]? = some u) : ∃ v, vs[i]? = some v ∧ RelV v u := by
  induction r generalizing i with
  | nil => simp at h
  | cons h1 t ih =>
    cases i with
    | zero =>
      simp at h
      subst h
      exact ⟨_, rfl, h1⟩
    | succ i => exact ih (by simpa using h)
theorem rps_get {G : Hp} : ∀ {ws : List W} {vs : List V} {A : List Addr} {i : Nat} {v : V}, Rps K G ws vs A → vs[i]? = some v → ∃ w B, ws[i]? = some w ∧ Rp K G w v B
  | [], vs, A, i, v, h, e => by
    unfold Rps at h
    rw [h.1] at e
    simp at e
  | w :: ws, vs, A, i, v, h, e => by
    unfold Rps at h
    obtain ⟨v1, vr, B, C, rfl, rfl, h1, h2⟩ := h
    cases i with
    | zero =>
      simp at e
      subst e
      exact ⟨w, B, rfl, h1⟩
    | succ i =>
      have e' : vr[i]? = some v := by simpa using e
      obtain ⟨w', B', a, b⟩ := rps_get (ws := ws) h2 e'
      exact ⟨w', B', by simpa using a, b⟩
theorem call_best (mx : Bool) (hc : X.calm = true) (hu : X.A.units + 64 < cLine) : CallR X (.builtin (if mx then "max" else "min")) (rBest mx X.K) := by
  intro pins s σ H xs us Q I r h
  obtain ⟨a, ws, vs, A, rfl, hs, rp, pl, al, dp, h0, q⟩ := h
  rw [Vals.ref1 r]
  obtain ⟨its, rv, hl⟩ : ∃ its : List Value, Vals vs its ∧ (s.heap.IsList a its.toArray ∨ s.heap.IsTuple a its.toArray) := by
    rcases hs with hs | hs
    · obtain ⟨its, rv, p, _⟩ := I.list hs
      exact ⟨its, rv, .inl p.isList⟩
    · obtain ⟨its, rv, p, _⟩ := I.tuple hs
      exact ⟨its, rv, .inr p⟩
  have e := rps_each rp rv
  have er : EachIs (fun v w => ∃ as, Reads s.heap v (W.py w) as) its ws := eachIs_mem e fun u w m ⟨v, A, h1, h2⟩ => Dp.reads I w.py v u (Rp.dp w v A (plains_mem pl m) h2) h1
  have er3 : EachIs (fun v d => ∃ as, Reads s.heap v d as) its (ws.map W.py) := each_map (R := fun v d => ∃ as, Reads s.heap v d as) W.py er
  obtain ⟨as, hr⟩ := readsAll_of er3
  have hr' : ReadsAll s.heap its.toArray.toList (ws.map W.py) as := by simpa using hr
  have hd := depthAll_le dp
  have fin : ∀ v h' tk, its.toArray[bestIx mx ws]? = some v → (∀ b o, s.heap.get? b = some o → h'.get? b = some o) → EP X pins σ Q v { s with heap := h', toks := tk } := by
    intro v h' tk hv hk
    have hv' : its[bestIx mx ws]? = some v := by simpa using hv
    obtain ⟨x, e1, e2⟩ := vals_get rv hv'
    obtain ⟨w, B, e3, _⟩ := rps_get rp e1
    exact ⟨x, H, I.kept hk, e2, q x w e1 e3⟩
  have hlen : (ws.map W.py).length = ws.length := List.length_map ..
  cases mx
  · refine min_seqW (I.ok.hd hc) hl hr' al (by omega) (by rw [hlen]; exact h0) fun v h' tk hv hk => fin v h' tk ?_ hk
    rw [hlen] at hv
    exact hv
  · refine max_seqW (I.ok.hd hc) hl hr' al (by omega) (by rw [hlen]; exact h0) fun v h' tk hv hk => fin v h' tk ?_ hk
    rw [hlen] at hv
    exact hv
/-- data that can be compared: plain, alike, no None, not too deep, unmutable -/
def W.canBest (ws : List W) : Bool := W.plains ws && (ws.all fun a => ws.all fun b => alike a.py b.py) && (ws.all fun a => !isNonW a) && (ws.all fun a => decide (a.py.depth ≤ 60)) && W.imms ws
theorem canBest_ok {ws : List W} (h : W.canBest ws = true) : W.plains ws = true ∧ AlikeAll (ws.map W.py) ∧ (∀ d ∈ ws.map W.py, d.depth ≤ 60) ∧ W.imms ws = true := by
  unfold W.canBest at h
  simp only [Bool.and_eq_true] at h
  obtain ⟨⟨⟨⟨h1, h2⟩, h3⟩, h4⟩, h5⟩ := h
  refine ⟨h1, ⟨fun x hx y hy => ?_, fun x hx z => ?_⟩, fun d hd => ?_, h5⟩
  · obtain ⟨a, ha, rfl⟩ := List.mem_map.mp hx
    obtain ⟨b, hb, rfl⟩ := List.mem_map.mp hy
    exact List.all_eq_true.mp (List.all_eq_true.mp h2 a ha) b hb
  · obtain ⟨a, ha, rfl⟩ := List.mem_map.mp hx
    have := List.all_eq_true.mp h3 a ha
    rw [py_none z] at this
    simp [isNonW] at this
  · obtain ⟨a, ha, rfl⟩ := List.mem_map.mp hd
    exact of_decide_eq_true (List.all_eq_true.mp h4 a ha)
def kBest1 (mx : Bool) (w : W) : Option (W × Bool) := (itemsOf w).bind fun ws => if W.canBest ws then (ws[bestIx mx ws]?).map fun x => (x, true) else none
def kBest (mx : Bool) (ws : List W) : Option (W × Bool) := match ws with | [w] => kBest1 mx w | _ => none
theorem w_best (mx : Bool) : RCW K (rBest mx K) (kBest mx) := RCW.one fun {M G H φ σ δ w1 v1 A1 w fr} s q1 e Q P => by
  unfold kBest1 at e
  obtain ⟨ws, e1, e⟩ := Option.bind_eq_some_iff.mp e
  split at e
  · rename_i hc
    obtain ⟨x, e2, e⟩ := Option.map_eq_some_iff.mp e
    cases e
    obtain ⟨h1, h2, h3, h4⟩ := canBest_ok hc
    obtain ⟨a, vs, B, rfl, ha, r1⟩ := items_rel e1 q1
    have hlt := (List.getElem?_eq_some_iff.mp e2).1
    refine ⟨a, ws, vs, B, rfl, sq_ex s.sub ha, r1.mono s.sub, h1, h2, h3, Nat.lt_of_le_of_lt (Nat.zero_le _) hlt, fun v w2 ev ew => ?_⟩
    obtain ⟨w', B', ew', rw'⟩ := rps_get r1 ev
    rw [e2] at ew'
    cases ew'
    have im := imms_mem.mp h4 _ (List.mem_of_getElem? e2)
    exact P.obs s rw' fun _ => im
  · cases e
end
end Dv
set_option Elab.async false
set_option linter.all false
set_option maxRecDepth 100000
set_option maxHeartbeats 4000000
namespace Dv
open PySem PySem.Spec PyProof.Rows L2 DvR PySem.W
def keysOf : List W → Option (List Key)
  | [] => some []
  | w :: ws => w.key.bind fun k => (keysOf ws).map fun ks => k :: ks
def W.tkey : W → Option (List Key)
  | .tup ws => keysOf ws
  | _ => none
def Key.w : Key → W
  | .inl i => .int i
  | .inr x => .str x
/-- a key tuple as data -/
def tkW (k : List Key) : W := .tup (k.map Key.w)
/-- where a key stands -/
def ixT {α : Type} [DecidableEq α] (ks : List α) (k : α) : Option Nat := ks.findIdx? fun x => decide (x = k)
section
variable {K : PySem.W.Frag} {G H : Hp}
/-- what a dict says at a key: none: stuck, some none: not there -/
def W.look (w k : W) : Option (Option W) := match w with
  | .dk ks ws => k.key.map fun y => (ixT ks y).bind fun n => ws[n]?
  | .fk ks ws => k.key.map fun y => (ixT ks y).bind fun n => ws[n]?
  | .dt ks ws => k.tkey.map fun y => (ixT ks y).bind fun n => ws[n]?
  | .fd ks ws => k.tkey.map fun y => (ixT ks y).bind fun n => ws[n]?
  | _ => none
end
def W.isD : W → Bool
  | .dk _ _ => true
  | .fk _ _ => true
  | .dt _ _ => true
  | .fd _ _ => true
  | _ => false
def dLook (f fi : Den) : Den := fun M δ => (f M δ).bind fun r => (fi M r.2.2).bind fun k => (r.1.look k.1).bind fun o => o.map fun w => (w, w.imm, k.2.2)
def dGet1 (f fi : Den) : Den := fun M δ => (f M δ).bind fun r => if r.1.isD = true then (fi M r.2.2).bind fun k => (r.1.look k.1).map fun o => ((o.getD .non), (o.getD .non).imm, k.2.2) else none
def dGet2 (f fi fx : Den) : Den := fun M δ => (f M δ).bind fun r => if r.1.isD = true then (fi M r.2.2).bind fun k => (fx M k.2.2).bind fun x => (r.1.look k.1).map fun o => ((o.getD x.1), (o.getD x.1).imm, x.2.2) else none
def dLookIn (neg : Bool) (fi f : Den) : Den := fun M δ => (fi M δ).bind fun k => (f M k.2.2).bind fun r => (r.1.look k.1).map fun o => (.bl (xor neg o.isSome), true, r.2.2)
section
variable {K : PySem.W.Frag}
/-- {} for tuple keys -/
def dTNew : Den := fun _ δ => some (.dt [] [], true, δ)
end
def dtPut {α : Type} [DecidableEq α] (ks : List α) (ws : List W) (k : α) (w : W) : List α × List W := match ixT ks k with
  | some n => (ks, ws.set n w)
  | none => (ks ++ [k], ws ++ [w])
section
variable {K : PySem.W.Frag} {P L l ms : List Nat}
def iKeysD (f : Den) : DenI := fun M δ => (f M δ).bind fun r => match r.1 with
  | .fd ks _ => some (ks.map tkW, r.2.2)
  | .fk ks _ => some (ks.map Key.w, r.2.2)
  | _ => none
end
end Dv
set_option Elab.async false
set_option linter.all false
set_option maxRecDepth 100000
set_option maxHeartbeats 4000000
namespace Dv
open PySem PySem.Spec PyProof.Rows L2 DvR PySem.W
end Dv
set_option Elab.async false
set_option linter.all false
set_option maxRecDepth 100000
set_option maxHeartbeats 4000000
namespace Dv
open PySem PySem.Spec PyProof.Rows L2 DvR PySem.W
section
variable {X : Cx}
theorem call_minW (hc : X.calm = true) (hu : X.A.units + 64 < cLine) : CallR X (.builtin "min") (rBest false X.K) := call_best false hc hu
end
end Dv
set_option Elab.async false
set_option linter.all false
set_option maxRecDepth 100000
set_option maxHeartbeats 4000000
namespace DvF
open PySem PySem.Spec PyProof.Rows L2
section
variable {X : Cx} {CX : CXT} {k : Nat} {f C : Addr} {fd : FuncData} {ps : List Str} {sp : Sp} {dvs : List V} {ds : List Value} {E : XK} {x m : Str} {p pos apos : Pos} {e o : Expr} {es : List Expr} {ta : TE} {t : TA}
/-- o.m(e, ..) -/
theorem pe_methg {pl : Sem Bool} (he : PE X o ta) (c : Cls X.K C) (hm : Meth X.K C m f) (F : FnG X.prog X.w X.K X.mg X.base CX k f fd ps sp) (hgd : Grd X.A) (hr : Room k X.A) (hb : Binds X.K fd ps ds) (hd : Vals dvs ds) (hx : Passes CX X E) (ha : PA X (e :: es) t)
    (hst : starEach (e :: es) X.env = (false, eval e X.env) :: starEach es X.env := by rfl) (hpl : (backTo pos (starEach es X.env)).any (·.1) = false := by rfl)
    (ht : eval (.Call (.Attribute o m apos) (e :: es) [] pos) X.env = (do
      let ov ← eval o X.env
      standAt apos.atName
      let (f, first) ← holding [ov] (getMethod ov m pl)
      callWith pos f first (backTo pos (starEach (e :: es) X.env)) (backToKw pos (keywordEach [] X.env))) := by rfl) :
    PE X (.Call (.Attribute o m apos) (e :: es) [] pos) (tMeth C m sp dvs E ta t) := by
  refine ⟨fun pins s σ H Q I h => ?_⟩
  refine PySem.W.methodCall_KW (pl := pl) (thn (he.run pins s σ H _ I h) fun u s1 ⟨x, H1, I1, rx, a, dx, fs, ex, ea, l, q⟩ => ?_) ht
  subst ex
  obtain rfl : u = Value.ref a := rx
  refine getmeth_ok I1 ea c hm l ?_
  refine PySem.W.callWith_K (first := [.ref a]) (h₀ := X.base) I1.ok.mod.kin hm.kp (thn (ha.run pos pins s1 σ H1 _ I1 q) fun us s2 ⟨vs, H2, I2, r, q2⟩ => ⟨I2.kIn, ?_⟩) hst hpl
  exact callG (args := ⟨.ref a :: us, []⟩) (us := (.ref a :: us) ++ ds) (vs := (.ref a :: vs) ++ dvs) F hgd hr hx I2 (hb s2 (.ref a :: us) I2.kIn) (Vals.append (.cons rfl r) hd) q2
/-- o.m() -/
theorem pe_methg0 {pl : Sem Bool} (he : PE X o ta) (c : Cls X.K C) (hm : Meth X.K C m f) (F : FnG X.prog X.w X.K X.mg X.base CX k f fd ps sp) (hgd : Grd X.A) (hr : Room k X.A) (hb : Binds X.K fd ps ds) (hd : Vals dvs ds) (hx : Passes CX X E)
    (ht : eval (.Call (.Attribute o m apos) [] [] pos) X.env = (do
      let ov ← eval o X.env
      standAt apos.atName
      let (f, first) ← holding [ov] (getMethod ov m pl)
      callWith pos f first (backTo pos (starEach [] X.env)) (backToKw pos (keywordEach [] X.env))) := by rfl) :
    PE X (.Call (.Attribute o m apos) [] [] pos) (tMeth C m sp dvs E ta tNil) := by
  refine ⟨fun pins s σ H Q I h => ?_⟩
  refine PySem.W.methodCall_KW (pl := pl) (thn (he.run pins s σ H _ I h) fun u s1 ⟨x, H1, I1, rx, a, dx, fs, ex, ea, l, q⟩ => ?_) ht
  subst ex
  obtain rfl : u = Value.ref a := rx
  refine getmeth_ok I1 ea c hm l ?_
  exact PySem.W.callWith_K0 (first := [.ref a]) I1.kIn hm.kp (callG (args := ⟨[.ref a], []⟩) (us := [.ref a] ++ ds) (vs := [.ref a] ++ dvs) F hgd hr hx I1 (hb s1 [.ref a] I1.kIn) (Vals.append (show Vals [V.ref a] [Value.ref a] from .cons rfl .nil) hd) (show sp ([V.ref a] ++ dvs) H1 Q E from q))
/-- C(..) -/
theorem run_makeg {pins : List (Addr × Obj)} {σ : L2.St} {H : Hp} {s : Shared} {Q : VK} {us : List Value} {vs : List V} (M : Mk X.K C f) (F : FnG X.prog X.w X.K X.mg X.base CX k f fd ps sp) (hgd : Grd X.A) (hr : Room (k + 1) X.A) (hb : Binds X.K fd ps ds) (hd : Vals dvs ds)
    (hx : Passes CX X E) (I : Inv X pins σ H s) (r : Vals vs us)
    (h : ∀ x dx, H x = none → H dx = none → dx ≠ x → sp (.ref x :: (vs ++ dvs)) (upd (upd H dx (.own x)) x (.ins C dx [])) (fun v H2 => v = .non ∧ Q (.ref x) H2) E) :
    wpAny (model X.prog X.w) X.A (call (.ref C) us) (EP X pins σ Q) X.xe s := by
  have hq := h (s.heap.objs.size + 1) s.heap.objs.size (I.hok.fresh (Nat.le_succ _)) (I.hok.fresh (Nat.le_refl _)) (Nat.ne_of_lt (Nat.lt_succ_self _))
  have I2 := Inv.made (C := C) I
  have r2 : Vals (V.ref (s.heap.objs.size + 1) :: (vs ++ dvs)) (Value.ref (s.heap.objs.size + 1) :: (us ++ ds)) := .cons rfl (r.append hd)
  have hl : (Value.ref (s.heap.objs.size + 1) :: us ++ ds).length = ps.length := by
    have e := r2.length
    rw [F.many hq] at e
    exact e.symm
  have hg2 : Grd (X.A.under (.builtin "type.__call__" ⟨.ref C :: us, []⟩)) := by
    have : (X.A.under (.builtin "type.__call__" ⟨.ref C :: us, []⟩)).guards = X.A.guards := by
      first | rfl | simp [Around.under, Code.isFrame]
    exact this.trans hgd
  refine wpAny_call (make_map (f := f) I.kIn M.makes M.init (beq_iff_eq.mp M.fn) (codeAny_mono (F.runs (A := X.A.under (.builtin "type.__call__" ⟨.ref C :: us, []⟩)) (args := ⟨Value.ref (s.heap.objs.size + 1) :: us, []⟩) (us := Value.ref (s.heap.objs.size + 1) :: (us ++ ds)) hg2 (hr.make C us [])
    (I2.env0.make C us []) (hb _ (Value.ref (s.heap.objs.size + 1) :: us) I2.kIn hl) r2 hq) fun r s' hq' => ?_))
  cases r with
  | error e => exact hx pins σ _ _ e s' I2 hq'
  | ok fl =>
    cases fl with
    | ret u =>
      obtain ⟨v, H', I3, rv, ev, q3⟩ := I2.after hq'
      subst ev
      exact ⟨rv, ⟨V.ref (s.heap.objs.size + 1), H', I3, rfl, q3⟩⟩
    | next => exact False.elim hq'
    | brk => exact False.elim hq'
    | cont => exact False.elim hq'
theorem pe_makeg (M : Mk X.K C f) (F : FnG X.prog X.w X.K X.mg X.base CX k f fd ps sp) (hgd : Grd X.A) (hr : Room (k + 1) X.A) (hg : Gl X x) (hm : X.mg x = some (.ref C)) (hb : Binds X.K fd ps ds) (hd : Vals dvs ds) (hx : Passes CX X E)
    (ha : PA X (e :: es) t) (hdb : (x == ("__debug__" : Str)) = false := by decide) (he : starEach (e :: es) X.env = (false, eval e X.env) :: starEach es X.env := by rfl) (hpl : (backTo pos (starEach es X.env)).any (·.1) = false := by rfl) :
    PE X (.Call (.Name x p) (e :: es) [] pos) (tMake C sp dvs E t) := by
  refine ⟨fun pins s σ H Q I h => ?_⟩
  refine wpAny_Call_Name_kw (ld_glob I hg hm ?_ hdb)
  refine PySem.W.callWith_K (h₀ := X.base) I.ok.mod.kin M.kp (thn (ha.run pos pins s σ H _ I h) fun us s1 ⟨vs, H1, I1, r, q⟩ => ⟨I1.kIn, ?_⟩) he hpl
  exact run_makeg M F hgd hr hb hd hx I1 r q
end
end DvF
namespace Dv
open PySem PySem.Spec PyProof.Rows L2 DvR DvF
def clsB : Stmt → List Stmt
  | .ClassDef (body := b) .. => b
  | _ => []
/-- o.f -/
def kFld (c f : Str) : W → Option (W × Bool)
  | .ins c' fs ws => if c' = c then (fldIx fs f).bind fun n => (ws[n]?).map fun w => (w, w.imm) else none
  | _ => none
def fldPut (c : Str) (fs : List Str) (ws : List W) (f : Str) (y : W) : W := match fldIx fs f with
  | some n => .ins c fs (ws.set n y)
  | none => .ins c (fs ++ [f]) (ws ++ [y])
/-- o.f = y -/
def opFld (c f : Str) : OpW := fun w as => match w, as with
  | .ins c' fs ws, [.str g, y] => if c' = c ∧ g = f ∧ fs.length < 900 then some (fldPut c fs ws f y, .non) else none
  | _, _ => none
def rFldP (K : PySem.W.Frag) : V → List V → Hp → VK → Prop := fun v as H Q => ∃ a C dx fs f y, v = .ref a ∧ as = [.str f, y] ∧ H a = some (.ins C dx fs) ∧ Cls K C ∧ NoAttr K C f ∧ fs.length < 1000 ∧ Q .non (upd H a (.ins C dx (putF f y fs)))
theorem putF_zip {fs : List Str} {vs : List V} {f : Str} {v : V} (hl : fs.length = vs.length) : putF f v (fs.zip vs) = match fldIx fs f with
    | some n => fs.zip (vs.set n v)
    | none => (fs ++ [f]).zip (vs ++ [v]) := by
  induction fs generalizing vs with
  | nil =>
    cases vs with
    | nil => rfl
    | cons _ _ => cases hl
  | cons g fs ih =>
    cases vs with
    | nil => cases hl
    | cons u vs =>
      have h := ih (vs := vs) (Nat.succ.inj hl)
      unfold fldIx at h ⊢
      rw [List.findIdx?_cons]
      show (if g = f then (g, v) :: fs.zip vs else (g, u) :: putF f v (fs.zip vs)) = _
      by_cases c : g = f
      · rw [if_pos c, decide_eq_true c]
        rfl
      · rw [if_neg c, decide_eq_false c, h]
        cases fs.findIdx? (fun x => decide (x = f)) <;> rfl
section
variable {K : PySem.W.Frag}
theorem sd_fld {c f : Str} {te : TE} {g : Den} (hc : Cls K (He.ga K c)) (hn : NoAttr K (He.ga K c) f) (ha : Sd K te g) : Sd K (tFld K te f) (dUn (kFld c f) g) := by
  refine ⟨fun {M δ r} e => ?_, fun {M G H φ σ δ r} s e Q P => ?_⟩
  · unfold dUn at e
    obtain ⟨r1, h1, e⟩ := Option.bind_eq_some_iff.mp e
    obtain ⟨x, h2, e⟩ := Option.map_eq_some_iff.mp e
    have o1 := ha.off h1
    cases e
    exact o1
  · unfold dUn at e
    obtain ⟨r1, h1, e⟩ := Option.bind_eq_some_iff.mp e
    obtain ⟨x, h2, e⟩ := Option.map_eq_some_iff.mp e
    cases e
    refine ha.run s h1 _ fun v1 G1 H1 φ1 A1 s1 e1 q1 _ => ?_
    unfold kFld at h2
    split at h2
    · rename_i c' fs ws hz
      split at h2
      · rename_i hcc
        obtain ⟨n, h3, h2⟩ := Option.bind_eq_some_iff.mp h2
        obtain ⟨w, h4, h2⟩ := Option.map_eq_some_iff.mp h2
        cases h2
        rw [hz, hcc] at q1
        unfold Rp at q1
        obtain ⟨l, dx, vs, B, rfl, hl, ln, _, rs⟩ := q1
        obtain ⟨u, C, hu, ru, _⟩ := rs.get h4
        exact ⟨l, _, dx, _, u, rfl, s1.sub _ _ hl, hc, hn, lookup_ix ln h3 hu, P u G1 H1 φ1 C s1 e1 ru fun im => by
          rw [Rp.imm w u C im ru]
          exact Fresh.nil⟩
      · cases h2
    · cases h2
theorem ok_fld {c f : Str} (hc : Cls K (He.ga K c)) (hn : NoAttr K (He.ga K c) f) : OpOk K (rFldP K) (opFld c f) := by
  intro H w v B as us A q r ra nd e
  unfold opFld at e
  split at e
  · rename_i c' fs ws g y
    split at e
    · rename_i hcc
      obtain ⟨rfl, rfl, hl9⟩ := hcc
      cases e
      unfold Rp at r
      obtain ⟨l, dx, vs, B0, rfl, hl, ln, rfl, rs⟩ := r
      obtain ⟨x1, x2, A1, A2, rfl, rfl, r1, r2⟩ := rps_two' ra
      unfold Rp at r1
      obtain ⟨rfl, rfl⟩ := r1
      rw [List.nil_append] at nd ⊢
      obtain ⟨n1, n2, n3⟩ := List.nodup_append.mp nd
      have lB0 : l ∉ B0 := (List.nodup_cons.mp n1).1
      have lA : l ∉ A2 := fun z => n3 l (List.mem_cons_self ..) l z rfl
      have pz := putF_zip (v := x2) (f := g) ln
      have zl : (fs.zip vs).length < 1000 := by
        rw [List.length_zip, ← ln, Nat.min_self]
        omega
      have go : ∀ Q : VK, Q .non (upd H l (.ins (He.ga K c') dx (putF g x2 (fs.zip vs)))) → rFldP K (.ref l) [.str g, x2] H Q := fun Q hq => ⟨l, _, dx, _, g, x2, rfl, rfl, hl, hc, hn, zl, hq⟩
      have nB := (List.nodup_cons.mp n1).2
      unfold fldPut
      cases c : fldIx fs g with
      | some n =>
        rw [c] at pz
        have pz : putF g x2 (fs.zip vs) = fs.zip (vs.set n x2) := pz
        rw [pz] at go
        have hn' : n < ws.length := by rw [rs.len, ← ln]; exact fldIx_lt c
        obtain ⟨u, B1, C, B2, e1, rfl, r3, back⟩ := rs.split (List.getElem?_eq_getElem hn')
        obtain ⟨m1, m2, m3⟩ := List.nodup_append.mp nB
        obtain ⟨m4, m5, m6⟩ := List.nodup_append.mp m1
        refine ⟨l, _, .ins (He.ga K c') dx (fs.zip (vs.set n x2)), l :: (B1 ++ A2 ++ B2), .non, [], rfl, hl, trivial, trivial, List.mem_cons_self .., (fun z => nomatch z), ?_, rp_non', ?_, fun a ha => ?_, go⟩
        · show Rp K _ (.ins c' fs (ws.set n y)) _ _
          unfold Rp
          refine ⟨l, dx, vs.set n x2, B1 ++ A2 ++ B2, rfl, upd_same, by rw [List.length_set]; exact ln, rfl, back _ _ _ _ (tk_upd hl trivial) (fun a ha u h => ?_) (r2.updo hl trivial lA)⟩
          rw [upd_ne (fun e => by
            subst e
            rcases List.mem_append.mp ha with z | z
            · exact lB0 (by simp [z])
            · exact lB0 (by simp [z]))]
          exact h
        · rw [List.append_nil]
          have dA : ∀ a ∈ A2, a ∉ l :: (B1 ++ C ++ B2) := fun a ha z => n3 a z a ha rfl
          refine List.nodup_cons.mpr ⟨fun z => ?_, List.nodup_append.mpr ⟨List.nodup_append.mpr ⟨m4, n2, fun a ha b hb e => ?_⟩, m2, fun a ha b hb e => ?_⟩⟩
          · rcases List.mem_append.mp z with z | z
            · rcases List.mem_append.mp z with z | z
              · exact lB0 (by simp [z])
              · exact lA z
            · exact lB0 (by simp [z])
          · subst e
            exact dA a hb (by simp [ha])
          · subst e
            rcases List.mem_append.mp ha with z | z
            · exact m3 a (List.mem_append_left _ z) a hb rfl
            · exact dA a z (by simp [hb])
        · rw [List.append_nil] at ha
          rcases List.mem_cons.mp ha with rfl | ha
          · exact .inl (List.mem_cons_self ..)
          · rcases List.mem_append.mp ha with ha | ha
            · rcases List.mem_append.mp ha with ha | ha
              · exact .inl (by simp [ha])
              · exact .inr ha
            · exact .inl (by simp [ha])
      | none =>
        rw [c] at pz
        have pz : putF g x2 (fs.zip vs) = (fs ++ [g]).zip (vs ++ [x2]) := pz
        rw [pz] at go
        refine ⟨l, _, .ins (He.ga K c') dx ((fs ++ [g]).zip (vs ++ [x2])), l :: (B0 ++ A2), .non, [], rfl, hl, trivial, trivial, List.mem_cons_self .., (fun z => nomatch z), ?_, rp_non', ?_, fun a ha => ?_, go⟩
        · show Rp K _ (.ins c' (fs ++ [g]) (ws ++ [y])) _ _
          unfold Rp
          exact ⟨l, dx, vs ++ [x2], B0 ++ A2, rfl, upd_same, by rw [List.length_append, List.length_append, ln]; rfl, rfl, (rs.updo hl trivial lB0).append (Rps.one (r2.updo hl trivial lA))⟩
        · rw [List.append_nil]
          exact nd
        · rw [List.append_nil] at ha
          rcases List.mem_cons.mp ha with rfl | ha
          · exact .inl (List.mem_cons_self ..)
          · exact (List.mem_append.mp ha).elim (fun z => .inl (List.mem_cons_of_mem _ z)) .inr
    · cases e
  · cases e
variable {P L l ms : List Nat}
theorem ss_fld {i : Nat} {c f : Str} {te to : TE} {π : DenP} {g : Den} (hc : Cls K (He.ga K c)) (hn : NoAttr K (He.ga K c) f) (he : Sd K te g) (hp : Spt K to i π) (hs : sub ms l = true := by rfl) : Ss K P L l l (sFld K to te f) (sDrop ms (dSetAt i π (opFld c f) g (dC (.str f)))) := by
  have h := ss_drop (P := P) (L := L) (te := tSetAt (rFldP K) te to (tC (.str f))) (sd_set_at (ok_fld hc hn) he hp (sd_str f)) hs
  refine ⟨fun {G H φ σ δ r} s e D p => ?_⟩
  have q := h.run s e D p
  have key : ∀ x H1, (to σ H1 fun o H2 => rFldP K o [.str f, x] H2 fun _ H' => D.nx σ H') → to σ H1 fun x2 H2 => ∃ a C dx fs, x2 = .ref a ∧ H2 a = some (.ins C dx fs) ∧ Cls K C ∧ NoAttr K C f ∧ fs.length < 1000 ∧ D.nx σ (upd H2 a (.ins C dx (putF f x fs))) := fun x H1 z => by
    have e2 : (fun (o : V) (H2 : Hp) => rFldP K o [.str f, x] H2 fun _ H' => D.nx σ H') = fun x2 H2 => ∃ a C dx fs, x2 = .ref a ∧ H2 a = some (.ins C dx fs) ∧ Cls K C ∧ NoAttr K C f ∧ fs.length < 1000 ∧ D.nx σ (upd H2 a (.ins C dx (putF f x fs))) := by
      funext o H2
      refine propext ⟨?_, ?_⟩
      · rintro ⟨a, C, dx, fs, f', y, h1, h2, h3, h4, h5, h6, h7⟩
        cases h2
        exact ⟨a, C, dx, fs, h1, h3, h4, h5, h6, h7⟩
      · rintro ⟨a, C, dx, fs, h1, h3, h4, h5, h6, h7⟩
        exact ⟨a, C, dx, fs, f, x, h1, rfl, h3, h4, h5, h6, h7⟩
    rw [← e2]
    exact z
  have e3 : (fun (x : V) (H1 : Hp) => to σ H1 fun o H2 => tC (.str f) σ H2 fun k H3 => rFldP K o [k, x] H3 fun _ H' => D.nx σ H') = fun y H1 => to σ H1 fun x H2 => ∃ a C dx fs, x = .ref a ∧ H2 a = some (.ins C dx fs) ∧ Cls K C ∧ NoAttr K C f ∧ fs.length < 1000 ∧ D.nx σ (upd H2 a (.ins C dx (putF f y fs))) := by
    funext x H1
    have e2 : (fun (o : V) (H2 : Hp) => rFldP K o [.str f, x] H2 fun _ H' => D.nx σ H') = fun x2 H2 => ∃ a C dx fs, x2 = .ref a ∧ H2 a = some (.ins C dx fs) ∧ Cls K C ∧ NoAttr K C f ∧ fs.length < 1000 ∧ D.nx σ (upd H2 a (.ins C dx (putF f x fs))) := by
      funext o H2
      refine propext ⟨?_, ?_⟩
      · rintro ⟨a, C, dx, fs, f', y, h1, h2, h3, h4, h5, h6, h7⟩
        cases h2
        exact ⟨a, C, dx, fs, h1, h3, h4, h5, h6, h7⟩
      · rintro ⟨a, C, dx, fs, h1, h3, h4, h5, h6, h7⟩
        exact ⟨a, C, dx, fs, f, x, h1, rfl, h3, h4, h5, h6, h7⟩
    rw [← e2]
    rfl
  show te σ H fun y H1 => to σ H1 fun x H2 => _
  rw [← e3]
  exact q
theorem lookup_none {fs : List Str} {vs : List V} {f : Str} (hl : fs.length = vs.length) (h : fldIx fs f = none) : (fs.zip vs).lookup f = none := by
  unfold fldIx at h
  induction fs generalizing vs with
  | nil => rfl
  | cons k0 ks ih =>
    cases vs with
    | nil => cases hl
    | cons v0 vs =>
      rw [List.zip_cons_cons, List.lookup_cons]
      rw [List.findIdx?_cons] at h
      by_cases c : k0 = f
      · rw [decide_eq_true c] at h
        cases h
      · rw [decide_eq_false c] at h
        have c' : (f == k0) = false := beq_eq_false_iff_ne.mpr fun z => c z.symm
        rw [c']
        exact ih (Nat.succ.inj hl) (by simpa using h)
def dMeth (c m : Str) (i : Nat) (F : FnM) (g : DenA) : Den := fun M δ => match δ[i]? with
  | some (some (.ins c' fs _)) => if c' = c ∧ fldIx fs m = none then dCallM i F g M δ else none
  | _ => none
/-- a method that writes nothing -/
def dMethD (c m : Str) (F : FnD) (f : Den) (g : DenA) : Den := fun M δ => (f M δ).bind fun r => match r.1 with
  | .ins c' fs us => if c' = c ∧ fldIx fs m = none then (g M r.2.2).bind fun r2 => (F (.ins c' fs us :: r2.1)).map fun q => (q.1, q.2, r2.2.2) else none
  | _ => none
theorem sd_methm {n i : Nat} {c m : Str} {F : FnM} {E : XK} {t : TA} {g : DenA} (ha : Sa K t g) (hn : ∀ {w ws r}, F w ws = some r → ws.length = n) : Sd K (tMeth (He.ga K c) m (spM K n F) [] E (tVar i) t) (dMeth c m i F g) := by
  have base := sd_callm (K := K) (n := n) (i := i) (F := F) (E := E) ha hn
  have inv : ∀ {M δ r}, dMeth c m i F g M δ = some r → ∃ fs us, δ[i]? = some (some (.ins c fs us)) ∧ fldIx fs m = none ∧ dCallM i F g M δ = some r := fun {M δ r} e => by
    unfold dMeth at e
    split at e
    · rename_i c' fs us h
      split at e
      · rename_i hh
        obtain ⟨rfl, h2⟩ := hh
        exact ⟨fs, us, h, h2, e⟩
      · cases e
    · cases e
  refine ⟨fun {M δ r} e => ?_, fun {M G H φ σ δ r} s e Q P => ?_⟩
  · obtain ⟨_, _, _, _, e⟩ := inv e
    exact base.off e
  · obtain ⟨fs, us, hd, hf, e⟩ := inv e
    obtain ⟨v0, e0, q⟩ := base.run s e Q P
    have hm : M i = true := by
      unfold dCallM at e
      rw [hd] at e
      cases c : M i with
      | true => rfl
      | false =>
        have e : (if M i = true then _ else none) = some r := e
        rw [c] at e
        cases e
    obtain ⟨v1, e1, rv⟩ := s.own i _ hm hd
    rw [e0] at e1
    cases e1
    unfold Rp at rv
    obtain ⟨a, dx, vs, B, rfl, ha', ln, _, _⟩ := rv
    exact ⟨.ref a, e0, a, dx, _, rfl, ha', lookup_none ln hf, q⟩
theorem sd_methd {n : Nat} {c m : Str} {F : FnD} {E : XK} {te : TE} {t : TA} {f : Den} {g : DenA} (hf : Sd K te f) (ha : Sa K t g) (hn : ∀ {ws r}, F ws = some r → ws.length = n) : Sd K (tMeth (He.ga K c) m (spD K n F) [] E te t) (dMethD c m F f g) := by
  have inv : ∀ {M δ r}, dMethD c m F f g M δ = some r → ∃ r1 fs us r2 q, f M δ = some r1 ∧ r1.1 = .ins c fs us ∧ fldIx fs m = none ∧ g M r1.2.2 = some r2 ∧ F (.ins c fs us :: r2.1) = some q ∧ r = (q.1, q.2, r2.2.2) := fun {M δ r} e => by
    unfold dMethD at e
    obtain ⟨r1, h1, e⟩ := Option.bind_eq_some_iff.mp e
    split at e
    · rename_i c' fs us h
      split at e
      · rename_i hh
        obtain ⟨hc, h2⟩ := hh
        rw [hc] at h e
        obtain ⟨r2, h3, e⟩ := Option.bind_eq_some_iff.mp e
        obtain ⟨q, h4, e⟩ := Option.map_eq_some_iff.mp e
        exact ⟨r1, fs, us, r2, q, h1, h, h2, h3, h4, e.symm⟩
      · cases e
    · cases e
  refine ⟨fun {M δ r} e => ?_, fun {M G H φ σ δ r} s e Q P => ?_⟩
  · obtain ⟨r1, fs, us, r2, q, h1, _, _, h3, _, rfl⟩ := inv e
    have o1 := ha.off h3
    exact (hf.off h1).trans o1
  · obtain ⟨r1, fs, us, r2, q, h1, hw, hx, h3, h4, rfl⟩ := inv e
    refine hf.run s h1 _ fun v G1 H1 φ1 A1 s1 e1 q1 _ => ?_
    rw [hw] at q1
    have q1' := q1
    unfold Rp at q1'
    obtain ⟨a, dx, vs, B, rfl, ha', ln, _, _⟩ := q1'
    refine ⟨a, dx, _, rfl, s1.sub _ _ ha', lookup_none ln hx, ?_⟩
    refine ha.run s1 h3 _ fun us2 G2 H2 φ2 A2 s2 e2 q2 _ => ?_
    rw [List.append_nil]
    have rr := Rps.cons (q1.mono e2.ex) q2
    refine ⟨by rw [← rr.len]; exact hn h4, G2, _, _, q, s2.vw, rr, h4, fun v G' H' A' gr rp fr => ?_⟩
    exact P v G' H' φ2 A' (s2.grow gr) (e1.trans (e2.trans (Evo.grow gr))) rp fun h => ((fr h).back e2.ex).back e1.ex
def dNew (c : Str) (F : FnM) (g : DenA) : Den := fun M δ => (g M δ).bind fun r => (F (.ins c [] []) r.1).bind fun q => match q.1 with
  | .non => some (q.2.2, true, r.2.2)
  | _ => none
theorem sd_make {n : Nat} {c : Str} {F : FnM} {E : XK} {t : TA} {g : DenA} (ha : Sa K t g) (hn : ∀ {w ws r}, F w ws = some r → ws.length = n) : Sd K (tMake (He.ga K c) (spM K n F) [] E t) (dNew c F g) := by
  have inv : ∀ {M δ r}, dNew c F g M δ = some r → ∃ r1 q, g M δ = some r1 ∧ F (.ins c [] []) r1.1 = some q ∧ q.1 = .non ∧ r = (q.2.2, true, r1.2.2) := fun {M δ r} e => by
    unfold dNew at e
    obtain ⟨r1, h1, e⟩ := Option.bind_eq_some_iff.mp e
    obtain ⟨q, h2, e⟩ := Option.bind_eq_some_iff.mp e
    split at e
    · rename_i h
      cases e
      exact ⟨r1, q, h1, h2, h, rfl⟩
    · cases e
  refine ⟨fun {M δ r} e => ?_, fun {M G H φ σ δ r} s e Q P => ?_⟩
  · obtain ⟨r1, q, h1, _, _, rfl⟩ := inv e
    have o1 := ha.off h1
    exact o1
  · obtain ⟨r1, q, h1, h2, hq, rfl⟩ := inv e
    refine ha.run s h1 _ fun vs G1 H1 φ1 A1 s1 e1 q1 _ => ?_
    intro x dx hx hdx ne
    rw [List.append_nil]
    have s2 := s1.laid (o := .own x) hdx
    have ev2 : Evo M G1 H1 φ1 M (upd G1 dx (.own x)) (upd H1 dx (.own x)) φ1 := Evo.laid s1.sub hdx
    have hx2 : upd H1 dx (.own x) x = none := by rw [upd_ne (fun e => ne e.symm)]; exact hx
    have gx : upd G1 dx (.own x) x = none := s2.sub.back hx2
    have exH : Ex (upd H1 dx (.own x)) (upd (upd H1 dx (.own x)) x (.ins (He.ga K c) dx [])) := Ex.new hx2
    have q1' : Rps K (upd G1 dx (.own x)) r1.1 vs A1 := q1.mono ev2.ex
    have rx : Rp K (upd (upd H1 dx (.own x)) x (.ins (He.ga K c) dx [])) (.ins c [] []) (.ref x) [x] := by
      unfold Rp
      exact ⟨x, dx, [], [], rfl, upd_same, rfl, rfl, Rps.nil⟩
    refine ⟨by rw [List.length_cons, ← q1.len, hn h2], .ref x, vs, upd G1 dx (.own x), [x], .ins c [] [], r1.1, A1, q, rfl, ?_, rx, by simp, fun a ha => ?_, fun p hp z => ?_, q1', h2, fun v G' H' B' A' ex vw kp kt nw nd hb rb ra fr => ?_⟩
    · refine ⟨s2.sub.trans exH, fun a o h n => ?_, fun p hp => ?_⟩
      · by_cases c : a = x
        · subst c
          rw [upd_same] at h
          cases h
          exact absurd trivial n
        · rw [upd_ne c] at h
          exact s2.tup a o h n
      · obtain ⟨t1, t2, t3⟩ := s2.tb p hp
        exact ⟨t1, t3.ext exH⟩
    · rw [List.mem_singleton.mp ha]
      exact ⟨gx, by rw [upd_same]; trivial⟩
    · obtain ⟨t1, t2, t3⟩ := s2.tb p hp
      obtain ⟨ps, e⟩ := tabS_some t3
      rw [List.mem_singleton.mp z, hx2] at e
      cases e
    · rw [hq] at ra
      unfold Rp at ra
      obtain ⟨rfl, rfl⟩ := ra
      refine ⟨rfl, ?_⟩
      classical
      let G2 : Hp := fun a => if a ∈ B' then H' a else G' a
      have i1 : ∀ {a}, a ∈ B' → G2 a = H' a := fun h => if_pos h
      have i2 : ∀ {a}, a ∉ B' → G2 a = G' a := fun h => if_neg h
      have hin : ∀ {a o}, H1 a = some o → upd (upd H1 dx (.own x)) x (.ins (He.ga K c) dx []) a = some o ∧ a ∉ [x] := fun {a o} h => by
        have n1 : a ≠ x := fun e => by subst e; rw [hx] at h; cases h
        have n2 : a ≠ dx := fun e => by subst e; rw [hdx] at h; cases h
        exact ⟨by rw [upd_ne n1, upd_ne n2]; exact h, by simpa using n1⟩
      have out : ∀ {a}, a ∈ B' → H1 a = none := fun {a} ha => by
        cases c1 : H1 a with
        | none => rfl
        | some o =>
          obtain ⟨z1, z2⟩ := hin c1
          rcases (hb a ha).2.2 with z | z
          · rw [z1] at z; cases z
          · exact absurd z z2
      have gB : ∀ {a}, a ∈ B' → G1 a = none := fun {a} ha => s1.sub.back (out ha)
      have gr : Grow K G1 H1 G2 H' := by
        refine ⟨fun a o h => ?_, ⟨fun a o h nt => ?_, fun a ps h => ?_⟩, ⟨fun a o h => ?_, fun a o h n => ?_, fun p hp => ?_⟩, fun a o h h' => ?_⟩
        · rw [i2 (fun ha => by rw [gB ha] at h; cases h)]
          exact ex a o (ev2.ex a o h)
        · obtain ⟨z1, z2⟩ := hin h
          exact kp a o z1 nt z2
        · obtain ⟨z1, _⟩ := hin h
          exact kt a ps z1
        · by_cases c1 : a ∈ B'
          · rw [i1 c1] at h; exact h
          · rw [i2 c1] at h; exact vw.sub a o h
        · have c1 : a ∉ B' := fun ha => by
            have := (hb a ha).2.1
            rw [h] at this
            exact n this
          rw [i2 c1]
          exact vw.tup a o h n
        · obtain ⟨t1, t2⟩ := vw.tb p hp
          have c1 : p.2.1 ∉ B' := fun ha => by
            obtain ⟨u1, u2, u3⟩ := s1.tb p hp
            obtain ⟨ps, e⟩ := tabS_some u3
            rw [out ha] at e
            cases e
          exact ⟨by rw [i2 c1]; exact t1, t2⟩
        · by_cases c1 : a ∈ B'
          · exact out c1
          · rw [i2 c1] at h'
            cases c2 : H1 a with
            | none => rfl
            | some o2 =>
              obtain ⟨z1, z2⟩ := hin c2
              have n2 : a ≠ dx := fun e => by subst e; rw [hdx] at c2; cases c2
              rcases nw a o (by rw [upd_ne n2]; exact h) h' with z | z
              · rw [z1] at z; cases z
              · exact absurd z z2
      refine P (.ref x) G2 H' φ1 B' (s1.grow gr) (e1.trans (Evo.grow gr)) (Rp.frame (TupK.of gr.vw.tup) _ _ B' (fun a ha o h => by rw [i1 ha]; exact h) rb) fun _ => ⟨nd, fun a ha => ⟨?_, ?_⟩⟩
      · exact e1.ex.back (gB ha)
      · rw [i1 ha]
        exact (hb a ha).2.1
end
end Dv
set_option Elab.async false
set_option linter.all false
set_option maxRecDepth 100000
set_option maxHeartbeats 4000000
namespace Dv
open PySem PySem.Spec PyProof.Rows L2 DvR DvF
end Dv
set_option Elab.async false
set_option linter.all false
set_option maxRecDepth 100000
set_option maxHeartbeats 1000000
set_option Elab.async false
set_option linter.all false
set_option maxRecDepth 100000
set_option maxHeartbeats 4000000
namespace Gp
/-- which pegs are tied, slip numbers (0: none) -/
structure Wa where
  tied : Int → Int → Bool
  slip : Int → Int
  sym : ∀ p q, tied p q = tied q p
  irr : ∀ p, tied p p = false
  pos : ∀ p, slip p = 0 ∨ 2 ≤ slip p
abbrev Pr := Int × Int
abbrev Word := List Pr
abbrev Pile := Int → List Int
variable (A : Wa)
def nm (p w : Int) : Int := if A.slip p = 0 then w else w % A.slip p
variable {A}
theorem nm_add (p x y : Int) : nm A p (nm A p x + y) = nm A p (x + y) := by
  unfold nm
  split
  · rfl
  · rw [Int.emod_add_emod]
theorem nm_zero (p : Int) : nm A p 0 = 0 := by
  unfold nm
  split
  · rfl
  · exact Int.zero_emod _
theorem nm_nm (p x : Int) : nm A p (nm A p x) = nm A p x := by
  have := nm_add (A := A) p x 0
  rwa [Int.add_zero, Int.add_zero] at this
variable (A)
def push (P : Pile) (p a : Int) : Pile := fun q => if q = p then a :: P q else if A.tied p q then 0 :: P q else P q
def pop (P : Pile) (p : Int) : Pile := fun q => if q = p then (P q).tail else if A.tied p q then (P q).tail else P q
def top (P : Pile) (p : Int) : Int := (P p).headD 0
def psh (P : Pile) (p a : Int) : Pile := if a = 0 then P else push A P p a
def base (P : Pile) (p : Int) : Pile := if top P p = 0 then P else pop A P p
def act (P : Pile) (p w : Int) : Pile := psh A (base A P p) p (nm A p (top P p + w))
inductive Good : Pile → Prop
  | nil : Good fun _ => []
  | push {P : Pile} {p a : Int} : Good P → top P p = 0 → a ≠ 0 → nm A p a = a → Good (push A P p a)
variable {A}
theorem pop_push (P : Pile) (p a : Int) : pop A (push A P p a) p = P := by
  funext q
  unfold pop push
  by_cases h : q = p
  · rw [if_pos h, if_pos h]; rfl
  · rw [if_neg h, if_neg h]
    by_cases t : A.tied p q = true
    · rw [if_pos t, if_pos t]; rfl
    · rw [if_neg t, if_neg t]
theorem push_comm {P : Pile} {p q a b : Int} (n : p ≠ q) (t : A.tied p q = false) : push A (push A P p a) q b = push A (push A P q b) p a := by
  have t' : A.tied q p = false := by rw [A.sym]; exact t
  funext r
  unfold push
  by_cases h : r = q
  · subst h
    rw [if_pos rfl, if_neg (fun z => n z.symm), if_neg (by rw [t]; decide), if_neg (fun z => n z.symm), if_neg (by rw [t]; decide), if_pos rfl]
  · by_cases h2 : r = p
    · subst h2
      rw [if_neg h, if_neg (by rw [t']; decide), if_pos rfl, if_pos rfl, if_neg h, if_neg (by rw [t']; decide)]
    · simp only [if_neg h, if_neg h2]
      by_cases t1 : A.tied q r = true <;> by_cases t2 : A.tied p r = true <;> simp [t1, t2]
theorem top_push (P : Pile) (p a : Int) : top (push A P p a) p = a := by
  unfold top push
  rw [if_pos rfl]; rfl
theorem top_tied {P : Pile} {p q a : Int} (t : A.tied p q = true) : top (push A P p a) q = 0 := by
  have n : q ≠ p := fun e => by subst e; rw [A.irr] at t; cases t
  unfold top push
  rw [if_neg n, if_pos t]; rfl
theorem top_other {P : Pile} {p q a : Int} (n : p ≠ q) (t : A.tied p q = false) : top (push A P p a) q = top P q := by
  unfold top push
  rw [if_neg (fun z => n z.symm), if_neg (by rw [t]; decide)]
theorem Good.under {P : Pile} (g : Good A P) : ∀ {p : Int}, top P p ≠ 0 → ∃ R, Good A R ∧ top R p = 0 ∧ P = Gp.push A R p (top P p) ∧ nm A p (top P p) = top P p := by
  induction g with
  | nil => intro p h; exact absurd rfl h
  | @push Q r b g h0 hb hn ih =>
    intro p h
    by_cases e : r = p
    · subst e
      rw [top_push]
      exact ⟨Q, g, h0, rfl, hn⟩
    · by_cases t : A.tied r p = true
      · rw [top_tied t] at h
        exact absurd rfl h
      · have t : A.tied r p = false := by simpa using t
        rw [top_other e t] at h ⊢
        obtain ⟨R, gR, hR, eq, hnp⟩ := ih h
        have ta : A.tied p r = false := by rw [A.sym]; exact t
        have tr : top R r = 0 := by
          rw [eq, top_other (fun z => e z.symm) ta] at h0
          exact h0
        refine ⟨Gp.push A R r b, .push gR tr hb hn, by rw [top_other e t]; exact hR, ?_, hnp⟩
        generalize top Q p = x at *
        rw [eq]
        exact push_comm (fun z => e z.symm) ta
theorem Good.base {P : Pile} (g : Good A P) (p : Int) : Good A (base A P p) ∧ top (base A P p) p = 0 ∧ P = psh A (base A P p) p (top P p) ∧ nm A p (top P p) = top P p := by
  unfold Gp.base psh
  by_cases h : top P p = 0
  · rw [if_pos h, if_pos h]
    exact ⟨g, h, rfl, by rw [h]; exact nm_zero p⟩
  · obtain ⟨R, gR, hR, e, hn⟩ := g.under h
    have eb : pop A P p = R := by
      rw [e, pop_push]
    rw [if_neg h, if_neg h, eb]
    exact ⟨gR, hR, e, hn⟩
theorem psh_other {P : Pile} {p q a : Int} (n : p ≠ q) (t : A.tied p q = false) : top (psh A P p a) q = top P q := by
  unfold psh
  split
  · rfl
  · exact top_other n t
theorem psh_comm {P : Pile} {p q a b : Int} (n : p ≠ q) (t : A.tied p q = false) : psh A (psh A P p a) q b = psh A (psh A P q b) p a := by
  unfold psh
  by_cases h : a = 0 <;> by_cases h' : b = 0
  · simp [h, h']
  · simp [h, h']
  · simp [h, h']
  · simp only [if_neg h, if_neg h']
    exact push_comm n t
theorem act_psh {R : Pile} {p a : Int} (h : top R p = 0) (w : Int) : act A (psh A R p a) p w = psh A R p (nm A p (a + w)) := by
  unfold act base
  by_cases ha : a = 0
  · subst ha
    have e : psh A R p 0 = R := if_pos rfl
    rw [e, if_pos h, h]
  · have e : psh A R p a = push A R p a := if_neg ha
    rw [e, top_push, if_neg ha, pop_push]
theorem Good.psh {R : Pile} {p a : Int} (g : Good A R) (h : top R p = 0) (hn : nm A p a = a) : Good A (psh A R p a) := by
  unfold Gp.psh
  split
  · exact g
  · rename_i ha
    exact .push g h ha hn
theorem Good.act {P : Pile} (g : Good A P) (p w : Int) : Good A (act A P p w) := by
  obtain ⟨gb, hb, _, _⟩ := g.base p
  exact gb.psh hb (nm_nm _ _)
theorem act_join {P : Pile} (g : Good A P) (p w v : Int) : act A (act A P p w) p v = act A P p (w + v) := by
  obtain ⟨gb, hb, e, _⟩ := g.base p
  rw [e]
  rw [act_psh hb, act_psh hb, act_psh hb, nm_add, Int.add_assoc]
theorem act_zero {P : Pile} (g : Good A P) (p : Int) : act A P p 0 = P := by
  obtain ⟨gb, hb, e, hn⟩ := g.base p
  unfold Gp.act
  rw [Int.add_zero, hn]
  exact e.symm
theorem act_nm (P : Pile) (p w : Int) : act A P p (nm A p w) = act A P p w := by
  unfold act
  rw [Int.add_comm, nm_add, Int.add_comm]
theorem act_comm {P : Pile} (g : Good A P) {p q : Int} (n : p ≠ q) (t : A.tied p q = false) (w v : Int) : act A (act A P p w) q v = act A (act A P q v) p w := by
  have t' : A.tied q p = false := by rw [A.sym]; exact t
  obtain ⟨gR, hR, e, _⟩ := g.base p
  obtain ⟨gS, hS, e2, _⟩ := gR.base q
  generalize hb : top (base A P p) q = b at e2
  generalize ha : top P p = a at e
  generalize Gp.base A P p = R at *
  generalize Gp.base A R q = S at *
  have hSp : top S p = 0 := by
    rw [e2, psh_other (fun z => n z.symm) t'] at hR
    exact hR
  have k1 : ∀ x, top (psh A S p x) q = 0 := fun x => by rw [psh_other n t]; exact hS
  have k2 : ∀ x, top (psh A S q x) p = 0 := fun x => by rw [psh_other (fun z => n z.symm) t']; exact hSp
  have L : act A (act A P p w) q v = psh A (psh A S p (nm A p (a + w))) q (nm A q (b + v)) := by
    rw [e, e2, act_psh (k2 b), psh_comm (fun z => n z.symm) t', act_psh (k1 _)]
  have M : act A (act A P q v) p w = psh A (psh A S q (nm A q (b + v))) p (nm A p (a + w)) := by
    rw [e, e2, psh_comm (fun z => n z.symm) t', act_psh (k1 _), psh_comm n t, act_psh (k2 _)]
  rw [L, M]
  exact psh_comm n t
variable (A)
def run (P : Pile) (c : Word) : Pile := c.foldl (fun P x => act A P x.1 x.2) P
def st (c : Word) : Pile := run A (fun _ => []) c
variable {A}
theorem run_append (P : Pile) (c d : Word) : run A P (c ++ d) = run A (run A P c) d := List.foldl_append ..
theorem run_cons (P : Pile) (x : Pr) (c : Word) : run A P (x :: c) = run A (act A P x.1 x.2) c := rfl
theorem Good.run {P : Pile} (g : Good A P) : ∀ c : Word, Good A (run A P c)
  | [] => g
  | x :: c => (g.act x.1 x.2).run c
variable (A)
def one (p w : Int) : Word := if w = 0 then [] else [(p, w)]
inductive Sl : Word → Word → Prop
  | turn (u v : Word) (p w : Int) : Sl (u ++ (p, w) :: v) (u ++ one p (nm A p w) ++ v)
  | join (u v : Word) (p w w' : Int) : Sl (u ++ (p, w) :: (p, w') :: v) (u ++ one p (w + w') ++ v)
  | past (u v : Word) (x y : Pr) (n : x.1 ≠ y.1) (t : A.tied x.1 y.1 = false) : Sl (u ++ x :: y :: v) (u ++ y :: x :: v)
inductive Eqv : Word → Word → Prop
  | refl (c : Word) : Eqv c c
  | step {c d e : Word} : Sl A c d → Eqv d e → Eqv c e
  | back {c d e : Word} : Sl A d c → Eqv d e → Eqv c e
variable {A}
theorem Eqv.trans {c d e : Word} (h : Eqv A c d) (h' : Eqv A d e) : Eqv A c e := by
  induction h with
  | refl _ => exact h'
  | step s _ ih => exact .step s (ih h')
  | back s _ ih => exact .back s (ih h')
theorem Eqv.symm {c d : Word} (h : Eqv A c d) : Eqv A d c := by
  induction h with
  | refl _ => exact .refl _
  | step s _ ih => exact ih.trans (.back s (.refl _))
  | back s _ ih => exact ih.trans (.step s (.refl _))
theorem Eqv.of {c d : Word} (s : Sl A c d) : Eqv A c d := .step s (.refl _)
theorem run_one {P : Pile} (g : Good A P) (p w : Int) : run A P (one p w) = act A P p w := by
  unfold one
  split
  · rename_i h
    subst h
    exact (act_zero g p).symm
  · rfl
theorem run_sl {c d : Word} (s : Sl A c d) {P : Pile} (g : Good A P) : run A P c = run A P d := by
  cases s with
  | turn u v p w =>
    rw [run_append, run_cons, run_append, run_append, run_one (g.run u), act_nm]
  | join u v p w w' =>
    rw [run_append, run_cons, run_cons, run_append, run_append, run_one (g.run u), act_join (g.run u)]
  | past u v x y n t =>
    rw [run_append, run_cons, run_cons, run_append, run_cons, run_cons, act_comm (g.run u) n t]
theorem run_eqv {c d : Word} (h : Eqv A c d) {P : Pile} (g : Good A P) : run A P c = run A P d := by
  induction h with
  | refl _ => rfl
  | step s _ ih => exact (run_sl s g).trans ih
  | back s _ ih => exact (run_sl s g).symm.trans ih
theorem st_eqv {c d : Word} (h : Eqv A c d) : st A c = st A d := run_eqv h .nil
theorem Sl.ctx {c d : Word} (s : Sl A c d) (u v : Word) : Sl A (u ++ c ++ v) (u ++ d ++ v) := by
  cases s with
  | turn a b p w =>
    have := Sl.turn (A := A) (u ++ a) (b ++ v) p w
    simpa [List.append_assoc] using this
  | join a b p w w' =>
    have := Sl.join (A := A) (u ++ a) (b ++ v) p w w'
    simpa [List.append_assoc] using this
  | past a b x y n t =>
    have := Sl.past (A := A) (u ++ a) (b ++ v) x y n t
    simpa [List.append_assoc] using this
theorem Eqv.ctx {c d : Word} (h : Eqv A c d) (u v : Word) : Eqv A (u ++ c ++ v) (u ++ d ++ v) := by
  induction h with
  | refl _ => exact .refl _
  | step s _ ih => exact .step (s.ctx u v) ih
  | back s _ ih => exact .back (s.ctx u v) ih
theorem Eqv.append {c d c' d' : Word} (h : Eqv A c d) (h' : Eqv A c' d') : Eqv A (c ++ c') (d ++ d') := by
  have a := h.ctx [] c'
  have b := h'.ctx d []
  simp only [List.nil_append, List.append_nil] at a b
  exact a.trans b
end Gp
set_option Elab.async false
set_option linter.all false
set_option maxRecDepth 100000
set_option maxHeartbeats 4000000
namespace Gp
variable {A : Wa}
variable (A)
/-- what a pair lays on the pile of q -/
def lay (q : Int) (x : Pr) : Option Int := if x.1 = q then some x.2 else if A.tied x.1 q then some 0 else none
/-- the pile of q, the lowest first -/
def pl (c : Word) (q : Int) : List Int := c.filterMap (lay A q)
/-- all pairs are pushed: none is joined -/
def NoJoin (c : Word) : Prop := ∀ u x v, c = u ++ x :: v → (pl A u x.1).getLast?.getD 0 = 0
def Nrm (c : Word) : Prop := ∀ x ∈ c, x.2 ≠ 0 ∧ nm A x.1 x.2 = x.2
structure Red (c : Word) : Prop where
  nrm : Nrm A c
  nj : NoJoin A c
variable {A}
theorem pl_nil (q : Int) : pl A [] q = [] := rfl
theorem pl_append (c d : Word) (q : Int) : pl A (c ++ d) q = pl A c q ++ pl A d q := List.filterMap_append ..
theorem pl_cons (x : Pr) (c : Word) (q : Int) : pl A (x :: c) q = (lay A q x).toList ++ pl A c q := by
  unfold pl
  rw [List.filterMap_cons]
  cases lay A q x <;> rfl
theorem pl_one (x : Pr) (q : Int) : pl A [x] q = (lay A q x).toList := by rw [pl_cons, pl_nil, List.append_nil]
theorem Red.take {c d : Word} (h : Red A (c ++ d)) : Red A c :=
  ⟨fun x hx => h.nrm x (List.mem_append_left _ hx), fun u x v e => h.nj u x (v ++ d) (by rw [e]; simp)⟩
theorem push_pl (c : Word) (p a : Int) (q : Int) : push A (fun r => (pl A c r).reverse) p a q = (pl A (c ++ [(p, a)]) q).reverse := by
  rw [pl_append, pl_one, List.reverse_append]
  unfold push lay
  by_cases h : q = p
  · subst h
    rw [if_pos rfl, if_pos rfl]; rfl
  · have h' : ¬ (p, a).1 = q := fun z => h z.symm
    rw [if_neg h, if_neg h']
    by_cases t : A.tied p q = true
    · have t' : A.tied (p, a).1 q = true := t
      rw [if_pos t, if_pos t']; rfl
    · have t' : ¬ A.tied (p, a).1 q = true := t
      rw [if_neg t, if_neg t']; rfl
theorem head_rev (l : List Int) : l.reverse.headD 0 = l.getLast?.getD 0 := by
  rw [List.headD_eq_head?_getD, List.head?_reverse]
theorem snoc_ind {P : Word → Prop} (h0 : P []) (hs : ∀ c x, P c → P (c ++ [x])) (c : Word) : P c := by
  have : ∀ n (c : Word), c.length = n → P c := fun n => by
    induction n with
    | zero => intro c h; rw [List.length_eq_zero_iff.mp h]; exact h0
    | succ n ih =>
      intro c h
      have ne : c ≠ [] := fun e => by subst e; cases h
      rw [← List.dropLast_concat_getLast ne]
      exact hs _ _ (ih _ (by rw [List.length_dropLast, h]; rfl))
  exact this _ c rfl
theorem Red.st_pl : ∀ (c : Word), Red A c → st A c = fun q => (pl A c q).reverse := fun c => by
  induction c using snoc_ind with
  | h0 => intro _; rfl
  | hs c x ih =>
    intro r
    have ic := ih r.take
    have e : st A (c ++ [x]) = act A (st A c) x.1 x.2 := by
      unfold st
      rw [run_append]; rfl
    have t0 : top (st A c) x.1 = 0 := by
      rw [ic]
      show (pl A c x.1).reverse.headD 0 = 0
      rw [head_rev]
      exact r.nj c x [] rfl
    have hx := r.nrm x (by simp)
    rw [e]
    unfold act base
    rw [if_pos t0, t0, Int.zero_add, hx.2]
    unfold psh
    rw [if_neg hx.1, ic]
    funext q
    exact push_pl c x.1 x.2 q
theorem pl_inj_nil {c : Word} (h : ∀ q, pl A c q = []) : c = [] := by
  cases c with
  | nil => rfl
  | cons x c =>
    have := h x.1
    rw [pl_cons] at this
    unfold lay at this
    rw [if_pos rfl] at this
    cases this
/-- nothing is left exactly if the piles are empty -/
theorem Red.empty {c : Word} (r : Red A c) : c = [] ↔ ∀ q, st A c q = [] := by
  rw [r.st_pl]
  constructor
  · intro e q
    subst e
    rfl
  · intro h
    exact pl_inj_nil (A := A) fun q => by
      have := h q
      exact List.reverse_eq_nil_iff.mp this
/-- the pair at the place can slide to the front -/
def Front (A : Wa) (c : Word) (u : Word) (x : Pr) (v : Word) : Prop := c = u ++ x :: v ∧ ∀ y ∈ u, y.1 ≠ x.1 ∧ A.tied y.1 x.1 = false
theorem lay_none {q : Int} {y : Pr} (h : y.1 ≠ q ∧ A.tied y.1 q = false) : lay A q y = none := by
  unfold lay
  rw [if_neg h.1, if_neg (by rw [h.2]; decide)]
theorem pl_front {u : Word} {q : Int} (h : ∀ y ∈ u, y.1 ≠ q ∧ A.tied y.1 q = false) : pl A u q = [] := List.filterMap_eq_nil_iff.mpr fun y hy => lay_none (h y hy)
/-- without the pair in front: the piles without their lowest -/
theorem Front.rest {c u v : Word} {x : Pr} (f : Front A c u x v) (q : Int) : pl A c q = (lay A q x).toList ++ pl A (u ++ v) q := by
  rw [f.1, pl_append, pl_cons, pl_append]
  cases e : lay A q x with
  | none => rfl
  | some a =>
    -- what is ahead of x lays nothing where x lays something
    have : pl A u q = [] ∨ A.tied x.1 q = true := by
      unfold lay at e
      split at e
      · rename_i n
        exact .inl (by rw [← n]; exact pl_front f.2)
      · split at e
        · rename_i t; exact .inr t
        · cases e
    rcases this with h | t
    · rw [h]; rfl
    · have nx : x.1 ≠ q := fun z => by subst z; rw [A.irr] at t; cases t
      have a0 : a = 0 := by
        unfold lay at e
        rw [if_neg nx, if_pos t] at e
        exact (Option.some.inj e).symm
      have z : ∀ b ∈ pl A u q, b = 0 := fun b hb => by
        obtain ⟨y, hy, e2⟩ := List.mem_filterMap.mp hb
        obtain ⟨n1, n2⟩ := f.2 y hy
        unfold lay at e2
        split at e2
        · rename_i n3
          rw [n3, A.sym, t] at n2
          cases n2
        · split at e2
          · exact (Option.some.inj e2).symm
          · cases e2
      have r : pl A u q = List.replicate (pl A u q).length 0 := List.eq_replicate_of_mem z
      subst a0
      show pl A u q ++ ([0] ++ pl A v q) = [0] ++ (pl A u q ++ pl A v q)
      rw [r, ← List.append_assoc, ← List.append_assoc]
      congr 1
      show List.replicate _ 0 ++ List.replicate 1 0 = List.replicate 1 0 ++ List.replicate _ 0
      rw [List.replicate_append_replicate, List.replicate_append_replicate, Nat.add_comm]
theorem Nrm.sub {c d : Word} (h : Nrm A c) (s : ∀ x ∈ d, x ∈ c) : Nrm A d := fun x hx => h x (s x hx)
/-- without a pair in front nothing can be joined either -/
theorem Front.red {c u v : Word} {x : Pr} (f : Front A c u x v) (r : Red A c) : Red A (u ++ v) := by
  refine ⟨r.nrm.sub fun y hy => ?_, fun a y b e => ?_⟩
  · rw [f.1]
    rcases List.mem_append.mp hy with h | h
    · exact List.mem_append_left _ h
    · exact List.mem_append_right _ (List.mem_cons_of_mem _ h)
  · rcases List.append_eq_append_iff.mp e with ⟨d, e1, e2⟩ | ⟨d, e1, e2⟩
    · -- the cut is behind u: v = d ++ y :: b
      have h := r.nj (u ++ x :: d) y b (by rw [f.1, e2]; simp)
      have fr : Front A (u ++ x :: d) u x d := ⟨rfl, f.2⟩
      have e3 := fr.rest y.1
      rw [e1]
      rw [e3] at h
      cases c1 : lay A y.1 x with
      | none => rw [c1] at h; exact h
      | some m =>
        rw [c1] at h
        have h : (m :: pl A (u ++ d) y.1).getLast?.getD 0 = 0 := h
        cases c2 : pl A (u ++ d) y.1 with
        | nil => rfl
        | cons k l => rw [c2] at h; rwa [List.getLast?_cons_cons] at h
    · cases d with
      | nil =>
        rw [List.append_nil] at e1
        subst e1
        rw [List.nil_append] at e2
        have h := r.nj (u ++ [x]) y b (by rw [f.1, ← e2]; simp)
        have fr : Front A (u ++ [x]) u x [] := ⟨rfl, f.2⟩
        have e3 := fr.rest y.1
        rw [List.append_nil] at e3
        rw [e3] at h
        cases c1 : lay A y.1 x with
        | none => rw [c1] at h; exact h
        | some m =>
          rw [c1] at h
          have h : (m :: pl A u y.1).getLast?.getD 0 = 0 := h
          cases c2 : pl A u y.1 with
          | nil => rfl
          | cons k l => rw [c2] at h; rwa [List.getLast?_cons_cons] at h
      | cons z d =>
        rw [List.cons_append] at e2
        injection e2 with e2 e4
        exact r.nj a y (d ++ x :: v) (by rw [f.1, e1, e2]; simp)
/-- the next pair in the least order: in front, with the least peg -/
structure Least (A : Wa) (c : Word) (u : Word) (x : Pr) (v : Word) : Prop where
  front : Front A c u x v
  least : ∀ u' y v', Front A c u' y v' → x.1 ≤ y.1
inductive Arr (A : Wa) : Word → Word → Prop
  | nil : Arr A [] []
  | cons {c u v d : Word} {x : Pr} : Least A c u x v → Arr A (u ++ v) d → Arr A c (x :: d)
/-- a pair in front slides there -/
theorem Front.eqv {c u v : Word} {x : Pr} (f : Front A c u x v) : Eqv A c (x :: (u ++ v)) := by
  rw [f.1]
  have key : ∀ (w : Word), (∀ y ∈ w, y.1 ≠ x.1 ∧ A.tied y.1 x.1 = false) → ∀ t : Word, Eqv A (w ++ x :: t) (x :: (w ++ t)) := fun w => by
    induction w using snoc_ind with
    | h0 => intro _ t; exact .refl _
    | hs w y ih =>
      intro h t
      have hy := h y (by simp)
      have s : Sl A (w ++ y :: x :: t) (w ++ x :: y :: t) := .past w t y x hy.1 hy.2
      have := ih (fun z hz => h z (List.mem_append_left _ hz)) (y :: t)
      simp only [List.append_assoc, List.singleton_append]
      exact .step s this
  exact key u f.2 v
theorem Arr.eqv {c d : Word} (h : Arr A c d) : Eqv A c d := by
  induction h with
  | nil => exact .refl _
  | @cons c u v d x l h ih =>
    refine l.front.eqv.trans ?_
    have := ih.ctx [x] []
    simpa using this
theorem Arr.length {c d : Word} (h : Arr A c d) : d.length = c.length := by
  induction h with
  | nil => rfl
  | @cons c u v d x l h ih =>
    rw [l.front.1, List.length_cons, ih]
    simp only [List.length_append, List.length_cons]
    omega
/-- no two of a pile's numbers beside one another are unlike 0 -/
def Sep (l : List Int) : Prop := ∀ u a b v, l = u ++ a :: b :: v → a = 0 ∨ b = 0
theorem Sep.snoc {l : List Int} {b : Int} (h : Sep l) (hb : l.getLast?.getD 0 = 0 ∨ b = 0) : Sep (l ++ [b]) := by
  intro u x y v e
  rcases List.eq_nil_or_concat v with rfl | ⟨v, z, rfl⟩
  · have e : l ++ [b] = (u ++ [x]) ++ [y] := by rw [e]; simp
    obtain ⟨e1, e2⟩ := List.append_inj' e rfl
    injection e2 with e2 _
    subst e2
    rcases hb with hb | hb
    · rw [e1] at hb
      simp at hb
      exact .inl hb
    · exact .inr hb
  · have e : l ++ [b] = (u ++ x :: y :: v) ++ [z] := by rw [e]; simp
    obtain ⟨e1, _⟩ := List.append_inj' e rfl
    exact h u x y v e1
theorem Red.sep : ∀ (c : Word), Red A c → ∀ q, Sep (pl A c q) := fun c => by
  induction c using snoc_ind with
  | h0 =>
    intro _ q u a b v e
    have : ([] : List Int) = u ++ a :: b :: v := e
    simp at this
  | hs c x ih =>
    intro r q
    have h := ih r.take q
    rw [pl_append, pl_one]
    cases e : lay A q x with
    | none =>
      show Sep (pl A c q ++ [])
      rw [List.append_nil]; exact h
    | some b =>
      refine h.snoc ?_
      unfold lay at e
      split at e
      · rename_i n
        subst n
        exact .inl (r.nj c x [] rfl)
      · split at e
        · exact .inr (Option.some.inj e).symm
        · cases e
theorem red_of {c : Word} (n : Nrm A c) (h : ∀ q, Sep (pl A c q)) : Red A c := by
  refine ⟨n, fun u x v e => ?_⟩
  have hx := n x (by rw [e]; simp)
  have e2 : pl A c x.1 = pl A u x.1 ++ x.2 :: pl A v x.1 := by
    rw [e, pl_append, pl_cons]
    unfold lay
    rw [if_pos rfl]; rfl
  have s := h x.1
  rw [e2] at s
  rcases List.eq_nil_or_concat (pl A u x.1) with z | ⟨l, b, z⟩
  · rw [z]; rfl
  · rw [z] at s ⊢
    have := s l b x.2 (pl A v x.1) (by simp)
    simp
    exact this.resolve_right hx.1
theorem Arr.red {c d : Word} (h : Arr A c d) (r : Red A c) : Red A d ∧ ∀ q, pl A d q = pl A c q := by
  have key : Nrm A d ∧ ∀ q, pl A d q = pl A c q := by
    induction h with
    | nil => exact ⟨r.nrm, fun _ => rfl⟩
    | @cons c u v d x l h ih =>
      obtain ⟨rd, e⟩ := ih (l.front.red r)
      refine ⟨fun y hy => ?_, fun q => by rw [pl_cons, e, l.front.rest q]⟩
      rcases List.mem_cons.mp hy with rfl | hy
      · exact r.nrm y (by rw [l.front.1]; simp)
      · exact rd y hy
  exact ⟨red_of key.1 fun q => by rw [key.2]; exact Red.sep c r q, key.2⟩
end Gp
set_option Elab.async false
set_option linter.all false
set_option maxRecDepth 100000
set_option maxHeartbeats 4000000
namespace Dv
open PySem PySem.Spec PyProof.Rows L2
abbrev KE (β : Type) := W → Bool → Dv.Env → Option β
abbrev KA (β : Type) := List W → Bool → Dv.Env → Option β
abbrev KT (β : Type) := Bool → Dv.Env → Option β
abbrev KI (β : Type) := List W → Dv.Env → Option β
abbrev KP (β : Type) := List Stp → Dv.Env → Option β
abbrev KS (β : Type) := SR → Option β
section
variable {β : Type}
def E (f : Den) (M : Own) (δ : Dv.Env) (κ : KE β) : Option β := (f M δ).bind fun r => κ r.1 r.2.1 r.2.2
def EA (f : DenA) (M : Own) (δ : Dv.Env) (κ : KA β) : Option β := (f M δ).bind fun r => κ r.1 r.2.1 r.2.2
def ET (f : DenT) (M : Own) (δ : Dv.Env) (κ : KT β) : Option β := (f M δ).bind fun r => κ r.1 r.2
def EI (f : DenI) (M : Own) (δ : Dv.Env) (κ : KI β) : Option β := (f M δ).bind fun r => κ r.1 r.2
def EP (f : DenP) (M : Own) (δ : Dv.Env) (κ : KP β) : Option β := (f M δ).bind fun r => κ r.1 r.2
def EO (f : DenO) (M : Own) (δ : Dv.Env) (κ : Option Int → Dv.Env → Option β) : Option β := (f M δ).bind fun r => κ r.1 r.2
def ES (s : DenS) (δ : Dv.Env) (κ : KS β) : Option β := (s δ).bind κ
def O (x : Option (W × Bool)) (δ : Dv.Env) (κ : KE β) : Option β := x.bind fun r => κ r.1 r.2 δ
def gd (b : Bool) (x : Option β) : Option β := if b = true then x else none
def kId : KE (W × Bool × Dv.Env) := fun w fr δ => some (w, fr, δ)
def kIdT : KT (Bool × Dv.Env) := fun b δ => some (b, δ)
def kIdS : KS SR := fun r => some r
theorem E_id (f : Den) (M : Own) (δ : Dv.Env) : f M δ = E f M δ kId := by unfold E kId; cases f M δ <;> rfl
theorem ET_id (f : DenT) (M : Own) (δ : Dv.Env) : f M δ = ET f M δ kIdT := by unfold ET kIdT; cases f M δ <;> rfl
theorem gd_t (x : Option β) : gd true x = x := rfl
theorem kId_ap (w : W) (fr : Bool) (δ : Dv.Env) : kId w fr δ = some (w, fr, δ) := rfl
theorem kIdT_ap (b : Bool) (δ : Dv.Env) : kIdT b δ = some (b, δ) := rfl
theorem kIdS_ap (r : SR) : kIdS r = some r := rfl
theorem O_some (w : W) (fr : Bool) (δ : Dv.Env) (κ : KE β) : O (some (w, fr)) δ κ = κ w fr δ := rfl
def vk2 (im m : Bool) (w : W) (δ : Dv.Env) (κ : KE β) : Option β := if m && !im then none else κ w im δ
def vk (x : Option (Option W)) (m : Bool) (δ : Dv.Env) (κ : KE β) : Option β := match x with | some (some w) => vk2 w.imm m w δ κ | _ => none
theorem E_var (i : Nat) (M : Own) (δ : Dv.Env) (κ : KE β) : E (dVar i) M δ κ = vk δ[i]? (M i) δ κ := by
  unfold E dVar vk vk2
  cases δ[i]? with
  | none => rfl
  | some x => cases x with
    | none => rfl
    | some w =>
      show Option.bind (if (M i && !w.imm) = true then none else some (w, w.imm, δ)) _ = if (M i && !w.imm) = true then none else κ w w.imm δ
      cases (M i && !w.imm) <;> rfl
theorem vk_s (w : W) (m : Bool) (δ : Dv.Env) (κ : KE β) : vk (some (some w)) m δ κ = vk2 w.imm m w δ κ := rfl
theorem vk2_t (m : Bool) (w : W) (δ : Dv.Env) (κ : KE β) : vk2 true m w δ κ = κ w true δ := by unfold vk2; cases m <;> rfl
theorem vk2_f (w : W) (δ : Dv.Env) (κ : KE β) : vk2 false false w δ κ = κ w false δ := rfl
def mk2 (im m : Bool) (i : Nat) (w : W) (δ : Dv.Env) (κ : KE β) : Option β := if im then κ w true δ else if m then κ w true (δ.set i none) else none
def mk1 (x : Option (Option W)) (m : Bool) (i : Nat) (δ : Dv.Env) (κ : KE β) : Option β := match x with | some (some w) => mk2 w.imm m i w δ κ | _ => none
theorem E_mv (i : Nat) (M : Own) (δ : Dv.Env) (κ : KE β) : E (dMv i) M δ κ = mk1 δ[i]? (M i) i δ κ := by
  unfold E dMv mk1 mk2
  cases δ[i]? with
  | none => rfl
  | some x => cases x with
    | none => rfl
    | some w => cases h : w.imm <;> cases M i <;> simp [h]
theorem mk1_s (w : W) (m : Bool) (i : Nat) (δ : Dv.Env) (κ : KE β) : mk1 (some (some w)) m i δ κ = mk2 w.imm m i w δ κ := rfl
theorem mk2_t (m : Bool) (i : Nat) (w : W) (δ : Dv.Env) (κ : KE β) : mk2 true m i w δ κ = κ w true δ := rfl
theorem mk2_f (i : Nat) (w : W) (δ : Dv.Env) (κ : KE β) : mk2 false true i w δ κ = κ w true (δ.set i none) := rfl
theorem E_c (w : W) (M : Own) (δ : Dv.Env) (κ : KE β) : E (dC w) M δ κ = κ w w.imm δ := rfl
def kOp2 (k : W → W → Option (W × Bool)) (w1 : W) (κ : KE β) : KE β := fun w2 _ δ => O (k w1 w2) δ κ
def kOp1 (k : W → W → Option (W × Bool)) (g : Den) (M : Own) (κ : KE β) : KE β := fun w1 _ δ => E g M δ (kOp2 k w1 κ)
theorem E_op (k : W → W → Option (W × Bool)) (f g : Den) (M : Own) (δ : Dv.Env) (κ : KE β) : E (dOp k f g) M δ κ = E f M δ (kOp1 k g M κ) := by
  unfold E dOp kOp1 E kOp2 O
  cases f M δ with
  | none => rfl
  | some r1 =>
    show Option.bind (Option.bind (g M r1.2.2) _) _ = Option.bind (g M r1.2.2) _
    cases g M r1.2.2 with
    | none => rfl
    | some r2 =>
      show Option.bind (Option.map _ (k r1.1 r2.1)) _ = Option.bind (k r1.1 r2.1) _
      cases k r1.1 r2.1 <;> rfl
theorem kOp1_ap (k : W → W → Option (W × Bool)) (g : Den) (M : Own) (κ : KE β) (w : W) (fr : Bool) (δ : Dv.Env) : kOp1 k g M κ w fr δ = E g M δ (kOp2 k w κ) := rfl
theorem kOp2_ap (k : W → W → Option (W × Bool)) (w1 : W) (κ : KE β) (w : W) (fr : Bool) (δ : Dv.Env) : kOp2 k w1 κ w fr δ = O (k w1 w) δ κ := rfl
def kUn (k : W → Option (W × Bool)) (κ : KE β) : KE β := fun w _ δ => O (k w) δ κ
theorem E_un (k : W → Option (W × Bool)) (f : Den) (M : Own) (δ : Dv.Env) (κ : KE β) : E (dUn k f) M δ κ = E f M δ (kUn k κ) := by
  unfold E dUn kUn O
  cases f M δ with
  | none => rfl
  | some r1 =>
    show Option.bind (Option.map _ (k r1.1)) _ = Option.bind (k r1.1) _
    cases k r1.1 <;> rfl
theorem kUn_ap (k : W → Option (W × Bool)) (κ : KE β) (w : W) (fr : Bool) (δ : Dv.Env) : kUn k κ w fr δ = O (k w) δ κ := rfl
theorem E_isi (T : String) (f : Den) (M : Own) (δ : Dv.Env) (κ : KE β) : E (dIsi T f) M δ κ = E f M δ (kUn (kIsi T) κ) := by
  unfold E dIsi kUn O
  cases f M δ with
  | none => rfl
  | some r1 =>
    show Option.bind (Option.map _ (kIsi T r1.1)) _ = Option.bind (kIsi T r1.1) _
    cases kIsi T r1.1 <;> rfl
def kCons2 (w : W) (fr1 : Bool) (κ : KA β) : KA β := fun ws fr δ => κ (w :: ws) (fr1 && fr) δ
def kCons1 (g : DenA) (M : Own) (κ : KA β) : KE β := fun w fr δ => EA g M δ (kCons2 w fr κ)
theorem EA_nil (M : Own) (δ : Dv.Env) (κ : KA β) : EA aNil M δ κ = κ [] true δ := rfl
theorem EA_cons (f : Den) (g : DenA) (M : Own) (δ : Dv.Env) (κ : KA β) : EA (aCons f g) M δ κ = E f M δ (kCons1 g M κ) := by
  unfold EA E aCons kCons1 EA kCons2
  cases f M δ with
  | none => rfl
  | some r1 =>
    show Option.bind (Option.map _ (g M r1.2.2)) _ = Option.bind (g M r1.2.2) _
    cases g M r1.2.2 <;> rfl
theorem kCons1_ap (g : DenA) (M : Own) (κ : KA β) (w : W) (fr : Bool) (δ : Dv.Env) : kCons1 g M κ w fr δ = EA g M δ (kCons2 w fr κ) := rfl
theorem kCons2_ap (w : W) (fr1 : Bool) (κ : KA β) (ws : List W) (fr : Bool) (δ : Dv.Env) : kCons2 w fr1 κ ws fr δ = κ (w :: ws) (fr1 && fr) δ := rfl
def kTupA (κ : KE β) : KA β := fun ws fr δ => gd (decide (ws.length ≤ LIM)) (κ (.tup ws) fr δ)
def kLstA (κ : KE β) : KA β := fun ws fr δ => gd (decide (ws.length ≤ LIM)) (κ (.lst ws) fr δ)
theorem E_tup (g : DenA) (M : Own) (δ : Dv.Env) (κ : KE β) : E (dTup g) M δ κ = EA g M δ (kTupA κ) := by
  unfold E dTup EA kTupA gd
  cases g M δ with
  | none => rfl
  | some r =>
    show Option.bind (if r.1.length ≤ LIM then _ else _) _ = _
    by_cases h : r.1.length ≤ LIM <;> simp [h]
theorem E_lst (g : DenA) (M : Own) (δ : Dv.Env) (κ : KE β) : E (dLst g) M δ κ = EA g M δ (kLstA κ) := by
  unfold E dLst EA kLstA gd
  cases g M δ with
  | none => rfl
  | some r =>
    show Option.bind (if r.1.length ≤ LIM then _ else _) _ = _
    by_cases h : r.1.length ≤ LIM <;> simp [h]
theorem kTupA_ap (κ : KE β) (ws : List W) (fr : Bool) (δ : Dv.Env) : kTupA κ ws fr δ = gd (decide (ws.length ≤ LIM)) (κ (.tup ws) fr δ) := rfl
theorem kLstA_ap (κ : KE β) (ws : List W) (fr : Bool) (δ : Dv.Env) : kLstA κ ws fr δ = gd (decide (ws.length ≤ LIM)) (κ (.lst ws) fr δ) := rfl
def kCbA (k : List W → Option (W × Bool)) (κ : KE β) : KA β := fun ws _ δ => O (k ws) δ κ
theorem E_cb (k : List W → Option (W × Bool)) (g : DenA) (M : Own) (δ : Dv.Env) (κ : KE β) : E (dCb k g) M δ κ = EA g M δ (kCbA k κ) := by
  unfold E dCb EA kCbA O
  cases g M δ with
  | none => rfl
  | some r =>
    show Option.bind (Option.map _ (k r.1)) _ = Option.bind (k r.1) _
    cases k r.1 <;> rfl
theorem kCbA_ap (k : List W → Option (W × Bool)) (κ : KE β) (ws : List W) (fr : Bool) (δ : Dv.Env) : kCbA k κ ws fr δ = O (k ws) δ κ := rfl
theorem E_call (F : FnD) (g : DenA) (M : Own) (δ : Dv.Env) (κ : KE β) : E (dCall F g) M δ κ = EA g M δ (kCbA F κ) := by
  unfold E dCall EA kCbA O
  cases g M δ with
  | none => rfl
  | some r =>
    show Option.bind (Option.map _ (F r.1)) _ = Option.bind (F r.1) _
    cases F r.1 <;> rfl
def kCallK2 (n m : Nat) (perm : List Nat) (ds : List W) (F : FnD) (ws : List W) (κ : KE β) : KA β := fun us _ δ => O (F (kwG n m perm ds ws us)) δ κ
def kCallK1 (n m : Nat) (perm : List Nat) (ds : List W) (F : FnD) (gk : DenA) (M : Own) (κ : KE β) : KA β := fun ws _ δ => EA gk M δ (kCallK2 n m perm ds F ws κ)
theorem E_callk (n m : Nat) (perm : List Nat) (ds : List W) (F : FnD) (g gk : DenA) (M : Own) (δ : Dv.Env) (κ : KE β) : E (dCallK n m perm ds F g gk) M δ κ = EA g M δ (kCallK1 n m perm ds F gk M κ) := by
  unfold E dCallK EA kCallK1 EA kCallK2 O
  cases g M δ with
  | none => rfl
  | some r =>
    show Option.bind (Option.bind (gk M r.2.2) _) _ = Option.bind (gk M r.2.2) _
    cases gk M r.2.2 with
    | none => rfl
    | some z =>
      show Option.bind (Option.map _ (F _)) _ = Option.bind (F _) _
      cases F (kwG n m perm ds r.1 z.1) <;> rfl
theorem kCallK1_ap (n m : Nat) (perm : List Nat) (ds : List W) (F : FnD) (gk : DenA) (M : Own) (κ : KE β) (ws : List W) (fr : Bool) (δ : Dv.Env) : kCallK1 n m perm ds F gk M κ ws fr δ = EA gk M δ (kCallK2 n m perm ds F ws κ) := rfl
theorem kCallK2_ap (n m : Nat) (perm : List Nat) (ds : List W) (F : FnD) (ws : List W) (κ : KE β) (us : List W) (fr : Bool) (δ : Dv.Env) : kCallK2 n m perm ds F ws κ us fr δ = O (F (kwG n m perm ds ws us)) δ κ := rfl
def O3 (x : Option (W × Bool × W)) (i : Nat) (δ : Dv.Env) (κ : KE β) : Option β := x.bind fun r => κ r.1 r.2.1 (δ.set i (some r.2.2))
theorem O3_some (w w' : W) (fr : Bool) (i : Nat) (δ : Dv.Env) (κ : KE β) : O3 (some (w, fr, w')) i δ κ = κ w fr (δ.set i (some w')) := rfl
def cm2 (x : Option (Option W)) (F : FnM) (ws : List W) (i : Nat) (δ : Dv.Env) (κ : KE β) : Option β := match x with | some (some w0) => O3 (F w0 ws) i δ κ | _ => none
theorem cm2_s (w0 : W) (F : FnM) (ws : List W) (i : Nat) (δ : Dv.Env) (κ : KE β) : cm2 (some (some w0)) F ws i δ κ = O3 (F w0 ws) i δ κ := rfl
def kCallM (i : Nat) (F : FnM) (κ : KE β) : KA β := fun ws _ δ => cm2 δ[i]? F ws i δ κ
theorem kCallM_ap (i : Nat) (F : FnM) (κ : KE β) (ws : List W) (fr : Bool) (δ : Dv.Env) : kCallM i F κ ws fr δ = cm2 δ[i]? F ws i δ κ := rfl
def cm1 (x : Option (Option W)) (m : Bool) (y : Option β) : Option β := match x with | some (some _) => gd m y | _ => none
theorem cm1_s (w : W) (m : Bool) (y : Option β) : cm1 (some (some w)) m y = gd m y := rfl
theorem E_callm (i : Nat) (F : FnM) (g : DenA) (M : Own) (δ : Dv.Env) (κ : KE β) : E (dCallM i F g) M δ κ = cm1 δ[i]? (M i) (EA g M δ (kCallM i F κ)) := by
  unfold E dCallM cm1 EA kCallM cm2 O3 gd
  cases δ[i]? with
  | none => rfl
  | some x => cases x with
    | none => rfl
    | some w =>
      cases M i with
      | false => rfl
      | true =>
        show Option.bind (Option.bind (g M δ) _) _ = Option.bind (g M δ) _
        cases g M δ with
        | none => rfl
        | some r =>
          show Option.bind (match r.2.2[i]? with | some (some w0) => _ | _ => none) _ = (match r.2.2[i]? with | some (some w0) => _ | _ => none)
          cases r.2.2[i]? with
          | none => rfl
          | some y => cases y with
            | none => rfl
            | some w0 =>
              show Option.bind (Option.map _ (F w0 r.1)) _ = Option.bind (F w0 r.1) _
              cases F w0 r.1 <;> rfl
def kNotE (κ : KE β) : KE β := fun w _ δ => match w with | .bl b => κ (.bl (!b)) true δ | _ => none
theorem E_not (f : Den) (M : Own) (δ : Dv.Env) (κ : KE β) : E (dNot f) M δ κ = E f M δ (kNotE κ) := by
  unfold E dNot kNotE
  cases f M δ with
  | none => rfl
  | some r => obtain ⟨w, fr, δ'⟩ := r; cases w <;> rfl
theorem kNotE_ap (κ : KE β) (b fr : Bool) (δ : Dv.Env) : kNotE κ (.bl b) fr δ = κ (.bl (!b)) true δ := rfl
/-- a test of which the second part is looked at only if c -/
def bind3 (x : Option (W × Bool × Dv.Env)) (κ : KE β) : Option β := x.bind fun r => κ r.1 r.2.1 r.2.2
theorem bind3_s (w : W) (fr : Bool) (δ : Dv.Env) (κ : KE β) : bind3 (some (w, fr, δ)) κ = κ w fr δ := rfl
def andM (c : Bool) (x : Option (W × Bool × Dv.Env)) (δ : Dv.Env) (κ : KE β) : Option β := if c then bind3 x κ else κ (.bl false) true δ
def orM (c : Bool) (x : Option (W × Bool × Dv.Env)) (δ : Dv.Env) (κ : KE β) : Option β := if c then κ (.bl true) true δ else bind3 x κ
theorem andM_t (x : Option (W × Bool × Dv.Env)) (δ : Dv.Env) (κ : KE β) : andM true x δ κ = bind3 x κ := rfl
theorem andM_f (x : Option (W × Bool × Dv.Env)) (δ : Dv.Env) (κ : KE β) : andM false x δ κ = κ (.bl false) true δ := rfl
theorem orM_t (x : Option (W × Bool × Dv.Env)) (δ : Dv.Env) (κ : KE β) : orM true x δ κ = κ (.bl true) true δ := rfl
theorem orM_f (x : Option (W × Bool × Dv.Env)) (δ : Dv.Env) (κ : KE β) : orM false x δ κ = bind3 x κ := rfl
theorem andM_b (c c2 : Bool) (δ : Dv.Env) (κ : KE β) : andM c (some (.bl c2, true, δ)) δ κ = κ (.bl (c && c2)) true δ := by cases c <;> rfl
theorem orM_b (c c2 : Bool) (δ : Dv.Env) (κ : KE β) : orM c (some (.bl c2, true, δ)) δ κ = κ (.bl (c || c2)) true δ := by cases c <;> rfl
def kAndE (g : Den) (M : Own) (κ : KE β) : KE β := fun w _ δ => match w with | .bl c => andM c (E g M δ kId) δ κ | _ => none
def kOrE (g : Den) (M : Own) (κ : KE β) : KE β := fun w _ δ => match w with | .bl c => orM c (E g M δ kId) δ κ | _ => none
theorem E_and (f g : Den) (M : Own) (δ : Dv.Env) (κ : KE β) : E (dAnd f g) M δ κ = E f M δ (kAndE g M κ) := by
  unfold E dAnd kAndE andM
  simp only [← E_id]
  cases f M δ with
  | none => rfl
  | some r =>
    obtain ⟨w, fr, δ'⟩ := r
    cases w with
    | bl b => cases b <;> rfl
    | _ => rfl
theorem E_or (f g : Den) (M : Own) (δ : Dv.Env) (κ : KE β) : E (dOr f g) M δ κ = E f M δ (kOrE g M κ) := by
  unfold E dOr kOrE orM
  simp only [← E_id]
  cases f M δ with
  | none => rfl
  | some r =>
    obtain ⟨w, fr, δ'⟩ := r
    cases w with
    | bl b => cases b <;> rfl
    | _ => rfl
theorem kAndE_ap (g : Den) (M : Own) (κ : KE β) (c fr : Bool) (δ : Dv.Env) : kAndE g M κ (.bl c) fr δ = andM c (E g M δ kId) δ κ := rfl
theorem kOrE_ap (g : Den) (M : Own) (κ : KE β) (c fr : Bool) (δ : Dv.Env) : kOrE g M κ (.bl c) fr δ = orM c (E g M δ kId) δ κ := rfl
/-- a if c else b -/
def ifM (c : Bool) (x y : Option (W × Bool × Dv.Env)) (κ : KE β) : Option β := if c then bind3 x κ else bind3 y κ
theorem ifM_t (x y : Option (W × Bool × Dv.Env)) (κ : KE β) : ifM true x y κ = bind3 x κ := rfl
theorem ifM_f (x y : Option (W × Bool × Dv.Env)) (κ : KE β) : ifM false x y κ = bind3 y κ := rfl
theorem ifM_int (c : Bool) (a b : Int) (δ : Dv.Env) (κ : KE β) : ifM c (some (.int a, true, δ)) (some (.int b, true, δ)) κ = κ (.int (if c then a else b)) true δ := by cases c <;> rfl
theorem ifM_bl (c : Bool) (a b : Bool) (δ : Dv.Env) (κ : KE β) : ifM c (some (.bl a, true, δ)) (some (.bl b, true, δ)) κ = κ (.bl (if c then a else b)) true δ := by cases c <;> rfl
theorem ifM_tup (c : Bool) (a b : List W) (δ : Dv.Env) (κ : KE β) : ifM c (some (.tup a, true, δ)) (some (.tup b, true, δ)) κ = κ (.tup (if c then a else b)) true δ := by cases c <;> rfl
theorem ifM_lst (c fr : Bool) (a b : List W) (δ : Dv.Env) (κ : KE β) : ifM c (some (.lst a, fr, δ)) (some (.lst b, fr, δ)) κ = κ (.lst (if c then a else b)) fr δ := by cases c <;> rfl
def kIfE (f g : Den) (M : Own) (κ : KE β) : KT β := fun c δ => ifM c (E f M δ kId) (E g M δ kId) κ
theorem E_if (t : DenT) (f g : Den) (M : Own) (δ : Dv.Env) (κ : KE β) : E (dIf t f g) M δ κ = ET t M δ (kIfE f g M κ) := by
  unfold E dIf ET kIfE ifM
  simp only [← E_id]
  cases t M δ with
  | none => rfl
  | some r => obtain ⟨b, δ'⟩ := r; cases b <;> rfl
theorem kIfE_ap (f g : Den) (M : Own) (κ : KE β) (c : Bool) (δ : Dv.Env) : kIfE f g M κ c δ = ifM c (E f M δ kId) (E g M δ kId) κ := rfl
def chM (x : Option (W × Bool)) (w2 : W) (k' : W → W → Option (W × Bool)) (h : Den) (M : Own) (δ : Dv.Env) (κ : KE β) : Option β := x.bind fun r => match r.1 with | .bl c => andM c (E h M δ (kOp2 k' w2 kId)) δ κ | _ => none
theorem chM_s (c fr : Bool) (w2 : W) (k' : W → W → Option (W × Bool)) (h : Den) (M : Own) (δ : Dv.Env) (κ : KE β) : chM (some (.bl c, fr)) w2 k' h M δ κ = andM c (E h M δ (kOp2 k' w2 kId)) δ κ := rfl
def kCh2 (k k' : W → W → Option (W × Bool)) (w1 : W) (h : Den) (M : Own) (κ : KE β) : KE β := fun w2 _ δ => chM (k w1 w2) w2 k' h M δ κ
def kCh1 (k k' : W → W → Option (W × Bool)) (g h : Den) (M : Own) (κ : KE β) : KE β := fun w1 _ δ => E g M δ (kCh2 k k' w1 h M κ)
theorem kCh1_ap (k k' : W → W → Option (W × Bool)) (g h : Den) (M : Own) (κ : KE β) (w : W) (fr : Bool) (δ : Dv.Env) : kCh1 k k' g h M κ w fr δ = E g M δ (kCh2 k k' w h M κ) := rfl
theorem kCh2_ap (k k' : W → W → Option (W × Bool)) (w1 : W) (h : Den) (M : Own) (κ : KE β) (w : W) (fr : Bool) (δ : Dv.Env) : kCh2 k k' w1 h M κ w fr δ = chM (k w1 w) w k' h M δ κ := rfl
theorem E_chain (k k' : W → W → Option (W × Bool)) (f g h : Den) (M : Own) (δ : Dv.Env) (κ : KE β) : E (dChain k k' f g h) M δ κ = E f M δ (kCh1 k k' g h M κ) := by
  unfold E dChain kCh1 E kCh2 chM andM bind3 E kOp2 O kId
  cases f M δ with
  | none => rfl
  | some r1 =>
    show Option.bind (Option.bind (g M r1.2.2) _) _ = Option.bind (g M r1.2.2) _
    cases g M r1.2.2 with
    | none => rfl
    | some r2 =>
      show Option.bind (Option.bind (k r1.1 r2.1) _) _ = Option.bind (k r1.1 r2.1) _
      cases k r1.1 r2.1 with
      | none => rfl
      | some x =>
        obtain ⟨w, fr⟩ := x
        cases w with
        | bl b =>
          cases b with
          | false => rfl
          | true =>
            show Option.bind (Option.bind (h M r2.2.2) _) _ = Option.bind (Option.bind (h M r2.2.2) _) _
            cases h M r2.2.2 with
            | none => rfl
            | some r3 =>
              show Option.bind (Option.map _ (k' r2.1 r3.1)) _ = Option.bind (Option.bind (k' r2.1 r3.1) _) _
              cases k' r2.1 r3.1 <;> rfl
        | _ => rfl
def kTst (κ : KT β) : KE β := fun w _ δ => match w with | .bl b => κ b δ | _ => none
theorem ET_test (f : Den) (M : Own) (δ : Dv.Env) (κ : KT β) : ET (bTest f) M δ κ = E f M δ (kTst κ) := by
  unfold ET bTest E kTst
  cases f M δ with
  | none => rfl
  | some r => obtain ⟨w, fr, δ'⟩ := r; cases w <;> rfl
theorem kTst_ap (κ : KT β) (b fr : Bool) (δ : Dv.Env) : kTst κ (.bl b) fr δ = κ b δ := rfl
def kNotT (κ : KT β) : KT β := fun b δ => κ (!b) δ
theorem ET_not (f : DenT) (M : Own) (δ : Dv.Env) (κ : KT β) : ET (bNot f) M δ κ = ET f M δ (kNotT κ) := by
  unfold ET bNot kNotT
  cases f M δ <;> rfl
theorem kNotT_ap (κ : KT β) (b : Bool) (δ : Dv.Env) : kNotT κ b δ = κ (!b) δ := rfl
theorem ET_yes (M : Own) (δ : Dv.Env) (κ : KT β) : ET bYes M δ κ = κ true δ := rfl
def bind2 (x : Option (Bool × Dv.Env)) (κ : KT β) : Option β := x.bind fun r => κ r.1 r.2
theorem bind2_s (b : Bool) (δ : Dv.Env) (κ : KT β) : bind2 (some (b, δ)) κ = κ b δ := rfl
def andT (c : Bool) (x : Option (Bool × Dv.Env)) (δ : Dv.Env) (κ : KT β) : Option β := if c then bind2 x κ else κ false δ
def orT (c : Bool) (x : Option (Bool × Dv.Env)) (δ : Dv.Env) (κ : KT β) : Option β := if c then κ true δ else bind2 x κ
theorem andT_t (x : Option (Bool × Dv.Env)) (δ : Dv.Env) (κ : KT β) : andT true x δ κ = bind2 x κ := rfl
theorem andT_f (x : Option (Bool × Dv.Env)) (δ : Dv.Env) (κ : KT β) : andT false x δ κ = κ false δ := rfl
theorem orT_t (x : Option (Bool × Dv.Env)) (δ : Dv.Env) (κ : KT β) : orT true x δ κ = κ true δ := rfl
theorem orT_f (x : Option (Bool × Dv.Env)) (δ : Dv.Env) (κ : KT β) : orT false x δ κ = bind2 x κ := rfl
theorem andT_b (c c2 : Bool) (δ : Dv.Env) (κ : KT β) : andT c (some (c2, δ)) δ κ = κ (c && c2) δ := by cases c <;> rfl
theorem orT_b (c c2 : Bool) (δ : Dv.Env) (κ : KT β) : orT c (some (c2, δ)) δ κ = κ (c || c2) δ := by cases c <;> rfl
def kAndT (g : DenT) (M : Own) (κ : KT β) : KT β := fun c δ => andT c (ET g M δ kIdT) δ κ
def kOrT (g : DenT) (M : Own) (κ : KT β) : KT β := fun c δ => orT c (ET g M δ kIdT) δ κ
theorem ET_and (f g : DenT) (M : Own) (δ : Dv.Env) (κ : KT β) : ET (bAnd f g) M δ κ = ET f M δ (kAndT g M κ) := by
  unfold ET bAnd kAndT andT
  simp only [← ET_id]
  cases f M δ with
  | none => rfl
  | some r => obtain ⟨b, δ'⟩ := r; cases b <;> rfl
theorem ET_or (f g : DenT) (M : Own) (δ : Dv.Env) (κ : KT β) : ET (bOr f g) M δ κ = ET f M δ (kOrT g M κ) := by
  unfold ET bOr kOrT orT
  simp only [← ET_id]
  cases f M δ with
  | none => rfl
  | some r => obtain ⟨b, δ'⟩ := r; cases b <;> rfl
theorem kAndT_ap (g : DenT) (M : Own) (κ : KT β) (c : Bool) (δ : Dv.Env) : kAndT g M κ c δ = andT c (ET g M δ kIdT) δ κ := rfl
theorem kOrT_ap (g : DenT) (M : Own) (κ : KT β) (c : Bool) (δ : Dv.Env) : kOrT g M κ c δ = orT c (ET g M δ kIdT) δ κ := rfl
def it2 (x : Option (List W)) (δ : Dv.Env) (κ : KI β) : Option β := x.bind fun ws => κ ws δ
theorem it2_s (ws : List W) (δ : Dv.Env) (κ : KI β) : it2 (some ws) δ κ = κ ws δ := rfl
def kItm (κ : KI β) : KE β := fun w _ δ => it2 (itemsOf w) δ κ
theorem EI_items (f : Den) (M : Own) (δ : Dv.Env) (κ : KI β) : EI (iItems f) M δ κ = E f M δ (kItm κ) := by
  unfold EI iItems E kItm it2
  cases f M δ with
  | none => rfl
  | some r =>
    show Option.bind (Option.map _ (itemsOf r.1)) _ = Option.bind (itemsOf r.1) _
    cases itemsOf r.1 <;> rfl
theorem kItm_ap (κ : KI β) (w : W) (fr : Bool) (δ : Dv.Env) : kItm κ w fr δ = it2 (itemsOf w) δ κ := rfl
theorem items_tup (ws : List W) : itemsOf (.tup ws) = some ws := rfl
theorem items_lst (ws : List W) : itemsOf (.lst ws) = some ws := rfl
theorem items_fl (ws : List W) : itemsOf (.fl ws) = some ws := rfl
def kRg1 (κ : KI β) : KA β := fun ws _ δ => match ws with | [.int n] => gd (cRng 0 n) (κ (rangeW 0 n.toNat) δ) | _ => none
def kRg2 (κ : KI β) : KA β := fun ws _ δ => match ws with | [.int m, .int n] => gd (cRng m n) (κ (rangeW m (n - m).toNat) δ) | _ => none
theorem kRg1_ap (κ : KI β) (n : Int) (fr : Bool) (δ : Dv.Env) : kRg1 κ [.int n] fr δ = gd (cRng 0 n) (κ (rangeW 0 n.toNat) δ) := rfl
theorem kRg2_ap (κ : KI β) (m n : Int) (fr : Bool) (δ : Dv.Env) : kRg2 κ [.int m, .int n] fr δ = gd (cRng m n) (κ (rangeW m (n - m).toNat) δ) := rfl
theorem EI_r1 (g : DenA) (M : Own) (δ : Dv.Env) (κ : KI β) : EI (iR1 g) M δ κ = EA g M δ (kRg1 κ) := by
  unfold EI iR1 EA kRg1 gd
  cases g M δ with
  | none => rfl
  | some r =>
    obtain ⟨ws, fr, δ'⟩ := r
    show Option.bind (match ws with | [.int n] => if cRng 0 n = true then some (rangeW 0 n.toNat, δ') else none | _ => none) _ = (match ws with | [.int n] => _ | _ => none)
    split
    · rename_i n
      simp only
      split <;> rfl
    · rfl
theorem EI_r2 (g : DenA) (M : Own) (δ : Dv.Env) (κ : KI β) : EI (iR2 g) M δ κ = EA g M δ (kRg2 κ) := by
  unfold EI iR2 EA kRg2 gd
  cases g M δ with
  | none => rfl
  | some r =>
    obtain ⟨ws, fr, δ'⟩ := r
    show Option.bind (match ws with | [.int m, .int n] => if cRng m n = true then some (rangeW m (n - m).toNat, δ') else none | _ => none) _ = (match ws with | [.int m, .int n] => _ | _ => none)
    split
    · rename_i m n
      simp only
      split <;> rfl
    · rfl
def kZipA (κ : KI β) : KA β := fun ws _ δ => it2 (kZip ws) δ κ
theorem kZipA_ap (κ : KI β) (ws : List W) (fr : Bool) (δ : Dv.Env) : kZipA κ ws fr δ = it2 (kZip ws) δ κ := rfl
theorem EI_zip (g : DenA) (M : Own) (δ : Dv.Env) (κ : KI β) : EI (iZipW g) M δ κ = EA g M δ (kZipA κ) := by
  unfold EI iZipW EA kZipA it2
  cases g M δ with
  | none => rfl
  | some r =>
    show Option.bind (Option.map _ (kZip r.1)) _ = Option.bind (kZip r.1) _
    cases kZip r.1 <;> rfl
def kEnm (κ : KI β) : KA β := fun ws _ δ => match ws with | [.lst ws] => κ (enumW ws) δ | _ => none
theorem kEnm_ap (κ : KI β) (ws : List W) (fr : Bool) (δ : Dv.Env) : kEnm κ [.lst ws] fr δ = κ (enumW ws) δ := rfl
theorem EI_enum (g : DenA) (M : Own) (δ : Dv.Env) (κ : KI β) : EI (iEnumW g) M δ κ = EA g M δ (kEnm κ) := by
  unfold EI iEnumW EA kEnm
  cases g M δ with
  | none => rfl
  | some r =>
    obtain ⟨ws, fr, δ'⟩ := r
    show Option.bind (match ws with | [.lst ws] => some (enumW ws, δ') | _ => none) _ = (match ws with | [.lst ws] => _ | _ => none)
    split <;> rfl
def kSl3 (w : W) (l : Option Int) (κ : KE β) : Option Int → Dv.Env → Option β := fun h δ => O (kSl w l h) δ κ
def kSl2 (w : W) (hi : DenO) (M : Own) (κ : KE β) : Option Int → Dv.Env → Option β := fun l δ => EO hi M δ (kSl3 w l κ)
def kSl1 (lo hi : DenO) (M : Own) (κ : KE β) : KE β := fun w _ δ => EO lo M δ (kSl2 w hi M κ)
theorem E_sl (f : Den) (lo hi : DenO) (M : Own) (δ : Dv.Env) (κ : KE β) : E (dSl f lo hi) M δ κ = E f M δ (kSl1 lo hi M κ) := by
  unfold E dSl kSl1 EO kSl2 EO kSl3 O
  cases f M δ with
  | none => rfl
  | some r =>
    show Option.bind (Option.bind (lo M r.2.2) _) _ = Option.bind (lo M r.2.2) _
    cases lo M r.2.2 with
    | none => rfl
    | some l =>
      show Option.bind (Option.bind (hi M l.2) _) _ = Option.bind (hi M l.2) _
      cases hi M l.2 with
      | none => rfl
      | some h =>
        show Option.bind (Option.map _ (kSl r.1 l.1 h.1)) _ = Option.bind (kSl r.1 l.1 h.1) _
        cases kSl r.1 l.1 h.1 <;> rfl
theorem kSl1_ap (lo hi : DenO) (M : Own) (κ : KE β) (w : W) (fr : Bool) (δ : Dv.Env) : kSl1 lo hi M κ w fr δ = EO lo M δ (kSl2 w hi M κ) := rfl
theorem kSl2_ap (w : W) (hi : DenO) (M : Own) (κ : KE β) (l : Option Int) (δ : Dv.Env) : kSl2 w hi M κ l δ = EO hi M δ (kSl3 w l κ) := rfl
theorem kSl3_ap (w : W) (l h : Option Int) (κ : KE β) (δ : Dv.Env) : kSl3 w l κ h δ = O (kSl w l h) δ κ := rfl
def kOs (κ : Option Int → Dv.Env → Option β) : KE β := fun w _ δ => match w with | .int n => κ (some n) δ | _ => none
theorem EO_none (M : Own) (δ : Dv.Env) (κ : Option Int → Dv.Env → Option β) : EO oNone M δ κ = κ none δ := rfl
theorem EO_some (f : Den) (M : Own) (δ : Dv.Env) (κ : Option Int → Dv.Env → Option β) : EO (oSome f) M δ κ = E f M δ (kOs κ) := by
  unfold EO oSome E kOs
  cases f M δ with
  | none => rfl
  | some r => obtain ⟨w, fr, δ'⟩ := r; cases w <;> rfl
theorem kOs_ap (κ : Option Int → Dv.Env → Option β) (n : Int) (fr : Bool) (δ : Dv.Env) : kOs κ (.int n) fr δ = κ (some n) δ := rfl
def kRv (κ : KE β) : KE β := fun w _ δ => match w with | .lst ws => gd (decide (ws.length ≤ LIM)) (κ (.lst ws.reverse) (W.imms ws) δ) | .fl ws => gd (decide (ws.length ≤ LIM)) (κ (.lst ws.reverse) (W.imms ws) δ) | _ => none
theorem E_rev (f : Den) (M : Own) (δ : Dv.Env) (κ : KE β) : E (dRev f) M δ κ = E f M δ (kRv κ) := by
  unfold E dRev kRv gd
  cases f M δ with
  | none => rfl
  | some r =>
    obtain ⟨w, fr, δ'⟩ := r
    cases w with
    | lst ws => by_cases h : ws.length ≤ LIM <;> simp [h]
    | fl ws => by_cases h : ws.length ≤ LIM <;> simp [h]
    | _ => rfl
theorem kRv_lst (κ : KE β) (ws : List W) (fr : Bool) (δ : Dv.Env) : kRv κ (.lst ws) fr δ = gd (decide (ws.length ≤ LIM)) (κ (.lst ws.reverse) (W.imms ws) δ) := rfl
theorem kRv_fl (κ : KE β) (ws : List W) (fr : Bool) (δ : Dv.Env) : kRv κ (.fl ws) fr δ = gd (decide (ws.length ≤ LIM)) (κ (.lst ws.reverse) (W.imms ws) δ) := rfl
def kRgB (mk : List W → W) (w1 : W) (κ : KE β) : KE β := fun w2 _ δ => match w1, w2 with | .int a, .int b => gd (cRg a b) (κ (mk (rangeW a (b - a).toNat)) true δ) | _, _ => none
def kRgA (mk : List W → W) (fb : Den) (M : Own) (κ : KE β) : KE β := fun w1 _ δ => E fb M δ (kRgB mk w1 κ)
theorem E_rg (mk : List W → W) (fa fb : Den) (M : Own) (δ : Dv.Env) (κ : KE β) : E (dRg mk fa fb) M δ κ = E fa M δ (kRgA mk fb M κ) := by
  unfold E dRg kRgA E kRgB gd
  cases fa M δ with
  | none => rfl
  | some r1 =>
    show Option.bind (Option.bind (fb M r1.2.2) _) _ = Option.bind (fb M r1.2.2) _
    cases fb M r1.2.2 with
    | none => rfl
    | some r2 =>
      obtain ⟨w1, x1, δ1⟩ := r1
      obtain ⟨w2, x2, δ2⟩ := r2
      cases w1 <;> cases w2 <;> try rfl
      rename_i a b
      show Option.bind (if cRg a b = true then _ else _) _ = if cRg a b = true then _ else _
      by_cases h : cRg a b = true <;> simp [h]
theorem kRgA_ap (mk : List W → W) (fb : Den) (M : Own) (κ : KE β) (w1 : W) (fr : Bool) (δ : Dv.Env) : kRgA mk fb M κ w1 fr δ = E fb M δ (kRgB mk w1 κ) := rfl
theorem kRgB_ap (mk : List W → W) (a b : Int) (κ : KE β) (fr : Bool) (δ : Dv.Env) : kRgB mk (.int a) κ (.int b) fr δ = gd (cRg a b) (κ (mk (rangeW a (b - a).toNat)) true δ) := rfl
end
end Dv
set_option Elab.async false
set_option linter.all false
set_option maxRecDepth 100000
set_option maxHeartbeats 4000000
namespace Dv
open PySem PySem.Spec PyProof.Rows L2
section
variable {β : Type}
def pv1 (x : Option (Option W)) (δ : Dv.Env) (κ : KP β) : Option β := match x with | some (some _) => κ [] δ | _ => none
theorem pv1_s (w : W) (δ : Dv.Env) (κ : KP β) : pv1 (some (some w)) δ κ = κ [] δ := rfl
theorem EP_var (i : Nat) (M : Own) (δ : Dv.Env) (κ : KP β) : EP (pVar i) M δ κ = pv1 δ[i]? δ κ := by
  unfold EP pVar pv1
  cases δ[i]? with
  | none => rfl
  | some x => cases x <;> rfl
def pk4 (x : Option W) (k : Option Key) (st : List Stp) (δ : Dv.Env) (κ : KP β) : Option β := match x, k with | some (.dk ks ws), some k => (keyIx ks k).bind fun _ => κ (st ++ [.key k]) δ | _, _ => none
def pk3 (x : Option (Option W)) (w : W) (st : List Stp) (δ : Dv.Env) (κ : KP β) : Option β := match x with | some (some w0) => pk4 (w0.at st) w.key st δ κ | _ => none
def kPk2 (i : Nat) (st : List Stp) (κ : KP β) : KE β := fun w _ δ => pk3 δ[i]? w st δ κ
def kPk1 (i : Nat) (f : Den) (M : Own) (κ : KP β) : KP β := fun st δ => E f M δ (kPk2 i st κ)
theorem EP_key (i : Nat) (π : DenP) (f : Den) (M : Own) (δ : Dv.Env) (κ : KP β) : EP (pKey i π f) M δ κ = EP π M δ (kPk1 i f M κ) := by
  unfold EP pKey kPk1 E kPk2 pk3 pk4
  cases π M δ with
  | none => rfl
  | some p =>
    show Option.bind (Option.bind (f M p.2) _) _ = Option.bind (f M p.2) _
    cases f M p.2 with
    | none => rfl
    | some r =>
      show Option.bind (match r.2.2[i]? with | some (some w0) => _ | _ => none) _ = (match r.2.2[i]? with | some (some w0) => _ | _ => none)
      cases r.2.2[i]? with
      | none => rfl
      | some x => cases x with
        | none => rfl
        | some w0 =>
          show Option.bind (match w0.at p.1, r.1.key with | some (.dk ks ws), some k => _ | _, _ => none) _ = (match w0.at p.1, r.1.key with | some (.dk ks ws), some k => _ | _, _ => none)
          split
          · rename_i ks ws k _ _
            show Option.bind (Option.map _ (keyIx ks k)) _ = Option.bind (keyIx ks k) _
            cases keyIx ks k <;> rfl
          · rfl
theorem kPk1_ap (i : Nat) (f : Den) (M : Own) (κ : KP β) (st : List Stp) (δ : Dv.Env) : kPk1 i f M κ st δ = E f M δ (kPk2 i st κ) := rfl
theorem kPk2_ap (i : Nat) (st : List Stp) (κ : KP β) (w : W) (fr : Bool) (δ : Dv.Env) : kPk2 i st κ w fr δ = pk3 δ[i]? w st δ κ := rfl
theorem pk3_s (w0 w : W) (st : List Stp) (δ : Dv.Env) (κ : KP β) : pk3 (some (some w0)) w st δ κ = pk4 (w0.at st) w.key st δ κ := rfl
def pi4 (x : Option W) (w : W) (st : List Stp) (δ : Dv.Env) (κ : KP β) : Option β := match x, w with | some (.lst ws), .int k => (ixN ws.length k).bind fun n => κ (st ++ [.ix n]) δ | _, _ => none
def pi3 (x : Option (Option W)) (w : W) (st : List Stp) (δ : Dv.Env) (κ : KP β) : Option β := match x with | some (some w0) => pi4 (w0.at st) w st δ κ | _ => none
def kPi2 (i : Nat) (st : List Stp) (κ : KP β) : KE β := fun w _ δ => pi3 δ[i]? w st δ κ
def kPi1 (i : Nat) (f : Den) (M : Own) (κ : KP β) : KP β := fun st δ => E f M δ (kPi2 i st κ)
theorem EP_ix (i : Nat) (π : DenP) (f : Den) (M : Own) (δ : Dv.Env) (κ : KP β) : EP (pIx i π f) M δ κ = EP π M δ (kPi1 i f M κ) := by
  unfold EP pIx kPi1 E kPi2 pi3 pi4
  cases π M δ with
  | none => rfl
  | some p =>
    show Option.bind (Option.bind (f M p.2) _) _ = Option.bind (f M p.2) _
    cases f M p.2 with
    | none => rfl
    | some r =>
      show Option.bind (match r.2.2[i]? with | some (some w0) => _ | _ => none) _ = (match r.2.2[i]? with | some (some w0) => _ | _ => none)
      cases r.2.2[i]? with
      | none => rfl
      | some x => cases x with
        | none => rfl
        | some w0 =>
          show Option.bind (match w0.at p.1, r.1 with | some (.lst ws), .int k => _ | _, _ => none) _ = (match w0.at p.1, r.1 with | some (.lst ws), .int k => _ | _, _ => none)
          split
          · rename_i ws k _ _
            show Option.bind (Option.map _ (ixN ws.length k)) _ = Option.bind (ixN ws.length k) _
            cases ixN ws.length k <;> rfl
          · rfl
theorem kPi1_ap (i : Nat) (f : Den) (M : Own) (κ : KP β) (st : List Stp) (δ : Dv.Env) : kPi1 i f M κ st δ = E f M δ (kPi2 i st κ) := rfl
theorem kPi2_ap (i : Nat) (st : List Stp) (κ : KP β) (w : W) (fr : Bool) (δ : Dv.Env) : kPi2 i st κ w fr δ = pi3 δ[i]? w st δ κ := rfl
theorem pi3_s (w0 w : W) (st : List Stp) (δ : Dv.Env) (κ : KP β) : pi3 (some (some w0)) w st δ κ = pi4 (w0.at st) w st δ κ := rfl
def oa4 (x : Option (W × W)) (w0 : W) (i : Nat) (st : List Stp) (δ : Dv.Env) (κ : KE β) : Option β := x.bind fun q => κ q.2 true (δ.set i (some (w0.put st q.1)))
theorem oa4_s (w r w0 : W) (i : Nat) (st : List Stp) (δ : Dv.Env) (κ : KE β) : oa4 (some (w, r)) w0 i st δ κ = κ r true (δ.set i (some (w0.put st w))) := rfl
def oa3 (x : Option W) (op : OpW) (as : List W) (w0 : W) (i : Nat) (st : List Stp) (δ : Dv.Env) (κ : KE β) : Option β := x.bind fun w => oa4 (op w as) w0 i st δ κ
theorem oa3_s (w : W) (op : OpW) (as : List W) (w0 : W) (i : Nat) (st : List Stp) (δ : Dv.Env) (κ : KE β) : oa3 (some w) op as w0 i st δ κ = oa4 (op w as) w0 i st δ κ := rfl
def oa2 (x : Option (Option W)) (op : OpW) (as : List W) (i : Nat) (st : List Stp) (δ : Dv.Env) (κ : KE β) : Option β := match x with | some (some w0) => oa3 (w0.at st) op as w0 i st δ κ | _ => none
theorem oa2_s (w0 : W) (op : OpW) (as : List W) (i : Nat) (st : List Stp) (δ : Dv.Env) (κ : KE β) : oa2 (some (some w0)) op as i st δ κ = oa3 (w0.at st) op as w0 i st δ κ := rfl
def kAt2 (i : Nat) (op : OpW) (st : List Stp) (κ : KE β) : KA β := fun as fr δ => gd fr (oa2 δ[i]? op as i st δ κ)
def kAt1 (i : Nat) (op : OpW) (g : DenA) (M : Own) (κ : KE β) : KP β := fun st δ => EA g (but M i) δ (kAt2 i op st κ)
theorem E_at (i : Nat) (π : DenP) (op : OpW) (g : DenA) (M : Own) (δ : Dv.Env) (κ : KE β) : E (dOpAt i π op g) M δ κ = gd (M i) (EP π (but M i) δ (kAt1 i op g M κ)) := by
  unfold E dOpAt EP kAt1 EA kAt2 oa2 oa3 oa4 gd
  cases M i with
  | false => rfl
  | true =>
    show Option.bind (Option.bind (π (but M i) δ) _) _ = Option.bind (π (but M i) δ) _
    cases π (but M i) δ with
    | none => rfl
    | some p =>
      show Option.bind (Option.bind (g (but M i) p.2) _) _ = Option.bind (g (but M i) p.2) _
      cases g (but M i) p.2 with
      | none => rfl
      | some r =>
        obtain ⟨as, fr, δ'⟩ := r
        cases fr with
        | false => rfl
        | true =>
          show Option.bind (match δ'[i]? with | some (some w0) => _ | _ => none) _ = (match δ'[i]? with | some (some w0) => _ | _ => none)
          cases δ'[i]? with
          | none => rfl
          | some x => cases x with
            | none => rfl
            | some w0 =>
              show Option.bind (Option.bind (w0.at p.1) _) _ = Option.bind (w0.at p.1) _
              cases w0.at p.1 with
              | none => rfl
              | some w =>
                show Option.bind (Option.map _ (op w as)) _ = Option.bind (op w as) _
                cases op w as <;> rfl
theorem kAt1_ap (i : Nat) (op : OpW) (g : DenA) (M : Own) (κ : KE β) (st : List Stp) (δ : Dv.Env) : kAt1 i op g M κ st δ = EA g (but M i) δ (kAt2 i op st κ) := rfl
theorem kAt2_ap (i : Nat) (op : OpW) (st : List Stp) (κ : KE β) (as : List W) (fr : Bool) (δ : Dv.Env) : kAt2 i op st κ as fr δ = gd fr (oa2 δ[i]? op as i st δ κ) := rfl
def kSt3 (i : Nat) (op : OpW) (w : W) (fr : Bool) (st : List Stp) (κ : KE β) : KE β := fun k _ δ => gd (fr && k.imm) (oa2 δ[i]? op [k, w] i st δ κ)
def kSt2 (i : Nat) (op : OpW) (w : W) (fr : Bool) (fi : Den) (M : Own) (κ : KE β) : KP β := fun st δ => E fi (but M i) δ (kSt3 i op w fr st κ)
def kSt1 (i : Nat) (π : DenP) (op : OpW) (fi : Den) (M : Own) (κ : KE β) : KE β := fun w fr δ => EP π (but M i) δ (kSt2 i op w fr fi M κ)
theorem E_setat (i : Nat) (π : DenP) (op : OpW) (f fi : Den) (M : Own) (δ : Dv.Env) (κ : KE β) : E (dSetAt i π op f fi) M δ κ = gd (M i) (E f (but M i) δ (kSt1 i π op fi M κ)) := by
  unfold E dSetAt kSt1 EP kSt2 E kSt3 oa2 oa3 oa4 gd
  cases M i with
  | false => rfl
  | true =>
    show Option.bind (Option.bind (f (but M i) δ) _) _ = Option.bind (f (but M i) δ) _
    cases f (but M i) δ with
    | none => rfl
    | some r =>
      obtain ⟨w, fr, δ1⟩ := r
      show Option.bind (Option.bind (π (but M i) δ1) _) _ = Option.bind (π (but M i) δ1) _
      cases π (but M i) δ1 with
      | none => rfl
      | some p =>
        show Option.bind (Option.bind (fi (but M i) p.2) _) _ = Option.bind (fi (but M i) p.2) _
        cases fi (but M i) p.2 with
        | none => rfl
        | some k =>
          obtain ⟨kw, kf, δ'⟩ := k
          show Option.bind (if fr = true ∧ kw.imm = true then _ else _) _ = if (fr && kw.imm) = true then _ else _
          cases fr with
          | false => rfl
          | true =>
            cases kw.imm with
            | false => rfl
            | true =>
              show Option.bind (match δ'[i]? with | some (some w0) => _ | _ => none) _ = (match δ'[i]? with | some (some w0) => _ | _ => none)
              cases δ'[i]? with
              | none => rfl
              | some x => cases x with
                | none => rfl
                | some w0 =>
                  show Option.bind (Option.bind (w0.at p.1) _) _ = Option.bind (w0.at p.1) _
                  cases w0.at p.1 with
                  | none => rfl
                  | some w1 =>
                    show Option.bind (Option.map _ (op w1 [kw, w])) _ = Option.bind (op w1 [kw, w]) _
                    cases op w1 [kw, w] <;> rfl
theorem kSt1_ap (i : Nat) (π : DenP) (op : OpW) (fi : Den) (M : Own) (κ : KE β) (w : W) (fr : Bool) (δ : Dv.Env) : kSt1 i π op fi M κ w fr δ = EP π (but M i) δ (kSt2 i op w fr fi M κ) := rfl
theorem kSt2_ap (i : Nat) (op : OpW) (w : W) (fr : Bool) (fi : Den) (M : Own) (κ : KE β) (st : List Stp) (δ : Dv.Env) : kSt2 i op w fr fi M κ st δ = E fi (but M i) δ (kSt3 i op w fr st κ) := rfl
theorem kSt3_ap (i : Nat) (op : OpW) (w : W) (fr : Bool) (st : List Stp) (κ : KE β) (k : W) (fr2 : Bool) (δ : Dv.Env) : kSt3 i op w fr st κ k fr2 δ = gd (fr && k.imm) (oa2 δ[i]? op [k, w] i st δ κ) := rfl
theorem at_nil (w : W) : w.at [] = some w := by unfold W.at; rfl
theorem put_nil (w w' : W) : w.put [] w' = w' := by unfold W.put; rfl
def dg3 (x : Option W) (δ : Dv.Env) (κ : KE β) : Option β := x.bind fun w => κ w w.imm δ
theorem dg3_s (w : W) (δ : Dv.Env) (κ : KE β) : dg3 (some w) δ κ = κ w w.imm δ := rfl
def dkGet (ks : List Key) (ws : List W) (k : Option Key) : Option W := k.bind fun y => (keyIx ks y).bind fun n => ws[n]?
def kDg2 (w : W) (κ : KE β) : KE β := fun k _ δ => match w with | .dk ks ws => dg3 (dkGet ks ws k.key) δ κ | _ => none
def kDg1 (fi : Den) (M : Own) (κ : KE β) : KE β := fun w _ δ => E fi M δ (kDg2 w κ)
theorem E_dget (f fi : Den) (M : Own) (δ : Dv.Env) (κ : KE β) : E (dDGet f fi) M δ κ = E f M δ (kDg1 fi M κ) := by
  unfold E dDGet kDg1 E kDg2 dg3 dkGet
  cases f M δ with
  | none => rfl
  | some r =>
    obtain ⟨w, fr, δ1⟩ := r
    show Option.bind (Option.bind (fi M δ1) _) _ = Option.bind (fi M δ1) _
    cases fi M δ1 with
    | none => rfl
    | some k =>
      obtain ⟨kw, kf, δ'⟩ := k
      cases w with
      | dk ks ws =>
        show Option.bind (Option.bind kw.key _) _ = Option.bind (Option.bind kw.key _) _
        cases kw.key with
        | none => rfl
        | some y =>
          show Option.bind (Option.bind (keyIx ks y) _) _ = Option.bind (Option.bind (keyIx ks y) _) _
          cases keyIx ks y with
          | none => rfl
          | some n =>
            show Option.bind (Option.map _ ws[n]?) _ = Option.bind ws[n]? _
            cases ws[n]? <;> rfl
      | _ => rfl
theorem kDg1_ap (fi : Den) (M : Own) (κ : KE β) (w : W) (fr : Bool) (δ : Dv.Env) : kDg1 fi M κ w fr δ = E fi M δ (kDg2 w κ) := rfl
theorem kDg2_ap (ks : List Key) (ws : List W) (κ : KE β) (k : W) (fr : Bool) (δ : Dv.Env) : kDg2 (.dk ks ws) κ k fr δ = dg3 (dkGet ks ws k.key) δ κ := rfl
def di3 (neg : Bool) (ks : List Key) (y : Option Key) (δ : Dv.Env) (κ : KE β) : Option β := y.bind fun y => κ (.bl (xor neg (keyIx ks y).isSome)) true δ
theorem di3_s (neg : Bool) (ks : List Key) (y : Key) (δ : Dv.Env) (κ : KE β) : di3 neg ks (some y) δ κ = κ (.bl (xor neg (keyIx ks y).isSome)) true δ := rfl
def kDi2 (neg : Bool) (k : W) (κ : KE β) : KE β := fun w _ δ => match w with | .dk ks ws => di3 neg ks k.key δ κ | _ => none
def kDi1 (neg : Bool) (f : Den) (M : Own) (κ : KE β) : KE β := fun k _ δ => E f M δ (kDi2 neg k κ)
theorem E_din (neg : Bool) (fi f : Den) (M : Own) (δ : Dv.Env) (κ : KE β) : E (dDIn neg fi f) M δ κ = E fi M δ (kDi1 neg f M κ) := by
  unfold E dDIn kDi1 E kDi2 di3
  cases fi M δ with
  | none => rfl
  | some r =>
    obtain ⟨w, fr, δ1⟩ := r
    show Option.bind (Option.bind (f M δ1) _) _ = Option.bind (f M δ1) _
    cases f M δ1 with
    | none => rfl
    | some k =>
      obtain ⟨kw, kf, δ'⟩ := k
      cases kw with
      | dk ks ws =>
        show Option.bind (Option.map _ w.key) _ = Option.bind w.key _
        cases w.key <;> rfl
      | _ => rfl
theorem kDi1_ap (neg : Bool) (f : Den) (M : Own) (κ : KE β) (k : W) (fr : Bool) (δ : Dv.Env) : kDi1 neg f M κ k fr δ = E f M δ (kDi2 neg k κ) := rfl
theorem kDi2_ap (neg : Bool) (k : W) (κ : KE β) (ks : List Key) (ws : List W) (fr : Bool) (δ : Dv.Env) : kDi2 neg k κ (.dk ks ws) fr δ = di3 neg ks k.key δ κ := rfl
theorem E_dnew (M : Own) (δ : Dv.Env) (κ : KE β) : E dDNew M δ κ = κ (.dk [] []) true δ := rfl
theorem key_int (i : Int) : (W.int i).key = some (.inl i) := rfl
theorem key_str (x : Str) : (W.str x).key = some (.inr x) := rfl
def kSeq (c : DenS) (κ : KS β) : KS β := fun r => match r with | .nx δ1 => ES c δ1 κ | r => κ r
theorem ES_seq (b c : DenS) (δ : Dv.Env) (κ : KS β) : ES (sSeq b c) δ κ = ES b δ (kSeq c κ) := by
  unfold ES sSeq kSeq ES
  cases b δ with
  | none => rfl
  | some r => cases r <;> rfl
theorem kSeq_nx (c : DenS) (κ : KS β) (δ : Dv.Env) : kSeq c κ (.nx δ) = ES c δ κ := rfl
theorem kSeq_rt (c : DenS) (κ : KS β) (w : W) (fr : Bool) (δ : Dv.Env) : kSeq c κ (.rt w fr δ) = κ (.rt w fr δ) := rfl
theorem kSeq_bk (c : DenS) (κ : KS β) (δ : Dv.Env) : kSeq c κ (.bk δ) = κ (.bk δ) := rfl
theorem kSeq_ct (c : DenS) (κ : KS β) (δ : Dv.Env) : kSeq c κ (.ct δ) = κ (.ct δ) := rfl
theorem ES_next (δ : Dv.Env) (κ : KS β) : ES sNext δ κ = κ (.nx δ) := rfl
theorem ES_break (δ : Dv.Env) (κ : KS β) : ES sBreak δ κ = κ (.bk δ) := rfl
theorem ES_cont (δ : Dv.Env) (κ : KS β) : ES sCont δ κ = κ (.ct δ) := rfl
theorem ES_retN (δ : Dv.Env) (κ : KS β) : ES sRetN δ κ = κ (.rt .non true δ) := rfl
def kIf (b c : DenS) (κ : KS β) : KT β := fun k δ => if k = true then ES b δ κ else ES c δ κ
theorem ES_if (ms : List Nat) (f : DenT) (b c : DenS) (δ : Dv.Env) (κ : KS β) : ES (sIf ms f b c) δ κ = ET f (own ms) δ (kIf b c κ) := by
  unfold ES sIf ET kIf ES
  cases f (own ms) δ with
  | none => rfl
  | some r => obtain ⟨b, δ'⟩ := r; cases b <;> rfl
theorem kIf_t (b c : DenS) (κ : KS β) (δ : Dv.Env) : kIf b c κ true δ = ES b δ κ := rfl
theorem kIf_f (b c : DenS) (κ : KS β) (δ : Dv.Env) : kIf b c κ false δ = ES c δ κ := rfl
def kRt (l ms : List Nat) (κ : KS β) : KE β := fun w fr δ => gd (fr || l == ms) (κ (.rt w fr δ))
theorem ES_ret (l ms : List Nat) (f : Den) (δ : Dv.Env) (κ : KS β) : ES (sRet l ms f) δ κ = E f (own ms) δ (kRt l ms κ) := by
  unfold ES sRet evE E kRt gd
  cases f (own ms) δ with
  | none => rfl
  | some r =>
    obtain ⟨w, fr, δ'⟩ := r
    show Option.bind (Option.map _ (if (fr || l == ms) = true then _ else _)) _ = if (fr || l == ms) = true then _ else _
    cases (fr || l == ms) <;> rfl
theorem kRt_ap (l ms : List Nat) (κ : KS β) (w : W) (fr : Bool) (δ : Dv.Env) : kRt l ms κ w fr δ = gd (fr || l == ms) (κ (.rt w fr δ)) := rfl
def kDr (κ : KS β) : KE β := fun _ _ δ => κ (.nx δ)
theorem ES_drop (ms : List Nat) (f : Den) (δ : Dv.Env) (κ : KS β) : ES (sDrop ms f) δ κ = E f (own ms) δ (kDr κ) := by
  unfold ES sDrop E kDr
  cases f (own ms) δ <;> rfl
theorem kDr_ap (κ : KS β) (w : W) (fr : Bool) (δ : Dv.Env) : kDr κ w fr δ = κ (.nx δ) := rfl
def kAsg (l ms l' : List Nat) (i : Nat) (κ : KS β) : KE β := fun w fr δ => gd ((fr || l == ms) && (!l'.contains i || fr) && decide (i < δ.length)) (κ (.nx (δ.set i (some w))))
theorem ES_asg (l ms l' : List Nat) (i : Nat) (f : Den) (δ : Dv.Env) (κ : KS β) : ES (sAsg l ms l' i f) δ κ = E f (own ms) δ (kAsg l ms l' i κ) := by
  unfold ES sAsg evE E kAsg gd
  cases f (own ms) δ with
  | none => rfl
  | some r =>
    obtain ⟨w, fr, δ'⟩ := r
    show Option.bind (Option.bind (if (fr || l == ms) = true then _ else _) _) _ = if ((fr || l == ms) && (!l'.contains i || fr) && decide (i < δ'.length)) = true then _ else _
    cases (fr || l == ms) with
    | false => rfl
    | true =>
      show Option.bind (if (!l'.contains i || fr) = true ∧ i < δ'.length then _ else _) _ = _
      cases (!l'.contains i || fr) with
      | false => rfl
      | true => by_cases h : i < δ'.length <;> simp [h]
theorem kAsg_ap (l ms l' : List Nat) (i : Nat) (κ : KS β) (w : W) (fr : Bool) (δ : Dv.Env) : kAsg l ms l' i κ w fr δ = gd ((fr || l == ms) && (!l'.contains i || fr) && decide (i < δ.length)) (κ (.nx (δ.set i (some w)))) := rfl
def kUnpN (l ms l' xs : List Nat) (κ : KS β) : KE β := fun w fr δ => match w with
  | .tup ws => gd ((fr || l == ms) && decide (xs.length = ws.length) && (dis l' xs || fr) && (xs.all fun x => decide (x < δ.length))) (κ (.nx (sets δ xs ws)))
  | .lst ws => gd ((fr || l == ms) && decide (xs.length = ws.length) && (dis l' xs || fr) && (xs.all fun x => decide (x < δ.length))) (κ (.nx (sets δ xs ws)))
  | _ => none
theorem ES_unpN (l ms l' xs : List Nat) (f : Den) (δ : Dv.Env) (κ : KS β) : ES (sUnpN l ms l' xs f) δ κ = E f (own ms) δ (kUnpN l ms l' xs κ) := by
  unfold ES sUnpN evE E kUnpN gd
  cases f (own ms) δ with
  | none => rfl
  | some r =>
    obtain ⟨w, fr, δ'⟩ := r
    show Option.bind (Option.bind (if (fr || l == ms) = true then _ else _) _) _ = _
    cases w with
    | tup ws =>
      show _ = if ((fr || l == ms) && decide (xs.length = ws.length) && (dis l' xs || fr) && (xs.all fun x => decide (x < δ'.length))) = true then _ else _
      cases (fr || l == ms) with
      | false => rfl
      | true =>
        show Option.bind (if xs.length = ws.length ∧ (dis l' xs || fr) = true ∧ (xs.all fun x => decide (x < δ'.length)) = true then _ else _) _ = _
        by_cases h : xs.length = ws.length
        · cases (dis l' xs || fr) <;> cases (xs.all fun x => decide (x < δ'.length)) <;> simp [h]
        · simp [h]
    | lst ws =>
      show _ = if ((fr || l == ms) && decide (xs.length = ws.length) && (dis l' xs || fr) && (xs.all fun x => decide (x < δ'.length))) = true then _ else _
      cases (fr || l == ms) with
      | false => rfl
      | true =>
        show Option.bind (if xs.length = ws.length ∧ (dis l' xs || fr) = true ∧ (xs.all fun x => decide (x < δ'.length)) = true then _ else _) _ = _
        by_cases h : xs.length = ws.length
        · cases (dis l' xs || fr) <;> cases (xs.all fun x => decide (x < δ'.length)) <;> simp [h]
        · simp [h]
    | _ => cases (fr || l == ms) <;> rfl
theorem kUnpN_apL (l ms l' xs : List Nat) (κ : KS β) (ws : List W) (fr : Bool) (δ : Dv.Env) : kUnpN l ms l' xs κ (.lst ws) fr δ = gd ((fr || l == ms) && decide (xs.length = ws.length) && (dis l' xs || fr) && (xs.all fun x => decide (x < δ.length))) (κ (.nx (sets δ xs ws))) := rfl
theorem kUnpN_ap (l ms l' xs : List Nat) (κ : KS β) (ws : List W) (fr : Bool) (δ : Dv.Env) : kUnpN l ms l' xs κ (.tup ws) fr δ = gd ((fr || l == ms) && decide (xs.length = ws.length) && (dis l' xs || fr) && (xs.all fun x => decide (x < δ.length))) (κ (.nx (sets δ xs ws))) := rfl
def kPar (l ms l' xs : List Nat) (κ : KS β) : KA β := fun ws fr δ => gd ((fr || l == ms) && decide (xs.length = ws.length) && (dis l' xs || fr) && (xs.all fun x => decide (x < δ.length))) (κ (.nx (sets δ xs ws)))
theorem ES_par (l ms l' xs : List Nat) (g : DenA) (δ : Dv.Env) (κ : KS β) : ES (sPar l ms l' xs g) δ κ = EA g (own ms) δ (kPar l ms l' xs κ) := by
  unfold ES sPar evA EA kPar gd
  cases g (own ms) δ with
  | none => rfl
  | some r =>
    obtain ⟨ws, fr, δ'⟩ := r
    show Option.bind (Option.bind (if (fr || l == ms) = true then _ else _) _) _ = if ((fr || l == ms) && decide (xs.length = ws.length) && (dis l' xs || fr) && (xs.all fun x => decide (x < δ'.length))) = true then _ else _
    cases (fr || l == ms) with
    | false => rfl
    | true =>
      show Option.bind (if xs.length = ws.length ∧ (dis l' xs || fr) = true ∧ (xs.all fun x => decide (x < δ'.length)) = true then _ else _) _ = _
      by_cases h : xs.length = ws.length
      · cases (dis l' xs || fr) <;> cases (xs.all fun x => decide (x < δ'.length)) <;> simp [h]
      · simp [h]
theorem kPar_ap (l ms l' xs : List Nat) (κ : KS β) (ws : List W) (fr : Bool) (δ : Dv.Env) : kPar l ms l' xs κ ws fr δ = gd ((fr || l == ms) && decide (xs.length = ws.length) && (dis l' xs || fr) && (xs.all fun x => decide (x < δ.length))) (κ (.nx (sets δ xs ws))) := rfl
theorem sets_nil (δ : Dv.Env) : sets δ [] ([] : List W) = δ := rfl
theorem sets_cons (δ : Dv.Env) (x : Nat) (xs : List Nat) (w : W) (ws : List W) : sets δ (x :: xs) (w :: ws) = sets (δ.set x (some w)) xs ws := rfl
def kAug (i : Nat) (k : Int → Int → Int) (a : Int) (κ : KS β) : KE β := fun w _ δ => match w with | .int b => κ (.nx (δ.set i (some (.int (k a b))))) | _ => none
def ag1 (x : Option (Option W)) (c : Bool) (i : Nat) (k : Int → Int → Int) (f : Den) (M : Own) (δ : Dv.Env) (κ : KS β) : Option β := match x with | some (some (.int a)) => gd (!c) (E f M δ (kAug i k a κ)) | _ => none
theorem ES_augI (l' ms : List Nat) (i : Nat) (k : Int → Int → Int) (f : Den) (δ : Dv.Env) (κ : KS β) : ES (sAugI l' ms i k f) δ κ = ag1 δ[i]? (l'.contains i) i k f (own ms) δ κ := by
  unfold ES sAugI ag1 E kAug gd
  cases δ[i]? with
  | none => rfl
  | some x => cases x with
    | none => rfl
    | some w => cases w with
      | int a =>
        show Option.bind (if l'.contains i = true then none else _) _ = if (!l'.contains i) = true then _ else _
        cases l'.contains i with
        | true => rfl
        | false =>
          show Option.bind (Option.bind (f (own ms) δ) _) _ = Option.bind (f (own ms) δ) _
          cases f (own ms) δ with
          | none => rfl
          | some r => obtain ⟨w, fr, δ'⟩ := r; cases w <;> rfl
      | _ => rfl
theorem ag1_s (a : Int) (c : Bool) (i : Nat) (k : Int → Int → Int) (f : Den) (M : Own) (δ : Dv.Env) (κ : KS β) : ag1 (some (some (.int a))) c i k f M δ κ = gd (!c) (E f M δ (kAug i k a κ)) := rfl
theorem kAug_ap (i : Nat) (k : Int → Int → Int) (a b : Int) (κ : KS β) (fr : Bool) (δ : Dv.Env) : kAug i k a κ (.int b) fr δ = κ (.nx (δ.set i (some (.int (k a b))))) := rfl
def LB (tg : DenG) (b : DenS) (ws : List W) (δ : Dv.Env) (κ : KS β) : Option β := (loopB tg b ws δ).bind κ
def kFor (tg : DenG) (b : DenS) (κ : KS β) : KI β := fun ws δ => LB tg b ws δ κ
theorem ES_for (lm : List Nat) (src : DenI) (tg : DenG) (b : DenS) (δ : Dv.Env) (κ : KS β) : ES (sFor lm src tg b) δ κ = EI src (own lm) δ (kFor tg b κ) := by
  unfold ES sFor EI kFor LB
  cases src (own lm) δ <;> rfl
theorem ES_forR (ms : List Nat) (src : DenI) (tg : DenG) (b : DenS) (δ : Dv.Env) (κ : KS β) : ES (sForR ms src tg b) δ κ = EI src (own ms) δ (kFor tg b κ) := by
  unfold ES sForR EI kFor LB
  cases src (own ms) δ <;> rfl
theorem kFor_ap (tg : DenG) (b : DenS) (κ : KS β) (ws : List W) (δ : Dv.Env) : kFor tg b κ ws δ = LB tg b ws δ κ := rfl
theorem LB_nil (tg : DenG) (b : DenS) (δ : Dv.Env) (κ : KS β) : LB tg b [] δ κ = κ (.nx δ) := rfl
def kLp (tg : DenG) (b : DenS) (ws : List W) (κ : KS β) : KS β := fun r => match r with
  | .nx δ2 => LB tg b ws δ2 κ
  | .ct δ2 => LB tg b ws δ2 κ
  | .bk δ2 => κ (.nx δ2)
  | .rt w fr δ2 => κ (.rt w fr δ2)
theorem kLp_nx (tg : DenG) (b : DenS) (ws : List W) (κ : KS β) (δ : Dv.Env) : kLp tg b ws κ (.nx δ) = LB tg b ws δ κ := rfl
theorem kLp_ct (tg : DenG) (b : DenS) (ws : List W) (κ : KS β) (δ : Dv.Env) : kLp tg b ws κ (.ct δ) = LB tg b ws δ κ := rfl
theorem kLp_bk (tg : DenG) (b : DenS) (ws : List W) (κ : KS β) (δ : Dv.Env) : kLp tg b ws κ (.bk δ) = κ (.nx δ) := rfl
theorem kLp_rt (tg : DenG) (b : DenS) (ws : List W) (κ : KS β) (w : W) (fr : Bool) (δ : Dv.Env) : kLp tg b ws κ (.rt w fr δ) = κ (.rt w fr δ) := rfl
def eg2 (x : Option Dv.Env) (b : DenS) (κ : KS β) : Option β := x.bind fun δ => ES b δ κ
theorem eg2_s (δ : Dv.Env) (b : DenS) (κ : KS β) : eg2 (some δ) b κ = ES b δ κ := rfl
theorem LB_cons (tg : DenG) (b : DenS) (w : W) (ws : List W) (δ : Dv.Env) (κ : KS β) : LB tg b (w :: ws) δ κ = eg2 (tg w δ) b (kLp tg b ws κ) := by
  unfold LB loopB eg2 ES kLp LB
  cases tg w δ with
  | none => rfl
  | some δ1 =>
    show Option.bind (Option.bind (b δ1) _) _ = Option.bind (b δ1) _
    cases b δ1 with
    | none => rfl
    | some r => cases r <;> rfl
theorem gNm_cons (i : Nat) (w : W) (x : Option W) (δ : Dv.Env) : gNm (i + 1) w (x :: δ) = (gNm i w δ).map (x :: ·) := by
  unfold gNm
  by_cases h : i < δ.length <;> simp [h]
theorem gNm_zero (w : W) (x : Option W) (δ : Dv.Env) : gNm 0 w (x :: δ) = some (some w :: δ) := rfl
theorem gTp_ap (n : Nat) (g : List W → Dv.Env → Option Dv.Env) (ws : List W) (δ : Dv.Env) : gTp n g (.tup ws) δ = if ws.length = n then g ws δ else none := rfl
theorem gConsW_ap (f : DenG) (g : List W → Dv.Env → Option Dv.Env) (w : W) (ws : List W) (δ : Dv.Env) : gConsW f g (w :: ws) δ = (f w δ).bind fun δ1 => g ws δ1 := rfl
theorem gNilW_ap (δ : Dv.Env) : gNilW [] δ = some δ := rfl
def WB (ms : List Nat) (c : DenT) (b : DenS) (n : Nat) (δ : Dv.Env) (κ : KS β) : Option β := (whileB ms c b n δ).bind κ
theorem ES_while (ms : List Nat) (c : DenT) (b : DenS) (n : Nat) (δ : Dv.Env) (κ : KS β) : ES (whileB ms c b n) δ κ = WB ms c b n δ κ := rfl
def kBody : KS (W × Bool) := fun r => match r with | .nx _ => some (.non, true) | .rt w fr _ => some (w, fr) | _ => none
theorem kBody_nx (δ : Dv.Env) : kBody (.nx δ) = some (.non, true) := rfl
theorem kBody_rt (w : W) (fr : Bool) (δ : Dv.Env) : kBody (.rt w fr δ) = some (w, fr) := rfl
theorem bodyD_eq (n k : Nat) (b : DenS) (ws : List W) (h : ws.length = k) : bodyD n k b ws = ES b (start0 n ws) kBody := by
  unfold bodyD ES kBody
  refine (if_pos h).trans ?_
  cases b (start0 n ws) with
  | none => rfl
  | some r => cases r <;> rfl
def kBodyM : KS (W × Bool × W) := fun r => match r with
  | .nx δ => match δ[0]? with | some (some w) => some (.non, true, w) | _ => none
  | .rt w fr δ => match δ[0]? with | some (some w') => some (w, fr, w') | _ => none
  | _ => none
theorem kBodyM_nx (w : W) (δ : Dv.Env) : kBodyM (.nx (some w :: δ)) = some (.non, true, w) := rfl
theorem kBodyM_rt (w w' : W) (fr : Bool) (δ : Dv.Env) : kBodyM (.rt w fr (some w' :: δ)) = some (w, fr, w') := rfl
theorem bodyM_eq (n k : Nat) (b : DenS) (w0 : W) (ws : List W) (h : ws.length = k) : bodyM n k b w0 ws = ES b (start0 n (w0 :: ws)) kBodyM := by
  unfold bodyM ES kBodyM
  refine (if_pos h).trans ?_
  cases b (start0 n (w0 :: ws)) with
  | none => rfl
  | some r => cases r <;> rfl
theorem own_nil (i : Nat) : own [] i = false := rfl
theorem own_cons (a : Nat) (l : List Nat) (i : Nat) : own (a :: l) i = (i == a || own l i) := rfl
theorem but_ap (M : Own) (i j : Nat) : but M i j = (!decide (j = i) && M j) := rfl
end
end Dv
set_option Elab.async false
set_option linter.all false
set_option maxRecDepth 100000
set_option maxHeartbeats 4000000
namespace Dv
open PySem PySem.Spec PyProof.Rows L2
theorem im_int (a : Int) : (W.int a).imm = true := rfl
theorem im_bl (a : Bool) : (W.bl a).imm = true := rfl
theorem im_str (a : Str) : (W.str a).imm = true := rfl
theorem im_non : W.non.imm = true := rfl
theorem im_tup (ws : List W) : (W.tup ws).imm = W.imms ws := by rw [W.imm]
theorem im_fl (ws : List W) : (W.fl ws).imm = W.imms ws := by rw [W.imm]
theorem im_lst (ws : List W) : (W.lst ws).imm = false := by unfold W.imm; rfl
theorem im_dk (ks : List Key) (ws : List W) : (W.dk ks ws).imm = false := by unfold W.imm; rfl
theorem ims_nil : W.imms [] = true := by unfold W.imms; rfl
theorem ims_cons (w : W) (ws : List W) : W.imms (w :: ws) = (w.imm && W.imms ws) := by rw [W.imms]
theorem ims_int (xs : List Int) : W.imms (xs.map W.int) = true := imms_ints xs
theorem ims_bl (xs : List Bool) : W.imms (xs.map W.bl) = true := imms_map (fun _ => rfl) xs
theorem ims_app (xs ys : List W) : W.imms (xs ++ ys) = (W.imms xs && W.imms ys) := imms_append xs ys
theorem ad_int (a b : Int) : kAdd (.int a) (.int b) = some (.int (a + b), true) := rfl
theorem ad_tup (a b : List W) : kAdd (.tup a) (.tup b) = if a.length + b.length ≤ LIM then some (.tup (a ++ b), W.imms a && W.imms b) else none := rfl
theorem ad_lst (a b : List W) : kAdd (.lst a) (.lst b) = if a.length + b.length ≤ LIM then some (.lst (a ++ b), W.imms a && W.imms b) else none := rfl
theorem sb_int (a b : Int) : kISub (.int a) (.int b) = some (.int (a - b), true) := rfl
theorem mu_int (a b : Int) : kMul (.int a) (.int b) = if cMul a b then some (.int (a * b), true) else none := rfl
theorem mod_int (a b : Int) : kMod (.int a) (.int b) = if decide (b ≠ 0) then some (.int (a.fmod b), true) else none := rfl
theorem fdiv_int (a b : Int) : kFdiv (.int a) (.int b) = if cDiv a b then some (.int (a.fdiv b), true) else none := rfl
theorem band_int (a b : Int) : kBAnd (.int a) (.int b) = some (.int (Builtin.bitAnd a b), true) := rfl
theorem bor_int (a b : Int) : kBOr (.int a) (.int b) = some (.int (Builtin.bitOr a b), true) := rfl
theorem len_tup (ws : List W) : kLen [.tup ws] = some (.int ws.length, true) := rfl
theorem len_lst (ws : List W) : kLen [.lst ws] = some (.int ws.length, true) := rfl
theorem tupof_lst (ws : List W) : kTupOf [.lst ws] = some (.tup ws, W.imms ws) := rfl
theorem tupof_tup (ws : List W) : kTupOf [.tup ws] = some (.tup ws, W.imms ws) := rfl
theorem intof_int (a : Int) : kIntOf [.int a] = some (.int a, true) := rfl
theorem max2_int (a b : Int) : kMax2 [.int a, .int b] = some (.int (if b > a then b else a), true) := rfl
theorem min2_int (a b : Int) : kMin2 [.int a, .int b] = some (.int (if b < a then b else a), true) := rfl
theorem op_app (ws : List W) (y : W) : opAppend (.lst ws) [y] = if ws.length < LIM then some (.lst (ws ++ [y]), .non) else none := rfl
theorem op_ext (ws ys : List W) : opExtend (.lst ws) [.lst ys] = if ws.length + ys.length ≤ LIM then some (.lst (ws ++ ys), .non) else none := rfl
theorem ix_tup (ws : List W) (i : Int) : kIx (.tup ws) (.int i) = (atI ws i).map fun w => (w, w.imm) := rfl
theorem ix_lst (ws : List W) (i : Int) : kIx (.lst ws) (.int i) = (atI ws i).map fun w => (w, w.imm) := rfl
theorem isi_tup' (ws : List W) : kIsi "tuple" (.tup ws) = some (.bl true, true) := by rfl
theorem isi_int' (a : Int) : kIsi "int" (.int a) = some (.bl true, true) := by rfl
theorem isi_bool' (a : Int) : kIsi "bool" (.int a) = some (.bl false, true) := by rfl
/-- an index within -/
theorem atI_nat {α : Type} (xs : List α) (i : Nat) : atI xs (i : Int) = xs[i]? := by
  unfold atI
  have : ixN xs.length (i : Int) = if i < xs.length then some i else none := by
    unfold ixN
    simp
  rw [this]
  by_cases h : i < xs.length
  · rw [if_pos h]; rfl
  · rw [if_neg h, List.getElem?_eq_none (by omega)]; rfl
theorem atI_zero {α : Type} (x : α) (xs : List α) : atI (x :: xs) (0 : Int) = some x := atI_nat (x :: xs) 0
theorem atI_one {α : Type} (x y : α) (xs : List α) : atI (x :: y :: xs) (1 : Int) = some y := atI_nat (x :: y :: xs) 1
theorem atI_two {α : Type} (x y u : α) (xs : List α) : atI (x :: y :: u :: xs) (2 : Int) = some u := atI_nat (x :: y :: u :: xs) 2
theorem kwG_ap {α : Type} (n m : Nat) (perm : List Nat) (ds us zs : List α) : kwG n m perm ds us zs = if us.length = n ∧ zs.length = m then perm.filterMap fun i => (us ++ zs ++ ds)[i]? else [] := rfl
theorem start0_ap (n : Nat) (ws : List W) : start0 n ws = ws.map some ++ List.replicate (n - ws.length) none := rfl
def Nx (I : Dv.Env → Prop) : SR → Prop := fun r => ∃ δ, r = .nx δ ∧ I δ
end Dv
set_option Elab.async false
set_option linter.all false
set_option maxRecDepth 100000
set_option maxHeartbeats 4000000
namespace Dv
open PySem PySem.Spec PyProof.Rows L2
def getW (r : Option (W × Bool × Dv.Env)) : W := match r with | some r => r.1 | none => .non
def getB (r : Option (Bool × Dv.Env)) : Bool := match r with | some r => r.1 | none => false
def getL (r : Option (W × Bool × Dv.Env)) : List W := match r with | some (.lst ws, _, _) => ws | _ => []
def okW (r : Option (W × Bool × Dv.Env)) (δ : Dv.Env) : Prop := ∃ w, r = some (w, true, δ)
def okB (r : Option (Bool × Dv.Env)) (δ : Dv.Env) : Prop := ∃ b, r = some (b, δ)
def okL (r : Option (W × Bool × Dv.Env)) (δ : Dv.Env) : Prop := ∃ ws, r = some (.lst ws, true, δ)
theorem getW_s (w : W) (fr : Bool) (δ : Dv.Env) : getW (some (w, fr, δ)) = w := rfl
theorem getB_s (b : Bool) (δ : Dv.Env) : getB (some (b, δ)) = b := rfl
theorem getL_s (ws : List W) (fr : Bool) (δ : Dv.Env) : getL (some (.lst ws, fr, δ)) = ws := rfl
theorem okW_s (w : W) (δ : Dv.Env) : okW (some (w, true, δ)) δ = True := eq_true ⟨w, rfl⟩
theorem okB_s (b : Bool) (δ : Dv.Env) : okB (some (b, δ)) δ = True := eq_true ⟨b, rfl⟩
theorem okL_s (ws : List W) (δ : Dv.Env) : okL (some (.lst ws, true, δ)) δ = True := eq_true ⟨ws, rfl⟩
section
variable {β α : Type}
def kLc1 (i : Nat) (test : DenT) (elt : Den) (M : Own) (κ : KE β) : KI β := fun ws δ => gd (decide (ws.length ≤ LIM) && !M i) ((lcGo [i] (gNm i) test elt M ws (δ.set i none)).bind fun q => κ (.lst q.1) q.2.1 (q.2.2.set i (δ.getD i none)))
theorem E_lc1 (i : Nat) (src : DenI) (test : DenT) (elt : Den) (M : Own) (δ : Dv.Env) (κ : KE β) : E (dLc [i] src (gNm i) test elt) M δ κ = EI src M δ (kLc1 i test elt M κ) := by
  unfold E dLc EI kLc1 gd
  cases src M δ with
  | none => rfl
  | some s =>
    show Option.bind (if s.1.length ≤ LIM ∧ ([i].all fun v => !M v) = true then _ else _) _ = _
    by_cases h : s.1.length ≤ LIM
    · cases hm : M i with
      | true => simp [h, hm]
      | false =>
        simp only [h, hm, List.all_cons, List.all_nil, Bool.and_true, Bool.not_false, true_and, if_true, decide_true, Option.bind_some]
        show Option.bind (Option.map _ (lcGo [i] (gNm i) test elt M s.1 (s.2.set i none))) _ = Option.bind (lcGo [i] (gNm i) test elt M s.1 (s.2.set i none)) _
        cases lcGo [i] (gNm i) test elt M s.1 (s.2.set i none) <;> rfl
    · simp [h]
theorem kLc1_map (enc : α → W) (xs : List α) (i : Nat) (elt : Den) (M : Own) (κ : KE β) (δ : Dv.Env) (hi : i < δ.length) (hM : M i = false) (hl : xs.length ≤ LIM) (ok : ∀ x ∈ xs, okW (E elt M (δ.set i (some (enc x))) kId) (δ.set i (some (enc x)))) :
    kLc1 i bYes elt M κ (xs.map enc) δ = κ (.lst (xs.map fun x => getW (E elt M (δ.set i (some (enc x))) kId))) true δ := by
  have h := lc_go1 enc (test := bYes) (elt := elt) (M := M) hi (fun _ => true) (fun x => getW (E elt M (δ.set i (some (enc x))) kId)) xs (fun _ _ => rfl) (fun x hx _ => by
    obtain ⟨w, e⟩ := ok x hx
    refine (E_id _ _ _).trans ?_
    rw [e]
    rfl)
  unfold kLc1 gd
  rw [h, hM, List.length_map, decide_eq_true hl, filter_t]
  show κ _ true ((δ.set i none).set i (δ.getD i none)) = _
  rw [set_set, set_back hi]
theorem kLc1_filter (enc : α → W) (xs : List α) (i : Nat) (test : DenT) (elt : Den) (M : Own) (κ : KE β) (δ : Dv.Env) (hi : i < δ.length) (hM : M i = false) (hl : xs.length ≤ LIM) (okt : ∀ x ∈ xs, okB (ET test M (δ.set i (some (enc x))) kIdT) (δ.set i (some (enc x)))) (ok : ∀ x ∈ xs, okW (E elt M (δ.set i (some (enc x))) kId) (δ.set i (some (enc x)))) :
    kLc1 i test elt M κ (xs.map enc) δ = κ (.lst ((xs.filter fun x => getB (ET test M (δ.set i (some (enc x))) kIdT)).map fun x => getW (E elt M (δ.set i (some (enc x))) kId))) true δ := by
  have h := lc_go1 enc (test := test) (elt := elt) (M := M) hi (fun x => getB (ET test M (δ.set i (some (enc x))) kIdT)) (fun x => getW (E elt M (δ.set i (some (enc x))) kId)) xs (fun x hx => by
    obtain ⟨w, e⟩ := okt x hx
    refine (ET_id _ _ _).trans ?_
    rw [e]
    rfl) (fun x hx _ => by
    obtain ⟨w, e⟩ := ok x hx
    refine (E_id _ _ _).trans ?_
    rw [e]
    rfl)
  unfold kLc1 gd
  rw [h, hM, List.length_map, decide_eq_true hl]
  show κ _ true ((δ.set i none).set i (δ.getD i none)) = _
  rw [set_set, set_back hi]
/-- a list of nothing -/
theorem kLc1_nil (i : Nat) (test : DenT) (elt : Den) (M : Own) (κ : KE β) (δ : Dv.Env) (hi : i < δ.length) (hM : M i = false) : kLc1 i test elt M κ [] δ = κ (.lst []) true δ := by
  unfold kLc1 gd
  rw [hM]
  show κ _ true ((δ.set i none).set i (δ.getD i none)) = _
  rw [set_set, set_back hi]
def kLcP (i j : Nat) (test : DenT) (elt : Den) (M : Own) (κ : KE β) : KI β := fun ws δ => gd (decide (ws.length ≤ LIM) && (!M i && !M j)) ((lcGo [i, j] (gTp 2 (gConsW (gNm i) (gConsW (gNm j) gNilW))) test elt M ws ((δ.set j none).set i none)).bind fun q => κ (.lst q.1) q.2.1 ((q.2.2.set j (δ.getD j none)).set i (δ.getD i none)))
theorem E_lcP (i j : Nat) (src : DenI) (test : DenT) (elt : Den) (M : Own) (δ : Dv.Env) (κ : KE β) : E (dLc [i, j] src (gTp 2 (gConsW (gNm i) (gConsW (gNm j) gNilW))) test elt) M δ κ = EI src M δ (kLcP i j test elt M κ) := by
  unfold E dLc EI kLcP gd
  cases src M δ with
  | none => rfl
  | some s =>
    show Option.bind (if s.1.length ≤ LIM ∧ ([i, j].all fun v => !M v) = true then _ else _) _ = _
    by_cases h : s.1.length ≤ LIM
    · cases hm : M i with
      | true => simp [h, hm]
      | false =>
        cases hm2 : M j with
        | true => simp [h, hm, hm2]
        | false =>
          simp only [h, hm, hm2, List.all_cons, List.all_nil, Bool.and_true, Bool.not_false, true_and, if_true, decide_true, Option.bind_some]
          show Option.bind (Option.map _ (lcGo [i, j] (gTp 2 (gConsW (gNm i) (gConsW (gNm j) gNilW))) test elt M s.1 ((s.2.set j none).set i none))) _ = Option.bind (lcGo [i, j] (gTp 2 (gConsW (gNm i) (gConsW (gNm j) gNilW))) test elt M s.1 ((s.2.set j none).set i none)) _
          cases lcGo [i, j] (gTp 2 (gConsW (gNm i) (gConsW (gNm j) gNilW))) test elt M s.1 ((s.2.set j none).set i none) <;> rfl
    · simp [h]
theorem kLcP_map (e1 e2 : α → W) (xs : List α) (i j : Nat) (elt : Den) (M : Own) (κ : KE β) (δ : Dv.Env) (hij : i ≠ j) (hi : i < δ.length) (hj : j < δ.length) (hM : M i = false) (hM2 : M j = false) (hl : xs.length ≤ LIM) (ok : ∀ x ∈ xs, okW (E elt M ((δ.set i (some (e1 x))).set j (some (e2 x))) kId) ((δ.set i (some (e1 x))).set j (some (e2 x)))) :
    kLcP i j bYes elt M κ (xs.map fun x => W.tup [e1 x, e2 x]) δ = κ (.lst (xs.map fun x => getW (E elt M ((δ.set i (some (e1 x))).set j (some (e2 x))) kId))) true δ := by
  have h := lc_go2 e1 e2 (test := bYes) (elt := elt) (M := M) hij hi hj (fun _ => true) (fun x => getW (E elt M ((δ.set i (some (e1 x))).set j (some (e2 x))) kId)) xs (fun _ _ => rfl) (fun x hx _ => by
    obtain ⟨w, e⟩ := ok x hx
    refine (E_id _ _ _).trans ?_
    rw [e]
    rfl)
  unfold kLcP gd
  rw [h, hM, hM2, List.length_map, decide_eq_true hl, filter_t]
  show κ _ true ((((δ.set j none).set i none).set j (δ.getD j none)).set i (δ.getD i none)) = _
  rw [List.set_comm _ _ hij, set_set, List.set_comm _ _ hij.symm, set_set, set_back hj, set_back hi]
theorem kLcP_filter (e1 e2 : α → W) (xs : List α) (i j : Nat) (test : DenT) (elt : Den) (M : Own) (κ : KE β) (δ : Dv.Env) (hij : i ≠ j) (hi : i < δ.length) (hj : j < δ.length) (hM : M i = false) (hM2 : M j = false) (hl : xs.length ≤ LIM) (okt : ∀ x ∈ xs, okB (ET test M ((δ.set i (some (e1 x))).set j (some (e2 x))) kIdT) ((δ.set i (some (e1 x))).set j (some (e2 x)))) (ok : ∀ x ∈ xs, okW (E elt M ((δ.set i (some (e1 x))).set j (some (e2 x))) kId) ((δ.set i (some (e1 x))).set j (some (e2 x)))) :
    kLcP i j test elt M κ (xs.map fun x => W.tup [e1 x, e2 x]) δ = κ (.lst ((xs.filter fun x => getB (ET test M ((δ.set i (some (e1 x))).set j (some (e2 x))) kIdT)).map fun x => getW (E elt M ((δ.set i (some (e1 x))).set j (some (e2 x))) kId))) true δ := by
  have h := lc_go2 e1 e2 (test := test) (elt := elt) (M := M) hij hi hj (fun x => getB (ET test M ((δ.set i (some (e1 x))).set j (some (e2 x))) kIdT)) (fun x => getW (E elt M ((δ.set i (some (e1 x))).set j (some (e2 x))) kId)) xs (fun x hx => by
    obtain ⟨w, e⟩ := okt x hx
    refine (ET_id _ _ _).trans ?_
    rw [e]
    rfl) (fun x hx _ => by
    obtain ⟨w, e⟩ := ok x hx
    refine (E_id _ _ _).trans ?_
    rw [e]
    rfl)
  unfold kLcP gd
  rw [h, hM, hM2, List.length_map, decide_eq_true hl]
  show κ _ true ((((δ.set j none).set i none).set j (δ.getD j none)).set i (δ.getD i none)) = _
  rw [List.set_comm _ _ hij, set_set, List.set_comm _ _ hij.symm, set_set, set_back hj, set_back hi]
def kLc2 (i j : Nat) (test : DenT) (src1 : DenI) (test1 : DenT) (elt : Den) (M : Own) (κ : KE β) : KI β := fun ws δ => gd (!M i && !M j) ((lc2Go [i, j] (gNm i) test src1 [j] (gNm j) test1 elt M ws ((δ.set j none).set i none)).bind fun q => gd (decide (q.1.length ≤ LIM)) (κ (.lst q.1) q.2.1 ((q.2.2.set j (δ.getD j none)).set i (δ.getD i none))))
theorem E_lc2 (i j : Nat) (src : DenI) (test : DenT) (src1 : DenI) (test1 : DenT) (elt : Den) (M : Own) (δ : Dv.Env) (κ : KE β) : E (dLc2 [i, j] src (gNm i) test src1 [j] (gNm j) test1 elt) M δ κ = EI src M δ (kLc2 i j test src1 test1 elt M κ) := by
  unfold E dLc2 EI kLc2 gd
  cases src M δ with
  | none => rfl
  | some s =>
    show Option.bind (if ([i, j].all fun v => !M v) = true then _ else _) _ = _
    cases hm : M i with
    | true => simp [hm]
    | false =>
      cases hm2 : M j with
      | true => simp [hm, hm2]
      | false =>
        simp only [hm, hm2, List.all_cons, List.all_nil, Bool.and_true, Bool.not_false, if_true, Option.bind_some]
        show Option.bind (Option.bind (lc2Go [i, j] (gNm i) test src1 [j] (gNm j) test1 elt M s.1 ((s.2.set j none).set i none)) _) _ = Option.bind (lc2Go [i, j] (gNm i) test src1 [j] (gNm j) test1 elt M s.1 ((s.2.set j none).set i none)) _
        cases lc2Go [i, j] (gNm i) test src1 [j] (gNm j) test1 elt M s.1 ((s.2.set j none).set i none) with
        | none => rfl
        | some q =>
          show Option.bind (if q.1.length ≤ LIM then _ else _) _ = if decide (q.1.length ≤ LIM) = true then _ else _
          by_cases h : q.1.length ≤ LIM
          · simp only [h, if_true, decide_true]
            rfl
          · simp [h]
theorem lc2_go {enc : α → W} {i j : Nat} {src1 : DenI} {test1 : DenT} {elt : Den} {M : Own} {δ : Dv.Env} (hij : i ≠ j) (hi : i < δ.length) (hj : j < δ.length) (f : α → List W) : ∀ xs : List α, (∀ x ∈ xs, dLc [j] src1 (gNm j) test1 elt M ((δ.set j none).set i (some (enc x))) = some (.lst (f x), true, (δ.set j none).set i (some (enc x)))) →
    lc2Go [i, j] (gNm i) bYes src1 [j] (gNm j) test1 elt M (xs.map enc) ((δ.set j none).set i none) = some (xs.flatMap f, true, (δ.set j none).set i none)
  | [], _ => rfl
  | x :: xs, h => by
    have ih := lc2_go hij hi hj f xs fun y hy => h y (List.mem_cons_of_mem _ hy)
    have h1 := h x (List.mem_cons_self ..)
    have hj' : j < ((δ.set j none).set i (some (enc x))).length := by rw [List.length_set, List.length_set]; exact hj
    have tg : gNm i (enc x) ((δ.set j none).set i none) = some ((δ.set j none).set i (some (enc x))) := by
      rw [gNm_ok (by rw [List.length_set, List.length_set]; exact hi), set_set]
    have jn : ((δ.set j none).set i (some (enc x)))[j]? = some none := by
      rw [List.getElem?_set_ne hij, List.getElem?_set_self hj]
    unfold dLc at h1
    obtain ⟨⟨us, δs⟩, e1, h1⟩ := Option.bind_eq_some_iff.mp h1
    split at h1
    · obtain ⟨q, e2, h1⟩ := Option.map_eq_some_iff.mp h1
      obtain ⟨qs, qf, qe⟩ := q
      injection h1 with h1 h2
      injection h1 with h1
      injection h2 with h2 h3
      have h1 : qs = f x := h1
      have h2 : qf = true := h2
      have h3 : unwipe δs qe [j] = (δ.set j none).set i (some (enc x)) := h3
      subst h1 h2
      show Option.bind (gNm i (enc x) _) _ = _
      rw [tg]
      show Option.bind (src1 M _) _ = _
      rw [e1]
      show Option.bind (lcGo [j] (gNm j) test1 elt M us (wipeE δs [j])) _ = _
      rw [e2]
      have qw : wipeE qe [i, j] = (δ.set j none).set i none := by
        show (qe.set j none).set i none = _
        have h4 : (unwipe δs qe [j]).set j none = qe.set j none := by
          show (qe.set j _).set j none = _
          rw [set_set]
        rw [← h4, h3, List.set_comm _ _ hij, set_set, set_set]
      show Option.map _ (lc2Go [i, j] (gNm i) bYes src1 [j] (gNm j) test1 elt M (xs.map enc) (wipeE qe [i, j])) = _
      rw [qw, ih]
      rfl
    · cases h1
theorem kLc2_map (enc : α → W) (xs : List α) (i j : Nat) (src1 : DenI) (test1 : DenT) (elt : Den) (M : Own) (κ : KE β) (δ : Dv.Env) (hij : i ≠ j) (hi : i < δ.length) (hj : j < δ.length) (hM : M i = false) (hM2 : M j = false)
    (ok : ∀ x ∈ xs, okL (E (dLc [j] src1 (gNm j) test1 elt) M ((δ.set j none).set i (some (enc x))) kId) ((δ.set j none).set i (some (enc x)))) :
    kLc2 i j bYes src1 test1 elt M κ (xs.map enc) δ = gd (decide ((xs.flatMap fun x => getL (E (dLc [j] src1 (gNm j) test1 elt) M ((δ.set j none).set i (some (enc x))) kId)).length ≤ LIM)) (κ (.lst (xs.flatMap fun x => getL (E (dLc [j] src1 (gNm j) test1 elt) M ((δ.set j none).set i (some (enc x))) kId))) true δ) := by
  have h := lc2_go (enc := enc) (src1 := src1) (test1 := test1) (elt := elt) (M := M) hij hi hj (fun x => getL (E (dLc [j] src1 (gNm j) test1 elt) M ((δ.set j none).set i (some (enc x))) kId)) xs fun x hx => by
    obtain ⟨ws, e⟩ := ok x hx
    refine (E_id _ _ _).trans ?_
    rw [e]
    rfl
  unfold kLc2
  rw [h, hM, hM2]
  show gd (decide ((xs.flatMap _).length ≤ LIM)) (κ _ true ((((δ.set j none).set i none).set j (δ.getD j none)).set i (δ.getD i none))) = _
  rw [List.set_comm _ _ hij, set_set, List.set_comm _ _ hij.symm, set_set, set_back hj, set_back hi]
end
theorem range_map (a : Int) (n : Nat) : rangeW a n = (List.range n).map fun i : Nat => W.int (a + (i : Int)) := rfl
theorem zip_tup (xs ys : List W) : kZip [.tup xs, .tup ys] = some (pairsW xs ys) := rfl
theorem zip_lst (xs ys : List W) : kZip [.lst xs, .lst ys] = some (pairsW xs ys) := rfl
theorem pairs_map {α γ : Type} (f : α → W) (g : γ → W) (xs : List α) (ys : List γ) : pairsW (xs.map f) (ys.map g) = (xs.zip ys).map fun p => W.tup [f p.1, g p.2] := by
  unfold pairsW
  rw [List.zip_map, List.map_map]
  rfl
theorem enum_map {α : Type} (f : α → W) (xs : List α) : enumW (xs.map f) = ((List.range xs.length).zip xs).map fun p => W.tup [W.int ((0 : Int) + (p.1 : Nat)), f p.2] := by
  unfold enumW
  rw [List.length_map, range_map, pairs_map]
theorem cut_map {α : Type} (f : α → W) (xs : List α) (lo hi : Option Int) : cutW (xs.map f) lo hi = ((xs.drop (HT.sIx xs.length 0 lo)).take (HT.sIx xs.length xs.length hi - HT.sIx xs.length 0 lo)).map f := by
  unfold cutW
  rw [List.length_map, List.map_take, List.map_drop]
theorem any_bls {α : Type} (b : α → Bool) (xs : List α) : kAny [.lst (xs.map fun x => W.bl (b x))] = some (.bl (xs.any b), true) := kAny_map b xs
theorem sum_ints {α : Type} (g : α → Int) (xs : List α) : kSum [.lst (xs.map fun x => W.int (g x))] = some (.int (xs.map g).sum, true) := by
  have : ∀ ys : List Int, intsW (ys.map W.int) = some ys := fun ys => by
    induction ys with
    | nil => rfl
    | cons y ys ih =>
      show (intsW (ys.map W.int)).map _ = _
      rw [ih]
      rfl
  have e : (xs.map fun x => W.int (g x)) = (xs.map g).map W.int := by rw [List.map_map]; rfl
  rw [e]
  show (intsW _).map _ = _
  rw [this]
  rfl
end Dv
set_option Elab.async false
set_option linter.all false
set_option maxRecDepth 100000
set_option maxHeartbeats 4000000
namespace Dv
open PySem PySem.Spec PyProof.Rows L2
abbrev DkT := {D : Dk // D.cells.length ≤ 1000}
def wD (z : DkC) (D : DkT) : W := Dk.w z D.1
theorem wD_imm (z : DkC) (D : DkT) : (wD z D).imm = false := by unfold wD Dk.w W.imm; rfl
open Classical in
noncomputable def drw (z : DkC) (F : FnM) (D : DkT) (m : Int) : Int × DkT :=
  if h : ∃ q : Int × DkT, 0 ≤ q.1 ∧ q.1 < m ∧ F (wD z D) [.int m] = some (.int q.1, true, wD z q.2) then h.choose else (0, D)
/-- a pick: which -/
noncomputable def pkN (z : DkC) (F : FnM) (D : DkT) (n : Nat) : Nat := (drw z F D n).1.toNat
theorem eq_str (x y : Str) : kEq (.str x) (.str y) = some (.bl (x == y), true) := rfl
theorem ne_str (x y : Str) : kNe (.str x) (.str y) = some (.bl (!(x == y)), true) := rfl
theorem isi_tupE (ws : List W) : kIsi "tuple" (.tup ws) = some (.bl true, true) := by rfl
theorem in_ints (neg : Bool) (x : Int) (xs : List Int) : kIn neg (.int x) (.tup (xs.map .int)) = some (.bl (xor neg (decide (x ∈ xs))), true) := kIn_tup eqW_int (fun _ => shp_int) neg x xs
theorem in_intsL (neg : Bool) (x : Int) (xs : List Int) : kIn neg (.int x) (.lst (xs.map .int)) = some (.bl (xor neg (decide (x ∈ xs))), true) := kIn_lst eqW_int (fun _ => shp_int) neg x xs
theorem ne_tI (xs ys : List Int) : kNe (tI xs) (tI ys) = some (.bl (!decide (xs = ys)), true) := kNe_of (shp_tI _) (shp_tI _) (fun _ h => nomatch h) (eqW_tI xs ys)
theorem eq_tI (xs ys : List Int) : kEq (tI xs) (tI ys) = some (.bl (decide (xs = ys)), true) := kEq_of (shp_tI _) (shp_tI _) (fun _ h => nomatch h) (eqW_tI xs ys)
theorem ne_tI0 (xs : List Int) : kNe (tI xs) (.tup []) = some (.bl (!decide (xs = [])), true) := ne_tI xs []
theorem eq_tI0 (xs : List Int) : kEq (tI xs) (.tup []) = some (.bl (decide (xs = [])), true) := eq_tI xs []
theorem shp_lI {n : Nat} (xs : List Int) : (W.lst (xs.map .int)).shp (n + 1) = true := shp_mono (shp_lst shp_ints) (by omega)
theorem ne_lI0 (xs : List Int) : kNe (.lst (xs.map .int)) (.lst []) = some (.bl (!decide (xs = [])), true) := kNe_of (shp_lI xs) (shp_mono (shp_lst (n := 0) (fun w hw => nomatch hw)) (by decide)) (fun _ h => nomatch h) (eqW_lst eqW_int xs [])
theorem eq_lI0 (xs : List Int) : kEq (.lst (xs.map .int)) (.lst []) = some (.bl (decide (xs = [])), true) := kEq_of (shp_lI xs) (shp_mono (shp_lst (n := 0) (fun w hw => nomatch hw)) (by decide)) (fun _ h => nomatch h) (eqW_lst eqW_int xs [])
theorem imm_tI' (xs : List Int) : (tI xs).imm = true := by unfold W.imm; exact imms_ints xs
theorem ims_tI (L : List (List Int)) : W.imms (L.map tI) = true := imms_map imm_tI' L
theorem sl_tup (ws : List W) (lo hi : Option Int) : kSl (.tup ws) lo hi = some (.tup (cutW ws lo hi), W.imms ws) := rfl
theorem sl_lst (ws : List W) (lo hi : Option Int) : kSl (.lst ws) lo hi = some (.lst (cutW ws lo hi), W.imms ws) := rfl
theorem sIx_one (n : Nat) : HT.sIx n 0 (some 1) = min 1 n := by
  unfold HT.sIx
  simp
theorem sIx_none (n d : Nat) : HT.sIx n d none = d := rfl
theorem cut_tail {α : Type} (f : α → W) (xs : List α) : cutW (xs.map f) (some 1) none = (xs.drop 1).map f := by
  rw [cut_map, sIx_one, sIx_none, List.take_of_length_le (by simp), ]
  by_cases h : xs.length = 0
  · have : xs = [] := List.length_eq_zero_iff.mp h
    subst this
    rfl
  · rw [Nat.min_eq_left (by omega)]
def andR (c : Bool) (x : Option (W × Bool)) : Option (W × Bool) := if c then x else some (.bl false, true)
theorem andR_b (c r : Bool) : andR c (some (.bl r, true)) = some (.bl (c && r), true) := by cases c <;> rfl
theorem andR_t (x : Option (W × Bool)) : andR true x = x := rfl
theorem andR_f (x : Option (W × Bool)) : andR false x = some (.bl false, true) := rfl
theorem guard_f (l : List Nat) (s : DenS) (b : Bool) (δ : Dv.Env) : kIf (sRet l l (dC (.bl false))) sNext (kSeq s kBody) b δ = andR (!b) (ES s δ kBody) := by
  cases b with
  | true => rw [kIf_t, ES_ret, E_c, kRt_ap]; rfl
  | false => rw [kIf_f, ES_next, kSeq_nx]; rfl
theorem lift {α : Type} {p : α → Prop} (L : List α) (h : ∀ x ∈ L, p x) : ∃ L' : List {x // p x}, L'.map Subtype.val = L := by
  induction L with
  | nil => exact ⟨[], rfl⟩
  | cons x L ih =>
    obtain ⟨L', e⟩ := ih fun y hy => h y (List.mem_cons_of_mem _ hy)
    exact ⟨⟨x, h x (List.mem_cons_self ..)⟩ :: L', by rw [List.map_cons, e]⟩
end Dv
set_option Elab.async false
set_option linter.all false
set_option maxRecDepth 100000
set_option maxHeartbeats 4000000
namespace Dv
open PySem PySem.Spec PyProof.Rows L2 DvC
def bitsN (n m : Nat) : List Nat := (List.range n).filter fun k => m.testBit k
end Dv
namespace Dv
open PySem PySem.Spec PyProof.Rows L2 DvC
/-- the pegs of a number's bits -/
def pg (n m : Nat) : List Int := (bitsN n m).map fun k : Nat => 1 + (k : Int)
theorem mem_pg {n m : Nat} {x : Int} : x ∈ pg n m ↔ ∃ k : Nat, k < n ∧ m.testBit k = true ∧ x = 1 + (k : Int) := by
  unfold pg bitsN
  rw [List.mem_map]
  constructor
  · rintro ⟨k, hk, rfl⟩
    obtain ⟨a, b⟩ := List.mem_filter.mp hk
    exact ⟨k, List.mem_range.mp a, b, rfl⟩
  · rintro ⟨k, a, b, rfl⟩
    exact ⟨k, List.mem_filter.mpr ⟨List.mem_range.mpr a, b⟩, rfl⟩
end Dv
set_option Elab.async false
set_option linter.all false
set_option maxRecDepth 100000
set_option maxHeartbeats 4000000
namespace Dv
open PySem PySem.Spec PyProof.Rows L2
section
variable {β : Type}
def au5 (i : Nat) (k : Int → Int → Int) (st : List Stp) (ws : List W) (n a : Int) (w0 : W) (κ : KE β) : KE β := fun w _ δ => match w with | .int b => (opSet (.lst ws) [.int n, .int (k a b)]).bind fun q => κ .non true (δ.set i (some (w0.put st q.1))) | _ => none
def au4 (x : Option W) (i : Nat) (k : Int → Int → Int) (f : Den) (M : Own) (st : List Stp) (ws : List W) (n : Int) (w0 : W) (δ : Dv.Env) (κ : KE β) : Option β := match x with | some (.int a) => gd (decide (0 ≤ n)) (E f (but M i) δ (au5 i k st ws n a w0 κ)) | _ => none
def au3 (x : Option W) (i : Nat) (k : Int → Int → Int) (f : Den) (M : Own) (st : List Stp) (n : Int) (w0 : W) (δ : Dv.Env) (κ : KE β) : Option β := match x with | some (.lst ws) => au4 (atI ws n) i k f M st ws n w0 δ κ | _ => none
def au2 (x : Option (Option W)) (i : Nat) (k : Int → Int → Int) (f : Den) (M : Own) (st : List Stp) (n : Int) (δ : Dv.Env) (κ : KE β) : Option β := match x with | some (some w0) => au3 (w0.at st) i k f M st n w0 δ κ | _ => none
def kAu2 (i : Nat) (k : Int → Int → Int) (f : Den) (M : Own) (st : List Stp) (κ : KE β) : KE β := fun w _ δ => match w with | .int n => au2 δ[i]? i k f M st n δ κ | _ => none
def kAu1 (i : Nat) (fi : Den) (k : Int → Int → Int) (f : Den) (M : Own) (κ : KE β) : KP β := fun st δ => E fi (but M i) δ (kAu2 i k f M st κ)
theorem E_aug (i : Nat) (π : DenP) (fi : Den) (k : Int → Int → Int) (f : Den) (M : Own) (δ : Dv.Env) (κ : KE β) : E (dAugAt i π fi k f) M δ κ = gd (M i) (EP π (but M i) δ (kAu1 i fi k f M κ)) := by
  unfold E dAugAt EP kAu1 E kAu2 gd
  cases M i with
  | false => rfl
  | true =>
    show Option.bind (Option.bind (π (but M i) δ) _) _ = Option.bind (π (but M i) δ) _
    cases π (but M i) δ with
    | none => rfl
    | some p =>
      show Option.bind (Option.bind (fi (but M i) p.2) _) _ = Option.bind (fi (but M i) p.2) _
      cases fi (but M i) p.2 with
      | none => rfl
      | some x =>
        obtain ⟨w, fr, δ1⟩ := x
        cases w with
        | int n =>
          show Option.bind (match W.int n, δ1[i]? with | .int n, some (some w0) => _ | _, _ => none) _ = au2 δ1[i]? i k f M p.1 n δ1 κ
          unfold au2
          cases δ1[i]? with
          | none => rfl
          | some y => cases y with
            | none => rfl
            | some w0 =>
              show Option.bind (match w0.at p.1 with | some (.lst ws) => _ | _ => none) _ = au3 (w0.at p.1) i k f M p.1 n w0 δ1 κ
              unfold au3
              cases w0.at p.1 with
              | none => rfl
              | some w1 => cases w1 with
                | lst ws =>
                  show Option.bind (match atI ws n with | some (.int a) => _ | _ => none) _ = au4 (atI ws n) i k f M p.1 ws n w0 δ1 κ
                  unfold au4
                  cases atI ws n with
                  | none => rfl
                  | some w2 => cases w2 with
                    | int a =>
                      show Option.bind (if 0 ≤ n then _ else none) _ = gd (decide (0 ≤ n)) _
                      unfold gd E au5
                      by_cases h : 0 ≤ n
                      · rw [if_pos h, if_pos (decide_eq_true h)]
                        cases f (but M i) δ1 with
                        | none => rfl
                        | some r =>
                          obtain ⟨w3, fr3, δ3⟩ := r
                          cases w3 with
                          | int b =>
                            show Option.bind (Option.map _ (opSet (.lst ws) [.int n, .int (k a b)])) _ = Option.bind (opSet (.lst ws) [.int n, .int (k a b)]) _
                            cases opSet (.lst ws) [.int n, .int (k a b)] <;> rfl
                          | _ => rfl
                      · rw [if_neg h, if_neg (by rw [decide_eq_false h]; decide)]
                        rfl
                    | _ => rfl
                | _ => rfl
        | _ => rfl
theorem kAu1_ap (i : Nat) (fi : Den) (k : Int → Int → Int) (f : Den) (M : Own) (κ : KE β) (st : List Stp) (δ : Dv.Env) : kAu1 i fi k f M κ st δ = E fi (but M i) δ (kAu2 i k f M st κ) := rfl
theorem kAu2_ap (i : Nat) (k : Int → Int → Int) (f : Den) (M : Own) (st : List Stp) (κ : KE β) (n : Int) (fr : Bool) (δ : Dv.Env) : kAu2 i k f M st κ (.int n) fr δ = au2 δ[i]? i k f M st n δ κ := rfl
theorem au2_s (w0 : W) (i : Nat) (k : Int → Int → Int) (f : Den) (M : Own) (st : List Stp) (n : Int) (δ : Dv.Env) (κ : KE β) : au2 (some (some w0)) i k f M st n δ κ = au3 (w0.at st) i k f M st n w0 δ κ := rfl
theorem au3_s (ws : List W) (i : Nat) (k : Int → Int → Int) (f : Den) (M : Own) (st : List Stp) (n : Int) (w0 : W) (δ : Dv.Env) (κ : KE β) : au3 (some (.lst ws)) i k f M st n w0 δ κ = au4 (atI ws n) i k f M st ws n w0 δ κ := rfl
theorem au4_s (a : Int) (i : Nat) (k : Int → Int → Int) (f : Den) (M : Own) (st : List Stp) (ws : List W) (n : Int) (w0 : W) (δ : Dv.Env) (κ : KE β) : au4 (some (.int a)) i k f M st ws n w0 δ κ = gd (decide (0 ≤ n)) (E f (but M i) δ (au5 i k st ws n a w0 κ)) := rfl
theorem au5_ap (i : Nat) (k : Int → Int → Int) (st : List Stp) (ws : List W) (n a b : Int) (w0 : W) (κ : KE β) (fr : Bool) (δ : Dv.Env) : au5 i k st ws n a w0 κ (.int b) fr δ = (opSet (.lst ws) [.int n, .int (k a b)]).bind fun q => κ .non true (δ.set i (some (w0.put st q.1))) := rfl
end
theorem cut_head {α : Type} (f : α → W) (xs : List α) (k : Nat) : cutW (xs.map f) none (some (k : Int)) = (xs.take k).map f := by
  rw [cut_map, sIx_none, HT.sIx_nat, List.drop_zero, Nat.sub_zero]
  congr 1
  by_cases h : k ≤ xs.length
  · rw [Nat.min_eq_left h]
  · rw [Nat.min_eq_right (by omega), List.take_length, List.take_of_length_le (by omega)]
end Dv
set_option Elab.async false
set_option linter.all false
set_option maxRecDepth 100000
set_option maxHeartbeats 4000000
namespace Dv
open PySem PySem.Spec PyProof.Rows L2 DvR PySem.W
section
variable {β : Type}
def lk3 (x : Option (Option W)) (δ : Dv.Env) (κ : KE β) : Option β := x.bind fun o => o.bind fun w => κ w w.imm δ
theorem lk3_s (w : W) (δ : Dv.Env) (κ : KE β) : lk3 (some (some w)) δ κ = κ w w.imm δ := rfl
def kLk2 (w : W) (κ : KE β) : KE β := fun k _ δ => lk3 (w.look k) δ κ
def kLk1 (fi : Den) (M : Own) (κ : KE β) : KE β := fun w _ δ => E fi M δ (kLk2 w κ)
theorem E_look (f fi : Den) (M : Own) (δ : Dv.Env) (κ : KE β) : E (dLook f fi) M δ κ = E f M δ (kLk1 fi M κ) := by
  unfold E dLook kLk1 E kLk2 lk3
  cases f M δ with
  | none => rfl
  | some r =>
    obtain ⟨w, fr, δ1⟩ := r
    show Option.bind (Option.bind (fi M δ1) _) _ = Option.bind (fi M δ1) _
    cases fi M δ1 with
    | none => rfl
    | some k =>
      obtain ⟨kw, kf, δ'⟩ := k
      show Option.bind (Option.bind (w.look kw) _) _ = Option.bind (w.look kw) _
      cases w.look kw with
      | none => rfl
      | some o => cases o <;> rfl
theorem kLk1_ap (fi : Den) (M : Own) (κ : KE β) (w : W) (fr : Bool) (δ : Dv.Env) : kLk1 fi M κ w fr δ = E fi M δ (kLk2 w κ) := rfl
theorem kLk2_ap (w : W) (κ : KE β) (k : W) (fr : Bool) (δ : Dv.Env) : kLk2 w κ k fr δ = lk3 (w.look k) δ κ := rfl
def gt3 (x : Option (Option W)) (dv : W) (δ : Dv.Env) (κ : KE β) : Option β := x.bind fun o => κ (o.getD dv) (o.getD dv).imm δ
theorem gt3_s (w dv : W) (δ : Dv.Env) (κ : KE β) : gt3 (some (some w)) dv δ κ = κ w w.imm δ := rfl
theorem gt3_n (dv : W) (δ : Dv.Env) (κ : KE β) : gt3 (some none) dv δ κ = κ dv dv.imm δ := rfl
def kGt2 (w : W) (κ : KE β) : KE β := fun k _ δ => gt3 (w.look k) .non δ κ
def ifD (w : W) (x : Option β) : Option β := if w.isD = true then x else none
theorem ifD_dk (ks : List Key) (ws : List W) (x : Option β) : ifD (.dk ks ws) x = x := rfl
theorem ifD_fk (ks : List Key) (ws : List W) (x : Option β) : ifD (.fk ks ws) x = x := rfl
theorem ifD_dt (ks : List (List Key)) (ws : List W) (x : Option β) : ifD (.dt ks ws) x = x := rfl
theorem ifD_fd (ks : List (List Key)) (ws : List W) (x : Option β) : ifD (.fd ks ws) x = x := rfl
def kGt1 (fi : Den) (M : Own) (κ : KE β) : KE β := fun w _ δ => ifD w (E fi M δ (kGt2 w κ))
theorem E_get1 (f fi : Den) (M : Own) (δ : Dv.Env) (κ : KE β) : E (dGet1 f fi) M δ κ = E f M δ (kGt1 fi M κ) := by
  unfold E dGet1 kGt1 E kGt2 gt3 ifD
  cases f M δ with
  | none => rfl
  | some r =>
    obtain ⟨w, fr, δ1⟩ := r
    show Option.bind (if w.isD = true then _ else none) _ = if w.isD = true then _ else none
    split
    · show Option.bind (Option.bind (fi M δ1) _) _ = Option.bind (fi M δ1) _
      cases fi M δ1 with
      | none => rfl
      | some k =>
        obtain ⟨kw, kf, δ'⟩ := k
        show Option.bind (Option.map _ (w.look kw)) _ = Option.bind (w.look kw) _
        cases w.look kw <;> rfl
    · rfl
theorem kGt1_ap (fi : Den) (M : Own) (κ : KE β) (w : W) (fr : Bool) (δ : Dv.Env) : kGt1 fi M κ w fr δ = ifD w (E fi M δ (kGt2 w κ)) := rfl
theorem kGt2_ap (w : W) (κ : KE β) (k : W) (fr : Bool) (δ : Dv.Env) : kGt2 w κ k fr δ = gt3 (w.look k) .non δ κ := rfl
def kGu3 (w k : W) (κ : KE β) : KE β := fun x _ δ => gt3 (w.look k) x δ κ
def kGu2 (fx : Den) (M : Own) (w : W) (κ : KE β) : KE β := fun k _ δ => E fx M δ (kGu3 w k κ)
def kGu1 (fi fx : Den) (M : Own) (κ : KE β) : KE β := fun w _ δ => ifD w (E fi M δ (kGu2 fx M w κ))
theorem E_get2 (f fi fx : Den) (M : Own) (δ : Dv.Env) (κ : KE β) : E (dGet2 f fi fx) M δ κ = E f M δ (kGu1 fi fx M κ) := by
  unfold E dGet2 kGu1 E kGu2 E kGu3 gt3 ifD
  cases f M δ with
  | none => rfl
  | some r =>
    obtain ⟨w, fr, δ1⟩ := r
    show Option.bind (if w.isD = true then _ else none) _ = if w.isD = true then _ else none
    split
    · show Option.bind (Option.bind (fi M δ1) _) _ = Option.bind (fi M δ1) _
      cases fi M δ1 with
      | none => rfl
      | some k =>
        obtain ⟨kw, kf, δ'⟩ := k
        show Option.bind (Option.bind (fx M δ') _) _ = Option.bind (fx M δ') _
        cases fx M δ' with
        | none => rfl
        | some x =>
          obtain ⟨xw, xf, δ2⟩ := x
          show Option.bind (Option.map _ (w.look kw)) _ = Option.bind (w.look kw) _
          cases w.look kw <;> rfl
    · rfl
theorem kGu1_ap (fi fx : Den) (M : Own) (κ : KE β) (w : W) (fr : Bool) (δ : Dv.Env) : kGu1 fi fx M κ w fr δ = ifD w (E fi M δ (kGu2 fx M w κ)) := rfl
theorem kGu2_ap (fx : Den) (M : Own) (w : W) (κ : KE β) (k : W) (fr : Bool) (δ : Dv.Env) : kGu2 fx M w κ k fr δ = E fx M δ (kGu3 w k κ) := rfl
theorem kGu3_ap (w k : W) (κ : KE β) (x : W) (fr : Bool) (δ : Dv.Env) : kGu3 w k κ x fr δ = gt3 (w.look k) x δ κ := rfl
def li3 (neg : Bool) (x : Option (Option W)) (δ : Dv.Env) (κ : KE β) : Option β := x.bind fun o => κ (.bl (xor neg o.isSome)) true δ
theorem li3_s (neg : Bool) (w : W) (δ : Dv.Env) (κ : KE β) : li3 neg (some (some w)) δ κ = κ (.bl (!neg)) true δ := by cases neg <;> rfl
theorem li3_n (neg : Bool) (δ : Dv.Env) (κ : KE β) : li3 neg (some none) δ κ = κ (.bl neg) true δ := by cases neg <;> rfl
def kLi2 (neg : Bool) (k : W) (κ : KE β) : KE β := fun w _ δ => li3 neg (w.look k) δ κ
def kLi1 (neg : Bool) (f : Den) (M : Own) (κ : KE β) : KE β := fun k _ δ => E f M δ (kLi2 neg k κ)
theorem E_lookIn (neg : Bool) (fi f : Den) (M : Own) (δ : Dv.Env) (κ : KE β) : E (dLookIn neg fi f) M δ κ = E fi M δ (kLi1 neg f M κ) := by
  unfold E dLookIn kLi1 E kLi2 li3
  cases fi M δ with
  | none => rfl
  | some r =>
    obtain ⟨w, fr, δ1⟩ := r
    show Option.bind (Option.bind (f M δ1) _) _ = Option.bind (f M δ1) _
    cases f M δ1 with
    | none => rfl
    | some k =>
      obtain ⟨kw, kf, δ'⟩ := k
      show Option.bind (Option.map _ (kw.look w)) _ = Option.bind (kw.look w) _
      cases kw.look w <;> rfl
theorem kLi1_ap (neg : Bool) (f : Den) (M : Own) (κ : KE β) (k : W) (fr : Bool) (δ : Dv.Env) : kLi1 neg f M κ k fr δ = E f M δ (kLi2 neg k κ) := rfl
theorem kLi2_ap (neg : Bool) (k : W) (κ : KE β) (w : W) (fr : Bool) (δ : Dv.Env) : kLi2 neg k κ w fr δ = li3 neg (w.look k) δ κ := rfl
theorem E_tnew (M : Own) (δ : Dv.Env) (κ : KE β) : E dTNew M δ κ = κ (.dt [] []) true δ := rfl
def ky3 (w : W) (δ : Dv.Env) (κ : KI β) : Option β := match w with
  | .fd ks _ => κ (ks.map tkW) δ
  | .fk ks _ => κ (ks.map Key.w) δ
  | _ => none
theorem ky3_fd (ks : List (List Key)) (ws : List W) (δ : Dv.Env) (κ : KI β) : ky3 (.fd ks ws) δ κ = κ (ks.map tkW) δ := rfl
theorem ky3_fk (ks : List Key) (ws : List W) (δ : Dv.Env) (κ : KI β) : ky3 (.fk ks ws) δ κ = κ (ks.map Key.w) δ := rfl
def kKy (κ : KI β) : KE β := fun w _ δ => ky3 w δ κ
theorem EI_keysD (f : Den) (M : Own) (δ : Dv.Env) (κ : KI β) : EI (iKeysD f) M δ κ = E f M δ (kKy κ) := by
  unfold EI iKeysD E kKy ky3
  cases f M δ with
  | none => rfl
  | some r =>
    obtain ⟨w, fr, δ1⟩ := r
    cases w <;> rfl
theorem kKy_ap (κ : KI β) (w : W) (fr : Bool) (δ : Dv.Env) : kKy κ w fr δ = ky3 w δ κ := rfl
end
end Dv
set_option Elab.async false
set_option linter.all false
set_option maxRecDepth 100000
set_option maxHeartbeats 4000000
set_option Elab.async false
set_option linter.all false
set_option maxRecDepth 100000
set_option maxHeartbeats 4000000
namespace DvL
open PySem PySem.Spec PyProof.Rows L2 LamX
/-- the heap behind the making of a lambda: as it was, or one code object more, told by the table -/
def Lm (P : Addr) (q : Str) (H H2 : Hp) : Prop := (H2 = H ∧ TabS H P q) ∨
  ∃ (ps more : Array Value) (c : Addr), H P = some (.tbl ps) ∧ H c = none ∧ H2 = upd (upd H P (.tbl (ps ++ more))) c (CodeO c q) ∧ TabS H2 P q
theorem Lm.tab {P : Addr} {q : Str} {H H2 : Hp} (h : Lm P q H H2) : TabS H2 P q := by
  rcases h with ⟨rfl, t⟩ | ⟨_, _, _, _, _, _, t⟩
  · exact t
  · exact t
end DvL
set_option Elab.async false
set_option linter.all false
set_option maxRecDepth 100000
set_option maxHeartbeats 4000000
namespace Dv
open PySem PySem.Spec PyProof.Rows L2 DvR DvF
def sortLen (ks : List (List Key)) : List (List Key) := ks.mergeSort fun a b => decide ((a.length : Int) ≤ (b.length : Int))
def dSortLen (f : Den) : Den := fun M δ => (f M δ).bind fun r => match r.1 with
  | .dt ks _ => some (.lst ((sortLen ks).map tkW), true, r.2.2)
  | _ => none
section
variable {β : Type}
def srt3 (w : W) (δ : Dv.Env) (κ : KE β) : Option β := match w with
  | .dt ks _ => κ (.lst ((sortLen ks).map tkW)) true δ
  | _ => none
theorem srt3_dt (ks : List (List Key)) (ws : List W) (δ : Dv.Env) (κ : KE β) : srt3 (.dt ks ws) δ κ = κ (.lst ((sortLen ks).map tkW)) true δ := rfl
def kSrt (κ : KE β) : KE β := fun w _ δ => srt3 w δ κ
theorem E_sortLen (f : Den) (M : Own) (δ : Dv.Env) (κ : KE β) : E (dSortLen f) M δ κ = E f M δ (kSrt κ) := by
  unfold E dSortLen kSrt srt3
  cases f M δ with
  | none => rfl
  | some r =>
    obtain ⟨w, fr, δ1⟩ := r
    cases w <;> rfl
theorem kSrt_ap (κ : KE β) (w : W) (fr : Bool) (δ : Dv.Env) : kSrt κ w fr δ = srt3 w δ κ := rfl
end
end Dv
set_option Elab.async false
set_option linter.all false
set_option maxRecDepth 100000
set_option maxHeartbeats 4000000
namespace DvL
open PySem PySem.Spec PyProof.Rows L2
/-- set(t), t a tuple of ints -/
def rSetT (K : PySem.W.Frag) (w : World) : List V → Hp → VK → Prop := fun vs H Q => ∃ (a : Addr) (ns : List Int), vs = [V.ref a] ∧ SqT K H a (ns.map V.int) ∧ ns.length ≤ 60 ∧
  ∀ (p : Addr) (n : Nat), H p = none → n ≤ ns.length → Q (.ref p) (upd H p (SetO w p (fun j => decide (j ∈ ns)) n))
theorem call_setT {X : Cx} (hc : X.calm = true) : CallR X (.type "set") (rSetT X.K X.w) := by
  intro pins s σ H vs us Q I r h
  obtain ⟨a, ns, rfl, hs, hl, q⟩ := h
  obtain rfl := Vals.ref1 r
  obtain ⟨its, rv, tp, hz⟩ := I.tuple hs
  refine call_set_tupI ns (I.ok.hd hc) (show s.heap.IsTuple a its.toArray from tp) (ints_of_vals rv) (by unfold scanBound; omega) fun g tk n R hn keep => ?_
  have new := I.hok.fresh (Nat.le_refl s.heap.objs.size)
  exact ⟨.ref s.heap.objs.size, _, I.laid (t' := tk) keep (Nat.le_refl _) (setO_new R), rfl, q _ n new hn⟩
end DvL
namespace Dv
open PySem PySem.Spec PyProof.Rows L2 DvR DvF
def insU (x : Int) : List Int → List Int
  | [] => [x]
  | y :: l => if x < y then x :: y :: l else if x = y then y :: l else y :: insU x l
/-- ascending, each once -/
def uqs (ns : List Int) : List Int := ns.foldr insU []
theorem insU_mem {x z : Int} : ∀ {l : List Int}, z ∈ insU x l ↔ z = x ∨ z ∈ l
  | [] => by simp [insU]
  | y :: l => by
    unfold insU
    split
    · simp
    · split
      · rename_i h
        subst h
        simp
      · rw [List.mem_cons, insU_mem, List.mem_cons]
        constructor
        · rintro (h | h | h)
          · exact .inr (.inl h)
          · exact .inl h
          · exact .inr (.inr h)
        · rintro (h | h | h)
          · exact .inr (.inl h)
          · exact .inl h
          · exact .inr (.inr h)
theorem insU_asc {x : Int} : ∀ {l : List Int}, l.Pairwise (· < ·) → (insU x l).Pairwise (· < ·)
  | [], _ => by simp [insU]
  | y :: l, h => by
    obtain ⟨h1, h2⟩ := List.pairwise_cons.mp h
    unfold insU
    split
    · rename_i c
      refine List.pairwise_cons.mpr ⟨fun z hz => ?_, h⟩
      rcases List.mem_cons.mp hz with rfl | hz
      · exact c
      · have := h1 z hz
        omega
    · split
      · exact h
      · refine List.pairwise_cons.mpr ⟨fun z hz => ?_, insU_asc h2⟩
        rcases insU_mem.mp hz with rfl | hz
        · omega
        · exact h1 z hz
theorem uqs_mem {z : Int} : ∀ {ns : List Int}, z ∈ uqs ns ↔ z ∈ ns
  | [] => Iff.rfl
  | x :: ns => by
    show z ∈ insU x (uqs ns) ↔ _
    rw [insU_mem, uqs_mem (ns := ns), List.mem_cons]
theorem uqs_asc : ∀ ns : List Int, (uqs ns).Pairwise (· < ·)
  | [] => .nil
  | x :: ns => insU_asc (uqs_asc ns)
theorem asc_eq {xs ys : List Int} (hx : xs.Pairwise (· < ·)) (hy : ys.Pairwise (· < ·)) (h : ∀ z, z ∈ xs ↔ z ∈ ys) : xs = ys := by
  have p : xs.Perm ys := (List.perm_ext_iff_of_nodup (hx.imp fun h => by omega) (hy.imp fun h => by omega)).mpr fun z => h z
  exact (sortI_eq (List.Perm.refl xs) hx).symm.trans (sortI_eq p hy)
def intsOf : List W → Option (List Int)
  | [] => some []
  | .int i :: ws => (intsOf ws).map fun l => i :: l
  | _ => none
theorem intsOf_eq : ∀ {ws : List W} {ns : List Int}, intsOf ws = some ns → ws = ns.map .int
  | [], ns, h => by cases h; rfl
  | w :: ws, ns, h => by
    cases w with
    | int i =>
      obtain ⟨l, h1, h2⟩ := Option.map_eq_some_iff.mp (show (intsOf ws).map (fun l => i :: l) = some ns from h)
      subst h2
      rw [intsOf_eq h1]
      rfl
    | _ => cases h
theorem rp_intsV {K : PySem.W.Frag} {G : Hp} : ∀ {ns : List Int} {vs : List V} {A : List Addr}, Rps K G (ns.map W.int) vs A → vs = ns.map V.int
  | [], vs, A, h => by
    unfold List.map Rps at h
    exact h.1
  | n :: ns, vs, A, h => by
    have h : Rps K G (W.int n :: ns.map W.int) vs A := h
    unfold Rps at h
    obtain ⟨v, vr, B, C, rfl, rfl, h1, h2⟩ := h
    unfold Rp at h1
    rw [h1.1, rp_intsV h2]
    rfl
end Dv
set_option Elab.async false
set_option linter.all false
set_option maxRecDepth 100000
set_option maxHeartbeats 4000000
namespace DvL
open PySem PySem.Spec PyProof.Rows L2 DvR DvF
section
variable {P : Program} {w : World} {K : PySem.W.Frag} {mg : Str → Option Value} {base : Heap} {CX : CXT} {x qual : Str} {params : Arguments} {body : List Stmt} {scope : Scope} {f : Addr} {fd : FuncData} {N ps : List Str} {k n : Nat}
/-- the law's own call; the tables are empty -/
theorem lawGT {mb : Str → Option Value} {fa a : Addr} {sp : Sp} {s1 : Shared} {vs : List Value} {ns : List Int} {cs : List (Addr × Addr)} (inK : K.In s1.heap) (G : s1.heap.Ns mainGlobals mg) (B : s1.heap.Ns builtinsNs mb) (Bb : ∀ x : Str, x ≠ "__name__" → mb x = bootBuiltins x)
    (lim : s1.heap.NoLimit) (gn : s1.gens = #[]) (hT : ∀ p ∈ cs, s1.heap.get? p.2 = some { cls := .none, data := .fields #[] }) (nT : ∀ p ∈ cs, K.lookup p.2 = none) (C : ∀ p ∈ cs, PySem.W.CodeHd s1.heap p.1 p.2)
    (bm : ∃ (m : Addr) (om : Obj), mg "__builtins__" = some (.ref m) ∧ m ≠ builtinsNs ∧ s1.heap.get? m = some om ∧ om.cls = .type "module" ∧ om.dict = some builtinsNs ∧ om.data = .plain)
    (ha : s1.heap.get? a = some { cls := .type "list", data := .seq vs.toArray }) (hi : IntsAre vs ns) (hl : ns.length ≤ sizeLine) (hr : Room k callerA)
    (F : ∀ base : Heap, K.In base → base.Ns mainGlobals mg → (∀ p ∈ cs, LamX.TabB base mg p.1 p.2) → FnG P w K mg base CX0 k fa fd [x] sp) (bind : ∀ (s : Shared) (u : Value), BindsTo s fd ⟨[u], []⟩ [(x, u)])
    (h : ∀ H : Hp, (∀ p ∈ cs, H p.2 = some (.tbl #[])) → Dv.FzL K H a (ns.map V.int) → sp [.ref a] H (fun v _ => v = .bl true) E0) :
    codeAny (model P w) callerA (.call (.ref fa) ⟨[.ref a], []⟩) (fun r s2 => r = .ok (.ret (.bool true)) ∧ OldK s1.heap s2.heap ∧ s2.os = s1.os ∧ AllBare s2.gens) s1 := by
  classical
  have rv : Vals (ns.map V.int) vs := vals_ints hi
  have na : ∀ p ∈ cs, p.2 ≠ a := fun p hp e => by
    have := hT p hp
    rw [e, ha] at this
    cases this
  obtain ⟨H, H1, H2, H3, fz, ok, ka⟩ : ∃ H : Hp, (∀ p ∈ cs, H p.2 = some (.tbl #[])) ∧ (∀ b, b ≠ a → (∀ p ∈ cs, p.2 ≠ b) → H b = none) ∧ (∀ u, H a = some u → ∃ o, u = .frz o (.lst (ns.map V.int))) ∧ Dv.FzL K H a (ns.map V.int) ∧ HOk P w H s1.heap ∧ (∀ o, K.lookup a = some o → H a = none) := by
    cases e : K.lookup a with
    | some o =>
      have e2 := inK a o e
      rw [ha] at e2
      cases e2
      let H : Hp := fun b => if ∃ p ∈ cs, p.2 = b then some (.tbl #[]) else none
      have yes : ∀ {b}, (∃ p ∈ cs, p.2 = b) → H b = some (.tbl #[]) := fun h => if_pos h
      have no : ∀ {b}, ¬ (∃ p ∈ cs, p.2 = b) → H b = none := fun h => if_neg h
      have Ha : H a = none := no fun ⟨p, hp, e⟩ => na p hp e
      refine ⟨H, fun p hp => yes ⟨p, hp, rfl⟩, fun b _ n => no fun ⟨p, hp, e⟩ => n p hp e, fun u z => (by rw [Ha] at z; cases z), .inr ⟨_, _, _, e, rfl, rfl, rfl, by rw [List.size_toArray, hi.length]; exact hl, rv⟩, fun b u z => ?_, fun _ _ => Ha⟩
      by_cases c : ∃ p ∈ cs, p.2 = b
      · rw [yes c] at z
        cases z
        obtain ⟨p, hp, rfl⟩ := c
        exact hT p hp
      · rw [no c] at z
        cases z
    | none =>
      let H : Hp := fun b => if b = a then some (.frz { cls := .type "list", data := .seq vs.toArray } (.lst (ns.map V.int))) else if ∃ p ∈ cs, p.2 = b then some (.tbl #[]) else none
      have at_ : H a = some (.frz { cls := .type "list", data := .seq vs.toArray } (.lst (ns.map V.int))) := if_pos rfl
      have yes : ∀ {b}, b ≠ a → (∃ p ∈ cs, p.2 = b) → H b = some (.tbl #[]) := fun n h => (if_neg n).trans (if_pos h)
      have no : ∀ {b}, b ≠ a → ¬ (∃ p ∈ cs, p.2 = b) → H b = none := fun n h => (if_neg n).trans (if_neg h)
      refine ⟨H, fun p hp => yes (na p hp) ⟨p, hp, rfl⟩, fun b m n => no m fun ⟨p, hp, e⟩ => n p hp e, fun u z => ⟨_, (Option.some.inj (at_.symm.trans z)).symm⟩, .inl ⟨_, at_⟩, fun b u z => ?_, fun o z => nomatch z⟩
      by_cases m : b = a
      · subst m
        rw [at_] at z
        cases z
        exact ⟨ha, by rw [List.length_map]; exact hl, vs, _, rv, ha⟩
      · by_cases c : ∃ p ∈ cs, p.2 = b
        · rw [yes m c] at z
          cases z
          obtain ⟨p, hp, rfl⟩ := c
          exact hT p hp
        · rw [no m c] at z
          cases z
  -- what is no list and no table is seen at the base
  have free : ∀ {b : Addr} {o : Obj}, s1.heap.get? b = some o → (∀ us n, o.data ≠ .seq us n) → o.data ≠ .fields #[] → H b = none := fun {b o} e n1 n2 => by
    refine H2 b (fun z => ?_) fun p hp z => ?_
    · rw [z, ha] at e
      cases e
      exact n1 _ _ rfl
    · rw [← z, hT p hp] at e
      cases e
      exact n2 rfl
  have dictOk : ∀ {b : Addr} {m : Str → Option Value}, s1.heap.Ns b m → (hidT s1.heap H).Ns b m := by
    rintro b m ⟨q, es, ep, e, d, r⟩
    exact ⟨q, es, ep, hidT_get e (free e (fun us n z => by rw [d] at z; cases z) fun z => by rw [d] at z; cases z), d, r⟩
  have kOk : K.In (hidT s1.heap H) := fun b q e => hidT_get (inK b q e) (by
    by_cases c : b = a
    · subst c
      exact ka q e
    · exact H2 b c fun p hp z => by rw [← z, nT p hp] at e; cases e)
  have mo : L2.Mod K mg (hidT s1.heap H) := by
    obtain ⟨mc, l1, l2⟩ := lim
    exact ⟨kOk, dictOk G, ⟨mb, dictOk B, Bb⟩, ⟨mc, dictOk l1, l2⟩⟩
  have TB : ∀ p ∈ cs, LamX.TabB (hidT s1.heap H) mg p.1 p.2 := fun p hp => by
    have tabP := hT p hp
    obtain ⟨m, om, b1, b2, b3, b4, b5, b6⟩ := bm
    obtain ⟨oG, esG, epG, eG, dG, _⟩ := id G
    refine ⟨?_, ⟨m, om, b1, b2, fun z => ?_, fun z => ?_, hidT_get b3 (free b3 (fun us n z => by rw [b6] at z; cases z) fun z => by rw [b6] at z; cases z), b4, b5, b6⟩, fun z => ?_⟩
    · obtain ⟨o, us, file, tf, flags, tg, inF, text, tt, e1, c1, c2, c3, rest⟩ := C p hp
      refine ⟨o, us, file, tf, flags, tg, inF, text, tt, hidT_get e1 (free e1 (fun ws n z => by rw [c2] at z; cases z) fun z => ?_), c1, c2, c3, rest⟩
      rw [c2] at z
      cases z
      simp at c3
    · rw [z, eG] at b3
      cases b3
      rw [dG] at b6
      cases b6
    · rw [z, tabP] at b3
      cases b3
      cases b6
    · rw [z, tabP] at eG
      cases eG
      cases dG
  have nil : ∀ b : Addr, b ∉ frs [] := fun b z => by simp [frs] at z
  have e0 : Env0 P w K mg (hidT s1.heap H) callerA [] s1 H :=
    ⟨rfl, mo, fun b q e => of_hidT e, Nat.le_of_eq (hidT_size _ _), trivial, fun b z => absurd z (nil b), ok, AllBare.of_eq gn⟩
  refine codeAny_mono ((F _ kOk (dictOk G) TB).runs (us := [.ref a]) (vs := [.ref a]) rfl hr e0 (bind s1 (.ref a)) (.cons rfl .nil) (h H H1 fz)) fun r s2 q => ?_
  cases r with
  | error e => exact False.elim q
  | ok fl =>
    cases fl with
    | next => exact False.elim q
    | brk => exact False.elim q
    | cont => exact False.elim q
    | ret u =>
      obtain ⟨v, H', os, bare, un, ok2, r2, e⟩ := q
      subst e
      obtain rfl : u = Value.bool true := r2
      have keep : ∀ b o, (∀ p ∈ cs, p.2 ≠ b) → s1.heap.get? b = some o → s2.heap.get? b = some o := fun b o n e => by
        cases c : H b with
        | none => exact un.keep b o e c (nil b) (fun z => nomatch z)
        | some u =>
          have ea : b = a := Classical.byContradiction fun m => by rw [H2 b m n] at c; cases c
          subst ea
          obtain ⟨ob, rfl⟩ := H3 u c
          obtain ⟨k1, _⟩ := ok b _ c
          obtain ⟨k2, _⟩ := ok2 b _ (un.frzs b _ _ c)
          rw [e] at k1
          cases k1
          exact k2
      have grow : ∀ p ∈ cs, ∃ more : Array Value, s2.heap.get? p.2 = some { cls := .none, data := .fields more } := fun p hp => by
        obtain ⟨more, z⟩ := un.tbls p.2 #[] (H1 p hp)
        exact ⟨_, ok2 p.2 _ z⟩
      refine ⟨rfl, ⟨fun b o e => ?_, fun b o e => ?_⟩, os, bare⟩
      · by_cases c : ∃ p ∈ cs, p.2 = b
        · obtain ⟨p, hp, rfl⟩ := c
          obtain ⟨more, hm⟩ := grow p hp
          rw [hT p hp] at e
          cases e
          refine .inr (.inl ⟨((C p hp).tab (hT p hp)).isCodeTable, rfl, #[], more, rfl, ?_⟩)
          rw [hm, Array.empty_append]
        · exact .inl (keep b o (fun p hp z => c ⟨p, hp, z⟩) e)
      · by_cases c : ∃ p ∈ cs, p.2 = b
        · obtain ⟨p, hp, rfl⟩ := c
          obtain ⟨more, hm⟩ := grow p hp
          exact ⟨_, hm⟩
        · exact ⟨o, keep b o (fun p hp z => c ⟨p, hp, z⟩) e⟩
end
theorem walk_ofGT {l : PySem.W.OpenLaw} {n k : Nat} {q : Program} {loose : List Str} {XP : (Str → Option Value) → Heap → Prop} {YP : World → Heap → Prop} {d : DefRec} {x : Str}
    (hn : l.most = some n) (hn2 : n ≤ sizeLine) (hdf : d.params.defaults = []) (hr : Room k callerA)
    (F : ∀ (w : World) (mg : Str → Option Value) (fa : Addr) (h : Heap), YP w h → h.Ns mainGlobals mg → mg d.name = some (.ref fa) →
      ∃ (K : PySem.W.Frag) (fd : FuncData) (sp : Sp) (cs : List (Addr × Addr)), K.In h ∧ (∀ p ∈ cs, h.get? p.2 = some { cls := .none, data := .fields #[] }) ∧ (∀ p ∈ cs, K.lookup p.2 = none) ∧ (∀ p ∈ cs, PySem.W.codeHdIn K p.1 p.2 = true) ∧ (∀ (s : Shared) (u : Value), BindsTo s fd ⟨[u], []⟩ [(x, u)]) ∧
        (∀ (H : Hp) (a : Addr) (ns : List Int), ns.length ≤ n → (∀ p ∈ cs, H p.2 = some (.tbl #[])) → Dv.FzL K H a (ns.map V.int) → sp [.ref a] H (fun v _ => v = .bl true) E0) ∧
        ∀ base : Heap, K.In base → base.Ns mainGlobals mg → (∀ p ∈ cs, LamX.TabB base mg p.1 p.2) → FnG l.prog w K mg base CX0 k fa fd [x] sp) :
    PySem.W.WalkO q loose XP YP l.row.toRowW d [] (fun f vs => PySem.call f vs) := by
  refine Att.attach_call hn hdf fun w s₀ s₁ mg mb fa o pm cd doc a vs ns G Y ho hd hcd hmg hobj hints hlen hg => ?_
  obtain ⟨K, fd, sp, cs, inK, c1, c2, c3, bd, hs, hF⟩ := F w mg fa _ Y G.T.g hmg
  exact lawGT inK G.T.g G.T.b G.T.builtins G.T.nolimit hg c1 c2 (fun p hp => PySem.W.codeHd_of_K inK (c3 p hp)) G.T.bmain hobj hints (Nat.le_trans hlen hn2) hr hF bd fun H ht hS => hs H a ns hlen ht hS
end DvL
set_option Elab.async false
set_option linter.all false
set_option maxRecDepth 100000
set_option maxHeartbeats 4000000
set_option Elab.async false
set_option linter.all false
set_option maxRecDepth 100000
set_option maxHeartbeats 4000000
namespace Dv
open PySem PySem.Spec PyProof.Rows L2 DvR DvF
def dctGo (vs : List Nat) (tg : DenG) (test : DenT) (fk fv : Den) (M : Own) : List W → Env → List (List Key) → List W → Option (List (List Key) × List W × Env)
  | [], δ, ks, ws => some (ks, ws, δ)
  | x :: xs, δ, ks, ws => (tg x δ).bind fun δ1 => (test M δ1).bind fun b =>
      if b.1 then (fk M b.2).bind fun k => (fv M k.2.2).bind fun v => k.1.tkey.bind fun y => if v.1.imm = true then dctGo vs tg test fk fv M xs (wipeE v.2.2 vs) (dtPut ks ws y v.1).1 (dtPut ks ws y v.1).2 else none
      else dctGo vs tg test fk fv M xs (wipeE b.2 vs) ks ws
def dDcT (vs : List Nat) (src : DenI) (tg : DenG) (test : DenT) (fk fv : Den) : Den := fun M δ => (src M δ).bind fun s =>
  if s.1.length ≤ LIM ∧ (vs.all fun v => !M v) = true then (dctGo vs tg test fk fv M s.1 (wipeE s.2 vs) [] []).map fun q => (.dt q.1 q.2.1, true, unwipe s.2 q.2.2 vs) else none
end Dv
set_option Elab.async false
set_option linter.all false
set_option maxRecDepth 100000
set_option maxHeartbeats 4000000
namespace Dv
open PySem PySem.Spec PyProof.Rows L2
section
variable {β α : Type}
def kDcT (i : Nat) (test : DenT) (fk fv : Den) (M : Own) (κ : KE β) : KI β := fun ws δ => gd (decide (ws.length ≤ LIM) && !M i) ((dctGo [i] (gNm i) test fk fv M ws (δ.set i none) [] []).bind fun q => κ (.dt q.1 q.2.1) true (q.2.2.set i (δ.getD i none)))
theorem E_dcT (i : Nat) (src : DenI) (test : DenT) (fk fv : Den) (M : Own) (δ : Dv.Env) (κ : KE β) : E (dDcT [i] src (gNm i) test fk fv) M δ κ = EI src M δ (kDcT i test fk fv M κ) := by
  unfold E dDcT EI kDcT gd
  cases src M δ with
  | none => rfl
  | some s =>
    show Option.bind (if s.1.length ≤ LIM ∧ ([i].all fun v => !M v) = true then _ else _) _ = _
    by_cases h : s.1.length ≤ LIM
    · cases hm : M i with
      | true => simp [h, hm]
      | false =>
        simp only [h, hm, List.all_cons, List.all_nil, Bool.and_true, Bool.not_false, true_and, if_true, decide_true, Option.bind_some]
        show Option.bind (Option.map _ (dctGo [i] (gNm i) test fk fv M s.1 (s.2.set i none) [] [])) _ = Option.bind (dctGo [i] (gNm i) test fk fv M s.1 (s.2.set i none) [] []) _
        cases dctGo [i] (gNm i) test fk fv M s.1 (s.2.set i none) [] [] <;> rfl
    · simp [h]
end
end Dv
set_option Elab.async false
set_option linter.all false
set_option maxRecDepth 100000
set_option maxHeartbeats 4000000
namespace Dv
open PySem PySem.Spec PyProof.Rows L2
theorem im_dt (ks : List (List Key)) (ws : List W) : (W.dt ks ws).imm = false := by unfold W.imm; rfl
abbrev tt : List Int → W := fun _ => .bl true
theorem nd_len {α : Type} [BEq α] [LawfulBEq α] : ∀ {l l' : List α}, l.Nodup → (∀ x ∈ l, x ∈ l') → l.length ≤ l'.length
  | [], _, _, _ => Nat.zero_le _
  | x :: l, l', nd, h => by
    obtain ⟨h1, h2⟩ := List.nodup_cons.mp nd
    have hx := h x (List.mem_cons_self ..)
    have := nd_len (l' := l'.erase x) h2 fun y hy => (List.mem_erase_of_ne (fun e => h1 (by rw [← e]; exact hy))).mpr (h y (List.mem_cons_of_mem _ hy))
    rw [List.length_erase_of_mem hx] at this
    have := List.length_pos_of_mem hx
    rw [List.length_cons]
    omega
end Dv
set_option Elab.async false
set_option linter.all false
set_option maxRecDepth 100000
set_option maxHeartbeats 4000000
namespace Dv
open PySem PySem.Spec PyProof.Rows L2 DvR DvF
end Dv
set_option Elab.async false
set_option linter.all false
set_option maxRecDepth 100000
set_option maxHeartbeats 4000000
namespace Dv
open PySem PySem.Spec PyProof.Rows L2 DvR DvF
variable {β : Type}
theorem vk2_nf (im : Bool) (w : W) (δ : Dv.Env) (κ : KE β) : vk2 im false w δ κ = κ w im δ := by cases im <;> rfl
end Dv
set_option Elab.async false
set_option linter.all false
set_option maxRecDepth 100000
set_option maxHeartbeats 4000000
namespace Dv
open PySem PySem.Spec PyProof.Rows L2 DvR DvF
end Dv
set_option Elab.async false
set_option linter.all false
set_option maxRecDepth 100000
set_option maxHeartbeats 4000000
namespace Dv
open PySem PySem.Spec PyProof.Rows L2 DvR DvF
section
variable {β : Type}
def mt1 (x : Option (Option W)) (c m : Str) (y : Option β) : Option β := match x with
  | some (some (.ins c' fs _)) => if c' = c ∧ fldIx fs m = none then y else none
  | _ => none
theorem mt1_s (c m : Str) (fs : List Str) (ws : List W) (y : Option β) : mt1 (some (some (.ins c fs ws))) c m y = gd (fldIx fs m).isNone y := by
  unfold mt1 gd
  cases h : fldIx fs m <;> simp [h]
theorem E_meth (c m : Str) (i : Nat) (F : FnM) (g : DenA) (M : Own) (δ : Dv.Env) (κ : KE β) : E (dMeth c m i F g) M δ κ = mt1 δ[i]? c m (E (dCallM i F g) M δ κ) := by
  unfold E dMeth mt1
  cases δ[i]? with
  | none => rfl
  | some x => cases x with
    | none => rfl
    | some w =>
      cases w with
      | ins c' fs ws =>
        show Option.bind (if c' = c ∧ fldIx fs m = none then _ else _) _ = if c' = c ∧ fldIx fs m = none then _ else _
        split <;> rfl
      | _ => rfl
def kMd1 (c m : Str) (F : FnD) (g : DenA) (M : Own) (κ : KE β) : KE β := fun w _ δ => match w with
  | .ins c' fs us => if c' = c ∧ fldIx fs m = none then EA g M δ (kCbA (fun ws => F (.ins c' fs us :: ws)) κ) else none
  | _ => none
theorem E_methd (c m : Str) (F : FnD) (f : Den) (g : DenA) (M : Own) (δ : Dv.Env) (κ : KE β) : E (dMethD c m F f g) M δ κ = E f M δ (kMd1 c m F g M κ) := by
  unfold E dMethD kMd1 EA kCbA O
  cases f M δ with
  | none => rfl
  | some r =>
    obtain ⟨w, fr, δ1⟩ := r
    cases w with
    | ins c' fs ws =>
      show Option.bind (if c' = c ∧ fldIx fs m = none then _ else _) _ = if c' = c ∧ fldIx fs m = none then _ else _
      split
      · show Option.bind (Option.bind (g M δ1) _) _ = Option.bind (g M δ1) _
        cases g M δ1 with
        | none => rfl
        | some r2 =>
          show Option.bind (Option.map _ (F _)) _ = Option.bind (F _) _
          cases F (.ins c' fs ws :: r2.1) <;> rfl
      · rfl
    | _ => rfl
theorem kMd1_ap (c m : Str) (F : FnD) (g : DenA) (M : Own) (κ : KE β) (fs : List Str) (us : List W) (fr : Bool) (δ : Dv.Env) : kMd1 c m F g M κ (.ins c fs us) fr δ = gd (fldIx fs m).isNone (EA g M δ (kCbA (fun ws => F (.ins c fs us :: ws)) κ)) := by
  unfold kMd1 gd
  cases h : fldIx fs m <;> simp [h]
def nw3 (x : Option (W × Bool × W)) (δ : Dv.Env) (κ : KE β) : Option β := x.bind fun q => match q.1 with | .non => κ q.2.2 true δ | _ => none
theorem nw3_s (fr : Bool) (w : W) (δ : Dv.Env) (κ : KE β) : nw3 (some (.non, fr, w)) δ κ = κ w true δ := rfl
def kNw (c : Str) (F : FnM) (κ : KE β) : KA β := fun ws _ δ => nw3 (F (.ins c [] []) ws) δ κ
theorem E_new (c : Str) (F : FnM) (g : DenA) (M : Own) (δ : Dv.Env) (κ : KE β) : E (dNew c F g) M δ κ = EA g M δ (kNw c F κ) := by
  unfold E dNew EA kNw nw3
  cases g M δ with
  | none => rfl
  | some r =>
    show Option.bind (Option.bind (F _ r.1) _) _ = Option.bind (F _ r.1) _
    cases F (.ins c [] []) r.1 with
    | none => rfl
    | some q =>
      obtain ⟨w, fr, w'⟩ := q
      cases w <;> rfl
theorem kNw_ap (c : Str) (F : FnM) (κ : KE β) (ws : List W) (fr : Bool) (δ : Dv.Env) : kNw c F κ ws fr δ = nw3 (F (.ins c [] []) ws) δ κ := rfl
def pf3 (x : Option (Option W)) (c f : Str) (st : List Stp) (δ : Dv.Env) (κ : KP β) : Option β := match x with
  | some (some w0) => match w0.at st with
    | some (.ins c' fs _) => if c' = c then (fldIx fs f).bind fun _ => κ (st ++ [.fld f]) δ else none
    | _ => none
  | _ => none
def kPf (i : Nat) (c f : Str) (κ : KP β) : KP β := fun st δ => pf3 δ[i]? c f st δ κ
theorem EP_fld (i : Nat) (c f : Str) (π : DenP) (M : Own) (δ : Dv.Env) (κ : KP β) : EP (pFld i c f π) M δ κ = EP π M δ (kPf i c f κ) := by
  unfold EP pFld kPf pf3
  cases π M δ with
  | none => rfl
  | some p =>
    show Option.bind (match p.2[i]? with | some (some w0) => _ | _ => none) _ = (match p.2[i]? with | some (some w0) => _ | _ => none)
    cases p.2[i]? with
    | none => rfl
    | some x => cases x with
      | none => rfl
      | some w0 =>
        show Option.bind (match w0.at p.1 with | some (.ins c' fs _) => _ | _ => none) _ = (match w0.at p.1 with | some (.ins c' fs _) => _ | _ => none)
        cases w0.at p.1 with
        | none => rfl
        | some w =>
          cases w with
          | ins c' fs ws =>
            show Option.bind (if c' = c then _ else _) _ = if c' = c then _ else _
            split
            · show Option.bind (Option.map _ (fldIx fs f)) _ = Option.bind (fldIx fs f) _
              cases fldIx fs f <;> rfl
            · rfl
          | _ => rfl
theorem kPf_ap (i : Nat) (c f : Str) (κ : KP β) (st : List Stp) (δ : Dv.Env) : kPf i c f κ st δ = pf3 δ[i]? c f st δ κ := rfl
theorem pf3_s (c f : Str) (fs : List Str) (ws : List W) (δ : Dv.Env) (κ : KP β) : pf3 (some (some (.ins c fs ws))) c f [] δ κ = gd (fldIx fs f).isSome (κ [.fld f] δ) := by
  unfold pf3 gd
  simp only [at_nil, if_true]
  cases fldIx fs f <;> rfl
end
theorem fld_get (c f : Str) (fs : List Str) (ws : List W) : kFld c f (.ins c fs ws) = (fldIx fs f).bind fun n => (ws[n]?).map fun w => (w, w.imm) := by
  show (if c = c then _ else _) = _
  rw [if_pos rfl]
theorem fld_put (c f : Str) (fs : List Str) (ws : List W) (y : W) : opFld c f (.ins c fs ws) [.str f, y] = if fs.length < 900 then some (fldPut c fs ws f y, .non) else none := by
  show (if c = c ∧ f = f ∧ fs.length < 900 then _ else _) = _
  by_cases h : fs.length < 900
  · rw [if_pos ⟨rfl, rfl, h⟩, if_pos h]
  · rw [if_neg (fun z => h z.2.2), if_neg h]
theorem fput_s {c f : Str} {fs : List Str} {n : Nat} (h : fldIx fs f = some n) (ws : List W) (y : W) : fldPut c fs ws f y = .ins c fs (ws.set n y) := by
  unfold fldPut
  rw [h]
theorem at_fld {c f : Str} {fs : List Str} {n : Nat} (h : fldIx fs f = some n) (ws : List W) : (W.ins c fs ws).at [.fld f] = ws[n]? := by
  unfold W.at W.step
  simp only [h]
  show Option.bind (Option.bind (some n) fun n => ws[n]?) _ = _
  rw [Option.bind_some]
  cases ws[n]? with
  | none => rfl
  | some w => show W.at w [] = _; rw [at_nil]
theorem put_fld {c f : Str} {fs : List Str} {n : Nat} (h : fldIx fs f = some n) (ws : List W) {w : W} (hw : ws[n]? = some w) (y : W) : (W.ins c fs ws).put [.fld f] y = .ins c fs (ws.set n y) := by
  have e : (W.ins c fs ws).step (.fld f) = some w := by
    unfold W.step
    simp only [h]
    exact hw
  unfold W.put
  simp only [e]
  unfold W.stepPut
  simp only [h, put_nil]
theorem im_ins (c : Str) (fs : List Str) (ws : List W) : (W.ins c fs ws).imm = false := by unfold W.imm; rfl
end Dv
set_option Elab.async false
set_option linter.all false
set_option maxRecDepth 100000
set_option maxHeartbeats 4000000
namespace Dv
open PySem PySem.Spec PyProof.Rows L2 DvR DvF
def downW (lo : Int) (n : Nat) : List W := (List.range n).map fun i => W.int (lo - (i : Nat))
section
variable {K : PySem.W.Frag}
theorem walks_down {Gj : Hp} {lo : Int} {n : Nat} : Walks K Gj (Itc lo (-1) n) (downW lo n) := fun {M G H φ σ δ} s x i => by
  have ln : (downW lo n).length = n := by unfold downW; rw [List.length_map, List.length_range]
  refine ⟨fun hi => by rw [ln] at hi; exact hi, fun w e => ?_⟩
  have hi : i < n := by
    have := (List.getElem?_eq_some_iff.mp e).1
    rw [ln] at this
    exact this
  refine ⟨hi, fun y H' q => ?_⟩
  obtain ⟨rfl, rfl⟩ := q
  unfold downW at e
  rw [List.getElem?_map, List.getElem?_range hi] at e
  cases e
  have ei : lo + (i : Int) * -1 = lo - (i : Nat) := by omega
  rw [ei]
  exact ⟨G, [], s, Evo.refl, rp_int⟩
def iR3 (g : DenA) : DenI := fun M δ => (g M δ).bind fun r => match r.1 with
  | [.int i, .int j, .int c] => if (cRng i j && decide (c = -1)) = true then some (downW i (i - j).toNat, r.2.2) else none
  | _ => none
theorem rps_three {G : Hp} {a b c : W} {vs : List V} {A : List Addr} (q : Rps K G [a, b, c] vs A) : ∃ x y z B C D, vs = [x, y, z] ∧ Rp K G a x B ∧ Rp K G b y C ∧ Rp K G c z D := by
  unfold Rps at q
  obtain ⟨v, vr, B, C, rfl, rfl, h1, h2⟩ := q
  obtain ⟨y, z, B2, C2, rfl, h3, h4⟩ := rps_two h2
  exact ⟨v, y, z, _, _, _, rfl, h1, h3, h4⟩
theorem sir_r3 {t : TA} {g : DenA} (ha : Sa K t g) : SiR K (iRng3 t) (iR3 g) := by
  refine ⟨fun {M δ r} e => ?_, fun {M G H φ σ δ r} s e R P => ?_⟩
  · unfold iR3 at e
    obtain ⟨r1, h1, e⟩ := Option.bind_eq_some_iff.mp e
    have o1 := ha.off h1
    split at e
    · split at e
      · cases e; exact o1
      · cases e
    · cases e
  · unfold iR3 at e
    obtain ⟨⟨ws, fr, δ1⟩, h1, e⟩ := Option.bind_eq_some_iff.mp e
    refine ha.run s h1 _ fun vs G1 H1 φ1 A1 s1 e1 q1 _ => ?_
    split at e
    · rename_i i j c ew
      have ew' : ws = [.int i, .int j, .int c] := ew
      subst ew'
      split at e
      · rename_i hc
        cases e
        obtain ⟨hc1, hc2⟩ := Bool.and_eq_true_iff.mp hc
        obtain rfl := of_decide_eq_true hc2
        obtain ⟨x, y, z, B, C, D, rfl, h, h', h''⟩ := rps_three q1
        unfold Rp at h h' h''
        obtain ⟨c1, c2, c3, c4⟩ := cRng_ok hc1
        exact ⟨i, j, -1, (i - j).toNat, by rw [h.1, h'.1, h''.1], RgC.neg c1 c2 c3 c4, P _ G1 H1 φ1 s1 e1 fun _ => walks_down⟩
      · cases e
    · cases e
end
section
variable {β : Type}
def kRg3 (κ : KI β) : KA β := fun ws _ δ => match ws with | [.int m, .int n, .int c] => gd (cRng m n && decide (c = -1)) (κ (downW m (m - n).toNat) δ) | _ => none
theorem kRg3_ap (κ : KI β) (m n c : Int) (fr : Bool) (δ : Dv.Env) : kRg3 κ [.int m, .int n, .int c] fr δ = gd (cRng m n && decide (c = -1)) (κ (downW m (m - n).toNat) δ) := rfl
theorem EI_r3 (g : DenA) (M : Own) (δ : Dv.Env) (κ : KI β) : EI (iR3 g) M δ κ = EA g M δ (kRg3 κ) := by
  unfold EI iR3 EA kRg3 gd
  cases g M δ with
  | none => rfl
  | some r =>
    obtain ⟨ws, fr, δ'⟩ := r
    show Option.bind (match ws with | [.int m, .int n, .int c] => if (cRng m n && decide (c = -1)) = true then some (downW m (m - n).toNat, δ') else none | _ => none) _ = (match ws with | [.int m, .int n, .int c] => _ | _ => none)
    split
    · rename_i m n c
      simp only
      split <;> rfl
    · rfl
end
end Dv
set_option Elab.async false
set_option linter.all false
set_option maxRecDepth 100000
set_option maxHeartbeats 4000000
namespace DvR
open PySem PySem.Spec PyProof.Rows L2
section
variable {prog : Program} {w : World} {A : Around} {E : Value → Shared → Prop} {s : Shared}
theorem adjust_rev (n : Nat) : Builtin.Slice.sliceAdjust none none (-1) (n : Int) = ((n : Int) - 1, -1) := by
  unfold Builtin.Slice.sliceAdjust
  simp
theorem places_rev (n : Nat) : Builtin.Slice.slicePlaces ((n : Int) - 1) (-1) (-1) = n := by
  unfold Builtin.Slice.slicePlaces
  simp
  omega
theorem sliceApplied_rev {sl : Addr} {vs : Value} {n : Nat} {Q : Int × Int × Nat → Shared → Prop} (hs : s.heap.IsSliceOf sl .none .none vs) (ps : IsPart vs (some (-1)))
    (h : Q ((n : Int) - 1, -1, n) s) : wpAny (model prog w) A (Builtin.Slice.sliceApplied (.ref sl) (pure (n : Int))) Q E s := by
  obtain ⟨os, hos, hcs, hds⟩ := id hs
  unfold Builtin.Slice.sliceApplied Builtin.Slice.sliceFields
  refine wpAny_bind (wpAny_bind (wpAny_field hos hds (x := .none) rfl (wpAny_bind (wpAny_field hos hds (x := .none) rfl (wpAny_bind (wpAny_field hos hds (x := vs) rfl (wpAny_pure ?_)))))))
  refine wpAny_bind (HT.slicePart_ ps ?_)
  show wpAny _ _ (if ((-1 : Int) == 0) = true then _ else _) _ _ s
  rw [if_neg (by decide)]
  refine wpAny_bind (slicePart_none (wpAny_bind (slicePart_none (wpAny_bind (wpAny_pure ?_)))))
  show wpAny _ _ (match Builtin.Slice.sliceAdjust none none (-1) (n : Int) with | (lo, hi) => pure (lo, (-1 : Int), Builtin.Slice.slicePlaces lo hi (-1))) _ _ s
  rw [adjust_rev n]
  show wpAny _ _ (pure ((n : Int) - 1, (-1 : Int), Builtin.Slice.slicePlaces ((n : Int) - 1) (-1) (-1))) _ _ s
  rw [places_rev]
  exact wpAny_pure h
theorem fm_map {α γ : Type} {f : α → Option γ} {g : α → γ} : ∀ l : List α, (∀ m ∈ l, f m = some (g m)) → l.filterMap f = l.map g
  | [], _ => rfl
  | x :: l, h => by
    rw [List.filterMap_cons, h x (List.mem_cons_self ..), List.map_cons, fm_map l fun m hm => h m (List.mem_cons_of_mem _ hm)]
theorem pick_rev (xs : Array Value) : ((List.range xs.size).filterMap fun (m : Nat) => xs[(((xs.size : Nat) : Int) - 1 + (m : Int) * (-1)).toNat]?) = xs.toList.reverse := by
  have e : (fun (m : Nat) => xs[(((xs.size : Nat) : Int) - 1 + (m : Int) * (-1)).toNat]?) = fun m => if xs.size = 0 then xs[0]? else xs[xs.size - 1 - m]? := by
    funext m
    by_cases h : xs.size = 0
    · rw [if_pos h]
      congr 1
      omega
    · rw [if_neg h]
      congr 1
      omega
  rw [e]
  by_cases h : xs.size = 0
  · rw [h]
    have : xs.toList = [] := by
      rw [← List.length_eq_zero_iff, Array.length_toList]; exact h
    rw [this]; rfl
  · refine List.ext_getElem? fun i => ?_
    simp only [if_neg h]
    have e2 : ((List.range xs.size).filterMap fun m => xs[xs.size - 1 - m]?) = (List.range xs.size).map fun m => (xs[xs.size - 1 - m]?).getD .none := by
      refine fm_map _ fun m hm => ?_
      have lt := List.mem_range.mp hm
      rw [Array.getElem?_eq_getElem (by omega)]
      rfl
    rw [e2, List.getElem?_map]
    by_cases hi : i < xs.size
    · rw [List.getElem?_range hi, List.getElem?_reverse (by rw [Array.length_toList]; exact hi), Array.length_toList, Array.getElem?_toList]
      show some ((xs[xs.size - 1 - i]?).getD .none) = _
      rw [Array.getElem?_eq_getElem (by omega)]; rfl
    · rw [List.getElem?_eq_none (by rw [List.length_range]; omega), List.getElem?_eq_none (by rw [List.length_reverse, Array.length_toList]; omega)]; rfl
theorem getItem_tuple_rev {t sl : Addr} {items : Array Value} {vs : Value} {Q : Value → Shared → Prop} (ht : IsTup s.heap t items) (hs : s.heap.IsSliceOf sl .none .none vs) (ps : IsPart vs (some (-1)))
    (h : Q (.ref s.heap.objs.size) { s with heap := s.heap.push { cls := .type "tuple", data := .seq items.toList.reverse.toArray } })
    (hsz : items.size ≤ sizeLine) : wpAny (model prog w) A (getItem (.ref t) (.ref sl)) Q E s := by
  have htake : sizeOk (.seq items.toList.reverse.toArray) := by
    show items.toList.reverse.toArray.size ≤ sizeLine
    rw [List.size_toArray, List.length_reverse, Array.length_toList]
    omega
  obtain ⟨os, hos, hcs, hds⟩ := id hs
  have hTs : s.TypeIs (.ref sl) "slice" := ⟨os, hos, hcs⟩
  unfold getItem
  try with_reducible refine wpAny_holding ?_
  first | refine wpAny_bind (wpAny_pure ?_) | skip
  refine wpAny_bind (wpAny_sequenceKey ht.typeIs (by decide) ?_)
  refine wpAny_bind (wpAny_callSpecial?_slot (name := Str.ofString "__getitem__") ht.typeIs PyProof.Rows.slot_tuple_getitem
    (wpAny_call_entry PyProof.Rows.slot_tuple_getitem ht.typeIs PyProof.Rows.entry_tuple_getitem ?_ (args_tuple_getitem _ _)))
  show wpAny _ _ (Builtin.Tuple.tupleItemsOf (.ref t) >>= _) _ _ s
  refine wpAny_bind (tupleItemsOf_ ht ?_)
  refine wpAny_bind (wpAny_typeOf hTs ?_)
  rw [if_pos (by decide)]
  refine wpAny_bind (sliceApplied_rev hs ps ?_)
  have hno : ¬ (((((items.size : Nat) : Int) - 1) == 0 && (-1 : Int) == 1 && items.size == items.size) = true) := by
    intro q
    rw [Bool.and_eq_true, Bool.and_eq_true] at q
    exact absurd q.1.2 (by decide)
  show wpAny _ _ (if ((((items.size : Nat) : Int) - 1) == 0 && (-1 : Int) == 1 && items.size == items.size) = true then _ else _) _ _ s
  rw [if_neg hno, pick_rev]
  first
    | exact wpAny_bind (m := Builtin.Tuple.tupleExact _) (wpAny_newObj_type (wpAny_pure ⟨_, rfl, wpAny_pure h⟩) htake)
    | exact wpAny_bind (m := Builtin.Tuple.tupleExact _) (wpAny_newObj_type (wpAny_bind (wpAny_pure (wpAny_pure ⟨_, rfl, wpAny_pure h⟩))) htake)
    | exact wpAny_bind (wpAny_bind (m := Builtin.Tuple.tupleExact _) (wpAny_newObj_type (wpAny_pure (wpAny_pure ⟨_, rfl, wpAny_pure h⟩)) htake))
    | exact wpAny_bind (wpAny_bind (m := Builtin.Tuple.tupleExact _) (wpAny_newObj_type (wpAny_pure ⟨_, rfl, wpAny_pure h⟩) htake))
/-- x[::-1] of a list or a tuple -/
def tRevB (K : PySem.W.Frag) (te : TE) : TE := fun σ H Q => te σ H fun x H1 => ∃ a xs, x = .ref a ∧ ((SqL K H1 a xs ∧ ∀ p, H1 p = none → Q (.ref p) (upd H1 p (.lst xs.reverse))) ∨ (SqT K H1 a xs ∧ ∀ p, H1 p = none → Q (.ref p) (upd H1 p (.tup xs.reverse))))
theorem pe_revB {X : Cx} {e : Expr} {te : TE} {k : Nat} {p1 p2 p3 pos : Pos} (he : PE X e te) : PE X (.Subscript e (.Slice none none (some (.UnaryOp .USub (.Constant (.int 1) k p1) p2)) p3) pos) (tRevB X.K te) := by
  refine ⟨fun pins s σ H Q I h => ?_⟩
  refine Subscript_ (thn (he.run pins s σ H _ I h) fun v s1 ⟨x, H1, I1, r1, q1⟩ => ?_)
  obtain ⟨a, xs, ex, hq⟩ := q1
  subst ex
  cases r1
  have hst : PO X (some (.UnaryOp .USub (.Constant (.int 1) k p1) p2)) (tPart (tUn (rU fun i => .int (-i)) (tC (.int 1)))) := po_some (pe_un un_neg pe_int)
  refine wpAny_Slice (thn (po_none.run pins s1 σ H1 (fun o H2 => o = none ∧ H2 = H1) I1 ⟨rfl, rfl⟩) fun vl s2 ⟨l, H2, I2, pl, el, e2⟩ => ?_)
  subst el e2
  refine thn (po_none.run pins s2 σ H2 (fun o H3 => o = none ∧ H3 = H2) I2 ⟨rfl, rfl⟩) fun vu s3 ⟨u, H3, I3, pu, eu, e3⟩ => ?_
  subst eu e3
  refine thn (hst.run pins s3 σ H3 (fun o H4 => o = some (-1) ∧ H4 = H3) I3 ⟨1, rfl, -1, rfl, rfl, rfl⟩) fun vs s4 ⟨o, H4, I4, ps, eo, e4⟩ => ?_
  subst eo e4
  have I5 : Inv X pins σ H4 { s4 with heap := s4.heap.push { cls := .type "slice", data := .fields #[vl, vu, vs] } } := I4.kept (t' := s4.toks) fun b ob q => Heap.get?_push_of_some _ q
  show wpAny (model X.prog X.w) X.A (subscriptTail e (.Slice none none (some (.UnaryOp .USub (.Constant (.int 1) k p1) p2)) p3) (.ref a) (.ref s4.heap.objs.size)) (EP X pins σ Q) X.xe { s4 with heap := s4.heap.push { cls := .type "slice", data := .fields #[vl, vu, vs] } }
  rcases hq with ⟨hx, q⟩ | ⟨hx, q⟩
  · obtain ⟨its, r, ht, hz⟩ := I5.list hx
    have hlen := r.length
    refine tail_any (ops := [.ref a, .ref s4.heap.objs.size]) ht.isList.typeIs (PySem.slot_list_getitem.lookup) ?_ (by with_unfolding_all rfl)
    refine wpAny_getItem_list_slice ht.isList (Heap.IsSliceOf.new _ vl vu vs) pl pu ps (by decide) ?_ (by rw [List.size_toArray]; omega)
    rw [PySem.W.krv_pick]
    refine ⟨.ref _, _, I5.laid (t' := s4.toks) (o := .lst xs.reverse) (fun b ob q => Heap.get?_push_of_some _ q) (Nat.le_refl _) ?_, rfl, q _ (I5.hok.fresh (Nat.le_refl _))⟩
    exact ⟨by rw [List.length_reverse]; exact hz, _, 0, r.reverse, Heap.get?_push_size _ rfl⟩
  · obtain ⟨its, r, ht, hz⟩ := I5.tuple hx
    have hlen := r.length
    cases pl
    cases pu
    refine tail_any (ops := [.ref a, .ref s4.heap.objs.size]) ht.typeIs (PyProof.Rows.slot_tuple_getitem.lookup) ?_ (by with_unfolding_all rfl)
    refine getItem_tuple_rev ht (Heap.IsSliceOf.new _ .none .none vs) ps ?_ (by rw [List.size_toArray]; omega)
    refine ⟨.ref _, _, I5.laid (t' := s4.toks) (o := .tup xs.reverse) (fun b ob q => Heap.get?_push_of_some _ q) (Nat.le_refl _) ?_, rfl, q _ (I5.hok.fresh (Nat.le_refl _))⟩
    exact ⟨by rw [List.length_reverse]; exact hz, _, r.reverse, IsTup.new _ _⟩
end
end DvR
namespace Dv
open PySem PySem.Spec PyProof.Rows L2 DvR DvF
def dRevB (f : Den) : Den := fun M δ => (f M δ).bind fun r => match r.1 with
  | .lst ws => if ws.length ≤ LIM then some (.lst ws.reverse, W.imms ws, r.2.2) else none
  | .fl ws => if ws.length ≤ LIM then some (.lst ws.reverse, W.imms ws, r.2.2) else none
  | .tup ws => if ws.length ≤ LIM then some (.tup ws.reverse, W.imms ws, r.2.2) else none
  | _ => none
section
variable {K : PySem.W.Frag}
theorem sd_revB {t : TE} {f : Den} (h : Sd K t f) : Sd K (tRevB K t) (dRevB f) := by
  have core : ∀ {M G H φ σ δ' ws vs a A} {Q : VK}, Sta K M G H φ σ δ' → SqL K H a vs → Rps K G ws vs A → (∀ v G' H' φ' A, Sta K M G' H' φ' σ δ' → Evo M G H φ M G' H' φ' → Rp K G' (.lst ws.reverse) v A → (W.imms ws = true → Fresh G G' A) → Q v H') →
      ∃ a' xs, V.ref a = .ref a' ∧ ((SqL K H a' xs ∧ ∀ p, H p = none → Q (.ref p) (upd H p (.lst xs.reverse))) ∨ (SqT K H a' xs ∧ ∀ p, H p = none → Q (.ref p) (upd H p (.tup xs.reverse)))) := fun {M G H φ σ δ' ws vs a A Q} s hq r P => by
    refine ⟨a, vs, rfl, .inl ⟨hq, fun p hp => ?_⟩⟩
    obtain ⟨B, rb⟩ := r.rev
    have gp := s.sub.back hp
    refine P (.ref p) _ _ φ (p :: B) (s.laid hp) (Evo.laid s.sub hp) ?_ fun im => ?_
    · unfold Rp
      exact ⟨p, vs.reverse, B, rfl, upd_same, rfl, rb.mono (Ex.new gp)⟩
    · have : B = [] := Rps.imm _ _ _ (imms_rev im) rb
      subst this
      refine ⟨by simp, fun b hb => ?_⟩
      obtain rfl : b = p := by simpa using hb
      exact ⟨gp, by rw [upd_same]; trivial⟩
  refine ⟨fun {M δ r} e => ?_, fun {M G H φ σ δ r} s e Q P => ?_⟩
  · unfold dRevB at e
    obtain ⟨r1, h1, e⟩ := Option.bind_eq_some_iff.mp e
    have o1 := h.off h1
    split at e
    · split at e
      · cases e; exact o1
      · cases e
    · split at e
      · cases e; exact o1
      · cases e
    · split at e
      · cases e; exact o1
      · cases e
    · cases e
  · unfold dRevB at e
    obtain ⟨r1, h1, e⟩ := Option.bind_eq_some_iff.mp e
    refine h.run s h1 _ fun v G1 H1 φ1 A1 s1 e1 q1 _ => ?_
    split at e
    · rename_i ws ew
      split at e
      · cases e
        rw [ew] at q1
        unfold Rp at q1
        obtain ⟨a, vs, B, rfl, ha, _, rs⟩ := q1
        exact core s1 (SqL.of (s1.sub _ _ ha)) rs fun v G' H' φ' A s' e' r' f' => P v G' H' φ' A s' (e1.trans e') r' fun q => (f' q).back e1.ex
      · cases e
    · rename_i ws ew
      split at e
      · cases e
        rw [ew] at q1
        unfold Rp at q1
        obtain ⟨a, vs, rfl, ha, rs⟩ := q1
        exact core s1 ((TupK.ex s1.sub).2 _ _ ha).sq rs fun v G' H' φ' A s' e' r' f' => P v G' H' φ' A s' (e1.trans e') r' fun q => (f' q).back e1.ex
      · cases e
    · rename_i ws ew
      split at e
      · cases e
        rw [ew] at q1
        unfold Rp at q1
        obtain ⟨a, vs, rfl, ha, rs⟩ := q1
        refine ⟨a, vs, rfl, .inr ⟨SqT.of (s1.sub _ _ ha), fun p hp => ?_⟩⟩
        obtain ⟨B, rb⟩ := rs.rev
        have gp := s1.sub.back hp
        refine P (.ref p) _ _ φ1 B (s1.laid hp) (e1.trans (Evo.laid s1.sub hp)) ?_ fun im => ?_
        · unfold Rp
          exact ⟨p, vs.reverse, rfl, upd_same, rb.mono (Ex.new gp)⟩
        · have : B = [] := Rps.imm _ _ _ (imms_rev im) rb
          subst this
          exact Fresh.nil
      · cases e
    · cases e
end
section
variable {β : Type}
def kRvB (κ : KE β) : KE β := fun w _ δ => match w with
  | .lst ws => gd (decide (ws.length ≤ LIM)) (κ (.lst ws.reverse) (W.imms ws) δ)
  | .fl ws => gd (decide (ws.length ≤ LIM)) (κ (.lst ws.reverse) (W.imms ws) δ)
  | .tup ws => gd (decide (ws.length ≤ LIM)) (κ (.tup ws.reverse) (W.imms ws) δ)
  | _ => none
theorem E_revB (f : Den) (M : Own) (δ : Dv.Env) (κ : KE β) : E (dRevB f) M δ κ = E f M δ (kRvB κ) := by
  unfold E dRevB kRvB gd
  cases f M δ with
  | none => rfl
  | some r =>
    obtain ⟨w, fr, δ1⟩ := r
    cases w with
    | lst ws => by_cases h : ws.length ≤ LIM <;> simp [h]
    | fl ws => by_cases h : ws.length ≤ LIM <;> simp [h]
    | tup ws => by_cases h : ws.length ≤ LIM <;> simp [h]
    | _ => rfl
theorem kRvB_lst (κ : KE β) (ws : List W) (fr : Bool) (δ : Dv.Env) : kRvB κ (.lst ws) fr δ = gd (decide (ws.length ≤ LIM)) (κ (.lst ws.reverse) (W.imms ws) δ) := rfl
theorem kRvB_fl (κ : KE β) (ws : List W) (fr : Bool) (δ : Dv.Env) : kRvB κ (.fl ws) fr δ = gd (decide (ws.length ≤ LIM)) (κ (.lst ws.reverse) (W.imms ws) δ) := rfl
theorem kRvB_tup (κ : KE β) (ws : List W) (fr : Bool) (δ : Dv.Env) : kRvB κ (.tup ws) fr δ = gd (decide (ws.length ≤ LIM)) (κ (.tup ws.reverse) (W.imms ws) δ) := rfl
end
end Dv
set_option Elab.async false
set_option linter.all false
set_option maxRecDepth 100000
set_option maxHeartbeats 4000000
namespace Dv
open PySem PySem.Spec PyProof.Rows L2 DvR DvF
end Dv
set_option Elab.async false
set_option linter.all false
set_option maxRecDepth 100000
set_option maxHeartbeats 4000000
namespace RN
open PySem PySem.Spec PyProof.Rows L2 RZ
theorem drawsT {prog : Program} {w : World} {A : Around} (hh : A.handled = none) (it t : Addr) (hne : t ≠ it) (items : Array Value) :
    Draws prog w A it [it, t] items.size (fun i v => items[i]? = some v) (fun i h => h.IsTupleIter it t i ∧ h.IsTuple t items) where
  live := fun _ _ st => let ⟨o, ho, _⟩ := st.1; ⟨o, ho⟩
  frame := fun _ _ _ st hk => ⟨st.1.at fun o e => hk it (by simp) o e, st.2.at fun o e => hk t (by simp) o e⟩
  item := fun i s Q E hi st hQ => by
    refine nextOf_tuple_item st.1 st.2 (x := items[i]) (by simp [hi]) fun h' hit' hs' => ?_
    exact hQ _ h' s.toks (by simp [hi]) ⟨hit', st.2.extBut hs'.extBut hne⟩ hs'
  done := fun s Q E st hE => nextOf_tuple_end hh st.1 st.2 (by simp) fun h' e h1 h2 => hE h' e h1 h2
theorem meets_enumerate_newT (t : Addr) (items : Array Value) :
    Meets (Builtin.«enumerate.__new__» ⟨[.type "enumerate", .ref t], []⟩) (fun _ R s => s.heap.IsTuple t items ∧
      R (.ok (.ret (.ref (s.heap.push { cls := .type "tuple_iterator", data := .fields #[.ref t, .int 0 0] }).objs.size))) { s with heap := (s.heap.push { cls := .type "tuple_iterator", data := .fields #[.ref t, .int 0 0] }).push { cls := .type "enumerate", data := .fields #[.none, .bool false, .ref s.heap.objs.size, rawInt 0, .none, .none] } }) :=
  .of_wp fun prog w A R s h => by
    obtain ⟨hp, g, d, tk, os⟩ := s; obtain ⟨h1, h⟩ := h
    have hsub := sub_enumerate
    have h1' : Heap.IsTuple (Shared.heap ⟨hp, g, d, tk, os⟩) t items := h1
    wp_walk using wpAny_pyIter_tuple h1'
    refine wpAny_stack_any fun st => wpAny_pure ?_
    split
    · rename_i c _ _ _ _ _
      cases (c == Value.type "enumerate")
      · wp_walk using wpAny_pyIter_tuple h1'
        exact ⟨_, rfl, h⟩
      · wp_walk using wpAny_pyIter_tuple h1'
        exact ⟨_, rfl, h⟩
    · wp_walk using wpAny_pyIter_tuple h1'
      exact ⟨_, rfl, h⟩
section
variable {prog : Program} {w : World} {A : Around} {E : Value → Shared → Prop} {s : Shared}
theorem endT {e it t : Addr} {i : Nat} {items : Array Value} {old : Value} {Q : Option Value → Shared → Prop} (hh : A.handled = none)
    (he : IsEnum s.heap e it i old) (hit : s.heap.IsTupleIter it t i) (hl : s.heap.IsTuple t items) (hx : items[i]? = none)
    (hQ : ∀ h', Heap.ExtBut it s.heap h' → Q none { s with heap := h' }) : wpAny (model prog w) A (pyNext (.ref e)) Q E s := by
  have hT : s.TypeIs (.ref e) "enumerate" := ⟨_, he, rfl⟩
  unfold pyNext
  refine wpAny_bind (wpAny_attempt (wpAny_callSpecial?_slot (name := Str.ofString "__next__") hT F.slot_enumerate_next
    (wpAny_call_entry F.slot_enumerate_next hT F.entry_enumerate_next ?_ (F.args_enumerate_next_1 _))))
  show wpAny _ _ (field (.ref e) 2 >>= _) _ _ _
  refine wpAny_bind (wpAny_field he rfl (x := .ref it) rfl ?_)
  refine wpAny_bind (nextOf_tuple_end hh hit hl hx fun h' x he' hx' => ?_)
  obtain ⟨o, ho, hc⟩ := hx'
  refine wpAny_bind (wpAny_isInstance (T := "StopIteration") (b := true) ⟨o, ho, hc⟩ isSubtype_stop ?_)
  exact wpAny_pure (hQ _ he')
theorem call_enumT {t : Addr} {items : Array Value} {Q : Value → Shared → Prop} (hL : s.heap.IsTuple t items)
    (h : ∀ h', IsEnum h' (s.heap.objs.size + 1) s.heap.objs.size 0 .none → h'.IsTupleIter s.heap.objs.size t 0 → h'.objs.size = s.heap.objs.size + 2 →
      (∀ b o, s.heap.get? b = some o → h'.get? b = some o) → Q (.ref (s.heap.objs.size + 1)) { s with heap := h' }) :
    wpAny (model prog w) A (call (.type "enumerate") [.ref t]) Q E s := by
  refine callType_new F.called_enumerate (by decide) (F.typeCall_enumerate_1 _) (F.newCall_enumerate_1 _) (fun obj => F.args_object_init_2 obj _) F.entry_enumerate_new
    (meets_enumerate_newT t items) ⟨hL, ?_⟩
  have hz : (s.heap.push { cls := .type "tuple_iterator", data := .fields #[.ref t, .int 0 0] }).objs.size = s.heap.objs.size + 1 := Heap.size_push ..
  show _ ∧ _
  rw [hz]
  have he : IsEnum ((s.heap.push { cls := .type "tuple_iterator", data := .fields #[.ref t, .int 0 0] }).push
      { cls := .type "enumerate", data := .fields #[.none, .bool false, .ref s.heap.objs.size, rawInt 0, .none, .none] }) (s.heap.objs.size + 1) s.heap.objs.size 0 .none := by
    have := Heap.get?_push_size (s.heap.push { cls := .type "tuple_iterator", data := .fields #[.ref t, .int 0 0] })
      (o := { cls := .type "enumerate", data := .fields #[.none, .bool false, .ref s.heap.objs.size, rawInt 0, .none, .none] }) rfl
    rw [hz] at this; exact this
  exact ⟨⟨_, he, rfl⟩, h _ he ⟨_, Heap.get?_push_of_some _ (Heap.get?_push_size _ rfl), rfl, rfl⟩ (by rw [Heap.size_push, hz]) fun b o x => Heap.get?_push_of_some _ (Heap.get?_push_of_some _ x)⟩
end
/-- the tuple at a, each item in a new pair -/
def IteT (K : PySem.W.Frag) (a : Addr) : It :=
  ⟨fun i H => ∃ (xs : List V) (x : V), SqT K H a xs ∧ xs[i]? = some x, fun i H v H' => ∃ T x, v = .ref T ∧ H T = none ∧ H' = upd H T (.tup [.int (i : Nat), x]) ∧ ∀ xs, SqT K H a xs → xs[i]? = some x, fun i H => ∃ xs : List V, SqT K H a xs ∧ xs.length ≤ i⟩
theorem turn_enumT {P : Program} {w : World} {K : PySem.W.Frag} {elts : List Expr} {kk : Nat} {tpos : Pos} (a : Addr) (e it : Addr) (hai : a ≠ it) (hae : a ≠ e) :
    Turn P w K (.Tuple elts kk tpos) (IteT K a) [e, it] e (fun i h => (∃ old, IsEnum h e it ((i : Nat) : Int) old) ∧ h.IsTupleIter it a i ∧ e ≠ it) where
  mem := by simp
  obj := fun i h st b hb => by
    obtain ⟨⟨old, he⟩, ⟨o, ho, hc, hd⟩, _⟩ := st
    have e' : b = e ∨ b = it := by simpa using hb
    rcases e' with z | z
    · rw [z]; exact ⟨_, he, fun v q => nomatch q⟩
    · rw [z]; exact ⟨o, ho, fun v q => by rw [hd] at q; cases q⟩
  keep := fun i h h' st k => let ⟨⟨old, he⟩, hi, hne⟩ := st; ⟨⟨old, k e (by simp) _ he⟩, hi.at fun o q => k it (by simp) o q, hne⟩
  item := by
    intro X hP hw hK hc i pins s σ H E I hf st hg
    subst hP hw hK
    obtain ⟨⟨old, he⟩, hit, hne⟩ := st
    obtain ⟨xs, x, hq, hx⟩ := hg
    obtain ⟨its, rv, p, hz⟩ := I.tuple hq
    obtain ⟨u, hu, ru⟩ := rv.get hx
    have hel : e < s.heap.objs.size := Heap.lt_size he
    have hil : it < s.heap.objs.size := by obtain ⟨_, q, _⟩ := hit; exact Heap.lt_size q
    have hu' : its.toArray[i]? = some u := by simpa using hu
    have hn : i < its.toArray.size := (Array.getElem?_eq_some_iff.mp hu').1
    have hin : (X.A.in1).handled = none := I.ok.hd hc
    refine wpAny_pyNext_enum_itemD (drawsT (prog := X.prog) (w := X.w) (A := X.A.in1) (I.ok.hd hc) it a hai its.toArray) he ⟨hit, p⟩ hn hne (by simp [hne, Ne.symm hae]) fun v h' tk hv ho hst hT hsz hk => ?_
    obtain rfl : v = u := Option.some.inj (hv.symm.trans hu')
    obtain ⟨hit', _⟩ := hst
    refine ⟨_, rfl, wpAny_letOwnedTupleGo_enum (s := { s with heap := h', toks := tk + 1 }) ho fun h'' he' sb => ?_⟩
    have hT2 : h''.get? s.heap.objs.size = some { cls := .type "tuple", data := .seq #[.int i tk, v] } := (sb.2 _ (Nat.ne_of_gt hel)).trans hT
    have new : ObjOk X.prog X.w (upd H s.heap.objs.size (.tup [.int (i : Nat), x])) h'' s.heap.objs.size (.tup [.int (i : Nat), x]) :=
      ⟨by show 2 ≤ sizeLine; decide, [.int i tk, v], .cons ⟨_, rfl⟩ (.cons ru .nil), ⟨_, hT2, rfl, _, rfl⟩⟩
    have I1 : Inv X pins σ (upd H s.heap.objs.size (.tup [.int (i : Nat), x])) { s with heap := h'', toks := tk + 1 } :=
      I.turnedNew (ch := [e, it]) (fun b ob hb q => (sb.2 b (fun z => hb (by simp [z]))).trans (hk b ob (fun z => hb (by simp [z])) (fun z => hb (by simp [z])) q)) hf (Nat.le_refl _) new
    refine ⟨.ref s.heap.objs.size, _, I1, rfl, ⟨_, x, rfl, I.hok.fresh (Nat.le_refl _), rfl, fun ys hy => by rw [I.tuple_inj hy hq]; exact hx⟩, ⟨⟨v, ?_⟩, hit'.at fun o q => (sb.2 it (Ne.symm hne)).trans q, hne⟩, fun b hb => ?_⟩
    · have e1 : ((i + 1 : Nat) : Int) = (i : Int) + 1 := by omega
      rw [e1]; exact he'
    · have hb' : b < s.heap.objs.size := by
        have e' : b = e ∨ b = it := by simpa using hb
        rcases e' with z | z
        · rw [z]; exact hel
        · rw [z]; exact hil
      rw [upd_ne (Nat.ne_of_lt hb')]
      exact (hf b hb).1
  done := by
    intro X hP hw hK hc i pins s σ H E I hf st hg
    subst hP hw hK
    obtain ⟨⟨old, he⟩, hit, hne⟩ := st
    obtain ⟨xs, hq, hx⟩ := hg
    obtain ⟨its, rv, p, hz⟩ := I.tuple hq
    obtain ⟨f0, f1, f2, f3, f4, f5⟩ := hf it (by simp)
    have hl := rv.length
    exact endT (I.ok.hd hc) he hit p (by simp; omega) fun h' eb => ⟨rfl, I.turned (t' := s.toks) (fun b o hb q => eb b o hb q) f0 f1 f3 f4 f5⟩
  self := fun A i s Q E st h => let ⟨⟨_, he⟩, _⟩ := st; wpAny_pyIter_enum he h
def iEnumLT (K : PySem.W.Frag) (ta : TA) : TI := fun σ H R => ta σ H fun vs H1 => ∃ a, vs = [.ref a] ∧ ((∃ xs, SqL K H1 a xs ∧ R (Ite K a) H1) ∨ ∃ xs, SqT K H1 a xs ∧ R (IteT K a) H1)
theorem pi_enumT {X : Cx} {e : Expr} {ta : TA} {p pos tpos : Pos} {elts : List Expr} {kk : Nat} (hg : Gl X "enumerate") (hm : X.mg "enumerate" = none) (ha : PA X [e] ta) (hs : starEach [e] X.env = [(false, eval e X.env)] := by rfl) :
    PI X (.Tuple elts kk tpos) (.Call (.Name "enumerate" p) [e] [] pos) (iEnumLT X.K ta) := by
  refine ⟨fun pins s σ H R I h => ?_⟩
  refine Call_ (ld_blt I hg hm PyProof.Rows.boot_enumerate (PyProof.Rows.callWith_type1 (thn (ha.run pos pins s σ H _ I h) fun us s1 ⟨vs, H1, I1, r1, q1⟩ => ?_) hs rfl))
  obtain ⟨a, ex, q⟩ := q1
  subst ex
  cases r1 with
  | cons r rr =>
    cases rr
    cases r
    have fr : ∀ b, b ∈ [s1.heap.objs.size + 1, s1.heap.objs.size] → FpOk X pins H1 b := fun b hb => by
      have e' : b = s1.heap.objs.size + 1 ∨ b = s1.heap.objs.size := by simpa using hb
      have hle : s1.heap.objs.size ≤ b := by
        rcases e' with z | z
        · rw [z]; exact Nat.le_add_right _ _
        · rw [z]; exact Nat.le_refl _
      exact I1.fpOk hle (I1.hok.fresh hle)
    rcases q with ⟨xs, hq, q⟩ | ⟨xs, hq, q⟩
    · obtain ⟨its, rv, p', hz⟩ := I1.list hq
      refine call_enumerate_list p'.isList fun h' he hit hsz hk => wpAny_pyIter_enum he ?_
      have I2 : Inv X pins σ H1 { s1 with heap := h' } := I1.kept (t' := s1.toks) hk
      exact ⟨s1.heap.objs.size + 1, [s1.heap.objs.size + 1, s1.heap.objs.size], _, _, H1, rfl, I2, turn_enum a (s1.heap.objs.size + 1) s1.heap.objs.size, ⟨⟨.none, he⟩, hit, Nat.succ_ne_self _⟩, fr, q⟩
    · obtain ⟨its, rv, p', hz⟩ := I1.tuple hq
      obtain ⟨o, ho, _⟩ := id p'
      have hlt : a < s1.heap.objs.size := Heap.lt_size ho
      refine call_enumT p' fun h' he hit hsz hk => wpAny_pyIter_enum he ?_
      have I2 : Inv X pins σ H1 { s1 with heap := h' } := I1.kept (t' := s1.toks) hk
      exact ⟨s1.heap.objs.size + 1, [s1.heap.objs.size + 1, s1.heap.objs.size], _, _, H1, rfl, I2, turn_enumT a (s1.heap.objs.size + 1) s1.heap.objs.size (Nat.ne_of_lt hlt) (Nat.ne_of_lt (Nat.lt_succ_of_lt hlt)), ⟨⟨.none, he⟩, hit, Nat.succ_ne_self _⟩, fr, q⟩
end RN
namespace Dv
open PySem PySem.Spec PyProof.Rows L2 DvR DvF
section
variable {K : PySem.W.Frag}
def iEnumT (g : DenA) : DenI := fun M δ => (g M δ).bind fun r => match r.1 with
  | [.lst ws] => some (enumW ws, r.2.2)
  | [.tup ws] => some (enumW ws, r.2.2)
  | _ => none
theorem si_enumT {t : TA} {g : DenA} (ha : Sa K t g) : Si K (RN.iEnumLT K t) (iEnumT g) := by
  refine ⟨fun {M δ r} e => ?_, fun {M G H φ σ δ r} s e R P => ?_⟩
  · unfold iEnumT at e
    obtain ⟨r1, h1, e⟩ := Option.bind_eq_some_iff.mp e
    have o1 := ha.off h1
    split at e
    · cases e; exact o1
    · cases e; exact o1
    · cases e
  · unfold iEnumT at e
    obtain ⟨⟨as, fr, δ1⟩, h1, e⟩ := Option.bind_eq_some_iff.mp e
    refine ha.run s h1 _ fun vs G1 H1 φ1 A1 s1 e1 q1 _ => ?_
    have rl : ∀ ws : List W, (rangeW 0 ws.length).length = ws.length := fun ws => by unfold rangeW; rw [List.length_map, List.length_range]
    split at e
    · rename_i ws ew
      have ew' : as = [.lst ws] := ew
      subst ew'
      cases e
      obtain ⟨x, B, rfl, h⟩ := rps_one q1
      unfold Rp at h
      obtain ⟨a, us, B1, rfl, ha, _, r1⟩ := h
      refine ⟨a, rfl, .inl ⟨us, SqL.of (s1.sub _ _ ha), P _ G1 H1 φ1 s1 e1 fun {M G H φ σ δ} s x i => ?_⟩⟩
      have h1 := SqL.of (K := K) (s.sub _ _ (x _ _ ha))
      refine ⟨fun hi => ⟨us, h1, ?_⟩, fun w e => ?_⟩
      · unfold enumW at hi
        rw [pairs_len, rl, Nat.min_self] at hi
        rw [← r1.len]
        exact hi
      · obtain ⟨p, q, e1, e2, rfl⟩ := zip_get e
        obtain ⟨hi, rfl⟩ := range_get e1
        obtain ⟨u, B2, g2, r2, _⟩ := r1.get e2
        refine ⟨⟨us, u, h1, g2⟩, fun y H' q => ?_⟩
        obtain ⟨T, x2, rfl, hT, rfl, f2⟩ := q
        obtain rfl : x2 = u := Option.some.inj ((f2 us h1).symm.trans g2)
        rw [Int.zero_add]
        exact step_pair s hT rp_int (r2.mono x)
    · rename_i ws ew
      have ew' : as = [.tup ws] := ew
      subst ew'
      cases e
      obtain ⟨x, B, rfl, h⟩ := rps_one q1
      unfold Rp at h
      obtain ⟨a, us, rfl, ha, r1⟩ := h
      refine ⟨a, rfl, .inr ⟨us, SqT.of (s1.sub _ _ ha), P _ G1 H1 φ1 s1 e1 fun {M G H φ σ δ} s x i => ?_⟩⟩
      have h1 := SqT.of (K := K) (s.sub _ _ (x _ _ ha))
      refine ⟨fun hi => ⟨us, h1, ?_⟩, fun w e => ?_⟩
      · unfold enumW at hi
        rw [pairs_len, rl, Nat.min_self] at hi
        rw [← r1.len]
        exact hi
      · obtain ⟨p, q, e1, e2, rfl⟩ := zip_get e
        obtain ⟨hi, rfl⟩ := range_get e1
        obtain ⟨u, B2, g2, r2, _⟩ := r1.get e2
        refine ⟨⟨us, u, h1, g2⟩, fun y H' q => ?_⟩
        obtain ⟨T, x2, rfl, hT, rfl, f2⟩ := q
        obtain rfl : x2 = u := Option.some.inj ((f2 us h1).symm.trans g2)
        rw [Int.zero_add]
        exact step_pair s hT rp_int (r2.mono x)
    · cases e
end
variable {β : Type}
def kEnT (κ : KI β) : KA β := fun ws _ δ => match ws with | [.lst ws] => κ (enumW ws) δ | [.tup ws] => κ (enumW ws) δ | _ => none
theorem kEnT_lst (κ : KI β) (ws : List W) (fr : Bool) (δ : Dv.Env) : kEnT κ [.lst ws] fr δ = κ (enumW ws) δ := rfl
theorem kEnT_tup (κ : KI β) (ws : List W) (fr : Bool) (δ : Dv.Env) : kEnT κ [.tup ws] fr δ = κ (enumW ws) δ := rfl
theorem EI_enumT (g : DenA) (M : Own) (δ : Dv.Env) (κ : KI β) : EI (iEnumT g) M δ κ = EA g M δ (kEnT κ) := by
  unfold EI iEnumT EA kEnT
  cases g M δ with
  | none => rfl
  | some r =>
    obtain ⟨ws, fr, δ1⟩ := r
    show Option.bind (match ws with | [.lst ws] => _ | [.tup ws] => _ | _ => none) _ = (match ws with | [.lst ws] => κ (enumW ws) δ1 | [.tup ws] => κ (enumW ws) δ1 | _ => none)
    split
    · rfl
    · rfl
    · rfl
end Dv
set_option Elab.async false
set_option linter.all false
set_option maxRecDepth 100000
set_option maxHeartbeats 4000000
namespace Dv
open PySem PySem.Spec PyProof.Rows L2 DvR DvF
section
variable {K : PySem.W.Frag} {M M' : Own} {G H : Hp} {φ φ' : Nat → List Addr} {σ : L2.St} {δ : Env}
theorem rps_at : ∀ {ws : List W} {vs : List V} {B : List Addr} {k : Nat} {w : W}, Rps K H ws vs B → ws[k]? = some w →
    ∃ v B1 Bk B2, vs[k]? = some v ∧ B = B1 ++ (Bk ++ B2) ∧ Rp K H w v Bk ∧ ∀ w' Bk', Rp K H w' v Bk' → Rps K H (ws.set k w') vs (B1 ++ (Bk' ++ B2))
  | [], _, _, k, w, _, e => by simp at e
  | w0 :: ws, vs, B, 0, w, h, e => by
    unfold Rps at h
    obtain ⟨v, vr, B1, C, rfl, rfl, h1, h2⟩ := h
    simp at e
    subst e
    exact ⟨v, [], B1, C, rfl, rfl, h1, fun w' Bk' r => by rw [List.nil_append]; exact Rps.cons r h2⟩
  | w0 :: ws, vs, B, k + 1, w, h, e => by
    unfold Rps at h
    obtain ⟨v, vr, B1, C, rfl, rfl, h1, h2⟩ := h
    obtain ⟨v', C1, Bk, C2, e1, rfl, r, rep⟩ := rps_at (k := k) (w := w) h2 (by simpa using e)
    refine ⟨v', B1 ++ C1, Bk, C2, by simpa using e1, by rw [List.append_assoc], r, fun w' Bk' r' => ?_⟩
    have := Rps.cons h1 (rep w' Bk' r')
    rw [List.append_assoc]
    exact this
theorem Evo.same (h : ∀ x, M' x = true → ∀ b ∈ φ' x, ∃ y, M y = true ∧ b ∈ φ y) : Evo M G H φ M' G H φ' :=
  ⟨Ex.refl G, fun _ _ h _ _ => h, fun _ ps h => ⟨ps, h⟩, fun a o h h' => (by rw [h] at h'; cases h'), fun i hi a ha => .inr (h i hi a ha)⟩
theorem Sta.openL (s : Sta K M G H φ σ δ) {i j k : Nat} {ws us : List W} (mi : M i = true) (mj : M j = false) (ei : δ[i]? = some (some (.lst ws))) (ek : ws[k]? = some (.lst us)) (hj : j < δ.length) :
    ∃ L a vs φ', σ[i]? = some (some (.ref L)) ∧ H L = some (.lst vs) ∧ vs[k]? = some (.ref a) ∧
      Sta K (fun x => decide (x = j) || M x) G H φ' (σ.set j (some (.ref a))) ((δ.set i (some (.lst (ws.set k (.hole a))))).set j (some (.lst us))) ∧
      Evo M G H φ (fun x => decide (x = j) || M x) G H φ' := by
  obtain ⟨v, e1, r⟩ := s.own i _ mi ei
  unfold Rp at r
  obtain ⟨L, vs, B, rfl, hL, eA, r1⟩ := r
  obtain ⟨v, B1, Bk, B2, ev, rfl, rk, rep⟩ := rps_at r1 ek
  have rk0 := rk
  unfold Rp at rk
  obtain ⟨a, vs', B', rfl, ha, eBk, r2⟩ := rk
  have nij : i ≠ j := fun z => by subst z; rw [mi] at mj; cases mj
  let φ' : Nat → List Addr := fun x => if x = j then Bk else if x = i then L :: (B1 ++ B2) else φ x
  have fj : φ' j = Bk := if_pos rfl
  have fi : φ' i = L :: (B1 ++ B2) := (if_neg nij).trans (if_pos rfl)
  have fo : ∀ {x}, x ≠ j → x ≠ i → φ' x = φ x := fun h1 h2 => (if_neg h1).trans (if_neg h2)
  have nd := s.nd i mi
  rw [eA] at nd
  have nd1 : (L :: (B1 ++ B2)).Nodup := List.Nodup.sublist (List.Sublist.cons_cons _ (List.Sublist.append (List.Sublist.refl _) (List.sublist_append_right _ _))) nd
  have nd2 : Bk.Nodup := List.Nodup.sublist (List.Sublist.cons _ ((List.sublist_append_left _ _).trans (List.sublist_append_right _ _))) nd
  have ap : ∀ b ∈ Bk, b ∉ L :: (B1 ++ B2) := fun b hb hc => by
    obtain ⟨n1, n2⟩ := List.nodup_cons.mp nd
    obtain ⟨_, n3, n4⟩ := List.nodup_append.mp n2
    obtain ⟨_, _, n5⟩ := List.nodup_append.mp n3
    rcases List.mem_cons.mp hc with rfl | hc
    · exact n1 (List.mem_append_right _ (List.mem_append_left _ hb))
    · rcases List.mem_append.mp hc with hc | hc
      · exact n4 b hc b (List.mem_append_left _ hb) rfl
      · exact n5 b hb b hc rfl
  have ini : ∀ b, b ∈ L :: (B1 ++ B2) → b ∈ φ i := fun b hb => by
    rw [eA]
    rcases List.mem_cons.mp hb with rfl | hb
    · exact List.mem_cons_self ..
    · refine List.mem_cons_of_mem _ ?_
      rcases List.mem_append.mp hb with hb | hb
      · exact List.mem_append_left _ hb
      · exact List.mem_append_right _ (List.mem_append_right _ hb)
  have inj : ∀ b, b ∈ Bk → b ∈ φ i := fun b hb => by
    rw [eA]
    exact List.mem_cons_of_mem _ (List.mem_append_right _ (List.mem_append_left _ hb))
  have mo : ∀ {x}, (decide (x = j) || M x) = true → x ≠ j → M x = true := fun h n => by rwa [decide_eq_false n, Bool.false_or] at h
  have mm : ∀ x, (decide (x = j) || M x) = true → ∀ b ∈ φ' x, ∃ y, M y = true ∧ b ∈ φ y := fun x hx b hb => by
    by_cases c : x = j
    · subst c; rw [fj] at hb; exact ⟨i, mi, inj b hb⟩
    · by_cases c' : x = i
      · subst c'; rw [fi] at hb; exact ⟨x, mi, ini b hb⟩
      · rw [fo c c'] at hb; exact ⟨x, mo hx c, hb⟩
  have rh : Rp K H (.hole a) (.ref a) [] := by unfold Rp; exact ⟨rfl, rfl⟩
  have r3 := rep _ _ rh
  rw [List.nil_append] at r3
  have hj' : j < σ.length := by rw [s.len]; exact hj
  have il : i < δ.length := (List.getElem?_eq_some_iff.mp ei).1
  refine ⟨L, a, vs, φ', e1, hL, ev, ⟨s.sub, fun x hx b hb => ?_, fun x hx b hb => ?_, fun x hx => ?_, fun x y hx hy n b hb hc => ?_, fun x w hx e => ?_, fun x w hx e => ?_, ?_, s.tup, fun q hq => ⟨(s.tb q hq).1, fun x hx hb => ?_, (s.tb q hq).2.2⟩⟩, Evo.same mm⟩
  · obtain ⟨y, hy, hb⟩ := mm x hx b hb; exact s.sep y hy b hb
  · obtain ⟨y, hy, hb⟩ := mm x hx b hb; exact s.mt y hy b hb
  · by_cases c : x = j
    · subst c; rw [fj]; exact nd2
    · by_cases c' : x = i
      · subst c'; rw [fi]; exact nd1
      · rw [fo c c']; exact s.nd x (mo hx c)
  · by_cases c : x = j
    · subst c
      rw [fj] at hb
      have c' : y ≠ x := fun z => n z.symm
      by_cases c2 : y = i
      · subst c2; rw [fi] at hc; exact ap b hb hc
      · rw [fo c' c2] at hc
        exact s.dis i y mi (mo hy c') (fun z => c2 z.symm) b (inj b hb) hc
    · by_cases c' : x = i
      · subst c'
        rw [fi] at hb
        by_cases c2 : y = j
        · subst c2; rw [fj] at hc; exact ap b hc hb
        · rw [fo c2 (fun z => n z.symm)] at hc
          exact s.dis x y mi (mo hy c2) n b (ini b hb) hc
      · rw [fo c c'] at hb
        by_cases c2 : y = j
        · subst c2; rw [fj] at hc
          exact s.dis x i (mo hx c) mi c' b hb (inj b hc)
        · by_cases c3 : y = i
          · subst c3; rw [fi] at hc
            exact s.dis x y (mo hx c) mi n b hb (ini b hc)
          · rw [fo c2 c3] at hc
            exact s.dis x y (mo hx c) (mo hy c2) n b hb hc
  · by_cases c : x = j
    · subst c
      rw [List.getElem?_set_self (by rw [List.length_set]; exact hj)] at e
      cases e
      exact ⟨_, List.getElem?_set_self hj', by rw [fj]; exact rk0⟩
    · rw [List.getElem?_set_ne (fun z => c z.symm)] at e ⊢
      by_cases c' : x = i
      · subst c'
        rw [List.getElem?_set_self il] at e
        cases e
        refine ⟨_, e1, ?_⟩
        rw [fi]
        unfold Rp
        exact ⟨L, vs, _, rfl, hL, rfl, r3⟩
      · rw [List.getElem?_set_ne (fun z => c' z.symm)] at e
        rw [fo c c']
        exact s.own x w (mo hx c) e
  · have c : x ≠ j := fun z => by rw [decide_eq_true z] at hx; cases hx
    rw [decide_eq_false c, Bool.false_or] at hx
    have c' : x ≠ i := fun z => by subst z; rw [mi] at hx; cases hx
    rw [List.getElem?_set_ne (fun z => c z.symm)] at e ⊢
    rw [List.getElem?_set_ne (fun z => c' z.symm)] at e
    exact s.non x w hx e
  · rw [List.length_set, List.length_set, List.length_set]; exact s.len
  · obtain ⟨y, hy, hb⟩ := mm x hx _ hb
    exact (s.tb q hq).2.1 y hy hb
theorem Sta.fillL (s : Sta K M G H φ σ δ) {i j k : Nat} {ws : List W} {w : W} {a : Addr} (mi : M i = true) (mj : M j = true) (nij : i ≠ j) (ei : δ[i]? = some (some (.lst ws))) (ek : ws[k]? = some (.hole a)) (ej : δ[j]? = some (some w)) (sj : σ[j]? = some (some (.ref a))) :
    ∃ φ', Sta K (fun x => !decide (x = j) && M x) G H φ' σ ((δ.set i (some (.lst (ws.set k w)))).set j none) ∧ Evo M G H φ (fun x => !decide (x = j) && M x) G H φ' := by
  obtain ⟨v, e1, r⟩ := s.own i _ mi ei
  unfold Rp at r
  obtain ⟨L, vs, B, rfl, hL, eA, r1⟩ := r
  obtain ⟨v, B1, Bk, B2, ev, rfl, rk, rep⟩ := rps_at r1 ek
  unfold Rp at rk
  obtain ⟨rfl, rfl⟩ := rk
  rw [List.nil_append] at eA
  obtain ⟨v', e2, rj⟩ := s.own j _ mj ej
  rw [sj] at e2
  cases e2
  have r3 := rep _ _ rj
  let φ' : Nat → List Addr := fun x => if x = i then L :: (B1 ++ (φ j ++ B2)) else φ x
  have fi : φ' i = L :: (B1 ++ (φ j ++ B2)) := if_pos rfl
  have fo : ∀ {x}, x ≠ i → φ' x = φ x := fun h1 => if_neg h1
  have nd := s.nd i mi
  have ndj := s.nd j mj
  have dij := s.dis i j mi mj nij
  rw [eA] at nd dij
  have nd1 : (L :: (B1 ++ (φ j ++ B2))).Nodup := by
    obtain ⟨n1, n2⟩ := List.nodup_cons.mp nd
    obtain ⟨n3, n4, n5⟩ := List.nodup_append.mp n2
    refine List.nodup_cons.mpr ⟨fun h => ?_, List.nodup_append.mpr ⟨n3, List.nodup_append.mpr ⟨ndj, n4, fun x hx y hy e => ?_⟩, fun x hx y hy e => ?_⟩⟩
    · rcases List.mem_append.mp h with h | h
      · exact n1 (List.mem_append_left _ h)
      · rcases List.mem_append.mp h with h | h
        · exact dij L (List.mem_cons_self ..) h
        · exact n1 (List.mem_append_right _ h)
    · subst e
      exact dij x (List.mem_cons_of_mem _ (List.mem_append_right _ hy)) hx
    · subst e
      rcases List.mem_append.mp hy with hy | hy
      · exact dij x (List.mem_cons_of_mem _ (List.mem_append_left _ hx)) hy
      · exact n5 x hx x hy rfl
  have ini : ∀ b, b ∈ L :: (B1 ++ (φ j ++ B2)) → b ∈ φ i ∨ b ∈ φ j := fun b hb => by
    rw [eA]
    rcases List.mem_cons.mp hb with rfl | hb
    · exact .inl (List.mem_cons_self ..)
    · rcases List.mem_append.mp hb with hb | hb
      · exact .inl (List.mem_cons_of_mem _ (List.mem_append_left _ hb))
      · rcases List.mem_append.mp hb with hb | hb
        · exact .inr hb
        · exact .inl (List.mem_cons_of_mem _ (List.mem_append_right _ hb))
  have mo : ∀ {x}, (!decide (x = j) && M x) = true → x ≠ j ∧ M x = true := fun h => by
    obtain ⟨h1, h2⟩ := Bool.and_eq_true_iff.mp h
    exact ⟨fun z => (by rw [decide_eq_true z] at h1; cases h1), h2⟩
  have mm : ∀ x, (!decide (x = j) && M x) = true → ∀ b ∈ φ' x, ∃ y, M y = true ∧ b ∈ φ y := fun x hx b hb => by
    by_cases c' : x = i
    · subst c'; rw [fi] at hb
      rcases ini b hb with h | h
      · exact ⟨x, mi, h⟩
      · exact ⟨j, mj, h⟩
    · rw [fo c'] at hb; exact ⟨x, (mo hx).2, hb⟩
  have il : i < δ.length := (List.getElem?_eq_some_iff.mp ei).1
  have jl : j < δ.length := (List.getElem?_eq_some_iff.mp ej).1
  refine ⟨φ', ⟨s.sub, fun x hx b hb => ?_, fun x hx b hb => ?_, fun x hx => ?_, fun x y hx hy n b hb hc => ?_, fun x w hx e => ?_, fun x w hx e => ?_, ?_, s.tup, fun q hq => ⟨(s.tb q hq).1, fun x hx hb => ?_, (s.tb q hq).2.2⟩⟩, Evo.same mm⟩
  · obtain ⟨y, hy, hb⟩ := mm x hx b hb; exact s.sep y hy b hb
  · obtain ⟨y, hy, hb⟩ := mm x hx b hb; exact s.mt y hy b hb
  · by_cases c' : x = i
    · subst c'; rw [fi]; exact nd1
    · rw [fo c']; exact s.nd x (mo hx).2
  · by_cases c' : x = i
    · subst c'
      rw [fi] at hb
      rw [fo (fun z => n z.symm)] at hc
      rcases ini b hb with h | h
      · exact s.dis x y mi (mo hy).2 n b h hc
      · exact s.dis j y mj (mo hy).2 (fun z => (mo hy).1 z.symm) b h hc
    · rw [fo c'] at hb
      by_cases c3 : y = i
      · subst c3; rw [fi] at hc
        rcases ini b hc with h | h
        · exact s.dis x y (mo hx).2 mi n b hb h
        · exact s.dis x j (mo hx).2 mj (mo hx).1 b hb h
      · rw [fo c3] at hc
        exact s.dis x y (mo hx).2 (mo hy).2 n b hb hc
  · have c := (mo hx).1
    rw [List.getElem?_set_ne (fun z => c z.symm)] at e
    by_cases c' : x = i
    · subst c'
      rw [List.getElem?_set_self il] at e
      cases e
      refine ⟨_, e1, ?_⟩
      rw [fi]
      unfold Rp
      exact ⟨L, vs, _, rfl, hL, rfl, r3⟩
    · rw [List.getElem?_set_ne (fun z => c' z.symm)] at e
      rw [fo c']
      exact s.own x w (mo hx).2 e
  · by_cases c : x = j
    · subst c
      rw [List.getElem?_set_self (by rw [List.length_set]; exact jl)] at e
      cases e
    · rw [decide_eq_false c] at hx
      have hx : M x = false := by simpa using hx
      have c' : x ≠ i := fun z => by subst z; rw [mi] at hx; cases hx
      rw [List.getElem?_set_ne (fun z => c z.symm), List.getElem?_set_ne (fun z => c' z.symm)] at e
      exact s.non x w hx e
  · rw [List.length_set, List.length_set]; exact s.len
  · obtain ⟨y, hy, hb⟩ := mm x hx _ hb
    exact (s.tb q hq).2.1 y hy hb
end
theorem off_nil {δ δ' : Env} (h : Off (own []) δ δ') : δ' = δ := List.ext_getElem? fun i => h.2 i rfl
/-- a statement whose state has slot j hold the address a -/
structure Ssa (K : PySem.W.Frag) (j : Nat) (a : Addr) (P L l l' : List Nat) (t : TS) (b : DenS) : Prop where
  run : ∀ {G H φ σ δ r}, Sta K (own l) G H φ σ δ → σ[j]? = some (some (.ref a)) → b δ = some r → ∀ D : Ends, PostS K P L l l' G H φ σ r D → t D σ H
def sSeqN (b c : DenS) : DenS := fun δ => (b δ).bind fun r => match r with
  | .nx δ1 => c δ1
  | _ => none
def sFill (a : Addr) (k i j : Nat) : DenS := fun δ => match δ[i]?, δ[j]? with
  | some (some (.lst ws)), some (some w) => match ws[k]? with
    | some (.hole a') => if a' = a then some (.nx ((δ.set i (some (.lst (ws.set k w)))).set j none)) else none
    | _ => none
  | _, _ => none
section
variable {K : PySem.W.Frag} {i j k : Nat} {a : Addr} {P L l l1 l' ms : List Nat} {G H G1 H1 : Hp} {φ φ1 : Nat → List Addr} {σ σ1 : L2.St} {δ : Env} {r : SR} {D : Ends}
theorem Kp.less (k : Kp (j :: P) σ σ1) : Kp P σ σ1 := fun i hi => k i (by
  unfold own at hi ⊢
  rw [List.contains_cons, hi, Bool.or_true])
theorem Kp.head (k : Kp (j :: P) σ σ1) : σ1[j]? = σ[j]? := k j (by unfold own; rw [List.contains_cons, beq_self_eq_true]; rfl)
theorem ssa_seq {t u : TS} {b c : DenS} (h1 : Ss K (j :: P) L l l1 t b) (h2 : Ssa K j a P L l1 l' u c) : Ssa K j a P L l l' (tSeq t u) (sSeqN b c) := by
  refine ⟨fun {G H φ σ δ r} s sj e D p => ?_⟩
  unfold sSeqN at e
  obtain ⟨r1, e1, e⟩ := Option.bind_eq_some_iff.mp e
  refine h1.run s e1 { D with nx := u D } ?_
  cases r1 with
  | nx δ1 => exact fun G1 H1 φ1 σ1 s1 ev k => h2.run s1 (k.head.trans sj) e D (p.after ev k.less)
  | bk δ1 => cases e
  | ct δ1 => cases e
  | rt w fr δ1 => cases e
theorem ssa_seq2 {t u : TS} {b c : DenS} (h1 : Ssa K j a P L l l1 t b) (h2 : Ss K P L l1 l' u c) : Ssa K j a P L l l' (tSeq t u) (sSeqN b c) := by
  refine ⟨fun {G H φ σ δ r} s sj e D p => ?_⟩
  unfold sSeqN at e
  obtain ⟨r1, e1, e⟩ := Option.bind_eq_some_iff.mp e
  refine h1.run s sj e1 { D with nx := u D } ?_
  cases r1 with
  | nx δ1 => exact fun G1 H1 φ1 σ1 s1 ev k => h2.run s1 e D (p.after ev k)
  | bk δ1 => cases e
  | ct δ1 => cases e
  | rt w fr δ1 => cases e
theorem ssa_if {c : TT} {f : DenT} {t u : TS} {b b' : DenS} (hc : Sb K c f) (h1 : Ssa K j a P L l l' t b) (h2 : Ssa K j a P L l l' u b') (hs : sub ms l = true := by rfl) : Ssa K j a P L l l' (tIfS c t u) (sIf ms f b b') := by
  refine ⟨fun {G H φ σ δ r} s sj e D p => ?_⟩
  unfold sIf at e
  obtain ⟨k, e1, e⟩ := Option.bind_eq_some_iff.mp e
  refine ev_t hc hs s e1 _ fun G1 H1 φ1 s1 ev => ?_
  cases q : k.1 with
  | true => rw [q] at e; exact h1.run s1 sj e D (p.after ev Kp.refl)
  | false => rw [q] at e; exact h2.run s1 sj e D (p.after ev Kp.refl)
theorem fill_run (s : Sta K (own l) G H φ σ δ) (sj : σ[j]? = some (some (.ref a))) (e : sFill a k i j δ = some r) (hi : l.contains i = true) (hj : l.contains j = true) (nij : i ≠ j) (hl : (l'.all fun x => (!(x == j)) && l.contains x) = true) :
    ∃ δ' G' φ', r = .nx δ' ∧ Sta K (own l') G' H φ' σ δ' ∧ Evo (own l) G H φ (own l') G' H φ' := by
  unfold sFill at e
  split at e
  · rename_i ws w ei ej
    split at e
    · rename_i a' ek
      split at e
      · rename_i ea
        subst ea
        cases e
        obtain ⟨φ', s1, e1⟩ := s.fillL (i := i) (j := j) hi hj nij ei ek ej sj
        obtain ⟨G2, s2, e2⟩ := s1.freeze (M' := own l') fun x hx => by
          have := List.all_eq_true.mp hl x (List.contains_iff_mem.mp hx)
          obtain ⟨n1, n2⟩ := Bool.and_eq_true_iff.mp this
          have n : x ≠ j := fun z => by rw [beq_iff_eq.mpr z] at n1; cases n1
          rw [decide_eq_false n]
          exact n2
        exact ⟨_, G2, φ', rfl, s2, e1.trans e2⟩
      · cases e
    · cases e
  · cases e
/-- the part goes back into the list, then the statement -/
theorem ssa_fill {t : TS} {b : DenS} (h : Ss K P L l1 l' t b) (hi : l.contains i = true := by rfl) (hj : l.contains j = true := by rfl) (nij : i ≠ j := by decide) (hl : (l1.all fun x => (!(x == j)) && l.contains x) = true := by rfl) : Ssa K j a P L l l' t (sSeqN (sFill a k i j) b) := by
  refine ⟨fun {G H φ σ δ r} s sj e D p => ?_⟩
  unfold sSeqN at e
  obtain ⟨r1, e1, e⟩ := Option.bind_eq_some_iff.mp e
  obtain ⟨δ', G', φ', rfl, s1, ev⟩ := fill_run s sj e1 hi hj nij hl
  exact h.run s1 e D (p.after ev Kp.refl)
/-- the statement, then the part goes back into the list -/
theorem ssa_end {t : TS} {b : DenS} (h : Ss K (j :: P) L l l1 t b) (hi : l1.contains i = true := by rfl) (hj : l1.contains j = true := by rfl) (nij : i ≠ j := by decide) (hl : (l'.all fun x => (!(x == j)) && l1.contains x) = true := by rfl) : Ssa K j a P L l l' t (sSeqN b (sFill a k i j)) := by
  refine ⟨fun {G H φ σ δ r} s sj e D p => ?_⟩
  unfold sSeqN at e
  obtain ⟨r1, e1, e⟩ := Option.bind_eq_some_iff.mp e
  refine h.run s e1 D ?_
  cases r1 with
  | nx δ1 =>
    intro G1 H1 φ1 σ1 s1 ev k
    obtain ⟨δ', G', φ', rfl, s2, ev2⟩ := fill_run s1 (k.head.trans sj) e hi hj nij hl
    exact p G' H1 φ' σ1 s2 (ev.trans ev2) k.less
  | bk δ1 => cases e
  | ct δ1 => cases e
  | rt w fr δ1 => cases e
open Classical in
noncomputable def alOut (f : Addr → Option SR) : Option SR := if h : ∃ out, ∀ a, f a = some (.nx out) then some (.nx h.choose) else none
theorem alOut_inv {f : Addr → Option SR} (e : alOut f = some r) : ∃ out, r = .nx out ∧ ∀ a, f a = some (.nx out) := by
  unfold alOut at e
  split at e
  · rename_i h
    cases e
    exact ⟨_, rfl, h.choose_spec⟩
  · cases e
/-- x = xs[e]: x a name for a part of the list xs (slot i) -/
noncomputable def sAl (i j : Nat) (e : Den) (b : Addr → Nat → DenS) : DenS := fun δ => (e (own []) δ).bind fun r => match r.1, δ[i]? with
  | .int n, some (some (.lst ws)) => if 0 ≤ n then match ws[n.toNat]? with
    | some (.lst us) => if j < δ.length then alOut fun a => b a n.toNat ((δ.set i (some (.lst (ws.set n.toNat (.hole a))))).set j (some (.lst us))) else none
    | _ => none else none
  | _, _ => none
theorem al_open (s : Sta K (own l) G H φ σ δ) {ws us : List W} {n : Nat} (hi : l.contains i = true) (hj : l.contains j = false) (ei : δ[i]? = some (some (.lst ws))) (ek : ws[n]? = some (.lst us)) (jl : j < δ.length) (hl : (l1.all fun x => x == j || l.contains x) = true) :
    ∃ Lp a vs G' φ', σ[i]? = some (some (.ref Lp)) ∧ H Lp = some (.lst vs) ∧ vs[n]? = some (.ref a) ∧ Ex G G' ∧
      Sta K (own l1) G' H φ' (σ.set j (some (.ref a))) ((δ.set i (some (.lst (ws.set n (.hole a))))).set j (some (.lst us))) ∧ Evo (own l) G H φ (own l1) G' H φ' := by
  obtain ⟨Lp, a, vs, φ', h1, h2, h3, s1, e1⟩ := s.openL (i := i) (j := j) hi hj ei ek jl
  obtain ⟨G2, s2, e2⟩ := s1.freeze (M' := own l1) fun x hx => by
    have := List.all_eq_true.mp hl x (List.contains_iff_mem.mp hx)
    by_cases n : x = j
    · rw [decide_eq_true n]; rfl
    · rw [beq_eq_false_iff_ne.mpr n, Bool.false_or] at this
      rw [decide_eq_false n]
      exact this
  exact ⟨Lp, a, vs, G2, φ', h1, h2, h3, e2.ex, s2, e1.trans e2⟩
theorem ss_al {te : TE} {t : TS} {e : Den} {b : Addr → Nat → DenS} (he : Sd K te e) (hb : ∀ a k, Ssa K j a P L l1 l' t (b a k)) (hi : l.contains i = true := by rfl) (hj : l.contains j = false := by rfl) (hp : P.contains j = false := by rfl) (hl : (l1.all fun x => x == j || l.contains x) = true := by rfl) :
    Ss K P L l l' (tSeq (tAsg (tOp (rIx K) (tVar i) te) (gName j)) t) (sAl i j e b) := by
  refine ⟨fun {G H φ σ δ r} s eq D p => ?_⟩
  unfold sAl at eq
  obtain ⟨r1, e1, eq⟩ := Option.bind_eq_some_iff.mp eq
  have hd := off_nil (he.off e1)
  obtain ⟨w1, f1, δ1⟩ := r1
  replace hd : δ1 = δ := hd
  subst hd
  split at eq
  · rename_i n ws ew ei
    replace ew : w1 = .int n := ew
    subst ew
    split at eq
    · rename_i n0
      split at eq
      · rename_i us ek
        split at eq
        · rename_i jl
          obtain ⟨out, rfl, ha⟩ := alOut_inv eq
          obtain ⟨G0, s0, x, y, z⟩ := s.split (ms := own []) (sub_own (by rfl))
          obtain ⟨v0, A0, sv0, rv0⟩ := s0.non i _ rfl ei
          unfold Rp at rv0
          obtain ⟨Lp, vs, B, rfl, hL, _, _⟩ := rv0
          refine ⟨.ref Lp, sv0, he.run s0 e1 _ fun v G' H' φ' A s' e' r' f' => ?_⟩
          obtain ⟨G1, φ2, s2, e2, _⟩ := s.join (sub_own (by rfl)) s0 x y z s' e' (he.off e1)
          unfold Rp at r'
          obtain ⟨rfl, rfl⟩ := r'
          obtain ⟨Lp', a, vs', G3, φ3, h1, h2, h3, _, s3, e3⟩ := al_open (l1 := l1) s2 hi hj ei ek jl hl
          rw [sv0] at h1
          cases h1
          have hL2 := s'.sub _ _ (e'.ex _ _ hL)
          rw [h2] at hL2
          cases hL2
          have at1 : atI vs n = some (.ref a) := by
            rw [← h3, ← atI_nat, Int.toNat_of_nonneg n0]
          refine .inl ⟨Lp, vs, n, .ref a, rfl, rfl, SqL.of h2, at1, ?_⟩
          exact (hb a n.toNat).run s3 (List.getElem?_set_self (by rw [s2.len]; exact jl)) (ha a) D (p.after (e2.trans e3) (Kp.set hp))
        · cases eq
      · cases eq
    · cases eq
  · cases eq
end
end Dv
namespace Dv
open PySem PySem.Spec PyProof.Rows L2 DvR DvF
section
variable {β : Type}
def kSeqN (c : DenS) (κ : KS β) : KS β := fun r => match r with
  | .nx δ => ES c δ κ
  | _ => none
theorem kSeqN_nx (c : DenS) (κ : KS β) (δ : Dv.Env) : kSeqN c κ (.nx δ) = ES c δ κ := rfl
theorem ES_seqN (b c : DenS) (δ : Dv.Env) (κ : KS β) : ES (sSeqN b c) δ κ = ES b δ (kSeqN c κ) := by
  unfold ES sSeqN kSeqN
  cases b δ with
  | none => rfl
  | some r => cases r <;> rfl
def fl1 (a : Addr) (k i j : Nat) (x y : Option (Option W)) (δ : Dv.Env) (κ : KS β) : Option β := match x, y with
  | some (some (.lst ws)), some (some w) => match ws[k]? with
    | some (.hole a') => if a' = a then κ (.nx ((δ.set i (some (.lst (ws.set k w)))).set j none)) else none
    | _ => none
  | _, _ => none
theorem ES_fill (a : Addr) (k i j : Nat) (δ : Dv.Env) (κ : KS β) : ES (sFill a k i j) δ κ = fl1 a k i j δ[i]? δ[j]? δ κ := by
  unfold ES sFill fl1
  split
  · split
    · split
      · rfl
      · rfl
    · rfl
  · rfl
theorem fl1_s (a : Addr) (k i j : Nat) (ws : List W) (w : W) (δ : Dv.Env) (κ : KS β) (h : k < ws.length) : fl1 a k i j (some (some (.lst (ws.set k (.hole a))))) (some (some w)) δ κ = κ (.nx ((δ.set i (some (.lst (ws.set k w)))).set j none)) := by
  unfold fl1
  simp only [List.getElem?_set_self h, if_true, List.set_set]
end
end Dv
set_option Elab.async false
set_option linter.all false
set_option maxRecDepth 100000
set_option maxHeartbeats 4000000
namespace DvL
open PySem PySem.Spec PyProof.Rows L2
/-- the number of a set's members -/
def rLenSet (w : World) : List V → Hp → VK → Prop := fun vs H Q => ∃ (a : Addr) (S : Int → Bool) (n : Nat), vs = [V.ref a] ∧ H a = some (SetO w a S n) ∧ ∀ ks : List Int, ks.Nodup → (∀ k : Int, k ∈ ks ↔ S k = true) → Q (.int (ks.length : Nat)) H
theorem cr_lenSet {X : Cx} : CallR X (.builtin "len") (rLenSet X.w) := by
  intro pins s σ H vs us Q I r h
  obtain ⟨a, S, n, rfl, ha, q⟩ := h
  obtain ⟨ob, es, ep, tb, hob, hex, hdt, _, hnd, hmem, hbd, hfit, _⟩ := setO_get I ha
  rw [Vals.ref1 r]
  have q1 := q (es.toList.map keyOf) hnd fun k => (hmem k).symm
  rw [List.length_map, Array.length_toList] at q1
  exact call_len_set hob hex hdt hfit (by unfold scanBound at hbd; omega) ⟨.int es.size, H, I.tok _, ⟨_, rfl⟩, q1⟩
/-- {elt for target in iter if ..}, elt an int: D the new set -/
def tScI (w : World) (wi : TI) (g : TG) (tt : TT) (te : TE) (vs : List Nat) : TE := fun σ H Q => wi σ H fun J H1 => ∀ D, H1 D = none → ∃ W : Nat → Nat → Hp → Prop, (∃ m, W 0 m (upd H1 D (SetO w D (fun _ => false) 0))) ∧ ∀ i m H, W i m H →
  (J.stop i H ∧ Q (.ref D) H) ∨ (J.go i H ∧ ∃ Nx : Hp → Prop, (∀ H', Nx H' → ∃ m', m' < m ∧ W (i + 1) m' H') ∧ ∀ x H', J.yld i H x H' → g x (wipe σ vs) H' fun σ2 H2 => wipe σ2 vs = wipe σ vs ∧ tt σ2 H2 fun b H3 =>
    if b = true then te σ2 H3 fun y H4 => ∃ (c : Int) (S : Int → Bool) (n : Nat), y = .int c ∧ H4 D = some (SetO w D S n) ∧ n + 1 < scanBound ∧ Nx (upd H4 D (SetO w D (fun j => S j || decide (j = c)) (if S c = true then n else n + 1))) else Nx H3)
theorem pe_scI {X : Cx} {elt tg iter : Expr} {ifs : List Expr} {scope : Scope} {own : List (PySem.Str × Nat)} {pos : Pos} {wi : TI} {g : TG} {tt : TT} {te : TE} (calm : X.calm = true) (nodup : X.N.Nodup) (hit : PI X tg iter wi) (blk : BlkOk X.N X.env.scope scope own)
    (hgt : ∀ (s : Shared) (H : Hp) (C : Addr) (cl : List (PySem.Str × Addr)) (fp : List Addr), PG (X.blk s H scope (compEnvC scope cl C X.env) fp) tg g) (htt : ∀ (s : Shared) (H : Hp) (C : Addr) (cl : List (PySem.Str × Addr)) (fp : List Addr), PTs (X.blk s H scope (compEnvC scope cl C X.env) fp) ifs tt)
    (hte : ∀ (s : Shared) (H : Hp) (C : Addr) (cl : List (PySem.Str × Addr)) (fp : List Addr), PE (X.blk s H scope (compEnvC scope cl C X.env) fp) elt te) (plain : ∀ x, foldedSetIterable iter X.env x = pure x := by intro _; rfl) :
    PE X (.SetComp elt [⟨tg, iter, ifs, 0⟩] scope pos) (tScI X.w wi g tt te (own.map (·.2))) := by
  refine ⟨fun pins s σ H Q I spec => ?_⟩
  rw [PpSet.eval_SetComp]
  have closed : ∀ y ∈ scope.names, y.2 = .free → ∃ c, X.env.cells.lookup y.1 = some c := fun y hy e => (blk.free y hy e).elim (fun k => I.ok.has _ (.inl k)) (fun k => I.ok.has _ (.inr k))
  refine wpAny_comprehension_free (use := none) rfl plain (closure_ok closed) blk.kind (fun y hy e => by rw [blk.uniq y hy, e]) (thn (hit.run pins s σ H _ I spec) fun _ _ r1 => thn r1 fun _ z2 r2 => ?_)
  obtain ⟨it, fp, tn, J, Hb, rfl, Ib, T, stb, fpb, rest⟩ := r2
  refine PpSet.newSet_ok (newEnv_comp ?_)
  generalize hD : z2.heap.objs.size = D
  have freshD : Hb D = none := Ib.hok.fresh (Nat.le_of_eq hD)
  obtain ⟨W, ⟨m0, w0⟩, turn⟩ := rest D freshD
  generalize hz3 : ({ z2 with heap := z2.heap.push { cls := .type "set", dict := none, data := .set #[] 0 (.fresh 0 0 (!X.w.params.followText "set-order")) } } : Shared) = z3
  have heap3 : z3.heap = z2.heap.push { cls := .type "set", dict := none, data := .set #[] 0 (.fresh 0 0 (!X.w.params.followText "set-order")) } := by subst hz3; rfl
  have Ic : Inv X pins σ (upd Hb D (SetO X.w D (fun _ => false) 0)) z3 := by
    subst hz3
    refine Ib.laid (t' := z2.toks) (fun b o e => Heap.get?_push_of_some _ e) (Nat.le_of_eq hD) ?_
    subst hD
    exact setO_new (setR_fresh X.w)
  have inside : ∀ b ∈ fp, b < z2.heap.objs.size := fun b hb => (T.obj _ _ stb b hb).elim fun _ e => Heap.lt_size e.1
  generalize hHc : upd Hb D (SetO X.w D (fun _ => false) 0) = Hc at Ic w0
  have fpc : ∀ b ∈ fp, FpOk X pins Hc b ∧ b < z3.heap.objs.size := fun b hb => by
    have lt := inside b hb
    refine ⟨⟨?_, (fpb b hb).2⟩, by rw [heap3, Heap.size_push]; exact Nat.lt_succ_of_lt lt⟩
    rw [← hHc, upd_ne (by rw [← hD]; exact Nat.ne_of_lt lt)]
    exact (fpb b hb).1
  have stc : tn 0 z3.heap := T.keep _ _ _ stb fun b _ o e => by rw [heap3]; exact Heap.get?_push_of_some _ e
  show codeAny _ _ (.compStart (.SetComp elt [⟨tg, iter, ifs, 0⟩] scope pos) 0 (.ref it) (.ref D) (compEnvC scope (cellsFrom (z3.heap.objs.size + 1) scope.names (cloFrom X.env.cells scope.names [])) z3.heap.objs.size X.env)) (compPost (model X.prog X.w) X.A X.xe none (EP X pins σ Q) (.ref D) z3.heap.objs.size) { z3 with heap := pushCells (z3.heap.push { cls := .type "dict", data := .dict #[] }) scope.names }
  generalize hcl : cellsFrom (z3.heap.objs.size + 1) scope.names (cloFrom X.env.cells scope.names []) = cl
  generalize hce : compEnvC scope cl z3.heap.objs.size X.env = ce
  have locals : ce.locals = z3.heap.objs.size := by subst hce; rfl
  generalize hz4 : ({ z3 with heap := pushCells (z3.heap.push { cls := .type "dict", data := .dict #[] }) scope.names } : Shared) = z4
  have Id : Inv (X.blk z3 Hc scope ce fp) [] (wipe σ (own.map (·.2))) Hc z4 := by
    subst hz4 hce hcl
    exact block_start Ic blk nodup fpc
  have std : tn 0 z4.heap := T.keep _ _ _ stc fun b _ o e => by subst hz4; exact pushCells_keeps _ _ _ _ (Heap.get?_push_of_some _ e)
  have pg : PG (X.blk z3 Hc scope ce fp) tg g := by subst hce; exact hgt ..
  have pt : PTs (X.blk z3 Hc scope ce fp) ifs tt := by subst hce; exact htt ..
  have pe : PE (X.blk z3 Hc scope ce fp) elt te := by subst hce; exact hte ..
  have fpOk : ∀ {σ' : L2.St} {H' : Hp} {s' : Shared}, Inv (X.blk z3 Hc scope ce fp) [] σ' H' s' → (∀ b ∈ fp, H' b = none) → ∀ b ∈ fp, FpOk (X.blk z3 Hc scope ce fp) [] H' b := fun {σ' H' s'} i n b hb =>
    ⟨n b hb, (i.ok.exf b hb).1, i.ok.exfs b hb, .inl hb, fun x c e => (i.ok.exf b hb).2 x c e, fun p hp => absurd (show p ∈ ([] : List (Addr × Obj)) ++ [] from hp) (by simp)⟩
  refine PpSet.codeAny_compStart_set ?loop (T.self X.A 0 _ _ _ std ?loop)
  refine PpSet.compLoopS_any (fun n s' => ∃ i H', Inv (X.blk z3 Hc scope ce fp) [] (wipe σ (own.map (·.2))) H' s' ∧ tn i s'.heap ∧ (∀ b ∈ fp, H' b = none) ∧ W i n H') ?_ m0 ⟨0, Hc, Id, std, fun b hb => (fpc b hb).1.1, w0⟩
  rintro n z5 ⟨i, H5, I5, st5, no5, w5⟩
  rcases turn i n H5 w5 with ⟨stop, fin⟩ | ⟨go, Nx, less, step⟩
  · refine thnF (T.done (X.blk z3 Hc scope ce fp) rfl rfl rfl calm i [] z5 _ H5 (fun _ _ => False) I5 (fpOk I5 no5) st5 stop) fun _ z6 ⟨er, I6⟩ => ?_
    subst er
    have out : Inv X pins σ H5 z6 := Ic.call' (ch := fp) I6.os I6.base I6.hok I6.bare fun b hb => ⟨(fpc b hb).1.2.2.2.1, (fpc b hb).1.2.1, (fpc b hb).1.2.2.2.2.1, (fpc b hb).1.2.2.2.2.2⟩
    have noC : H5 z3.heap.objs.size = none := locals ▸ (show H5 ce.locals = none from I6.free)
    obtain ⟨mm, hns, _⟩ := I6.loc
    have hns : z6.heap.Ns ce.locals mm := hns
    rw [locals] at hns
    obtain ⟨f0, f1, f2, f3, f4, f5⟩ := Ic.fpOk (Nat.le_refl _) noC
    exact ⟨mm, hns, fun _ sb => ⟨.ref D, H5, out.turned (t' := z6.toks) (fun b o hb e => (sb.2 b hb).trans e) f0 f1 f3 f4 f5, rfl, fin⟩⟩
  · refine thnF (T.item (X.blk z3 Hc scope ce fp) rfl rfl rfl calm i [] z5 _ H5 (fun _ _ => False) I5 (fpOk I5 no5) st5 go) fun _ z6 ⟨u, er, h6⟩ => ?_
    subst er
    refine thnF h6 fun _ z7 ⟨x, H7, I7, r7, y7, st7, no7⟩ => ?_
    refine thnF (pg.run _ z7 _ H7 x u _ (I7.pinned (fpOk I7 no7) (T.obj _ _ st7)) r7 (step x H7 y7)) fun _ z8 ⟨σ8, H8, I8, wp8, q8⟩ => ?_
    refine thnF (pt.run _ z8 σ8 H8 _ I8 q8) fun b z9 ⟨H9, I9, q9⟩ => ?_
    have again : ∀ {s' : Shared} {H' : Hp}, Inv (X.blk z3 Hc scope ce fp) ([] ++ pinsAt fp z7.heap) σ8 H' s' → Nx H' → ∃ m, m < n ∧ ∃ i H', Inv (X.blk z3 Hc scope ce fp) [] (wipe σ (own.map (·.2))) H' s' ∧ tn i s'.heap ∧ (∀ b ∈ fp, H' b = none) ∧ W i m H' := fun {s' H'} i' nx => by
      obtain ⟨m', lt, w'⟩ := less H' nx
      have pinned : ∀ b ∈ fp, ∀ o, z7.heap.get? b = some o → s'.heap.get? b = some o ∧ H' b = none := fun b hb o e =>
        ⟨(i'.pin (b, o) (List.mem_append_right _ (List.mem_append_right _ (mem_pinsAt hb e)))).1, (i'.pin (b, o) (List.mem_append_right _ (List.mem_append_right _ (mem_pinsAt hb e)))).2.1⟩
      refine ⟨m', lt, i + 1, H', (i'.unpinned (pins := [])).weak (by rw [← wp8, wipe_length]) (fun j v e => ?_), T.keep _ _ _ st7 fun b hb o e => (pinned b hb o e).1, fun b hb => ?_, w'⟩
      · rw [← wp8] at e; exact (wipe_some e).1
      · exact (T.obj _ _ st7 b hb).elim fun o e => (pinned b hb o e.1).2
    cases b with
    | false =>
      simp only [Bool.false_eq_true, if_false] at q9 ⊢
      exact again I9 q9
    | true =>
      simp only [if_true] at q9 ⊢
      refine thnF (pe.run _ z9 σ8 H9 _ I9 q9) fun z z10 ⟨yv, Ha, Ia, rz, c0, S0, n0, ey, hDa, room, nx⟩ => ?_
      subst ey
      refine thnF (mt_sadd (X := X.blk z3 Hc scope ce fp) _ _ σ8 Ha (.ref D) [.int c0] (.ref D) [z] (fun _ H' => Nx H') Ia rfl (.cons rz .nil) ⟨D, c0, S0, n0, rfl, rfl, hDa, room, nx⟩) fun _ z11 ⟨_, Hf, If, _, nf⟩ => again If nf
end DvL
namespace Dv
open PySem PySem.Spec PyProof.Rows L2 DvR DvF
def kLenSet (ws : List W) : Option (W × Bool) := match ws with
  | [.tup xs] => (intsOf xs).bind fun ns => if ns.length ≤ 60 then some (.int ((uqs ns).length : Nat), true) else none
  | _ => none
theorem uqs_nodup (ns : List Int) : (uqs ns).Nodup := (uqs_asc ns).imp fun h => by omega
theorem sd_lenSet {K : PySem.W.Frag} {w : World} {t : TA} {g : DenA} (ha : Sa K t g) : Sd K (tCB (DvL.rLenSet w) (tCons (tCB (DvL.rSetT K w) t) tNil)) (dCb kLenSet g) := by
  refine ⟨fun {M δ r} e => ?_, fun {M G H φ σ δ r} s e Q P => ?_⟩
  · unfold dCb at e
    obtain ⟨r1, h1, e⟩ := Option.bind_eq_some_iff.mp e
    obtain ⟨x, h3, e⟩ := Option.map_eq_some_iff.mp e
    have o1 := ha.off h1
    cases e
    exact o1
  · unfold dCb at e
    obtain ⟨r1, h1, e⟩ := Option.bind_eq_some_iff.mp e
    obtain ⟨x, h3, e⟩ := Option.map_eq_some_iff.mp e
    subst e
    refine ha.run s h1 _ fun vs G1 H1 φ1 A1 s1 e1 q1 _ => ?_
    obtain ⟨ws, fr, δ1⟩ := r1
    have key : ∃ ns : List Int, ws = [.tup (ns.map .int)] ∧ ns.length ≤ 60 ∧ x = (.int ((uqs ns).length : Nat), true) := by
      have h3 : kLenSet ws = some x := h3
      unfold kLenSet at h3
      split at h3
      · obtain ⟨ns, k1, k2⟩ := Option.bind_eq_some_iff.mp h3
        split at k2
        · rename_i c
          cases k2
          exact ⟨ns, by rw [intsOf_eq k1], c, rfl⟩
        · cases k2
      · cases h3
    obtain ⟨ns, rfl, hl, rfl⟩ := key
    have q1 : Rps K G1 [W.tup (ns.map .int)] vs A1 := q1
    unfold Rps at q1
    obtain ⟨v, vr, B, C, rfl, rfl, r1, r2⟩ := q1
    unfold Rps at r2
    obtain ⟨rfl, rfl⟩ := r2
    unfold Rp at r1
    obtain ⟨a, us, rfl, hat, ru⟩ := r1
    rw [rp_intsV ru] at hat
    refine ⟨a, ns, rfl, SqT.of (s1.sub _ _ hat), hl, fun p n hp hn => ?_⟩
    refine ⟨p, _, n, rfl, upd_same, fun ks nd mem => ?_⟩
    have eq : ks.length = (uqs ns).length := ((List.perm_ext_iff_of_nodup nd (uqs_nodup ns)).mpr fun z => by rw [mem z, uqs_mem, decide_eq_true_eq]).length_eq
    rw [eq]
    have s2 := s1.laid (o := SetO w p (fun j => decide (j ∈ ns)) n) hp
    exact ((P.after e1).after (Evo.laid s1.sub hp)).scal s2 rp_int
/-- a set is no code object -/
theorem set_mut {w : World} {D : Addr} {S : Int → Bool} {n : Nat} : Mut (some (SetO w D S n)) := fun c q e => by
  have e : (fun h => SetR w h D S n) = fun h => ∃ (oc : Obj) (vs : Array Value) (t : Tok), h.get? c = some oc ∧ oc.data = .fields vs ∧ vs[1]? = some (.str q t) := HO.ext.inj e
  have all : ∀ b o, ({ objs := Array.replicate (c + 1) ({ cls := .none, data := .fields #[.none, .str q 0] } : Obj) } : Heap).get? b = some o → o = { cls := .none, data := .fields #[.none, .str q 0] } := fun b o h => by
    unfold Heap.get? at h
    rw [Array.getElem?_replicate] at h
    split at h
    · rename_i h2; split at h2 <;> cases h2
    · split at h
      · exact (Option.some.inj h).symm
      · cases h
  have R : SetR w ({ objs := Array.replicate (c + 1) ({ cls := .none, data := .fields #[.none, .str q 0] } : Obj) } : Heap) D S n := by
    rw [congrFun e _]
    refine ⟨{ cls := .none, data := .fields #[.none, .str q 0] }, #[.none, .str q 0], 0, ?_, rfl, rfl⟩
    unfold Heap.get?
    rw [Array.getElem?_replicate, if_pos (Nat.lt_succ_self c)]
  obtain ⟨o, es, ep, t, ho, hx, hd, _⟩ := R
  rw [all D o ho] at hd
  cases hd
def kSortSetL (ws : List W) : Option (W × Bool) := match ws with
  | [.lst xs] => (intsOf xs).bind fun ns => if ns.length ≤ 60 then some (.lst ((uqs ns).map .int), true) else none
  | _ => none
theorem sd_sortSc {K : PySem.W.Frag} {w : World} {vs xs : List Nat} {wi : TI} {g : TG} {tt : TT} {te : TE} {src : DenI} {tg : DenG} {test : DenT} {elt : Den} (hi : Si K wi src) (hg : Sg K g tg xs) (ht : Sb K tt test) (he : Sd K te elt) (go : GOk tg vs) (hx : ∀ x ∈ xs, x ∈ vs) :
    Sd K (tCB (rSortedSet w) (tCons (DvL.tScI w wi g tt te vs) tNil)) (dCb kSortSetL (aCons (dLc vs src tg test elt) aNil)) := by
  have lc := sd_lc (K := K) (wi := wi) (g := g) (tt := tt) (te := te) hi hg ht he go hx
  refine ⟨fun {M δ r} e => ?_, fun {M G H φ σ δ r} s e Q P => ?_⟩
  · unfold dCb at e
    obtain ⟨r1, h1, e⟩ := Option.bind_eq_some_iff.mp e
    obtain ⟨x, h3, e⟩ := Option.map_eq_some_iff.mp e
    have o1 := (sa_cons lc (sa_nil (K := K))).off h1
    cases e
    exact o1
  · unfold dCb at e
    obtain ⟨r1, h1, e⟩ := Option.bind_eq_some_iff.mp e
    obtain ⟨x, h3, e⟩ := Option.map_eq_some_iff.mp e
    subst e
    unfold aCons at h1
    obtain ⟨r2, h2, h1⟩ := Option.bind_eq_some_iff.mp h1
    obtain ⟨r4, h4, h1⟩ := Option.map_eq_some_iff.mp h1
    unfold aNil at h4
    cases h4
    subst h1
    unfold dLc at h2
    obtain ⟨⟨ws, δs⟩, hs, h2⟩ := Option.bind_eq_some_iff.mp h2
    split at h2
    · rename_i hc
      obtain ⟨q0, hq0, h2⟩ := Option.map_eq_some_iff.mp h2
      subst h2
      obtain ⟨hlim, hall⟩ := hc
      obtain ⟨ns, eqn, hn, rfl⟩ : ∃ ns : List Int, q0.1 = ns.map .int ∧ ns.length ≤ 60 ∧ x = (.lst ((uqs ns).map .int), true) := by
        have h3 : kSortSetL [.lst q0.1] = some x := h3
        unfold kSortSetL at h3
        obtain ⟨ns, k1, k2⟩ := Option.bind_eq_some_iff.mp h3
        split at k2
        · rename_i c
          cases k2
          exact ⟨ns, intsOf_eq k1, c, rfl⟩
        · cases k2
      have hv : ∀ v ∈ vs, M v = false := fun v hv => by
        have := List.all_eq_true.mp hall v hv
        cases c : M v with
        | true => rw [c] at this; cases this
        | false => rfl
      refine hi.run s hs _ fun J G1 H1 φ1 s1 e1 wk D hD => ?_
      have nDs : ∀ i, M i = true → D ∉ φ1 i := fun i hi ha => by
        obtain ⟨o, z⟩ := mut_some (s1.mt i hi D ha)
        rw [hD] at z
        cases z
      refine ⟨fun i m H => i + m = ws.length ∧ ∃ (G : Hp) (φ : Nat → List Addr) (δ : Dv.Env) (acc : List Int) (S : Int → Bool) (n : Nat) (q : List W × Bool × Dv.Env), Sta K M G H φ (wipe σ vs) δ ∧ G D = none ∧ H D = some (SetO w D S n) ∧ (∀ k, S k = true ↔ k ∈ acc) ∧ n ≤ acc.length ∧ (∀ i, M i = true → D ∉ φ i) ∧ Evo M G1 H1 φ1 M G H φ ∧ lcGo vs tg test elt M (ws.drop i) δ = some q ∧ ns.map W.int = acc.map W.int ++ q.1 ∧ q0.2.2 = q.2.2, ⟨ws.length, by omega, ?_⟩, ?_⟩
      · refine ⟨G1, φ1, wipeE δs vs, [], fun _ => false, 0, q0, ?_, ?_, upd_same, (fun k => by simp), Nat.le_refl _, nDs, Evo.refl.hid hD, hq0, eqn.symm, rfl⟩
        · have := s1.wiped (vs := vs)
          refine ⟨this.sub.trans (Ex.new hD), this.sep, fun i hi a ha => ?_, this.nd, this.dis, fun i w hi e => ?_, this.non, this.len, fun a u h n => ?_, this.tb.newH hD⟩
          · rw [upd_ne (fun e => by subst e; exact nDs i hi ha)]
            exact this.mt i hi a ha
          · obtain ⟨v, e1, r⟩ := this.own i w hi e
            exact ⟨v, e1, r.mono (Ex.new hD)⟩
          · by_cases c : a = D
            · subst c
              rw [upd_same] at h
              cases h
              exact absurd set_mut n
            · rw [upd_ne c] at h
              exact this.tup a u h n
        · cases c : G1 D with
          | none => rfl
          | some o => rw [s1.sub D o c] at hD; cases hD
      rintro i m H ⟨im, G', φ', δ', acc, S, n, q, s', gD, hD', hS, nl, nD, ev, hq, a1, a3⟩
      have accl : acc.length ≤ 60 := by
        have := congrArg List.length a1
        rw [List.length_append, List.length_map, List.length_map] at this
        omega
      by_cases hi' : ws.length ≤ i
      · refine .inl ⟨((wk s' ev.ex) i).1 hi', ?_⟩
        rw [List.drop_eq_nil_of_le hi'] at hq
        unfold lcGo at hq
        cases hq
        have e5 : ns = acc := by
          have := (a1.trans (List.append_nil _))
          exact (List.map_inj_right fun a b e => W.int.inj e).mp this
        subst e5
        have sh := s1.unwiped ev.ex s' hv
        have hP := P.after e1
        rw [a3] at hP
        refine ⟨D, S, n, rfl, hD', by omega, fun ms p2 asc mem _ hp2 => ?_⟩
        have eq : ms = uqs ns := asc_eq asc (uqs_asc ns) fun z => by rw [mem z, uqs_mem, hS]
        subst eq
        refine (hP.after ev).newL sh hp2 (A := []) (rps_ints _) fun _ => ?_
        exact imms_ints _
      · have hlt : i < ws.length := by omega
        obtain ⟨w1, hw⟩ : ∃ w, ws[i]? = some w := ⟨_, List.getElem?_eq_getElem hlt⟩
        have hdrop : ws.drop i = w1 :: ws.drop (i + 1) := by
          rw [List.drop_eq_getElem_cons hlt]
          congr 1
          rw [List.getElem?_eq_getElem hlt] at hw
          exact Option.some.inj hw
        rw [hdrop] at hq
        unfold lcGo at hq
        obtain ⟨δ1, hq1, hq⟩ := Option.bind_eq_some_iff.mp hq
        obtain ⟨b, hq2, hq⟩ := Option.bind_eq_some_iff.mp hq
        obtain ⟨go1, ys⟩ := ((wk s' ev.ex) i).2 w1 hw
        refine .inr ⟨go1, _, fun H2 nx => ⟨m - 1, by omega, nx⟩, fun x H2 hy => ?_⟩
        obtain ⟨G2, B, s2, ev2, rw2⟩ := ys x H2 hy
        refine hg.run s2 (fun x hx' => hv x (hx x hx')) rw2 hq1 _ fun σ2 s3 fr => ?_
        have wp : wipe σ2 vs = wipe σ vs := by
          have l1 : σ2.length = (wipe σ vs).length := by rw [s3.len, (go hq1).1, s'.len]
          rw [wipe_eq l1 fun i hi => (fr i fun z => hi (hx i z)).1, wipe_idem]
        refine ⟨wp, ht.run s3 hq2 _ fun G4 H4 φ4 s4 ev4 => ?_⟩
        have evA := ev2.trans ev4
        have stay : ∀ {G5 H5 φ5}, Evo M G' H φ' M G5 H5 φ5 → G5 D = none ∧ H5 D = some (SetO w D S n) ∧ ∀ i, M i = true → D ∉ φ5 i := fun {G5 H5 φ5} ev5 => by
          refine ⟨?_, ev5.keep D _ hD' (fun _ z => nomatch z) nD, fun i hi ha => ?_⟩
          · cases c : G5 D with
            | none => rfl
            | some o =>
              rcases ev5.new D o gD c with z | ⟨j, hj, z⟩
              · rw [hD'] at z; cases z
              · exact absurd z (nD j hj)
          · rcases ev5.nown i hi D ha with z | ⟨j, hj, z⟩
            · rw [hD'] at z; cases z
            · exact nD j hj z
        cases hb : b.1 with
        | true =>
          rw [hb] at hq
          simp only [if_true] at hq ⊢
          obtain ⟨r, hq3, hq⟩ := Option.bind_eq_some_iff.mp hq
          obtain ⟨q2, hq4, hq⟩ := Option.map_eq_some_iff.mp hq
          subst hq
          refine he.run s4 hq3 _ fun y G5 H5 φ5 B5 s5 ev5 r5 f5 => ?_
          have evB := evA.trans ev5
          obtain ⟨t1, t2, t3⟩ := stay evB
          obtain ⟨c, hc⟩ : ∃ c, r.1 = .int c := by
            have : r.1 ∈ ns.map W.int := by rw [a1]; simp
            obtain ⟨c, _, e⟩ := List.mem_map.mp this
            exact ⟨c, e.symm⟩
          rw [hc] at r5 a1
          unfold Rp at r5
          obtain ⟨rfl, rfl⟩ := r5
          refine ⟨c, S, n, rfl, t2, by unfold scanBound; omega, by omega, G5, φ5, wipeE r.2.2 vs, acc ++ [c], _, _, q2, ?_, t1, upd_same, (fun k => ?_), ?_, t3, (ev.trans evB).hid hD, hq4, ?_, a3⟩
          · have := s5.wiped (vs := vs)
            rw [wp] at this
            exact this.hidden t2 set_mut t1 t3 set_mut
          · rw [Bool.or_eq_true_iff, hS, decide_eq_true_iff, List.mem_append, List.mem_singleton]
          · rw [List.length_append]
            split
            · omega
            · simp; omega
          · rw [a1, List.map_append, List.append_assoc]
            rfl
        | false =>
          rw [hb] at hq
          simp only [Bool.false_eq_true, if_false] at hq ⊢
          obtain ⟨t1, t2, t3⟩ := stay evA
          refine ⟨by omega, G4, φ4, wipeE b.2 vs, acc, S, n, q, ?_, t1, t2, hS, nl, t3, ev.trans evA, hq, a1, a3⟩
          have := s4.wiped (vs := vs)
          rw [wp] at this
          exact this
    · cases h2
end Dv
set_option Elab.async false
set_option linter.all false
set_option maxRecDepth 100000
set_option maxHeartbeats 4000000
namespace Dv
open PySem PySem.Spec PyProof.Rows L2 DvR DvF
theorem first_of {k : Int} : ∀ {ns : List Int}, k ∈ ns → ∃ j : Nat, ns[j]? = some k ∧ (∀ m : Nat, m < j → ns[m]? ≠ some k) ∧ ns.eraseIdx j = ns.erase k
  | [], h => nomatch h
  | a :: ns, h => by
    by_cases c : a = k
    · subst c
      exact ⟨0, rfl, fun m hm => absurd hm (Nat.not_lt_zero m), by rw [List.erase_cons_head]; rfl⟩
    · obtain ⟨j, h1, h2, h3⟩ := first_of ((List.mem_cons.mp h).resolve_left fun z => c z.symm)
      refine ⟨j + 1, h1, fun m hm => ?_, ?_⟩
      · cases m with
        | zero => exact fun z => c (by simpa using z)
        | succ m => exact h2 m (by omega)
      · rw [List.eraseIdx_cons_succ, h3, List.erase_cons_tail (by simpa using c)]
def opRemI : OpW := fun w as => match w, as with
  | .lst ws, [.int k] => (intsOf ws).bind fun ns => if ns.length ≤ LIM ∧ k ∈ ns then some (.lst ((ns.erase k).map .int), .non) else none
  | _, _ => none
theorem ok_remI {K : PySem.W.Frag} : OpOk K rRemI opRemI := by
  intro H w v B as us A q r ra nd e
  unfold opRemI at e
  split at e
  · rename_i ws k
    obtain ⟨ns, h1, e⟩ := Option.bind_eq_some_iff.mp e
    split at e
    · rename_i hc
      cases e
      obtain rfl := intsOf_eq h1
      unfold Rp at r
      obtain ⟨l, vs, B0, rfl, hl, rfl, rs⟩ := r
      obtain ⟨x, A', rfl, rx⟩ := rps_one ra
      have eA : A = [] := Rps.imm _ _ _ (by rfl) ra
      subst eA
      unfold Rp at rx
      obtain ⟨rfl, rfl⟩ := rx
      have eB : B0 = [] := Rps.imm _ _ _ (imms_ints ns) rs
      subst eB
      obtain rfl := rp_intsV rs
      obtain ⟨j, j1, j2, j3⟩ := first_of hc.2
      refine ⟨l, _, .lst ((ns.erase k).map V.int), [l], .non, [], rfl, hl, trivial, trivial, List.mem_cons_self .., (fun z => nomatch z), ?_, rp_non', ?_, fun a ha => .inl (by simpa using ha), fun Q hq => ⟨l, ns, k, j, rfl, rfl, hl, j1, j2, ?_⟩⟩
      · unfold Rp
        exact ⟨l, _, [], rfl, upd_same, rfl, rps_ints _⟩
      · simp
      · rw [j3]
        exact hq
    · cases e
  · cases e
theorem sd_remI {K : PySem.W.Frag} {i : Nat} {to : TE} {π : DenP} {t : TA} {g : DenA} (hp : Spt K to i π) (ha : Sa K t g) : Sd K (tBM K "list" rRemI to t) (dOpAt i π opRemI g) := sd_op_at ok_remI (ty_lst fun w as q h => by
  unfold opRemI at h
  split at h
  · exact ⟨_, rfl⟩
  · cases h) hp ha
end Dv
set_option Elab.async false
set_option linter.all false
set_option maxRecDepth 100000
set_option maxHeartbeats 4000000
namespace Lk34
open PySem PySem.Spec PyProof.Rows L2 Dv DvR DvF
def top (i : Nat) : Stmt := PySem.Challenge.pw_pulledpegs_k34_nests_pair_by_pair.main.body.getD i (.Pass ⟨0, 0, 0, 0⟩)
abbrev FnP (K : PySem.W.Frag) (x : Str) (st : Stmt) (f : Addr) (fd : FuncData) : Prop := FunD K x x (defArgs st) (defBody st) (defScope st) [] [] f fd
abbrev s_is_whole : Stmt := top 10
theorem sc_is_whole : FnScope ["thing"] ["thing"] (defScope s_is_whole) := ⟨rfl, rfl, rfl, by decide +kernel, rfl, by decide +kernel, by decide +kernel⟩
abbrev s_do_ascend : Stmt := top 12
theorem sc_do_ascend : FnScope ["items", "one", "other"] ["items"] (defScope s_do_ascend) := ⟨rfl, rfl, rfl, by decide +kernel, rfl, by decide +kernel, by decide +kernel⟩
abbrev s_many_of : Stmt := top 17
theorem sc_many_of : FnScope ["wall"] ["wall"] (defScope s_many_of) := ⟨rfl, rfl, rfl, by decide +kernel, rfl, by decide +kernel, by decide +kernel⟩
abbrev s_slip_of : Stmt := top 18
theorem sc_slip_of : FnScope ["wall", "peg"] ["wall", "peg"] (defScope s_slip_of) := ⟨rfl, rfl, rfl, by decide +kernel, rfl, by decide +kernel, by decide +kernel⟩
abbrev s_has_rail : Stmt := top 19
theorem sc_has_rail : FnScope ["wall", "one", "other"] ["wall", "one", "other"] (defScope s_has_rail) := ⟨rfl, rfl, rfl, by decide +kernel, rfl, by decide +kernel, by decide +kernel⟩
abbrev s_is_within : Stmt := top 22
theorem sc_is_within : FnScope ["one", "other", "peg"] ["one", "other"] (defScope s_is_within) := ⟨rfl, rfl, rfl, by decide +kernel, rfl, by decide +kernel, by decide +kernel⟩
abbrev s_back_of : Stmt := top 27
theorem sc_back_of : FnScope ["cord", "peg", "winds"] ["cord"] (defScope s_back_of) := ⟨rfl, rfl, rfl, by decide +kernel, rfl, by decide +kernel, by decide +kernel⟩
abbrev s_on_set : Stmt := top 29
theorem sc_on_set : FnScope ["cord", "kept", "pair"] ["cord", "kept"] (defScope s_on_set) := ⟨rfl, rfl, rfl, by decide +kernel, rfl, by decide +kernel, by decide +kernel⟩
abbrev s_Sliding___init__ : Stmt := (clsB (top 31)).getD 0 (.Pass ⟨0, 0, 0, 0⟩)
theorem sc_Sliding___init__ : FnScope ["self", "wall", "cord"] ["self", "wall", "cord"] (defScope s_Sliding___init__) := ⟨rfl, rfl, rfl, by decide +kernel, rfl, by decide +kernel, by decide +kernel⟩
abbrev s_all_sets : Stmt := top 38
theorem sc_all_sets : FnScope ["pegs", "size", "kept"] ["pegs"] (defScope s_all_sets) := ⟨rfl, rfl, rfl, by decide +kernel, rfl, by decide +kernel, by decide +kernel⟩
abbrev s__law_deck : Stmt := top 60
theorem sc__law_deck : FnScope ["script", "mixed", "cell"] ["script"] (defScope s__law_deck) := ⟨rfl, rfl, rfl, by decide +kernel, rfl, by decide +kernel, by decide +kernel⟩
abbrev s__law_draw : Stmt := top 61
theorem sc__law_draw : FnScope ["deck", "many", "figure", "cell"] ["deck", "many"] (defScope s__law_draw) := ⟨rfl, rfl, rfl, by decide +kernel, rfl, by decide +kernel, by decide +kernel⟩
abbrev s__law_web : Stmt := top 64
theorem sc__law_web : FnScope ["wall", "slips", "rails", "near", "i", "j"] ["wall"] (defScope s__law_web) := ⟨rfl, rfl, rfl, by decide +kernel, rfl, by decide +kernel, by decide +kernel⟩
abbrev s__law_keeps : Stmt := top 65
theorem sc__law_keeps : FnScope ["web", "cord", "pegs", "slips", "near", "piles", "winds_of", "peg_of", "left", "peg", "winds", "pile", "number", "other"] ["web", "cord", "pegs"] (defScope s__law_keeps) := ⟨rfl, rfl, rfl, by decide +kernel, rfl, by decide +kernel, by decide +kernel⟩
abbrev s__law_back : Stmt := top 67
theorem sc__law_back : FnScope ["cord", "peg", "winds"] ["cord"] (defScope s__law_back) := ⟨rfl, rfl, rfl, by decide +kernel, rfl, by decide +kernel, by decide +kernel⟩
abbrev s__law_same : Stmt := top 69
theorem sc__law_same : FnScope ["told", "due"] ["told", "due"] (defScope s__law_same) := ⟨rfl, rfl, rfl, by decide +kernel, rfl, by decide +kernel, by decide +kernel⟩
abbrev s_is_between : Stmt := top 11
theorem sc_is_between : FnScope ["thing", "least", "most"] ["thing", "least", "most"] (defScope s_is_between) := ⟨rfl, rfl, rfl, by decide +kernel, rfl, by decide +kernel, by decide +kernel⟩
abbrev s_swap_of : Stmt := top 28
theorem sc_swap_of : FnScope ["one", "other"] ["one", "other"] (defScope s_swap_of) := ⟨rfl, rfl, rfl, by decide +kernel, rfl, by decide +kernel, by decide +kernel⟩
abbrev s_Sliding_place_to_join : Stmt := (clsB (top 31)).getD 2 (.Pass ⟨0, 0, 0, 0⟩)
theorem sc_Sliding_place_to_join : FnScope ["self", "at", "peg", "place", "other"] ["self", "at"] (defScope s_Sliding_place_to_join) := ⟨rfl, rfl, rfl, by decide +kernel, rfl, by decide +kernel, by decide +kernel⟩
abbrev s_free_places : Stmt := top 33
theorem sc_free_places : FnScope ["wall", "cord", "found", "at", "peg", "winds", "other", "more"] ["wall", "cord"] (defScope s_free_places) := ⟨rfl, rfl, rfl, by decide +kernel, rfl, by decide +kernel, by decide +kernel⟩
abbrev s_does_rule_keep : Stmt := top 39
theorem sc_does_rule_keep : FnScope ["rule", "kept", "pegs"] ["rule", "kept"] (defScope s_does_rule_keep) := ⟨rfl, rfl, rfl, by decide +kernel, rfl, by decide +kernel, by decide +kernel⟩
abbrev s__law_pick : Stmt := top 62
theorem sc__law_pick : FnScope ["deck", "some"] ["deck", "some"] (defScope s__law_pick) := ⟨rfl, rfl, rfl, by decide +kernel, rfl, by decide +kernel, by decide +kernel⟩
abbrev s__law_nest : Stmt := top 68
theorem sc__law_nest : FnScope ["order", "found", "peg"] ["order"] (defScope s__law_nest) := ⟨rfl, rfl, rfl, by decide +kernel, rfl, by decide +kernel, by decide +kernel⟩
abbrev s_is_slip : Stmt := top 13
theorem sc_is_slip : FnScope ["thing"] ["thing"] (defScope s_is_slip) := ⟨rfl, rfl, rfl, by decide +kernel, rfl, by decide +kernel, by decide +kernel⟩
abbrev s_is_rail : Stmt := top 14
theorem sc_is_rail : FnScope ["many", "thing"] ["many", "thing"] (defScope s_is_rail) := ⟨rfl, rfl, rfl, by decide +kernel, rfl, by decide +kernel, by decide +kernel⟩
abbrev s_is_set_value : Stmt := top 20
theorem sc_is_set_value : FnScope ["many", "thing", "peg"] ["many", "thing"] (defScope s_is_set_value) := ⟨rfl, rfl, rfl, by decide +kernel, rfl, by decide +kernel, by decide +kernel⟩
abbrev s_is_pair : Stmt := top 24
theorem sc_is_pair : FnScope ["wall", "thing"] ["wall", "thing"] (defScope s_is_pair) := ⟨rfl, rfl, rfl, by decide +kernel, rfl, by decide +kernel, by decide +kernel⟩
abbrev s_slid_by : Stmt := top 30
theorem sc_slid_by : FnScope ["wall", "cord", "slide", "word", "k", "peg", "winds", "slip", "rest", "other", "more"] ["wall", "cord", "slide"] (defScope s_slid_by) := ⟨rfl, rfl, rfl, by decide +kernel, rfl, by decide +kernel, by decide +kernel⟩
abbrev s_arranged : Stmt := top 34
theorem sc_arranged : FnScope ["wall", "cord", "found", "least", "at"] ["wall", "cord"] (defScope s_arranged) := ⟨rfl, rfl, rfl, by decide +kernel, rfl, by decide +kernel, by decide +kernel⟩
abbrev s_nest_of : Stmt := top 42
theorem sc_nest_of : FnScope ["order", "found", "peg"] ["order"] (defScope s_nest_of) := ⟨rfl, rfl, rfl, by decide +kernel, rfl, by decide +kernel, by decide +kernel⟩
abbrev s_are_pulls : Stmt := top 53
theorem sc_are_pulls : FnScope ["many", "thing", "peg"] ["many", "thing"] (defScope s_are_pulls) := ⟨rfl, rfl, rfl, by decide +kernel, rfl, by decide +kernel, by decide +kernel⟩
abbrev s__law_board : Stmt := top 63
theorem sc__law_board : FnScope ["deck", "n", "plain", "rare", "slips", "rails", "k", "slip", "has", "i", "j"] ["deck", "n"] (defScope s__law_board) := ⟨rfl, rfl, rfl, by decide +kernel, rfl, by decide +kernel, by decide +kernel⟩
abbrev s__law_order : Stmt := top 66
theorem sc__law_order : FnScope ["deck", "web", "most", "pegs", "found", "turn", "some", "peg", "other"] ["deck", "web", "most"] (defScope s__law_order) := ⟨rfl, rfl, rfl, by decide +kernel, rfl, by decide +kernel, by decide +kernel⟩
abbrev s_is_wall_value : Stmt := top 15
theorem sc_is_wall_value : FnScope ["thing", "slip", "rail"] ["thing"] (defScope s_is_wall_value) := ⟨rfl, rfl, rfl, by decide +kernel, rfl, by decide +kernel, by decide +kernel⟩
abbrev s_need_set : Stmt := top 21
theorem sc_need_set : FnScope ["wall", "pegs"] ["wall", "pegs"] (defScope s_need_set) := ⟨rfl, rfl, rfl, by decide +kernel, rfl, by decide +kernel, by decide +kernel⟩
abbrev s_is_cord_value : Stmt := top 25
theorem sc_is_cord_value : FnScope ["wall", "thing", "pair"] ["wall", "thing"] (defScope s_is_cord_value) := ⟨rfl, rfl, rfl, by decide +kernel, rfl, by decide +kernel, by decide +kernel⟩
abbrev s_Sliding_do : Stmt := (clsB (top 31)).getD 1 (.Pass ⟨0, 0, 0, 0⟩)
theorem sc_Sliding_do : FnScope ["self", "word", "k"] ["self", "word", "k"] (defScope s_Sliding_do) := ⟨rfl, rfl, rfl, by decide +kernel, rfl, by decide +kernel, by decide +kernel⟩
abbrev s_is_order : Stmt := top 55
theorem sc_is_order : FnScope ["wall", "thing", "at", "other"] ["wall", "thing"] (defScope s_is_order) := ⟨rfl, rfl, rfl, by decide +kernel, rfl, by decide +kernel, by decide +kernel⟩
abbrev s_need_wall : Stmt := top 16
theorem sc_need_wall : FnScope ["wall"] ["wall"] (defScope s_need_wall) := ⟨rfl, rfl, rfl, by decide +kernel, rfl, by decide +kernel, by decide +kernel⟩
abbrev s_need_cord : Stmt := top 26
theorem sc_need_cord : FnScope ["wall", "cord"] ["wall", "cord"] (defScope s_need_cord) := ⟨rfl, rfl, rfl, by decide +kernel, rfl, by decide +kernel, by decide +kernel⟩
abbrev s_Sliding_turn_if_due : Stmt := (clsB (top 31)).getD 3 (.Pass ⟨0, 0, 0, 0⟩)
theorem sc_Sliding_turn_if_due : FnScope ["self", "at", "slip"] ["self", "at"] (defScope s_Sliding_turn_if_due) := ⟨rfl, rfl, rfl, by decide +kernel, rfl, by decide +kernel, by decide +kernel⟩
abbrev s_Sliding_join_with : Stmt := (clsB (top 31)).getD 4 (.Pass ⟨0, 0, 0, 0⟩)
theorem sc_Sliding_join_with : FnScope ["self", "at", "place", "k", "length"] ["self", "at", "place"] (defScope s_Sliding_join_with) := ⟨rfl, rfl, rfl, by decide +kernel, rfl, by decide +kernel, by decide +kernel⟩
abbrev s_is_cord : Stmt := top 44
theorem sc_is_cord : FnScope ["wall", "thing"] ["wall", "thing"] (defScope s_is_cord) := ⟨rfl, rfl, rfl, by decide +kernel, rfl, by decide +kernel, by decide +kernel⟩
abbrev s_need_one : Stmt := top 45
theorem sc_need_one : FnScope ["wall", "cord"] ["wall", "cord"] (defScope s_need_one) := ⟨rfl, rfl, rfl, by decide +kernel, rfl, by decide +kernel, by decide +kernel⟩
abbrev s_need_two : Stmt := top 46
theorem sc_need_two : FnScope ["wall", "one", "other"] ["wall", "one", "other"] (defScope s_need_two) := ⟨rfl, rfl, rfl, by decide +kernel, rfl, by decide +kernel, by decide +kernel⟩
abbrev s_need_all : Stmt := top 51
theorem sc_need_all : FnScope ["wall", "cord", "kept"] ["wall", "cord", "kept"] (defScope s_need_all) := ⟨rfl, rfl, rfl, by decide +kernel, rfl, by decide +kernel, by decide +kernel⟩
abbrev s_nest : Stmt := top 56
theorem sc_nest : FnScope ["wall", "order"] ["wall", "order"] (defScope s_nest) := ⟨rfl, rfl, rfl, by decide +kernel, rfl, by decide +kernel, by decide +kernel⟩
abbrev s_Sliding_reduce : Stmt := (clsB (top 31)).getD 5 (.Pass ⟨0, 0, 0, 0⟩)
theorem sc_Sliding_reduce : FnScope ["self", "at", "length", "place"] ["self"] (defScope s_Sliding_reduce) := ⟨rfl, rfl, rfl, by decide +kernel, rfl, by decide +kernel, by decide +kernel⟩
abbrev s_back : Stmt := top 47
theorem sc_back : FnScope ["wall", "cord"] ["wall", "cord"] (defScope s_back) := ⟨rfl, rfl, rfl, by decide +kernel, rfl, by decide +kernel, by decide +kernel⟩
abbrev s_behind : Stmt := top 48
theorem sc_behind : FnScope ["wall", "one", "other"] ["wall", "one", "other"] (defScope s_behind) := ⟨rfl, rfl, rfl, by decide +kernel, rfl, by decide +kernel, by decide +kernel⟩
abbrev s_swap : Stmt := top 49
theorem sc_swap : FnScope ["wall", "one", "other"] ["wall", "one", "other"] (defScope s_swap) := ⟨rfl, rfl, rfl, by decide +kernel, rfl, by decide +kernel, by decide +kernel⟩
abbrev s_led : Stmt := top 32
theorem sc_led : FnScope ["wall", "cord", "sliding"] ["wall", "cord"] (defScope s_led) := ⟨rfl, rfl, rfl, by decide +kernel, rfl, by decide +kernel, by decide +kernel⟩
abbrev s_reduced : Stmt := top 35
theorem sc_reduced : FnScope ["wall", "cord"] ["wall", "cord"] (defScope s_reduced) := ⟨rfl, rfl, rfl, by decide +kernel, rfl, by decide +kernel, by decide +kernel⟩
abbrev s_does_keep_raw : Stmt := top 36
theorem sc_does_keep_raw : FnScope ["wall", "cord", "kept"] ["wall", "cord", "kept"] (defScope s_does_keep_raw) := ⟨rfl, rfl, rfl, by decide +kernel, rfl, by decide +kernel, by decide +kernel⟩
abbrev s_rule_by_cord : Stmt := top 40
theorem sc_rule_by_cord : FnScope ["wall", "cord", "form", "found", "kept", "peg", "winds"] ["wall", "cord"] (defScope s_rule_by_cord) := ⟨rfl, rfl, rfl, by decide +kernel, rfl, by decide +kernel, by decide +kernel⟩
abbrev s_does_keep : Stmt := top 52
theorem sc_does_keep : FnScope ["wall", "cord", "kept"] ["wall", "cord", "kept"] (defScope s_does_keep) := ⟨rfl, rfl, rfl, by decide +kernel, rfl, by decide +kernel, by decide +kernel⟩
abbrev s_rule_of : Stmt := top 58
theorem sc_rule_of : FnScope ["wall", "cord"] ["wall", "cord"] (defScope s_rule_of) := ⟨rfl, rfl, rfl, by decide +kernel, rfl, by decide +kernel, by decide +kernel⟩
abbrev s__law_is_told_right : Stmt := top 70
theorem sc__law_is_told_right : FnScope ["deck", "wall", "order", "cord", "pegs", "pulled", "more", "less", "told", "peg"] ["deck", "wall", "order", "cord"] (defScope s__law_is_told_right) := ⟨rfl, rfl, rfl, by decide +kernel, rfl, by decide +kernel, by decide +kernel⟩
abbrev s_law : Stmt := top 71
theorem sc_law : FnScope ["script", "deck", "turn", "wall", "web", "order", "due", "last", "ahead", "one", "other", "pulled", "peg"] ["script"] (defScope s_law) := ⟨rfl, rfl, rfl, by decide +kernel, rfl, by decide +kernel, by decide +kernel⟩
/-- what the top has left -/
structure Tx (w : World) (K : PySem.W.Frag) (mg : Str → Option Value) where
  z : Unit
  a_is_whole : Addr
  fd_is_whole : FuncData
  d_is_whole : FnP K "is_whole" s_is_whole a_is_whole fd_is_whole
  g_is_whole : mg "is_whole" = some (.ref a_is_whole)
  a_do_ascend : Addr
  fd_do_ascend : FuncData
  d_do_ascend : FnP K "do_ascend" s_do_ascend a_do_ascend fd_do_ascend
  g_do_ascend : mg "do_ascend" = some (.ref a_do_ascend)
  a_many_of : Addr
  fd_many_of : FuncData
  d_many_of : FnP K "many_of" s_many_of a_many_of fd_many_of
  g_many_of : mg "many_of" = some (.ref a_many_of)
  a_slip_of : Addr
  fd_slip_of : FuncData
  d_slip_of : FnP K "slip_of" s_slip_of a_slip_of fd_slip_of
  g_slip_of : mg "slip_of" = some (.ref a_slip_of)
  a_has_rail : Addr
  fd_has_rail : FuncData
  d_has_rail : FnP K "has_rail" s_has_rail a_has_rail fd_has_rail
  g_has_rail : mg "has_rail" = some (.ref a_has_rail)
  a_is_within : Addr
  fd_is_within : FuncData
  d_is_within : FnP K "is_within" s_is_within a_is_within fd_is_within
  g_is_within : mg "is_within" = some (.ref a_is_within)
  a_back_of : Addr
  fd_back_of : FuncData
  d_back_of : FnP K "back_of" s_back_of a_back_of fd_back_of
  g_back_of : mg "back_of" = some (.ref a_back_of)
  a_on_set : Addr
  fd_on_set : FuncData
  d_on_set : FnP K "on_set" s_on_set a_on_set fd_on_set
  g_on_set : mg "on_set" = some (.ref a_on_set)
  a_Sliding___init__ : Addr
  fd_Sliding___init__ : FuncData
  d_Sliding___init__ : FunD K "__init__" "Sliding.__init__" (defArgs s_Sliding___init__) (defBody s_Sliding___init__) (defScope s_Sliding___init__) [] [] a_Sliding___init__ fd_Sliding___init__
  a_all_sets : Addr
  fd_all_sets : FuncData
  d_all_sets : FnP K "all_sets" s_all_sets a_all_sets fd_all_sets
  g_all_sets : mg "all_sets" = some (.ref a_all_sets)
  a__law_deck : Addr
  fd__law_deck : FuncData
  d__law_deck : FnP K "_law_deck" s__law_deck a__law_deck fd__law_deck
  g__law_deck : mg "_law_deck" = some (.ref a__law_deck)
  a__law_draw : Addr
  fd__law_draw : FuncData
  d__law_draw : FnP K "_law_draw" s__law_draw a__law_draw fd__law_draw
  g__law_draw : mg "_law_draw" = some (.ref a__law_draw)
  a__law_web : Addr
  fd__law_web : FuncData
  d__law_web : FnP K "_law_web" s__law_web a__law_web fd__law_web
  g__law_web : mg "_law_web" = some (.ref a__law_web)
  a__law_keeps : Addr
  fd__law_keeps : FuncData
  d__law_keeps : FnP K "_law_keeps" s__law_keeps a__law_keeps fd__law_keeps
  g__law_keeps : mg "_law_keeps" = some (.ref a__law_keeps)
  a__law_back : Addr
  fd__law_back : FuncData
  d__law_back : FnP K "_law_back" s__law_back a__law_back fd__law_back
  g__law_back : mg "_law_back" = some (.ref a__law_back)
  a__law_same : Addr
  fd__law_same : FuncData
  d__law_same : FnP K "_law_same" s__law_same a__law_same fd__law_same
  g__law_same : mg "_law_same" = some (.ref a__law_same)
  a_is_between : Addr
  fd_is_between : FuncData
  d_is_between : FnP K "is_between" s_is_between a_is_between fd_is_between
  g_is_between : mg "is_between" = some (.ref a_is_between)
  a_swap_of : Addr
  fd_swap_of : FuncData
  d_swap_of : FnP K "swap_of" s_swap_of a_swap_of fd_swap_of
  g_swap_of : mg "swap_of" = some (.ref a_swap_of)
  a_Sliding_place_to_join : Addr
  fd_Sliding_place_to_join : FuncData
  d_Sliding_place_to_join : FunD K "place_to_join" "Sliding.place_to_join" (defArgs s_Sliding_place_to_join) (defBody s_Sliding_place_to_join) (defScope s_Sliding_place_to_join) [] [] a_Sliding_place_to_join fd_Sliding_place_to_join
  a_free_places : Addr
  fd_free_places : FuncData
  d_free_places : FnP K "free_places" s_free_places a_free_places fd_free_places
  g_free_places : mg "free_places" = some (.ref a_free_places)
  a_does_rule_keep : Addr
  fd_does_rule_keep : FuncData
  d_does_rule_keep : FnP K "does_rule_keep" s_does_rule_keep a_does_rule_keep fd_does_rule_keep
  g_does_rule_keep : mg "does_rule_keep" = some (.ref a_does_rule_keep)
  a__law_pick : Addr
  fd__law_pick : FuncData
  d__law_pick : FnP K "_law_pick" s__law_pick a__law_pick fd__law_pick
  g__law_pick : mg "_law_pick" = some (.ref a__law_pick)
  a__law_nest : Addr
  fd__law_nest : FuncData
  d__law_nest : FnP K "_law_nest" s__law_nest a__law_nest fd__law_nest
  g__law_nest : mg "_law_nest" = some (.ref a__law_nest)
  a_is_slip : Addr
  fd_is_slip : FuncData
  d_is_slip : FnP K "is_slip" s_is_slip a_is_slip fd_is_slip
  g_is_slip : mg "is_slip" = some (.ref a_is_slip)
  a_is_rail : Addr
  fd_is_rail : FuncData
  d_is_rail : FnP K "is_rail" s_is_rail a_is_rail fd_is_rail
  g_is_rail : mg "is_rail" = some (.ref a_is_rail)
  a_is_set_value : Addr
  fd_is_set_value : FuncData
  d_is_set_value : FnP K "is_set_value" s_is_set_value a_is_set_value fd_is_set_value
  g_is_set_value : mg "is_set_value" = some (.ref a_is_set_value)
  a_is_pair : Addr
  fd_is_pair : FuncData
  d_is_pair : FnP K "is_pair" s_is_pair a_is_pair fd_is_pair
  g_is_pair : mg "is_pair" = some (.ref a_is_pair)
  a_slid_by : Addr
  fd_slid_by : FuncData
  d_slid_by : FnP K "slid_by" s_slid_by a_slid_by fd_slid_by
  g_slid_by : mg "slid_by" = some (.ref a_slid_by)
  a_arranged : Addr
  fd_arranged : FuncData
  d_arranged : FnP K "arranged" s_arranged a_arranged fd_arranged
  g_arranged : mg "arranged" = some (.ref a_arranged)
  a_nest_of : Addr
  fd_nest_of : FuncData
  d_nest_of : FnP K "nest_of" s_nest_of a_nest_of fd_nest_of
  g_nest_of : mg "nest_of" = some (.ref a_nest_of)
  a_are_pulls : Addr
  fd_are_pulls : FuncData
  d_are_pulls : FnP K "are_pulls" s_are_pulls a_are_pulls fd_are_pulls
  g_are_pulls : mg "are_pulls" = some (.ref a_are_pulls)
  a__law_board : Addr
  fd__law_board : FuncData
  d__law_board : FnP K "_law_board" s__law_board a__law_board fd__law_board
  g__law_board : mg "_law_board" = some (.ref a__law_board)
  a__law_order : Addr
  fd__law_order : FuncData
  d__law_order : FnP K "_law_order" s__law_order a__law_order fd__law_order
  g__law_order : mg "_law_order" = some (.ref a__law_order)
  a_is_wall_value : Addr
  fd_is_wall_value : FuncData
  d_is_wall_value : FnP K "is_wall_value" s_is_wall_value a_is_wall_value fd_is_wall_value
  g_is_wall_value : mg "is_wall_value" = some (.ref a_is_wall_value)
  a_need_set : Addr
  fd_need_set : FuncData
  d_need_set : FnP K "need_set" s_need_set a_need_set fd_need_set
  g_need_set : mg "need_set" = some (.ref a_need_set)
  a_is_cord_value : Addr
  fd_is_cord_value : FuncData
  d_is_cord_value : FnP K "is_cord_value" s_is_cord_value a_is_cord_value fd_is_cord_value
  g_is_cord_value : mg "is_cord_value" = some (.ref a_is_cord_value)
  a_Sliding_do : Addr
  fd_Sliding_do : FuncData
  d_Sliding_do : FunD K "do" "Sliding.do" (defArgs s_Sliding_do) (defBody s_Sliding_do) (defScope s_Sliding_do) [] [] a_Sliding_do fd_Sliding_do
  a_is_order : Addr
  fd_is_order : FuncData
  d_is_order : FnP K "is_order" s_is_order a_is_order fd_is_order
  g_is_order : mg "is_order" = some (.ref a_is_order)
  a_need_wall : Addr
  fd_need_wall : FuncData
  d_need_wall : FnP K "need_wall" s_need_wall a_need_wall fd_need_wall
  g_need_wall : mg "need_wall" = some (.ref a_need_wall)
  a_need_cord : Addr
  fd_need_cord : FuncData
  d_need_cord : FnP K "need_cord" s_need_cord a_need_cord fd_need_cord
  g_need_cord : mg "need_cord" = some (.ref a_need_cord)
  a_Sliding_turn_if_due : Addr
  fd_Sliding_turn_if_due : FuncData
  d_Sliding_turn_if_due : FunD K "turn_if_due" "Sliding.turn_if_due" (defArgs s_Sliding_turn_if_due) (defBody s_Sliding_turn_if_due) (defScope s_Sliding_turn_if_due) [] [] a_Sliding_turn_if_due fd_Sliding_turn_if_due
  a_Sliding_join_with : Addr
  fd_Sliding_join_with : FuncData
  d_Sliding_join_with : FunD K "join_with" "Sliding.join_with" (defArgs s_Sliding_join_with) (defBody s_Sliding_join_with) (defScope s_Sliding_join_with) [] [] a_Sliding_join_with fd_Sliding_join_with
  a_is_cord : Addr
  fd_is_cord : FuncData
  d_is_cord : FnP K "is_cord" s_is_cord a_is_cord fd_is_cord
  g_is_cord : mg "is_cord" = some (.ref a_is_cord)
  a_need_one : Addr
  fd_need_one : FuncData
  d_need_one : FnP K "need_one" s_need_one a_need_one fd_need_one
  g_need_one : mg "need_one" = some (.ref a_need_one)
  a_need_two : Addr
  fd_need_two : FuncData
  d_need_two : FnP K "need_two" s_need_two a_need_two fd_need_two
  g_need_two : mg "need_two" = some (.ref a_need_two)
  a_need_all : Addr
  fd_need_all : FuncData
  d_need_all : FnP K "need_all" s_need_all a_need_all fd_need_all
  g_need_all : mg "need_all" = some (.ref a_need_all)
  a_nest : Addr
  fd_nest : FuncData
  d_nest : FnP K "nest" s_nest a_nest fd_nest
  g_nest : mg "nest" = some (.ref a_nest)
  a_Sliding_reduce : Addr
  fd_Sliding_reduce : FuncData
  d_Sliding_reduce : FunD K "reduce" "Sliding.reduce" (defArgs s_Sliding_reduce) (defBody s_Sliding_reduce) (defScope s_Sliding_reduce) [] [] a_Sliding_reduce fd_Sliding_reduce
  a_back : Addr
  fd_back : FuncData
  d_back : FnP K "back" s_back a_back fd_back
  g_back : mg "back" = some (.ref a_back)
  a_behind : Addr
  fd_behind : FuncData
  d_behind : FnP K "behind" s_behind a_behind fd_behind
  g_behind : mg "behind" = some (.ref a_behind)
  a_swap : Addr
  fd_swap : FuncData
  d_swap : FnP K "swap" s_swap a_swap fd_swap
  g_swap : mg "swap" = some (.ref a_swap)
  a_led : Addr
  fd_led : FuncData
  d_led : FnP K "led" s_led a_led fd_led
  g_led : mg "led" = some (.ref a_led)
  a_reduced : Addr
  fd_reduced : FuncData
  d_reduced : FnP K "reduced" s_reduced a_reduced fd_reduced
  g_reduced : mg "reduced" = some (.ref a_reduced)
  a_does_keep_raw : Addr
  fd_does_keep_raw : FuncData
  d_does_keep_raw : FnP K "does_keep_raw" s_does_keep_raw a_does_keep_raw fd_does_keep_raw
  g_does_keep_raw : mg "does_keep_raw" = some (.ref a_does_keep_raw)
  a_rule_by_cord : Addr
  fd_rule_by_cord : FuncData
  d_rule_by_cord : FnP K "rule_by_cord" s_rule_by_cord a_rule_by_cord fd_rule_by_cord
  g_rule_by_cord : mg "rule_by_cord" = some (.ref a_rule_by_cord)
  a_does_keep : Addr
  fd_does_keep : FuncData
  d_does_keep : FnP K "does_keep" s_does_keep a_does_keep fd_does_keep
  g_does_keep : mg "does_keep" = some (.ref a_does_keep)
  a_rule_of : Addr
  fd_rule_of : FuncData
  d_rule_of : FnP K "rule_of" s_rule_of a_rule_of fd_rule_of
  g_rule_of : mg "rule_of" = some (.ref a_rule_of)
  a__law_is_told_right : Addr
  fd__law_is_told_right : FuncData
  d__law_is_told_right : FnP K "_law_is_told_right" s__law_is_told_right a__law_is_told_right fd__law_is_told_right
  g__law_is_told_right : mg "_law_is_told_right" = some (.ref a__law_is_told_right)
  a_law : Addr
  fd_law : FuncData
  d_law : FnP K "law" s_law a_law fd_law
  g_law : mg "law" = some (.ref a_law)
  cl_Sliding : Cls K (He.ga K "Sliding")
  na_Sliding_cord : NoAttr K (He.ga K "Sliding") "cord"
  na_Sliding_slides : NoAttr K (He.ga K "Sliding") "slides"
  na_Sliding_wall : NoAttr K (He.ga K "Sliding") "wall"
  me_Sliding_do : Meth K (He.ga K "Sliding") "do" a_Sliding_do
  me_Sliding_join_with : Meth K (He.ga K "Sliding") "join_with" a_Sliding_join_with
  me_Sliding_place_to_join : Meth K (He.ga K "Sliding") "place_to_join" a_Sliding_place_to_join
  me_Sliding_reduce : Meth K (He.ga K "Sliding") "reduce" a_Sliding_reduce
  me_Sliding_turn_if_due : Meth K (He.ga K "Sliding") "turn_if_due" a_Sliding_turn_if_due
  mk_Sliding : Mk K (He.ga K "Sliding") a_Sliding___init__
  gc_Sliding : mg "Sliding" = some (.ref (He.ga K "Sliding"))
  n_all : mg "all" = none
  n_any : mg "any" = none
  n_bool : mg "bool" = none
  n_enumerate : mg "enumerate" = none
  n_int : mg "int" = none
  n_isinstance : mg "isinstance" = none
  n_len : mg "len" = none
  n_list : mg "list" = none
  n_max : mg "max" = none
  n_min : mg "min" = none
  n_range : mg "range" = none
  n_repr : mg "repr" = none
  n_set : mg "set" = none
  n_sorted : mg "sorted" = none
  n_tuple : mg "tuple" = none
  n_zip : mg "zip" = none
  y_combinations : mg "combinations" = some (.type "itertools.combinations")
  t_MOST_PEGS : Tok
  c_MOST_PEGS : mg "MOST_PEGS" = some (.int 10 t_MOST_PEGS)
  t_MOST_SLIP : Tok
  c_MOST_SLIP : mg "MOST_SLIP" = some (.int 30 t_MOST_SLIP)
noncomputable def b_is_whole : DenS := (sRet [] [] (dAnd (dIsi "int" (dVar 0)) (dNot (dIsi "bool" (dVar 0)))))
abbrev N_is_whole : List Str := ["thing"]
noncomputable def F_is_whole : FnD := bodyD (List.length N_is_whole) 1 b_is_whole
noncomputable def b_do_ascend : DenS := (sRet [] [] (dCb kAll (aCons (dLc [1, 2] (iZipW (aCons (dVar 0) (aCons (dSl (dVar 0) (oSome (dC (.int 1))) oNone) aNil))) (gTp 2 (gConsW (gNm 1) (gConsW (gNm 2) gNilW))) bYes (dOp kLt (dVar 1) (dVar 2))) aNil)))
abbrev N_do_ascend : List Str := ["items", "one", "other"]
noncomputable def F_do_ascend : FnD := bodyD (List.length N_do_ascend) 1 b_do_ascend
noncomputable def b_many_of : DenS := (sRet [] [] (dCb kLen (aCons (dOp kIx (dVar 0) (dC (.int 0))) aNil)))
abbrev N_many_of : List Str := ["wall"]
noncomputable def F_many_of : FnD := bodyD (List.length N_many_of) 1 b_many_of
noncomputable def b_slip_of : DenS := (sRet [] [] (dOp kIx (dOp kIx (dVar 0) (dC (.int 0))) (dOp kISub (dVar 1) (dC (.int 1)))))
abbrev N_slip_of : List Str := ["wall", "peg"]
noncomputable def F_slip_of : FnD := bodyD (List.length N_slip_of) 2 b_slip_of
noncomputable def b_has_rail : DenS := (sRet [] [] (dOp (kIn false) (dTup (aCons (dCb kMin2 (aCons (dVar 1) (aCons (dVar 2) aNil))) (aCons (dCb kMax2 (aCons (dVar 1) (aCons (dVar 2) aNil))) aNil))) (dOp kIx (dVar 0) (dC (.int 1)))))
abbrev N_has_rail : List Str := ["wall", "one", "other"]
noncomputable def F_has_rail : FnD := bodyD (List.length N_has_rail) 3 b_has_rail
noncomputable def b_is_within : DenS := (sRet [] [] (dCb kAll (aCons (dLc [2] (iItems (dVar 0)) (gNm 2) bYes (dOp (kIn false) (dVar 2) (dVar 1))) aNil)))
abbrev N_is_within : List Str := ["one", "other", "peg"]
noncomputable def F_is_within : FnD := bodyD (List.length N_is_within) 2 b_is_within
noncomputable def b_back_of : DenS := (sRet [] [] (dCb kTupOf (aCons (dLc [1, 2] (iItems (dRevB (dVar 0))) (gTp 2 (gConsW (gNm 1) (gConsW (gNm 2) gNilW))) bYes (dTup (aCons (dVar 1) (aCons (dOp kISub (dC (.int 0)) (dVar 2)) aNil)))) aNil)))
abbrev N_back_of : List Str := ["cord", "peg", "winds"]
noncomputable def F_back_of : FnD := bodyD (List.length N_back_of) 1 b_back_of
noncomputable def b_on_set : DenS := (sRet [] [] (dCb kTupOf (aCons (dLc [2] (iItems (dVar 0)) (gNm 2) (bTest (dOp (kIn false) (dOp kIx (dVar 2) (dC (.int 0))) (dVar 1))) (dVar 2)) aNil)))
abbrev N_on_set : List Str := ["cord", "kept", "pair"]
noncomputable def F_on_set : FnD := bodyD (List.length N_on_set) 2 b_on_set
noncomputable def b_Sliding___init__ : DenS := (sSeq (sDrop [0] (dSetAt 0 (pVar 0) (opFld "Sliding" "wall") (dVar 1) (dC (.str ("wall" : Str)))))
  (sSeq (sDrop [0] (dSetAt 0 (pVar 0) (opFld "Sliding" "cord") (dVar 2) (dC (.str ("cord" : Str)))))
  (sDrop [0] (dSetAt 0 (pVar 0) (opFld "Sliding" "slides") (dLst aNil) (dC (.str ("slides" : Str)))))))
abbrev N_Sliding___init__ : List Str := ["self", "wall", "cord"]
noncomputable def F_Sliding___init__ : FnM := bodyM (List.length N_Sliding___init__) 2 b_Sliding___init__
noncomputable def b_all_sets : DenS := (sRet [] [] (dLc2 [1, 2] (iR1 (aCons (dOp kAdd (dCb kLen (aCons (dVar 0) aNil)) (dC (.int 1))) aNil)) (gNm 1) bYes (iCmbW (aCons (dVar 0) (aCons (dVar 1) aNil))) [2] (gNm 2) bYes (dVar 2)))
abbrev N_all_sets : List Str := ["pegs", "size", "kept"]
noncomputable def F_all_sets : FnD := bodyD (List.length N_all_sets) 1 b_all_sets
noncomputable def b__law_deck_L1 : DenS := (sAsg [] [] [] 1 (dOp kMod (dCb kIntOf (aCons (dOp kAdd (dOp kAdd (dOp kMul (dVar 1) (dC (.int 69621))) (dOp kMod (dCb kIntOf (aCons (dVar 2) aNil)) (dC (.int 2147483587)))) (dC (.int 29))) aNil)) (dC (.int 2147483629))))
noncomputable def b__law_deck : DenS := (sSeq (sAsg [] [] [] 1 (dC (.int 10898034)))
  (sSeq (sFor [] (iItems (dSl (dVar 0) oNone (oSome (dC (.int 63))))) (gNm 2)
  b__law_deck_L1)
  (sRet [] [] (dDisp (psCons (.inr ("left" : Str)) (dRev (dCb kLstOf (aCons (dSl (dVar 0) oNone (oSome (dC (.int 63)))) aNil))) (psCons (.inr ("mixed" : Str)) (dVar 1) (psCons (.inr ("draws" : Str)) (dC (.int 0)) psNil)))))))
abbrev N__law_deck : List Str := ["script", "mixed", "cell"]
noncomputable def F__law_deck : FnD := bodyD (List.length N__law_deck) 1 b__law_deck
noncomputable def b__law_draw : DenS := (sSeq (sDrop [0] (dSetAt 0 (pVar 0) opDPut (dOp kAdd (dDGet (dVar 0) (dC (.str ("draws" : Str)))) (dC (.int 1))) (dC (.str ("draws" : Str)))))
  (sSeq (sAsg [0] [] [0] 2 (dOp kAdd (dDGet (dVar 0) (dC (.str ("mixed" : Str)))) (dOp kMul (dC (.int 64373)) (dDGet (dVar 0) (dC (.str ("draws" : Str)))))))
  (sSeq (sIf [] (bTest (dOp kNe (dDGet (dVar 0) (dC (.str ("left" : Str)))) (dLst aNil)))
  (sSeq (sAsg [0] [0] [0] 3 (dOpAt 0 (pKey 0 (pVar 0) (dC (.str ("left" : Str)))) opPop aNil))
  (sSeq (sIf [0] (bTest (dOp kGe (dVar 3) (dOp kPow (dC (.int 10)) (dC (.int 18)))))
  (sSeq (sDrop [0] (dOpAt 0 (pKey 0 (pVar 0) (dC (.str ("left" : Str)))) opAppend (aCons (dOp kFdiv (dVar 3) (dCb kMax2 (aCons (dC (.int 2)) (aCons (dVar 1) aNil)))) aNil)))
  (sRet [0] [0] (dOp kMod (dCb kIntOf (aCons (dVar 3) aNil)) (dVar 1))))
  sNext)
  (sAsg [0] [0] [0] 2 (dOp kAdd (dVar 2) (dOp kMod (dCb kIntOf (aCons (dVar 3) aNil)) (dC (.int 2147483587)))))))
  sNext)
  (sSeq (sAsg [0] [0] [0] 2 (dOp kMod (dCb kIntOf (aCons (dOp kAdd (dOp kMul (dVar 2) (dC (.int 48271))) (dC (.int 77))) aNil)) (dC (.int 2147483549))))
  (sSeq (sAsg [0] [] [0] 2 (dOp kMod (dCb kIntOf (aCons (dOp kAdd (dOp kAdd (dOp kMul (dVar 2) (dVar 2)) (dOp kMul (dC (.int 52361)) (dDGet (dVar 0) (dC (.str ("draws" : Str)))))) (dC (.int 19))) aNil)) (dC (.int 2147483399))))
  (sSeq (sAsg [0] [0] [0] 2 (dOp kMod (dCb kIntOf (aCons (dOp kMul (dVar 2) (dC (.int 40014))) aNil)) (dC (.int 2147483563))))
  (sRet [0] [0] (dOp kMod (dCb kIntOf (aCons (dOp kFdiv (dVar 2) (dC (.int 64))) aNil)) (dVar 1)))))))))
abbrev N__law_draw : List Str := ["deck", "many", "figure", "cell"]
noncomputable def F__law_draw : FnM := bodyM (List.length N__law_draw) 1 b__law_draw
noncomputable def b__law_web_L1 : DenS := (sDrop [3] (dOpAt 3 (pVar 3) opAppend (aCons (dLc [5] (iR2 (aCons (dC (.int 1)) (aCons (dOp kAdd (dCb kLen (aCons (dVar 1) aNil)) (dC (.int 1))) aNil))) (gNm 5) (bTest (dOp (kIn true) (dTup (aCons (dCb kMin2 (aCons (dVar 4) (aCons (dVar 5) aNil))) (aCons (dCb kMax2 (aCons (dVar 4) (aCons (dVar 5) aNil))) aNil))) (dVar 2))) (dVar 5)) aNil)))
noncomputable def b__law_web : DenS := (sSeq (sUnpN [] [] [] [1, 2] (dVar 0))
  (sSeq (sAsg [] [] [3] 3 (dLst (aCons (dLst aNil) aNil)))
  (sSeq (sForR [3] (iR2 (aCons (dC (.int 1)) (aCons (dOp kAdd (dCb kLen (aCons (dVar 1) aNil)) (dC (.int 1))) aNil))) (gNm 4)
  b__law_web_L1)
  (sRet [3] [3] (dTup (aCons (dOp kAdd (dLst (aCons (dC (.int 0)) aNil)) (dCb kLstOf (aCons (dVar 1) aNil))) (aCons (dMv 3) aNil)))))))
abbrev N__law_web : List Str := ["wall", "slips", "rails", "near", "i", "j"]
noncomputable def F__law_web : FnD := bodyD (List.length N__law_web) 1 b__law_web
noncomputable def b__law_keeps_L1 : DenS := (sAl 5 11 (dVar 13) fun a k =>
  (sSeqN (sDrop [11, 5, 6, 7] (dOpAt 11 (pVar 11) opAppend (aCons (dVar 12) aNil))) (sFill a k 5 11)))
noncomputable def b__law_keeps_L2 : DenS := (sAl 5 11 (dVar 13) fun a k =>
  (sSeqN (sDrop [11, 5, 6, 7] (dOpAt 11 (pVar 11) opRemI (aCons (dVar 12) aNil))) (sFill a k 5 11)))
noncomputable def b__law_keeps_L3 : DenS := (sIf [5, 6, 7] (bTest (dOp (kIn false) (dVar 9) (dVar 2)))
  (sAl 5 11 (dVar 9) fun a k =>
  (sSeqN (sIf [5, 6] (bAnd (bTest (dOp kNe (dVar 11) (dLst aNil))) (bTest (dOp kEq (dOp kIx (dVar 7) (dOp kIx (dVar 11) (dUn kNeg (dC (.int 1))))) (dVar 9))))
  (sSeqN (sAsg [11, 5, 6, 7] [5, 6, 7] [11, 5, 6, 7] 12 (dOp kIx (dVar 11) (dUn kNeg (dC (.int 1)))))
  (sSeqN (sFill a k 5 11)
  (sAsg [5, 6, 7] [5, 7] [5, 6, 7] 10 (dOp kAdd (dVar 10) (dOp kIx (dVar 6) (dVar 12))))))
  (sSeqN (sFill a k 5 11)
  (sSeq (sAsg [5, 6, 7] [5, 6] [5, 6, 7] 12 (dCb kLen (aCons (dVar 7) aNil)))
  (sSeq (sDrop [5, 6, 7] (dOpAt 7 (pVar 7) opAppend (aCons (dVar 9) aNil)))
  (sSeq (sDrop [5, 6, 7] (dOpAt 6 (pVar 6) opAppend (aCons (dVar 10) aNil)))
  (sSeq (sFor [5, 6, 7] (iItems (dOp kIx (dVar 4) (dVar 9))) (gNm 13)
  b__law_keeps_L1)
  (sAsg [5, 6, 7] [5, 6, 7] [5, 6, 7] 8 (dOp kAdd (dVar 8) (dC (.int 1))))))))))
  (sSeq (sDrop [5, 6, 7] (dSetAt 6 (pVar 6) opSet (dIf (bTest (dOp kEq (dOp kIx (dVar 3) (dVar 9)) (dC (.int 0)))) (dVar 10) (dOp kMod (dCb kIntOf (aCons (dVar 10) aNil)) (dOp kIx (dVar 3) (dVar 9)))) (dVar 12)))
  (sIf [5, 7] (bTest (dOp kEq (dOp kIx (dVar 6) (dVar 12)) (dC (.int 0))))
  (sSeq (sFor [5, 6, 7] (iItems (dOp kIx (dVar 4) (dVar 9))) (gNm 13)
  b__law_keeps_L2)
  (sAsg [5, 6, 7] [5, 6, 7] [5, 6, 7] 8 (dOp kISub (dVar 8) (dC (.int 1)))))
  sNext))))
  sNext)
noncomputable def b__law_keeps : DenS := (sSeq (sUnpN [] [] [] [3, 4] (dVar 0))
  (sSeq (sUnpN [] [] [5, 6, 7] [5, 6, 7, 8] (dTup (aCons (dLc [9] (iItems (dVar 4)) (gNm 9) bYes (dLst aNil)) (aCons (dLst aNil) (aCons (dLst aNil) (aCons (dC (.int 0)) aNil))))))
  (sSeq (sFor [5, 6, 7] (iItems (dVar 1)) (gTp 2 (gConsW (gNm 9) (gConsW (gNm 10) gNilW)))
  b__law_keeps_L3)
  (sRet [5, 6, 7] [5, 6, 7] (dOp kGt (dVar 8) (dC (.int 0)))))))
abbrev N__law_keeps : List Str := ["web", "cord", "pegs", "slips", "near", "piles", "winds_of", "peg_of", "left", "peg", "winds", "pile", "number", "other"]
noncomputable def F__law_keeps : FnD := bodyD (List.length N__law_keeps) 3 b__law_keeps
noncomputable def b__law_back : DenS := (sRet [] [] (dCb kTupOf (aCons (dLc [1, 2] (iItems (dRevB (dVar 0))) (gTp 2 (gConsW (gNm 1) (gConsW (gNm 2) gNilW))) bYes (dTup (aCons (dVar 1) (aCons (dOp kISub (dC (.int 0)) (dVar 2)) aNil)))) aNil)))
abbrev N__law_back : List Str := ["cord", "peg", "winds"]
noncomputable def F__law_back : FnD := bodyD (List.length N__law_back) 1 b__law_back
noncomputable def b__law_same : DenS := (sRet [] [] (dOp kEq (dCb kRepr (aCons (dVar 0) aNil)) (dCb kRepr (aCons (dVar 1) aNil))))
abbrev N__law_same : List Str := ["told", "due"]
noncomputable def F__law_same : FnD := bodyD (List.length N__law_same) 2 b__law_same
noncomputable def b_is_between : DenS := (sRet [] [] (dAnd (dCall F_is_whole (aCons (dVar 0) aNil)) (dChain kLe kLe (dVar 1) (dVar 0) (dVar 2))))
abbrev N_is_between : List Str := ["thing", "least", "most"]
noncomputable def F_is_between : FnD := bodyD (List.length N_is_between) 3 b_is_between
noncomputable def b_swap_of : DenS := (sRet [] [] (dOp kAdd (dOp kAdd (dOp kAdd (dVar 0) (dVar 1)) (dCall F_back_of (aCons (dVar 0) aNil))) (dCall F_back_of (aCons (dVar 1) aNil))))
abbrev N_swap_of : List Str := ["one", "other"]
noncomputable def F_swap_of : FnD := bodyD (List.length N_swap_of) 2 b_swap_of
noncomputable def b_Sliding_place_to_join_L1 : DenS := (sSeq (sAsg [] [] [] 4 (dOp kIx (dOp kIx (dUn (kFld "Sliding" "cord") (dVar 0)) (dVar 3)) (dC (.int 0))))
  (sSeq (sIf [] (bTest (dOp kEq (dVar 4) (dVar 2)))
  (sRet [] [] (dVar 3))
  sNext)
  (sIf [] (bNot (bTest (dCall F_has_rail (aCons (dUn (kFld "Sliding" "wall") (dVar 0)) (aCons (dVar 4) (aCons (dVar 2) aNil))))))
  (sRet [] [] (dC .non))
  sNext)))
noncomputable def b_Sliding_place_to_join : DenS := (sSeq (sAsg [] [] [] 2 (dOp kIx (dOp kIx (dUn (kFld "Sliding" "cord") (dVar 0)) (dVar 1)) (dC (.int 0))))
  (sSeq (sForR [] (iR3 (aCons (dOp kISub (dVar 1) (dC (.int 1))) (aCons (dUn kNeg (dC (.int 1))) (aCons (dUn kNeg (dC (.int 1))) aNil)))) (gNm 3)
  b_Sliding_place_to_join_L1)
  (sRet [] [] (dC .non))))
abbrev N_Sliding_place_to_join : List Str := ["self", "at", "peg", "place", "other"]
noncomputable def F_Sliding_place_to_join : FnD := bodyD (List.length N_Sliding_place_to_join) 2 b_Sliding_place_to_join
noncomputable def b_free_places_L1 : DenS := (sIf [2] (bTest (dCb kAll (aCons (dLc [6, 7] (iItems (dSl (dVar 1) oNone (oSome (dVar 3)))) (gTp 2 (gConsW (gNm 6) (gConsW (gNm 7) gNilW))) bYes (dAnd (dOp kNe (dVar 6) (dVar 4)) (dCall F_has_rail (aCons (dVar 0) (aCons (dVar 6) (aCons (dVar 4) aNil)))))) aNil)))
  (sDrop [2] (dOpAt 2 (pVar 2) opAppend (aCons (dVar 3) aNil)))
  sNext)
noncomputable def b_free_places : DenS := (sSeq (sAsg [] [] [2] 2 (dLst aNil))
  (sSeq (sFor [2] (iEnumT (aCons (dVar 1) aNil)) (gTp 2 (gConsW (gNm 3) (gConsW (gTp 2 (gConsW (gNm 4) (gConsW (gNm 5) gNilW))) gNilW)))
  b_free_places_L1)
  (sRet [2] [2] (dMv 2))))
abbrev N_free_places : List Str := ["wall", "cord", "found", "at", "peg", "winds", "other", "more"]
noncomputable def F_free_places : FnD := bodyD (List.length N_free_places) 2 b_free_places
noncomputable def b_does_rule_keep : DenS := (sRet [] [] (dCb kAny (aCons (dLc [2] (iItems (dVar 0)) (gNm 2) bYes (dCall F_is_within (aCons (dVar 2) (aCons (dVar 1) aNil)))) aNil)))
abbrev N_does_rule_keep : List Str := ["rule", "kept", "pegs"]
noncomputable def F_does_rule_keep : FnD := bodyD (List.length N_does_rule_keep) 2 b_does_rule_keep
noncomputable def b__law_pick : DenS := (sRet [0] [0] (dOp kIx (dVar 1) (dCallM 0 F__law_draw (aCons (dCb kLen (aCons (dVar 1) aNil)) aNil))))
abbrev N__law_pick : List Str := ["deck", "some"]
noncomputable def F__law_pick : FnM := bodyM (List.length N__law_pick) 1 b__law_pick
noncomputable def b__law_nest_L1 : DenS := (sAsg [] [] [] 1 (dOp kAdd (dOp kAdd (dOp kAdd (dVar 1) (dTup (aCons (dTup (aCons (dVar 2) (aCons (dC (.int 1)) aNil))) aNil))) (dCall F__law_back (aCons (dVar 1) aNil))) (dTup (aCons (dTup (aCons (dVar 2) (aCons (dUn kNeg (dC (.int 1))) aNil))) aNil))))
noncomputable def b__law_nest : DenS := (sSeq (sAsg [] [] [] 1 (dTup (aCons (dTup (aCons (dOp kIx (dVar 0) (dC (.int 0))) (aCons (dC (.int 1)) aNil))) aNil)))
  (sSeq (sFor [] (iItems (dSl (dVar 0) (oSome (dC (.int 1))) oNone)) (gNm 2)
  b__law_nest_L1)
  (sRet [] [] (dVar 1))))
abbrev N__law_nest : List Str := ["order", "found", "peg"]
noncomputable def F__law_nest : FnD := bodyD (List.length N__law_nest) 1 b__law_nest
noncomputable def b_is_slip : DenS := (sRet [] [] (dOr (dCall F_is_between (aCons (dVar 0) (aCons (dC (.int 2)) (aCons (dC (.int 30)) aNil)))) (dCall F_is_between (aCons (dVar 0) (aCons (dC (.int 0)) (aCons (dC (.int 0)) aNil))))))
abbrev N_is_slip : List Str := ["thing"]
noncomputable def F_is_slip : FnD := bodyD (List.length N_is_slip) 1 b_is_slip
noncomputable def b_is_rail : DenS := (sSeq (sIf [] (bOr (bNot (bTest (dIsi "tuple" (dVar 1)))) (bTest (dOp kNe (dCb kLen (aCons (dVar 1) aNil)) (dC (.int 2)))))
  (sRet [] [] (dC (.bl false)))
  sNext)
  (sRet [] [] (dAnd (dCall F_is_between (aCons (dOp kIx (dVar 1) (dC (.int 0))) (aCons (dC (.int 1)) (aCons (dVar 0) aNil)))) (dAnd (dCall F_is_between (aCons (dOp kIx (dVar 1) (dC (.int 1))) (aCons (dC (.int 1)) (aCons (dVar 0) aNil)))) (dOp kLt (dOp kIx (dVar 1) (dC (.int 0))) (dOp kIx (dVar 1) (dC (.int 1))))))))
abbrev N_is_rail : List Str := ["many", "thing"]
noncomputable def F_is_rail : FnD := bodyD (List.length N_is_rail) 2 b_is_rail
noncomputable def b_is_set_value : DenS := (sSeq (sIf [] (bOr (bNot (bTest (dIsi "tuple" (dVar 1)))) (bNot (bTest (dCb kAll (aCons (dLc [2] (iItems (dVar 1)) (gNm 2) bYes (dCall F_is_between (aCons (dVar 2) (aCons (dC (.int 1)) (aCons (dVar 0) aNil))))) aNil)))))
  (sRet [] [] (dC (.bl false)))
  sNext)
  (sRet [] [] (dCall F_do_ascend (aCons (dVar 1) aNil))))
abbrev N_is_set_value : List Str := ["many", "thing", "peg"]
noncomputable def F_is_set_value : FnD := bodyD (List.length N_is_set_value) 2 b_is_set_value
noncomputable def b_is_pair : DenS := (sSeq (sIf [] (bOr (bNot (bTest (dIsi "tuple" (dVar 1)))) (bOr (bTest (dOp kNe (dCb kLen (aCons (dVar 1) aNil)) (dC (.int 2)))) (bNot (bTest (dCall F_is_between (aCons (dOp kIx (dVar 1) (dC (.int 0))) (aCons (dC (.int 1)) (aCons (dCall F_many_of (aCons (dVar 0) aNil)) aNil))))))))
  (sRet [] [] (dC (.bl false)))
  sNext)
  (sRet [] [] (dAnd (dCall F_is_whole (aCons (dOp kIx (dVar 1) (dC (.int 1))) aNil)) (dOp kNe (dOp kIx (dVar 1) (dC (.int 1))) (dC (.int 0))))))
abbrev N_is_pair : List Str := ["wall", "thing"]
noncomputable def F_is_pair : FnD := bodyD (List.length N_is_pair) 2 b_is_pair
noncomputable def b_slid_by : DenS := (sSeq (sUnpN [] [] [] [3, 4] (dVar 2))
  (sSeq (sIf [] (bNot (bTest (dCall F_is_between (aCons (dVar 4) (aCons (dC (.int 0)) (aCons (dOp kISub (dCb kLen (aCons (dVar 1) aNil)) (dIf (bTest (dOp kEq (dVar 3) (dC (.str ("turn" : Str))))) (dC (.int 1)) (dC (.int 2)))) aNil))))))
  (sRet [] [] (dC .non))
  sNext)
  (sSeq (sUnpN [] [] [] [5, 6] (dOp kIx (dVar 1) (dVar 4)))
  (sSeq (sIf [] (bTest (dOp kEq (dVar 3) (dC (.str ("turn" : Str)))))
  (sSeq (sAsg [] [] [] 7 (dCall F_slip_of (aCons (dVar 0) (aCons (dVar 5) aNil))))
  (sSeq (sIf [] (bTest (dOp kEq (dVar 7) (dC (.int 0))))
  (sRet [] [] (dC .non))
  sNext)
  (sSeq (sAsg [] [] [] 8 (dOp kMod (dVar 6) (dVar 7)))
  (sRet [] [] (dOp kAdd (dOp kAdd (dSl (dVar 1) oNone (oSome (dVar 4))) (dIf (bTest (dOp kNe (dVar 8) (dC (.int 0)))) (dTup (aCons (dTup (aCons (dVar 5) (aCons (dVar 8) aNil))) aNil)) (dTup aNil))) (dSl (dVar 1) (oSome (dOp kAdd (dVar 4) (dC (.int 1)))) oNone))))))
  sNext)
  (sSeq (sUnpN [] [] [] [9, 10] (dOp kIx (dVar 1) (dOp kAdd (dVar 4) (dC (.int 1)))))
  (sSeq (sIf [] (bTest (dOp kEq (dVar 3) (dC (.str ("past" : Str)))))
  (sSeq (sIf [] (bOr (bTest (dOp kEq (dVar 5) (dVar 9))) (bNot (bTest (dCall F_has_rail (aCons (dVar 0) (aCons (dVar 5) (aCons (dVar 9) aNil)))))))
  (sRet [] [] (dC .non))
  sNext)
  (sRet [] [] (dOp kAdd (dOp kAdd (dSl (dVar 1) oNone (oSome (dVar 4))) (dTup (aCons (dOp kIx (dVar 1) (dOp kAdd (dVar 4) (dC (.int 1)))) (aCons (dOp kIx (dVar 1) (dVar 4)) aNil)))) (dSl (dVar 1) (oSome (dOp kAdd (dVar 4) (dC (.int 2)))) oNone))))
  sNext)
  (sSeq (sIf [] (bTest (dOp kNe (dVar 5) (dVar 9)))
  (sRet [] [] (dC .non))
  sNext)
  (sRet [] [] (dOp kAdd (dOp kAdd (dSl (dVar 1) oNone (oSome (dVar 4))) (dIf (bTest (dOp kNe (dOp kAdd (dVar 6) (dVar 10)) (dC (.int 0)))) (dTup (aCons (dTup (aCons (dVar 5) (aCons (dOp kAdd (dVar 6) (dVar 10)) aNil))) aNil)) (dTup aNil))) (dSl (dVar 1) (oSome (dOp kAdd (dVar 4) (dC (.int 2)))) oNone))))))))))
abbrev N_slid_by : List Str := ["wall", "cord", "slide", "word", "k", "peg", "winds", "slip", "rest", "other", "more"]
noncomputable def F_slid_by : FnD := bodyD (List.length N_slid_by) 3 b_slid_by
noncomputable def b_arranged_L1 : DenS := (sSeq (sUnpN [2] [2] [2] [3, 4] (dCb (kBest false) (aCons (dLc [4] (iItems (dCall F_free_places (aCons (dVar 0) (aCons (dVar 1) aNil)))) (gNm 4) bYes (dTup (aCons (dOp kIx (dVar 1) (dVar 4)) (aCons (dVar 4) aNil)))) aNil)))
  (sSeq (sDrop [2] (dOpAt 2 (pVar 2) opAppend (aCons (dVar 3) aNil)))
  (sAsg [2] [2] [2] 1 (dOp kAdd (dSl (dVar 1) oNone (oSome (dVar 4))) (dSl (dVar 1) (oSome (dOp kAdd (dVar 4) (dC (.int 1)))) oNone)))))
noncomputable def b_arranged : DenS := (sSeq (sAsg [] [] [2] 2 (dLst aNil))
  (sSeq (whileB [2] (bTest (dOp kNe (dVar 1) (dTup aNil)))
  b_arranged_L1 100000)
  (sRet [2] [] (dCb kTupOf (aCons (dVar 2) aNil)))))
abbrev N_arranged : List Str := ["wall", "cord", "found", "least", "at"]
noncomputable def F_arranged : FnD := bodyD (List.length N_arranged) 2 b_arranged
noncomputable def b_nest_of_L1 : DenS := (sAsg [] [] [] 1 (dCall F_swap_of (aCons (dVar 1) (aCons (dTup (aCons (dTup (aCons (dVar 2) (aCons (dC (.int 1)) aNil))) aNil)) aNil))))
noncomputable def b_nest_of : DenS := (sSeq (sAsg [] [] [] 1 (dTup (aCons (dTup (aCons (dOp kIx (dVar 0) (dC (.int 0))) (aCons (dC (.int 1)) aNil))) aNil)))
  (sSeq (sFor [] (iItems (dSl (dVar 0) (oSome (dC (.int 1))) oNone)) (gNm 2)
  b_nest_of_L1)
  (sRet [] [] (dVar 1))))
abbrev N_nest_of : List Str := ["order", "found", "peg"]
noncomputable def F_nest_of : FnD := bodyD (List.length N_nest_of) 1 b_nest_of
noncomputable def b_are_pulls : DenS := (sSeq (sIf [] (bOr (bNot (bTest (dIsi "tuple" (dVar 1)))) (bNot (bTest (dCb kAll (aCons (dLc [2] (iItems (dVar 1)) (gNm 2) bYes (dCall F_is_between (aCons (dVar 2) (aCons (dC (.int 1)) (aCons (dVar 0) aNil))))) aNil)))))
  (sRet [] [] (dC (.bl false)))
  sNext)
  (sRet [] [] (dOp kEq (dCb kLenSet (aCons (dVar 1) aNil)) (dCb kLen (aCons (dVar 1) aNil)))))
abbrev N_are_pulls : List Str := ["many", "thing", "peg"]
noncomputable def F_are_pulls : FnD := bodyD (List.length N_are_pulls) 2 b_are_pulls
noncomputable def b__law_board_L1 : DenS := (sSeq (sPar [4, 5, 0] [4, 5, 0] [4, 5, 0] [7, 8] (aCons (dCallM 0 F__law_pick (aCons (dTup (aCons (dC (.int 2)) (aCons (dC (.int 3)) (aCons (dC (.int 4)) (aCons (dC (.int 2)) (aCons (dC (.int 5)) (aCons (dC (.int 6)) (aCons (dOp kAdd (dC (.int 2)) (dCallM 0 F__law_draw (aCons (dC (.int 29)) aNil))) aNil)))))))) aNil)) (aCons (dCallM 0 F__law_draw (aCons (dC (.int 2)) aNil)) aNil)))
  (sDrop [4, 5, 0] (dOpAt 4 (pVar 4) opAppend (aCons (dIf (bAnd (bTest (dOp kGt (dVar 2) (dC (.int 0)))) (bTest (dOp kEq (dVar 8) (dC (.int 0))))) (dVar 7) (dC (.int 0))) aNil))))
noncomputable def b__law_board_L2 : DenS := (sIf [4, 5, 0] (bAnd (bTest (dOp kEq (dCallM 0 F__law_draw (aCons (dVar 3) aNil)) (dC (.int 0)))) (bTest (dOp kGt (dVar 2) (dC (.int 0)))))
  (sDrop [4, 5, 0] (dOpAt 5 (pVar 5) opAppend (aCons (dTup (aCons (dVar 9) (aCons (dVar 10) aNil))) aNil)))
  sNext)
noncomputable def b__law_board_L3 : DenS := (sForR [4, 5, 0] (iR2 (aCons (dOp kAdd (dVar 9) (dC (.int 1))) (aCons (dOp kAdd (dVar 1) (dC (.int 1))) aNil))) (gNm 10)
  b__law_board_L2)
noncomputable def b__law_board : DenS := (sSeq (sPar [0] [0] [0] [2, 3] (aCons (dCallM 0 F__law_draw (aCons (dC (.int 8)) aNil)) (aCons (dCallM 0 F__law_pick (aCons (dTup (aCons (dC (.int 2)) (aCons (dC (.int 3)) (aCons (dC (.int 4)) (aCons (dC (.int 2)) aNil))))) aNil)) aNil)))
  (sSeq (sPar [0] [0] [4, 5, 0] [4, 5] (aCons (dLst aNil) (aCons (dLst aNil) aNil)))
  (sSeq (sForR [4, 5, 0] (iR1 (aCons (dVar 1) aNil)) (gNm 6)
  b__law_board_L1)
  (sSeq (sForR [4, 5, 0] (iR2 (aCons (dC (.int 1)) (aCons (dOp kAdd (dVar 1) (dC (.int 1))) aNil))) (gNm 9)
  b__law_board_L3)
  (sRet [4, 5, 0] [0] (dTup (aCons (dCb kTupOf (aCons (dVar 4) aNil)) (aCons (dCb kTupOf (aCons (dVar 5) aNil)) aNil))))))))
abbrev N__law_board : List Str := ["deck", "n", "plain", "rare", "slips", "rails", "k", "slip", "has", "i", "j"]
noncomputable def F__law_board : FnM := bodyM (List.length N__law_board) 1 b__law_board
noncomputable def b__law_order_L1 : DenS := (sSeq (sAsg [4, 0] [0] [4, 0] 6 (dLc [7] (iItems (dVar 3)) (gNm 7) (bAnd (bTest (dOp (kIn true) (dVar 7) (dVar 4))) (bTest (dOp kNe (dLc [8] (iItems (dVar 4)) (gNm 8) (bTest (dOp (kIn false) (dVar 8) (dOp kIx (dOp kIx (dVar 1) (dC (.int 1))) (dVar 7)))) (dVar 8)) (dLst aNil)))) (dVar 7)))
  (sIf [4, 0] (bTest (dOp kNe (dVar 6) (dLst aNil)))
  (sDrop [4, 0] (dOpAt 4 (pVar 4) opAppend (aCons (dCallM 0 F__law_pick (aCons (dVar 6) aNil)) aNil)))
  sNext))
noncomputable def b__law_order : DenS := (sSeq (sAsg [0] [0] [0] 3 (dLstRg2 (dC (.int 1)) (dCb kLen (aCons (dOp kIx (dVar 1) (dC (.int 0))) aNil))))
  (sSeq (sAsg [0] [0] [4, 0] 4 (dLst (aCons (dCallM 0 F__law_pick (aCons (dVar 3) aNil)) aNil)))
  (sSeq (sForR [4, 0] (iR1 (aCons (dOp kISub (dVar 2) (dC (.int 1))) aNil)) (gNm 5)
  b__law_order_L1)
  (sRet [4, 0] [0] (dCb kTupOf (aCons (dVar 4) aNil))))))
abbrev N__law_order : List Str := ["deck", "web", "most", "pegs", "found", "turn", "some", "peg", "other"]
noncomputable def F__law_order : FnM := bodyM (List.length N__law_order) 2 b__law_order
noncomputable def b_is_wall_value : DenS := (sSeq (sIf [] (bOr (bNot (bTest (dIsi "tuple" (dVar 0)))) (bOr (bTest (dOp kNe (dCb kLen (aCons (dVar 0) aNil)) (dC (.int 2)))) (bNot (bTest (dIsi "tuple" (dOp kIx (dVar 0) (dC (.int 0))))))))
  (sRet [] [] (dC (.bl false)))
  sNext)
  (sSeq (sIf [] (bOr (bNot (bTest (dChain kLe kLe (dC (.int 1)) (dCb kLen (aCons (dOp kIx (dVar 0) (dC (.int 0))) aNil)) (dC (.int 10))))) (bNot (bTest (dCb kAll (aCons (dLc [1] (iItems (dOp kIx (dVar 0) (dC (.int 0)))) (gNm 1) bYes (dCall F_is_slip (aCons (dVar 1) aNil))) aNil)))))
  (sRet [] [] (dC (.bl false)))
  sNext)
  (sSeq (sIf [] (bOr (bNot (bTest (dIsi "tuple" (dOp kIx (dVar 0) (dC (.int 1)))))) (bNot (bTest (dCb kAll (aCons (dLc [2] (iItems (dOp kIx (dVar 0) (dC (.int 1)))) (gNm 2) bYes (dCall F_is_rail (aCons (dCb kLen (aCons (dOp kIx (dVar 0) (dC (.int 0))) aNil)) (aCons (dVar 2) aNil)))) aNil)))))
  (sRet [] [] (dC (.bl false)))
  sNext)
  (sRet [] [] (dCall F_do_ascend (aCons (dOp kIx (dVar 0) (dC (.int 1))) aNil))))))
abbrev N_is_wall_value : List Str := ["thing", "slip", "rail"]
noncomputable def F_is_wall_value : FnD := bodyD (List.length N_is_wall_value) 1 b_is_wall_value
noncomputable def b_need_set : DenS := (sIf [] (bNot (bTest (dCall F_is_set_value (aCons (dCall F_many_of (aCons (dVar 0) aNil)) (aCons (dVar 1) aNil)))))
  sNever
  sNext)
abbrev N_need_set : List Str := ["wall", "pegs"]
noncomputable def F_need_set : FnD := bodyD (List.length N_need_set) 2 b_need_set
noncomputable def b_is_cord_value : DenS := (sRet [] [] (dAnd (dIsi "tuple" (dVar 1)) (dCb kAll (aCons (dLc [2] (iItems (dVar 1)) (gNm 2) bYes (dCall F_is_pair (aCons (dVar 0) (aCons (dVar 2) aNil)))) aNil))))
abbrev N_is_cord_value : List Str := ["wall", "thing", "pair"]
noncomputable def F_is_cord_value : FnD := bodyD (List.length N_is_cord_value) 2 b_is_cord_value
noncomputable def b_Sliding_do : DenS := (sSeq (sDrop [0] (dSetAt 0 (pVar 0) (opFld "Sliding" "cord") (dCall F_slid_by (aCons (dUn (kFld "Sliding" "wall") (dVar 0)) (aCons (dUn (kFld "Sliding" "cord") (dVar 0)) (aCons (dTup (aCons (dVar 1) (aCons (dVar 2) aNil))) aNil)))) (dC (.str ("cord" : Str)))))
  (sDrop [0] (dOpAt 0 (pFld 0 "Sliding" "slides" (pVar 0)) opAppend (aCons (dTup (aCons (dVar 1) (aCons (dVar 2) aNil))) aNil))))
abbrev N_Sliding_do : List Str := ["self", "word", "k"]
noncomputable def F_Sliding_do : FnM := bodyM (List.length N_Sliding_do) 2 b_Sliding_do
noncomputable def b_is_order_L1 : DenS := (sIf [] (bTest (dCb kAll (aCons (dLc [3] (iItems (dSl (dVar 1) oNone (oSome (dVar 2)))) (gNm 3) bYes (dCall F_has_rail (aCons (dVar 0) (aCons (dOp kIx (dVar 1) (dVar 2)) (aCons (dVar 3) aNil))))) aNil)))
  (sRet [] [] (dC (.bl false)))
  sNext)
noncomputable def b_is_order : DenS := (sSeq (sIf [] (bOr (bNot (bTest (dCall F_are_pulls (aCons (dCall F_many_of (aCons (dVar 0) aNil)) (aCons (dVar 1) aNil))))) (bTest (dOp kEq (dVar 1) (dTup aNil))))
  (sRet [] [] (dC (.bl false)))
  sNext)
  (sSeq (sForR [] (iR2 (aCons (dC (.int 1)) (aCons (dCb kLen (aCons (dVar 1) aNil)) aNil))) (gNm 2)
  b_is_order_L1)
  (sRet [] [] (dC (.bl true)))))
abbrev N_is_order : List Str := ["wall", "thing", "at", "other"]
noncomputable def F_is_order : FnD := bodyD (List.length N_is_order) 2 b_is_order
noncomputable def b_need_wall : DenS := (sIf [] (bNot (bTest (dCall F_is_wall_value (aCons (dVar 0) aNil))))
  sNever
  sNext)
abbrev N_need_wall : List Str := ["wall"]
noncomputable def F_need_wall : FnD := bodyD (List.length N_need_wall) 1 b_need_wall
noncomputable def b_need_cord : DenS := (sIf [] (bNot (bTest (dCall F_is_cord_value (aCons (dVar 0) (aCons (dVar 1) aNil)))))
  sNever
  sNext)
abbrev N_need_cord : List Str := ["wall", "cord"]
noncomputable def F_need_cord : FnD := bodyD (List.length N_need_cord) 2 b_need_cord
noncomputable def b_Sliding_turn_if_due : DenS := (sIf [] (bTest (dOp kLt (dVar 1) (dCb kLen (aCons (dUn (kFld "Sliding" "cord") (dVar 0)) aNil))))
  (sSeq (sAsg [0] [] [0] 2 (dCall F_slip_of (aCons (dUn (kFld "Sliding" "wall") (dVar 0)) (aCons (dOp kIx (dOp kIx (dUn (kFld "Sliding" "cord") (dVar 0)) (dVar 1)) (dC (.int 0))) aNil))))
  (sIf [] (bAnd (bTest (dOp kNe (dVar 2) (dC (.int 0)))) (bNot (bTest (dChain kLt kLt (dC (.int 0)) (dOp kIx (dOp kIx (dUn (kFld "Sliding" "cord") (dVar 0)) (dVar 1)) (dC (.int 1))) (dVar 2)))))
  (sDrop [0] (dMeth "Sliding" "do" 0 F_Sliding_do (aCons (dC (.str ("turn" : Str))) (aCons (dVar 1) aNil))))
  sNext))
  sNext)
abbrev N_Sliding_turn_if_due : List Str := ["self", "at", "slip"]
noncomputable def F_Sliding_turn_if_due : FnM := bodyM (List.length N_Sliding_turn_if_due) 1 b_Sliding_turn_if_due
noncomputable def b_Sliding_join_with_L1 : DenS := (sDrop [0] (dMeth "Sliding" "do" 0 F_Sliding_do (aCons (dC (.str ("past" : Str))) (aCons (dVar 3) aNil))))
noncomputable def b_Sliding_join_with : DenS := (sSeq (sForR [0] (iR3 (aCons (dOp kISub (dVar 1) (dC (.int 1))) (aCons (dVar 2) (aCons (dUn kNeg (dC (.int 1))) aNil)))) (gNm 3)
  b_Sliding_join_with_L1)
  (sSeq (sAsg [0] [] [0] 4 (dCb kLen (aCons (dUn (kFld "Sliding" "cord") (dVar 0)) aNil)))
  (sSeq (sDrop [0] (dMeth "Sliding" "do" 0 F_Sliding_do (aCons (dC (.str ("join" : Str))) (aCons (dVar 2) aNil))))
  (sSeq (sIf [] (bTest (dOp kEq (dCb kLen (aCons (dUn (kFld "Sliding" "cord") (dVar 0)) aNil)) (dOp kISub (dVar 4) (dC (.int 1)))))
  (sDrop [0] (dMeth "Sliding" "turn_if_due" 0 F_Sliding_turn_if_due (aCons (dVar 2) aNil)))
  sNext)
  (sRet [0] [] (dOp kEq (dCb kLen (aCons (dUn (kFld "Sliding" "cord") (dVar 0)) aNil)) (dOp kISub (dVar 4) (dC (.int 1)))))))))
abbrev N_Sliding_join_with : List Str := ["self", "at", "place", "k", "length"]
noncomputable def F_Sliding_join_with : FnM := bodyM (List.length N_Sliding_join_with) 2 b_Sliding_join_with
noncomputable def b_is_cord : DenS := (sSeq (sDrop [] (dCall F_need_wall (aCons (dVar 0) aNil)))
  (sRet [] [] (dCall F_is_cord_value (aCons (dVar 0) (aCons (dVar 1) aNil)))))
abbrev N_is_cord : List Str := ["wall", "thing"]
noncomputable def F_is_cord : FnD := bodyD (List.length N_is_cord) 2 b_is_cord
noncomputable def b_need_one : DenS := (sSeq (sDrop [] (dCall F_need_wall (aCons (dVar 0) aNil)))
  (sDrop [] (dCall F_need_cord (aCons (dVar 0) (aCons (dVar 1) aNil)))))
abbrev N_need_one : List Str := ["wall", "cord"]
noncomputable def F_need_one : FnD := bodyD (List.length N_need_one) 2 b_need_one
noncomputable def b_need_two : DenS := (sSeq (sDrop [] (dCall F_need_wall (aCons (dVar 0) aNil)))
  (sSeq (sDrop [] (dCall F_need_cord (aCons (dVar 0) (aCons (dVar 1) aNil))))
  (sDrop [] (dCall F_need_cord (aCons (dVar 0) (aCons (dVar 2) aNil))))))
abbrev N_need_two : List Str := ["wall", "one", "other"]
noncomputable def F_need_two : FnD := bodyD (List.length N_need_two) 3 b_need_two
noncomputable def b_need_all : DenS := (sSeq (sDrop [] (dCall F_need_wall (aCons (dVar 0) aNil)))
  (sSeq (sDrop [] (dCall F_need_cord (aCons (dVar 0) (aCons (dVar 1) aNil))))
  (sDrop [] (dCall F_need_set (aCons (dVar 0) (aCons (dVar 2) aNil))))))
abbrev N_need_all : List Str := ["wall", "cord", "kept"]
noncomputable def F_need_all : FnD := bodyD (List.length N_need_all) 3 b_need_all
noncomputable def b_nest : DenS := (sSeq (sDrop [] (dCall F_need_wall (aCons (dVar 0) aNil)))
  (sSeq (sIf [] (bNot (bTest (dCall F_is_order (aCons (dVar 0) (aCons (dVar 1) aNil)))))
  sNever
  sNext)
  (sRet [] [] (dCall F_nest_of (aCons (dVar 1) aNil)))))
abbrev N_nest : List Str := ["wall", "order"]
noncomputable def F_nest : FnD := bodyD (List.length N_nest) 2 b_nest
noncomputable def b_Sliding_reduce_L1 : DenS := (sSeq (sAsg [0] [] [0] 2 (dCb kLen (aCons (dUn (kFld "Sliding" "cord") (dVar 0)) aNil)))
  (sSeq (sDrop [0] (dMeth "Sliding" "turn_if_due" 0 F_Sliding_turn_if_due (aCons (dVar 1) aNil)))
  (sIf [] (bTest (dOp kEq (dCb kLen (aCons (dUn (kFld "Sliding" "cord") (dVar 0)) aNil)) (dVar 2)))
  (sSeq (sAsg [0] [] [0] 3 (dMethD "Sliding" "place_to_join" F_Sliding_place_to_join (dVar 0) (aCons (dVar 1) aNil)))
  (sIf [0] (bTest (dOp (kIsN false) (dVar 3) (dC .non)))
  (sAugI [0] [0] 1 (fun i j => i + j) (dC (.int 1)))
  (sIf [0] (bNot (bTest (dMeth "Sliding" "join_with" 0 F_Sliding_join_with (aCons (dVar 1) (aCons (dVar 3) aNil)))))
  (sAsg [0] [0] [0] 1 (dVar 3))
  sNext)))
  sNext)))
noncomputable def b_Sliding_reduce : DenS := (sSeq (sAsg [0] [0] [0] 1 (dC (.int 0)))
  (whileB [] (bTest (dOp kLt (dVar 1) (dCb kLen (aCons (dUn (kFld "Sliding" "cord") (dVar 0)) aNil))))
  b_Sliding_reduce_L1 100000))
abbrev N_Sliding_reduce : List Str := ["self", "at", "length", "place"]
noncomputable def F_Sliding_reduce : FnM := bodyM (List.length N_Sliding_reduce) 0 b_Sliding_reduce
noncomputable def b_back : DenS := (sSeq (sDrop [] (dCall F_need_one (aCons (dVar 0) (aCons (dVar 1) aNil))))
  (sRet [] [] (dCall F_back_of (aCons (dVar 1) aNil))))
abbrev N_back : List Str := ["wall", "cord"]
noncomputable def F_back : FnD := bodyD (List.length N_back) 2 b_back
noncomputable def b_behind : DenS := (sSeq (sDrop [] (dCall F_need_two (aCons (dVar 0) (aCons (dVar 1) (aCons (dVar 2) aNil)))))
  (sRet [] [] (dOp kAdd (dVar 1) (dVar 2))))
abbrev N_behind : List Str := ["wall", "one", "other"]
noncomputable def F_behind : FnD := bodyD (List.length N_behind) 3 b_behind
noncomputable def b_swap : DenS := (sSeq (sDrop [] (dCall F_need_two (aCons (dVar 0) (aCons (dVar 1) (aCons (dVar 2) aNil)))))
  (sRet [] [] (dCall F_swap_of (aCons (dVar 1) (aCons (dVar 2) aNil)))))
abbrev N_swap : List Str := ["wall", "one", "other"]
noncomputable def F_swap : FnD := bodyD (List.length N_swap) 3 b_swap
noncomputable def b_led : DenS := (sSeq (sAsg [] [] [2] 2 (dNew "Sliding" F_Sliding___init__ (aCons (dVar 0) (aCons (dVar 1) aNil))))
  (sSeq (sDrop [2] (dMeth "Sliding" "reduce" 2 F_Sliding_reduce aNil))
  (sRet [2] [] (dTup (aCons (dUn (kFld "Sliding" "cord") (dVar 2)) (aCons (dCb kTupOf (aCons (dUn (kFld "Sliding" "slides") (dVar 2)) aNil)) aNil))))))
abbrev N_led : List Str := ["wall", "cord", "sliding"]
noncomputable def F_led : FnD := bodyD (List.length N_led) 2 b_led
noncomputable def b_reduced : DenS := (sRet [] [] (dCall F_arranged (aCons (dVar 0) (aCons (dOp kIx (dCall F_led (aCons (dVar 0) (aCons (dVar 1) aNil))) (dC (.int 0))) aNil))))
abbrev N_reduced : List Str := ["wall", "cord"]
noncomputable def F_reduced : FnD := bodyD (List.length N_reduced) 2 b_reduced
noncomputable def b_does_keep_raw : DenS := (sRet [] [] (dOp kNe (dOp kIx (dCall F_led (aCons (dVar 0) (aCons (dCall F_on_set (aCons (dVar 1) (aCons (dVar 2) aNil))) aNil))) (dC (.int 0))) (dTup aNil)))
abbrev N_does_keep_raw : List Str := ["wall", "cord", "kept"]
noncomputable def F_does_keep_raw : FnD := bodyD (List.length N_does_keep_raw) 3 b_does_keep_raw
noncomputable def b_rule_by_cord_L1 : DenS := (sIf [] (bAnd (bNot (bTest (dCall F_does_rule_keep (aCons (dVar 3) (aCons (dVar 4) aNil))))) (bTest (dCall F_does_keep_raw (aCons (dVar 0) (aCons (dVar 2) (aCons (dVar 4) aNil))))))
  (sDrop [3] (dOpAt 3 (pVar 3) opAppend (aCons (dVar 4) aNil)))
  sNext)
noncomputable def b_rule_by_cord : DenS := (sSeq (sPar [] [] [3] [2, 3] (aCons (dCall F_reduced (aCons (dVar 0) (aCons (dVar 1) aNil))) (aCons (dLst aNil) aNil)))
  (sSeq (sFor [3] (iItems (dCall F_all_sets (aCons (dCb kTupOf (aCons (dCb kSortSetL (aCons (dLc [5, 6] (iItems (dVar 2)) (gTp 2 (gConsW (gNm 5) (gConsW (gNm 6) gNilW))) bYes (dVar 5)) aNil)) aNil)) aNil))) (gNm 4)
  b_rule_by_cord_L1)
  (sRet [3] [] (dCb kTupOf (aCons (dCb kSorted (aCons (dVar 3) aNil)) aNil)))))
abbrev N_rule_by_cord : List Str := ["wall", "cord", "form", "found", "kept", "peg", "winds"]
noncomputable def F_rule_by_cord : FnD := bodyD (List.length N_rule_by_cord) 2 b_rule_by_cord
noncomputable def b_does_keep : DenS := (sSeq (sDrop [] (dCall F_need_all (aCons (dVar 0) (aCons (dVar 1) (aCons (dVar 2) aNil)))))
  (sRet [] [] (dCall F_does_keep_raw (aCons (dVar 0) (aCons (dVar 1) (aCons (dVar 2) aNil))))))
abbrev N_does_keep : List Str := ["wall", "cord", "kept"]
noncomputable def F_does_keep : FnD := bodyD (List.length N_does_keep) 3 b_does_keep
noncomputable def b_rule_of : DenS := (sSeq (sDrop [] (dCall F_need_one (aCons (dVar 0) (aCons (dVar 1) aNil))))
  (sRet [] [] (dCall F_rule_by_cord (aCons (dVar 0) (aCons (dVar 1) aNil)))))
abbrev N_rule_of : List Str := ["wall", "cord"]
noncomputable def F_rule_of : FnD := bodyD (List.length N_rule_of) 2 b_rule_of
noncomputable def b__law_is_told_right : DenS := (sSeq (sUnpN [0] [0] [0] [4, 5] (dTup (aCons (dCb kTupOf (aCons (dCb kSorted (aCons (dVar 2) aNil)) aNil)) (aCons (dCallM 0 F__law_pick (aCons (dVar 2) aNil)) aNil))))
  (sSeq (sAsg [0] [0] [0] 6 (dCb kTupOf (aCons (dLc [9] (iR2 (aCons (dC (.int 1)) (aCons (dOp kAdd (dCb kLen (aCons (dOp kIx (dVar 1) (dC (.int 0))) aNil)) (dC (.int 1))) aNil))) (gNm 9) (bOr (bTest (dOp (kIn false) (dVar 9) (dVar 4))) (bTest (dOp kEq (dCallM 0 F__law_draw (aCons (dC (.int 2)) aNil)) (dC (.int 0))))) (dVar 9)) aNil)))
  (sSeq (sAsg [0] [0] [0] 7 (dCb kTupOf (aCons (dLc [9] (iItems (dVar 6)) (gNm 9) (bTest (dOp kNe (dVar 9) (dVar 5))) (dVar 9)) aNil)))
  (sSeq (sAsg [0] [0] [0] 8 (dLst (aCons (dCall F_does_keep (aCons (dVar 1) (aCons (dVar 3) (aCons (dVar 4) aNil)))) (aCons (dCall F_does_keep (aCons (dVar 1) (aCons (dVar 3) (aCons (dVar 6) aNil)))) (aCons (dCallK 0 3 [2, 1, 0] [] F_does_keep aNil (aCons (dVar 7) (aCons (dVar 3) (aCons (dVar 1) aNil)))) aNil)))))
  (sRet [0] [0] (dCall F__law_same (aCons (dOp kAdd (dVar 8) (dLst (aCons (dCall F_rule_of (aCons (dVar 1) (aCons (dVar 3) aNil))) aNil))) (aCons (dLst (aCons (dC (.bl true)) (aCons (dC (.bl true)) (aCons (dC (.bl false)) (aCons (dTup (aCons (dVar 4) aNil)) aNil))))) aNil))))))))
abbrev N__law_is_told_right : List Str := ["deck", "wall", "order", "cord", "pegs", "pulled", "more", "less", "told", "peg"]
noncomputable def F__law_is_told_right : FnM := bodyM (List.length N__law_is_told_right) 3 b__law_is_told_right
noncomputable def b_law_L1 : DenS := (sIf [1] (bTest (dCall F__law_keeps (aCons (dVar 4) (aCons (dVar 6) (aCons (dLc [12] (iR2 (aCons (dC (.int 1)) (aCons (dCb kLen (aCons (dOp kIx (dVar 4) (dC (.int 0))) aNil)) aNil))) (gNm 12) (bTest (dOp kNe (dVar 12) (dVar 11))) (dVar 12)) aNil)))))
  (sRet [1] [1] (dC (.bl false)))
  sNext)
noncomputable def b_law_L2 : DenS := (sSeq (sAsg [1] [1] [1] 3 (dCallM 1 F__law_board (aCons (dOp kAdd (dC (.int 1)) (dCallM 1 F__law_draw (aCons (dC (.int 8)) aNil))) aNil)))
  (sSeq (sAsg [1] [1] [1] 4 (dCall F__law_web (aCons (dVar 3) aNil)))
  (sSeq (sAsg [1] [1] [1] 5 (dCallM 1 F__law_order (aCons (dVar 4) (aCons (dCallM 1 F__law_pick (aCons (dTup (aCons (dC (.int 4)) (aCons (dC (.int 3)) (aCons (dC (.int 2)) (aCons (dC (.int 5)) (aCons (dC (.int 1)) (aCons (dC (.int 4)) (aCons (dC (.int 3)) (aCons (dC (.int 6)) (aCons (dC (.int 7)) aNil)))))))))) aNil)) aNil))))
  (sSeq (sAsg [1] [1] [1] 6 (dCall F__law_nest (aCons (dVar 5) aNil)))
  (sSeq (sIf [1] (bNot (bTest (dCall F__law_same (aCons (dLst (aCons (dCall F_nest (aCons (dVar 3) (aCons (dVar 5) aNil))) (aCons (dCallK 0 2 [1, 0] [] F_nest aNil (aCons (dVar 5) (aCons (dVar 3) aNil))) (aCons (dCall F_is_cord (aCons (dVar 3) (aCons (dVar 6) aNil))) aNil)))) (aCons (dLst (aCons (dVar 6) (aCons (dVar 6) (aCons (dC (.bl true)) aNil)))) aNil)))))
  (sRet [1] [1] (dC (.bl false)))
  sNext)
  (sSeq (sAsg [1] [1] [1] 7 (dTup (aCons (dTup (aCons (dOp kIx (dVar 5) (dUn kNeg (dC (.int 1)))) (aCons (dC (.int 1)) aNil))) aNil)))
  (sSeq (sIf [1] (bAnd (bTest (dOp kGt (dCb kLen (aCons (dVar 5) aNil)) (dC (.int 1)))) (bTest (dOp kLt (dCb kLen (aCons (dVar 5) aNil)) (dC (.int 6)))))
  (sSeq (sAsg [1] [1] [1] 8 (dCall F_nest (aCons (dVar 3) (aCons (dSl (dVar 5) oNone (oSome (dUn kNeg (dC (.int 1))))) aNil))))
  (sSeq (sPar [1] [1] [1] [9, 10] (aCons (dCall F_behind (aCons (dVar 3) (aCons (dVar 8) (aCons (dVar 7) aNil)))) (aCons (dCall F_behind (aCons (dVar 3) (aCons (dCall F_back (aCons (dVar 3) (aCons (dVar 8) aNil))) (aCons (dCall F_back (aCons (dVar 3) (aCons (dVar 7) aNil))) aNil)))) aNil)))
  (sIf [1] (bNot (bTest (dCall F__law_same (aCons (dLst (aCons (dCall F_swap (aCons (dVar 3) (aCons (dVar 8) (aCons (dVar 7) aNil)))) (aCons (dCall F_behind (aCons (dVar 3) (aCons (dVar 9) (aCons (dVar 10) aNil)))) aNil))) (aCons (dLst (aCons (dVar 6) (aCons (dVar 6) aNil))) aNil)))))
  (sRet [1] [1] (dC (.bl false)))
  sNext)))
  sNext)
  (sSeq (sIf [1] (bOr (bNot (bTest (dCall F__law_keeps (aCons (dVar 4) (aCons (dCall F_nest (aCons (dVar 3) (aCons (dVar 5) aNil))) (aCons (dVar 5) aNil)))))) (bNot (bTest (dCall F__law_keeps (aCons (dVar 4) (aCons (dVar 6) (aCons (dTupRg2 (dC (.int 1)) (dCb kLen (aCons (dOp kIx (dVar 4) (dC (.int 0))) aNil))) aNil)))))))
  (sRet [1] [1] (dC (.bl false)))
  sNext)
  (sSeq (sFor [1] (iItems (dVar 5)) (gNm 11)
  b_law_L1)
  (sIf [1] (bAnd (bTest (dOp kLt (dCb kLen (aCons (dVar 5) aNil)) (dC (.int 5)))) (bNot (bTest (dCallM 1 F__law_is_told_right (aCons (dVar 3) (aCons (dVar 5) (aCons (dVar 6) aNil)))))))
  (sRet [1] [1] (dC (.bl false)))
  sNext))))))))))
noncomputable def b_law : DenS := (sSeq (sAsg [] [] [1] 1 (dCall F__law_deck (aCons (dVar 0) aNil)))
  (sSeq (sForR [1] (iR1 (aCons (dC (.int 3)) aNil)) (gNm 2)
  b_law_L2)
  (sRet [1] [1] (dC (.bl true)))))
abbrev N_law : List Str := ["script", "deck", "turn", "wall", "web", "order", "due", "last", "ahead", "one", "other", "pulled", "peg"]
noncomputable def F_law : FnD := bodyD (List.length N_law) 1 b_law
section
variable {P : Program} {w : World} {K : PySem.W.Frag} {mg : Str → Option Value} {base : Heap}
theorem Tx.b_is_whole (T : Tx w K mg) : Binds K T.fd_is_whole ["thing"] [] := T.d_is_whole.bindsN fun _ _ _ _ _ _ us hl => match us, hl with | [_], _ => rfl
theorem ok_is_whole (T : Tx w K mg) : FnG P w K mg base CX0 1 T.a_is_whole T.fd_is_whole ["thing"] (spD K 1 F_is_whole) := by
  have sc := sc_is_whole
  refine fn_d' (N := N_is_whole) (n := 1) (k := 0) (b := b_is_whole) T.d_is_whole sc_is_whole rfl (fun cdv A outer s H E hg hr => ?_)
  exact ⟨_, PSs.nox (pss_one (ps_ret (pe_and (pe_callB call_isi (by rfl) T.n_isinstance (by decide +kernel) (pa_cons (pv 0) (pa_cons (pe_bltn (v := .ty "int") (u := .type "int") (by rfl) T.n_int (by decide +kernel) rfl) pa_nil))) (pe_one (pe_not (pe_callB call_isi (by rfl) T.n_isinstance (by decide +kernel) (pa_cons (pv 0) (pa_cons (pe_bltn (v := .ty "bool") (u := .type "bool") (by rfl) T.n_bool (by decide +kernel) rfl) pa_nil)))))))),
    (ss_ret (l := []) (ms := []) (sd_and (sd_isi "int" (sd_var 0)) (sd_not (sd_isi "bool" (sd_var 0)))))⟩
theorem Tx.b_do_ascend (T : Tx w K mg) : Binds K T.fd_do_ascend ["items"] [] := T.d_do_ascend.bindsN fun _ _ _ _ _ _ us hl => match us, hl with | [_], _ => rfl
theorem ok_do_ascend (T : Tx w K mg) : FnG P w K mg base CX0 1 T.a_do_ascend T.fd_do_ascend ["items"] (spD K 1 F_do_ascend) := by
  have sc := sc_do_ascend
  refine fn_d' (N := N_do_ascend) (n := 1) (k := 0) (b := b_do_ascend) T.d_do_ascend sc_do_ascend rfl (fun cdv A outer s H E hg hr => ?_)
  exact ⟨_, PSs.nox (pss_one (ps_ret (pe_callB (cr_all rfl) (by rfl) T.n_all (by decide +kernel) (pa_cons (pe_lc (own := [("one", 1), ("other", 2)]) (by rfl) sc.nd (RZ.pi_zipA (by rfl) T.n_zip (pa_cons (pv 0) (pa_cons (pe_slice sl_W (pv 0) (po_some pe_int) po_none) pa_nil))) (blkOk_by (N := N_do_ascend) (sc := defScope s_do_ascend) (by decide +kernel)) (fun _ _ _ _ _ => (pg_tup rfl (pgs_cons (pg_name (i := 1) sc.nd rfl (by first | exact .inl rfl | exact .inr rfl)) (pgs_cons (pg_name (i := 2) sc.nd rfl (by first | exact .inl rfl | exact .inr rfl)) pgs_nil)))) (fun _ _ _ _ _ => pts_nil) (fun _ _ _ _ _ => (pe_cmpR (op_ltD hr.units) (pv 1) (pv 2) (nomark _)))) pa_nil)))),
    (ss_ret (l := []) (ms := []) (sd_cb w_all (sa_cons (sd_lc (si_zip (sa_cons (sd_var 0) (sa_cons (sd_sl (sd_var 0) (so_some (sd_int 1)) so_none) sa_nil))) (sg_tup (sgs_cons (sg_name 1) (sgs_cons (sg_name 2) sgs_nil))) sb_yes (sd_op w_cmp (sd_var 1) (sd_var 2)) (gok_tup (goks_cons (gok_name (by decide)) (goks_cons (gok_name (by decide)) goks_nil))) (by decide)) sa_nil)))⟩
theorem Tx.b_many_of (T : Tx w K mg) : Binds K T.fd_many_of ["wall"] [] := T.d_many_of.bindsN fun _ _ _ _ _ _ us hl => match us, hl with | [_], _ => rfl
theorem ok_many_of (T : Tx w K mg) : FnG P w K mg base CX0 1 T.a_many_of T.fd_many_of ["wall"] (spD K 1 F_many_of) := by
  have sc := sc_many_of
  refine fn_d' (N := N_many_of) (n := 1) (k := 0) (b := b_many_of) T.d_many_of sc_many_of rfl (fun cdv A outer s H E hg hr => ?_)
  exact ⟨_, PSs.nox (pss_one (ps_ret (pe_callB call_lenW (by rfl) T.n_len (by decide +kernel) (pa_cons (pe_ix ix_seq (pv 0) pe_int (fun _ _ => rfl)) pa_nil)))),
    (ss_ret (l := []) (ms := []) (sd_cb w_len (sa_cons (sd_op w_ix (sd_var 0) (sd_int 0)) sa_nil)))⟩
theorem Tx.b_slip_of (T : Tx w K mg) : Binds K T.fd_slip_of ["wall", "peg"] [] := T.d_slip_of.bindsN fun _ _ _ _ _ _ us hl => match us, hl with | [_, _], _ => rfl
theorem ok_slip_of (T : Tx w K mg) : FnG P w K mg base CX0 1 T.a_slip_of T.fd_slip_of ["wall", "peg"] (spD K 2 F_slip_of) := by
  have sc := sc_slip_of
  refine fn_d' (N := N_slip_of) (n := 2) (k := 0) (b := b_slip_of) T.d_slip_of sc_slip_of rfl (fun cdv A outer s H E hg hr => ?_)
  exact ⟨_, PSs.nox (pss_one (ps_ret (pe_ix ix_seq (pe_ix ix_seq (pv 0) pe_int (fun _ _ => rfl)) (pe_op op_sub (pv 1) pe_int) (fun _ _ => rfl)))),
    (ss_ret (l := []) (ms := []) (sd_op w_ix (sd_op w_ix (sd_var 0) (sd_int 0)) (sd_op w_sub (sd_var 1) (sd_int 1))))⟩
theorem Tx.b_has_rail (T : Tx w K mg) : Binds K T.fd_has_rail ["wall", "one", "other"] [] := T.d_has_rail.bindsN fun _ _ _ _ _ _ us hl => match us, hl with | [_, _, _], _ => rfl
theorem ok_has_rail (T : Tx w K mg) : FnG P w K mg base CX0 1 T.a_has_rail T.fd_has_rail ["wall", "one", "other"] (spD K 3 F_has_rail) := by
  have sc := sc_has_rail
  refine fn_d' (N := N_has_rail) (n := 3) (k := 0) (b := b_has_rail) T.d_has_rail sc_has_rail rfl (fun cdv A outer s H E hg hr => ?_)
  exact ⟨_, PSs.nox (pss_one (ps_ret (pe_cmpR (op_inD hr.units) (pe_tup (pa_cons (pe_callB (call_min2 rfl) (by rfl) T.n_min (by decide +kernel) (pa_cons (pv 1) (pa_cons (pv 2) pa_nil))) (pa_cons (pe_callB (call_max2 rfl) (by rfl) T.n_max (by decide +kernel) (pa_cons (pv 1) (pa_cons (pv 2) pa_nil))) pa_nil))) (pe_ix ix_seq (pv 0) pe_int (fun _ _ => rfl)) (by rfl)))),
    (ss_ret (l := []) (ms := []) (sd_op w_in (sd_tup (sa_cons (sd_cb w_min2 (sa_cons (sd_var 1) (sa_cons (sd_var 2) sa_nil))) (sa_cons (sd_cb w_max2 (sa_cons (sd_var 1) (sa_cons (sd_var 2) sa_nil))) sa_nil))) (sd_op w_ix (sd_var 0) (sd_int 1))))⟩
theorem Tx.b_is_within (T : Tx w K mg) : Binds K T.fd_is_within ["one", "other"] [] := T.d_is_within.bindsN fun _ _ _ _ _ _ us hl => match us, hl with | [_, _], _ => rfl
theorem ok_is_within (T : Tx w K mg) : FnG P w K mg base CX0 1 T.a_is_within T.fd_is_within ["one", "other"] (spD K 2 F_is_within) := by
  have sc := sc_is_within
  refine fn_d' (N := N_is_within) (n := 2) (k := 0) (b := b_is_within) T.d_is_within sc_is_within rfl (fun cdv A outer s H E hg hr => ?_)
  exact ⟨_, PSs.nox (pss_one (ps_ret (pe_callB (cr_all rfl) (by rfl) T.n_all (by decide +kernel) (pa_cons (pe_lc (own := [("peg", 2)]) (by rfl) sc.nd (pi_any (pv 0)) (blkOk_by (N := N_is_within) (sc := defScope s_is_within) (by decide +kernel)) (fun _ _ _ _ _ => (pg_name (i := 2) sc.nd rfl (by first | exact .inl rfl | exact .inr rfl))) (fun _ _ _ _ _ => pts_nil) (fun _ _ _ _ _ => (pe_cmpR (op_inD hr.units) (pv 2) (pv 1) (by rfl)))) pa_nil)))),
    (ss_ret (l := []) (ms := []) (sd_cb w_all (sa_cons (sd_lc (si_any (sd_var 0)) (sg_name 2) sb_yes (sd_op w_in (sd_var 2) (sd_var 1)) (gok_name (by decide)) (by decide)) sa_nil)))⟩
theorem Tx.b_back_of (T : Tx w K mg) : Binds K T.fd_back_of ["cord"] [] := T.d_back_of.bindsN fun _ _ _ _ _ _ us hl => match us, hl with | [_], _ => rfl
theorem ok_back_of (T : Tx w K mg) : FnG P w K mg base CX0 1 T.a_back_of T.fd_back_of ["cord"] (spD K 1 F_back_of) := by
  have sc := sc_back_of
  refine fn_d' (N := N_back_of) (n := 1) (k := 0) (b := b_back_of) T.d_back_of sc_back_of rfl (fun cdv A outer s H E hg hr => ?_)
  exact ⟨_, PSs.nox (pss_one (ps_ret (pe_callTy call_tuple_of (by rfl) T.n_tuple (by decide +kernel) (pa_cons (pe_lc (own := [("peg", 1), ("winds", 2)]) (by rfl) sc.nd (pi_any (pe_revB (pv 0))) (blkOk_by (N := N_back_of) (sc := defScope s_back_of) (by decide +kernel)) (fun _ _ _ _ _ => (pg_tup rfl (pgs_cons (pg_name (i := 1) sc.nd rfl (by first | exact .inl rfl | exact .inr rfl)) (pgs_cons (pg_name (i := 2) sc.nd rfl (by first | exact .inl rfl | exact .inr rfl)) pgs_nil)))) (fun _ _ _ _ _ => pts_nil) (fun _ _ _ _ _ => (pe_tup (pa_cons (pv 1) (pa_cons (pe_op op_sub pe_int (pv 2)) pa_nil))))) pa_nil)))),
    (ss_ret (l := []) (ms := []) (sd_cb w_tupOf (sa_cons (sd_lc (si_any (sd_revB (sd_var 0))) (sg_tup (sgs_cons (sg_name 1) (sgs_cons (sg_name 2) sgs_nil))) sb_yes (sd_tup (sa_cons (sd_var 1) (sa_cons (sd_op w_sub (sd_int 0) (sd_var 2)) sa_nil))) (gok_tup (goks_cons (gok_name (by decide)) (goks_cons (gok_name (by decide)) goks_nil))) (by decide)) sa_nil)))⟩
theorem Tx.b_on_set (T : Tx w K mg) : Binds K T.fd_on_set ["cord", "kept"] [] := T.d_on_set.bindsN fun _ _ _ _ _ _ us hl => match us, hl with | [_, _], _ => rfl
theorem ok_on_set (T : Tx w K mg) : FnG P w K mg base CX0 1 T.a_on_set T.fd_on_set ["cord", "kept"] (spD K 2 F_on_set) := by
  have sc := sc_on_set
  refine fn_d' (N := N_on_set) (n := 2) (k := 0) (b := b_on_set) T.d_on_set sc_on_set rfl (fun cdv A outer s H E hg hr => ?_)
  exact ⟨_, PSs.nox (pss_one (ps_ret (pe_callTy call_tuple_of (by rfl) T.n_tuple (by decide +kernel) (pa_cons (pe_lc (own := [("pair", 2)]) (by rfl) sc.nd (pi_any (pv 0)) (blkOk_by (N := N_on_set) (sc := defScope s_on_set) (by decide +kernel)) (fun _ _ _ _ _ => (pg_name (i := 2) sc.nd rfl (by first | exact .inl rfl | exact .inr rfl))) (fun _ _ _ _ _ => (pts_one (pt_cmpR (op_inD hr.units) (pe_ix ix_seq (pv 2) pe_int (fun _ _ => rfl)) (pv 1) (by rfl)))) (fun _ _ _ _ _ => (pv 2))) pa_nil)))),
    (ss_ret (l := []) (ms := []) (sd_cb w_tupOf (sa_cons (sd_lc (si_any (sd_var 0)) (sg_name 2) (sb_test (sd_op w_in (sd_op w_ix (sd_var 2) (sd_int 0)) (sd_var 1))) (sd_var 2) (gok_name (by decide)) (by decide)) sa_nil)))⟩
theorem Tx.b_Sliding___init__ (T : Tx w K mg) : Binds K T.fd_Sliding___init__ ["self", "wall", "cord"] [] := T.d_Sliding___init__.bindsN fun _ _ _ _ _ _ us hl => match us, hl with | [_, _, _], _ => rfl
theorem ok_Sliding___init__ (T : Tx w K mg) : FnG P w K mg base CX0 1 T.a_Sliding___init__ T.fd_Sliding___init__ ["self", "wall", "cord"] (spM K 2 F_Sliding___init__) := by
  have sc := sc_Sliding___init__
  refine fn_m' (N := N_Sliding___init__) (n := 2) (k := 0) (b := b_Sliding___init__) T.d_Sliding___init__ sc_Sliding___init__ rfl (fun cdv A outer s H E hg hr => ?_)
  exact ⟨_, PSs.nox (pss_cons (ps_fld (pv 0) (pv 1) rfl)
  (pss_cons (ps_fld (pv 0) (pv 2) rfl)
  (pss_one (ps_fld (pv 0) (pe_lst pa_nil) rfl)))),
    (ss_seq (l1 := [0]) (ss_fld (ms := [0]) T.cl_Sliding T.na_Sliding_wall (sd_var 1) (spt_var 0))
  (ss_seq (l1 := [0]) (ss_fld (ms := [0]) T.cl_Sliding T.na_Sliding_cord (sd_var 2) (spt_var 0))
  (ss_fld (ms := [0]) T.cl_Sliding T.na_Sliding_slides (sd_lst sa_nil) (spt_var 0))))⟩
theorem Tx.b_all_sets (T : Tx w K mg) : Binds K T.fd_all_sets ["pegs"] [] := T.d_all_sets.bindsN fun _ _ _ _ _ _ us hl => match us, hl with | [_], _ => rfl
theorem ok_all_sets (T : Tx w K mg) : FnG P w K mg base CX0 1 T.a_all_sets T.fd_all_sets ["pegs"] (spD K 1 F_all_sets) := by
  have sc := sc_all_sets
  refine fn_d' (N := N_all_sets) (n := 1) (k := 0) (b := b_all_sets) T.d_all_sets sc_all_sets rfl (fun cdv A outer s H E hg hr => ?_)
  exact ⟨_, PSs.nox (pss_one (ps_ret (pe_lc2 (own := [("size", 1), ("kept", 2)]) (vs1 := [2]) (by rfl) sc.nd (pi_range1 (by rfl) T.n_range (pa_cons (pe_op op_addW (pe_callB call_lenW (by rfl) T.n_len (by decide +kernel) (pa_cons (pv 0) pa_nil)) pe_int) pa_nil)) (blkOk_by (N := N_all_sets) (sc := defScope s_all_sets) (by decide +kernel)) (by decide) (fun _ _ _ _ _ => (pg_name (i := 1) sc.nd rfl (by first | exact .inl rfl | exact .inr rfl))) (fun _ _ _ _ _ => pts_nil) (fun _ _ _ _ _ => (DvC.pi_cmb (by rfl) T.y_combinations (pa_cons (pv 0) (pa_cons (pv 1) pa_nil)))) (fun _ _ _ _ _ => (pg_name (i := 2) sc.nd rfl (by first | exact .inl rfl | exact .inr rfl))) (fun _ _ _ _ _ => pts_nil) (fun _ _ _ _ _ => (pv 2))))),
    (ss_ret (l := []) (ms := []) (sd_lc2 (SiR.si (sir_r1 (sa_cons (sd_op w_add (sd_cb w_len (sa_cons (sd_var 0) sa_nil)) (sd_int 1)) sa_nil))) (sg_name 1) sb_yes (si_cmb (sa_cons (sd_var 0) (sa_cons (sd_var 1) sa_nil))) (sg_name 2) sb_yes (sd_var 2) (gok_name (by decide)) (gok_name (by decide)) (by decide) (by decide) (by decide)))⟩
theorem Tx.b__law_deck (T : Tx w K mg) : Binds K T.fd__law_deck ["script"] [] := T.d__law_deck.bindsN fun _ _ _ _ _ _ us hl => match us, hl with | [_], _ => rfl
theorem ok__law_deck (T : Tx w K mg) : FnG P w K mg base CX0 1 T.a__law_deck T.fd__law_deck ["script"] (spD K 1 F__law_deck) := by
  have sc := sc__law_deck
  refine fn_d' (N := N__law_deck) (n := 1) (k := 0) (b := b__law_deck) T.d__law_deck sc__law_deck rfl (fun cdv A outer s H E hg hr => ?_)
  exact ⟨_, PSs.nox (pss_cons (ps_set (i := 1) sc.nd rfl (by first | exact .inl rfl | exact .inr rfl) pe_int)
  (pss_cons (ps_for PassesOwn.never rfl (pi_any (pe_slice sl_W (pv 0) po_none (po_some pe_int))) (pg_name (i := 2) sc.nd rfl (by first | exact .inl rfl | exact .inr rfl))
  (pss_one (ps_set (i := 1) sc.nd rfl (by first | exact .inl rfl | exact .inr rfl) (pe_op op_modN (pe_callTy call_int1 (by rfl) T.n_int (by decide +kernel) (pa_cons (pe_op op_addW (pe_op op_addW (pe_op op_mulW2 (pv 1) pe_int) (pe_op op_modN (pe_callTy call_int1 (by rfl) T.n_int (by decide +kernel) (pa_cons (pv 2) pa_nil)) pe_int)) pe_int) pa_nil)) pe_int))))
  (pss_one (ps_ret (pe_disp (pps_cons pe_str (pe_revL (pe_callTy call_list_of (by rfl) T.n_list (by decide +kernel) (pa_cons (pe_slice sl_W (pv 0) po_none (po_some pe_int)) pa_nil))) (pps_cons pe_str (pv 1) (pps_cons pe_str pe_int pps_nil))) (by rfl) (by rfl) (fun z => by cases z) (by decide)))))),
    (ss_seq (l1 := []) (ss_asg (l := []) (l' := []) (ms := []) (sd_int 10898034))
  (ss_seq (l1 := []) (ss_for (l := []) (lm := []) (si_any (sd_sl (sd_var 0) so_none (so_some (sd_int 63)))) (sg_name 2)
  (ss_asg (l := []) (l' := []) (ms := []) (sd_op w_mod (sd_cb w_intOf (sa_cons (sd_op w_add (sd_op w_add (sd_op w_mul (sd_var 1) (sd_int 69621)) (sd_op w_mod (sd_cb w_intOf (sa_cons (sd_var 2) sa_nil)) (sd_int 2147483587))) (sd_int 29)) sa_nil)) (sd_int 2147483629))))
  (ss_ret (l := []) (ms := []) (sd_disp (spp_cons (k := (.inr ("left" : Str))) (sd_rev (sd_cb w_lstOf (sa_cons (sd_sl (sd_var 0) so_none (so_some (sd_int 63))) sa_nil))) (spp_cons (k := (.inr ("mixed" : Str))) (sd_var 1) (spp_cons (k := (.inr ("draws" : Str))) (sd_int 0) spp_nil)))))))⟩
theorem Tx.b__law_draw (T : Tx w K mg) : Binds K T.fd__law_draw ["deck", "many"] [] := T.d__law_draw.bindsN fun _ _ _ _ _ _ us hl => match us, hl with | [_, _], _ => rfl
theorem ok__law_draw (T : Tx w K mg) : FnG P w K mg base CX0 1 T.a__law_draw T.fd__law_draw ["deck", "many"] (spM K 1 F__law_draw) := by
  have sc := sc__law_draw
  refine fn_m' (N := N__law_draw) (n := 1) (k := 0) (b := b__law_draw) T.d__law_draw sc__law_draw rfl (fun cdv A outer s H E hg hr => ?_)
  exact ⟨_, PSs.nox (pss_cons (ps_dput (hu_of hr) (pv 0) pe_str (pe_op op_addW (pe_dget (hu_of hr) (pv 0) pe_str (fun _ _ => rfl)) pe_int) rfl)
  (pss_cons (ps_set (i := 2) sc.nd rfl (by first | exact .inl rfl | exact .inr rfl) (pe_op op_addW (pe_dget (hu_of hr) (pv 0) pe_str (fun _ _ => rfl)) (pe_op op_mulW2 pe_int (pe_dget (hu_of hr) (pv 0) pe_str (fun _ _ => rfl)))))
  (pss_cons (ps_if (pt_cmpR (op_neW hr.units) (pe_dget (hu_of hr) (pv 0) pe_str (fun _ _ => rfl)) (pe_lst pa_nil) (nomark _))
  (pss_cons (ps_set (i := 3) sc.nd rfl (by first | exact .inl rfl | exact .inr rfl) (pe_bm0 PySem.F.plainAttrs_list PySem.F.slot_list_pop PySem.F.type_list_pop mt_pop (pe_dget (hu_of hr) (pv 0) pe_str (fun _ _ => rfl))))
  (pss_cons (ps_if (pt_cmpR (op_geD hr.units) (pv 3) (pe_op op_pow pe_int pe_int) (nomark _))
  (pss_cons (ps_expr (pe_bm PySem.F.plainAttrs_list PySem.F.slot_list_append PySem.F.type_list_append mt_append (pe_dget (hu_of hr) (pv 0) pe_str (fun _ _ => rfl)) (pa_cons (pe_op op_fdivN (pv 3) (pe_callB (call_max2 rfl) (by rfl) T.n_max (by decide +kernel) (pa_cons pe_int (pa_cons (pv 1) pa_nil)))) pa_nil)))
  (pss_one (ps_ret (pe_op op_modN (pe_callTy call_int1 (by rfl) T.n_int (by decide +kernel) (pa_cons (pv 3) pa_nil)) (pv 1)))))
  pss_nil)
  (pss_one (ps_set (i := 2) sc.nd rfl (by first | exact .inl rfl | exact .inr rfl) (pe_op op_addW (pv 2) (pe_op op_modN (pe_callTy call_int1 (by rfl) T.n_int (by decide +kernel) (pa_cons (pv 3) pa_nil)) pe_int))))))
  pss_nil)
  (pss_cons (ps_set (i := 2) sc.nd rfl (by first | exact .inl rfl | exact .inr rfl) (pe_op op_modN (pe_callTy call_int1 (by rfl) T.n_int (by decide +kernel) (pa_cons (pe_op op_addW (pe_op op_mulW2 (pv 2) pe_int) pe_int) pa_nil)) pe_int))
  (pss_cons (ps_set (i := 2) sc.nd rfl (by first | exact .inl rfl | exact .inr rfl) (pe_op op_modN (pe_callTy call_int1 (by rfl) T.n_int (by decide +kernel) (pa_cons (pe_op op_addW (pe_op op_addW (pe_op op_mulW2 (pv 2) (pv 2)) (pe_op op_mulW2 pe_int (pe_dget (hu_of hr) (pv 0) pe_str (fun _ _ => rfl)))) pe_int) pa_nil)) pe_int))
  (pss_cons (ps_set (i := 2) sc.nd rfl (by first | exact .inl rfl | exact .inr rfl) (pe_op op_modN (pe_callTy call_int1 (by rfl) T.n_int (by decide +kernel) (pa_cons (pe_op op_mulW2 (pv 2) pe_int) pa_nil)) pe_int))
  (pss_one (ps_ret (pe_op op_modN (pe_callTy call_int1 (by rfl) T.n_int (by decide +kernel) (pa_cons (pe_op op_fdivN (pv 2) pe_int) pa_nil)) (pv 1)))))))))),
    (ss_seq (l1 := [0]) (ss_setD (ms := [0]) (sd_op w_add (sd_dget (sd_var 0) (sd_str ("draws" : Str))) (sd_int 1)) (spt_var 0) (sd_str ("draws" : Str)))
  (ss_seq (l1 := [0]) (ss_asg (l := [0]) (l' := [0]) (ms := []) (sd_op w_add (sd_dget (sd_var 0) (sd_str ("mixed" : Str))) (sd_op w_mul (sd_int 64373) (sd_dget (sd_var 0) (sd_str ("draws" : Str))))))
  (ss_seq (l1 := [0]) (ss_if (l := [0]) (l' := [0]) (ms := []) (sb_test (sd_op w_ne (sd_dget (sd_var 0) (sd_str ("left" : Str))) (sd_lst sa_nil)))
  (ss_seq (l1 := [0]) (ss_asg (l := [0]) (l' := [0]) (ms := [0]) (sd_pop (spt_key (spt_var 0) (sd_str ("left" : Str)))))
  (ss_seq (l1 := [0]) (ss_if (l := [0]) (l' := [0]) (ms := [0]) (sb_test (sd_op w_cmp (sd_var 3) (sd_op w_pow (sd_int 10) (sd_int 18))))
  (ss_seq (l1 := [0]) (ss_drop (ms := [0]) (sd_append (spt_key (spt_var 0) (sd_str ("left" : Str))) (sa_cons (sd_op w_fdiv (sd_var 3) (sd_cb w_max2 (sa_cons (sd_int 2) (sa_cons (sd_var 1) sa_nil)))) sa_nil)))
  (ss_ret (l := [0]) (ms := [0]) (sd_op w_mod (sd_cb w_intOf (sa_cons (sd_var 3) sa_nil)) (sd_var 1))))
  ss_next)
  (ss_asg (l := [0]) (l' := [0]) (ms := [0]) (sd_op w_add (sd_var 2) (sd_op w_mod (sd_cb w_intOf (sa_cons (sd_var 3) sa_nil)) (sd_int 2147483587))))))
  ss_next)
  (ss_seq (l1 := [0]) (ss_asg (l := [0]) (l' := [0]) (ms := [0]) (sd_op w_mod (sd_cb w_intOf (sa_cons (sd_op w_add (sd_op w_mul (sd_var 2) (sd_int 48271)) (sd_int 77)) sa_nil)) (sd_int 2147483549)))
  (ss_seq (l1 := [0]) (ss_asg (l := [0]) (l' := [0]) (ms := []) (sd_op w_mod (sd_cb w_intOf (sa_cons (sd_op w_add (sd_op w_add (sd_op w_mul (sd_var 2) (sd_var 2)) (sd_op w_mul (sd_int 52361) (sd_dget (sd_var 0) (sd_str ("draws" : Str))))) (sd_int 19)) sa_nil)) (sd_int 2147483399)))
  (ss_seq (l1 := [0]) (ss_asg (l := [0]) (l' := [0]) (ms := [0]) (sd_op w_mod (sd_cb w_intOf (sa_cons (sd_op w_mul (sd_var 2) (sd_int 40014)) sa_nil)) (sd_int 2147483563)))
  (ss_ret (l := [0]) (ms := [0]) (sd_op w_mod (sd_cb w_intOf (sa_cons (sd_op w_fdiv (sd_var 2) (sd_int 64)) sa_nil)) (sd_var 1)))))))))⟩
theorem Tx.b__law_web (T : Tx w K mg) : Binds K T.fd__law_web ["wall"] [] := T.d__law_web.bindsN fun _ _ _ _ _ _ us hl => match us, hl with | [_], _ => rfl
theorem ok__law_web (T : Tx w K mg) : FnG P w K mg base CX0 1 T.a__law_web T.fd__law_web ["wall"] (spD K 1 F__law_web) := by
  have sc := sc__law_web
  refine fn_d' (N := N__law_web) (n := 1) (k := 0) (b := b__law_web) T.d__law_web sc__law_web rfl (fun cdv A outer s H E hg hr => ?_)
  exact ⟨_, PSs.nox (pss_cons (ps_asg (pv 0) (pg_un rfl (pgs_cons (pg_name (i := 1) sc.nd rfl (by first | exact .inl rfl | exact .inr rfl)) (pgs_cons (pg_name (i := 2) sc.nd rfl (by first | exact .inl rfl | exact .inr rfl)) pgs_nil))))
  (pss_cons (ps_set (i := 3) sc.nd rfl (by first | exact .inl rfl | exact .inr rfl) (pe_lst (pa_cons (pe_lst pa_nil) pa_nil)))
  (pss_cons (ps_for PassesOwn.never rfl (pi_range2 (by rfl) T.n_range (pa_cons pe_int (pa_cons (pe_op op_addW (pe_callB call_lenW (by rfl) T.n_len (by decide +kernel) (pa_cons (pv 1) pa_nil)) pe_int) pa_nil))) (pg_name (i := 4) sc.nd rfl (by first | exact .inl rfl | exact .inr rfl))
  (pss_one (ps_expr (pe_bm PySem.F.plainAttrs_list PySem.F.slot_list_append PySem.F.type_list_append mt_append (pv 3) (pa_cons (pe_lc (own := [("j", 5)]) (by rfl) sc.nd (pi_range2 (by rfl) T.n_range (pa_cons pe_int (pa_cons (pe_op op_addW (pe_callB call_lenW (by rfl) T.n_len (by decide +kernel) (pa_cons (pv 1) pa_nil)) pe_int) pa_nil))) (blkOk_by (N := N__law_web) (sc := defScope s__law_web) (by decide +kernel)) (fun _ _ _ _ _ => (pg_name (i := 5) sc.nd rfl (by first | exact .inl rfl | exact .inr rfl))) (fun _ _ _ _ _ => (pts_one (pt_cmpR (op_notInD hr.units) (pe_tup (pa_cons (pe_callB (call_min2 rfl) (by rfl) T.n_min (by decide +kernel) (pa_cons (pv 4) (pa_cons (pv 5) pa_nil))) (pa_cons (pe_callB (call_max2 rfl) (by rfl) T.n_max (by decide +kernel) (pa_cons (pv 4) (pa_cons (pv 5) pa_nil))) pa_nil))) (pv 2) (by rfl)))) (fun _ _ _ _ _ => (pv 5))) pa_nil)))))
  (pss_one (ps_ret (pe_tup (pa_cons (pe_op op_addW (pe_lst (pa_cons pe_int pa_nil)) (pe_callTy call_list_of (by rfl) T.n_list (by decide +kernel) (pa_cons (pv 1) pa_nil))) (pa_cons (pv 3) pa_nil)))))))),
    (ss_seq (l1 := []) (ss_unpN (l := []) (l' := []) (ms := []) (sd_var 0) (tn_cons (tn_cons tn_nil)))
  (ss_seq (l1 := [3]) (ss_asg (l := []) (l' := [3]) (ms := []) (sd_lst (sa_cons (sd_lst sa_nil) sa_nil)))
  (ss_seq (l1 := [3]) (ss_forR (l := [3]) (ms := [3]) (sir_r2 (sa_cons (sd_int 1) (sa_cons (sd_op w_add (sd_cb w_len (sa_cons (sd_var 1) sa_nil)) (sd_int 1)) sa_nil))) (sg_name 4)
  (ss_drop (ms := [3]) (sd_append (spt_var 3) (sa_cons (sd_lc (SiR.si (sir_r2 (sa_cons (sd_int 1) (sa_cons (sd_op w_add (sd_cb w_len (sa_cons (sd_var 1) sa_nil)) (sd_int 1)) sa_nil)))) (sg_name 5) (sb_test (sd_op w_in (sd_tup (sa_cons (sd_cb w_min2 (sa_cons (sd_var 4) (sa_cons (sd_var 5) sa_nil))) (sa_cons (sd_cb w_max2 (sa_cons (sd_var 4) (sa_cons (sd_var 5) sa_nil))) sa_nil))) (sd_var 2))) (sd_var 5) (gok_name (by decide)) (by decide)) sa_nil))))
  (ss_ret (l := [3]) (ms := [3]) (sd_tup (sa_cons (sd_op w_add (sd_lst (sa_cons (sd_int 0) sa_nil)) (sd_cb w_lstOf (sa_cons (sd_var 1) sa_nil))) (sa_cons (sd_mv 3) sa_nil)))))))⟩
theorem Tx.b__law_keeps (T : Tx w K mg) : Binds K T.fd__law_keeps ["web", "cord", "pegs"] [] := T.d__law_keeps.bindsN fun _ _ _ _ _ _ us hl => match us, hl with | [_, _, _], _ => rfl
theorem ok__law_keeps (T : Tx w K mg) : FnG P w K mg base CX0 1 T.a__law_keeps T.fd__law_keeps ["web", "cord", "pegs"] (spD K 3 F__law_keeps) := by
  have sc := sc__law_keeps
  refine fn_d' (N := N__law_keeps) (n := 3) (k := 0) (b := b__law_keeps) T.d__law_keeps sc__law_keeps rfl (fun cdv A outer s H E hg hr => ?_)
  exact ⟨_, PSs.nox (pss_cons (ps_asg (pv 0) (pg_un rfl (pgs_cons (pg_name (i := 3) sc.nd rfl (by first | exact .inl rfl | exact .inr rfl)) (pgs_cons (pg_name (i := 4) sc.nd rfl (by first | exact .inl rfl | exact .inr rfl)) pgs_nil))))
  (pss_cons (ps_asg (pe_tup (pa_cons (pe_lc (own := [("peg", 9)]) (by rfl) sc.nd (pi_any (pv 4)) (blkOk_by (N := N__law_keeps) (sc := defScope s__law_keeps) (by decide +kernel)) (fun _ _ _ _ _ => (pg_name (i := 9) sc.nd rfl (by first | exact .inl rfl | exact .inr rfl))) (fun _ _ _ _ _ => pts_nil) (fun _ _ _ _ _ => (pe_lst pa_nil))) (pa_cons (pe_lst pa_nil) (pa_cons (pe_lst pa_nil) (pa_cons pe_int pa_nil))))) (pg_un rfl (pgs_cons (pg_name (i := 5) sc.nd rfl (by first | exact .inl rfl | exact .inr rfl)) (pgs_cons (pg_name (i := 6) sc.nd rfl (by first | exact .inl rfl | exact .inr rfl)) (pgs_cons (pg_name (i := 7) sc.nd rfl (by first | exact .inl rfl | exact .inr rfl)) (pgs_cons (pg_name (i := 8) sc.nd rfl (by first | exact .inl rfl | exact .inr rfl)) pgs_nil))))))
  (pss_cons (ps_for PassesOwn.never rfl (pi_any (pv 1)) (pg_tup rfl (pgs_cons (pg_name (i := 9) sc.nd rfl (by first | exact .inl rfl | exact .inr rfl)) (pgs_cons (pg_name (i := 10) sc.nd rfl (by first | exact .inl rfl | exact .inr rfl)) pgs_nil)))
  (pss_one (ps_if (pt_cmpR (op_inD hr.units) (pv 9) (pv 2) (by rfl))
  (pss_cons (ps_set (i := 11) sc.nd rfl (by first | exact .inl rfl | exact .inr rfl) (pe_ix ix_seq (pv 5) (pv 9) (fun _ _ => rfl)))
  (pss_cons (ps_if (PW.pt (pw_and (pt_cmpR (op_neW hr.units) (pv 11) (pe_lst pa_nil) (nomark _)) (pw_and1 (pt_cmpR (op_eqW hr.units) (pe_ix ix_seq (pv 7) (pe_ix ix_seq (pv 11) (pe_un un_neg pe_int) (fun _ _ => rfl)) (fun _ _ => rfl)) (pv 9) (nomark _)))))
  (pss_cons (ps_set (i := 12) sc.nd rfl (by first | exact .inl rfl | exact .inr rfl) (pe_ix ix_seq (pv 11) (pe_un un_neg pe_int) (fun _ _ => rfl)))
  (pss_one (ps_set (i := 10) sc.nd rfl (by first | exact .inl rfl | exact .inr rfl) (pe_op op_addW (pv 10) (pe_ix ix_seq (pv 6) (pv 12) (fun _ _ => rfl))))))
  (pss_cons (ps_set (i := 12) sc.nd rfl (by first | exact .inl rfl | exact .inr rfl) (pe_callB call_lenW (by rfl) T.n_len (by decide +kernel) (pa_cons (pv 7) pa_nil)))
  (pss_cons (ps_expr (pe_bm PySem.F.plainAttrs_list PySem.F.slot_list_append PySem.F.type_list_append mt_append (pv 7) (pa_cons (pv 9) pa_nil)))
  (pss_cons (ps_expr (pe_bm PySem.F.plainAttrs_list PySem.F.slot_list_append PySem.F.type_list_append mt_append (pv 6) (pa_cons (pv 10) pa_nil)))
  (pss_cons (ps_for PassesOwn.never rfl (pi_any (pe_ix ix_seq (pv 4) (pv 9) (fun _ _ => rfl))) (pg_name (i := 13) sc.nd rfl (by first | exact .inl rfl | exact .inr rfl))
  (pss_cons (ps_set (i := 11) sc.nd rfl (by first | exact .inl rfl | exact .inr rfl) (pe_ix ix_seq (pv 5) (pv 13) (fun _ _ => rfl)))
  (pss_one (ps_expr (pe_bm PySem.F.plainAttrs_list PySem.F.slot_list_append PySem.F.type_list_append mt_append (pv 11) (pa_cons (pv 12) pa_nil))))))
  (pss_one (ps_set (i := 8) sc.nd rfl (by first | exact .inl rfl | exact .inr rfl) (pe_op op_addW (pv 8) pe_int))))))))
  (pss_cons (ps_asg (pe_ifExp (pt_cmpR (op_eqW hr.units) (pe_ix ix_seq (pv 3) (pv 9) (fun _ _ => rfl)) pe_int (nomark _)) (pv 10) (pe_op op_modN (pe_callTy call_int1 (by rfl) T.n_int (by decide +kernel) (pa_cons (pv 10) pa_nil)) (pe_ix ix_seq (pv 3) (pv 9) (fun _ _ => rfl)))) (pg_sub (pv 6) (pv 12) set_list))
  (pss_one (ps_if (pt_cmpR (op_eqW hr.units) (pe_ix ix_seq (pv 6) (pv 12) (fun _ _ => rfl)) pe_int (nomark _))
  (pss_cons (ps_for PassesOwn.never rfl (pi_any (pe_ix ix_seq (pv 4) (pv 9) (fun _ _ => rfl))) (pg_name (i := 13) sc.nd rfl (by first | exact .inl rfl | exact .inr rfl))
  (pss_cons (ps_set (i := 11) sc.nd rfl (by first | exact .inl rfl | exact .inr rfl) (pe_ix ix_seq (pv 5) (pv 13) (fun _ _ => rfl)))
  (pss_one (ps_expr (pe_bm PySem.F.plainAttrs_list PySem.F.slot_list_remove PySem.F.type_list_remove mt_remove (pv 11) (pa_cons (pv 12) pa_nil))))))
  (pss_one (ps_set (i := 8) sc.nd rfl (by first | exact .inl rfl | exact .inr rfl) (pe_op op_sub (pv 8) pe_int))))
  pss_nil)))))
  pss_nil)))
  (pss_one (ps_ret (pe_cmpR (op_gtD hr.units) (pv 8) pe_int (nomark _))))))),
    (ss_seq (l1 := []) (ss_unpN (l := []) (l' := []) (ms := []) (sd_var 0) (tn_cons (tn_cons tn_nil)))
  (ss_seq (l1 := [5, 6, 7]) (ss_unpN (l := []) (l' := [5, 6, 7]) (ms := []) (sd_tup (sa_cons (sd_lc (si_any (sd_var 4)) (sg_name 9) sb_yes (sd_lst sa_nil) (gok_name (by decide)) (by decide)) (sa_cons (sd_lst sa_nil) (sa_cons (sd_lst sa_nil) (sa_cons (sd_int 0) sa_nil))))) (tn_cons (tn_cons (tn_cons (tn_cons tn_nil)))))
  (ss_seq (l1 := [5, 6, 7]) (ss_for (l := [5, 6, 7]) (lm := [5, 6, 7]) (si_any (sd_var 1)) (sg_tup (sgs_cons (sg_name 9) (sgs_cons (sg_name 10) sgs_nil)))
  (ss_if (l := [5, 6, 7]) (l' := [5, 6, 7]) (ms := [5, 6, 7]) (sb_test (sd_op w_in (sd_var 9) (sd_var 2)))
  (ss_al (i := 5) (j := 11) (l := [5, 6, 7]) (l1 := [11, 5, 6, 7]) (sd_var 9) fun _ _ =>
  (ssa_seq2 (l1 := [5, 6, 7]) (ssa_if (l := [11, 5, 6, 7]) (l' := [5, 6, 7]) (ms := [5, 6]) (sb_and (sb_test (sd_op w_ne (sd_var 11) (sd_lst sa_nil))) (sb_test (sd_op w_eq (sd_op w_ix (sd_var 7) (sd_op w_ix (sd_var 11) (sd_un w_neg (sd_int 1)))) (sd_var 9))))
  (ssa_seq (l1 := [11, 5, 6, 7]) (ss_asg (l := [11, 5, 6, 7]) (l' := [11, 5, 6, 7]) (ms := [5, 6, 7]) (sd_op w_ix (sd_var 11) (sd_un w_neg (sd_int 1))))
  (ssa_fill (l1 := [5, 6, 7]) (ss_asg (l := [5, 6, 7]) (l' := [5, 6, 7]) (ms := [5, 7]) (sd_op w_add (sd_var 10) (sd_op w_ix (sd_var 6) (sd_var 12))))))
  (ssa_fill (l1 := [5, 6, 7]) (ss_seq (l1 := [5, 6, 7]) (ss_asg (l := [5, 6, 7]) (l' := [5, 6, 7]) (ms := [5, 6]) (sd_cb w_len (sa_cons (sd_var 7) sa_nil)))
  (ss_seq (l1 := [5, 6, 7]) (ss_drop (ms := [5, 6, 7]) (sd_append (spt_var 7) (sa_cons (sd_var 9) sa_nil)))
  (ss_seq (l1 := [5, 6, 7]) (ss_drop (ms := [5, 6, 7]) (sd_append (spt_var 6) (sa_cons (sd_var 10) sa_nil)))
  (ss_seq (l1 := [5, 6, 7]) (ss_for (l := [5, 6, 7]) (lm := [5, 6, 7]) (si_any (sd_op w_ix (sd_var 4) (sd_var 9))) (sg_name 13)
  (ss_al (i := 5) (j := 11) (l := [5, 6, 7]) (l1 := [11, 5, 6, 7]) (sd_var 13) fun _ _ =>
  (ssa_end (l1 := [11, 5, 6, 7]) (l' := [5, 6, 7]) (ss_drop (ms := [11, 5, 6, 7]) (sd_append (spt_var 11) (sa_cons (sd_var 12) sa_nil))))))
  (ss_asg (l := [5, 6, 7]) (l' := [5, 6, 7]) (ms := [5, 6, 7]) (sd_op w_add (sd_var 8) (sd_int 1)))))))))
  (ss_seq (l1 := [5, 6, 7]) (ss_setL (ms := [5, 6, 7]) (sd_if (sb_test (sd_op w_eq (sd_op w_ix (sd_var 3) (sd_var 9)) (sd_int 0))) (sd_var 10) (sd_op w_mod (sd_cb w_intOf (sa_cons (sd_var 10) sa_nil)) (sd_op w_ix (sd_var 3) (sd_var 9)))) (spt_var 6) (sd_var 12))
  (ss_if (l := [5, 6, 7]) (l' := [5, 6, 7]) (ms := [5, 7]) (sb_test (sd_op w_eq (sd_op w_ix (sd_var 6) (sd_var 12)) (sd_int 0)))
  (ss_seq (l1 := [5, 6, 7]) (ss_for (l := [5, 6, 7]) (lm := [5, 6, 7]) (si_any (sd_op w_ix (sd_var 4) (sd_var 9))) (sg_name 13)
  (ss_al (i := 5) (j := 11) (l := [5, 6, 7]) (l1 := [11, 5, 6, 7]) (sd_var 13) fun _ _ =>
  (ssa_end (l1 := [11, 5, 6, 7]) (l' := [5, 6, 7]) (ss_drop (ms := [11, 5, 6, 7]) (sd_remI (spt_var 11) (sa_cons (sd_var 12) sa_nil))))))
  (ss_asg (l := [5, 6, 7]) (l' := [5, 6, 7]) (ms := [5, 6, 7]) (sd_op w_sub (sd_var 8) (sd_int 1))))
  ss_next))))
  ss_next))
  (ss_ret (l := [5, 6, 7]) (ms := [5, 6, 7]) (sd_op w_cmp (sd_var 8) (sd_int 0))))))⟩
theorem Tx.b__law_back (T : Tx w K mg) : Binds K T.fd__law_back ["cord"] [] := T.d__law_back.bindsN fun _ _ _ _ _ _ us hl => match us, hl with | [_], _ => rfl
theorem ok__law_back (T : Tx w K mg) : FnG P w K mg base CX0 1 T.a__law_back T.fd__law_back ["cord"] (spD K 1 F__law_back) := by
  have sc := sc__law_back
  refine fn_d' (N := N__law_back) (n := 1) (k := 0) (b := b__law_back) T.d__law_back sc__law_back rfl (fun cdv A outer s H E hg hr => ?_)
  exact ⟨_, PSs.nox (pss_one (ps_ret (pe_callTy call_tuple_of (by rfl) T.n_tuple (by decide +kernel) (pa_cons (pe_lc (own := [("peg", 1), ("winds", 2)]) (by rfl) sc.nd (pi_any (pe_revB (pv 0))) (blkOk_by (N := N__law_back) (sc := defScope s__law_back) (by decide +kernel)) (fun _ _ _ _ _ => (pg_tup rfl (pgs_cons (pg_name (i := 1) sc.nd rfl (by first | exact .inl rfl | exact .inr rfl)) (pgs_cons (pg_name (i := 2) sc.nd rfl (by first | exact .inl rfl | exact .inr rfl)) pgs_nil)))) (fun _ _ _ _ _ => pts_nil) (fun _ _ _ _ _ => (pe_tup (pa_cons (pv 1) (pa_cons (pe_op op_sub pe_int (pv 2)) pa_nil))))) pa_nil)))),
    (ss_ret (l := []) (ms := []) (sd_cb w_tupOf (sa_cons (sd_lc (si_any (sd_revB (sd_var 0))) (sg_tup (sgs_cons (sg_name 1) (sgs_cons (sg_name 2) sgs_nil))) sb_yes (sd_tup (sa_cons (sd_var 1) (sa_cons (sd_op w_sub (sd_int 0) (sd_var 2)) sa_nil))) (gok_tup (goks_cons (gok_name (by decide)) (goks_cons (gok_name (by decide)) goks_nil))) (by decide)) sa_nil)))⟩
theorem Tx.b__law_same (T : Tx w K mg) : Binds K T.fd__law_same ["told", "due"] [] := T.d__law_same.bindsN fun _ _ _ _ _ _ us hl => match us, hl with | [_, _], _ => rfl
theorem ok__law_same (T : Tx w K mg) : FnG P w K mg base CX0 1 T.a__law_same T.fd__law_same ["told", "due"] (spD K 2 F__law_same) := by
  have sc := sc__law_same
  refine fn_d' (N := N__law_same) (n := 2) (k := 0) (b := b__law_same) T.d__law_same sc__law_same rfl (fun cdv A outer s H E hg hr => ?_)
  exact ⟨_, PSs.nox (pss_one (ps_ret (pe_cmpR (op_eqW hr.units) (pe_callB (call_reprD hg hr.units) (by rfl) T.n_repr (by decide +kernel) (pa_cons (pv 0) pa_nil)) (pe_callB (call_reprD hg hr.units) (by rfl) T.n_repr (by decide +kernel) (pa_cons (pv 1) pa_nil)) (nomark _)))),
    (ss_ret (l := []) (ms := []) (sd_op w_eq (sd_cb w_repr (sa_cons (sd_var 0) sa_nil)) (sd_cb w_repr (sa_cons (sd_var 1) sa_nil))))⟩
theorem Tx.b_is_between (T : Tx w K mg) : Binds K T.fd_is_between ["thing", "least", "most"] [] := T.d_is_between.bindsN fun _ _ _ _ _ _ us hl => match us, hl with | [_, _, _], _ => rfl
theorem ok_is_between (T : Tx w K mg) : FnG P w K mg base CX0 2 T.a_is_between T.fd_is_between ["thing", "least", "most"] (spD K 3 F_is_between) := by
  have sc := sc_is_between
  refine fn_d' (N := N_is_between) (n := 3) (k := 1) (b := b_is_between) T.d_is_between sc_is_between rfl (fun cdv A outer s H E hg hr => ?_)
  exact ⟨_, PSs.nox (pss_one (ps_ret (pe_and (pe_callg ((ok_is_whole T).up (by decide)) hg hr (by rfl) T.g_is_whole T.d_is_whole.kp T.b_is_whole .nil pass0 (pa_cons (pv 0) pa_nil)) (pe_one (pe_chain (op_leD hr.units) (op_leD hr.units) (pv 1) (pv 0) (pv 2)))))),
    (ss_ret (l := []) (ms := []) (sd_and (sd_call (sa_cons (sd_var 0) sa_nil) bodyD_len) (sd_chain w_cmp w_cmp (sd_var 1) (sd_var 0) (sd_var 2))))⟩
theorem Tx.b_swap_of (T : Tx w K mg) : Binds K T.fd_swap_of ["one", "other"] [] := T.d_swap_of.bindsN fun _ _ _ _ _ _ us hl => match us, hl with | [_, _], _ => rfl
theorem ok_swap_of (T : Tx w K mg) : FnG P w K mg base CX0 2 T.a_swap_of T.fd_swap_of ["one", "other"] (spD K 2 F_swap_of) := by
  have sc := sc_swap_of
  refine fn_d' (N := N_swap_of) (n := 2) (k := 1) (b := b_swap_of) T.d_swap_of sc_swap_of rfl (fun cdv A outer s H E hg hr => ?_)
  exact ⟨_, PSs.nox (pss_one (ps_ret (pe_op op_addW (pe_op op_addW (pe_op op_addW (pv 0) (pv 1)) (pe_callg ((ok_back_of T).up (by decide)) hg hr (by rfl) T.g_back_of T.d_back_of.kp T.b_back_of .nil pass0 (pa_cons (pv 0) pa_nil))) (pe_callg ((ok_back_of T).up (by decide)) hg hr (by rfl) T.g_back_of T.d_back_of.kp T.b_back_of .nil pass0 (pa_cons (pv 1) pa_nil))))),
    (ss_ret (l := []) (ms := []) (sd_op w_add (sd_op w_add (sd_op w_add (sd_var 0) (sd_var 1)) (sd_call (sa_cons (sd_var 0) sa_nil) bodyD_len)) (sd_call (sa_cons (sd_var 1) sa_nil) bodyD_len)))⟩
theorem Tx.b_Sliding_place_to_join (T : Tx w K mg) : Binds K T.fd_Sliding_place_to_join ["self", "at"] [] := T.d_Sliding_place_to_join.bindsN fun _ _ _ _ _ _ us hl => match us, hl with | [_, _], _ => rfl
theorem ok_Sliding_place_to_join (T : Tx w K mg) : FnG P w K mg base CX0 2 T.a_Sliding_place_to_join T.fd_Sliding_place_to_join ["self", "at"] (spD K 2 F_Sliding_place_to_join) := by
  have sc := sc_Sliding_place_to_join
  refine fn_d' (N := N_Sliding_place_to_join) (n := 2) (k := 1) (b := b_Sliding_place_to_join) T.d_Sliding_place_to_join sc_Sliding_place_to_join rfl (fun cdv A outer s H E hg hr => ?_)
  exact ⟨_, PSs.nox (pss_cons (ps_set (i := 2) sc.nd rfl (by first | exact .inl rfl | exact .inr rfl) (pe_ix ix_seq (pe_ix ix_seq (pe_fld (pv 0) rfl) (pv 1) (fun _ _ => rfl)) pe_int (fun _ _ => rfl)))
  (pss_cons (ps_for PassesOwn.never rfl (pi_range3 (by rfl) T.n_range (pa_cons (pe_op op_sub (pv 1) pe_int) (pa_cons (pe_un un_neg pe_int) (pa_cons (pe_un un_neg pe_int) pa_nil)))) (pg_name (i := 3) sc.nd rfl (by first | exact .inl rfl | exact .inr rfl))
  (pss_cons (ps_set (i := 4) sc.nd rfl (by first | exact .inl rfl | exact .inr rfl) (pe_ix ix_seq (pe_ix ix_seq (pe_fld (pv 0) rfl) (pv 3) (fun _ _ => rfl)) pe_int (fun _ _ => rfl)))
  (pss_cons (ps_if (pt_cmpR (op_eqW hr.units) (pv 4) (pv 2) (nomark _))
  (pss_one (ps_ret (pv 3)))
  pss_nil)
  (pss_one (ps_if (pt_not (pt_val (pe_callg ((ok_has_rail T).up (by decide)) hg hr (by rfl) T.g_has_rail T.d_has_rail.kp T.b_has_rail .nil pass0 (pa_cons (pe_fld (pv 0) rfl) (pa_cons (pv 4) (pa_cons (pv 2) pa_nil))))))
  (pss_one (ps_ret pe_non))
  pss_nil)))))
  (pss_one (ps_ret pe_non)))),
    (ss_seq (l1 := []) (ss_asg (l := []) (l' := []) (ms := []) (sd_op w_ix (sd_op w_ix (sd_fld T.cl_Sliding T.na_Sliding_cord (sd_var 0)) (sd_var 1)) (sd_int 0)))
  (ss_seq (l1 := []) (ss_forR (l := []) (ms := []) (sir_r3 (sa_cons (sd_op w_sub (sd_var 1) (sd_int 1)) (sa_cons (sd_un w_neg (sd_int 1)) (sa_cons (sd_un w_neg (sd_int 1)) sa_nil)))) (sg_name 3)
  (ss_seq (l1 := []) (ss_asg (l := []) (l' := []) (ms := []) (sd_op w_ix (sd_op w_ix (sd_fld T.cl_Sliding T.na_Sliding_cord (sd_var 0)) (sd_var 3)) (sd_int 0)))
  (ss_seq (l1 := []) (ss_if (l := []) (l' := []) (ms := []) (sb_test (sd_op w_eq (sd_var 4) (sd_var 2)))
  (ss_ret (l := []) (ms := []) (sd_var 3))
  ss_next)
  (ss_if (l := []) (l' := []) (ms := []) (sb_not (sb_b (sd_call (sa_cons (sd_fld T.cl_Sliding T.na_Sliding_wall (sd_var 0)) (sa_cons (sd_var 4) (sa_cons (sd_var 2) sa_nil))) bodyD_len)))
  (ss_ret (l := []) (ms := []) sd_non)
  ss_next))))
  (ss_ret (l := []) (ms := []) sd_non)))⟩
theorem Tx.b_free_places (T : Tx w K mg) : Binds K T.fd_free_places ["wall", "cord"] [] := T.d_free_places.bindsN fun _ _ _ _ _ _ us hl => match us, hl with | [_, _], _ => rfl
theorem ok_free_places (T : Tx w K mg) : FnG P w K mg base CX0 2 T.a_free_places T.fd_free_places ["wall", "cord"] (spD K 2 F_free_places) := by
  have sc := sc_free_places
  refine fn_d' (N := N_free_places) (n := 2) (k := 1) (b := b_free_places) T.d_free_places sc_free_places rfl (fun cdv A outer s H E hg hr => ?_)
  exact ⟨_, PSs.nox (pss_cons (ps_set (i := 2) sc.nd rfl (by first | exact .inl rfl | exact .inr rfl) (pe_lst pa_nil))
  (pss_cons (ps_for PassesOwn.never rfl (RN.pi_enumT (by rfl) T.n_enumerate (pa_cons (pv 1) pa_nil)) (pg_tup rfl (pgs_cons (pg_name (i := 3) sc.nd rfl (by first | exact .inl rfl | exact .inr rfl)) (pgs_cons (pg_tup rfl (pgs_cons (pg_name (i := 4) sc.nd rfl (by first | exact .inl rfl | exact .inr rfl)) (pgs_cons (pg_name (i := 5) sc.nd rfl (by first | exact .inl rfl | exact .inr rfl)) pgs_nil))) pgs_nil)))
  (pss_one (ps_if (pt_val (pe_callB (cr_all rfl) (by rfl) T.n_all (by decide +kernel) (pa_cons (pe_lc (own := [("other", 6), ("more", 7)]) (by rfl) sc.nd (pi_any (pe_slice sl_W (pv 1) po_none (po_some (pv 3)))) (blkOk_by (N := N_free_places) (sc := defScope s_free_places) (by decide +kernel)) (fun _ _ _ _ _ => (pg_tup rfl (pgs_cons (pg_name (i := 6) sc.nd rfl (by first | exact .inl rfl | exact .inr rfl)) (pgs_cons (pg_name (i := 7) sc.nd rfl (by first | exact .inl rfl | exact .inr rfl)) pgs_nil)))) (fun _ _ _ _ _ => pts_nil) (fun _ _ _ _ _ => (pe_and (pe_cmpR (op_neW hr.units) (pv 6) (pv 4) (nomark _)) (pe_one (pe_callg ((ok_has_rail T).up (by decide)) hg hr (by rfl) T.g_has_rail T.d_has_rail.kp T.b_has_rail .nil pass0 (pa_cons (pv 0) (pa_cons (pv 6) (pa_cons (pv 4) pa_nil)))))))) pa_nil)))
  (pss_one (ps_expr (pe_bm PySem.F.plainAttrs_list PySem.F.slot_list_append PySem.F.type_list_append mt_append (pv 2) (pa_cons (pv 3) pa_nil))))
  pss_nil)))
  (pss_one (ps_ret (pv 2))))),
    (ss_seq (l1 := [2]) (ss_asg (l := []) (l' := [2]) (ms := []) (sd_lst sa_nil))
  (ss_seq (l1 := [2]) (ss_for (l := [2]) (lm := [2]) (si_enumT (sa_cons (sd_var 1) sa_nil)) (sg_tup (sgs_cons (sg_name 3) (sgs_cons (sg_tup (sgs_cons (sg_name 4) (sgs_cons (sg_name 5) sgs_nil))) sgs_nil)))
  (ss_if (l := [2]) (l' := [2]) (ms := [2]) (sb_b (sd_cb w_all (sa_cons (sd_lc (si_any (sd_sl (sd_var 1) so_none (so_some (sd_var 3)))) (sg_tup (sgs_cons (sg_name 6) (sgs_cons (sg_name 7) sgs_nil))) sb_yes (sd_and (sd_op w_ne (sd_var 6) (sd_var 4)) (sd_call (sa_cons (sd_var 0) (sa_cons (sd_var 6) (sa_cons (sd_var 4) sa_nil))) bodyD_len)) (gok_tup (goks_cons (gok_name (by decide)) (goks_cons (gok_name (by decide)) goks_nil))) (by decide)) sa_nil)))
  (ss_drop (ms := [2]) (sd_append (spt_var 2) (sa_cons (sd_var 3) sa_nil)))
  ss_next))
  (ss_ret (l := [2]) (ms := [2]) (sd_mv 2))))⟩
theorem Tx.b_does_rule_keep (T : Tx w K mg) : Binds K T.fd_does_rule_keep ["rule", "kept"] [] := T.d_does_rule_keep.bindsN fun _ _ _ _ _ _ us hl => match us, hl with | [_, _], _ => rfl
theorem ok_does_rule_keep (T : Tx w K mg) : FnG P w K mg base CX0 2 T.a_does_rule_keep T.fd_does_rule_keep ["rule", "kept"] (spD K 2 F_does_rule_keep) := by
  have sc := sc_does_rule_keep
  refine fn_d' (N := N_does_rule_keep) (n := 2) (k := 1) (b := b_does_rule_keep) T.d_does_rule_keep sc_does_rule_keep rfl (fun cdv A outer s H E hg hr => ?_)
  exact ⟨_, PSs.nox (pss_one (ps_ret (pe_callB (cr_any rfl) (by rfl) T.n_any (by decide +kernel) (pa_cons (pe_lc (own := [("pegs", 2)]) (by rfl) sc.nd (pi_any (pv 0)) (blkOk_by (N := N_does_rule_keep) (sc := defScope s_does_rule_keep) (by decide +kernel)) (fun _ _ _ _ _ => (pg_name (i := 2) sc.nd rfl (by first | exact .inl rfl | exact .inr rfl))) (fun _ _ _ _ _ => pts_nil) (fun _ _ _ _ _ => (pe_callg ((ok_is_within T).up (by decide)) hg hr (by rfl) T.g_is_within T.d_is_within.kp T.b_is_within .nil pass0 (pa_cons (pv 2) (pa_cons (pv 1) pa_nil))))) pa_nil)))),
    (ss_ret (l := []) (ms := []) (sd_cb w_any (sa_cons (sd_lc (si_any (sd_var 0)) (sg_name 2) sb_yes (sd_call (sa_cons (sd_var 2) (sa_cons (sd_var 1) sa_nil)) bodyD_len) (gok_name (by decide)) (by decide)) sa_nil)))⟩
theorem Tx.b__law_pick (T : Tx w K mg) : Binds K T.fd__law_pick ["deck", "some"] [] := T.d__law_pick.bindsN fun _ _ _ _ _ _ us hl => match us, hl with | [_, _], _ => rfl
theorem ok__law_pick (T : Tx w K mg) : FnG P w K mg base CX0 2 T.a__law_pick T.fd__law_pick ["deck", "some"] (spM K 1 F__law_pick) := by
  have sc := sc__law_pick
  refine fn_m' (N := N__law_pick) (n := 1) (k := 1) (b := b__law_pick) T.d__law_pick sc__law_pick rfl (fun cdv A outer s H E hg hr => ?_)
  exact ⟨_, PSs.nox (pss_one (ps_ret (pe_ix ix_seq (pv 1) (pe_callg ((ok__law_draw T).up (by decide)) hg hr (by rfl) T.g__law_draw T.d__law_draw.kp T.b__law_draw .nil pass0 (pa_cons (pv 0) (pa_cons (pe_callB call_lenW (by rfl) T.n_len (by decide +kernel) (pa_cons (pv 1) pa_nil)) pa_nil))) (fun _ _ => rfl)))),
    (ss_ret (l := [0]) (ms := [0]) (sd_op w_ix (sd_var 1) (sd_callm (sa_cons (sd_cb w_len (sa_cons (sd_var 1) sa_nil)) sa_nil) bodyM_len)))⟩
theorem Tx.b__law_nest (T : Tx w K mg) : Binds K T.fd__law_nest ["order"] [] := T.d__law_nest.bindsN fun _ _ _ _ _ _ us hl => match us, hl with | [_], _ => rfl
theorem ok__law_nest (T : Tx w K mg) : FnG P w K mg base CX0 2 T.a__law_nest T.fd__law_nest ["order"] (spD K 1 F__law_nest) := by
  have sc := sc__law_nest
  refine fn_d' (N := N__law_nest) (n := 1) (k := 1) (b := b__law_nest) T.d__law_nest sc__law_nest rfl (fun cdv A outer s H E hg hr => ?_)
  exact ⟨_, PSs.nox (pss_cons (ps_set (i := 1) sc.nd rfl (by first | exact .inl rfl | exact .inr rfl) (pe_tup (pa_cons (pe_tup (pa_cons (pe_ix ix_seq (pv 0) pe_int (fun _ _ => rfl)) (pa_cons pe_int pa_nil))) pa_nil)))
  (pss_cons (ps_for PassesOwn.never rfl (pi_any (pe_slice sl_W (pv 0) (po_some pe_int) po_none)) (pg_name (i := 2) sc.nd rfl (by first | exact .inl rfl | exact .inr rfl))
  (pss_one (ps_set (i := 1) sc.nd rfl (by first | exact .inl rfl | exact .inr rfl) (pe_op op_addW (pe_op op_addW (pe_op op_addW (pv 1) (pe_tup (pa_cons (pe_tup (pa_cons (pv 2) (pa_cons pe_int pa_nil))) pa_nil))) (pe_callg ((ok__law_back T).up (by decide)) hg hr (by rfl) T.g__law_back T.d__law_back.kp T.b__law_back .nil pass0 (pa_cons (pv 1) pa_nil))) (pe_tup (pa_cons (pe_tup (pa_cons (pv 2) (pa_cons (pe_un un_neg pe_int) pa_nil))) pa_nil))))))
  (pss_one (ps_ret (pv 1))))),
    (ss_seq (l1 := []) (ss_asg (l := []) (l' := []) (ms := []) (sd_tup (sa_cons (sd_tup (sa_cons (sd_op w_ix (sd_var 0) (sd_int 0)) (sa_cons (sd_int 1) sa_nil))) sa_nil)))
  (ss_seq (l1 := []) (ss_for (l := []) (lm := []) (si_any (sd_sl (sd_var 0) (so_some (sd_int 1)) so_none)) (sg_name 2)
  (ss_asg (l := []) (l' := []) (ms := []) (sd_op w_add (sd_op w_add (sd_op w_add (sd_var 1) (sd_tup (sa_cons (sd_tup (sa_cons (sd_var 2) (sa_cons (sd_int 1) sa_nil))) sa_nil))) (sd_call (sa_cons (sd_var 1) sa_nil) bodyD_len)) (sd_tup (sa_cons (sd_tup (sa_cons (sd_var 2) (sa_cons (sd_un w_neg (sd_int 1)) sa_nil))) sa_nil)))))
  (ss_ret (l := []) (ms := []) (sd_var 1))))⟩
theorem Tx.b_is_slip (T : Tx w K mg) : Binds K T.fd_is_slip ["thing"] [] := T.d_is_slip.bindsN fun _ _ _ _ _ _ us hl => match us, hl with | [_], _ => rfl
theorem ok_is_slip (T : Tx w K mg) : FnG P w K mg base CX0 3 T.a_is_slip T.fd_is_slip ["thing"] (spD K 1 F_is_slip) := by
  have sc := sc_is_slip
  refine fn_d' (N := N_is_slip) (n := 1) (k := 2) (b := b_is_slip) T.d_is_slip sc_is_slip rfl (fun cdv A outer s H E hg hr => ?_)
  exact ⟨_, PSs.nox (pss_one (ps_ret (pe_or (pe_callg ((ok_is_between T).up (by decide)) hg hr (by rfl) T.g_is_between T.d_is_between.kp T.b_is_between .nil pass0 (pa_cons (pv 0) (pa_cons pe_int (pa_cons (pe_glob (v := .int 30) (by rfl) T.c_MOST_SLIP ⟨_, rfl⟩) pa_nil)))) (pe_one (pe_callg ((ok_is_between T).up (by decide)) hg hr (by rfl) T.g_is_between T.d_is_between.kp T.b_is_between .nil pass0 (pa_cons (pv 0) (pa_cons pe_int (pa_cons pe_int pa_nil)))))))),
    (ss_ret (l := []) (ms := []) (sd_or (sd_call (sa_cons (sd_var 0) (sa_cons (sd_int 2) (sa_cons (sd_int 30) sa_nil))) bodyD_len) (sd_call (sa_cons (sd_var 0) (sa_cons (sd_int 0) (sa_cons (sd_int 0) sa_nil))) bodyD_len)))⟩
theorem Tx.b_is_rail (T : Tx w K mg) : Binds K T.fd_is_rail ["many", "thing"] [] := T.d_is_rail.bindsN fun _ _ _ _ _ _ us hl => match us, hl with | [_, _], _ => rfl
theorem ok_is_rail (T : Tx w K mg) : FnG P w K mg base CX0 3 T.a_is_rail T.fd_is_rail ["many", "thing"] (spD K 2 F_is_rail) := by
  have sc := sc_is_rail
  refine fn_d' (N := N_is_rail) (n := 2) (k := 2) (b := b_is_rail) T.d_is_rail sc_is_rail rfl (fun cdv A outer s H E hg hr => ?_)
  exact ⟨_, PSs.nox (pss_cons (ps_if (PW.pt (pw_or (pt_not (pt_val (pe_callB call_isi (by rfl) T.n_isinstance (by decide +kernel) (pa_cons (pv 1) (pa_cons (pe_bltn (v := .ty "tuple") (u := .type "tuple") (by rfl) T.n_tuple (by decide +kernel) rfl) pa_nil))))) (pw_or1 (pt_cmpR (op_neW hr.units) (pe_callB call_lenW (by rfl) T.n_len (by decide +kernel) (pa_cons (pv 1) pa_nil)) pe_int (nomark _)))))
  (pss_one (ps_ret pe_bl))
  pss_nil)
  (pss_one (ps_ret (pe_and (pe_callg ((ok_is_between T).up (by decide)) hg hr (by rfl) T.g_is_between T.d_is_between.kp T.b_is_between .nil pass0 (pa_cons (pe_ix ix_seq (pv 1) pe_int (fun _ _ => rfl)) (pa_cons pe_int (pa_cons (pv 0) pa_nil)))) (pe_and (pe_callg ((ok_is_between T).up (by decide)) hg hr (by rfl) T.g_is_between T.d_is_between.kp T.b_is_between .nil pass0 (pa_cons (pe_ix ix_seq (pv 1) pe_int (fun _ _ => rfl)) (pa_cons pe_int (pa_cons (pv 0) pa_nil)))) (pe_one (pe_cmpR (op_ltD hr.units) (pe_ix ix_seq (pv 1) pe_int (fun _ _ => rfl)) (pe_ix ix_seq (pv 1) pe_int (fun _ _ => rfl)) (nomark _)))))))),
    (ss_seq (l1 := []) (ss_if (l := []) (l' := []) (ms := []) (sb_or (sb_not (sb_b (sd_isi "tuple" (sd_var 1)))) (sb_test (sd_op w_ne (sd_cb w_len (sa_cons (sd_var 1) sa_nil)) (sd_int 2))))
  (ss_ret (l := []) (ms := []) (sd_bl false))
  ss_next)
  (ss_ret (l := []) (ms := []) (sd_and (sd_call (sa_cons (sd_op w_ix (sd_var 1) (sd_int 0)) (sa_cons (sd_int 1) (sa_cons (sd_var 0) sa_nil))) bodyD_len) (sd_and (sd_call (sa_cons (sd_op w_ix (sd_var 1) (sd_int 1)) (sa_cons (sd_int 1) (sa_cons (sd_var 0) sa_nil))) bodyD_len) (sd_op w_cmp (sd_op w_ix (sd_var 1) (sd_int 0)) (sd_op w_ix (sd_var 1) (sd_int 1)))))))⟩
theorem Tx.b_is_set_value (T : Tx w K mg) : Binds K T.fd_is_set_value ["many", "thing"] [] := T.d_is_set_value.bindsN fun _ _ _ _ _ _ us hl => match us, hl with | [_, _], _ => rfl
theorem ok_is_set_value (T : Tx w K mg) : FnG P w K mg base CX0 3 T.a_is_set_value T.fd_is_set_value ["many", "thing"] (spD K 2 F_is_set_value) := by
  have sc := sc_is_set_value
  refine fn_d' (N := N_is_set_value) (n := 2) (k := 2) (b := b_is_set_value) T.d_is_set_value sc_is_set_value rfl (fun cdv A outer s H E hg hr => ?_)
  exact ⟨_, PSs.nox (pss_cons (ps_if (PW.pt (pw_or (pt_not (pt_val (pe_callB call_isi (by rfl) T.n_isinstance (by decide +kernel) (pa_cons (pv 1) (pa_cons (pe_bltn (v := .ty "tuple") (u := .type "tuple") (by rfl) T.n_tuple (by decide +kernel) rfl) pa_nil))))) (pw_or1 (pt_not (pt_val (pe_callB (cr_all rfl) (by rfl) T.n_all (by decide +kernel) (pa_cons (pe_lc (own := [("peg", 2)]) (by rfl) sc.nd (pi_any (pv 1)) (blkOk_by (N := N_is_set_value) (sc := defScope s_is_set_value) (by decide +kernel)) (fun _ _ _ _ _ => (pg_name (i := 2) sc.nd rfl (by first | exact .inl rfl | exact .inr rfl))) (fun _ _ _ _ _ => pts_nil) (fun _ _ _ _ _ => (pe_callg ((ok_is_between T).up (by decide)) hg hr (by rfl) T.g_is_between T.d_is_between.kp T.b_is_between .nil pass0 (pa_cons (pv 2) (pa_cons pe_int (pa_cons (pv 0) pa_nil)))))) pa_nil)))))))
  (pss_one (ps_ret pe_bl))
  pss_nil)
  (pss_one (ps_ret (pe_callg ((ok_do_ascend T).up (by decide)) hg hr (by rfl) T.g_do_ascend T.d_do_ascend.kp T.b_do_ascend .nil pass0 (pa_cons (pv 1) pa_nil))))),
    (ss_seq (l1 := []) (ss_if (l := []) (l' := []) (ms := []) (sb_or (sb_not (sb_b (sd_isi "tuple" (sd_var 1)))) (sb_not (sb_b (sd_cb w_all (sa_cons (sd_lc (si_any (sd_var 1)) (sg_name 2) sb_yes (sd_call (sa_cons (sd_var 2) (sa_cons (sd_int 1) (sa_cons (sd_var 0) sa_nil))) bodyD_len) (gok_name (by decide)) (by decide)) sa_nil)))))
  (ss_ret (l := []) (ms := []) (sd_bl false))
  ss_next)
  (ss_ret (l := []) (ms := []) (sd_call (sa_cons (sd_var 1) sa_nil) bodyD_len)))⟩
theorem Tx.b_is_pair (T : Tx w K mg) : Binds K T.fd_is_pair ["wall", "thing"] [] := T.d_is_pair.bindsN fun _ _ _ _ _ _ us hl => match us, hl with | [_, _], _ => rfl
theorem ok_is_pair (T : Tx w K mg) : FnG P w K mg base CX0 3 T.a_is_pair T.fd_is_pair ["wall", "thing"] (spD K 2 F_is_pair) := by
  have sc := sc_is_pair
  refine fn_d' (N := N_is_pair) (n := 2) (k := 2) (b := b_is_pair) T.d_is_pair sc_is_pair rfl (fun cdv A outer s H E hg hr => ?_)
  exact ⟨_, PSs.nox (pss_cons (ps_if (PW.pt (pw_or (pt_not (pt_val (pe_callB call_isi (by rfl) T.n_isinstance (by decide +kernel) (pa_cons (pv 1) (pa_cons (pe_bltn (v := .ty "tuple") (u := .type "tuple") (by rfl) T.n_tuple (by decide +kernel) rfl) pa_nil))))) (pw_or (pt_cmpR (op_neW hr.units) (pe_callB call_lenW (by rfl) T.n_len (by decide +kernel) (pa_cons (pv 1) pa_nil)) pe_int (nomark _)) (pw_or1 (pt_not (pt_val (pe_callg ((ok_is_between T).up (by decide)) hg hr (by rfl) T.g_is_between T.d_is_between.kp T.b_is_between .nil pass0 (pa_cons (pe_ix ix_seq (pv 1) pe_int (fun _ _ => rfl)) (pa_cons pe_int (pa_cons (pe_callg ((ok_many_of T).up (by decide)) hg hr (by rfl) T.g_many_of T.d_many_of.kp T.b_many_of .nil pass0 (pa_cons (pv 0) pa_nil)) pa_nil))))))))))
  (pss_one (ps_ret pe_bl))
  pss_nil)
  (pss_one (ps_ret (pe_and (pe_callg ((ok_is_whole T).up (by decide)) hg hr (by rfl) T.g_is_whole T.d_is_whole.kp T.b_is_whole .nil pass0 (pa_cons (pe_ix ix_seq (pv 1) pe_int (fun _ _ => rfl)) pa_nil)) (pe_one (pe_cmpR (op_neW hr.units) (pe_ix ix_seq (pv 1) pe_int (fun _ _ => rfl)) pe_int (nomark _))))))),
    (ss_seq (l1 := []) (ss_if (l := []) (l' := []) (ms := []) (sb_or (sb_not (sb_b (sd_isi "tuple" (sd_var 1)))) (sb_or (sb_test (sd_op w_ne (sd_cb w_len (sa_cons (sd_var 1) sa_nil)) (sd_int 2))) (sb_not (sb_b (sd_call (sa_cons (sd_op w_ix (sd_var 1) (sd_int 0)) (sa_cons (sd_int 1) (sa_cons (sd_call (sa_cons (sd_var 0) sa_nil) bodyD_len) sa_nil))) bodyD_len)))))
  (ss_ret (l := []) (ms := []) (sd_bl false))
  ss_next)
  (ss_ret (l := []) (ms := []) (sd_and (sd_call (sa_cons (sd_op w_ix (sd_var 1) (sd_int 1)) sa_nil) bodyD_len) (sd_op w_ne (sd_op w_ix (sd_var 1) (sd_int 1)) (sd_int 0)))))⟩
theorem Tx.b_slid_by (T : Tx w K mg) : Binds K T.fd_slid_by ["wall", "cord", "slide"] [] := T.d_slid_by.bindsN fun _ _ _ _ _ _ us hl => match us, hl with | [_, _, _], _ => rfl
theorem ok_slid_by (T : Tx w K mg) : FnG P w K mg base CX0 3 T.a_slid_by T.fd_slid_by ["wall", "cord", "slide"] (spD K 3 F_slid_by) := by
  have sc := sc_slid_by
  refine fn_d' (N := N_slid_by) (n := 3) (k := 2) (b := b_slid_by) T.d_slid_by sc_slid_by rfl (fun cdv A outer s H E hg hr => ?_)
  exact ⟨_, PSs.nox (pss_cons (ps_asg (pv 2) (pg_un rfl (pgs_cons (pg_name (i := 3) sc.nd rfl (by first | exact .inl rfl | exact .inr rfl)) (pgs_cons (pg_name (i := 4) sc.nd rfl (by first | exact .inl rfl | exact .inr rfl)) pgs_nil))))
  (pss_cons (ps_if (pt_not (pt_val (pe_callg ((ok_is_between T).up (by decide)) hg hr (by rfl) T.g_is_between T.d_is_between.kp T.b_is_between .nil pass0 (pa_cons (pv 4) (pa_cons pe_int (pa_cons (pe_op op_sub (pe_callB call_lenW (by rfl) T.n_len (by decide +kernel) (pa_cons (pv 1) pa_nil)) (pe_ifExp (pt_cmpR (op_eqW hr.units) (pv 3) pe_str (nomark _)) pe_int pe_int)) pa_nil))))))
  (pss_one (ps_ret pe_non))
  pss_nil)
  (pss_cons (ps_asg (pe_ix ix_seq (pv 1) (pv 4) (fun _ _ => rfl)) (pg_un rfl (pgs_cons (pg_name (i := 5) sc.nd rfl (by first | exact .inl rfl | exact .inr rfl)) (pgs_cons (pg_name (i := 6) sc.nd rfl (by first | exact .inl rfl | exact .inr rfl)) pgs_nil))))
  (pss_cons (ps_if (pt_cmpR (op_eqW hr.units) (pv 3) pe_str (nomark _))
  (pss_cons (ps_set (i := 7) sc.nd rfl (by first | exact .inl rfl | exact .inr rfl) (pe_callg ((ok_slip_of T).up (by decide)) hg hr (by rfl) T.g_slip_of T.d_slip_of.kp T.b_slip_of .nil pass0 (pa_cons (pv 0) (pa_cons (pv 5) pa_nil))))
  (pss_cons (ps_if (pt_cmpR (op_eqW hr.units) (pv 7) pe_int (nomark _))
  (pss_one (ps_ret pe_non))
  pss_nil)
  (pss_cons (ps_set (i := 8) sc.nd rfl (by first | exact .inl rfl | exact .inr rfl) (pe_op op_modN (pv 6) (pv 7)))
  (pss_one (ps_ret (pe_op op_addW (pe_op op_addW (pe_slice sl_W (pv 1) po_none (po_some (pv 4))) (pe_ifExp (pt_cmpR (op_neW hr.units) (pv 8) pe_int (nomark _)) (pe_tup (pa_cons (pe_tup (pa_cons (pv 5) (pa_cons (pv 8) pa_nil))) pa_nil)) (pe_tup pa_nil))) (pe_slice sl_W (pv 1) (po_some (pe_op op_addW (pv 4) pe_int)) po_none)))))))
  pss_nil)
  (pss_cons (ps_asg (pe_ix ix_seq (pv 1) (pe_op op_addW (pv 4) pe_int) (fun _ _ => rfl)) (pg_un rfl (pgs_cons (pg_name (i := 9) sc.nd rfl (by first | exact .inl rfl | exact .inr rfl)) (pgs_cons (pg_name (i := 10) sc.nd rfl (by first | exact .inl rfl | exact .inr rfl)) pgs_nil))))
  (pss_cons (ps_if (pt_cmpR (op_eqW hr.units) (pv 3) pe_str (nomark _))
  (pss_cons (ps_if (PW.pt (pw_or (pt_cmpR (op_eqW hr.units) (pv 5) (pv 9) (nomark _)) (pw_or1 (pt_not (pt_val (pe_callg ((ok_has_rail T).up (by decide)) hg hr (by rfl) T.g_has_rail T.d_has_rail.kp T.b_has_rail .nil pass0 (pa_cons (pv 0) (pa_cons (pv 5) (pa_cons (pv 9) pa_nil)))))))))
  (pss_one (ps_ret pe_non))
  pss_nil)
  (pss_one (ps_ret (pe_op op_addW (pe_op op_addW (pe_slice sl_W (pv 1) po_none (po_some (pv 4))) (pe_tup (pa_cons (pe_ix ix_seq (pv 1) (pe_op op_addW (pv 4) pe_int) (fun _ _ => rfl)) (pa_cons (pe_ix ix_seq (pv 1) (pv 4) (fun _ _ => rfl)) pa_nil)))) (pe_slice sl_W (pv 1) (po_some (pe_op op_addW (pv 4) pe_int)) po_none)))))
  pss_nil)
  (pss_cons (ps_if (pt_cmpR (op_neW hr.units) (pv 5) (pv 9) (nomark _))
  (pss_one (ps_ret pe_non))
  pss_nil)
  (pss_one (ps_ret (pe_op op_addW (pe_op op_addW (pe_slice sl_W (pv 1) po_none (po_some (pv 4))) (pe_ifExp (pt_cmpR (op_neW hr.units) (pe_op op_addW (pv 6) (pv 10)) pe_int (nomark _)) (pe_tup (pa_cons (pe_tup (pa_cons (pv 5) (pa_cons (pe_op op_addW (pv 6) (pv 10)) pa_nil))) pa_nil)) (pe_tup pa_nil))) (pe_slice sl_W (pv 1) (po_some (pe_op op_addW (pv 4) pe_int)) po_none))))))))))),
    (ss_seq (l1 := []) (ss_unpN (l := []) (l' := []) (ms := []) (sd_var 2) (tn_cons (tn_cons tn_nil)))
  (ss_seq (l1 := []) (ss_if (l := []) (l' := []) (ms := []) (sb_not (sb_b (sd_call (sa_cons (sd_var 4) (sa_cons (sd_int 0) (sa_cons (sd_op w_sub (sd_cb w_len (sa_cons (sd_var 1) sa_nil)) (sd_if (sb_test (sd_op w_eq (sd_var 3) (sd_str ("turn" : Str)))) (sd_int 1) (sd_int 2))) sa_nil))) bodyD_len)))
  (ss_ret (l := []) (ms := []) sd_non)
  ss_next)
  (ss_seq (l1 := []) (ss_unpN (l := []) (l' := []) (ms := []) (sd_op w_ix (sd_var 1) (sd_var 4)) (tn_cons (tn_cons tn_nil)))
  (ss_seq (l1 := []) (ss_if (l := []) (l' := []) (ms := []) (sb_test (sd_op w_eq (sd_var 3) (sd_str ("turn" : Str))))
  (ss_seq (l1 := []) (ss_asg (l := []) (l' := []) (ms := []) (sd_call (sa_cons (sd_var 0) (sa_cons (sd_var 5) sa_nil)) bodyD_len))
  (ss_seq (l1 := []) (ss_if (l := []) (l' := []) (ms := []) (sb_test (sd_op w_eq (sd_var 7) (sd_int 0)))
  (ss_ret (l := []) (ms := []) sd_non)
  ss_next)
  (ss_seq (l1 := []) (ss_asg (l := []) (l' := []) (ms := []) (sd_op w_mod (sd_var 6) (sd_var 7)))
  (ss_ret (l := []) (ms := []) (sd_op w_add (sd_op w_add (sd_sl (sd_var 1) so_none (so_some (sd_var 4))) (sd_if (sb_test (sd_op w_ne (sd_var 8) (sd_int 0))) (sd_tup (sa_cons (sd_tup (sa_cons (sd_var 5) (sa_cons (sd_var 8) sa_nil))) sa_nil)) (sd_tup sa_nil))) (sd_sl (sd_var 1) (so_some (sd_op w_add (sd_var 4) (sd_int 1))) so_none))))))
  ss_next)
  (ss_seq (l1 := []) (ss_unpN (l := []) (l' := []) (ms := []) (sd_op w_ix (sd_var 1) (sd_op w_add (sd_var 4) (sd_int 1))) (tn_cons (tn_cons tn_nil)))
  (ss_seq (l1 := []) (ss_if (l := []) (l' := []) (ms := []) (sb_test (sd_op w_eq (sd_var 3) (sd_str ("past" : Str))))
  (ss_seq (l1 := []) (ss_if (l := []) (l' := []) (ms := []) (sb_or (sb_test (sd_op w_eq (sd_var 5) (sd_var 9))) (sb_not (sb_b (sd_call (sa_cons (sd_var 0) (sa_cons (sd_var 5) (sa_cons (sd_var 9) sa_nil))) bodyD_len))))
  (ss_ret (l := []) (ms := []) sd_non)
  ss_next)
  (ss_ret (l := []) (ms := []) (sd_op w_add (sd_op w_add (sd_sl (sd_var 1) so_none (so_some (sd_var 4))) (sd_tup (sa_cons (sd_op w_ix (sd_var 1) (sd_op w_add (sd_var 4) (sd_int 1))) (sa_cons (sd_op w_ix (sd_var 1) (sd_var 4)) sa_nil)))) (sd_sl (sd_var 1) (so_some (sd_op w_add (sd_var 4) (sd_int 2))) so_none))))
  ss_next)
  (ss_seq (l1 := []) (ss_if (l := []) (l' := []) (ms := []) (sb_test (sd_op w_ne (sd_var 5) (sd_var 9)))
  (ss_ret (l := []) (ms := []) sd_non)
  ss_next)
  (ss_ret (l := []) (ms := []) (sd_op w_add (sd_op w_add (sd_sl (sd_var 1) so_none (so_some (sd_var 4))) (sd_if (sb_test (sd_op w_ne (sd_op w_add (sd_var 6) (sd_var 10)) (sd_int 0))) (sd_tup (sa_cons (sd_tup (sa_cons (sd_var 5) (sa_cons (sd_op w_add (sd_var 6) (sd_var 10)) sa_nil))) sa_nil)) (sd_tup sa_nil))) (sd_sl (sd_var 1) (so_some (sd_op w_add (sd_var 4) (sd_int 2))) so_none))))))))))⟩
theorem Tx.b_arranged (T : Tx w K mg) : Binds K T.fd_arranged ["wall", "cord"] [] := T.d_arranged.bindsN fun _ _ _ _ _ _ us hl => match us, hl with | [_, _], _ => rfl
theorem ok_arranged (T : Tx w K mg) : FnG P w K mg base CX0 3 T.a_arranged T.fd_arranged ["wall", "cord"] (spD K 2 F_arranged) := by
  have sc := sc_arranged
  refine fn_d' (N := N_arranged) (n := 2) (k := 2) (b := b_arranged) T.d_arranged sc_arranged rfl (fun cdv A outer s H E hg hr => ?_)
  exact ⟨_, PSs.nox (pss_cons (ps_set (i := 2) sc.nd rfl (by first | exact .inl rfl | exact .inr rfl) (pe_lst pa_nil))
  (pss_cons (ps_while PassesOwn.never (pt_cmpR (op_neW hr.units) (pv 1) (pe_tup pa_nil) (nomark _))
  (pss_cons (ps_asg (pe_callB (call_minW rfl hr.units) (by rfl) T.n_min (by decide +kernel) (pa_cons (pe_lc (own := [("at", 4)]) (by rfl) sc.nd (pi_any (pe_callg ((ok_free_places T).up (by decide)) hg hr (by rfl) T.g_free_places T.d_free_places.kp T.b_free_places .nil pass0 (pa_cons (pv 0) (pa_cons (pv 1) pa_nil)))) (blkOk_by (N := N_arranged) (sc := defScope s_arranged) (by decide +kernel)) (fun _ _ _ _ _ => (pg_name (i := 4) sc.nd rfl (by first | exact .inl rfl | exact .inr rfl))) (fun _ _ _ _ _ => pts_nil) (fun _ _ _ _ _ => (pe_tup (pa_cons (pe_ix ix_seq (pv 1) (pv 4) (fun _ _ => rfl)) (pa_cons (pv 4) pa_nil))))) pa_nil)) (pg_un rfl (pgs_cons (pg_name (i := 3) sc.nd rfl (by first | exact .inl rfl | exact .inr rfl)) (pgs_cons (pg_name (i := 4) sc.nd rfl (by first | exact .inl rfl | exact .inr rfl)) pgs_nil))))
  (pss_cons (ps_expr (pe_bm PySem.F.plainAttrs_list PySem.F.slot_list_append PySem.F.type_list_append mt_append (pv 2) (pa_cons (pv 3) pa_nil)))
  (pss_one (ps_set (i := 1) sc.nd rfl (by first | exact .inl rfl | exact .inr rfl) (pe_op op_addW (pe_slice sl_W (pv 1) po_none (po_some (pv 4))) (pe_slice sl_W (pv 1) (po_some (pe_op op_addW (pv 4) pe_int)) po_none)))))))
  (pss_one (ps_ret (pe_callTy call_tuple_of (by rfl) T.n_tuple (by decide +kernel) (pa_cons (pv 2) pa_nil)))))),
    (ss_seq (l1 := [2]) (ss_asg (l := []) (l' := [2]) (ms := []) (sd_lst sa_nil))
  (ss_seq (l1 := [2]) (ss_while (l := [2]) (ms := [2]) (sb_test (sd_op w_ne (sd_var 1) (sd_tup sa_nil)))
  (ss_seq (l1 := [2]) (ss_unpN (l := [2]) (l' := [2]) (ms := [2]) (sd_cb (w_best false) (sa_cons (sd_lc (si_any (sd_call (sa_cons (sd_var 0) (sa_cons (sd_var 1) sa_nil)) bodyD_len)) (sg_name 4) sb_yes (sd_tup (sa_cons (sd_op w_ix (sd_var 1) (sd_var 4)) (sa_cons (sd_var 4) sa_nil))) (gok_name (by decide)) (by decide)) sa_nil)) (tn_cons (tn_cons tn_nil)))
  (ss_seq (l1 := [2]) (ss_drop (ms := [2]) (sd_append (spt_var 2) (sa_cons (sd_var 3) sa_nil)))
  (ss_asg (l := [2]) (l' := [2]) (ms := [2]) (sd_op w_add (sd_sl (sd_var 1) so_none (so_some (sd_var 4))) (sd_sl (sd_var 1) (so_some (sd_op w_add (sd_var 4) (sd_int 1))) so_none))))))
  (ss_ret (l := [2]) (ms := []) (sd_cb w_tupOf (sa_cons (sd_var 2) sa_nil)))))⟩
theorem Tx.b_nest_of (T : Tx w K mg) : Binds K T.fd_nest_of ["order"] [] := T.d_nest_of.bindsN fun _ _ _ _ _ _ us hl => match us, hl with | [_], _ => rfl
theorem ok_nest_of (T : Tx w K mg) : FnG P w K mg base CX0 3 T.a_nest_of T.fd_nest_of ["order"] (spD K 1 F_nest_of) := by
  have sc := sc_nest_of
  refine fn_d' (N := N_nest_of) (n := 1) (k := 2) (b := b_nest_of) T.d_nest_of sc_nest_of rfl (fun cdv A outer s H E hg hr => ?_)
  exact ⟨_, PSs.nox (pss_cons (ps_set (i := 1) sc.nd rfl (by first | exact .inl rfl | exact .inr rfl) (pe_tup (pa_cons (pe_tup (pa_cons (pe_ix ix_seq (pv 0) pe_int (fun _ _ => rfl)) (pa_cons pe_int pa_nil))) pa_nil)))
  (pss_cons (ps_for PassesOwn.never rfl (pi_any (pe_slice sl_W (pv 0) (po_some pe_int) po_none)) (pg_name (i := 2) sc.nd rfl (by first | exact .inl rfl | exact .inr rfl))
  (pss_one (ps_set (i := 1) sc.nd rfl (by first | exact .inl rfl | exact .inr rfl) (pe_callg ((ok_swap_of T).up (by decide)) hg hr (by rfl) T.g_swap_of T.d_swap_of.kp T.b_swap_of .nil pass0 (pa_cons (pv 1) (pa_cons (pe_tup (pa_cons (pe_tup (pa_cons (pv 2) (pa_cons pe_int pa_nil))) pa_nil)) pa_nil))))))
  (pss_one (ps_ret (pv 1))))),
    (ss_seq (l1 := []) (ss_asg (l := []) (l' := []) (ms := []) (sd_tup (sa_cons (sd_tup (sa_cons (sd_op w_ix (sd_var 0) (sd_int 0)) (sa_cons (sd_int 1) sa_nil))) sa_nil)))
  (ss_seq (l1 := []) (ss_for (l := []) (lm := []) (si_any (sd_sl (sd_var 0) (so_some (sd_int 1)) so_none)) (sg_name 2)
  (ss_asg (l := []) (l' := []) (ms := []) (sd_call (sa_cons (sd_var 1) (sa_cons (sd_tup (sa_cons (sd_tup (sa_cons (sd_var 2) (sa_cons (sd_int 1) sa_nil))) sa_nil)) sa_nil)) bodyD_len)))
  (ss_ret (l := []) (ms := []) (sd_var 1))))⟩
theorem Tx.b_are_pulls (T : Tx w K mg) : Binds K T.fd_are_pulls ["many", "thing"] [] := T.d_are_pulls.bindsN fun _ _ _ _ _ _ us hl => match us, hl with | [_, _], _ => rfl
theorem ok_are_pulls (T : Tx w K mg) : FnG P w K mg base CX0 3 T.a_are_pulls T.fd_are_pulls ["many", "thing"] (spD K 2 F_are_pulls) := by
  have sc := sc_are_pulls
  refine fn_d' (N := N_are_pulls) (n := 2) (k := 2) (b := b_are_pulls) T.d_are_pulls sc_are_pulls rfl (fun cdv A outer s H E hg hr => ?_)
  exact ⟨_, PSs.nox (pss_cons (ps_if (PW.pt (pw_or (pt_not (pt_val (pe_callB call_isi (by rfl) T.n_isinstance (by decide +kernel) (pa_cons (pv 1) (pa_cons (pe_bltn (v := .ty "tuple") (u := .type "tuple") (by rfl) T.n_tuple (by decide +kernel) rfl) pa_nil))))) (pw_or1 (pt_not (pt_val (pe_callB (cr_all rfl) (by rfl) T.n_all (by decide +kernel) (pa_cons (pe_lc (own := [("peg", 2)]) (by rfl) sc.nd (pi_any (pv 1)) (blkOk_by (N := N_are_pulls) (sc := defScope s_are_pulls) (by decide +kernel)) (fun _ _ _ _ _ => (pg_name (i := 2) sc.nd rfl (by first | exact .inl rfl | exact .inr rfl))) (fun _ _ _ _ _ => pts_nil) (fun _ _ _ _ _ => (pe_callg ((ok_is_between T).up (by decide)) hg hr (by rfl) T.g_is_between T.d_is_between.kp T.b_is_between .nil pass0 (pa_cons (pv 2) (pa_cons pe_int (pa_cons (pv 0) pa_nil)))))) pa_nil)))))))
  (pss_one (ps_ret pe_bl))
  pss_nil)
  (pss_one (ps_ret (pe_cmpR (op_eqW hr.units) (pe_callB DvL.cr_lenSet (by rfl) T.n_len (by decide +kernel) (pa_cons (pe_callTy (DvL.call_setT rfl) (by rfl) T.n_set (by decide +kernel) (pa_cons (pv 1) pa_nil)) pa_nil)) (pe_callB call_lenW (by rfl) T.n_len (by decide +kernel) (pa_cons (pv 1) pa_nil)) (nomark _))))),
    (ss_seq (l1 := []) (ss_if (l := []) (l' := []) (ms := []) (sb_or (sb_not (sb_b (sd_isi "tuple" (sd_var 1)))) (sb_not (sb_b (sd_cb w_all (sa_cons (sd_lc (si_any (sd_var 1)) (sg_name 2) sb_yes (sd_call (sa_cons (sd_var 2) (sa_cons (sd_int 1) (sa_cons (sd_var 0) sa_nil))) bodyD_len) (gok_name (by decide)) (by decide)) sa_nil)))))
  (ss_ret (l := []) (ms := []) (sd_bl false))
  ss_next)
  (ss_ret (l := []) (ms := []) (sd_op w_eq (sd_lenSet (sa_cons (sd_var 1) sa_nil)) (sd_cb w_len (sa_cons (sd_var 1) sa_nil)))))⟩
theorem Tx.b__law_board (T : Tx w K mg) : Binds K T.fd__law_board ["deck", "n"] [] := T.d__law_board.bindsN fun _ _ _ _ _ _ us hl => match us, hl with | [_, _], _ => rfl
theorem ok__law_board (T : Tx w K mg) : FnG P w K mg base CX0 3 T.a__law_board T.fd__law_board ["deck", "n"] (spM K 1 F__law_board) := by
  have sc := sc__law_board
  refine fn_m' (N := N__law_board) (n := 1) (k := 2) (b := b__law_board) T.d__law_board sc__law_board rfl (fun cdv A outer s H E hg hr => ?_)
  exact ⟨_, PSs.nox (pss_cons (ps_par (i := 2) (j := 3) (by rfl) sc.nd rfl rfl (by decide) rfl rfl (pa_cons (pe_callg ((ok__law_draw T).up (by decide)) hg hr (by rfl) T.g__law_draw T.d__law_draw.kp T.b__law_draw .nil pass0 (pa_cons (pv 0) (pa_cons pe_int pa_nil))) (pa_cons (pe_callg ((ok__law_pick T).up (by decide)) hg hr (by rfl) T.g__law_pick T.d__law_pick.kp T.b__law_pick .nil pass0 (pa_cons (pv 0) (pa_cons (pe_tup (pa_cons pe_int (pa_cons pe_int (pa_cons pe_int (pa_cons pe_int pa_nil))))) pa_nil))) pa_nil)) (by rfl))
  (pss_cons (ps_par (i := 4) (j := 5) (by rfl) sc.nd rfl rfl (by decide) rfl rfl (pa_cons (pe_lst pa_nil) (pa_cons (pe_lst pa_nil) pa_nil)) (by rfl))
  (pss_cons (ps_for PassesOwn.never rfl (pi_range1 (by rfl) T.n_range (pa_cons (pv 1) pa_nil)) (pg_name (i := 6) sc.nd rfl (by first | exact .inl rfl | exact .inr rfl))
  (pss_cons (ps_par (i := 7) (j := 8) (by rfl) sc.nd rfl rfl (by decide) rfl rfl (pa_cons (pe_callg ((ok__law_pick T).up (by decide)) hg hr (by rfl) T.g__law_pick T.d__law_pick.kp T.b__law_pick .nil pass0 (pa_cons (pv 0) (pa_cons (pe_tup (pa_cons pe_int (pa_cons pe_int (pa_cons pe_int (pa_cons pe_int (pa_cons pe_int (pa_cons pe_int (pa_cons (pe_op op_addW pe_int (pe_callg ((ok__law_draw T).up (by decide)) hg hr (by rfl) T.g__law_draw T.d__law_draw.kp T.b__law_draw .nil pass0 (pa_cons (pv 0) (pa_cons pe_int pa_nil)))) pa_nil)))))))) pa_nil))) (pa_cons (pe_callg ((ok__law_draw T).up (by decide)) hg hr (by rfl) T.g__law_draw T.d__law_draw.kp T.b__law_draw .nil pass0 (pa_cons (pv 0) (pa_cons pe_int pa_nil))) pa_nil)) (by rfl))
  (pss_one (ps_expr (pe_bm PySem.F.plainAttrs_list PySem.F.slot_list_append PySem.F.type_list_append mt_append (pv 4) (pa_cons (pe_ifExp (PW.pt (pw_and (pt_cmpR (op_gtD hr.units) (pv 2) pe_int (nomark _)) (pw_and1 (pt_cmpR (op_eqW hr.units) (pv 8) pe_int (nomark _))))) (pv 7) pe_int) pa_nil))))))
  (pss_cons (ps_for PassesOwn.never rfl (pi_range2 (by rfl) T.n_range (pa_cons pe_int (pa_cons (pe_op op_addW (pv 1) pe_int) pa_nil))) (pg_name (i := 9) sc.nd rfl (by first | exact .inl rfl | exact .inr rfl))
  (pss_one (ps_for PassesOwn.never rfl (pi_range2 (by rfl) T.n_range (pa_cons (pe_op op_addW (pv 9) pe_int) (pa_cons (pe_op op_addW (pv 1) pe_int) pa_nil))) (pg_name (i := 10) sc.nd rfl (by first | exact .inl rfl | exact .inr rfl))
  (pss_one (ps_if (PW.pt (pw_and (pt_cmpR (op_eqW hr.units) (pe_callg ((ok__law_draw T).up (by decide)) hg hr (by rfl) T.g__law_draw T.d__law_draw.kp T.b__law_draw .nil pass0 (pa_cons (pv 0) (pa_cons (pv 3) pa_nil))) pe_int (nomark _)) (pw_and1 (pt_cmpR (op_gtD hr.units) (pv 2) pe_int (nomark _)))))
  (pss_one (ps_expr (pe_bm PySem.F.plainAttrs_list PySem.F.slot_list_append PySem.F.type_list_append mt_append (pv 5) (pa_cons (pe_tup (pa_cons (pv 9) (pa_cons (pv 10) pa_nil))) pa_nil))))
  pss_nil)))))
  (pss_one (ps_ret (pe_tup (pa_cons (pe_callTy call_tuple_of (by rfl) T.n_tuple (by decide +kernel) (pa_cons (pv 4) pa_nil)) (pa_cons (pe_callTy call_tuple_of (by rfl) T.n_tuple (by decide +kernel) (pa_cons (pv 5) pa_nil)) pa_nil))))))))),
    (ss_seq (l1 := [0]) (ss_par (l := [0]) (l' := [0]) (ms := [0]) (sa_cons (sd_callm (sa_cons (sd_int 8) sa_nil) bodyM_len) (sa_cons (sd_callm (sa_cons (sd_tup (sa_cons (sd_int 2) (sa_cons (sd_int 3) (sa_cons (sd_int 4) (sa_cons (sd_int 2) sa_nil))))) sa_nil) bodyM_len) sa_nil)))
  (ss_seq (l1 := [4, 5, 0]) (ss_par (l := [0]) (l' := [4, 5, 0]) (ms := [0]) (sa_cons (sd_lst sa_nil) (sa_cons (sd_lst sa_nil) sa_nil)))
  (ss_seq (l1 := [4, 5, 0]) (ss_forR (l := [4, 5, 0]) (ms := [4, 5, 0]) (sir_r1 (sa_cons (sd_var 1) sa_nil)) (sg_name 6)
  (ss_seq (l1 := [4, 5, 0]) (ss_par (l := [4, 5, 0]) (l' := [4, 5, 0]) (ms := [4, 5, 0]) (sa_cons (sd_callm (sa_cons (sd_tup (sa_cons (sd_int 2) (sa_cons (sd_int 3) (sa_cons (sd_int 4) (sa_cons (sd_int 2) (sa_cons (sd_int 5) (sa_cons (sd_int 6) (sa_cons (sd_op w_add (sd_int 2) (sd_callm (sa_cons (sd_int 29) sa_nil) bodyM_len)) sa_nil)))))))) sa_nil) bodyM_len) (sa_cons (sd_callm (sa_cons (sd_int 2) sa_nil) bodyM_len) sa_nil)))
  (ss_drop (ms := [4, 5, 0]) (sd_append (spt_var 4) (sa_cons (sd_if (sb_and (sb_test (sd_op w_cmp (sd_var 2) (sd_int 0))) (sb_test (sd_op w_eq (sd_var 8) (sd_int 0)))) (sd_var 7) (sd_int 0)) sa_nil)))))
  (ss_seq (l1 := [4, 5, 0]) (ss_forR (l := [4, 5, 0]) (ms := [4, 5, 0]) (sir_r2 (sa_cons (sd_int 1) (sa_cons (sd_op w_add (sd_var 1) (sd_int 1)) sa_nil))) (sg_name 9)
  (ss_forR (l := [4, 5, 0]) (ms := [4, 5, 0]) (sir_r2 (sa_cons (sd_op w_add (sd_var 9) (sd_int 1)) (sa_cons (sd_op w_add (sd_var 1) (sd_int 1)) sa_nil))) (sg_name 10)
  (ss_if (l := [4, 5, 0]) (l' := [4, 5, 0]) (ms := [4, 5, 0]) (sb_and (sb_test (sd_op w_eq (sd_callm (sa_cons (sd_var 3) sa_nil) bodyM_len) (sd_int 0))) (sb_test (sd_op w_cmp (sd_var 2) (sd_int 0))))
  (ss_drop (ms := [4, 5, 0]) (sd_append (spt_var 5) (sa_cons (sd_tup (sa_cons (sd_var 9) (sa_cons (sd_var 10) sa_nil))) sa_nil)))
  ss_next)))
  (ss_ret (l := [4, 5, 0]) (ms := [0]) (sd_tup (sa_cons (sd_cb w_tupOf (sa_cons (sd_var 4) sa_nil)) (sa_cons (sd_cb w_tupOf (sa_cons (sd_var 5) sa_nil)) sa_nil))))))))⟩
theorem Tx.b__law_order (T : Tx w K mg) : Binds K T.fd__law_order ["deck", "web", "most"] [] := T.d__law_order.bindsN fun _ _ _ _ _ _ us hl => match us, hl with | [_, _, _], _ => rfl
theorem ok__law_order (T : Tx w K mg) : FnG P w K mg base CX0 3 T.a__law_order T.fd__law_order ["deck", "web", "most"] (spM K 2 F__law_order) := by
  have sc := sc__law_order
  refine fn_m' (N := N__law_order) (n := 2) (k := 2) (b := b__law_order) T.d__law_order sc__law_order rfl (fun cdv A outer s H E hg hr => ?_)
  exact ⟨_, PSs.nox (pss_cons (ps_set (i := 3) sc.nd rfl (by first | exact .inl rfl | exact .inr rfl) (pe_listRg (by rfl) (by rfl) T.n_list (prg_2 (by rfl) T.n_range pe_int (pe_callB call_lenW (by rfl) T.n_len (by decide +kernel) (pa_cons (pe_ix ix_seq (pv 1) pe_int (fun _ _ => rfl)) pa_nil)))))
  (pss_cons (ps_set (i := 4) sc.nd rfl (by first | exact .inl rfl | exact .inr rfl) (pe_lst (pa_cons (pe_callg ((ok__law_pick T).up (by decide)) hg hr (by rfl) T.g__law_pick T.d__law_pick.kp T.b__law_pick .nil pass0 (pa_cons (pv 0) (pa_cons (pv 3) pa_nil))) pa_nil)))
  (pss_cons (ps_for PassesOwn.never rfl (pi_range1 (by rfl) T.n_range (pa_cons (pe_op op_sub (pv 2) pe_int) pa_nil)) (pg_name (i := 5) sc.nd rfl (by first | exact .inl rfl | exact .inr rfl))
  (pss_cons (ps_setLc (i := 6) (own := [("peg", 7)]) (by rfl) sc.nd rfl rfl (sw_true rfl rfl rfl (by decide +kernel)) (pi_any (pv 3)) (blkOk_by (N := N__law_order) (sc := defScope s__law_order) (by decide +kernel)) (fun _ _ _ _ _ => (pg_name (i := 7) sc.nd rfl (by first | exact .inl rfl | exact .inr rfl))) (fun _ _ _ _ _ => (pts_one (PW.pt (pw_and (pt_cmpR (op_notInD hr.units) (pv 7) (pv 4) (by rfl)) (pw_and1 (pt_cmpR (op_neW hr.units) (pe_lc (own := [("other", 8)]) (by rfl) sc.nd (pi_any (pv 4)) (blkOk_by (by kernel_rfl)) (fun _ _ _ _ _ => (pg_name (i := 8) sc.nd rfl (by first | exact .inl rfl | exact .inr rfl))) (fun _ _ _ _ _ => (pts_one (pt_cmpR (op_inD hr.units) (pv 8) (pe_ix ix_seq (pe_ix ix_seq (pv 1) pe_int (fun _ _ => rfl)) (pv 7) (fun _ _ => rfl)) (by rfl)))) (fun _ _ _ _ _ => (pv 8))) (pe_lst pa_nil) (nomark _))))))) (fun _ _ _ _ _ => (pv 7)))
  (pss_one (ps_if (pt_cmpR (op_neW hr.units) (pv 6) (pe_lst pa_nil) (nomark _))
  (pss_one (ps_expr (pe_bm PySem.F.plainAttrs_list PySem.F.slot_list_append PySem.F.type_list_append mt_append (pv 4) (pa_cons (pe_callg ((ok__law_pick T).up (by decide)) hg hr (by rfl) T.g__law_pick T.d__law_pick.kp T.b__law_pick .nil pass0 (pa_cons (pv 0) (pa_cons (pv 6) pa_nil))) pa_nil))))
  pss_nil))))
  (pss_one (ps_ret (pe_callTy call_tuple_of (by rfl) T.n_tuple (by decide +kernel) (pa_cons (pv 4) pa_nil))))))),
    (ss_seq (l1 := [0]) (ss_asg (l := [0]) (l' := [0]) (ms := [0]) (sd_lstRg2 (sd_int 1) (sd_cb w_len (sa_cons (sd_op w_ix (sd_var 1) (sd_int 0)) sa_nil))))
  (ss_seq (l1 := [4, 0]) (ss_asg (l := [0]) (l' := [4, 0]) (ms := [0]) (sd_lst (sa_cons (sd_callm (sa_cons (sd_var 3) sa_nil) bodyM_len) sa_nil)))
  (ss_seq (l1 := [4, 0]) (ss_forR (l := [4, 0]) (ms := [4, 0]) (sir_r1 (sa_cons (sd_op w_sub (sd_var 2) (sd_int 1)) sa_nil)) (sg_name 5)
  (ss_seq (l1 := [4, 0]) (ss_asg (l := [4, 0]) (l' := [4, 0]) (ms := [0]) (sd_lc (si_any (sd_var 3)) (sg_name 7) (sb_and (sb_test (sd_op w_in (sd_var 7) (sd_var 4))) (sb_test (sd_op w_ne (sd_lc (si_any (sd_var 4)) (sg_name 8) (sb_test (sd_op w_in (sd_var 8) (sd_op w_ix (sd_op w_ix (sd_var 1) (sd_int 1)) (sd_var 7)))) (sd_var 8) (gok_name (by decide)) (by decide)) (sd_lst sa_nil)))) (sd_var 7) (gok_name (by decide)) (by decide)))
  (ss_if (l := [4, 0]) (l' := [4, 0]) (ms := [4, 0]) (sb_test (sd_op w_ne (sd_var 6) (sd_lst sa_nil)))
  (ss_drop (ms := [4, 0]) (sd_append (spt_var 4) (sa_cons (sd_callm (sa_cons (sd_var 6) sa_nil) bodyM_len) sa_nil)))
  ss_next)))
  (ss_ret (l := [4, 0]) (ms := [0]) (sd_cb w_tupOf (sa_cons (sd_var 4) sa_nil))))))⟩
theorem Tx.b_is_wall_value (T : Tx w K mg) : Binds K T.fd_is_wall_value ["thing"] [] := T.d_is_wall_value.bindsN fun _ _ _ _ _ _ us hl => match us, hl with | [_], _ => rfl
theorem ok_is_wall_value (T : Tx w K mg) : FnG P w K mg base CX0 4 T.a_is_wall_value T.fd_is_wall_value ["thing"] (spD K 1 F_is_wall_value) := by
  have sc := sc_is_wall_value
  refine fn_d' (N := N_is_wall_value) (n := 1) (k := 3) (b := b_is_wall_value) T.d_is_wall_value sc_is_wall_value rfl (fun cdv A outer s H E hg hr => ?_)
  exact ⟨_, PSs.nox (pss_cons (ps_if (PW.pt (pw_or (pt_not (pt_val (pe_callB call_isi (by rfl) T.n_isinstance (by decide +kernel) (pa_cons (pv 0) (pa_cons (pe_bltn (v := .ty "tuple") (u := .type "tuple") (by rfl) T.n_tuple (by decide +kernel) rfl) pa_nil))))) (pw_or (pt_cmpR (op_neW hr.units) (pe_callB call_lenW (by rfl) T.n_len (by decide +kernel) (pa_cons (pv 0) pa_nil)) pe_int (nomark _)) (pw_or1 (pt_not (pt_val (pe_callB call_isi (by rfl) T.n_isinstance (by decide +kernel) (pa_cons (pe_ix ix_seq (pv 0) pe_int (fun _ _ => rfl)) (pa_cons (pe_bltn (v := .ty "tuple") (u := .type "tuple") (by rfl) T.n_tuple (by decide +kernel) rfl) pa_nil)))))))))
  (pss_one (ps_ret pe_bl))
  pss_nil)
  (pss_cons (ps_if (PW.pt (pw_or (pt_not (pt_chain (op_leD hr.units) (op_leD hr.units) pe_int (pe_callB call_lenW (by rfl) T.n_len (by decide +kernel) (pa_cons (pe_ix ix_seq (pv 0) pe_int (fun _ _ => rfl)) pa_nil)) (pe_glob (v := .int 10) (by rfl) T.c_MOST_PEGS ⟨_, rfl⟩))) (pw_or1 (pt_not (pt_val (pe_callB (cr_all rfl) (by rfl) T.n_all (by decide +kernel) (pa_cons (pe_lc (own := [("slip", 1)]) (by rfl) sc.nd (pi_any (pe_ix ix_seq (pv 0) pe_int (fun _ _ => rfl))) (blkOk_by (N := N_is_wall_value) (sc := defScope s_is_wall_value) (by decide +kernel)) (fun _ _ _ _ _ => (pg_name (i := 1) sc.nd rfl (by first | exact .inl rfl | exact .inr rfl))) (fun _ _ _ _ _ => pts_nil) (fun _ _ _ _ _ => (pe_callg ((ok_is_slip T).up (by decide)) hg hr (by rfl) T.g_is_slip T.d_is_slip.kp T.b_is_slip .nil pass0 (pa_cons (pv 1) pa_nil)))) pa_nil)))))))
  (pss_one (ps_ret pe_bl))
  pss_nil)
  (pss_cons (ps_if (PW.pt (pw_or (pt_not (pt_val (pe_callB call_isi (by rfl) T.n_isinstance (by decide +kernel) (pa_cons (pe_ix ix_seq (pv 0) pe_int (fun _ _ => rfl)) (pa_cons (pe_bltn (v := .ty "tuple") (u := .type "tuple") (by rfl) T.n_tuple (by decide +kernel) rfl) pa_nil))))) (pw_or1 (pt_not (pt_val (pe_callB (cr_all rfl) (by rfl) T.n_all (by decide +kernel) (pa_cons (pe_lc (own := [("rail", 2)]) (by rfl) sc.nd (pi_any (pe_ix ix_seq (pv 0) pe_int (fun _ _ => rfl))) (blkOk_by (N := N_is_wall_value) (sc := defScope s_is_wall_value) (by decide +kernel)) (fun _ _ _ _ _ => (pg_name (i := 2) sc.nd rfl (by first | exact .inl rfl | exact .inr rfl))) (fun _ _ _ _ _ => pts_nil) (fun _ _ _ _ _ => (pe_callg ((ok_is_rail T).up (by decide)) hg hr (by rfl) T.g_is_rail T.d_is_rail.kp T.b_is_rail .nil pass0 (pa_cons (pe_callB call_lenW (by rfl) T.n_len (by decide +kernel) (pa_cons (pe_ix ix_seq (pv 0) pe_int (fun _ _ => rfl)) pa_nil)) (pa_cons (pv 2) pa_nil))))) pa_nil)))))))
  (pss_one (ps_ret pe_bl))
  pss_nil)
  (pss_one (ps_ret (pe_callg ((ok_do_ascend T).up (by decide)) hg hr (by rfl) T.g_do_ascend T.d_do_ascend.kp T.b_do_ascend .nil pass0 (pa_cons (pe_ix ix_seq (pv 0) pe_int (fun _ _ => rfl)) pa_nil))))))),
    (ss_seq (l1 := []) (ss_if (l := []) (l' := []) (ms := []) (sb_or (sb_not (sb_b (sd_isi "tuple" (sd_var 0)))) (sb_or (sb_test (sd_op w_ne (sd_cb w_len (sa_cons (sd_var 0) sa_nil)) (sd_int 2))) (sb_not (sb_b (sd_isi "tuple" (sd_op w_ix (sd_var 0) (sd_int 0)))))))
  (ss_ret (l := []) (ms := []) (sd_bl false))
  ss_next)
  (ss_seq (l1 := []) (ss_if (l := []) (l' := []) (ms := []) (sb_or (sb_not (sb_test (sd_chain w_cmp w_cmp (sd_int 1) (sd_cb w_len (sa_cons (sd_op w_ix (sd_var 0) (sd_int 0)) sa_nil)) (sd_int 10)))) (sb_not (sb_b (sd_cb w_all (sa_cons (sd_lc (si_any (sd_op w_ix (sd_var 0) (sd_int 0))) (sg_name 1) sb_yes (sd_call (sa_cons (sd_var 1) sa_nil) bodyD_len) (gok_name (by decide)) (by decide)) sa_nil)))))
  (ss_ret (l := []) (ms := []) (sd_bl false))
  ss_next)
  (ss_seq (l1 := []) (ss_if (l := []) (l' := []) (ms := []) (sb_or (sb_not (sb_b (sd_isi "tuple" (sd_op w_ix (sd_var 0) (sd_int 1))))) (sb_not (sb_b (sd_cb w_all (sa_cons (sd_lc (si_any (sd_op w_ix (sd_var 0) (sd_int 1))) (sg_name 2) sb_yes (sd_call (sa_cons (sd_cb w_len (sa_cons (sd_op w_ix (sd_var 0) (sd_int 0)) sa_nil)) (sa_cons (sd_var 2) sa_nil)) bodyD_len) (gok_name (by decide)) (by decide)) sa_nil)))))
  (ss_ret (l := []) (ms := []) (sd_bl false))
  ss_next)
  (ss_ret (l := []) (ms := []) (sd_call (sa_cons (sd_op w_ix (sd_var 0) (sd_int 1)) sa_nil) bodyD_len)))))⟩
theorem Tx.b_need_set (T : Tx w K mg) : Binds K T.fd_need_set ["wall", "pegs"] [] := T.d_need_set.bindsN fun _ _ _ _ _ _ us hl => match us, hl with | [_, _], _ => rfl
theorem ok_need_set (T : Tx w K mg) : FnG P w K mg base CX0 4 T.a_need_set T.fd_need_set ["wall", "pegs"] (spD K 2 F_need_set) := by
  have sc := sc_need_set
  refine fn_d' (N := N_need_set) (n := 2) (k := 3) (b := b_need_set) T.d_need_set sc_need_set rfl (fun cdv A outer s H E hg hr => ?_)
  exact ⟨_, PSs.nox (pss_one (ps_if (pt_not (pt_val (pe_callg ((ok_is_set_value T).up (by decide)) hg hr (by rfl) T.g_is_set_value T.d_is_set_value.kp T.b_is_set_value .nil pass0 (pa_cons (pe_callg ((ok_many_of T).up (by decide)) hg hr (by rfl) T.g_many_of T.d_many_of.kp T.b_many_of .nil pass0 (pa_cons (pv 0) pa_nil)) (pa_cons (pv 1) pa_nil)))))
  (pss_one ps_never)
  pss_nil)),
    (ss_if (l := []) (l' := []) (ms := []) (sb_not (sb_b (sd_call (sa_cons (sd_call (sa_cons (sd_var 0) sa_nil) bodyD_len) (sa_cons (sd_var 1) sa_nil)) bodyD_len)))
  ss_never
  ss_next)⟩
theorem Tx.b_is_cord_value (T : Tx w K mg) : Binds K T.fd_is_cord_value ["wall", "thing"] [] := T.d_is_cord_value.bindsN fun _ _ _ _ _ _ us hl => match us, hl with | [_, _], _ => rfl
theorem ok_is_cord_value (T : Tx w K mg) : FnG P w K mg base CX0 4 T.a_is_cord_value T.fd_is_cord_value ["wall", "thing"] (spD K 2 F_is_cord_value) := by
  have sc := sc_is_cord_value
  refine fn_d' (N := N_is_cord_value) (n := 2) (k := 3) (b := b_is_cord_value) T.d_is_cord_value sc_is_cord_value rfl (fun cdv A outer s H E hg hr => ?_)
  exact ⟨_, PSs.nox (pss_one (ps_ret (pe_and (pe_callB call_isi (by rfl) T.n_isinstance (by decide +kernel) (pa_cons (pv 1) (pa_cons (pe_bltn (v := .ty "tuple") (u := .type "tuple") (by rfl) T.n_tuple (by decide +kernel) rfl) pa_nil))) (pe_one (pe_callB (cr_all rfl) (by rfl) T.n_all (by decide +kernel) (pa_cons (pe_lc (own := [("pair", 2)]) (by rfl) sc.nd (pi_any (pv 1)) (blkOk_by (N := N_is_cord_value) (sc := defScope s_is_cord_value) (by decide +kernel)) (fun _ _ _ _ _ => (pg_name (i := 2) sc.nd rfl (by first | exact .inl rfl | exact .inr rfl))) (fun _ _ _ _ _ => pts_nil) (fun _ _ _ _ _ => (pe_callg ((ok_is_pair T).up (by decide)) hg hr (by rfl) T.g_is_pair T.d_is_pair.kp T.b_is_pair .nil pass0 (pa_cons (pv 0) (pa_cons (pv 2) pa_nil))))) pa_nil)))))),
    (ss_ret (l := []) (ms := []) (sd_and (sd_isi "tuple" (sd_var 1)) (sd_cb w_all (sa_cons (sd_lc (si_any (sd_var 1)) (sg_name 2) sb_yes (sd_call (sa_cons (sd_var 0) (sa_cons (sd_var 2) sa_nil)) bodyD_len) (gok_name (by decide)) (by decide)) sa_nil))))⟩
theorem Tx.b_Sliding_do (T : Tx w K mg) : Binds K T.fd_Sliding_do ["self", "word", "k"] [] := T.d_Sliding_do.bindsN fun _ _ _ _ _ _ us hl => match us, hl with | [_, _, _], _ => rfl
theorem ok_Sliding_do (T : Tx w K mg) : FnG P w K mg base CX0 4 T.a_Sliding_do T.fd_Sliding_do ["self", "word", "k"] (spM K 2 F_Sliding_do) := by
  have sc := sc_Sliding_do
  refine fn_m' (N := N_Sliding_do) (n := 2) (k := 3) (b := b_Sliding_do) T.d_Sliding_do sc_Sliding_do rfl (fun cdv A outer s H E hg hr => ?_)
  exact ⟨_, PSs.nox (pss_cons (ps_fld (pv 0) (pe_callg ((ok_slid_by T).up (by decide)) hg hr (by rfl) T.g_slid_by T.d_slid_by.kp T.b_slid_by .nil pass0 (pa_cons (pe_fld (pv 0) rfl) (pa_cons (pe_fld (pv 0) rfl) (pa_cons (pe_tup (pa_cons (pv 1) (pa_cons (pv 2) pa_nil))) pa_nil)))) rfl)
  (pss_one (ps_expr (pe_bm PySem.F.plainAttrs_list PySem.F.slot_list_append PySem.F.type_list_append mt_append (pe_fld (pv 0) rfl) (pa_cons (pe_tup (pa_cons (pv 1) (pa_cons (pv 2) pa_nil))) pa_nil))))),
    (ss_seq (l1 := [0]) (ss_fld (ms := [0]) T.cl_Sliding T.na_Sliding_cord (sd_call (sa_cons (sd_fld T.cl_Sliding T.na_Sliding_wall (sd_var 0)) (sa_cons (sd_fld T.cl_Sliding T.na_Sliding_cord (sd_var 0)) (sa_cons (sd_tup (sa_cons (sd_var 1) (sa_cons (sd_var 2) sa_nil))) sa_nil))) bodyD_len) (spt_var 0))
  (ss_drop (ms := [0]) (sd_append (spt_fld T.cl_Sliding T.na_Sliding_slides (spt_var 0)) (sa_cons (sd_tup (sa_cons (sd_var 1) (sa_cons (sd_var 2) sa_nil))) sa_nil))))⟩
theorem Tx.b_is_order (T : Tx w K mg) : Binds K T.fd_is_order ["wall", "thing"] [] := T.d_is_order.bindsN fun _ _ _ _ _ _ us hl => match us, hl with | [_, _], _ => rfl
theorem ok_is_order (T : Tx w K mg) : FnG P w K mg base CX0 4 T.a_is_order T.fd_is_order ["wall", "thing"] (spD K 2 F_is_order) := by
  have sc := sc_is_order
  refine fn_d' (N := N_is_order) (n := 2) (k := 3) (b := b_is_order) T.d_is_order sc_is_order rfl (fun cdv A outer s H E hg hr => ?_)
  exact ⟨_, PSs.nox (pss_cons (ps_if (PW.pt (pw_or (pt_not (pt_val (pe_callg ((ok_are_pulls T).up (by decide)) hg hr (by rfl) T.g_are_pulls T.d_are_pulls.kp T.b_are_pulls .nil pass0 (pa_cons (pe_callg ((ok_many_of T).up (by decide)) hg hr (by rfl) T.g_many_of T.d_many_of.kp T.b_many_of .nil pass0 (pa_cons (pv 0) pa_nil)) (pa_cons (pv 1) pa_nil))))) (pw_or1 (pt_cmpR (op_eqW hr.units) (pv 1) (pe_tup pa_nil) (nomark _)))))
  (pss_one (ps_ret pe_bl))
  pss_nil)
  (pss_cons (ps_for PassesOwn.never rfl (pi_range2 (by rfl) T.n_range (pa_cons pe_int (pa_cons (pe_callB call_lenW (by rfl) T.n_len (by decide +kernel) (pa_cons (pv 1) pa_nil)) pa_nil))) (pg_name (i := 2) sc.nd rfl (by first | exact .inl rfl | exact .inr rfl))
  (pss_one (ps_if (pt_val (pe_callB (cr_all rfl) (by rfl) T.n_all (by decide +kernel) (pa_cons (pe_lc (own := [("other", 3)]) (by rfl) sc.nd (pi_any (pe_slice sl_W (pv 1) po_none (po_some (pv 2)))) (blkOk_by (N := N_is_order) (sc := defScope s_is_order) (by decide +kernel)) (fun _ _ _ _ _ => (pg_name (i := 3) sc.nd rfl (by first | exact .inl rfl | exact .inr rfl))) (fun _ _ _ _ _ => pts_nil) (fun _ _ _ _ _ => (pe_callg ((ok_has_rail T).up (by decide)) hg hr (by rfl) T.g_has_rail T.d_has_rail.kp T.b_has_rail .nil pass0 (pa_cons (pv 0) (pa_cons (pe_ix ix_seq (pv 1) (pv 2) (fun _ _ => rfl)) (pa_cons (pv 3) pa_nil)))))) pa_nil)))
  (pss_one (ps_ret pe_bl))
  pss_nil)))
  (pss_one (ps_ret pe_bl)))),
    (ss_seq (l1 := []) (ss_if (l := []) (l' := []) (ms := []) (sb_or (sb_not (sb_b (sd_call (sa_cons (sd_call (sa_cons (sd_var 0) sa_nil) bodyD_len) (sa_cons (sd_var 1) sa_nil)) bodyD_len))) (sb_test (sd_op w_eq (sd_var 1) (sd_tup sa_nil))))
  (ss_ret (l := []) (ms := []) (sd_bl false))
  ss_next)
  (ss_seq (l1 := []) (ss_forR (l := []) (ms := []) (sir_r2 (sa_cons (sd_int 1) (sa_cons (sd_cb w_len (sa_cons (sd_var 1) sa_nil)) sa_nil))) (sg_name 2)
  (ss_if (l := []) (l' := []) (ms := []) (sb_b (sd_cb w_all (sa_cons (sd_lc (si_any (sd_sl (sd_var 1) so_none (so_some (sd_var 2)))) (sg_name 3) sb_yes (sd_call (sa_cons (sd_var 0) (sa_cons (sd_op w_ix (sd_var 1) (sd_var 2)) (sa_cons (sd_var 3) sa_nil))) bodyD_len) (gok_name (by decide)) (by decide)) sa_nil)))
  (ss_ret (l := []) (ms := []) (sd_bl false))
  ss_next))
  (ss_ret (l := []) (ms := []) (sd_bl true))))⟩
theorem Tx.b_need_wall (T : Tx w K mg) : Binds K T.fd_need_wall ["wall"] [] := T.d_need_wall.bindsN fun _ _ _ _ _ _ us hl => match us, hl with | [_], _ => rfl
theorem ok_need_wall (T : Tx w K mg) : FnG P w K mg base CX0 5 T.a_need_wall T.fd_need_wall ["wall"] (spD K 1 F_need_wall) := by
  have sc := sc_need_wall
  refine fn_d' (N := N_need_wall) (n := 1) (k := 4) (b := b_need_wall) T.d_need_wall sc_need_wall rfl (fun cdv A outer s H E hg hr => ?_)
  exact ⟨_, PSs.nox (pss_one (ps_if (pt_not (pt_val (pe_callg ((ok_is_wall_value T).up (by decide)) hg hr (by rfl) T.g_is_wall_value T.d_is_wall_value.kp T.b_is_wall_value .nil pass0 (pa_cons (pv 0) pa_nil))))
  (pss_one ps_never)
  pss_nil)),
    (ss_if (l := []) (l' := []) (ms := []) (sb_not (sb_b (sd_call (sa_cons (sd_var 0) sa_nil) bodyD_len)))
  ss_never
  ss_next)⟩
theorem Tx.b_need_cord (T : Tx w K mg) : Binds K T.fd_need_cord ["wall", "cord"] [] := T.d_need_cord.bindsN fun _ _ _ _ _ _ us hl => match us, hl with | [_, _], _ => rfl
theorem ok_need_cord (T : Tx w K mg) : FnG P w K mg base CX0 5 T.a_need_cord T.fd_need_cord ["wall", "cord"] (spD K 2 F_need_cord) := by
  have sc := sc_need_cord
  refine fn_d' (N := N_need_cord) (n := 2) (k := 4) (b := b_need_cord) T.d_need_cord sc_need_cord rfl (fun cdv A outer s H E hg hr => ?_)
  exact ⟨_, PSs.nox (pss_one (ps_if (pt_not (pt_val (pe_callg ((ok_is_cord_value T).up (by decide)) hg hr (by rfl) T.g_is_cord_value T.d_is_cord_value.kp T.b_is_cord_value .nil pass0 (pa_cons (pv 0) (pa_cons (pv 1) pa_nil)))))
  (pss_one ps_never)
  pss_nil)),
    (ss_if (l := []) (l' := []) (ms := []) (sb_not (sb_b (sd_call (sa_cons (sd_var 0) (sa_cons (sd_var 1) sa_nil)) bodyD_len)))
  ss_never
  ss_next)⟩
theorem Tx.b_Sliding_turn_if_due (T : Tx w K mg) : Binds K T.fd_Sliding_turn_if_due ["self", "at"] [] := T.d_Sliding_turn_if_due.bindsN fun _ _ _ _ _ _ us hl => match us, hl with | [_, _], _ => rfl
theorem ok_Sliding_turn_if_due (T : Tx w K mg) : FnG P w K mg base CX0 5 T.a_Sliding_turn_if_due T.fd_Sliding_turn_if_due ["self", "at"] (spM K 1 F_Sliding_turn_if_due) := by
  have sc := sc_Sliding_turn_if_due
  refine fn_m' (N := N_Sliding_turn_if_due) (n := 1) (k := 4) (b := b_Sliding_turn_if_due) T.d_Sliding_turn_if_due sc_Sliding_turn_if_due rfl (fun cdv A outer s H E hg hr => ?_)
  exact ⟨_, PSs.nox (pss_one (ps_if (pt_cmpR (op_ltD hr.units) (pv 1) (pe_callB call_lenW (by rfl) T.n_len (by decide +kernel) (pa_cons (pe_fld (pv 0) rfl) pa_nil)) (nomark _))
  (pss_cons (ps_set (i := 2) sc.nd rfl (by first | exact .inl rfl | exact .inr rfl) (pe_callg ((ok_slip_of T).up (by decide)) hg hr (by rfl) T.g_slip_of T.d_slip_of.kp T.b_slip_of .nil pass0 (pa_cons (pe_fld (pv 0) rfl) (pa_cons (pe_ix ix_seq (pe_ix ix_seq (pe_fld (pv 0) rfl) (pv 1) (fun _ _ => rfl)) pe_int (fun _ _ => rfl)) pa_nil))))
  (pss_one (ps_if (PW.pt (pw_and (pt_cmpR (op_neW hr.units) (pv 2) pe_int (nomark _)) (pw_and1 (pt_not (pt_chain (op_ltD hr.units) (op_ltD hr.units) pe_int (pe_ix ix_seq (pe_ix ix_seq (pe_fld (pv 0) rfl) (pv 1) (fun _ _ => rfl)) pe_int (fun _ _ => rfl)) (pv 2))))))
  (pss_one (ps_expr (pe_methg (pv 0) T.cl_Sliding T.me_Sliding_do ((ok_Sliding_do T).up (by decide)) hg hr T.b_Sliding_do .nil pass0 (pa_cons pe_str (pa_cons (pv 1) pa_nil)))))
  pss_nil)))
  pss_nil)),
    (ss_if (l := [0]) (l' := [0]) (ms := []) (sb_test (sd_op w_cmp (sd_var 1) (sd_cb w_len (sa_cons (sd_fld T.cl_Sliding T.na_Sliding_cord (sd_var 0)) sa_nil))))
  (ss_seq (l1 := [0]) (ss_asg (l := [0]) (l' := [0]) (ms := []) (sd_call (sa_cons (sd_fld T.cl_Sliding T.na_Sliding_wall (sd_var 0)) (sa_cons (sd_op w_ix (sd_op w_ix (sd_fld T.cl_Sliding T.na_Sliding_cord (sd_var 0)) (sd_var 1)) (sd_int 0)) sa_nil)) bodyD_len))
  (ss_if (l := [0]) (l' := [0]) (ms := []) (sb_and (sb_test (sd_op w_ne (sd_var 2) (sd_int 0))) (sb_not (sb_test (sd_chain w_cmp w_cmp (sd_int 0) (sd_op w_ix (sd_op w_ix (sd_fld T.cl_Sliding T.na_Sliding_cord (sd_var 0)) (sd_var 1)) (sd_int 1)) (sd_var 2)))))
  (ss_drop (ms := [0]) (sd_methm (sa_cons (sd_str ("turn" : Str)) (sa_cons (sd_var 1) sa_nil)) bodyM_len))
  ss_next))
  ss_next)⟩
theorem Tx.b_Sliding_join_with (T : Tx w K mg) : Binds K T.fd_Sliding_join_with ["self", "at", "place"] [] := T.d_Sliding_join_with.bindsN fun _ _ _ _ _ _ us hl => match us, hl with | [_, _, _], _ => rfl
theorem ok_Sliding_join_with (T : Tx w K mg) : FnG P w K mg base CX0 6 T.a_Sliding_join_with T.fd_Sliding_join_with ["self", "at", "place"] (spM K 2 F_Sliding_join_with) := by
  have sc := sc_Sliding_join_with
  refine fn_m' (N := N_Sliding_join_with) (n := 2) (k := 5) (b := b_Sliding_join_with) T.d_Sliding_join_with sc_Sliding_join_with rfl (fun cdv A outer s H E hg hr => ?_)
  exact ⟨_, PSs.nox (pss_cons (ps_for PassesOwn.never rfl (pi_range3 (by rfl) T.n_range (pa_cons (pe_op op_sub (pv 1) pe_int) (pa_cons (pv 2) (pa_cons (pe_un un_neg pe_int) pa_nil)))) (pg_name (i := 3) sc.nd rfl (by first | exact .inl rfl | exact .inr rfl))
  (pss_one (ps_expr (pe_methg (pv 0) T.cl_Sliding T.me_Sliding_do ((ok_Sliding_do T).up (by decide)) hg hr T.b_Sliding_do .nil pass0 (pa_cons pe_str (pa_cons (pv 3) pa_nil))))))
  (pss_cons (ps_set (i := 4) sc.nd rfl (by first | exact .inl rfl | exact .inr rfl) (pe_callB call_lenW (by rfl) T.n_len (by decide +kernel) (pa_cons (pe_fld (pv 0) rfl) pa_nil)))
  (pss_cons (ps_expr (pe_methg (pv 0) T.cl_Sliding T.me_Sliding_do ((ok_Sliding_do T).up (by decide)) hg hr T.b_Sliding_do .nil pass0 (pa_cons pe_str (pa_cons (pv 2) pa_nil))))
  (pss_cons (ps_if (pt_cmpR (op_eqW hr.units) (pe_callB call_lenW (by rfl) T.n_len (by decide +kernel) (pa_cons (pe_fld (pv 0) rfl) pa_nil)) (pe_op op_sub (pv 4) pe_int) (nomark _))
  (pss_one (ps_expr (pe_methg (pv 0) T.cl_Sliding T.me_Sliding_turn_if_due ((ok_Sliding_turn_if_due T).up (by decide)) hg hr T.b_Sliding_turn_if_due .nil pass0 (pa_cons (pv 2) pa_nil))))
  pss_nil)
  (pss_one (ps_ret (pe_cmpR (op_eqW hr.units) (pe_callB call_lenW (by rfl) T.n_len (by decide +kernel) (pa_cons (pe_fld (pv 0) rfl) pa_nil)) (pe_op op_sub (pv 4) pe_int) (nomark _)))))))),
    (ss_seq (l1 := [0]) (ss_forR (l := [0]) (ms := [0]) (sir_r3 (sa_cons (sd_op w_sub (sd_var 1) (sd_int 1)) (sa_cons (sd_var 2) (sa_cons (sd_un w_neg (sd_int 1)) sa_nil)))) (sg_name 3)
  (ss_drop (ms := [0]) (sd_methm (sa_cons (sd_str ("past" : Str)) (sa_cons (sd_var 3) sa_nil)) bodyM_len)))
  (ss_seq (l1 := [0]) (ss_asg (l := [0]) (l' := [0]) (ms := []) (sd_cb w_len (sa_cons (sd_fld T.cl_Sliding T.na_Sliding_cord (sd_var 0)) sa_nil)))
  (ss_seq (l1 := [0]) (ss_drop (ms := [0]) (sd_methm (sa_cons (sd_str ("join" : Str)) (sa_cons (sd_var 2) sa_nil)) bodyM_len))
  (ss_seq (l1 := [0]) (ss_if (l := [0]) (l' := [0]) (ms := []) (sb_test (sd_op w_eq (sd_cb w_len (sa_cons (sd_fld T.cl_Sliding T.na_Sliding_cord (sd_var 0)) sa_nil)) (sd_op w_sub (sd_var 4) (sd_int 1))))
  (ss_drop (ms := [0]) (sd_methm (sa_cons (sd_var 2) sa_nil) bodyM_len))
  ss_next)
  (ss_ret (l := [0]) (ms := []) (sd_op w_eq (sd_cb w_len (sa_cons (sd_fld T.cl_Sliding T.na_Sliding_cord (sd_var 0)) sa_nil)) (sd_op w_sub (sd_var 4) (sd_int 1))))))))⟩
theorem Tx.b_is_cord (T : Tx w K mg) : Binds K T.fd_is_cord ["wall", "thing"] [] := T.d_is_cord.bindsN fun _ _ _ _ _ _ us hl => match us, hl with | [_, _], _ => rfl
theorem ok_is_cord (T : Tx w K mg) : FnG P w K mg base CX0 6 T.a_is_cord T.fd_is_cord ["wall", "thing"] (spD K 2 F_is_cord) := by
  have sc := sc_is_cord
  refine fn_d' (N := N_is_cord) (n := 2) (k := 5) (b := b_is_cord) T.d_is_cord sc_is_cord rfl (fun cdv A outer s H E hg hr => ?_)
  exact ⟨_, PSs.nox (pss_cons (ps_expr (pe_callg ((ok_need_wall T).up (by decide)) hg hr (by rfl) T.g_need_wall T.d_need_wall.kp T.b_need_wall .nil pass0 (pa_cons (pv 0) pa_nil)))
  (pss_one (ps_ret (pe_callg ((ok_is_cord_value T).up (by decide)) hg hr (by rfl) T.g_is_cord_value T.d_is_cord_value.kp T.b_is_cord_value .nil pass0 (pa_cons (pv 0) (pa_cons (pv 1) pa_nil)))))),
    (ss_seq (l1 := []) (ss_drop (ms := []) (sd_call (sa_cons (sd_var 0) sa_nil) bodyD_len))
  (ss_ret (l := []) (ms := []) (sd_call (sa_cons (sd_var 0) (sa_cons (sd_var 1) sa_nil)) bodyD_len)))⟩
theorem Tx.b_need_one (T : Tx w K mg) : Binds K T.fd_need_one ["wall", "cord"] [] := T.d_need_one.bindsN fun _ _ _ _ _ _ us hl => match us, hl with | [_, _], _ => rfl
theorem ok_need_one (T : Tx w K mg) : FnG P w K mg base CX0 6 T.a_need_one T.fd_need_one ["wall", "cord"] (spD K 2 F_need_one) := by
  have sc := sc_need_one
  refine fn_d' (N := N_need_one) (n := 2) (k := 5) (b := b_need_one) T.d_need_one sc_need_one rfl (fun cdv A outer s H E hg hr => ?_)
  exact ⟨_, PSs.nox (pss_cons (ps_expr (pe_callg ((ok_need_wall T).up (by decide)) hg hr (by rfl) T.g_need_wall T.d_need_wall.kp T.b_need_wall .nil pass0 (pa_cons (pv 0) pa_nil)))
  (pss_one (ps_expr (pe_callg ((ok_need_cord T).up (by decide)) hg hr (by rfl) T.g_need_cord T.d_need_cord.kp T.b_need_cord .nil pass0 (pa_cons (pv 0) (pa_cons (pv 1) pa_nil)))))),
    (ss_seq (l1 := []) (ss_drop (ms := []) (sd_call (sa_cons (sd_var 0) sa_nil) bodyD_len))
  (ss_drop (ms := []) (sd_call (sa_cons (sd_var 0) (sa_cons (sd_var 1) sa_nil)) bodyD_len)))⟩
theorem Tx.b_need_two (T : Tx w K mg) : Binds K T.fd_need_two ["wall", "one", "other"] [] := T.d_need_two.bindsN fun _ _ _ _ _ _ us hl => match us, hl with | [_, _, _], _ => rfl
theorem ok_need_two (T : Tx w K mg) : FnG P w K mg base CX0 6 T.a_need_two T.fd_need_two ["wall", "one", "other"] (spD K 3 F_need_two) := by
  have sc := sc_need_two
  refine fn_d' (N := N_need_two) (n := 3) (k := 5) (b := b_need_two) T.d_need_two sc_need_two rfl (fun cdv A outer s H E hg hr => ?_)
  exact ⟨_, PSs.nox (pss_cons (ps_expr (pe_callg ((ok_need_wall T).up (by decide)) hg hr (by rfl) T.g_need_wall T.d_need_wall.kp T.b_need_wall .nil pass0 (pa_cons (pv 0) pa_nil)))
  (pss_cons (ps_expr (pe_callg ((ok_need_cord T).up (by decide)) hg hr (by rfl) T.g_need_cord T.d_need_cord.kp T.b_need_cord .nil pass0 (pa_cons (pv 0) (pa_cons (pv 1) pa_nil))))
  (pss_one (ps_expr (pe_callg ((ok_need_cord T).up (by decide)) hg hr (by rfl) T.g_need_cord T.d_need_cord.kp T.b_need_cord .nil pass0 (pa_cons (pv 0) (pa_cons (pv 2) pa_nil))))))),
    (ss_seq (l1 := []) (ss_drop (ms := []) (sd_call (sa_cons (sd_var 0) sa_nil) bodyD_len))
  (ss_seq (l1 := []) (ss_drop (ms := []) (sd_call (sa_cons (sd_var 0) (sa_cons (sd_var 1) sa_nil)) bodyD_len))
  (ss_drop (ms := []) (sd_call (sa_cons (sd_var 0) (sa_cons (sd_var 2) sa_nil)) bodyD_len))))⟩
theorem Tx.b_need_all (T : Tx w K mg) : Binds K T.fd_need_all ["wall", "cord", "kept"] [] := T.d_need_all.bindsN fun _ _ _ _ _ _ us hl => match us, hl with | [_, _, _], _ => rfl
theorem ok_need_all (T : Tx w K mg) : FnG P w K mg base CX0 6 T.a_need_all T.fd_need_all ["wall", "cord", "kept"] (spD K 3 F_need_all) := by
  have sc := sc_need_all
  refine fn_d' (N := N_need_all) (n := 3) (k := 5) (b := b_need_all) T.d_need_all sc_need_all rfl (fun cdv A outer s H E hg hr => ?_)
  exact ⟨_, PSs.nox (pss_cons (ps_expr (pe_callg ((ok_need_wall T).up (by decide)) hg hr (by rfl) T.g_need_wall T.d_need_wall.kp T.b_need_wall .nil pass0 (pa_cons (pv 0) pa_nil)))
  (pss_cons (ps_expr (pe_callg ((ok_need_cord T).up (by decide)) hg hr (by rfl) T.g_need_cord T.d_need_cord.kp T.b_need_cord .nil pass0 (pa_cons (pv 0) (pa_cons (pv 1) pa_nil))))
  (pss_one (ps_expr (pe_callg ((ok_need_set T).up (by decide)) hg hr (by rfl) T.g_need_set T.d_need_set.kp T.b_need_set .nil pass0 (pa_cons (pv 0) (pa_cons (pv 2) pa_nil))))))),
    (ss_seq (l1 := []) (ss_drop (ms := []) (sd_call (sa_cons (sd_var 0) sa_nil) bodyD_len))
  (ss_seq (l1 := []) (ss_drop (ms := []) (sd_call (sa_cons (sd_var 0) (sa_cons (sd_var 1) sa_nil)) bodyD_len))
  (ss_drop (ms := []) (sd_call (sa_cons (sd_var 0) (sa_cons (sd_var 2) sa_nil)) bodyD_len))))⟩
theorem Tx.b_nest (T : Tx w K mg) : Binds K T.fd_nest ["wall", "order"] [] := T.d_nest.bindsN fun _ _ _ _ _ _ us hl => match us, hl with | [_, _], _ => rfl
theorem kb_nest_1_0_0 (T : Tx w K mg) : KBinds K T.fd_nest ["wall", "order"] ["order", "wall"] (kwG 0 2 [1, 0] []) (kwG 0 2 [1, 0] []) := kbN T.d_nest (by decide) fun _ _ _ _ _ _ us ws h1 h2 => match us, h1, ws, h2 with | [], _, [_, _], _ => rfl
theorem ok_nest (T : Tx w K mg) : FnG P w K mg base CX0 6 T.a_nest T.fd_nest ["wall", "order"] (spD K 2 F_nest) := by
  have sc := sc_nest
  refine fn_d' (N := N_nest) (n := 2) (k := 5) (b := b_nest) T.d_nest sc_nest rfl (fun cdv A outer s H E hg hr => ?_)
  exact ⟨_, PSs.nox (pss_cons (ps_expr (pe_callg ((ok_need_wall T).up (by decide)) hg hr (by rfl) T.g_need_wall T.d_need_wall.kp T.b_need_wall .nil pass0 (pa_cons (pv 0) pa_nil)))
  (pss_cons (ps_if (pt_not (pt_val (pe_callg ((ok_is_order T).up (by decide)) hg hr (by rfl) T.g_is_order T.d_is_order.kp T.b_is_order .nil pass0 (pa_cons (pv 0) (pa_cons (pv 1) pa_nil)))))
  (pss_one ps_never)
  pss_nil)
  (pss_one (ps_ret (pe_callg ((ok_nest_of T).up (by decide)) hg hr (by rfl) T.g_nest_of T.d_nest_of.kp T.b_nest_of .nil pass0 (pa_cons (pv 1) pa_nil)))))),
    (ss_seq (l1 := []) (ss_drop (ms := []) (sd_call (sa_cons (sd_var 0) sa_nil) bodyD_len))
  (ss_seq (l1 := []) (ss_if (l := []) (l' := []) (ms := []) (sb_not (sb_b (sd_call (sa_cons (sd_var 0) (sa_cons (sd_var 1) sa_nil)) bodyD_len)))
  ss_never
  ss_next)
  (ss_ret (l := []) (ms := []) (sd_call (sa_cons (sd_var 1) sa_nil) bodyD_len))))⟩
theorem Tx.b_Sliding_reduce (T : Tx w K mg) : Binds K T.fd_Sliding_reduce ["self"] [] := T.d_Sliding_reduce.bindsN fun _ _ _ _ _ _ us hl => match us, hl with | [_], _ => rfl
theorem ok_Sliding_reduce (T : Tx w K mg) : FnG P w K mg base CX0 7 T.a_Sliding_reduce T.fd_Sliding_reduce ["self"] (spM K 0 F_Sliding_reduce) := by
  have sc := sc_Sliding_reduce
  refine fn_m' (N := N_Sliding_reduce) (n := 0) (k := 6) (b := b_Sliding_reduce) T.d_Sliding_reduce sc_Sliding_reduce rfl (fun cdv A outer s H E hg hr => ?_)
  exact ⟨_, PSs.nox (pss_cons (ps_set (i := 1) sc.nd rfl (by first | exact .inl rfl | exact .inr rfl) pe_int)
  (pss_one (ps_while PassesOwn.never (pt_cmpR (op_ltD hr.units) (pv 1) (pe_callB call_lenW (by rfl) T.n_len (by decide +kernel) (pa_cons (pe_fld (pv 0) rfl) pa_nil)) (nomark _))
  (pss_cons (ps_set (i := 2) sc.nd rfl (by first | exact .inl rfl | exact .inr rfl) (pe_callB call_lenW (by rfl) T.n_len (by decide +kernel) (pa_cons (pe_fld (pv 0) rfl) pa_nil)))
  (pss_cons (ps_expr (pe_methg (pv 0) T.cl_Sliding T.me_Sliding_turn_if_due ((ok_Sliding_turn_if_due T).up (by decide)) hg hr T.b_Sliding_turn_if_due .nil pass0 (pa_cons (pv 1) pa_nil)))
  (pss_one (ps_if (pt_cmpR (op_eqW hr.units) (pe_callB call_lenW (by rfl) T.n_len (by decide +kernel) (pa_cons (pe_fld (pv 0) rfl) pa_nil)) (pv 2) (nomark _))
  (pss_cons (ps_set (i := 3) sc.nd rfl (by first | exact .inl rfl | exact .inr rfl) (pe_methg (pv 0) T.cl_Sliding T.me_Sliding_place_to_join ((ok_Sliding_place_to_join T).up (by decide)) hg hr T.b_Sliding_place_to_join .nil pass0 (pa_cons (pv 1) pa_nil)))
  (pss_one (ps_if (pt_cmpR op_isN (pv 3) pe_non (nomark _))
  (pss_one (ps_aug (i := 1) sc.nd rfl (by first | exact .inl rfl | exact .inr rfl) pe_int ip_add))
  (pss_one (ps_if (pt_not (pt_val (pe_methg (pv 0) T.cl_Sliding T.me_Sliding_join_with ((ok_Sliding_join_with T).up (by decide)) hg hr T.b_Sliding_join_with .nil pass0 (pa_cons (pv 1) (pa_cons (pv 3) pa_nil)))))
  (pss_one (ps_set (i := 1) sc.nd rfl (by first | exact .inl rfl | exact .inr rfl) (pv 3)))
  pss_nil)))))
  pss_nil))))))),
    (ss_seq (l1 := [0]) (ss_asg (l := [0]) (l' := [0]) (ms := [0]) (sd_int 0))
  (ss_while (l := [0]) (ms := []) (sb_test (sd_op w_cmp (sd_var 1) (sd_cb w_len (sa_cons (sd_fld T.cl_Sliding T.na_Sliding_cord (sd_var 0)) sa_nil))))
  (ss_seq (l1 := [0]) (ss_asg (l := [0]) (l' := [0]) (ms := []) (sd_cb w_len (sa_cons (sd_fld T.cl_Sliding T.na_Sliding_cord (sd_var 0)) sa_nil)))
  (ss_seq (l1 := [0]) (ss_drop (ms := [0]) (sd_methm (sa_cons (sd_var 1) sa_nil) bodyM_len))
  (ss_if (l := [0]) (l' := [0]) (ms := []) (sb_test (sd_op w_eq (sd_cb w_len (sa_cons (sd_fld T.cl_Sliding T.na_Sliding_cord (sd_var 0)) sa_nil)) (sd_var 2)))
  (ss_seq (l1 := [0]) (ss_asg (l := [0]) (l' := [0]) (ms := []) (sd_methd (sd_var 0) (sa_cons (sd_var 1) sa_nil) bodyD_len))
  (ss_if (l := [0]) (l' := [0]) (ms := [0]) (sb_test (sd_op w_isN (sd_var 3) sd_non))
  (ss_augI (ms := [0]) (sd_int 1))
  (ss_if (l := [0]) (l' := [0]) (ms := [0]) (sb_not (sb_b (sd_methm (sa_cons (sd_var 1) (sa_cons (sd_var 3) sa_nil)) bodyM_len)))
  (ss_asg (l := [0]) (l' := [0]) (ms := [0]) (sd_var 3))
  ss_next)))
  ss_next)))))⟩
theorem Tx.b_back (T : Tx w K mg) : Binds K T.fd_back ["wall", "cord"] [] := T.d_back.bindsN fun _ _ _ _ _ _ us hl => match us, hl with | [_, _], _ => rfl
theorem ok_back (T : Tx w K mg) : FnG P w K mg base CX0 7 T.a_back T.fd_back ["wall", "cord"] (spD K 2 F_back) := by
  have sc := sc_back
  refine fn_d' (N := N_back) (n := 2) (k := 6) (b := b_back) T.d_back sc_back rfl (fun cdv A outer s H E hg hr => ?_)
  exact ⟨_, PSs.nox (pss_cons (ps_expr (pe_callg ((ok_need_one T).up (by decide)) hg hr (by rfl) T.g_need_one T.d_need_one.kp T.b_need_one .nil pass0 (pa_cons (pv 0) (pa_cons (pv 1) pa_nil))))
  (pss_one (ps_ret (pe_callg ((ok_back_of T).up (by decide)) hg hr (by rfl) T.g_back_of T.d_back_of.kp T.b_back_of .nil pass0 (pa_cons (pv 1) pa_nil))))),
    (ss_seq (l1 := []) (ss_drop (ms := []) (sd_call (sa_cons (sd_var 0) (sa_cons (sd_var 1) sa_nil)) bodyD_len))
  (ss_ret (l := []) (ms := []) (sd_call (sa_cons (sd_var 1) sa_nil) bodyD_len)))⟩
theorem Tx.b_behind (T : Tx w K mg) : Binds K T.fd_behind ["wall", "one", "other"] [] := T.d_behind.bindsN fun _ _ _ _ _ _ us hl => match us, hl with | [_, _, _], _ => rfl
theorem ok_behind (T : Tx w K mg) : FnG P w K mg base CX0 7 T.a_behind T.fd_behind ["wall", "one", "other"] (spD K 3 F_behind) := by
  have sc := sc_behind
  refine fn_d' (N := N_behind) (n := 3) (k := 6) (b := b_behind) T.d_behind sc_behind rfl (fun cdv A outer s H E hg hr => ?_)
  exact ⟨_, PSs.nox (pss_cons (ps_expr (pe_callg ((ok_need_two T).up (by decide)) hg hr (by rfl) T.g_need_two T.d_need_two.kp T.b_need_two .nil pass0 (pa_cons (pv 0) (pa_cons (pv 1) (pa_cons (pv 2) pa_nil)))))
  (pss_one (ps_ret (pe_op op_addW (pv 1) (pv 2))))),
    (ss_seq (l1 := []) (ss_drop (ms := []) (sd_call (sa_cons (sd_var 0) (sa_cons (sd_var 1) (sa_cons (sd_var 2) sa_nil))) bodyD_len))
  (ss_ret (l := []) (ms := []) (sd_op w_add (sd_var 1) (sd_var 2))))⟩
theorem Tx.b_swap (T : Tx w K mg) : Binds K T.fd_swap ["wall", "one", "other"] [] := T.d_swap.bindsN fun _ _ _ _ _ _ us hl => match us, hl with | [_, _, _], _ => rfl
theorem ok_swap (T : Tx w K mg) : FnG P w K mg base CX0 7 T.a_swap T.fd_swap ["wall", "one", "other"] (spD K 3 F_swap) := by
  have sc := sc_swap
  refine fn_d' (N := N_swap) (n := 3) (k := 6) (b := b_swap) T.d_swap sc_swap rfl (fun cdv A outer s H E hg hr => ?_)
  exact ⟨_, PSs.nox (pss_cons (ps_expr (pe_callg ((ok_need_two T).up (by decide)) hg hr (by rfl) T.g_need_two T.d_need_two.kp T.b_need_two .nil pass0 (pa_cons (pv 0) (pa_cons (pv 1) (pa_cons (pv 2) pa_nil)))))
  (pss_one (ps_ret (pe_callg ((ok_swap_of T).up (by decide)) hg hr (by rfl) T.g_swap_of T.d_swap_of.kp T.b_swap_of .nil pass0 (pa_cons (pv 1) (pa_cons (pv 2) pa_nil)))))),
    (ss_seq (l1 := []) (ss_drop (ms := []) (sd_call (sa_cons (sd_var 0) (sa_cons (sd_var 1) (sa_cons (sd_var 2) sa_nil))) bodyD_len))
  (ss_ret (l := []) (ms := []) (sd_call (sa_cons (sd_var 1) (sa_cons (sd_var 2) sa_nil)) bodyD_len)))⟩
theorem Tx.b_led (T : Tx w K mg) : Binds K T.fd_led ["wall", "cord"] [] := T.d_led.bindsN fun _ _ _ _ _ _ us hl => match us, hl with | [_, _], _ => rfl
theorem ok_led (T : Tx w K mg) : FnG P w K mg base CX0 8 T.a_led T.fd_led ["wall", "cord"] (spD K 2 F_led) := by
  have sc := sc_led
  refine fn_d' (N := N_led) (n := 2) (k := 7) (b := b_led) T.d_led sc_led rfl (fun cdv A outer s H E hg hr => ?_)
  exact ⟨_, PSs.nox (pss_cons (ps_set (i := 2) sc.nd rfl (by first | exact .inl rfl | exact .inr rfl) (pe_makeg T.mk_Sliding ((ok_Sliding___init__ T).up (by decide)) hg hr (by rfl) T.gc_Sliding T.b_Sliding___init__ .nil pass0 (pa_cons (pv 0) (pa_cons (pv 1) pa_nil))))
  (pss_cons (ps_expr (pe_methg0 (pv 2) T.cl_Sliding T.me_Sliding_reduce ((ok_Sliding_reduce T).up (by decide)) hg hr T.b_Sliding_reduce .nil pass0))
  (pss_one (ps_ret (pe_tup (pa_cons (pe_fld (pv 2) rfl) (pa_cons (pe_callTy call_tuple_of (by rfl) T.n_tuple (by decide +kernel) (pa_cons (pe_fld (pv 2) rfl) pa_nil)) pa_nil))))))),
    (ss_seq (l1 := [2]) (ss_asg (l := []) (l' := [2]) (ms := []) (sd_make (sa_cons (sd_var 0) (sa_cons (sd_var 1) sa_nil)) bodyM_len))
  (ss_seq (l1 := [2]) (ss_drop (ms := [2]) (sd_methm sa_nil bodyM_len))
  (ss_ret (l := [2]) (ms := []) (sd_tup (sa_cons (sd_fld T.cl_Sliding T.na_Sliding_cord (sd_var 2)) (sa_cons (sd_cb w_tupOf (sa_cons (sd_fld T.cl_Sliding T.na_Sliding_slides (sd_var 2)) sa_nil)) sa_nil))))))⟩
theorem Tx.b_reduced (T : Tx w K mg) : Binds K T.fd_reduced ["wall", "cord"] [] := T.d_reduced.bindsN fun _ _ _ _ _ _ us hl => match us, hl with | [_, _], _ => rfl
theorem ok_reduced (T : Tx w K mg) : FnG P w K mg base CX0 9 T.a_reduced T.fd_reduced ["wall", "cord"] (spD K 2 F_reduced) := by
  have sc := sc_reduced
  refine fn_d' (N := N_reduced) (n := 2) (k := 8) (b := b_reduced) T.d_reduced sc_reduced rfl (fun cdv A outer s H E hg hr => ?_)
  exact ⟨_, PSs.nox (pss_one (ps_ret (pe_callg ((ok_arranged T).up (by decide)) hg hr (by rfl) T.g_arranged T.d_arranged.kp T.b_arranged .nil pass0 (pa_cons (pv 0) (pa_cons (pe_ix ix_seq (pe_callg ((ok_led T).up (by decide)) hg hr (by rfl) T.g_led T.d_led.kp T.b_led .nil pass0 (pa_cons (pv 0) (pa_cons (pv 1) pa_nil))) pe_int (fun _ _ => rfl)) pa_nil))))),
    (ss_ret (l := []) (ms := []) (sd_call (sa_cons (sd_var 0) (sa_cons (sd_op w_ix (sd_call (sa_cons (sd_var 0) (sa_cons (sd_var 1) sa_nil)) bodyD_len) (sd_int 0)) sa_nil)) bodyD_len))⟩
theorem Tx.b_does_keep_raw (T : Tx w K mg) : Binds K T.fd_does_keep_raw ["wall", "cord", "kept"] [] := T.d_does_keep_raw.bindsN fun _ _ _ _ _ _ us hl => match us, hl with | [_, _, _], _ => rfl
theorem ok_does_keep_raw (T : Tx w K mg) : FnG P w K mg base CX0 9 T.a_does_keep_raw T.fd_does_keep_raw ["wall", "cord", "kept"] (spD K 3 F_does_keep_raw) := by
  have sc := sc_does_keep_raw
  refine fn_d' (N := N_does_keep_raw) (n := 3) (k := 8) (b := b_does_keep_raw) T.d_does_keep_raw sc_does_keep_raw rfl (fun cdv A outer s H E hg hr => ?_)
  exact ⟨_, PSs.nox (pss_one (ps_ret (pe_cmpR (op_neW hr.units) (pe_ix ix_seq (pe_callg ((ok_led T).up (by decide)) hg hr (by rfl) T.g_led T.d_led.kp T.b_led .nil pass0 (pa_cons (pv 0) (pa_cons (pe_callg ((ok_on_set T).up (by decide)) hg hr (by rfl) T.g_on_set T.d_on_set.kp T.b_on_set .nil pass0 (pa_cons (pv 1) (pa_cons (pv 2) pa_nil))) pa_nil))) pe_int (fun _ _ => rfl)) (pe_tup pa_nil) (nomark _)))),
    (ss_ret (l := []) (ms := []) (sd_op w_ne (sd_op w_ix (sd_call (sa_cons (sd_var 0) (sa_cons (sd_call (sa_cons (sd_var 1) (sa_cons (sd_var 2) sa_nil)) bodyD_len) sa_nil)) bodyD_len) (sd_int 0)) (sd_tup sa_nil)))⟩
theorem Tx.b_rule_by_cord (T : Tx w K mg) : Binds K T.fd_rule_by_cord ["wall", "cord"] [] := T.d_rule_by_cord.bindsN fun _ _ _ _ _ _ us hl => match us, hl with | [_, _], _ => rfl
theorem ok_rule_by_cord (T : Tx w K mg) : FnG P w K mg base CX0 10 T.a_rule_by_cord T.fd_rule_by_cord ["wall", "cord"] (spD K 2 F_rule_by_cord) := by
  have sc := sc_rule_by_cord
  refine fn_d' (N := N_rule_by_cord) (n := 2) (k := 9) (b := b_rule_by_cord) T.d_rule_by_cord sc_rule_by_cord rfl (fun cdv A outer s H E hg hr => ?_)
  exact ⟨_, PSs.nox (pss_cons (ps_par (i := 2) (j := 3) (by rfl) sc.nd rfl rfl (by decide) rfl rfl (pa_cons (pe_callg ((ok_reduced T).up (by decide)) hg hr (by rfl) T.g_reduced T.d_reduced.kp T.b_reduced .nil pass0 (pa_cons (pv 0) (pa_cons (pv 1) pa_nil))) (pa_cons (pe_lst pa_nil) pa_nil)) (by rfl))
  (pss_cons (ps_for PassesOwn.never rfl (pi_any (pe_callg ((ok_all_sets T).up (by decide)) hg hr (by rfl) T.g_all_sets T.d_all_sets.kp T.b_all_sets .nil pass0 (pa_cons (pe_callTy call_tuple_of (by rfl) T.n_tuple (by decide +kernel) (pa_cons (pe_callB (cr_sortedSet rfl) (by rfl) T.n_sorted (by decide +kernel) (pa_cons (DvL.pe_scI (own := [("peg", 5), ("winds", 6)]) (by rfl) sc.nd (pi_any (pv 2)) (blkOk_by (N := N_rule_by_cord) (sc := defScope s_rule_by_cord) (by decide +kernel)) (fun _ _ _ _ _ => (pg_tup rfl (pgs_cons (pg_name (i := 5) sc.nd rfl (by first | exact .inl rfl | exact .inr rfl)) (pgs_cons (pg_name (i := 6) sc.nd rfl (by first | exact .inl rfl | exact .inr rfl)) pgs_nil)))) (fun _ _ _ _ _ => pts_nil) (fun _ _ _ _ _ => (pv 5))) pa_nil)) pa_nil)) pa_nil))) (pg_name (i := 4) sc.nd rfl (by first | exact .inl rfl | exact .inr rfl))
  (pss_one (ps_if (PW.pt (pw_and (pt_not (pt_val (pe_callg ((ok_does_rule_keep T).up (by decide)) hg hr (by rfl) T.g_does_rule_keep T.d_does_rule_keep.kp T.b_does_rule_keep .nil pass0 (pa_cons (pv 3) (pa_cons (pv 4) pa_nil))))) (pw_and1 (pt_val (pe_callg ((ok_does_keep_raw T).up (by decide)) hg hr (by rfl) T.g_does_keep_raw T.d_does_keep_raw.kp T.b_does_keep_raw .nil pass0 (pa_cons (pv 0) (pa_cons (pv 2) (pa_cons (pv 4) pa_nil))))))))
  (pss_one (ps_expr (pe_bm PySem.F.plainAttrs_list PySem.F.slot_list_append PySem.F.type_list_append mt_append (pv 3) (pa_cons (pv 4) pa_nil))))
  pss_nil)))
  (pss_one (ps_ret (pe_callTy call_tuple_of (by rfl) T.n_tuple (by decide +kernel) (pa_cons (pe_callB (call_sortW hr.units) (by rfl) T.n_sorted (by decide +kernel) (pa_cons (pv 3) pa_nil)) pa_nil)))))),
    (ss_seq (l1 := [3]) (ss_par (l := []) (l' := [3]) (ms := []) (sa_cons (sd_call (sa_cons (sd_var 0) (sa_cons (sd_var 1) sa_nil)) bodyD_len) (sa_cons (sd_lst sa_nil) sa_nil)))
  (ss_seq (l1 := [3]) (ss_for (l := [3]) (lm := [3]) (si_any (sd_call (sa_cons (sd_cb w_tupOf (sa_cons (sd_sortSc (si_any (sd_var 2)) (sg_tup (sgs_cons (sg_name 5) (sgs_cons (sg_name 6) sgs_nil))) sb_yes (sd_var 5) (gok_tup (goks_cons (gok_name (by decide)) (goks_cons (gok_name (by decide)) goks_nil))) (by decide)) sa_nil)) sa_nil) bodyD_len)) (sg_name 4)
  (ss_if (l := [3]) (l' := [3]) (ms := []) (sb_and (sb_not (sb_b (sd_call (sa_cons (sd_var 3) (sa_cons (sd_var 4) sa_nil)) bodyD_len))) (sb_b (sd_call (sa_cons (sd_var 0) (sa_cons (sd_var 2) (sa_cons (sd_var 4) sa_nil))) bodyD_len)))
  (ss_drop (ms := [3]) (sd_append (spt_var 3) (sa_cons (sd_var 4) sa_nil)))
  ss_next))
  (ss_ret (l := [3]) (ms := []) (sd_cb w_tupOf (sa_cons (sd_cb w_sorted (sa_cons (sd_var 3) sa_nil)) sa_nil)))))⟩
theorem Tx.b_does_keep (T : Tx w K mg) : Binds K T.fd_does_keep ["wall", "cord", "kept"] [] := T.d_does_keep.bindsN fun _ _ _ _ _ _ us hl => match us, hl with | [_, _, _], _ => rfl
theorem kb_does_keep_2_1_0_0 (T : Tx w K mg) : KBinds K T.fd_does_keep ["wall", "cord", "kept"] ["kept", "cord", "wall"] (kwG 0 3 [2, 1, 0] []) (kwG 0 3 [2, 1, 0] []) := kbN T.d_does_keep (by decide) fun _ _ _ _ _ _ us ws h1 h2 => match us, h1, ws, h2 with | [], _, [_, _, _], _ => rfl
theorem ok_does_keep (T : Tx w K mg) : FnG P w K mg base CX0 10 T.a_does_keep T.fd_does_keep ["wall", "cord", "kept"] (spD K 3 F_does_keep) := by
  have sc := sc_does_keep
  refine fn_d' (N := N_does_keep) (n := 3) (k := 9) (b := b_does_keep) T.d_does_keep sc_does_keep rfl (fun cdv A outer s H E hg hr => ?_)
  exact ⟨_, PSs.nox (pss_cons (ps_expr (pe_callg ((ok_need_all T).up (by decide)) hg hr (by rfl) T.g_need_all T.d_need_all.kp T.b_need_all .nil pass0 (pa_cons (pv 0) (pa_cons (pv 1) (pa_cons (pv 2) pa_nil)))))
  (pss_one (ps_ret (pe_callg ((ok_does_keep_raw T).up (by decide)) hg hr (by rfl) T.g_does_keep_raw T.d_does_keep_raw.kp T.b_does_keep_raw .nil pass0 (pa_cons (pv 0) (pa_cons (pv 1) (pa_cons (pv 2) pa_nil))))))),
    (ss_seq (l1 := []) (ss_drop (ms := []) (sd_call (sa_cons (sd_var 0) (sa_cons (sd_var 1) (sa_cons (sd_var 2) sa_nil))) bodyD_len))
  (ss_ret (l := []) (ms := []) (sd_call (sa_cons (sd_var 0) (sa_cons (sd_var 1) (sa_cons (sd_var 2) sa_nil))) bodyD_len)))⟩
theorem Tx.b_rule_of (T : Tx w K mg) : Binds K T.fd_rule_of ["wall", "cord"] [] := T.d_rule_of.bindsN fun _ _ _ _ _ _ us hl => match us, hl with | [_, _], _ => rfl
theorem ok_rule_of (T : Tx w K mg) : FnG P w K mg base CX0 11 T.a_rule_of T.fd_rule_of ["wall", "cord"] (spD K 2 F_rule_of) := by
  have sc := sc_rule_of
  refine fn_d' (N := N_rule_of) (n := 2) (k := 10) (b := b_rule_of) T.d_rule_of sc_rule_of rfl (fun cdv A outer s H E hg hr => ?_)
  exact ⟨_, PSs.nox (pss_cons (ps_expr (pe_callg ((ok_need_one T).up (by decide)) hg hr (by rfl) T.g_need_one T.d_need_one.kp T.b_need_one .nil pass0 (pa_cons (pv 0) (pa_cons (pv 1) pa_nil))))
  (pss_one (ps_ret (pe_callg ((ok_rule_by_cord T).up (by decide)) hg hr (by rfl) T.g_rule_by_cord T.d_rule_by_cord.kp T.b_rule_by_cord .nil pass0 (pa_cons (pv 0) (pa_cons (pv 1) pa_nil)))))),
    (ss_seq (l1 := []) (ss_drop (ms := []) (sd_call (sa_cons (sd_var 0) (sa_cons (sd_var 1) sa_nil)) bodyD_len))
  (ss_ret (l := []) (ms := []) (sd_call (sa_cons (sd_var 0) (sa_cons (sd_var 1) sa_nil)) bodyD_len)))⟩
theorem Tx.b__law_is_told_right (T : Tx w K mg) : Binds K T.fd__law_is_told_right ["deck", "wall", "order", "cord"] [] := T.d__law_is_told_right.bindsN fun _ _ _ _ _ _ us hl => match us, hl with | [_, _, _, _], _ => rfl
theorem ok__law_is_told_right (T : Tx w K mg) : FnG P w K mg base CX0 12 T.a__law_is_told_right T.fd__law_is_told_right ["deck", "wall", "order", "cord"] (spM K 3 F__law_is_told_right) := by
  have sc := sc__law_is_told_right
  refine fn_m' (N := N__law_is_told_right) (n := 3) (k := 11) (b := b__law_is_told_right) T.d__law_is_told_right sc__law_is_told_right rfl (fun cdv A outer s H E hg hr => ?_)
  exact ⟨_, PSs.nox (pss_cons (ps_asg (pe_tup (pa_cons (pe_callTy call_tuple_of (by rfl) T.n_tuple (by decide +kernel) (pa_cons (pe_callB (call_sortW hr.units) (by rfl) T.n_sorted (by decide +kernel) (pa_cons (pv 2) pa_nil)) pa_nil)) (pa_cons (pe_callg ((ok__law_pick T).up (by decide)) hg hr (by rfl) T.g__law_pick T.d__law_pick.kp T.b__law_pick .nil pass0 (pa_cons (pv 0) (pa_cons (pv 2) pa_nil))) pa_nil))) (pg_un rfl (pgs_cons (pg_name (i := 4) sc.nd rfl (by first | exact .inl rfl | exact .inr rfl)) (pgs_cons (pg_name (i := 5) sc.nd rfl (by first | exact .inl rfl | exact .inr rfl)) pgs_nil))))
  (pss_cons (ps_set (i := 6) sc.nd rfl (by first | exact .inl rfl | exact .inr rfl) (pe_callTy call_tuple_of (by rfl) T.n_tuple (by decide +kernel) (pa_cons (pe_lc (own := [("peg", 9)]) (by rfl) sc.nd (pi_range2 (by rfl) T.n_range (pa_cons pe_int (pa_cons (pe_op op_addW (pe_callB call_lenW (by rfl) T.n_len (by decide +kernel) (pa_cons (pe_ix ix_seq (pv 1) pe_int (fun _ _ => rfl)) pa_nil)) pe_int) pa_nil))) (blkOk_by (N := N__law_is_told_right) (sc := defScope s__law_is_told_right) (by decide +kernel)) (fun _ _ _ _ _ => (pg_name (i := 9) sc.nd rfl (by first | exact .inl rfl | exact .inr rfl))) (fun _ _ _ _ _ => (pts_one (PW.pt (pw_or (pt_cmpR (op_inD hr.units) (pv 9) (pv 4) (by rfl)) (pw_or1 (pt_cmpR (op_eqW hr.units) (pe_callg ((ok__law_draw T).up (by decide)) hg hr (by rfl) T.g__law_draw T.d__law_draw.kp T.b__law_draw .nil pass0 (pa_cons (pv 0) (pa_cons pe_int pa_nil))) pe_int (nomark _))))))) (fun _ _ _ _ _ => (pv 9))) pa_nil)))
  (pss_cons (ps_set (i := 7) sc.nd rfl (by first | exact .inl rfl | exact .inr rfl) (pe_callTy call_tuple_of (by rfl) T.n_tuple (by decide +kernel) (pa_cons (pe_lc (own := [("peg", 9)]) (by rfl) sc.nd (pi_any (pv 6)) (blkOk_by (N := N__law_is_told_right) (sc := defScope s__law_is_told_right) (by decide +kernel)) (fun _ _ _ _ _ => (pg_name (i := 9) sc.nd rfl (by first | exact .inl rfl | exact .inr rfl))) (fun _ _ _ _ _ => (pts_one (pt_cmpR (op_neW hr.units) (pv 9) (pv 5) (nomark _)))) (fun _ _ _ _ _ => (pv 9))) pa_nil)))
  (pss_cons (ps_set (i := 8) sc.nd rfl (by first | exact .inl rfl | exact .inr rfl) (pe_lst (pa_cons (pe_callg ((ok_does_keep T).up (by decide)) hg hr (by rfl) T.g_does_keep T.d_does_keep.kp T.b_does_keep .nil pass0 (pa_cons (pv 1) (pa_cons (pv 3) (pa_cons (pv 4) pa_nil)))) (pa_cons (pe_callg ((ok_does_keep T).up (by decide)) hg hr (by rfl) T.g_does_keep T.d_does_keep.kp T.b_does_keep .nil pass0 (pa_cons (pv 1) (pa_cons (pv 3) (pa_cons (pv 6) pa_nil)))) (pa_cons (pe_callKg0 ((ok_does_keep T).up (by decide)) hg hr (by rfl) T.g_does_keep T.d_does_keep.kp (kb_does_keep_2_1_0_0 T) pass0  (pk_cons (pv 7) (pk_cons (pv 3) (pk_cons (pv 1) pk_nil)))) pa_nil)))))
  (pss_one (ps_ret (pe_callg ((ok__law_same T).up (by decide)) hg hr (by rfl) T.g__law_same T.d__law_same.kp T.b__law_same .nil pass0 (pa_cons (pe_op op_addW (pv 8) (pe_lst (pa_cons (pe_callg ((ok_rule_of T).up (by decide)) hg hr (by rfl) T.g_rule_of T.d_rule_of.kp T.b_rule_of .nil pass0 (pa_cons (pv 1) (pa_cons (pv 3) pa_nil))) pa_nil))) (pa_cons (pe_lst (pa_cons pe_bl (pa_cons pe_bl (pa_cons pe_bl (pa_cons (pe_tup (pa_cons (pv 4) pa_nil)) pa_nil))))) pa_nil))))))))),
    (ss_seq (l1 := [0]) (ss_unpN (l := [0]) (l' := [0]) (ms := [0]) (sd_tup (sa_cons (sd_cb w_tupOf (sa_cons (sd_cb w_sorted (sa_cons (sd_var 2) sa_nil)) sa_nil)) (sa_cons (sd_callm (sa_cons (sd_var 2) sa_nil) bodyM_len) sa_nil))) (tn_cons (tn_cons tn_nil)))
  (ss_seq (l1 := [0]) (ss_asg (l := [0]) (l' := [0]) (ms := [0]) (sd_cb w_tupOf (sa_cons (sd_lc (SiR.si (sir_r2 (sa_cons (sd_int 1) (sa_cons (sd_op w_add (sd_cb w_len (sa_cons (sd_op w_ix (sd_var 1) (sd_int 0)) sa_nil)) (sd_int 1)) sa_nil)))) (sg_name 9) (sb_or (sb_test (sd_op w_in (sd_var 9) (sd_var 4))) (sb_test (sd_op w_eq (sd_callm (sa_cons (sd_int 2) sa_nil) bodyM_len) (sd_int 0)))) (sd_var 9) (gok_name (by decide)) (by decide)) sa_nil)))
  (ss_seq (l1 := [0]) (ss_asg (l := [0]) (l' := [0]) (ms := [0]) (sd_cb w_tupOf (sa_cons (sd_lc (si_any (sd_var 6)) (sg_name 9) (sb_test (sd_op w_ne (sd_var 9) (sd_var 5))) (sd_var 9) (gok_name (by decide)) (by decide)) sa_nil)))
  (ss_seq (l1 := [0]) (ss_asg (l := [0]) (l' := [0]) (ms := [0]) (sd_lst (sa_cons (sd_call (sa_cons (sd_var 1) (sa_cons (sd_var 3) (sa_cons (sd_var 4) sa_nil))) bodyD_len) (sa_cons (sd_call (sa_cons (sd_var 1) (sa_cons (sd_var 3) (sa_cons (sd_var 6) sa_nil))) bodyD_len) (sa_cons (sd_callk sa_nil (sa_cons (sd_var 7) (sa_cons (sd_var 3) (sa_cons (sd_var 1) sa_nil))) (fun _ => Rps.nil) bodyD_len) sa_nil)))))
  (ss_ret (l := [0]) (ms := [0]) (sd_call (sa_cons (sd_op w_add (sd_var 8) (sd_lst (sa_cons (sd_call (sa_cons (sd_var 1) (sa_cons (sd_var 3) sa_nil)) bodyD_len) sa_nil))) (sa_cons (sd_lst (sa_cons (sd_bl true) (sa_cons (sd_bl true) (sa_cons (sd_bl false) (sa_cons (sd_tup (sa_cons (sd_var 4) sa_nil)) sa_nil))))) sa_nil)) bodyD_len))))))⟩
theorem ok_law (T : Tx w K mg) : FnG P w K mg base CX0 13 T.a_law T.fd_law ["script"] (spD K 1 F_law) := by
  have sc := sc_law
  refine fn_d' (N := N_law) (n := 1) (k := 12) (b := b_law) T.d_law sc_law rfl (fun cdv A outer s H E hg hr => ?_)
  exact ⟨_, PSs.nox (pss_cons (ps_set (i := 1) sc.nd rfl (by first | exact .inl rfl | exact .inr rfl) (pe_callg ((ok__law_deck T).up (by decide)) hg hr (by rfl) T.g__law_deck T.d__law_deck.kp T.b__law_deck .nil pass0 (pa_cons (pv 0) pa_nil)))
  (pss_cons (ps_for PassesOwn.never rfl (pi_range1 (by rfl) T.n_range (pa_cons pe_int pa_nil)) (pg_name (i := 2) sc.nd rfl (by first | exact .inl rfl | exact .inr rfl))
  (pss_cons (ps_set (i := 3) sc.nd rfl (by first | exact .inl rfl | exact .inr rfl) (pe_callg ((ok__law_board T).up (by decide)) hg hr (by rfl) T.g__law_board T.d__law_board.kp T.b__law_board .nil pass0 (pa_cons (pv 1) (pa_cons (pe_op op_addW pe_int (pe_callg ((ok__law_draw T).up (by decide)) hg hr (by rfl) T.g__law_draw T.d__law_draw.kp T.b__law_draw .nil pass0 (pa_cons (pv 1) (pa_cons pe_int pa_nil)))) pa_nil))))
  (pss_cons (ps_set (i := 4) sc.nd rfl (by first | exact .inl rfl | exact .inr rfl) (pe_callg ((ok__law_web T).up (by decide)) hg hr (by rfl) T.g__law_web T.d__law_web.kp T.b__law_web .nil pass0 (pa_cons (pv 3) pa_nil)))
  (pss_cons (ps_set (i := 5) sc.nd rfl (by first | exact .inl rfl | exact .inr rfl) (pe_callg ((ok__law_order T).up (by decide)) hg hr (by rfl) T.g__law_order T.d__law_order.kp T.b__law_order .nil pass0 (pa_cons (pv 1) (pa_cons (pv 4) (pa_cons (pe_callg ((ok__law_pick T).up (by decide)) hg hr (by rfl) T.g__law_pick T.d__law_pick.kp T.b__law_pick .nil pass0 (pa_cons (pv 1) (pa_cons (pe_tup (pa_cons pe_int (pa_cons pe_int (pa_cons pe_int (pa_cons pe_int (pa_cons pe_int (pa_cons pe_int (pa_cons pe_int (pa_cons pe_int (pa_cons pe_int pa_nil)))))))))) pa_nil))) pa_nil)))))
  (pss_cons (ps_set (i := 6) sc.nd rfl (by first | exact .inl rfl | exact .inr rfl) (pe_callg ((ok__law_nest T).up (by decide)) hg hr (by rfl) T.g__law_nest T.d__law_nest.kp T.b__law_nest .nil pass0 (pa_cons (pv 5) pa_nil)))
  (pss_cons (ps_if (pt_not (pt_val (pe_callg ((ok__law_same T).up (by decide)) hg hr (by rfl) T.g__law_same T.d__law_same.kp T.b__law_same .nil pass0 (pa_cons (pe_lst (pa_cons (pe_callg ((ok_nest T).up (by decide)) hg hr (by rfl) T.g_nest T.d_nest.kp T.b_nest .nil pass0 (pa_cons (pv 3) (pa_cons (pv 5) pa_nil))) (pa_cons (pe_callKg0 ((ok_nest T).up (by decide)) hg hr (by rfl) T.g_nest T.d_nest.kp (kb_nest_1_0_0 T) pass0  (pk_cons (pv 5) (pk_cons (pv 3) pk_nil))) (pa_cons (pe_callg ((ok_is_cord T).up (by decide)) hg hr (by rfl) T.g_is_cord T.d_is_cord.kp T.b_is_cord .nil pass0 (pa_cons (pv 3) (pa_cons (pv 6) pa_nil))) pa_nil)))) (pa_cons (pe_lst (pa_cons (pv 6) (pa_cons (pv 6) (pa_cons pe_bl pa_nil)))) pa_nil)))))
  (pss_one (ps_ret pe_bl))
  pss_nil)
  (pss_cons (ps_set (i := 7) sc.nd rfl (by first | exact .inl rfl | exact .inr rfl) (pe_tup (pa_cons (pe_tup (pa_cons (pe_ix ix_seq (pv 5) (pe_un un_neg pe_int) (fun _ _ => rfl)) (pa_cons pe_int pa_nil))) pa_nil)))
  (pss_cons (ps_if (PW.pt (pw_and (pt_cmpR (op_gtD hr.units) (pe_callB call_lenW (by rfl) T.n_len (by decide +kernel) (pa_cons (pv 5) pa_nil)) pe_int (nomark _)) (pw_and1 (pt_cmpR (op_ltD hr.units) (pe_callB call_lenW (by rfl) T.n_len (by decide +kernel) (pa_cons (pv 5) pa_nil)) pe_int (nomark _)))))
  (pss_cons (ps_set (i := 8) sc.nd rfl (by first | exact .inl rfl | exact .inr rfl) (pe_callg ((ok_nest T).up (by decide)) hg hr (by rfl) T.g_nest T.d_nest.kp T.b_nest .nil pass0 (pa_cons (pv 3) (pa_cons (pe_slice sl_W (pv 5) po_none (po_some (pe_un un_neg pe_int))) pa_nil))))
  (pss_cons (ps_par (i := 9) (j := 10) (by rfl) sc.nd rfl rfl (by decide) rfl rfl (pa_cons (pe_callg ((ok_behind T).up (by decide)) hg hr (by rfl) T.g_behind T.d_behind.kp T.b_behind .nil pass0 (pa_cons (pv 3) (pa_cons (pv 8) (pa_cons (pv 7) pa_nil)))) (pa_cons (pe_callg ((ok_behind T).up (by decide)) hg hr (by rfl) T.g_behind T.d_behind.kp T.b_behind .nil pass0 (pa_cons (pv 3) (pa_cons (pe_callg ((ok_back T).up (by decide)) hg hr (by rfl) T.g_back T.d_back.kp T.b_back .nil pass0 (pa_cons (pv 3) (pa_cons (pv 8) pa_nil))) (pa_cons (pe_callg ((ok_back T).up (by decide)) hg hr (by rfl) T.g_back T.d_back.kp T.b_back .nil pass0 (pa_cons (pv 3) (pa_cons (pv 7) pa_nil))) pa_nil)))) pa_nil)) (by rfl))
  (pss_one (ps_if (pt_not (pt_val (pe_callg ((ok__law_same T).up (by decide)) hg hr (by rfl) T.g__law_same T.d__law_same.kp T.b__law_same .nil pass0 (pa_cons (pe_lst (pa_cons (pe_callg ((ok_swap T).up (by decide)) hg hr (by rfl) T.g_swap T.d_swap.kp T.b_swap .nil pass0 (pa_cons (pv 3) (pa_cons (pv 8) (pa_cons (pv 7) pa_nil)))) (pa_cons (pe_callg ((ok_behind T).up (by decide)) hg hr (by rfl) T.g_behind T.d_behind.kp T.b_behind .nil pass0 (pa_cons (pv 3) (pa_cons (pv 9) (pa_cons (pv 10) pa_nil)))) pa_nil))) (pa_cons (pe_lst (pa_cons (pv 6) (pa_cons (pv 6) pa_nil))) pa_nil)))))
  (pss_one (ps_ret pe_bl))
  pss_nil))))
  pss_nil)
  (pss_cons (ps_if (PW.pt (pw_or (pt_not (pt_val (pe_callg ((ok__law_keeps T).up (by decide)) hg hr (by rfl) T.g__law_keeps T.d__law_keeps.kp T.b__law_keeps .nil pass0 (pa_cons (pv 4) (pa_cons (pe_callg ((ok_nest T).up (by decide)) hg hr (by rfl) T.g_nest T.d_nest.kp T.b_nest .nil pass0 (pa_cons (pv 3) (pa_cons (pv 5) pa_nil))) (pa_cons (pv 5) pa_nil)))))) (pw_or1 (pt_not (pt_val (pe_callg ((ok__law_keeps T).up (by decide)) hg hr (by rfl) T.g__law_keeps T.d__law_keeps.kp T.b__law_keeps .nil pass0 (pa_cons (pv 4) (pa_cons (pv 6) (pa_cons (pe_tupRg (by rfl) (by rfl) T.n_tuple (prg_2 (by rfl) T.n_range pe_int (pe_callB call_lenW (by rfl) T.n_len (by decide +kernel) (pa_cons (pe_ix ix_seq (pv 4) pe_int (fun _ _ => rfl)) pa_nil)))) pa_nil)))))))))
  (pss_one (ps_ret pe_bl))
  pss_nil)
  (pss_cons (ps_for PassesOwn.never rfl (pi_any (pv 5)) (pg_name (i := 11) sc.nd rfl (by first | exact .inl rfl | exact .inr rfl))
  (pss_one (ps_if (pt_val (pe_callg ((ok__law_keeps T).up (by decide)) hg hr (by rfl) T.g__law_keeps T.d__law_keeps.kp T.b__law_keeps .nil pass0 (pa_cons (pv 4) (pa_cons (pv 6) (pa_cons (pe_lc (own := [("peg", 12)]) (by rfl) sc.nd (pi_range2 (by rfl) T.n_range (pa_cons pe_int (pa_cons (pe_callB call_lenW (by rfl) T.n_len (by decide +kernel) (pa_cons (pe_ix ix_seq (pv 4) pe_int (fun _ _ => rfl)) pa_nil)) pa_nil))) (blkOk_by (N := N_law) (sc := defScope s_law) (by decide +kernel)) (fun _ _ _ _ _ => (pg_name (i := 12) sc.nd rfl (by first | exact .inl rfl | exact .inr rfl))) (fun _ _ _ _ _ => (pts_one (pt_cmpR (op_neW hr.units) (pv 12) (pv 11) (nomark _)))) (fun _ _ _ _ _ => (pv 12))) pa_nil)))))
  (pss_one (ps_ret pe_bl))
  pss_nil)))
  (pss_one (ps_if (PW.pt (pw_and (pt_cmpR (op_ltD hr.units) (pe_callB call_lenW (by rfl) T.n_len (by decide +kernel) (pa_cons (pv 5) pa_nil)) pe_int (nomark _)) (pw_and1 (pt_not (pt_val (pe_callg ((ok__law_is_told_right T).up (by decide)) hg hr (by rfl) T.g__law_is_told_right T.d__law_is_told_right.kp T.b__law_is_told_right .nil pass0 (pa_cons (pv 1) (pa_cons (pv 3) (pa_cons (pv 5) (pa_cons (pv 6) pa_nil))))))))))
  (pss_one (ps_ret pe_bl))
  pss_nil))))))))))))
  (pss_one (ps_ret pe_bl)))),
    (ss_seq (l1 := [1]) (ss_asg (l := []) (l' := [1]) (ms := []) (sd_call (sa_cons (sd_var 0) sa_nil) bodyD_len))
  (ss_seq (l1 := [1]) (ss_forR (l := [1]) (ms := [1]) (sir_r1 (sa_cons (sd_int 3) sa_nil)) (sg_name 2)
  (ss_seq (l1 := [1]) (ss_asg (l := [1]) (l' := [1]) (ms := [1]) (sd_callm (sa_cons (sd_op w_add (sd_int 1) (sd_callm (sa_cons (sd_int 8) sa_nil) bodyM_len)) sa_nil) bodyM_len))
  (ss_seq (l1 := [1]) (ss_asg (l := [1]) (l' := [1]) (ms := [1]) (sd_call (sa_cons (sd_var 3) sa_nil) bodyD_len))
  (ss_seq (l1 := [1]) (ss_asg (l := [1]) (l' := [1]) (ms := [1]) (sd_callm (sa_cons (sd_var 4) (sa_cons (sd_callm (sa_cons (sd_tup (sa_cons (sd_int 4) (sa_cons (sd_int 3) (sa_cons (sd_int 2) (sa_cons (sd_int 5) (sa_cons (sd_int 1) (sa_cons (sd_int 4) (sa_cons (sd_int 3) (sa_cons (sd_int 6) (sa_cons (sd_int 7) sa_nil)))))))))) sa_nil) bodyM_len) sa_nil)) bodyM_len))
  (ss_seq (l1 := [1]) (ss_asg (l := [1]) (l' := [1]) (ms := [1]) (sd_call (sa_cons (sd_var 5) sa_nil) bodyD_len))
  (ss_seq (l1 := [1]) (ss_if (l := [1]) (l' := [1]) (ms := [1]) (sb_not (sb_b (sd_call (sa_cons (sd_lst (sa_cons (sd_call (sa_cons (sd_var 3) (sa_cons (sd_var 5) sa_nil)) bodyD_len) (sa_cons (sd_callk sa_nil (sa_cons (sd_var 5) (sa_cons (sd_var 3) sa_nil)) (fun _ => Rps.nil) bodyD_len) (sa_cons (sd_call (sa_cons (sd_var 3) (sa_cons (sd_var 6) sa_nil)) bodyD_len) sa_nil)))) (sa_cons (sd_lst (sa_cons (sd_var 6) (sa_cons (sd_var 6) (sa_cons (sd_bl true) sa_nil)))) sa_nil)) bodyD_len)))
  (ss_ret (l := [1]) (ms := [1]) (sd_bl false))
  ss_next)
  (ss_seq (l1 := [1]) (ss_asg (l := [1]) (l' := [1]) (ms := [1]) (sd_tup (sa_cons (sd_tup (sa_cons (sd_op w_ix (sd_var 5) (sd_un w_neg (sd_int 1))) (sa_cons (sd_int 1) sa_nil))) sa_nil)))
  (ss_seq (l1 := [1]) (ss_if (l := [1]) (l' := [1]) (ms := [1]) (sb_and (sb_test (sd_op w_cmp (sd_cb w_len (sa_cons (sd_var 5) sa_nil)) (sd_int 1))) (sb_test (sd_op w_cmp (sd_cb w_len (sa_cons (sd_var 5) sa_nil)) (sd_int 6))))
  (ss_seq (l1 := [1]) (ss_asg (l := [1]) (l' := [1]) (ms := [1]) (sd_call (sa_cons (sd_var 3) (sa_cons (sd_sl (sd_var 5) so_none (so_some (sd_un w_neg (sd_int 1)))) sa_nil)) bodyD_len))
  (ss_seq (l1 := [1]) (ss_par (l := [1]) (l' := [1]) (ms := [1]) (sa_cons (sd_call (sa_cons (sd_var 3) (sa_cons (sd_var 8) (sa_cons (sd_var 7) sa_nil))) bodyD_len) (sa_cons (sd_call (sa_cons (sd_var 3) (sa_cons (sd_call (sa_cons (sd_var 3) (sa_cons (sd_var 8) sa_nil)) bodyD_len) (sa_cons (sd_call (sa_cons (sd_var 3) (sa_cons (sd_var 7) sa_nil)) bodyD_len) sa_nil))) bodyD_len) sa_nil)))
  (ss_if (l := [1]) (l' := [1]) (ms := [1]) (sb_not (sb_b (sd_call (sa_cons (sd_lst (sa_cons (sd_call (sa_cons (sd_var 3) (sa_cons (sd_var 8) (sa_cons (sd_var 7) sa_nil))) bodyD_len) (sa_cons (sd_call (sa_cons (sd_var 3) (sa_cons (sd_var 9) (sa_cons (sd_var 10) sa_nil))) bodyD_len) sa_nil))) (sa_cons (sd_lst (sa_cons (sd_var 6) (sa_cons (sd_var 6) sa_nil))) sa_nil)) bodyD_len)))
  (ss_ret (l := [1]) (ms := [1]) (sd_bl false))
  ss_next)))
  ss_next)
  (ss_seq (l1 := [1]) (ss_if (l := [1]) (l' := [1]) (ms := [1]) (sb_or (sb_not (sb_b (sd_call (sa_cons (sd_var 4) (sa_cons (sd_call (sa_cons (sd_var 3) (sa_cons (sd_var 5) sa_nil)) bodyD_len) (sa_cons (sd_var 5) sa_nil))) bodyD_len))) (sb_not (sb_b (sd_call (sa_cons (sd_var 4) (sa_cons (sd_var 6) (sa_cons (sd_tupRg2 (sd_int 1) (sd_cb w_len (sa_cons (sd_op w_ix (sd_var 4) (sd_int 0)) sa_nil))) sa_nil))) bodyD_len))))
  (ss_ret (l := [1]) (ms := [1]) (sd_bl false))
  ss_next)
  (ss_seq (l1 := [1]) (ss_for (l := [1]) (lm := [1]) (si_any (sd_var 5)) (sg_name 11)
  (ss_if (l := [1]) (l' := [1]) (ms := [1]) (sb_b (sd_call (sa_cons (sd_var 4) (sa_cons (sd_var 6) (sa_cons (sd_lc (SiR.si (sir_r2 (sa_cons (sd_int 1) (sa_cons (sd_cb w_len (sa_cons (sd_op w_ix (sd_var 4) (sd_int 0)) sa_nil)) sa_nil)))) (sg_name 12) (sb_test (sd_op w_ne (sd_var 12) (sd_var 11))) (sd_var 12) (gok_name (by decide)) (by decide)) sa_nil))) bodyD_len))
  (ss_ret (l := [1]) (ms := [1]) (sd_bl false))
  ss_next))
  (ss_if (l := [1]) (l' := [1]) (ms := [1]) (sb_and (sb_test (sd_op w_cmp (sd_cb w_len (sa_cons (sd_var 5) sa_nil)) (sd_int 5))) (sb_not (sb_b (sd_callm (sa_cons (sd_var 3) (sa_cons (sd_var 5) (sa_cons (sd_var 6) sa_nil))) bodyM_len))))
  (ss_ret (l := [1]) (ms := [1]) (sd_bl false))
  ss_next)))))))))))
  (ss_ret (l := [1]) (ms := [1]) (sd_bl true))))⟩
end
end Lk34
set_option Elab.async false
set_option linter.all false
set_option maxRecDepth 100000
set_option maxHeartbeats 0
namespace Lk34
open PySem PySem.Spec PyProof.Rows L2
def hd_is_whole : He.DefD := ⟨("is_whole", none), "is_whole", "is_whole", defArgs s_is_whole, defBody s_is_whole, defScope s_is_whole, [], []⟩
def hd_do_ascend : He.DefD := ⟨("do_ascend", none), "do_ascend", "do_ascend", defArgs s_do_ascend, defBody s_do_ascend, defScope s_do_ascend, [], []⟩
def hd_many_of : He.DefD := ⟨("many_of", none), "many_of", "many_of", defArgs s_many_of, defBody s_many_of, defScope s_many_of, [], []⟩
def hd_slip_of : He.DefD := ⟨("slip_of", none), "slip_of", "slip_of", defArgs s_slip_of, defBody s_slip_of, defScope s_slip_of, [], []⟩
def hd_has_rail : He.DefD := ⟨("has_rail", none), "has_rail", "has_rail", defArgs s_has_rail, defBody s_has_rail, defScope s_has_rail, [], []⟩
def hd_is_within : He.DefD := ⟨("is_within", none), "is_within", "is_within", defArgs s_is_within, defBody s_is_within, defScope s_is_within, [], []⟩
def hd_back_of : He.DefD := ⟨("back_of", none), "back_of", "back_of", defArgs s_back_of, defBody s_back_of, defScope s_back_of, [], []⟩
def hd_on_set : He.DefD := ⟨("on_set", none), "on_set", "on_set", defArgs s_on_set, defBody s_on_set, defScope s_on_set, [], []⟩
def hd_Sliding___init__ : He.DefD := ⟨("Sliding", some "__init__"), "__init__", "Sliding.__init__", defArgs s_Sliding___init__, defBody s_Sliding___init__, defScope s_Sliding___init__, [], []⟩
def hd_all_sets : He.DefD := ⟨("all_sets", none), "all_sets", "all_sets", defArgs s_all_sets, defBody s_all_sets, defScope s_all_sets, [], []⟩
def hd__law_deck : He.DefD := ⟨("_law_deck", none), "_law_deck", "_law_deck", defArgs s__law_deck, defBody s__law_deck, defScope s__law_deck, [], []⟩
def hd__law_draw : He.DefD := ⟨("_law_draw", none), "_law_draw", "_law_draw", defArgs s__law_draw, defBody s__law_draw, defScope s__law_draw, [], []⟩
def hd__law_web : He.DefD := ⟨("_law_web", none), "_law_web", "_law_web", defArgs s__law_web, defBody s__law_web, defScope s__law_web, [], []⟩
def hd__law_keeps : He.DefD := ⟨("_law_keeps", none), "_law_keeps", "_law_keeps", defArgs s__law_keeps, defBody s__law_keeps, defScope s__law_keeps, [], []⟩
def hd__law_back : He.DefD := ⟨("_law_back", none), "_law_back", "_law_back", defArgs s__law_back, defBody s__law_back, defScope s__law_back, [], []⟩
def hd__law_same : He.DefD := ⟨("_law_same", none), "_law_same", "_law_same", defArgs s__law_same, defBody s__law_same, defScope s__law_same, [], []⟩
def hd_is_between : He.DefD := ⟨("is_between", none), "is_between", "is_between", defArgs s_is_between, defBody s_is_between, defScope s_is_between, [], []⟩
def hd_swap_of : He.DefD := ⟨("swap_of", none), "swap_of", "swap_of", defArgs s_swap_of, defBody s_swap_of, defScope s_swap_of, [], []⟩
def hd_Sliding_place_to_join : He.DefD := ⟨("Sliding", some "place_to_join"), "place_to_join", "Sliding.place_to_join", defArgs s_Sliding_place_to_join, defBody s_Sliding_place_to_join, defScope s_Sliding_place_to_join, [], []⟩
def hd_free_places : He.DefD := ⟨("free_places", none), "free_places", "free_places", defArgs s_free_places, defBody s_free_places, defScope s_free_places, [], []⟩
def hd_does_rule_keep : He.DefD := ⟨("does_rule_keep", none), "does_rule_keep", "does_rule_keep", defArgs s_does_rule_keep, defBody s_does_rule_keep, defScope s_does_rule_keep, [], []⟩
def hd__law_pick : He.DefD := ⟨("_law_pick", none), "_law_pick", "_law_pick", defArgs s__law_pick, defBody s__law_pick, defScope s__law_pick, [], []⟩
def hd__law_nest : He.DefD := ⟨("_law_nest", none), "_law_nest", "_law_nest", defArgs s__law_nest, defBody s__law_nest, defScope s__law_nest, [], []⟩
def hd_is_slip : He.DefD := ⟨("is_slip", none), "is_slip", "is_slip", defArgs s_is_slip, defBody s_is_slip, defScope s_is_slip, [], []⟩
def hd_is_rail : He.DefD := ⟨("is_rail", none), "is_rail", "is_rail", defArgs s_is_rail, defBody s_is_rail, defScope s_is_rail, [], []⟩
def hd_is_set_value : He.DefD := ⟨("is_set_value", none), "is_set_value", "is_set_value", defArgs s_is_set_value, defBody s_is_set_value, defScope s_is_set_value, [], []⟩
def hd_is_pair : He.DefD := ⟨("is_pair", none), "is_pair", "is_pair", defArgs s_is_pair, defBody s_is_pair, defScope s_is_pair, [], []⟩
def hd_slid_by : He.DefD := ⟨("slid_by", none), "slid_by", "slid_by", defArgs s_slid_by, defBody s_slid_by, defScope s_slid_by, [], []⟩
def hd_arranged : He.DefD := ⟨("arranged", none), "arranged", "arranged", defArgs s_arranged, defBody s_arranged, defScope s_arranged, [], []⟩
def hd_nest_of : He.DefD := ⟨("nest_of", none), "nest_of", "nest_of", defArgs s_nest_of, defBody s_nest_of, defScope s_nest_of, [], []⟩
def hd_are_pulls : He.DefD := ⟨("are_pulls", none), "are_pulls", "are_pulls", defArgs s_are_pulls, defBody s_are_pulls, defScope s_are_pulls, [], []⟩
def hd__law_board : He.DefD := ⟨("_law_board", none), "_law_board", "_law_board", defArgs s__law_board, defBody s__law_board, defScope s__law_board, [], []⟩
def hd__law_order : He.DefD := ⟨("_law_order", none), "_law_order", "_law_order", defArgs s__law_order, defBody s__law_order, defScope s__law_order, [], []⟩
def hd_is_wall_value : He.DefD := ⟨("is_wall_value", none), "is_wall_value", "is_wall_value", defArgs s_is_wall_value, defBody s_is_wall_value, defScope s_is_wall_value, [], []⟩
def hd_need_set : He.DefD := ⟨("need_set", none), "need_set", "need_set", defArgs s_need_set, defBody s_need_set, defScope s_need_set, [], []⟩
def hd_is_cord_value : He.DefD := ⟨("is_cord_value", none), "is_cord_value", "is_cord_value", defArgs s_is_cord_value, defBody s_is_cord_value, defScope s_is_cord_value, [], []⟩
def hd_Sliding_do : He.DefD := ⟨("Sliding", some "do"), "do", "Sliding.do", defArgs s_Sliding_do, defBody s_Sliding_do, defScope s_Sliding_do, [], []⟩
def hd_is_order : He.DefD := ⟨("is_order", none), "is_order", "is_order", defArgs s_is_order, defBody s_is_order, defScope s_is_order, [], []⟩
def hd_need_wall : He.DefD := ⟨("need_wall", none), "need_wall", "need_wall", defArgs s_need_wall, defBody s_need_wall, defScope s_need_wall, [], []⟩
def hd_need_cord : He.DefD := ⟨("need_cord", none), "need_cord", "need_cord", defArgs s_need_cord, defBody s_need_cord, defScope s_need_cord, [], []⟩
def hd_Sliding_turn_if_due : He.DefD := ⟨("Sliding", some "turn_if_due"), "turn_if_due", "Sliding.turn_if_due", defArgs s_Sliding_turn_if_due, defBody s_Sliding_turn_if_due, defScope s_Sliding_turn_if_due, [], []⟩
def hd_Sliding_join_with : He.DefD := ⟨("Sliding", some "join_with"), "join_with", "Sliding.join_with", defArgs s_Sliding_join_with, defBody s_Sliding_join_with, defScope s_Sliding_join_with, [], []⟩
def hd_is_cord : He.DefD := ⟨("is_cord", none), "is_cord", "is_cord", defArgs s_is_cord, defBody s_is_cord, defScope s_is_cord, [], []⟩
def hd_need_one : He.DefD := ⟨("need_one", none), "need_one", "need_one", defArgs s_need_one, defBody s_need_one, defScope s_need_one, [], []⟩
def hd_need_two : He.DefD := ⟨("need_two", none), "need_two", "need_two", defArgs s_need_two, defBody s_need_two, defScope s_need_two, [], []⟩
def hd_need_all : He.DefD := ⟨("need_all", none), "need_all", "need_all", defArgs s_need_all, defBody s_need_all, defScope s_need_all, [], []⟩
def hd_nest : He.DefD := ⟨("nest", none), "nest", "nest", defArgs s_nest, defBody s_nest, defScope s_nest, [], []⟩
def hd_Sliding_reduce : He.DefD := ⟨("Sliding", some "reduce"), "reduce", "Sliding.reduce", defArgs s_Sliding_reduce, defBody s_Sliding_reduce, defScope s_Sliding_reduce, [], []⟩
def hd_back : He.DefD := ⟨("back", none), "back", "back", defArgs s_back, defBody s_back, defScope s_back, [], []⟩
def hd_behind : He.DefD := ⟨("behind", none), "behind", "behind", defArgs s_behind, defBody s_behind, defScope s_behind, [], []⟩
def hd_swap : He.DefD := ⟨("swap", none), "swap", "swap", defArgs s_swap, defBody s_swap, defScope s_swap, [], []⟩
def hd_led : He.DefD := ⟨("led", none), "led", "led", defArgs s_led, defBody s_led, defScope s_led, [], []⟩
def hd_reduced : He.DefD := ⟨("reduced", none), "reduced", "reduced", defArgs s_reduced, defBody s_reduced, defScope s_reduced, [], []⟩
def hd_does_keep_raw : He.DefD := ⟨("does_keep_raw", none), "does_keep_raw", "does_keep_raw", defArgs s_does_keep_raw, defBody s_does_keep_raw, defScope s_does_keep_raw, [], []⟩
def hd_rule_by_cord : He.DefD := ⟨("rule_by_cord", none), "rule_by_cord", "rule_by_cord", defArgs s_rule_by_cord, defBody s_rule_by_cord, defScope s_rule_by_cord, [], []⟩
def hd_does_keep : He.DefD := ⟨("does_keep", none), "does_keep", "does_keep", defArgs s_does_keep, defBody s_does_keep, defScope s_does_keep, [], []⟩
def hd_rule_of : He.DefD := ⟨("rule_of", none), "rule_of", "rule_of", defArgs s_rule_of, defBody s_rule_of, defScope s_rule_of, [], []⟩
def hd__law_is_told_right : He.DefD := ⟨("_law_is_told_right", none), "_law_is_told_right", "_law_is_told_right", defArgs s__law_is_told_right, defBody s__law_is_told_right, defScope s__law_is_told_right, [], []⟩
def hd_law : He.DefD := ⟨("law", none), "law", "law", defArgs s_law, defBody s_law, defScope s_law, [], []⟩
def hfn : List He.DefD := [hd_is_whole, hd_do_ascend, hd_many_of, hd_slip_of, hd_has_rail, hd_is_within, hd_back_of, hd_on_set, hd_Sliding___init__, hd_all_sets, hd__law_deck, hd__law_draw, hd__law_web, hd__law_keeps, hd__law_back, hd__law_same, hd_is_between, hd_swap_of, hd_Sliding_place_to_join, hd_free_places, hd_does_rule_keep, hd__law_pick, hd__law_nest, hd_is_slip, hd_is_rail, hd_is_set_value, hd_is_pair, hd_slid_by, hd_arranged, hd_nest_of, hd_are_pulls, hd__law_board, hd__law_order, hd_is_wall_value, hd_need_set, hd_is_cord_value, hd_Sliding_do, hd_is_order, hd_need_wall, hd_need_cord, hd_Sliding_turn_if_due, hd_Sliding_join_with, hd_is_cord, hd_need_one, hd_need_two, hd_need_all, hd_nest, hd_Sliding_reduce, hd_back, hd_behind, hd_swap, hd_led, hd_reduced, hd_does_keep_raw, hd_rule_by_cord, hd_does_keep, hd_rule_of, hd__law_is_told_right, hd_law]
def hfa : List He.Fa := [.glo "is_whole", .glo "do_ascend", .glo "many_of", .glo "slip_of", .glo "has_rail", .glo "is_within", .glo "back_of", .glo "on_set", .glo "all_sets", .glo "_law_deck", .glo "_law_draw", .glo "_law_web", .glo "_law_keeps", .glo "_law_back", .glo "_law_same", .glo "is_between", .glo "swap_of", .glo "free_places", .glo "does_rule_keep", .glo "_law_pick", .glo "_law_nest", .glo "is_slip", .glo "is_rail", .glo "is_set_value", .glo "is_pair", .glo "slid_by", .glo "arranged", .glo "nest_of", .glo "are_pulls", .glo "_law_board", .glo "_law_order", .glo "is_wall_value", .glo "need_set", .glo "is_cord_value", .glo "is_order", .glo "need_wall", .glo "need_cord", .glo "is_cord", .glo "need_one", .glo "need_two", .glo "need_all", .glo "nest", .glo "back", .glo "behind", .glo "swap", .glo "led", .glo "reduced", .glo "does_keep_raw", .glo "rule_by_cord", .glo "does_keep", .glo "rule_of", .glo "_law_is_told_right", .glo "law", .free "all", .free "any", .free "bool", .free "enumerate", .free "int", .free "isinstance", .free "len", .free "list", .free "max", .free "min", .free "range", .free "repr", .free "set", .free "sorted", .free "tuple", .free "zip", .int "MOST_PEGS" 10, .int "MOST_SLIP" 30, .cls "Sliding", .noat "Sliding" "cord", .noat "Sliding" "slides", .noat "Sliding" "wall", .meth "Sliding" "do", .meth "Sliding" "join_with", .meth "Sliding" "place_to_join", .meth "Sliding" "reduce", .meth "Sliding" "turn_if_due", .mkr "Sliding", .glo "Sliding"]
abbrev R : PySem.W.OpenRow := PySem.W.OpenLaw.row PySem.Challenge.rw_pulledpegs_k34_nests_pair_by_pair
def hex (K : PySem.W.Frag) : Bool := He.eqO (PySem.W.nsIn K mainGlobals "combinations") (some (some (.type "itertools.combinations"))) && (Dv.tabsK K).isEmpty
def htf : List He.Defn := []
def hts : List He.Tab := []
abbrev hk : PySem.W.Hook := He.hookX 4 hfa hfn hts htf hex
end Lk34
section
open PySem PySem.W PySem.Calls PyProof.Rows
 local macro_rules | `(tactic| k_head) => `(tactic| o_head Lk34.hk)
open_top Lk34.hd0 for PySem.Challenge.rw_pulledpegs_k34_nests_pair_by_pair
end
set_option Elab.async false
set_option linter.all false
set_option maxRecDepth 100000
set_option maxHeartbeats 4000000
namespace Lk34
open PySem PySem.Spec PyProof.Rows L2 Dv DvR DvF
theorem ev_is_whole (w0 : W) : F_is_whole [w0] = ES b_is_whole [some w0] kBody := bodyD_eq _ _ _ _ rfl
theorem ev_slip_of (w0 w1 : W) : F_slip_of [w0, w1] = ES b_slip_of [some w0, some w1] kBody := bodyD_eq _ _ _ _ rfl
theorem ev_has_rail (w0 w1 w2 : W) : F_has_rail [w0, w1, w2] = ES b_has_rail [some w0, some w1, some w2] kBody := bodyD_eq _ _ _ _ rfl
theorem ev_is_between (w0 w1 w2 : W) : F_is_between [w0, w1, w2] = ES b_is_between [some w0, some w1, some w2] kBody := bodyD_eq _ _ _ _ rfl
theorem ev_Sliding_place_to_join (w0 w1 : W) : F_Sliding_place_to_join [w0, w1] = ES b_Sliding_place_to_join [some w0, some w1, none, none, none] kBody := bodyD_eq _ _ _ _ rfl
theorem ev_slid_by (w0 w1 w2 : W) : F_slid_by [w0, w1, w2] = ES b_slid_by [some w0, some w1, some w2, none, none, none, none, none, none, none, none] kBody := bodyD_eq _ _ _ _ rfl
theorem ev_Sliding_do (w0 w1 w2 : W) : F_Sliding_do w0 [w1, w2] = ES b_Sliding_do [some w0, some w1, some w2] kBodyM := bodyM_eq _ _ _ _ _ rfl
theorem ev_Sliding_turn_if_due (w0 w1 : W) : F_Sliding_turn_if_due w0 [w1] = ES b_Sliding_turn_if_due [some w0, some w1, none] kBodyM := bodyM_eq _ _ _ _ _ rfl
theorem ev_Sliding_join_with (w0 w1 w2 : W) : F_Sliding_join_with w0 [w1, w2] = ES b_Sliding_join_with [some w0, some w1, some w2, none, none] kBodyM := bodyM_eq _ _ _ _ _ rfl
end Lk34
set_option Elab.async false
set_option linter.all false
set_option maxRecDepth 100000
set_option maxHeartbeats 4000000
namespace Dv
open PySem PySem.Spec PyProof.Rows L2 DvR DvF PySem.W
end Dv
set_option Elab.async false
set_option linter.all false
set_option maxRecDepth 100000
set_option maxHeartbeats 4000000
namespace Gp
structure Wl where
  slips : List Int
  rails : List Pr
def Wl.n (u : Wl) : Int := u.slips.length
def Wl.sl (u : Wl) (p : Int) : Int := u.slips.getD (p - 1).toNat 0
def Wl.rail (u : Wl) (i j : Int) : Bool := decide ((min i j, max i j) ∈ u.rails)
structure Wl.Ok (u : Wl) : Prop where
  n0 : 1 ≤ u.slips.length
  n1 : u.slips.length ≤ 10
  sl : ∀ s ∈ u.slips, s = 0 ∨ (2 ≤ s ∧ s ≤ 30)
  rl : ∀ p ∈ u.rails, 1 ≤ p.1 ∧ p.1 < p.2 ∧ p.2 ≤ u.n
  asc : ((u.rails.zip (u.rails.drop 1)).all fun p => Dv.ltI [p.1.1, p.1.2] [p.2.1, p.2.2]) = true
  rn : u.rails.length ≤ 1000
theorem Wl.rail_comm (u : Wl) (i j : Int) : u.rail i j = u.rail j i := by
  unfold Wl.rail
  rw [Int.min_comm, Int.max_comm]
def Wl.wa (u : Wl) : Wa where
  tied p q := !decide (p = q) && !u.rail p q
  slip p := if 2 ≤ u.sl p then u.sl p else 0
  sym p q := by rw [u.rail_comm p q, decide_eq_decide.mpr (show p = q ↔ q = p from eq_comm)]
  irr p := by simp
  pos p := by
    by_cases h : 2 ≤ u.sl p
    · exact .inr (by rw [if_pos h]; exact h)
    · exact .inl (if_neg h)
theorem Wl.Ok.sl_at {u : Wl} (h : u.Ok) (p : Int) : u.sl p = 0 ∨ (2 ≤ u.sl p ∧ u.sl p ≤ 30) := by
  unfold Wl.sl
  rw [List.getD_eq_getElem?_getD]
  cases e : u.slips[(p - 1).toNat]? with
  | none => exact .inl rfl
  | some s => exact h.sl s (List.mem_of_getElem? e)
theorem Wl.Ok.slip {u : Wl} (h : u.Ok) (p : Int) : u.wa.slip p = u.sl p := by
  show (if 2 ≤ u.sl p then u.sl p else 0) = _
  rcases h.sl_at p with e | e
  · rw [if_neg (by omega), e]
  · rw [if_pos e.1]
theorem Wl.rail_ne {u : Wl} (h : u.Ok) {i j : Int} (r : u.rail i j = true) : i ≠ j := by
  intro e
  subst e
  unfold Wl.rail at r
  have := h.rl _ (of_decide_eq_true r)
  omega
/-- not tied and unlike: there is a rail -/
theorem Wl.untied {u : Wl} (h : u.Ok) {i j : Int} (r : u.rail i j = true) : u.wa.tied i j = false := by
  show (!decide (i = j) && !u.rail i j) = false
  rw [r]; simp
theorem Wl.untied_iff {u : Wl} (h : u.Ok) {i j : Int} : (i ≠ j ∧ u.wa.tied i j = false) ↔ u.rail i j = true := by
  constructor
  · rintro ⟨n, t⟩
    have t : (!decide (i = j) && !u.rail i j) = false := t
    rw [decide_eq_false n] at t
    simpa using t
  · intro r
    exact ⟨Wl.rail_ne h r, Wl.untied h r⟩
/-- a cord of the wall -/
def Cd (u : Wl) (c : Word) : Prop := ∀ x ∈ c, 1 ≤ x.1 ∧ x.1 ≤ u.n ∧ x.2 ≠ 0
theorem Cd.app {u : Wl} {c d : Word} (h : Cd u c) (h' : Cd u d) : Cd u (c ++ d) := fun x hx => (List.mem_append.mp hx).elim (h x) (h' x)
theorem Cd.left {u : Wl} {c d : Word} (h : Cd u (c ++ d)) : Cd u c := fun x hx => h x (List.mem_append_left _ hx)
def back (c : Word) : Word := c.reverse.map fun x => (x.1, 0 - x.2)
theorem Cd.back {u : Wl} {c : Word} (h : Cd u c) : Cd u (back c) := fun x hx => by
  obtain ⟨y, hy, rfl⟩ := List.mem_map.mp hx
  have := h y (List.mem_reverse.mp hy)
  exact ⟨this.1, this.2.1, by have := this.2.2; omega⟩
def onS (c : Word) (K : List Int) : Word := c.filter fun x => decide (x.1 ∈ K)
theorem Cd.onS {u : Wl} {c : Word} (h : Cd u c) (K : List Int) : Cd u (onS c K) := fun x hx => h x (List.mem_filter.mp hx).1
end Gp
namespace Dv
open PySem PySem.Spec PyProof.Rows L2 DvR DvF
abbrev l2 (x : Gp.Pr) : List Int := [x.1, x.2]
abbrev prW (x : Gp.Pr) : W := .tup [.int x.1, .int x.2]
theorem prW_tI (x : Gp.Pr) : prW x = tI (l2 x) := rfl
def cW (c : Gp.Word) : W := .tup (c.map prW)
def wW (u : Gp.Wl) : W := .tup [tI u.slips, .tup (u.rails.map prW)]
theorem cW_nil : cW [] = .tup [] := rfl
theorem prW_imm (x : Gp.Pr) : (prW x).imm = true := imm_tI' (l2 x)
theorem prs_imm (c : Gp.Word) : W.imms (c.map prW) = true := imms_map prW_imm c
theorem cW_imm (c : Gp.Word) : (cW c).imm = true := by unfold cW; rw [im_tup]; exact prs_imm c
theorem wW_imm (u : Gp.Wl) : (wW u).imm = true := by
  unfold wW
  rw [im_tup, imms_cons, imms_cons, imm_tI', im_tup, prs_imm, ims_nil]; rfl
theorem l2_inj {x y : Gp.Pr} (h : l2 x = l2 y) : x = y := by
  injection h with h1 h2
  injection h2 with h2 _
  exact Prod.ext h1 h2
theorem eqW_pr (x y : Gp.Pr) : eqW (prW x) (prW y) = decide (x = y) := by
  rw [prW_tI, prW_tI, eqW_tI]
  exact decide_eq_decide.mpr ⟨l2_inj, fun e => by rw [e]⟩
theorem shp_pr {n : Nat} (x : Gp.Pr) : (prW x).shp (n + 1) = true := shp_tI (l2 x)
theorem shp_cW {n : Nat} (c : Gp.Word) : (cW c).shp (n + 2) = true := shp_tup fun w hw => by
  obtain ⟨a, _, rfl⟩ := List.mem_map.mp hw
  exact shp_pr a
theorem eqW_cW (c d : Gp.Word) : eqW (cW c) (cW d) = decide (c = d) := eqW_tup eqW_pr c d
theorem eq_cW (c d : Gp.Word) : kEq (cW c) (cW d) = some (.bl (decide (c = d)), true) := kEq_of (shp_cW _) (shp_cW _) (fun _ h => nomatch h) (eqW_cW c d)
theorem ne_cW (c d : Gp.Word) : kNe (cW c) (cW d) = some (.bl (!decide (c = d)), true) := kNe_of (shp_cW _) (shp_cW _) (fun _ h => nomatch h) (eqW_cW c d)
theorem ne_cW0 (c : Gp.Word) : kNe (cW c) (.tup []) = some (.bl (!decide (c = [])), true) := ne_cW c []
theorem eq_cW0 (c : Gp.Word) : kEq (cW c) (.tup []) = some (.bl (decide (c = [])), true) := eq_cW c []
theorem len_cW (c : Gp.Word) : kLen [cW c] = some (.int c.length, true) := by
  show some (W.int ((c.map prW).length : Int), true) = _
  rw [List.length_map]
theorem in_prs (neg : Bool) (x : Gp.Pr) (L : Gp.Word) : kIn neg (prW x) (.tup (L.map prW)) = some (.bl (xor neg (decide (x ∈ L))), true) := (kIn_tup eqW_pr (fun _ => shp_pr _) neg x L).trans (congrArg (fun b => some (W.bl (xor neg b), true)) (decide_eq_decide.mpr Iff.rfl))
theorem ix_wW0 (u : Gp.Wl) : kIx (wW u) (.int 0) = some (tI u.slips, true) := by
  show some (tI u.slips, (tI u.slips).imm) = _
  rw [imm_tI']
theorem ix_wW1 (u : Gp.Wl) : kIx (wW u) (.int 1) = some (.tup (u.rails.map prW), true) := by
  show some (W.tup (u.rails.map prW), (W.tup (u.rails.map prW)).imm) = _
  rw [im_tup, prs_imm]
theorem ix_cW {c : Gp.Word} {k : Nat} {x : Gp.Pr} (h : c[k]? = some x) : kIx (cW c) (.int (k : Int)) = some (prW x, true) := by
  unfold cW
  rw [ix_tup, atI_nat, List.getElem?_map, h]
  show some (prW x, (prW x).imm) = _
  rw [prW_imm]
theorem ix_pr0 (x : Gp.Pr) : kIx (prW x) (.int 0) = some (.int x.1, true) := rfl
theorem ix_pr1 (x : Gp.Pr) : kIx (prW x) (.int 1) = some (.int x.2, true) := rfl
theorem add_cW (c d : Gp.Word) (h : c.length + d.length ≤ 1000000) : kAdd (cW c) (cW d) = some (cW (c ++ d), true) := by
  unfold cW
  rw [ad_tup, if_pos (by rw [List.length_map, List.length_map]; exact h), prs_imm, prs_imm, List.map_append]; rfl
theorem take_cW (c : Gp.Word) (k : Nat) : kSl (cW c) none (some (k : Int)) = some (cW (c.take k), true) := by
  unfold cW
  rw [sl_tup, cut_head, prs_imm]
theorem cut_from {α : Type} (f : α → W) (xs : List α) (k : Nat) : cutW (xs.map f) (some (k : Int)) none = (xs.drop k).map f := by
  rw [cut_map, sIx_none, HT.sIx_nat]
  by_cases h : k ≤ xs.length
  · rw [Nat.min_eq_left h, List.take_of_length_le (by rw [List.length_drop]; omega)]
  · rw [Nat.min_eq_right (by omega), List.drop_of_length_le (by omega), List.drop_of_length_le (by omega), List.take_nil]
theorem drop_cW (c : Gp.Word) (k : Nat) : kSl (cW c) (some (k : Int)) none = some (cW (c.drop k), true) := by
  unfold cW
  rw [sl_tup, cut_from, prs_imm]
theorem cW_one (x : Gp.Pr) : W.tup [prW x] = cW [x] := rfl
theorem cW_two (x y : Gp.Pr) : W.tup [prW x, prW y] = cW [x, y] := rfl
theorem nc1 : ((1 : Nat) : Int) = 1 := rfl
theorem nc2 : ((2 : Nat) : Int) = 2 := rfl
theorem nc3 : ((3 : Nat) : Int) = 3 := rfl
theorem all_tt {α : Type} (l : List α) : (l.all fun _ => true) = true := List.all_eq_true.mpr fun _ _ => rfl
theorem items_cW (c : Gp.Word) : itemsOf (cW c) = some (c.map prW) := rfl
end Dv
set_option Elab.async false
set_option linter.all false
set_option maxRecDepth 100000
set_option maxHeartbeats 4000000
local macro_rules | `(tactic| simp_arith [$args,*]) => `(tactic| simp -implicitDefEqProofs only [Dv.E_dcT, Dv.E_sortLen, Dv.kSrt_ap, Dv.srt3_dt, Dv.im_dt, Dv.E_look, Dv.kLk1_ap, Dv.kLk2_ap, Dv.lk3_s, Dv.E_get1, Dv.kGt1_ap, Dv.kGt2_ap, Dv.gt3_s, Dv.gt3_n, Dv.ifD_dk, Dv.ifD_fk, Dv.ifD_dt, Dv.ifD_fd, Dv.E_get2, Dv.kGu1_ap, Dv.kGu2_ap, Dv.kGu3_ap, Dv.E_lookIn, Dv.kLi1_ap, Dv.kLi2_ap, Dv.li3_s, Dv.li3_n, Dv.E_tnew, Dv.EI_keysD, Dv.kKy_ap, Dv.ky3_fd, Dv.ky3_fk, Dv.E_var, Dv.vk_s, Dv.vk2_t, Dv.vk2_f, Dv.E_mv, Dv.mk1_s, Dv.mk2_t, Dv.mk2_f, Dv.E_c, Dv.E_op, Dv.kOp1_ap, Dv.kOp2_ap, Dv.O_some, Dv.E_un, Dv.kUn_ap, Dv.E_isi, Dv.EA_nil, Dv.EA_cons, Dv.kCons1_ap, Dv.kCons2_ap, Dv.E_tup, Dv.E_lst, Dv.kTupA_ap, Dv.kLstA_ap, Dv.E_cb, Dv.kCbA_ap, Dv.E_call, Dv.E_callk, Dv.kCallK1_ap, Dv.kCallK2_ap, Dv.E_callm, Dv.cm1_s, Dv.kCallM_ap, Dv.cm2_s, Dv.O3_some, Dv.E_not, Dv.kNotE_ap, Dv.E_and, Dv.E_or, Dv.kAndE_ap, Dv.kOrE_ap, Dv.andM_t, Dv.andM_f, Dv.andM_b, Dv.orM_t, Dv.orM_f, Dv.orM_b, Dv.bind3_s, Dv.E_if, Dv.kIfE_ap, Dv.ifM_t, Dv.ifM_f, Dv.ifM_int, Dv.ifM_bl, Dv.ifM_tup, Dv.ifM_lst, Dv.E_chain, Dv.kCh1_ap, Dv.kCh2_ap, Dv.chM_s, Dv.ET_test, Dv.kTst_ap, Dv.ET_not, Dv.kNotT_ap, Dv.ET_yes, Dv.ET_and, Dv.ET_or, Dv.kAndT_ap, Dv.kOrT_ap, Dv.andT_t, Dv.andT_f, Dv.andT_b, Dv.orT_t, Dv.orT_f, Dv.orT_b, Dv.bind2_s, Dv.EI_items, Dv.kItm_ap, Dv.it2_s, Dv.items_tup, Dv.items_lst, Dv.items_fl, Dv.EI_r1, Dv.EI_r2, Dv.kRg1_ap, Dv.kRg2_ap, Dv.EI_zip, Dv.kZipA_ap, Dv.EI_enum, Dv.ES_seqN, Dv.kSeqN_nx, Dv.ES_fill, Dv.fl1_s, Dv.EI_enumT, Dv.kEnT_lst, Dv.kEnT_tup, Dv.kEnm_ap, Dv.E_sl, Dv.kSl1_ap, Dv.kSl2_ap, Dv.kSl3_ap, Dv.EO_none, Dv.EO_some, Dv.kOs_ap, Dv.E_rev, Dv.kRv_lst, Dv.kRv_fl, Dv.E_rg, Dv.kRgA_ap, Dv.kRgB_ap, Dv.gd_t, Dv.kId_ap, Dv.kIdT_ap, Dv.kIdS_ap, Dv.EP_var, Dv.pv1_s, Dv.EP_key, Dv.kPk1_ap, Dv.kPk2_ap, Dv.pk3_s, Dv.EP_ix, Dv.kPi1_ap, Dv.kPi2_ap, Dv.pi3_s, Dv.E_at, Dv.kAt1_ap, Dv.kAt2_ap, Dv.oa2_s, Dv.oa3_s, Dv.oa4_s, Dv.E_setat, Dv.kSt1_ap, Dv.kSt2_ap, Dv.kSt3_ap, Dv.at_nil, Dv.put_nil, Dv.E_dget, Dv.kDg1_ap, Dv.kDg2_ap, Dv.dg3_s, Dv.E_din, Dv.kDi1_ap, Dv.kDi2_ap, Dv.di3_s, Dv.E_dnew, Dv.key_int, Dv.key_str, Dv.ES_seq, Dv.kSeq_nx, Dv.kSeq_rt, Dv.kSeq_bk, Dv.kSeq_ct, Dv.ES_next, Dv.ES_break, Dv.ES_cont, Dv.ES_retN, Dv.ES_if, Dv.kIf_t, Dv.guard_f, Dv.andR_b, Dv.andR_t, Dv.andR_f, Dv.kIf_f, Dv.ES_ret, Dv.kRt_ap, Dv.ES_drop, Dv.kDr_ap, Dv.ES_asg, Dv.kAsg_ap, Dv.ES_unpN, Dv.kUnpN_apL, Dv.kUnpN_ap, Dv.ES_par, Dv.kPar_ap, Dv.sets_nil, Dv.sets_cons, Dv.ES_augI, Dv.ag1_s, Dv.kAug_ap, Dv.ES_for, Dv.ES_forR, Dv.kFor_ap, Dv.LB_nil, Dv.kLp_nx, Dv.kLp_ct, Dv.kLp_bk, Dv.kLp_rt, Dv.eg2_s, Dv.gNm_cons, Dv.gNm_zero, Dv.gTp_ap, Dv.gConsW_ap, Dv.gNilW_ap, Dv.ES_while, Dv.kBody_nx, Dv.kBody_rt, Dv.kBodyM_nx, Dv.kBodyM_rt, Dv.own_nil, Dv.own_cons, Dv.but_ap, Dv.im_int, Dv.im_bl, Dv.im_str, Dv.im_non, Dv.im_tup, Dv.im_fl, Dv.im_lst, Dv.im_dk, Dv.ims_nil, Dv.ims_cons, Dv.ims_int, Dv.ims_bl, Dv.ims_app, Dv.ad_int, Dv.ad_tup, Dv.ad_lst, Dv.sb_int, Dv.mu_int, Dv.mod_int, Dv.fdiv_int, Dv.band_int, Dv.bor_int, Dv.len_tup, Dv.len_lst, Dv.tupof_lst, Dv.tupof_tup, Dv.intof_int, Dv.max2_int, Dv.min2_int, Dv.op_app, Dv.op_ext, Dv.isi_tup', Dv.isi_int', Dv.isi_bool', Dv.ix_tup, Dv.ix_lst, Dv.atI_zero, Dv.atI_one, Dv.atI_two, Dv.atI_nat, Dv.kEq_int, Dv.kNe_int, Dv.kLt_int, Dv.kLe_int, Dv.kGt_int, Dv.kGe_int, Dv.start0_ap, List.getElem?_cons_zero, List.getElem?_cons_succ, List.set_cons_zero, List.set_cons_succ, List.length_cons, List.length_nil, List.length_map, List.all_cons, List.all_nil, List.contains_cons, List.contains_nil, Bool.true_and, Bool.and_true, Bool.false_and, Bool.and_false, Bool.true_or, Bool.or_true, Bool.false_or, Bool.or_false, Bool.not_true, Bool.not_false, decide_true, decide_false, beq_self_eq_true, Option.map_some, Option.bind_some, if_true, if_false, Bool.false_eq_true, Dv.LIM, List.nil_append, List.cons_append, List.append_nil, Nat.reduceAdd, Nat.reduceLT, Nat.reduceLeDiff, Nat.reduceEqDiff, Nat.reduceBEq, Nat.reduceSub, Int.reduceAdd, Int.reduceSub, Int.reduceMul, Int.reduceLT, Int.reduceLE, Int.reduceEq, Dv.kwG_ap, true_and, and_true, and_self, ne_eq, not_false_eq_true, not_true_eq_false, Dv.E_aug, Dv.kAu1_ap, Dv.kAu2_ap, Dv.au2_s, Dv.au3_s, Dv.au4_s, Dv.au5_ap, Dv.E_lc1, Dv.kLc1_map, Dv.kLc1_filter, Dv.kLc1_nil, Dv.E_lcP, Dv.kLcP_map, Dv.kLcP_filter, Dv.E_lc2, Dv.kLc2_map, Dv.getW_s, Dv.getB_s, Dv.getL_s, Dv.okW_s, Dv.okB_s, Dv.okL_s, Dv.range_map, Dv.zip_tup, Dv.zip_lst, Dv.pairs_map, Dv.enum_map, Dv.cut_tail, Dv.any_bls, Dv.kAll_map, Dv.sum_ints, Dv.filter_t, Dv.wD_imm, Dv.eq_str, Dv.ne_str, Dv.isi_tupE, Dv.in_ints, Dv.in_intsL, Dv.ne_tI, Dv.eq_tI, Dv.ne_tI0, Dv.eq_tI0, Dv.ne_lI0, Dv.eq_lI0, Dv.imm_tI', Dv.ims_tI, Dv.sl_tup, Dv.sl_lst, Dv.sIx_one, Dv.sIx_none, Dv.dis, implies_true, Int.zero_add,  Int.toNat_natCast,  forall_const, List.filterMap_cons, List.filterMap_nil, Bool.true_xor, Bool.false_xor, Bool.not_not, List.length_range, Dv.E_meth, Dv.mt1_s, Dv.E_methd, Dv.kMd1_ap, Dv.E_new, Dv.kNw_ap, Dv.nw3_s, Dv.EP_fld, Dv.kPf_ap, Dv.pf3_s, Dv.fld_get, Dv.fld_put, Dv.im_ins, Dv.EI_r3, Dv.kRg3_ap, Dv.E_revB, Dv.kRvB_lst, Dv.kRvB_fl, Dv.kRvB_tup, Dv.vk2_nf, Dv.cW_imm, Dv.wW_imm, Dv.ix_wW0, Dv.ix_wW1, Dv.len_cW, Dv.eq_cW, Dv.ne_cW, Dv.ne_cW0, Dv.eq_cW0, Dv.nc1, Dv.nc2, Dv.nc3, Dv.prs_imm, Dv.prW_imm, Dv.items_cW, Dv.all_tt, Dv.ix_pr0, Dv.ix_pr1, $args,*])
local macro_rules | `(tactic| simp_arith [$args,*] $l:location) => `(tactic| simp -implicitDefEqProofs only [Dv.E_dcT, Dv.E_sortLen, Dv.kSrt_ap, Dv.srt3_dt, Dv.im_dt, Dv.E_look, Dv.kLk1_ap, Dv.kLk2_ap, Dv.lk3_s, Dv.E_get1, Dv.kGt1_ap, Dv.kGt2_ap, Dv.gt3_s, Dv.gt3_n, Dv.ifD_dk, Dv.ifD_fk, Dv.ifD_dt, Dv.ifD_fd, Dv.E_get2, Dv.kGu1_ap, Dv.kGu2_ap, Dv.kGu3_ap, Dv.E_lookIn, Dv.kLi1_ap, Dv.kLi2_ap, Dv.li3_s, Dv.li3_n, Dv.E_tnew, Dv.EI_keysD, Dv.kKy_ap, Dv.ky3_fd, Dv.ky3_fk, Dv.E_var, Dv.vk_s, Dv.vk2_t, Dv.vk2_f, Dv.E_mv, Dv.mk1_s, Dv.mk2_t, Dv.mk2_f, Dv.E_c, Dv.E_op, Dv.kOp1_ap, Dv.kOp2_ap, Dv.O_some, Dv.E_un, Dv.kUn_ap, Dv.E_isi, Dv.EA_nil, Dv.EA_cons, Dv.kCons1_ap, Dv.kCons2_ap, Dv.E_tup, Dv.E_lst, Dv.kTupA_ap, Dv.kLstA_ap, Dv.E_cb, Dv.kCbA_ap, Dv.E_call, Dv.E_callk, Dv.kCallK1_ap, Dv.kCallK2_ap, Dv.E_callm, Dv.cm1_s, Dv.kCallM_ap, Dv.cm2_s, Dv.O3_some, Dv.E_not, Dv.kNotE_ap, Dv.E_and, Dv.E_or, Dv.kAndE_ap, Dv.kOrE_ap, Dv.andM_t, Dv.andM_f, Dv.andM_b, Dv.orM_t, Dv.orM_f, Dv.orM_b, Dv.bind3_s, Dv.E_if, Dv.kIfE_ap, Dv.ifM_t, Dv.ifM_f, Dv.ifM_int, Dv.ifM_bl, Dv.ifM_tup, Dv.ifM_lst, Dv.E_chain, Dv.kCh1_ap, Dv.kCh2_ap, Dv.chM_s, Dv.ET_test, Dv.kTst_ap, Dv.ET_not, Dv.kNotT_ap, Dv.ET_yes, Dv.ET_and, Dv.ET_or, Dv.kAndT_ap, Dv.kOrT_ap, Dv.andT_t, Dv.andT_f, Dv.andT_b, Dv.orT_t, Dv.orT_f, Dv.orT_b, Dv.bind2_s, Dv.EI_items, Dv.kItm_ap, Dv.it2_s, Dv.items_tup, Dv.items_lst, Dv.items_fl, Dv.EI_r1, Dv.EI_r2, Dv.kRg1_ap, Dv.kRg2_ap, Dv.EI_zip, Dv.kZipA_ap, Dv.EI_enum, Dv.ES_seqN, Dv.kSeqN_nx, Dv.ES_fill, Dv.fl1_s, Dv.EI_enumT, Dv.kEnT_lst, Dv.kEnT_tup, Dv.kEnm_ap, Dv.E_sl, Dv.kSl1_ap, Dv.kSl2_ap, Dv.kSl3_ap, Dv.EO_none, Dv.EO_some, Dv.kOs_ap, Dv.E_rev, Dv.kRv_lst, Dv.kRv_fl, Dv.E_rg, Dv.kRgA_ap, Dv.kRgB_ap, Dv.gd_t, Dv.kId_ap, Dv.kIdT_ap, Dv.kIdS_ap, Dv.EP_var, Dv.pv1_s, Dv.EP_key, Dv.kPk1_ap, Dv.kPk2_ap, Dv.pk3_s, Dv.EP_ix, Dv.kPi1_ap, Dv.kPi2_ap, Dv.pi3_s, Dv.E_at, Dv.kAt1_ap, Dv.kAt2_ap, Dv.oa2_s, Dv.oa3_s, Dv.oa4_s, Dv.E_setat, Dv.kSt1_ap, Dv.kSt2_ap, Dv.kSt3_ap, Dv.at_nil, Dv.put_nil, Dv.E_dget, Dv.kDg1_ap, Dv.kDg2_ap, Dv.dg3_s, Dv.E_din, Dv.kDi1_ap, Dv.kDi2_ap, Dv.di3_s, Dv.E_dnew, Dv.key_int, Dv.key_str, Dv.ES_seq, Dv.kSeq_nx, Dv.kSeq_rt, Dv.kSeq_bk, Dv.kSeq_ct, Dv.ES_next, Dv.ES_break, Dv.ES_cont, Dv.ES_retN, Dv.ES_if, Dv.kIf_t, Dv.guard_f, Dv.andR_b, Dv.andR_t, Dv.andR_f, Dv.kIf_f, Dv.ES_ret, Dv.kRt_ap, Dv.ES_drop, Dv.kDr_ap, Dv.ES_asg, Dv.kAsg_ap, Dv.ES_unpN, Dv.kUnpN_apL, Dv.kUnpN_ap, Dv.ES_par, Dv.kPar_ap, Dv.sets_nil, Dv.sets_cons, Dv.ES_augI, Dv.ag1_s, Dv.kAug_ap, Dv.ES_for, Dv.ES_forR, Dv.kFor_ap, Dv.LB_nil, Dv.kLp_nx, Dv.kLp_ct, Dv.kLp_bk, Dv.kLp_rt, Dv.eg2_s, Dv.gNm_cons, Dv.gNm_zero, Dv.gTp_ap, Dv.gConsW_ap, Dv.gNilW_ap, Dv.ES_while, Dv.kBody_nx, Dv.kBody_rt, Dv.kBodyM_nx, Dv.kBodyM_rt, Dv.own_nil, Dv.own_cons, Dv.but_ap, Dv.im_int, Dv.im_bl, Dv.im_str, Dv.im_non, Dv.im_tup, Dv.im_fl, Dv.im_lst, Dv.im_dk, Dv.ims_nil, Dv.ims_cons, Dv.ims_int, Dv.ims_bl, Dv.ims_app, Dv.ad_int, Dv.ad_tup, Dv.ad_lst, Dv.sb_int, Dv.mu_int, Dv.mod_int, Dv.fdiv_int, Dv.band_int, Dv.bor_int, Dv.len_tup, Dv.len_lst, Dv.tupof_lst, Dv.tupof_tup, Dv.intof_int, Dv.max2_int, Dv.min2_int, Dv.op_app, Dv.op_ext, Dv.isi_tup', Dv.isi_int', Dv.isi_bool', Dv.ix_tup, Dv.ix_lst, Dv.atI_zero, Dv.atI_one, Dv.atI_two, Dv.atI_nat, Dv.kEq_int, Dv.kNe_int, Dv.kLt_int, Dv.kLe_int, Dv.kGt_int, Dv.kGe_int, Dv.start0_ap, List.getElem?_cons_zero, List.getElem?_cons_succ, List.set_cons_zero, List.set_cons_succ, List.length_cons, List.length_nil, List.length_map, List.all_cons, List.all_nil, List.contains_cons, List.contains_nil, Bool.true_and, Bool.and_true, Bool.false_and, Bool.and_false, Bool.true_or, Bool.or_true, Bool.false_or, Bool.or_false, Bool.not_true, Bool.not_false, decide_true, decide_false, beq_self_eq_true, Option.map_some, Option.bind_some, if_true, if_false, Bool.false_eq_true, Dv.LIM, List.nil_append, List.cons_append, List.append_nil, Nat.reduceAdd, Nat.reduceLT, Nat.reduceLeDiff, Nat.reduceEqDiff, Nat.reduceBEq, Nat.reduceSub, Int.reduceAdd, Int.reduceSub, Int.reduceMul, Int.reduceLT, Int.reduceLE, Int.reduceEq, Dv.kwG_ap, true_and, and_true, and_self, ne_eq, not_false_eq_true, not_true_eq_false, Dv.E_aug, Dv.kAu1_ap, Dv.kAu2_ap, Dv.au2_s, Dv.au3_s, Dv.au4_s, Dv.au5_ap, Dv.E_lc1, Dv.kLc1_map, Dv.kLc1_filter, Dv.kLc1_nil, Dv.E_lcP, Dv.kLcP_map, Dv.kLcP_filter, Dv.E_lc2, Dv.kLc2_map, Dv.getW_s, Dv.getB_s, Dv.getL_s, Dv.okW_s, Dv.okB_s, Dv.okL_s, Dv.range_map, Dv.zip_tup, Dv.zip_lst, Dv.pairs_map, Dv.enum_map, Dv.cut_tail, Dv.any_bls, Dv.kAll_map, Dv.sum_ints, Dv.filter_t, Dv.wD_imm, Dv.eq_str, Dv.ne_str, Dv.isi_tupE, Dv.in_ints, Dv.in_intsL, Dv.ne_tI, Dv.eq_tI, Dv.ne_tI0, Dv.eq_tI0, Dv.ne_lI0, Dv.eq_lI0, Dv.imm_tI', Dv.ims_tI, Dv.sl_tup, Dv.sl_lst, Dv.sIx_one, Dv.sIx_none, Dv.dis, implies_true, Int.zero_add,  Int.toNat_natCast,  forall_const, List.filterMap_cons, List.filterMap_nil, Bool.true_xor, Bool.false_xor, Bool.not_not, List.length_range, Dv.E_meth, Dv.mt1_s, Dv.E_methd, Dv.kMd1_ap, Dv.E_new, Dv.kNw_ap, Dv.nw3_s, Dv.EP_fld, Dv.kPf_ap, Dv.pf3_s, Dv.fld_get, Dv.fld_put, Dv.im_ins, Dv.EI_r3, Dv.kRg3_ap, Dv.E_revB, Dv.kRvB_lst, Dv.kRvB_fl, Dv.kRvB_tup, Dv.vk2_nf, Dv.cW_imm, Dv.wW_imm, Dv.ix_wW0, Dv.ix_wW1, Dv.len_cW, Dv.eq_cW, Dv.ne_cW, Dv.ne_cW0, Dv.eq_cW0, Dv.nc1, Dv.nc2, Dv.nc3, Dv.prs_imm, Dv.prW_imm, Dv.items_cW, Dv.all_tt, Dv.ix_pr0, Dv.ix_pr1, $args,*] $l:location)
namespace Lk34.Ru
open PySem PySem.Spec PyProof.Rows L2 Dv DvR DvF
theorem whole (i : Int) : F_is_whole [.int i] = some (.bl true, true) := by
  rw [ev_is_whole]
  simp_arith [b_is_whole]
theorem between (x a b : Int) : F_is_between [.int x, .int a, .int b] = some (.bl (decide (a ≤ x) && decide (x ≤ b)), true) := by
  rw [ev_is_between]
  simp_arith [b_is_between, whole]
def inB (n x : Int) : Bool := decide (1 ≤ x) && decide (x ≤ n)
def wiB (xs ys : List Int) : Bool := xs.all fun x => decide (x ∈ ys)
/-- masks of which none is within another one -/
structure Anti (n : Nat) (M : List Nat) : Prop where
  lt : ∀ m ∈ M, m < 2 ^ n
  pos : ∀ m ∈ M, 0 < m
  nd : M.Nodup
  un : ∀ a ∈ M, ∀ b ∈ M, a ≠ b → a &&& b ≠ a
/-- what the masks keep -/
def keepM (M : List Nat) (m : Nat) : Bool := M.any fun a => decide (a &&& m = a)
end Lk34.Ru
set_option Elab.async false
set_option linter.all false
set_option maxRecDepth 100000
set_option maxHeartbeats 4000000
namespace Lk34.Ru
open PySem PySem.Spec PyProof.Rows L2 Dv DvR DvF
def mnB (U : List (List Int)) (x : List Int) : Bool := decide ((U.filter fun y => !decide (y = x) && wiB y x) = [])
def least (U : List (List Int)) : List (List Int) := U.filter (mnB U)
theorem wiB_iff {x y : List Int} : wiB x y = true ↔ ∀ z ∈ x, z ∈ y := by
  unfold wiB
  rw [List.all_eq_true]
  exact ⟨fun h z hz => of_decide_eq_true (h z hz), fun h z hz => decide_eq_true (h z hz)⟩
theorem asc_nd {x : List Int} (h : x.Pairwise (· < ·)) : x.Nodup := h.imp fun h => by omega
theorem wiB_len {x y : List Int} (hx : x.Pairwise (· < ·)) (hy : y.Pairwise (· < ·)) (h : wiB x y = true) (ne : x ≠ y) : x.length < y.length := by
  have h' := wiB_iff.mp h
  have le := nd_len (asc_nd hx) h'
  refine Nat.lt_of_le_of_ne le fun e => ne (asc_eq hx hy fun z => ⟨h' z, fun hz => ?_⟩)
  refine Classical.byContradiction fun c => ?_
  have := nd_len (l := z :: x) (l' := y) (List.nodup_cons.mpr ⟨c, asc_nd hx⟩) fun u hu => by
    rcases List.mem_cons.mp hu with rfl | hu
    · exact hz
    · exact h' u hu
  rw [List.length_cons] at this
  omega
section
variable {U : List (List Int)}
/-- below each there is a least one -/
theorem below (asc : ∀ x ∈ U, x.Pairwise (· < ·)) : ∀ (k : Nat) (y : List Int), y.length ≤ k → y ∈ U → ∃ y' ∈ U, wiB y' y = true ∧ ∀ u ∈ U, u ≠ y' → wiB u y' = false
  | k, y, hk, hy => by
    by_cases c : ∀ u ∈ U, u ≠ y → wiB u y = false
    · exact ⟨y, hy, wiB_iff.mpr fun _ h => h, c⟩
    · obtain ⟨u, hu, hne, hw⟩ : ∃ u ∈ U, u ≠ y ∧ wiB u y = true := by
        refine Classical.byContradiction fun d => c fun u hu hne => ?_
        cases e : wiB u y with
        | false => rfl
        | true => exact absurd ⟨u, hu, hne, e⟩ d
      have lt := wiB_len (asc u hu) (asc y hy) hw hne
      match k, hk with
      | 0, hk => omega
      | k + 1, hk =>
        obtain ⟨y', h1, h2, h3⟩ := below asc k u (by omega) hu
        exact ⟨y', h1, wiB_iff.mpr fun z hz => wiB_iff.mp hw z (wiB_iff.mp h2 z hz), h3⟩
end
end Lk34.Ru
set_option Elab.async false
set_option linter.all false
set_option maxRecDepth 100000
set_option maxHeartbeats 4000000
namespace Gp
open PySem
abbrev Sld := Str × Int
/-- a slide that can be done -/
inductive SlS (u : Wl) : Word → Sld → Word → Prop
  | turn (a b : Word) (x : Pr) : u.sl x.1 ≠ 0 → SlS u (a ++ x :: b) (("turn" : Str), (a.length : Int)) (a ++ one x.1 (x.2 % u.sl x.1) ++ b)
  | join (a b : Word) (p w w' : Int) : SlS u (a ++ (p, w) :: (p, w') :: b) (("join" : Str), (a.length : Int)) (a ++ one p (w + w') ++ b)
  | past (a b : Word) (x y : Pr) : u.rail x.1 y.1 = true → SlS u (a ++ x :: y :: b) (("past" : Str), (a.length : Int)) (a ++ y :: x :: b)
inductive Row (u : Wl) : Word → List Sld → Word → Prop
  | nil (c : Word) : Row u c [] c
  | cons {c d e : Word} {s : Sld} {l : List Sld} : SlS u c s d → Row u d l e → Row u c (s :: l) e
theorem Row.app {u : Wl} {c d e : Word} {l m : List Sld} (h : Row u c l d) (h' : Row u d m e) : Row u c (l ++ m) e := by
  induction h with
  | nil _ => exact h'
  | cons s _ ih => exact .cons s (ih h')
theorem Row.one {u : Wl} {c d : Word} {s : Sld} (h : SlS u c s d) : Row u c [s] d := .cons h (.nil _)
variable {u : Wl}
theorem nm_wall (h : u.Ok) (p w : Int) : nm u.wa p w = if u.sl p = 0 then w else w % u.sl p := by
  unfold nm
  rw [h.slip]
theorem SlS.sl (h : u.Ok) {c d : Word} {s : Sld} (z : SlS u c s d) : Sl u.wa c d := by
  cases z with
  | turn a b x hs =>
    have := Sl.turn (A := u.wa) a b x.1 x.2
    rw [nm_wall h, if_neg hs] at this
    exact this
  | join a b p w w' => exact .join a b p w w'
  | past a b x y r => exact .past a b x y (Wl.rail_ne h r) (Wl.untied h r)
theorem Row.eqv (h : u.Ok) {c d : Word} {l : List Sld} (r : Row u c l d) : Eqv u.wa c d := by
  induction r with
  | nil _ => exact .refl _
  | cons s _ ih => exact .step (s.sl h) ih
theorem one_cd {p w : Int} (h1 : 1 ≤ p) (h2 : p ≤ u.n) : Cd u (one p w) := by
  intro x hx
  unfold one at hx
  split at hx
  · cases hx
  · rename_i n
    rw [List.mem_singleton.mp hx]
    exact ⟨h1, h2, n⟩
theorem one_len (p w : Int) : (one p w).length ≤ 1 := by unfold one; split <;> simp
theorem SlS.cd {c d : Word} {s : Sld} (z : SlS u c s d) (h : Cd u c) : Cd u d ∧ d.length ≤ c.length := by
  cases z with
  | turn a b x hs =>
    have hx := h x (by simp)
    have := one_len x.1 (x.2 % u.sl x.1)
    exact ⟨(h.left.app (one_cd hx.1 hx.2.1)).app fun y hy => h y (by simp [hy]), by simp; omega⟩
  | join a b p w w' =>
    have hx := h (p, w) (by simp)
    have := one_len p (w + w')
    exact ⟨(h.left.app (one_cd hx.1 hx.2.1)).app fun y hy => h y (by simp [hy]), by simp; omega⟩
  | past a b x y r => exact ⟨fun z hz => h z (by simp at hz ⊢; rcases hz with h | h | h | h <;> simp [h]), by simp⟩
theorem Row.cd {c d : Word} {l : List Sld} (r : Row u c l d) (h : Cd u c) : Cd u d ∧ d.length ≤ c.length := by
  induction r with
  | nil _ => exact ⟨h, Nat.le_refl _⟩
  | cons s _ ih =>
    obtain ⟨h1, h2⟩ := s.cd h
    obtain ⟨h3, h4⟩ := ih h1
    exact ⟨h3, by omega⟩
/-- the place to which a pair of p behind c can slide to be joined; c from its end -/
def pj (u : Wl) (p : Int) : Word → Option Nat
  | [] => none
  | y :: r => if y.1 = p then some r.length else if u.rail y.1 p = true then pj u p r else none
theorem pj_some {p : Int} : ∀ {r : Word} {k : Nat}, pj u p r = some k → ∃ t w v, r = t ++ (p, w) :: v ∧ v.length = k ∧ ∀ y ∈ t, u.rail y.1 p = true
  | [], k, h => by cases h
  | y :: r, k, h => by
    unfold pj at h
    split at h
    · rename_i e
      cases h
      exact ⟨[], y.2, r, by rw [← e]; rfl, rfl, fun _ z => nomatch z⟩
    · split at h
      · rename_i e
        obtain ⟨t, w, v, h1, h2, h3⟩ := pj_some h
        exact ⟨y :: t, w, v, by rw [h1]; rfl, h2, fun z hz => by
          rcases List.mem_cons.mp hz with rfl | hz
          · exact e
          · exact h3 z hz⟩
      · cases h
theorem pl_rev_last (A : Wa) (c : Word) (q : Int) : (pl A c q).getLast?.getD 0 = ((c.reverse.filterMap (lay A q)).head?).getD 0 := by
  unfold pl
  rw [List.filterMap_reverse, List.head?_reverse]
theorem pj_none (h : u.Ok) {p : Int} : ∀ {r : Word}, pj u p r = none → ((r.filterMap (lay u.wa p)).head?).getD 0 = 0
  | [], _ => rfl
  | y :: r, z => by
    unfold pj at z
    split at z
    · cases z
    · rename_i n
      rw [List.filterMap_cons]
      split at z
      · rename_i e
        rw [lay_none ((Wl.untied_iff h).mpr e)]
        exact pj_none h z
      · rename_i e
        have t : u.wa.tied y.1 p = true := by
          cases c : u.wa.tied y.1 p with
          | true => rfl
          | false => exact absurd ((Wl.untied_iff h).mp ⟨n, c⟩) e
        have : lay u.wa p y = some 0 := by
          unfold lay
          rw [if_neg n, if_pos t]
        rw [this]
        rfl
/-- a pair more that can't be joined -/
theorem Red.snoc {A : Wa} {c : Word} {x : Pr} (r : Red A c) (h : x.2 ≠ 0) (hn : nm A x.1 x.2 = x.2) (hj : (pl A c x.1).getLast?.getD 0 = 0) : Red A (c ++ [x]) := by
  refine ⟨fun y hy => ?_, fun a y b e => ?_⟩
  · rcases List.mem_append.mp hy with hy | hy
    · exact r.nrm y hy
    · rw [List.mem_singleton.mp hy]
      exact ⟨h, hn⟩
  · rcases List.eq_nil_or_concat b with rfl | ⟨b, z, rfl⟩
    · obtain ⟨e1, e2⟩ := List.append_inj' (show c ++ [x] = a ++ [y] from e) rfl
      injection e2 with e2 _
      subst e1 e2
      exact hj
    · have e : c ++ [x] = (a ++ y :: b) ++ [z] := by rw [e]; simp
      obtain ⟨e1, _⟩ := List.append_inj' e rfl
      exact r.nj a y b e1
/-- other winds at a pair -/
theorem Red.change {A : Wa} {a b : Word} {p w w' : Int} (r : Red A (a ++ (p, w) :: b)) (h : w' ≠ 0) (hn : nm A p w' = w') : Red A (a ++ (p, w') :: b) := by
  have hw := r.nrm (p, w) (by simp)
  refine red_of (fun y hy => ?_) fun q => ?_
  · rcases List.mem_append.mp hy with hy | hy
    · exact r.nrm y (by simp [hy])
    · rcases List.mem_cons.mp hy with rfl | hy
      · exact ⟨h, hn⟩
      · exact r.nrm y (by simp [hy])
  · have s := Red.sep _ r q
    rw [pl_append, pl_cons] at s ⊢
    by_cases e : p = q
    · subst e
      have l1 : ∀ v : Int, lay A p (p, v) = some v := fun v => if_pos rfl
      rw [l1] at s ⊢
      have s : Sep (pl A a p ++ w :: pl A b p) := s
      show Sep (pl A a p ++ w' :: pl A b p)
      generalize pl A a p = L at *
      generalize pl A b p = M at *
      intro u1 x y v1 e1
      rcases List.append_eq_append_iff.mp e1 with ⟨d, h1, h2⟩ | ⟨d, h1, h2⟩
      · cases d with
        | nil =>
          rw [List.nil_append] at h2
          injection h2 with h2 h3
          subst h2
          rw [List.append_nil] at h1
          have := s L w y v1 (by rw [h3])
          exact .inr (this.resolve_left hw.1)
        | cons k d =>
          rw [List.cons_append] at h2
          injection h2 with h2 h3
          subst h2
          exact s (L ++ w :: d) x y v1 (by rw [h3]; simp)
      · cases d with
        | nil =>
          rw [List.nil_append] at h2
          injection h2 with h2 h3
          rw [List.append_nil] at h1
          subst h1
          have := s L w y v1 (by rw [h3])
          exact .inr (this.resolve_left hw.1)
        | cons k d =>
          rw [List.cons_append] at h2
          injection h2 with h2 h3
          subst h2
          cases d with
          | nil =>
            rw [List.nil_append] at h3
            injection h3 with h3 h4
            have := s u1 x w M (by rw [h1]; simp)
            exact .inl (this.resolve_right hw.1)
          | cons k2 d =>
            rw [List.cons_append] at h3
            injection h3 with h3 h4
            subst h3
            exact s u1 x y (d ++ w :: M) (by rw [h1]; simp)
    · have l1 : lay A q (p, w') = lay A q (p, w) := by unfold lay; rw [if_neg e, if_neg e]
      rw [l1]
      exact s
end Gp
set_option Elab.async false
set_option linter.all false
set_option maxRecDepth 100000
set_option maxHeartbeats 4000000
namespace Dv
open PySem PySem.Spec PyProof.Rows L2 DvR DvF PySem.W
end Dv
set_option Elab.async false
set_option linter.all false
set_option maxRecDepth 100000
set_option maxHeartbeats 4000000
namespace Gp
variable {u : Wl}
/-- the form -/
def Form (A : Wa) (c f : Word) : Prop := ∃ r, Eqv A c r ∧ Red A r ∧ Arr A r f
theorem Form.eqv {A : Wa} {c f : Word} (h : Form A c f) : Eqv A c f := by
  obtain ⟨r, h1, h2, h3⟩ := h
  exact h1.trans h3.eqv
theorem Form.red {A : Wa} {c f : Word} (h : Form A c f) : Red A f := by
  obtain ⟨r, h1, h2, h3⟩ := h
  exact (h3.red h2).1
theorem Form.nil_iff {A : Wa} {c f : Word} (h : Form A c f) : f = [] ↔ ∀ q, Gp.st A c q = [] := by
  rw [h.red.empty, st_eqv h.eqv]
end Gp
set_option Elab.async false
set_option linter.all false
set_option maxRecDepth 100000
set_option maxHeartbeats 4000000
namespace Dv
open PySem PySem.Spec PyProof.Rows L2 DvR DvF
def plW (p : List Int) : W := .lst (p.map W.int)
theorem ps_set (P : List (List Int)) (j : Nat) (p : List Int) : (P.map plW).set j (plW p) = (P.set j p).map plW := List.map_set.symm
end Dv
set_option Elab.async false
set_option linter.all false
set_option maxRecDepth 100000
set_option maxHeartbeats 4000000
namespace Lk34
open PySem PySem.Spec PyProof.Rows L2 Dv DvR DvF
def z : DkC := ⟨"left", "draws", 64373, 2147483587, 48271, 77, 2147483549, 52361, 19, 2147483399, 40014, 2147483563⟩
def y : DkI := ⟨10898034, 69621, 2147483587, 29, 2147483629⟩
theorem zok : z.Ok := ⟨by rfl, by rfl, by rfl, by decide, by decide, by decide, by decide, by decide, by decide, by decide, by decide, by decide⟩
theorem draws : Draws z F__law_draw := draws_of z zok
noncomputable abbrev nx (D : DkT) (m : Int) : DkT := (drw z F__law_draw D m).2
noncomputable def pk {α : Type} (D : DkT) (xs : List α) (d : α) : α := xs.getD (pkN z F__law_draw D xs.length) d
end Lk34
set_option Elab.async false
set_option linter.all false
set_option maxRecDepth 100000
set_option maxHeartbeats 4000000
namespace Lk34
open PySem PySem.Spec PyProof.Rows L2 Dv DvR DvF
end Lk34
set_option Elab.async false
set_option linter.all false
set_option maxRecDepth 100000
set_option maxHeartbeats 4000000
namespace Lk34.Ru
open PySem PySem.Spec PyProof.Rows L2 Dv DvR DvF
end Lk34.Ru
set_option Elab.async false
set_option linter.all false
set_option maxRecDepth 100000
set_option maxHeartbeats 4000000
namespace Lk34.Ru
open PySem PySem.Spec PyProof.Rows L2 Dv DvR DvF
end Lk34.Ru
set_option Elab.async false
set_option linter.all false
set_option maxRecDepth 100000
set_option maxHeartbeats 4000000
namespace Lk34.Ru
open PySem PySem.Spec PyProof.Rows L2 Dv DvR DvF
/-- the least of some masks -/
def dd : List Nat → List Nat
  | [] => []
  | c :: C => if c ∈ C then dd C else c :: dd C
theorem below_pow {n : Nat} {F : List Nat} (nd : F.Nodup) (h : ∀ t ∈ F, t < 2 ^ n) : F.length ≤ 2 ^ n := by
  have := nd_len nd (l' := List.range (2 ^ n)) fun x hx => List.mem_range.mpr (h x hx)
  rwa [List.length_range] at this
end Lk34.Ru
set_option Elab.async false
set_option linter.all false
set_option maxRecDepth 100000
set_option maxHeartbeats 4000000
namespace Lk34.Ru
open PySem PySem.Spec PyProof.Rows L2 Dv DvR DvF
def hits (L : List Nat) (t : Nat) : Prop := ∀ m ∈ L, t &&& m ≠ 0
/-- F: the least of all that hit -/
structure HM (n : Nat) (L F : List Nat) : Prop where
  nd : F.Nodup
  mem : ∀ t, t ∈ F ↔ t < 2 ^ n ∧ hits L t ∧ ∀ t', t' &&& t = t' → hits L t' → t' = t
theorem HM.lt {n : Nat} {L F : List Nat} (h : HM n L F) : ∀ t ∈ F, t < 2 ^ n := fun t ht => ((h.mem t).mp ht).1
theorem and_le' {a b : Nat} (h : a &&& b = a) : a ≤ b := by
  rw [← h]
  exact Nat.and_le_right
theorem and_tr {a b c : Nat} (h1 : a &&& b = a) (h2 : b &&& c = b) : a &&& c = a := by
  rw [← h1, Nat.and_assoc, h2]
end Lk34.Ru
set_option Elab.async false
set_option linter.all false
set_option maxRecDepth 100000
set_option maxHeartbeats 4000000
namespace Lk34.Ru
open PySem PySem.Spec PyProof.Rows L2 Dv DvR DvF
/-- all but these -/
def co (n t : Nat) : Nat := 2 ^ n - 1 - t
theorem HM.one {n : Nat} {M F : List Nat} (h : HM n M F) : (∀ t ∈ F, 0 < co n t) ∨ F = [2 ^ n - 1] := by
  by_cases c : 2 ^ n - 1 ∈ F
  · refine .inr ?_
    have all : ∀ t ∈ F, t = 2 ^ n - 1 := fun t ht => by
      obtain ⟨a, b, _⟩ := (h.mem t).mp ht
      refine ((h.mem _).mp c).2.2 t ?_ b
      refine Nat.eq_of_testBit_eq fun i => ?_
      rw [Nat.testBit_and, Nat.testBit_two_pow_sub_one]
      by_cases lt : i < n
      · rw [decide_eq_true lt, Bool.and_true]
      · rw [Nat.testBit_lt_two_pow (Nat.lt_of_lt_of_le a (Nat.pow_le_pow_right (by decide) (by omega)))]
        rfl
    have nd := h.nd
    match F, c, all, nd with
    | [t], _, all, _ => rw [all t (List.mem_singleton.mpr rfl)]
    | t :: u :: r, _, all, nd =>
      have e1 := all t (by simp)
      have e2 := all u (by simp)
      have := (List.nodup_cons.mp nd).1
      exact absurd (by rw [e1, e2]; simp) this
  · refine .inl fun t ht => Nat.pos_of_ne_zero fun e => c ?_
    have := h.lt t ht
    have e' : t = 2 ^ n - 1 := by unfold co at e; omega
    rw [← e']
    exact ht
end Lk34.Ru
set_option Elab.async false
set_option linter.all false
set_option maxRecDepth 100000
set_option maxHeartbeats 4000000
namespace Lk34.Ru
open PySem PySem.Spec PyProof.Rows L2 Dv DvR DvF
/-- the greatest falling masks -/
def grB (n : Nat) (M : List Nat) (g : Nat) : Bool := !keepM M g && decide (((List.range n).filter fun k => !g.testBit k && !keepM M (g + 2 ^ k)) = [])
def gr (n : Nat) (M : List Nat) : List Nat := (List.range (2 ^ n)).filter (grB n M)
end Lk34.Ru
set_option Elab.async false
set_option linter.all false
set_option maxRecDepth 100000
set_option maxHeartbeats 4000000
namespace Lk34.Ru
open PySem PySem.Spec PyProof.Rows L2 Dv DvR DvF
/-- L: the least masks below 2 ^ n of which f is true -/
structure Mn (n : Nat) (f : Nat → Bool) (L : List Nat) : Prop where
  nd : L.Nodup
  mem : ∀ t, t ∈ L ↔ t < 2 ^ n ∧ f t = true ∧ ∀ t', t' &&& t = t' → f t' = true → t' = t
theorem Mn.lt {n : Nat} {f : Nat → Bool} {L : List Nat} (h : Mn n f L) : ∀ t ∈ L, t < 2 ^ n := fun t ht => ((h.mem t).mp ht).1
theorem Mn.ext {n : Nat} {f g : Nat → Bool} {L : List Nat} (h : Mn n f L) (e : ∀ t, t < 2 ^ n → f t = g t) : Mn n g L := by
  refine ⟨h.nd, fun t => ?_⟩
  rw [h.mem]
  refine and_congr_right fun lt => ?_
  rw [e t lt]
  refine and_congr_right fun _ => ⟨fun a t' s => ?_, fun a t' s => ?_⟩
  · rw [← e t' (Nat.lt_of_le_of_lt (and_le' s) lt)]; exact a t' s
  · rw [e t' (Nat.lt_of_le_of_lt (and_le' s) lt)]; exact a t' s
theorem Mn.len {n : Nat} {f : Nat → Bool} {L : List Nat} (h : Mn n f L) : L.length ≤ 2 ^ n := below_pow h.nd h.lt
/-- what keeps a set keeps each greater one -/
def Mono (f : Nat → Bool) : Prop := ∀ a b, a &&& b = a → f a = true → f b = true
theorem keepM_iff {M : List Nat} {g : Nat} : keepM M g = true ↔ ∃ m ∈ M, m &&& g = m := by
  unfold keepM
  rw [List.any_eq_true]
  exact ⟨fun ⟨m, a, b⟩ => ⟨m, a, of_decide_eq_true b⟩, fun ⟨m, a, b⟩ => ⟨m, a, decide_eq_true b⟩⟩
/-- below each that is kept there is a least one -/
theorem Mn.below {n : Nat} {f : Nat → Bool} {L : List Nat} (h : Mn n f L) : ∀ (k u : Nat), u ≤ k → u < 2 ^ n → f u = true → ∃ t ∈ L, t &&& u = t
  | k, u, hk, lt, hu => by
    by_cases c : ∀ t', t' &&& u = t' → f t' = true → t' = u
    · exact ⟨u, (h.mem u).mpr ⟨lt, hu, c⟩, Nat.and_self u⟩
    · obtain ⟨v, h1, h2, h3⟩ : ∃ v, v &&& u = v ∧ f v = true ∧ v ≠ u := Classical.byContradiction fun d => c fun t' a b => Classical.byContradiction fun e => d ⟨t', a, b, e⟩
      have lv : v < u := Nat.lt_of_le_of_ne (and_le' h1) h3
      match k, hk with
      | 0, hk => omega
      | k + 1, hk =>
        obtain ⟨t, g1, g2⟩ := Mn.below h k v (by omega) (by omega) h2
        exact ⟨t, g1, and_tr g2 h1⟩
theorem Mn.keep {n : Nat} {f : Nat → Bool} {L : List Nat} (h : Mn n f L) (mo : Mono f) {u : Nat} (hu : u < 2 ^ n) : keepM L u = f u := by
  rw [Bool.eq_iff_iff, keepM_iff]
  constructor
  · rintro ⟨t, ht, s⟩
    exact mo t u s ((h.mem t).mp ht).2.1
  · exact fun e => h.below u u (Nat.le_refl u) hu e
end Lk34.Ru
set_option Elab.async false
set_option linter.all false
set_option maxRecDepth 100000
set_option maxHeartbeats 4000000
namespace Lk34.Ru
open PySem PySem.Spec PyProof.Rows L2 Dv DvR DvF
def tab (n : Nat) (f : Nat → Bool) : List Bool := (List.range (2 ^ n)).map f
end Lk34.Ru
set_option Elab.async false
set_option linter.all false
set_option maxRecDepth 100000
set_option maxHeartbeats 4000000
namespace Lk34
open PySem PySem.Spec PyProof.Rows L2 Dv DvR DvF Gp
theorem whole (i : Int) : F_is_whole [.int i] = some (.bl true, true) := by
  rw [ev_is_whole]
  simp_arith [b_is_whole]
theorem between (x a b : Int) : F_is_between [.int x, .int a, .int b] = some (.bl (decide (a ≤ x) && decide (x ≤ b)), true) := by
  rw [ev_is_between]
  simp_arith [b_is_between, whole]
theorem slip_of (u : Wl) {p : Int} (h1 : 1 ≤ p) (h2 : p ≤ u.n) : F_slip_of [wW u, .int p] = some (.int (u.sl p), true) := by
  have im := wW_imm u
  have it := imm_tI' u.slips
  unfold Wl.n at h2
  have ix : kIx (tI u.slips) (.int (p - 1)) = some (.int (u.sl p), true) := by
    have e : p - 1 = (((p - 1).toNat : Nat) : Int) := by omega
    have lt : (p - 1).toNat < u.slips.length := by omega
    unfold Wl.sl tI
    rw [e, Int.toNat_natCast, Dv.ix_tup, Dv.atI_nat, List.getElem?_map, List.getD_eq_getElem?_getD, List.getElem?_eq_getElem lt]
    rfl
  rw [ev_slip_of]
  simp_arith [b_slip_of, im, ix_wW0, it, ix]
theorem has_rail (u : Wl) (i j : Int) : F_has_rail [wW u, .int i, .int j] = some (.bl (u.rail i j), true) := by
  have im := wW_imm u
  have ip := prs_imm u.rails
  have mn : (if j < i then j else i) = min i j := by omega
  have mx : (if j > i then j else i) = max i j := by omega
  have i1 := in_prs false (min i j, max i j) u.rails
  have i1 : kIn false (.tup [.int (min i j), .int (max i j)]) (.tup (u.rails.map prW)) = some (.bl (u.rail i j), true) := by
    refine i1.trans ?_
    rw [Bool.false_xor]; rfl
  rw [ev_has_rail]
  simp_arith [b_has_rail, im, ix_wW1, ip, mn, mx, i1]
end Lk34
set_option Elab.async false
set_option linter.all false
set_option maxRecDepth 100000
set_option maxHeartbeats 4000000
namespace Lk34
open PySem PySem.Spec PyProof.Rows L2 Dv DvR DvF Gp
theorem sPT : (("past" : Str) == ("turn" : Str)) = false := by decide
theorem sJT : (("join" : Str) == ("turn" : Str)) = false := by decide
theorem sJP : (("join" : Str) == ("past" : Str)) = false := by decide
theorem mid_at {a b : Word} {x : Pr} : (a ++ x :: b)[a.length]? = some x := by
  rw [List.getElem?_append_right (Nat.le_refl _), Nat.sub_self]; rfl
theorem mid_at1 {a b : Word} {x y : Pr} : (a ++ x :: y :: b)[a.length + 1]? = some y := by
  rw [List.getElem?_append_right (by omega), Nat.add_sub_cancel_left]; rfl
theorem mid_take {a b : Word} : (a ++ b).take a.length = a := List.take_left
theorem mid_drop {a b : Word} {x : Pr} : (a ++ x :: b).drop (a.length + 1) = b := by
  rw [← List.drop_drop, List.drop_left]; rfl
theorem mid_drop2 {a b : Word} {x y : Pr} : (a ++ x :: y :: b).drop (a.length + 2) = b := by
  rw [← List.drop_drop, List.drop_left]; rfl
theorem slid_turn (u : Wl) (hu : u.Ok) (a b : Word) (x : Pr) (h1 : 1 ≤ x.1) (h2 : x.1 ≤ u.n) (hs : u.sl x.1 ≠ 0) (hl : (a ++ x :: b).length ≤ 1000) :
    F_slid_by [wW u, cW (a ++ x :: b), .tup [.str ("turn" : Str), .int (a.length : Int)]] = some (cW (a ++ one x.1 (x.2 % u.sl x.1) ++ b), true) := by
  have so := slip_of u h1 h2
  have ix := ix_cW (mid_at (a := a) (b := b) (x := x))
  have tk := take_cW (a ++ x :: b) a.length
  have dr := drop_cW (a ++ x :: b) (a.length + 1)
  rw [mid_take] at tk
  rw [mid_drop] at dr
  have c1 : ((a.length + 1 : Nat) : Int) = (a.length : Int) + 1 := by omega
  rw [c1] at dr
  have hl' : a.length + (b.length + 1) ≤ 1000 := by simpa using hl
  have k0 : (0 : Int) ≤ (a.length : Int) := by omega
  have k1 : (a.length : Int) ≤ (((a ++ x :: b).length : Nat) : Int) - 1 := by rw [List.length_append, List.length_cons]; omega
  have sp : 0 ≤ u.sl x.1 := by rcases hu.sl_at x.1 with e | e <;> omega
  have fm : x.2.fmod (u.sl x.1) = x.2 % u.sl x.1 := Int.fmod_eq_emod_of_nonneg _ sp
  rw [ev_slid_by]
  by_cases z : x.2 % u.sl x.1 = 0
  · have o : one x.1 (x.2 % u.sl x.1) = [] := if_pos z
    have ad := add_cW a [] (by simp; omega)
    have ad2 := add_cW a b (by omega)
    rw [cW_nil, List.append_nil] at ad
    rw [o]
    simp_arith [b_slid_by, between, k0, k1, ix, so, hs, fm, z, tk, dr, ad, ad2]
  · have o : one x.1 (x.2 % u.sl x.1) = [(x.1, x.2 % u.sl x.1)] := if_neg z
    have ad := add_cW a [(x.1, x.2 % u.sl x.1)] (by simp; omega)
    have ad2 := add_cW (a ++ [(x.1, x.2 % u.sl x.1)]) b (by simp; omega)
    rw [← cW_one] at ad
    rw [o]
    simp_arith [b_slid_by, between, k0, k1, ix, so, hs, fm, z, tk, dr, ad, ad2]
theorem slid_join (u : Wl) (a b : Word) (p w w' : Int) (hl : (a ++ (p, w) :: (p, w') :: b).length ≤ 1000) :
    F_slid_by [wW u, cW (a ++ (p, w) :: (p, w') :: b), .tup [.str ("join" : Str), .int (a.length : Int)]] = some (cW (a ++ one p (w + w') ++ b), true) := by
  have ix := ix_cW (mid_at (a := a) (b := (p, w') :: b) (x := (p, w)))
  have ix1 := ix_cW (mid_at1 (a := a) (b := b) (x := (p, w)) (y := (p, w')))
  have tk := take_cW (a ++ (p, w) :: (p, w') :: b) a.length
  have dr := drop_cW (a ++ (p, w) :: (p, w') :: b) (a.length + 2)
  rw [mid_take] at tk
  rw [mid_drop2] at dr
  have c1 : ((a.length + 1 : Nat) : Int) = (a.length : Int) + 1 := by omega
  have c2 : ((a.length + 2 : Nat) : Int) = (a.length : Int) + 2 := by omega
  rw [c1] at ix1
  rw [c2] at dr
  have hl' : a.length + (b.length + 2) ≤ 1000 := by simpa using hl
  have k0 : (0 : Int) ≤ (a.length : Int) := by omega
  have k1 : (a.length : Int) ≤ (((a ++ (p, w) :: (p, w') :: b).length : Nat) : Int) - 2 := by rw [List.length_append, List.length_cons, List.length_cons]; omega
  rw [ev_slid_by]
  by_cases z : w + w' = 0
  · have o : one p (w + w') = [] := if_pos z
    have ad := add_cW a [] (by simp; omega)
    have ad2 := add_cW a b (by omega)
    rw [cW_nil, List.append_nil] at ad
    rw [o]
    simp_arith [b_slid_by, between, k0, k1, ix, ix1, sJT, sJP, z, tk, dr, ad, ad2]
  · have o : one p (w + w') = [(p, w + w')] := if_neg z
    have ad := add_cW a [(p, w + w')] (by simp; omega)
    have ad2 := add_cW (a ++ [(p, w + w')]) b (by simp; omega)
    rw [← cW_one] at ad
    rw [o]
    simp_arith [b_slid_by, between, k0, k1, ix, ix1, sJT, sJP, z, tk, dr, ad, ad2]
theorem slid_past (u : Wl) (hu : u.Ok) (a b : Word) (x y : Pr) (r : u.rail x.1 y.1 = true) (hl : (a ++ x :: y :: b).length ≤ 1000) :
    F_slid_by [wW u, cW (a ++ x :: y :: b), .tup [.str ("past" : Str), .int (a.length : Int)]] = some (cW (a ++ y :: x :: b), true) := by
  have hr := has_rail u x.1 y.1
  rw [r] at hr
  have ne := Wl.rail_ne hu r
  have ix := ix_cW (mid_at (a := a) (b := y :: b) (x := x))
  have ix1 := ix_cW (mid_at1 (a := a) (b := b) (x := x) (y := y))
  have tk := take_cW (a ++ x :: y :: b) a.length
  have dr := drop_cW (a ++ x :: y :: b) (a.length + 2)
  rw [mid_take] at tk
  rw [mid_drop2] at dr
  have c1 : ((a.length + 1 : Nat) : Int) = (a.length : Int) + 1 := by omega
  have c2 : ((a.length + 2 : Nat) : Int) = (a.length : Int) + 2 := by omega
  rw [c1] at ix1
  rw [c2] at dr
  have hl' : a.length + (b.length + 2) ≤ 1000 := by simpa using hl
  have k0 : (0 : Int) ≤ (a.length : Int) := by omega
  have k1 : (a.length : Int) ≤ (((a ++ x :: y :: b).length : Nat) : Int) - 2 := by rw [List.length_append, List.length_cons, List.length_cons]; omega
  have ad := add_cW a [y, x] (by simp; omega)
  have ad2 := add_cW (a ++ [y, x]) b (by simp; omega)
  rw [← cW_two] at ad
  rw [ev_slid_by]
  simp_arith [b_slid_by, between, k0, k1, ix, ix1, sPT, ne, hr, tk, dr, ad, ad2]
  rw [List.append_assoc]; rfl
end Lk34
set_option Elab.async false
set_option linter.all false
set_option maxRecDepth 100000
set_option maxHeartbeats 4000000
namespace Lk34
open PySem PySem.Spec PyProof.Rows L2 Dv DvR DvF Gp
abbrev fsS : List Str := ["wall", "cord", "slides"]
abbrev sW (s : Sld) : W := .tup [.str s.1, .int s.2]
def slW (u : Wl) (c : Word) (S : List Sld) : W := .ins "Sliding" fsS [wW u, cW c, .lst (S.map sW)]
theorem fx0 : fldIx fsS "wall" = some 0 := by decide
theorem fx1 : fldIx fsS "cord" = some 1 := by decide
theorem fx2 : fldIx fsS "slides" = some 2 := by decide
theorem fm0 : fldIx fsS "do" = none := by decide
theorem fm1 : fldIx fsS "place_to_join" = none := by decide
theorem fm2 : fldIx fsS "turn_if_due" = none := by decide
theorem fm3 : fldIx fsS "join_with" = none := by decide
theorem slW_imm (u : Wl) (c : Word) (S : List Sld) : (slW u c S).imm = false := im_ins _ _ _
theorem g0 (u : Wl) (c : Word) (S : List Sld) : kFld "Sliding" "wall" (slW u c S) = some (wW u, true) := by
  unfold slW
  rw [fld_get, fx0]
  show some (wW u, (wW u).imm) = _
  rw [wW_imm]
theorem g1 (u : Wl) (c : Word) (S : List Sld) : kFld "Sliding" "cord" (slW u c S) = some (cW c, true) := by
  unfold slW
  rw [fld_get, fx1]
  show some (cW c, (cW c).imm) = _
  rw [cW_imm]
theorem g2 (u : Wl) (c : Word) (S : List Sld) : kFld "Sliding" "slides" (slW u c S) = some (.lst (S.map sW), false) := by
  unfold slW
  rw [fld_get, fx2]
  show some (W.lst (S.map sW), (W.lst (S.map sW)).imm) = _
  rw [im_lst]
theorem p1 (u : Wl) (c d : Word) (S : List Sld) : opFld "Sliding" "cord" (slW u c S) [.str ("cord" : Str), cW d] = some (slW u d S, .non) := by
  unfold slW
  rw [fld_put, if_pos (by decide), fput_s fx1]
  rfl
theorem at2 (u : Wl) (c : Word) (S : List Sld) : (slW u c S).at [.fld ("slides" : Str)] = some (.lst (S.map sW)) := at_fld fx2 _
theorem put2 (u : Wl) (c : Word) (S T : List Sld) : (slW u c S).put [.fld ("slides" : Str)] (.lst (T.map sW)) = slW u c T := put_fld fx2 _ rfl _
theorem sl_mt1 {β : Type} (u : Wl) (c : Word) (S : List Sld) (m : Str) (y : Option β) (h : fldIx fsS m = none) : mt1 (some (some (slW u c S))) ("Sliding" : Str) m y = y := by
  unfold slW
  rw [mt1_s, h]
  rfl
theorem sl_pf3 {β : Type} (u : Wl) (c : Word) (S : List Sld) (δ : Dv.Env) (κ : KP β) : pf3 (some (some (slW u c S))) ("Sliding" : Str) ("slides" : Str) [] δ κ = κ [.fld ("slides" : Str)] δ := by
  unfold slW
  rw [pf3_s, fx2]
  rfl
theorem sl_md1 {β : Type} (u : Wl) (c : Word) (S : List Sld) (m : Str) (F : FnD) (g : DenA) (M : Own) (κ : KE β) (fr : Bool) (δ : Dv.Env) (h : fldIx fsS m = none) : kMd1 ("Sliding" : Str) m F g M κ (slW u c S) fr δ = EA g M δ (kCbA (fun ws => F (slW u c S :: ws)) κ) := by
  unfold slW
  rw [kMd1_ap, h]
  rfl
theorem s_do (u : Wl) (hu : u.Ok) {c d : Word} {s : Sld} (h : SlS u c s d) (hc : Cd u c) (hl : c.length ≤ 1000) (S : List Sld) (hS : S.length < 1000000) : F_Sliding_do (slW u c S) [.str s.1, .int s.2] = some (.non, true, slW u d (S ++ [s])) := by
  have sl : F_slid_by [wW u, cW c, sW s] = some (cW d, true) := by
    cases h with
    | turn a b x hs => exact slid_turn u hu a b x (hc x (by simp)).1 (hc x (by simp)).2.1 hs hl
    | join a b p w w' => exact slid_join u a b p w w' hl
    | past a b x y r => exact slid_past u hu a b x y r hl
  have pp := p1 u c d S
  have ap : (S.map sW ++ [W.tup [.str s.1, .int s.2]]) = (S ++ [s]).map sW := by rw [List.map_append]; rfl
  have pt := put2 u d S (S ++ [s])
  rw [ev_Sliding_do]
  simp_arith [b_Sliding_do, slW_imm, g0, g1, sl, pp, sl_pf3, at2, hS, ap, pt]
end Lk34
set_option Elab.async false
set_option linter.all false
set_option maxRecDepth 100000
set_option maxHeartbeats 4000000
namespace Lk34
open PySem PySem.Spec PyProof.Rows L2 Dv DvR DvF Gp
/-- is the pair to be turned -/
def due (u : Wl) (x : Pr) : Bool := !decide (u.sl x.1 = 0) && !(decide (0 < x.2) && decide (x.2 < u.sl x.1))
theorem t_not (u : Wl) (a b : Word) (x : Pr) (S : List Sld) (h1 : 1 ≤ x.1) (h2 : x.1 ≤ u.n) (h : due u x = false) : F_Sliding_turn_if_due (slW u (a ++ x :: b) S) [.int (a.length : Int)] = some (.non, true, slW u (a ++ x :: b) S) := by
  have lt : (a.length : Int) < ((a ++ x :: b).length : Int) := by rw [List.length_append, List.length_cons]; omega
  have ix := ix_cW (mid_at (a := a) (b := b) (x := x))
  have so := slip_of u h1 h2
  unfold due at h
  rw [ev_Sliding_turn_if_due]
  by_cases z : u.sl x.1 = 0
  · simp_arith [b_Sliding_turn_if_due, slW_imm, g0, g1, lt, ix, so, z]
  · rw [decide_eq_false z] at h
    have h' : (decide (0 < x.2) && decide (x.2 < u.sl x.1)) = true := by simpa using h
    obtain ⟨z1, z2⟩ := Bool.and_eq_true_iff.mp h'
    have z1 := of_decide_eq_true z1
    have z2 := of_decide_eq_true z2
    simp_arith [b_Sliding_turn_if_due, slW_imm, g0, g1, lt, ix, so, z, z1, z2]
theorem t_due (u : Wl) (hu : u.Ok) (a b : Word) (x : Pr) (S : List Sld) (hc : Cd u (a ++ x :: b)) (hl : (a ++ x :: b).length ≤ 1000) (hS : S.length < 1000000) (h : due u x = true) :
    F_Sliding_turn_if_due (slW u (a ++ x :: b) S) [.int (a.length : Int)] = some (.non, true, slW u (a ++ one x.1 (x.2 % u.sl x.1) ++ b) (S ++ [(("turn" : Str), (a.length : Int))])) := by
  have hx := hc x (by simp)
  have lt : (a.length : Int) < ((a ++ x :: b).length : Int) := by rw [List.length_append, List.length_cons]; omega
  have ix := ix_cW (mid_at (a := a) (b := b) (x := x))
  have so := slip_of u hx.1 hx.2.1
  unfold due at h
  obtain ⟨z, z2⟩ := Bool.and_eq_true_iff.mp h
  have z : ¬ u.sl x.1 = 0 := by simpa using z
  have dd := s_do u hu (SlS.turn a b x z) hc hl S hS
  simp only at dd
  rw [ev_Sliding_turn_if_due]
  by_cases z1 : 0 < x.2
  · have z3 : ¬ x.2 < u.sl x.1 := by
      rw [decide_eq_true z1] at z2
      simpa using z2
    simp_arith [b_Sliding_turn_if_due, slW_imm, g0, g1, lt, ix, so, z, z1, z3, sl_mt1, fm0, dd]
  · simp_arith [b_Sliding_turn_if_due, slW_imm, g0, g1, lt, ix, so, z, z1, sl_mt1, fm0, dd]
def optW : Option Nat → W
  | some k => .int (k : Int)
  | none => .non
theorem place_loop (u : Wl) (c : Word) (S : List Sld) (p : Int) (k0 : Nat) (x3 x4 : Option W) : ∀ (m : Nat), m ≤ c.length →
    LB (gNm 3) b_Sliding_place_to_join_L1 (downW ((m : Int) - 1) m) [some (slW u c S), some (.int k0), some (.int p), x3, x4] (kSeq (sRet [] [] (dC .non)) kBody) = some (optW (pj u p (c.take m).reverse), true)
  | 0, _ => by
    simp_arith [downW, List.range_zero, List.map_nil, List.take_zero, List.reverse_nil, pj, optW]
  | m + 1, h => by
    have lt : m < c.length := by omega
    have hm : c[m]? = some c[m] := List.getElem?_eq_getElem lt
    have dw : downW (((m + 1 : Nat) : Int) - 1) (m + 1) = W.int (m : Int) :: downW ((m : Int) - 1) m := by
      unfold downW
      rw [List.range_succ_eq_map, List.map_cons, List.map_map]
      congr 1
      · congr 1; omega
      · refine List.map_congr_left fun i _ => ?_
        show W.int _ = W.int _
        congr 1
        show _ - ((i + 1 : Nat) : Int) = _
        omega
    have tk : (c.take (m + 1)).reverse = c[m] :: (c.take m).reverse := by
      rw [List.take_succ, hm, List.reverse_append]; rfl
    have ix := ix_cW hm
    have hr := has_rail u (c[m]).1 p
    have ih := place_loop u c S p k0 (some (.int (m : Int))) (some (.int (c[m]).1)) m (by omega)
    rw [dw, tk, LB_cons]
    have ln : (c.take m).reverse.length = m := by rw [List.length_reverse, List.length_take]; omega
    by_cases e : (c[m]).1 = p
    · have pe : pj u p (c[m] :: (c.take m).reverse) = some m := by unfold pj; rw [if_pos e, ln]
      rw [pe]
      simp_arith [gNm_cons, b_Sliding_place_to_join_L1, slW_imm, g1, ix, e]
      rfl
    · by_cases r : u.rail (c[m]).1 p = true
      · have pe : pj u p (c[m] :: (c.take m).reverse) = pj u p (c.take m).reverse := by
          conv => lhs; unfold pj
          rw [if_neg e, if_pos r]
        rw [r] at hr
        rw [pe]
        simp_arith [gNm_cons, b_Sliding_place_to_join_L1, slW_imm, g0, g1, ix, e, hr]
        exact ih
      · have r : u.rail (c[m]).1 p = false := by simpa using r
        have pe : pj u p (c[m] :: (c.take m).reverse) = none := by unfold pj; rw [if_neg e, if_neg (by rw [r]; decide)]
        rw [r] at hr
        rw [pe]
        simp_arith [gNm_cons, b_Sliding_place_to_join_L1, slW_imm, g0, g1, ix, e, hr]
        rfl
theorem place (u : Wl) (a b : Word) (x : Pr) (S : List Sld) (hl : (a ++ x :: b).length ≤ 1000) : F_Sliding_place_to_join [slW u (a ++ x :: b) S, .int (a.length : Int)] = some (optW (pj u x.1 a.reverse), true) := by
  have ix := ix_cW (mid_at (a := a) (b := b) (x := x))
  have hl' : a.length + (b.length + 1) ≤ 1000 := by simpa using hl
  have lp := place_loop u (a ++ x :: b) S x.1 a.length none none a.length (by simp)
  rw [mid_take] at lp
  have cr : cRng ((a.length : Int) - 1) (-1) = true := by unfold cRng; simp; omega
  have tn : ((a.length : Int) - 1 - -1).toNat = a.length := by omega
  have ng : kNeg (.int 1) = some (.int (-1), true) := rfl
  rw [ev_Sliding_place_to_join]
  simp_arith [b_Sliding_place_to_join, slW_imm, g1, ix, ng, cr, tn]
  exact lp
end Lk34
set_option Elab.async false
set_option linter.all false
set_option maxRecDepth 100000
set_option maxHeartbeats 4000000
namespace Lk34
open PySem PySem.Spec PyProof.Rows L2 Dv DvR DvF Gp
theorem past_loop {β : Type} (u : Wl) (hu : u.Ok) (v b : Word) (p w0 w : Int) (w1 w2 : W) (κ : KS β) : ∀ (n : Nat) (t1 t2 : Word) (S : List Sld) (x3 : Option W), t1.length = n → (∀ y ∈ t1, u.rail y.1 p = true) → Cd u (v ++ (p, w0) :: (t1 ++ (p, w) :: (t2 ++ b))) →
    (v ++ (p, w0) :: (t1 ++ (p, w) :: (t2 ++ b))).length ≤ 1000 → S.length + n < 1000000 →
    ∃ (T : List Sld) (x3' : Option W), T.length = n ∧ Row u (v ++ (p, w0) :: (t1 ++ (p, w) :: (t2 ++ b))) T (v ++ (p, w0) :: (p, w) :: (t1 ++ (t2 ++ b))) ∧
      LB (gNm 3) b_Sliding_join_with_L1 (downW ((v.length + n : Nat) : Int) n) [some (slW u (v ++ (p, w0) :: (t1 ++ (p, w) :: (t2 ++ b))) S), some w1, some w2, x3, none] κ = κ (.nx [some (slW u (v ++ (p, w0) :: (p, w) :: (t1 ++ (t2 ++ b))) (S ++ T)), some w1, some w2, x3', none]) := by
  intro n
  induction n with
  | zero =>
    intro t1 t2 S x3 ht _ hc hl hS
    have : t1 = [] := List.length_eq_zero_iff.mp ht
    subst this
    refine ⟨[], x3, rfl, .nil _, ?_⟩
    rw [List.append_nil]
    rfl
  | succ n ih =>
    intro t1 t2 S x3 ht hr hc hl hS
    rcases List.eq_nil_or_concat t1 with rfl | ⟨t, y, rfl⟩
    · cases ht
    · rw [List.concat_eq_append] at *
      have lt : t.length = n := by rw [List.length_append] at ht; simp at ht; exact ht
      have ry := hr y (by simp)
      have e1 : v ++ (p, w0) :: ((t ++ [y]) ++ (p, w) :: (t2 ++ b)) = (v ++ (p, w0) :: t) ++ y :: (p, w) :: (t2 ++ b) := by simp [List.append_assoc]
      have e2 : (v ++ (p, w0) :: t) ++ (p, w) :: y :: (t2 ++ b) = v ++ (p, w0) :: (t ++ (p, w) :: ((y :: t2) ++ b)) := by simp
      have e3 : v ++ (p, w0) :: (p, w) :: (t ++ ((y :: t2) ++ b)) = v ++ (p, w0) :: (p, w) :: ((t ++ [y]) ++ (t2 ++ b)) := by simp
      have step := SlS.past (u := u) (v ++ (p, w0) :: t) (t2 ++ b) y (p, w) ry
      rw [e1] at hc hl ⊢
      have dd := s_do u hu step hc hl S (by omega)
      have hc2 := (step.cd hc).1
      have hl2 := (step.cd hc).2
      rw [e2] at step dd hc2 hl2
      have ln : ((v ++ (p, w0) :: t).length : Int) = ((v.length + (n + 1) : Nat) : Int) := by rw [List.length_append, List.length_cons, lt]
      rw [ln] at step dd
      obtain ⟨T, x3', h1, h2, h3⟩ := ih t (y :: t2) (S ++ [(("past" : Str), ((v.length + (n + 1) : Nat) : Int))]) (some (.int ((v.length + (n + 1) : Nat) : Int))) lt (fun z hz => hr z (by simp [hz])) hc2 (Nat.le_trans hl2 hl) (by rw [List.length_append, List.length_singleton]; omega)
      rw [e3] at h2 h3
      refine ⟨(("past" : Str), ((v.length + (n + 1) : Nat) : Int)) :: T, x3', by rw [List.length_cons, h1], .cons step h2, ?_⟩
      have dw : downW ((v.length + (n + 1) : Nat) : Int) (n + 1) = W.int ((v.length + (n + 1) : Nat) : Int) :: downW ((v.length + n : Nat) : Int) n := by
        unfold downW
        rw [List.range_succ_eq_map, List.map_cons, List.map_map]
        refine List.cons_eq_cons.mpr ⟨congrArg W.int (by omega), List.map_congr_left fun i _ => ?_⟩
        show W.int (_ - ((i + 1 : Nat) : Int)) = W.int (_ - (i : Int))
        exact congrArg W.int (by omega)
      simp only at dd
      rw [dw, LB_cons]
      simp_arith [gNm_cons, b_Sliding_join_with_L1, slW_imm, sl_mt1, fm0, dd]
      refine h3.trans ?_
      rw [List.append_assoc S]
      rfl
theorem join_0 (u : Wl) (hu : u.Ok) (v t b : Word) (p w0 w : Int) (S : List Sld) (ht : ∀ y ∈ t, u.rail y.1 p = true) (hc : Cd u (v ++ (p, w0) :: (t ++ (p, w) :: b))) (hl : (v ++ (p, w0) :: (t ++ (p, w) :: b)).length ≤ 1000) (hS : S.length + t.length + 2 < 1000000) (z : w0 + w = 0) :
    ∃ (T : List Sld) (d : Word) (left : Bool), Row u (v ++ (p, w0) :: (t ++ (p, w) :: b)) T d ∧ T.length ≤ t.length + 2 ∧ (left = true → ∃ w', w' ≠ 0 ∧ nm u.wa p w' = w' ∧ d = v ++ (p, w') :: (t ++ b)) ∧ (left = false → d = v ++ (t ++ b)) ∧
      F_Sliding_join_with (slW u (v ++ (p, w0) :: (t ++ (p, w) :: b)) S) [.int ((v.length + 1 + t.length : Nat) : Int), .int (v.length : Int)] = some (.bl left, true, slW u d (S ++ T)) := by
  have hp := hc (p, w0) (by simp)
  obtain ⟨T, x3', h1, h2, h3⟩ := past_loop u hu v b p w0 w (.int ((v.length + 1 + t.length : Nat) : Int)) (.int (v.length : Int)) (kSeq (sSeq (sAsg [0] [] [0] 4 (dCb kLen (aCons (dUn (kFld "Sliding" "cord") (dVar 0)) aNil)))
    (sSeq (sDrop [0] (dMeth "Sliding" "do" 0 F_Sliding_do (aCons (dC (.str ("join" : Str))) (aCons (dVar 2) aNil))))
    (sSeq (sIf [] (bTest (dOp kEq (dCb kLen (aCons (dUn (kFld "Sliding" "cord") (dVar 0)) aNil)) (dOp kISub (dVar 4) (dC (.int 1)))))
    (sDrop [0] (dMeth "Sliding" "turn_if_due" 0 F_Sliding_turn_if_due (aCons (dVar 2) aNil)))
    sNext)
    (sRet [0] [] (dOp kEq (dCb kLen (aCons (dUn (kFld "Sliding" "cord") (dVar 0)) aNil)) (dOp kISub (dVar 4) (dC (.int 1)))))))) kBodyM) t.length t [] S none rfl ht (by simpa using hc) (by simpa using hl) (by omega)
  simp only [List.nil_append] at h2 h3
  obtain ⟨hc2, hl2⟩ := h2.cd hc
  have hl2' : (v ++ (p, w0) :: (p, w) :: (t ++ b)).length ≤ 1000 := by omega
  have jn := SlS.join (u := u) v (t ++ b) p w0 w
  have dd := s_do u hu jn hc2 hl2' (S ++ T) (by rw [List.length_append]; omega)
  obtain ⟨hc3, hl3⟩ := jn.cd hc2
  have cr : cRng (((v.length + 1 + t.length : Nat) : Int) - 1) (v.length : Int) = true := by
    have : (v ++ (p, w0) :: (t ++ (p, w) :: b)).length = v.length + 1 + t.length + (b.length + 1) := by simp; omega
    unfold cRng; simp; omega
  have e1 : ((v.length + 1 + t.length : Nat) : Int) - 1 = ((v.length + t.length : Nat) : Int) := by omega
  have e2 : (((v.length + 1 + t.length : Nat) : Int) - 1 - (v.length : Int)).toNat = t.length := by omega
  have ng : kNeg (.int 1) = some (.int (-1), true) := rfl
  rw [e1] at cr e2
  have L0 : ((v ++ (p, w0) :: (p, w) :: (t ++ b)).length : Int) = (v.length : Int) + 2 + ((t ++ b).length : Int) := by simp only [List.length_append, List.length_cons]; omega
  simp only at dd
  have o : one p (w0 + w) = [] := if_pos z
  rw [o, List.append_nil] at jn dd
  have lq : ¬ ((v ++ (t ++ b)).length : Int) = (v.length : Int) + 2 + ((t ++ b).length : Int) - 1 := by rw [List.length_append]; omega
  refine ⟨T ++ [(("join" : Str), (v.length : Int))], v ++ (t ++ b), false, h2.app (.one jn), by rw [List.length_append, h1]; simp, (fun z => nomatch z), fun _ => rfl, ?_⟩
  rw [ev_Sliding_join_with]
  simp_arith [b_Sliding_join_with, ng, e1, cr, e2]
  rw [h3]
  simp_arith [slW_imm, g1, sl_mt1, fm0, dd, L0, lq]
  rw [List.append_assoc]
theorem join_f (u : Wl) (hu : u.Ok) (v t b : Word) (p w0 w : Int) (S : List Sld) (ht : ∀ y ∈ t, u.rail y.1 p = true) (hc : Cd u (v ++ (p, w0) :: (t ++ (p, w) :: b))) (hl : (v ++ (p, w0) :: (t ++ (p, w) :: b)).length ≤ 1000) (hS : S.length + t.length + 2 < 1000000) (z : ¬ w0 + w = 0) (du : due u (p, w0 + w) = false) :
    ∃ (T : List Sld) (d : Word) (left : Bool), Row u (v ++ (p, w0) :: (t ++ (p, w) :: b)) T d ∧ T.length ≤ t.length + 2 ∧ (left = true → ∃ w', w' ≠ 0 ∧ nm u.wa p w' = w' ∧ d = v ++ (p, w') :: (t ++ b)) ∧ (left = false → d = v ++ (t ++ b)) ∧
      F_Sliding_join_with (slW u (v ++ (p, w0) :: (t ++ (p, w) :: b)) S) [.int ((v.length + 1 + t.length : Nat) : Int), .int (v.length : Int)] = some (.bl left, true, slW u d (S ++ T)) := by
  have hp := hc (p, w0) (by simp)
  obtain ⟨T, x3', h1, h2, h3⟩ := past_loop u hu v b p w0 w (.int ((v.length + 1 + t.length : Nat) : Int)) (.int (v.length : Int)) (kSeq (sSeq (sAsg [0] [] [0] 4 (dCb kLen (aCons (dUn (kFld "Sliding" "cord") (dVar 0)) aNil)))
    (sSeq (sDrop [0] (dMeth "Sliding" "do" 0 F_Sliding_do (aCons (dC (.str ("join" : Str))) (aCons (dVar 2) aNil))))
    (sSeq (sIf [] (bTest (dOp kEq (dCb kLen (aCons (dUn (kFld "Sliding" "cord") (dVar 0)) aNil)) (dOp kISub (dVar 4) (dC (.int 1)))))
    (sDrop [0] (dMeth "Sliding" "turn_if_due" 0 F_Sliding_turn_if_due (aCons (dVar 2) aNil)))
    sNext)
    (sRet [0] [] (dOp kEq (dCb kLen (aCons (dUn (kFld "Sliding" "cord") (dVar 0)) aNil)) (dOp kISub (dVar 4) (dC (.int 1)))))))) kBodyM) t.length t [] S none rfl ht (by simpa using hc) (by simpa using hl) (by omega)
  simp only [List.nil_append] at h2 h3
  obtain ⟨hc2, hl2⟩ := h2.cd hc
  have hl2' : (v ++ (p, w0) :: (p, w) :: (t ++ b)).length ≤ 1000 := by omega
  have jn := SlS.join (u := u) v (t ++ b) p w0 w
  have dd := s_do u hu jn hc2 hl2' (S ++ T) (by rw [List.length_append]; omega)
  obtain ⟨hc3, hl3⟩ := jn.cd hc2
  have cr : cRng (((v.length + 1 + t.length : Nat) : Int) - 1) (v.length : Int) = true := by
    have : (v ++ (p, w0) :: (t ++ (p, w) :: b)).length = v.length + 1 + t.length + (b.length + 1) := by simp; omega
    unfold cRng; simp; omega
  have e1 : ((v.length + 1 + t.length : Nat) : Int) - 1 = ((v.length + t.length : Nat) : Int) := by omega
  have e2 : (((v.length + 1 + t.length : Nat) : Int) - 1 - (v.length : Int)).toNat = t.length := by omega
  have ng : kNeg (.int 1) = some (.int (-1), true) := rfl
  rw [e1] at cr e2
  have L0 : ((v ++ (p, w0) :: (p, w) :: (t ++ b)).length : Int) = (v.length : Int) + 2 + ((t ++ b).length : Int) := by simp only [List.length_append, List.length_cons]; omega
  simp only at dd
  have o : one p (w0 + w) = [(p, w0 + w)] := if_neg z
  rw [o] at jn dd hc3 hl3
  have e4 : v ++ [(p, w0 + w)] ++ (t ++ b) = v ++ (p, w0 + w) :: (t ++ b) := by simp
  rw [e4] at jn dd hc3 hl3
  have lq : ((v ++ (p, w0 + w) :: (t ++ b)).length : Int) = (v.length : Int) + 2 + ((t ++ b).length : Int) - 1 := by rw [List.length_append, List.length_cons]; omega
  have tn := t_not u v (t ++ b) (p, w0 + w) (S ++ T ++ [(("join" : Str), (v.length : Int))]) hp.1 hp.2.1 du
  refine ⟨T ++ [(("join" : Str), (v.length : Int))], v ++ (p, w0 + w) :: (t ++ b), true, h2.app (.one jn), by rw [List.length_append, h1]; simp, fun _ => ⟨w0 + w, z, ?_, rfl⟩, (fun z => nomatch z), ?_⟩
  · rw [nm_wall hu]
    split
    · rfl
    · rename_i n
      unfold due at du
      rw [decide_eq_false n] at du
      have du : (decide (0 < w0 + w) && decide (w0 + w < u.sl p)) = true := by simpa using du
      obtain ⟨d1, d2⟩ := Bool.and_eq_true_iff.mp du
      have d1 := of_decide_eq_true d1
      have d2 := of_decide_eq_true d2
      exact Int.emod_eq_of_lt (by omega) d2
  · rw [ev_Sliding_join_with]
    simp_arith [b_Sliding_join_with, ng, e1, cr, e2]
    rw [h3]
    simp_arith [slW_imm, g1, sl_mt1, fm0, fm2, dd, L0, lq, tn]
    rw [List.append_assoc]
theorem join_t0 (u : Wl) (hu : u.Ok) (v t b : Word) (p w0 w : Int) (S : List Sld) (ht : ∀ y ∈ t, u.rail y.1 p = true) (hc : Cd u (v ++ (p, w0) :: (t ++ (p, w) :: b))) (hl : (v ++ (p, w0) :: (t ++ (p, w) :: b)).length ≤ 1000) (hS : S.length + t.length + 2 < 1000000) (z : ¬ w0 + w = 0) (du : due u (p, w0 + w) = true) (z2 : (w0 + w) % u.sl p = 0) :
    ∃ (T : List Sld) (d : Word) (left : Bool), Row u (v ++ (p, w0) :: (t ++ (p, w) :: b)) T d ∧ T.length ≤ t.length + 2 ∧ (left = true → ∃ w', w' ≠ 0 ∧ nm u.wa p w' = w' ∧ d = v ++ (p, w') :: (t ++ b)) ∧ (left = false → d = v ++ (t ++ b)) ∧
      F_Sliding_join_with (slW u (v ++ (p, w0) :: (t ++ (p, w) :: b)) S) [.int ((v.length + 1 + t.length : Nat) : Int), .int (v.length : Int)] = some (.bl left, true, slW u d (S ++ T)) := by
  have hp := hc (p, w0) (by simp)
  obtain ⟨T, x3', h1, h2, h3⟩ := past_loop u hu v b p w0 w (.int ((v.length + 1 + t.length : Nat) : Int)) (.int (v.length : Int)) (kSeq (sSeq (sAsg [0] [] [0] 4 (dCb kLen (aCons (dUn (kFld "Sliding" "cord") (dVar 0)) aNil)))
    (sSeq (sDrop [0] (dMeth "Sliding" "do" 0 F_Sliding_do (aCons (dC (.str ("join" : Str))) (aCons (dVar 2) aNil))))
    (sSeq (sIf [] (bTest (dOp kEq (dCb kLen (aCons (dUn (kFld "Sliding" "cord") (dVar 0)) aNil)) (dOp kISub (dVar 4) (dC (.int 1)))))
    (sDrop [0] (dMeth "Sliding" "turn_if_due" 0 F_Sliding_turn_if_due (aCons (dVar 2) aNil)))
    sNext)
    (sRet [0] [] (dOp kEq (dCb kLen (aCons (dUn (kFld "Sliding" "cord") (dVar 0)) aNil)) (dOp kISub (dVar 4) (dC (.int 1)))))))) kBodyM) t.length t [] S none rfl ht (by simpa using hc) (by simpa using hl) (by omega)
  simp only [List.nil_append] at h2 h3
  obtain ⟨hc2, hl2⟩ := h2.cd hc
  have hl2' : (v ++ (p, w0) :: (p, w) :: (t ++ b)).length ≤ 1000 := by omega
  have jn := SlS.join (u := u) v (t ++ b) p w0 w
  have dd := s_do u hu jn hc2 hl2' (S ++ T) (by rw [List.length_append]; omega)
  obtain ⟨hc3, hl3⟩ := jn.cd hc2
  have cr : cRng (((v.length + 1 + t.length : Nat) : Int) - 1) (v.length : Int) = true := by
    have : (v ++ (p, w0) :: (t ++ (p, w) :: b)).length = v.length + 1 + t.length + (b.length + 1) := by simp; omega
    unfold cRng; simp; omega
  have e1 : ((v.length + 1 + t.length : Nat) : Int) - 1 = ((v.length + t.length : Nat) : Int) := by omega
  have e2 : (((v.length + 1 + t.length : Nat) : Int) - 1 - (v.length : Int)).toNat = t.length := by omega
  have ng : kNeg (.int 1) = some (.int (-1), true) := rfl
  rw [e1] at cr e2
  have L0 : ((v ++ (p, w0) :: (p, w) :: (t ++ b)).length : Int) = (v.length : Int) + 2 + ((t ++ b).length : Int) := by simp only [List.length_append, List.length_cons]; omega
  simp only at dd
  have o : one p (w0 + w) = [(p, w0 + w)] := if_neg z
  rw [o] at jn dd hc3 hl3
  have e4 : v ++ [(p, w0 + w)] ++ (t ++ b) = v ++ (p, w0 + w) :: (t ++ b) := by simp
  rw [e4] at jn dd hc3 hl3
  have lq : ((v ++ (p, w0 + w) :: (t ++ b)).length : Int) = (v.length : Int) + 2 + ((t ++ b).length : Int) - 1 := by rw [List.length_append, List.length_cons]; omega
  have td := t_due u hu v (t ++ b) (p, w0 + w) (S ++ T ++ [(("join" : Str), (v.length : Int))]) hc3 (by omega) (by simp only [List.length_append, List.length_cons, List.length_nil]; omega) du
  have sl0 : u.sl p ≠ 0 := by
    unfold due at du
    have := (Bool.and_eq_true_iff.mp du).1
    simpa using this
  have tt := SlS.turn (u := u) v (t ++ b) (p, w0 + w) sl0
  simp only at td tt
  have o2 : one p ((w0 + w) % u.sl p) = [] := if_pos z2
  rw [o2, List.append_nil] at td tt
  have lq2 : ¬ ((v ++ (t ++ b)).length : Int) = (v.length : Int) + 2 + ((t ++ b).length : Int) - 1 := by rw [List.length_append]; omega
  refine ⟨T ++ [(("join" : Str), (v.length : Int)), (("turn" : Str), (v.length : Int))], v ++ (t ++ b), false, h2.app (.cons jn (.one tt)), by rw [List.length_append, h1]; simp, (fun z => nomatch z), fun _ => rfl, ?_⟩
  rw [ev_Sliding_join_with]
  simp_arith [b_Sliding_join_with, ng, e1, cr, e2]
  rw [h3]
  simp_arith [slW_imm, g1, sl_mt1, fm0, fm2, dd, L0, lq, td, lq2]
  simp
theorem join_t1 (u : Wl) (hu : u.Ok) (v t b : Word) (p w0 w : Int) (S : List Sld) (ht : ∀ y ∈ t, u.rail y.1 p = true) (hc : Cd u (v ++ (p, w0) :: (t ++ (p, w) :: b))) (hl : (v ++ (p, w0) :: (t ++ (p, w) :: b)).length ≤ 1000) (hS : S.length + t.length + 2 < 1000000) (z : ¬ w0 + w = 0) (du : due u (p, w0 + w) = true) (z2 : ¬ (w0 + w) % u.sl p = 0) :
    ∃ (T : List Sld) (d : Word) (left : Bool), Row u (v ++ (p, w0) :: (t ++ (p, w) :: b)) T d ∧ T.length ≤ t.length + 2 ∧ (left = true → ∃ w', w' ≠ 0 ∧ nm u.wa p w' = w' ∧ d = v ++ (p, w') :: (t ++ b)) ∧ (left = false → d = v ++ (t ++ b)) ∧
      F_Sliding_join_with (slW u (v ++ (p, w0) :: (t ++ (p, w) :: b)) S) [.int ((v.length + 1 + t.length : Nat) : Int), .int (v.length : Int)] = some (.bl left, true, slW u d (S ++ T)) := by
  have hp := hc (p, w0) (by simp)
  obtain ⟨T, x3', h1, h2, h3⟩ := past_loop u hu v b p w0 w (.int ((v.length + 1 + t.length : Nat) : Int)) (.int (v.length : Int)) (kSeq (sSeq (sAsg [0] [] [0] 4 (dCb kLen (aCons (dUn (kFld "Sliding" "cord") (dVar 0)) aNil)))
    (sSeq (sDrop [0] (dMeth "Sliding" "do" 0 F_Sliding_do (aCons (dC (.str ("join" : Str))) (aCons (dVar 2) aNil))))
    (sSeq (sIf [] (bTest (dOp kEq (dCb kLen (aCons (dUn (kFld "Sliding" "cord") (dVar 0)) aNil)) (dOp kISub (dVar 4) (dC (.int 1)))))
    (sDrop [0] (dMeth "Sliding" "turn_if_due" 0 F_Sliding_turn_if_due (aCons (dVar 2) aNil)))
    sNext)
    (sRet [0] [] (dOp kEq (dCb kLen (aCons (dUn (kFld "Sliding" "cord") (dVar 0)) aNil)) (dOp kISub (dVar 4) (dC (.int 1)))))))) kBodyM) t.length t [] S none rfl ht (by simpa using hc) (by simpa using hl) (by omega)
  simp only [List.nil_append] at h2 h3
  obtain ⟨hc2, hl2⟩ := h2.cd hc
  have hl2' : (v ++ (p, w0) :: (p, w) :: (t ++ b)).length ≤ 1000 := by omega
  have jn := SlS.join (u := u) v (t ++ b) p w0 w
  have dd := s_do u hu jn hc2 hl2' (S ++ T) (by rw [List.length_append]; omega)
  obtain ⟨hc3, hl3⟩ := jn.cd hc2
  have cr : cRng (((v.length + 1 + t.length : Nat) : Int) - 1) (v.length : Int) = true := by
    have : (v ++ (p, w0) :: (t ++ (p, w) :: b)).length = v.length + 1 + t.length + (b.length + 1) := by simp; omega
    unfold cRng; simp; omega
  have e1 : ((v.length + 1 + t.length : Nat) : Int) - 1 = ((v.length + t.length : Nat) : Int) := by omega
  have e2 : (((v.length + 1 + t.length : Nat) : Int) - 1 - (v.length : Int)).toNat = t.length := by omega
  have ng : kNeg (.int 1) = some (.int (-1), true) := rfl
  rw [e1] at cr e2
  have L0 : ((v ++ (p, w0) :: (p, w) :: (t ++ b)).length : Int) = (v.length : Int) + 2 + ((t ++ b).length : Int) := by simp only [List.length_append, List.length_cons]; omega
  simp only at dd
  have o : one p (w0 + w) = [(p, w0 + w)] := if_neg z
  rw [o] at jn dd hc3 hl3
  have e4 : v ++ [(p, w0 + w)] ++ (t ++ b) = v ++ (p, w0 + w) :: (t ++ b) := by simp
  rw [e4] at jn dd hc3 hl3
  have lq : ((v ++ (p, w0 + w) :: (t ++ b)).length : Int) = (v.length : Int) + 2 + ((t ++ b).length : Int) - 1 := by rw [List.length_append, List.length_cons]; omega
  have td := t_due u hu v (t ++ b) (p, w0 + w) (S ++ T ++ [(("join" : Str), (v.length : Int))]) hc3 (by omega) (by simp only [List.length_append, List.length_cons, List.length_nil]; omega) du
  have sl0 : u.sl p ≠ 0 := by
    unfold due at du
    have := (Bool.and_eq_true_iff.mp du).1
    simpa using this
  have tt := SlS.turn (u := u) v (t ++ b) (p, w0 + w) sl0
  simp only at td tt
  have o2 : one p ((w0 + w) % u.sl p) = [(p, (w0 + w) % u.sl p)] := if_neg z2
  rw [o2] at td tt
  have e5 : v ++ [(p, (w0 + w) % u.sl p)] ++ (t ++ b) = v ++ (p, (w0 + w) % u.sl p) :: (t ++ b) := by simp
  rw [e5] at td tt
  have lq2 : ((v ++ (p, (w0 + w) % u.sl p) :: (t ++ b)).length : Int) = (v.length : Int) + 2 + ((t ++ b).length : Int) - 1 := by rw [List.length_append, List.length_cons]; omega
  refine ⟨T ++ [(("join" : Str), (v.length : Int)), (("turn" : Str), (v.length : Int))], v ++ (p, (w0 + w) % u.sl p) :: (t ++ b), true, h2.app (.cons jn (.one tt)), by rw [List.length_append, h1]; simp, fun _ => ⟨_, z2, ?_, rfl⟩, (fun z => nomatch z), ?_⟩
  · rw [nm_wall hu, if_neg sl0, Int.emod_emod_of_dvd _ (Int.dvd_refl _)]
  · rw [ev_Sliding_join_with]
    simp_arith [b_Sliding_join_with, ng, e1, cr, e2]
    rw [h3]
    simp_arith [slW_imm, g1, sl_mt1, fm0, fm2, dd, L0, lq, td, lq2]
    simp
/-- what a pair slid and joined leaves -/
theorem join (u : Wl) (hu : u.Ok) (v t b : Word) (p w0 w : Int) (S : List Sld) (ht : ∀ y ∈ t, u.rail y.1 p = true) (hc : Cd u (v ++ (p, w0) :: (t ++ (p, w) :: b))) (hl : (v ++ (p, w0) :: (t ++ (p, w) :: b)).length ≤ 1000) (hS : S.length + t.length + 2 < 1000000) :
    ∃ (T : List Sld) (d : Word) (left : Bool), Row u (v ++ (p, w0) :: (t ++ (p, w) :: b)) T d ∧ T.length ≤ t.length + 2 ∧ (left = true → ∃ w', w' ≠ 0 ∧ nm u.wa p w' = w' ∧ d = v ++ (p, w') :: (t ++ b)) ∧ (left = false → d = v ++ (t ++ b)) ∧
      F_Sliding_join_with (slW u (v ++ (p, w0) :: (t ++ (p, w) :: b)) S) [.int ((v.length + 1 + t.length : Nat) : Int), .int (v.length : Int)] = some (.bl left, true, slW u d (S ++ T)) := by
  by_cases z : w0 + w = 0
  · exact join_0 u hu v t b p w0 w S ht hc hl hS z
  · cases du : due u (p, w0 + w) with
    | false => exact join_f u hu v t b p w0 w S ht hc hl hS z du
    | true =>
      by_cases z2 : (w0 + w) % u.sl p = 0
      · exact join_t0 u hu v t b p w0 w S ht hc hl hS z du z2
      · exact join_t1 u hu v t b p w0 w S ht hc hl hS z du z2
end Lk34
set_option Elab.async false
set_option linter.all false
set_option maxRecDepth 100000
set_option maxHeartbeats 4000000
namespace Lk34
open PySem PySem.Spec PyProof.Rows L2 Dv DvR DvF Gp
structure At (u : Wl) (c : Word) (L : Nat) (k : Nat) (d : Word) (T : List Sld) (a b : Word) : Prop where
  cut : d = a ++ b
  len : a.length = k
  red : Red u.wa a
  row : Row u c T d
  few : T.length + (d.length * 1000 + b.length) ≤ L * 1000 + L
/-- one turn of the loop -/
theorem turn (u : Wl) (hu : u.Ok) {c : Word} (hc : Cd u c) {L : Nat} (hL : L ≤ 300) (cl : c.length ≤ L) {k : Nat} {d : Word} {T : List Sld} {a : Word} {x : Pr} {b : Word} (h : At u c L k d T a (x :: b)) (x2 x3 : Option W) :
    ∃ (k' : Nat) (d' : Word) (T' : List Sld) (a' b' : Word) (x2' x3' : Option W), At u c L k' d' T' a' b' ∧ d'.length * (L + 1) + b'.length < d.length * (L + 1) + (b.length + 1) ∧
      ES b_Sliding_reduce_L1 [some (slW u d T), some (.int (k : Int)), x2, x3] kIdS = some (.nx [some (slW u d' T'), some (.int (k' : Int)), x2', x3']) := by
  obtain ⟨hcut, hlen, hred, hrow, hfew⟩ := h
  obtain ⟨hd, dl⟩ := hrow.cd hc
  have hcut0 := hcut
  have dlen : d.length = a.length + (b.length + 1) := by rw [hcut]; simp
  subst hcut
  subst hlen
  have hx := hd x (by simp)
  have d1000 : (a ++ x :: b).length ≤ 1000 := by omega
  rw [List.length_cons] at hfew
  have mulL : ∀ n m : Nat, n < m → n * (L + 1) + (L + 1) ≤ m * (L + 1) := fun n m h => by
    have := Nat.mul_le_mul_right (L + 1) (show n + 1 ≤ m from h)
    rw [Nat.succ_mul] at this
    exact this
  -- the pair as it is behind the turn
  have key : ∀ (x' : Pr) (T1 : List Sld), Row u c T1 (a ++ x' :: b) → x'.1 = x.1 → x'.2 ≠ 0 → nm u.wa x'.1 x'.2 = x'.2 → T1.length ≤ T.length + 1 → F_Sliding_turn_if_due (slW u (a ++ x :: b) T) [.int (a.length : Int)] = some (.non, true, slW u (a ++ x' :: b) T1) →
      ∃ (k' : Nat) (d' : Word) (T' : List Sld) (a' b' : Word) (x2' x3' : Option W), At u c L k' d' T' a' b' ∧ d'.length * (L + 1) + b'.length < (a ++ x :: b).length * (L + 1) + (b.length + 1) ∧
        ES b_Sliding_reduce_L1 [some (slW u (a ++ x :: b) T), some (.int (a.length : Int)), x2, x3] kIdS = some (.nx [some (slW u d' T'), some (.int (k' : Int)), x2', x3']) := by
    intro x' T1 r1 ex hx0 hxn tl e
    have l1 : (a ++ x' :: b).length = (a ++ x :: b).length := by simp
    have pl := place u a b x' T1 (by omega)
    cases hj : pj u x'.1 a.reverse with
    | none =>
      rw [hj] at pl
      refine ⟨a.length + 1, a ++ x' :: b, T1, a ++ [x'], b, some (.int ((a ++ x :: b).length : Int)), some .non, ⟨by simp, by simp, ?_, r1, by rw [l1]; omega⟩, by rw [l1]; omega, ?_⟩
      · refine hred.snoc hx0 hxn ?_
        rw [pl_rev_last]
        exact pj_none hu hj
      · have k1 : ((a.length + 1 : Nat) : Int) = (a.length : Int) + 1 := by omega
        have isn : kIsN false .non .non = some (.bl true, true) := rfl
        unfold optW at pl
        simp_arith [b_Sliding_reduce_L1, slW_imm, g1, sl_mt1, fm2, e, l1, sl_md1, fm1, pl, isn, k1]
    | some pk =>
      rw [hj] at pl
      obtain ⟨t, w0, v, h1, h2, h3⟩ := pj_some hj
      have ea : a = v.reverse ++ (x'.1, w0) :: t.reverse := by
        have := congrArg List.reverse h1
        rw [List.reverse_reverse] at this
        rw [this]; simp
      have vl : v.reverse.length = pk := by rw [List.length_reverse]; exact h2
      generalize hv : v.reverse = v' at *
      generalize ht : t.reverse = t' at *
      have hr : ∀ y ∈ t', u.rail y.1 x'.1 = true := fun y hy => h3 y (by rw [← ht] at hy; exact List.mem_reverse.mp hy)
      have e1 : a ++ x' :: b = v' ++ (x'.1, w0) :: (t' ++ (x'.1, x'.2) :: b) := by rw [ea]; simp
      have cd1 := (r1.cd hc).1
      have ll : a.length = v'.length + 1 + t'.length := by rw [ea]; simp; omega
      rw [e1] at r1 cd1 l1
      obtain ⟨T2, d2, left, q1, q2, q3, q4, q5⟩ := join u hu v' t' b x'.1 w0 x'.2 T1 hr cd1 (by omega) (by omega)
      have r2 := r1.app q1
      rw [← ll, vl, ← e1] at q5
      have isn : kIsN false (.int (pk : Int)) .non = some (.bl false, true) := rfl
      have l1' : (a ++ x' :: b).length = (a ++ x :: b).length := by simp
      unfold optW at pl
      cases left with
      | true =>
        obtain ⟨w', z1, z2, z3⟩ := q3 rfl
        have e2 : d2 = (v' ++ (x'.1, w') :: t') ++ b := by rw [z3]; simp
        have dl2 : d2.length = a.length + b.length := by rw [e2]; simp [ll]; omega
        refine ⟨a.length, d2, T1 ++ T2, v' ++ (x'.1, w') :: t', b, some (.int ((a ++ x :: b).length : Int)), some (.int (pk : Int)), ⟨e2, by simp [ll]; omega, ?_, r2, by rw [dl2, List.length_append]; omega⟩, ?_, ?_⟩
        · have hred' := hred
          rw [ea] at hred'
          exact hred'.change z1 z2
        · rw [dl2, dlen]
          have := mulL (a.length + b.length) (a.length + (b.length + 1)) (by omega)
          omega
        · simp_arith [b_Sliding_reduce_L1, slW_imm, g1, sl_mt1, fm2, e, l1', sl_md1, fm1, fm3, pl, isn, q5]
      | false =>
        have z3 := q4 rfl
        have dl2 : d2.length + 1 = a.length + b.length := by rw [z3]; simp [ll]; omega
        refine ⟨pk, d2, T1 ++ T2, v', t' ++ b, some (.int ((a ++ x :: b).length : Int)), some (.int (pk : Int)), ⟨z3, vl, ?_, r2, ?_⟩, ?_, ?_⟩
        · have hred' := hred
          rw [ea] at hred'
          exact hred'.take
        · rw [List.length_append, List.length_append]; omega
        · rw [dlen, List.length_append]
          have := mulL d2.length (a.length + (b.length + 1)) (by omega)
          omega
        · simp_arith [b_Sliding_reduce_L1, slW_imm, g1, sl_mt1, fm2, e, l1', sl_md1, fm1, fm3, pl, isn, q5]
  cases du : due u x with
  | false =>
    refine key x T hrow rfl hx.2.2 ?_ (by omega) (t_not u a b x T hx.1 hx.2.1 du)
    rw [nm_wall hu]
    split
    · rfl
    · rename_i n
      unfold due at du
      rw [decide_eq_false n] at du
      have du : (decide (0 < x.2) && decide (x.2 < u.sl x.1)) = true := by simpa using du
      obtain ⟨d1, d2⟩ := Bool.and_eq_true_iff.mp du
      have d1 := of_decide_eq_true d1
      have d2 := of_decide_eq_true d2
      exact Int.emod_eq_of_lt (by omega) d2
  | true =>
    have td := t_due u hu a b x T hd d1000 (by omega) du
    have sl0 : u.sl x.1 ≠ 0 := by
      unfold due at du
      have := (Bool.and_eq_true_iff.mp du).1
      simpa using this
    have tt := SlS.turn (u := u) a b x sl0
    have rr := hrow.app (.one tt)
    by_cases z2 : x.2 % u.sl x.1 = 0
    · have o2 : one x.1 (x.2 % u.sl x.1) = [] := if_pos z2
      rw [o2, List.append_nil] at td rr
      have l2 : (a ++ b).length + 1 = (a ++ x :: b).length := by simp; omega
      refine ⟨a.length, a ++ b, _, a, b, some (.int ((a ++ x :: b).length : Int)), x3, ⟨rfl, rfl, hred, rr, by rw [List.length_append, List.length_append]; simp; omega⟩, ?_, ?_⟩
      · have := mulL (a ++ b).length (a ++ x :: b).length (by omega)
        omega
      · have ne : ¬ ((a ++ b).length : Int) = ((a ++ x :: b).length : Int) := by omega
        simp_arith [b_Sliding_reduce_L1, slW_imm, g1, sl_mt1, fm2, td, ne]
    · have o2 : one x.1 (x.2 % u.sl x.1) = [(x.1, x.2 % u.sl x.1)] := if_neg z2
      rw [o2] at td rr
      have e5 : a ++ [(x.1, x.2 % u.sl x.1)] ++ b = a ++ (x.1, x.2 % u.sl x.1) :: b := by simp
      rw [e5] at td rr
      refine key (x.1, x.2 % u.sl x.1) _ rr rfl z2 ?_ (by rw [List.length_append]; simp) td
      rw [nm_wall hu, if_neg sl0, Int.emod_emod_of_dvd _ (Int.dvd_refl _)]
end Lk34
set_option Elab.async false
set_option linter.all false
set_option maxRecDepth 100000
set_option maxHeartbeats 4000000
namespace Lk34
open PySem PySem.Spec PyProof.Rows L2 Dv DvR DvF Gp
end Lk34
set_option Elab.async false
set_option linter.all false
set_option maxRecDepth 100000
set_option maxHeartbeats 4000000
namespace Lk34
open PySem PySem.Spec PyProof.Rows L2 Dv DvR DvF Gp
end Lk34
set_option Elab.async false
set_option linter.all false
set_option maxRecDepth 100000
set_option maxHeartbeats 4000000
namespace Lk34
open PySem PySem.Spec PyProof.Rows L2 Dv DvR DvF Gp
end Lk34
set_option Elab.async false
set_option linter.all false
set_option maxRecDepth 100000
set_option maxHeartbeats 4000000
namespace Lk34
open PySem PySem.Spec PyProof.Rows L2 Dv DvR DvF Gp
/-- the piles as a list, from the bottom up -/
def encP (u : Wl) (Q : Pile) : List (List Int) := (List.range u.slips.length).map fun i : Nat => (Q ((i : Int) + 1)).reverse
end Lk34
set_option Elab.async false
set_option linter.all false
set_option maxRecDepth 100000
set_option maxHeartbeats 4000000
namespace Lk34
open PySem PySem.Spec PyProof.Rows L2 Dv DvR DvF Gp
end Lk34
set_option Elab.async false
set_option linter.all false
set_option maxRecDepth 100000
set_option maxHeartbeats 4000000
namespace Lk34
open PySem PySem.Spec PyProof.Rows L2 Dv DvR DvF Gp
end Lk34
set_option Elab.async false
set_option linter.all false
set_option maxRecDepth 100000
set_option maxHeartbeats 4000000
namespace Lk34
open PySem PySem.Spec PyProof.Rows L2 Dv DvR DvF Gp
end Lk34
set_option Elab.async false
set_option linter.all false
set_option maxRecDepth 100000
set_option maxHeartbeats 4000000
namespace Lk34
open PySem PySem.Spec PyProof.Rows L2 Dv DvR DvF Gp
/-- winds: not 0, at most a million -/
def WOk (w : Int) : Prop := w ≠ 0 ∧ -1000000 ≤ w ∧ w ≤ 1000000
end Lk34
set_option Elab.async false
set_option linter.all false
set_option maxRecDepth 100000
set_option maxHeartbeats 4000000
namespace Lk34
open PySem PySem.Spec PyProof.Rows L2 Dv DvR DvF Gp
def CdW (u : Wl) (c : Word) : Prop := ∀ x ∈ c, 1 ≤ x.1 ∧ x.1 ≤ u.n ∧ WOk x.2
theorem CdW.cd {u : Wl} {c : Word} (h : CdW u c) : Cd u c := fun x hx => ⟨(h x hx).1, (h x hx).2.1, (h x hx).2.2.1⟩
theorem CdW.app {u : Wl} {c d : Word} (h : CdW u c) (h' : CdW u d) : CdW u (c ++ d) := fun x hx => (List.mem_append.mp hx).elim (h x) (h' x)
theorem CdW.back {u : Wl} {c : Word} (h : CdW u c) : CdW u (Gp.back c) := fun x hx => by
  obtain ⟨y, hy, rfl⟩ := List.mem_map.mp hx
  obtain ⟨h1, h2, h3, h4, h5⟩ := h y (List.mem_reverse.mp hy)
  exact ⟨h1, h2, by show 0 - y.2 ≠ 0; omega, by show -1000000 ≤ 0 - y.2; omega, by show 0 - y.2 ≤ 1000000; omega⟩
theorem CdW.onS {u : Wl} {c : Word} (h : CdW u c) (K : List Int) : CdW u (Gp.onS c K) := fun x hx => h x (List.mem_filter.mp hx).1
theorem CdW.nil {u : Wl} : CdW u [] := fun _ h => nomatch h
theorem sl_at (u : Wl) {p : Int} (h1 : 1 ≤ p) (h2 : p ≤ u.n) : kIx (tI u.slips) (.int (p - 1)) = some (.int (u.sl p), true) := by
  unfold Wl.n at h2
  obtain ⟨k, hk⟩ : ∃ k : Nat, p - 1 = (k : Int) := ⟨(p - 1).toNat, by omega⟩
  have hl : k < u.slips.length := by omega
  unfold tI Wl.sl
  rw [hk, Dv.ix_tup, Dv.atI_nat, List.getElem?_map, List.getElem?_eq_getElem hl, List.getD_eq_getElem?_getD, Int.toNat_natCast, List.getElem?_eq_getElem hl]
  rfl
end Lk34
set_option Elab.async false
set_option linter.all false
set_option maxRecDepth 100000
set_option maxHeartbeats 4000000
namespace Lk34
open PySem PySem.Spec PyProof.Rows L2 Dv DvR DvF Gp
end Lk34
set_option Elab.async false
set_option linter.all false
set_option maxRecDepth 100000
set_option maxHeartbeats 4000000
namespace Lk34
open PySem PySem.Spec PyProof.Rows L2 Dv DvR DvF Gp
/-- pairs in their order -/
def lexP (x y : Pr) : Prop := x.1 < y.1 ∨ (x.1 = y.1 ∧ x.2 < y.2)
structure ROk (n : Int) (R : Word) : Prop where
  mem : ∀ x ∈ R, 1 ≤ x.1 ∧ x.1 < x.2 ∧ x.2 ≤ n
  asc : R.Pairwise lexP
theorem ROk.snoc {n : Int} {R : Word} (h : ROk n R) {x : Pr} (hx : 1 ≤ x.1 ∧ x.1 < x.2 ∧ x.2 ≤ n) (hl : ∀ y ∈ R, lexP y x) : ROk n (R ++ [x]) := by
  refine ⟨fun y hy => ?_, List.pairwise_append.mpr ⟨h.asc, List.pairwise_singleton _ _, fun y hy z hz => ?_⟩⟩
  · rcases List.mem_append.mp hy with hy | hy
    · exact h.mem y hy
    · rw [List.mem_singleton.mp hy]; exact hx
  · rw [List.mem_singleton.mp hz]; exact hl y hy
end Lk34
set_option Elab.async false
set_option linter.all false
set_option maxRecDepth 100000
set_option maxHeartbeats 4000000
namespace Lk34
open PySem PySem.Spec PyProof.Rows L2 Dv DvR DvF Gp
end Lk34
set_option Elab.async false
set_option linter.all false
set_option maxRecDepth 100000
set_option maxHeartbeats 4000000
namespace Lk34
open PySem PySem.Spec PyProof.Rows L2 Dv DvR DvF Gp
end Lk34
set_option Elab.async false
set_option linter.all false
set_option maxRecDepth 100000
set_option maxHeartbeats 4000000
namespace Lk34
open PySem PySem.Spec PyProof.Rows L2 Dv DvR DvF Gp
/-- winds of at most so much -/
def Sm (B : Int) (c : Word) : Prop := ∀ x ∈ c, 1 ≤ x.1 ∧ x.1 ≤ 10 ∧ -B ≤ x.2 ∧ x.2 ≤ B
theorem Sm.mono {B C : Int} {c : Word} (h : Sm B c) (le : B ≤ C) : Sm C c := fun x hx => by
  obtain ⟨a, b, c, d⟩ := h x hx
  exact ⟨a, b, by omega, by omega⟩
theorem Sm.app {B : Int} {c d : Word} (h : Sm B c) (h' : Sm B d) : Sm B (c ++ d) := fun x hx => (List.mem_append.mp hx).elim (h x) (h' x)
end Lk34
set_option Elab.async false
set_option linter.all false
set_option maxRecDepth 100000
set_option maxHeartbeats 4000000
namespace Gp
variable {A : Wa}
theorem onS_app (c d : Word) (K : List Int) : onS (c ++ d) K = onS c K ++ onS d K := List.filter_append ..
theorem onS_cons (x : Pr) (c : Word) (K : List Int) : onS (x :: c) K = (if x.1 ∈ K then [x] else []) ++ onS c K := by
  unfold onS
  by_cases h : x.1 ∈ K
  · simp [h]
  · simp [h]
theorem onS_one_in {p : Int} {K : List Int} (h : p ∈ K) (w : Int) : onS (one p w) K = one p w := by
  unfold one
  split
  · rfl
  · rw [onS_cons, if_pos h]; rfl
theorem onS_one_out {p : Int} {K : List Int} (h : ¬ p ∈ K) (w : Int) : onS (one p w) K = [] := by
  unfold one
  split
  · rfl
  · rw [onS_cons, if_neg h]; rfl
theorem Sl.onS {c d : Word} (s : Sl A c d) (K : List Int) : Eqv A (Gp.onS c K) (Gp.onS d K) := by
  cases s with
  | turn u v p w =>
    rw [onS_app, onS_cons, onS_app, onS_app]
    by_cases h : p ∈ K
    · rw [if_pos h, onS_one_in h]
      exact .of (.turn _ _ p w)
    · rw [if_neg h, onS_one_out h, List.append_nil]
      exact .refl _
  | join u v p w w' =>
    rw [onS_app, onS_cons, onS_cons, onS_app, onS_app]
    by_cases h : p ∈ K
    · rw [if_pos (show (p, w).1 ∈ K from h), if_pos (show (p, w').1 ∈ K from h), onS_one_in h]
      exact .of (.join _ _ p w w')
    · rw [if_neg (show ¬ (p, w).1 ∈ K from h), if_neg (show ¬ (p, w').1 ∈ K from h), onS_one_out h, List.append_nil]
      exact .refl _
  | past u v x y n t =>
    rw [onS_app, onS_cons, onS_cons, onS_app, onS_cons, onS_cons]
    by_cases h : x.1 ∈ K <;> by_cases h' : y.1 ∈ K
    · rw [if_pos h, if_pos h']
      exact .of (.past _ _ x y n t)
    · rw [if_pos h, if_neg h']
      exact .refl _
    · rw [if_neg h, if_pos h']
      exact .refl _
    · rw [if_neg h, if_neg h']
      exact .refl _
theorem Eqv.onS {c d : Word} (h : Eqv A c d) (K : List Int) : Eqv A (Gp.onS c K) (Gp.onS d K) := by
  induction h with
  | refl _ => exact .refl _
  | step s _ ih => exact (s.onS K).trans ih
  | back s _ ih => exact (s.onS K).symm.trans ih
theorem onS_back (c : Word) (K : List Int) : onS (back c) K = back (onS c K) := by
  unfold onS back
  rw [List.filter_map, ← List.filter_reverse]
  rfl
end Gp
set_option Elab.async false
set_option linter.all false
set_option maxRecDepth 100000
set_option maxHeartbeats 4000000
namespace Gp
variable {A : Wa}
theorem back_app (c d : Word) : back (c ++ d) = back d ++ back c := by
  unfold back
  rw [List.reverse_append, List.map_append]
theorem back_back (c : Word) : back (back c) = c := by
  unfold back
  rw [← List.map_reverse, List.reverse_reverse, List.map_map]
  conv => rhs; rw [← List.map_id c]
  refine List.map_congr_left fun x _ => ?_
  show (x.1, 0 - (0 - x.2)) = x
  rw [show (0 : Int) - (0 - x.2) = x.2 by omega]
theorem inv_one (x : Pr) : Eqv A (x :: back [x]) [] := by
  have s : Sl A ([] ++ (x.1, x.2) :: (x.1, 0 - x.2) :: []) ([] ++ one x.1 (x.2 + (0 - x.2)) ++ []) := .join [] [] x.1 x.2 (0 - x.2)
  rw [show x.2 + (0 - x.2) = 0 by omega] at s
  exact .of s
theorem Eqv.inv : ∀ c : Word, Eqv A (c ++ Gp.back c) []
  | [] => .refl _
  | x :: c => by
    have e : (x :: c) ++ Gp.back (x :: c) = [x] ++ (c ++ Gp.back c) ++ Gp.back [x] := by
      rw [show x :: c = [x] ++ c from rfl, back_app, List.append_assoc, List.append_assoc, List.append_assoc]
    rw [e]
    exact ((Eqv.inv c).ctx [x] (Gp.back [x])).trans (by rw [List.append_nil]; exact inv_one x)
theorem Eqv.inv' (c : Word) : Eqv A (Gp.back c ++ c) [] := by
  have := Eqv.inv (A := A) (Gp.back c)
  rwa [back_back] at this
theorem Eqv.nil_back {c : Word} (h : Eqv A c []) : Eqv A (Gp.back c) [] := by
  have h1 : Eqv A ([] ++ c ++ Gp.back c) ([] ++ [] ++ Gp.back c) := h.ctx [] (Gp.back c)
  exact h1.symm.trans (Eqv.inv c)
theorem Eqv.nil_iff {c d : Word} (h : Eqv A c d) : Eqv A c [] ↔ Eqv A d [] := ⟨fun k => h.symm.trans k, fun k => h.trans k⟩
end Gp
set_option Elab.async false
set_option linter.all false
set_option maxRecDepth 100000
set_option maxHeartbeats 4000000
namespace Dv
open PySem PySem.Spec PyProof.Rows L2 DvR DvF
end Dv
set_option Elab.async false
set_option linter.all false
set_option maxRecDepth 100000
set_option maxHeartbeats 4000000
namespace Lk34
open PySem PySem.Spec PyProof.Rows L2 Dv DvR DvF Gp
def noth (u : Wl) (c : Word) : Bool := decide (((encP u (Gp.st u.wa c)).filter fun p => !decide (p = [])) = [])
end Lk34
set_option Elab.async false
set_option linter.all false
set_option maxRecDepth 100000
set_option maxHeartbeats 4000000
namespace Lk34
open PySem PySem.Spec PyProof.Rows L2 Dv DvR DvF Gp
end Lk34
set_option Elab.async false
set_option linter.all false
set_option maxRecDepth 100000
set_option maxHeartbeats 4000000
namespace Lk34
open PySem PySem.Spec PyProof.Rows L2 Dv DvR DvF Gp
def CdB (u : Wl) (B : Int) (c : Word) : Prop := ∀ x ∈ c, 1 ≤ x.1 ∧ x.1 ≤ u.n ∧ x.2 ≠ 0 ∧ -B ≤ x.2 ∧ x.2 ≤ B
theorem CdB.cd {u : Wl} {B : Int} {c : Word} (h : CdB u B c) : Cd u c := fun x hx => ⟨(h x hx).1, (h x hx).2.1, (h x hx).2.2.1⟩
theorem CdB.of {u : Wl} {c : Word} (h : CdW u c) : CdB u 1000000 c := fun x hx => ⟨(h x hx).1, (h x hx).2.1, (h x hx).2.2⟩
theorem CdB.mono {u : Wl} {B C : Int} {c : Word} (h : CdB u B c) (le : B ≤ C) : CdB u C c := fun x hx => by
  obtain ⟨a, b, c, d, e⟩ := h x hx
  exact ⟨a, b, c, by omega, by omega⟩
theorem CdB.app {u : Wl} {B : Int} {c d : Word} (h : CdB u B c) (h' : CdB u B d) : CdB u B (c ++ d) := fun x hx => (List.mem_append.mp hx).elim (h x) (h' x)
theorem CdB.sub {u : Wl} {B : Int} {c d : Word} (h : CdB u B c) (s : ∀ x ∈ d, x ∈ c) : CdB u B d := fun x hx => h x (s x hx)
theorem CdB.one {u : Wl} {B p w : Int} (p1 : 1 ≤ p) (p2 : p ≤ u.n) (w0 : w ≠ 0) (w1 : -B ≤ w) (w2 : w ≤ B) : CdB u B [(p, w)] := fun x hx => by
  rw [List.mem_singleton.mp hx]
  exact ⟨p1, p2, w0, w1, w2⟩
theorem CdB.back {u : Wl} {B : Int} {c : Word} (h : CdB u B c) : CdB u B (Gp.back c) := fun x hx => by
  obtain ⟨y, hy, rfl⟩ := List.mem_map.mp hx
  obtain ⟨a, b, d, e, f⟩ := h y (List.mem_reverse.mp hy)
  exact ⟨a, b, by show 0 - y.2 ≠ 0; omega, by show -B ≤ 0 - y.2; omega, by show 0 - y.2 ≤ B; omega⟩
end Lk34
set_option Elab.async false
set_option linter.all false
set_option maxRecDepth 100000
set_option maxHeartbeats 4000000
namespace Lk34
open PySem PySem.Spec PyProof.Rows L2 Dv DvR DvF Gp
end Lk34
set_option Elab.async false
set_option linter.all false
set_option maxRecDepth 100000
set_option maxHeartbeats 4000000
namespace Dv
open PySem PySem.Spec PyProof.Rows L2 DvR DvF
end Dv
set_option Elab.async false
set_option linter.all false
set_option maxRecDepth 100000
set_option maxHeartbeats 4000000
namespace Lk34
open PySem PySem.Spec PyProof.Rows L2 Dv DvR DvF Gp
/-- the pegs that are left -/
def left (u : Wl) (Q : List Int) : List Int := ((List.range u.slips.length).map fun i : Nat => 1 + (i : Int)).filter fun p => !decide (p ∈ Q)
end Lk34
set_option Elab.async false
set_option linter.all false
set_option maxRecDepth 100000
set_option maxHeartbeats 4000000
namespace Lk34
open PySem PySem.Spec PyProof.Rows L2 Dv DvR DvF Gp
end Lk34
set_option Elab.async false
set_option linter.all false
set_option maxRecDepth 100000
set_option maxHeartbeats 4000000
namespace Dv
open PySem PySem.Spec PyProof.Rows L2 DvC
end Dv
set_option Elab.async false
set_option linter.all false
set_option maxRecDepth 100000
set_option maxHeartbeats 4000000
namespace Lk34
open PySem PySem.Spec PyProof.Rows L2 Dv DvR DvF Gp
open Lk34.Ru
/-- whether the set of a number keeps a cord -/
def kf (u : Wl) (c : Word) (m : Nat) : Bool := !noth u (onS c (pg u.slips.length m))
theorem pg_sub {n a b : Nat} (h : a &&& b = a) : ∀ p ∈ pg n a, p ∈ pg n b := fun p hp => by
  obtain ⟨k, h1, h2, rfl⟩ := mem_pg.mp hp
  refine mem_pg.mpr ⟨k, h1, ?_, rfl⟩
  rw [← h, Nat.testBit_and, Bool.and_eq_true_iff] at h2
  exact h2.2
end Lk34
set_option Elab.async false
set_option linter.all false
set_option maxRecDepth 100000
set_option maxHeartbeats 4000000
namespace Lk34
open PySem PySem.Spec PyProof.Rows L2 Dv DvR DvF Gp
open Lk34.Ru
structure Rl (u : Wl) (c : Word) (L : List Nat) : Prop where
  mn : Mn u.slips.length (kf u c) L
  mono : Mono (kf u c)
  anti : Anti u.slips.length L
  len : L.length ≤ 1024
theorem Rl.keep {u : Wl} {c : Word} {L : List Nat} (h : Rl u c L) {m : Nat} (hm : m < 2 ^ u.slips.length) : keepM L m = kf u c m := h.mn.keep h.mono hm
end Lk34
set_option Elab.async false
set_option linter.all false
set_option maxRecDepth 100000
set_option maxHeartbeats 4000000
namespace Gp
variable {A : Wa}
/-- what lies behind does not hinder pairs of p -/
def OffB (A : Wa) (p : Int) (b : Word) : Prop := ∀ y ∈ b, y.1 ≠ p ∧ A.tied y.1 p = false
theorem red_cut {a b : Word} {x : Pr} (r : Red A (a ++ x :: b)) (h : OffB A x.1 b) : Red A (a ++ b) := by
  refine ⟨r.nrm.sub fun y hy => ?_, fun u y v e => ?_⟩
  · rcases List.mem_append.mp hy with h | h
    · exact List.mem_append_left _ h
    · exact List.mem_append_right _ (List.mem_cons_of_mem _ h)
  · rcases List.append_eq_append_iff.mp e with ⟨d, e1, e2⟩ | ⟨d, e1, e2⟩
    · have k := r.nj (a ++ x :: d) y v (by rw [e2]; simp)
      have ho := h y (by rw [e2]; simp)
      have n : lay A y.1 x = none := lay_none ⟨fun z => ho.1 z.symm, by rw [A.sym]; exact ho.2⟩
      rw [pl_append, pl_cons, n] at k
      rw [e1, pl_append]
      exact k
    · cases d with
      | nil =>
        have e2 : y :: v = b := e2
        have k := r.nj (a ++ [x]) y v (by rw [← e2]; simp)
        have ho := h y (by rw [← e2]; simp)
        have n : lay A y.1 x = none := lay_none ⟨fun z => ho.1 z.symm, by rw [A.sym]; exact ho.2⟩
        rw [pl_append, pl_one, n] at k
        have e1 : a = u := by rw [e1, List.append_nil]
        rw [← e1]
        simpa using k
      | cons y' d =>
        have e3 : y = y' := by simpa using congrArg List.head? e2
        subst e3
        exact r.nj u y (d ++ x :: b) (by rw [e1]; simp)
theorem last_of (p : Int) (r : Word) : (∃ a w b, r = a ++ (p, w) :: b ∧ OffB A p b) ∨ (pl A r p).getLast?.getD 0 = 0 := by
  induction r using snoc_ind with
  | h0 => exact .inr rfl
  | hs c x ih =>
    by_cases e : x.1 = p
    · exact .inl ⟨c, x.2, [], by rw [← e], fun _ z => nomatch z⟩
    · by_cases t : A.tied x.1 p = true
      · refine .inr ?_
        have : lay A p x = some 0 := by unfold lay; rw [if_neg e, if_pos t]
        rw [pl_append, pl_one, this]
        show ((pl A c p ++ [0]).getLast?).getD 0 = 0
        rw [List.getLast?_append]
        rfl
      · have t : A.tied x.1 p = false := by simpa using t
        have n : lay A p x = none := lay_none ⟨e, t⟩
        rcases ih with ⟨a, w, b, h1, h2⟩ | h
        · refine .inl ⟨a, w, b ++ [x], by rw [h1]; simp, fun y hy => ?_⟩
          rcases List.mem_append.mp hy with h | h
          · exact h2 y h
          · rw [List.mem_singleton.mp h]; exact ⟨e, t⟩
        · refine .inr ?_
          rw [pl_append, pl_one, n]
          simpa using h
theorem past_all {p w : Int} : ∀ {b : Word}, OffB A p b → Eqv A (b ++ [(p, w)]) ((p, w) :: b)
  | [], _ => .refl _
  | y :: b, h => by
    have ih := (past_all (w := w) fun z hz => h z (.tail _ hz)).ctx [y] []
    rw [List.append_nil, List.append_nil] at ih
    have hy := h y (.head _)
    exact ih.trans (.of (Sl.past [] b y (p, w) hy.1 hy.2))
theorem eqv_one_nm (p v : Int) : Eqv A (one p v) (one p (nm A p v)) := by
  unfold one
  by_cases z : v = 0
  · rw [z, nm_zero]; exact .refl _
  · rw [if_neg z]
    have := Sl.turn (A := A) [] [] p v
    exact .of (by simpa [one] using this)
theorem join_eqv {a b : Word} {p w0 w : Int} (h : OffB A p b) : Eqv A (a ++ (p, w0) :: b ++ [(p, w)]) (a ++ one p (nm A p (w0 + w)) ++ b) := by
  have e1 := (past_all (w := w) h).ctx (a ++ [(p, w0)]) []
  rw [List.append_nil, List.append_nil] at e1
  have e2 : Eqv A (a ++ (p, w0) :: (p, w) :: b) (a ++ one p (w0 + w) ++ b) := .of (Sl.join a b p w0 w)
  have e3 := (eqv_one_nm (A := A) p (w0 + w)).ctx a b
  have s1 : a ++ [(p, w0)] ++ (b ++ [(p, w)]) = a ++ (p, w0) :: b ++ [(p, w)] := by simp
  have s2 : a ++ [(p, w0)] ++ (p, w) :: b = a ++ (p, w0) :: (p, w) :: b := by simp
  rw [s1, s2] at e1
  exact e1.trans (e2.trans e3)
theorem join_red {a b : Word} {p w0 w : Int} (r : Red A (a ++ (p, w0) :: b)) (h : OffB A p b) : Red A (a ++ one p (nm A p (w0 + w)) ++ b) := by
  unfold one
  split
  · rw [List.append_nil]
    exact red_cut r h
  · rename_i n
    have := Red.change (w' := nm A p (w0 + w)) r n (nm_nm _ _)
    simpa using this
theorem push_eqv {r : Word} {p w : Int} (hw : w ≠ 0) : Eqv A (r ++ [(p, w)]) (r ++ one p (nm A p w)) := by
  have e := (eqv_one_nm (A := A) p w).ctx r []
  rw [List.append_nil, List.append_nil] at e
  unfold one at e
  rw [if_neg hw] at e
  exact e
theorem push_red {r : Word} {p w : Int} (h : Red A r) (hj : (pl A r p).getLast?.getD 0 = 0) : Red A (r ++ one p (nm A p w)) := by
  unfold one
  split
  · rwa [List.append_nil]
  · rename_i n
    exact h.snoc (x := (p, nm A p w)) n (nm_nm _ _) hj
/-- each cord has one that can't be shortened, with no other pegs -/
theorem red_ex (c : Word) (hc : ∀ x ∈ c, x.2 ≠ 0) : ∃ r, Red A r ∧ Eqv A c r ∧ ∀ x ∈ r, ∃ y ∈ c, y.1 = x.1 := by
  induction c using snoc_ind with
  | h0 => exact ⟨[], ⟨fun _ z => (nomatch z), fun u x v e => by cases u <;> cases e⟩, .refl _, fun _ z => nomatch z⟩
  | hs c x ih =>
    obtain ⟨r, h1, h2, h3⟩ := ih fun y hy => hc y (List.mem_append_left _ hy)
    have e0 : Eqv A (c ++ [x]) (r ++ [x]) := h2.append (.refl _)
    have hm : ∀ q, (q = x.1 ∨ ∃ y ∈ r, y.1 = q) → ∃ y ∈ c ++ [x], y.1 = q := fun q hq => by
      rcases hq with rfl | ⟨y, hy, rfl⟩
      · exact ⟨x, by simp, rfl⟩
      · obtain ⟨z, hz, e⟩ := h3 y hy
        exact ⟨z, List.mem_append_left _ hz, e⟩
    have ho : ∀ (w : Int) (y : Pr), y ∈ one x.1 w → y.1 = x.1 := fun w y hy => by
      unfold one at hy
      split at hy
      · cases hy
      · rw [List.mem_singleton.mp hy]
    rcases last_of (A := A) x.1 r with ⟨a, w, b, e, hb⟩ | hj
    · subst e
      refine ⟨_, join_red (w := x.2) h1 hb, e0.trans (join_eqv hb), fun y hy => hm y.1 ?_⟩
      rcases List.mem_append.mp hy with hy | hy
      · rcases List.mem_append.mp hy with hy | hy
        · exact .inr ⟨y, List.mem_append_left _ hy, rfl⟩
        · exact .inl (ho _ y hy)
      · exact .inr ⟨y, List.mem_append_right _ (.tail _ hy), rfl⟩
    · refine ⟨_, push_red (w := x.2) h1 hj, e0.trans (push_eqv (hc x (by simp))), fun y hy => hm y.1 ?_⟩
      rcases List.mem_append.mp hy with hy | hy
      · exact .inr ⟨y, hy, rfl⟩
      · exact .inl (ho _ y hy)
theorem swp_nil {c d : Word} (h : Eqv A c [] ∨ Eqv A d []) : Eqv A (c ++ d ++ Gp.back c ++ Gp.back d) [] := by
  rcases h with h | h
  · have e1 : Eqv A (c ++ d ++ Gp.back c ++ Gp.back d) ([] ++ d ++ [] ++ Gp.back d) := ((h.append (.refl d)).append h.nil_back).append (.refl _)
    have e2 : [] ++ d ++ [] ++ Gp.back d = d ++ Gp.back d := by simp
    rw [e2] at e1
    exact e1.trans (Eqv.inv d)
  · have e1 : Eqv A (c ++ d ++ Gp.back c ++ Gp.back d) (c ++ [] ++ Gp.back c ++ []) := (((Eqv.refl c).append h).append (.refl _)).append h.nil_back
    have e2 : c ++ [] ++ Gp.back c ++ [] = c ++ Gp.back c := by simp
    rw [e2] at e1
    exact e1.trans (Eqv.inv c)
def nestS (c : Word) (p : Int) : Word := c ++ [(p, 1)] ++ Gp.back c ++ Gp.back [(p, 1)]
structure Nst (A : Wa) (ps : List Int) (c : Word) : Prop where
  mem : ∀ x ∈ c, x.1 ∈ ps
  nz : ∀ x ∈ c, x.2 ≠ 0
  ne : ¬ Eqv A c []
  drop : ∀ j ∈ ps, ∀ K : List Int, j ∉ K → Eqv A (onS c K) []
theorem nm_one (p : Int) : nm A p 1 = 1 := by
  unfold nm
  rcases A.pos p with h | h
  · rw [if_pos h]
  · rw [if_neg (by omega)]
    exact Int.emod_eq_of_lt (by decide) (by omega)
theorem zeros_rot : ∀ {l : List Int}, l ++ [0] = 0 :: l → ∀ z ∈ l, z = 0
  | [], _, z, h => nomatch h
  | a :: l, e, z, h => by
    have e1 : a = 0 := by simpa using congrArg List.head? e
    subst e1
    have e2 : l ++ [0] = 0 :: l := by simpa using e
    rcases List.mem_cons.mp h with rfl | h
    · rfl
    · exact zeros_rot e2 z h
theorem pl_zero {f : Word} {p : Int} (h : ∀ y ∈ f, y.1 ≠ p) : ∀ z ∈ pl A f p, z = 0 := fun z hz => by
  obtain ⟨y, hy, e⟩ := List.mem_filterMap.mp hz
  unfold lay at e
  rw [if_neg (h y hy)] at e
  split at e
  · exact (Option.some.inj e).symm
  · cases e
theorem last_zero {l : List Int} (h : ∀ z ∈ l, z = 0) : l.getLast?.getD 0 = 0 := by
  cases e : l.getLast? with
  | none => rfl
  | some a => exact h a (List.mem_of_getLast? e)
theorem red_head {f : Word} {p : Int} (r : Red A f) (h : ∀ y ∈ f, y.1 ≠ p) : Red A ((p, 1) :: f) := by
  refine ⟨fun x hx => ?_, fun u y v e => ?_⟩
  · rcases List.mem_cons.mp hx with rfl | hx
    · exact ⟨show (1 : Int) ≠ 0 by decide, nm_one p⟩
    · exact r.nrm x hx
  · cases u with
    | nil => rfl
    | cons x u =>
      have e1 : x = (p, 1) := by simpa using (congrArg List.head? e).symm
      have e2 : f = u ++ y :: v := by simpa using congrArg List.tail e
      subst e1
      have k := r.nj u y v e2
      have ny : y.1 ≠ p := h y (by rw [e2]; simp)
      rw [pl_cons, List.getLast?_append]
      cases q : (pl A u y.1).getLast? with
      | some a =>
        rw [q] at k
        exact k
      | none =>
        show ((lay A y.1 (p, 1)).toList.getLast?).getD 0 = 0
        unfold lay
        rw [if_neg (fun z => ny z.symm)]
        split <;> rfl
theorem Nst.step {ps : List Int} {c : Word} (h : Nst A ps c) {p : Int} (hp : p ∉ ps) (ht : ∃ j ∈ ps, A.tied p j = true) : Nst A (ps ++ [p]) (nestS c p) := by
  refine ⟨fun x hx => ?_, fun x hx => ?_, fun e => ?_, fun j hj K hK => ?_⟩
  · unfold nestS at hx
    simp only [List.mem_append] at hx
    have hb : ∀ d : Word, x ∈ Gp.back d → ∃ y ∈ d, y.1 = x.1 := fun d hd => by
      unfold Gp.back at hd
      obtain ⟨y, hy, e⟩ := List.mem_map.mp hd
      exact ⟨y, List.mem_reverse.mp hy, by rw [← e]⟩
    rcases hx with ((hx | hx) | hx) | hx
    · exact List.mem_append_left _ (h.mem x hx)
    · rw [List.mem_singleton.mp hx]; simp
    · obtain ⟨y, hy, e⟩ := hb _ hx
      rw [← e]
      exact List.mem_append_left _ (h.mem y hy)
    · obtain ⟨y, hy, e⟩ := hb _ hx
      rw [← e, List.mem_singleton.mp hy]
      simp
  · unfold nestS at hx
    simp only [List.mem_append] at hx
    have hb : ∀ d : Word, (∀ y ∈ d, y.2 ≠ 0) → x ∈ Gp.back d → x.2 ≠ 0 := fun d hn hd => by
      unfold Gp.back at hd
      obtain ⟨y, hy, e⟩ := List.mem_map.mp hd
      have := hn y (List.mem_reverse.mp hy)
      rw [← e]
      show 0 - y.2 ≠ 0
      omega
    rcases hx with ((hx | hx) | hx) | hx
    · exact h.nz x hx
    · rw [List.mem_singleton.mp hx]; exact (by decide : (1 : Int) ≠ 0)
    · exact hb c h.nz hx
    · exact hb [(p, 1)] (fun y hy => by rw [List.mem_singleton.mp hy]; exact (by decide : (1 : Int) ≠ 0)) hx
  · -- both orders alike
    have e1 : Eqv A (c ++ [(p, 1)]) ([(p, 1)] ++ c) := by
      have k1 := e.ctx [] ([(p, 1)] ++ c)
      have k2 := (Eqv.inv' (A := A) [(p, 1)]).ctx (c ++ [(p, 1)] ++ Gp.back c) c
      have k3 := (Eqv.inv' (A := A) c).ctx (c ++ [(p, 1)]) []
      rw [List.append_nil, List.append_nil, List.append_nil] at k3
      have s1 : [] ++ nestS c p ++ ([(p, 1)] ++ c) = c ++ [(p, 1)] ++ Gp.back c ++ (Gp.back [(p, 1)] ++ [(p, 1)]) ++ c := by unfold nestS; simp
      have s2 : c ++ [(p, 1)] ++ Gp.back c ++ [] ++ c = c ++ [(p, 1)] ++ (Gp.back c ++ c) := by simp
      rw [s1] at k1
      rw [s2] at k2
      exact k3.symm.trans (k2.symm.trans k1)
    obtain ⟨f, rf, ef, mf⟩ := red_ex (A := A) c h.nz
    have np : ∀ y ∈ f, y.1 ≠ p := fun y hy z => by
      obtain ⟨y', hy', e'⟩ := mf y hy
      exact hp (by rw [← z, ← e']; exact h.mem y' hy')
    have e2 : Eqv A (f ++ [(p, 1)]) ([(p, 1)] ++ f) := (ef.symm.append (.refl _)).trans (e1.trans ((Eqv.refl _).append ef))
    have r1 : Red A (f ++ [(p, 1)]) := rf.snoc (x := (p, 1)) (show (1 : Int) ≠ 0 by decide) (nm_one p) (last_zero (pl_zero np))
    have r2 : Red A ([(p, 1)] ++ f) := red_head rf np
    obtain ⟨j, hj, tj⟩ := ht
    have s := congrFun (st_eqv e2) j
    rw [r1.st_pl, r2.st_pl] at s
    have s : (pl A (f ++ [(p, 1)]) j).reverse = (pl A ([(p, 1)] ++ f) j).reverse := s
    have s := List.reverse_inj.mp s
    have npj : p ≠ j := fun z => hp (by rw [z]; exact hj)
    have ly : lay A j (p, 1) = some 0 := by
      unfold lay
      rw [if_neg npj, if_pos tj]
    rw [pl_append, pl_append, pl_one, ly] at s
    have zs := zeros_rot (l := pl A f j) s
    have nj : j ∉ f.map (·.1) := fun z => by
      obtain ⟨y, hy, e'⟩ := List.mem_map.mp z
      refine (rf.nrm y hy).1 (zs y.2 (List.mem_filterMap.mpr ⟨y, hy, ?_⟩))
      unfold lay
      rw [if_pos e']
    have k := h.drop j hj _ nj
    have k2 := (ef.onS (f.map (·.1))).symm.trans k
    have k3 : onS f (f.map (·.1)) = f := List.filter_eq_self.mpr fun y hy => decide_eq_true (List.mem_map_of_mem hy)
    rw [k3] at k2
    exact h.ne (ef.trans k2)
  · unfold nestS
    rw [onS_app, onS_app, onS_app, onS_back, onS_back]
    rcases List.mem_append.mp hj with hj | hj
    · exact swp_nil (.inl (h.drop j hj K hK))
    · obtain rfl := List.mem_singleton.mp hj
      have : onS [(j, 1)] K = [] := List.filter_eq_nil_iff.mpr fun x hx => by
        rw [List.mem_singleton.mp hx]
        simpa using hK
      rw [this]
      exact swp_nil (.inr (.refl _))
end Gp
set_option Elab.async false
set_option linter.all false
set_option maxRecDepth 100000
set_option maxHeartbeats 4000000
namespace Gp
def nbr (u : Wl) (p : Int) : List Nat := ((List.range u.slips.length).map (· + 1)).filter fun q : Nat => !u.rail p (q : Int)
def fq (u : Wl) (q : Nat) (y : Pr) : Bool := decide (y.2 ≠ 0) && decide (q ∈ nbr u y.1)
end Gp
set_option Elab.async false
set_option linter.all false
set_option maxRecDepth 100000
set_option maxHeartbeats 4000000
namespace Lk34
open PySem PySem.Spec PyProof.Rows L2 Dv DvR DvF Gp
end Lk34
set_option Elab.async false
set_option linter.all false
set_option maxRecDepth 100000
set_option maxHeartbeats 4000000
namespace Lk34
open PySem PySem.Spec PyProof.Rows L2 Dv DvR DvF Gp
end Lk34
set_option Elab.async false
set_option linter.all false
set_option maxRecDepth 100000
set_option maxHeartbeats 4000000
namespace Lk34
open PySem PySem.Spec PyProof.Rows L2 Dv DvR DvF Gp
end Lk34
set_option Elab.async false
set_option linter.all false
set_option maxRecDepth 100000
set_option maxHeartbeats 4000000
namespace Lk34
open PySem PySem.Spec PyProof.Rows L2 Dv DvR DvF Gp
end Lk34
set_option Elab.async false
set_option linter.all false
set_option maxRecDepth 100000
set_option maxHeartbeats 4000000
namespace Lk34
open PySem PySem.Spec PyProof.Rows L2 Dv DvR DvF Gp
end Lk34
set_option Elab.async false
set_option linter.all false
set_option maxRecDepth 100000
set_option maxHeartbeats 4000000
namespace Lk34
open PySem PySem.Spec PyProof.Rows L2 Dv DvR DvF Gp
open Lk34.Ru
end Lk34
set_option Elab.async false
set_option linter.all false
set_option maxRecDepth 100000
set_option maxHeartbeats 4000000
namespace Lk34
open PySem PySem.Spec PyProof.Rows L2 Dv DvR DvF Gp
open Lk34.Ru
end Lk34
set_option Elab.async false
set_option linter.all false
set_option maxRecDepth 100000
set_option maxHeartbeats 4000000
namespace Lk34
open PySem PySem.Spec PyProof.Rows L2 Dv DvR DvF Gp
open Lk34.Ru
end Lk34
set_option Elab.async false
set_option linter.all false
set_option maxRecDepth 100000
set_option maxHeartbeats 0
namespace Lk34
open PySem PySem.Spec PyProof.Rows L2
theorem facts {P : Program} {w : World} {K : PySem.W.Frag} {h : Heap} {mg : Str → Option Value} {f : Addr} (X : K.In h) (G : h.Ns mainGlobals mg) (hfa1 : mg ("law" : Str) = some (.ref f)) (c : He.SaysD hfa hfn K) (cx : hex K = true) (cl : ∀ p ∈ htf, PySem.W.codeHdIn K (He.cT K p).1 (He.cT K p).2 = true) :
    ∃ fd : FuncData, (∀ (s : Shared) (v : Value), BindsTo s fd ⟨[v], []⟩ [("script", v)]) ∧ ∀ base : Heap, K.In base → base.Ns mainGlobals mg → (∀ p ∈ htf.map (He.cT K), LamX.TabB base mg p.1 p.2) → DvF.FnG P w K mg base CX0 13 f fd ["script"] (Dv.spD K 1 F_law) := by
  obtain ⟨fd_is_whole, D_is_whole⟩ := c.def_ 0 (d := hd_is_whole) rfl
  obtain ⟨fd_do_ascend, D_do_ascend⟩ := c.def_ 1 (d := hd_do_ascend) rfl
  obtain ⟨fd_many_of, D_many_of⟩ := c.def_ 2 (d := hd_many_of) rfl
  obtain ⟨fd_slip_of, D_slip_of⟩ := c.def_ 3 (d := hd_slip_of) rfl
  obtain ⟨fd_has_rail, D_has_rail⟩ := c.def_ 4 (d := hd_has_rail) rfl
  obtain ⟨fd_is_within, D_is_within⟩ := c.def_ 5 (d := hd_is_within) rfl
  obtain ⟨fd_back_of, D_back_of⟩ := c.def_ 6 (d := hd_back_of) rfl
  obtain ⟨fd_on_set, D_on_set⟩ := c.def_ 7 (d := hd_on_set) rfl
  obtain ⟨fd_Sliding___init__, D_Sliding___init__⟩ := c.def_ 8 (d := hd_Sliding___init__) rfl
  obtain ⟨fd_all_sets, D_all_sets⟩ := c.def_ 9 (d := hd_all_sets) rfl
  obtain ⟨fd__law_deck, D__law_deck⟩ := c.def_ 10 (d := hd__law_deck) rfl
  obtain ⟨fd__law_draw, D__law_draw⟩ := c.def_ 11 (d := hd__law_draw) rfl
  obtain ⟨fd__law_web, D__law_web⟩ := c.def_ 12 (d := hd__law_web) rfl
  obtain ⟨fd__law_keeps, D__law_keeps⟩ := c.def_ 13 (d := hd__law_keeps) rfl
  obtain ⟨fd__law_back, D__law_back⟩ := c.def_ 14 (d := hd__law_back) rfl
  obtain ⟨fd__law_same, D__law_same⟩ := c.def_ 15 (d := hd__law_same) rfl
  obtain ⟨fd_is_between, D_is_between⟩ := c.def_ 16 (d := hd_is_between) rfl
  obtain ⟨fd_swap_of, D_swap_of⟩ := c.def_ 17 (d := hd_swap_of) rfl
  obtain ⟨fd_Sliding_place_to_join, D_Sliding_place_to_join⟩ := c.def_ 18 (d := hd_Sliding_place_to_join) rfl
  obtain ⟨fd_free_places, D_free_places⟩ := c.def_ 19 (d := hd_free_places) rfl
  obtain ⟨fd_does_rule_keep, D_does_rule_keep⟩ := c.def_ 20 (d := hd_does_rule_keep) rfl
  obtain ⟨fd__law_pick, D__law_pick⟩ := c.def_ 21 (d := hd__law_pick) rfl
  obtain ⟨fd__law_nest, D__law_nest⟩ := c.def_ 22 (d := hd__law_nest) rfl
  obtain ⟨fd_is_slip, D_is_slip⟩ := c.def_ 23 (d := hd_is_slip) rfl
  obtain ⟨fd_is_rail, D_is_rail⟩ := c.def_ 24 (d := hd_is_rail) rfl
  obtain ⟨fd_is_set_value, D_is_set_value⟩ := c.def_ 25 (d := hd_is_set_value) rfl
  obtain ⟨fd_is_pair, D_is_pair⟩ := c.def_ 26 (d := hd_is_pair) rfl
  obtain ⟨fd_slid_by, D_slid_by⟩ := c.def_ 27 (d := hd_slid_by) rfl
  obtain ⟨fd_arranged, D_arranged⟩ := c.def_ 28 (d := hd_arranged) rfl
  obtain ⟨fd_nest_of, D_nest_of⟩ := c.def_ 29 (d := hd_nest_of) rfl
  obtain ⟨fd_are_pulls, D_are_pulls⟩ := c.def_ 30 (d := hd_are_pulls) rfl
  obtain ⟨fd__law_board, D__law_board⟩ := c.def_ 31 (d := hd__law_board) rfl
  obtain ⟨fd__law_order, D__law_order⟩ := c.def_ 32 (d := hd__law_order) rfl
  obtain ⟨fd_is_wall_value, D_is_wall_value⟩ := c.def_ 33 (d := hd_is_wall_value) rfl
  obtain ⟨fd_need_set, D_need_set⟩ := c.def_ 34 (d := hd_need_set) rfl
  obtain ⟨fd_is_cord_value, D_is_cord_value⟩ := c.def_ 35 (d := hd_is_cord_value) rfl
  obtain ⟨fd_Sliding_do, D_Sliding_do⟩ := c.def_ 36 (d := hd_Sliding_do) rfl
  obtain ⟨fd_is_order, D_is_order⟩ := c.def_ 37 (d := hd_is_order) rfl
  obtain ⟨fd_need_wall, D_need_wall⟩ := c.def_ 38 (d := hd_need_wall) rfl
  obtain ⟨fd_need_cord, D_need_cord⟩ := c.def_ 39 (d := hd_need_cord) rfl
  obtain ⟨fd_Sliding_turn_if_due, D_Sliding_turn_if_due⟩ := c.def_ 40 (d := hd_Sliding_turn_if_due) rfl
  obtain ⟨fd_Sliding_join_with, D_Sliding_join_with⟩ := c.def_ 41 (d := hd_Sliding_join_with) rfl
  obtain ⟨fd_is_cord, D_is_cord⟩ := c.def_ 42 (d := hd_is_cord) rfl
  obtain ⟨fd_need_one, D_need_one⟩ := c.def_ 43 (d := hd_need_one) rfl
  obtain ⟨fd_need_two, D_need_two⟩ := c.def_ 44 (d := hd_need_two) rfl
  obtain ⟨fd_need_all, D_need_all⟩ := c.def_ 45 (d := hd_need_all) rfl
  obtain ⟨fd_nest, D_nest⟩ := c.def_ 46 (d := hd_nest) rfl
  obtain ⟨fd_Sliding_reduce, D_Sliding_reduce⟩ := c.def_ 47 (d := hd_Sliding_reduce) rfl
  obtain ⟨fd_back, D_back⟩ := c.def_ 48 (d := hd_back) rfl
  obtain ⟨fd_behind, D_behind⟩ := c.def_ 49 (d := hd_behind) rfl
  obtain ⟨fd_swap, D_swap⟩ := c.def_ 50 (d := hd_swap) rfl
  obtain ⟨fd_led, D_led⟩ := c.def_ 51 (d := hd_led) rfl
  obtain ⟨fd_reduced, D_reduced⟩ := c.def_ 52 (d := hd_reduced) rfl
  obtain ⟨fd_does_keep_raw, D_does_keep_raw⟩ := c.def_ 53 (d := hd_does_keep_raw) rfl
  obtain ⟨fd_rule_by_cord, D_rule_by_cord⟩ := c.def_ 54 (d := hd_rule_by_cord) rfl
  obtain ⟨fd_does_keep, D_does_keep⟩ := c.def_ 55 (d := hd_does_keep) rfl
  obtain ⟨fd_rule_of, D_rule_of⟩ := c.def_ 56 (d := hd_rule_of) rfl
  obtain ⟨fd__law_is_told_right, D__law_is_told_right⟩ := c.def_ 57 (d := hd__law_is_told_right) rfl
  obtain ⟨fd_law, D_law⟩ := c.def_ 58 (d := hd_law) rfl
  obtain ⟨t_MOST_PEGS, c_MOST_PEGS⟩ := He.int_ok X G (c.fact 69 (f := .int "MOST_PEGS" 10) rfl)
  obtain ⟨t_MOST_SLIP, c_MOST_SLIP⟩ := He.int_ok X G (c.fact 70 (f := .int "MOST_SLIP" 30) rfl)
  have T : Tx w K mg := {
    z := ()
    a_is_whole := _
    fd_is_whole := fd_is_whole
    d_is_whole := D_is_whole
    g_is_whole := He.glo_ok X G (c.fact 0 (f := .glo "is_whole") rfl)
    a_do_ascend := _
    fd_do_ascend := fd_do_ascend
    d_do_ascend := D_do_ascend
    g_do_ascend := He.glo_ok X G (c.fact 1 (f := .glo "do_ascend") rfl)
    a_many_of := _
    fd_many_of := fd_many_of
    d_many_of := D_many_of
    g_many_of := He.glo_ok X G (c.fact 2 (f := .glo "many_of") rfl)
    a_slip_of := _
    fd_slip_of := fd_slip_of
    d_slip_of := D_slip_of
    g_slip_of := He.glo_ok X G (c.fact 3 (f := .glo "slip_of") rfl)
    a_has_rail := _
    fd_has_rail := fd_has_rail
    d_has_rail := D_has_rail
    g_has_rail := He.glo_ok X G (c.fact 4 (f := .glo "has_rail") rfl)
    a_is_within := _
    fd_is_within := fd_is_within
    d_is_within := D_is_within
    g_is_within := He.glo_ok X G (c.fact 5 (f := .glo "is_within") rfl)
    a_back_of := _
    fd_back_of := fd_back_of
    d_back_of := D_back_of
    g_back_of := He.glo_ok X G (c.fact 6 (f := .glo "back_of") rfl)
    a_on_set := _
    fd_on_set := fd_on_set
    d_on_set := D_on_set
    g_on_set := He.glo_ok X G (c.fact 7 (f := .glo "on_set") rfl)
    a_Sliding___init__ := He.ma K (He.ga K "Sliding") "__init__"
    fd_Sliding___init__ := fd_Sliding___init__
    d_Sliding___init__ := D_Sliding___init__
    a_all_sets := _
    fd_all_sets := fd_all_sets
    d_all_sets := D_all_sets
    g_all_sets := He.glo_ok X G (c.fact 8 (f := .glo "all_sets") rfl)
    a__law_deck := _
    fd__law_deck := fd__law_deck
    d__law_deck := D__law_deck
    g__law_deck := He.glo_ok X G (c.fact 9 (f := .glo "_law_deck") rfl)
    a__law_draw := _
    fd__law_draw := fd__law_draw
    d__law_draw := D__law_draw
    g__law_draw := He.glo_ok X G (c.fact 10 (f := .glo "_law_draw") rfl)
    a__law_web := _
    fd__law_web := fd__law_web
    d__law_web := D__law_web
    g__law_web := He.glo_ok X G (c.fact 11 (f := .glo "_law_web") rfl)
    a__law_keeps := _
    fd__law_keeps := fd__law_keeps
    d__law_keeps := D__law_keeps
    g__law_keeps := He.glo_ok X G (c.fact 12 (f := .glo "_law_keeps") rfl)
    a__law_back := _
    fd__law_back := fd__law_back
    d__law_back := D__law_back
    g__law_back := He.glo_ok X G (c.fact 13 (f := .glo "_law_back") rfl)
    a__law_same := _
    fd__law_same := fd__law_same
    d__law_same := D__law_same
    g__law_same := He.glo_ok X G (c.fact 14 (f := .glo "_law_same") rfl)
    a_is_between := _
    fd_is_between := fd_is_between
    d_is_between := D_is_between
    g_is_between := He.glo_ok X G (c.fact 15 (f := .glo "is_between") rfl)
    a_swap_of := _
    fd_swap_of := fd_swap_of
    d_swap_of := D_swap_of
    g_swap_of := He.glo_ok X G (c.fact 16 (f := .glo "swap_of") rfl)
    a_Sliding_place_to_join := He.ma K (He.ga K "Sliding") "place_to_join"
    fd_Sliding_place_to_join := fd_Sliding_place_to_join
    d_Sliding_place_to_join := D_Sliding_place_to_join
    a_free_places := _
    fd_free_places := fd_free_places
    d_free_places := D_free_places
    g_free_places := He.glo_ok X G (c.fact 17 (f := .glo "free_places") rfl)
    a_does_rule_keep := _
    fd_does_rule_keep := fd_does_rule_keep
    d_does_rule_keep := D_does_rule_keep
    g_does_rule_keep := He.glo_ok X G (c.fact 18 (f := .glo "does_rule_keep") rfl)
    a__law_pick := _
    fd__law_pick := fd__law_pick
    d__law_pick := D__law_pick
    g__law_pick := He.glo_ok X G (c.fact 19 (f := .glo "_law_pick") rfl)
    a__law_nest := _
    fd__law_nest := fd__law_nest
    d__law_nest := D__law_nest
    g__law_nest := He.glo_ok X G (c.fact 20 (f := .glo "_law_nest") rfl)
    a_is_slip := _
    fd_is_slip := fd_is_slip
    d_is_slip := D_is_slip
    g_is_slip := He.glo_ok X G (c.fact 21 (f := .glo "is_slip") rfl)
    a_is_rail := _
    fd_is_rail := fd_is_rail
    d_is_rail := D_is_rail
    g_is_rail := He.glo_ok X G (c.fact 22 (f := .glo "is_rail") rfl)
    a_is_set_value := _
    fd_is_set_value := fd_is_set_value
    d_is_set_value := D_is_set_value
    g_is_set_value := He.glo_ok X G (c.fact 23 (f := .glo "is_set_value") rfl)
    a_is_pair := _
    fd_is_pair := fd_is_pair
    d_is_pair := D_is_pair
    g_is_pair := He.glo_ok X G (c.fact 24 (f := .glo "is_pair") rfl)
    a_slid_by := _
    fd_slid_by := fd_slid_by
    d_slid_by := D_slid_by
    g_slid_by := He.glo_ok X G (c.fact 25 (f := .glo "slid_by") rfl)
    a_arranged := _
    fd_arranged := fd_arranged
    d_arranged := D_arranged
    g_arranged := He.glo_ok X G (c.fact 26 (f := .glo "arranged") rfl)
    a_nest_of := _
    fd_nest_of := fd_nest_of
    d_nest_of := D_nest_of
    g_nest_of := He.glo_ok X G (c.fact 27 (f := .glo "nest_of") rfl)
    a_are_pulls := _
    fd_are_pulls := fd_are_pulls
    d_are_pulls := D_are_pulls
    g_are_pulls := He.glo_ok X G (c.fact 28 (f := .glo "are_pulls") rfl)
    a__law_board := _
    fd__law_board := fd__law_board
    d__law_board := D__law_board
    g__law_board := He.glo_ok X G (c.fact 29 (f := .glo "_law_board") rfl)
    a__law_order := _
    fd__law_order := fd__law_order
    d__law_order := D__law_order
    g__law_order := He.glo_ok X G (c.fact 30 (f := .glo "_law_order") rfl)
    a_is_wall_value := _
    fd_is_wall_value := fd_is_wall_value
    d_is_wall_value := D_is_wall_value
    g_is_wall_value := He.glo_ok X G (c.fact 31 (f := .glo "is_wall_value") rfl)
    a_need_set := _
    fd_need_set := fd_need_set
    d_need_set := D_need_set
    g_need_set := He.glo_ok X G (c.fact 32 (f := .glo "need_set") rfl)
    a_is_cord_value := _
    fd_is_cord_value := fd_is_cord_value
    d_is_cord_value := D_is_cord_value
    g_is_cord_value := He.glo_ok X G (c.fact 33 (f := .glo "is_cord_value") rfl)
    a_Sliding_do := He.ma K (He.ga K "Sliding") "do"
    fd_Sliding_do := fd_Sliding_do
    d_Sliding_do := D_Sliding_do
    a_is_order := _
    fd_is_order := fd_is_order
    d_is_order := D_is_order
    g_is_order := He.glo_ok X G (c.fact 34 (f := .glo "is_order") rfl)
    a_need_wall := _
    fd_need_wall := fd_need_wall
    d_need_wall := D_need_wall
    g_need_wall := He.glo_ok X G (c.fact 35 (f := .glo "need_wall") rfl)
    a_need_cord := _
    fd_need_cord := fd_need_cord
    d_need_cord := D_need_cord
    g_need_cord := He.glo_ok X G (c.fact 36 (f := .glo "need_cord") rfl)
    a_Sliding_turn_if_due := He.ma K (He.ga K "Sliding") "turn_if_due"
    fd_Sliding_turn_if_due := fd_Sliding_turn_if_due
    d_Sliding_turn_if_due := D_Sliding_turn_if_due
    a_Sliding_join_with := He.ma K (He.ga K "Sliding") "join_with"
    fd_Sliding_join_with := fd_Sliding_join_with
    d_Sliding_join_with := D_Sliding_join_with
    a_is_cord := _
    fd_is_cord := fd_is_cord
    d_is_cord := D_is_cord
    g_is_cord := He.glo_ok X G (c.fact 37 (f := .glo "is_cord") rfl)
    a_need_one := _
    fd_need_one := fd_need_one
    d_need_one := D_need_one
    g_need_one := He.glo_ok X G (c.fact 38 (f := .glo "need_one") rfl)
    a_need_two := _
    fd_need_two := fd_need_two
    d_need_two := D_need_two
    g_need_two := He.glo_ok X G (c.fact 39 (f := .glo "need_two") rfl)
    a_need_all := _
    fd_need_all := fd_need_all
    d_need_all := D_need_all
    g_need_all := He.glo_ok X G (c.fact 40 (f := .glo "need_all") rfl)
    a_nest := _
    fd_nest := fd_nest
    d_nest := D_nest
    g_nest := He.glo_ok X G (c.fact 41 (f := .glo "nest") rfl)
    a_Sliding_reduce := He.ma K (He.ga K "Sliding") "reduce"
    fd_Sliding_reduce := fd_Sliding_reduce
    d_Sliding_reduce := D_Sliding_reduce
    a_back := _
    fd_back := fd_back
    d_back := D_back
    g_back := He.glo_ok X G (c.fact 42 (f := .glo "back") rfl)
    a_behind := _
    fd_behind := fd_behind
    d_behind := D_behind
    g_behind := He.glo_ok X G (c.fact 43 (f := .glo "behind") rfl)
    a_swap := _
    fd_swap := fd_swap
    d_swap := D_swap
    g_swap := He.glo_ok X G (c.fact 44 (f := .glo "swap") rfl)
    a_led := _
    fd_led := fd_led
    d_led := D_led
    g_led := He.glo_ok X G (c.fact 45 (f := .glo "led") rfl)
    a_reduced := _
    fd_reduced := fd_reduced
    d_reduced := D_reduced
    g_reduced := He.glo_ok X G (c.fact 46 (f := .glo "reduced") rfl)
    a_does_keep_raw := _
    fd_does_keep_raw := fd_does_keep_raw
    d_does_keep_raw := D_does_keep_raw
    g_does_keep_raw := He.glo_ok X G (c.fact 47 (f := .glo "does_keep_raw") rfl)
    a_rule_by_cord := _
    fd_rule_by_cord := fd_rule_by_cord
    d_rule_by_cord := D_rule_by_cord
    g_rule_by_cord := He.glo_ok X G (c.fact 48 (f := .glo "rule_by_cord") rfl)
    a_does_keep := _
    fd_does_keep := fd_does_keep
    d_does_keep := D_does_keep
    g_does_keep := He.glo_ok X G (c.fact 49 (f := .glo "does_keep") rfl)
    a_rule_of := _
    fd_rule_of := fd_rule_of
    d_rule_of := D_rule_of
    g_rule_of := He.glo_ok X G (c.fact 50 (f := .glo "rule_of") rfl)
    a__law_is_told_right := _
    fd__law_is_told_right := fd__law_is_told_right
    d__law_is_told_right := D__law_is_told_right
    g__law_is_told_right := He.glo_ok X G (c.fact 51 (f := .glo "_law_is_told_right") rfl)
    a_law := _
    fd_law := fd_law
    d_law := D_law
    g_law := He.glo_ok X G (c.fact 52 (f := .glo "law") rfl)
    n_all := He.free_ok X G (c.fact 53 (f := .free "all") rfl)
    n_any := He.free_ok X G (c.fact 54 (f := .free "any") rfl)
    n_bool := He.free_ok X G (c.fact 55 (f := .free "bool") rfl)
    n_enumerate := He.free_ok X G (c.fact 56 (f := .free "enumerate") rfl)
    n_int := He.free_ok X G (c.fact 57 (f := .free "int") rfl)
    n_isinstance := He.free_ok X G (c.fact 58 (f := .free "isinstance") rfl)
    n_len := He.free_ok X G (c.fact 59 (f := .free "len") rfl)
    n_list := He.free_ok X G (c.fact 60 (f := .free "list") rfl)
    n_max := He.free_ok X G (c.fact 61 (f := .free "max") rfl)
    n_min := He.free_ok X G (c.fact 62 (f := .free "min") rfl)
    n_range := He.free_ok X G (c.fact 63 (f := .free "range") rfl)
    n_repr := He.free_ok X G (c.fact 64 (f := .free "repr") rfl)
    n_set := He.free_ok X G (c.fact 65 (f := .free "set") rfl)
    n_sorted := He.free_ok X G (c.fact 66 (f := .free "sorted") rfl)
    n_tuple := He.free_ok X G (c.fact 67 (f := .free "tuple") rfl)
    n_zip := He.free_ok X G (c.fact 68 (f := .free "zip") rfl)
    cl_Sliding := He.cls_ok (c.fact 71 (f := .cls "Sliding") rfl)
    na_Sliding_cord := He.noat_ok (c.fact 72 (f := .noat "Sliding" "cord") rfl)
    na_Sliding_slides := He.noat_ok (c.fact 73 (f := .noat "Sliding" "slides") rfl)
    na_Sliding_wall := He.noat_ok (c.fact 74 (f := .noat "Sliding" "wall") rfl)
    me_Sliding_do := He.meth_ok (c.fact 75 (f := .meth "Sliding" "do") rfl)
    me_Sliding_join_with := He.meth_ok (c.fact 76 (f := .meth "Sliding" "join_with") rfl)
    me_Sliding_place_to_join := He.meth_ok (c.fact 77 (f := .meth "Sliding" "place_to_join") rfl)
    me_Sliding_reduce := He.meth_ok (c.fact 78 (f := .meth "Sliding" "reduce") rfl)
    me_Sliding_turn_if_due := He.meth_ok (c.fact 79 (f := .meth "Sliding" "turn_if_due") rfl)
    mk_Sliding := He.mkr_ok (c.fact 80 (f := .mkr "Sliding") rfl)
    gc_Sliding := He.glo_ok X G (c.fact 81 (f := .glo "Sliding") rfl)
    t_MOST_PEGS := t_MOST_PEGS
    c_MOST_PEGS := c_MOST_PEGS
    t_MOST_SLIP := t_MOST_SLIP
    c_MOST_SLIP := c_MOST_SLIP
    y_combinations := PySem.W.mg_of X G (He.eqO_ok ((Bool.and_eq_true_iff.mp cx).1)) }
  have e := hfa1.symm.trans T.g_law
  cases e
  exact ⟨T.fd_law, fun s v => T.d_law.bindsA (ps := ["script"]) (fun _ _ _ _ _ _ us hl => match us, hl with | [_], _ => rfl) s [v] rfl, fun base _ _ tb => ok_law T⟩
end Lk34
open PySem PySem.W PySem.Calls PyProof.Rows
theorem PySem.Challenge.cw_pulledpegs_k34_nests_pair_by_pair_holds : PySem.Challenge.rw_pulledpegs_k34_nests_pair_by_pair.Holds := by
  refine Lk34.hd0 ?hc
  refine DvL.walk_ofGT (l := PySem.Challenge.rw_pulledpegs_k34_nests_pair_by_pair) (n := 63) (k := 13) (x := "script") rfl (by decide) rfl ⟨rfl, by decide, by decide⟩ ?F
  intro w mg fa h Y G hmg0
  obtain ⟨K, KX, c⟩ := Y
  obtain ⟨fd, hb, hF⟩ := Lk34.facts (P := (PySem.Challenge.rw_pulledpegs_k34_nests_pair_by_pair).prog) (w := w) KX G hmg0 c.t.d c.more c.hd
  exact ⟨K, fd, Dv.spD K 1 Lk34.F_law, Lk34.htf.map (He.cT K), KX, fun p hp => (List.mem_map.mp hp).elim fun q hq => hq.2 ▸ c.empty q hq.1, fun p hp => (List.mem_map.mp hp).elim fun q hq => hq.2 ▸ c.out q hq.1, fun p hp => (List.mem_map.mp hp).elim fun q hq => hq.2 ▸ c.hd q hq.1, hb, fun H a ns hl hT hS => Dv.sp_law (Lk34.law_true ns hl) hS (Bool.and_eq_true_iff.mp c.more).2, hF⟩
