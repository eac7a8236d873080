import PyProof.Rows.All
import Wide.All
import OpenK.AllK
import Wide.FinOn
import KE.KStateDown
import Lean
import HandS.ForMost
import HandS.Walk
import HandS.Wide
import HandS.Style
import HandS.Flow
import HandS.IsInst
import HandS.More
import HandS.Defaults
import HandS.Head0
import HandS.Head1
import HandS.Head2
import HandS.HeadEnd
import HandS.HeadHook1
import HandS.HeadHook2
import PySem.Challenge.RW_neverrounds_k01_names
set_option Elab.async false
set_option linter.all false
set_option maxRecDepth 100000
set_option maxHeartbeats 4000000
/-! ### own words over the layer: readings that simp can run -/
namespace Com
open PySem L2
section
variable {X : Cx}
theorem pe_mono {e : Expr} {t t' : TE} (h : PE X e t) (hm : ∀ σ H Q, t' σ H Q → t σ H Q) : PE X e t' := ⟨fun pins s σ H Q I hw => h.run pins s σ H Q I (hm σ H Q hw)⟩
theorem op_mono {f : Value → Value → Sem Value} {r r' : R2} (h : OpR X f r) (hm : ∀ x y H Q, r' x y H Q → r x y H Q) : OpR X f r' := fun pins s σ H x y v u Q I rx ry hq => h pins s σ H x y v u Q I rx ry (hm x y H Q hq)
theorem ix_mono {r r' : R2} (h : IxR X r) (hm : ∀ x y H Q, r' x y H Q → r x y H Q) : IxR X r' := fun va sl pins s σ H x y v u Q I rx ry hq e => h va sl pins s σ H x y v u Q I rx ry (hm x y H Q hq) e
theorem call_mono {f : Value} {r r' : List V → Hp → VK → Prop} (h : CallR X f r) (hm : ∀ xs H Q, r' xs H Q → r xs H Q) : CallR X f r' := fun pins s σ H xs us Q I rx hq => h pins s σ H xs us Q I rx (hm xs H Q hq)
/-- the items of a tracked list, of a tracked tuple -/
def lstOf : Option HO → Option (List V)
  | some (.lst xs) => some xs
  | _ => none
def tupOf : Option HO → Option (List V)
  | some (.tup xs) => some xs
  | _ => none
def seqOf : Option HO → Option (List V)
  | some (.lst xs) => some xs
  | some (.tup xs) => some xs
  | _ => none
theorem of_lstOf {o : Option HO} {xs : List V} (h : lstOf o = some xs) : o = some (.lst xs) := by
  cases o with
  | none => cases h
  | some u => cases u <;> simp [lstOf] at h ⊢ <;> exact h
theorem of_tupOf {o : Option HO} {xs : List V} (h : tupOf o = some xs) : o = some (.tup xs) := by
  cases o with
  | none => cases h
  | some u => cases u <;> simp [tupOf] at h ⊢ <;> exact h
theorem of_seqOf {o : Option HO} {xs : List V} (h : seqOf o = some xs) : o = some (.lst xs) ∨ o = some (.tup xs) := by
  cases o with
  | none => cases h
  | some u => cases u <;> simp [seqOf] at h ⊢ <;> exact h
def rIxl : R2 := fun x y H Q => ∃ p i xs v, x = .ref p ∧ y = .int i ∧ lstOf (H p) = some xs ∧ atI xs i = some v ∧ Q v H
def rIxt : R2 := fun x y H Q => ∃ p i xs v, x = .ref p ∧ y = .int i ∧ tupOf (H p) = some xs ∧ atI xs i = some v ∧ Q v H
theorem qix_list : IxR X rIxl := ix_mono ix_list fun x y H Q ⟨p, i, xs, v, a, b, c, d, q⟩ => ⟨p, xs, i, v, a, b, SqL.of (of_lstOf c), d, q⟩
theorem qix_tup : IxR X rIxt := ix_mono ix_tup fun x y H Q ⟨p, i, xs, v, a, b, c, d, q⟩ => ⟨p, xs, i, v, a, b, SqT.of (of_tupOf c), d, q⟩
def rLenq : List V → Hp → VK → Prop := fun vs H Q => ∃ p xs, vs = [.ref p] ∧ seqOf (H p) = some xs ∧ Q (.int xs.length) H
theorem qlen : CallR X (.builtin "len") rLenq := call_mono call_len_seq fun vs H Q ⟨p, xs, a, b, q⟩ => ⟨p, xs, a, (of_seqOf b).elim (fun z => .inl (SqL.of z)) (fun z => .inr (SqT.of z)), q⟩
def rListq : List V → Hp → VK → Prop := fun vs H Q => ∃ p xs, vs = [.ref p] ∧ seqOf (H p) = some xs ∧ ∀ l, H l = none → Q (.ref l) (upd H l (.lst xs))
theorem qlist : CallR X (.type "list") rListq := call_mono call_list_of fun vs H Q ⟨p, xs, a, b, q⟩ => ⟨p, xs, a, (of_seqOf b).elim (fun z => .inl (SqL.of z)) (fun z => .inr (SqT.of z)), q⟩
def rInt1 : List V → Hp → VK → Prop := fun vs H Q => ∃ i, vs = [.int i] ∧ Q (.int i) H
theorem qint : CallR X (.type "int") rInt1 := call_mono call_int1 fun vs H Q ⟨i, a, q⟩ => .inl ⟨i, a, q⟩
end
/-- how an if goes on: kept shut, so that simp stops here -/
def Ifk (c : Bool) (A B : St → Hp → Prop) (σ : St) (H : Hp) : Prop := if c = true then A σ H else B σ H
theorem ifk {c : Bool} {A B : St → Hp → Prop} {σ : St} {H : Hp} (h1 : c = true → A σ H) (h2 : c = false → B σ H) : Ifk c A B σ H := by
  cases c with
  | true => exact h1 rfl
  | false => exact h2 rfl
/-- how and, or go on -/
def Andk (c : Bool) (u : TT) (σ : St) (H : Hp) (Q : Bool → Hp → Prop) : Prop := if c = true then u σ H Q else Q false H
def Ork (c : Bool) (u : TT) (σ : St) (H : Hp) (Q : Bool → Hp → Prop) : Prop := if c = true then Q true H else u σ H Q
def AndVk (c : Bool) (u : TE) (σ : St) (H : Hp) (Q : VK) : Prop := if c = true then u σ H Q else Q (.bl false) H
def OrVk (c : Bool) (u : TE) (σ : St) (H : Hp) (Q : VK) : Prop := if c = true then Q (.bl true) H else u σ H Q
def IfEk (c : Bool) (a b : TE) (σ : St) (H : Hp) (Q : VK) : Prop := if c = true then a σ H Q else b σ H Q
def Chk (c : Bool) (tc : TE) (r : V → Hp → VK → Prop) (σ : St) (H : Hp) (Q : VK) : Prop := if c = true then tc σ H (fun w H4 => r w H4 Q) else Q (.bl false) H
theorem andk {c : Bool} {u : TT} {σ : St} {H : Hp} {Q : Bool → Hp → Prop} (h1 : c = true → u σ H Q) (h2 : c = false → Q false H) : Andk c u σ H Q := by
  cases c with
  | true => exact h1 rfl
  | false => exact h2 rfl
theorem ork {c : Bool} {u : TT} {σ : St} {H : Hp} {Q : Bool → Hp → Prop} (h1 : c = true → Q true H) (h2 : c = false → u σ H Q) : Ork c u σ H Q := by
  cases c with
  | true => exact h1 rfl
  | false => exact h2 rfl
theorem andVk {c : Bool} {u : TE} {σ : St} {H : Hp} {Q : VK} (h1 : c = true → u σ H Q) (h2 : c = false → Q (.bl false) H) : AndVk c u σ H Q := by
  cases c with
  | true => exact h1 rfl
  | false => exact h2 rfl
theorem orVk {c : Bool} {u : TE} {σ : St} {H : Hp} {Q : VK} (h1 : c = true → Q (.bl true) H) (h2 : c = false → u σ H Q) : OrVk c u σ H Q := by
  cases c with
  | true => exact h1 rfl
  | false => exact h2 rfl
theorem ifEk {c : Bool} {a b : TE} {σ : St} {H : Hp} {Q : VK} (h1 : c = true → a σ H Q) (h2 : c = false → b σ H Q) : IfEk c a b σ H Q := by
  cases c with
  | true => exact h1 rfl
  | false => exact h2 rfl
theorem chk {c : Bool} {tc : TE} {r : V → Hp → VK → Prop} {σ : St} {H : Hp} {Q : VK} (h1 : c = true → tc σ H (fun w H4 => r w H4 Q)) (h2 : c = false → Q (.bl false) H) : Chk c tc r σ H Q := by
  cases c with
  | true => exact h1 rfl
  | false => exact h2 rfl
/-- a new object -/
def New (H : Hp) (o : HO) (k : Addr → Hp → Prop) : Prop := ∀ p, H p = none → k p (upd H p o)
/-! ### promises by the number of arguments -/
def Sp0 (P : Hp → VK → XK → Prop) : Sp := fun vs H Q E => vs = [] ∧ P H Q E
def Sp1 (P : V → Hp → VK → XK → Prop) : Sp := fun vs H Q E => ∃ a, vs = [a] ∧ P a H Q E
def Sp2 (P : V → V → Hp → VK → XK → Prop) : Sp := fun vs H Q E => ∃ a b, vs = [a, b] ∧ P a b H Q E
def Sp3 (P : V → V → V → Hp → VK → XK → Prop) : Sp := fun vs H Q E => ∃ a b c, vs = [a, b, c] ∧ P a b c H Q E
def Sp4 (P : V → V → V → V → Hp → VK → XK → Prop) : Sp := fun vs H Q E => ∃ a b c d, vs = [a, b, c, d] ∧ P a b c d H Q E
def Sp5 (P : V → V → V → V → V → Hp → VK → XK → Prop) : Sp := fun vs H Q E => ∃ a b c d e, vs = [a, b, c, d, e] ∧ P a b c d e H Q E
/-- a truth value, a number asked of a value -/
def BlK (x : V) (Q : Bool → Prop) : Prop := ∃ k, x = .bl k ∧ Q k
def IntK (x : V) (Q : Int → Prop) : Prop := ∃ k, x = .int k ∧ Q k
def StrK (x : V) (Q : Str → Prop) : Prop := ∃ k, x = .str k ∧ Q k
theorem dec_int (i j : Int) : decide (V.int i = V.int j) = decide (i = j) := by simp
theorem dec_str (i j : Str) : decide (V.str i = V.str j) = decide (i = j) := by simp
theorem dec_bl (i j : Bool) : decide (V.bl i = V.bl j) = decide (i = j) := by simp
theorem pg_mono {X : Cx} {tg : Expr} {g g' : TG} (h : PG X tg g) (hm : ∀ v σ H Q, g' v σ H Q → g v σ H Q) : PG X tg g' := ⟨fun pins s σ H v u Q I r hq => h.run pins s σ H v u Q I r (hm v σ H Q hq)⟩
/-- a, b = a tracked tuple -/
def gTupq (n : Nat) (t : TGs) : TG := fun v σ H Q => ∃ a xs, v = .ref a ∧ tupOf (H a) = some xs ∧ xs.length = n ∧ t xs σ H Q
theorem qg_tup {X : Cx} {es : List Expr} {k : Nat} {t : TGs} {n : Nat} {pos : Pos} (hc : X.calm = true) (h : PGs X es t)
    (hn : (assignEach es X.env).length = n := by rfl) (hst : (assignEach es X.env).findIdx? (·.1) = none := by rfl) : PG X (.Tuple es k pos) (gTupq n t) :=
  pg_mono (pg_tup hc h hn hst) fun _ _ _ _ ⟨a, xs, e1, e2, e3, q⟩ => ⟨a, xs, e1, SqT.of (of_tupOf e2), e3, q⟩
/-- a loop that is about to begin -/
def LoopK (J : It) (g : TG) (tb : TS) (D : Ends) (σ : St) (H : Hp) : Prop :=
  ∃ W : Nat → Nat → St → Hp → Prop, (∃ m, W 0 m σ H) ∧ ∀ i m σ H, W i m σ H → (J.stop i H ∧ D.nx σ H) ∨
    (J.go i H ∧ ∃ N : St → Hp → Prop, (∀ s2 H', N s2 H' → ∃ m', m' < m ∧ W (i + 1) m' s2 H') ∧ ∀ x H', J.yld i H x H' → g x σ H' fun s3 H2 => tb { D with nx := N, ct := N, bk := D.nx } s3 H2)
def ListK (K : PySem.W.Frag) (x : V) (H : Hp) (R : It → Hp → Prop) : Prop := ∃ a, x = .ref a ∧ (∃ xs, SqL K H a xs) ∧ R (Itl K a) H
theorem loopL {K : PySem.W.Frag} {a : Addr} {g : TG} {tb : TS} {D : Ends} {σ : St} {H : Hp} (xs : List V) (Pv : Nat → St → Hp → Prop) (h0 : Pv 0 σ H) (hl : ∀ i σ H, Pv i σ H → H a = some (.lst xs))
    (hs : ∀ i x σ H, i < xs.length → xs[i]? = some x → Pv i σ H → g x σ H (tb ⟨Pv (i + 1), D.rt, D.nx, Pv (i + 1)⟩)) (hd : ∀ σ H, Pv xs.length σ H → D.nx σ H) : LoopK (Itl K a) g tb D σ H :=
  for_it (walk_list (xs := xs)) Pv h0 (fun i σ H _ p => SqL.of (hl i σ H p)) (fun i x σ H H' hi p y => by obtain ⟨rfl, y⟩ := y; exact hs i x σ _ hi y p) hd
theorem loopR {lo : Int} {n : Nat} {g : TG} {tb : TS} {D : Ends} {σ : St} {H : Hp} (Pv : Nat → St → Hp → Prop) (h0 : Pv 0 σ H)
    (hs : ∀ (i : Nat) σ H, i < n → Pv i σ H → g (.int (lo + (i : Nat))) σ H (tb ⟨Pv (i + 1), D.rt, D.nx, Pv (i + 1)⟩)) (hd : ∀ σ H, Pv n σ H → D.nx σ H) : LoopK (Itr lo n) g tb D σ H :=
  for_it walk_range Pv h0 (fun _ _ _ _ _ => trivial) (fun i x σ H H' hi p y => by obtain ⟨rfl, rfl⟩ := y; exact hs i σ _ hi p) hd
theorem loopS {z : Str} {g : TG} {tb : TS} {D : Ends} {σ : St} {H : Hp} (Pv : Nat → St → Hp → Prop) (h0 : Pv 0 σ H)
    (hs : ∀ (i : Nat) c σ H, z.cps.toList[i]? = some c → Pv i σ H → g (.str ⟨#[c]⟩) σ H (tb ⟨Pv (i + 1), D.rt, D.nx, Pv (i + 1)⟩)) (hd : ∀ σ H, Pv z.length σ H → D.nx σ H) : LoopK (Its z) g tb D σ H :=
  for_it walk_str Pv h0 (fun _ _ _ _ _ => trivial) (fun i x σ H H' hi p y => by obtain ⟨rfl, c, hc, rfl⟩ := y; exact hs i c σ _ (by rw [Array.getElem?_toList]; exact hc) p) hd
/-- a comprehension that is about to begin -/
def LcK (J : It) (g : TG) (tt : TT) (te : TE) (vs : List Nat) (σ : St) (H1 : Hp) (Q : VK) : Prop := ∀ D, H1 D = none → ∃ W : Nat → Nat → Hp → Prop, (∃ m, W 0 m (upd H1 D (.lst []))) ∧ ∀ i m H, W i m H →
  (J.stop i H ∧ Q (.ref D) H) ∨ (J.go i H ∧ ∃ Nx : Hp → Prop, (∀ H', Nx H' → ∃ m', m' < m ∧ W (i + 1) m' H') ∧ ∀ x H', J.yld i H x H' → g x (wipe σ vs) H' fun s2 H2 => wipe s2 vs = wipe σ vs ∧ tt s2 H2 fun b H3 =>
    if b = true then te s2 H3 fun y H4 => ∃ acc, H4 D = some (.lst acc) ∧ acc.length < sizeLine ∧ Nx (upd H4 D (.lst (acc ++ [y]))) else Nx H3)
/-- a turn of a comprehension: the target is bound, then the test, the element, the list at D grows -/
def LcE (te : TE) (D : Addr) (N : Hp → Prop) (b : Bool) (s2 : St) (H3 : Hp) : Prop := if b = true then te s2 H3 (fun y H4 => ∃ acc, H4 D = some (.lst acc) ∧ acc.length < sizeLine ∧ N (upd H4 D (.lst (acc ++ [y])))) else N H3
def LcT (tt : TT) (te : TE) (vs : List Nat) (w0 : St) (D : Addr) (N : Hp → Prop) : St → Hp → Prop := fun s2 H2 => wipe s2 vs = w0 ∧ tt s2 H2 (fun b H3 => LcE te D N b s2 H3)
theorem lcL {K : PySem.W.Frag} {a : Addr} {g : TG} {tt : TT} {te : TE} {vs : List Nat} {σ : St} {H1 : Hp} {Q : VK} (xs : List V)
    (h : ∀ D, H1 D = none → ∃ Pv : Nat → Hp → Prop, Pv 0 (upd H1 D (.lst [])) ∧ (∀ i H, Pv i H → SqL K H a xs) ∧
      (∀ i x H, i < xs.length → xs[i]? = some x → Pv i H → g x (wipe σ vs) H (LcT tt te vs (wipe σ vs) D (Pv (i + 1)))) ∧ ∀ H, Pv xs.length H → Q (.ref D) H) : LcK (Itl K a) g tt te vs σ H1 Q := fun D hD => by
  obtain ⟨Pv, h0, hl, hs, hd⟩ := h D hD
  exact lc_it (walk_list (xs := xs)) Pv h0 (fun i H _ p => hl i H p) (fun i x H H' hi p y => by obtain ⟨rfl, y⟩ := y; exact hs i x _ hi y p) hd
theorem lcR {lo : Int} {n : Nat} {g : TG} {tt : TT} {te : TE} {vs : List Nat} {σ : St} {H1 : Hp} {Q : VK}
    (h : ∀ D, H1 D = none → ∃ Pv : Nat → Hp → Prop, Pv 0 (upd H1 D (.lst [])) ∧
      (∀ (i : Nat) H, i < n → Pv i H → g (.int (lo + (i : Nat))) (wipe σ vs) H (LcT tt te vs (wipe σ vs) D (Pv (i + 1)))) ∧ ∀ H, Pv n H → Q (.ref D) H) : LcK (Itr lo n) g tt te vs σ H1 Q := fun D hD => by
  obtain ⟨Pv, h0, hs, hd⟩ := h D hD
  exact lc_it walk_range Pv h0 (fun _ _ _ _ => trivial) (fun i x H H' hi p y => by obtain ⟨rfl, rfl⟩ := y; exact hs i _ hi p) hd
theorem lcS {z : Str} {g : TG} {tt : TT} {te : TE} {vs : List Nat} {σ : St} {H1 : Hp} {Q : VK}
    (h : ∀ D, H1 D = none → ∃ Pv : Nat → Hp → Prop, Pv 0 (upd H1 D (.lst [])) ∧
      (∀ (i : Nat) c H, z.cps.toList[i]? = some c → Pv i H → g (.str ⟨#[c]⟩) (wipe σ vs) H (LcT tt te vs (wipe σ vs) D (Pv (i + 1)))) ∧ ∀ H, Pv z.length H → Q (.ref D) H) : LcK (Its z) g tt te vs σ H1 Q := fun D hD => by
  obtain ⟨Pv, h0, hs, hd⟩ := h D hD
  exact lc_it walk_str Pv h0 (fun _ _ _ _ => trivial) (fun i x H H' hi p y => by obtain ⟨rfl, c, hc, rfl⟩ := y; exact hs i c _ (by rw [Array.getElem?_toList]; exact hc) p) hd
def LcP (D : Addr) (N : Hp → Prop) (y : V) (H4 : Hp) : Prop := ∃ acc, H4 D = some (.lst acc) ∧ acc.length < sizeLine ∧ N (upd H4 D (.lst (acc ++ [y])))
def ParK (i j : Nat) (vs : List V) (D : Ends) (σ : St) (H : Hp) : Prop := ∃ v w, vs = [v, w] ∧ D.nx ((σ.set i (some v)).set j (some w)) H
def Rng1K (vs : List V) (Q : Int → Prop) : Prop := ∃ j : Int, vs = [.int j] ∧ Q j
def Rng2K (vs : List V) (Q : Int → Int → Prop) : Prop := ∃ i j : Int, vs = [.int i, .int j] ∧ Q i j
def Setn (σ : St) (i : Nat) : St := σ.set i none
def rSlq : V → Option Int → Option Int → Hp → VK → Prop := fun x lo hi H Q => ∃ a xs, x = .ref a ∧ lstOf (H a) = some xs ∧ ∀ p, H p = none → Q (.ref p) (upd H p (.lst (cutV xs lo hi)))
theorem qsl_list {X : Cx} : L2.SlR X rSlq := fun pins s σ H x v vl vu lo hi sl Q I r h1 h2 h3 hq => by
  obtain ⟨a, xs, e1, e2, q⟩ := hq
  exact sl_list pins s σ H x v vl vu lo hi sl Q I r h1 h2 h3 ⟨a, xs, e1, SqL.of (of_lstOf e2), q⟩
/-- a statement whose ways come together: what holds behind it is said once -/
def tCut (t u : TS) : TS := fun D σ H => ∃ J : St → Hp → Prop, t { D with nx := J } σ H ∧ ∀ s2 H2, J s2 H2 → u D s2 H2
theorem pss_cutJ {X : Cx} {st : Stmt} {rest : List Stmt} {t u : TS} (h1 : PS X st t) (h2 : PSs X rest u) : PSs X (st :: rest) (tCut t u) := by
  refine ⟨fun pins s σ H D I h => ?_⟩
  obtain ⟨J, hJ, hu⟩ := h
  refine wpAny_execs_cons (thn (h1.run pins s σ H { D with nx := J } I hJ) fun f s1 q => ?_)
  cases f with
  | next =>
    obtain ⟨s2, H2, I2, q⟩ := q
    exact h2.run pins s1 s2 H2 D I2 (hu s2 H2 q)
  | ret v => exact q
  | brk => exact q
  | cont => exact q
/-! ### a def that keeps its promise, by name -/
structure Fn (P : Program) (w : World) (K : PySem.W.Frag) (mg : Str → Option Value) (base : Heap) (CX : CXT) (k : Nat) (x : Str) (ps : List Str) (sp : Sp) : Prop where
  ex : ∃ (f : Addr) (fd : FuncData), FnOk P w K mg base CX k f fd ps sp ∧ mg x = some (.ref f) ∧ PySem.W.keepIn K (.ref f) = true ∧ Binds K fd ps []
section
variable {X : Cx} {CX : CXT} {k : Nat} {x : Str} {ps : List Str} {sp : Sp} {E : XK} {p pos : Pos} {e : Expr} {es : List Expr} {t : TA}
theorem pcall (F : Fn X.prog X.w X.K X.mg X.base CX k x ps sp) (hr : Room k X.A) (hg : Gl X x) (hx : Passes CX X E) (ha : PA X (e :: es) t)
    (hdb : (x == ("__debug__" : Str)) = false := by decide) (he : starEach (e :: es) X.env = (false, eval e X.env) :: starEach es X.env := by rfl) (hpl : (backTo pos (starEach es X.env)).any (·.1) = false := by rfl) :
    PE X (.Call (.Name x p) (e :: es) [] pos) (tCall sp [] E t) := by
  obtain ⟨f, fd, F, hm, hk, hb⟩ := F.ex
  exact pe_call F hr hg hm hk hb .nil hx ha hdb he hpl
theorem pcall0 (F : Fn X.prog X.w X.K X.mg X.base CX k x ps sp) (hr : Room k X.A) (hg : Gl X x) (hx : Passes CX X E) (hdb : (x == ("__debug__" : Str)) = false := by decide) : PE X (.Call (.Name x p) [] [] pos) (tCall sp [] E tNil) := by
  obtain ⟨f, fd, F, hm, hk, hb⟩ := F.ex
  exact pe_call0 F hr hg hm hk hb .nil hx hdb
end
/-- a number, a text of the module's own -/
def CInt (mg : Str → Option Value) (x : Str) (i : Int) : Prop := ∃ t, mg x = some (.int i t)
def CStr (mg : Str → Option Value) (x z : Str) : Prop := ∃ t, mg x = some (.str z t)
theorem pcint {X : Cx} {x : Str} {i : Int} {pos : Pos} (h : CInt X.mg x i) (hg : Gl X x) (hd : (x == ("__debug__" : Str)) = false := by decide) : PE X (.Name x pos) (tC (.int i)) := by
  obtain ⟨t, e⟩ := h
  exact pe_glob hg e ⟨t, rfl⟩ hd
theorem pcstr {X : Cx} {x z : Str} {pos : Pos} (h : CStr X.mg x z) (hg : Gl X x) (hd : (x == ("__debug__" : Str)) = false := by decide) : PE X (.Name x pos) (tC (.str z)) := by
  obtain ⟨t, e⟩ := h
  exact pe_glob hg e ⟨t, rfl⟩ hd
end Com
/-! ### texts -/
namespace Com
open PySem L2
section
variable {X : Cx}
def rInSg : R2 := fun x y H Q => ∃ (c : Nat) (z : Str), x = .str ⟨#[c]⟩ ∧ y = .str z ∧ Q (.bl (decide (c ∈ z.cps.toList))) H
theorem qin_sign : OpR X (compareOp .In) rInSg := op_in_sign
def rNiSg : R2 := fun x y H Q => ∃ (c : Nat) (z : Str), x = .str ⟨#[c]⟩ ∧ y = .str z ∧ Q (.bl (!decide (c ∈ z.cps.toList))) H
theorem qnotin_sign : OpR X (compareOp .NotIn) rNiSg := op_notIn_sign
def rAddS : R2 := fun x y H Q => ∃ i j, x = .str i ∧ y = .str j ∧ i.length + j.length ≤ sizeLine ∧ Q (.str (i ++ j)) H
theorem qadd_str : OpR X (binaryOp .Add) rAddS := op_add_str
def rStC (p : List Nat → List Nat → Bool) : R2 := fun x y H Q => ∃ i j, x = .str i ∧ y = .str j ∧ Q (.bl (p i.cps.toList j.cps.toList)) H
theorem qle_str : OpR X (compareOp .LtE) (rStC fun a b => !decide (b < a)) := op_le_str
theorem qlt_str : OpR X (compareOp .Lt) (rStC fun a b => decide (a < b)) := op_lt_str
def rLenS : List V → Hp → VK → Prop := fun xs H Q => ∃ z, xs = [.str z] ∧ z.length ≤ sizeLine ∧ Q (.int z.length) H
theorem qlen_str : CallR X (.builtin "len") rLenS := call_len_str
def rMulS : R2 := fun x y H Q => ∃ z n, x = .str z ∧ y = .int n ∧ z.length ≤ 4000 ∧ -1000 ≤ n ∧ n ≤ 4000 ∧ ∀ r : Str, r.cps.toList = (List.replicate n.toNat z.cps.toList).flatten → Q (.str r) H
theorem foldl_app (a : Array Nat) : ∀ (n : Nat) (acc : Array Nat), ((List.replicate n a).foldl (· ++ ·) acc).toList = acc.toList ++ (List.replicate n a.toList).flatten
  | 0, acc => by simp
  | n + 1, acc => by
    rw [List.replicate_succ, List.foldl_cons, foldl_app a n, Array.toList_append, List.replicate_succ, List.flatten_cons, List.append_assoc]
theorem qmul_str : OpR X (binaryOp .Mult) rMulS := by
  intro pins s σ H x y v u Q I rx ry h
  obtain ⟨z, n, rfl, rfl, hz, n0, n1, q⟩ := h
  obtain ⟨t, rfl⟩ := rx
  obtain ⟨t', rfl⟩ := ry
  have key : n.toNat * z.length ≤ 16000000 := Nat.le_trans (Nat.mul_le_mul (show n.toNat ≤ 4000 by omega) hz) (by decide)
  refine PySem.P.mul_str ?_ (fun h1 h2 h3 => ?_) (fun h1 h2 => ?_) ?_
  · rw [decide_eq_false (by omega), decide_eq_false (by omega)]
    rfl
  · have e : (4000 : Int) ≤ (2 ^ 63 - 1) / n := by
      rw [Int.le_ediv_iff_mul_le (by omega)]
      omega
    omega
  · unfold PySem.Builtin.Str.tooLong
    rw [decide_eq_false]
    rw [sizeLine_eq]
    have := key
    rw [Nat.mul_comm] at this
    omega
  · by_cases c1 : n < 1
    · rw [if_pos c1]
      refine ⟨by decide, .str Str.empty, H, I.tok _, ⟨_, rfl⟩, q _ ?_⟩
      rw [show n.toNat = 0 by omega]
      rfl
    · rw [if_neg c1]
      by_cases c2 : (n == 1 || z.length == 0) = true
      · rw [if_pos c2]
        refine ⟨.str z, H, I, ⟨_, rfl⟩, q _ ?_⟩
        rcases Bool.or_eq_true_iff.mp c2 with c | c
        · rw [show n = 1 from eq_of_beq c]
          simp
        · have e0 : z.cps.toList = [] := by
            have : z.cps.size = 0 := eq_of_beq c
            rw [← List.length_eq_zero_iff, Array.length_toList]
            exact this
          rw [e0]
          simp
      · rw [if_neg c2]
        have el : (⟨(List.replicate n.toNat z.cps).foldl (· ++ ·) #[]⟩ : Str).cps.toList = (List.replicate n.toNat z.cps.toList).flatten := by
          rw [foldl_app]
          simp
        refine ⟨?_, .str _, H, I.tok _, ⟨_, rfl⟩, q _ el⟩
        show (((List.replicate n.toNat z.cps).foldl (· ++ ·) #[]).size) ≤ sizeLine
        rw [← Array.length_toList, show ((List.replicate n.toNat z.cps).foldl (· ++ ·) #[]).toList = (List.replicate n.toNat z.cps.toList).flatten from el, List.length_flatten, sizeLine_eq]
        simp only [List.map_replicate, List.sum_replicate_nat, Array.length_toList]
        exact Nat.le_trans key (by decide)
def rJoinS : V → List V → Hp → VK → Prop := fun x xs H Q => ∃ (a : Str) (p : Addr) (ys : List Str), x = .str a ∧ xs = [.ref p] ∧ H p = some (.lst (ys.map V.str)) ∧ (ys.map (·.length)).sum + ys.length * a.length ≤ 16777216 ∧ Q (.str (Str.join a ys)) H
theorem qmt_join : MtR X "str.join" rJoinS := fun pins s σ H x xs v us Q I rx rs hq => by
  obtain ⟨a, p, ys, e1, e2, e3, e4, q⟩ := hq
  exact mt_join pins s σ H x xs v us Q I rx rs ⟨a, p, ys, e1, e2, .inl (SqL.of e3), e4, by rw [TL.join_eq]; exact q⟩
end
end Com
namespace Com
open PySem L2
theorem w0 : ∀ (t u : TS) (D : Ends) (σ : St) (H : Hp), tSeq t u D σ H = t ⟨u D, D.rt, D.bk, D.ct⟩ σ H := fun _ _ _ _ _ => rfl
theorem w1 : ∀ (D : Ends) (σ : St) (H : Hp), tNext D σ H = D.nx σ H := fun _ _ _ => rfl
theorem w2 : ∀ (D : Ends) (σ : St) (H : Hp), tBreak D σ H = D.bk σ H := fun _ _ _ => rfl
theorem w3 : ∀ (D : Ends) (σ : St) (H : Hp), tCont D σ H = D.ct σ H := fun _ _ _ => rfl
theorem w4 : ∀ (v : V) (σ : St) (H : Hp) (Q : VK), tC v σ H Q = Q v H := fun _ _ _ _ => rfl
theorem w5 : ∀ (r : R2) (a b : TE) (σ : St) (H : Hp) (Q : VK), tOp r a b σ H Q = a σ H (fun x H1 => b σ H1 (fun y H2 => r x y H2 Q)) := fun _ _ _ _ _ _ => rfl
theorem w6 : ∀ (r : V → Hp → VK → Prop) (a : TE) (σ : St) (H : Hp) (Q : VK), tUn r a σ H Q = a σ H (fun x H1 => r x H1 Q) := fun _ _ _ _ _ => rfl
theorem w7 : ∀ (C : Int → Int → Prop) (g : Int → Int → V) (i j : Int) (H : Hp) (Q : VK), rI C g (.int i) (.int j) H Q = (C i j ∧ Q (g i j) H) := fun C g i j H Q => propext ⟨fun ⟨_, _, a, b, c, q⟩ => by cases a; cases b; exact ⟨c, q⟩, fun ⟨c, q⟩ => ⟨i, j, rfl, rfl, c, q⟩⟩
theorem w8 : ∀ (g : Int → Int → V) (i j : Int) (H : Hp) (Q : VK), rI0 g (.int i) (.int j) H Q = Q (g i j) H := fun g i j H Q => propext ⟨fun ⟨_, _, a, b, q⟩ => by cases a; cases b; exact q, fun q => ⟨i, j, rfl, rfl, q⟩⟩
theorem w9 : ∀ (g : Int → V) (i : Int) (H : Hp) (Q : VK), rU g (.int i) H Q = Q (g i) H := fun g i H Q => propext ⟨fun ⟨_, a, q⟩ => by cases a; exact q, fun q => ⟨i, rfl, q⟩⟩
theorem w10 : ∀ (i j : Int) (H : Hp) (Q : VK), rEq (.int i) (.int j) H Q = Q (.bl (decide (i = j))) H := fun i j H Q => propext ⟨fun ⟨_, q⟩ => (dec_int i j) ▸ q, fun q => ⟨rfl, (dec_int i j).symm ▸ q⟩⟩
theorem w11 : ∀ (i j : Str) (H : Hp) (Q : VK), rEq (.str i) (.str j) H Q = Q (.bl (decide (i = j))) H := fun i j H Q => propext ⟨fun ⟨_, q⟩ => (dec_str i j) ▸ q, fun q => ⟨rfl, (dec_str i j).symm ▸ q⟩⟩
theorem w12 : ∀ (i j : Bool) (H : Hp) (Q : VK), rEq (.bl i) (.bl j) H Q = Q (.bl (decide (i = j))) H := fun i j H Q => propext ⟨fun ⟨_, q⟩ => (dec_bl i j) ▸ q, fun q => ⟨rfl, (dec_bl i j).symm ▸ q⟩⟩
theorem w13 : ∀ (i j : Int) (H : Hp) (Q : VK), rNe (.int i) (.int j) H Q = Q (.bl (!decide (i = j))) H := fun i j H Q => propext ⟨fun ⟨_, q⟩ => (dec_int i j) ▸ q, fun q => ⟨rfl, (dec_int i j).symm ▸ q⟩⟩
theorem w14 : ∀ (i j : Str) (H : Hp) (Q : VK), rNe (.str i) (.str j) H Q = Q (.bl (!decide (i = j))) H := fun i j H Q => propext ⟨fun ⟨_, q⟩ => (dec_str i j) ▸ q, fun q => ⟨rfl, (dec_str i j).symm ▸ q⟩⟩
theorem w15 : ∀ (i j : Bool) (H : Hp) (Q : VK), rNe (.bl i) (.bl j) H Q = Q (.bl (!decide (i = j))) H := fun i j H Q => propext ⟨fun ⟨_, q⟩ => (dec_bl i j) ▸ q, fun q => ⟨rfl, (dec_bl i j).symm ▸ q⟩⟩
theorem w16 : ∀ (t : TE) (σ : St) (H : Hp) (Q : Bool → Hp → Prop), tTest t σ H Q = t σ H (fun x H1 => BlK x (fun k => Q k H1)) := fun _ _ _ _ => rfl
theorem w17 : ∀ (t : TE) (σ : St) (H : Hp) (Q : Bool → Hp → Prop), tB t σ H Q = t σ H (fun x H1 => BlK x (fun k => Q k H1)) := fun _ _ _ _ => rfl
theorem w18 : ∀ (k : Bool) (Q : Bool → Prop), BlK (.bl k) Q = Q k := fun k Q => propext ⟨fun ⟨_, a, q⟩ => by cases a; exact q, fun q => ⟨k, rfl, q⟩⟩
theorem w19 : ∀ (t u : TT) (σ : St) (H : Hp) (Q : Bool → Hp → Prop), tAnd t u σ H Q = t σ H (fun c H1 => Andk c u σ H1 Q) := fun _ _ _ _ _ => rfl
theorem w20 : ∀ (t u : TT) (σ : St) (H : Hp) (Q : Bool → Hp → Prop), tOr t u σ H Q = t σ H (fun c H1 => Ork c u σ H1 Q) := fun _ _ _ _ _ => rfl
theorem w21 : ∀ (t : TT) (σ : St) (H : Hp) (Q : Bool → Hp → Prop), tNot t σ H Q = t σ H (fun c H1 => Q (!c) H1) := fun _ _ _ _ => rfl
theorem w22 : ∀ (t u : TE) (σ : St) (H : Hp) (Q : VK), tAndV t u σ H Q = t σ H (fun x H1 => BlK x (fun c => AndVk c u σ H1 Q)) := fun _ _ _ _ _ => rfl
theorem w23 : ∀ (t u : TE) (σ : St) (H : Hp) (Q : VK), tOrV t u σ H Q = t σ H (fun x H1 => BlK x (fun c => OrVk c u σ H1 Q)) := fun _ _ _ _ _ => rfl
theorem w24 : ∀ (t : TE) (σ : St) (H : Hp) (Q : VK), tNotV t σ H Q = t σ H (fun x H1 => BlK x (fun c => Q (.bl (!c)) H1)) := fun _ _ _ _ => rfl
theorem w25 : ∀ (t : TT) (a b : TE) (σ : St) (H : Hp) (Q : VK), tIf t a b σ H Q = t σ H (fun c H1 => IfEk c a b σ H1 Q) := fun _ _ _ _ _ _ => rfl
theorem w26 : ∀ (r r' : R2) (a b c : TE) (σ : St) (H : Hp) (Q : VK), tChain r r' a b c σ H Q = a σ H (fun x H1 => b σ H1 (fun y H2 => r x y H2 (fun z H3 => BlK z (fun k => Chk k c (r' y) σ H3 Q)))) := fun _ _ _ _ _ _ _ _ => rfl
theorem w27 : ∀ (c : TT) (t u : TS) (D : Ends) (σ : St) (H : Hp), tIfS c t u D σ H = c σ H (fun b H1 => Ifk b (t D) (u D) σ H1) := fun _ _ _ _ _ _ => rfl
theorem w28 : ∀ (t : TE) (g : TG) (D : Ends) (σ : St) (H : Hp), tAsg t g D σ H = t σ H (fun x H1 => g x σ H1 D.nx) := fun _ _ _ _ _ => rfl
theorem w29 : ∀ (t : TE) (D : Ends) (σ : St) (H : Hp), tRet t D σ H = t σ H D.rt := fun _ _ _ _ => rfl
theorem w30 : ∀ (D : Ends) (σ : St) (H : Hp), tRetN D σ H = D.rt .non H := fun _ _ _ => rfl
theorem w31 : ∀ (t : TE) (D : Ends) (σ : St) (H : Hp), tDrop t D σ H = t σ H (fun _ H1 => D.nx σ H1) := fun _ _ _ _ => rfl
theorem w32 : ∀ (σ : St) (H : Hp) (Q : List V → Hp → Prop), tNil σ H Q = Q [] H := fun _ _ _ => rfl
theorem w33 : ∀ (a : TE) (r : TA) (σ : St) (H : Hp) (Q : List V → Hp → Prop), tCons a r σ H Q = a σ H (fun x H1 => r σ H1 (fun xs H2 => Q (x :: xs) H2)) := fun _ _ _ _ _ => rfl
theorem w34 : ∀ (t : TA) (σ : St) (H : Hp) (Q : VK), tTup t σ H Q = t σ H (fun xs H1 => xs.length ≤ sizeLine ∧ New H1 (.tup xs) (fun p H2 => Q (.ref p) H2)) := fun _ _ _ _ => rfl
theorem w35 : ∀ (t : TA) (σ : St) (H : Hp) (Q : VK), tLst t σ H Q = t σ H (fun xs H1 => xs.length ≤ sizeLine ∧ New H1 (.lst xs) (fun p H2 => Q (.ref p) H2)) := fun _ _ _ _ => rfl
theorem w36 : ∀ (r : List V → Hp → VK → Prop) (t : TA) (σ : St) (H : Hp) (Q : VK), tCB r t σ H Q = t σ H (fun vs H1 => r vs H1 Q) := fun _ _ _ _ _ => rfl
theorem w37 : ∀ (sp : Sp) (E : XK) (t : TA) (σ : St) (H : Hp) (Q : VK), tCall sp [] E t σ H Q = t σ H (fun vs H1 => sp vs H1 Q E) := fun sp E t σ H Q => by unfold tCall; simp only [List.append_nil]
theorem w38 : ∀ (p : Addr) (i : Int) (H : Hp) (Q : VK), rIxl (.ref p) (.int i) H Q = (∃ xs, lstOf (H p) = some xs ∧ ∃ v, atI xs i = some v ∧ Q v H) := fun p i H Q => propext ⟨fun ⟨_, _, xs, v, a, b, c, d, q⟩ => by cases a; cases b; exact ⟨xs, c, v, d, q⟩, fun ⟨xs, c, v, d, q⟩ => ⟨p, i, xs, v, rfl, rfl, c, d, q⟩⟩
theorem w39 : ∀ (p : Addr) (i : Int) (H : Hp) (Q : VK), rIxt (.ref p) (.int i) H Q = (∃ xs, tupOf (H p) = some xs ∧ ∃ v, atI xs i = some v ∧ Q v H) := fun p i H Q => propext ⟨fun ⟨_, _, xs, v, a, b, c, d, q⟩ => by cases a; cases b; exact ⟨xs, c, v, d, q⟩, fun ⟨xs, c, v, d, q⟩ => ⟨p, i, xs, v, rfl, rfl, c, d, q⟩⟩
theorem w40 : ∀ (z : Str) (i : Int) (H : Hp) (Q : VK), rIxS (.str z) (.int i) H Q = (z.length ≤ sizeLine ∧ ∃ c, atI z.cps.toList i = some c ∧ Q (.str ⟨#[c]⟩) H) := fun z i H Q => propext ⟨fun ⟨_, _, c, a, b, d, e, q⟩ => by cases a; cases b; exact ⟨d, c, e, q⟩, fun ⟨d, c, e, q⟩ => ⟨z, i, c, rfl, rfl, d, e, q⟩⟩
theorem w41 : ∀ (p : Addr) (H : Hp) (Q : VK), rLenq [.ref p] H Q = (∃ xs, seqOf (H p) = some xs ∧ Q (.int xs.length) H) := fun p H Q => propext ⟨fun ⟨_, xs, a, b, q⟩ => by cases a; exact ⟨xs, b, q⟩, fun ⟨xs, b, q⟩ => ⟨p, xs, rfl, b, q⟩⟩
theorem w42 : ∀ (p : Addr) (H : Hp) (Q : VK), rListq [.ref p] H Q = (∃ xs, seqOf (H p) = some xs ∧ New H (.lst xs) (fun l H2 => Q (.ref l) H2)) := fun p H Q => propext ⟨fun ⟨_, xs, a, b, q⟩ => by cases a; exact ⟨xs, b, q⟩, fun ⟨xs, b, q⟩ => ⟨p, xs, rfl, b, q⟩⟩
theorem w43 : ∀ (i : Int) (H : Hp) (Q : VK), rInt1 [.int i] H Q = Q (.int i) H := fun i H Q => propext ⟨fun ⟨_, a, q⟩ => by cases a; exact q, fun q => ⟨i, rfl, q⟩⟩
theorem w44 : ∀ (xs : List V), lstOf (some (.lst xs)) = some xs := fun _ => rfl
theorem w45 : ∀ (xs : List V), tupOf (some (.tup xs)) = some xs := fun _ => rfl
theorem w46 : ∀ (xs : List V), seqOf (some (.lst xs)) = some xs := fun _ => rfl
theorem w47 : ∀ (xs : List V), seqOf (some (.tup xs)) = some xs := fun _ => rfl
theorem w48 : ∀ (K : PySem.W.Frag) (p : Addr) (H : Hp), (lstOf (H p)).isSome = true → tyV K "list" (.ref p) H = True := fun K p H h => eq_true (by obtain ⟨xs, e⟩ := Option.isSome_iff_exists.mp h; exact .inl ⟨rfl, xs, SqL.of (of_lstOf e)⟩)
theorem w49 : ∀ (K : PySem.W.Frag) (T : String) (r : V → List V → Hp → VK → Prop) (o : TE) (σ : St) (H : Hp) (Q : VK), tBM0 K T r o σ H Q = o σ H (fun x H1 => tyV K T x H1 ∧ r x [] H1 Q) := fun _ _ _ _ _ _ _ => rfl
theorem w50 : ∀ (K : PySem.W.Frag) (T : String) (r : V → List V → Hp → VK → Prop) (o : TE) (t : TA) (σ : St) (H : Hp) (Q : VK), tBM K T r o t σ H Q = o σ H (fun x H1 => tyV K T x H1 ∧ t σ H1 (fun xs H2 => r x xs H2 Q)) := fun _ _ _ _ _ _ _ _ => rfl
theorem w51 : ∀ (l : Addr) (y : V) (H : Hp) (Q : VK), rAppend (.ref l) [y] H Q = (∃ xs, lstOf (H l) = some xs ∧ xs.length < sizeLine ∧ Q .non (upd H l (.lst (xs ++ [y])))) := fun l y H Q => propext ⟨fun ⟨_, xs, _, a, b, c, d, q⟩ => by cases a; cases b; exact ⟨xs, by rw [c]; rfl, d, q⟩, fun ⟨xs, c, d, q⟩ => ⟨l, xs, y, rfl, rfl, of_lstOf c, d, q⟩⟩
theorem w52 : ∀ (l : Addr) (i : Int) (H : Hp) (Q : VK), rPopAt (.ref l) [.int i] H Q = (∃ xs, lstOf (H l) = some xs ∧ -(2 ^ 63) ≤ i ∧ i < 2 ^ 63 ∧ ∃ k, seqIndex? i xs.length = some k ∧ ∃ y, xs[k]? = some y ∧ Q y (upd H l (.lst (xs.eraseIdx k)))) := fun l i H Q => propext ⟨fun ⟨_, xs, _, k, y, a, b, c, d, e, f, g, q⟩ => by cases a; cases b; exact ⟨xs, by rw [c]; rfl, d, e, k, f, y, g, q⟩, fun ⟨xs, c, d, e, k, f, y, g, q⟩ => ⟨l, xs, i, k, y, rfl, rfl, of_lstOf c, d, e, f, g, q⟩⟩
theorem w53 : ∀ (l : Addr) (H : Hp) (Q : VK), rClear (.ref l) [] H Q = (∃ xs, lstOf (H l) = some xs ∧ Q .non (upd H l (.lst []))) := fun l H Q => propext ⟨fun ⟨_, xs, a, _, c, q⟩ => by cases a; exact ⟨xs, by rw [c]; rfl, q⟩, fun ⟨xs, c, q⟩ => ⟨l, xs, rfl, rfl, of_lstOf c, q⟩⟩
theorem w54 : ∀ (p : Addr) (k : Int) (v : V) (H : Hp) (Q : Hp → Prop), rSetL (.ref p) (.int k) v H Q = (∃ xs, lstOf (H p) = some xs ∧ ∃ j, ixN xs.length k = some j ∧ Q (upd H p (.lst (xs.set j v)))) := fun p k v H Q => propext ⟨fun ⟨_, xs, _, j, a, b, c, d, q⟩ => by cases a; cases b; exact ⟨xs, by rw [c]; rfl, j, d, q⟩, fun ⟨xs, c, j, d, q⟩ => ⟨p, xs, k, j, rfl, rfl, of_lstOf c, d, q⟩⟩
theorem w55 : ∀ (o i : TE) (t : TSet) (v : V) (σ : St) (H : Hp) (Q : St → Hp → Prop), gSub o i t v σ H Q = o σ H (fun x H1 => i σ H1 (fun y H2 => t x y v H2 (fun H3 => Q σ H3))) := fun _ _ _ _ _ _ _ => rfl
theorem w56 : ∀ (f : Int → Int → Int) (i j : Int) (H : Hp) (Q : VK), ipI f (.int i) (.int j) H Q = Q (.int (f i j)) H := fun f i j H Q => propext ⟨fun ⟨_, _, a, b, q⟩ => by cases a; cases b; exact q, fun q => ⟨i, j, rfl, rfl, q⟩⟩
theorem w57 : ∀ (σ : St) (H : Hp) (Q : St → Hp → Prop), gNil [] σ H Q = Q σ H := fun σ H Q => propext ⟨fun ⟨_, q⟩ => q, fun q => ⟨rfl, q⟩⟩
theorem w58 : ∀ (t : TG) (u : TGs) (v : V) (r : List V) (σ : St) (H : Hp) (Q : St → Hp → Prop), gCons t u (v :: r) σ H Q = t v σ H (fun s1 H1 => u r s1 H1 Q) := fun t u v r σ H Q => propext ⟨fun ⟨_, _, a, q⟩ => by cases a; exact q, fun q => ⟨v, r, rfl, q⟩⟩
theorem w59 : ∀ (n : Nat) (t : TGs) (a : Addr) (σ : St) (H : Hp) (Q : St → Hp → Prop), gTupq n t (.ref a) σ H Q = (∃ xs, tupOf (H a) = some xs ∧ xs.length = n ∧ t xs σ H Q) := fun n t a σ H Q => propext ⟨fun ⟨_, xs, e, q⟩ => by cases e; exact ⟨xs, q⟩, fun ⟨xs, q⟩ => ⟨a, xs, rfl, q⟩⟩
theorem w60 : ∀ (i j : Nat) (ta : TA) (D : Ends) (σ : St) (H : Hp), tPar i j ta D σ H = ta σ H (fun vs H1 => ParK i j vs D σ H1) := fun _ _ _ _ _ _ => rfl
theorem w61 : ∀ (i j : Nat) (v w : V) (D : Ends) (σ : St) (H : Hp), ParK i j [v, w] D σ H = gName i v σ H (fun s1 H1 => gName j w s1 H1 D.nx) := fun i j v w D σ H => propext ⟨fun ⟨_, _, a, q⟩ => by cases a; exact q, fun q => ⟨v, w, rfl, q⟩⟩
theorem w62 : ∀ (f : TE) (σ : St) (H : Hp) (Q : Option Int → Hp → Prop), tPart f σ H Q = f σ H (fun x H1 => IntK x (fun i => Q (some i) H1)) := fun _ _ _ _ => rfl
theorem w63 : ∀ (σ : St) (H : Hp) (Q : Option Int → Hp → Prop), tNoPart σ H Q = Q none H := fun _ _ _ => rfl
theorem w64 : ∀ (i : Int) (Q : Int → Prop), IntK (.int i) Q = Q i := fun k Q => propext ⟨fun ⟨_, a, q⟩ => by cases a; exact q, fun q => ⟨k, rfl, q⟩⟩
theorem w65 : ∀ (r : V → Option Int → Option Int → Hp → VK → Prop) (e : TE) (l h : TO) (σ : St) (H : Hp) (Q : VK), tSl r e l h σ H Q = e σ H (fun x H1 => l σ H1 (fun a H2 => h σ H2 (fun b H3 => r x a b H3 Q))) := fun _ _ _ _ _ _ _ => rfl
theorem w66 : ∀ (z : Str) (l h : Option Int) (H : Hp) (Q : VK), rSlS (.str z) l h H Q = (z.length ≤ sizeLine ∧ Q (.str (cutS z l h)) H) := fun z l h H Q => propext ⟨fun ⟨_, a, b, q⟩ => by cases a; exact ⟨b, q⟩, fun ⟨b, q⟩ => ⟨z, rfl, b, q⟩⟩
theorem w67 : ∀ (p : Addr) (l h : Option Int) (H : Hp) (Q : VK), rSlq (.ref p) l h H Q = (∃ xs, lstOf (H p) = some xs ∧ New H (.lst (cutV xs l h)) (fun q H2 => Q (.ref q) H2)) := fun p l h H Q => propext ⟨fun ⟨_, xs, a, b, q⟩ => by cases a; exact ⟨xs, b, q⟩, fun ⟨xs, b, q⟩ => ⟨p, xs, rfl, b, q⟩⟩
theorem w68 : ∀ (wi : TI) (g : TG) (tb : TS) (D : Ends) (σ : St) (H : Hp), tFor wi g tb D σ H = wi σ H (fun J H1 => LoopK J g tb D σ H1) := fun _ _ _ _ _ _ => rfl
theorem w69 : ∀ (wi : TI) (g : TG) (tt : TT) (te : TE) (vs : List Nat) (σ : St) (H : Hp) (Q : VK), tLc wi g tt te vs σ H Q = wi σ H (fun J H1 => LcK J g tt te vs σ H1 Q) := fun _ _ _ _ _ _ _ _ => rfl
theorem w70 : ∀ (K : PySem.W.Frag) (tl : TE) (σ : St) (H : Hp) (R : It → Hp → Prop), iList K tl σ H R = tl σ H (fun x H1 => ListK K x H1 R) := fun _ _ _ _ _ => rfl
theorem w71 : ∀ (K : PySem.W.Frag) (p : Addr) (H : Hp) (R : It → Hp → Prop), (lstOf (H p)).isSome = true → ListK K (.ref p) H R = R (Itl K p) H := fun K p H R h => propext ⟨fun ⟨_, a, _, q⟩ => by cases a; exact q, fun q => by obtain ⟨xs, e⟩ := Option.isSome_iff_exists.mp h; exact ⟨p, rfl, ⟨xs, SqL.of (of_lstOf e)⟩, q⟩⟩
theorem w72 : ∀ (te : TE) (σ : St) (H : Hp) (R : It → Hp → Prop), iStr te σ H R = te σ H (fun x H1 => StrK x (fun z => R (Its z) H1)) := fun _ _ _ _ => rfl
theorem w73 : ∀ (i : Str) (Q : Str → Prop), StrK (.str i) Q = Q i := fun k Q => propext ⟨fun ⟨_, a, q⟩ => by cases a; exact q, fun q => ⟨k, rfl, q⟩⟩
theorem w74 : ∀ (ta : TA) (σ : St) (H : Hp) (R : It → Hp → Prop), iRng1 ta σ H R = ta σ H (fun vs H1 => Rng1K vs (fun j => -(2 ^ 62) ≤ j ∧ j < 2 ^ 62 ∧ R (Itr 0 j.toNat) H1)) := fun _ _ _ _ => rfl
theorem w75 : ∀ (j : Int) (Q : Int → Prop), Rng1K [.int j] Q = Q j := fun k Q => propext ⟨fun ⟨_, a, q⟩ => by cases a; exact q, fun q => ⟨k, rfl, q⟩⟩
theorem w76 : ∀ (ta : TA) (σ : St) (H : Hp) (R : It → Hp → Prop), iRng2 ta σ H R = ta σ H (fun vs H1 => Rng2K vs (fun i j => (-(2 ^ 62) ≤ i ∧ i < 2 ^ 62 ∧ -(2 ^ 62) ≤ j ∧ j < 2 ^ 62) ∧ R (Itr i (j - i).toNat) H1)) := fun _ _ _ _ => rfl
theorem w77 : ∀ (i j : Int) (Q : Int → Int → Prop), Rng2K [.int i, .int j] Q = Q i j := fun i j Q => propext ⟨fun ⟨_, _, a, q⟩ => by cases a; exact q, fun q => ⟨i, j, rfl, q⟩⟩
theorem w78 : ∀ (tt : TT) (te : TE) (vs : List Nat) (w0 : St) (D : Addr) (N : Hp → Prop) (s2 : St) (H2 : Hp), LcT tt te vs w0 D N s2 H2 = (wipe s2 vs = w0 ∧ tt s2 H2 (fun b H3 => LcE te D N b s2 H3)) := fun _ _ _ _ _ _ _ _ => rfl
theorem w79 : ∀ (σ : St) (H : Hp) (Q : Bool → Hp → Prop), tYes σ H Q = Q true H := fun _ _ _ => rfl
theorem w80 : ∀ (te : TE) (D : Addr) (N : Hp → Prop) (s2 : St) (H3 : Hp), LcE te D N true s2 H3 = te s2 H3 (fun y H4 => LcP D N y H4) := fun _ _ _ _ _ => rfl
theorem w81 : ∀ (te : TE) (D : Addr) (N : Hp → Prop) (s2 : St) (H3 : Hp), LcE te D N false s2 H3 = N H3 := fun _ _ _ _ _ => rfl
theorem w82 : ∀ (D : Addr) (N : Hp → Prop) (y : V) (H4 : Hp), LcP D N y H4 = (∃ acc, lstOf (H4 D) = some acc ∧ acc.length < sizeLine ∧ N (upd H4 D (.lst (acc ++ [y])))) := fun D N y H4 => propext ⟨fun ⟨acc, e, q⟩ => ⟨acc, by rw [e]; rfl, q⟩, fun ⟨acc, e, q⟩ => ⟨acc, of_lstOf e, q⟩⟩
theorem w83 : ∀ (σ : St), wipe σ [] = σ := fun _ => rfl
theorem w84 : ∀ (r : V → List V → Hp → VK → Prop) (o e : TE) (σ : St) (H : Hp) (Q : VK), tM1 r o e σ H Q = o σ H (fun x H1 => (∃ a, x = .str a) ∧ e σ H1 (fun y H2 => r x [y] H2 Q)) := fun _ _ _ _ _ _ => rfl
theorem w85 : ∀ (r : V → List V → Hp → VK → Prop) (o : TE) (σ : St) (H : Hp) (Q : VK), tM0 r o σ H Q = o σ H (fun x H1 => (∃ a, x = .str a) ∧ r x [] H1 Q) := fun _ _ _ _ _ => rfl
theorem w86 : ∀ (P : Hp → VK → XK → Prop) (H : Hp) (Q : VK) (E : XK), Sp0 P [] H Q E = P  H Q E := fun P H Q E => propext ⟨fun ⟨_, q⟩ => q, fun q => ⟨rfl, q⟩⟩
theorem w87 : ∀ (P : V → Hp → VK → XK → Prop) (a : V) (H : Hp) (Q : VK) (E : XK), Sp1 P [a] H Q E = P a H Q E := fun P a H Q E => propext ⟨fun ⟨_, e, q⟩ => by cases e; exact q, fun q => ⟨_, rfl, q⟩⟩
theorem w88 : ∀ (P : V → V → Hp → VK → XK → Prop) (a b : V) (H : Hp) (Q : VK) (E : XK), Sp2 P [a, b] H Q E = P a b H Q E := fun P a b H Q E => propext ⟨fun ⟨_, _, e, q⟩ => by cases e; exact q, fun q => ⟨_, _, rfl, q⟩⟩
theorem w89 : ∀ (P : V → V → V → Hp → VK → XK → Prop) (a b c : V) (H : Hp) (Q : VK) (E : XK), Sp3 P [a, b, c] H Q E = P a b c H Q E := fun P a b c H Q E => propext ⟨fun ⟨_, _, _, e, q⟩ => by cases e; exact q, fun q => ⟨_, _, _, rfl, q⟩⟩
theorem w90 : ∀ (P : V → V → V → V → Hp → VK → XK → Prop) (a b c d : V) (H : Hp) (Q : VK) (E : XK), Sp4 P [a, b, c, d] H Q E = P a b c d H Q E := fun P a b c d H Q E => propext ⟨fun ⟨_, _, _, _, e, q⟩ => by cases e; exact q, fun q => ⟨_, _, _, _, rfl, q⟩⟩
theorem w91 : ∀ (P : V → V → V → V → V → Hp → VK → XK → Prop) (a b c d e : V) (H : Hp) (Q : VK) (E : XK), Sp5 P [a, b, c, d, e] H Q E = P a b c d e H Q E := fun P a b c d e H Q E => propext ⟨fun ⟨_, _, _, _, _, e, q⟩ => by cases e; exact q, fun q => ⟨_, _, _, _, _, rfl, q⟩⟩
theorem w92 : ∀ (v : V) (r : St) (H : Hp) (Q : VK), tVar 0 (some v :: r) H Q = Q v H := fun _ _ _ _ => propext ⟨fun ⟨_, a, q⟩ => by cases a; exact q, fun q => ⟨_, rfl, q⟩⟩
theorem w93 : ∀ (y : Option V) (v : V) (r : St) (H : Hp) (Q : St → Hp → Prop), gName 0 v (y :: r) H Q = Q (some v :: r) H := fun _ _ _ _ _ => rfl
theorem w94 : ∀ (v : V) (r : St) (te : TE) (ti : TIp) (D : Ends) (H : Hp), tAug 0 te ti D (some v :: r) H = te (some v :: r) H (fun y H1 => ti v y H1 (fun z H2 => D.nx (some z :: r) H2)) := fun _ _ _ _ _ _ => propext ⟨fun ⟨_, a, q⟩ => by cases a; exact q, fun q => ⟨_, rfl, q⟩⟩
theorem w95 : ∀ (y : Option V) (r : St) (vs : List Nat), wipe (y :: r) (0 :: vs) = Setn (wipe (y :: r) vs) 0 := fun _ _ _ => rfl
theorem w96 : ∀ (y : Option V) (r : St), Setn (y :: r) 0 = (none :: r) := fun _ _ => rfl
theorem w97 : ∀ (x0 : Option V) (v : V) (r : St) (H : Hp) (Q : VK), tVar 1 (x0 :: some v :: r) H Q = Q v H := fun _ _ _ _ _ => propext ⟨fun ⟨_, a, q⟩ => by cases a; exact q, fun q => ⟨_, rfl, q⟩⟩
theorem w98 : ∀ (x0 : Option V) (y : Option V) (v : V) (r : St) (H : Hp) (Q : St → Hp → Prop), gName 1 v (x0 :: y :: r) H Q = Q (x0 :: some v :: r) H := fun _ _ _ _ _ _ => rfl
theorem w99 : ∀ (x0 : Option V) (v : V) (r : St) (te : TE) (ti : TIp) (D : Ends) (H : Hp), tAug 1 te ti D (x0 :: some v :: r) H = te (x0 :: some v :: r) H (fun y H1 => ti v y H1 (fun z H2 => D.nx (x0 :: some z :: r) H2)) := fun _ _ _ _ _ _ _ => propext ⟨fun ⟨_, a, q⟩ => by cases a; exact q, fun q => ⟨_, rfl, q⟩⟩
theorem w100 : ∀ (x0 : Option V) (y : Option V) (r : St) (vs : List Nat), wipe (x0 :: y :: r) (1 :: vs) = Setn (wipe (x0 :: y :: r) vs) 1 := fun _ _ _ _ => rfl
theorem w101 : ∀ (x0 : Option V) (y : Option V) (r : St), Setn (x0 :: y :: r) 1 = (x0 :: none :: r) := fun _ _ _ => rfl
theorem w102 : ∀ (x0 x1 : Option V) (v : V) (r : St) (H : Hp) (Q : VK), tVar 2 (x0 :: x1 :: some v :: r) H Q = Q v H := fun _ _ _ _ _ _ => propext ⟨fun ⟨_, a, q⟩ => by cases a; exact q, fun q => ⟨_, rfl, q⟩⟩
theorem w103 : ∀ (x0 x1 : Option V) (y : Option V) (v : V) (r : St) (H : Hp) (Q : St → Hp → Prop), gName 2 v (x0 :: x1 :: y :: r) H Q = Q (x0 :: x1 :: some v :: r) H := fun _ _ _ _ _ _ _ => rfl
theorem w104 : ∀ (x0 x1 : Option V) (v : V) (r : St) (te : TE) (ti : TIp) (D : Ends) (H : Hp), tAug 2 te ti D (x0 :: x1 :: some v :: r) H = te (x0 :: x1 :: some v :: r) H (fun y H1 => ti v y H1 (fun z H2 => D.nx (x0 :: x1 :: some z :: r) H2)) := fun _ _ _ _ _ _ _ _ => propext ⟨fun ⟨_, a, q⟩ => by cases a; exact q, fun q => ⟨_, rfl, q⟩⟩
theorem w105 : ∀ (x0 x1 : Option V) (y : Option V) (r : St) (vs : List Nat), wipe (x0 :: x1 :: y :: r) (2 :: vs) = Setn (wipe (x0 :: x1 :: y :: r) vs) 2 := fun _ _ _ _ _ => rfl
theorem w106 : ∀ (x0 x1 : Option V) (y : Option V) (r : St), Setn (x0 :: x1 :: y :: r) 2 = (x0 :: x1 :: none :: r) := fun _ _ _ _ => rfl
theorem w107 : ∀ (x0 x1 x2 : Option V) (v : V) (r : St) (H : Hp) (Q : VK), tVar 3 (x0 :: x1 :: x2 :: some v :: r) H Q = Q v H := fun _ _ _ _ _ _ _ => propext ⟨fun ⟨_, a, q⟩ => by cases a; exact q, fun q => ⟨_, rfl, q⟩⟩
theorem w108 : ∀ (x0 x1 x2 : Option V) (y : Option V) (v : V) (r : St) (H : Hp) (Q : St → Hp → Prop), gName 3 v (x0 :: x1 :: x2 :: y :: r) H Q = Q (x0 :: x1 :: x2 :: some v :: r) H := fun _ _ _ _ _ _ _ _ => rfl
theorem w109 : ∀ (x0 x1 x2 : Option V) (v : V) (r : St) (te : TE) (ti : TIp) (D : Ends) (H : Hp), tAug 3 te ti D (x0 :: x1 :: x2 :: some v :: r) H = te (x0 :: x1 :: x2 :: some v :: r) H (fun y H1 => ti v y H1 (fun z H2 => D.nx (x0 :: x1 :: x2 :: some z :: r) H2)) := fun _ _ _ _ _ _ _ _ _ => propext ⟨fun ⟨_, a, q⟩ => by cases a; exact q, fun q => ⟨_, rfl, q⟩⟩
theorem w110 : ∀ (x0 x1 x2 : Option V) (y : Option V) (r : St) (vs : List Nat), wipe (x0 :: x1 :: x2 :: y :: r) (3 :: vs) = Setn (wipe (x0 :: x1 :: x2 :: y :: r) vs) 3 := fun _ _ _ _ _ _ => rfl
theorem w111 : ∀ (x0 x1 x2 : Option V) (y : Option V) (r : St), Setn (x0 :: x1 :: x2 :: y :: r) 3 = (x0 :: x1 :: x2 :: none :: r) := fun _ _ _ _ _ => rfl
theorem w112 : ∀ (x0 x1 x2 x3 : Option V) (v : V) (r : St) (H : Hp) (Q : VK), tVar 4 (x0 :: x1 :: x2 :: x3 :: some v :: r) H Q = Q v H := fun _ _ _ _ _ _ _ _ => propext ⟨fun ⟨_, a, q⟩ => by cases a; exact q, fun q => ⟨_, rfl, q⟩⟩
theorem w113 : ∀ (x0 x1 x2 x3 : Option V) (y : Option V) (v : V) (r : St) (H : Hp) (Q : St → Hp → Prop), gName 4 v (x0 :: x1 :: x2 :: x3 :: y :: r) H Q = Q (x0 :: x1 :: x2 :: x3 :: some v :: r) H := fun _ _ _ _ _ _ _ _ _ => rfl
theorem w114 : ∀ (x0 x1 x2 x3 : Option V) (v : V) (r : St) (te : TE) (ti : TIp) (D : Ends) (H : Hp), tAug 4 te ti D (x0 :: x1 :: x2 :: x3 :: some v :: r) H = te (x0 :: x1 :: x2 :: x3 :: some v :: r) H (fun y H1 => ti v y H1 (fun z H2 => D.nx (x0 :: x1 :: x2 :: x3 :: some z :: r) H2)) := fun _ _ _ _ _ _ _ _ _ _ => propext ⟨fun ⟨_, a, q⟩ => by cases a; exact q, fun q => ⟨_, rfl, q⟩⟩
theorem w115 : ∀ (x0 x1 x2 x3 : Option V) (y : Option V) (r : St) (vs : List Nat), wipe (x0 :: x1 :: x2 :: x3 :: y :: r) (4 :: vs) = Setn (wipe (x0 :: x1 :: x2 :: x3 :: y :: r) vs) 4 := fun _ _ _ _ _ _ _ => rfl
theorem w116 : ∀ (x0 x1 x2 x3 : Option V) (y : Option V) (r : St), Setn (x0 :: x1 :: x2 :: x3 :: y :: r) 4 = (x0 :: x1 :: x2 :: x3 :: none :: r) := fun _ _ _ _ _ _ => rfl
theorem w117 : ∀ (x0 x1 x2 x3 x4 : Option V) (v : V) (r : St) (H : Hp) (Q : VK), tVar 5 (x0 :: x1 :: x2 :: x3 :: x4 :: some v :: r) H Q = Q v H := fun _ _ _ _ _ _ _ _ _ => propext ⟨fun ⟨_, a, q⟩ => by cases a; exact q, fun q => ⟨_, rfl, q⟩⟩
theorem w118 : ∀ (x0 x1 x2 x3 x4 : Option V) (y : Option V) (v : V) (r : St) (H : Hp) (Q : St → Hp → Prop), gName 5 v (x0 :: x1 :: x2 :: x3 :: x4 :: y :: r) H Q = Q (x0 :: x1 :: x2 :: x3 :: x4 :: some v :: r) H := fun _ _ _ _ _ _ _ _ _ _ => rfl
theorem w119 : ∀ (x0 x1 x2 x3 x4 : Option V) (v : V) (r : St) (te : TE) (ti : TIp) (D : Ends) (H : Hp), tAug 5 te ti D (x0 :: x1 :: x2 :: x3 :: x4 :: some v :: r) H = te (x0 :: x1 :: x2 :: x3 :: x4 :: some v :: r) H (fun y H1 => ti v y H1 (fun z H2 => D.nx (x0 :: x1 :: x2 :: x3 :: x4 :: some z :: r) H2)) := fun _ _ _ _ _ _ _ _ _ _ _ => propext ⟨fun ⟨_, a, q⟩ => by cases a; exact q, fun q => ⟨_, rfl, q⟩⟩
theorem w120 : ∀ (x0 x1 x2 x3 x4 : Option V) (y : Option V) (r : St) (vs : List Nat), wipe (x0 :: x1 :: x2 :: x3 :: x4 :: y :: r) (5 :: vs) = Setn (wipe (x0 :: x1 :: x2 :: x3 :: x4 :: y :: r) vs) 5 := fun _ _ _ _ _ _ _ _ => rfl
theorem w121 : ∀ (x0 x1 x2 x3 x4 : Option V) (y : Option V) (r : St), Setn (x0 :: x1 :: x2 :: x3 :: x4 :: y :: r) 5 = (x0 :: x1 :: x2 :: x3 :: x4 :: none :: r) := fun _ _ _ _ _ _ _ => rfl
theorem w122 : ∀ (x0 x1 x2 x3 x4 x5 : Option V) (v : V) (r : St) (H : Hp) (Q : VK), tVar 6 (x0 :: x1 :: x2 :: x3 :: x4 :: x5 :: some v :: r) H Q = Q v H := fun _ _ _ _ _ _ _ _ _ _ => propext ⟨fun ⟨_, a, q⟩ => by cases a; exact q, fun q => ⟨_, rfl, q⟩⟩
theorem w123 : ∀ (x0 x1 x2 x3 x4 x5 : Option V) (y : Option V) (v : V) (r : St) (H : Hp) (Q : St → Hp → Prop), gName 6 v (x0 :: x1 :: x2 :: x3 :: x4 :: x5 :: y :: r) H Q = Q (x0 :: x1 :: x2 :: x3 :: x4 :: x5 :: some v :: r) H := fun _ _ _ _ _ _ _ _ _ _ _ => rfl
theorem w124 : ∀ (x0 x1 x2 x3 x4 x5 : Option V) (v : V) (r : St) (te : TE) (ti : TIp) (D : Ends) (H : Hp), tAug 6 te ti D (x0 :: x1 :: x2 :: x3 :: x4 :: x5 :: some v :: r) H = te (x0 :: x1 :: x2 :: x3 :: x4 :: x5 :: some v :: r) H (fun y H1 => ti v y H1 (fun z H2 => D.nx (x0 :: x1 :: x2 :: x3 :: x4 :: x5 :: some z :: r) H2)) := fun _ _ _ _ _ _ _ _ _ _ _ _ => propext ⟨fun ⟨_, a, q⟩ => by cases a; exact q, fun q => ⟨_, rfl, q⟩⟩
theorem w125 : ∀ (x0 x1 x2 x3 x4 x5 : Option V) (y : Option V) (r : St) (vs : List Nat), wipe (x0 :: x1 :: x2 :: x3 :: x4 :: x5 :: y :: r) (6 :: vs) = Setn (wipe (x0 :: x1 :: x2 :: x3 :: x4 :: x5 :: y :: r) vs) 6 := fun _ _ _ _ _ _ _ _ _ => rfl
theorem w126 : ∀ (x0 x1 x2 x3 x4 x5 : Option V) (y : Option V) (r : St), Setn (x0 :: x1 :: x2 :: x3 :: x4 :: x5 :: y :: r) 6 = (x0 :: x1 :: x2 :: x3 :: x4 :: x5 :: none :: r) := fun _ _ _ _ _ _ _ _ => rfl
theorem w127 : ∀ (x0 x1 x2 x3 x4 x5 x6 : Option V) (v : V) (r : St) (H : Hp) (Q : VK), tVar 7 (x0 :: x1 :: x2 :: x3 :: x4 :: x5 :: x6 :: some v :: r) H Q = Q v H := fun _ _ _ _ _ _ _ _ _ _ _ => propext ⟨fun ⟨_, a, q⟩ => by cases a; exact q, fun q => ⟨_, rfl, q⟩⟩
theorem w128 : ∀ (x0 x1 x2 x3 x4 x5 x6 : Option V) (y : Option V) (v : V) (r : St) (H : Hp) (Q : St → Hp → Prop), gName 7 v (x0 :: x1 :: x2 :: x3 :: x4 :: x5 :: x6 :: y :: r) H Q = Q (x0 :: x1 :: x2 :: x3 :: x4 :: x5 :: x6 :: some v :: r) H := fun _ _ _ _ _ _ _ _ _ _ _ _ => rfl
theorem w129 : ∀ (x0 x1 x2 x3 x4 x5 x6 : Option V) (v : V) (r : St) (te : TE) (ti : TIp) (D : Ends) (H : Hp), tAug 7 te ti D (x0 :: x1 :: x2 :: x3 :: x4 :: x5 :: x6 :: some v :: r) H = te (x0 :: x1 :: x2 :: x3 :: x4 :: x5 :: x6 :: some v :: r) H (fun y H1 => ti v y H1 (fun z H2 => D.nx (x0 :: x1 :: x2 :: x3 :: x4 :: x5 :: x6 :: some z :: r) H2)) := fun _ _ _ _ _ _ _ _ _ _ _ _ _ => propext ⟨fun ⟨_, a, q⟩ => by cases a; exact q, fun q => ⟨_, rfl, q⟩⟩
theorem w130 : ∀ (x0 x1 x2 x3 x4 x5 x6 : Option V) (y : Option V) (r : St) (vs : List Nat), wipe (x0 :: x1 :: x2 :: x3 :: x4 :: x5 :: x6 :: y :: r) (7 :: vs) = Setn (wipe (x0 :: x1 :: x2 :: x3 :: x4 :: x5 :: x6 :: y :: r) vs) 7 := fun _ _ _ _ _ _ _ _ _ _ => rfl
theorem w131 : ∀ (x0 x1 x2 x3 x4 x5 x6 : Option V) (y : Option V) (r : St), Setn (x0 :: x1 :: x2 :: x3 :: x4 :: x5 :: x6 :: y :: r) 7 = (x0 :: x1 :: x2 :: x3 :: x4 :: x5 :: x6 :: none :: r) := fun _ _ _ _ _ _ _ _ _ => rfl
theorem w132 : ∀ (x0 x1 x2 x3 x4 x5 x6 x7 : Option V) (v : V) (r : St) (H : Hp) (Q : VK), tVar 8 (x0 :: x1 :: x2 :: x3 :: x4 :: x5 :: x6 :: x7 :: some v :: r) H Q = Q v H := fun _ _ _ _ _ _ _ _ _ _ _ _ => propext ⟨fun ⟨_, a, q⟩ => by cases a; exact q, fun q => ⟨_, rfl, q⟩⟩
theorem w133 : ∀ (x0 x1 x2 x3 x4 x5 x6 x7 : Option V) (y : Option V) (v : V) (r : St) (H : Hp) (Q : St → Hp → Prop), gName 8 v (x0 :: x1 :: x2 :: x3 :: x4 :: x5 :: x6 :: x7 :: y :: r) H Q = Q (x0 :: x1 :: x2 :: x3 :: x4 :: x5 :: x6 :: x7 :: some v :: r) H := fun _ _ _ _ _ _ _ _ _ _ _ _ _ => rfl
theorem w134 : ∀ (x0 x1 x2 x3 x4 x5 x6 x7 : Option V) (v : V) (r : St) (te : TE) (ti : TIp) (D : Ends) (H : Hp), tAug 8 te ti D (x0 :: x1 :: x2 :: x3 :: x4 :: x5 :: x6 :: x7 :: some v :: r) H = te (x0 :: x1 :: x2 :: x3 :: x4 :: x5 :: x6 :: x7 :: some v :: r) H (fun y H1 => ti v y H1 (fun z H2 => D.nx (x0 :: x1 :: x2 :: x3 :: x4 :: x5 :: x6 :: x7 :: some z :: r) H2)) := fun _ _ _ _ _ _ _ _ _ _ _ _ _ _ => propext ⟨fun ⟨_, a, q⟩ => by cases a; exact q, fun q => ⟨_, rfl, q⟩⟩
theorem w135 : ∀ (x0 x1 x2 x3 x4 x5 x6 x7 : Option V) (y : Option V) (r : St) (vs : List Nat), wipe (x0 :: x1 :: x2 :: x3 :: x4 :: x5 :: x6 :: x7 :: y :: r) (8 :: vs) = Setn (wipe (x0 :: x1 :: x2 :: x3 :: x4 :: x5 :: x6 :: x7 :: y :: r) vs) 8 := fun _ _ _ _ _ _ _ _ _ _ _ => rfl
theorem w136 : ∀ (x0 x1 x2 x3 x4 x5 x6 x7 : Option V) (y : Option V) (r : St), Setn (x0 :: x1 :: x2 :: x3 :: x4 :: x5 :: x6 :: x7 :: y :: r) 8 = (x0 :: x1 :: x2 :: x3 :: x4 :: x5 :: x6 :: x7 :: none :: r) := fun _ _ _ _ _ _ _ _ _ _ => rfl
theorem w137 : ∀ (x0 x1 x2 x3 x4 x5 x6 x7 x8 : Option V) (v : V) (r : St) (H : Hp) (Q : VK), tVar 9 (x0 :: x1 :: x2 :: x3 :: x4 :: x5 :: x6 :: x7 :: x8 :: some v :: r) H Q = Q v H := fun _ _ _ _ _ _ _ _ _ _ _ _ _ => propext ⟨fun ⟨_, a, q⟩ => by cases a; exact q, fun q => ⟨_, rfl, q⟩⟩
theorem w138 : ∀ (x0 x1 x2 x3 x4 x5 x6 x7 x8 : Option V) (y : Option V) (v : V) (r : St) (H : Hp) (Q : St → Hp → Prop), gName 9 v (x0 :: x1 :: x2 :: x3 :: x4 :: x5 :: x6 :: x7 :: x8 :: y :: r) H Q = Q (x0 :: x1 :: x2 :: x3 :: x4 :: x5 :: x6 :: x7 :: x8 :: some v :: r) H := fun _ _ _ _ _ _ _ _ _ _ _ _ _ _ => rfl
theorem w139 : ∀ (x0 x1 x2 x3 x4 x5 x6 x7 x8 : Option V) (v : V) (r : St) (te : TE) (ti : TIp) (D : Ends) (H : Hp), tAug 9 te ti D (x0 :: x1 :: x2 :: x3 :: x4 :: x5 :: x6 :: x7 :: x8 :: some v :: r) H = te (x0 :: x1 :: x2 :: x3 :: x4 :: x5 :: x6 :: x7 :: x8 :: some v :: r) H (fun y H1 => ti v y H1 (fun z H2 => D.nx (x0 :: x1 :: x2 :: x3 :: x4 :: x5 :: x6 :: x7 :: x8 :: some z :: r) H2)) := fun _ _ _ _ _ _ _ _ _ _ _ _ _ _ _ => propext ⟨fun ⟨_, a, q⟩ => by cases a; exact q, fun q => ⟨_, rfl, q⟩⟩
theorem w140 : ∀ (x0 x1 x2 x3 x4 x5 x6 x7 x8 : Option V) (y : Option V) (r : St) (vs : List Nat), wipe (x0 :: x1 :: x2 :: x3 :: x4 :: x5 :: x6 :: x7 :: x8 :: y :: r) (9 :: vs) = Setn (wipe (x0 :: x1 :: x2 :: x3 :: x4 :: x5 :: x6 :: x7 :: x8 :: y :: r) vs) 9 := fun _ _ _ _ _ _ _ _ _ _ _ _ => rfl
theorem w141 : ∀ (x0 x1 x2 x3 x4 x5 x6 x7 x8 : Option V) (y : Option V) (r : St), Setn (x0 :: x1 :: x2 :: x3 :: x4 :: x5 :: x6 :: x7 :: x8 :: y :: r) 9 = (x0 :: x1 :: x2 :: x3 :: x4 :: x5 :: x6 :: x7 :: x8 :: none :: r) := fun _ _ _ _ _ _ _ _ _ _ _ => rfl
theorem w142 : ∀ (x0 x1 x2 x3 x4 x5 x6 x7 x8 x9 : Option V) (v : V) (r : St) (H : Hp) (Q : VK), tVar 10 (x0 :: x1 :: x2 :: x3 :: x4 :: x5 :: x6 :: x7 :: x8 :: x9 :: some v :: r) H Q = Q v H := fun _ _ _ _ _ _ _ _ _ _ _ _ _ _ => propext ⟨fun ⟨_, a, q⟩ => by cases a; exact q, fun q => ⟨_, rfl, q⟩⟩
theorem w143 : ∀ (x0 x1 x2 x3 x4 x5 x6 x7 x8 x9 : Option V) (y : Option V) (v : V) (r : St) (H : Hp) (Q : St → Hp → Prop), gName 10 v (x0 :: x1 :: x2 :: x3 :: x4 :: x5 :: x6 :: x7 :: x8 :: x9 :: y :: r) H Q = Q (x0 :: x1 :: x2 :: x3 :: x4 :: x5 :: x6 :: x7 :: x8 :: x9 :: some v :: r) H := fun _ _ _ _ _ _ _ _ _ _ _ _ _ _ _ => rfl
theorem w144 : ∀ (x0 x1 x2 x3 x4 x5 x6 x7 x8 x9 : Option V) (v : V) (r : St) (te : TE) (ti : TIp) (D : Ends) (H : Hp), tAug 10 te ti D (x0 :: x1 :: x2 :: x3 :: x4 :: x5 :: x6 :: x7 :: x8 :: x9 :: some v :: r) H = te (x0 :: x1 :: x2 :: x3 :: x4 :: x5 :: x6 :: x7 :: x8 :: x9 :: some v :: r) H (fun y H1 => ti v y H1 (fun z H2 => D.nx (x0 :: x1 :: x2 :: x3 :: x4 :: x5 :: x6 :: x7 :: x8 :: x9 :: some z :: r) H2)) := fun _ _ _ _ _ _ _ _ _ _ _ _ _ _ _ _ => propext ⟨fun ⟨_, a, q⟩ => by cases a; exact q, fun q => ⟨_, rfl, q⟩⟩
theorem w145 : ∀ (x0 x1 x2 x3 x4 x5 x6 x7 x8 x9 : Option V) (y : Option V) (r : St) (vs : List Nat), wipe (x0 :: x1 :: x2 :: x3 :: x4 :: x5 :: x6 :: x7 :: x8 :: x9 :: y :: r) (10 :: vs) = Setn (wipe (x0 :: x1 :: x2 :: x3 :: x4 :: x5 :: x6 :: x7 :: x8 :: x9 :: y :: r) vs) 10 := fun _ _ _ _ _ _ _ _ _ _ _ _ _ => rfl
theorem w146 : ∀ (x0 x1 x2 x3 x4 x5 x6 x7 x8 x9 : Option V) (y : Option V) (r : St), Setn (x0 :: x1 :: x2 :: x3 :: x4 :: x5 :: x6 :: x7 :: x8 :: x9 :: y :: r) 10 = (x0 :: x1 :: x2 :: x3 :: x4 :: x5 :: x6 :: x7 :: x8 :: x9 :: none :: r) := fun _ _ _ _ _ _ _ _ _ _ _ _ => rfl
theorem w147 : ∀ (x0 x1 x2 x3 x4 x5 x6 x7 x8 x9 x10 : Option V) (v : V) (r : St) (H : Hp) (Q : VK), tVar 11 (x0 :: x1 :: x2 :: x3 :: x4 :: x5 :: x6 :: x7 :: x8 :: x9 :: x10 :: some v :: r) H Q = Q v H := fun _ _ _ _ _ _ _ _ _ _ _ _ _ _ _ => propext ⟨fun ⟨_, a, q⟩ => by cases a; exact q, fun q => ⟨_, rfl, q⟩⟩
theorem w148 : ∀ (x0 x1 x2 x3 x4 x5 x6 x7 x8 x9 x10 : Option V) (y : Option V) (v : V) (r : St) (H : Hp) (Q : St → Hp → Prop), gName 11 v (x0 :: x1 :: x2 :: x3 :: x4 :: x5 :: x6 :: x7 :: x8 :: x9 :: x10 :: y :: r) H Q = Q (x0 :: x1 :: x2 :: x3 :: x4 :: x5 :: x6 :: x7 :: x8 :: x9 :: x10 :: some v :: r) H := fun _ _ _ _ _ _ _ _ _ _ _ _ _ _ _ _ => rfl
theorem w149 : ∀ (x0 x1 x2 x3 x4 x5 x6 x7 x8 x9 x10 : Option V) (v : V) (r : St) (te : TE) (ti : TIp) (D : Ends) (H : Hp), tAug 11 te ti D (x0 :: x1 :: x2 :: x3 :: x4 :: x5 :: x6 :: x7 :: x8 :: x9 :: x10 :: some v :: r) H = te (x0 :: x1 :: x2 :: x3 :: x4 :: x5 :: x6 :: x7 :: x8 :: x9 :: x10 :: some v :: r) H (fun y H1 => ti v y H1 (fun z H2 => D.nx (x0 :: x1 :: x2 :: x3 :: x4 :: x5 :: x6 :: x7 :: x8 :: x9 :: x10 :: some z :: r) H2)) := fun _ _ _ _ _ _ _ _ _ _ _ _ _ _ _ _ _ => propext ⟨fun ⟨_, a, q⟩ => by cases a; exact q, fun q => ⟨_, rfl, q⟩⟩
theorem w150 : ∀ (x0 x1 x2 x3 x4 x5 x6 x7 x8 x9 x10 : Option V) (y : Option V) (r : St) (vs : List Nat), wipe (x0 :: x1 :: x2 :: x3 :: x4 :: x5 :: x6 :: x7 :: x8 :: x9 :: x10 :: y :: r) (11 :: vs) = Setn (wipe (x0 :: x1 :: x2 :: x3 :: x4 :: x5 :: x6 :: x7 :: x8 :: x9 :: x10 :: y :: r) vs) 11 := fun _ _ _ _ _ _ _ _ _ _ _ _ _ _ => rfl
theorem w151 : ∀ (x0 x1 x2 x3 x4 x5 x6 x7 x8 x9 x10 : Option V) (y : Option V) (r : St), Setn (x0 :: x1 :: x2 :: x3 :: x4 :: x5 :: x6 :: x7 :: x8 :: x9 :: x10 :: y :: r) 11 = (x0 :: x1 :: x2 :: x3 :: x4 :: x5 :: x6 :: x7 :: x8 :: x9 :: x10 :: none :: r) := fun _ _ _ _ _ _ _ _ _ _ _ _ _ => rfl
theorem w152 : ∀ (x0 x1 x2 x3 x4 x5 x6 x7 x8 x9 x10 x11 : Option V) (v : V) (r : St) (H : Hp) (Q : VK), tVar 12 (x0 :: x1 :: x2 :: x3 :: x4 :: x5 :: x6 :: x7 :: x8 :: x9 :: x10 :: x11 :: some v :: r) H Q = Q v H := fun _ _ _ _ _ _ _ _ _ _ _ _ _ _ _ _ => propext ⟨fun ⟨_, a, q⟩ => by cases a; exact q, fun q => ⟨_, rfl, q⟩⟩
theorem w153 : ∀ (x0 x1 x2 x3 x4 x5 x6 x7 x8 x9 x10 x11 : Option V) (y : Option V) (v : V) (r : St) (H : Hp) (Q : St → Hp → Prop), gName 12 v (x0 :: x1 :: x2 :: x3 :: x4 :: x5 :: x6 :: x7 :: x8 :: x9 :: x10 :: x11 :: y :: r) H Q = Q (x0 :: x1 :: x2 :: x3 :: x4 :: x5 :: x6 :: x7 :: x8 :: x9 :: x10 :: x11 :: some v :: r) H := fun _ _ _ _ _ _ _ _ _ _ _ _ _ _ _ _ _ => rfl
theorem w154 : ∀ (x0 x1 x2 x3 x4 x5 x6 x7 x8 x9 x10 x11 : Option V) (v : V) (r : St) (te : TE) (ti : TIp) (D : Ends) (H : Hp), tAug 12 te ti D (x0 :: x1 :: x2 :: x3 :: x4 :: x5 :: x6 :: x7 :: x8 :: x9 :: x10 :: x11 :: some v :: r) H = te (x0 :: x1 :: x2 :: x3 :: x4 :: x5 :: x6 :: x7 :: x8 :: x9 :: x10 :: x11 :: some v :: r) H (fun y H1 => ti v y H1 (fun z H2 => D.nx (x0 :: x1 :: x2 :: x3 :: x4 :: x5 :: x6 :: x7 :: x8 :: x9 :: x10 :: x11 :: some z :: r) H2)) := fun _ _ _ _ _ _ _ _ _ _ _ _ _ _ _ _ _ _ => propext ⟨fun ⟨_, a, q⟩ => by cases a; exact q, fun q => ⟨_, rfl, q⟩⟩
theorem w155 : ∀ (x0 x1 x2 x3 x4 x5 x6 x7 x8 x9 x10 x11 : Option V) (y : Option V) (r : St) (vs : List Nat), wipe (x0 :: x1 :: x2 :: x3 :: x4 :: x5 :: x6 :: x7 :: x8 :: x9 :: x10 :: x11 :: y :: r) (12 :: vs) = Setn (wipe (x0 :: x1 :: x2 :: x3 :: x4 :: x5 :: x6 :: x7 :: x8 :: x9 :: x10 :: x11 :: y :: r) vs) 12 := fun _ _ _ _ _ _ _ _ _ _ _ _ _ _ _ => rfl
theorem w156 : ∀ (x0 x1 x2 x3 x4 x5 x6 x7 x8 x9 x10 x11 : Option V) (y : Option V) (r : St), Setn (x0 :: x1 :: x2 :: x3 :: x4 :: x5 :: x6 :: x7 :: x8 :: x9 :: x10 :: x11 :: y :: r) 12 = (x0 :: x1 :: x2 :: x3 :: x4 :: x5 :: x6 :: x7 :: x8 :: x9 :: x10 :: x11 :: none :: r) := fun _ _ _ _ _ _ _ _ _ _ _ _ _ _ => rfl
theorem w157 : ∀ (x0 x1 x2 x3 x4 x5 x6 x7 x8 x9 x10 x11 x12 : Option V) (v : V) (r : St) (H : Hp) (Q : VK), tVar 13 (x0 :: x1 :: x2 :: x3 :: x4 :: x5 :: x6 :: x7 :: x8 :: x9 :: x10 :: x11 :: x12 :: some v :: r) H Q = Q v H := fun _ _ _ _ _ _ _ _ _ _ _ _ _ _ _ _ _ => propext ⟨fun ⟨_, a, q⟩ => by cases a; exact q, fun q => ⟨_, rfl, q⟩⟩
theorem w158 : ∀ (x0 x1 x2 x3 x4 x5 x6 x7 x8 x9 x10 x11 x12 : Option V) (y : Option V) (v : V) (r : St) (H : Hp) (Q : St → Hp → Prop), gName 13 v (x0 :: x1 :: x2 :: x3 :: x4 :: x5 :: x6 :: x7 :: x8 :: x9 :: x10 :: x11 :: x12 :: y :: r) H Q = Q (x0 :: x1 :: x2 :: x3 :: x4 :: x5 :: x6 :: x7 :: x8 :: x9 :: x10 :: x11 :: x12 :: some v :: r) H := fun _ _ _ _ _ _ _ _ _ _ _ _ _ _ _ _ _ _ => rfl
theorem w159 : ∀ (x0 x1 x2 x3 x4 x5 x6 x7 x8 x9 x10 x11 x12 : Option V) (v : V) (r : St) (te : TE) (ti : TIp) (D : Ends) (H : Hp), tAug 13 te ti D (x0 :: x1 :: x2 :: x3 :: x4 :: x5 :: x6 :: x7 :: x8 :: x9 :: x10 :: x11 :: x12 :: some v :: r) H = te (x0 :: x1 :: x2 :: x3 :: x4 :: x5 :: x6 :: x7 :: x8 :: x9 :: x10 :: x11 :: x12 :: some v :: r) H (fun y H1 => ti v y H1 (fun z H2 => D.nx (x0 :: x1 :: x2 :: x3 :: x4 :: x5 :: x6 :: x7 :: x8 :: x9 :: x10 :: x11 :: x12 :: some z :: r) H2)) := fun _ _ _ _ _ _ _ _ _ _ _ _ _ _ _ _ _ _ _ => propext ⟨fun ⟨_, a, q⟩ => by cases a; exact q, fun q => ⟨_, rfl, q⟩⟩
theorem w160 : ∀ (x0 x1 x2 x3 x4 x5 x6 x7 x8 x9 x10 x11 x12 : Option V) (y : Option V) (r : St) (vs : List Nat), wipe (x0 :: x1 :: x2 :: x3 :: x4 :: x5 :: x6 :: x7 :: x8 :: x9 :: x10 :: x11 :: x12 :: y :: r) (13 :: vs) = Setn (wipe (x0 :: x1 :: x2 :: x3 :: x4 :: x5 :: x6 :: x7 :: x8 :: x9 :: x10 :: x11 :: x12 :: y :: r) vs) 13 := fun _ _ _ _ _ _ _ _ _ _ _ _ _ _ _ _ => rfl
theorem w161 : ∀ (x0 x1 x2 x3 x4 x5 x6 x7 x8 x9 x10 x11 x12 : Option V) (y : Option V) (r : St), Setn (x0 :: x1 :: x2 :: x3 :: x4 :: x5 :: x6 :: x7 :: x8 :: x9 :: x10 :: x11 :: x12 :: y :: r) 13 = (x0 :: x1 :: x2 :: x3 :: x4 :: x5 :: x6 :: x7 :: x8 :: x9 :: x10 :: x11 :: x12 :: none :: r) := fun _ _ _ _ _ _ _ _ _ _ _ _ _ _ _ => rfl
theorem w162 : ∀ (x0 x1 x2 x3 x4 x5 x6 x7 x8 x9 x10 x11 x12 x13 : Option V) (v : V) (r : St) (H : Hp) (Q : VK), tVar 14 (x0 :: x1 :: x2 :: x3 :: x4 :: x5 :: x6 :: x7 :: x8 :: x9 :: x10 :: x11 :: x12 :: x13 :: some v :: r) H Q = Q v H := fun _ _ _ _ _ _ _ _ _ _ _ _ _ _ _ _ _ _ => propext ⟨fun ⟨_, a, q⟩ => by cases a; exact q, fun q => ⟨_, rfl, q⟩⟩
theorem w163 : ∀ (x0 x1 x2 x3 x4 x5 x6 x7 x8 x9 x10 x11 x12 x13 : Option V) (y : Option V) (v : V) (r : St) (H : Hp) (Q : St → Hp → Prop), gName 14 v (x0 :: x1 :: x2 :: x3 :: x4 :: x5 :: x6 :: x7 :: x8 :: x9 :: x10 :: x11 :: x12 :: x13 :: y :: r) H Q = Q (x0 :: x1 :: x2 :: x3 :: x4 :: x5 :: x6 :: x7 :: x8 :: x9 :: x10 :: x11 :: x12 :: x13 :: some v :: r) H := fun _ _ _ _ _ _ _ _ _ _ _ _ _ _ _ _ _ _ _ => rfl
theorem w164 : ∀ (x0 x1 x2 x3 x4 x5 x6 x7 x8 x9 x10 x11 x12 x13 : Option V) (v : V) (r : St) (te : TE) (ti : TIp) (D : Ends) (H : Hp), tAug 14 te ti D (x0 :: x1 :: x2 :: x3 :: x4 :: x5 :: x6 :: x7 :: x8 :: x9 :: x10 :: x11 :: x12 :: x13 :: some v :: r) H = te (x0 :: x1 :: x2 :: x3 :: x4 :: x5 :: x6 :: x7 :: x8 :: x9 :: x10 :: x11 :: x12 :: x13 :: some v :: r) H (fun y H1 => ti v y H1 (fun z H2 => D.nx (x0 :: x1 :: x2 :: x3 :: x4 :: x5 :: x6 :: x7 :: x8 :: x9 :: x10 :: x11 :: x12 :: x13 :: some z :: r) H2)) := fun _ _ _ _ _ _ _ _ _ _ _ _ _ _ _ _ _ _ _ _ => propext ⟨fun ⟨_, a, q⟩ => by cases a; exact q, fun q => ⟨_, rfl, q⟩⟩
theorem w165 : ∀ (x0 x1 x2 x3 x4 x5 x6 x7 x8 x9 x10 x11 x12 x13 : Option V) (y : Option V) (r : St) (vs : List Nat), wipe (x0 :: x1 :: x2 :: x3 :: x4 :: x5 :: x6 :: x7 :: x8 :: x9 :: x10 :: x11 :: x12 :: x13 :: y :: r) (14 :: vs) = Setn (wipe (x0 :: x1 :: x2 :: x3 :: x4 :: x5 :: x6 :: x7 :: x8 :: x9 :: x10 :: x11 :: x12 :: x13 :: y :: r) vs) 14 := fun _ _ _ _ _ _ _ _ _ _ _ _ _ _ _ _ _ => rfl
theorem w166 : ∀ (x0 x1 x2 x3 x4 x5 x6 x7 x8 x9 x10 x11 x12 x13 : Option V) (y : Option V) (r : St), Setn (x0 :: x1 :: x2 :: x3 :: x4 :: x5 :: x6 :: x7 :: x8 :: x9 :: x10 :: x11 :: x12 :: x13 :: y :: r) 14 = (x0 :: x1 :: x2 :: x3 :: x4 :: x5 :: x6 :: x7 :: x8 :: x9 :: x10 :: x11 :: x12 :: x13 :: none :: r) := fun _ _ _ _ _ _ _ _ _ _ _ _ _ _ _ _ => rfl
theorem w167 : ∀ (x0 x1 x2 x3 x4 x5 x6 x7 x8 x9 x10 x11 x12 x13 x14 : Option V) (v : V) (r : St) (H : Hp) (Q : VK), tVar 15 (x0 :: x1 :: x2 :: x3 :: x4 :: x5 :: x6 :: x7 :: x8 :: x9 :: x10 :: x11 :: x12 :: x13 :: x14 :: some v :: r) H Q = Q v H := fun _ _ _ _ _ _ _ _ _ _ _ _ _ _ _ _ _ _ _ => propext ⟨fun ⟨_, a, q⟩ => by cases a; exact q, fun q => ⟨_, rfl, q⟩⟩
theorem w168 : ∀ (x0 x1 x2 x3 x4 x5 x6 x7 x8 x9 x10 x11 x12 x13 x14 : Option V) (y : Option V) (v : V) (r : St) (H : Hp) (Q : St → Hp → Prop), gName 15 v (x0 :: x1 :: x2 :: x3 :: x4 :: x5 :: x6 :: x7 :: x8 :: x9 :: x10 :: x11 :: x12 :: x13 :: x14 :: y :: r) H Q = Q (x0 :: x1 :: x2 :: x3 :: x4 :: x5 :: x6 :: x7 :: x8 :: x9 :: x10 :: x11 :: x12 :: x13 :: x14 :: some v :: r) H := fun _ _ _ _ _ _ _ _ _ _ _ _ _ _ _ _ _ _ _ _ => rfl
theorem w169 : ∀ (x0 x1 x2 x3 x4 x5 x6 x7 x8 x9 x10 x11 x12 x13 x14 : Option V) (v : V) (r : St) (te : TE) (ti : TIp) (D : Ends) (H : Hp), tAug 15 te ti D (x0 :: x1 :: x2 :: x3 :: x4 :: x5 :: x6 :: x7 :: x8 :: x9 :: x10 :: x11 :: x12 :: x13 :: x14 :: some v :: r) H = te (x0 :: x1 :: x2 :: x3 :: x4 :: x5 :: x6 :: x7 :: x8 :: x9 :: x10 :: x11 :: x12 :: x13 :: x14 :: some v :: r) H (fun y H1 => ti v y H1 (fun z H2 => D.nx (x0 :: x1 :: x2 :: x3 :: x4 :: x5 :: x6 :: x7 :: x8 :: x9 :: x10 :: x11 :: x12 :: x13 :: x14 :: some z :: r) H2)) := fun _ _ _ _ _ _ _ _ _ _ _ _ _ _ _ _ _ _ _ _ _ => propext ⟨fun ⟨_, a, q⟩ => by cases a; exact q, fun q => ⟨_, rfl, q⟩⟩
theorem w170 : ∀ (x0 x1 x2 x3 x4 x5 x6 x7 x8 x9 x10 x11 x12 x13 x14 : Option V) (y : Option V) (r : St) (vs : List Nat), wipe (x0 :: x1 :: x2 :: x3 :: x4 :: x5 :: x6 :: x7 :: x8 :: x9 :: x10 :: x11 :: x12 :: x13 :: x14 :: y :: r) (15 :: vs) = Setn (wipe (x0 :: x1 :: x2 :: x3 :: x4 :: x5 :: x6 :: x7 :: x8 :: x9 :: x10 :: x11 :: x12 :: x13 :: x14 :: y :: r) vs) 15 := fun _ _ _ _ _ _ _ _ _ _ _ _ _ _ _ _ _ _ => rfl
theorem w171 : ∀ (x0 x1 x2 x3 x4 x5 x6 x7 x8 x9 x10 x11 x12 x13 x14 : Option V) (y : Option V) (r : St), Setn (x0 :: x1 :: x2 :: x3 :: x4 :: x5 :: x6 :: x7 :: x8 :: x9 :: x10 :: x11 :: x12 :: x13 :: x14 :: y :: r) 15 = (x0 :: x1 :: x2 :: x3 :: x4 :: x5 :: x6 :: x7 :: x8 :: x9 :: x10 :: x11 :: x12 :: x13 :: x14 :: none :: r) := fun _ _ _ _ _ _ _ _ _ _ _ _ _ _ _ _ _ => rfl
theorem w172 : ∀ (x0 x1 x2 x3 x4 x5 x6 x7 x8 x9 x10 x11 x12 x13 x14 x15 : Option V) (v : V) (r : St) (H : Hp) (Q : VK), tVar 16 (x0 :: x1 :: x2 :: x3 :: x4 :: x5 :: x6 :: x7 :: x8 :: x9 :: x10 :: x11 :: x12 :: x13 :: x14 :: x15 :: some v :: r) H Q = Q v H := fun _ _ _ _ _ _ _ _ _ _ _ _ _ _ _ _ _ _ _ _ => propext ⟨fun ⟨_, a, q⟩ => by cases a; exact q, fun q => ⟨_, rfl, q⟩⟩
theorem w173 : ∀ (x0 x1 x2 x3 x4 x5 x6 x7 x8 x9 x10 x11 x12 x13 x14 x15 : Option V) (y : Option V) (v : V) (r : St) (H : Hp) (Q : St → Hp → Prop), gName 16 v (x0 :: x1 :: x2 :: x3 :: x4 :: x5 :: x6 :: x7 :: x8 :: x9 :: x10 :: x11 :: x12 :: x13 :: x14 :: x15 :: y :: r) H Q = Q (x0 :: x1 :: x2 :: x3 :: x4 :: x5 :: x6 :: x7 :: x8 :: x9 :: x10 :: x11 :: x12 :: x13 :: x14 :: x15 :: some v :: r) H := fun _ _ _ _ _ _ _ _ _ _ _ _ _ _ _ _ _ _ _ _ _ => rfl
theorem w174 : ∀ (x0 x1 x2 x3 x4 x5 x6 x7 x8 x9 x10 x11 x12 x13 x14 x15 : Option V) (v : V) (r : St) (te : TE) (ti : TIp) (D : Ends) (H : Hp), tAug 16 te ti D (x0 :: x1 :: x2 :: x3 :: x4 :: x5 :: x6 :: x7 :: x8 :: x9 :: x10 :: x11 :: x12 :: x13 :: x14 :: x15 :: some v :: r) H = te (x0 :: x1 :: x2 :: x3 :: x4 :: x5 :: x6 :: x7 :: x8 :: x9 :: x10 :: x11 :: x12 :: x13 :: x14 :: x15 :: some v :: r) H (fun y H1 => ti v y H1 (fun z H2 => D.nx (x0 :: x1 :: x2 :: x3 :: x4 :: x5 :: x6 :: x7 :: x8 :: x9 :: x10 :: x11 :: x12 :: x13 :: x14 :: x15 :: some z :: r) H2)) := fun _ _ _ _ _ _ _ _ _ _ _ _ _ _ _ _ _ _ _ _ _ _ => propext ⟨fun ⟨_, a, q⟩ => by cases a; exact q, fun q => ⟨_, rfl, q⟩⟩
theorem w175 : ∀ (x0 x1 x2 x3 x4 x5 x6 x7 x8 x9 x10 x11 x12 x13 x14 x15 : Option V) (y : Option V) (r : St) (vs : List Nat), wipe (x0 :: x1 :: x2 :: x3 :: x4 :: x5 :: x6 :: x7 :: x8 :: x9 :: x10 :: x11 :: x12 :: x13 :: x14 :: x15 :: y :: r) (16 :: vs) = Setn (wipe (x0 :: x1 :: x2 :: x3 :: x4 :: x5 :: x6 :: x7 :: x8 :: x9 :: x10 :: x11 :: x12 :: x13 :: x14 :: x15 :: y :: r) vs) 16 := fun _ _ _ _ _ _ _ _ _ _ _ _ _ _ _ _ _ _ _ => rfl
theorem w176 : ∀ (x0 x1 x2 x3 x4 x5 x6 x7 x8 x9 x10 x11 x12 x13 x14 x15 : Option V) (y : Option V) (r : St), Setn (x0 :: x1 :: x2 :: x3 :: x4 :: x5 :: x6 :: x7 :: x8 :: x9 :: x10 :: x11 :: x12 :: x13 :: x14 :: x15 :: y :: r) 16 = (x0 :: x1 :: x2 :: x3 :: x4 :: x5 :: x6 :: x7 :: x8 :: x9 :: x10 :: x11 :: x12 :: x13 :: x14 :: x15 :: none :: r) := fun _ _ _ _ _ _ _ _ _ _ _ _ _ _ _ _ _ _ => rfl
theorem w177 : ∀ (x0 x1 x2 x3 x4 x5 x6 x7 x8 x9 x10 x11 x12 x13 x14 x15 x16 : Option V) (v : V) (r : St) (H : Hp) (Q : VK), tVar 17 (x0 :: x1 :: x2 :: x3 :: x4 :: x5 :: x6 :: x7 :: x8 :: x9 :: x10 :: x11 :: x12 :: x13 :: x14 :: x15 :: x16 :: some v :: r) H Q = Q v H := fun _ _ _ _ _ _ _ _ _ _ _ _ _ _ _ _ _ _ _ _ _ => propext ⟨fun ⟨_, a, q⟩ => by cases a; exact q, fun q => ⟨_, rfl, q⟩⟩
theorem w178 : ∀ (x0 x1 x2 x3 x4 x5 x6 x7 x8 x9 x10 x11 x12 x13 x14 x15 x16 : Option V) (y : Option V) (v : V) (r : St) (H : Hp) (Q : St → Hp → Prop), gName 17 v (x0 :: x1 :: x2 :: x3 :: x4 :: x5 :: x6 :: x7 :: x8 :: x9 :: x10 :: x11 :: x12 :: x13 :: x14 :: x15 :: x16 :: y :: r) H Q = Q (x0 :: x1 :: x2 :: x3 :: x4 :: x5 :: x6 :: x7 :: x8 :: x9 :: x10 :: x11 :: x12 :: x13 :: x14 :: x15 :: x16 :: some v :: r) H := fun _ _ _ _ _ _ _ _ _ _ _ _ _ _ _ _ _ _ _ _ _ _ => rfl
theorem w179 : ∀ (x0 x1 x2 x3 x4 x5 x6 x7 x8 x9 x10 x11 x12 x13 x14 x15 x16 : Option V) (v : V) (r : St) (te : TE) (ti : TIp) (D : Ends) (H : Hp), tAug 17 te ti D (x0 :: x1 :: x2 :: x3 :: x4 :: x5 :: x6 :: x7 :: x8 :: x9 :: x10 :: x11 :: x12 :: x13 :: x14 :: x15 :: x16 :: some v :: r) H = te (x0 :: x1 :: x2 :: x3 :: x4 :: x5 :: x6 :: x7 :: x8 :: x9 :: x10 :: x11 :: x12 :: x13 :: x14 :: x15 :: x16 :: some v :: r) H (fun y H1 => ti v y H1 (fun z H2 => D.nx (x0 :: x1 :: x2 :: x3 :: x4 :: x5 :: x6 :: x7 :: x8 :: x9 :: x10 :: x11 :: x12 :: x13 :: x14 :: x15 :: x16 :: some z :: r) H2)) := fun _ _ _ _ _ _ _ _ _ _ _ _ _ _ _ _ _ _ _ _ _ _ _ => propext ⟨fun ⟨_, a, q⟩ => by cases a; exact q, fun q => ⟨_, rfl, q⟩⟩
theorem w180 : ∀ (x0 x1 x2 x3 x4 x5 x6 x7 x8 x9 x10 x11 x12 x13 x14 x15 x16 : Option V) (y : Option V) (r : St) (vs : List Nat), wipe (x0 :: x1 :: x2 :: x3 :: x4 :: x5 :: x6 :: x7 :: x8 :: x9 :: x10 :: x11 :: x12 :: x13 :: x14 :: x15 :: x16 :: y :: r) (17 :: vs) = Setn (wipe (x0 :: x1 :: x2 :: x3 :: x4 :: x5 :: x6 :: x7 :: x8 :: x9 :: x10 :: x11 :: x12 :: x13 :: x14 :: x15 :: x16 :: y :: r) vs) 17 := fun _ _ _ _ _ _ _ _ _ _ _ _ _ _ _ _ _ _ _ _ => rfl
theorem w181 : ∀ (x0 x1 x2 x3 x4 x5 x6 x7 x8 x9 x10 x11 x12 x13 x14 x15 x16 : Option V) (y : Option V) (r : St), Setn (x0 :: x1 :: x2 :: x3 :: x4 :: x5 :: x6 :: x7 :: x8 :: x9 :: x10 :: x11 :: x12 :: x13 :: x14 :: x15 :: x16 :: y :: r) 17 = (x0 :: x1 :: x2 :: x3 :: x4 :: x5 :: x6 :: x7 :: x8 :: x9 :: x10 :: x11 :: x12 :: x13 :: x14 :: x15 :: x16 :: none :: r) := fun _ _ _ _ _ _ _ _ _ _ _ _ _ _ _ _ _ _ _ => rfl
theorem w182 : ∀ (x0 x1 x2 x3 x4 x5 x6 x7 x8 x9 x10 x11 x12 x13 x14 x15 x16 x17 : Option V) (v : V) (r : St) (H : Hp) (Q : VK), tVar 18 (x0 :: x1 :: x2 :: x3 :: x4 :: x5 :: x6 :: x7 :: x8 :: x9 :: x10 :: x11 :: x12 :: x13 :: x14 :: x15 :: x16 :: x17 :: some v :: r) H Q = Q v H := fun _ _ _ _ _ _ _ _ _ _ _ _ _ _ _ _ _ _ _ _ _ _ => propext ⟨fun ⟨_, a, q⟩ => by cases a; exact q, fun q => ⟨_, rfl, q⟩⟩
theorem w183 : ∀ (x0 x1 x2 x3 x4 x5 x6 x7 x8 x9 x10 x11 x12 x13 x14 x15 x16 x17 : Option V) (y : Option V) (v : V) (r : St) (H : Hp) (Q : St → Hp → Prop), gName 18 v (x0 :: x1 :: x2 :: x3 :: x4 :: x5 :: x6 :: x7 :: x8 :: x9 :: x10 :: x11 :: x12 :: x13 :: x14 :: x15 :: x16 :: x17 :: y :: r) H Q = Q (x0 :: x1 :: x2 :: x3 :: x4 :: x5 :: x6 :: x7 :: x8 :: x9 :: x10 :: x11 :: x12 :: x13 :: x14 :: x15 :: x16 :: x17 :: some v :: r) H := fun _ _ _ _ _ _ _ _ _ _ _ _ _ _ _ _ _ _ _ _ _ _ _ => rfl
theorem w184 : ∀ (x0 x1 x2 x3 x4 x5 x6 x7 x8 x9 x10 x11 x12 x13 x14 x15 x16 x17 : Option V) (v : V) (r : St) (te : TE) (ti : TIp) (D : Ends) (H : Hp), tAug 18 te ti D (x0 :: x1 :: x2 :: x3 :: x4 :: x5 :: x6 :: x7 :: x8 :: x9 :: x10 :: x11 :: x12 :: x13 :: x14 :: x15 :: x16 :: x17 :: some v :: r) H = te (x0 :: x1 :: x2 :: x3 :: x4 :: x5 :: x6 :: x7 :: x8 :: x9 :: x10 :: x11 :: x12 :: x13 :: x14 :: x15 :: x16 :: x17 :: some v :: r) H (fun y H1 => ti v y H1 (fun z H2 => D.nx (x0 :: x1 :: x2 :: x3 :: x4 :: x5 :: x6 :: x7 :: x8 :: x9 :: x10 :: x11 :: x12 :: x13 :: x14 :: x15 :: x16 :: x17 :: some z :: r) H2)) := fun _ _ _ _ _ _ _ _ _ _ _ _ _ _ _ _ _ _ _ _ _ _ _ _ => propext ⟨fun ⟨_, a, q⟩ => by cases a; exact q, fun q => ⟨_, rfl, q⟩⟩
theorem w185 : ∀ (x0 x1 x2 x3 x4 x5 x6 x7 x8 x9 x10 x11 x12 x13 x14 x15 x16 x17 : Option V) (y : Option V) (r : St) (vs : List Nat), wipe (x0 :: x1 :: x2 :: x3 :: x4 :: x5 :: x6 :: x7 :: x8 :: x9 :: x10 :: x11 :: x12 :: x13 :: x14 :: x15 :: x16 :: x17 :: y :: r) (18 :: vs) = Setn (wipe (x0 :: x1 :: x2 :: x3 :: x4 :: x5 :: x6 :: x7 :: x8 :: x9 :: x10 :: x11 :: x12 :: x13 :: x14 :: x15 :: x16 :: x17 :: y :: r) vs) 18 := fun _ _ _ _ _ _ _ _ _ _ _ _ _ _ _ _ _ _ _ _ _ => rfl
theorem w186 : ∀ (x0 x1 x2 x3 x4 x5 x6 x7 x8 x9 x10 x11 x12 x13 x14 x15 x16 x17 : Option V) (y : Option V) (r : St), Setn (x0 :: x1 :: x2 :: x3 :: x4 :: x5 :: x6 :: x7 :: x8 :: x9 :: x10 :: x11 :: x12 :: x13 :: x14 :: x15 :: x16 :: x17 :: y :: r) 18 = (x0 :: x1 :: x2 :: x3 :: x4 :: x5 :: x6 :: x7 :: x8 :: x9 :: x10 :: x11 :: x12 :: x13 :: x14 :: x15 :: x16 :: x17 :: none :: r) := fun _ _ _ _ _ _ _ _ _ _ _ _ _ _ _ _ _ _ _ _ => rfl
theorem w187 : ∀ (x0 x1 x2 x3 x4 x5 x6 x7 x8 x9 x10 x11 x12 x13 x14 x15 x16 x17 x18 : Option V) (v : V) (r : St) (H : Hp) (Q : VK), tVar 19 (x0 :: x1 :: x2 :: x3 :: x4 :: x5 :: x6 :: x7 :: x8 :: x9 :: x10 :: x11 :: x12 :: x13 :: x14 :: x15 :: x16 :: x17 :: x18 :: some v :: r) H Q = Q v H := fun _ _ _ _ _ _ _ _ _ _ _ _ _ _ _ _ _ _ _ _ _ _ _ => propext ⟨fun ⟨_, a, q⟩ => by cases a; exact q, fun q => ⟨_, rfl, q⟩⟩
theorem w188 : ∀ (x0 x1 x2 x3 x4 x5 x6 x7 x8 x9 x10 x11 x12 x13 x14 x15 x16 x17 x18 : Option V) (y : Option V) (v : V) (r : St) (H : Hp) (Q : St → Hp → Prop), gName 19 v (x0 :: x1 :: x2 :: x3 :: x4 :: x5 :: x6 :: x7 :: x8 :: x9 :: x10 :: x11 :: x12 :: x13 :: x14 :: x15 :: x16 :: x17 :: x18 :: y :: r) H Q = Q (x0 :: x1 :: x2 :: x3 :: x4 :: x5 :: x6 :: x7 :: x8 :: x9 :: x10 :: x11 :: x12 :: x13 :: x14 :: x15 :: x16 :: x17 :: x18 :: some v :: r) H := fun _ _ _ _ _ _ _ _ _ _ _ _ _ _ _ _ _ _ _ _ _ _ _ _ => rfl
theorem w189 : ∀ (x0 x1 x2 x3 x4 x5 x6 x7 x8 x9 x10 x11 x12 x13 x14 x15 x16 x17 x18 : Option V) (v : V) (r : St) (te : TE) (ti : TIp) (D : Ends) (H : Hp), tAug 19 te ti D (x0 :: x1 :: x2 :: x3 :: x4 :: x5 :: x6 :: x7 :: x8 :: x9 :: x10 :: x11 :: x12 :: x13 :: x14 :: x15 :: x16 :: x17 :: x18 :: some v :: r) H = te (x0 :: x1 :: x2 :: x3 :: x4 :: x5 :: x6 :: x7 :: x8 :: x9 :: x10 :: x11 :: x12 :: x13 :: x14 :: x15 :: x16 :: x17 :: x18 :: some v :: r) H (fun y H1 => ti v y H1 (fun z H2 => D.nx (x0 :: x1 :: x2 :: x3 :: x4 :: x5 :: x6 :: x7 :: x8 :: x9 :: x10 :: x11 :: x12 :: x13 :: x14 :: x15 :: x16 :: x17 :: x18 :: some z :: r) H2)) := fun _ _ _ _ _ _ _ _ _ _ _ _ _ _ _ _ _ _ _ _ _ _ _ _ _ => propext ⟨fun ⟨_, a, q⟩ => by cases a; exact q, fun q => ⟨_, rfl, q⟩⟩
theorem w190 : ∀ (x0 x1 x2 x3 x4 x5 x6 x7 x8 x9 x10 x11 x12 x13 x14 x15 x16 x17 x18 : Option V) (y : Option V) (r : St) (vs : List Nat), wipe (x0 :: x1 :: x2 :: x3 :: x4 :: x5 :: x6 :: x7 :: x8 :: x9 :: x10 :: x11 :: x12 :: x13 :: x14 :: x15 :: x16 :: x17 :: x18 :: y :: r) (19 :: vs) = Setn (wipe (x0 :: x1 :: x2 :: x3 :: x4 :: x5 :: x6 :: x7 :: x8 :: x9 :: x10 :: x11 :: x12 :: x13 :: x14 :: x15 :: x16 :: x17 :: x18 :: y :: r) vs) 19 := fun _ _ _ _ _ _ _ _ _ _ _ _ _ _ _ _ _ _ _ _ _ _ => rfl
theorem w191 : ∀ (x0 x1 x2 x3 x4 x5 x6 x7 x8 x9 x10 x11 x12 x13 x14 x15 x16 x17 x18 : Option V) (y : Option V) (r : St), Setn (x0 :: x1 :: x2 :: x3 :: x4 :: x5 :: x6 :: x7 :: x8 :: x9 :: x10 :: x11 :: x12 :: x13 :: x14 :: x15 :: x16 :: x17 :: x18 :: y :: r) 19 = (x0 :: x1 :: x2 :: x3 :: x4 :: x5 :: x6 :: x7 :: x8 :: x9 :: x10 :: x11 :: x12 :: x13 :: x14 :: x15 :: x16 :: x17 :: x18 :: none :: r) := fun _ _ _ _ _ _ _ _ _ _ _ _ _ _ _ _ _ _ _ _ _ => rfl
theorem w192 : ∀ (v : V) (r : List V), atI (v :: r) 0 = some v := fun _ _ => atI_nat (j := 0) rfl
theorem w193 : ∀ (x0 : V) (v : V) (r : List V), atI (x0 :: v :: r) 1 = some v := fun _ _ _ => atI_nat (j := 1) rfl
theorem w194 : ∀ (x0 x1 : V) (v : V) (r : List V), atI (x0 :: x1 :: v :: r) 2 = some v := fun _ _ _ _ => atI_nat (j := 2) rfl
theorem w195 : ∀ (x0 x1 x2 : V) (v : V) (r : List V), atI (x0 :: x1 :: x2 :: v :: r) 3 = some v := fun _ _ _ _ _ => atI_nat (j := 3) rfl
theorem w196 : ∀ (x0 x1 x2 x3 : V) (v : V) (r : List V), atI (x0 :: x1 :: x2 :: x3 :: v :: r) 4 = some v := fun _ _ _ _ _ _ => atI_nat (j := 4) rfl
theorem w197 : ∀ (x0 x1 x2 x3 x4 : V) (v : V) (r : List V), atI (x0 :: x1 :: x2 :: x3 :: x4 :: v :: r) 5 = some v := fun _ _ _ _ _ _ _ => atI_nat (j := 5) rfl
theorem w198 : ∀ (x0 x1 x2 x3 x4 x5 : V) (v : V) (r : List V), atI (x0 :: x1 :: x2 :: x3 :: x4 :: x5 :: v :: r) 6 = some v := fun _ _ _ _ _ _ _ _ => atI_nat (j := 6) rfl
theorem w199 : ∀ ( y : V) (r : List V), ixN (y :: r).length 0 = some 0 := fun _ _ => by simp only [ixN, List.length_cons]; rw [if_pos (by omega), if_pos (by omega)]; rfl
theorem w200 : ∀ ( y v : V) (r : List V), (y :: r).set 0 v = v :: r := fun _ _ _ => rfl
theorem w201 : ∀ (x0 y : V) (r : List V), ixN (x0 :: y :: r).length 1 = some 1 := fun _ _ _ => by simp only [ixN, List.length_cons]; rw [if_pos (by omega), if_pos (by omega)]; rfl
theorem w202 : ∀ (x0 y v : V) (r : List V), (x0 :: y :: r).set 1 v = x0 :: v :: r := fun _ _ _ _ => rfl
theorem w203 : ∀ (x0 x1 y : V) (r : List V), ixN (x0 :: x1 :: y :: r).length 2 = some 2 := fun _ _ _ _ => by simp only [ixN, List.length_cons]; rw [if_pos (by omega), if_pos (by omega)]; rfl
theorem w204 : ∀ (x0 x1 y v : V) (r : List V), (x0 :: x1 :: y :: r).set 2 v = x0 :: x1 :: v :: r := fun _ _ _ _ _ => rfl
theorem w205 : ∀ (x0 x1 x2 y : V) (r : List V), ixN (x0 :: x1 :: x2 :: y :: r).length 3 = some 3 := fun _ _ _ _ _ => by simp only [ixN, List.length_cons]; rw [if_pos (by omega), if_pos (by omega)]; rfl
theorem w206 : ∀ (x0 x1 x2 y v : V) (r : List V), (x0 :: x1 :: x2 :: y :: r).set 3 v = x0 :: x1 :: x2 :: v :: r := fun _ _ _ _ _ _ => rfl
theorem w207 : ∀ (x0 x1 x2 x3 y : V) (r : List V), ixN (x0 :: x1 :: x2 :: x3 :: y :: r).length 4 = some 4 := fun _ _ _ _ _ _ => by simp only [ixN, List.length_cons]; rw [if_pos (by omega), if_pos (by omega)]; rfl
theorem w208 : ∀ (x0 x1 x2 x3 y v : V) (r : List V), (x0 :: x1 :: x2 :: x3 :: y :: r).set 4 v = x0 :: x1 :: x2 :: x3 :: v :: r := fun _ _ _ _ _ _ _ => rfl
theorem w209 : ∀ (x0 x1 x2 x3 x4 y : V) (r : List V), ixN (x0 :: x1 :: x2 :: x3 :: x4 :: y :: r).length 5 = some 5 := fun _ _ _ _ _ _ _ => by simp only [ixN, List.length_cons]; rw [if_pos (by omega), if_pos (by omega)]; rfl
theorem w210 : ∀ (x0 x1 x2 x3 x4 y v : V) (r : List V), (x0 :: x1 :: x2 :: x3 :: x4 :: y :: r).set 5 v = x0 :: x1 :: x2 :: x3 :: x4 :: v :: r := fun _ _ _ _ _ _ _ _ => rfl
theorem w211 : ∀ (H : Hp) (p a : Addr) (o : HO), H p = none → (H a).isSome = true → upd H p o a = H a := fun H p a o hp ha => by obtain ⟨u, e⟩ := Option.isSome_iff_exists.mp ha; exact upd_ne (ne_of_none e hp)
theorem w212 : ∀ (H : Hp) (p : Addr) (o : HO), upd H p o p = some o := fun _ _ _ => upd_same
theorem w213 : ∀ (i j : Int), (-18446744073709551616 < j ∧ j < 18446744073709551616) → CMul i j = True := fun i j h => eq_true (.inr h)
theorem w214 : ∀ (i j : Int), (-18446744073709551616 < i ∧ i < 18446744073709551616) → CMul i j = True := fun i j h => eq_true (.inl h)
theorem w215 : ∀ (xs : List V), (some xs).isSome = true := fun _ => rfl
theorem w216 : ∀ (x : HO), (some x).isSome = true := fun _ => rfl
theorem w217 : ∀ (x : V) (r : List V), seqIndex? 0 (x :: r).length = some 0 := fun x r => by simp [seqIndex?]
theorem w218 : ∀ (x : V) (r : List V), (x :: r)[0]? = some x := fun _ _ => rfl
theorem w219 : ∀ (x : V) (r : List V), (x :: r).eraseIdx 0 = r := fun _ _ => rfl
theorem w220 : ∀ (c : Nat) (z : Str) (H : Hp) (Q : VK), rInSg (.str ⟨#[c]⟩) (.str z) H Q = Q (.bl (decide (c ∈ z.cps.toList))) H := fun c z H Q => propext ⟨fun ⟨_, _, a, b, q⟩ => by cases a; cases b; exact q, fun q => ⟨c, z, rfl, rfl, q⟩⟩
theorem w221 : ∀ (c : Nat) (z : Str) (H : Hp) (Q : VK), rNiSg (.str ⟨#[c]⟩) (.str z) H Q = Q (.bl (!decide (c ∈ z.cps.toList))) H := fun c z H Q => propext ⟨fun ⟨_, _, a, b, q⟩ => by cases a; cases b; exact q, fun q => ⟨c, z, rfl, rfl, q⟩⟩
theorem w222 : ∀ (i j : Str) (H : Hp) (Q : VK), rAddS (.str i) (.str j) H Q = (i.length + j.length ≤ sizeLine ∧ Q (.str (i ++ j)) H) := fun i j H Q => propext ⟨fun ⟨_, _, a, b, q⟩ => by cases a; cases b; exact q, fun q => ⟨i, j, rfl, rfl, q⟩⟩
theorem w223 : ∀ (p : List Nat → List Nat → Bool) (i j : Str) (H : Hp) (Q : VK), rStC p (.str i) (.str j) H Q = Q (.bl (p i.cps.toList j.cps.toList)) H := fun p i j H Q => propext ⟨fun ⟨_, _, a, b, q⟩ => by cases a; cases b; exact q, fun q => ⟨i, j, rfl, rfl, q⟩⟩
theorem w224 : ∀ (z : Str) (H : Hp) (Q : VK), rLenS [.str z] H Q = (z.length ≤ sizeLine ∧ Q (.int z.length) H) := fun z H Q => propext ⟨fun ⟨_, a, q⟩ => by cases a; exact q, fun q => ⟨z, rfl, q⟩⟩
theorem w225 : ∀ (z : Str) (n : Int) (H : Hp) (Q : VK), rMulS (.str z) (.int n) H Q = (z.length ≤ 4000 ∧ -1000 ≤ n ∧ n ≤ 4000 ∧ ∀ r : Str, r.cps.toList = (List.replicate n.toNat z.cps.toList).flatten → Q (.str r) H) := fun z n H Q => propext ⟨fun ⟨_, _, a, b, q⟩ => by cases a; cases b; exact q, fun q => ⟨z, n, rfl, rfl, q⟩⟩
theorem w226 : ∀ (a : Str) (p : Addr) (H : Hp) (Q : VK), rJoinS (.str a) [.ref p] H Q = (∃ ys : List Str, H p = some (.lst (ys.map V.str)) ∧ (ys.map (·.length)).sum + ys.length * a.length ≤ 16777216 ∧ Q (.str (Str.join a ys)) H) := fun a p H Q => propext ⟨fun ⟨_, _, ys, e1, e2, q⟩ => by cases e1; cases e2; exact ⟨ys, q⟩, fun ⟨ys, q⟩ => ⟨a, p, ys, rfl, rfl, q⟩⟩
theorem w227 : ∀ (i : Str), (∃ a, V.str i = V.str a) = True := fun i => eq_true ⟨i, rfl⟩
theorem w228 : ∀ (a b : Bool) (H : Hp) (Q : VK), rIsB (.bl a) (.bl b) H Q = Q (.bl (decide (a = b))) H := fun a b H Q => propext ⟨fun ⟨_, _, e1, e2, q⟩ => by cases e1; cases e2; exact q, fun q => ⟨a, b, rfl, rfl, q⟩⟩
theorem w229 : ∀ (a b : Bool) (H : Hp) (Q : VK), rNotB (.bl a) (.bl b) H Q = Q (.bl (!decide (a = b))) H := fun a b H Q => propext ⟨fun ⟨_, _, e1, e2, q⟩ => by cases e1; cases e2; exact q, fun q => ⟨a, b, rfl, rfl, q⟩⟩
theorem w230 : ∀ (c : Bool) (j i : Int) (p : Int → Int → Bool) (σ : St) (H : Hp) (Q : VK), Chk c (tC (.int j)) (rI0 (fun i j => V.bl (p i j)) (.int i)) σ H Q = Q (.bl (c && p i j)) H := fun c j i p σ H Q => by cases c <;> simp [Chk, tC, rI0]
theorem w231 : ∀ (c : Bool) (j i : Str) (p : List Nat → List Nat → Bool) (σ : St) (H : Hp) (Q : VK), Chk c (tC (.str j)) (rStC p (.str i)) σ H Q = Q (.bl (c && p i.cps.toList j.cps.toList)) H := fun c j i p σ H Q => by cases c <;> simp [Chk, tC, rStC]
theorem w232 : ∀ (c : Bool) (j i : Int) (p : Int → Int → Bool) (r : St) (H : Hp) (Q : VK), Chk c (tVar 0) (rI0 (fun i j => V.bl (p i j)) (.int i)) (some (.int j) :: r) H Q = Q (.bl (c && p i j)) H := fun c j i p r H Q => by cases c <;> simp [Chk, tVar, rI0]
theorem w233 : ∀ (x0 : Option V) (c : Bool) (j i : Int) (p : Int → Int → Bool) (r : St) (H : Hp) (Q : VK), Chk c (tVar 1) (rI0 (fun i j => V.bl (p i j)) (.int i)) (x0 :: some (.int j) :: r) H Q = Q (.bl (c && p i j)) H := fun x0 c j i p r H Q => by cases c <;> simp [Chk, tVar, rI0]
theorem w234 : ∀ (x0 x1 : Option V) (c : Bool) (j i : Int) (p : Int → Int → Bool) (r : St) (H : Hp) (Q : VK), Chk c (tVar 2) (rI0 (fun i j => V.bl (p i j)) (.int i)) (x0 :: x1 :: some (.int j) :: r) H Q = Q (.bl (c && p i j)) H := fun x0 x1 c j i p r H Q => by cases c <;> simp [Chk, tVar, rI0]
theorem w235 : ∀ (x0 x1 x2 : Option V) (c : Bool) (j i : Int) (p : Int → Int → Bool) (r : St) (H : Hp) (Q : VK), Chk c (tVar 3) (rI0 (fun i j => V.bl (p i j)) (.int i)) (x0 :: x1 :: x2 :: some (.int j) :: r) H Q = Q (.bl (c && p i j)) H := fun x0 x1 x2 c j i p r H Q => by cases c <;> simp [Chk, tVar, rI0]
theorem w236 : ∀ (x0 x1 x2 x3 : Option V) (c : Bool) (j i : Int) (p : Int → Int → Bool) (r : St) (H : Hp) (Q : VK), Chk c (tVar 4) (rI0 (fun i j => V.bl (p i j)) (.int i)) (x0 :: x1 :: x2 :: x3 :: some (.int j) :: r) H Q = Q (.bl (c && p i j)) H := fun x0 x1 x2 x3 c j i p r H Q => by cases c <;> simp [Chk, tVar, rI0]
theorem w237 : ∀ (x0 x1 x2 x3 x4 : Option V) (c : Bool) (j i : Int) (p : Int → Int → Bool) (r : St) (H : Hp) (Q : VK), Chk c (tVar 5) (rI0 (fun i j => V.bl (p i j)) (.int i)) (x0 :: x1 :: x2 :: x3 :: x4 :: some (.int j) :: r) H Q = Q (.bl (c && p i j)) H := fun x0 x1 x2 x3 x4 c j i p r H Q => by cases c <;> simp [Chk, tVar, rI0]
theorem w238 : ∀ (x0 x1 x2 x3 x4 x5 : Option V) (c : Bool) (j i : Int) (p : Int → Int → Bool) (r : St) (H : Hp) (Q : VK), Chk c (tVar 6) (rI0 (fun i j => V.bl (p i j)) (.int i)) (x0 :: x1 :: x2 :: x3 :: x4 :: x5 :: some (.int j) :: r) H Q = Q (.bl (c && p i j)) H := fun x0 x1 x2 x3 x4 x5 c j i p r H Q => by cases c <;> simp [Chk, tVar, rI0]
theorem w239 : ∀ (x0 x1 x2 x3 x4 x5 x6 : Option V) (c : Bool) (j i : Int) (p : Int → Int → Bool) (r : St) (H : Hp) (Q : VK), Chk c (tVar 7) (rI0 (fun i j => V.bl (p i j)) (.int i)) (x0 :: x1 :: x2 :: x3 :: x4 :: x5 :: x6 :: some (.int j) :: r) H Q = Q (.bl (c && p i j)) H := fun x0 x1 x2 x3 x4 x5 x6 c j i p r H Q => by cases c <;> simp [Chk, tVar, rI0]
theorem w240 : ∀ (x0 x1 x2 x3 x4 x5 x6 x7 : Option V) (c : Bool) (j i : Int) (p : Int → Int → Bool) (r : St) (H : Hp) (Q : VK), Chk c (tVar 8) (rI0 (fun i j => V.bl (p i j)) (.int i)) (x0 :: x1 :: x2 :: x3 :: x4 :: x5 :: x6 :: x7 :: some (.int j) :: r) H Q = Q (.bl (c && p i j)) H := fun x0 x1 x2 x3 x4 x5 x6 x7 c j i p r H Q => by cases c <;> simp [Chk, tVar, rI0]
theorem w241 : ∀ (x0 x1 x2 x3 x4 x5 x6 x7 x8 : Option V) (c : Bool) (j i : Int) (p : Int → Int → Bool) (r : St) (H : Hp) (Q : VK), Chk c (tVar 9) (rI0 (fun i j => V.bl (p i j)) (.int i)) (x0 :: x1 :: x2 :: x3 :: x4 :: x5 :: x6 :: x7 :: x8 :: some (.int j) :: r) H Q = Q (.bl (c && p i j)) H := fun x0 x1 x2 x3 x4 x5 x6 x7 x8 c j i p r H Q => by cases c <;> simp [Chk, tVar, rI0]
theorem w242 : ∀ (x0 x1 x2 x3 x4 x5 x6 x7 x8 x9 : Option V) (c : Bool) (j i : Int) (p : Int → Int → Bool) (r : St) (H : Hp) (Q : VK), Chk c (tVar 10) (rI0 (fun i j => V.bl (p i j)) (.int i)) (x0 :: x1 :: x2 :: x3 :: x4 :: x5 :: x6 :: x7 :: x8 :: x9 :: some (.int j) :: r) H Q = Q (.bl (c && p i j)) H := fun x0 x1 x2 x3 x4 x5 x6 x7 x8 x9 c j i p r H Q => by cases c <;> simp [Chk, tVar, rI0]
theorem w243 : ∀ (x0 x1 x2 x3 x4 x5 x6 x7 x8 x9 x10 : Option V) (c : Bool) (j i : Int) (p : Int → Int → Bool) (r : St) (H : Hp) (Q : VK), Chk c (tVar 11) (rI0 (fun i j => V.bl (p i j)) (.int i)) (x0 :: x1 :: x2 :: x3 :: x4 :: x5 :: x6 :: x7 :: x8 :: x9 :: x10 :: some (.int j) :: r) H Q = Q (.bl (c && p i j)) H := fun x0 x1 x2 x3 x4 x5 x6 x7 x8 x9 x10 c j i p r H Q => by cases c <;> simp [Chk, tVar, rI0]
theorem w244 : ∀ (x0 x1 x2 x3 x4 x5 x6 x7 x8 x9 x10 x11 : Option V) (c : Bool) (j i : Int) (p : Int → Int → Bool) (r : St) (H : Hp) (Q : VK), Chk c (tVar 12) (rI0 (fun i j => V.bl (p i j)) (.int i)) (x0 :: x1 :: x2 :: x3 :: x4 :: x5 :: x6 :: x7 :: x8 :: x9 :: x10 :: x11 :: some (.int j) :: r) H Q = Q (.bl (c && p i j)) H := fun x0 x1 x2 x3 x4 x5 x6 x7 x8 x9 x10 x11 c j i p r H Q => by cases c <;> simp [Chk, tVar, rI0]
theorem w245 : ∀ (x0 x1 x2 x3 x4 x5 x6 x7 x8 x9 x10 x11 x12 : Option V) (c : Bool) (j i : Int) (p : Int → Int → Bool) (r : St) (H : Hp) (Q : VK), Chk c (tVar 13) (rI0 (fun i j => V.bl (p i j)) (.int i)) (x0 :: x1 :: x2 :: x3 :: x4 :: x5 :: x6 :: x7 :: x8 :: x9 :: x10 :: x11 :: x12 :: some (.int j) :: r) H Q = Q (.bl (c && p i j)) H := fun x0 x1 x2 x3 x4 x5 x6 x7 x8 x9 x10 x11 x12 c j i p r H Q => by cases c <;> simp [Chk, tVar, rI0]
theorem w246 : ∀ (x0 x1 x2 x3 x4 x5 x6 x7 x8 x9 x10 x11 x12 x13 : Option V) (c : Bool) (j i : Int) (p : Int → Int → Bool) (r : St) (H : Hp) (Q : VK), Chk c (tVar 14) (rI0 (fun i j => V.bl (p i j)) (.int i)) (x0 :: x1 :: x2 :: x3 :: x4 :: x5 :: x6 :: x7 :: x8 :: x9 :: x10 :: x11 :: x12 :: x13 :: some (.int j) :: r) H Q = Q (.bl (c && p i j)) H := fun x0 x1 x2 x3 x4 x5 x6 x7 x8 x9 x10 x11 x12 x13 c j i p r H Q => by cases c <;> simp [Chk, tVar, rI0]
theorem w247 : ∀ (x0 x1 x2 x3 x4 x5 x6 x7 x8 x9 x10 x11 x12 x13 x14 : Option V) (c : Bool) (j i : Int) (p : Int → Int → Bool) (r : St) (H : Hp) (Q : VK), Chk c (tVar 15) (rI0 (fun i j => V.bl (p i j)) (.int i)) (x0 :: x1 :: x2 :: x3 :: x4 :: x5 :: x6 :: x7 :: x8 :: x9 :: x10 :: x11 :: x12 :: x13 :: x14 :: some (.int j) :: r) H Q = Q (.bl (c && p i j)) H := fun x0 x1 x2 x3 x4 x5 x6 x7 x8 x9 x10 x11 x12 x13 x14 c j i p r H Q => by cases c <;> simp [Chk, tVar, rI0]
theorem w248 : ∀ (CX : CXT) (P : Program) (w : World) (K : PySem.W.Frag) (mg : Str → Option Value) (base : Heap) (N : List Str) (qual : Str) (scope : Scope) (f : Addr) (cd : Value) (A : Around) (outer : List Env) (s : Shared) (H : Hp) (E : XK), (cxOf CX P w K mg base N qual scope f cd A outer s H E).K = K := fun _ _ _ _ _ _ _ _ _ _ _ _ _ _ _ _ => rfl
theorem w249 : ∀ (i j : Int), (0 ≤ j ∧ j ≤ 1000000 ∧ -18446744073709551616 < i ∧ i < 18446744073709551616) → CPow i j = True := fun i j h => eq_true ⟨h.1, h.2.1, by omega⟩
theorem w250 : (([] : List V).length ≤ sizeLine) = True := eq_true (by show 0 ≤ sizeLine; decide)
theorem w251 : ∀ (x0 : V), (([x0] : List V).length ≤ sizeLine) = True := fun x0 => eq_true (by show 1 ≤ sizeLine; decide)
theorem w252 : ∀ (x0 x1 : V), (([x0, x1] : List V).length ≤ sizeLine) = True := fun x0 x1 => eq_true (by show 2 ≤ sizeLine; decide)
theorem w253 : ∀ (x0 x1 x2 : V), (([x0, x1, x2] : List V).length ≤ sizeLine) = True := fun x0 x1 x2 => eq_true (by show 3 ≤ sizeLine; decide)
theorem w254 : ∀ (x0 x1 x2 x3 : V), (([x0, x1, x2, x3] : List V).length ≤ sizeLine) = True := fun x0 x1 x2 x3 => eq_true (by show 4 ≤ sizeLine; decide)
theorem w255 : ∀ (x0 x1 x2 x3 x4 : V), (([x0, x1, x2, x3, x4] : List V).length ≤ sizeLine) = True := fun x0 x1 x2 x3 x4 => eq_true (by show 5 ≤ sizeLine; decide)
theorem w256 : ∀ (x0 x1 x2 x3 x4 x5 : V), (([x0, x1, x2, x3, x4, x5] : List V).length ≤ sizeLine) = True := fun x0 x1 x2 x3 x4 x5 => eq_true (by show 6 ≤ sizeLine; decide)
theorem w257 : ∀ (x0 x1 x2 x3 x4 x5 x6 : V), (([x0, x1, x2, x3, x4, x5, x6] : List V).length ≤ sizeLine) = True := fun x0 x1 x2 x3 x4 x5 x6 => eq_true (by show 7 ≤ sizeLine; decide)
theorem w258 : ∀ (x0 x1 x2 x3 x4 x5 x6 x7 : V), (([x0, x1, x2, x3, x4, x5, x6, x7] : List V).length ≤ sizeLine) = True := fun x0 x1 x2 x3 x4 x5 x6 x7 => eq_true (by show 8 ≤ sizeLine; decide)
theorem wp : (∀ (t u : TS) (D : Ends) (σ : St) (H : Hp), tSeq t u D σ H = t ⟨u D, D.rt, D.bk, D.ct⟩ σ H) ∧
  (∀ (D : Ends) (σ : St) (H : Hp), tNext D σ H = D.nx σ H) ∧
  (∀ (D : Ends) (σ : St) (H : Hp), tBreak D σ H = D.bk σ H) ∧
  (∀ (D : Ends) (σ : St) (H : Hp), tCont D σ H = D.ct σ H) ∧
  (∀ (v : V) (σ : St) (H : Hp) (Q : VK), tC v σ H Q = Q v H) ∧
  (∀ (r : R2) (a b : TE) (σ : St) (H : Hp) (Q : VK), tOp r a b σ H Q = a σ H (fun x H1 => b σ H1 (fun y H2 => r x y H2 Q))) ∧
  (∀ (r : V → Hp → VK → Prop) (a : TE) (σ : St) (H : Hp) (Q : VK), tUn r a σ H Q = a σ H (fun x H1 => r x H1 Q)) ∧
  (∀ (C : Int → Int → Prop) (g : Int → Int → V) (i j : Int) (H : Hp) (Q : VK), rI C g (.int i) (.int j) H Q = (C i j ∧ Q (g i j) H)) ∧
  (∀ (g : Int → Int → V) (i j : Int) (H : Hp) (Q : VK), rI0 g (.int i) (.int j) H Q = Q (g i j) H) ∧
  (∀ (g : Int → V) (i : Int) (H : Hp) (Q : VK), rU g (.int i) H Q = Q (g i) H) ∧
  (∀ (i j : Int) (H : Hp) (Q : VK), rEq (.int i) (.int j) H Q = Q (.bl (decide (i = j))) H) ∧
  (∀ (i j : Str) (H : Hp) (Q : VK), rEq (.str i) (.str j) H Q = Q (.bl (decide (i = j))) H) ∧
  (∀ (i j : Bool) (H : Hp) (Q : VK), rEq (.bl i) (.bl j) H Q = Q (.bl (decide (i = j))) H) ∧
  (∀ (i j : Int) (H : Hp) (Q : VK), rNe (.int i) (.int j) H Q = Q (.bl (!decide (i = j))) H) ∧
  (∀ (i j : Str) (H : Hp) (Q : VK), rNe (.str i) (.str j) H Q = Q (.bl (!decide (i = j))) H) ∧
  (∀ (i j : Bool) (H : Hp) (Q : VK), rNe (.bl i) (.bl j) H Q = Q (.bl (!decide (i = j))) H) ∧
  (∀ (t : TE) (σ : St) (H : Hp) (Q : Bool → Hp → Prop), tTest t σ H Q = t σ H (fun x H1 => BlK x (fun k => Q k H1))) ∧
  (∀ (t : TE) (σ : St) (H : Hp) (Q : Bool → Hp → Prop), tB t σ H Q = t σ H (fun x H1 => BlK x (fun k => Q k H1))) ∧
  (∀ (k : Bool) (Q : Bool → Prop), BlK (.bl k) Q = Q k) ∧
  (∀ (t u : TT) (σ : St) (H : Hp) (Q : Bool → Hp → Prop), tAnd t u σ H Q = t σ H (fun c H1 => Andk c u σ H1 Q)) ∧
  (∀ (t u : TT) (σ : St) (H : Hp) (Q : Bool → Hp → Prop), tOr t u σ H Q = t σ H (fun c H1 => Ork c u σ H1 Q)) ∧
  (∀ (t : TT) (σ : St) (H : Hp) (Q : Bool → Hp → Prop), tNot t σ H Q = t σ H (fun c H1 => Q (!c) H1)) ∧
  (∀ (t u : TE) (σ : St) (H : Hp) (Q : VK), tAndV t u σ H Q = t σ H (fun x H1 => BlK x (fun c => AndVk c u σ H1 Q))) ∧
  (∀ (t u : TE) (σ : St) (H : Hp) (Q : VK), tOrV t u σ H Q = t σ H (fun x H1 => BlK x (fun c => OrVk c u σ H1 Q))) ∧
  (∀ (t : TE) (σ : St) (H : Hp) (Q : VK), tNotV t σ H Q = t σ H (fun x H1 => BlK x (fun c => Q (.bl (!c)) H1))) ∧
  (∀ (t : TT) (a b : TE) (σ : St) (H : Hp) (Q : VK), tIf t a b σ H Q = t σ H (fun c H1 => IfEk c a b σ H1 Q)) ∧
  (∀ (r r' : R2) (a b c : TE) (σ : St) (H : Hp) (Q : VK), tChain r r' a b c σ H Q = a σ H (fun x H1 => b σ H1 (fun y H2 => r x y H2 (fun z H3 => BlK z (fun k => Chk k c (r' y) σ H3 Q))))) ∧
  (∀ (c : TT) (t u : TS) (D : Ends) (σ : St) (H : Hp), tIfS c t u D σ H = c σ H (fun b H1 => Ifk b (t D) (u D) σ H1)) ∧
  (∀ (t : TE) (g : TG) (D : Ends) (σ : St) (H : Hp), tAsg t g D σ H = t σ H (fun x H1 => g x σ H1 D.nx)) ∧
  (∀ (t : TE) (D : Ends) (σ : St) (H : Hp), tRet t D σ H = t σ H D.rt) ∧
  (∀ (D : Ends) (σ : St) (H : Hp), tRetN D σ H = D.rt .non H) ∧
  (∀ (t : TE) (D : Ends) (σ : St) (H : Hp), tDrop t D σ H = t σ H (fun _ H1 => D.nx σ H1)) ∧
  (∀ (σ : St) (H : Hp) (Q : List V → Hp → Prop), tNil σ H Q = Q [] H) ∧
  (∀ (a : TE) (r : TA) (σ : St) (H : Hp) (Q : List V → Hp → Prop), tCons a r σ H Q = a σ H (fun x H1 => r σ H1 (fun xs H2 => Q (x :: xs) H2))) ∧
  (∀ (t : TA) (σ : St) (H : Hp) (Q : VK), tTup t σ H Q = t σ H (fun xs H1 => xs.length ≤ sizeLine ∧ New H1 (.tup xs) (fun p H2 => Q (.ref p) H2))) ∧
  (∀ (t : TA) (σ : St) (H : Hp) (Q : VK), tLst t σ H Q = t σ H (fun xs H1 => xs.length ≤ sizeLine ∧ New H1 (.lst xs) (fun p H2 => Q (.ref p) H2))) ∧
  (∀ (r : List V → Hp → VK → Prop) (t : TA) (σ : St) (H : Hp) (Q : VK), tCB r t σ H Q = t σ H (fun vs H1 => r vs H1 Q)) ∧
  (∀ (sp : Sp) (E : XK) (t : TA) (σ : St) (H : Hp) (Q : VK), tCall sp [] E t σ H Q = t σ H (fun vs H1 => sp vs H1 Q E)) ∧
  (∀ (p : Addr) (i : Int) (H : Hp) (Q : VK), rIxl (.ref p) (.int i) H Q = (∃ xs, lstOf (H p) = some xs ∧ ∃ v, atI xs i = some v ∧ Q v H)) ∧
  (∀ (p : Addr) (i : Int) (H : Hp) (Q : VK), rIxt (.ref p) (.int i) H Q = (∃ xs, tupOf (H p) = some xs ∧ ∃ v, atI xs i = some v ∧ Q v H)) ∧
  (∀ (z : Str) (i : Int) (H : Hp) (Q : VK), rIxS (.str z) (.int i) H Q = (z.length ≤ sizeLine ∧ ∃ c, atI z.cps.toList i = some c ∧ Q (.str ⟨#[c]⟩) H)) ∧
  (∀ (p : Addr) (H : Hp) (Q : VK), rLenq [.ref p] H Q = (∃ xs, seqOf (H p) = some xs ∧ Q (.int xs.length) H)) ∧
  (∀ (p : Addr) (H : Hp) (Q : VK), rListq [.ref p] H Q = (∃ xs, seqOf (H p) = some xs ∧ New H (.lst xs) (fun l H2 => Q (.ref l) H2))) ∧
  (∀ (i : Int) (H : Hp) (Q : VK), rInt1 [.int i] H Q = Q (.int i) H) ∧
  (∀ (xs : List V), lstOf (some (.lst xs)) = some xs) ∧
  (∀ (xs : List V), tupOf (some (.tup xs)) = some xs) ∧
  (∀ (xs : List V), seqOf (some (.lst xs)) = some xs) ∧
  (∀ (xs : List V), seqOf (some (.tup xs)) = some xs) ∧
  (∀ (K : PySem.W.Frag) (p : Addr) (H : Hp), (lstOf (H p)).isSome = true → tyV K "list" (.ref p) H = True) ∧
  (∀ (K : PySem.W.Frag) (T : String) (r : V → List V → Hp → VK → Prop) (o : TE) (σ : St) (H : Hp) (Q : VK), tBM0 K T r o σ H Q = o σ H (fun x H1 => tyV K T x H1 ∧ r x [] H1 Q)) ∧
  (∀ (K : PySem.W.Frag) (T : String) (r : V → List V → Hp → VK → Prop) (o : TE) (t : TA) (σ : St) (H : Hp) (Q : VK), tBM K T r o t σ H Q = o σ H (fun x H1 => tyV K T x H1 ∧ t σ H1 (fun xs H2 => r x xs H2 Q))) ∧
  (∀ (l : Addr) (y : V) (H : Hp) (Q : VK), rAppend (.ref l) [y] H Q = (∃ xs, lstOf (H l) = some xs ∧ xs.length < sizeLine ∧ Q .non (upd H l (.lst (xs ++ [y]))))) ∧
  (∀ (l : Addr) (i : Int) (H : Hp) (Q : VK), rPopAt (.ref l) [.int i] H Q = (∃ xs, lstOf (H l) = some xs ∧ -(2 ^ 63) ≤ i ∧ i < 2 ^ 63 ∧ ∃ k, seqIndex? i xs.length = some k ∧ ∃ y, xs[k]? = some y ∧ Q y (upd H l (.lst (xs.eraseIdx k))))) ∧
  (∀ (l : Addr) (H : Hp) (Q : VK), rClear (.ref l) [] H Q = (∃ xs, lstOf (H l) = some xs ∧ Q .non (upd H l (.lst [])))) ∧
  (∀ (p : Addr) (k : Int) (v : V) (H : Hp) (Q : Hp → Prop), rSetL (.ref p) (.int k) v H Q = (∃ xs, lstOf (H p) = some xs ∧ ∃ j, ixN xs.length k = some j ∧ Q (upd H p (.lst (xs.set j v))))) ∧
  (∀ (o i : TE) (t : TSet) (v : V) (σ : St) (H : Hp) (Q : St → Hp → Prop), gSub o i t v σ H Q = o σ H (fun x H1 => i σ H1 (fun y H2 => t x y v H2 (fun H3 => Q σ H3)))) ∧
  (∀ (f : Int → Int → Int) (i j : Int) (H : Hp) (Q : VK), ipI f (.int i) (.int j) H Q = Q (.int (f i j)) H) ∧
  (∀ (σ : St) (H : Hp) (Q : St → Hp → Prop), gNil [] σ H Q = Q σ H) ∧
  (∀ (t : TG) (u : TGs) (v : V) (r : List V) (σ : St) (H : Hp) (Q : St → Hp → Prop), gCons t u (v :: r) σ H Q = t v σ H (fun s1 H1 => u r s1 H1 Q)) ∧
  (∀ (n : Nat) (t : TGs) (a : Addr) (σ : St) (H : Hp) (Q : St → Hp → Prop), gTupq n t (.ref a) σ H Q = (∃ xs, tupOf (H a) = some xs ∧ xs.length = n ∧ t xs σ H Q)) ∧
  (∀ (i j : Nat) (ta : TA) (D : Ends) (σ : St) (H : Hp), tPar i j ta D σ H = ta σ H (fun vs H1 => ParK i j vs D σ H1)) ∧
  (∀ (i j : Nat) (v w : V) (D : Ends) (σ : St) (H : Hp), ParK i j [v, w] D σ H = gName i v σ H (fun s1 H1 => gName j w s1 H1 D.nx)) ∧
  (∀ (f : TE) (σ : St) (H : Hp) (Q : Option Int → Hp → Prop), tPart f σ H Q = f σ H (fun x H1 => IntK x (fun i => Q (some i) H1))) ∧
  (∀ (σ : St) (H : Hp) (Q : Option Int → Hp → Prop), tNoPart σ H Q = Q none H) ∧
  (∀ (i : Int) (Q : Int → Prop), IntK (.int i) Q = Q i) ∧
  (∀ (r : V → Option Int → Option Int → Hp → VK → Prop) (e : TE) (l h : TO) (σ : St) (H : Hp) (Q : VK), tSl r e l h σ H Q = e σ H (fun x H1 => l σ H1 (fun a H2 => h σ H2 (fun b H3 => r x a b H3 Q)))) ∧
  (∀ (z : Str) (l h : Option Int) (H : Hp) (Q : VK), rSlS (.str z) l h H Q = (z.length ≤ sizeLine ∧ Q (.str (cutS z l h)) H)) ∧
  (∀ (p : Addr) (l h : Option Int) (H : Hp) (Q : VK), rSlq (.ref p) l h H Q = (∃ xs, lstOf (H p) = some xs ∧ New H (.lst (cutV xs l h)) (fun q H2 => Q (.ref q) H2))) ∧
  (∀ (wi : TI) (g : TG) (tb : TS) (D : Ends) (σ : St) (H : Hp), tFor wi g tb D σ H = wi σ H (fun J H1 => LoopK J g tb D σ H1)) ∧
  (∀ (wi : TI) (g : TG) (tt : TT) (te : TE) (vs : List Nat) (σ : St) (H : Hp) (Q : VK), tLc wi g tt te vs σ H Q = wi σ H (fun J H1 => LcK J g tt te vs σ H1 Q)) ∧
  (∀ (K : PySem.W.Frag) (tl : TE) (σ : St) (H : Hp) (R : It → Hp → Prop), iList K tl σ H R = tl σ H (fun x H1 => ListK K x H1 R)) ∧
  (∀ (K : PySem.W.Frag) (p : Addr) (H : Hp) (R : It → Hp → Prop), (lstOf (H p)).isSome = true → ListK K (.ref p) H R = R (Itl K p) H) ∧
  (∀ (te : TE) (σ : St) (H : Hp) (R : It → Hp → Prop), iStr te σ H R = te σ H (fun x H1 => StrK x (fun z => R (Its z) H1))) ∧
  (∀ (i : Str) (Q : Str → Prop), StrK (.str i) Q = Q i) ∧
  (∀ (ta : TA) (σ : St) (H : Hp) (R : It → Hp → Prop), iRng1 ta σ H R = ta σ H (fun vs H1 => Rng1K vs (fun j => -(2 ^ 62) ≤ j ∧ j < 2 ^ 62 ∧ R (Itr 0 j.toNat) H1))) ∧
  (∀ (j : Int) (Q : Int → Prop), Rng1K [.int j] Q = Q j) ∧
  (∀ (ta : TA) (σ : St) (H : Hp) (R : It → Hp → Prop), iRng2 ta σ H R = ta σ H (fun vs H1 => Rng2K vs (fun i j => (-(2 ^ 62) ≤ i ∧ i < 2 ^ 62 ∧ -(2 ^ 62) ≤ j ∧ j < 2 ^ 62) ∧ R (Itr i (j - i).toNat) H1))) ∧
  (∀ (i j : Int) (Q : Int → Int → Prop), Rng2K [.int i, .int j] Q = Q i j) ∧
  (∀ (tt : TT) (te : TE) (vs : List Nat) (w0 : St) (D : Addr) (N : Hp → Prop) (s2 : St) (H2 : Hp), LcT tt te vs w0 D N s2 H2 = (wipe s2 vs = w0 ∧ tt s2 H2 (fun b H3 => LcE te D N b s2 H3))) ∧
  (∀ (σ : St) (H : Hp) (Q : Bool → Hp → Prop), tYes σ H Q = Q true H) ∧
  (∀ (te : TE) (D : Addr) (N : Hp → Prop) (s2 : St) (H3 : Hp), LcE te D N true s2 H3 = te s2 H3 (fun y H4 => LcP D N y H4)) ∧
  (∀ (te : TE) (D : Addr) (N : Hp → Prop) (s2 : St) (H3 : Hp), LcE te D N false s2 H3 = N H3) ∧
  (∀ (D : Addr) (N : Hp → Prop) (y : V) (H4 : Hp), LcP D N y H4 = (∃ acc, lstOf (H4 D) = some acc ∧ acc.length < sizeLine ∧ N (upd H4 D (.lst (acc ++ [y]))))) ∧
  (∀ (σ : St), wipe σ [] = σ) ∧
  (∀ (r : V → List V → Hp → VK → Prop) (o e : TE) (σ : St) (H : Hp) (Q : VK), tM1 r o e σ H Q = o σ H (fun x H1 => (∃ a, x = .str a) ∧ e σ H1 (fun y H2 => r x [y] H2 Q))) ∧
  (∀ (r : V → List V → Hp → VK → Prop) (o : TE) (σ : St) (H : Hp) (Q : VK), tM0 r o σ H Q = o σ H (fun x H1 => (∃ a, x = .str a) ∧ r x [] H1 Q)) ∧
  (∀ (P : Hp → VK → XK → Prop) (H : Hp) (Q : VK) (E : XK), Sp0 P [] H Q E = P  H Q E) ∧
  (∀ (P : V → Hp → VK → XK → Prop) (a : V) (H : Hp) (Q : VK) (E : XK), Sp1 P [a] H Q E = P a H Q E) ∧
  (∀ (P : V → V → Hp → VK → XK → Prop) (a b : V) (H : Hp) (Q : VK) (E : XK), Sp2 P [a, b] H Q E = P a b H Q E) ∧
  (∀ (P : V → V → V → Hp → VK → XK → Prop) (a b c : V) (H : Hp) (Q : VK) (E : XK), Sp3 P [a, b, c] H Q E = P a b c H Q E) ∧
  (∀ (P : V → V → V → V → Hp → VK → XK → Prop) (a b c d : V) (H : Hp) (Q : VK) (E : XK), Sp4 P [a, b, c, d] H Q E = P a b c d H Q E) ∧
  (∀ (P : V → V → V → V → V → Hp → VK → XK → Prop) (a b c d e : V) (H : Hp) (Q : VK) (E : XK), Sp5 P [a, b, c, d, e] H Q E = P a b c d e H Q E) ∧
  (∀ (v : V) (r : St) (H : Hp) (Q : VK), tVar 0 (some v :: r) H Q = Q v H) ∧
  (∀ (y : Option V) (v : V) (r : St) (H : Hp) (Q : St → Hp → Prop), gName 0 v (y :: r) H Q = Q (some v :: r) H) ∧
  (∀ (v : V) (r : St) (te : TE) (ti : TIp) (D : Ends) (H : Hp), tAug 0 te ti D (some v :: r) H = te (some v :: r) H (fun y H1 => ti v y H1 (fun z H2 => D.nx (some z :: r) H2))) ∧
  (∀ (y : Option V) (r : St) (vs : List Nat), wipe (y :: r) (0 :: vs) = Setn (wipe (y :: r) vs) 0) ∧
  (∀ (y : Option V) (r : St), Setn (y :: r) 0 = (none :: r)) ∧
  (∀ (x0 : Option V) (v : V) (r : St) (H : Hp) (Q : VK), tVar 1 (x0 :: some v :: r) H Q = Q v H) ∧
  (∀ (x0 : Option V) (y : Option V) (v : V) (r : St) (H : Hp) (Q : St → Hp → Prop), gName 1 v (x0 :: y :: r) H Q = Q (x0 :: some v :: r) H) ∧
  (∀ (x0 : Option V) (v : V) (r : St) (te : TE) (ti : TIp) (D : Ends) (H : Hp), tAug 1 te ti D (x0 :: some v :: r) H = te (x0 :: some v :: r) H (fun y H1 => ti v y H1 (fun z H2 => D.nx (x0 :: some z :: r) H2))) ∧
  (∀ (x0 : Option V) (y : Option V) (r : St) (vs : List Nat), wipe (x0 :: y :: r) (1 :: vs) = Setn (wipe (x0 :: y :: r) vs) 1) ∧
  (∀ (x0 : Option V) (y : Option V) (r : St), Setn (x0 :: y :: r) 1 = (x0 :: none :: r)) ∧
  (∀ (x0 x1 : Option V) (v : V) (r : St) (H : Hp) (Q : VK), tVar 2 (x0 :: x1 :: some v :: r) H Q = Q v H) ∧
  (∀ (x0 x1 : Option V) (y : Option V) (v : V) (r : St) (H : Hp) (Q : St → Hp → Prop), gName 2 v (x0 :: x1 :: y :: r) H Q = Q (x0 :: x1 :: some v :: r) H) ∧
  (∀ (x0 x1 : Option V) (v : V) (r : St) (te : TE) (ti : TIp) (D : Ends) (H : Hp), tAug 2 te ti D (x0 :: x1 :: some v :: r) H = te (x0 :: x1 :: some v :: r) H (fun y H1 => ti v y H1 (fun z H2 => D.nx (x0 :: x1 :: some z :: r) H2))) ∧
  (∀ (x0 x1 : Option V) (y : Option V) (r : St) (vs : List Nat), wipe (x0 :: x1 :: y :: r) (2 :: vs) = Setn (wipe (x0 :: x1 :: y :: r) vs) 2) ∧
  (∀ (x0 x1 : Option V) (y : Option V) (r : St), Setn (x0 :: x1 :: y :: r) 2 = (x0 :: x1 :: none :: r)) ∧
  (∀ (x0 x1 x2 : Option V) (v : V) (r : St) (H : Hp) (Q : VK), tVar 3 (x0 :: x1 :: x2 :: some v :: r) H Q = Q v H) ∧
  (∀ (x0 x1 x2 : Option V) (y : Option V) (v : V) (r : St) (H : Hp) (Q : St → Hp → Prop), gName 3 v (x0 :: x1 :: x2 :: y :: r) H Q = Q (x0 :: x1 :: x2 :: some v :: r) H) ∧
  (∀ (x0 x1 x2 : Option V) (v : V) (r : St) (te : TE) (ti : TIp) (D : Ends) (H : Hp), tAug 3 te ti D (x0 :: x1 :: x2 :: some v :: r) H = te (x0 :: x1 :: x2 :: some v :: r) H (fun y H1 => ti v y H1 (fun z H2 => D.nx (x0 :: x1 :: x2 :: some z :: r) H2))) ∧
  (∀ (x0 x1 x2 : Option V) (y : Option V) (r : St) (vs : List Nat), wipe (x0 :: x1 :: x2 :: y :: r) (3 :: vs) = Setn (wipe (x0 :: x1 :: x2 :: y :: r) vs) 3) ∧
  (∀ (x0 x1 x2 : Option V) (y : Option V) (r : St), Setn (x0 :: x1 :: x2 :: y :: r) 3 = (x0 :: x1 :: x2 :: none :: r)) ∧
  (∀ (x0 x1 x2 x3 : Option V) (v : V) (r : St) (H : Hp) (Q : VK), tVar 4 (x0 :: x1 :: x2 :: x3 :: some v :: r) H Q = Q v H) ∧
  (∀ (x0 x1 x2 x3 : Option V) (y : Option V) (v : V) (r : St) (H : Hp) (Q : St → Hp → Prop), gName 4 v (x0 :: x1 :: x2 :: x3 :: y :: r) H Q = Q (x0 :: x1 :: x2 :: x3 :: some v :: r) H) ∧
  (∀ (x0 x1 x2 x3 : Option V) (v : V) (r : St) (te : TE) (ti : TIp) (D : Ends) (H : Hp), tAug 4 te ti D (x0 :: x1 :: x2 :: x3 :: some v :: r) H = te (x0 :: x1 :: x2 :: x3 :: some v :: r) H (fun y H1 => ti v y H1 (fun z H2 => D.nx (x0 :: x1 :: x2 :: x3 :: some z :: r) H2))) ∧
  (∀ (x0 x1 x2 x3 : Option V) (y : Option V) (r : St) (vs : List Nat), wipe (x0 :: x1 :: x2 :: x3 :: y :: r) (4 :: vs) = Setn (wipe (x0 :: x1 :: x2 :: x3 :: y :: r) vs) 4) ∧
  (∀ (x0 x1 x2 x3 : Option V) (y : Option V) (r : St), Setn (x0 :: x1 :: x2 :: x3 :: y :: r) 4 = (x0 :: x1 :: x2 :: x3 :: none :: r)) ∧
  (∀ (x0 x1 x2 x3 x4 : Option V) (v : V) (r : St) (H : Hp) (Q : VK), tVar 5 (x0 :: x1 :: x2 :: x3 :: x4 :: some v :: r) H Q = Q v H) ∧
  (∀ (x0 x1 x2 x3 x4 : Option V) (y : Option V) (v : V) (r : St) (H : Hp) (Q : St → Hp → Prop), gName 5 v (x0 :: x1 :: x2 :: x3 :: x4 :: y :: r) H Q = Q (x0 :: x1 :: x2 :: x3 :: x4 :: some v :: r) H) ∧
  (∀ (x0 x1 x2 x3 x4 : Option V) (v : V) (r : St) (te : TE) (ti : TIp) (D : Ends) (H : Hp), tAug 5 te ti D (x0 :: x1 :: x2 :: x3 :: x4 :: some v :: r) H = te (x0 :: x1 :: x2 :: x3 :: x4 :: some v :: r) H (fun y H1 => ti v y H1 (fun z H2 => D.nx (x0 :: x1 :: x2 :: x3 :: x4 :: some z :: r) H2))) ∧
  (∀ (x0 x1 x2 x3 x4 : Option V) (y : Option V) (r : St) (vs : List Nat), wipe (x0 :: x1 :: x2 :: x3 :: x4 :: y :: r) (5 :: vs) = Setn (wipe (x0 :: x1 :: x2 :: x3 :: x4 :: y :: r) vs) 5) ∧
  (∀ (x0 x1 x2 x3 x4 : Option V) (y : Option V) (r : St), Setn (x0 :: x1 :: x2 :: x3 :: x4 :: y :: r) 5 = (x0 :: x1 :: x2 :: x3 :: x4 :: none :: r)) ∧
  (∀ (x0 x1 x2 x3 x4 x5 : Option V) (v : V) (r : St) (H : Hp) (Q : VK), tVar 6 (x0 :: x1 :: x2 :: x3 :: x4 :: x5 :: some v :: r) H Q = Q v H) ∧
  (∀ (x0 x1 x2 x3 x4 x5 : Option V) (y : Option V) (v : V) (r : St) (H : Hp) (Q : St → Hp → Prop), gName 6 v (x0 :: x1 :: x2 :: x3 :: x4 :: x5 :: y :: r) H Q = Q (x0 :: x1 :: x2 :: x3 :: x4 :: x5 :: some v :: r) H) ∧
  (∀ (x0 x1 x2 x3 x4 x5 : Option V) (v : V) (r : St) (te : TE) (ti : TIp) (D : Ends) (H : Hp), tAug 6 te ti D (x0 :: x1 :: x2 :: x3 :: x4 :: x5 :: some v :: r) H = te (x0 :: x1 :: x2 :: x3 :: x4 :: x5 :: some v :: r) H (fun y H1 => ti v y H1 (fun z H2 => D.nx (x0 :: x1 :: x2 :: x3 :: x4 :: x5 :: some z :: r) H2))) ∧
  (∀ (x0 x1 x2 x3 x4 x5 : Option V) (y : Option V) (r : St) (vs : List Nat), wipe (x0 :: x1 :: x2 :: x3 :: x4 :: x5 :: y :: r) (6 :: vs) = Setn (wipe (x0 :: x1 :: x2 :: x3 :: x4 :: x5 :: y :: r) vs) 6) ∧
  (∀ (x0 x1 x2 x3 x4 x5 : Option V) (y : Option V) (r : St), Setn (x0 :: x1 :: x2 :: x3 :: x4 :: x5 :: y :: r) 6 = (x0 :: x1 :: x2 :: x3 :: x4 :: x5 :: none :: r)) ∧
  (∀ (x0 x1 x2 x3 x4 x5 x6 : Option V) (v : V) (r : St) (H : Hp) (Q : VK), tVar 7 (x0 :: x1 :: x2 :: x3 :: x4 :: x5 :: x6 :: some v :: r) H Q = Q v H) ∧
  (∀ (x0 x1 x2 x3 x4 x5 x6 : Option V) (y : Option V) (v : V) (r : St) (H : Hp) (Q : St → Hp → Prop), gName 7 v (x0 :: x1 :: x2 :: x3 :: x4 :: x5 :: x6 :: y :: r) H Q = Q (x0 :: x1 :: x2 :: x3 :: x4 :: x5 :: x6 :: some v :: r) H) ∧
  (∀ (x0 x1 x2 x3 x4 x5 x6 : Option V) (v : V) (r : St) (te : TE) (ti : TIp) (D : Ends) (H : Hp), tAug 7 te ti D (x0 :: x1 :: x2 :: x3 :: x4 :: x5 :: x6 :: some v :: r) H = te (x0 :: x1 :: x2 :: x3 :: x4 :: x5 :: x6 :: some v :: r) H (fun y H1 => ti v y H1 (fun z H2 => D.nx (x0 :: x1 :: x2 :: x3 :: x4 :: x5 :: x6 :: some z :: r) H2))) ∧
  (∀ (x0 x1 x2 x3 x4 x5 x6 : Option V) (y : Option V) (r : St) (vs : List Nat), wipe (x0 :: x1 :: x2 :: x3 :: x4 :: x5 :: x6 :: y :: r) (7 :: vs) = Setn (wipe (x0 :: x1 :: x2 :: x3 :: x4 :: x5 :: x6 :: y :: r) vs) 7) ∧
  (∀ (x0 x1 x2 x3 x4 x5 x6 : Option V) (y : Option V) (r : St), Setn (x0 :: x1 :: x2 :: x3 :: x4 :: x5 :: x6 :: y :: r) 7 = (x0 :: x1 :: x2 :: x3 :: x4 :: x5 :: x6 :: none :: r)) ∧
  (∀ (x0 x1 x2 x3 x4 x5 x6 x7 : Option V) (v : V) (r : St) (H : Hp) (Q : VK), tVar 8 (x0 :: x1 :: x2 :: x3 :: x4 :: x5 :: x6 :: x7 :: some v :: r) H Q = Q v H) ∧
  (∀ (x0 x1 x2 x3 x4 x5 x6 x7 : Option V) (y : Option V) (v : V) (r : St) (H : Hp) (Q : St → Hp → Prop), gName 8 v (x0 :: x1 :: x2 :: x3 :: x4 :: x5 :: x6 :: x7 :: y :: r) H Q = Q (x0 :: x1 :: x2 :: x3 :: x4 :: x5 :: x6 :: x7 :: some v :: r) H) ∧
  (∀ (x0 x1 x2 x3 x4 x5 x6 x7 : Option V) (v : V) (r : St) (te : TE) (ti : TIp) (D : Ends) (H : Hp), tAug 8 te ti D (x0 :: x1 :: x2 :: x3 :: x4 :: x5 :: x6 :: x7 :: some v :: r) H = te (x0 :: x1 :: x2 :: x3 :: x4 :: x5 :: x6 :: x7 :: some v :: r) H (fun y H1 => ti v y H1 (fun z H2 => D.nx (x0 :: x1 :: x2 :: x3 :: x4 :: x5 :: x6 :: x7 :: some z :: r) H2))) ∧
  (∀ (x0 x1 x2 x3 x4 x5 x6 x7 : Option V) (y : Option V) (r : St) (vs : List Nat), wipe (x0 :: x1 :: x2 :: x3 :: x4 :: x5 :: x6 :: x7 :: y :: r) (8 :: vs) = Setn (wipe (x0 :: x1 :: x2 :: x3 :: x4 :: x5 :: x6 :: x7 :: y :: r) vs) 8) ∧
  (∀ (x0 x1 x2 x3 x4 x5 x6 x7 : Option V) (y : Option V) (r : St), Setn (x0 :: x1 :: x2 :: x3 :: x4 :: x5 :: x6 :: x7 :: y :: r) 8 = (x0 :: x1 :: x2 :: x3 :: x4 :: x5 :: x6 :: x7 :: none :: r)) ∧
  (∀ (x0 x1 x2 x3 x4 x5 x6 x7 x8 : Option V) (v : V) (r : St) (H : Hp) (Q : VK), tVar 9 (x0 :: x1 :: x2 :: x3 :: x4 :: x5 :: x6 :: x7 :: x8 :: some v :: r) H Q = Q v H) ∧
  (∀ (x0 x1 x2 x3 x4 x5 x6 x7 x8 : Option V) (y : Option V) (v : V) (r : St) (H : Hp) (Q : St → Hp → Prop), gName 9 v (x0 :: x1 :: x2 :: x3 :: x4 :: x5 :: x6 :: x7 :: x8 :: y :: r) H Q = Q (x0 :: x1 :: x2 :: x3 :: x4 :: x5 :: x6 :: x7 :: x8 :: some v :: r) H) ∧
  (∀ (x0 x1 x2 x3 x4 x5 x6 x7 x8 : Option V) (v : V) (r : St) (te : TE) (ti : TIp) (D : Ends) (H : Hp), tAug 9 te ti D (x0 :: x1 :: x2 :: x3 :: x4 :: x5 :: x6 :: x7 :: x8 :: some v :: r) H = te (x0 :: x1 :: x2 :: x3 :: x4 :: x5 :: x6 :: x7 :: x8 :: some v :: r) H (fun y H1 => ti v y H1 (fun z H2 => D.nx (x0 :: x1 :: x2 :: x3 :: x4 :: x5 :: x6 :: x7 :: x8 :: some z :: r) H2))) ∧
  (∀ (x0 x1 x2 x3 x4 x5 x6 x7 x8 : Option V) (y : Option V) (r : St) (vs : List Nat), wipe (x0 :: x1 :: x2 :: x3 :: x4 :: x5 :: x6 :: x7 :: x8 :: y :: r) (9 :: vs) = Setn (wipe (x0 :: x1 :: x2 :: x3 :: x4 :: x5 :: x6 :: x7 :: x8 :: y :: r) vs) 9) ∧
  (∀ (x0 x1 x2 x3 x4 x5 x6 x7 x8 : Option V) (y : Option V) (r : St), Setn (x0 :: x1 :: x2 :: x3 :: x4 :: x5 :: x6 :: x7 :: x8 :: y :: r) 9 = (x0 :: x1 :: x2 :: x3 :: x4 :: x5 :: x6 :: x7 :: x8 :: none :: r)) ∧
  (∀ (x0 x1 x2 x3 x4 x5 x6 x7 x8 x9 : Option V) (v : V) (r : St) (H : Hp) (Q : VK), tVar 10 (x0 :: x1 :: x2 :: x3 :: x4 :: x5 :: x6 :: x7 :: x8 :: x9 :: some v :: r) H Q = Q v H) ∧
  (∀ (x0 x1 x2 x3 x4 x5 x6 x7 x8 x9 : Option V) (y : Option V) (v : V) (r : St) (H : Hp) (Q : St → Hp → Prop), gName 10 v (x0 :: x1 :: x2 :: x3 :: x4 :: x5 :: x6 :: x7 :: x8 :: x9 :: y :: r) H Q = Q (x0 :: x1 :: x2 :: x3 :: x4 :: x5 :: x6 :: x7 :: x8 :: x9 :: some v :: r) H) ∧
  (∀ (x0 x1 x2 x3 x4 x5 x6 x7 x8 x9 : Option V) (v : V) (r : St) (te : TE) (ti : TIp) (D : Ends) (H : Hp), tAug 10 te ti D (x0 :: x1 :: x2 :: x3 :: x4 :: x5 :: x6 :: x7 :: x8 :: x9 :: some v :: r) H = te (x0 :: x1 :: x2 :: x3 :: x4 :: x5 :: x6 :: x7 :: x8 :: x9 :: some v :: r) H (fun y H1 => ti v y H1 (fun z H2 => D.nx (x0 :: x1 :: x2 :: x3 :: x4 :: x5 :: x6 :: x7 :: x8 :: x9 :: some z :: r) H2))) ∧
  (∀ (x0 x1 x2 x3 x4 x5 x6 x7 x8 x9 : Option V) (y : Option V) (r : St) (vs : List Nat), wipe (x0 :: x1 :: x2 :: x3 :: x4 :: x5 :: x6 :: x7 :: x8 :: x9 :: y :: r) (10 :: vs) = Setn (wipe (x0 :: x1 :: x2 :: x3 :: x4 :: x5 :: x6 :: x7 :: x8 :: x9 :: y :: r) vs) 10) ∧
  (∀ (x0 x1 x2 x3 x4 x5 x6 x7 x8 x9 : Option V) (y : Option V) (r : St), Setn (x0 :: x1 :: x2 :: x3 :: x4 :: x5 :: x6 :: x7 :: x8 :: x9 :: y :: r) 10 = (x0 :: x1 :: x2 :: x3 :: x4 :: x5 :: x6 :: x7 :: x8 :: x9 :: none :: r)) ∧
  (∀ (x0 x1 x2 x3 x4 x5 x6 x7 x8 x9 x10 : Option V) (v : V) (r : St) (H : Hp) (Q : VK), tVar 11 (x0 :: x1 :: x2 :: x3 :: x4 :: x5 :: x6 :: x7 :: x8 :: x9 :: x10 :: some v :: r) H Q = Q v H) ∧
  (∀ (x0 x1 x2 x3 x4 x5 x6 x7 x8 x9 x10 : Option V) (y : Option V) (v : V) (r : St) (H : Hp) (Q : St → Hp → Prop), gName 11 v (x0 :: x1 :: x2 :: x3 :: x4 :: x5 :: x6 :: x7 :: x8 :: x9 :: x10 :: y :: r) H Q = Q (x0 :: x1 :: x2 :: x3 :: x4 :: x5 :: x6 :: x7 :: x8 :: x9 :: x10 :: some v :: r) H) ∧
  (∀ (x0 x1 x2 x3 x4 x5 x6 x7 x8 x9 x10 : Option V) (v : V) (r : St) (te : TE) (ti : TIp) (D : Ends) (H : Hp), tAug 11 te ti D (x0 :: x1 :: x2 :: x3 :: x4 :: x5 :: x6 :: x7 :: x8 :: x9 :: x10 :: some v :: r) H = te (x0 :: x1 :: x2 :: x3 :: x4 :: x5 :: x6 :: x7 :: x8 :: x9 :: x10 :: some v :: r) H (fun y H1 => ti v y H1 (fun z H2 => D.nx (x0 :: x1 :: x2 :: x3 :: x4 :: x5 :: x6 :: x7 :: x8 :: x9 :: x10 :: some z :: r) H2))) ∧
  (∀ (x0 x1 x2 x3 x4 x5 x6 x7 x8 x9 x10 : Option V) (y : Option V) (r : St) (vs : List Nat), wipe (x0 :: x1 :: x2 :: x3 :: x4 :: x5 :: x6 :: x7 :: x8 :: x9 :: x10 :: y :: r) (11 :: vs) = Setn (wipe (x0 :: x1 :: x2 :: x3 :: x4 :: x5 :: x6 :: x7 :: x8 :: x9 :: x10 :: y :: r) vs) 11) ∧
  (∀ (x0 x1 x2 x3 x4 x5 x6 x7 x8 x9 x10 : Option V) (y : Option V) (r : St), Setn (x0 :: x1 :: x2 :: x3 :: x4 :: x5 :: x6 :: x7 :: x8 :: x9 :: x10 :: y :: r) 11 = (x0 :: x1 :: x2 :: x3 :: x4 :: x5 :: x6 :: x7 :: x8 :: x9 :: x10 :: none :: r)) ∧
  (∀ (x0 x1 x2 x3 x4 x5 x6 x7 x8 x9 x10 x11 : Option V) (v : V) (r : St) (H : Hp) (Q : VK), tVar 12 (x0 :: x1 :: x2 :: x3 :: x4 :: x5 :: x6 :: x7 :: x8 :: x9 :: x10 :: x11 :: some v :: r) H Q = Q v H) ∧
  (∀ (x0 x1 x2 x3 x4 x5 x6 x7 x8 x9 x10 x11 : Option V) (y : Option V) (v : V) (r : St) (H : Hp) (Q : St → Hp → Prop), gName 12 v (x0 :: x1 :: x2 :: x3 :: x4 :: x5 :: x6 :: x7 :: x8 :: x9 :: x10 :: x11 :: y :: r) H Q = Q (x0 :: x1 :: x2 :: x3 :: x4 :: x5 :: x6 :: x7 :: x8 :: x9 :: x10 :: x11 :: some v :: r) H) ∧
  (∀ (x0 x1 x2 x3 x4 x5 x6 x7 x8 x9 x10 x11 : Option V) (v : V) (r : St) (te : TE) (ti : TIp) (D : Ends) (H : Hp), tAug 12 te ti D (x0 :: x1 :: x2 :: x3 :: x4 :: x5 :: x6 :: x7 :: x8 :: x9 :: x10 :: x11 :: some v :: r) H = te (x0 :: x1 :: x2 :: x3 :: x4 :: x5 :: x6 :: x7 :: x8 :: x9 :: x10 :: x11 :: some v :: r) H (fun y H1 => ti v y H1 (fun z H2 => D.nx (x0 :: x1 :: x2 :: x3 :: x4 :: x5 :: x6 :: x7 :: x8 :: x9 :: x10 :: x11 :: some z :: r) H2))) ∧
  (∀ (x0 x1 x2 x3 x4 x5 x6 x7 x8 x9 x10 x11 : Option V) (y : Option V) (r : St) (vs : List Nat), wipe (x0 :: x1 :: x2 :: x3 :: x4 :: x5 :: x6 :: x7 :: x8 :: x9 :: x10 :: x11 :: y :: r) (12 :: vs) = Setn (wipe (x0 :: x1 :: x2 :: x3 :: x4 :: x5 :: x6 :: x7 :: x8 :: x9 :: x10 :: x11 :: y :: r) vs) 12) ∧
  (∀ (x0 x1 x2 x3 x4 x5 x6 x7 x8 x9 x10 x11 : Option V) (y : Option V) (r : St), Setn (x0 :: x1 :: x2 :: x3 :: x4 :: x5 :: x6 :: x7 :: x8 :: x9 :: x10 :: x11 :: y :: r) 12 = (x0 :: x1 :: x2 :: x3 :: x4 :: x5 :: x6 :: x7 :: x8 :: x9 :: x10 :: x11 :: none :: r)) ∧
  (∀ (x0 x1 x2 x3 x4 x5 x6 x7 x8 x9 x10 x11 x12 : Option V) (v : V) (r : St) (H : Hp) (Q : VK), tVar 13 (x0 :: x1 :: x2 :: x3 :: x4 :: x5 :: x6 :: x7 :: x8 :: x9 :: x10 :: x11 :: x12 :: some v :: r) H Q = Q v H) ∧
  (∀ (x0 x1 x2 x3 x4 x5 x6 x7 x8 x9 x10 x11 x12 : Option V) (y : Option V) (v : V) (r : St) (H : Hp) (Q : St → Hp → Prop), gName 13 v (x0 :: x1 :: x2 :: x3 :: x4 :: x5 :: x6 :: x7 :: x8 :: x9 :: x10 :: x11 :: x12 :: y :: r) H Q = Q (x0 :: x1 :: x2 :: x3 :: x4 :: x5 :: x6 :: x7 :: x8 :: x9 :: x10 :: x11 :: x12 :: some v :: r) H) ∧
  (∀ (x0 x1 x2 x3 x4 x5 x6 x7 x8 x9 x10 x11 x12 : Option V) (v : V) (r : St) (te : TE) (ti : TIp) (D : Ends) (H : Hp), tAug 13 te ti D (x0 :: x1 :: x2 :: x3 :: x4 :: x5 :: x6 :: x7 :: x8 :: x9 :: x10 :: x11 :: x12 :: some v :: r) H = te (x0 :: x1 :: x2 :: x3 :: x4 :: x5 :: x6 :: x7 :: x8 :: x9 :: x10 :: x11 :: x12 :: some v :: r) H (fun y H1 => ti v y H1 (fun z H2 => D.nx (x0 :: x1 :: x2 :: x3 :: x4 :: x5 :: x6 :: x7 :: x8 :: x9 :: x10 :: x11 :: x12 :: some z :: r) H2))) ∧
  (∀ (x0 x1 x2 x3 x4 x5 x6 x7 x8 x9 x10 x11 x12 : Option V) (y : Option V) (r : St) (vs : List Nat), wipe (x0 :: x1 :: x2 :: x3 :: x4 :: x5 :: x6 :: x7 :: x8 :: x9 :: x10 :: x11 :: x12 :: y :: r) (13 :: vs) = Setn (wipe (x0 :: x1 :: x2 :: x3 :: x4 :: x5 :: x6 :: x7 :: x8 :: x9 :: x10 :: x11 :: x12 :: y :: r) vs) 13) ∧
  (∀ (x0 x1 x2 x3 x4 x5 x6 x7 x8 x9 x10 x11 x12 : Option V) (y : Option V) (r : St), Setn (x0 :: x1 :: x2 :: x3 :: x4 :: x5 :: x6 :: x7 :: x8 :: x9 :: x10 :: x11 :: x12 :: y :: r) 13 = (x0 :: x1 :: x2 :: x3 :: x4 :: x5 :: x6 :: x7 :: x8 :: x9 :: x10 :: x11 :: x12 :: none :: r)) ∧
  (∀ (x0 x1 x2 x3 x4 x5 x6 x7 x8 x9 x10 x11 x12 x13 : Option V) (v : V) (r : St) (H : Hp) (Q : VK), tVar 14 (x0 :: x1 :: x2 :: x3 :: x4 :: x5 :: x6 :: x7 :: x8 :: x9 :: x10 :: x11 :: x12 :: x13 :: some v :: r) H Q = Q v H) ∧
  (∀ (x0 x1 x2 x3 x4 x5 x6 x7 x8 x9 x10 x11 x12 x13 : Option V) (y : Option V) (v : V) (r : St) (H : Hp) (Q : St → Hp → Prop), gName 14 v (x0 :: x1 :: x2 :: x3 :: x4 :: x5 :: x6 :: x7 :: x8 :: x9 :: x10 :: x11 :: x12 :: x13 :: y :: r) H Q = Q (x0 :: x1 :: x2 :: x3 :: x4 :: x5 :: x6 :: x7 :: x8 :: x9 :: x10 :: x11 :: x12 :: x13 :: some v :: r) H) ∧
  (∀ (x0 x1 x2 x3 x4 x5 x6 x7 x8 x9 x10 x11 x12 x13 : Option V) (v : V) (r : St) (te : TE) (ti : TIp) (D : Ends) (H : Hp), tAug 14 te ti D (x0 :: x1 :: x2 :: x3 :: x4 :: x5 :: x6 :: x7 :: x8 :: x9 :: x10 :: x11 :: x12 :: x13 :: some v :: r) H = te (x0 :: x1 :: x2 :: x3 :: x4 :: x5 :: x6 :: x7 :: x8 :: x9 :: x10 :: x11 :: x12 :: x13 :: some v :: r) H (fun y H1 => ti v y H1 (fun z H2 => D.nx (x0 :: x1 :: x2 :: x3 :: x4 :: x5 :: x6 :: x7 :: x8 :: x9 :: x10 :: x11 :: x12 :: x13 :: some z :: r) H2))) ∧
  (∀ (x0 x1 x2 x3 x4 x5 x6 x7 x8 x9 x10 x11 x12 x13 : Option V) (y : Option V) (r : St) (vs : List Nat), wipe (x0 :: x1 :: x2 :: x3 :: x4 :: x5 :: x6 :: x7 :: x8 :: x9 :: x10 :: x11 :: x12 :: x13 :: y :: r) (14 :: vs) = Setn (wipe (x0 :: x1 :: x2 :: x3 :: x4 :: x5 :: x6 :: x7 :: x8 :: x9 :: x10 :: x11 :: x12 :: x13 :: y :: r) vs) 14) ∧
  (∀ (x0 x1 x2 x3 x4 x5 x6 x7 x8 x9 x10 x11 x12 x13 : Option V) (y : Option V) (r : St), Setn (x0 :: x1 :: x2 :: x3 :: x4 :: x5 :: x6 :: x7 :: x8 :: x9 :: x10 :: x11 :: x12 :: x13 :: y :: r) 14 = (x0 :: x1 :: x2 :: x3 :: x4 :: x5 :: x6 :: x7 :: x8 :: x9 :: x10 :: x11 :: x12 :: x13 :: none :: r)) ∧
  (∀ (x0 x1 x2 x3 x4 x5 x6 x7 x8 x9 x10 x11 x12 x13 x14 : Option V) (v : V) (r : St) (H : Hp) (Q : VK), tVar 15 (x0 :: x1 :: x2 :: x3 :: x4 :: x5 :: x6 :: x7 :: x8 :: x9 :: x10 :: x11 :: x12 :: x13 :: x14 :: some v :: r) H Q = Q v H) ∧
  (∀ (x0 x1 x2 x3 x4 x5 x6 x7 x8 x9 x10 x11 x12 x13 x14 : Option V) (y : Option V) (v : V) (r : St) (H : Hp) (Q : St → Hp → Prop), gName 15 v (x0 :: x1 :: x2 :: x3 :: x4 :: x5 :: x6 :: x7 :: x8 :: x9 :: x10 :: x11 :: x12 :: x13 :: x14 :: y :: r) H Q = Q (x0 :: x1 :: x2 :: x3 :: x4 :: x5 :: x6 :: x7 :: x8 :: x9 :: x10 :: x11 :: x12 :: x13 :: x14 :: some v :: r) H) ∧
  (∀ (x0 x1 x2 x3 x4 x5 x6 x7 x8 x9 x10 x11 x12 x13 x14 : Option V) (v : V) (r : St) (te : TE) (ti : TIp) (D : Ends) (H : Hp), tAug 15 te ti D (x0 :: x1 :: x2 :: x3 :: x4 :: x5 :: x6 :: x7 :: x8 :: x9 :: x10 :: x11 :: x12 :: x13 :: x14 :: some v :: r) H = te (x0 :: x1 :: x2 :: x3 :: x4 :: x5 :: x6 :: x7 :: x8 :: x9 :: x10 :: x11 :: x12 :: x13 :: x14 :: some v :: r) H (fun y H1 => ti v y H1 (fun z H2 => D.nx (x0 :: x1 :: x2 :: x3 :: x4 :: x5 :: x6 :: x7 :: x8 :: x9 :: x10 :: x11 :: x12 :: x13 :: x14 :: some z :: r) H2))) ∧
  (∀ (x0 x1 x2 x3 x4 x5 x6 x7 x8 x9 x10 x11 x12 x13 x14 : Option V) (y : Option V) (r : St) (vs : List Nat), wipe (x0 :: x1 :: x2 :: x3 :: x4 :: x5 :: x6 :: x7 :: x8 :: x9 :: x10 :: x11 :: x12 :: x13 :: x14 :: y :: r) (15 :: vs) = Setn (wipe (x0 :: x1 :: x2 :: x3 :: x4 :: x5 :: x6 :: x7 :: x8 :: x9 :: x10 :: x11 :: x12 :: x13 :: x14 :: y :: r) vs) 15) ∧
  (∀ (x0 x1 x2 x3 x4 x5 x6 x7 x8 x9 x10 x11 x12 x13 x14 : Option V) (y : Option V) (r : St), Setn (x0 :: x1 :: x2 :: x3 :: x4 :: x5 :: x6 :: x7 :: x8 :: x9 :: x10 :: x11 :: x12 :: x13 :: x14 :: y :: r) 15 = (x0 :: x1 :: x2 :: x3 :: x4 :: x5 :: x6 :: x7 :: x8 :: x9 :: x10 :: x11 :: x12 :: x13 :: x14 :: none :: r)) ∧
  (∀ (x0 x1 x2 x3 x4 x5 x6 x7 x8 x9 x10 x11 x12 x13 x14 x15 : Option V) (v : V) (r : St) (H : Hp) (Q : VK), tVar 16 (x0 :: x1 :: x2 :: x3 :: x4 :: x5 :: x6 :: x7 :: x8 :: x9 :: x10 :: x11 :: x12 :: x13 :: x14 :: x15 :: some v :: r) H Q = Q v H) ∧
  (∀ (x0 x1 x2 x3 x4 x5 x6 x7 x8 x9 x10 x11 x12 x13 x14 x15 : Option V) (y : Option V) (v : V) (r : St) (H : Hp) (Q : St → Hp → Prop), gName 16 v (x0 :: x1 :: x2 :: x3 :: x4 :: x5 :: x6 :: x7 :: x8 :: x9 :: x10 :: x11 :: x12 :: x13 :: x14 :: x15 :: y :: r) H Q = Q (x0 :: x1 :: x2 :: x3 :: x4 :: x5 :: x6 :: x7 :: x8 :: x9 :: x10 :: x11 :: x12 :: x13 :: x14 :: x15 :: some v :: r) H) ∧
  (∀ (x0 x1 x2 x3 x4 x5 x6 x7 x8 x9 x10 x11 x12 x13 x14 x15 : Option V) (v : V) (r : St) (te : TE) (ti : TIp) (D : Ends) (H : Hp), tAug 16 te ti D (x0 :: x1 :: x2 :: x3 :: x4 :: x5 :: x6 :: x7 :: x8 :: x9 :: x10 :: x11 :: x12 :: x13 :: x14 :: x15 :: some v :: r) H = te (x0 :: x1 :: x2 :: x3 :: x4 :: x5 :: x6 :: x7 :: x8 :: x9 :: x10 :: x11 :: x12 :: x13 :: x14 :: x15 :: some v :: r) H (fun y H1 => ti v y H1 (fun z H2 => D.nx (x0 :: x1 :: x2 :: x3 :: x4 :: x5 :: x6 :: x7 :: x8 :: x9 :: x10 :: x11 :: x12 :: x13 :: x14 :: x15 :: some z :: r) H2))) ∧
  (∀ (x0 x1 x2 x3 x4 x5 x6 x7 x8 x9 x10 x11 x12 x13 x14 x15 : Option V) (y : Option V) (r : St) (vs : List Nat), wipe (x0 :: x1 :: x2 :: x3 :: x4 :: x5 :: x6 :: x7 :: x8 :: x9 :: x10 :: x11 :: x12 :: x13 :: x14 :: x15 :: y :: r) (16 :: vs) = Setn (wipe (x0 :: x1 :: x2 :: x3 :: x4 :: x5 :: x6 :: x7 :: x8 :: x9 :: x10 :: x11 :: x12 :: x13 :: x14 :: x15 :: y :: r) vs) 16) ∧
  (∀ (x0 x1 x2 x3 x4 x5 x6 x7 x8 x9 x10 x11 x12 x13 x14 x15 : Option V) (y : Option V) (r : St), Setn (x0 :: x1 :: x2 :: x3 :: x4 :: x5 :: x6 :: x7 :: x8 :: x9 :: x10 :: x11 :: x12 :: x13 :: x14 :: x15 :: y :: r) 16 = (x0 :: x1 :: x2 :: x3 :: x4 :: x5 :: x6 :: x7 :: x8 :: x9 :: x10 :: x11 :: x12 :: x13 :: x14 :: x15 :: none :: r)) ∧
  (∀ (x0 x1 x2 x3 x4 x5 x6 x7 x8 x9 x10 x11 x12 x13 x14 x15 x16 : Option V) (v : V) (r : St) (H : Hp) (Q : VK), tVar 17 (x0 :: x1 :: x2 :: x3 :: x4 :: x5 :: x6 :: x7 :: x8 :: x9 :: x10 :: x11 :: x12 :: x13 :: x14 :: x15 :: x16 :: some v :: r) H Q = Q v H) ∧
  (∀ (x0 x1 x2 x3 x4 x5 x6 x7 x8 x9 x10 x11 x12 x13 x14 x15 x16 : Option V) (y : Option V) (v : V) (r : St) (H : Hp) (Q : St → Hp → Prop), gName 17 v (x0 :: x1 :: x2 :: x3 :: x4 :: x5 :: x6 :: x7 :: x8 :: x9 :: x10 :: x11 :: x12 :: x13 :: x14 :: x15 :: x16 :: y :: r) H Q = Q (x0 :: x1 :: x2 :: x3 :: x4 :: x5 :: x6 :: x7 :: x8 :: x9 :: x10 :: x11 :: x12 :: x13 :: x14 :: x15 :: x16 :: some v :: r) H) ∧
  (∀ (x0 x1 x2 x3 x4 x5 x6 x7 x8 x9 x10 x11 x12 x13 x14 x15 x16 : Option V) (v : V) (r : St) (te : TE) (ti : TIp) (D : Ends) (H : Hp), tAug 17 te ti D (x0 :: x1 :: x2 :: x3 :: x4 :: x5 :: x6 :: x7 :: x8 :: x9 :: x10 :: x11 :: x12 :: x13 :: x14 :: x15 :: x16 :: some v :: r) H = te (x0 :: x1 :: x2 :: x3 :: x4 :: x5 :: x6 :: x7 :: x8 :: x9 :: x10 :: x11 :: x12 :: x13 :: x14 :: x15 :: x16 :: some v :: r) H (fun y H1 => ti v y H1 (fun z H2 => D.nx (x0 :: x1 :: x2 :: x3 :: x4 :: x5 :: x6 :: x7 :: x8 :: x9 :: x10 :: x11 :: x12 :: x13 :: x14 :: x15 :: x16 :: some z :: r) H2))) ∧
  (∀ (x0 x1 x2 x3 x4 x5 x6 x7 x8 x9 x10 x11 x12 x13 x14 x15 x16 : Option V) (y : Option V) (r : St) (vs : List Nat), wipe (x0 :: x1 :: x2 :: x3 :: x4 :: x5 :: x6 :: x7 :: x8 :: x9 :: x10 :: x11 :: x12 :: x13 :: x14 :: x15 :: x16 :: y :: r) (17 :: vs) = Setn (wipe (x0 :: x1 :: x2 :: x3 :: x4 :: x5 :: x6 :: x7 :: x8 :: x9 :: x10 :: x11 :: x12 :: x13 :: x14 :: x15 :: x16 :: y :: r) vs) 17) ∧
  (∀ (x0 x1 x2 x3 x4 x5 x6 x7 x8 x9 x10 x11 x12 x13 x14 x15 x16 : Option V) (y : Option V) (r : St), Setn (x0 :: x1 :: x2 :: x3 :: x4 :: x5 :: x6 :: x7 :: x8 :: x9 :: x10 :: x11 :: x12 :: x13 :: x14 :: x15 :: x16 :: y :: r) 17 = (x0 :: x1 :: x2 :: x3 :: x4 :: x5 :: x6 :: x7 :: x8 :: x9 :: x10 :: x11 :: x12 :: x13 :: x14 :: x15 :: x16 :: none :: r)) ∧
  (∀ (x0 x1 x2 x3 x4 x5 x6 x7 x8 x9 x10 x11 x12 x13 x14 x15 x16 x17 : Option V) (v : V) (r : St) (H : Hp) (Q : VK), tVar 18 (x0 :: x1 :: x2 :: x3 :: x4 :: x5 :: x6 :: x7 :: x8 :: x9 :: x10 :: x11 :: x12 :: x13 :: x14 :: x15 :: x16 :: x17 :: some v :: r) H Q = Q v H) ∧
  (∀ (x0 x1 x2 x3 x4 x5 x6 x7 x8 x9 x10 x11 x12 x13 x14 x15 x16 x17 : Option V) (y : Option V) (v : V) (r : St) (H : Hp) (Q : St → Hp → Prop), gName 18 v (x0 :: x1 :: x2 :: x3 :: x4 :: x5 :: x6 :: x7 :: x8 :: x9 :: x10 :: x11 :: x12 :: x13 :: x14 :: x15 :: x16 :: x17 :: y :: r) H Q = Q (x0 :: x1 :: x2 :: x3 :: x4 :: x5 :: x6 :: x7 :: x8 :: x9 :: x10 :: x11 :: x12 :: x13 :: x14 :: x15 :: x16 :: x17 :: some v :: r) H) ∧
  (∀ (x0 x1 x2 x3 x4 x5 x6 x7 x8 x9 x10 x11 x12 x13 x14 x15 x16 x17 : Option V) (v : V) (r : St) (te : TE) (ti : TIp) (D : Ends) (H : Hp), tAug 18 te ti D (x0 :: x1 :: x2 :: x3 :: x4 :: x5 :: x6 :: x7 :: x8 :: x9 :: x10 :: x11 :: x12 :: x13 :: x14 :: x15 :: x16 :: x17 :: some v :: r) H = te (x0 :: x1 :: x2 :: x3 :: x4 :: x5 :: x6 :: x7 :: x8 :: x9 :: x10 :: x11 :: x12 :: x13 :: x14 :: x15 :: x16 :: x17 :: some v :: r) H (fun y H1 => ti v y H1 (fun z H2 => D.nx (x0 :: x1 :: x2 :: x3 :: x4 :: x5 :: x6 :: x7 :: x8 :: x9 :: x10 :: x11 :: x12 :: x13 :: x14 :: x15 :: x16 :: x17 :: some z :: r) H2))) ∧
  (∀ (x0 x1 x2 x3 x4 x5 x6 x7 x8 x9 x10 x11 x12 x13 x14 x15 x16 x17 : Option V) (y : Option V) (r : St) (vs : List Nat), wipe (x0 :: x1 :: x2 :: x3 :: x4 :: x5 :: x6 :: x7 :: x8 :: x9 :: x10 :: x11 :: x12 :: x13 :: x14 :: x15 :: x16 :: x17 :: y :: r) (18 :: vs) = Setn (wipe (x0 :: x1 :: x2 :: x3 :: x4 :: x5 :: x6 :: x7 :: x8 :: x9 :: x10 :: x11 :: x12 :: x13 :: x14 :: x15 :: x16 :: x17 :: y :: r) vs) 18) ∧
  (∀ (x0 x1 x2 x3 x4 x5 x6 x7 x8 x9 x10 x11 x12 x13 x14 x15 x16 x17 : Option V) (y : Option V) (r : St), Setn (x0 :: x1 :: x2 :: x3 :: x4 :: x5 :: x6 :: x7 :: x8 :: x9 :: x10 :: x11 :: x12 :: x13 :: x14 :: x15 :: x16 :: x17 :: y :: r) 18 = (x0 :: x1 :: x2 :: x3 :: x4 :: x5 :: x6 :: x7 :: x8 :: x9 :: x10 :: x11 :: x12 :: x13 :: x14 :: x15 :: x16 :: x17 :: none :: r)) ∧
  (∀ (x0 x1 x2 x3 x4 x5 x6 x7 x8 x9 x10 x11 x12 x13 x14 x15 x16 x17 x18 : Option V) (v : V) (r : St) (H : Hp) (Q : VK), tVar 19 (x0 :: x1 :: x2 :: x3 :: x4 :: x5 :: x6 :: x7 :: x8 :: x9 :: x10 :: x11 :: x12 :: x13 :: x14 :: x15 :: x16 :: x17 :: x18 :: some v :: r) H Q = Q v H) ∧
  (∀ (x0 x1 x2 x3 x4 x5 x6 x7 x8 x9 x10 x11 x12 x13 x14 x15 x16 x17 x18 : Option V) (y : Option V) (v : V) (r : St) (H : Hp) (Q : St → Hp → Prop), gName 19 v (x0 :: x1 :: x2 :: x3 :: x4 :: x5 :: x6 :: x7 :: x8 :: x9 :: x10 :: x11 :: x12 :: x13 :: x14 :: x15 :: x16 :: x17 :: x18 :: y :: r) H Q = Q (x0 :: x1 :: x2 :: x3 :: x4 :: x5 :: x6 :: x7 :: x8 :: x9 :: x10 :: x11 :: x12 :: x13 :: x14 :: x15 :: x16 :: x17 :: x18 :: some v :: r) H) ∧
  (∀ (x0 x1 x2 x3 x4 x5 x6 x7 x8 x9 x10 x11 x12 x13 x14 x15 x16 x17 x18 : Option V) (v : V) (r : St) (te : TE) (ti : TIp) (D : Ends) (H : Hp), tAug 19 te ti D (x0 :: x1 :: x2 :: x3 :: x4 :: x5 :: x6 :: x7 :: x8 :: x9 :: x10 :: x11 :: x12 :: x13 :: x14 :: x15 :: x16 :: x17 :: x18 :: some v :: r) H = te (x0 :: x1 :: x2 :: x3 :: x4 :: x5 :: x6 :: x7 :: x8 :: x9 :: x10 :: x11 :: x12 :: x13 :: x14 :: x15 :: x16 :: x17 :: x18 :: some v :: r) H (fun y H1 => ti v y H1 (fun z H2 => D.nx (x0 :: x1 :: x2 :: x3 :: x4 :: x5 :: x6 :: x7 :: x8 :: x9 :: x10 :: x11 :: x12 :: x13 :: x14 :: x15 :: x16 :: x17 :: x18 :: some z :: r) H2))) ∧
  (∀ (x0 x1 x2 x3 x4 x5 x6 x7 x8 x9 x10 x11 x12 x13 x14 x15 x16 x17 x18 : Option V) (y : Option V) (r : St) (vs : List Nat), wipe (x0 :: x1 :: x2 :: x3 :: x4 :: x5 :: x6 :: x7 :: x8 :: x9 :: x10 :: x11 :: x12 :: x13 :: x14 :: x15 :: x16 :: x17 :: x18 :: y :: r) (19 :: vs) = Setn (wipe (x0 :: x1 :: x2 :: x3 :: x4 :: x5 :: x6 :: x7 :: x8 :: x9 :: x10 :: x11 :: x12 :: x13 :: x14 :: x15 :: x16 :: x17 :: x18 :: y :: r) vs) 19) ∧
  (∀ (x0 x1 x2 x3 x4 x5 x6 x7 x8 x9 x10 x11 x12 x13 x14 x15 x16 x17 x18 : Option V) (y : Option V) (r : St), Setn (x0 :: x1 :: x2 :: x3 :: x4 :: x5 :: x6 :: x7 :: x8 :: x9 :: x10 :: x11 :: x12 :: x13 :: x14 :: x15 :: x16 :: x17 :: x18 :: y :: r) 19 = (x0 :: x1 :: x2 :: x3 :: x4 :: x5 :: x6 :: x7 :: x8 :: x9 :: x10 :: x11 :: x12 :: x13 :: x14 :: x15 :: x16 :: x17 :: x18 :: none :: r)) ∧
  (∀ (v : V) (r : List V), atI (v :: r) 0 = some v) ∧
  (∀ (x0 : V) (v : V) (r : List V), atI (x0 :: v :: r) 1 = some v) ∧
  (∀ (x0 x1 : V) (v : V) (r : List V), atI (x0 :: x1 :: v :: r) 2 = some v) ∧
  (∀ (x0 x1 x2 : V) (v : V) (r : List V), atI (x0 :: x1 :: x2 :: v :: r) 3 = some v) ∧
  (∀ (x0 x1 x2 x3 : V) (v : V) (r : List V), atI (x0 :: x1 :: x2 :: x3 :: v :: r) 4 = some v) ∧
  (∀ (x0 x1 x2 x3 x4 : V) (v : V) (r : List V), atI (x0 :: x1 :: x2 :: x3 :: x4 :: v :: r) 5 = some v) ∧
  (∀ (x0 x1 x2 x3 x4 x5 : V) (v : V) (r : List V), atI (x0 :: x1 :: x2 :: x3 :: x4 :: x5 :: v :: r) 6 = some v) ∧
  (∀ ( y : V) (r : List V), ixN (y :: r).length 0 = some 0) ∧
  (∀ ( y v : V) (r : List V), (y :: r).set 0 v = v :: r) ∧
  (∀ (x0 y : V) (r : List V), ixN (x0 :: y :: r).length 1 = some 1) ∧
  (∀ (x0 y v : V) (r : List V), (x0 :: y :: r).set 1 v = x0 :: v :: r) ∧
  (∀ (x0 x1 y : V) (r : List V), ixN (x0 :: x1 :: y :: r).length 2 = some 2) ∧
  (∀ (x0 x1 y v : V) (r : List V), (x0 :: x1 :: y :: r).set 2 v = x0 :: x1 :: v :: r) ∧
  (∀ (x0 x1 x2 y : V) (r : List V), ixN (x0 :: x1 :: x2 :: y :: r).length 3 = some 3) ∧
  (∀ (x0 x1 x2 y v : V) (r : List V), (x0 :: x1 :: x2 :: y :: r).set 3 v = x0 :: x1 :: x2 :: v :: r) ∧
  (∀ (x0 x1 x2 x3 y : V) (r : List V), ixN (x0 :: x1 :: x2 :: x3 :: y :: r).length 4 = some 4) ∧
  (∀ (x0 x1 x2 x3 y v : V) (r : List V), (x0 :: x1 :: x2 :: x3 :: y :: r).set 4 v = x0 :: x1 :: x2 :: x3 :: v :: r) ∧
  (∀ (x0 x1 x2 x3 x4 y : V) (r : List V), ixN (x0 :: x1 :: x2 :: x3 :: x4 :: y :: r).length 5 = some 5) ∧
  (∀ (x0 x1 x2 x3 x4 y v : V) (r : List V), (x0 :: x1 :: x2 :: x3 :: x4 :: y :: r).set 5 v = x0 :: x1 :: x2 :: x3 :: x4 :: v :: r) ∧
  (∀ (H : Hp) (p a : Addr) (o : HO), H p = none → (H a).isSome = true → upd H p o a = H a) ∧
  (∀ (H : Hp) (p : Addr) (o : HO), upd H p o p = some o) ∧
  (∀ (i j : Int), (-18446744073709551616 < j ∧ j < 18446744073709551616) → CMul i j = True) ∧
  (∀ (i j : Int), (-18446744073709551616 < i ∧ i < 18446744073709551616) → CMul i j = True) ∧
  (∀ (xs : List V), (some xs).isSome = true) ∧
  (∀ (x : HO), (some x).isSome = true) ∧
  (∀ (x : V) (r : List V), seqIndex? 0 (x :: r).length = some 0) ∧
  (∀ (x : V) (r : List V), (x :: r)[0]? = some x) ∧
  (∀ (x : V) (r : List V), (x :: r).eraseIdx 0 = r) ∧
  (∀ (c : Nat) (z : Str) (H : Hp) (Q : VK), rInSg (.str ⟨#[c]⟩) (.str z) H Q = Q (.bl (decide (c ∈ z.cps.toList))) H) ∧
  (∀ (c : Nat) (z : Str) (H : Hp) (Q : VK), rNiSg (.str ⟨#[c]⟩) (.str z) H Q = Q (.bl (!decide (c ∈ z.cps.toList))) H) ∧
  (∀ (i j : Str) (H : Hp) (Q : VK), rAddS (.str i) (.str j) H Q = (i.length + j.length ≤ sizeLine ∧ Q (.str (i ++ j)) H)) ∧
  (∀ (p : List Nat → List Nat → Bool) (i j : Str) (H : Hp) (Q : VK), rStC p (.str i) (.str j) H Q = Q (.bl (p i.cps.toList j.cps.toList)) H) ∧
  (∀ (z : Str) (H : Hp) (Q : VK), rLenS [.str z] H Q = (z.length ≤ sizeLine ∧ Q (.int z.length) H)) ∧
  (∀ (z : Str) (n : Int) (H : Hp) (Q : VK), rMulS (.str z) (.int n) H Q = (z.length ≤ 4000 ∧ -1000 ≤ n ∧ n ≤ 4000 ∧ ∀ r : Str, r.cps.toList = (List.replicate n.toNat z.cps.toList).flatten → Q (.str r) H)) ∧
  (∀ (a : Str) (p : Addr) (H : Hp) (Q : VK), rJoinS (.str a) [.ref p] H Q = (∃ ys : List Str, H p = some (.lst (ys.map V.str)) ∧ (ys.map (·.length)).sum + ys.length * a.length ≤ 16777216 ∧ Q (.str (Str.join a ys)) H)) ∧
  (∀ (i : Str), (∃ a, V.str i = V.str a) = True) ∧
  (∀ (a b : Bool) (H : Hp) (Q : VK), rIsB (.bl a) (.bl b) H Q = Q (.bl (decide (a = b))) H) ∧
  (∀ (a b : Bool) (H : Hp) (Q : VK), rNotB (.bl a) (.bl b) H Q = Q (.bl (!decide (a = b))) H) ∧
  (∀ (c : Bool) (j i : Int) (p : Int → Int → Bool) (σ : St) (H : Hp) (Q : VK), Chk c (tC (.int j)) (rI0 (fun i j => V.bl (p i j)) (.int i)) σ H Q = Q (.bl (c && p i j)) H) ∧
  (∀ (c : Bool) (j i : Str) (p : List Nat → List Nat → Bool) (σ : St) (H : Hp) (Q : VK), Chk c (tC (.str j)) (rStC p (.str i)) σ H Q = Q (.bl (c && p i.cps.toList j.cps.toList)) H) ∧
  (∀ (c : Bool) (j i : Int) (p : Int → Int → Bool) (r : St) (H : Hp) (Q : VK), Chk c (tVar 0) (rI0 (fun i j => V.bl (p i j)) (.int i)) (some (.int j) :: r) H Q = Q (.bl (c && p i j)) H) ∧
  (∀ (x0 : Option V) (c : Bool) (j i : Int) (p : Int → Int → Bool) (r : St) (H : Hp) (Q : VK), Chk c (tVar 1) (rI0 (fun i j => V.bl (p i j)) (.int i)) (x0 :: some (.int j) :: r) H Q = Q (.bl (c && p i j)) H) ∧
  (∀ (x0 x1 : Option V) (c : Bool) (j i : Int) (p : Int → Int → Bool) (r : St) (H : Hp) (Q : VK), Chk c (tVar 2) (rI0 (fun i j => V.bl (p i j)) (.int i)) (x0 :: x1 :: some (.int j) :: r) H Q = Q (.bl (c && p i j)) H) ∧
  (∀ (x0 x1 x2 : Option V) (c : Bool) (j i : Int) (p : Int → Int → Bool) (r : St) (H : Hp) (Q : VK), Chk c (tVar 3) (rI0 (fun i j => V.bl (p i j)) (.int i)) (x0 :: x1 :: x2 :: some (.int j) :: r) H Q = Q (.bl (c && p i j)) H) ∧
  (∀ (x0 x1 x2 x3 : Option V) (c : Bool) (j i : Int) (p : Int → Int → Bool) (r : St) (H : Hp) (Q : VK), Chk c (tVar 4) (rI0 (fun i j => V.bl (p i j)) (.int i)) (x0 :: x1 :: x2 :: x3 :: some (.int j) :: r) H Q = Q (.bl (c && p i j)) H) ∧
  (∀ (x0 x1 x2 x3 x4 : Option V) (c : Bool) (j i : Int) (p : Int → Int → Bool) (r : St) (H : Hp) (Q : VK), Chk c (tVar 5) (rI0 (fun i j => V.bl (p i j)) (.int i)) (x0 :: x1 :: x2 :: x3 :: x4 :: some (.int j) :: r) H Q = Q (.bl (c && p i j)) H) ∧
  (∀ (x0 x1 x2 x3 x4 x5 : Option V) (c : Bool) (j i : Int) (p : Int → Int → Bool) (r : St) (H : Hp) (Q : VK), Chk c (tVar 6) (rI0 (fun i j => V.bl (p i j)) (.int i)) (x0 :: x1 :: x2 :: x3 :: x4 :: x5 :: some (.int j) :: r) H Q = Q (.bl (c && p i j)) H) ∧
  (∀ (x0 x1 x2 x3 x4 x5 x6 : Option V) (c : Bool) (j i : Int) (p : Int → Int → Bool) (r : St) (H : Hp) (Q : VK), Chk c (tVar 7) (rI0 (fun i j => V.bl (p i j)) (.int i)) (x0 :: x1 :: x2 :: x3 :: x4 :: x5 :: x6 :: some (.int j) :: r) H Q = Q (.bl (c && p i j)) H) ∧
  (∀ (x0 x1 x2 x3 x4 x5 x6 x7 : Option V) (c : Bool) (j i : Int) (p : Int → Int → Bool) (r : St) (H : Hp) (Q : VK), Chk c (tVar 8) (rI0 (fun i j => V.bl (p i j)) (.int i)) (x0 :: x1 :: x2 :: x3 :: x4 :: x5 :: x6 :: x7 :: some (.int j) :: r) H Q = Q (.bl (c && p i j)) H) ∧
  (∀ (x0 x1 x2 x3 x4 x5 x6 x7 x8 : Option V) (c : Bool) (j i : Int) (p : Int → Int → Bool) (r : St) (H : Hp) (Q : VK), Chk c (tVar 9) (rI0 (fun i j => V.bl (p i j)) (.int i)) (x0 :: x1 :: x2 :: x3 :: x4 :: x5 :: x6 :: x7 :: x8 :: some (.int j) :: r) H Q = Q (.bl (c && p i j)) H) ∧
  (∀ (x0 x1 x2 x3 x4 x5 x6 x7 x8 x9 : Option V) (c : Bool) (j i : Int) (p : Int → Int → Bool) (r : St) (H : Hp) (Q : VK), Chk c (tVar 10) (rI0 (fun i j => V.bl (p i j)) (.int i)) (x0 :: x1 :: x2 :: x3 :: x4 :: x5 :: x6 :: x7 :: x8 :: x9 :: some (.int j) :: r) H Q = Q (.bl (c && p i j)) H) ∧
  (∀ (x0 x1 x2 x3 x4 x5 x6 x7 x8 x9 x10 : Option V) (c : Bool) (j i : Int) (p : Int → Int → Bool) (r : St) (H : Hp) (Q : VK), Chk c (tVar 11) (rI0 (fun i j => V.bl (p i j)) (.int i)) (x0 :: x1 :: x2 :: x3 :: x4 :: x5 :: x6 :: x7 :: x8 :: x9 :: x10 :: some (.int j) :: r) H Q = Q (.bl (c && p i j)) H) ∧
  (∀ (x0 x1 x2 x3 x4 x5 x6 x7 x8 x9 x10 x11 : Option V) (c : Bool) (j i : Int) (p : Int → Int → Bool) (r : St) (H : Hp) (Q : VK), Chk c (tVar 12) (rI0 (fun i j => V.bl (p i j)) (.int i)) (x0 :: x1 :: x2 :: x3 :: x4 :: x5 :: x6 :: x7 :: x8 :: x9 :: x10 :: x11 :: some (.int j) :: r) H Q = Q (.bl (c && p i j)) H) ∧
  (∀ (x0 x1 x2 x3 x4 x5 x6 x7 x8 x9 x10 x11 x12 : Option V) (c : Bool) (j i : Int) (p : Int → Int → Bool) (r : St) (H : Hp) (Q : VK), Chk c (tVar 13) (rI0 (fun i j => V.bl (p i j)) (.int i)) (x0 :: x1 :: x2 :: x3 :: x4 :: x5 :: x6 :: x7 :: x8 :: x9 :: x10 :: x11 :: x12 :: some (.int j) :: r) H Q = Q (.bl (c && p i j)) H) ∧
  (∀ (x0 x1 x2 x3 x4 x5 x6 x7 x8 x9 x10 x11 x12 x13 : Option V) (c : Bool) (j i : Int) (p : Int → Int → Bool) (r : St) (H : Hp) (Q : VK), Chk c (tVar 14) (rI0 (fun i j => V.bl (p i j)) (.int i)) (x0 :: x1 :: x2 :: x3 :: x4 :: x5 :: x6 :: x7 :: x8 :: x9 :: x10 :: x11 :: x12 :: x13 :: some (.int j) :: r) H Q = Q (.bl (c && p i j)) H) ∧
  (∀ (x0 x1 x2 x3 x4 x5 x6 x7 x8 x9 x10 x11 x12 x13 x14 : Option V) (c : Bool) (j i : Int) (p : Int → Int → Bool) (r : St) (H : Hp) (Q : VK), Chk c (tVar 15) (rI0 (fun i j => V.bl (p i j)) (.int i)) (x0 :: x1 :: x2 :: x3 :: x4 :: x5 :: x6 :: x7 :: x8 :: x9 :: x10 :: x11 :: x12 :: x13 :: x14 :: some (.int j) :: r) H Q = Q (.bl (c && p i j)) H) ∧
  (∀ (CX : CXT) (P : Program) (w : World) (K : PySem.W.Frag) (mg : Str → Option Value) (base : Heap) (N : List Str) (qual : Str) (scope : Scope) (f : Addr) (cd : Value) (A : Around) (outer : List Env) (s : Shared) (H : Hp) (E : XK), (cxOf CX P w K mg base N qual scope f cd A outer s H E).K = K) ∧
  (∀ (i j : Int), (0 ≤ j ∧ j ≤ 1000000 ∧ -18446744073709551616 < i ∧ i < 18446744073709551616) → CPow i j = True) ∧
  ((([] : List V).length ≤ sizeLine) = True) ∧
  (∀ (x0 : V), (([x0] : List V).length ≤ sizeLine) = True) ∧
  (∀ (x0 x1 : V), (([x0, x1] : List V).length ≤ sizeLine) = True) ∧
  (∀ (x0 x1 x2 : V), (([x0, x1, x2] : List V).length ≤ sizeLine) = True) ∧
  (∀ (x0 x1 x2 x3 : V), (([x0, x1, x2, x3] : List V).length ≤ sizeLine) = True) ∧
  (∀ (x0 x1 x2 x3 x4 : V), (([x0, x1, x2, x3, x4] : List V).length ≤ sizeLine) = True) ∧
  (∀ (x0 x1 x2 x3 x4 x5 : V), (([x0, x1, x2, x3, x4, x5] : List V).length ≤ sizeLine) = True) ∧
  (∀ (x0 x1 x2 x3 x4 x5 x6 : V), (([x0, x1, x2, x3, x4, x5, x6] : List V).length ≤ sizeLine) = True) ∧
  (∀ (x0 x1 x2 x3 x4 x5 x6 x7 : V), (([x0, x1, x2, x3, x4, x5, x6, x7] : List V).length ≤ sizeLine) = True) :=
  ⟨w0, w1, w2, w3, w4, w5, w6, w7, w8, w9, w10, w11, w12, w13, w14, w15, w16, w17, w18, w19, w20, w21, w22, w23, w24, w25, w26, w27, w28, w29, w30, w31, w32, w33, w34, w35, w36, w37, w38, w39, w40, w41, w42, w43, w44, w45, w46, w47, w48, w49, w50, w51, w52, w53, w54, w55, w56, w57, w58, w59, w60, w61, w62, w63, w64, w65, w66, w67, w68, w69, w70, w71, w72, w73, w74, w75, w76, w77, w78, w79, w80, w81, w82, w83, w84, w85, w86, w87, w88, w89, w90, w91, w92, w93, w94, w95, w96, w97, w98, w99, w100, w101, w102, w103, w104, w105, w106, w107, w108, w109, w110, w111, w112, w113, w114, w115, w116, w117, w118, w119, w120, w121, w122, w123, w124, w125, w126, w127, w128, w129, w130, w131, w132, w133, w134, w135, w136, w137, w138, w139, w140, w141, w142, w143, w144, w145, w146, w147, w148, w149, w150, w151, w152, w153, w154, w155, w156, w157, w158, w159, w160, w161, w162, w163, w164, w165, w166, w167, w168, w169, w170, w171, w172, w173, w174, w175, w176, w177, w178, w179, w180, w181, w182, w183, w184, w185, w186, w187, w188, w189, w190, w191, w192, w193, w194, w195, w196, w197, w198, w199, w200, w201, w202, w203, w204, w205, w206, w207, w208, w209, w210, w211, w212, w213, w214, w215, w216, w217, w218, w219, w220, w221, w222, w223, w224, w225, w226, w227, w228, w229, w230, w231, w232, w233, w234, w235, w236, w237, w238, w239, w240, w241, w242, w243, w244, w245, w246, w247, w248, w249, w250, w251, w252, w253, w254, w255, w256, w257, w258⟩
end Com
namespace Nv
open PySem L2
def topS (i : Nat) : Stmt := PySem.Challenge.pw_neverrounds_k01_names.main.body.getD i (.Pass ⟨0, 0, 0, 0⟩)
abbrev s__law_state : Stmt := (topS 6)
abbrev s__law_mixed : Stmt := (topS 7)
abbrev s__law_draw : Stmt := (topS 8)
abbrev s__law_name : Stmt := (topS 10)
abbrev s__law_sign : Stmt := (topS 9)
abbrev s__law_text : Stmt := (topS 11)
abbrev s_is_name : Stmt := (topS 4)
abbrev s__law_due : Stmt := (topS 12)
abbrev s_law : Stmt := (topS 13)
theorem sc__law_state : FnScope ["_law_script", "_law_cell"] ["_law_script"] (defScope s__law_state) := ⟨rfl, rfl, rfl, by decide +kernel, rfl, by decide +kernel, by decide +kernel⟩
theorem sc__law_mixed : FnScope ["_law_state_here", "_law_many", "_law_cells", "_law_turn", "_law_cell", "_law_one", "_law_two", "_law_three"] ["_law_state_here", "_law_many"] (defScope s__law_mixed) := ⟨rfl, rfl, rfl, by decide +kernel, rfl, by decide +kernel, by decide +kernel⟩
theorem sc__law_draw : FnScope ["_law_state_here", "_law_many", "_law_later", "_law_digit"] ["_law_state_here", "_law_many"] (defScope s__law_draw) := ⟨rfl, rfl, rfl, by decide +kernel, rfl, by decide +kernel, by decide +kernel⟩
theorem sc__law_name : FnScope ["_law_state_here", "_law_signs", "_law_name_here", "_law_k"] ["_law_state_here"] (defScope s__law_name) := ⟨rfl, rfl, rfl, by decide +kernel, rfl, by decide +kernel, by decide +kernel⟩
theorem sc__law_sign : FnScope ["_law_state_here", "_law_signs"] ["_law_state_here"] (defScope s__law_sign) := ⟨rfl, rfl, rfl, by decide +kernel, rfl, by decide +kernel, by decide +kernel⟩
theorem sc__law_text : FnScope ["_law_state_here", "_law_name_here", "_law_way", "_law_size", "_law_place", "_law_k"] ["_law_state_here", "_law_name_here"] (defScope s__law_text) := ⟨rfl, rfl, rfl, by decide +kernel, rfl, by decide +kernel, by decide +kernel⟩
theorem sc_is_name : FnScope ["text", "sign"] ["text"] (defScope s_is_name) := ⟨rfl, rfl, rfl, by decide +kernel, rfl, by decide +kernel, by decide +kernel⟩
theorem sc__law_due : FnScope ["_law_text_here", "_law_letters", "_law_digits", "_law_sign_here"] ["_law_text_here"] (defScope s__law_due) := ⟨rfl, rfl, rfl, by decide +kernel, rfl, by decide +kernel, by decide +kernel⟩
theorem sc_law : FnScope ["_law_script", "_law_state_here", "_law_name_here", "_law_text_here", "_law_asked", "_law_one", "_law_told"] ["_law_script"] (defScope s_law) := ⟨rfl, rfl, rfl, by decide +kernel, rfl, by decide +kernel, by decide +kernel⟩
abbrev FnP (K : PySem.W.Frag) (x : Str) (st : Stmt) : Prop := ∃ fd, FunD K x x (defArgs st) (defBody st) (defScope st) [] [] (He.ga K x) fd
structure Txt (K : PySem.W.Frag) (mg : Str → Option Value) : Prop where
  b_int : mg "int" = none
  b_len : mg "len" = none
  b_list : mg "list" = none
  b_range : mg "range" = none
  c_DIGITS : Com.CStr mg "DIGITS" "0123456789"
  c_LETTERS : Com.CStr mg "LETTERS" "abcdefghijklmnopqrstuvwxyz"
  c_MOST_SIGNS : Com.CInt mg "MOST_SIGNS" 12
  g__law_state : mg "_law_state" = some (.ref (He.ga K "_law_state"))
  F__law_state : FnP K "_law_state" s__law_state
  g__law_mixed : mg "_law_mixed" = some (.ref (He.ga K "_law_mixed"))
  F__law_mixed : FnP K "_law_mixed" s__law_mixed
  g__law_draw : mg "_law_draw" = some (.ref (He.ga K "_law_draw"))
  F__law_draw : FnP K "_law_draw" s__law_draw
  g__law_name : mg "_law_name" = some (.ref (He.ga K "_law_name"))
  F__law_name : FnP K "_law_name" s__law_name
  g__law_sign : mg "_law_sign" = some (.ref (He.ga K "_law_sign"))
  F__law_sign : FnP K "_law_sign" s__law_sign
  g__law_text : mg "_law_text" = some (.ref (He.ga K "_law_text"))
  F__law_text : FnP K "_law_text" s__law_text
  g_is_name : mg "is_name" = some (.ref (He.ga K "is_name"))
  F_is_name : FnP K "is_name" s_is_name
  g__law_due : mg "_law_due" = some (.ref (He.ga K "_law_due"))
  F__law_due : FnP K "_law_due" s__law_due
  g_law : mg "law" = some (.ref (He.ga K "law"))
  F_law : FnP K "law" s_law

/-- the state of the draws stands at a, its list of great cells at l, its cells at c; at most n draws were mixed -/
structure StAt (H : Hp) (a l c : Addr) (n : Nat) : Prop where
  ex : ∃ (acc turn : Int) (later cells : List Int), H a = some (.lst [.int acc, .ref l, .int turn, .ref c]) ∧ H l = some (.lst (later.map V.int)) ∧ H c = some (.lst (cells.map V.int)) ∧ 0 ≤ turn ∧ turn ≤ n ∧ later.length ≤ 63 ∧ cells.length ≤ 63
  al : a ≠ l
  ac : a ≠ c
  lc : l ≠ c
/-- all but the state's own two lists is kept -/
def Kp (a l : Addr) (H H' : Hp) : Prop := ∀ b o, b ≠ a → b ≠ l → H b = some o → H' b = some o
theorem same_new {H : Hp} {p : Addr} {o : HO} (h : H p = none) : Same H (upd H p o) := fun b u e => by rw [upd_ne (ne_of_none e h)]; exact e
theorem same_kp {a l : Addr} {H H' : Hp} (s : Same H H') : Kp a l H H' := fun b o _ _ e => s b o e
theorem StAt.ne {H : Hp} {a l c p : Addr} {n : Nat} (st : StAt H a l c n) (h : H p = none) : p ≠ a ∧ p ≠ l ∧ p ≠ c := by
  obtain ⟨⟨acc, turn, later, cells, h1, h2, h3, _⟩, _⟩ := st
  exact ⟨(ne_of_none h1 h).symm, (ne_of_none h2 h).symm, (ne_of_none h3 h).symm⟩
theorem StAt.write {H : Hp} {a l c p : Addr} {n : Nat} {o : HO} (st : StAt H a l c n) (h : p ≠ a ∧ p ≠ l ∧ p ≠ c) : StAt (upd H p o) a l c n := by
  obtain ⟨⟨acc, turn, later, cells, h1, h2, h3, hr⟩, al, ac, lc⟩ := st
  exact ⟨⟨acc, turn, later, cells, by rw [upd_ne h.1.symm, h1], by rw [upd_ne h.2.1.symm, h2], by rw [upd_ne h.2.2.symm, h3], hr⟩, al, ac, lc⟩
theorem StAt.newly {H : Hp} {a l c p : Addr} {n : Nat} {o : HO} (st : StAt H a l c n) (h : H p = none) : StAt (upd H p o) a l c n := st.write (st.ne h)
theorem StAt.same {H H' : Hp} {a l c : Addr} {n : Nat} (st : StAt H a l c n) (s : Same H H') : StAt H' a l c n := by
  obtain ⟨⟨acc, turn, later, cells, h1, h2, h3, hr⟩, al, ac, lc⟩ := st
  exact ⟨⟨acc, turn, later, cells, s _ _ h1, s _ _ h2, s _ _ h3, hr⟩, al, ac, lc⟩
theorem Kp.write {a l p : Addr} {H0 H : Hp} {o : HO} (k : Kp a l H0 H) (h : H0 p = none) : Kp a l H0 (upd H p o) := fun b u ha hb e => by rw [upd_ne (ne_of_none e h)]; exact k b u ha hb e
theorem Kp.newly {a l p : Addr} {H0 H : Hp} {o : HO} (k : Kp a l H0 H) (h : H p = none) : Kp a l H0 (upd H p o) := fun b u ha hb e => by
  have q := k b u ha hb e
  rw [upd_ne (ne_of_none q h)]
  exact q
theorem Kp.same {a l : Addr} {H0 H H' : Hp} (k : Kp a l H0 H) (s : Same H H') : Kp a l H0 H' := fun b u ha hb e => s _ _ (k b u ha hb e)
theorem Kp.free {a l c p : Addr} {n : Nat} {H0 H : Hp} (k : Kp a l H0 H) (st : StAt H0 a l c n) (h : H p = none) (hp : p ≠ a ∧ p ≠ l ∧ p ≠ c) : H0 p = none := by
  cases e : H0 p with
  | none => rfl
  | some o => rw [k p o hp.1 hp.2.1 e] at h; cases h
theorem Kp.trans {a l : Addr} {H H1 H2 : Hp} (x : Kp a l H H1) (y : Kp a l H1 H2) : Kp a l H H2 := fun b o ha hb e => y b o ha hb (x b o ha hb e)
theorem Kp.refl {a l : Addr} {H : Hp} : Kp a l H H := fun _ _ _ _ e => e
theorem StAt.mono {H : Hp} {a l c : Addr} {n m : Nat} (st : StAt H a l c n) (h : n ≤ m) : StAt H a l c m := by
  obtain ⟨⟨acc, turn, later, cells, h1, h2, h3, t0, tn, z1, z2⟩, al, ac, lc⟩ := st
  exact ⟨⟨acc, turn, later, cells, h1, h2, h3, t0, by omega, z1, z2⟩, al, ac, lc⟩
theorem cell_at {cells : List Int} {t : Int} (h : 0 < cells.length) : ∃ z, atI (cells.map V.int) (t % (cells.map V.int).length) = some (.int z) := by
  have h0 : (0 : Int) < ((cells.map V.int).length : Int) := by rw [List.length_map]; omega
  have a0 := Int.emod_nonneg t (show ((cells.map V.int).length : Int) ≠ 0 by omega)
  have a1 := Int.emod_lt_of_pos t h0
  obtain ⟨j, hj⟩ := Int.eq_ofNat_of_zero_le a0
  have hl : j < cells.length := by rw [List.length_map] at a1 hj; omega
  refine ⟨cells[j], ?_⟩
  rw [hj]
  exact atI_nat (by rw [List.getElem?_map, List.getElem?_eq_getElem hl]; rfl)
theorem small_mod (i : Int) {k : Int} (h : 0 < k) (hk : k ≤ 18446744073709551616) : -18446744073709551616 < i % k ∧ i % k < 18446744073709551616 := by
  have := Int.emod_nonneg i (show k ≠ 0 by omega)
  have := Int.emod_lt_of_pos i h
  omega
-- _law_state
def sp__law_state (K : PySem.W.Frag) : Sp := Com.Sp1 fun x H Q _ => ∃ (s : Addr) (ns : List Int), x = .ref s ∧ SqL K H s (ns.map V.int) ∧ ns.length ≤ 63 ∧ ∀ (a l c : Addr) H', StAt H' a l c 0 → Same H H' → H a = none → H l = none → Q (.ref a) H'
set_option maxHeartbeats 4000000 in
theorem ok__law_state {P : Program} {w : World} {K : PySem.W.Frag} {mg : Str → Option Value} {base : Heap} (T : Txt K mg) : Com.Fn P w K mg base CX0 1 "_law_state" ["_law_script"] (sp__law_state K) := by
  obtain ⟨fd, F⟩ := T.F__law_state
  refine ⟨He.ga K "_law_state", fd, F.ok sc__law_state (fun vs H Q E h => ?_) (fun cdv A outer s H vs Q E hr h => ?_), T.g__law_state, F.kp, F.bindsN fun _ _ _ _ _ _ us hl => match us, hl with | [_], _ => rfl⟩
  · obtain ⟨_, rfl, _⟩ := h
    rfl
  · obtain ⟨a0, rfl, h⟩ := h
    refine ⟨_, PSs.nox (pss_one (ps_ret (pe_lst (pa_cons pe_int (pa_cons (pe_lc (own := [("_law_cell", 1)]) (g := (gName 1)) rfl sc__law_state.nd (pi_list (pv 0)) (blkOk_by (own := [("_law_cell", 1)]) (N := ["_law_script", "_law_cell"]) (sc := defScope s__law_state) (by decide +kernel)) (fun _ _ _ _ _ => (pg_name (i := 1) sc__law_state.nd rfl (by first | exact Or.inl rfl | exact Or.inr rfl))) (fun _ _ _ _ _ => pts_one (pt_cmpR op_ge (pv 1) (pe_op op_pow pe_int pe_int) (nomark _))) (fun _ _ _ _ _ => (pv 1))) (pa_cons pe_int (pa_cons (pe_callTy call_list_of (by rfl) T.b_list (by decide +kernel) (pa_cons (pv 0) pa_nil)) pa_nil))))))), ?_⟩
    simp only [L2.start, List.map_cons, List.map_nil, List.length_cons, List.length_nil, List.cons_append, List.nil_append, Nat.reduceAdd, Nat.reduceSub, List.replicate_succ, List.replicate_zero]
    obtain ⟨s0, ns, rfl, hS, hn, q⟩ := h
    try simp only [Com.wp, Option.some.injEq, exists_eq_left', true_and, and_true, and_self, Int.reduceLT, Int.reduceLE, Int.reduceNeg, Int.reduceAdd, Int.reduceSub, Int.reducePow, Int.reduceToNat, Nat.reduceAdd, Nat.reduceLT, Nat.reduceLeDiff]
    refine ⟨s0, rfl, ⟨_, hS⟩, Com.lcL (ns.map V.int) fun D hD => ⟨fun i H1 => ∃ later : List Int, H1 = upd H D (.lst (later.map V.int)) ∧ later.length ≤ i, ⟨[], rfl, Nat.le_refl _⟩, ?_, ?_, ?_⟩⟩
    · rintro i H1 ⟨later, rfl, _⟩
      exact (same_new hD).seq hS
    · rintro i x H1 hi hx ⟨later, rfl, hl⟩
      obtain ⟨z, rfl⟩ : ∃ z, x = V.int z := by
        rw [List.getElem?_map] at hx
        cases e : ns[i]? with
        | none => rw [e] at hx; cases hx
        | some z => rw [e] at hx; exact ⟨z, (Option.some.inj hx).symm⟩
      try simp only [Com.wp, Option.some.injEq, exists_eq_left', true_and, and_true, and_self, Int.reduceLT, Int.reduceLE, Int.reduceNeg, Int.reduceAdd, Int.reduceSub, Int.reducePow, Int.reduceToNat, Nat.reduceAdd, Nat.reduceLT, Nat.reduceLeDiff]
      cases decide (1000000000000000000 ≤ z) with
      | false =>
        try simp only [Com.wp, Option.some.injEq, exists_eq_left', true_and, and_true, and_self, Int.reduceLT, Int.reduceLE, Int.reduceNeg, Int.reduceAdd, Int.reduceSub, Int.reducePow, Int.reduceToNat, Nat.reduceAdd, Nat.reduceLT, Nat.reduceLeDiff]
        exact ⟨later, rfl, by omega⟩
      | true =>
        try simp only [Com.wp, Option.some.injEq, exists_eq_left', true_and, and_true, and_self, Int.reduceLT, Int.reduceLE, Int.reduceNeg, Int.reduceAdd, Int.reduceSub, Int.reducePow, Int.reduceToNat, Nat.reduceAdd, Nat.reduceLT, Nat.reduceLeDiff, upd_upd]
        rw [List.length_map] at hi ⊢
        exact ⟨Nat.lt_of_le_of_lt (show later.length ≤ 100 by omega) (by decide), later ++ [z], by rw [List.map_append]; rfl, by rw [List.length_append]; simp; omega⟩
    · rintro H1 ⟨later, rfl, hl⟩
      have hS1 : SqL K (upd H D (.lst (later.map V.int))) s0 (ns.map V.int) := (same_new hD).seq hS
      rw [List.length_map] at hl
      refine ⟨s0, _, rfl, .inl hS1, fun c hc a ha => ?_⟩
      have Dc : D ≠ c := ne_of_none upd_same hc
      have aD : D ≠ a := ne_of_none (show _ = some _ by rw [upd_ne Dc]; exact upd_same) ha
      have ac : c ≠ a := ne_of_none upd_same ha
      have nc : H c = none := by rw [upd_ne Dc.symm] at hc; exact hc
      have na : H a = none := by rw [upd_ne ac.symm, upd_ne aD.symm] at ha; exact ha
      refine q a D c _ ⟨⟨1, 0, later, ns, upd_same, ?_, ?_, Int.le_refl _, Int.le_refl _, by omega, hn⟩, aD.symm, ac.symm, Dc⟩ ?_ na hD
      · rw [upd_ne aD, upd_ne Dc, upd_same]
      · rw [upd_ne ac, upd_same]
      · exact ((same_new hD).trans (same_new hc)).trans (same_new ha)
-- _law_mixed
def sp__law_mixed (_ : PySem.W.Frag) : Sp := Com.Sp2 fun x m H Q _ => ∃ (a l c : Addr) (n : Nat) (k : Int), x = .ref a ∧ m = .int k ∧ StAt H a l c n ∧ n < 1000000 ∧ 1 ≤ k ∧ ∀ (d : Int) H', 0 ≤ d → d < k → StAt H' a l c (n + 1) → Kp a l H H' → Q (.int d) H'
set_option maxHeartbeats 4000000 in
theorem ok__law_mixed {P : Program} {w : World} {K : PySem.W.Frag} {mg : Str → Option Value} {base : Heap} (T : Txt K mg) : Com.Fn P w K mg base CX0 1 "_law_mixed" ["_law_state_here", "_law_many"] (sp__law_mixed K) := by
  obtain ⟨fd, F⟩ := T.F__law_mixed
  refine ⟨He.ga K "_law_mixed", fd, F.ok sc__law_mixed (fun vs H Q E h => ?_) (fun cdv A outer s H vs Q E hr h => ?_), T.g__law_mixed, F.kp, F.bindsN fun _ _ _ _ _ _ us hl => match us, hl with | [_, _], _ => rfl⟩
  · obtain ⟨_, _, rfl, _⟩ := h
    rfl
  · obtain ⟨a0, a1, rfl, h⟩ := h
    refine ⟨_, PSs.nox (pss_cons (ps_set (i := 2) sc__law_mixed.nd rfl (by first | exact Or.inl rfl | exact Or.inr rfl) (pe_ix Com.qix_list (pv 0) pe_int (fun _ _ => rfl)))
      (pss_cons (ps_set (i := 3) sc__law_mixed.nd rfl (by first | exact Or.inl rfl | exact Or.inr rfl) (pe_ix Com.qix_list (pv 0) pe_int (fun _ _ => rfl)))
      (pss_cons (ps_asg (pe_op op_add (pv 3) pe_int) (pg_sub (pv 0) pe_int set_list))
      (pss_cons (ps_set (i := 4) sc__law_mixed.nd rfl (by first | exact Or.inl rfl | exact Or.inr rfl) pe_int)
      (pss_cons (ps_if (pt_cmpR op_gt (pe_callB Com.qlen (by rfl) T.b_len (by decide +kernel) (pa_cons (pv 2) pa_nil)) pe_int (nomark _)) (pss_one (ps_set (i := 4) sc__law_mixed.nd rfl (by first | exact Or.inl rfl | exact Or.inr rfl) (pe_ix Com.qix_list (pv 2) (pe_op op_mod (pe_callTy Com.qint (by rfl) T.b_int (by decide +kernel) (pa_cons (pv 3) pa_nil)) (pe_callB Com.qlen (by rfl) T.b_len (by decide +kernel) (pa_cons (pv 2) pa_nil))) (fun _ _ => rfl)))) pss_nil)
      (pss_cons (ps_set (i := 5) sc__law_mixed.nd rfl (by first | exact Or.inl rfl | exact Or.inr rfl) (pe_op op_mod (pe_callTy Com.qint (by rfl) T.b_int (by decide +kernel) (pa_cons (pe_op op_add (pe_op op_add (pe_op op_mul (pv 4) pe_int) (pe_op op_mul (pv 3) pe_int)) pe_int) pa_nil)) pe_int))
      (pss_cons (ps_set (i := 6) sc__law_mixed.nd rfl (by first | exact Or.inl rfl | exact Or.inr rfl) (pe_op op_mod (pe_callTy Com.qint (by rfl) T.b_int (by decide +kernel) (pa_cons (pe_op op_add (pe_op op_add (pe_op op_add (pe_op op_mul (pv 5) pe_int) (pe_op op_mul (pe_op op_mul (pv 3) (pv 3)) pe_int)) (pe_op op_mul (pv 4) pe_int)) pe_int) pa_nil)) pe_int))
      (pss_cons (ps_set (i := 7) sc__law_mixed.nd rfl (by first | exact Or.inl rfl | exact Or.inr rfl) (pe_op op_mod (pe_callTy Com.qint (by rfl) T.b_int (by decide +kernel) (pa_cons (pe_op op_add (pe_op op_add (pe_op op_mul (pv 6) pe_int) (pv 5)) (pe_op op_mul (pv 3) pe_int)) pa_nil)) pe_int))
      (pss_one (ps_ret (pe_op op_mod (pe_callTy Com.qint (by rfl) T.b_int (by decide +kernel) (pa_cons (pe_op op_add (pe_op op_mul (pv 6) pe_int) (pv 7)) pa_nil)) (pv 1)))))))))))), ?_⟩
    simp only [L2.start, List.map_cons, List.map_nil, List.length_cons, List.length_nil, List.cons_append, List.nil_append, Nat.reduceAdd, Nat.reduceSub, List.replicate_succ, List.replicate_zero]
    obtain ⟨a, l, c, n, k, rfl, rfl, ⟨⟨acc, turn, later, cells, h1, h2, h3, t0, tn, z1, z2⟩, al, ac, lc⟩, hn, hk, q⟩ := h
    try simp only [Com.wp, Option.some.injEq, exists_eq_left', true_and, and_true, and_self, Int.reduceLT, Int.reduceLE, Int.reduceNeg, Int.reduceAdd, Int.reduceSub, Int.reducePow, Int.reduceToNat, Nat.reduceAdd, Nat.reduceLT, Nat.reduceLeDiff, h1, h2, h3, upd_ne al.symm, upd_ne ac.symm]
    have tb : -18446744073709551616 < turn ∧ turn < 18446744073709551616 := by omega
    have fin : ∀ z : Int, Q (.int (z % k)) (upd H a (.lst [.int acc, .ref l, .int (turn + 1), .ref c])) := fun z =>
      q _ _ (Int.emod_nonneg _ (by omega)) (Int.emod_lt_of_pos _ (by omega)) ⟨⟨acc, turn + 1, later, cells, upd_same, by rw [upd_ne al.symm, h2], by rw [upd_ne ac.symm, h3], by omega, by omega, z1, z2⟩, al, ac, lc⟩
        (fun b o hb _ e => by rw [upd_ne hb]; exact e)
    refine Com.ifk (fun hc => ?_) (fun hc => ?_)
    · have hc : 0 < cells.length := by simpa using hc
      obtain ⟨z, hz⟩ := cell_at (t := turn) hc
      try simp only [Com.wp, Option.some.injEq, exists_eq_left', true_and, and_true, and_self, Int.reduceLT, Int.reduceLE, Int.reduceNeg, Int.reduceAdd, Int.reduceSub, Int.reducePow, Int.reduceToNat, Nat.reduceAdd, Nat.reduceLT, Nat.reduceLeDiff, h3, upd_ne ac.symm, hz, tb]
      exact ⟨by rw [List.length_map]; omega, by omega, fin _⟩
    · try simp only [Com.wp, Option.some.injEq, exists_eq_left', true_and, and_true, and_self, Int.reduceLT, Int.reduceLE, Int.reduceNeg, Int.reduceAdd, Int.reduceSub, Int.reducePow, Int.reduceToNat, Nat.reduceAdd, Nat.reduceLT, Nat.reduceLeDiff, tb]
      exact ⟨by omega, fin _⟩
-- _law_draw
def sp__law_draw (_ : PySem.W.Frag) : Sp := Com.Sp2 fun x m H Q _ => ∃ (a l c : Addr) (n : Nat) (k : Int), x = .ref a ∧ m = .int k ∧ StAt H a l c n ∧ n < 1000000 ∧ 1 ≤ k ∧ k < 2 ^ 1000 ∧ ∀ (d : Int) H', 0 ≤ d → d < k → StAt H' a l c (n + 1) → Kp a l H H' → Q (.int d) H'
theorem use_draw {K : PySem.W.Frag} {a l c : Addr} {n : Nat} {k : Int} {H : Hp} {Q : VK} {E : XK} (st : StAt H a l c n) (hn : n < 1000000) (hk : 1 ≤ k) (hk2 : k < 2 ^ 1000)
    (q : ∀ (j : Nat) H', (j : Int) < k → StAt H' a l c (n + 1) → Kp a l H H' → Q (.int j) H') : sp__law_draw K [.ref a, .int k] H Q E :=
  ⟨_, _, rfl, a, l, c, n, k, rfl, rfl, st, hn, hk, hk2, fun d H' d0 d1 st' kp => by
    obtain ⟨j, rfl⟩ := Int.eq_ofNat_of_zero_le d0
    exact q j H' d1 st' kp⟩
set_option maxHeartbeats 4000000 in
theorem ok__law_draw {P : Program} {w : World} {K : PySem.W.Frag} {mg : Str → Option Value} {base : Heap} (T : Txt K mg) : Com.Fn P w K mg base CX0 2 "_law_draw" ["_law_state_here", "_law_many"] (sp__law_draw K) := by
  have G__law_mixed := ok__law_mixed (P := P) (w := w) (base := base) T
  obtain ⟨fd, F⟩ := T.F__law_draw
  refine ⟨He.ga K "_law_draw", fd, F.ok sc__law_draw (fun vs H Q E h => ?_) (fun cdv A outer s H vs Q E hr h => ?_), T.g__law_draw, F.kp, F.bindsN fun _ _ _ _ _ _ us hl => match us, hl with | [_, _], _ => rfl⟩
  · obtain ⟨_, _, rfl, _⟩ := h
    rfl
  · obtain ⟨a0, a1, rfl, h⟩ := h
    refine ⟨_, PSs.nox (Com.pss_cutJ (ps_if (PW.pt (pw_and (pt_cmpR op_le (pe_ix Com.qix_list (pv 0) pe_int (fun _ _ => rfl)) pe_int (nomark _)) (pw_and1 (pt_cmpR op_gt (pe_callB Com.qlen (by rfl) T.b_len (by decide +kernel) (pa_cons (pe_ix Com.qix_list (pv 0) pe_int (fun _ _ => rfl)) pa_nil)) pe_int (nomark _))))) (pss_cons (ps_set (i := 2) sc__law_draw.nd rfl (by first | exact Or.inl rfl | exact Or.inr rfl) (pe_ix Com.qix_list (pv 0) pe_int (fun _ _ => rfl)))
      (pss_one (ps_asg (pe_bm PySem.F.plainAttrs_list PySem.F.slot_list_pop PySem.F.type_list_pop mt_popAt (pv 2) (pa_cons pe_int pa_nil)) (pg_sub (pv 0) pe_int set_list)))) pss_nil)
      (pss_cons (ps_if (pt_cmpR op_gt (pe_ix Com.qix_list (pv 0) pe_int (fun _ _ => rfl)) pe_int (nomark _)) (pss_cons (ps_set (i := 3) sc__law_draw.nd rfl (by first | exact Or.inl rfl | exact Or.inr rfl) (pe_op op_mod (pe_callTy Com.qint (by rfl) T.b_int (by decide +kernel) (pa_cons (pe_ix Com.qix_list (pv 0) pe_int (fun _ _ => rfl)) pa_nil)) (pv 1)))
      (pss_cons (ps_asg (pe_op op_fdivW (pe_ix Com.qix_list (pv 0) pe_int (fun _ _ => rfl)) (pv 1)) (pg_sub (pv 0) pe_int set_list))
      (pss_one (ps_ret (pv 3))))) pss_nil)
      (pss_one (ps_ret (Com.pcall G__law_mixed (hr.mono (by decide)) (by rfl) pass0 (pa_cons (pv 0) (pa_cons (pv 1) pa_nil))))))), ?_⟩
    simp only [L2.start, List.map_cons, List.map_nil, List.length_cons, List.length_nil, List.cons_append, List.nil_append, Nat.reduceAdd, Nat.reduceSub, List.replicate_succ, List.replicate_zero]
    obtain ⟨a, l, c, n, k, rfl, rfl, ⟨⟨acc, turn, later, cells, h1, h2, h3, t0, tn, z1, z2⟩, al, ac, lc⟩, hn, hk, hk2, q⟩ := h
    refine ⟨fun s2 H2 => ∃ (x2 : Option V) (acc : Int) (later : List Int), s2 = [some (.ref a), some (.int k), x2, none] ∧ H2 a = some (.lst [.int acc, .ref l, .int turn, .ref c]) ∧ H2 l = some (.lst (later.map V.int)) ∧ H2 c = some (.lst (cells.map V.int)) ∧ later.length ≤ 63 ∧ Kp a l H H2, ?_, ?_⟩
    · try simp only [Com.wp, Option.some.injEq, exists_eq_left', true_and, and_true, and_self, Int.reduceLT, Int.reduceLE, Int.reduceNeg, Int.reduceAdd, Int.reduceSub, Int.reducePow, Int.reduceToNat, Nat.reduceAdd, Nat.reduceLT, Nat.reduceLeDiff, h1, h2, h3]
      have stay : ∃ (x2 : Option V) (acc : Int) (later : List Int), [some (V.ref a), some (V.int k), none, none] = [some (V.ref a), some (V.int k), x2, none] ∧ H a = some (.lst [.int acc, .ref l, .int turn, .ref c]) ∧ H l = some (.lst (later.map V.int)) ∧ H c = some (.lst (cells.map V.int)) ∧ later.length ≤ 63 ∧ Kp a l H H :=
        ⟨none, acc, later, rfl, h1, h2, h3, z1, fun _ _ _ _ e => e⟩
      refine Com.andk (fun _ => ?_) (fun _ => Com.ifk (fun z => Bool.noConfusion z) (fun _ => stay))
      try simp only [Com.wp, Option.some.injEq, exists_eq_left', true_and, and_true, and_self, Int.reduceLT, Int.reduceLE, Int.reduceNeg, Int.reduceAdd, Int.reduceSub, Int.reducePow, Int.reduceToNat, Nat.reduceAdd, Nat.reduceLT, Nat.reduceLeDiff, h1, h2, h3]
      refine Com.ifk (fun hc => ?_) (fun _ => stay)
      cases later with
      | nil => simp at hc
      | cons y later =>
        try simp only [Com.wp, Option.some.injEq, exists_eq_left', true_and, and_true, and_self, Int.reduceLT, Int.reduceLE, Int.reduceNeg, Int.reduceAdd, Int.reduceSub, Int.reducePow, Int.reduceToNat, Nat.reduceAdd, Nat.reduceLT, Nat.reduceLeDiff, h1, h2, h3, upd_ne al, upd_ne al.symm, upd_ne lc.symm, upd_ne ac.symm, List.map_cons]
        exact ⟨_, y, later, rfl, rfl, rfl, by simp at z1; omega, fun b o ha hb e => by rw [upd_ne ha, upd_ne hb]; exact e⟩
    · rintro s2 H2 ⟨x2, acc, later, rfl, h1, h2, h3, z1, kp⟩
      try simp only [Com.wp, Option.some.injEq, exists_eq_left', true_and, and_true, and_self, Int.reduceLT, Int.reduceLE, Int.reduceNeg, Int.reduceAdd, Int.reduceSub, Int.reducePow, Int.reduceToNat, Nat.reduceAdd, Nat.reduceLT, Nat.reduceLeDiff, h1, h2, h3]
      refine Com.ifk (fun hc => ?_) (fun hc => ?_)
      · try simp only [Com.wp, Option.some.injEq, exists_eq_left', true_and, and_true, and_self, Int.reduceLT, Int.reduceLE, Int.reduceNeg, Int.reduceAdd, Int.reduceSub, Int.reducePow, Int.reduceToNat, Nat.reduceAdd, Nat.reduceLT, Nat.reduceLeDiff, h1, h2, h3, upd_ne al.symm]
        refine ⟨by omega, wide_div (b := 1000) (by omega) (by omega) (by decide) (by decide), q _ _ (Int.emod_nonneg _ (by omega)) (Int.emod_lt_of_pos _ (by omega)) ⟨⟨acc / k, turn, later, cells, upd_same, by rw [upd_ne al.symm, h2], by rw [upd_ne ac.symm, h3], t0, by omega, z1, z2⟩, al, ac, lc⟩ fun b o ha hb e => ?_⟩
        rw [upd_ne ha]
        exact kp b o ha hb e
      · try simp only [Com.wp, Option.some.injEq, exists_eq_left', true_and, and_true, and_self, Int.reduceLT, Int.reduceLE, Int.reduceNeg, Int.reduceAdd, Int.reduceSub, Int.reducePow, Int.reduceToNat, Nat.reduceAdd, Nat.reduceLT, Nat.reduceLeDiff]
        exact ⟨_, _, rfl, a, l, c, n, k, rfl, rfl, ⟨⟨acc, turn, later, cells, h1, h2, h3, t0, tn, z1, z2⟩, al, ac, lc⟩, hn, hk, fun d H' d0 d1 st kp' => q d H' d0 d1 st fun b o ha hb e => kp' b o ha hb (kp b o ha hb e)⟩
def isLet (c : Nat) : Bool := decide (97 ≤ c) && decide (c ≤ 122)
def isDig (c : Nat) : Bool := decide (48 ≤ c) && decide (c ≤ 57)
/-- the codes of a name -/
def nameC (cs : List Nat) : Bool := (decide (1 ≤ cs.length) && decide (cs.length ≤ 12)) && (isLet (cs.headD 0) && cs.all fun c => isLet c || isDig c)
theorem letters_eq : (Str.ofString "abcdefghijklmnopqrstuvwxyz").cps.toList = [97, 98, 99, 100, 101, 102, 103, 104, 105, 106, 107, 108, 109, 110, 111, 112, 113, 114, 115, 116, 117, 118, 119, 120, 121, 122] := by decide +kernel
theorem digits_eq : (Str.ofString "0123456789").cps.toList = [48, 49, 50, 51, 52, 53, 54, 55, 56, 57] := by decide +kernel
theorem mem_letters (c : Nat) : decide (c ∈ (Str.ofString "abcdefghijklmnopqrstuvwxyz").cps.toList) = isLet c := by
  rw [letters_eq]
  unfold isLet
  rw [← Bool.decide_and]
  refine decide_eq_decide.mpr ?_
  simp only [List.mem_cons, List.not_mem_nil, or_false]
  omega
theorem mem_digits (c : Nat) : decide (c ∈ (Str.ofString "0123456789").cps.toList) = isDig c := by
  rw [digits_eq]
  unfold isDig
  rw [← Bool.decide_and]
  refine decide_eq_decide.mpr ?_
  simp only [List.mem_cons, List.not_mem_nil, or_false]
  omega
theorem len_tl (z : Str) : z.cps.toList.length = z.length := Array.length_toList
theorem sz (z : Str) (h : z.length ≤ 1000000) : z.length ≤ sizeLine := Nat.le_trans h (by decide)
theorem len_app (x y : Str) : (x ++ y).length = x.length + y.length := Array.size_append
theorem line_of {n : Nat} (h : n ≤ 1000000) : n ≤ sizeLine := Nat.le_trans h (by decide)
theorem line_lt {n : Nat} (h : n ≤ 1000000) : n < sizeLine := Nat.lt_of_le_of_lt h (by decide)
theorem len_join : ∀ ys : List Str, (Str.join (Str.ofString "") ys).length = (ys.map (·.length)).sum
  | [] => rfl
  | [x] => by simp [Str.join]
  | x :: y :: r => by
    show (x ++ Str.ofString "" ++ Str.join (Str.ofString "") (y :: r)).length = _
    rw [len_app, len_app, len_join (y :: r), List.map_cons (l := y :: r), List.sum_cons]
    have : (Str.ofString "").length = 0 := by decide +kernel
    omega
theorem len_flat (n : Nat) (z r : Str) (h : r.cps.toList = (List.replicate n z.cps.toList).flatten) : r.length = n * z.length := by
  rw [← len_tl, h, List.length_flatten]
  simp only [List.map_replicate, List.sum_replicate_nat, len_tl]
theorem take_succ_all {α : Type} {p : α → Bool} {l : List α} {i : Nat} {c : α} (hc : l[i]? = some c) (h : (l.take i).all p = true) (hp : p c = true) : (l.take (i + 1)).all p = true := by
  rw [List.take_add_one, hc, List.all_append, h]
  simp [hp]
theorem one_lt (a b : Nat) : decide ([a] < [b]) = decide (a < b) := by
  refine decide_eq_decide.mpr ?_
  rw [List.cons_lt_cons_iff]
  constructor
  · rintro (h | ⟨_, h⟩)
    · exact h
    · exact absurd h (List.not_lt_nil _)
  · exact .inl
theorem tl_a : (Str.ofString "a").cps.toList = [97] := by decide +kernel
theorem tl_z : (Str.ofString "z").cps.toList = [122] := by decide +kernel
theorem tl_0 : (Str.ofString "0").cps.toList = [48] := by decide +kernel
theorem tl_9 : (Str.ofString "9").cps.toList = [57] := by decide +kernel
theorem ck_let (c : Nat) : (!decide (c < 97) && !decide (122 < c)) = isLet c := by
  unfold isLet
  rw [← decide_not, ← decide_not]
  congr 1 <;> exact decide_eq_decide.mpr (by omega)
theorem ck_dig (c : Nat) : (!decide (c < 48) && !decide (57 < c)) = isDig c := by
  unfold isDig
  rw [← decide_not, ← decide_not]
  congr 1 <;> exact decide_eq_decide.mpr (by omega)
/-- one sign as a value -/
def sg (c : Nat) : V := .str ⟨#[c]⟩
theorem take_filter {p : Nat → Bool} {l : List Nat} {i c : Nat} (hc : l[i]? = some c) : (l.take (i + 1)).filter p = (l.take i).filter p ++ (if p c = true then [c] else []) := by
  rw [List.take_add_one, hc, List.filter_append]
  congr 1
  show List.filter p [c] = _
  by_cases h : p c = true
  · rw [if_pos h]; simp [h]
  · rw [if_neg h]; simp [h]
theorem let_not_dig (c : Nat) : isLet c = true → isDig c = false := by
  unfold isLet isDig
  simp
  omega
theorem count_all : ∀ l : List Nat, ((l.filter isLet).length + (l.filter isDig).length = l.length ↔ l.all (fun c => isLet c || isDig c) = true) ∧ (l.filter isLet).length + (l.filter isDig).length ≤ l.length
  | [] => by simp
  | c :: r => by
    obtain ⟨h1, h2⟩ := count_all r
    have h3 := let_not_dig c
    have h4 : (c :: r).all (fun c => isLet c || isDig c) = ((isLet c || isDig c) && r.all fun c => isLet c || isDig c) := List.all_cons
    rw [h4]
    by_cases e1 : isLet c = true
    · have e2 : ¬ isDig c = true := by rw [h3 e1]; simp
      rw [List.filter_cons_of_pos e1, List.filter_cons_of_neg e2, e1, Bool.true_or, Bool.true_and, ← h1, List.length_cons, List.length_cons]
      omega
    · have e1' : isLet c = false := by simpa using e1
      by_cases e2 : isDig c = true
      · rw [List.filter_cons_of_neg e1, List.filter_cons_of_pos e2, e2, Bool.or_true, Bool.true_and, ← h1, List.length_cons, List.length_cons]
        omega
      · have e2' : isDig c = false := by simpa using e2
        rw [List.filter_cons_of_neg e1, List.filter_cons_of_neg e2, e1', e2', Bool.or_false, Bool.false_and, List.length_cons]
        simp only [Bool.false_eq_true, iff_false]
        omega
-- _law_name
def sp__law_name (_ : PySem.W.Frag) : Sp := Com.Sp1 fun x H Q _ => ∃ (a l c : Addr) (n : Nat), x = .ref a ∧ StAt H a l c n ∧ n < 900000 ∧ ∀ (z : Str) H', 1 ≤ z.length → z.length ≤ 12 → nameC z.cps.toList = true → StAt H' a l c (n + 20) → Kp a l H H' → Q (.str z) H'
theorem use_name {K : PySem.W.Frag} {a l c : Addr} {n : Nat} {H : Hp} {Q : VK} {E : XK} (st : StAt H a l c n) (hn : n < 900000)
    (q : ∀ (z : Str) H', 1 ≤ z.length → z.length ≤ 12 → nameC z.cps.toList = true → StAt H' a l c (n + 20) → Kp a l H H' → Q (.str z) H') : sp__law_name K [.ref a] H Q E :=
  ⟨_, rfl, a, l, c, n, rfl, st, hn, q⟩
set_option maxHeartbeats 4000000 in
theorem ok__law_name {P : Program} {w : World} {K : PySem.W.Frag} {mg : Str → Option Value} {base : Heap} (T : Txt K mg) : Com.Fn P w K mg base CX0 3 "_law_name" ["_law_state_here"] (sp__law_name K) := by
  have G__law_draw := ok__law_draw (P := P) (w := w) (base := base) T
  obtain ⟨fd, F⟩ := T.F__law_name
  refine ⟨He.ga K "_law_name", fd, F.ok sc__law_name (fun vs H Q E h => ?_) (fun cdv A outer s H vs Q E hr h => ?_), T.g__law_name, F.kp, F.bindsN fun _ _ _ _ _ _ us hl => match us, hl with | [_], _ => rfl⟩
  · obtain ⟨_, rfl, _⟩ := h
    rfl
  · obtain ⟨a0, rfl, h⟩ := h
    refine ⟨_, PSs.nox (pss_cons (ps_set (i := 1) sc__law_name.nd rfl (by first | exact Or.inl rfl | exact Or.inr rfl) pe_str)
      (pss_cons (ps_set (i := 2) sc__law_name.nd rfl (by first | exact Or.inl rfl | exact Or.inr rfl) (pe_ix ix_str (pv 1) (Com.pcall G__law_draw (hr.mono (by decide)) (by rfl) pass0 (pa_cons (pv 0) (pa_cons pe_int pa_nil))) (fun _ _ => rfl)))
      (pss_cons (ps_for PassesOwn.never rfl (pi_range1 (by rfl) T.b_range (pa_cons (Com.pcall G__law_draw (hr.mono (by decide)) (by rfl) pass0 (pa_cons (pv 0) (pa_cons pe_int pa_nil))) pa_nil)) (pg_name (i := 3) sc__law_name.nd rfl (by first | exact Or.inl rfl | exact Or.inr rfl)) (pss_one (ps_set (i := 2) sc__law_name.nd rfl (by first | exact Or.inl rfl | exact Or.inr rfl) (pe_op Com.qadd_str (pv 2) (pe_ix ix_str (pv 1) (Com.pcall G__law_draw (hr.mono (by decide)) (by rfl) pass0 (pa_cons (pv 0) (pa_cons pe_int pa_nil))) (fun _ _ => rfl))))))
      (pss_one (ps_ret (pv 2)))))), ?_⟩
    simp only [L2.start, List.map_cons, List.map_nil, List.length_cons, List.length_nil, List.cons_append, List.nil_append, Nat.reduceAdd, Nat.reduceSub, List.replicate_succ, List.replicate_zero]
    obtain ⟨a, l, c, n, rfl, st, hn, q⟩ := h
    try simp only [Com.wp, Option.some.injEq, exists_eq_left', true_and, and_true, and_self, Int.reduceLT, Int.reduceLE, Int.reduceNeg, Int.reduceAdd, Int.reduceSub, Int.reducePow, Int.reduceToNat, Nat.reduceAdd, Nat.reduceLT, Nat.reduceLeDiff]
    refine use_draw st (by omega) (by decide) (by decide) fun j H1 hj st1 kp1 => ?_
    try simp only [Com.wp, Option.some.injEq, exists_eq_left', true_and, and_true, and_self, Int.reduceLT, Int.reduceLE, Int.reduceNeg, Int.reduceAdd, Int.reduceSub, Int.reducePow, Int.reduceToNat, Nat.reduceAdd, Nat.reduceLT, Nat.reduceLeDiff]
    have hj : j < 26 := by omega
    have L36 : (Str.ofString "abcdefghijklmnopqrstuvwxyz0123456789").cps.toList.length = 36 := by decide +kernel
    have A36 : (Str.ofString "abcdefghijklmnopqrstuvwxyz0123456789").cps.toList.all (fun c => isLet c || isDig c) = true := by decide +kernel
    have A26 : ((Str.ofString "abcdefghijklmnopqrstuvwxyz0123456789").cps.toList.take 26).all isLet = true := by decide +kernel
    have g0 := List.getElem?_eq_getElem (show j < (Str.ofString "abcdefghijklmnopqrstuvwxyz0123456789").cps.toList.length by omega)
    refine ⟨by decide +kernel, _, atI_nat g0, use_draw st1 (by omega) (by decide) (by decide) fun m H2 hm st2 kp2 => ?_⟩
    have f0 := List.all_eq_true.mp A26 _ (List.mem_of_getElem? (show _ = some _ by rw [List.getElem?_take_of_lt hj]; exact g0))
    generalize (Str.ofString "abcdefghijklmnopqrstuvwxyz0123456789").cps.toList[j] = c0 at f0 ⊢
    try simp only [Com.wp, Option.some.injEq, exists_eq_left', true_and, and_true, and_self, Int.reduceLT, Int.reduceLE, Int.reduceNeg, Int.reduceAdd, Int.reduceSub, Int.reducePow, Int.reduceToNat, Nat.reduceAdd, Nat.reduceLT, Nat.reduceLeDiff]
    refine ⟨by omega, by omega, ?_⟩
    refine Com.loopR (fun i s2 H3 => ∃ (z : Str) (x : Option V), s2 = [some (.ref a), some (.str (Str.ofString "abcdefghijklmnopqrstuvwxyz0123456789")), some (.str z), x] ∧ z.length = i + 1 ∧ isLet (z.cps.toList.headD 0) = true ∧ z.cps.toList.all (fun c => isLet c || isDig c) = true ∧ StAt H3 a l c (n + 2 + i) ∧ Kp a l H H3)
      ⟨⟨#[c0]⟩, none, rfl, rfl, f0, by simp [f0], st2, kp1.trans kp2⟩ ?_ ?_
    · rintro i s2 H3 hi ⟨z, x, rfl, lz, hz, az, st3, kp3⟩
      try simp only [Com.wp, Option.some.injEq, exists_eq_left', true_and, and_true, and_self, Int.reduceLT, Int.reduceLE, Int.reduceNeg, Int.reduceAdd, Int.reduceSub, Int.reducePow, Int.reduceToNat, Nat.reduceAdd, Nat.reduceLT, Nat.reduceLeDiff]
      refine use_draw st3 (by omega) (by decide) (by decide) fun j H4 hj st4 kp4 => ?_
      have g1 := List.getElem?_eq_getElem (show j < (Str.ofString "abcdefghijklmnopqrstuvwxyz0123456789").cps.toList.length by omega)
      have f1 := List.all_eq_true.mp A36 _ (List.mem_of_getElem? g1)
      try simp only [Com.wp, Option.some.injEq, exists_eq_left', true_and, and_true, and_self, Int.reduceLT, Int.reduceLE, Int.reduceNeg, Int.reduceAdd, Int.reduceSub, Int.reducePow, Int.reduceToNat, Nat.reduceAdd, Nat.reduceLT, Nat.reduceLeDiff]
      refine ⟨by decide +kernel, _, atI_nat g1, Nat.le_trans (show z.length + 1 ≤ 1000 by omega) (by decide), ?_⟩
      generalize (Str.ofString "abcdefghijklmnopqrstuvwxyz0123456789").cps.toList[j] = c1 at f1 ⊢
      have e1 : (z ++ (⟨#[c1]⟩ : Str)).cps.toList = z.cps.toList ++ [c1] := TL.tl_append _ _
      refine ⟨_, _, rfl, ?_, ?_, ?_, st4, kp3.trans kp4⟩
      · rw [← len_tl, e1, List.length_append, len_tl, lz]
        rfl
      · rw [e1]
        cases e : z.cps.toList with
        | nil => rw [← len_tl, e] at lz; simp at lz
        | cons b r => rw [e] at hz; exact hz
      · rw [e1, List.all_append, az]
        simpa using f1
    · rintro s2 H3 ⟨z, x, rfl, lz, hz, az, st3, kp3⟩
      try simp only [Com.wp, Option.some.injEq, exists_eq_left', true_and, and_true, and_self, Int.reduceLT, Int.reduceLE, Int.reduceNeg, Int.reduceAdd, Int.reduceSub, Int.reducePow, Int.reduceToNat, Nat.reduceAdd, Nat.reduceLT, Nat.reduceLeDiff]
      refine q z H3 (by omega) (by omega) ?_ (st3.mono (by omega)) kp3
      unfold nameC
      rw [hz, az, len_tl, decide_eq_true (by omega), decide_eq_true (by omega)]
      rfl
-- _law_sign
def sp__law_sign (_ : PySem.W.Frag) : Sp := Com.Sp1 fun x H Q _ => ∃ (a l c : Addr) (n : Nat), x = .ref a ∧ StAt H a l c n ∧ n < 1000000 ∧ ∀ (d : Nat) H', StAt H' a l c (n + 1) → Kp a l H H' → Q (.str ⟨#[d]⟩) H'
theorem use_sign {K : PySem.W.Frag} {a l c : Addr} {n : Nat} {H : Hp} {Q : VK} {E : XK} (st : StAt H a l c n) (hn : n < 1000000) (q : ∀ (d : Nat) H', StAt H' a l c (n + 1) → Kp a l H H' → Q (.str ⟨#[d]⟩) H') : sp__law_sign K [.ref a] H Q E :=
  ⟨_, rfl, a, l, c, n, rfl, st, hn, q⟩
set_option maxHeartbeats 4000000 in
theorem ok__law_sign {P : Program} {w : World} {K : PySem.W.Frag} {mg : Str → Option Value} {base : Heap} (T : Txt K mg) : Com.Fn P w K mg base CX0 3 "_law_sign" ["_law_state_here"] (sp__law_sign K) := by
  have G__law_draw := ok__law_draw (P := P) (w := w) (base := base) T
  obtain ⟨fd, F⟩ := T.F__law_sign
  refine ⟨He.ga K "_law_sign", fd, F.ok sc__law_sign (fun vs H Q E h => ?_) (fun cdv A outer s H vs Q E hr h => ?_), T.g__law_sign, F.kp, F.bindsN fun _ _ _ _ _ _ us hl => match us, hl with | [_], _ => rfl⟩
  · obtain ⟨_, rfl, _⟩ := h
    rfl
  · obtain ⟨a0, rfl, h⟩ := h
    refine ⟨_, PSs.nox (pss_cons (ps_set (i := 1) sc__law_sign.nd rfl (by first | exact Or.inl rfl | exact Or.inr rfl) pe_str)
      (pss_cons (ps_set (i := 1) sc__law_sign.nd rfl (by first | exact Or.inl rfl | exact Or.inr rfl) (pe_op Com.qadd_str (pv 1) pe_str))
      (pss_one (ps_ret (pe_ix ix_str (pv 1) (Com.pcall G__law_draw (hr.mono (by decide)) (by rfl) pass0 (pa_cons (pv 0) (pa_cons pe_int pa_nil))) (fun _ _ => rfl)))))), ?_⟩
    simp only [L2.start, List.map_cons, List.map_nil, List.length_cons, List.length_nil, List.cons_append, List.nil_append, Nat.reduceAdd, Nat.reduceSub, List.replicate_succ, List.replicate_zero]
    obtain ⟨a, l, c, n, rfl, st, hn, q⟩ := h
    try simp only [Com.wp, Option.some.injEq, exists_eq_left', true_and, and_true, and_self, Int.reduceLT, Int.reduceLE, Int.reduceNeg, Int.reduceAdd, Int.reduceSub, Int.reducePow, Int.reduceToNat, Nat.reduceAdd, Nat.reduceLT, Nat.reduceLeDiff]
    refine ⟨by decide, use_draw st hn (by decide) (by decide) fun j H' hj st' kp => ?_⟩
    have hj : j < 94 := by omega
    have e0 : (Str.ofString " !\"#$&'()*+,-./0123456789:;<=>?@ABCDEFGHIJKLMNOPQRSTUVWXYZ[\\]^_`" ++ Str.ofString "abcdefghijklmnopqrstuvwxyz{|}~").cps.toList.length = 94 := by decide +kernel
    try simp only [Com.wp, Option.some.injEq, exists_eq_left', true_and, and_true, and_self, Int.reduceLT, Int.reduceLE, Int.reduceNeg, Int.reduceAdd, Int.reduceSub, Int.reducePow, Int.reduceToNat, Nat.reduceAdd, Nat.reduceLT, Nat.reduceLeDiff]
    exact ⟨by decide +kernel, _, atI_nat (List.getElem?_eq_getElem (by rw [e0]; exact hj)), q _ H' st' kp⟩
-- _law_text
def sp__law_text (_ : PySem.W.Frag) : Sp := Com.Sp2 fun x y H Q _ => ∃ (a l c : Addr) (n : Nat) (nm : Str), x = .ref a ∧ y = .str nm ∧ StAt H a l c n ∧ n < 800000 ∧ 1 ≤ nm.length ∧ nm.length ≤ 12 ∧ ∀ (z : Str) H', z.length ≤ 200 → StAt H' a l c (n + 20) → Kp a l H H' → Q (.str z) H'
set_option maxHeartbeats 4000000 in
theorem ok__law_text {P : Program} {w : World} {K : PySem.W.Frag} {mg : Str → Option Value} {base : Heap} (T : Txt K mg) : Com.Fn P w K mg base CX0 4 "_law_text" ["_law_state_here", "_law_name_here"] (sp__law_text K) := by
  have G__law_draw := ok__law_draw (P := P) (w := w) (base := base) T
  have G__law_sign := ok__law_sign (P := P) (w := w) (base := base) T
  obtain ⟨fd, F⟩ := T.F__law_text
  refine ⟨He.ga K "_law_text", fd, F.ok sc__law_text (fun vs H Q E h => ?_) (fun cdv A outer s H vs Q E hr h => ?_), T.g__law_text, F.kp, F.bindsN fun _ _ _ _ _ _ us hl => match us, hl with | [_, _], _ => rfl⟩
  · obtain ⟨_, _, rfl, _⟩ := h
    rfl
  · obtain ⟨a0, a1, rfl, h⟩ := h
    refine ⟨_, PSs.nox (pss_cons (ps_set (i := 2) sc__law_text.nd rfl (by first | exact Or.inl rfl | exact Or.inr rfl) (Com.pcall G__law_draw (hr.mono (by decide)) (by rfl) pass0 (pa_cons (pv 0) (pa_cons pe_int pa_nil))))
      (pss_cons (ps_set (i := 3) sc__law_text.nd rfl (by first | exact Or.inl rfl | exact Or.inr rfl) (Com.pcall G__law_draw (hr.mono (by decide)) (by rfl) pass0 (pa_cons (pv 0) (pa_cons pe_int pa_nil))))
      (pss_cons (ps_if (pt_cmpR op_lt (pv 2) pe_int (nomark _)) (pss_one (ps_ret (pe_m1 PySem.F.slot_str_join PySem.F.type_str_join Com.qmt_join pe_str (pe_lc (own := [("_law_k", 5)]) (g := (gName 5)) (tt := tYes) rfl sc__law_text.nd (pi_range1 (by rfl) T.b_range (pa_cons (pv 3) pa_nil)) (blkOk_by (own := [("_law_k", 5)]) (N := ["_law_state_here", "_law_name_here", "_law_way", "_law_size", "_law_place", "_law_k"]) (sc := defScope s__law_text) (by decide +kernel)) (fun _ _ _ _ _ => (pg_name (i := 5) sc__law_text.nd rfl (by first | exact Or.inl rfl | exact Or.inr rfl))) (fun _ _ _ _ _ => pts_nil) (fun _ _ _ _ _ => (Com.pcall G__law_sign (hr.mono (by decide)) (by rfl) pass0 (pa_cons (pv 0) pa_nil))))))) pss_nil)
      (pss_cons (ps_if (pt_cmpR op_eq (pv 2) pe_int (nomark _)) (pss_one (ps_ret (pv 1))) pss_nil)
      (pss_cons (ps_if (pt_cmpR op_eq (pv 2) pe_int (nomark _)) (pss_one (ps_ret (pe_slice sl_str (pe_op Com.qmul_str (pv 1) pe_int) po_none (po_some (pv 3))))) pss_nil)
      (pss_cons (ps_if (pt_cmpR op_eq (pv 2) pe_int (nomark _)) (pss_cons (ps_set (i := 4) sc__law_text.nd rfl (by first | exact Or.inl rfl | exact Or.inr rfl) (Com.pcall G__law_draw (hr.mono (by decide)) (by rfl) pass0 (pa_cons (pv 0) (pa_cons (pe_callB Com.qlen_str (by rfl) T.b_len (by decide +kernel) (pa_cons (pv 1) pa_nil)) pa_nil))))
      (pss_one (ps_ret (pe_op Com.qadd_str (pe_op Com.qadd_str (pe_slice sl_str (pv 1) po_none (po_some (pv 4))) (Com.pcall G__law_sign (hr.mono (by decide)) (by rfl) pass0 (pa_cons (pv 0) pa_nil))) (pe_slice sl_str (pv 1) (po_some (pe_op op_add (pv 4) pe_int)) po_none))))) pss_nil)
      (pss_cons (ps_if (pt_cmpR op_eq (pv 2) pe_int (nomark _)) (pss_one (ps_ret (pe_op Com.qadd_str (Com.pcall G__law_sign (hr.mono (by decide)) (by rfl) pass0 (pa_cons (pv 0) pa_nil)) (pv 1)))) pss_nil)
      (pss_cons (ps_if (pt_cmpR op_eq (pv 2) pe_int (nomark _)) (pss_one (ps_ret (pe_op Com.qadd_str (pv 1) (Com.pcall G__law_sign (hr.mono (by decide)) (by rfl) pass0 (pa_cons (pv 0) pa_nil))))) pss_nil)
      (pss_one (ps_ret pe_str)))))))))), ?_⟩
    simp only [L2.start, List.map_cons, List.map_nil, List.length_cons, List.length_nil, List.cons_append, List.nil_append, Nat.reduceAdd, Nat.reduceSub, List.replicate_succ, List.replicate_zero]
    obtain ⟨a, l, c, n, nm, rfl, rfl, st, hn, n1, n12, q⟩ := h
    try simp only [Com.wp, Option.some.injEq, exists_eq_left', true_and, and_true, and_self, Int.reduceLT, Int.reduceLE, Int.reduceNeg, Int.reduceAdd, Int.reduceSub, Int.reducePow, Int.reduceToNat, Nat.reduceAdd, Nat.reduceLT, Nat.reduceLeDiff]
    refine use_draw st (by omega) (by decide) (by decide) fun way H1 hw st1 kp1 => ?_
    try simp only [Com.wp, Option.some.injEq, exists_eq_left', true_and, and_true, and_self, Int.reduceLT, Int.reduceLE, Int.reduceNeg, Int.reduceAdd, Int.reduceSub, Int.reducePow, Int.reduceToNat, Nat.reduceAdd, Nat.reduceLT, Nat.reduceLeDiff]
    refine use_draw st1 (by omega) (by decide) (by decide) fun size H2 hs st2 kp2 => ?_
    have kp := kp1.trans kp2
    have nm' := sz nm (by omega)
    have out : ∀ (z : Str) (H' : Hp) (m : Nat), z.length ≤ 200 → StAt H' a l c m → m ≤ n + 20 → Kp a l H2 H' → Q (.str z) H' := fun z H' m hz st' hm kp' => q z H' hz (st'.mono hm) (kp.trans kp')
    try simp only [Com.wp, Option.some.injEq, exists_eq_left', true_and, and_true, and_self, Int.reduceLT, Int.reduceLE, Int.reduceNeg, Int.reduceAdd, Int.reduceSub, Int.reducePow, Int.reduceToNat, Nat.reduceAdd, Nat.reduceLT, Nat.reduceLeDiff]
    refine Com.ifk (fun _ => ?_) (fun _ => ?_)
    · try simp only [Com.wp, Option.some.injEq, exists_eq_left', true_and, and_true, and_self, Int.reduceLT, Int.reduceLE, Int.reduceNeg, Int.reduceAdd, Int.reduceSub, Int.reducePow, Int.reduceToNat, Nat.reduceAdd, Nat.reduceLT, Nat.reduceLeDiff]
      refine ⟨by omega, by omega, Com.lcR fun D hD => ⟨fun i H3 => ∃ ys : List Str, H3 D = some (.lst (ys.map V.str)) ∧ (ys.map (·.length)).sum = i ∧ ys.length = i ∧ StAt H3 a l c (n + 2 + i) ∧ Kp a l H2 H3, ?_, ?_, ?_⟩⟩
      · exact ⟨[], upd_same, rfl, rfl, st2.newly hD, Kp.refl.newly hD⟩
      · rintro i H3 hi ⟨ys, hD3, s3, l3, st3, kp3⟩
        try simp only [Com.wp, Option.some.injEq, exists_eq_left', true_and, and_true, and_self, Int.reduceLT, Int.reduceLE, Int.reduceNeg, Int.reduceAdd, Int.reduceSub, Int.reducePow, Int.reduceToNat, Nat.reduceAdd, Nat.reduceLT, Nat.reduceLeDiff]
        refine use_sign st3 (by omega) fun d H4 st4 kp4 => ?_
        have hd := st2.ne hD
        have hD4 := kp4 D _ hd.1 hd.2.1 hD3
        try simp only [Com.wp, Option.some.injEq, exists_eq_left', true_and, and_true, and_self, Int.reduceLT, Int.reduceLE, Int.reduceNeg, Int.reduceAdd, Int.reduceSub, Int.reducePow, Int.reduceToNat, Nat.reduceAdd, Nat.reduceLT, Nat.reduceLeDiff, hD4, List.length_map]
        refine ⟨line_lt (by omega), ys ++ [⟨#[d]⟩], by rw [List.map_append]; rfl, ?_, ?_, st4.write hd, (kp3.trans kp4).write hD⟩
        · rw [List.map_append, List.sum_append, s3]; rfl
        · rw [List.length_append, l3]; rfl
      · rintro H3 ⟨ys, hD3, s3, l3, st3, kp3⟩
        try simp only [Com.wp, Option.some.injEq, exists_eq_left', true_and, and_true, and_self, Int.reduceLT, Int.reduceLE, Int.reduceNeg, Int.reduceAdd, Int.reduceSub, Int.reducePow, Int.reduceToNat, Nat.reduceAdd, Nat.reduceLT, Nat.reduceLeDiff]
        exact ⟨ys, hD3, by rw [s3, l3, show (Str.ofString "").length = 0 by decide +kernel, Nat.mul_zero]; omega, out _ _ _ (by rw [len_join, s3]; omega) st3 (by omega) kp3⟩
    · try simp only [Com.wp, Option.some.injEq, exists_eq_left', true_and, and_true, and_self, Int.reduceLT, Int.reduceLE, Int.reduceNeg, Int.reduceAdd, Int.reduceSub, Int.reducePow, Int.reduceToNat, Nat.reduceAdd, Nat.reduceLT, Nat.reduceLeDiff]
      refine Com.ifk (fun _ => ?_) (fun _ => ?_)
      · try simp only [Com.wp, Option.some.injEq, exists_eq_left', true_and, and_true, and_self, Int.reduceLT, Int.reduceLE, Int.reduceNeg, Int.reduceAdd, Int.reduceSub, Int.reducePow, Int.reduceToNat, Nat.reduceAdd, Nat.reduceLT, Nat.reduceLeDiff]
        exact out _ _ _ (by omega) st2 (by omega) Kp.refl
      try simp only [Com.wp, Option.some.injEq, exists_eq_left', true_and, and_true, and_self, Int.reduceLT, Int.reduceLE, Int.reduceNeg, Int.reduceAdd, Int.reduceSub, Int.reducePow, Int.reduceToNat, Nat.reduceAdd, Nat.reduceLT, Nat.reduceLeDiff]
      refine Com.ifk (fun _ => ?_) (fun _ => ?_)
      · try simp only [Com.wp, Option.some.injEq, exists_eq_left', true_and, and_true, and_self, Int.reduceLT, Int.reduceLE, Int.reduceNeg, Int.reduceAdd, Int.reduceSub, Int.reducePow, Int.reduceToNat, Nat.reduceAdd, Nat.reduceLT, Nat.reduceLeDiff]
        refine ⟨by omega, fun r hr => ?_⟩
        have e := len_flat _ _ _ hr
        exact ⟨line_of (by omega), out _ _ _ (Nat.le_trans (cutS_length _ _ _) (by omega)) st2 (by omega) Kp.refl⟩
      try simp only [Com.wp, Option.some.injEq, exists_eq_left', true_and, and_true, and_self, Int.reduceLT, Int.reduceLE, Int.reduceNeg, Int.reduceAdd, Int.reduceSub, Int.reducePow, Int.reduceToNat, Nat.reduceAdd, Nat.reduceLT, Nat.reduceLeDiff]
      refine Com.ifk (fun _ => ?_) (fun _ => ?_)
      · try simp only [Com.wp, Option.some.injEq, exists_eq_left', true_and, and_true, and_self, Int.reduceLT, Int.reduceLE, Int.reduceNeg, Int.reduceAdd, Int.reduceSub, Int.reducePow, Int.reduceToNat, Nat.reduceAdd, Nat.reduceLT, Nat.reduceLeDiff, nm']
        refine use_draw st2 (by omega) (by omega) (by omega) fun at_ H3 hat st3 kp3 => ?_
        try simp only [Com.wp, Option.some.injEq, exists_eq_left', true_and, and_true, and_self, Int.reduceLT, Int.reduceLE, Int.reduceNeg, Int.reduceAdd, Int.reduceSub, Int.reducePow, Int.reduceToNat, Nat.reduceAdd, Nat.reduceLT, Nat.reduceLeDiff, nm']
        refine use_sign st3 (by omega) fun d H4 st4 kp4 => ?_
        have g1 := cutS_length nm none (some (at_ : Int))
        have g2 := cutS_length nm (some ((at_ : Int) + 1)) none
        have g3 : (⟨#[d]⟩ : Str).length = 1 := rfl
        have g4 := len_app (cutS nm none (some (at_ : Int))) ⟨#[d]⟩
        have g5 := len_app (cutS nm none (some (at_ : Int)) ++ ⟨#[d]⟩) (cutS nm (some ((at_ : Int) + 1)) none)
        try simp only [Com.wp, Option.some.injEq, exists_eq_left', true_and, and_true, and_self, Int.reduceLT, Int.reduceLE, Int.reduceNeg, Int.reduceAdd, Int.reduceSub, Int.reducePow, Int.reduceToNat, Nat.reduceAdd, Nat.reduceLT, Nat.reduceLeDiff, nm']
        exact ⟨line_of (by omega), line_of (by omega), out _ _ _ (by omega) st4 (by omega) (kp3.trans kp4)⟩
      try simp only [Com.wp, Option.some.injEq, exists_eq_left', true_and, and_true, and_self, Int.reduceLT, Int.reduceLE, Int.reduceNeg, Int.reduceAdd, Int.reduceSub, Int.reducePow, Int.reduceToNat, Nat.reduceAdd, Nat.reduceLT, Nat.reduceLeDiff]
      refine Com.ifk (fun _ => ?_) (fun _ => ?_)
      · try simp only [Com.wp, Option.some.injEq, exists_eq_left', true_and, and_true, and_self, Int.reduceLT, Int.reduceLE, Int.reduceNeg, Int.reduceAdd, Int.reduceSub, Int.reducePow, Int.reduceToNat, Nat.reduceAdd, Nat.reduceLT, Nat.reduceLeDiff]
        refine use_sign st2 (by omega) fun d H4 st4 kp4 => ?_
        have g3 : (⟨#[d]⟩ : Str).length = 1 := rfl
        have g4 := len_app ⟨#[d]⟩ nm
        try simp only [Com.wp, Option.some.injEq, exists_eq_left', true_and, and_true, and_self, Int.reduceLT, Int.reduceLE, Int.reduceNeg, Int.reduceAdd, Int.reduceSub, Int.reducePow, Int.reduceToNat, Nat.reduceAdd, Nat.reduceLT, Nat.reduceLeDiff]
        exact ⟨line_of (by omega), out _ _ _ (by omega) st4 (by omega) kp4⟩
      try simp only [Com.wp, Option.some.injEq, exists_eq_left', true_and, and_true, and_self, Int.reduceLT, Int.reduceLE, Int.reduceNeg, Int.reduceAdd, Int.reduceSub, Int.reducePow, Int.reduceToNat, Nat.reduceAdd, Nat.reduceLT, Nat.reduceLeDiff]
      refine Com.ifk (fun _ => ?_) (fun _ => ?_)
      · try simp only [Com.wp, Option.some.injEq, exists_eq_left', true_and, and_true, and_self, Int.reduceLT, Int.reduceLE, Int.reduceNeg, Int.reduceAdd, Int.reduceSub, Int.reducePow, Int.reduceToNat, Nat.reduceAdd, Nat.reduceLT, Nat.reduceLeDiff]
        refine use_sign st2 (by omega) fun d H4 st4 kp4 => ?_
        have g3 : (⟨#[d]⟩ : Str).length = 1 := rfl
        have g4 := len_app nm ⟨#[d]⟩
        try simp only [Com.wp, Option.some.injEq, exists_eq_left', true_and, and_true, and_self, Int.reduceLT, Int.reduceLE, Int.reduceNeg, Int.reduceAdd, Int.reduceSub, Int.reducePow, Int.reduceToNat, Nat.reduceAdd, Nat.reduceLT, Nat.reduceLeDiff]
        exact ⟨line_of (by omega), out _ _ _ (by omega) st4 (by omega) kp4⟩
      · try simp only [Com.wp, Option.some.injEq, exists_eq_left', true_and, and_true, and_self, Int.reduceLT, Int.reduceLE, Int.reduceNeg, Int.reduceAdd, Int.reduceSub, Int.reducePow, Int.reduceToNat, Nat.reduceAdd, Nat.reduceLT, Nat.reduceLeDiff]
        exact out _ _ _ (by decide +kernel) st2 (by omega) Kp.refl
-- is_name
def sp_is_name (_ : PySem.W.Frag) : Sp := Com.Sp1 fun x H Q _ => ∃ z : Str, x = .str z ∧ z.length ≤ 1000000 ∧ Q (.bl (nameC z.cps.toList)) H
set_option maxHeartbeats 4000000 in
theorem ok_is_name {P : Program} {w : World} {K : PySem.W.Frag} {mg : Str → Option Value} {base : Heap} (T : Txt K mg) : Com.Fn P w K mg base CX0 1 "is_name" ["text"] (sp_is_name K) := by
  obtain ⟨fd, F⟩ := T.F_is_name
  refine ⟨He.ga K "is_name", fd, F.ok sc_is_name (fun vs H Q E h => ?_) (fun cdv A outer s H vs Q E hr h => ?_), T.g_is_name, F.kp, F.bindsN fun _ _ _ _ _ _ us hl => match us, hl with | [_], _ => rfl⟩
  · obtain ⟨_, rfl, _⟩ := h
    rfl
  · obtain ⟨a0, rfl, h⟩ := h
    refine ⟨_, PSs.nox (pss_cons (ps_if (PW.pt (pw_or (pt_not (pt_chain op_le op_le pe_int (pe_callB Com.qlen_str (by rfl) T.b_len (by decide +kernel) (pa_cons (pv 0) pa_nil)) (Com.pcint T.c_MOST_SIGNS (by rfl)))) (pw_or1 (pt_cmpR Com.qnotin_sign (pe_ix ix_str (pv 0) pe_int (fun _ _ => rfl)) (Com.pcstr T.c_LETTERS (by rfl)) (by rfl))))) (pss_one (ps_ret pe_bl)) pss_nil)
      (pss_cons (ps_for PassesOwn.never rfl (pi_str (pv 0)) (pg_name (i := 1) sc_is_name.nd rfl (by first | exact Or.inl rfl | exact Or.inr rfl)) (pss_one (ps_if (PW.pt (pw_and (pt_cmpR Com.qnotin_sign (pv 1) (Com.pcstr T.c_LETTERS (by rfl)) (by rfl)) (pw_and1 (pt_cmpR Com.qnotin_sign (pv 1) (Com.pcstr T.c_DIGITS (by rfl)) (by rfl))))) (pss_one (ps_ret pe_bl)) pss_nil)))
      (pss_one (ps_ret pe_bl)))), ?_⟩
    simp only [L2.start, List.map_cons, List.map_nil, List.length_cons, List.length_nil, List.cons_append, List.nil_append, Nat.reduceAdd, Nat.reduceSub, List.replicate_succ, List.replicate_zero]
    obtain ⟨z, rfl, hz, q⟩ := h
    have hz' := sz z hz
    have hl := len_tl z
    try simp only [Com.wp, Option.some.injEq, exists_eq_left', true_and, and_true, and_self, Int.reduceLT, Int.reduceLE, Int.reduceNeg, Int.reduceAdd, Int.reduceSub, Int.reducePow, Int.reduceToNat, Nat.reduceAdd, Nat.reduceLT, Nat.reduceLeDiff, hz', mem_letters, mem_digits]
    have no : nameC z.cps.toList = false → Q (.bl false) H := fun e => by rw [e] at q; exact q
    refine Com.ork (fun hc => Com.ifk (fun _ => ?_) (fun e => Bool.noConfusion e)) (fun hc => ?_)
    · try simp only [Com.wp, Option.some.injEq, exists_eq_left', true_and, and_true, and_self, Int.reduceLT, Int.reduceLE, Int.reduceNeg, Int.reduceAdd, Int.reduceSub, Int.reducePow, Int.reduceToNat, Nat.reduceAdd, Nat.reduceLT, Nat.reduceLeDiff]
      refine no ?_
      unfold nameC
      rw [hl]
      have : (decide (1 ≤ z.length) && decide (z.length ≤ 12)) = false := by simp at hc ⊢; omega
      rw [this]
      rfl
    · have hc : 1 ≤ z.length ∧ z.length ≤ 12 := by simp at hc; omega
      obtain ⟨c, r, ec⟩ : ∃ c r, z.cps.toList = c :: r := by
        cases e : z.cps.toList with
        | nil => rw [e] at hl; simp at hl; omega
        | cons c r => exact ⟨c, r, rfl⟩
      have e0 : atI z.cps.toList 0 = some c := by rw [ec]; exact atI_nat (j := 0) rfl
      have eN : nameC z.cps.toList = (isLet c && z.cps.toList.all fun c => isLet c || isDig c) := by
        unfold nameC
        rw [hl, decide_eq_true hc.1, decide_eq_true hc.2, ec]
        rfl
      try simp only [Com.wp, Option.some.injEq, exists_eq_left', true_and, and_true, and_self, Int.reduceLT, Int.reduceLE, Int.reduceNeg, Int.reduceAdd, Int.reduceSub, Int.reducePow, Int.reduceToNat, Nat.reduceAdd, Nat.reduceLT, Nat.reduceLeDiff, hz', mem_letters, mem_digits, e0]
      refine Com.ifk (fun h1 => ?_) (fun h1 => ?_)
      · try simp only [Com.wp, Option.some.injEq, exists_eq_left', true_and, and_true, and_self, Int.reduceLT, Int.reduceLE, Int.reduceNeg, Int.reduceAdd, Int.reduceSub, Int.reducePow, Int.reduceToNat, Nat.reduceAdd, Nat.reduceLT, Nat.reduceLeDiff]
        exact no (by rw [eN]; simp at h1; rw [h1]; rfl)
      · have h1 : isLet c = true := by simpa using h1
        rw [eN, h1, Bool.true_and] at q
        try simp only [Com.wp, Option.some.injEq, exists_eq_left', true_and, and_true, and_self, Int.reduceLT, Int.reduceLE, Int.reduceNeg, Int.reduceAdd, Int.reduceSub, Int.reducePow, Int.reduceToNat, Nat.reduceAdd, Nat.reduceLT, Nat.reduceLeDiff]
        refine Com.loopS (fun i s2 H2 => ∃ x, s2 = [some (.str z), x] ∧ H2 = H ∧ (z.cps.toList.take i).all (fun c => isLet c || isDig c) = true) ⟨none, rfl, rfl, rfl⟩ ?_ ?_
        · rintro i c s2 H2 hi ⟨x, rfl, rfl, ha⟩
          try simp only [Com.wp, Option.some.injEq, exists_eq_left', true_and, and_true, and_self, Int.reduceLT, Int.reduceLE, Int.reduceNeg, Int.reduceAdd, Int.reduceSub, Int.reducePow, Int.reduceToNat, Nat.reduceAdd, Nat.reduceLT, Nat.reduceLeDiff, mem_letters, mem_digits]
          have bad : (isLet c || isDig c) = false → Q (.bl false) H2 := fun e => by
            have : (z.cps.toList.all fun c => isLet c || isDig c) = false := List.all_eq_false.mpr ⟨c, List.mem_of_getElem? hi, by rw [e]; simp⟩
            rw [this] at q
            exact q
          have good : (isLet c || isDig c) = true → (z.cps.toList.take (i + 1)).all (fun c => isLet c || isDig c) = true := fun e => take_succ_all hi ha e
          refine Com.andk (fun h2 => ?_) (fun h2 => Com.ifk (fun e => Bool.noConfusion e) (fun _ => ?_))
          · try simp only [Com.wp, Option.some.injEq, exists_eq_left', true_and, and_true, and_self, Int.reduceLT, Int.reduceLE, Int.reduceNeg, Int.reduceAdd, Int.reduceSub, Int.reducePow, Int.reduceToNat, Nat.reduceAdd, Nat.reduceLT, Nat.reduceLeDiff, mem_letters, mem_digits]
            refine Com.ifk (fun h3 => ?_) (fun h3 => ?_)
            · try simp only [Com.wp, Option.some.injEq, exists_eq_left', true_and, and_true, and_self, Int.reduceLT, Int.reduceLE, Int.reduceNeg, Int.reduceAdd, Int.reduceSub, Int.reducePow, Int.reduceToNat, Nat.reduceAdd, Nat.reduceLT, Nat.reduceLeDiff]
              exact bad (by simp at h2 h3; rw [h2, h3]; rfl)
            · try simp only [Com.wp, Option.some.injEq, exists_eq_left', true_and, and_true, and_self, Int.reduceLT, Int.reduceLE, Int.reduceNeg, Int.reduceAdd, Int.reduceSub, Int.reducePow, Int.reduceToNat, Nat.reduceAdd, Nat.reduceLT, Nat.reduceLeDiff]
              exact ⟨_, rfl, good (by simp at h3; rw [h3]; simp)⟩
          · try simp only [Com.wp, Option.some.injEq, exists_eq_left', true_and, and_true, and_self, Int.reduceLT, Int.reduceLE, Int.reduceNeg, Int.reduceAdd, Int.reduceSub, Int.reducePow, Int.reduceToNat, Nat.reduceAdd, Nat.reduceLT, Nat.reduceLeDiff]
            exact ⟨_, rfl, good (by simp at h2; rw [h2]; rfl)⟩
        · rintro s2 H2 ⟨x, rfl, rfl, ha⟩
          try simp only [Com.wp, Option.some.injEq, exists_eq_left', true_and, and_true, and_self, Int.reduceLT, Int.reduceLE, Int.reduceNeg, Int.reduceAdd, Int.reduceSub, Int.reducePow, Int.reduceToNat, Nat.reduceAdd, Nat.reduceLT, Nat.reduceLeDiff]
          rw [List.take_of_length_le (by omega)] at ha
          rw [ha] at q
          exact q
-- _law_due
def sp__law_due (_ : PySem.W.Frag) : Sp := Com.Sp1 fun x H Q _ => ∃ z : Str, x = .str z ∧ z.length ≤ 1000000 ∧ ∀ H', Same H H' → Q (.bl (nameC z.cps.toList)) H'
set_option maxHeartbeats 4000000 in
theorem ok__law_due {P : Program} {w : World} {K : PySem.W.Frag} {mg : Str → Option Value} {base : Heap} (T : Txt K mg) : Com.Fn P w K mg base CX0 1 "_law_due" ["_law_text_here"] (sp__law_due K) := by
  obtain ⟨fd, F⟩ := T.F__law_due
  refine ⟨He.ga K "_law_due", fd, F.ok sc__law_due (fun vs H Q E h => ?_) (fun cdv A outer s H vs Q E hr h => ?_), T.g__law_due, F.kp, F.bindsN fun _ _ _ _ _ _ us hl => match us, hl with | [_], _ => rfl⟩
  · obtain ⟨_, rfl, _⟩ := h
    rfl
  · obtain ⟨a0, rfl, h⟩ := h
    refine ⟨_, PSs.nox (pss_cons (ps_setLc (i := 1) (own := [("_law_sign_here", 3)]) (g := (gName 3)) rfl sc__law_due.nd rfl rfl (sw_true rfl rfl rfl (by decide +kernel)) (pi_str (pv 0)) (blkOk_by (own := [("_law_sign_here", 3)]) (N := ["_law_text_here", "_law_letters", "_law_digits", "_law_sign_here"]) (sc := defScope s__law_due) (by decide +kernel)) (fun _ _ _ _ _ => (pg_name (i := 3) sc__law_due.nd rfl (by first | exact Or.inl rfl | exact Or.inr rfl))) (fun _ _ _ _ _ => pts_one (pt_chain Com.qle_str Com.qle_str pe_str (pv 3) pe_str)) (fun _ _ _ _ _ => (pv 3)))
      (pss_cons (ps_setLc (i := 2) (own := [("_law_sign_here", 3)]) (g := (gName 3)) rfl sc__law_due.nd rfl rfl (sw_true rfl rfl rfl (by decide +kernel)) (pi_str (pv 0)) (blkOk_by (own := [("_law_sign_here", 3)]) (N := ["_law_text_here", "_law_letters", "_law_digits", "_law_sign_here"]) (sc := defScope s__law_due) (by decide +kernel)) (fun _ _ _ _ _ => (pg_name (i := 3) sc__law_due.nd rfl (by first | exact Or.inl rfl | exact Or.inr rfl))) (fun _ _ _ _ _ => pts_one (pt_chain Com.qle_str Com.qle_str pe_str (pv 3) pe_str)) (fun _ _ _ _ _ => (pv 3)))
      (pss_cons (ps_if (PW.pt (pw_or (pt_not (pt_chain op_le op_le pe_int (pe_callB Com.qlen_str (by rfl) T.b_len (by decide +kernel) (pa_cons (pv 0) pa_nil)) pe_int)) (pw_or1 (pt_cmpR op_ne (pe_op op_add (pe_callB Com.qlen (by rfl) T.b_len (by decide +kernel) (pa_cons (pv 1) pa_nil)) (pe_callB Com.qlen (by rfl) T.b_len (by decide +kernel) (pa_cons (pv 2) pa_nil))) (pe_callB Com.qlen_str (by rfl) T.b_len (by decide +kernel) (pa_cons (pv 0) pa_nil)) (nomark _))))) (pss_one (ps_ret pe_bl)) pss_nil)
      (pss_one (ps_ret (pe_chain Com.qle_str Com.qle_str pe_str (pe_ix ix_str (pv 0) pe_int (fun _ _ => rfl)) pe_str)))))), ?_⟩
    simp only [L2.start, List.map_cons, List.map_nil, List.length_cons, List.length_nil, List.cons_append, List.nil_append, Nat.reduceAdd, Nat.reduceSub, List.replicate_succ, List.replicate_zero]
    obtain ⟨z, rfl, hz, q⟩ := h
    have hz' := sz z hz
    have hl := len_tl z
    try simp only [Com.wp, Option.some.injEq, exists_eq_left', true_and, and_true, and_self, Int.reduceLT, Int.reduceLE, Int.reduceNeg, Int.reduceAdd, Int.reduceSub, Int.reducePow, Int.reduceToNat, Nat.reduceAdd, Nat.reduceLT, Nat.reduceLeDiff]
    refine Com.lcS fun D hD => ⟨fun i H1 => H1 = upd H D (.lst (((z.cps.toList.take i).filter isLet).map sg)), rfl, ?_, ?_⟩
    · rintro i c H1 hc rfl
      have le : ((z.cps.toList.take i).filter isLet).length ≤ i := Nat.le_trans (List.length_filter_le _ _) (by simp; omega)
      have li := (List.getElem?_eq_some_iff.mp hc).1
      try simp only [Com.wp, Option.some.injEq, exists_eq_left', true_and, and_true, and_self, Int.reduceLT, Int.reduceLE, Int.reduceNeg, Int.reduceAdd, Int.reduceSub, Int.reducePow, Int.reduceToNat, Nat.reduceAdd, Nat.reduceLT, Nat.reduceLeDiff, tl_a, tl_z, tl_0, tl_9, one_lt, ck_let, ck_dig]
      rw [take_filter hc]
      cases e : isLet c with
      | false =>
        try simp only [Com.wp, Option.some.injEq, exists_eq_left', true_and, and_true, and_self, Int.reduceLT, Int.reduceLE, Int.reduceNeg, Int.reduceAdd, Int.reduceSub, Int.reducePow, Int.reduceToNat, Nat.reduceAdd, Nat.reduceLT, Nat.reduceLeDiff]
        simp
      | true =>
        try simp only [Com.wp, Option.some.injEq, exists_eq_left', true_and, and_true, and_self, Int.reduceLT, Int.reduceLE, Int.reduceNeg, Int.reduceAdd, Int.reduceSub, Int.reducePow, Int.reduceToNat, Nat.reduceAdd, Nat.reduceLT, Nat.reduceLeDiff, upd_upd, List.length_map]
        exact ⟨line_lt (by omega), by simp [sg]⟩
    · rintro H1 rfl
      rw [List.take_of_length_le (by omega)]
      try simp only [Com.wp, Option.some.injEq, exists_eq_left', true_and, and_true, and_self, Int.reduceLT, Int.reduceLE, Int.reduceNeg, Int.reduceAdd, Int.reduceSub, Int.reducePow, Int.reduceToNat, Nat.reduceAdd, Nat.reduceLT, Nat.reduceLeDiff]
      refine Com.lcS fun D2 hD2 => ⟨fun i H1 => H1 = upd (upd H D (.lst ((z.cps.toList.filter isLet).map sg))) D2 (.lst (((z.cps.toList.take i).filter isDig).map sg)), rfl, ?_, ?_⟩
      · rintro i c H1 hc rfl
        have le : ((z.cps.toList.take i).filter isDig).length ≤ i := Nat.le_trans (List.length_filter_le _ _) (by simp; omega)
        have li := (List.getElem?_eq_some_iff.mp hc).1
        try simp only [Com.wp, Option.some.injEq, exists_eq_left', true_and, and_true, and_self, Int.reduceLT, Int.reduceLE, Int.reduceNeg, Int.reduceAdd, Int.reduceSub, Int.reducePow, Int.reduceToNat, Nat.reduceAdd, Nat.reduceLT, Nat.reduceLeDiff, tl_a, tl_z, tl_0, tl_9, one_lt, ck_let, ck_dig]
        rw [take_filter hc]
        cases e : isDig c with
        | false =>
          try simp only [Com.wp, Option.some.injEq, exists_eq_left', true_and, and_true, and_self, Int.reduceLT, Int.reduceLE, Int.reduceNeg, Int.reduceAdd, Int.reduceSub, Int.reducePow, Int.reduceToNat, Nat.reduceAdd, Nat.reduceLT, Nat.reduceLeDiff]
          simp
        | true =>
          try simp only [Com.wp, Option.some.injEq, exists_eq_left', true_and, and_true, and_self, Int.reduceLT, Int.reduceLE, Int.reduceNeg, Int.reduceAdd, Int.reduceSub, Int.reducePow, Int.reduceToNat, Nat.reduceAdd, Nat.reduceLT, Nat.reduceLeDiff, upd_upd, List.length_map]
          exact ⟨line_lt (by omega), by simp [sg]⟩
      · rintro H1 rfl
        rw [List.take_of_length_le (by omega)]
        have sm : Same H (upd (upd H D (.lst ((z.cps.toList.filter isLet).map sg))) D2 (.lst ((z.cps.toList.filter isDig).map sg))) := (same_new hD).trans (same_new hD2)
        have q' := q _ sm
        have g1 : (upd (upd H D (.lst ((z.cps.toList.filter isLet).map sg))) D2 (.lst ((z.cps.toList.filter isDig).map sg))) D = some (.lst ((z.cps.toList.filter isLet).map sg)) := same_new hD2 _ _ upd_same
        have g2 : (upd (upd H D (.lst ((z.cps.toList.filter isLet).map sg))) D2 (.lst ((z.cps.toList.filter isDig).map sg))) D2 = some (.lst ((z.cps.toList.filter isDig).map sg)) := upd_same
        generalize (upd (upd H D (.lst ((z.cps.toList.filter isLet).map sg))) D2 (.lst ((z.cps.toList.filter isDig).map sg))) = H2 at q' g1 g2 ⊢
        obtain ⟨ca, cb⟩ := count_all z.cps.toList
        rw [hl] at ca cb
        try simp only [Com.wp, Option.some.injEq, exists_eq_left', true_and, and_true, and_self, Int.reduceLT, Int.reduceLE, Int.reduceNeg, Int.reduceAdd, Int.reduceSub, Int.reducePow, Int.reduceToNat, Nat.reduceAdd, Nat.reduceLT, Nat.reduceLeDiff, hz', tl_a, tl_z, one_lt, ck_let]
        have no : nameC z.cps.toList = false → Q (.bl false) H2 := fun e => by rw [e] at q'; exact q'
        refine Com.ork (fun hc => Com.ifk (fun _ => ?_) (fun e => Bool.noConfusion e)) (fun hc => ?_)
        · try simp only [Com.wp, Option.some.injEq, exists_eq_left', true_and, and_true, and_self, Int.reduceLT, Int.reduceLE, Int.reduceNeg, Int.reduceAdd, Int.reduceSub, Int.reducePow, Int.reduceToNat, Nat.reduceAdd, Nat.reduceLT, Nat.reduceLeDiff]
          refine no ?_
          unfold nameC
          rw [hl]
          have : (decide (1 ≤ z.length) && decide (z.length ≤ 12)) = false := by simp at hc ⊢; omega
          rw [this]
          rfl
        · have hc : 1 ≤ z.length ∧ z.length ≤ 12 := by simp at hc; omega
          obtain ⟨c, r, ec⟩ : ∃ c r, z.cps.toList = c :: r := by
            cases e : z.cps.toList with
            | nil => rw [e] at hl; simp at hl; omega
            | cons c r => exact ⟨c, r, rfl⟩
          have e0 : atI z.cps.toList 0 = some c := by rw [ec]; exact atI_nat (j := 0) rfl
          have eN : nameC z.cps.toList = (isLet c && z.cps.toList.all fun c => isLet c || isDig c) := by
            unfold nameC
            rw [hl, decide_eq_true hc.1, decide_eq_true hc.2, ec]
            rfl
          try simp only [Com.wp, Option.some.injEq, exists_eq_left', true_and, and_true, and_self, Int.reduceLT, Int.reduceLE, Int.reduceNeg, Int.reduceAdd, Int.reduceSub, Int.reducePow, Int.reduceToNat, Nat.reduceAdd, Nat.reduceLT, Nat.reduceLeDiff, hz', g1, g2, e0, List.length_map]
          refine Com.ifk (fun h1 => ?_) (fun h1 => ?_)
          · try simp only [Com.wp, Option.some.injEq, exists_eq_left', true_and, and_true, and_self, Int.reduceLT, Int.reduceLE, Int.reduceNeg, Int.reduceAdd, Int.reduceSub, Int.reducePow, Int.reduceToNat, Nat.reduceAdd, Nat.reduceLT, Nat.reduceLeDiff]
            refine no ?_
            have h2 : ¬ (z.cps.toList.all fun c => isLet c || isDig c) = true := fun e => by
              have := ca.mpr e
              simp at h1
              omega
            rw [eN, Bool.eq_false_iff.mpr h2, Bool.and_false]
          · try simp only [Com.wp, Option.some.injEq, exists_eq_left', true_and, and_true, and_self, Int.reduceLT, Int.reduceLE, Int.reduceNeg, Int.reduceAdd, Int.reduceSub, Int.reducePow, Int.reduceToNat, Nat.reduceAdd, Nat.reduceLT, Nat.reduceLeDiff, hz', e0, tl_a, tl_z, one_lt, ck_let]
            have h2 : (z.cps.toList.all fun c => isLet c || isDig c) = true := ca.mp (by simp at h1; omega)
            rw [eN, h2, Bool.and_true] at q'
            exact q'
-- law
def sp_law (K : PySem.W.Frag) : Sp := Com.Sp1 fun x H Q _ => ∃ (s : Addr) (ns : List Int), x = .ref s ∧ SqL K H s (ns.map V.int) ∧ ns.length ≤ 63 ∧ ∀ H', Q (.bl true) H'
set_option maxHeartbeats 4000000 in
theorem okF_law {P : Program} {w : World} {K : PySem.W.Frag} {mg : Str → Option Value} {base : Heap} (T : Txt K mg) {fd : FuncData} (F : FunD K "law" "law" (defArgs s_law) (defBody s_law) (defScope s_law) [] [] (He.ga K "law") fd) : FnOk P w K mg base CX0 5 (He.ga K "law") fd ["_law_script"] (sp_law K) := by
  have G__law_state := ok__law_state (P := P) (w := w) (base := base) T
  have G__law_name := ok__law_name (P := P) (w := w) (base := base) T
  have G__law_text := ok__law_text (P := P) (w := w) (base := base) T
  have G_is_name := ok_is_name (P := P) (w := w) (base := base) T
  have G__law_due := ok__law_due (P := P) (w := w) (base := base) T
  refine F.ok sc_law (fun vs H Q E h => ?_) (fun cdv A outer s H vs Q E hr h => ?_)
  · obtain ⟨_, rfl, _⟩ := h
    rfl
  · obtain ⟨a0, rfl, h⟩ := h
    refine ⟨_, PSs.nox (pss_cons (ps_set (i := 1) sc_law.nd rfl (by first | exact Or.inl rfl | exact Or.inr rfl) (Com.pcall G__law_state (hr.mono (by decide)) (by rfl) pass0 (pa_cons (pv 0) pa_nil)))
      (pss_cons (ps_set (i := 2) sc_law.nd rfl (by first | exact Or.inl rfl | exact Or.inr rfl) (Com.pcall G__law_name (hr.mono (by decide)) (by rfl) pass0 (pa_cons (pv 1) pa_nil)))
      (pss_cons (ps_set (i := 3) sc_law.nd rfl (by first | exact Or.inl rfl | exact Or.inr rfl) (Com.pcall G__law_text (hr.mono (by decide)) (by rfl) pass0 (pa_cons (pv 1) (pa_cons (pv 2) pa_nil))))
      (pss_cons (ps_set (i := 4) sc_law.nd rfl (by first | exact Or.inl rfl | exact Or.inr rfl) (pe_lst (pa_cons (pv 3) (pa_cons (pe_slice sl_str (pv 3) (po_some pe_int) po_none) (pa_cons (pe_slice sl_str (pv 3) po_none (po_some pe_int)) (pa_cons pe_str (pa_cons (pv 2) (pa_cons (pe_slice sl_str (pv 2) po_none (po_some pe_int)) pa_nil))))))))
      (pss_cons (ps_expr (pe_bm PySem.F.plainAttrs_list PySem.F.slot_list_append PySem.F.type_list_append mt_append (pv 4) (pa_cons (pe_op Com.qadd_str (pv 2) (pe_op Com.qmul_str pe_str (pe_op op_sub pe_int (pe_callB Com.qlen_str (by rfl) T.b_len (by decide +kernel) (pa_cons (pv 2) pa_nil))))) pa_nil)))
      (pss_cons (ps_expr (pe_bm PySem.F.plainAttrs_list PySem.F.slot_list_append PySem.F.type_list_append mt_append (pv 4) (pa_cons (pe_op Com.qadd_str (pv 2) (pe_op Com.qmul_str pe_str (pe_op op_sub pe_int (pe_callB Com.qlen_str (by rfl) T.b_len (by decide +kernel) (pa_cons (pv 2) pa_nil))))) pa_nil)))
      (pss_cons (ps_expr (pe_bm PySem.F.plainAttrs_list PySem.F.slot_list_append PySem.F.type_list_append mt_append (pv 4) (pa_cons (pe_slice sl_str (pe_op Com.qmul_str (pv 2) pe_int) po_none (po_some pe_int)) pa_nil)))
      (pss_cons (ps_for PassesOwn.never rfl (pi_list (pv 4)) (pg_name (i := 5) sc_law.nd rfl (by first | exact Or.inl rfl | exact Or.inr rfl)) (pss_cons (ps_set (i := 6) sc_law.nd rfl (by first | exact Or.inl rfl | exact Or.inr rfl) (Com.pcall G_is_name (hr.mono (by decide)) (by rfl) pass0 (pa_cons (pv 5) pa_nil)))
      (pss_one (ps_if (pt_val (Com.pcall G__law_due (hr.mono (by decide)) (by rfl) pass0 (pa_cons (pv 5) pa_nil))) (pss_one (ps_if (pt_cmpR op_notBl (pv 6) pe_bl (nomark _)) (pss_one (ps_ret pe_bl)) pss_nil)) (pss_one (ps_if (pt_cmpR op_notBl (pv 6) pe_bl (nomark _)) (pss_one (ps_ret pe_bl)) pss_nil))))))
      (pss_one (ps_ret pe_bl)))))))))), ?_⟩
    simp only [L2.start, List.map_cons, List.map_nil, List.length_cons, List.length_nil, List.cons_append, List.nil_append, Nat.reduceAdd, Nat.reduceSub, List.replicate_succ, List.replicate_zero]
    obtain ⟨s0, ns, rfl, hS, hn, q⟩ := h
    try simp only [Com.wp, Option.some.injEq, exists_eq_left', true_and, and_true, and_self, Int.reduceLT, Int.reduceLE, Int.reduceNeg, Int.reduceAdd, Int.reduceSub, Int.reducePow, Int.reduceToNat, Nat.reduceAdd, Nat.reduceLT, Nat.reduceLeDiff]
    refine ⟨_, rfl, s0, ns, rfl, hS, hn, fun a l c H1 st1 sm1 na nl => ?_⟩
    try simp only [Com.wp, Option.some.injEq, exists_eq_left', true_and, and_true, and_self, Int.reduceLT, Int.reduceLE, Int.reduceNeg, Int.reduceAdd, Int.reduceSub, Int.reducePow, Int.reduceToNat, Nat.reduceAdd, Nat.reduceLT, Nat.reduceLeDiff]
    refine use_name st1 (by omega) fun nm H2 n1 n2 n3 st2 kp2 => ?_
    try simp only [Com.wp, Option.some.injEq, exists_eq_left', true_and, and_true, and_self, Int.reduceLT, Int.reduceLE, Int.reduceNeg, Int.reduceAdd, Int.reduceSub, Int.reducePow, Int.reduceToNat, Nat.reduceAdd, Nat.reduceLT, Nat.reduceLeDiff]
    refine ⟨_, _, rfl, a, l, c, _, nm, rfl, rfl, st2, by omega, n1, n2, fun tx H3 t1 st3 kp3 => ?_⟩
    have tx' := sz tx (by omega)
    have nm' := sz nm (by omega)
    try simp only [Com.wp, Option.some.injEq, exists_eq_left', true_and, and_true, and_self, Int.reduceLT, Int.reduceLE, Int.reduceNeg, Int.reduceAdd, Int.reduceSub, Int.reducePow, Int.reduceToNat, Nat.reduceAdd, Nat.reduceLT, Nat.reduceLeDiff, tx', nm']
    intro p hp
    try simp only [Com.wp, Option.some.injEq, exists_eq_left', true_and, and_true, and_self, Int.reduceLT, Int.reduceLE, Int.reduceNeg, Int.reduceAdd, Int.reduceSub, Int.reducePow, Int.reduceToNat, Nat.reduceAdd, Nat.reduceLT, Nat.reduceLeDiff]
    have l0 : (Str.ofString "0").length = 1 := by decide +kernel
    refine ⟨by decide +kernel, by omega, by omega, fun r1 hr1 => ?_⟩
    have e1 := len_flat _ _ _ hr1
    have e2 := len_app nm r1
    rw [l0] at e1
    refine ⟨line_of (by omega), by show 6 < sizeLine; decide, by decide +kernel, by omega, by omega, fun r2 hr2 => ?_⟩
    have e3 := len_flat _ _ _ hr2
    have e4 := len_app nm r2
    rw [l0] at e3
    refine ⟨line_of (by omega), by simp only [List.length_append, List.length_cons, List.length_nil]; decide, by omega, fun r3 hr3 => ?_⟩
    have e5 := len_flat _ _ _ hr3
    have c1 := cutS_length tx (some 1) none
    have c2 := cutS_length tx none (some 12)
    have c3 := cutS_length nm none (some 1)
    have c4 := cutS_length r3 none (some 40)
    refine ⟨line_of (by omega), by simp only [List.length_append, List.length_cons, List.length_nil]; decide, ?_⟩
    have all : ∃ zs : List Str, [V.str tx, V.str (cutS tx (some 1) none), V.str (cutS tx none (some 12)), V.str (Str.ofString ""), V.str nm, V.str (cutS nm none (some 1))] ++ [V.str (nm ++ r1)] ++ [V.str (nm ++ r2)] ++ [V.str (cutS r3 none (some 40))] = zs.map V.str ∧ ∀ z ∈ zs, z.length ≤ 1000000 := by
      refine ⟨[tx, cutS tx (some 1) none, cutS tx none (some 12), Str.ofString "", nm, cutS nm none (some 1), nm ++ r1, nm ++ r2, cutS r3 none (some 40)], rfl, ?_⟩
      have l1 : (Str.ofString "").length = 0 := by decide +kernel
      simp only [List.mem_cons, List.not_mem_nil, or_false]
      rintro z (rfl | rfl | rfl | rfl | rfl | rfl | rfl | rfl | rfl) <;> omega
    obtain ⟨zs, ez, az⟩ := all
    rw [ez]
    refine Com.loopL (zs.map V.str) (fun i s2 H4 => ∃ x y, s2 = [some (.ref s0), some (.ref a), some (.str nm), some (.str tx), some (.ref p), x, y] ∧ H4 p = some (.lst (zs.map V.str))) ⟨none, none, rfl, upd_same⟩ (fun i s2 H4 ⟨_, _, _, e⟩ => e) ?_ ?_
    · rintro i x s2 H4 hi hx ⟨x5, x6, rfl, h4⟩
      obtain ⟨z, hz, rfl⟩ : ∃ z, z.length ≤ 1000000 ∧ x = V.str z := by
        rw [List.getElem?_map] at hx
        cases e : zs[i]? with
        | none => rw [e] at hx; cases hx
        | some z => rw [e] at hx; exact ⟨z, az z (List.mem_of_getElem? e), (Option.some.inj hx).symm⟩
      try simp only [Com.wp, Option.some.injEq, exists_eq_left', true_and, and_true, and_self, Int.reduceLT, Int.reduceLE, Int.reduceNeg, Int.reduceAdd, Int.reduceSub, Int.reducePow, Int.reduceToNat, Nat.reduceAdd, Nat.reduceLT, Nat.reduceLeDiff]
      refine ⟨_, rfl, z, rfl, hz, ?_⟩
      try simp only [Com.wp, Option.some.injEq, exists_eq_left', true_and, and_true, and_self, Int.reduceLT, Int.reduceLE, Int.reduceNeg, Int.reduceAdd, Int.reduceSub, Int.reducePow, Int.reduceToNat, Nat.reduceAdd, Nat.reduceLT, Nat.reduceLeDiff]
      refine ⟨_, rfl, z, rfl, hz, fun H5 sm5 => ?_⟩
      have h5 := sm5 _ _ h4
      try simp only [Com.wp, Option.some.injEq, exists_eq_left', true_and, and_true, and_self, Int.reduceLT, Int.reduceLE, Int.reduceNeg, Int.reduceAdd, Int.reduceSub, Int.reducePow, Int.reduceToNat, Nat.reduceAdd, Nat.reduceLT, Nat.reduceLeDiff]
      cases nameC z.cps.toList with
      | true =>
        refine Com.ifk (fun _ => ?_) (fun e => Bool.noConfusion e)
        try simp only [Com.wp, Option.some.injEq, exists_eq_left', true_and, and_true, and_self, Int.reduceLT, Int.reduceLE, Int.reduceNeg, Int.reduceAdd, Int.reduceSub, Int.reducePow, Int.reduceToNat, Nat.reduceAdd, Nat.reduceLT, Nat.reduceLeDiff]
        refine Com.ifk (fun e => by simp at e) (fun _ => ?_)
        try simp only [Com.wp, Option.some.injEq, exists_eq_left', true_and, and_true, and_self, Int.reduceLT, Int.reduceLE, Int.reduceNeg, Int.reduceAdd, Int.reduceSub, Int.reducePow, Int.reduceToNat, Nat.reduceAdd, Nat.reduceLT, Nat.reduceLeDiff]
        exact ⟨_, _, rfl, h5⟩
      | false =>
        refine Com.ifk (fun e => Bool.noConfusion e) (fun _ => ?_)
        try simp only [Com.wp, Option.some.injEq, exists_eq_left', true_and, and_true, and_self, Int.reduceLT, Int.reduceLE, Int.reduceNeg, Int.reduceAdd, Int.reduceSub, Int.reducePow, Int.reduceToNat, Nat.reduceAdd, Nat.reduceLT, Nat.reduceLeDiff]
        refine Com.ifk (fun e => by simp at e) (fun _ => ?_)
        try simp only [Com.wp, Option.some.injEq, exists_eq_left', true_and, and_true, and_self, Int.reduceLT, Int.reduceLE, Int.reduceNeg, Int.reduceAdd, Int.reduceSub, Int.reducePow, Int.reduceToNat, Nat.reduceAdd, Nat.reduceLT, Nat.reduceLeDiff]
        exact ⟨_, _, rfl, h5⟩
    · rintro s2 H4 ⟨x5, x6, rfl, h4⟩
      try simp only [Com.wp, Option.some.injEq, exists_eq_left', true_and, and_true, and_self, Int.reduceLT, Int.reduceLE, Int.reduceNeg, Int.reduceAdd, Int.reduceSub, Int.reducePow, Int.reduceToNat, Nat.reduceAdd, Nat.reduceLT, Nat.reduceLeDiff]
      exact q H4
def d__law_state : He.DefD := ⟨("_law_state", none), "_law_state", "_law_state", defArgs s__law_state, defBody s__law_state, defScope s__law_state, [], []⟩
def d__law_mixed : He.DefD := ⟨("_law_mixed", none), "_law_mixed", "_law_mixed", defArgs s__law_mixed, defBody s__law_mixed, defScope s__law_mixed, [], []⟩
def d__law_draw : He.DefD := ⟨("_law_draw", none), "_law_draw", "_law_draw", defArgs s__law_draw, defBody s__law_draw, defScope s__law_draw, [], []⟩
def d__law_name : He.DefD := ⟨("_law_name", none), "_law_name", "_law_name", defArgs s__law_name, defBody s__law_name, defScope s__law_name, [], []⟩
def d__law_sign : He.DefD := ⟨("_law_sign", none), "_law_sign", "_law_sign", defArgs s__law_sign, defBody s__law_sign, defScope s__law_sign, [], []⟩
def d__law_text : He.DefD := ⟨("_law_text", none), "_law_text", "_law_text", defArgs s__law_text, defBody s__law_text, defScope s__law_text, [], []⟩
def d_is_name : He.DefD := ⟨("is_name", none), "is_name", "is_name", defArgs s_is_name, defBody s_is_name, defScope s_is_name, [], []⟩
def d__law_due : He.DefD := ⟨("_law_due", none), "_law_due", "_law_due", defArgs s__law_due, defBody s__law_due, defScope s__law_due, [], []⟩
def d_law : He.DefD := ⟨("law", none), "law", "law", defArgs s_law, defBody s_law, defScope s_law, [], []⟩
def fnl : List He.DefD := [d__law_state, d__law_mixed, d__law_draw, d__law_name, d__law_sign, d__law_text, d_is_name, d__law_due, d_law]
def fal : List He.Fa := [.free "int", .free "len", .free "list", .free "range", .str "DIGITS" "0123456789", .str "LETTERS" "abcdefghijklmnopqrstuvwxyz", .int "MOST_SIGNS" 12, .glo "_law_state", .glo "_law_mixed", .glo "_law_draw", .glo "_law_name", .glo "_law_sign", .glo "_law_text", .glo "is_name", .glo "_law_due", .glo "law"]
def nm0 : List PySem.Str := ["LETTERS", "DIGITS", "MOST_SIGNS", "is_name", "_law_state", "_law_mixed", "_law_draw", "_law_sign", "_law_name", "_law_text", "_law_due"]
def nml : List PySem.Str := nm0
abbrev R : PySem.W.OpenRow := PySem.W.OpenLaw.row PySem.Challenge.rw_neverrounds_k01_names
abbrev hk : PySem.W.Hook := He.hookD 4 fal fnl
def ob (s : PySem.W.SharedT) : He.AlD := He.obsDG 4 fal fnl (HandSHeadRun.getT s)
theorem ob_eq (s : PySem.W.SharedT) : ob s = hk.obs s.abs := He.obsDG_eq (HandSHeadRun.getT_eq s)
theorem run (w : World) : HandSHeadRun.RunEq R (PySem.W.view R.prog [13]) hk ob 12000 nml w := by
  intro os
  kernel_rfl
theorem txt_of {K : PySem.W.Frag} {h : Heap} {mg : Str → Option Value} (X : K.In h) (G : h.Ns mainGlobals mg) (c : He.SaysD fal fnl K) : Txt K mg where
  b_int := He.free_ok X G (c.fact 0 (f := .free "int") rfl)
  b_len := He.free_ok X G (c.fact 1 (f := .free "len") rfl)
  b_list := He.free_ok X G (c.fact 2 (f := .free "list") rfl)
  b_range := He.free_ok X G (c.fact 3 (f := .free "range") rfl)
  c_DIGITS := He.str_ok X G (c.fact 4 (f := .str "DIGITS" "0123456789") rfl)
  c_LETTERS := He.str_ok X G (c.fact 5 (f := .str "LETTERS" "abcdefghijklmnopqrstuvwxyz") rfl)
  c_MOST_SIGNS := He.int_ok X G (c.fact 6 (f := .int "MOST_SIGNS" 12) rfl)
  g__law_state := He.glo_ok X G (c.fact 7 (f := .glo "_law_state") rfl)
  F__law_state := c.def_ 0 (d := d__law_state) rfl
  g__law_mixed := He.glo_ok X G (c.fact 8 (f := .glo "_law_mixed") rfl)
  F__law_mixed := c.def_ 1 (d := d__law_mixed) rfl
  g__law_draw := He.glo_ok X G (c.fact 9 (f := .glo "_law_draw") rfl)
  F__law_draw := c.def_ 2 (d := d__law_draw) rfl
  g__law_name := He.glo_ok X G (c.fact 10 (f := .glo "_law_name") rfl)
  F__law_name := c.def_ 3 (d := d__law_name) rfl
  g__law_sign := He.glo_ok X G (c.fact 11 (f := .glo "_law_sign") rfl)
  F__law_sign := c.def_ 4 (d := d__law_sign) rfl
  g__law_text := He.glo_ok X G (c.fact 12 (f := .glo "_law_text") rfl)
  F__law_text := c.def_ 5 (d := d__law_text) rfl
  g_is_name := He.glo_ok X G (c.fact 13 (f := .glo "is_name") rfl)
  F_is_name := c.def_ 6 (d := d_is_name) rfl
  g__law_due := He.glo_ok X G (c.fact 14 (f := .glo "_law_due") rfl)
  F__law_due := c.def_ 7 (d := d__law_due) rfl
  g_law := He.glo_ok X G (c.fact 15 (f := .glo "law") rfl)
  F_law := c.def_ 8 (d := d_law) rfl
end Nv
open PySem PySem.W PySem.Calls PyProof.Rows
set_option maxHeartbeats 0 in
theorem PySem.Challenge.cw_neverrounds_k01_names_holds : PySem.Challenge.rw_neverrounds_k01_names.Holds := by
  w_on; o_law
  refine HandSHeadRun.head_any (r := OpenLaw.row PySem.Challenge.rw_neverrounds_k01_names) (q := view (OpenLaw.row PySem.Challenge.rw_neverrounds_k01_names).prog [13]) (H := Nv.hk) (ob := Nv.ob) (M := 12000) (loose := Nv.nml) (d := HandSHeadRun.topDef (OpenLaw.row PySem.Challenge.rw_neverrounds_k01_names).prog 13) (kwd := []) Nv.ob_eq
    (by kernel_rfl) (fun s => by kernel_rfl) Nv.run (by kernel_rfl) (by kernel_rfl) (by kernel_rfl) (by rfl) (by first | assumption | decide +kernel) (by decide +kernel) ⟨rfl, rfl, rfl, rfl, rfl, by decide +kernel⟩ ?hw ?hc
  case hw => w_witness2
  case hc =>
    refine L2.walk_ofE (l := PySem.Challenge.rw_neverrounds_k01_names) (n := 63) (k := 5) (x := "_law_script") (CX := L2.CX0) rfl (by decide) (by kernel_rfl) ⟨rfl, by decide, by decide⟩ ?F (fun _ _ _ _ z => z)
    intro w mg fa h Y G hmg0
    obtain ⟨K, KX, c⟩ := Y
    have hmg : mg ("law" : PySem.Str) = some (.ref fa) := by
      have e : (HandSHeadRun.topDef (OpenLaw.row PySem.Challenge.rw_neverrounds_k01_names).prog 13).name = ("law" : PySem.Str) := by kernel_rfl
      rw [← e]
      exact hmg0
    have T := Nv.txt_of KX G c
    obtain ⟨fd, F⟩ := T.F_law
    have eF : fa = He.ga K "law" := by
      have z := hmg.symm.trans T.g_law
      injection z with z
      injection z
    subst eF
    refine ⟨K, fd, Nv.sp_law K, KX, fun s v => L2.FunD.bindsA (ps := ["_law_script"]) F (fun _ _ _ _ _ _ us hl => match us, hl with | [_], _ => rfl) s [v] rfl, fun H a ns hl _ hS => ⟨_, rfl, a, ns, rfl, hS, hl, fun _ => rfl⟩, fun base _ _ => ?_⟩
    exact Nv.okF_law (P := (PySem.Challenge.rw_neverrounds_k01_names).prog) (w := w) (base := base) T F
