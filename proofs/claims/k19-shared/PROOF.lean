import PyProof.Rows.All
import Wide.All
import OpenK.AllK
import Wide.FinOn
import KE.KStateDown
import Lean
import HandS.ForMost
import HandS.Walk
import HandS.Wide
import HandS.Style
import HandS.Flow
import HandS.IsInst
import HandS.SortInts
import HandS.More
import HandS.Defaults
import HandS.Head0
import HandS.Head1
import HandS.Head2
import HandS.HeadEnd
import HandS.HeadHook1
import HandS.HeadHook2
import PySem.Challenge.RW_neverrounds_k19_shared
set_option Elab.async false
set_option linter.all false
set_option maxRecDepth 100000
set_option maxHeartbeats 4000000
/-! ### own words over the layer: readings that simp can run -/
namespace Com
open PySem L2
section
variable {X : Cx}
theorem pe_mono {e : Expr} {t t' : TE} (h : PE X e t) (hm : ∀ σ H Q, t' σ H Q → t σ H Q) : PE X e t' := ⟨fun pins s σ H Q I hw => h.run pins s σ H Q I (hm σ H Q hw)⟩
theorem op_mono {f : Value → Value → Sem Value} {r r' : R2} (h : OpR X f r) (hm : ∀ x y H Q, r' x y H Q → r x y H Q) : OpR X f r' := fun pins s σ H x y v u Q I rx ry hq => h pins s σ H x y v u Q I rx ry (hm x y H Q hq)
theorem ix_mono {r r' : R2} (h : IxR X r) (hm : ∀ x y H Q, r' x y H Q → r x y H Q) : IxR X r' := fun va sl pins s σ H x y v u Q I rx ry hq e => h va sl pins s σ H x y v u Q I rx ry (hm x y H Q hq) e
theorem call_mono {f : Value} {r r' : List V → Hp → VK → Prop} (h : CallR X f r) (hm : ∀ xs H Q, r' xs H Q → r xs H Q) : CallR X f r' := fun pins s σ H xs us Q I rx hq => h pins s σ H xs us Q I rx (hm xs H Q hq)
/-- the items of a tracked list, of a tracked tuple -/
def lstOf : Option HO → Option (List V)
  | some (.lst xs) => some xs
  | _ => none
def tupOf : Option HO → Option (List V)
  | some (.tup xs) => some xs
  | _ => none
def seqOf : Option HO → Option (List V)
  | some (.lst xs) => some xs
  | some (.tup xs) => some xs
  | _ => none
theorem of_lstOf {o : Option HO} {xs : List V} (h : lstOf o = some xs) : o = some (.lst xs) := by
  cases o with
  | none => cases h
  | some u => cases u <;> simp [lstOf] at h ⊢ <;> exact h
theorem of_tupOf {o : Option HO} {xs : List V} (h : tupOf o = some xs) : o = some (.tup xs) := by
  cases o with
  | none => cases h
  | some u => cases u <;> simp [tupOf] at h ⊢ <;> exact h
theorem of_seqOf {o : Option HO} {xs : List V} (h : seqOf o = some xs) : o = some (.lst xs) ∨ o = some (.tup xs) := by
  cases o with
  | none => cases h
  | some u => cases u <;> simp [seqOf] at h ⊢ <;> exact h
def rIxl : R2 := fun x y H Q => ∃ p i xs v, x = .ref p ∧ y = .int i ∧ lstOf (H p) = some xs ∧ atI xs i = some v ∧ Q v H
def rIxt : R2 := fun x y H Q => ∃ p i xs v, x = .ref p ∧ y = .int i ∧ tupOf (H p) = some xs ∧ atI xs i = some v ∧ Q v H
theorem qix_list : IxR X rIxl := ix_mono ix_list fun x y H Q ⟨p, i, xs, v, a, b, c, d, q⟩ => ⟨p, xs, i, v, a, b, SqL.of (of_lstOf c), d, q⟩
theorem qix_tup : IxR X rIxt := ix_mono ix_tup fun x y H Q ⟨p, i, xs, v, a, b, c, d, q⟩ => ⟨p, xs, i, v, a, b, SqT.of (of_tupOf c), d, q⟩
def rLenq : List V → Hp → VK → Prop := fun vs H Q => ∃ p xs, vs = [.ref p] ∧ seqOf (H p) = some xs ∧ Q (.int xs.length) H
theorem qlen : CallR X (.builtin "len") rLenq := call_mono call_len_seq fun vs H Q ⟨p, xs, a, b, q⟩ => ⟨p, xs, a, (of_seqOf b).elim (fun z => .inl (SqL.of z)) (fun z => .inr (SqT.of z)), q⟩
def rListq : List V → Hp → VK → Prop := fun vs H Q => ∃ p xs, vs = [.ref p] ∧ seqOf (H p) = some xs ∧ ∀ l, H l = none → Q (.ref l) (upd H l (.lst xs))
theorem qlist : CallR X (.type "list") rListq := call_mono call_list_of fun vs H Q ⟨p, xs, a, b, q⟩ => ⟨p, xs, a, (of_seqOf b).elim (fun z => .inl (SqL.of z)) (fun z => .inr (SqT.of z)), q⟩
def rInt1 : List V → Hp → VK → Prop := fun vs H Q => ∃ i, vs = [.int i] ∧ Q (.int i) H
theorem qint : CallR X (.type "int") rInt1 := call_mono call_int1 fun vs H Q ⟨i, a, q⟩ => .inl ⟨i, a, q⟩
end
/-- how an if goes on: kept shut, so that simp stops here -/
def Ifk (c : Bool) (A B : St → Hp → Prop) (σ : St) (H : Hp) : Prop := if c = true then A σ H else B σ H
theorem ifk {c : Bool} {A B : St → Hp → Prop} {σ : St} {H : Hp} (h1 : c = true → A σ H) (h2 : c = false → B σ H) : Ifk c A B σ H := by
  cases c with
  | true => exact h1 rfl
  | false => exact h2 rfl
/-- how and, or go on -/
def Andk (c : Bool) (u : TT) (σ : St) (H : Hp) (Q : Bool → Hp → Prop) : Prop := if c = true then u σ H Q else Q false H
def Ork (c : Bool) (u : TT) (σ : St) (H : Hp) (Q : Bool → Hp → Prop) : Prop := if c = true then Q true H else u σ H Q
def AndVk (c : Bool) (u : TE) (σ : St) (H : Hp) (Q : VK) : Prop := if c = true then u σ H Q else Q (.bl false) H
def OrVk (c : Bool) (u : TE) (σ : St) (H : Hp) (Q : VK) : Prop := if c = true then Q (.bl true) H else u σ H Q
def IfEk (c : Bool) (a b : TE) (σ : St) (H : Hp) (Q : VK) : Prop := if c = true then a σ H Q else b σ H Q
def Chk (c : Bool) (tc : TE) (r : V → Hp → VK → Prop) (σ : St) (H : Hp) (Q : VK) : Prop := if c = true then tc σ H (fun w H4 => r w H4 Q) else Q (.bl false) H
theorem andk {c : Bool} {u : TT} {σ : St} {H : Hp} {Q : Bool → Hp → Prop} (h1 : c = true → u σ H Q) (h2 : c = false → Q false H) : Andk c u σ H Q := by
  cases c with
  | true => exact h1 rfl
  | false => exact h2 rfl
theorem ork {c : Bool} {u : TT} {σ : St} {H : Hp} {Q : Bool → Hp → Prop} (h1 : c = true → Q true H) (h2 : c = false → u σ H Q) : Ork c u σ H Q := by
  cases c with
  | true => exact h1 rfl
  | false => exact h2 rfl
theorem andVk {c : Bool} {u : TE} {σ : St} {H : Hp} {Q : VK} (h1 : c = true → u σ H Q) (h2 : c = false → Q (.bl false) H) : AndVk c u σ H Q := by
  cases c with
  | true => exact h1 rfl
  | false => exact h2 rfl
theorem orVk {c : Bool} {u : TE} {σ : St} {H : Hp} {Q : VK} (h1 : c = true → Q (.bl true) H) (h2 : c = false → u σ H Q) : OrVk c u σ H Q := by
  cases c with
  | true => exact h1 rfl
  | false => exact h2 rfl
theorem ifEk {c : Bool} {a b : TE} {σ : St} {H : Hp} {Q : VK} (h1 : c = true → a σ H Q) (h2 : c = false → b σ H Q) : IfEk c a b σ H Q := by
  cases c with
  | true => exact h1 rfl
  | false => exact h2 rfl
theorem chk {c : Bool} {tc : TE} {r : V → Hp → VK → Prop} {σ : St} {H : Hp} {Q : VK} (h1 : c = true → tc σ H (fun w H4 => r w H4 Q)) (h2 : c = false → Q (.bl false) H) : Chk c tc r σ H Q := by
  cases c with
  | true => exact h1 rfl
  | false => exact h2 rfl
/-- a new object -/
def New (H : Hp) (o : HO) (k : Addr → Hp → Prop) : Prop := ∀ p, H p = none → k p (upd H p o)
/-! ### promises by the number of arguments -/
def Sp0 (P : Hp → VK → XK → Prop) : Sp := fun vs H Q E => vs = [] ∧ P H Q E
def Sp1 (P : V → Hp → VK → XK → Prop) : Sp := fun vs H Q E => ∃ a, vs = [a] ∧ P a H Q E
def Sp2 (P : V → V → Hp → VK → XK → Prop) : Sp := fun vs H Q E => ∃ a b, vs = [a, b] ∧ P a b H Q E
def Sp3 (P : V → V → V → Hp → VK → XK → Prop) : Sp := fun vs H Q E => ∃ a b c, vs = [a, b, c] ∧ P a b c H Q E
def Sp4 (P : V → V → V → V → Hp → VK → XK → Prop) : Sp := fun vs H Q E => ∃ a b c d, vs = [a, b, c, d] ∧ P a b c d H Q E
def Sp5 (P : V → V → V → V → V → Hp → VK → XK → Prop) : Sp := fun vs H Q E => ∃ a b c d e, vs = [a, b, c, d, e] ∧ P a b c d e H Q E
/-- a truth value, a number asked of a value -/
def BlK (x : V) (Q : Bool → Prop) : Prop := ∃ k, x = .bl k ∧ Q k
def IntK (x : V) (Q : Int → Prop) : Prop := ∃ k, x = .int k ∧ Q k
def StrK (x : V) (Q : Str → Prop) : Prop := ∃ k, x = .str k ∧ Q k
theorem dec_int (i j : Int) : decide (V.int i = V.int j) = decide (i = j) := by simp
theorem dec_str (i j : Str) : decide (V.str i = V.str j) = decide (i = j) := by simp
theorem dec_bl (i j : Bool) : decide (V.bl i = V.bl j) = decide (i = j) := by simp
theorem pg_mono {X : Cx} {tg : Expr} {g g' : TG} (h : PG X tg g) (hm : ∀ v σ H Q, g' v σ H Q → g v σ H Q) : PG X tg g' := ⟨fun pins s σ H v u Q I r hq => h.run pins s σ H v u Q I r (hm v σ H Q hq)⟩
/-- a, b = a tracked tuple -/
def gTupq (n : Nat) (t : TGs) : TG := fun v σ H Q => ∃ a xs, v = .ref a ∧ tupOf (H a) = some xs ∧ xs.length = n ∧ t xs σ H Q
theorem qg_tup {X : Cx} {es : List Expr} {k : Nat} {t : TGs} {n : Nat} {pos : Pos} (hc : X.calm = true) (h : PGs X es t)
    (hn : (assignEach es X.env).length = n := by rfl) (hst : (assignEach es X.env).findIdx? (·.1) = none := by rfl) : PG X (.Tuple es k pos) (gTupq n t) :=
  pg_mono (pg_tup hc h hn hst) fun _ _ _ _ ⟨a, xs, e1, e2, e3, q⟩ => ⟨a, xs, e1, SqT.of (of_tupOf e2), e3, q⟩
/-- a loop that is about to begin -/
def LoopK (J : It) (g : TG) (tb : TS) (D : Ends) (σ : St) (H : Hp) : Prop :=
  ∃ W : Nat → Nat → St → Hp → Prop, (∃ m, W 0 m σ H) ∧ ∀ i m σ H, W i m σ H → (J.stop i H ∧ D.nx σ H) ∨
    (J.go i H ∧ ∃ N : St → Hp → Prop, (∀ s2 H', N s2 H' → ∃ m', m' < m ∧ W (i + 1) m' s2 H') ∧ ∀ x H', J.yld i H x H' → g x σ H' fun s3 H2 => tb { D with nx := N, ct := N, bk := D.nx } s3 H2)
def ListK (K : PySem.W.Frag) (x : V) (H : Hp) (R : It → Hp → Prop) : Prop := ∃ a, x = .ref a ∧ (∃ xs, SqL K H a xs) ∧ R (Itl K a) H
theorem loopL {K : PySem.W.Frag} {a : Addr} {g : TG} {tb : TS} {D : Ends} {σ : St} {H : Hp} (xs : List V) (Pv : Nat → St → Hp → Prop) (h0 : Pv 0 σ H) (hl : ∀ i σ H, Pv i σ H → H a = some (.lst xs))
    (hs : ∀ i x σ H, i < xs.length → xs[i]? = some x → Pv i σ H → g x σ H (tb ⟨Pv (i + 1), D.rt, D.nx, Pv (i + 1)⟩)) (hd : ∀ σ H, Pv xs.length σ H → D.nx σ H) : LoopK (Itl K a) g tb D σ H :=
  for_it (walk_list (xs := xs)) Pv h0 (fun i σ H _ p => SqL.of (hl i σ H p)) (fun i x σ H H' hi p y => by obtain ⟨rfl, y⟩ := y; exact hs i x σ _ hi y p) hd
theorem loopR {lo : Int} {n : Nat} {g : TG} {tb : TS} {D : Ends} {σ : St} {H : Hp} (Pv : Nat → St → Hp → Prop) (h0 : Pv 0 σ H)
    (hs : ∀ (i : Nat) σ H, i < n → Pv i σ H → g (.int (lo + (i : Nat))) σ H (tb ⟨Pv (i + 1), D.rt, D.nx, Pv (i + 1)⟩)) (hd : ∀ σ H, Pv n σ H → D.nx σ H) : LoopK (Itr lo n) g tb D σ H :=
  for_it walk_range Pv h0 (fun _ _ _ _ _ => trivial) (fun i x σ H H' hi p y => by obtain ⟨rfl, rfl⟩ := y; exact hs i σ _ hi p) hd
theorem loopS {z : Str} {g : TG} {tb : TS} {D : Ends} {σ : St} {H : Hp} (Pv : Nat → St → Hp → Prop) (h0 : Pv 0 σ H)
    (hs : ∀ (i : Nat) c σ H, z.cps.toList[i]? = some c → Pv i σ H → g (.str ⟨#[c]⟩) σ H (tb ⟨Pv (i + 1), D.rt, D.nx, Pv (i + 1)⟩)) (hd : ∀ σ H, Pv z.length σ H → D.nx σ H) : LoopK (Its z) g tb D σ H :=
  for_it walk_str Pv h0 (fun _ _ _ _ _ => trivial) (fun i x σ H H' hi p y => by obtain ⟨rfl, c, hc, rfl⟩ := y; exact hs i c σ _ (by rw [Array.getElem?_toList]; exact hc) p) hd
/-- a comprehension that is about to begin -/
def LcK (J : It) (g : TG) (tt : TT) (te : TE) (vs : List Nat) (σ : St) (H1 : Hp) (Q : VK) : Prop := ∀ D, H1 D = none → ∃ W : Nat → Nat → Hp → Prop, (∃ m, W 0 m (upd H1 D (.lst []))) ∧ ∀ i m H, W i m H →
  (J.stop i H ∧ Q (.ref D) H) ∨ (J.go i H ∧ ∃ Nx : Hp → Prop, (∀ H', Nx H' → ∃ m', m' < m ∧ W (i + 1) m' H') ∧ ∀ x H', J.yld i H x H' → g x (wipe σ vs) H' fun s2 H2 => wipe s2 vs = wipe σ vs ∧ tt s2 H2 fun b H3 =>
    if b = true then te s2 H3 fun y H4 => ∃ acc, H4 D = some (.lst acc) ∧ acc.length < sizeLine ∧ Nx (upd H4 D (.lst (acc ++ [y]))) else Nx H3)
/-- a turn of a comprehension: the target is bound, then the test, the element, the list at D grows -/
def LcE (te : TE) (D : Addr) (N : Hp → Prop) (b : Bool) (s2 : St) (H3 : Hp) : Prop := if b = true then te s2 H3 (fun y H4 => ∃ acc, H4 D = some (.lst acc) ∧ acc.length < sizeLine ∧ N (upd H4 D (.lst (acc ++ [y])))) else N H3
def LcT (tt : TT) (te : TE) (vs : List Nat) (w0 : St) (D : Addr) (N : Hp → Prop) : St → Hp → Prop := fun s2 H2 => wipe s2 vs = w0 ∧ tt s2 H2 (fun b H3 => LcE te D N b s2 H3)
theorem lcL {K : PySem.W.Frag} {a : Addr} {g : TG} {tt : TT} {te : TE} {vs : List Nat} {σ : St} {H1 : Hp} {Q : VK} (xs : List V)
    (h : ∀ D, H1 D = none → ∃ Pv : Nat → Hp → Prop, Pv 0 (upd H1 D (.lst [])) ∧ (∀ i H, Pv i H → SqL K H a xs) ∧
      (∀ i x H, i < xs.length → xs[i]? = some x → Pv i H → g x (wipe σ vs) H (LcT tt te vs (wipe σ vs) D (Pv (i + 1)))) ∧ ∀ H, Pv xs.length H → Q (.ref D) H) : LcK (Itl K a) g tt te vs σ H1 Q := fun D hD => by
  obtain ⟨Pv, h0, hl, hs, hd⟩ := h D hD
  exact lc_it (walk_list (xs := xs)) Pv h0 (fun i H _ p => hl i H p) (fun i x H H' hi p y => by obtain ⟨rfl, y⟩ := y; exact hs i x _ hi y p) hd
theorem lcR {lo : Int} {n : Nat} {g : TG} {tt : TT} {te : TE} {vs : List Nat} {σ : St} {H1 : Hp} {Q : VK}
    (h : ∀ D, H1 D = none → ∃ Pv : Nat → Hp → Prop, Pv 0 (upd H1 D (.lst [])) ∧
      (∀ (i : Nat) H, i < n → Pv i H → g (.int (lo + (i : Nat))) (wipe σ vs) H (LcT tt te vs (wipe σ vs) D (Pv (i + 1)))) ∧ ∀ H, Pv n H → Q (.ref D) H) : LcK (Itr lo n) g tt te vs σ H1 Q := fun D hD => by
  obtain ⟨Pv, h0, hs, hd⟩ := h D hD
  exact lc_it walk_range Pv h0 (fun _ _ _ _ => trivial) (fun i x H H' hi p y => by obtain ⟨rfl, rfl⟩ := y; exact hs i _ hi p) hd
theorem lcS {z : Str} {g : TG} {tt : TT} {te : TE} {vs : List Nat} {σ : St} {H1 : Hp} {Q : VK}
    (h : ∀ D, H1 D = none → ∃ Pv : Nat → Hp → Prop, Pv 0 (upd H1 D (.lst [])) ∧
      (∀ (i : Nat) c H, z.cps.toList[i]? = some c → Pv i H → g (.str ⟨#[c]⟩) (wipe σ vs) H (LcT tt te vs (wipe σ vs) D (Pv (i + 1)))) ∧ ∀ H, Pv z.length H → Q (.ref D) H) : LcK (Its z) g tt te vs σ H1 Q := fun D hD => by
  obtain ⟨Pv, h0, hs, hd⟩ := h D hD
  exact lc_it walk_str Pv h0 (fun _ _ _ _ => trivial) (fun i x H H' hi p y => by obtain ⟨rfl, c, hc, rfl⟩ := y; exact hs i c _ (by rw [Array.getElem?_toList]; exact hc) p) hd
def LcP (D : Addr) (N : Hp → Prop) (y : V) (H4 : Hp) : Prop := ∃ acc, H4 D = some (.lst acc) ∧ acc.length < sizeLine ∧ N (upd H4 D (.lst (acc ++ [y])))
def ParK (i j : Nat) (vs : List V) (D : Ends) (σ : St) (H : Hp) : Prop := ∃ v w, vs = [v, w] ∧ D.nx ((σ.set i (some v)).set j (some w)) H
def Rng1K (vs : List V) (Q : Int → Prop) : Prop := ∃ j : Int, vs = [.int j] ∧ Q j
def Rng2K (vs : List V) (Q : Int → Int → Prop) : Prop := ∃ i j : Int, vs = [.int i, .int j] ∧ Q i j
def Setn (σ : St) (i : Nat) : St := σ.set i none
def rSlq : V → Option Int → Option Int → Hp → VK → Prop := fun x lo hi H Q => ∃ a xs, x = .ref a ∧ lstOf (H a) = some xs ∧ ∀ p, H p = none → Q (.ref p) (upd H p (.lst (cutV xs lo hi)))
theorem qsl_list {X : Cx} : L2.SlR X rSlq := fun pins s σ H x v vl vu lo hi sl Q I r h1 h2 h3 hq => by
  obtain ⟨a, xs, e1, e2, q⟩ := hq
  exact sl_list pins s σ H x v vl vu lo hi sl Q I r h1 h2 h3 ⟨a, xs, e1, SqL.of (of_lstOf e2), q⟩
/-- a statement whose ways come together: what holds behind it is said once -/
def tCut (t u : TS) : TS := fun D σ H => ∃ J : St → Hp → Prop, t { D with nx := J } σ H ∧ ∀ s2 H2, J s2 H2 → u D s2 H2
theorem pss_cutJ {X : Cx} {st : Stmt} {rest : List Stmt} {t u : TS} (h1 : PS X st t) (h2 : PSs X rest u) : PSs X (st :: rest) (tCut t u) := by
  refine ⟨fun pins s σ H D I h => ?_⟩
  obtain ⟨J, hJ, hu⟩ := h
  refine wpAny_execs_cons (thn (h1.run pins s σ H { D with nx := J } I hJ) fun f s1 q => ?_)
  cases f with
  | next =>
    obtain ⟨s2, H2, I2, q⟩ := q
    exact h2.run pins s1 s2 H2 D I2 (hu s2 H2 q)
  | ret v => exact q
  | brk => exact q
  | cont => exact q
/-! ### a def that keeps its promise, by name -/
structure Fn (P : Program) (w : World) (K : PySem.W.Frag) (mg : Str → Option Value) (base : Heap) (CX : CXT) (k : Nat) (x : Str) (ps : List Str) (sp : Sp) : Prop where
  ex : ∃ (f : Addr) (fd : FuncData), FnOk P w K mg base CX k f fd ps sp ∧ mg x = some (.ref f) ∧ PySem.W.keepIn K (.ref f) = true ∧ Binds K fd ps []
section
variable {X : Cx} {CX : CXT} {k : Nat} {x : Str} {ps : List Str} {sp : Sp} {E : XK} {p pos : Pos} {e : Expr} {es : List Expr} {t : TA}
theorem pcall (F : Fn X.prog X.w X.K X.mg X.base CX k x ps sp) (hr : Room k X.A) (hg : Gl X x) (hx : Passes CX X E) (ha : PA X (e :: es) t)
    (hdb : (x == ("__debug__" : Str)) = false := by decide) (he : starEach (e :: es) X.env = (false, eval e X.env) :: starEach es X.env := by rfl) (hpl : (backTo pos (starEach es X.env)).any (·.1) = false := by rfl) :
    PE X (.Call (.Name x p) (e :: es) [] pos) (tCall sp [] E t) := by
  obtain ⟨f, fd, F, hm, hk, hb⟩ := F.ex
  exact pe_call F hr hg hm hk hb .nil hx ha hdb he hpl
theorem pcall0 (F : Fn X.prog X.w X.K X.mg X.base CX k x ps sp) (hr : Room k X.A) (hg : Gl X x) (hx : Passes CX X E) (hdb : (x == ("__debug__" : Str)) = false := by decide) : PE X (.Call (.Name x p) [] [] pos) (tCall sp [] E tNil) := by
  obtain ⟨f, fd, F, hm, hk, hb⟩ := F.ex
  exact pe_call0 F hr hg hm hk hb .nil hx hdb
end
/-- a number, a text of the module's own -/
def CInt (mg : Str → Option Value) (x : Str) (i : Int) : Prop := ∃ t, mg x = some (.int i t)
def CStr (mg : Str → Option Value) (x z : Str) : Prop := ∃ t, mg x = some (.str z t)
theorem pcint {X : Cx} {x : Str} {i : Int} {pos : Pos} (h : CInt X.mg x i) (hg : Gl X x) (hd : (x == ("__debug__" : Str)) = false := by decide) : PE X (.Name x pos) (tC (.int i)) := by
  obtain ⟨t, e⟩ := h
  exact pe_glob hg e ⟨t, rfl⟩ hd
theorem pcstr {X : Cx} {x z : Str} {pos : Pos} (h : CStr X.mg x z) (hg : Gl X x) (hd : (x == ("__debug__" : Str)) = false := by decide) : PE X (.Name x pos) (tC (.str z)) := by
  obtain ⟨t, e⟩ := h
  exact pe_glob hg e ⟨t, rfl⟩ hd
end Com
/-! ### texts -/
namespace Com
open PySem L2
section
variable {X : Cx}
def rInSg : R2 := fun x y H Q => ∃ (c : Nat) (z : Str), x = .str ⟨#[c]⟩ ∧ y = .str z ∧ Q (.bl (decide (c ∈ z.cps.toList))) H
theorem qin_sign : OpR X (compareOp .In) rInSg := op_in_sign
def rNiSg : R2 := fun x y H Q => ∃ (c : Nat) (z : Str), x = .str ⟨#[c]⟩ ∧ y = .str z ∧ Q (.bl (!decide (c ∈ z.cps.toList))) H
theorem qnotin_sign : OpR X (compareOp .NotIn) rNiSg := op_notIn_sign
def rAddS : R2 := fun x y H Q => ∃ i j, x = .str i ∧ y = .str j ∧ i.length + j.length ≤ sizeLine ∧ Q (.str (i ++ j)) H
theorem qadd_str : OpR X (binaryOp .Add) rAddS := op_add_str
def rStC (p : List Nat → List Nat → Bool) : R2 := fun x y H Q => ∃ i j, x = .str i ∧ y = .str j ∧ Q (.bl (p i.cps.toList j.cps.toList)) H
theorem qle_str : OpR X (compareOp .LtE) (rStC fun a b => !decide (b < a)) := op_le_str
theorem qlt_str : OpR X (compareOp .Lt) (rStC fun a b => decide (a < b)) := op_lt_str
def rLenS : List V → Hp → VK → Prop := fun xs H Q => ∃ z, xs = [.str z] ∧ z.length ≤ sizeLine ∧ Q (.int z.length) H
theorem qlen_str : CallR X (.builtin "len") rLenS := call_len_str
def rMulS : R2 := fun x y H Q => ∃ z n, x = .str z ∧ y = .int n ∧ z.length ≤ 4000 ∧ -1000 ≤ n ∧ n ≤ 4000 ∧ ∀ r : Str, r.cps.toList = (List.replicate n.toNat z.cps.toList).flatten → Q (.str r) H
theorem foldl_app (a : Array Nat) : ∀ (n : Nat) (acc : Array Nat), ((List.replicate n a).foldl (· ++ ·) acc).toList = acc.toList ++ (List.replicate n a.toList).flatten
  | 0, acc => by simp
  | n + 1, acc => by
    rw [List.replicate_succ, List.foldl_cons, foldl_app a n, Array.toList_append, List.replicate_succ, List.flatten_cons, List.append_assoc]
theorem qmul_str : OpR X (binaryOp .Mult) rMulS := by
  intro pins s σ H x y v u Q I rx ry h
  obtain ⟨z, n, rfl, rfl, hz, n0, n1, q⟩ := h
  obtain ⟨t, rfl⟩ := rx
  obtain ⟨t', rfl⟩ := ry
  have key : n.toNat * z.length ≤ 16000000 := Nat.le_trans (Nat.mul_le_mul (show n.toNat ≤ 4000 by omega) hz) (by decide)
  refine PySem.P.mul_str ?_ (fun h1 h2 h3 => ?_) (fun h1 h2 => ?_) ?_
  · rw [decide_eq_false (by omega), decide_eq_false (by omega)]
    rfl
  · have e : (4000 : Int) ≤ (2 ^ 63 - 1) / n := by
      rw [Int.le_ediv_iff_mul_le (by omega)]
      omega
    omega
  · unfold PySem.Builtin.Str.tooLong
    rw [decide_eq_false]
    rw [sizeLine_eq]
    have := key
    rw [Nat.mul_comm] at this
    omega
  · by_cases c1 : n < 1
    · rw [if_pos c1]
      refine ⟨by decide, .str Str.empty, H, I.tok _, ⟨_, rfl⟩, q _ ?_⟩
      rw [show n.toNat = 0 by omega]
      rfl
    · rw [if_neg c1]
      by_cases c2 : (n == 1 || z.length == 0) = true
      · rw [if_pos c2]
        refine ⟨.str z, H, I, ⟨_, rfl⟩, q _ ?_⟩
        rcases Bool.or_eq_true_iff.mp c2 with c | c
        · rw [show n = 1 from eq_of_beq c]
          simp
        · have e0 : z.cps.toList = [] := by
            have : z.cps.size = 0 := eq_of_beq c
            rw [← List.length_eq_zero_iff, Array.length_toList]
            exact this
          rw [e0]
          simp
      · rw [if_neg c2]
        have el : (⟨(List.replicate n.toNat z.cps).foldl (· ++ ·) #[]⟩ : Str).cps.toList = (List.replicate n.toNat z.cps.toList).flatten := by
          rw [foldl_app]
          simp
        refine ⟨?_, .str _, H, I.tok _, ⟨_, rfl⟩, q _ el⟩
        show (((List.replicate n.toNat z.cps).foldl (· ++ ·) #[]).size) ≤ sizeLine
        rw [← Array.length_toList, show ((List.replicate n.toNat z.cps).foldl (· ++ ·) #[]).toList = (List.replicate n.toNat z.cps.toList).flatten from el, List.length_flatten, sizeLine_eq]
        simp only [List.map_replicate, List.sum_replicate_nat, Array.length_toList]
        exact Nat.le_trans key (by decide)
def rJoinS : V → List V → Hp → VK → Prop := fun x xs H Q => ∃ (a : Str) (p : Addr) (ys : List Str), x = .str a ∧ xs = [.ref p] ∧ H p = some (.lst (ys.map V.str)) ∧ (ys.map (·.length)).sum + ys.length * a.length ≤ 16777216 ∧ Q (.str (Str.join a ys)) H
theorem qmt_join : MtR X "str.join" rJoinS := fun pins s σ H x xs v us Q I rx rs hq => by
  obtain ⟨a, p, ys, e1, e2, e3, e4, q⟩ := hq
  exact mt_join pins s σ H x xs v us Q I rx rs ⟨a, p, ys, e1, e2, .inl (SqL.of e3), e4, by rw [TL.join_eq]; exact q⟩
end
end Com
/-! ### lists, tuples, kinds -/
namespace Com
open PySem L2
section
variable {X : Cx}
/-- the built-in kind of a value -/
def kindO : Option HO → Option String
  | some (.lst _) => some "list"
  | some (.tup _) => some "tuple"
  | _ => none
def kindV (H : Hp) : V → Option String
  | .int _ => some "int"
  | .bl _ => some "bool"
  | .str _ => some "str"
  | .non => some "NoneType"
  | .ref p => kindO (H p)
  | _ => none
theorem kindV_ok {K : PySem.W.Frag} {H : Hp} {x : V} {T : String} (h : kindV H x = some T) : TyX K H x (.type T) := by
  cases x with
  | int i => cases h; exact .base (.int i)
  | bl i => cases h; exact .base (.bl i)
  | str i => cases h; exact .base (.str i)
  | non => cases h; exact .base .non
  | ref p =>
    have h' : kindO (H p) = some T := h
    cases e : H p with
    | none => rw [e] at h'; cases h'
    | some o =>
      rw [e] at h'
      cases o with
      | lst xs => cases h'; exact .base (.lst e)
      | tup xs => cases h'; exact .base (.tup e)
      | _ => cases h'
  | _ => cases h
def rIsq : List V → Hp → VK → Prop := fun xs H Q => ∃ x c T b, xs = [x, .ty c] ∧ kindV H x = some T ∧ kitB T c = some b ∧ Q (.bl b) H
theorem qisi : CallR X (.builtin "isinstance") rIsq := call_mono call_isi fun xs H Q ⟨x, c, T, b, e, k, kb, q⟩ => ⟨x, .ty c, .type T, .type c, b, e, .ty c, kindV_ok k, kit_ty kb, q⟩
def rMx : List V → Hp → VK → Prop := fun xs H Q => ∃ i j, xs = [.int i, .int j] ∧ Q (.int (max i j)) H
def rMn : List V → Hp → VK → Prop := fun xs H Q => ∃ i j, xs = [.int i, .int j] ∧ Q (.int (min i j)) H
theorem qmax2 (hc : X.calm = true) : CallR X (.builtin "max") rMx := call_mono (call_max2 hc) fun xs H Q ⟨i, j, e, q⟩ => ⟨i, j, e, by
  have z : (if j > i then j else i) = max i j := by rw [Int.max_def]; split <;> split <;> omega
  rw [z]; exact q⟩
theorem qmin2 (hc : X.calm = true) : CallR X (.builtin "min") rMn := call_mono (call_min2 hc) fun xs H Q ⟨i, j, e, q⟩ => ⟨i, j, e, by
  have z : (if j < i then j else i) = min i j := by rw [Int.min_def]; split <;> split <;> omega
  rw [z]; exact q⟩
def rIsNq : R2 := fun x y H Q => y = .non ∧ Q (.bl (decide (x = .non))) H
def rNoNq : R2 := fun x y H Q => y = .non ∧ Q (.bl (!decide (x = .non))) H
theorem qisN : OpR X (compareOp .Is) rIsNq := op_isN
theorem qnotN : OpR X (compareOp .IsNot) rNoNq := op_notN
def rStrI : List V → Hp → VK → Prop := fun xs H Q => ∃ i, xs = [.int i] ∧ i.natAbs.log2 < 1920 ∧ Q (.str (toString i)) H
theorem qstr_int : CallR X (.type "str") rStrI := call_str_int
def rInL (neg : Bool) : R2 := fun x y H Q => ∃ p xs, y = .ref p ∧ seqOf (H p) = some xs ∧ flatV x = true ∧ xs.all flatV = true ∧ Q (.bl (if neg then !inV x xs else inV x xs)) H
theorem qin_seq : OpR X (compareOp .In) (rInL false) := op_mono op_in_seq fun x y H Q ⟨p, xs, e, a, q⟩ => ⟨p, xs, e, (of_seqOf a).elim (fun z => .inl (SqL.of z)) (fun z => .inr (SqT.of z)), q⟩
theorem qnotin_seq : OpR X (compareOp .NotIn) (rInL true) := op_mono op_notIn_seq fun x y H Q ⟨p, xs, e, a, q⟩ => ⟨p, xs, e, (of_seqOf a).elim (fun z => .inl (SqL.of z)) (fun z => .inr (SqT.of z)), q⟩
def rCatq : R2 := fun x y H Q => ∃ l b xs zs, x = .ref l ∧ y = .ref b ∧ lstOf (H l) = some xs ∧ lstOf (H b) = some zs ∧ xs.length + zs.length ≤ sizeLine ∧ ∀ p, H p = none → Q (.ref p) (upd H p (.lst (xs ++ zs)))
theorem qcat : OpR X (binaryOp .Add) rCatq := op_mono op_cat fun x y H Q ⟨l, b, xs, zs, e1, e2, a, c, q⟩ => ⟨l, b, xs, zs, e1, e2, of_lstOf a, of_lstOf c, q⟩
def rSumq : List V → Hp → VK → Prop := fun vs H Q => ∃ a ns, vs = [.ref a] ∧ lstOf (H a) = some (ns.map V.int) ∧ Q (.int (List.sum ns)) H
theorem qsum (hc : X.calm = true) : CallR X (.builtin "sum") rSumq := call_mono (cr_sum hc) fun vs H Q ⟨a, ns, e, h, q⟩ => ⟨a, ns, e, SqL.of (of_lstOf h), q⟩
def rSrtq : List V → Hp → VK → Prop := fun vs H Q => ∃ a ns, vs = [.ref a] ∧ lstOf (H a) = some (ns.map V.int) ∧
  ∀ (ns' : List Int) (p : Addr), ns'.Perm ns → ns'.Pairwise (· ≤ ·) → H p = none → Q (.ref p) (upd H p (.lst (ns'.map V.int)))
theorem qsortedI : CallR X (.builtin "sorted") rSrtq := call_mono cr_sortedI fun vs H Q ⟨a, ns, e, h, q⟩ => ⟨a, ns, e, SqL.of (of_lstOf h), q⟩
end
end Com
namespace Com
open PySem L2
theorem w0 : ∀ (t u : TS) (D : Ends) (σ : St) (H : Hp), tSeq t u D σ H = t ⟨u D, D.rt, D.bk, D.ct⟩ σ H := fun _ _ _ _ _ => rfl
theorem w1 : ∀ (D : Ends) (σ : St) (H : Hp), tNext D σ H = D.nx σ H := fun _ _ _ => rfl
theorem w2 : ∀ (D : Ends) (σ : St) (H : Hp), tBreak D σ H = D.bk σ H := fun _ _ _ => rfl
theorem w3 : ∀ (D : Ends) (σ : St) (H : Hp), tCont D σ H = D.ct σ H := fun _ _ _ => rfl
theorem w4 : ∀ (v : V) (σ : St) (H : Hp) (Q : VK), tC v σ H Q = Q v H := fun _ _ _ _ => rfl
theorem w5 : ∀ (r : R2) (a b : TE) (σ : St) (H : Hp) (Q : VK), tOp r a b σ H Q = a σ H (fun x H1 => b σ H1 (fun y H2 => r x y H2 Q)) := fun _ _ _ _ _ _ => rfl
theorem w6 : ∀ (r : V → Hp → VK → Prop) (a : TE) (σ : St) (H : Hp) (Q : VK), tUn r a σ H Q = a σ H (fun x H1 => r x H1 Q) := fun _ _ _ _ _ => rfl
theorem w7 : ∀ (C : Int → Int → Prop) (g : Int → Int → V) (i j : Int) (H : Hp) (Q : VK), rI C g (.int i) (.int j) H Q = (C i j ∧ Q (g i j) H) := fun C g i j H Q => propext ⟨fun ⟨_, _, a, b, c, q⟩ => by cases a; cases b; exact ⟨c, q⟩, fun ⟨c, q⟩ => ⟨i, j, rfl, rfl, c, q⟩⟩
theorem w8 : ∀ (g : Int → Int → V) (i j : Int) (H : Hp) (Q : VK), rI0 g (.int i) (.int j) H Q = Q (g i j) H := fun g i j H Q => propext ⟨fun ⟨_, _, a, b, q⟩ => by cases a; cases b; exact q, fun q => ⟨i, j, rfl, rfl, q⟩⟩
theorem w9 : ∀ (g : Int → V) (i : Int) (H : Hp) (Q : VK), rU g (.int i) H Q = Q (g i) H := fun g i H Q => propext ⟨fun ⟨_, a, q⟩ => by cases a; exact q, fun q => ⟨i, rfl, q⟩⟩
theorem w10 : ∀ (i j : Int) (H : Hp) (Q : VK), rEq (.int i) (.int j) H Q = Q (.bl (decide (i = j))) H := fun i j H Q => propext ⟨fun ⟨_, q⟩ => (dec_int i j) ▸ q, fun q => ⟨rfl, (dec_int i j).symm ▸ q⟩⟩
theorem w11 : ∀ (i j : Str) (H : Hp) (Q : VK), rEq (.str i) (.str j) H Q = Q (.bl (decide (i = j))) H := fun i j H Q => propext ⟨fun ⟨_, q⟩ => (dec_str i j) ▸ q, fun q => ⟨rfl, (dec_str i j).symm ▸ q⟩⟩
theorem w12 : ∀ (i j : Bool) (H : Hp) (Q : VK), rEq (.bl i) (.bl j) H Q = Q (.bl (decide (i = j))) H := fun i j H Q => propext ⟨fun ⟨_, q⟩ => (dec_bl i j) ▸ q, fun q => ⟨rfl, (dec_bl i j).symm ▸ q⟩⟩
theorem w13 : ∀ (i j : Int) (H : Hp) (Q : VK), rNe (.int i) (.int j) H Q = Q (.bl (!decide (i = j))) H := fun i j H Q => propext ⟨fun ⟨_, q⟩ => (dec_int i j) ▸ q, fun q => ⟨rfl, (dec_int i j).symm ▸ q⟩⟩
theorem w14 : ∀ (i j : Str) (H : Hp) (Q : VK), rNe (.str i) (.str j) H Q = Q (.bl (!decide (i = j))) H := fun i j H Q => propext ⟨fun ⟨_, q⟩ => (dec_str i j) ▸ q, fun q => ⟨rfl, (dec_str i j).symm ▸ q⟩⟩
theorem w15 : ∀ (i j : Bool) (H : Hp) (Q : VK), rNe (.bl i) (.bl j) H Q = Q (.bl (!decide (i = j))) H := fun i j H Q => propext ⟨fun ⟨_, q⟩ => (dec_bl i j) ▸ q, fun q => ⟨rfl, (dec_bl i j).symm ▸ q⟩⟩
theorem w16 : ∀ (t : TE) (σ : St) (H : Hp) (Q : Bool → Hp → Prop), tTest t σ H Q = t σ H (fun x H1 => BlK x (fun k => Q k H1)) := fun _ _ _ _ => rfl
theorem w17 : ∀ (t : TE) (σ : St) (H : Hp) (Q : Bool → Hp → Prop), tB t σ H Q = t σ H (fun x H1 => BlK x (fun k => Q k H1)) := fun _ _ _ _ => rfl
theorem w18 : ∀ (k : Bool) (Q : Bool → Prop), BlK (.bl k) Q = Q k := fun k Q => propext ⟨fun ⟨_, a, q⟩ => by cases a; exact q, fun q => ⟨k, rfl, q⟩⟩
theorem w19 : ∀ (t u : TT) (σ : St) (H : Hp) (Q : Bool → Hp → Prop), tAnd t u σ H Q = t σ H (fun c H1 => Andk c u σ H1 Q) := fun _ _ _ _ _ => rfl
theorem w20 : ∀ (t u : TT) (σ : St) (H : Hp) (Q : Bool → Hp → Prop), tOr t u σ H Q = t σ H (fun c H1 => Ork c u σ H1 Q) := fun _ _ _ _ _ => rfl
theorem w21 : ∀ (t : TT) (σ : St) (H : Hp) (Q : Bool → Hp → Prop), tNot t σ H Q = t σ H (fun c H1 => Q (!c) H1) := fun _ _ _ _ => rfl
theorem w22 : ∀ (t u : TE) (σ : St) (H : Hp) (Q : VK), tAndV t u σ H Q = t σ H (fun x H1 => BlK x (fun c => AndVk c u σ H1 Q)) := fun _ _ _ _ _ => rfl
theorem w23 : ∀ (t u : TE) (σ : St) (H : Hp) (Q : VK), tOrV t u σ H Q = t σ H (fun x H1 => BlK x (fun c => OrVk c u σ H1 Q)) := fun _ _ _ _ _ => rfl
theorem w24 : ∀ (t : TE) (σ : St) (H : Hp) (Q : VK), tNotV t σ H Q = t σ H (fun x H1 => BlK x (fun c => Q (.bl (!c)) H1)) := fun _ _ _ _ => rfl
theorem w25 : ∀ (t : TT) (a b : TE) (σ : St) (H : Hp) (Q : VK), tIf t a b σ H Q = t σ H (fun c H1 => IfEk c a b σ H1 Q) := fun _ _ _ _ _ _ => rfl
theorem w26 : ∀ (r r' : R2) (a b c : TE) (σ : St) (H : Hp) (Q : VK), tChain r r' a b c σ H Q = a σ H (fun x H1 => b σ H1 (fun y H2 => r x y H2 (fun z H3 => BlK z (fun k => Chk k c (r' y) σ H3 Q)))) := fun _ _ _ _ _ _ _ _ => rfl
theorem w27 : ∀ (c : TT) (t u : TS) (D : Ends) (σ : St) (H : Hp), tIfS c t u D σ H = c σ H (fun b H1 => Ifk b (t D) (u D) σ H1) := fun _ _ _ _ _ _ => rfl
theorem w28 : ∀ (t : TE) (g : TG) (D : Ends) (σ : St) (H : Hp), tAsg t g D σ H = t σ H (fun x H1 => g x σ H1 D.nx) := fun _ _ _ _ _ => rfl
theorem w29 : ∀ (t : TE) (D : Ends) (σ : St) (H : Hp), tRet t D σ H = t σ H D.rt := fun _ _ _ _ => rfl
theorem w30 : ∀ (D : Ends) (σ : St) (H : Hp), tRetN D σ H = D.rt .non H := fun _ _ _ => rfl
theorem w31 : ∀ (t : TE) (D : Ends) (σ : St) (H : Hp), tDrop t D σ H = t σ H (fun _ H1 => D.nx σ H1) := fun _ _ _ _ => rfl
theorem w32 : ∀ (σ : St) (H : Hp) (Q : List V → Hp → Prop), tNil σ H Q = Q [] H := fun _ _ _ => rfl
theorem w33 : ∀ (a : TE) (r : TA) (σ : St) (H : Hp) (Q : List V → Hp → Prop), tCons a r σ H Q = a σ H (fun x H1 => r σ H1 (fun xs H2 => Q (x :: xs) H2)) := fun _ _ _ _ _ => rfl
theorem w34 : ∀ (t : TA) (σ : St) (H : Hp) (Q : VK), tTup t σ H Q = t σ H (fun xs H1 => xs.length ≤ sizeLine ∧ New H1 (.tup xs) (fun p H2 => Q (.ref p) H2)) := fun _ _ _ _ => rfl
theorem w35 : ∀ (t : TA) (σ : St) (H : Hp) (Q : VK), tLst t σ H Q = t σ H (fun xs H1 => xs.length ≤ sizeLine ∧ New H1 (.lst xs) (fun p H2 => Q (.ref p) H2)) := fun _ _ _ _ => rfl
theorem w36 : ∀ (r : List V → Hp → VK → Prop) (t : TA) (σ : St) (H : Hp) (Q : VK), tCB r t σ H Q = t σ H (fun vs H1 => r vs H1 Q) := fun _ _ _ _ _ => rfl
theorem w37 : ∀ (sp : Sp) (E : XK) (t : TA) (σ : St) (H : Hp) (Q : VK), tCall sp [] E t σ H Q = t σ H (fun vs H1 => sp vs H1 Q E) := fun sp E t σ H Q => by unfold tCall; simp only [List.append_nil]
theorem w38 : ∀ (p : Addr) (i : Int) (H : Hp) (Q : VK), rIxl (.ref p) (.int i) H Q = (∃ xs, lstOf (H p) = some xs ∧ ∃ v, atI xs i = some v ∧ Q v H) := fun p i H Q => propext ⟨fun ⟨_, _, xs, v, a, b, c, d, q⟩ => by cases a; cases b; exact ⟨xs, c, v, d, q⟩, fun ⟨xs, c, v, d, q⟩ => ⟨p, i, xs, v, rfl, rfl, c, d, q⟩⟩
theorem w39 : ∀ (p : Addr) (i : Int) (H : Hp) (Q : VK), rIxt (.ref p) (.int i) H Q = (∃ xs, tupOf (H p) = some xs ∧ ∃ v, atI xs i = some v ∧ Q v H) := fun p i H Q => propext ⟨fun ⟨_, _, xs, v, a, b, c, d, q⟩ => by cases a; cases b; exact ⟨xs, c, v, d, q⟩, fun ⟨xs, c, v, d, q⟩ => ⟨p, i, xs, v, rfl, rfl, c, d, q⟩⟩
theorem w40 : ∀ (z : Str) (i : Int) (H : Hp) (Q : VK), rIxS (.str z) (.int i) H Q = (z.length ≤ sizeLine ∧ ∃ c, atI z.cps.toList i = some c ∧ Q (.str ⟨#[c]⟩) H) := fun z i H Q => propext ⟨fun ⟨_, _, c, a, b, d, e, q⟩ => by cases a; cases b; exact ⟨d, c, e, q⟩, fun ⟨d, c, e, q⟩ => ⟨z, i, c, rfl, rfl, d, e, q⟩⟩
theorem w41 : ∀ (p : Addr) (H : Hp) (Q : VK), rLenq [.ref p] H Q = (∃ xs, seqOf (H p) = some xs ∧ Q (.int xs.length) H) := fun p H Q => propext ⟨fun ⟨_, xs, a, b, q⟩ => by cases a; exact ⟨xs, b, q⟩, fun ⟨xs, b, q⟩ => ⟨p, xs, rfl, b, q⟩⟩
theorem w42 : ∀ (p : Addr) (H : Hp) (Q : VK), rListq [.ref p] H Q = (∃ xs, seqOf (H p) = some xs ∧ New H (.lst xs) (fun l H2 => Q (.ref l) H2)) := fun p H Q => propext ⟨fun ⟨_, xs, a, b, q⟩ => by cases a; exact ⟨xs, b, q⟩, fun ⟨xs, b, q⟩ => ⟨p, xs, rfl, b, q⟩⟩
theorem w43 : ∀ (i : Int) (H : Hp) (Q : VK), rInt1 [.int i] H Q = Q (.int i) H := fun i H Q => propext ⟨fun ⟨_, a, q⟩ => by cases a; exact q, fun q => ⟨i, rfl, q⟩⟩
theorem w44 : ∀ (xs : List V), lstOf (some (.lst xs)) = some xs := fun _ => rfl
theorem w45 : ∀ (xs : List V), tupOf (some (.tup xs)) = some xs := fun _ => rfl
theorem w46 : ∀ (xs : List V), seqOf (some (.lst xs)) = some xs := fun _ => rfl
theorem w47 : ∀ (xs : List V), seqOf (some (.tup xs)) = some xs := fun _ => rfl
theorem w48 : ∀ (K : PySem.W.Frag) (p : Addr) (H : Hp), (lstOf (H p)).isSome = true → tyV K "list" (.ref p) H = True := fun K p H h => eq_true (by obtain ⟨xs, e⟩ := Option.isSome_iff_exists.mp h; exact .inl ⟨rfl, xs, SqL.of (of_lstOf e)⟩)
theorem w49 : ∀ (K : PySem.W.Frag) (T : String) (r : V → List V → Hp → VK → Prop) (o : TE) (σ : St) (H : Hp) (Q : VK), tBM0 K T r o σ H Q = o σ H (fun x H1 => tyV K T x H1 ∧ r x [] H1 Q) := fun _ _ _ _ _ _ _ => rfl
theorem w50 : ∀ (K : PySem.W.Frag) (T : String) (r : V → List V → Hp → VK → Prop) (o : TE) (t : TA) (σ : St) (H : Hp) (Q : VK), tBM K T r o t σ H Q = o σ H (fun x H1 => tyV K T x H1 ∧ t σ H1 (fun xs H2 => r x xs H2 Q)) := fun _ _ _ _ _ _ _ _ => rfl
theorem w51 : ∀ (l : Addr) (y : V) (H : Hp) (Q : VK), rAppend (.ref l) [y] H Q = (∃ xs, lstOf (H l) = some xs ∧ xs.length < sizeLine ∧ Q .non (upd H l (.lst (xs ++ [y])))) := fun l y H Q => propext ⟨fun ⟨_, xs, _, a, b, c, d, q⟩ => by cases a; cases b; exact ⟨xs, by rw [c]; rfl, d, q⟩, fun ⟨xs, c, d, q⟩ => ⟨l, xs, y, rfl, rfl, of_lstOf c, d, q⟩⟩
theorem w52 : ∀ (l : Addr) (i : Int) (H : Hp) (Q : VK), rPopAt (.ref l) [.int i] H Q = (∃ xs, lstOf (H l) = some xs ∧ -(2 ^ 63) ≤ i ∧ i < 2 ^ 63 ∧ ∃ k, seqIndex? i xs.length = some k ∧ ∃ y, xs[k]? = some y ∧ Q y (upd H l (.lst (xs.eraseIdx k)))) := fun l i H Q => propext ⟨fun ⟨_, xs, _, k, y, a, b, c, d, e, f, g, q⟩ => by cases a; cases b; exact ⟨xs, by rw [c]; rfl, d, e, k, f, y, g, q⟩, fun ⟨xs, c, d, e, k, f, y, g, q⟩ => ⟨l, xs, i, k, y, rfl, rfl, of_lstOf c, d, e, f, g, q⟩⟩
theorem w53 : ∀ (l : Addr) (H : Hp) (Q : VK), rClear (.ref l) [] H Q = (∃ xs, lstOf (H l) = some xs ∧ Q .non (upd H l (.lst []))) := fun l H Q => propext ⟨fun ⟨_, xs, a, _, c, q⟩ => by cases a; exact ⟨xs, by rw [c]; rfl, q⟩, fun ⟨xs, c, q⟩ => ⟨l, xs, rfl, rfl, of_lstOf c, q⟩⟩
theorem w54 : ∀ (p : Addr) (k : Int) (v : V) (H : Hp) (Q : Hp → Prop), rSetL (.ref p) (.int k) v H Q = (∃ xs, lstOf (H p) = some xs ∧ ∃ j, ixN xs.length k = some j ∧ Q (upd H p (.lst (xs.set j v)))) := fun p k v H Q => propext ⟨fun ⟨_, xs, _, j, a, b, c, d, q⟩ => by cases a; cases b; exact ⟨xs, by rw [c]; rfl, j, d, q⟩, fun ⟨xs, c, j, d, q⟩ => ⟨p, xs, k, j, rfl, rfl, of_lstOf c, d, q⟩⟩
theorem w55 : ∀ (o i : TE) (t : TSet) (v : V) (σ : St) (H : Hp) (Q : St → Hp → Prop), gSub o i t v σ H Q = o σ H (fun x H1 => i σ H1 (fun y H2 => t x y v H2 (fun H3 => Q σ H3))) := fun _ _ _ _ _ _ _ => rfl
theorem w56 : ∀ (f : Int → Int → Int) (i j : Int) (H : Hp) (Q : VK), ipI f (.int i) (.int j) H Q = Q (.int (f i j)) H := fun f i j H Q => propext ⟨fun ⟨_, _, a, b, q⟩ => by cases a; cases b; exact q, fun q => ⟨i, j, rfl, rfl, q⟩⟩
theorem w57 : ∀ (σ : St) (H : Hp) (Q : St → Hp → Prop), gNil [] σ H Q = Q σ H := fun σ H Q => propext ⟨fun ⟨_, q⟩ => q, fun q => ⟨rfl, q⟩⟩
theorem w58 : ∀ (t : TG) (u : TGs) (v : V) (r : List V) (σ : St) (H : Hp) (Q : St → Hp → Prop), gCons t u (v :: r) σ H Q = t v σ H (fun s1 H1 => u r s1 H1 Q) := fun t u v r σ H Q => propext ⟨fun ⟨_, _, a, q⟩ => by cases a; exact q, fun q => ⟨v, r, rfl, q⟩⟩
theorem w59 : ∀ (n : Nat) (t : TGs) (a : Addr) (σ : St) (H : Hp) (Q : St → Hp → Prop), gTupq n t (.ref a) σ H Q = (∃ xs, tupOf (H a) = some xs ∧ xs.length = n ∧ t xs σ H Q) := fun n t a σ H Q => propext ⟨fun ⟨_, xs, e, q⟩ => by cases e; exact ⟨xs, q⟩, fun ⟨xs, q⟩ => ⟨a, xs, rfl, q⟩⟩
theorem w60 : ∀ (i j : Nat) (ta : TA) (D : Ends) (σ : St) (H : Hp), tPar i j ta D σ H = ta σ H (fun vs H1 => ParK i j vs D σ H1) := fun _ _ _ _ _ _ => rfl
theorem w61 : ∀ (i j : Nat) (v w : V) (D : Ends) (σ : St) (H : Hp), ParK i j [v, w] D σ H = gName i v σ H (fun s1 H1 => gName j w s1 H1 D.nx) := fun i j v w D σ H => propext ⟨fun ⟨_, _, a, q⟩ => by cases a; exact q, fun q => ⟨v, w, rfl, q⟩⟩
theorem w62 : ∀ (f : TE) (σ : St) (H : Hp) (Q : Option Int → Hp → Prop), tPart f σ H Q = f σ H (fun x H1 => IntK x (fun i => Q (some i) H1)) := fun _ _ _ _ => rfl
theorem w63 : ∀ (σ : St) (H : Hp) (Q : Option Int → Hp → Prop), tNoPart σ H Q = Q none H := fun _ _ _ => rfl
theorem w64 : ∀ (i : Int) (Q : Int → Prop), IntK (.int i) Q = Q i := fun k Q => propext ⟨fun ⟨_, a, q⟩ => by cases a; exact q, fun q => ⟨k, rfl, q⟩⟩
theorem w65 : ∀ (r : V → Option Int → Option Int → Hp → VK → Prop) (e : TE) (l h : TO) (σ : St) (H : Hp) (Q : VK), tSl r e l h σ H Q = e σ H (fun x H1 => l σ H1 (fun a H2 => h σ H2 (fun b H3 => r x a b H3 Q))) := fun _ _ _ _ _ _ _ => rfl
theorem w66 : ∀ (z : Str) (l h : Option Int) (H : Hp) (Q : VK), rSlS (.str z) l h H Q = (z.length ≤ sizeLine ∧ Q (.str (cutS z l h)) H) := fun z l h H Q => propext ⟨fun ⟨_, a, b, q⟩ => by cases a; exact ⟨b, q⟩, fun ⟨b, q⟩ => ⟨z, rfl, b, q⟩⟩
theorem w67 : ∀ (p : Addr) (l h : Option Int) (H : Hp) (Q : VK), rSlq (.ref p) l h H Q = (∃ xs, lstOf (H p) = some xs ∧ New H (.lst (cutV xs l h)) (fun q H2 => Q (.ref q) H2)) := fun p l h H Q => propext ⟨fun ⟨_, xs, a, b, q⟩ => by cases a; exact ⟨xs, b, q⟩, fun ⟨xs, b, q⟩ => ⟨p, xs, rfl, b, q⟩⟩
theorem w68 : ∀ (wi : TI) (g : TG) (tb : TS) (D : Ends) (σ : St) (H : Hp), tFor wi g tb D σ H = wi σ H (fun J H1 => LoopK J g tb D σ H1) := fun _ _ _ _ _ _ => rfl
theorem w69 : ∀ (wi : TI) (g : TG) (tt : TT) (te : TE) (vs : List Nat) (σ : St) (H : Hp) (Q : VK), tLc wi g tt te vs σ H Q = wi σ H (fun J H1 => LcK J g tt te vs σ H1 Q) := fun _ _ _ _ _ _ _ _ => rfl
theorem w70 : ∀ (K : PySem.W.Frag) (tl : TE) (σ : St) (H : Hp) (R : It → Hp → Prop), iList K tl σ H R = tl σ H (fun x H1 => ListK K x H1 R) := fun _ _ _ _ _ => rfl
theorem w71 : ∀ (K : PySem.W.Frag) (p : Addr) (H : Hp) (R : It → Hp → Prop), (lstOf (H p)).isSome = true → ListK K (.ref p) H R = R (Itl K p) H := fun K p H R h => propext ⟨fun ⟨_, a, _, q⟩ => by cases a; exact q, fun q => by obtain ⟨xs, e⟩ := Option.isSome_iff_exists.mp h; exact ⟨p, rfl, ⟨xs, SqL.of (of_lstOf e)⟩, q⟩⟩
theorem w72 : ∀ (te : TE) (σ : St) (H : Hp) (R : It → Hp → Prop), iStr te σ H R = te σ H (fun x H1 => StrK x (fun z => R (Its z) H1)) := fun _ _ _ _ => rfl
theorem w73 : ∀ (i : Str) (Q : Str → Prop), StrK (.str i) Q = Q i := fun k Q => propext ⟨fun ⟨_, a, q⟩ => by cases a; exact q, fun q => ⟨k, rfl, q⟩⟩
theorem w74 : ∀ (ta : TA) (σ : St) (H : Hp) (R : It → Hp → Prop), iRng1 ta σ H R = ta σ H (fun vs H1 => Rng1K vs (fun j => -(2 ^ 62) ≤ j ∧ j < 2 ^ 62 ∧ R (Itr 0 j.toNat) H1)) := fun _ _ _ _ => rfl
theorem w75 : ∀ (j : Int) (Q : Int → Prop), Rng1K [.int j] Q = Q j := fun k Q => propext ⟨fun ⟨_, a, q⟩ => by cases a; exact q, fun q => ⟨k, rfl, q⟩⟩
theorem w76 : ∀ (ta : TA) (σ : St) (H : Hp) (R : It → Hp → Prop), iRng2 ta σ H R = ta σ H (fun vs H1 => Rng2K vs (fun i j => (-(2 ^ 62) ≤ i ∧ i < 2 ^ 62 ∧ -(2 ^ 62) ≤ j ∧ j < 2 ^ 62) ∧ R (Itr i (j - i).toNat) H1)) := fun _ _ _ _ => rfl
theorem w77 : ∀ (i j : Int) (Q : Int → Int → Prop), Rng2K [.int i, .int j] Q = Q i j := fun i j Q => propext ⟨fun ⟨_, _, a, q⟩ => by cases a; exact q, fun q => ⟨i, j, rfl, q⟩⟩
theorem w78 : ∀ (tt : TT) (te : TE) (vs : List Nat) (w0 : St) (D : Addr) (N : Hp → Prop) (s2 : St) (H2 : Hp), LcT tt te vs w0 D N s2 H2 = (wipe s2 vs = w0 ∧ tt s2 H2 (fun b H3 => LcE te D N b s2 H3)) := fun _ _ _ _ _ _ _ _ => rfl
theorem w79 : ∀ (σ : St) (H : Hp) (Q : Bool → Hp → Prop), tYes σ H Q = Q true H := fun _ _ _ => rfl
theorem w80 : ∀ (te : TE) (D : Addr) (N : Hp → Prop) (s2 : St) (H3 : Hp), LcE te D N true s2 H3 = te s2 H3 (fun y H4 => LcP D N y H4) := fun _ _ _ _ _ => rfl
theorem w81 : ∀ (te : TE) (D : Addr) (N : Hp → Prop) (s2 : St) (H3 : Hp), LcE te D N false s2 H3 = N H3 := fun _ _ _ _ _ => rfl
theorem w82 : ∀ (D : Addr) (N : Hp → Prop) (y : V) (H4 : Hp), LcP D N y H4 = (∃ acc, lstOf (H4 D) = some acc ∧ acc.length < sizeLine ∧ N (upd H4 D (.lst (acc ++ [y])))) := fun D N y H4 => propext ⟨fun ⟨acc, e, q⟩ => ⟨acc, by rw [e]; rfl, q⟩, fun ⟨acc, e, q⟩ => ⟨acc, of_lstOf e, q⟩⟩
theorem w83 : ∀ (σ : St), wipe σ [] = σ := fun _ => rfl
theorem w84 : ∀ (r : V → List V → Hp → VK → Prop) (o e : TE) (σ : St) (H : Hp) (Q : VK), tM1 r o e σ H Q = o σ H (fun x H1 => (∃ a, x = .str a) ∧ e σ H1 (fun y H2 => r x [y] H2 Q)) := fun _ _ _ _ _ _ => rfl
theorem w85 : ∀ (r : V → List V → Hp → VK → Prop) (o : TE) (σ : St) (H : Hp) (Q : VK), tM0 r o σ H Q = o σ H (fun x H1 => (∃ a, x = .str a) ∧ r x [] H1 Q) := fun _ _ _ _ _ => rfl
theorem w86 : ∀ (P : Hp → VK → XK → Prop) (H : Hp) (Q : VK) (E : XK), Sp0 P [] H Q E = P  H Q E := fun P H Q E => propext ⟨fun ⟨_, q⟩ => q, fun q => ⟨rfl, q⟩⟩
theorem w87 : ∀ (P : V → Hp → VK → XK → Prop) (a : V) (H : Hp) (Q : VK) (E : XK), Sp1 P [a] H Q E = P a H Q E := fun P a H Q E => propext ⟨fun ⟨_, e, q⟩ => by cases e; exact q, fun q => ⟨_, rfl, q⟩⟩
theorem w88 : ∀ (P : V → V → Hp → VK → XK → Prop) (a b : V) (H : Hp) (Q : VK) (E : XK), Sp2 P [a, b] H Q E = P a b H Q E := fun P a b H Q E => propext ⟨fun ⟨_, _, e, q⟩ => by cases e; exact q, fun q => ⟨_, _, rfl, q⟩⟩
theorem w89 : ∀ (P : V → V → V → Hp → VK → XK → Prop) (a b c : V) (H : Hp) (Q : VK) (E : XK), Sp3 P [a, b, c] H Q E = P a b c H Q E := fun P a b c H Q E => propext ⟨fun ⟨_, _, _, e, q⟩ => by cases e; exact q, fun q => ⟨_, _, _, rfl, q⟩⟩
theorem w90 : ∀ (P : V → V → V → V → Hp → VK → XK → Prop) (a b c d : V) (H : Hp) (Q : VK) (E : XK), Sp4 P [a, b, c, d] H Q E = P a b c d H Q E := fun P a b c d H Q E => propext ⟨fun ⟨_, _, _, _, e, q⟩ => by cases e; exact q, fun q => ⟨_, _, _, _, rfl, q⟩⟩
theorem w91 : ∀ (P : V → V → V → V → V → Hp → VK → XK → Prop) (a b c d e : V) (H : Hp) (Q : VK) (E : XK), Sp5 P [a, b, c, d, e] H Q E = P a b c d e H Q E := fun P a b c d e H Q E => propext ⟨fun ⟨_, _, _, _, _, e, q⟩ => by cases e; exact q, fun q => ⟨_, _, _, _, _, rfl, q⟩⟩
theorem w92 : ∀ (v : V) (r : St) (H : Hp) (Q : VK), tVar 0 (some v :: r) H Q = Q v H := fun _ _ _ _ => propext ⟨fun ⟨_, a, q⟩ => by cases a; exact q, fun q => ⟨_, rfl, q⟩⟩
theorem w93 : ∀ (y : Option V) (v : V) (r : St) (H : Hp) (Q : St → Hp → Prop), gName 0 v (y :: r) H Q = Q (some v :: r) H := fun _ _ _ _ _ => rfl
theorem w94 : ∀ (v : V) (r : St) (te : TE) (ti : TIp) (D : Ends) (H : Hp), tAug 0 te ti D (some v :: r) H = te (some v :: r) H (fun y H1 => ti v y H1 (fun z H2 => D.nx (some z :: r) H2)) := fun _ _ _ _ _ _ => propext ⟨fun ⟨_, a, q⟩ => by cases a; exact q, fun q => ⟨_, rfl, q⟩⟩
theorem w95 : ∀ (y : Option V) (r : St) (vs : List Nat), wipe (y :: r) (0 :: vs) = Setn (wipe (y :: r) vs) 0 := fun _ _ _ => rfl
theorem w96 : ∀ (y : Option V) (r : St), Setn (y :: r) 0 = (none :: r) := fun _ _ => rfl
theorem w97 : ∀ (x0 : Option V) (v : V) (r : St) (H : Hp) (Q : VK), tVar 1 (x0 :: some v :: r) H Q = Q v H := fun _ _ _ _ _ => propext ⟨fun ⟨_, a, q⟩ => by cases a; exact q, fun q => ⟨_, rfl, q⟩⟩
theorem w98 : ∀ (x0 : Option V) (y : Option V) (v : V) (r : St) (H : Hp) (Q : St → Hp → Prop), gName 1 v (x0 :: y :: r) H Q = Q (x0 :: some v :: r) H := fun _ _ _ _ _ _ => rfl
theorem w99 : ∀ (x0 : Option V) (v : V) (r : St) (te : TE) (ti : TIp) (D : Ends) (H : Hp), tAug 1 te ti D (x0 :: some v :: r) H = te (x0 :: some v :: r) H (fun y H1 => ti v y H1 (fun z H2 => D.nx (x0 :: some z :: r) H2)) := fun _ _ _ _ _ _ _ => propext ⟨fun ⟨_, a, q⟩ => by cases a; exact q, fun q => ⟨_, rfl, q⟩⟩
theorem w100 : ∀ (x0 : Option V) (y : Option V) (r : St) (vs : List Nat), wipe (x0 :: y :: r) (1 :: vs) = Setn (wipe (x0 :: y :: r) vs) 1 := fun _ _ _ _ => rfl
theorem w101 : ∀ (x0 : Option V) (y : Option V) (r : St), Setn (x0 :: y :: r) 1 = (x0 :: none :: r) := fun _ _ _ => rfl
theorem w102 : ∀ (x0 x1 : Option V) (v : V) (r : St) (H : Hp) (Q : VK), tVar 2 (x0 :: x1 :: some v :: r) H Q = Q v H := fun _ _ _ _ _ _ => propext ⟨fun ⟨_, a, q⟩ => by cases a; exact q, fun q => ⟨_, rfl, q⟩⟩
theorem w103 : ∀ (x0 x1 : Option V) (y : Option V) (v : V) (r : St) (H : Hp) (Q : St → Hp → Prop), gName 2 v (x0 :: x1 :: y :: r) H Q = Q (x0 :: x1 :: some v :: r) H := fun _ _ _ _ _ _ _ => rfl
theorem w104 : ∀ (x0 x1 : Option V) (v : V) (r : St) (te : TE) (ti : TIp) (D : Ends) (H : Hp), tAug 2 te ti D (x0 :: x1 :: some v :: r) H = te (x0 :: x1 :: some v :: r) H (fun y H1 => ti v y H1 (fun z H2 => D.nx (x0 :: x1 :: some z :: r) H2)) := fun _ _ _ _ _ _ _ _ => propext ⟨fun ⟨_, a, q⟩ => by cases a; exact q, fun q => ⟨_, rfl, q⟩⟩
theorem w105 : ∀ (x0 x1 : Option V) (y : Option V) (r : St) (vs : List Nat), wipe (x0 :: x1 :: y :: r) (2 :: vs) = Setn (wipe (x0 :: x1 :: y :: r) vs) 2 := fun _ _ _ _ _ => rfl
theorem w106 : ∀ (x0 x1 : Option V) (y : Option V) (r : St), Setn (x0 :: x1 :: y :: r) 2 = (x0 :: x1 :: none :: r) := fun _ _ _ _ => rfl
theorem w107 : ∀ (x0 x1 x2 : Option V) (v : V) (r : St) (H : Hp) (Q : VK), tVar 3 (x0 :: x1 :: x2 :: some v :: r) H Q = Q v H := fun _ _ _ _ _ _ _ => propext ⟨fun ⟨_, a, q⟩ => by cases a; exact q, fun q => ⟨_, rfl, q⟩⟩
theorem w108 : ∀ (x0 x1 x2 : Option V) (y : Option V) (v : V) (r : St) (H : Hp) (Q : St → Hp → Prop), gName 3 v (x0 :: x1 :: x2 :: y :: r) H Q = Q (x0 :: x1 :: x2 :: some v :: r) H := fun _ _ _ _ _ _ _ _ => rfl
theorem w109 : ∀ (x0 x1 x2 : Option V) (v : V) (r : St) (te : TE) (ti : TIp) (D : Ends) (H : Hp), tAug 3 te ti D (x0 :: x1 :: x2 :: some v :: r) H = te (x0 :: x1 :: x2 :: some v :: r) H (fun y H1 => ti v y H1 (fun z H2 => D.nx (x0 :: x1 :: x2 :: some z :: r) H2)) := fun _ _ _ _ _ _ _ _ _ => propext ⟨fun ⟨_, a, q⟩ => by cases a; exact q, fun q => ⟨_, rfl, q⟩⟩
theorem w110 : ∀ (x0 x1 x2 : Option V) (y : Option V) (r : St) (vs : List Nat), wipe (x0 :: x1 :: x2 :: y :: r) (3 :: vs) = Setn (wipe (x0 :: x1 :: x2 :: y :: r) vs) 3 := fun _ _ _ _ _ _ => rfl
theorem w111 : ∀ (x0 x1 x2 : Option V) (y : Option V) (r : St), Setn (x0 :: x1 :: x2 :: y :: r) 3 = (x0 :: x1 :: x2 :: none :: r) := fun _ _ _ _ _ => rfl
theorem w112 : ∀ (x0 x1 x2 x3 : Option V) (v : V) (r : St) (H : Hp) (Q : VK), tVar 4 (x0 :: x1 :: x2 :: x3 :: some v :: r) H Q = Q v H := fun _ _ _ _ _ _ _ _ => propext ⟨fun ⟨_, a, q⟩ => by cases a; exact q, fun q => ⟨_, rfl, q⟩⟩
theorem w113 : ∀ (x0 x1 x2 x3 : Option V) (y : Option V) (v : V) (r : St) (H : Hp) (Q : St → Hp → Prop), gName 4 v (x0 :: x1 :: x2 :: x3 :: y :: r) H Q = Q (x0 :: x1 :: x2 :: x3 :: some v :: r) H := fun _ _ _ _ _ _ _ _ _ => rfl
theorem w114 : ∀ (x0 x1 x2 x3 : Option V) (v : V) (r : St) (te : TE) (ti : TIp) (D : Ends) (H : Hp), tAug 4 te ti D (x0 :: x1 :: x2 :: x3 :: some v :: r) H = te (x0 :: x1 :: x2 :: x3 :: some v :: r) H (fun y H1 => ti v y H1 (fun z H2 => D.nx (x0 :: x1 :: x2 :: x3 :: some z :: r) H2)) := fun _ _ _ _ _ _ _ _ _ _ => propext ⟨fun ⟨_, a, q⟩ => by cases a; exact q, fun q => ⟨_, rfl, q⟩⟩
theorem w115 : ∀ (x0 x1 x2 x3 : Option V) (y : Option V) (r : St) (vs : List Nat), wipe (x0 :: x1 :: x2 :: x3 :: y :: r) (4 :: vs) = Setn (wipe (x0 :: x1 :: x2 :: x3 :: y :: r) vs) 4 := fun _ _ _ _ _ _ _ => rfl
theorem w116 : ∀ (x0 x1 x2 x3 : Option V) (y : Option V) (r : St), Setn (x0 :: x1 :: x2 :: x3 :: y :: r) 4 = (x0 :: x1 :: x2 :: x3 :: none :: r) := fun _ _ _ _ _ _ => rfl
theorem w117 : ∀ (x0 x1 x2 x3 x4 : Option V) (v : V) (r : St) (H : Hp) (Q : VK), tVar 5 (x0 :: x1 :: x2 :: x3 :: x4 :: some v :: r) H Q = Q v H := fun _ _ _ _ _ _ _ _ _ => propext ⟨fun ⟨_, a, q⟩ => by cases a; exact q, fun q => ⟨_, rfl, q⟩⟩
theorem w118 : ∀ (x0 x1 x2 x3 x4 : Option V) (y : Option V) (v : V) (r : St) (H : Hp) (Q : St → Hp → Prop), gName 5 v (x0 :: x1 :: x2 :: x3 :: x4 :: y :: r) H Q = Q (x0 :: x1 :: x2 :: x3 :: x4 :: some v :: r) H := fun _ _ _ _ _ _ _ _ _ _ => rfl
theorem w119 : ∀ (x0 x1 x2 x3 x4 : Option V) (v : V) (r : St) (te : TE) (ti : TIp) (D : Ends) (H : Hp), tAug 5 te ti D (x0 :: x1 :: x2 :: x3 :: x4 :: some v :: r) H = te (x0 :: x1 :: x2 :: x3 :: x4 :: some v :: r) H (fun y H1 => ti v y H1 (fun z H2 => D.nx (x0 :: x1 :: x2 :: x3 :: x4 :: some z :: r) H2)) := fun _ _ _ _ _ _ _ _ _ _ _ => propext ⟨fun ⟨_, a, q⟩ => by cases a; exact q, fun q => ⟨_, rfl, q⟩⟩
theorem w120 : ∀ (x0 x1 x2 x3 x4 : Option V) (y : Option V) (r : St) (vs : List Nat), wipe (x0 :: x1 :: x2 :: x3 :: x4 :: y :: r) (5 :: vs) = Setn (wipe (x0 :: x1 :: x2 :: x3 :: x4 :: y :: r) vs) 5 := fun _ _ _ _ _ _ _ _ => rfl
theorem w121 : ∀ (x0 x1 x2 x3 x4 : Option V) (y : Option V) (r : St), Setn (x0 :: x1 :: x2 :: x3 :: x4 :: y :: r) 5 = (x0 :: x1 :: x2 :: x3 :: x4 :: none :: r) := fun _ _ _ _ _ _ _ => rfl
theorem w122 : ∀ (x0 x1 x2 x3 x4 x5 : Option V) (v : V) (r : St) (H : Hp) (Q : VK), tVar 6 (x0 :: x1 :: x2 :: x3 :: x4 :: x5 :: some v :: r) H Q = Q v H := fun _ _ _ _ _ _ _ _ _ _ => propext ⟨fun ⟨_, a, q⟩ => by cases a; exact q, fun q => ⟨_, rfl, q⟩⟩
theorem w123 : ∀ (x0 x1 x2 x3 x4 x5 : Option V) (y : Option V) (v : V) (r : St) (H : Hp) (Q : St → Hp → Prop), gName 6 v (x0 :: x1 :: x2 :: x3 :: x4 :: x5 :: y :: r) H Q = Q (x0 :: x1 :: x2 :: x3 :: x4 :: x5 :: some v :: r) H := fun _ _ _ _ _ _ _ _ _ _ _ => rfl
theorem w124 : ∀ (x0 x1 x2 x3 x4 x5 : Option V) (v : V) (r : St) (te : TE) (ti : TIp) (D : Ends) (H : Hp), tAug 6 te ti D (x0 :: x1 :: x2 :: x3 :: x4 :: x5 :: some v :: r) H = te (x0 :: x1 :: x2 :: x3 :: x4 :: x5 :: some v :: r) H (fun y H1 => ti v y H1 (fun z H2 => D.nx (x0 :: x1 :: x2 :: x3 :: x4 :: x5 :: some z :: r) H2)) := fun _ _ _ _ _ _ _ _ _ _ _ _ => propext ⟨fun ⟨_, a, q⟩ => by cases a; exact q, fun q => ⟨_, rfl, q⟩⟩
theorem w125 : ∀ (x0 x1 x2 x3 x4 x5 : Option V) (y : Option V) (r : St) (vs : List Nat), wipe (x0 :: x1 :: x2 :: x3 :: x4 :: x5 :: y :: r) (6 :: vs) = Setn (wipe (x0 :: x1 :: x2 :: x3 :: x4 :: x5 :: y :: r) vs) 6 := fun _ _ _ _ _ _ _ _ _ => rfl
theorem w126 : ∀ (x0 x1 x2 x3 x4 x5 : Option V) (y : Option V) (r : St), Setn (x0 :: x1 :: x2 :: x3 :: x4 :: x5 :: y :: r) 6 = (x0 :: x1 :: x2 :: x3 :: x4 :: x5 :: none :: r) := fun _ _ _ _ _ _ _ _ => rfl
theorem w127 : ∀ (x0 x1 x2 x3 x4 x5 x6 : Option V) (v : V) (r : St) (H : Hp) (Q : VK), tVar 7 (x0 :: x1 :: x2 :: x3 :: x4 :: x5 :: x6 :: some v :: r) H Q = Q v H := fun _ _ _ _ _ _ _ _ _ _ _ => propext ⟨fun ⟨_, a, q⟩ => by cases a; exact q, fun q => ⟨_, rfl, q⟩⟩
theorem w128 : ∀ (x0 x1 x2 x3 x4 x5 x6 : Option V) (y : Option V) (v : V) (r : St) (H : Hp) (Q : St → Hp → Prop), gName 7 v (x0 :: x1 :: x2 :: x3 :: x4 :: x5 :: x6 :: y :: r) H Q = Q (x0 :: x1 :: x2 :: x3 :: x4 :: x5 :: x6 :: some v :: r) H := fun _ _ _ _ _ _ _ _ _ _ _ _ => rfl
theorem w129 : ∀ (x0 x1 x2 x3 x4 x5 x6 : Option V) (v : V) (r : St) (te : TE) (ti : TIp) (D : Ends) (H : Hp), tAug 7 te ti D (x0 :: x1 :: x2 :: x3 :: x4 :: x5 :: x6 :: some v :: r) H = te (x0 :: x1 :: x2 :: x3 :: x4 :: x5 :: x6 :: some v :: r) H (fun y H1 => ti v y H1 (fun z H2 => D.nx (x0 :: x1 :: x2 :: x3 :: x4 :: x5 :: x6 :: some z :: r) H2)) := fun _ _ _ _ _ _ _ _ _ _ _ _ _ => propext ⟨fun ⟨_, a, q⟩ => by cases a; exact q, fun q => ⟨_, rfl, q⟩⟩
theorem w130 : ∀ (x0 x1 x2 x3 x4 x5 x6 : Option V) (y : Option V) (r : St) (vs : List Nat), wipe (x0 :: x1 :: x2 :: x3 :: x4 :: x5 :: x6 :: y :: r) (7 :: vs) = Setn (wipe (x0 :: x1 :: x2 :: x3 :: x4 :: x5 :: x6 :: y :: r) vs) 7 := fun _ _ _ _ _ _ _ _ _ _ => rfl
theorem w131 : ∀ (x0 x1 x2 x3 x4 x5 x6 : Option V) (y : Option V) (r : St), Setn (x0 :: x1 :: x2 :: x3 :: x4 :: x5 :: x6 :: y :: r) 7 = (x0 :: x1 :: x2 :: x3 :: x4 :: x5 :: x6 :: none :: r) := fun _ _ _ _ _ _ _ _ _ => rfl
theorem w132 : ∀ (x0 x1 x2 x3 x4 x5 x6 x7 : Option V) (v : V) (r : St) (H : Hp) (Q : VK), tVar 8 (x0 :: x1 :: x2 :: x3 :: x4 :: x5 :: x6 :: x7 :: some v :: r) H Q = Q v H := fun _ _ _ _ _ _ _ _ _ _ _ _ => propext ⟨fun ⟨_, a, q⟩ => by cases a; exact q, fun q => ⟨_, rfl, q⟩⟩
theorem w133 : ∀ (x0 x1 x2 x3 x4 x5 x6 x7 : Option V) (y : Option V) (v : V) (r : St) (H : Hp) (Q : St → Hp → Prop), gName 8 v (x0 :: x1 :: x2 :: x3 :: x4 :: x5 :: x6 :: x7 :: y :: r) H Q = Q (x0 :: x1 :: x2 :: x3 :: x4 :: x5 :: x6 :: x7 :: some v :: r) H := fun _ _ _ _ _ _ _ _ _ _ _ _ _ => rfl
theorem w134 : ∀ (x0 x1 x2 x3 x4 x5 x6 x7 : Option V) (v : V) (r : St) (te : TE) (ti : TIp) (D : Ends) (H : Hp), tAug 8 te ti D (x0 :: x1 :: x2 :: x3 :: x4 :: x5 :: x6 :: x7 :: some v :: r) H = te (x0 :: x1 :: x2 :: x3 :: x4 :: x5 :: x6 :: x7 :: some v :: r) H (fun y H1 => ti v y H1 (fun z H2 => D.nx (x0 :: x1 :: x2 :: x3 :: x4 :: x5 :: x6 :: x7 :: some z :: r) H2)) := fun _ _ _ _ _ _ _ _ _ _ _ _ _ _ => propext ⟨fun ⟨_, a, q⟩ => by cases a; exact q, fun q => ⟨_, rfl, q⟩⟩
theorem w135 : ∀ (x0 x1 x2 x3 x4 x5 x6 x7 : Option V) (y : Option V) (r : St) (vs : List Nat), wipe (x0 :: x1 :: x2 :: x3 :: x4 :: x5 :: x6 :: x7 :: y :: r) (8 :: vs) = Setn (wipe (x0 :: x1 :: x2 :: x3 :: x4 :: x5 :: x6 :: x7 :: y :: r) vs) 8 := fun _ _ _ _ _ _ _ _ _ _ _ => rfl
theorem w136 : ∀ (x0 x1 x2 x3 x4 x5 x6 x7 : Option V) (y : Option V) (r : St), Setn (x0 :: x1 :: x2 :: x3 :: x4 :: x5 :: x6 :: x7 :: y :: r) 8 = (x0 :: x1 :: x2 :: x3 :: x4 :: x5 :: x6 :: x7 :: none :: r) := fun _ _ _ _ _ _ _ _ _ _ => rfl
theorem w137 : ∀ (x0 x1 x2 x3 x4 x5 x6 x7 x8 : Option V) (v : V) (r : St) (H : Hp) (Q : VK), tVar 9 (x0 :: x1 :: x2 :: x3 :: x4 :: x5 :: x6 :: x7 :: x8 :: some v :: r) H Q = Q v H := fun _ _ _ _ _ _ _ _ _ _ _ _ _ => propext ⟨fun ⟨_, a, q⟩ => by cases a; exact q, fun q => ⟨_, rfl, q⟩⟩
theorem w138 : ∀ (x0 x1 x2 x3 x4 x5 x6 x7 x8 : Option V) (y : Option V) (v : V) (r : St) (H : Hp) (Q : St → Hp → Prop), gName 9 v (x0 :: x1 :: x2 :: x3 :: x4 :: x5 :: x6 :: x7 :: x8 :: y :: r) H Q = Q (x0 :: x1 :: x2 :: x3 :: x4 :: x5 :: x6 :: x7 :: x8 :: some v :: r) H := fun _ _ _ _ _ _ _ _ _ _ _ _ _ _ => rfl
theorem w139 : ∀ (x0 x1 x2 x3 x4 x5 x6 x7 x8 : Option V) (v : V) (r : St) (te : TE) (ti : TIp) (D : Ends) (H : Hp), tAug 9 te ti D (x0 :: x1 :: x2 :: x3 :: x4 :: x5 :: x6 :: x7 :: x8 :: some v :: r) H = te (x0 :: x1 :: x2 :: x3 :: x4 :: x5 :: x6 :: x7 :: x8 :: some v :: r) H (fun y H1 => ti v y H1 (fun z H2 => D.nx (x0 :: x1 :: x2 :: x3 :: x4 :: x5 :: x6 :: x7 :: x8 :: some z :: r) H2)) := fun _ _ _ _ _ _ _ _ _ _ _ _ _ _ _ => propext ⟨fun ⟨_, a, q⟩ => by cases a; exact q, fun q => ⟨_, rfl, q⟩⟩
theorem w140 : ∀ (x0 x1 x2 x3 x4 x5 x6 x7 x8 : Option V) (y : Option V) (r : St) (vs : List Nat), wipe (x0 :: x1 :: x2 :: x3 :: x4 :: x5 :: x6 :: x7 :: x8 :: y :: r) (9 :: vs) = Setn (wipe (x0 :: x1 :: x2 :: x3 :: x4 :: x5 :: x6 :: x7 :: x8 :: y :: r) vs) 9 := fun _ _ _ _ _ _ _ _ _ _ _ _ => rfl
theorem w141 : ∀ (x0 x1 x2 x3 x4 x5 x6 x7 x8 : Option V) (y : Option V) (r : St), Setn (x0 :: x1 :: x2 :: x3 :: x4 :: x5 :: x6 :: x7 :: x8 :: y :: r) 9 = (x0 :: x1 :: x2 :: x3 :: x4 :: x5 :: x6 :: x7 :: x8 :: none :: r) := fun _ _ _ _ _ _ _ _ _ _ _ => rfl
theorem w142 : ∀ (x0 x1 x2 x3 x4 x5 x6 x7 x8 x9 : Option V) (v : V) (r : St) (H : Hp) (Q : VK), tVar 10 (x0 :: x1 :: x2 :: x3 :: x4 :: x5 :: x6 :: x7 :: x8 :: x9 :: some v :: r) H Q = Q v H := fun _ _ _ _ _ _ _ _ _ _ _ _ _ _ => propext ⟨fun ⟨_, a, q⟩ => by cases a; exact q, fun q => ⟨_, rfl, q⟩⟩
theorem w143 : ∀ (x0 x1 x2 x3 x4 x5 x6 x7 x8 x9 : Option V) (y : Option V) (v : V) (r : St) (H : Hp) (Q : St → Hp → Prop), gName 10 v (x0 :: x1 :: x2 :: x3 :: x4 :: x5 :: x6 :: x7 :: x8 :: x9 :: y :: r) H Q = Q (x0 :: x1 :: x2 :: x3 :: x4 :: x5 :: x6 :: x7 :: x8 :: x9 :: some v :: r) H := fun _ _ _ _ _ _ _ _ _ _ _ _ _ _ _ => rfl
theorem w144 : ∀ (x0 x1 x2 x3 x4 x5 x6 x7 x8 x9 : Option V) (v : V) (r : St) (te : TE) (ti : TIp) (D : Ends) (H : Hp), tAug 10 te ti D (x0 :: x1 :: x2 :: x3 :: x4 :: x5 :: x6 :: x7 :: x8 :: x9 :: some v :: r) H = te (x0 :: x1 :: x2 :: x3 :: x4 :: x5 :: x6 :: x7 :: x8 :: x9 :: some v :: r) H (fun y H1 => ti v y H1 (fun z H2 => D.nx (x0 :: x1 :: x2 :: x3 :: x4 :: x5 :: x6 :: x7 :: x8 :: x9 :: some z :: r) H2)) := fun _ _ _ _ _ _ _ _ _ _ _ _ _ _ _ _ => propext ⟨fun ⟨_, a, q⟩ => by cases a; exact q, fun q => ⟨_, rfl, q⟩⟩
theorem w145 : ∀ (x0 x1 x2 x3 x4 x5 x6 x7 x8 x9 : Option V) (y : Option V) (r : St) (vs : List Nat), wipe (x0 :: x1 :: x2 :: x3 :: x4 :: x5 :: x6 :: x7 :: x8 :: x9 :: y :: r) (10 :: vs) = Setn (wipe (x0 :: x1 :: x2 :: x3 :: x4 :: x5 :: x6 :: x7 :: x8 :: x9 :: y :: r) vs) 10 := fun _ _ _ _ _ _ _ _ _ _ _ _ _ => rfl
theorem w146 : ∀ (x0 x1 x2 x3 x4 x5 x6 x7 x8 x9 : Option V) (y : Option V) (r : St), Setn (x0 :: x1 :: x2 :: x3 :: x4 :: x5 :: x6 :: x7 :: x8 :: x9 :: y :: r) 10 = (x0 :: x1 :: x2 :: x3 :: x4 :: x5 :: x6 :: x7 :: x8 :: x9 :: none :: r) := fun _ _ _ _ _ _ _ _ _ _ _ _ => rfl
theorem w147 : ∀ (x0 x1 x2 x3 x4 x5 x6 x7 x8 x9 x10 : Option V) (v : V) (r : St) (H : Hp) (Q : VK), tVar 11 (x0 :: x1 :: x2 :: x3 :: x4 :: x5 :: x6 :: x7 :: x8 :: x9 :: x10 :: some v :: r) H Q = Q v H := fun _ _ _ _ _ _ _ _ _ _ _ _ _ _ _ => propext ⟨fun ⟨_, a, q⟩ => by cases a; exact q, fun q => ⟨_, rfl, q⟩⟩
theorem w148 : ∀ (x0 x1 x2 x3 x4 x5 x6 x7 x8 x9 x10 : Option V) (y : Option V) (v : V) (r : St) (H : Hp) (Q : St → Hp → Prop), gName 11 v (x0 :: x1 :: x2 :: x3 :: x4 :: x5 :: x6 :: x7 :: x8 :: x9 :: x10 :: y :: r) H Q = Q (x0 :: x1 :: x2 :: x3 :: x4 :: x5 :: x6 :: x7 :: x8 :: x9 :: x10 :: some v :: r) H := fun _ _ _ _ _ _ _ _ _ _ _ _ _ _ _ _ => rfl
theorem w149 : ∀ (x0 x1 x2 x3 x4 x5 x6 x7 x8 x9 x10 : Option V) (v : V) (r : St) (te : TE) (ti : TIp) (D : Ends) (H : Hp), tAug 11 te ti D (x0 :: x1 :: x2 :: x3 :: x4 :: x5 :: x6 :: x7 :: x8 :: x9 :: x10 :: some v :: r) H = te (x0 :: x1 :: x2 :: x3 :: x4 :: x5 :: x6 :: x7 :: x8 :: x9 :: x10 :: some v :: r) H (fun y H1 => ti v y H1 (fun z H2 => D.nx (x0 :: x1 :: x2 :: x3 :: x4 :: x5 :: x6 :: x7 :: x8 :: x9 :: x10 :: some z :: r) H2)) := fun _ _ _ _ _ _ _ _ _ _ _ _ _ _ _ _ _ => propext ⟨fun ⟨_, a, q⟩ => by cases a; exact q, fun q => ⟨_, rfl, q⟩⟩
theorem w150 : ∀ (x0 x1 x2 x3 x4 x5 x6 x7 x8 x9 x10 : Option V) (y : Option V) (r : St) (vs : List Nat), wipe (x0 :: x1 :: x2 :: x3 :: x4 :: x5 :: x6 :: x7 :: x8 :: x9 :: x10 :: y :: r) (11 :: vs) = Setn (wipe (x0 :: x1 :: x2 :: x3 :: x4 :: x5 :: x6 :: x7 :: x8 :: x9 :: x10 :: y :: r) vs) 11 := fun _ _ _ _ _ _ _ _ _ _ _ _ _ _ => rfl
theorem w151 : ∀ (x0 x1 x2 x3 x4 x5 x6 x7 x8 x9 x10 : Option V) (y : Option V) (r : St), Setn (x0 :: x1 :: x2 :: x3 :: x4 :: x5 :: x6 :: x7 :: x8 :: x9 :: x10 :: y :: r) 11 = (x0 :: x1 :: x2 :: x3 :: x4 :: x5 :: x6 :: x7 :: x8 :: x9 :: x10 :: none :: r) := fun _ _ _ _ _ _ _ _ _ _ _ _ _ => rfl
theorem w152 : ∀ (x0 x1 x2 x3 x4 x5 x6 x7 x8 x9 x10 x11 : Option V) (v : V) (r : St) (H : Hp) (Q : VK), tVar 12 (x0 :: x1 :: x2 :: x3 :: x4 :: x5 :: x6 :: x7 :: x8 :: x9 :: x10 :: x11 :: some v :: r) H Q = Q v H := fun _ _ _ _ _ _ _ _ _ _ _ _ _ _ _ _ => propext ⟨fun ⟨_, a, q⟩ => by cases a; exact q, fun q => ⟨_, rfl, q⟩⟩
theorem w153 : ∀ (x0 x1 x2 x3 x4 x5 x6 x7 x8 x9 x10 x11 : Option V) (y : Option V) (v : V) (r : St) (H : Hp) (Q : St → Hp → Prop), gName 12 v (x0 :: x1 :: x2 :: x3 :: x4 :: x5 :: x6 :: x7 :: x8 :: x9 :: x10 :: x11 :: y :: r) H Q = Q (x0 :: x1 :: x2 :: x3 :: x4 :: x5 :: x6 :: x7 :: x8 :: x9 :: x10 :: x11 :: some v :: r) H := fun _ _ _ _ _ _ _ _ _ _ _ _ _ _ _ _ _ => rfl
theorem w154 : ∀ (x0 x1 x2 x3 x4 x5 x6 x7 x8 x9 x10 x11 : Option V) (v : V) (r : St) (te : TE) (ti : TIp) (D : Ends) (H : Hp), tAug 12 te ti D (x0 :: x1 :: x2 :: x3 :: x4 :: x5 :: x6 :: x7 :: x8 :: x9 :: x10 :: x11 :: some v :: r) H = te (x0 :: x1 :: x2 :: x3 :: x4 :: x5 :: x6 :: x7 :: x8 :: x9 :: x10 :: x11 :: some v :: r) H (fun y H1 => ti v y H1 (fun z H2 => D.nx (x0 :: x1 :: x2 :: x3 :: x4 :: x5 :: x6 :: x7 :: x8 :: x9 :: x10 :: x11 :: some z :: r) H2)) := fun _ _ _ _ _ _ _ _ _ _ _ _ _ _ _ _ _ _ => propext ⟨fun ⟨_, a, q⟩ => by cases a; exact q, fun q => ⟨_, rfl, q⟩⟩
theorem w155 : ∀ (x0 x1 x2 x3 x4 x5 x6 x7 x8 x9 x10 x11 : Option V) (y : Option V) (r : St) (vs : List Nat), wipe (x0 :: x1 :: x2 :: x3 :: x4 :: x5 :: x6 :: x7 :: x8 :: x9 :: x10 :: x11 :: y :: r) (12 :: vs) = Setn (wipe (x0 :: x1 :: x2 :: x3 :: x4 :: x5 :: x6 :: x7 :: x8 :: x9 :: x10 :: x11 :: y :: r) vs) 12 := fun _ _ _ _ _ _ _ _ _ _ _ _ _ _ _ => rfl
theorem w156 : ∀ (x0 x1 x2 x3 x4 x5 x6 x7 x8 x9 x10 x11 : Option V) (y : Option V) (r : St), Setn (x0 :: x1 :: x2 :: x3 :: x4 :: x5 :: x6 :: x7 :: x8 :: x9 :: x10 :: x11 :: y :: r) 12 = (x0 :: x1 :: x2 :: x3 :: x4 :: x5 :: x6 :: x7 :: x8 :: x9 :: x10 :: x11 :: none :: r) := fun _ _ _ _ _ _ _ _ _ _ _ _ _ _ => rfl
theorem w157 : ∀ (x0 x1 x2 x3 x4 x5 x6 x7 x8 x9 x10 x11 x12 : Option V) (v : V) (r : St) (H : Hp) (Q : VK), tVar 13 (x0 :: x1 :: x2 :: x3 :: x4 :: x5 :: x6 :: x7 :: x8 :: x9 :: x10 :: x11 :: x12 :: some v :: r) H Q = Q v H := fun _ _ _ _ _ _ _ _ _ _ _ _ _ _ _ _ _ => propext ⟨fun ⟨_, a, q⟩ => by cases a; exact q, fun q => ⟨_, rfl, q⟩⟩
theorem w158 : ∀ (x0 x1 x2 x3 x4 x5 x6 x7 x8 x9 x10 x11 x12 : Option V) (y : Option V) (v : V) (r : St) (H : Hp) (Q : St → Hp → Prop), gName 13 v (x0 :: x1 :: x2 :: x3 :: x4 :: x5 :: x6 :: x7 :: x8 :: x9 :: x10 :: x11 :: x12 :: y :: r) H Q = Q (x0 :: x1 :: x2 :: x3 :: x4 :: x5 :: x6 :: x7 :: x8 :: x9 :: x10 :: x11 :: x12 :: some v :: r) H := fun _ _ _ _ _ _ _ _ _ _ _ _ _ _ _ _ _ _ => rfl
theorem w159 : ∀ (x0 x1 x2 x3 x4 x5 x6 x7 x8 x9 x10 x11 x12 : Option V) (v : V) (r : St) (te : TE) (ti : TIp) (D : Ends) (H : Hp), tAug 13 te ti D (x0 :: x1 :: x2 :: x3 :: x4 :: x5 :: x6 :: x7 :: x8 :: x9 :: x10 :: x11 :: x12 :: some v :: r) H = te (x0 :: x1 :: x2 :: x3 :: x4 :: x5 :: x6 :: x7 :: x8 :: x9 :: x10 :: x11 :: x12 :: some v :: r) H (fun y H1 => ti v y H1 (fun z H2 => D.nx (x0 :: x1 :: x2 :: x3 :: x4 :: x5 :: x6 :: x7 :: x8 :: x9 :: x10 :: x11 :: x12 :: some z :: r) H2)) := fun _ _ _ _ _ _ _ _ _ _ _ _ _ _ _ _ _ _ _ => propext ⟨fun ⟨_, a, q⟩ => by cases a; exact q, fun q => ⟨_, rfl, q⟩⟩
theorem w160 : ∀ (x0 x1 x2 x3 x4 x5 x6 x7 x8 x9 x10 x11 x12 : Option V) (y : Option V) (r : St) (vs : List Nat), wipe (x0 :: x1 :: x2 :: x3 :: x4 :: x5 :: x6 :: x7 :: x8 :: x9 :: x10 :: x11 :: x12 :: y :: r) (13 :: vs) = Setn (wipe (x0 :: x1 :: x2 :: x3 :: x4 :: x5 :: x6 :: x7 :: x8 :: x9 :: x10 :: x11 :: x12 :: y :: r) vs) 13 := fun _ _ _ _ _ _ _ _ _ _ _ _ _ _ _ _ => rfl
theorem w161 : ∀ (x0 x1 x2 x3 x4 x5 x6 x7 x8 x9 x10 x11 x12 : Option V) (y : Option V) (r : St), Setn (x0 :: x1 :: x2 :: x3 :: x4 :: x5 :: x6 :: x7 :: x8 :: x9 :: x10 :: x11 :: x12 :: y :: r) 13 = (x0 :: x1 :: x2 :: x3 :: x4 :: x5 :: x6 :: x7 :: x8 :: x9 :: x10 :: x11 :: x12 :: none :: r) := fun _ _ _ _ _ _ _ _ _ _ _ _ _ _ _ => rfl
theorem w162 : ∀ (x0 x1 x2 x3 x4 x5 x6 x7 x8 x9 x10 x11 x12 x13 : Option V) (v : V) (r : St) (H : Hp) (Q : VK), tVar 14 (x0 :: x1 :: x2 :: x3 :: x4 :: x5 :: x6 :: x7 :: x8 :: x9 :: x10 :: x11 :: x12 :: x13 :: some v :: r) H Q = Q v H := fun _ _ _ _ _ _ _ _ _ _ _ _ _ _ _ _ _ _ => propext ⟨fun ⟨_, a, q⟩ => by cases a; exact q, fun q => ⟨_, rfl, q⟩⟩
theorem w163 : ∀ (x0 x1 x2 x3 x4 x5 x6 x7 x8 x9 x10 x11 x12 x13 : Option V) (y : Option V) (v : V) (r : St) (H : Hp) (Q : St → Hp → Prop), gName 14 v (x0 :: x1 :: x2 :: x3 :: x4 :: x5 :: x6 :: x7 :: x8 :: x9 :: x10 :: x11 :: x12 :: x13 :: y :: r) H Q = Q (x0 :: x1 :: x2 :: x3 :: x4 :: x5 :: x6 :: x7 :: x8 :: x9 :: x10 :: x11 :: x12 :: x13 :: some v :: r) H := fun _ _ _ _ _ _ _ _ _ _ _ _ _ _ _ _ _ _ _ => rfl
theorem w164 : ∀ (x0 x1 x2 x3 x4 x5 x6 x7 x8 x9 x10 x11 x12 x13 : Option V) (v : V) (r : St) (te : TE) (ti : TIp) (D : Ends) (H : Hp), tAug 14 te ti D (x0 :: x1 :: x2 :: x3 :: x4 :: x5 :: x6 :: x7 :: x8 :: x9 :: x10 :: x11 :: x12 :: x13 :: some v :: r) H = te (x0 :: x1 :: x2 :: x3 :: x4 :: x5 :: x6 :: x7 :: x8 :: x9 :: x10 :: x11 :: x12 :: x13 :: some v :: r) H (fun y H1 => ti v y H1 (fun z H2 => D.nx (x0 :: x1 :: x2 :: x3 :: x4 :: x5 :: x6 :: x7 :: x8 :: x9 :: x10 :: x11 :: x12 :: x13 :: some z :: r) H2)) := fun _ _ _ _ _ _ _ _ _ _ _ _ _ _ _ _ _ _ _ _ => propext ⟨fun ⟨_, a, q⟩ => by cases a; exact q, fun q => ⟨_, rfl, q⟩⟩
theorem w165 : ∀ (x0 x1 x2 x3 x4 x5 x6 x7 x8 x9 x10 x11 x12 x13 : Option V) (y : Option V) (r : St) (vs : List Nat), wipe (x0 :: x1 :: x2 :: x3 :: x4 :: x5 :: x6 :: x7 :: x8 :: x9 :: x10 :: x11 :: x12 :: x13 :: y :: r) (14 :: vs) = Setn (wipe (x0 :: x1 :: x2 :: x3 :: x4 :: x5 :: x6 :: x7 :: x8 :: x9 :: x10 :: x11 :: x12 :: x13 :: y :: r) vs) 14 := fun _ _ _ _ _ _ _ _ _ _ _ _ _ _ _ _ _ => rfl
theorem w166 : ∀ (x0 x1 x2 x3 x4 x5 x6 x7 x8 x9 x10 x11 x12 x13 : Option V) (y : Option V) (r : St), Setn (x0 :: x1 :: x2 :: x3 :: x4 :: x5 :: x6 :: x7 :: x8 :: x9 :: x10 :: x11 :: x12 :: x13 :: y :: r) 14 = (x0 :: x1 :: x2 :: x3 :: x4 :: x5 :: x6 :: x7 :: x8 :: x9 :: x10 :: x11 :: x12 :: x13 :: none :: r) := fun _ _ _ _ _ _ _ _ _ _ _ _ _ _ _ _ => rfl
theorem w167 : ∀ (x0 x1 x2 x3 x4 x5 x6 x7 x8 x9 x10 x11 x12 x13 x14 : Option V) (v : V) (r : St) (H : Hp) (Q : VK), tVar 15 (x0 :: x1 :: x2 :: x3 :: x4 :: x5 :: x6 :: x7 :: x8 :: x9 :: x10 :: x11 :: x12 :: x13 :: x14 :: some v :: r) H Q = Q v H := fun _ _ _ _ _ _ _ _ _ _ _ _ _ _ _ _ _ _ _ => propext ⟨fun ⟨_, a, q⟩ => by cases a; exact q, fun q => ⟨_, rfl, q⟩⟩
theorem w168 : ∀ (x0 x1 x2 x3 x4 x5 x6 x7 x8 x9 x10 x11 x12 x13 x14 : Option V) (y : Option V) (v : V) (r : St) (H : Hp) (Q : St → Hp → Prop), gName 15 v (x0 :: x1 :: x2 :: x3 :: x4 :: x5 :: x6 :: x7 :: x8 :: x9 :: x10 :: x11 :: x12 :: x13 :: x14 :: y :: r) H Q = Q (x0 :: x1 :: x2 :: x3 :: x4 :: x5 :: x6 :: x7 :: x8 :: x9 :: x10 :: x11 :: x12 :: x13 :: x14 :: some v :: r) H := fun _ _ _ _ _ _ _ _ _ _ _ _ _ _ _ _ _ _ _ _ => rfl
theorem w169 : ∀ (x0 x1 x2 x3 x4 x5 x6 x7 x8 x9 x10 x11 x12 x13 x14 : Option V) (v : V) (r : St) (te : TE) (ti : TIp) (D : Ends) (H : Hp), tAug 15 te ti D (x0 :: x1 :: x2 :: x3 :: x4 :: x5 :: x6 :: x7 :: x8 :: x9 :: x10 :: x11 :: x12 :: x13 :: x14 :: some v :: r) H = te (x0 :: x1 :: x2 :: x3 :: x4 :: x5 :: x6 :: x7 :: x8 :: x9 :: x10 :: x11 :: x12 :: x13 :: x14 :: some v :: r) H (fun y H1 => ti v y H1 (fun z H2 => D.nx (x0 :: x1 :: x2 :: x3 :: x4 :: x5 :: x6 :: x7 :: x8 :: x9 :: x10 :: x11 :: x12 :: x13 :: x14 :: some z :: r) H2)) := fun _ _ _ _ _ _ _ _ _ _ _ _ _ _ _ _ _ _ _ _ _ => propext ⟨fun ⟨_, a, q⟩ => by cases a; exact q, fun q => ⟨_, rfl, q⟩⟩
theorem w170 : ∀ (x0 x1 x2 x3 x4 x5 x6 x7 x8 x9 x10 x11 x12 x13 x14 : Option V) (y : Option V) (r : St) (vs : List Nat), wipe (x0 :: x1 :: x2 :: x3 :: x4 :: x5 :: x6 :: x7 :: x8 :: x9 :: x10 :: x11 :: x12 :: x13 :: x14 :: y :: r) (15 :: vs) = Setn (wipe (x0 :: x1 :: x2 :: x3 :: x4 :: x5 :: x6 :: x7 :: x8 :: x9 :: x10 :: x11 :: x12 :: x13 :: x14 :: y :: r) vs) 15 := fun _ _ _ _ _ _ _ _ _ _ _ _ _ _ _ _ _ _ => rfl
theorem w171 : ∀ (x0 x1 x2 x3 x4 x5 x6 x7 x8 x9 x10 x11 x12 x13 x14 : Option V) (y : Option V) (r : St), Setn (x0 :: x1 :: x2 :: x3 :: x4 :: x5 :: x6 :: x7 :: x8 :: x9 :: x10 :: x11 :: x12 :: x13 :: x14 :: y :: r) 15 = (x0 :: x1 :: x2 :: x3 :: x4 :: x5 :: x6 :: x7 :: x8 :: x9 :: x10 :: x11 :: x12 :: x13 :: x14 :: none :: r) := fun _ _ _ _ _ _ _ _ _ _ _ _ _ _ _ _ _ => rfl
theorem w172 : ∀ (x0 x1 x2 x3 x4 x5 x6 x7 x8 x9 x10 x11 x12 x13 x14 x15 : Option V) (v : V) (r : St) (H : Hp) (Q : VK), tVar 16 (x0 :: x1 :: x2 :: x3 :: x4 :: x5 :: x6 :: x7 :: x8 :: x9 :: x10 :: x11 :: x12 :: x13 :: x14 :: x15 :: some v :: r) H Q = Q v H := fun _ _ _ _ _ _ _ _ _ _ _ _ _ _ _ _ _ _ _ _ => propext ⟨fun ⟨_, a, q⟩ => by cases a; exact q, fun q => ⟨_, rfl, q⟩⟩
theorem w173 : ∀ (x0 x1 x2 x3 x4 x5 x6 x7 x8 x9 x10 x11 x12 x13 x14 x15 : Option V) (y : Option V) (v : V) (r : St) (H : Hp) (Q : St → Hp → Prop), gName 16 v (x0 :: x1 :: x2 :: x3 :: x4 :: x5 :: x6 :: x7 :: x8 :: x9 :: x10 :: x11 :: x12 :: x13 :: x14 :: x15 :: y :: r) H Q = Q (x0 :: x1 :: x2 :: x3 :: x4 :: x5 :: x6 :: x7 :: x8 :: x9 :: x10 :: x11 :: x12 :: x13 :: x14 :: x15 :: some v :: r) H := fun _ _ _ _ _ _ _ _ _ _ _ _ _ _ _ _ _ _ _ _ _ => rfl
theorem w174 : ∀ (x0 x1 x2 x3 x4 x5 x6 x7 x8 x9 x10 x11 x12 x13 x14 x15 : Option V) (v : V) (r : St) (te : TE) (ti : TIp) (D : Ends) (H : Hp), tAug 16 te ti D (x0 :: x1 :: x2 :: x3 :: x4 :: x5 :: x6 :: x7 :: x8 :: x9 :: x10 :: x11 :: x12 :: x13 :: x14 :: x15 :: some v :: r) H = te (x0 :: x1 :: x2 :: x3 :: x4 :: x5 :: x6 :: x7 :: x8 :: x9 :: x10 :: x11 :: x12 :: x13 :: x14 :: x15 :: some v :: r) H (fun y H1 => ti v y H1 (fun z H2 => D.nx (x0 :: x1 :: x2 :: x3 :: x4 :: x5 :: x6 :: x7 :: x8 :: x9 :: x10 :: x11 :: x12 :: x13 :: x14 :: x15 :: some z :: r) H2)) := fun _ _ _ _ _ _ _ _ _ _ _ _ _ _ _ _ _ _ _ _ _ _ => propext ⟨fun ⟨_, a, q⟩ => by cases a; exact q, fun q => ⟨_, rfl, q⟩⟩
theorem w175 : ∀ (x0 x1 x2 x3 x4 x5 x6 x7 x8 x9 x10 x11 x12 x13 x14 x15 : Option V) (y : Option V) (r : St) (vs : List Nat), wipe (x0 :: x1 :: x2 :: x3 :: x4 :: x5 :: x6 :: x7 :: x8 :: x9 :: x10 :: x11 :: x12 :: x13 :: x14 :: x15 :: y :: r) (16 :: vs) = Setn (wipe (x0 :: x1 :: x2 :: x3 :: x4 :: x5 :: x6 :: x7 :: x8 :: x9 :: x10 :: x11 :: x12 :: x13 :: x14 :: x15 :: y :: r) vs) 16 := fun _ _ _ _ _ _ _ _ _ _ _ _ _ _ _ _ _ _ _ => rfl
theorem w176 : ∀ (x0 x1 x2 x3 x4 x5 x6 x7 x8 x9 x10 x11 x12 x13 x14 x15 : Option V) (y : Option V) (r : St), Setn (x0 :: x1 :: x2 :: x3 :: x4 :: x5 :: x6 :: x7 :: x8 :: x9 :: x10 :: x11 :: x12 :: x13 :: x14 :: x15 :: y :: r) 16 = (x0 :: x1 :: x2 :: x3 :: x4 :: x5 :: x6 :: x7 :: x8 :: x9 :: x10 :: x11 :: x12 :: x13 :: x14 :: x15 :: none :: r) := fun _ _ _ _ _ _ _ _ _ _ _ _ _ _ _ _ _ _ => rfl
theorem w177 : ∀ (x0 x1 x2 x3 x4 x5 x6 x7 x8 x9 x10 x11 x12 x13 x14 x15 x16 : Option V) (v : V) (r : St) (H : Hp) (Q : VK), tVar 17 (x0 :: x1 :: x2 :: x3 :: x4 :: x5 :: x6 :: x7 :: x8 :: x9 :: x10 :: x11 :: x12 :: x13 :: x14 :: x15 :: x16 :: some v :: r) H Q = Q v H := fun _ _ _ _ _ _ _ _ _ _ _ _ _ _ _ _ _ _ _ _ _ => propext ⟨fun ⟨_, a, q⟩ => by cases a; exact q, fun q => ⟨_, rfl, q⟩⟩
theorem w178 : ∀ (x0 x1 x2 x3 x4 x5 x6 x7 x8 x9 x10 x11 x12 x13 x14 x15 x16 : Option V) (y : Option V) (v : V) (r : St) (H : Hp) (Q : St → Hp → Prop), gName 17 v (x0 :: x1 :: x2 :: x3 :: x4 :: x5 :: x6 :: x7 :: x8 :: x9 :: x10 :: x11 :: x12 :: x13 :: x14 :: x15 :: x16 :: y :: r) H Q = Q (x0 :: x1 :: x2 :: x3 :: x4 :: x5 :: x6 :: x7 :: x8 :: x9 :: x10 :: x11 :: x12 :: x13 :: x14 :: x15 :: x16 :: some v :: r) H := fun _ _ _ _ _ _ _ _ _ _ _ _ _ _ _ _ _ _ _ _ _ _ => rfl
theorem w179 : ∀ (x0 x1 x2 x3 x4 x5 x6 x7 x8 x9 x10 x11 x12 x13 x14 x15 x16 : Option V) (v : V) (r : St) (te : TE) (ti : TIp) (D : Ends) (H : Hp), tAug 17 te ti D (x0 :: x1 :: x2 :: x3 :: x4 :: x5 :: x6 :: x7 :: x8 :: x9 :: x10 :: x11 :: x12 :: x13 :: x14 :: x15 :: x16 :: some v :: r) H = te (x0 :: x1 :: x2 :: x3 :: x4 :: x5 :: x6 :: x7 :: x8 :: x9 :: x10 :: x11 :: x12 :: x13 :: x14 :: x15 :: x16 :: some v :: r) H (fun y H1 => ti v y H1 (fun z H2 => D.nx (x0 :: x1 :: x2 :: x3 :: x4 :: x5 :: x6 :: x7 :: x8 :: x9 :: x10 :: x11 :: x12 :: x13 :: x14 :: x15 :: x16 :: some z :: r) H2)) := fun _ _ _ _ _ _ _ _ _ _ _ _ _ _ _ _ _ _ _ _ _ _ _ => propext ⟨fun ⟨_, a, q⟩ => by cases a; exact q, fun q => ⟨_, rfl, q⟩⟩
theorem w180 : ∀ (x0 x1 x2 x3 x4 x5 x6 x7 x8 x9 x10 x11 x12 x13 x14 x15 x16 : Option V) (y : Option V) (r : St) (vs : List Nat), wipe (x0 :: x1 :: x2 :: x3 :: x4 :: x5 :: x6 :: x7 :: x8 :: x9 :: x10 :: x11 :: x12 :: x13 :: x14 :: x15 :: x16 :: y :: r) (17 :: vs) = Setn (wipe (x0 :: x1 :: x2 :: x3 :: x4 :: x5 :: x6 :: x7 :: x8 :: x9 :: x10 :: x11 :: x12 :: x13 :: x14 :: x15 :: x16 :: y :: r) vs) 17 := fun _ _ _ _ _ _ _ _ _ _ _ _ _ _ _ _ _ _ _ _ => rfl
theorem w181 : ∀ (x0 x1 x2 x3 x4 x5 x6 x7 x8 x9 x10 x11 x12 x13 x14 x15 x16 : Option V) (y : Option V) (r : St), Setn (x0 :: x1 :: x2 :: x3 :: x4 :: x5 :: x6 :: x7 :: x8 :: x9 :: x10 :: x11 :: x12 :: x13 :: x14 :: x15 :: x16 :: y :: r) 17 = (x0 :: x1 :: x2 :: x3 :: x4 :: x5 :: x6 :: x7 :: x8 :: x9 :: x10 :: x11 :: x12 :: x13 :: x14 :: x15 :: x16 :: none :: r) := fun _ _ _ _ _ _ _ _ _ _ _ _ _ _ _ _ _ _ _ => rfl
theorem w182 : ∀ (x0 x1 x2 x3 x4 x5 x6 x7 x8 x9 x10 x11 x12 x13 x14 x15 x16 x17 : Option V) (v : V) (r : St) (H : Hp) (Q : VK), tVar 18 (x0 :: x1 :: x2 :: x3 :: x4 :: x5 :: x6 :: x7 :: x8 :: x9 :: x10 :: x11 :: x12 :: x13 :: x14 :: x15 :: x16 :: x17 :: some v :: r) H Q = Q v H := fun _ _ _ _ _ _ _ _ _ _ _ _ _ _ _ _ _ _ _ _ _ _ => propext ⟨fun ⟨_, a, q⟩ => by cases a; exact q, fun q => ⟨_, rfl, q⟩⟩
theorem w183 : ∀ (x0 x1 x2 x3 x4 x5 x6 x7 x8 x9 x10 x11 x12 x13 x14 x15 x16 x17 : Option V) (y : Option V) (v : V) (r : St) (H : Hp) (Q : St → Hp → Prop), gName 18 v (x0 :: x1 :: x2 :: x3 :: x4 :: x5 :: x6 :: x7 :: x8 :: x9 :: x10 :: x11 :: x12 :: x13 :: x14 :: x15 :: x16 :: x17 :: y :: r) H Q = Q (x0 :: x1 :: x2 :: x3 :: x4 :: x5 :: x6 :: x7 :: x8 :: x9 :: x10 :: x11 :: x12 :: x13 :: x14 :: x15 :: x16 :: x17 :: some v :: r) H := fun _ _ _ _ _ _ _ _ _ _ _ _ _ _ _ _ _ _ _ _ _ _ _ => rfl
theorem w184 : ∀ (x0 x1 x2 x3 x4 x5 x6 x7 x8 x9 x10 x11 x12 x13 x14 x15 x16 x17 : Option V) (v : V) (r : St) (te : TE) (ti : TIp) (D : Ends) (H : Hp), tAug 18 te ti D (x0 :: x1 :: x2 :: x3 :: x4 :: x5 :: x6 :: x7 :: x8 :: x9 :: x10 :: x11 :: x12 :: x13 :: x14 :: x15 :: x16 :: x17 :: some v :: r) H = te (x0 :: x1 :: x2 :: x3 :: x4 :: x5 :: x6 :: x7 :: x8 :: x9 :: x10 :: x11 :: x12 :: x13 :: x14 :: x15 :: x16 :: x17 :: some v :: r) H (fun y H1 => ti v y H1 (fun z H2 => D.nx (x0 :: x1 :: x2 :: x3 :: x4 :: x5 :: x6 :: x7 :: x8 :: x9 :: x10 :: x11 :: x12 :: x13 :: x14 :: x15 :: x16 :: x17 :: some z :: r) H2)) := fun _ _ _ _ _ _ _ _ _ _ _ _ _ _ _ _ _ _ _ _ _ _ _ _ => propext ⟨fun ⟨_, a, q⟩ => by cases a; exact q, fun q => ⟨_, rfl, q⟩⟩
theorem w185 : ∀ (x0 x1 x2 x3 x4 x5 x6 x7 x8 x9 x10 x11 x12 x13 x14 x15 x16 x17 : Option V) (y : Option V) (r : St) (vs : List Nat), wipe (x0 :: x1 :: x2 :: x3 :: x4 :: x5 :: x6 :: x7 :: x8 :: x9 :: x10 :: x11 :: x12 :: x13 :: x14 :: x15 :: x16 :: x17 :: y :: r) (18 :: vs) = Setn (wipe (x0 :: x1 :: x2 :: x3 :: x4 :: x5 :: x6 :: x7 :: x8 :: x9 :: x10 :: x11 :: x12 :: x13 :: x14 :: x15 :: x16 :: x17 :: y :: r) vs) 18 := fun _ _ _ _ _ _ _ _ _ _ _ _ _ _ _ _ _ _ _ _ _ => rfl
theorem w186 : ∀ (x0 x1 x2 x3 x4 x5 x6 x7 x8 x9 x10 x11 x12 x13 x14 x15 x16 x17 : Option V) (y : Option V) (r : St), Setn (x0 :: x1 :: x2 :: x3 :: x4 :: x5 :: x6 :: x7 :: x8 :: x9 :: x10 :: x11 :: x12 :: x13 :: x14 :: x15 :: x16 :: x17 :: y :: r) 18 = (x0 :: x1 :: x2 :: x3 :: x4 :: x5 :: x6 :: x7 :: x8 :: x9 :: x10 :: x11 :: x12 :: x13 :: x14 :: x15 :: x16 :: x17 :: none :: r) := fun _ _ _ _ _ _ _ _ _ _ _ _ _ _ _ _ _ _ _ _ => rfl
theorem w187 : ∀ (x0 x1 x2 x3 x4 x5 x6 x7 x8 x9 x10 x11 x12 x13 x14 x15 x16 x17 x18 : Option V) (v : V) (r : St) (H : Hp) (Q : VK), tVar 19 (x0 :: x1 :: x2 :: x3 :: x4 :: x5 :: x6 :: x7 :: x8 :: x9 :: x10 :: x11 :: x12 :: x13 :: x14 :: x15 :: x16 :: x17 :: x18 :: some v :: r) H Q = Q v H := fun _ _ _ _ _ _ _ _ _ _ _ _ _ _ _ _ _ _ _ _ _ _ _ => propext ⟨fun ⟨_, a, q⟩ => by cases a; exact q, fun q => ⟨_, rfl, q⟩⟩
theorem w188 : ∀ (x0 x1 x2 x3 x4 x5 x6 x7 x8 x9 x10 x11 x12 x13 x14 x15 x16 x17 x18 : Option V) (y : Option V) (v : V) (r : St) (H : Hp) (Q : St → Hp → Prop), gName 19 v (x0 :: x1 :: x2 :: x3 :: x4 :: x5 :: x6 :: x7 :: x8 :: x9 :: x10 :: x11 :: x12 :: x13 :: x14 :: x15 :: x16 :: x17 :: x18 :: y :: r) H Q = Q (x0 :: x1 :: x2 :: x3 :: x4 :: x5 :: x6 :: x7 :: x8 :: x9 :: x10 :: x11 :: x12 :: x13 :: x14 :: x15 :: x16 :: x17 :: x18 :: some v :: r) H := fun _ _ _ _ _ _ _ _ _ _ _ _ _ _ _ _ _ _ _ _ _ _ _ _ => rfl
theorem w189 : ∀ (x0 x1 x2 x3 x4 x5 x6 x7 x8 x9 x10 x11 x12 x13 x14 x15 x16 x17 x18 : Option V) (v : V) (r : St) (te : TE) (ti : TIp) (D : Ends) (H : Hp), tAug 19 te ti D (x0 :: x1 :: x2 :: x3 :: x4 :: x5 :: x6 :: x7 :: x8 :: x9 :: x10 :: x11 :: x12 :: x13 :: x14 :: x15 :: x16 :: x17 :: x18 :: some v :: r) H = te (x0 :: x1 :: x2 :: x3 :: x4 :: x5 :: x6 :: x7 :: x8 :: x9 :: x10 :: x11 :: x12 :: x13 :: x14 :: x15 :: x16 :: x17 :: x18 :: some v :: r) H (fun y H1 => ti v y H1 (fun z H2 => D.nx (x0 :: x1 :: x2 :: x3 :: x4 :: x5 :: x6 :: x7 :: x8 :: x9 :: x10 :: x11 :: x12 :: x13 :: x14 :: x15 :: x16 :: x17 :: x18 :: some z :: r) H2)) := fun _ _ _ _ _ _ _ _ _ _ _ _ _ _ _ _ _ _ _ _ _ _ _ _ _ => propext ⟨fun ⟨_, a, q⟩ => by cases a; exact q, fun q => ⟨_, rfl, q⟩⟩
theorem w190 : ∀ (x0 x1 x2 x3 x4 x5 x6 x7 x8 x9 x10 x11 x12 x13 x14 x15 x16 x17 x18 : Option V) (y : Option V) (r : St) (vs : List Nat), wipe (x0 :: x1 :: x2 :: x3 :: x4 :: x5 :: x6 :: x7 :: x8 :: x9 :: x10 :: x11 :: x12 :: x13 :: x14 :: x15 :: x16 :: x17 :: x18 :: y :: r) (19 :: vs) = Setn (wipe (x0 :: x1 :: x2 :: x3 :: x4 :: x5 :: x6 :: x7 :: x8 :: x9 :: x10 :: x11 :: x12 :: x13 :: x14 :: x15 :: x16 :: x17 :: x18 :: y :: r) vs) 19 := fun _ _ _ _ _ _ _ _ _ _ _ _ _ _ _ _ _ _ _ _ _ _ => rfl
theorem w191 : ∀ (x0 x1 x2 x3 x4 x5 x6 x7 x8 x9 x10 x11 x12 x13 x14 x15 x16 x17 x18 : Option V) (y : Option V) (r : St), Setn (x0 :: x1 :: x2 :: x3 :: x4 :: x5 :: x6 :: x7 :: x8 :: x9 :: x10 :: x11 :: x12 :: x13 :: x14 :: x15 :: x16 :: x17 :: x18 :: y :: r) 19 = (x0 :: x1 :: x2 :: x3 :: x4 :: x5 :: x6 :: x7 :: x8 :: x9 :: x10 :: x11 :: x12 :: x13 :: x14 :: x15 :: x16 :: x17 :: x18 :: none :: r) := fun _ _ _ _ _ _ _ _ _ _ _ _ _ _ _ _ _ _ _ _ _ => rfl
theorem w192 : ∀ (v : V) (r : List V), atI (v :: r) 0 = some v := fun _ _ => atI_nat (j := 0) rfl
theorem w193 : ∀ (x0 : V) (v : V) (r : List V), atI (x0 :: v :: r) 1 = some v := fun _ _ _ => atI_nat (j := 1) rfl
theorem w194 : ∀ (x0 x1 : V) (v : V) (r : List V), atI (x0 :: x1 :: v :: r) 2 = some v := fun _ _ _ _ => atI_nat (j := 2) rfl
theorem w195 : ∀ (x0 x1 x2 : V) (v : V) (r : List V), atI (x0 :: x1 :: x2 :: v :: r) 3 = some v := fun _ _ _ _ _ => atI_nat (j := 3) rfl
theorem w196 : ∀ (x0 x1 x2 x3 : V) (v : V) (r : List V), atI (x0 :: x1 :: x2 :: x3 :: v :: r) 4 = some v := fun _ _ _ _ _ _ => atI_nat (j := 4) rfl
theorem w197 : ∀ (x0 x1 x2 x3 x4 : V) (v : V) (r : List V), atI (x0 :: x1 :: x2 :: x3 :: x4 :: v :: r) 5 = some v := fun _ _ _ _ _ _ _ => atI_nat (j := 5) rfl
theorem w198 : ∀ (x0 x1 x2 x3 x4 x5 : V) (v : V) (r : List V), atI (x0 :: x1 :: x2 :: x3 :: x4 :: x5 :: v :: r) 6 = some v := fun _ _ _ _ _ _ _ _ => atI_nat (j := 6) rfl
theorem w199 : ∀ ( y : V) (r : List V), ixN (y :: r).length 0 = some 0 := fun _ _ => by simp only [ixN, List.length_cons]; rw [if_pos (by omega), if_pos (by omega)]; rfl
theorem w200 : ∀ ( y v : V) (r : List V), (y :: r).set 0 v = v :: r := fun _ _ _ => rfl
theorem w201 : ∀ (x0 y : V) (r : List V), ixN (x0 :: y :: r).length 1 = some 1 := fun _ _ _ => by simp only [ixN, List.length_cons]; rw [if_pos (by omega), if_pos (by omega)]; rfl
theorem w202 : ∀ (x0 y v : V) (r : List V), (x0 :: y :: r).set 1 v = x0 :: v :: r := fun _ _ _ _ => rfl
theorem w203 : ∀ (x0 x1 y : V) (r : List V), ixN (x0 :: x1 :: y :: r).length 2 = some 2 := fun _ _ _ _ => by simp only [ixN, List.length_cons]; rw [if_pos (by omega), if_pos (by omega)]; rfl
theorem w204 : ∀ (x0 x1 y v : V) (r : List V), (x0 :: x1 :: y :: r).set 2 v = x0 :: x1 :: v :: r := fun _ _ _ _ _ => rfl
theorem w205 : ∀ (x0 x1 x2 y : V) (r : List V), ixN (x0 :: x1 :: x2 :: y :: r).length 3 = some 3 := fun _ _ _ _ _ => by simp only [ixN, List.length_cons]; rw [if_pos (by omega), if_pos (by omega)]; rfl
theorem w206 : ∀ (x0 x1 x2 y v : V) (r : List V), (x0 :: x1 :: x2 :: y :: r).set 3 v = x0 :: x1 :: x2 :: v :: r := fun _ _ _ _ _ _ => rfl
theorem w207 : ∀ (x0 x1 x2 x3 y : V) (r : List V), ixN (x0 :: x1 :: x2 :: x3 :: y :: r).length 4 = some 4 := fun _ _ _ _ _ _ => by simp only [ixN, List.length_cons]; rw [if_pos (by omega), if_pos (by omega)]; rfl
theorem w208 : ∀ (x0 x1 x2 x3 y v : V) (r : List V), (x0 :: x1 :: x2 :: x3 :: y :: r).set 4 v = x0 :: x1 :: x2 :: x3 :: v :: r := fun _ _ _ _ _ _ _ => rfl
theorem w209 : ∀ (x0 x1 x2 x3 x4 y : V) (r : List V), ixN (x0 :: x1 :: x2 :: x3 :: x4 :: y :: r).length 5 = some 5 := fun _ _ _ _ _ _ _ => by simp only [ixN, List.length_cons]; rw [if_pos (by omega), if_pos (by omega)]; rfl
theorem w210 : ∀ (x0 x1 x2 x3 x4 y v : V) (r : List V), (x0 :: x1 :: x2 :: x3 :: x4 :: y :: r).set 5 v = x0 :: x1 :: x2 :: x3 :: x4 :: v :: r := fun _ _ _ _ _ _ _ _ => rfl
theorem w211 : ∀ (H : Hp) (p a : Addr) (o : HO), H p = none → (H a).isSome = true → upd H p o a = H a := fun H p a o hp ha => by obtain ⟨u, e⟩ := Option.isSome_iff_exists.mp ha; exact upd_ne (ne_of_none e hp)
theorem w212 : ∀ (H : Hp) (p : Addr) (o : HO), upd H p o p = some o := fun _ _ _ => upd_same
theorem w213 : ∀ (i j : Int), (-18446744073709551616 < j ∧ j < 18446744073709551616) → CMul i j = True := fun i j h => eq_true (.inr h)
theorem w214 : ∀ (i j : Int), (-18446744073709551616 < i ∧ i < 18446744073709551616) → CMul i j = True := fun i j h => eq_true (.inl h)
theorem w215 : ∀ (xs : List V), (some xs).isSome = true := fun _ => rfl
theorem w216 : ∀ (x : HO), (some x).isSome = true := fun _ => rfl
theorem w217 : ∀ (x : V) (r : List V), seqIndex? 0 (x :: r).length = some 0 := fun x r => by simp [seqIndex?]
theorem w218 : ∀ (x : V) (r : List V), (x :: r)[0]? = some x := fun _ _ => rfl
theorem w219 : ∀ (x : V) (r : List V), (x :: r).eraseIdx 0 = r := fun _ _ => rfl
theorem w220 : ∀ (c : Nat) (z : Str) (H : Hp) (Q : VK), rInSg (.str ⟨#[c]⟩) (.str z) H Q = Q (.bl (decide (c ∈ z.cps.toList))) H := fun c z H Q => propext ⟨fun ⟨_, _, a, b, q⟩ => by cases a; cases b; exact q, fun q => ⟨c, z, rfl, rfl, q⟩⟩
theorem w221 : ∀ (c : Nat) (z : Str) (H : Hp) (Q : VK), rNiSg (.str ⟨#[c]⟩) (.str z) H Q = Q (.bl (!decide (c ∈ z.cps.toList))) H := fun c z H Q => propext ⟨fun ⟨_, _, a, b, q⟩ => by cases a; cases b; exact q, fun q => ⟨c, z, rfl, rfl, q⟩⟩
theorem w222 : ∀ (i j : Str) (H : Hp) (Q : VK), rAddS (.str i) (.str j) H Q = (i.length + j.length ≤ sizeLine ∧ Q (.str (i ++ j)) H) := fun i j H Q => propext ⟨fun ⟨_, _, a, b, q⟩ => by cases a; cases b; exact q, fun q => ⟨i, j, rfl, rfl, q⟩⟩
theorem w223 : ∀ (p : List Nat → List Nat → Bool) (i j : Str) (H : Hp) (Q : VK), rStC p (.str i) (.str j) H Q = Q (.bl (p i.cps.toList j.cps.toList)) H := fun p i j H Q => propext ⟨fun ⟨_, _, a, b, q⟩ => by cases a; cases b; exact q, fun q => ⟨i, j, rfl, rfl, q⟩⟩
theorem w224 : ∀ (z : Str) (H : Hp) (Q : VK), rLenS [.str z] H Q = (z.length ≤ sizeLine ∧ Q (.int z.length) H) := fun z H Q => propext ⟨fun ⟨_, a, q⟩ => by cases a; exact q, fun q => ⟨z, rfl, q⟩⟩
theorem w225 : ∀ (z : Str) (n : Int) (H : Hp) (Q : VK), rMulS (.str z) (.int n) H Q = (z.length ≤ 4000 ∧ -1000 ≤ n ∧ n ≤ 4000 ∧ ∀ r : Str, r.cps.toList = (List.replicate n.toNat z.cps.toList).flatten → Q (.str r) H) := fun z n H Q => propext ⟨fun ⟨_, _, a, b, q⟩ => by cases a; cases b; exact q, fun q => ⟨z, n, rfl, rfl, q⟩⟩
theorem w226 : ∀ (a : Str) (p : Addr) (H : Hp) (Q : VK), rJoinS (.str a) [.ref p] H Q = (∃ ys : List Str, H p = some (.lst (ys.map V.str)) ∧ (ys.map (·.length)).sum + ys.length * a.length ≤ 16777216 ∧ Q (.str (Str.join a ys)) H) := fun a p H Q => propext ⟨fun ⟨_, _, ys, e1, e2, q⟩ => by cases e1; cases e2; exact ⟨ys, q⟩, fun ⟨ys, q⟩ => ⟨a, p, ys, rfl, rfl, q⟩⟩
theorem w227 : ∀ (i : Str), (∃ a, V.str i = V.str a) = True := fun i => eq_true ⟨i, rfl⟩
theorem w228 : ∀ (a b : Bool) (H : Hp) (Q : VK), rIsB (.bl a) (.bl b) H Q = Q (.bl (decide (a = b))) H := fun a b H Q => propext ⟨fun ⟨_, _, e1, e2, q⟩ => by cases e1; cases e2; exact q, fun q => ⟨a, b, rfl, rfl, q⟩⟩
theorem w229 : ∀ (a b : Bool) (H : Hp) (Q : VK), rNotB (.bl a) (.bl b) H Q = Q (.bl (!decide (a = b))) H := fun a b H Q => propext ⟨fun ⟨_, _, e1, e2, q⟩ => by cases e1; cases e2; exact q, fun q => ⟨a, b, rfl, rfl, q⟩⟩
theorem w230 : ∀ (c : Bool) (j i : Int) (p : Int → Int → Bool) (σ : St) (H : Hp) (Q : VK), Chk c (tC (.int j)) (rI0 (fun i j => V.bl (p i j)) (.int i)) σ H Q = Q (.bl (c && p i j)) H := fun c j i p σ H Q => by cases c <;> simp [Chk, tC, rI0]
theorem w231 : ∀ (c : Bool) (j i : Str) (p : List Nat → List Nat → Bool) (σ : St) (H : Hp) (Q : VK), Chk c (tC (.str j)) (rStC p (.str i)) σ H Q = Q (.bl (c && p i.cps.toList j.cps.toList)) H := fun c j i p σ H Q => by cases c <;> simp [Chk, tC, rStC]
theorem w232 : ∀ (c : Bool) (j i : Int) (p : Int → Int → Bool) (r : St) (H : Hp) (Q : VK), Chk c (tVar 0) (rI0 (fun i j => V.bl (p i j)) (.int i)) (some (.int j) :: r) H Q = Q (.bl (c && p i j)) H := fun c j i p r H Q => by cases c <;> simp [Chk, tVar, rI0]
theorem w233 : ∀ (x0 : Option V) (c : Bool) (j i : Int) (p : Int → Int → Bool) (r : St) (H : Hp) (Q : VK), Chk c (tVar 1) (rI0 (fun i j => V.bl (p i j)) (.int i)) (x0 :: some (.int j) :: r) H Q = Q (.bl (c && p i j)) H := fun x0 c j i p r H Q => by cases c <;> simp [Chk, tVar, rI0]
theorem w234 : ∀ (x0 x1 : Option V) (c : Bool) (j i : Int) (p : Int → Int → Bool) (r : St) (H : Hp) (Q : VK), Chk c (tVar 2) (rI0 (fun i j => V.bl (p i j)) (.int i)) (x0 :: x1 :: some (.int j) :: r) H Q = Q (.bl (c && p i j)) H := fun x0 x1 c j i p r H Q => by cases c <;> simp [Chk, tVar, rI0]
theorem w235 : ∀ (x0 x1 x2 : Option V) (c : Bool) (j i : Int) (p : Int → Int → Bool) (r : St) (H : Hp) (Q : VK), Chk c (tVar 3) (rI0 (fun i j => V.bl (p i j)) (.int i)) (x0 :: x1 :: x2 :: some (.int j) :: r) H Q = Q (.bl (c && p i j)) H := fun x0 x1 x2 c j i p r H Q => by cases c <;> simp [Chk, tVar, rI0]
theorem w236 : ∀ (x0 x1 x2 x3 : Option V) (c : Bool) (j i : Int) (p : Int → Int → Bool) (r : St) (H : Hp) (Q : VK), Chk c (tVar 4) (rI0 (fun i j => V.bl (p i j)) (.int i)) (x0 :: x1 :: x2 :: x3 :: some (.int j) :: r) H Q = Q (.bl (c && p i j)) H := fun x0 x1 x2 x3 c j i p r H Q => by cases c <;> simp [Chk, tVar, rI0]
theorem w237 : ∀ (x0 x1 x2 x3 x4 : Option V) (c : Bool) (j i : Int) (p : Int → Int → Bool) (r : St) (H : Hp) (Q : VK), Chk c (tVar 5) (rI0 (fun i j => V.bl (p i j)) (.int i)) (x0 :: x1 :: x2 :: x3 :: x4 :: some (.int j) :: r) H Q = Q (.bl (c && p i j)) H := fun x0 x1 x2 x3 x4 c j i p r H Q => by cases c <;> simp [Chk, tVar, rI0]
theorem w238 : ∀ (x0 x1 x2 x3 x4 x5 : Option V) (c : Bool) (j i : Int) (p : Int → Int → Bool) (r : St) (H : Hp) (Q : VK), Chk c (tVar 6) (rI0 (fun i j => V.bl (p i j)) (.int i)) (x0 :: x1 :: x2 :: x3 :: x4 :: x5 :: some (.int j) :: r) H Q = Q (.bl (c && p i j)) H := fun x0 x1 x2 x3 x4 x5 c j i p r H Q => by cases c <;> simp [Chk, tVar, rI0]
theorem w239 : ∀ (x0 x1 x2 x3 x4 x5 x6 : Option V) (c : Bool) (j i : Int) (p : Int → Int → Bool) (r : St) (H : Hp) (Q : VK), Chk c (tVar 7) (rI0 (fun i j => V.bl (p i j)) (.int i)) (x0 :: x1 :: x2 :: x3 :: x4 :: x5 :: x6 :: some (.int j) :: r) H Q = Q (.bl (c && p i j)) H := fun x0 x1 x2 x3 x4 x5 x6 c j i p r H Q => by cases c <;> simp [Chk, tVar, rI0]
theorem w240 : ∀ (x0 x1 x2 x3 x4 x5 x6 x7 : Option V) (c : Bool) (j i : Int) (p : Int → Int → Bool) (r : St) (H : Hp) (Q : VK), Chk c (tVar 8) (rI0 (fun i j => V.bl (p i j)) (.int i)) (x0 :: x1 :: x2 :: x3 :: x4 :: x5 :: x6 :: x7 :: some (.int j) :: r) H Q = Q (.bl (c && p i j)) H := fun x0 x1 x2 x3 x4 x5 x6 x7 c j i p r H Q => by cases c <;> simp [Chk, tVar, rI0]
theorem w241 : ∀ (x0 x1 x2 x3 x4 x5 x6 x7 x8 : Option V) (c : Bool) (j i : Int) (p : Int → Int → Bool) (r : St) (H : Hp) (Q : VK), Chk c (tVar 9) (rI0 (fun i j => V.bl (p i j)) (.int i)) (x0 :: x1 :: x2 :: x3 :: x4 :: x5 :: x6 :: x7 :: x8 :: some (.int j) :: r) H Q = Q (.bl (c && p i j)) H := fun x0 x1 x2 x3 x4 x5 x6 x7 x8 c j i p r H Q => by cases c <;> simp [Chk, tVar, rI0]
theorem w242 : ∀ (x0 x1 x2 x3 x4 x5 x6 x7 x8 x9 : Option V) (c : Bool) (j i : Int) (p : Int → Int → Bool) (r : St) (H : Hp) (Q : VK), Chk c (tVar 10) (rI0 (fun i j => V.bl (p i j)) (.int i)) (x0 :: x1 :: x2 :: x3 :: x4 :: x5 :: x6 :: x7 :: x8 :: x9 :: some (.int j) :: r) H Q = Q (.bl (c && p i j)) H := fun x0 x1 x2 x3 x4 x5 x6 x7 x8 x9 c j i p r H Q => by cases c <;> simp [Chk, tVar, rI0]
theorem w243 : ∀ (x0 x1 x2 x3 x4 x5 x6 x7 x8 x9 x10 : Option V) (c : Bool) (j i : Int) (p : Int → Int → Bool) (r : St) (H : Hp) (Q : VK), Chk c (tVar 11) (rI0 (fun i j => V.bl (p i j)) (.int i)) (x0 :: x1 :: x2 :: x3 :: x4 :: x5 :: x6 :: x7 :: x8 :: x9 :: x10 :: some (.int j) :: r) H Q = Q (.bl (c && p i j)) H := fun x0 x1 x2 x3 x4 x5 x6 x7 x8 x9 x10 c j i p r H Q => by cases c <;> simp [Chk, tVar, rI0]
theorem w244 : ∀ (x0 x1 x2 x3 x4 x5 x6 x7 x8 x9 x10 x11 : Option V) (c : Bool) (j i : Int) (p : Int → Int → Bool) (r : St) (H : Hp) (Q : VK), Chk c (tVar 12) (rI0 (fun i j => V.bl (p i j)) (.int i)) (x0 :: x1 :: x2 :: x3 :: x4 :: x5 :: x6 :: x7 :: x8 :: x9 :: x10 :: x11 :: some (.int j) :: r) H Q = Q (.bl (c && p i j)) H := fun x0 x1 x2 x3 x4 x5 x6 x7 x8 x9 x10 x11 c j i p r H Q => by cases c <;> simp [Chk, tVar, rI0]
theorem w245 : ∀ (x0 x1 x2 x3 x4 x5 x6 x7 x8 x9 x10 x11 x12 : Option V) (c : Bool) (j i : Int) (p : Int → Int → Bool) (r : St) (H : Hp) (Q : VK), Chk c (tVar 13) (rI0 (fun i j => V.bl (p i j)) (.int i)) (x0 :: x1 :: x2 :: x3 :: x4 :: x5 :: x6 :: x7 :: x8 :: x9 :: x10 :: x11 :: x12 :: some (.int j) :: r) H Q = Q (.bl (c && p i j)) H := fun x0 x1 x2 x3 x4 x5 x6 x7 x8 x9 x10 x11 x12 c j i p r H Q => by cases c <;> simp [Chk, tVar, rI0]
theorem w246 : ∀ (x0 x1 x2 x3 x4 x5 x6 x7 x8 x9 x10 x11 x12 x13 : Option V) (c : Bool) (j i : Int) (p : Int → Int → Bool) (r : St) (H : Hp) (Q : VK), Chk c (tVar 14) (rI0 (fun i j => V.bl (p i j)) (.int i)) (x0 :: x1 :: x2 :: x3 :: x4 :: x5 :: x6 :: x7 :: x8 :: x9 :: x10 :: x11 :: x12 :: x13 :: some (.int j) :: r) H Q = Q (.bl (c && p i j)) H := fun x0 x1 x2 x3 x4 x5 x6 x7 x8 x9 x10 x11 x12 x13 c j i p r H Q => by cases c <;> simp [Chk, tVar, rI0]
theorem w247 : ∀ (x0 x1 x2 x3 x4 x5 x6 x7 x8 x9 x10 x11 x12 x13 x14 : Option V) (c : Bool) (j i : Int) (p : Int → Int → Bool) (r : St) (H : Hp) (Q : VK), Chk c (tVar 15) (rI0 (fun i j => V.bl (p i j)) (.int i)) (x0 :: x1 :: x2 :: x3 :: x4 :: x5 :: x6 :: x7 :: x8 :: x9 :: x10 :: x11 :: x12 :: x13 :: x14 :: some (.int j) :: r) H Q = Q (.bl (c && p i j)) H := fun x0 x1 x2 x3 x4 x5 x6 x7 x8 x9 x10 x11 x12 x13 x14 c j i p r H Q => by cases c <;> simp [Chk, tVar, rI0]
theorem w248 : ∀ (CX : CXT) (P : Program) (w : World) (K : PySem.W.Frag) (mg : Str → Option Value) (base : Heap) (N : List Str) (qual : Str) (scope : Scope) (f : Addr) (cd : Value) (A : Around) (outer : List Env) (s : Shared) (H : Hp) (E : XK), (cxOf CX P w K mg base N qual scope f cd A outer s H E).K = K := fun _ _ _ _ _ _ _ _ _ _ _ _ _ _ _ _ => rfl
theorem w249 : ∀ (i j : Int), (0 ≤ j ∧ j ≤ 1000000 ∧ -18446744073709551616 < i ∧ i < 18446744073709551616) → CPow i j = True := fun i j h => eq_true ⟨h.1, h.2.1, by omega⟩
theorem w250 : (([] : List V).length ≤ sizeLine) = True := eq_true (by show 0 ≤ sizeLine; decide)
theorem w251 : ∀ (x0 : V), (([x0] : List V).length ≤ sizeLine) = True := fun x0 => eq_true (by show 1 ≤ sizeLine; decide)
theorem w252 : ∀ (x0 x1 : V), (([x0, x1] : List V).length ≤ sizeLine) = True := fun x0 x1 => eq_true (by show 2 ≤ sizeLine; decide)
theorem w253 : ∀ (x0 x1 x2 : V), (([x0, x1, x2] : List V).length ≤ sizeLine) = True := fun x0 x1 x2 => eq_true (by show 3 ≤ sizeLine; decide)
theorem w254 : ∀ (x0 x1 x2 x3 : V), (([x0, x1, x2, x3] : List V).length ≤ sizeLine) = True := fun x0 x1 x2 x3 => eq_true (by show 4 ≤ sizeLine; decide)
theorem w255 : ∀ (x0 x1 x2 x3 x4 : V), (([x0, x1, x2, x3, x4] : List V).length ≤ sizeLine) = True := fun x0 x1 x2 x3 x4 => eq_true (by show 5 ≤ sizeLine; decide)
theorem w256 : ∀ (x0 x1 x2 x3 x4 x5 : V), (([x0, x1, x2, x3, x4, x5] : List V).length ≤ sizeLine) = True := fun x0 x1 x2 x3 x4 x5 => eq_true (by show 6 ≤ sizeLine; decide)
theorem w257 : ∀ (x0 x1 x2 x3 x4 x5 x6 : V), (([x0, x1, x2, x3, x4, x5, x6] : List V).length ≤ sizeLine) = True := fun x0 x1 x2 x3 x4 x5 x6 => eq_true (by show 7 ≤ sizeLine; decide)
theorem w258 : ∀ (x0 x1 x2 x3 x4 x5 x6 x7 : V), (([x0, x1, x2, x3, x4, x5, x6, x7] : List V).length ≤ sizeLine) = True := fun x0 x1 x2 x3 x4 x5 x6 x7 => eq_true (by show 8 ≤ sizeLine; decide)
theorem w259 : ∀ (i : Int) (H : Hp) (Q : VK), rIsq [.int i, .ty "int"] H Q = Q (.bl true) H := fun i H Q => propext ⟨fun ⟨_, _, _, _, e, k, kb, q⟩ => by cases e; cases k; rw [show kitB "int" "int" = some true by decide +kernel] at kb; cases kb; exact q, fun q => ⟨_, _, _, _, rfl, rfl, by decide +kernel, q⟩⟩
theorem w260 : ∀ (i : Int) (H : Hp) (Q : VK), rIsq [.int i, .ty "bool"] H Q = Q (.bl false) H := fun i H Q => propext ⟨fun ⟨_, _, _, _, e, k, kb, q⟩ => by cases e; cases k; rw [show kitB "int" "bool" = some false by decide +kernel] at kb; cases kb; exact q, fun q => ⟨_, _, _, _, rfl, rfl, by decide +kernel, q⟩⟩
theorem w261 : ∀ (i : Int) (H : Hp) (Q : VK), rIsq [.int i, .ty "str"] H Q = Q (.bl false) H := fun i H Q => propext ⟨fun ⟨_, _, _, _, e, k, kb, q⟩ => by cases e; cases k; rw [show kitB "int" "str" = some false by decide +kernel] at kb; cases kb; exact q, fun q => ⟨_, _, _, _, rfl, rfl, by decide +kernel, q⟩⟩
theorem w262 : ∀ (i : Int) (H : Hp) (Q : VK), rIsq [.int i, .ty "list"] H Q = Q (.bl false) H := fun i H Q => propext ⟨fun ⟨_, _, _, _, e, k, kb, q⟩ => by cases e; cases k; rw [show kitB "int" "list" = some false by decide +kernel] at kb; cases kb; exact q, fun q => ⟨_, _, _, _, rfl, rfl, by decide +kernel, q⟩⟩
theorem w263 : ∀ (i : Int) (H : Hp) (Q : VK), rIsq [.int i, .ty "tuple"] H Q = Q (.bl false) H := fun i H Q => propext ⟨fun ⟨_, _, _, _, e, k, kb, q⟩ => by cases e; cases k; rw [show kitB "int" "tuple" = some false by decide +kernel] at kb; cases kb; exact q, fun q => ⟨_, _, _, _, rfl, rfl, by decide +kernel, q⟩⟩
theorem w264 : ∀ (i : Bool) (H : Hp) (Q : VK), rIsq [.bl i, .ty "int"] H Q = Q (.bl true) H := fun i H Q => propext ⟨fun ⟨_, _, _, _, e, k, kb, q⟩ => by cases e; cases k; rw [show kitB "bool" "int" = some true by decide +kernel] at kb; cases kb; exact q, fun q => ⟨_, _, _, _, rfl, rfl, by decide +kernel, q⟩⟩
theorem w265 : ∀ (i : Bool) (H : Hp) (Q : VK), rIsq [.bl i, .ty "bool"] H Q = Q (.bl true) H := fun i H Q => propext ⟨fun ⟨_, _, _, _, e, k, kb, q⟩ => by cases e; cases k; rw [show kitB "bool" "bool" = some true by decide +kernel] at kb; cases kb; exact q, fun q => ⟨_, _, _, _, rfl, rfl, by decide +kernel, q⟩⟩
theorem w266 : ∀ (i : Bool) (H : Hp) (Q : VK), rIsq [.bl i, .ty "str"] H Q = Q (.bl false) H := fun i H Q => propext ⟨fun ⟨_, _, _, _, e, k, kb, q⟩ => by cases e; cases k; rw [show kitB "bool" "str" = some false by decide +kernel] at kb; cases kb; exact q, fun q => ⟨_, _, _, _, rfl, rfl, by decide +kernel, q⟩⟩
theorem w267 : ∀ (i : Bool) (H : Hp) (Q : VK), rIsq [.bl i, .ty "list"] H Q = Q (.bl false) H := fun i H Q => propext ⟨fun ⟨_, _, _, _, e, k, kb, q⟩ => by cases e; cases k; rw [show kitB "bool" "list" = some false by decide +kernel] at kb; cases kb; exact q, fun q => ⟨_, _, _, _, rfl, rfl, by decide +kernel, q⟩⟩
theorem w268 : ∀ (i : Bool) (H : Hp) (Q : VK), rIsq [.bl i, .ty "tuple"] H Q = Q (.bl false) H := fun i H Q => propext ⟨fun ⟨_, _, _, _, e, k, kb, q⟩ => by cases e; cases k; rw [show kitB "bool" "tuple" = some false by decide +kernel] at kb; cases kb; exact q, fun q => ⟨_, _, _, _, rfl, rfl, by decide +kernel, q⟩⟩
theorem w269 : ∀ (i : Str) (H : Hp) (Q : VK), rIsq [.str i, .ty "int"] H Q = Q (.bl false) H := fun i H Q => propext ⟨fun ⟨_, _, _, _, e, k, kb, q⟩ => by cases e; cases k; rw [show kitB "str" "int" = some false by decide +kernel] at kb; cases kb; exact q, fun q => ⟨_, _, _, _, rfl, rfl, by decide +kernel, q⟩⟩
theorem w270 : ∀ (i : Str) (H : Hp) (Q : VK), rIsq [.str i, .ty "bool"] H Q = Q (.bl false) H := fun i H Q => propext ⟨fun ⟨_, _, _, _, e, k, kb, q⟩ => by cases e; cases k; rw [show kitB "str" "bool" = some false by decide +kernel] at kb; cases kb; exact q, fun q => ⟨_, _, _, _, rfl, rfl, by decide +kernel, q⟩⟩
theorem w271 : ∀ (i : Str) (H : Hp) (Q : VK), rIsq [.str i, .ty "str"] H Q = Q (.bl true) H := fun i H Q => propext ⟨fun ⟨_, _, _, _, e, k, kb, q⟩ => by cases e; cases k; rw [show kitB "str" "str" = some true by decide +kernel] at kb; cases kb; exact q, fun q => ⟨_, _, _, _, rfl, rfl, by decide +kernel, q⟩⟩
theorem w272 : ∀ (i : Str) (H : Hp) (Q : VK), rIsq [.str i, .ty "list"] H Q = Q (.bl false) H := fun i H Q => propext ⟨fun ⟨_, _, _, _, e, k, kb, q⟩ => by cases e; cases k; rw [show kitB "str" "list" = some false by decide +kernel] at kb; cases kb; exact q, fun q => ⟨_, _, _, _, rfl, rfl, by decide +kernel, q⟩⟩
theorem w273 : ∀ (i : Str) (H : Hp) (Q : VK), rIsq [.str i, .ty "tuple"] H Q = Q (.bl false) H := fun i H Q => propext ⟨fun ⟨_, _, _, _, e, k, kb, q⟩ => by cases e; cases k; rw [show kitB "str" "tuple" = some false by decide +kernel] at kb; cases kb; exact q, fun q => ⟨_, _, _, _, rfl, rfl, by decide +kernel, q⟩⟩
theorem w274 : ∀ (H : Hp) (Q : VK), rIsq [.non, .ty "int"] H Q = Q (.bl false) H := fun H Q => propext ⟨fun ⟨_, _, _, _, e, k, kb, q⟩ => by cases e; cases k; rw [show kitB "NoneType" "int" = some false by decide +kernel] at kb; cases kb; exact q, fun q => ⟨_, _, _, _, rfl, rfl, by decide +kernel, q⟩⟩
theorem w275 : ∀ (H : Hp) (Q : VK), rIsq [.non, .ty "bool"] H Q = Q (.bl false) H := fun H Q => propext ⟨fun ⟨_, _, _, _, e, k, kb, q⟩ => by cases e; cases k; rw [show kitB "NoneType" "bool" = some false by decide +kernel] at kb; cases kb; exact q, fun q => ⟨_, _, _, _, rfl, rfl, by decide +kernel, q⟩⟩
theorem w276 : ∀ (H : Hp) (Q : VK), rIsq [.non, .ty "str"] H Q = Q (.bl false) H := fun H Q => propext ⟨fun ⟨_, _, _, _, e, k, kb, q⟩ => by cases e; cases k; rw [show kitB "NoneType" "str" = some false by decide +kernel] at kb; cases kb; exact q, fun q => ⟨_, _, _, _, rfl, rfl, by decide +kernel, q⟩⟩
theorem w277 : ∀ (H : Hp) (Q : VK), rIsq [.non, .ty "list"] H Q = Q (.bl false) H := fun H Q => propext ⟨fun ⟨_, _, _, _, e, k, kb, q⟩ => by cases e; cases k; rw [show kitB "NoneType" "list" = some false by decide +kernel] at kb; cases kb; exact q, fun q => ⟨_, _, _, _, rfl, rfl, by decide +kernel, q⟩⟩
theorem w278 : ∀ (H : Hp) (Q : VK), rIsq [.non, .ty "tuple"] H Q = Q (.bl false) H := fun H Q => propext ⟨fun ⟨_, _, _, _, e, k, kb, q⟩ => by cases e; cases k; rw [show kitB "NoneType" "tuple" = some false by decide +kernel] at kb; cases kb; exact q, fun q => ⟨_, _, _, _, rfl, rfl, by decide +kernel, q⟩⟩
theorem w279 : ∀ (p : Addr) (H : Hp) (Q : VK), (lstOf (H p)).isSome = true → rIsq [.ref p, .ty "int"] H Q = Q (.bl false) H := fun p H Q h => by obtain ⟨xs, e⟩ := Option.isSome_iff_exists.mp h; have e := of_lstOf e; have k2 : kindV H (.ref p) = some "list" := (by show kindO (H p) = _; rw [e]; rfl); exact propext ⟨fun ⟨_, _, _, _, e1, k, kb, q⟩ => (by cases e1; rw [k2] at k; cases k; rw [show kitB "list" "int" = some false by decide +kernel] at kb; cases kb; exact q), fun q => ⟨_, _, _, _, rfl, k2, by decide +kernel, q⟩⟩
theorem w280 : ∀ (p : Addr) (H : Hp) (Q : VK), (lstOf (H p)).isSome = true → rIsq [.ref p, .ty "bool"] H Q = Q (.bl false) H := fun p H Q h => by obtain ⟨xs, e⟩ := Option.isSome_iff_exists.mp h; have e := of_lstOf e; have k2 : kindV H (.ref p) = some "list" := (by show kindO (H p) = _; rw [e]; rfl); exact propext ⟨fun ⟨_, _, _, _, e1, k, kb, q⟩ => (by cases e1; rw [k2] at k; cases k; rw [show kitB "list" "bool" = some false by decide +kernel] at kb; cases kb; exact q), fun q => ⟨_, _, _, _, rfl, k2, by decide +kernel, q⟩⟩
theorem w281 : ∀ (p : Addr) (H : Hp) (Q : VK), (lstOf (H p)).isSome = true → rIsq [.ref p, .ty "str"] H Q = Q (.bl false) H := fun p H Q h => by obtain ⟨xs, e⟩ := Option.isSome_iff_exists.mp h; have e := of_lstOf e; have k2 : kindV H (.ref p) = some "list" := (by show kindO (H p) = _; rw [e]; rfl); exact propext ⟨fun ⟨_, _, _, _, e1, k, kb, q⟩ => (by cases e1; rw [k2] at k; cases k; rw [show kitB "list" "str" = some false by decide +kernel] at kb; cases kb; exact q), fun q => ⟨_, _, _, _, rfl, k2, by decide +kernel, q⟩⟩
theorem w282 : ∀ (p : Addr) (H : Hp) (Q : VK), (lstOf (H p)).isSome = true → rIsq [.ref p, .ty "list"] H Q = Q (.bl true) H := fun p H Q h => by obtain ⟨xs, e⟩ := Option.isSome_iff_exists.mp h; have e := of_lstOf e; have k2 : kindV H (.ref p) = some "list" := (by show kindO (H p) = _; rw [e]; rfl); exact propext ⟨fun ⟨_, _, _, _, e1, k, kb, q⟩ => (by cases e1; rw [k2] at k; cases k; rw [show kitB "list" "list" = some true by decide +kernel] at kb; cases kb; exact q), fun q => ⟨_, _, _, _, rfl, k2, by decide +kernel, q⟩⟩
theorem w283 : ∀ (p : Addr) (H : Hp) (Q : VK), (lstOf (H p)).isSome = true → rIsq [.ref p, .ty "tuple"] H Q = Q (.bl false) H := fun p H Q h => by obtain ⟨xs, e⟩ := Option.isSome_iff_exists.mp h; have e := of_lstOf e; have k2 : kindV H (.ref p) = some "list" := (by show kindO (H p) = _; rw [e]; rfl); exact propext ⟨fun ⟨_, _, _, _, e1, k, kb, q⟩ => (by cases e1; rw [k2] at k; cases k; rw [show kitB "list" "tuple" = some false by decide +kernel] at kb; cases kb; exact q), fun q => ⟨_, _, _, _, rfl, k2, by decide +kernel, q⟩⟩
theorem w284 : ∀ (p : Addr) (H : Hp) (Q : VK), (tupOf (H p)).isSome = true → rIsq [.ref p, .ty "int"] H Q = Q (.bl false) H := fun p H Q h => by obtain ⟨xs, e⟩ := Option.isSome_iff_exists.mp h; have e := of_tupOf e; have k2 : kindV H (.ref p) = some "tuple" := (by show kindO (H p) = _; rw [e]; rfl); exact propext ⟨fun ⟨_, _, _, _, e1, k, kb, q⟩ => (by cases e1; rw [k2] at k; cases k; rw [show kitB "tuple" "int" = some false by decide +kernel] at kb; cases kb; exact q), fun q => ⟨_, _, _, _, rfl, k2, by decide +kernel, q⟩⟩
theorem w285 : ∀ (p : Addr) (H : Hp) (Q : VK), (tupOf (H p)).isSome = true → rIsq [.ref p, .ty "bool"] H Q = Q (.bl false) H := fun p H Q h => by obtain ⟨xs, e⟩ := Option.isSome_iff_exists.mp h; have e := of_tupOf e; have k2 : kindV H (.ref p) = some "tuple" := (by show kindO (H p) = _; rw [e]; rfl); exact propext ⟨fun ⟨_, _, _, _, e1, k, kb, q⟩ => (by cases e1; rw [k2] at k; cases k; rw [show kitB "tuple" "bool" = some false by decide +kernel] at kb; cases kb; exact q), fun q => ⟨_, _, _, _, rfl, k2, by decide +kernel, q⟩⟩
theorem w286 : ∀ (p : Addr) (H : Hp) (Q : VK), (tupOf (H p)).isSome = true → rIsq [.ref p, .ty "str"] H Q = Q (.bl false) H := fun p H Q h => by obtain ⟨xs, e⟩ := Option.isSome_iff_exists.mp h; have e := of_tupOf e; have k2 : kindV H (.ref p) = some "tuple" := (by show kindO (H p) = _; rw [e]; rfl); exact propext ⟨fun ⟨_, _, _, _, e1, k, kb, q⟩ => (by cases e1; rw [k2] at k; cases k; rw [show kitB "tuple" "str" = some false by decide +kernel] at kb; cases kb; exact q), fun q => ⟨_, _, _, _, rfl, k2, by decide +kernel, q⟩⟩
theorem w287 : ∀ (p : Addr) (H : Hp) (Q : VK), (tupOf (H p)).isSome = true → rIsq [.ref p, .ty "list"] H Q = Q (.bl false) H := fun p H Q h => by obtain ⟨xs, e⟩ := Option.isSome_iff_exists.mp h; have e := of_tupOf e; have k2 : kindV H (.ref p) = some "tuple" := (by show kindO (H p) = _; rw [e]; rfl); exact propext ⟨fun ⟨_, _, _, _, e1, k, kb, q⟩ => (by cases e1; rw [k2] at k; cases k; rw [show kitB "tuple" "list" = some false by decide +kernel] at kb; cases kb; exact q), fun q => ⟨_, _, _, _, rfl, k2, by decide +kernel, q⟩⟩
theorem w288 : ∀ (p : Addr) (H : Hp) (Q : VK), (tupOf (H p)).isSome = true → rIsq [.ref p, .ty "tuple"] H Q = Q (.bl true) H := fun p H Q h => by obtain ⟨xs, e⟩ := Option.isSome_iff_exists.mp h; have e := of_tupOf e; have k2 : kindV H (.ref p) = some "tuple" := (by show kindO (H p) = _; rw [e]; rfl); exact propext ⟨fun ⟨_, _, _, _, e1, k, kb, q⟩ => (by cases e1; rw [k2] at k; cases k; rw [show kitB "tuple" "tuple" = some true by decide +kernel] at kb; cases kb; exact q), fun q => ⟨_, _, _, _, rfl, k2, by decide +kernel, q⟩⟩
theorem w289 : ∀ (i j : Int) (H : Hp) (Q : VK), rMx [.int i, .int j] H Q = Q (.int (max i j)) H := fun i j H Q => propext ⟨fun ⟨_, _, e, q⟩ => by cases e; exact q, fun q => ⟨i, j, rfl, q⟩⟩
theorem w290 : ∀ (i j : Int) (H : Hp) (Q : VK), rMn [.int i, .int j] H Q = Q (.int (min i j)) H := fun i j H Q => propext ⟨fun ⟨_, _, e, q⟩ => by cases e; exact q, fun q => ⟨i, j, rfl, q⟩⟩
theorem w291 : ∀ (i : Int) (H : Hp) (Q : VK), rIsNq (.int i) .non H Q = Q (.bl false) H := fun i H Q => propext ⟨fun ⟨_, q⟩ => q, fun q => ⟨rfl, q⟩⟩
theorem w292 : ∀ (i : Bool) (H : Hp) (Q : VK), rIsNq (.bl i) .non H Q = Q (.bl false) H := fun i H Q => propext ⟨fun ⟨_, q⟩ => q, fun q => ⟨rfl, q⟩⟩
theorem w293 : ∀ (i : Str) (H : Hp) (Q : VK), rIsNq (.str i) .non H Q = Q (.bl false) H := fun i H Q => propext ⟨fun ⟨_, q⟩ => q, fun q => ⟨rfl, q⟩⟩
theorem w294 : ∀ (i : Addr) (H : Hp) (Q : VK), rIsNq (.ref i) .non H Q = Q (.bl false) H := fun i H Q => propext ⟨fun ⟨_, q⟩ => q, fun q => ⟨rfl, q⟩⟩
theorem w295 : ∀ (H : Hp) (Q : VK), rIsNq (.non) .non H Q = Q (.bl true) H := fun H Q => propext ⟨fun ⟨_, q⟩ => q, fun q => ⟨rfl, q⟩⟩
theorem w296 : ∀ (i : Int) (H : Hp) (Q : VK), rNoNq (.int i) .non H Q = Q (.bl true) H := fun i H Q => propext ⟨fun ⟨_, q⟩ => q, fun q => ⟨rfl, q⟩⟩
theorem w297 : ∀ (i : Bool) (H : Hp) (Q : VK), rNoNq (.bl i) .non H Q = Q (.bl true) H := fun i H Q => propext ⟨fun ⟨_, q⟩ => q, fun q => ⟨rfl, q⟩⟩
theorem w298 : ∀ (i : Str) (H : Hp) (Q : VK), rNoNq (.str i) .non H Q = Q (.bl true) H := fun i H Q => propext ⟨fun ⟨_, q⟩ => q, fun q => ⟨rfl, q⟩⟩
theorem w299 : ∀ (i : Addr) (H : Hp) (Q : VK), rNoNq (.ref i) .non H Q = Q (.bl true) H := fun i H Q => propext ⟨fun ⟨_, q⟩ => q, fun q => ⟨rfl, q⟩⟩
theorem w300 : ∀ (H : Hp) (Q : VK), rNoNq (.non) .non H Q = Q (.bl false) H := fun H Q => propext ⟨fun ⟨_, q⟩ => q, fun q => ⟨rfl, q⟩⟩
theorem w301 : ∀ (i : Int) (H : Hp) (Q : VK), rStrI [.int i] H Q = (i.natAbs.log2 < 1920 ∧ Q (.str (toString i)) H) := fun i H Q => propext ⟨fun ⟨_, e, q⟩ => by cases e; exact q, fun q => ⟨i, rfl, q⟩⟩
theorem w302 : ∀ (x : V) (p : Addr) (H : Hp) (Q : VK), rInL true x (.ref p) H Q = (∃ xs, seqOf (H p) = some xs ∧ flatV x = true ∧ xs.all flatV = true ∧ Q (.bl (!inV x xs)) H) := fun x p H Q => propext ⟨fun ⟨_, xs, e, q⟩ => by cases e; exact ⟨xs, q⟩, fun ⟨xs, q⟩ => ⟨p, xs, rfl, q⟩⟩
theorem w303 : ∀ (x : V) (p : Addr) (H : Hp) (Q : VK), rInL false x (.ref p) H Q = (∃ xs, seqOf (H p) = some xs ∧ flatV x = true ∧ xs.all flatV = true ∧ Q (.bl (inV x xs)) H) := fun x p H Q => propext ⟨fun ⟨_, xs, e, q⟩ => by cases e; exact ⟨xs, q⟩, fun ⟨xs, q⟩ => ⟨p, xs, rfl, q⟩⟩
theorem w304 : ∀ (i : Str), flatV (.str i) = true := fun _ => rfl
theorem w305 : ∀ (i : Int), flatV (.int i) = true := fun _ => rfl
theorem w306 : ∀ (l b : Addr) (H : Hp) (Q : VK), rCatq (.ref l) (.ref b) H Q = (∃ xs, lstOf (H l) = some xs ∧ ∃ zs, lstOf (H b) = some zs ∧ xs.length + zs.length ≤ sizeLine ∧ New H (.lst (xs ++ zs)) (fun p H2 => Q (.ref p) H2)) := fun l b H Q => propext ⟨fun ⟨_, _, xs, zs, e1, e2, a, c, q⟩ => by cases e1; cases e2; exact ⟨xs, a, zs, c, q⟩, fun ⟨xs, a, zs, c, q⟩ => ⟨l, b, xs, zs, rfl, rfl, a, c, q⟩⟩
theorem w307 : ∀ (a : Addr) (H : Hp) (Q : VK), rSumq [.ref a] H Q = (∃ ns, lstOf (H a) = some (ns.map V.int) ∧ Q (.int (List.sum ns)) H) := fun a H Q => propext ⟨fun ⟨_, ns, e, q⟩ => by cases e; exact ⟨ns, q⟩, fun ⟨ns, q⟩ => ⟨a, ns, rfl, q⟩⟩
theorem w308 : ∀ (a : Addr) (H : Hp) (Q : VK), rSrtq [.ref a] H Q = (∃ ns, lstOf (H a) = some (ns.map V.int) ∧ ∀ (ns' : List Int) (p : Addr), ns'.Perm ns → ns'.Pairwise (· ≤ ·) → H p = none → Q (.ref p) (upd H p (.lst (ns'.map V.int)))) := fun a H Q => propext ⟨fun ⟨_, ns, e, q⟩ => by cases e; exact ⟨ns, q⟩, fun ⟨ns, q⟩ => ⟨a, ns, rfl, q⟩⟩
theorem wp : (∀ (t u : TS) (D : Ends) (σ : St) (H : Hp), tSeq t u D σ H = t ⟨u D, D.rt, D.bk, D.ct⟩ σ H) ∧
  (∀ (D : Ends) (σ : St) (H : Hp), tNext D σ H = D.nx σ H) ∧
  (∀ (D : Ends) (σ : St) (H : Hp), tBreak D σ H = D.bk σ H) ∧
  (∀ (D : Ends) (σ : St) (H : Hp), tCont D σ H = D.ct σ H) ∧
  (∀ (v : V) (σ : St) (H : Hp) (Q : VK), tC v σ H Q = Q v H) ∧
  (∀ (r : R2) (a b : TE) (σ : St) (H : Hp) (Q : VK), tOp r a b σ H Q = a σ H (fun x H1 => b σ H1 (fun y H2 => r x y H2 Q))) ∧
  (∀ (r : V → Hp → VK → Prop) (a : TE) (σ : St) (H : Hp) (Q : VK), tUn r a σ H Q = a σ H (fun x H1 => r x H1 Q)) ∧
  (∀ (C : Int → Int → Prop) (g : Int → Int → V) (i j : Int) (H : Hp) (Q : VK), rI C g (.int i) (.int j) H Q = (C i j ∧ Q (g i j) H)) ∧
  (∀ (g : Int → Int → V) (i j : Int) (H : Hp) (Q : VK), rI0 g (.int i) (.int j) H Q = Q (g i j) H) ∧
  (∀ (g : Int → V) (i : Int) (H : Hp) (Q : VK), rU g (.int i) H Q = Q (g i) H) ∧
  (∀ (i j : Int) (H : Hp) (Q : VK), rEq (.int i) (.int j) H Q = Q (.bl (decide (i = j))) H) ∧
  (∀ (i j : Str) (H : Hp) (Q : VK), rEq (.str i) (.str j) H Q = Q (.bl (decide (i = j))) H) ∧
  (∀ (i j : Bool) (H : Hp) (Q : VK), rEq (.bl i) (.bl j) H Q = Q (.bl (decide (i = j))) H) ∧
  (∀ (i j : Int) (H : Hp) (Q : VK), rNe (.int i) (.int j) H Q = Q (.bl (!decide (i = j))) H) ∧
  (∀ (i j : Str) (H : Hp) (Q : VK), rNe (.str i) (.str j) H Q = Q (.bl (!decide (i = j))) H) ∧
  (∀ (i j : Bool) (H : Hp) (Q : VK), rNe (.bl i) (.bl j) H Q = Q (.bl (!decide (i = j))) H) ∧
  (∀ (t : TE) (σ : St) (H : Hp) (Q : Bool → Hp → Prop), tTest t σ H Q = t σ H (fun x H1 => BlK x (fun k => Q k H1))) ∧
  (∀ (t : TE) (σ : St) (H : Hp) (Q : Bool → Hp → Prop), tB t σ H Q = t σ H (fun x H1 => BlK x (fun k => Q k H1))) ∧
  (∀ (k : Bool) (Q : Bool → Prop), BlK (.bl k) Q = Q k) ∧
  (∀ (t u : TT) (σ : St) (H : Hp) (Q : Bool → Hp → Prop), tAnd t u σ H Q = t σ H (fun c H1 => Andk c u σ H1 Q)) ∧
  (∀ (t u : TT) (σ : St) (H : Hp) (Q : Bool → Hp → Prop), tOr t u σ H Q = t σ H (fun c H1 => Ork c u σ H1 Q)) ∧
  (∀ (t : TT) (σ : St) (H : Hp) (Q : Bool → Hp → Prop), tNot t σ H Q = t σ H (fun c H1 => Q (!c) H1)) ∧
  (∀ (t u : TE) (σ : St) (H : Hp) (Q : VK), tAndV t u σ H Q = t σ H (fun x H1 => BlK x (fun c => AndVk c u σ H1 Q))) ∧
  (∀ (t u : TE) (σ : St) (H : Hp) (Q : VK), tOrV t u σ H Q = t σ H (fun x H1 => BlK x (fun c => OrVk c u σ H1 Q))) ∧
  (∀ (t : TE) (σ : St) (H : Hp) (Q : VK), tNotV t σ H Q = t σ H (fun x H1 => BlK x (fun c => Q (.bl (!c)) H1))) ∧
  (∀ (t : TT) (a b : TE) (σ : St) (H : Hp) (Q : VK), tIf t a b σ H Q = t σ H (fun c H1 => IfEk c a b σ H1 Q)) ∧
  (∀ (r r' : R2) (a b c : TE) (σ : St) (H : Hp) (Q : VK), tChain r r' a b c σ H Q = a σ H (fun x H1 => b σ H1 (fun y H2 => r x y H2 (fun z H3 => BlK z (fun k => Chk k c (r' y) σ H3 Q))))) ∧
  (∀ (c : TT) (t u : TS) (D : Ends) (σ : St) (H : Hp), tIfS c t u D σ H = c σ H (fun b H1 => Ifk b (t D) (u D) σ H1)) ∧
  (∀ (t : TE) (g : TG) (D : Ends) (σ : St) (H : Hp), tAsg t g D σ H = t σ H (fun x H1 => g x σ H1 D.nx)) ∧
  (∀ (t : TE) (D : Ends) (σ : St) (H : Hp), tRet t D σ H = t σ H D.rt) ∧
  (∀ (D : Ends) (σ : St) (H : Hp), tRetN D σ H = D.rt .non H) ∧
  (∀ (t : TE) (D : Ends) (σ : St) (H : Hp), tDrop t D σ H = t σ H (fun _ H1 => D.nx σ H1)) ∧
  (∀ (σ : St) (H : Hp) (Q : List V → Hp → Prop), tNil σ H Q = Q [] H) ∧
  (∀ (a : TE) (r : TA) (σ : St) (H : Hp) (Q : List V → Hp → Prop), tCons a r σ H Q = a σ H (fun x H1 => r σ H1 (fun xs H2 => Q (x :: xs) H2))) ∧
  (∀ (t : TA) (σ : St) (H : Hp) (Q : VK), tTup t σ H Q = t σ H (fun xs H1 => xs.length ≤ sizeLine ∧ New H1 (.tup xs) (fun p H2 => Q (.ref p) H2))) ∧
  (∀ (t : TA) (σ : St) (H : Hp) (Q : VK), tLst t σ H Q = t σ H (fun xs H1 => xs.length ≤ sizeLine ∧ New H1 (.lst xs) (fun p H2 => Q (.ref p) H2))) ∧
  (∀ (r : List V → Hp → VK → Prop) (t : TA) (σ : St) (H : Hp) (Q : VK), tCB r t σ H Q = t σ H (fun vs H1 => r vs H1 Q)) ∧
  (∀ (sp : Sp) (E : XK) (t : TA) (σ : St) (H : Hp) (Q : VK), tCall sp [] E t σ H Q = t σ H (fun vs H1 => sp vs H1 Q E)) ∧
  (∀ (p : Addr) (i : Int) (H : Hp) (Q : VK), rIxl (.ref p) (.int i) H Q = (∃ xs, lstOf (H p) = some xs ∧ ∃ v, atI xs i = some v ∧ Q v H)) ∧
  (∀ (p : Addr) (i : Int) (H : Hp) (Q : VK), rIxt (.ref p) (.int i) H Q = (∃ xs, tupOf (H p) = some xs ∧ ∃ v, atI xs i = some v ∧ Q v H)) ∧
  (∀ (z : Str) (i : Int) (H : Hp) (Q : VK), rIxS (.str z) (.int i) H Q = (z.length ≤ sizeLine ∧ ∃ c, atI z.cps.toList i = some c ∧ Q (.str ⟨#[c]⟩) H)) ∧
  (∀ (p : Addr) (H : Hp) (Q : VK), rLenq [.ref p] H Q = (∃ xs, seqOf (H p) = some xs ∧ Q (.int xs.length) H)) ∧
  (∀ (p : Addr) (H : Hp) (Q : VK), rListq [.ref p] H Q = (∃ xs, seqOf (H p) = some xs ∧ New H (.lst xs) (fun l H2 => Q (.ref l) H2))) ∧
  (∀ (i : Int) (H : Hp) (Q : VK), rInt1 [.int i] H Q = Q (.int i) H) ∧
  (∀ (xs : List V), lstOf (some (.lst xs)) = some xs) ∧
  (∀ (xs : List V), tupOf (some (.tup xs)) = some xs) ∧
  (∀ (xs : List V), seqOf (some (.lst xs)) = some xs) ∧
  (∀ (xs : List V), seqOf (some (.tup xs)) = some xs) ∧
  (∀ (K : PySem.W.Frag) (p : Addr) (H : Hp), (lstOf (H p)).isSome = true → tyV K "list" (.ref p) H = True) ∧
  (∀ (K : PySem.W.Frag) (T : String) (r : V → List V → Hp → VK → Prop) (o : TE) (σ : St) (H : Hp) (Q : VK), tBM0 K T r o σ H Q = o σ H (fun x H1 => tyV K T x H1 ∧ r x [] H1 Q)) ∧
  (∀ (K : PySem.W.Frag) (T : String) (r : V → List V → Hp → VK → Prop) (o : TE) (t : TA) (σ : St) (H : Hp) (Q : VK), tBM K T r o t σ H Q = o σ H (fun x H1 => tyV K T x H1 ∧ t σ H1 (fun xs H2 => r x xs H2 Q))) ∧
  (∀ (l : Addr) (y : V) (H : Hp) (Q : VK), rAppend (.ref l) [y] H Q = (∃ xs, lstOf (H l) = some xs ∧ xs.length < sizeLine ∧ Q .non (upd H l (.lst (xs ++ [y]))))) ∧
  (∀ (l : Addr) (i : Int) (H : Hp) (Q : VK), rPopAt (.ref l) [.int i] H Q = (∃ xs, lstOf (H l) = some xs ∧ -(2 ^ 63) ≤ i ∧ i < 2 ^ 63 ∧ ∃ k, seqIndex? i xs.length = some k ∧ ∃ y, xs[k]? = some y ∧ Q y (upd H l (.lst (xs.eraseIdx k))))) ∧
  (∀ (l : Addr) (H : Hp) (Q : VK), rClear (.ref l) [] H Q = (∃ xs, lstOf (H l) = some xs ∧ Q .non (upd H l (.lst [])))) ∧
  (∀ (p : Addr) (k : Int) (v : V) (H : Hp) (Q : Hp → Prop), rSetL (.ref p) (.int k) v H Q = (∃ xs, lstOf (H p) = some xs ∧ ∃ j, ixN xs.length k = some j ∧ Q (upd H p (.lst (xs.set j v))))) ∧
  (∀ (o i : TE) (t : TSet) (v : V) (σ : St) (H : Hp) (Q : St → Hp → Prop), gSub o i t v σ H Q = o σ H (fun x H1 => i σ H1 (fun y H2 => t x y v H2 (fun H3 => Q σ H3)))) ∧
  (∀ (f : Int → Int → Int) (i j : Int) (H : Hp) (Q : VK), ipI f (.int i) (.int j) H Q = Q (.int (f i j)) H) ∧
  (∀ (σ : St) (H : Hp) (Q : St → Hp → Prop), gNil [] σ H Q = Q σ H) ∧
  (∀ (t : TG) (u : TGs) (v : V) (r : List V) (σ : St) (H : Hp) (Q : St → Hp → Prop), gCons t u (v :: r) σ H Q = t v σ H (fun s1 H1 => u r s1 H1 Q)) ∧
  (∀ (n : Nat) (t : TGs) (a : Addr) (σ : St) (H : Hp) (Q : St → Hp → Prop), gTupq n t (.ref a) σ H Q = (∃ xs, tupOf (H a) = some xs ∧ xs.length = n ∧ t xs σ H Q)) ∧
  (∀ (i j : Nat) (ta : TA) (D : Ends) (σ : St) (H : Hp), tPar i j ta D σ H = ta σ H (fun vs H1 => ParK i j vs D σ H1)) ∧
  (∀ (i j : Nat) (v w : V) (D : Ends) (σ : St) (H : Hp), ParK i j [v, w] D σ H = gName i v σ H (fun s1 H1 => gName j w s1 H1 D.nx)) ∧
  (∀ (f : TE) (σ : St) (H : Hp) (Q : Option Int → Hp → Prop), tPart f σ H Q = f σ H (fun x H1 => IntK x (fun i => Q (some i) H1))) ∧
  (∀ (σ : St) (H : Hp) (Q : Option Int → Hp → Prop), tNoPart σ H Q = Q none H) ∧
  (∀ (i : Int) (Q : Int → Prop), IntK (.int i) Q = Q i) ∧
  (∀ (r : V → Option Int → Option Int → Hp → VK → Prop) (e : TE) (l h : TO) (σ : St) (H : Hp) (Q : VK), tSl r e l h σ H Q = e σ H (fun x H1 => l σ H1 (fun a H2 => h σ H2 (fun b H3 => r x a b H3 Q)))) ∧
  (∀ (z : Str) (l h : Option Int) (H : Hp) (Q : VK), rSlS (.str z) l h H Q = (z.length ≤ sizeLine ∧ Q (.str (cutS z l h)) H)) ∧
  (∀ (p : Addr) (l h : Option Int) (H : Hp) (Q : VK), rSlq (.ref p) l h H Q = (∃ xs, lstOf (H p) = some xs ∧ New H (.lst (cutV xs l h)) (fun q H2 => Q (.ref q) H2))) ∧
  (∀ (wi : TI) (g : TG) (tb : TS) (D : Ends) (σ : St) (H : Hp), tFor wi g tb D σ H = wi σ H (fun J H1 => LoopK J g tb D σ H1)) ∧
  (∀ (wi : TI) (g : TG) (tt : TT) (te : TE) (vs : List Nat) (σ : St) (H : Hp) (Q : VK), tLc wi g tt te vs σ H Q = wi σ H (fun J H1 => LcK J g tt te vs σ H1 Q)) ∧
  (∀ (K : PySem.W.Frag) (tl : TE) (σ : St) (H : Hp) (R : It → Hp → Prop), iList K tl σ H R = tl σ H (fun x H1 => ListK K x H1 R)) ∧
  (∀ (K : PySem.W.Frag) (p : Addr) (H : Hp) (R : It → Hp → Prop), (lstOf (H p)).isSome = true → ListK K (.ref p) H R = R (Itl K p) H) ∧
  (∀ (te : TE) (σ : St) (H : Hp) (R : It → Hp → Prop), iStr te σ H R = te σ H (fun x H1 => StrK x (fun z => R (Its z) H1))) ∧
  (∀ (i : Str) (Q : Str → Prop), StrK (.str i) Q = Q i) ∧
  (∀ (ta : TA) (σ : St) (H : Hp) (R : It → Hp → Prop), iRng1 ta σ H R = ta σ H (fun vs H1 => Rng1K vs (fun j => -(2 ^ 62) ≤ j ∧ j < 2 ^ 62 ∧ R (Itr 0 j.toNat) H1))) ∧
  (∀ (j : Int) (Q : Int → Prop), Rng1K [.int j] Q = Q j) ∧
  (∀ (ta : TA) (σ : St) (H : Hp) (R : It → Hp → Prop), iRng2 ta σ H R = ta σ H (fun vs H1 => Rng2K vs (fun i j => (-(2 ^ 62) ≤ i ∧ i < 2 ^ 62 ∧ -(2 ^ 62) ≤ j ∧ j < 2 ^ 62) ∧ R (Itr i (j - i).toNat) H1))) ∧
  (∀ (i j : Int) (Q : Int → Int → Prop), Rng2K [.int i, .int j] Q = Q i j) ∧
  (∀ (tt : TT) (te : TE) (vs : List Nat) (w0 : St) (D : Addr) (N : Hp → Prop) (s2 : St) (H2 : Hp), LcT tt te vs w0 D N s2 H2 = (wipe s2 vs = w0 ∧ tt s2 H2 (fun b H3 => LcE te D N b s2 H3))) ∧
  (∀ (σ : St) (H : Hp) (Q : Bool → Hp → Prop), tYes σ H Q = Q true H) ∧
  (∀ (te : TE) (D : Addr) (N : Hp → Prop) (s2 : St) (H3 : Hp), LcE te D N true s2 H3 = te s2 H3 (fun y H4 => LcP D N y H4)) ∧
  (∀ (te : TE) (D : Addr) (N : Hp → Prop) (s2 : St) (H3 : Hp), LcE te D N false s2 H3 = N H3) ∧
  (∀ (D : Addr) (N : Hp → Prop) (y : V) (H4 : Hp), LcP D N y H4 = (∃ acc, lstOf (H4 D) = some acc ∧ acc.length < sizeLine ∧ N (upd H4 D (.lst (acc ++ [y]))))) ∧
  (∀ (σ : St), wipe σ [] = σ) ∧
  (∀ (r : V → List V → Hp → VK → Prop) (o e : TE) (σ : St) (H : Hp) (Q : VK), tM1 r o e σ H Q = o σ H (fun x H1 => (∃ a, x = .str a) ∧ e σ H1 (fun y H2 => r x [y] H2 Q))) ∧
  (∀ (r : V → List V → Hp → VK → Prop) (o : TE) (σ : St) (H : Hp) (Q : VK), tM0 r o σ H Q = o σ H (fun x H1 => (∃ a, x = .str a) ∧ r x [] H1 Q)) ∧
  (∀ (P : Hp → VK → XK → Prop) (H : Hp) (Q : VK) (E : XK), Sp0 P [] H Q E = P  H Q E) ∧
  (∀ (P : V → Hp → VK → XK → Prop) (a : V) (H : Hp) (Q : VK) (E : XK), Sp1 P [a] H Q E = P a H Q E) ∧
  (∀ (P : V → V → Hp → VK → XK → Prop) (a b : V) (H : Hp) (Q : VK) (E : XK), Sp2 P [a, b] H Q E = P a b H Q E) ∧
  (∀ (P : V → V → V → Hp → VK → XK → Prop) (a b c : V) (H : Hp) (Q : VK) (E : XK), Sp3 P [a, b, c] H Q E = P a b c H Q E) ∧
  (∀ (P : V → V → V → V → Hp → VK → XK → Prop) (a b c d : V) (H : Hp) (Q : VK) (E : XK), Sp4 P [a, b, c, d] H Q E = P a b c d H Q E) ∧
  (∀ (P : V → V → V → V → V → Hp → VK → XK → Prop) (a b c d e : V) (H : Hp) (Q : VK) (E : XK), Sp5 P [a, b, c, d, e] H Q E = P a b c d e H Q E) ∧
  (∀ (v : V) (r : St) (H : Hp) (Q : VK), tVar 0 (some v :: r) H Q = Q v H) ∧
  (∀ (y : Option V) (v : V) (r : St) (H : Hp) (Q : St → Hp → Prop), gName 0 v (y :: r) H Q = Q (some v :: r) H) ∧
  (∀ (v : V) (r : St) (te : TE) (ti : TIp) (D : Ends) (H : Hp), tAug 0 te ti D (some v :: r) H = te (some v :: r) H (fun y H1 => ti v y H1 (fun z H2 => D.nx (some z :: r) H2))) ∧
  (∀ (y : Option V) (r : St) (vs : List Nat), wipe (y :: r) (0 :: vs) = Setn (wipe (y :: r) vs) 0) ∧
  (∀ (y : Option V) (r : St), Setn (y :: r) 0 = (none :: r)) ∧
  (∀ (x0 : Option V) (v : V) (r : St) (H : Hp) (Q : VK), tVar 1 (x0 :: some v :: r) H Q = Q v H) ∧
  (∀ (x0 : Option V) (y : Option V) (v : V) (r : St) (H : Hp) (Q : St → Hp → Prop), gName 1 v (x0 :: y :: r) H Q = Q (x0 :: some v :: r) H) ∧
  (∀ (x0 : Option V) (v : V) (r : St) (te : TE) (ti : TIp) (D : Ends) (H : Hp), tAug 1 te ti D (x0 :: some v :: r) H = te (x0 :: some v :: r) H (fun y H1 => ti v y H1 (fun z H2 => D.nx (x0 :: some z :: r) H2))) ∧
  (∀ (x0 : Option V) (y : Option V) (r : St) (vs : List Nat), wipe (x0 :: y :: r) (1 :: vs) = Setn (wipe (x0 :: y :: r) vs) 1) ∧
  (∀ (x0 : Option V) (y : Option V) (r : St), Setn (x0 :: y :: r) 1 = (x0 :: none :: r)) ∧
  (∀ (x0 x1 : Option V) (v : V) (r : St) (H : Hp) (Q : VK), tVar 2 (x0 :: x1 :: some v :: r) H Q = Q v H) ∧
  (∀ (x0 x1 : Option V) (y : Option V) (v : V) (r : St) (H : Hp) (Q : St → Hp → Prop), gName 2 v (x0 :: x1 :: y :: r) H Q = Q (x0 :: x1 :: some v :: r) H) ∧
  (∀ (x0 x1 : Option V) (v : V) (r : St) (te : TE) (ti : TIp) (D : Ends) (H : Hp), tAug 2 te ti D (x0 :: x1 :: some v :: r) H = te (x0 :: x1 :: some v :: r) H (fun y H1 => ti v y H1 (fun z H2 => D.nx (x0 :: x1 :: some z :: r) H2))) ∧
  (∀ (x0 x1 : Option V) (y : Option V) (r : St) (vs : List Nat), wipe (x0 :: x1 :: y :: r) (2 :: vs) = Setn (wipe (x0 :: x1 :: y :: r) vs) 2) ∧
  (∀ (x0 x1 : Option V) (y : Option V) (r : St), Setn (x0 :: x1 :: y :: r) 2 = (x0 :: x1 :: none :: r)) ∧
  (∀ (x0 x1 x2 : Option V) (v : V) (r : St) (H : Hp) (Q : VK), tVar 3 (x0 :: x1 :: x2 :: some v :: r) H Q = Q v H) ∧
  (∀ (x0 x1 x2 : Option V) (y : Option V) (v : V) (r : St) (H : Hp) (Q : St → Hp → Prop), gName 3 v (x0 :: x1 :: x2 :: y :: r) H Q = Q (x0 :: x1 :: x2 :: some v :: r) H) ∧
  (∀ (x0 x1 x2 : Option V) (v : V) (r : St) (te : TE) (ti : TIp) (D : Ends) (H : Hp), tAug 3 te ti D (x0 :: x1 :: x2 :: some v :: r) H = te (x0 :: x1 :: x2 :: some v :: r) H (fun y H1 => ti v y H1 (fun z H2 => D.nx (x0 :: x1 :: x2 :: some z :: r) H2))) ∧
  (∀ (x0 x1 x2 : Option V) (y : Option V) (r : St) (vs : List Nat), wipe (x0 :: x1 :: x2 :: y :: r) (3 :: vs) = Setn (wipe (x0 :: x1 :: x2 :: y :: r) vs) 3) ∧
  (∀ (x0 x1 x2 : Option V) (y : Option V) (r : St), Setn (x0 :: x1 :: x2 :: y :: r) 3 = (x0 :: x1 :: x2 :: none :: r)) ∧
  (∀ (x0 x1 x2 x3 : Option V) (v : V) (r : St) (H : Hp) (Q : VK), tVar 4 (x0 :: x1 :: x2 :: x3 :: some v :: r) H Q = Q v H) ∧
  (∀ (x0 x1 x2 x3 : Option V) (y : Option V) (v : V) (r : St) (H : Hp) (Q : St → Hp → Prop), gName 4 v (x0 :: x1 :: x2 :: x3 :: y :: r) H Q = Q (x0 :: x1 :: x2 :: x3 :: some v :: r) H) ∧
  (∀ (x0 x1 x2 x3 : Option V) (v : V) (r : St) (te : TE) (ti : TIp) (D : Ends) (H : Hp), tAug 4 te ti D (x0 :: x1 :: x2 :: x3 :: some v :: r) H = te (x0 :: x1 :: x2 :: x3 :: some v :: r) H (fun y H1 => ti v y H1 (fun z H2 => D.nx (x0 :: x1 :: x2 :: x3 :: some z :: r) H2))) ∧
  (∀ (x0 x1 x2 x3 : Option V) (y : Option V) (r : St) (vs : List Nat), wipe (x0 :: x1 :: x2 :: x3 :: y :: r) (4 :: vs) = Setn (wipe (x0 :: x1 :: x2 :: x3 :: y :: r) vs) 4) ∧
  (∀ (x0 x1 x2 x3 : Option V) (y : Option V) (r : St), Setn (x0 :: x1 :: x2 :: x3 :: y :: r) 4 = (x0 :: x1 :: x2 :: x3 :: none :: r)) ∧
  (∀ (x0 x1 x2 x3 x4 : Option V) (v : V) (r : St) (H : Hp) (Q : VK), tVar 5 (x0 :: x1 :: x2 :: x3 :: x4 :: some v :: r) H Q = Q v H) ∧
  (∀ (x0 x1 x2 x3 x4 : Option V) (y : Option V) (v : V) (r : St) (H : Hp) (Q : St → Hp → Prop), gName 5 v (x0 :: x1 :: x2 :: x3 :: x4 :: y :: r) H Q = Q (x0 :: x1 :: x2 :: x3 :: x4 :: some v :: r) H) ∧
  (∀ (x0 x1 x2 x3 x4 : Option V) (v : V) (r : St) (te : TE) (ti : TIp) (D : Ends) (H : Hp), tAug 5 te ti D (x0 :: x1 :: x2 :: x3 :: x4 :: some v :: r) H = te (x0 :: x1 :: x2 :: x3 :: x4 :: some v :: r) H (fun y H1 => ti v y H1 (fun z H2 => D.nx (x0 :: x1 :: x2 :: x3 :: x4 :: some z :: r) H2))) ∧
  (∀ (x0 x1 x2 x3 x4 : Option V) (y : Option V) (r : St) (vs : List Nat), wipe (x0 :: x1 :: x2 :: x3 :: x4 :: y :: r) (5 :: vs) = Setn (wipe (x0 :: x1 :: x2 :: x3 :: x4 :: y :: r) vs) 5) ∧
  (∀ (x0 x1 x2 x3 x4 : Option V) (y : Option V) (r : St), Setn (x0 :: x1 :: x2 :: x3 :: x4 :: y :: r) 5 = (x0 :: x1 :: x2 :: x3 :: x4 :: none :: r)) ∧
  (∀ (x0 x1 x2 x3 x4 x5 : Option V) (v : V) (r : St) (H : Hp) (Q : VK), tVar 6 (x0 :: x1 :: x2 :: x3 :: x4 :: x5 :: some v :: r) H Q = Q v H) ∧
  (∀ (x0 x1 x2 x3 x4 x5 : Option V) (y : Option V) (v : V) (r : St) (H : Hp) (Q : St → Hp → Prop), gName 6 v (x0 :: x1 :: x2 :: x3 :: x4 :: x5 :: y :: r) H Q = Q (x0 :: x1 :: x2 :: x3 :: x4 :: x5 :: some v :: r) H) ∧
  (∀ (x0 x1 x2 x3 x4 x5 : Option V) (v : V) (r : St) (te : TE) (ti : TIp) (D : Ends) (H : Hp), tAug 6 te ti D (x0 :: x1 :: x2 :: x3 :: x4 :: x5 :: some v :: r) H = te (x0 :: x1 :: x2 :: x3 :: x4 :: x5 :: some v :: r) H (fun y H1 => ti v y H1 (fun z H2 => D.nx (x0 :: x1 :: x2 :: x3 :: x4 :: x5 :: some z :: r) H2))) ∧
  (∀ (x0 x1 x2 x3 x4 x5 : Option V) (y : Option V) (r : St) (vs : List Nat), wipe (x0 :: x1 :: x2 :: x3 :: x4 :: x5 :: y :: r) (6 :: vs) = Setn (wipe (x0 :: x1 :: x2 :: x3 :: x4 :: x5 :: y :: r) vs) 6) ∧
  (∀ (x0 x1 x2 x3 x4 x5 : Option V) (y : Option V) (r : St), Setn (x0 :: x1 :: x2 :: x3 :: x4 :: x5 :: y :: r) 6 = (x0 :: x1 :: x2 :: x3 :: x4 :: x5 :: none :: r)) ∧
  (∀ (x0 x1 x2 x3 x4 x5 x6 : Option V) (v : V) (r : St) (H : Hp) (Q : VK), tVar 7 (x0 :: x1 :: x2 :: x3 :: x4 :: x5 :: x6 :: some v :: r) H Q = Q v H) ∧
  (∀ (x0 x1 x2 x3 x4 x5 x6 : Option V) (y : Option V) (v : V) (r : St) (H : Hp) (Q : St → Hp → Prop), gName 7 v (x0 :: x1 :: x2 :: x3 :: x4 :: x5 :: x6 :: y :: r) H Q = Q (x0 :: x1 :: x2 :: x3 :: x4 :: x5 :: x6 :: some v :: r) H) ∧
  (∀ (x0 x1 x2 x3 x4 x5 x6 : Option V) (v : V) (r : St) (te : TE) (ti : TIp) (D : Ends) (H : Hp), tAug 7 te ti D (x0 :: x1 :: x2 :: x3 :: x4 :: x5 :: x6 :: some v :: r) H = te (x0 :: x1 :: x2 :: x3 :: x4 :: x5 :: x6 :: some v :: r) H (fun y H1 => ti v y H1 (fun z H2 => D.nx (x0 :: x1 :: x2 :: x3 :: x4 :: x5 :: x6 :: some z :: r) H2))) ∧
  (∀ (x0 x1 x2 x3 x4 x5 x6 : Option V) (y : Option V) (r : St) (vs : List Nat), wipe (x0 :: x1 :: x2 :: x3 :: x4 :: x5 :: x6 :: y :: r) (7 :: vs) = Setn (wipe (x0 :: x1 :: x2 :: x3 :: x4 :: x5 :: x6 :: y :: r) vs) 7) ∧
  (∀ (x0 x1 x2 x3 x4 x5 x6 : Option V) (y : Option V) (r : St), Setn (x0 :: x1 :: x2 :: x3 :: x4 :: x5 :: x6 :: y :: r) 7 = (x0 :: x1 :: x2 :: x3 :: x4 :: x5 :: x6 :: none :: r)) ∧
  (∀ (x0 x1 x2 x3 x4 x5 x6 x7 : Option V) (v : V) (r : St) (H : Hp) (Q : VK), tVar 8 (x0 :: x1 :: x2 :: x3 :: x4 :: x5 :: x6 :: x7 :: some v :: r) H Q = Q v H) ∧
  (∀ (x0 x1 x2 x3 x4 x5 x6 x7 : Option V) (y : Option V) (v : V) (r : St) (H : Hp) (Q : St → Hp → Prop), gName 8 v (x0 :: x1 :: x2 :: x3 :: x4 :: x5 :: x6 :: x7 :: y :: r) H Q = Q (x0 :: x1 :: x2 :: x3 :: x4 :: x5 :: x6 :: x7 :: some v :: r) H) ∧
  (∀ (x0 x1 x2 x3 x4 x5 x6 x7 : Option V) (v : V) (r : St) (te : TE) (ti : TIp) (D : Ends) (H : Hp), tAug 8 te ti D (x0 :: x1 :: x2 :: x3 :: x4 :: x5 :: x6 :: x7 :: some v :: r) H = te (x0 :: x1 :: x2 :: x3 :: x4 :: x5 :: x6 :: x7 :: some v :: r) H (fun y H1 => ti v y H1 (fun z H2 => D.nx (x0 :: x1 :: x2 :: x3 :: x4 :: x5 :: x6 :: x7 :: some z :: r) H2))) ∧
  (∀ (x0 x1 x2 x3 x4 x5 x6 x7 : Option V) (y : Option V) (r : St) (vs : List Nat), wipe (x0 :: x1 :: x2 :: x3 :: x4 :: x5 :: x6 :: x7 :: y :: r) (8 :: vs) = Setn (wipe (x0 :: x1 :: x2 :: x3 :: x4 :: x5 :: x6 :: x7 :: y :: r) vs) 8) ∧
  (∀ (x0 x1 x2 x3 x4 x5 x6 x7 : Option V) (y : Option V) (r : St), Setn (x0 :: x1 :: x2 :: x3 :: x4 :: x5 :: x6 :: x7 :: y :: r) 8 = (x0 :: x1 :: x2 :: x3 :: x4 :: x5 :: x6 :: x7 :: none :: r)) ∧
  (∀ (x0 x1 x2 x3 x4 x5 x6 x7 x8 : Option V) (v : V) (r : St) (H : Hp) (Q : VK), tVar 9 (x0 :: x1 :: x2 :: x3 :: x4 :: x5 :: x6 :: x7 :: x8 :: some v :: r) H Q = Q v H) ∧
  (∀ (x0 x1 x2 x3 x4 x5 x6 x7 x8 : Option V) (y : Option V) (v : V) (r : St) (H : Hp) (Q : St → Hp → Prop), gName 9 v (x0 :: x1 :: x2 :: x3 :: x4 :: x5 :: x6 :: x7 :: x8 :: y :: r) H Q = Q (x0 :: x1 :: x2 :: x3 :: x4 :: x5 :: x6 :: x7 :: x8 :: some v :: r) H) ∧
  (∀ (x0 x1 x2 x3 x4 x5 x6 x7 x8 : Option V) (v : V) (r : St) (te : TE) (ti : TIp) (D : Ends) (H : Hp), tAug 9 te ti D (x0 :: x1 :: x2 :: x3 :: x4 :: x5 :: x6 :: x7 :: x8 :: some v :: r) H = te (x0 :: x1 :: x2 :: x3 :: x4 :: x5 :: x6 :: x7 :: x8 :: some v :: r) H (fun y H1 => ti v y H1 (fun z H2 => D.nx (x0 :: x1 :: x2 :: x3 :: x4 :: x5 :: x6 :: x7 :: x8 :: some z :: r) H2))) ∧
  (∀ (x0 x1 x2 x3 x4 x5 x6 x7 x8 : Option V) (y : Option V) (r : St) (vs : List Nat), wipe (x0 :: x1 :: x2 :: x3 :: x4 :: x5 :: x6 :: x7 :: x8 :: y :: r) (9 :: vs) = Setn (wipe (x0 :: x1 :: x2 :: x3 :: x4 :: x5 :: x6 :: x7 :: x8 :: y :: r) vs) 9) ∧
  (∀ (x0 x1 x2 x3 x4 x5 x6 x7 x8 : Option V) (y : Option V) (r : St), Setn (x0 :: x1 :: x2 :: x3 :: x4 :: x5 :: x6 :: x7 :: x8 :: y :: r) 9 = (x0 :: x1 :: x2 :: x3 :: x4 :: x5 :: x6 :: x7 :: x8 :: none :: r)) ∧
  (∀ (x0 x1 x2 x3 x4 x5 x6 x7 x8 x9 : Option V) (v : V) (r : St) (H : Hp) (Q : VK), tVar 10 (x0 :: x1 :: x2 :: x3 :: x4 :: x5 :: x6 :: x7 :: x8 :: x9 :: some v :: r) H Q = Q v H) ∧
  (∀ (x0 x1 x2 x3 x4 x5 x6 x7 x8 x9 : Option V) (y : Option V) (v : V) (r : St) (H : Hp) (Q : St → Hp → Prop), gName 10 v (x0 :: x1 :: x2 :: x3 :: x4 :: x5 :: x6 :: x7 :: x8 :: x9 :: y :: r) H Q = Q (x0 :: x1 :: x2 :: x3 :: x4 :: x5 :: x6 :: x7 :: x8 :: x9 :: some v :: r) H) ∧
  (∀ (x0 x1 x2 x3 x4 x5 x6 x7 x8 x9 : Option V) (v : V) (r : St) (te : TE) (ti : TIp) (D : Ends) (H : Hp), tAug 10 te ti D (x0 :: x1 :: x2 :: x3 :: x4 :: x5 :: x6 :: x7 :: x8 :: x9 :: some v :: r) H = te (x0 :: x1 :: x2 :: x3 :: x4 :: x5 :: x6 :: x7 :: x8 :: x9 :: some v :: r) H (fun y H1 => ti v y H1 (fun z H2 => D.nx (x0 :: x1 :: x2 :: x3 :: x4 :: x5 :: x6 :: x7 :: x8 :: x9 :: some z :: r) H2))) ∧
  (∀ (x0 x1 x2 x3 x4 x5 x6 x7 x8 x9 : Option V) (y : Option V) (r : St) (vs : List Nat), wipe (x0 :: x1 :: x2 :: x3 :: x4 :: x5 :: x6 :: x7 :: x8 :: x9 :: y :: r) (10 :: vs) = Setn (wipe (x0 :: x1 :: x2 :: x3 :: x4 :: x5 :: x6 :: x7 :: x8 :: x9 :: y :: r) vs) 10) ∧
  (∀ (x0 x1 x2 x3 x4 x5 x6 x7 x8 x9 : Option V) (y : Option V) (r : St), Setn (x0 :: x1 :: x2 :: x3 :: x4 :: x5 :: x6 :: x7 :: x8 :: x9 :: y :: r) 10 = (x0 :: x1 :: x2 :: x3 :: x4 :: x5 :: x6 :: x7 :: x8 :: x9 :: none :: r)) ∧
  (∀ (x0 x1 x2 x3 x4 x5 x6 x7 x8 x9 x10 : Option V) (v : V) (r : St) (H : Hp) (Q : VK), tVar 11 (x0 :: x1 :: x2 :: x3 :: x4 :: x5 :: x6 :: x7 :: x8 :: x9 :: x10 :: some v :: r) H Q = Q v H) ∧
  (∀ (x0 x1 x2 x3 x4 x5 x6 x7 x8 x9 x10 : Option V) (y : Option V) (v : V) (r : St) (H : Hp) (Q : St → Hp → Prop), gName 11 v (x0 :: x1 :: x2 :: x3 :: x4 :: x5 :: x6 :: x7 :: x8 :: x9 :: x10 :: y :: r) H Q = Q (x0 :: x1 :: x2 :: x3 :: x4 :: x5 :: x6 :: x7 :: x8 :: x9 :: x10 :: some v :: r) H) ∧
  (∀ (x0 x1 x2 x3 x4 x5 x6 x7 x8 x9 x10 : Option V) (v : V) (r : St) (te : TE) (ti : TIp) (D : Ends) (H : Hp), tAug 11 te ti D (x0 :: x1 :: x2 :: x3 :: x4 :: x5 :: x6 :: x7 :: x8 :: x9 :: x10 :: some v :: r) H = te (x0 :: x1 :: x2 :: x3 :: x4 :: x5 :: x6 :: x7 :: x8 :: x9 :: x10 :: some v :: r) H (fun y H1 => ti v y H1 (fun z H2 => D.nx (x0 :: x1 :: x2 :: x3 :: x4 :: x5 :: x6 :: x7 :: x8 :: x9 :: x10 :: some z :: r) H2))) ∧
  (∀ (x0 x1 x2 x3 x4 x5 x6 x7 x8 x9 x10 : Option V) (y : Option V) (r : St) (vs : List Nat), wipe (x0 :: x1 :: x2 :: x3 :: x4 :: x5 :: x6 :: x7 :: x8 :: x9 :: x10 :: y :: r) (11 :: vs) = Setn (wipe (x0 :: x1 :: x2 :: x3 :: x4 :: x5 :: x6 :: x7 :: x8 :: x9 :: x10 :: y :: r) vs) 11) ∧
  (∀ (x0 x1 x2 x3 x4 x5 x6 x7 x8 x9 x10 : Option V) (y : Option V) (r : St), Setn (x0 :: x1 :: x2 :: x3 :: x4 :: x5 :: x6 :: x7 :: x8 :: x9 :: x10 :: y :: r) 11 = (x0 :: x1 :: x2 :: x3 :: x4 :: x5 :: x6 :: x7 :: x8 :: x9 :: x10 :: none :: r)) ∧
  (∀ (x0 x1 x2 x3 x4 x5 x6 x7 x8 x9 x10 x11 : Option V) (v : V) (r : St) (H : Hp) (Q : VK), tVar 12 (x0 :: x1 :: x2 :: x3 :: x4 :: x5 :: x6 :: x7 :: x8 :: x9 :: x10 :: x11 :: some v :: r) H Q = Q v H) ∧
  (∀ (x0 x1 x2 x3 x4 x5 x6 x7 x8 x9 x10 x11 : Option V) (y : Option V) (v : V) (r : St) (H : Hp) (Q : St → Hp → Prop), gName 12 v (x0 :: x1 :: x2 :: x3 :: x4 :: x5 :: x6 :: x7 :: x8 :: x9 :: x10 :: x11 :: y :: r) H Q = Q (x0 :: x1 :: x2 :: x3 :: x4 :: x5 :: x6 :: x7 :: x8 :: x9 :: x10 :: x11 :: some v :: r) H) ∧
  (∀ (x0 x1 x2 x3 x4 x5 x6 x7 x8 x9 x10 x11 : Option V) (v : V) (r : St) (te : TE) (ti : TIp) (D : Ends) (H : Hp), tAug 12 te ti D (x0 :: x1 :: x2 :: x3 :: x4 :: x5 :: x6 :: x7 :: x8 :: x9 :: x10 :: x11 :: some v :: r) H = te (x0 :: x1 :: x2 :: x3 :: x4 :: x5 :: x6 :: x7 :: x8 :: x9 :: x10 :: x11 :: some v :: r) H (fun y H1 => ti v y H1 (fun z H2 => D.nx (x0 :: x1 :: x2 :: x3 :: x4 :: x5 :: x6 :: x7 :: x8 :: x9 :: x10 :: x11 :: some z :: r) H2))) ∧
  (∀ (x0 x1 x2 x3 x4 x5 x6 x7 x8 x9 x10 x11 : Option V) (y : Option V) (r : St) (vs : List Nat), wipe (x0 :: x1 :: x2 :: x3 :: x4 :: x5 :: x6 :: x7 :: x8 :: x9 :: x10 :: x11 :: y :: r) (12 :: vs) = Setn (wipe (x0 :: x1 :: x2 :: x3 :: x4 :: x5 :: x6 :: x7 :: x8 :: x9 :: x10 :: x11 :: y :: r) vs) 12) ∧
  (∀ (x0 x1 x2 x3 x4 x5 x6 x7 x8 x9 x10 x11 : Option V) (y : Option V) (r : St), Setn (x0 :: x1 :: x2 :: x3 :: x4 :: x5 :: x6 :: x7 :: x8 :: x9 :: x10 :: x11 :: y :: r) 12 = (x0 :: x1 :: x2 :: x3 :: x4 :: x5 :: x6 :: x7 :: x8 :: x9 :: x10 :: x11 :: none :: r)) ∧
  (∀ (x0 x1 x2 x3 x4 x5 x6 x7 x8 x9 x10 x11 x12 : Option V) (v : V) (r : St) (H : Hp) (Q : VK), tVar 13 (x0 :: x1 :: x2 :: x3 :: x4 :: x5 :: x6 :: x7 :: x8 :: x9 :: x10 :: x11 :: x12 :: some v :: r) H Q = Q v H) ∧
  (∀ (x0 x1 x2 x3 x4 x5 x6 x7 x8 x9 x10 x11 x12 : Option V) (y : Option V) (v : V) (r : St) (H : Hp) (Q : St → Hp → Prop), gName 13 v (x0 :: x1 :: x2 :: x3 :: x4 :: x5 :: x6 :: x7 :: x8 :: x9 :: x10 :: x11 :: x12 :: y :: r) H Q = Q (x0 :: x1 :: x2 :: x3 :: x4 :: x5 :: x6 :: x7 :: x8 :: x9 :: x10 :: x11 :: x12 :: some v :: r) H) ∧
  (∀ (x0 x1 x2 x3 x4 x5 x6 x7 x8 x9 x10 x11 x12 : Option V) (v : V) (r : St) (te : TE) (ti : TIp) (D : Ends) (H : Hp), tAug 13 te ti D (x0 :: x1 :: x2 :: x3 :: x4 :: x5 :: x6 :: x7 :: x8 :: x9 :: x10 :: x11 :: x12 :: some v :: r) H = te (x0 :: x1 :: x2 :: x3 :: x4 :: x5 :: x6 :: x7 :: x8 :: x9 :: x10 :: x11 :: x12 :: some v :: r) H (fun y H1 => ti v y H1 (fun z H2 => D.nx (x0 :: x1 :: x2 :: x3 :: x4 :: x5 :: x6 :: x7 :: x8 :: x9 :: x10 :: x11 :: x12 :: some z :: r) H2))) ∧
  (∀ (x0 x1 x2 x3 x4 x5 x6 x7 x8 x9 x10 x11 x12 : Option V) (y : Option V) (r : St) (vs : List Nat), wipe (x0 :: x1 :: x2 :: x3 :: x4 :: x5 :: x6 :: x7 :: x8 :: x9 :: x10 :: x11 :: x12 :: y :: r) (13 :: vs) = Setn (wipe (x0 :: x1 :: x2 :: x3 :: x4 :: x5 :: x6 :: x7 :: x8 :: x9 :: x10 :: x11 :: x12 :: y :: r) vs) 13) ∧
  (∀ (x0 x1 x2 x3 x4 x5 x6 x7 x8 x9 x10 x11 x12 : Option V) (y : Option V) (r : St), Setn (x0 :: x1 :: x2 :: x3 :: x4 :: x5 :: x6 :: x7 :: x8 :: x9 :: x10 :: x11 :: x12 :: y :: r) 13 = (x0 :: x1 :: x2 :: x3 :: x4 :: x5 :: x6 :: x7 :: x8 :: x9 :: x10 :: x11 :: x12 :: none :: r)) ∧
  (∀ (x0 x1 x2 x3 x4 x5 x6 x7 x8 x9 x10 x11 x12 x13 : Option V) (v : V) (r : St) (H : Hp) (Q : VK), tVar 14 (x0 :: x1 :: x2 :: x3 :: x4 :: x5 :: x6 :: x7 :: x8 :: x9 :: x10 :: x11 :: x12 :: x13 :: some v :: r) H Q = Q v H) ∧
  (∀ (x0 x1 x2 x3 x4 x5 x6 x7 x8 x9 x10 x11 x12 x13 : Option V) (y : Option V) (v : V) (r : St) (H : Hp) (Q : St → Hp → Prop), gName 14 v (x0 :: x1 :: x2 :: x3 :: x4 :: x5 :: x6 :: x7 :: x8 :: x9 :: x10 :: x11 :: x12 :: x13 :: y :: r) H Q = Q (x0 :: x1 :: x2 :: x3 :: x4 :: x5 :: x6 :: x7 :: x8 :: x9 :: x10 :: x11 :: x12 :: x13 :: some v :: r) H) ∧
  (∀ (x0 x1 x2 x3 x4 x5 x6 x7 x8 x9 x10 x11 x12 x13 : Option V) (v : V) (r : St) (te : TE) (ti : TIp) (D : Ends) (H : Hp), tAug 14 te ti D (x0 :: x1 :: x2 :: x3 :: x4 :: x5 :: x6 :: x7 :: x8 :: x9 :: x10 :: x11 :: x12 :: x13 :: some v :: r) H = te (x0 :: x1 :: x2 :: x3 :: x4 :: x5 :: x6 :: x7 :: x8 :: x9 :: x10 :: x11 :: x12 :: x13 :: some v :: r) H (fun y H1 => ti v y H1 (fun z H2 => D.nx (x0 :: x1 :: x2 :: x3 :: x4 :: x5 :: x6 :: x7 :: x8 :: x9 :: x10 :: x11 :: x12 :: x13 :: some z :: r) H2))) ∧
  (∀ (x0 x1 x2 x3 x4 x5 x6 x7 x8 x9 x10 x11 x12 x13 : Option V) (y : Option V) (r : St) (vs : List Nat), wipe (x0 :: x1 :: x2 :: x3 :: x4 :: x5 :: x6 :: x7 :: x8 :: x9 :: x10 :: x11 :: x12 :: x13 :: y :: r) (14 :: vs) = Setn (wipe (x0 :: x1 :: x2 :: x3 :: x4 :: x5 :: x6 :: x7 :: x8 :: x9 :: x10 :: x11 :: x12 :: x13 :: y :: r) vs) 14) ∧
  (∀ (x0 x1 x2 x3 x4 x5 x6 x7 x8 x9 x10 x11 x12 x13 : Option V) (y : Option V) (r : St), Setn (x0 :: x1 :: x2 :: x3 :: x4 :: x5 :: x6 :: x7 :: x8 :: x9 :: x10 :: x11 :: x12 :: x13 :: y :: r) 14 = (x0 :: x1 :: x2 :: x3 :: x4 :: x5 :: x6 :: x7 :: x8 :: x9 :: x10 :: x11 :: x12 :: x13 :: none :: r)) ∧
  (∀ (x0 x1 x2 x3 x4 x5 x6 x7 x8 x9 x10 x11 x12 x13 x14 : Option V) (v : V) (r : St) (H : Hp) (Q : VK), tVar 15 (x0 :: x1 :: x2 :: x3 :: x4 :: x5 :: x6 :: x7 :: x8 :: x9 :: x10 :: x11 :: x12 :: x13 :: x14 :: some v :: r) H Q = Q v H) ∧
  (∀ (x0 x1 x2 x3 x4 x5 x6 x7 x8 x9 x10 x11 x12 x13 x14 : Option V) (y : Option V) (v : V) (r : St) (H : Hp) (Q : St → Hp → Prop), gName 15 v (x0 :: x1 :: x2 :: x3 :: x4 :: x5 :: x6 :: x7 :: x8 :: x9 :: x10 :: x11 :: x12 :: x13 :: x14 :: y :: r) H Q = Q (x0 :: x1 :: x2 :: x3 :: x4 :: x5 :: x6 :: x7 :: x8 :: x9 :: x10 :: x11 :: x12 :: x13 :: x14 :: some v :: r) H) ∧
  (∀ (x0 x1 x2 x3 x4 x5 x6 x7 x8 x9 x10 x11 x12 x13 x14 : Option V) (v : V) (r : St) (te : TE) (ti : TIp) (D : Ends) (H : Hp), tAug 15 te ti D (x0 :: x1 :: x2 :: x3 :: x4 :: x5 :: x6 :: x7 :: x8 :: x9 :: x10 :: x11 :: x12 :: x13 :: x14 :: some v :: r) H = te (x0 :: x1 :: x2 :: x3 :: x4 :: x5 :: x6 :: x7 :: x8 :: x9 :: x10 :: x11 :: x12 :: x13 :: x14 :: some v :: r) H (fun y H1 => ti v y H1 (fun z H2 => D.nx (x0 :: x1 :: x2 :: x3 :: x4 :: x5 :: x6 :: x7 :: x8 :: x9 :: x10 :: x11 :: x12 :: x13 :: x14 :: some z :: r) H2))) ∧
  (∀ (x0 x1 x2 x3 x4 x5 x6 x7 x8 x9 x10 x11 x12 x13 x14 : Option V) (y : Option V) (r : St) (vs : List Nat), wipe (x0 :: x1 :: x2 :: x3 :: x4 :: x5 :: x6 :: x7 :: x8 :: x9 :: x10 :: x11 :: x12 :: x13 :: x14 :: y :: r) (15 :: vs) = Setn (wipe (x0 :: x1 :: x2 :: x3 :: x4 :: x5 :: x6 :: x7 :: x8 :: x9 :: x10 :: x11 :: x12 :: x13 :: x14 :: y :: r) vs) 15) ∧
  (∀ (x0 x1 x2 x3 x4 x5 x6 x7 x8 x9 x10 x11 x12 x13 x14 : Option V) (y : Option V) (r : St), Setn (x0 :: x1 :: x2 :: x3 :: x4 :: x5 :: x6 :: x7 :: x8 :: x9 :: x10 :: x11 :: x12 :: x13 :: x14 :: y :: r) 15 = (x0 :: x1 :: x2 :: x3 :: x4 :: x5 :: x6 :: x7 :: x8 :: x9 :: x10 :: x11 :: x12 :: x13 :: x14 :: none :: r)) ∧
  (∀ (x0 x1 x2 x3 x4 x5 x6 x7 x8 x9 x10 x11 x12 x13 x14 x15 : Option V) (v : V) (r : St) (H : Hp) (Q : VK), tVar 16 (x0 :: x1 :: x2 :: x3 :: x4 :: x5 :: x6 :: x7 :: x8 :: x9 :: x10 :: x11 :: x12 :: x13 :: x14 :: x15 :: some v :: r) H Q = Q v H) ∧
  (∀ (x0 x1 x2 x3 x4 x5 x6 x7 x8 x9 x10 x11 x12 x13 x14 x15 : Option V) (y : Option V) (v : V) (r : St) (H : Hp) (Q : St → Hp → Prop), gName 16 v (x0 :: x1 :: x2 :: x3 :: x4 :: x5 :: x6 :: x7 :: x8 :: x9 :: x10 :: x11 :: x12 :: x13 :: x14 :: x15 :: y :: r) H Q = Q (x0 :: x1 :: x2 :: x3 :: x4 :: x5 :: x6 :: x7 :: x8 :: x9 :: x10 :: x11 :: x12 :: x13 :: x14 :: x15 :: some v :: r) H) ∧
  (∀ (x0 x1 x2 x3 x4 x5 x6 x7 x8 x9 x10 x11 x12 x13 x14 x15 : Option V) (v : V) (r : St) (te : TE) (ti : TIp) (D : Ends) (H : Hp), tAug 16 te ti D (x0 :: x1 :: x2 :: x3 :: x4 :: x5 :: x6 :: x7 :: x8 :: x9 :: x10 :: x11 :: x12 :: x13 :: x14 :: x15 :: some v :: r) H = te (x0 :: x1 :: x2 :: x3 :: x4 :: x5 :: x6 :: x7 :: x8 :: x9 :: x10 :: x11 :: x12 :: x13 :: x14 :: x15 :: some v :: r) H (fun y H1 => ti v y H1 (fun z H2 => D.nx (x0 :: x1 :: x2 :: x3 :: x4 :: x5 :: x6 :: x7 :: x8 :: x9 :: x10 :: x11 :: x12 :: x13 :: x14 :: x15 :: some z :: r) H2))) ∧
  (∀ (x0 x1 x2 x3 x4 x5 x6 x7 x8 x9 x10 x11 x12 x13 x14 x15 : Option V) (y : Option V) (r : St) (vs : List Nat), wipe (x0 :: x1 :: x2 :: x3 :: x4 :: x5 :: x6 :: x7 :: x8 :: x9 :: x10 :: x11 :: x12 :: x13 :: x14 :: x15 :: y :: r) (16 :: vs) = Setn (wipe (x0 :: x1 :: x2 :: x3 :: x4 :: x5 :: x6 :: x7 :: x8 :: x9 :: x10 :: x11 :: x12 :: x13 :: x14 :: x15 :: y :: r) vs) 16) ∧
  (∀ (x0 x1 x2 x3 x4 x5 x6 x7 x8 x9 x10 x11 x12 x13 x14 x15 : Option V) (y : Option V) (r : St), Setn (x0 :: x1 :: x2 :: x3 :: x4 :: x5 :: x6 :: x7 :: x8 :: x9 :: x10 :: x11 :: x12 :: x13 :: x14 :: x15 :: y :: r) 16 = (x0 :: x1 :: x2 :: x3 :: x4 :: x5 :: x6 :: x7 :: x8 :: x9 :: x10 :: x11 :: x12 :: x13 :: x14 :: x15 :: none :: r)) ∧
  (∀ (x0 x1 x2 x3 x4 x5 x6 x7 x8 x9 x10 x11 x12 x13 x14 x15 x16 : Option V) (v : V) (r : St) (H : Hp) (Q : VK), tVar 17 (x0 :: x1 :: x2 :: x3 :: x4 :: x5 :: x6 :: x7 :: x8 :: x9 :: x10 :: x11 :: x12 :: x13 :: x14 :: x15 :: x16 :: some v :: r) H Q = Q v H) ∧
  (∀ (x0 x1 x2 x3 x4 x5 x6 x7 x8 x9 x10 x11 x12 x13 x14 x15 x16 : Option V) (y : Option V) (v : V) (r : St) (H : Hp) (Q : St → Hp → Prop), gName 17 v (x0 :: x1 :: x2 :: x3 :: x4 :: x5 :: x6 :: x7 :: x8 :: x9 :: x10 :: x11 :: x12 :: x13 :: x14 :: x15 :: x16 :: y :: r) H Q = Q (x0 :: x1 :: x2 :: x3 :: x4 :: x5 :: x6 :: x7 :: x8 :: x9 :: x10 :: x11 :: x12 :: x13 :: x14 :: x15 :: x16 :: some v :: r) H) ∧
  (∀ (x0 x1 x2 x3 x4 x5 x6 x7 x8 x9 x10 x11 x12 x13 x14 x15 x16 : Option V) (v : V) (r : St) (te : TE) (ti : TIp) (D : Ends) (H : Hp), tAug 17 te ti D (x0 :: x1 :: x2 :: x3 :: x4 :: x5 :: x6 :: x7 :: x8 :: x9 :: x10 :: x11 :: x12 :: x13 :: x14 :: x15 :: x16 :: some v :: r) H = te (x0 :: x1 :: x2 :: x3 :: x4 :: x5 :: x6 :: x7 :: x8 :: x9 :: x10 :: x11 :: x12 :: x13 :: x14 :: x15 :: x16 :: some v :: r) H (fun y H1 => ti v y H1 (fun z H2 => D.nx (x0 :: x1 :: x2 :: x3 :: x4 :: x5 :: x6 :: x7 :: x8 :: x9 :: x10 :: x11 :: x12 :: x13 :: x14 :: x15 :: x16 :: some z :: r) H2))) ∧
  (∀ (x0 x1 x2 x3 x4 x5 x6 x7 x8 x9 x10 x11 x12 x13 x14 x15 x16 : Option V) (y : Option V) (r : St) (vs : List Nat), wipe (x0 :: x1 :: x2 :: x3 :: x4 :: x5 :: x6 :: x7 :: x8 :: x9 :: x10 :: x11 :: x12 :: x13 :: x14 :: x15 :: x16 :: y :: r) (17 :: vs) = Setn (wipe (x0 :: x1 :: x2 :: x3 :: x4 :: x5 :: x6 :: x7 :: x8 :: x9 :: x10 :: x11 :: x12 :: x13 :: x14 :: x15 :: x16 :: y :: r) vs) 17) ∧
  (∀ (x0 x1 x2 x3 x4 x5 x6 x7 x8 x9 x10 x11 x12 x13 x14 x15 x16 : Option V) (y : Option V) (r : St), Setn (x0 :: x1 :: x2 :: x3 :: x4 :: x5 :: x6 :: x7 :: x8 :: x9 :: x10 :: x11 :: x12 :: x13 :: x14 :: x15 :: x16 :: y :: r) 17 = (x0 :: x1 :: x2 :: x3 :: x4 :: x5 :: x6 :: x7 :: x8 :: x9 :: x10 :: x11 :: x12 :: x13 :: x14 :: x15 :: x16 :: none :: r)) ∧
  (∀ (x0 x1 x2 x3 x4 x5 x6 x7 x8 x9 x10 x11 x12 x13 x14 x15 x16 x17 : Option V) (v : V) (r : St) (H : Hp) (Q : VK), tVar 18 (x0 :: x1 :: x2 :: x3 :: x4 :: x5 :: x6 :: x7 :: x8 :: x9 :: x10 :: x11 :: x12 :: x13 :: x14 :: x15 :: x16 :: x17 :: some v :: r) H Q = Q v H) ∧
  (∀ (x0 x1 x2 x3 x4 x5 x6 x7 x8 x9 x10 x11 x12 x13 x14 x15 x16 x17 : Option V) (y : Option V) (v : V) (r : St) (H : Hp) (Q : St → Hp → Prop), gName 18 v (x0 :: x1 :: x2 :: x3 :: x4 :: x5 :: x6 :: x7 :: x8 :: x9 :: x10 :: x11 :: x12 :: x13 :: x14 :: x15 :: x16 :: x17 :: y :: r) H Q = Q (x0 :: x1 :: x2 :: x3 :: x4 :: x5 :: x6 :: x7 :: x8 :: x9 :: x10 :: x11 :: x12 :: x13 :: x14 :: x15 :: x16 :: x17 :: some v :: r) H) ∧
  (∀ (x0 x1 x2 x3 x4 x5 x6 x7 x8 x9 x10 x11 x12 x13 x14 x15 x16 x17 : Option V) (v : V) (r : St) (te : TE) (ti : TIp) (D : Ends) (H : Hp), tAug 18 te ti D (x0 :: x1 :: x2 :: x3 :: x4 :: x5 :: x6 :: x7 :: x8 :: x9 :: x10 :: x11 :: x12 :: x13 :: x14 :: x15 :: x16 :: x17 :: some v :: r) H = te (x0 :: x1 :: x2 :: x3 :: x4 :: x5 :: x6 :: x7 :: x8 :: x9 :: x10 :: x11 :: x12 :: x13 :: x14 :: x15 :: x16 :: x17 :: some v :: r) H (fun y H1 => ti v y H1 (fun z H2 => D.nx (x0 :: x1 :: x2 :: x3 :: x4 :: x5 :: x6 :: x7 :: x8 :: x9 :: x10 :: x11 :: x12 :: x13 :: x14 :: x15 :: x16 :: x17 :: some z :: r) H2))) ∧
  (∀ (x0 x1 x2 x3 x4 x5 x6 x7 x8 x9 x10 x11 x12 x13 x14 x15 x16 x17 : Option V) (y : Option V) (r : St) (vs : List Nat), wipe (x0 :: x1 :: x2 :: x3 :: x4 :: x5 :: x6 :: x7 :: x8 :: x9 :: x10 :: x11 :: x12 :: x13 :: x14 :: x15 :: x16 :: x17 :: y :: r) (18 :: vs) = Setn (wipe (x0 :: x1 :: x2 :: x3 :: x4 :: x5 :: x6 :: x7 :: x8 :: x9 :: x10 :: x11 :: x12 :: x13 :: x14 :: x15 :: x16 :: x17 :: y :: r) vs) 18) ∧
  (∀ (x0 x1 x2 x3 x4 x5 x6 x7 x8 x9 x10 x11 x12 x13 x14 x15 x16 x17 : Option V) (y : Option V) (r : St), Setn (x0 :: x1 :: x2 :: x3 :: x4 :: x5 :: x6 :: x7 :: x8 :: x9 :: x10 :: x11 :: x12 :: x13 :: x14 :: x15 :: x16 :: x17 :: y :: r) 18 = (x0 :: x1 :: x2 :: x3 :: x4 :: x5 :: x6 :: x7 :: x8 :: x9 :: x10 :: x11 :: x12 :: x13 :: x14 :: x15 :: x16 :: x17 :: none :: r)) ∧
  (∀ (x0 x1 x2 x3 x4 x5 x6 x7 x8 x9 x10 x11 x12 x13 x14 x15 x16 x17 x18 : Option V) (v : V) (r : St) (H : Hp) (Q : VK), tVar 19 (x0 :: x1 :: x2 :: x3 :: x4 :: x5 :: x6 :: x7 :: x8 :: x9 :: x10 :: x11 :: x12 :: x13 :: x14 :: x15 :: x16 :: x17 :: x18 :: some v :: r) H Q = Q v H) ∧
  (∀ (x0 x1 x2 x3 x4 x5 x6 x7 x8 x9 x10 x11 x12 x13 x14 x15 x16 x17 x18 : Option V) (y : Option V) (v : V) (r : St) (H : Hp) (Q : St → Hp → Prop), gName 19 v (x0 :: x1 :: x2 :: x3 :: x4 :: x5 :: x6 :: x7 :: x8 :: x9 :: x10 :: x11 :: x12 :: x13 :: x14 :: x15 :: x16 :: x17 :: x18 :: y :: r) H Q = Q (x0 :: x1 :: x2 :: x3 :: x4 :: x5 :: x6 :: x7 :: x8 :: x9 :: x10 :: x11 :: x12 :: x13 :: x14 :: x15 :: x16 :: x17 :: x18 :: some v :: r) H) ∧
  (∀ (x0 x1 x2 x3 x4 x5 x6 x7 x8 x9 x10 x11 x12 x13 x14 x15 x16 x17 x18 : Option V) (v : V) (r : St) (te : TE) (ti : TIp) (D : Ends) (H : Hp), tAug 19 te ti D (x0 :: x1 :: x2 :: x3 :: x4 :: x5 :: x6 :: x7 :: x8 :: x9 :: x10 :: x11 :: x12 :: x13 :: x14 :: x15 :: x16 :: x17 :: x18 :: some v :: r) H = te (x0 :: x1 :: x2 :: x3 :: x4 :: x5 :: x6 :: x7 :: x8 :: x9 :: x10 :: x11 :: x12 :: x13 :: x14 :: x15 :: x16 :: x17 :: x18 :: some v :: r) H (fun y H1 => ti v y H1 (fun z H2 => D.nx (x0 :: x1 :: x2 :: x3 :: x4 :: x5 :: x6 :: x7 :: x8 :: x9 :: x10 :: x11 :: x12 :: x13 :: x14 :: x15 :: x16 :: x17 :: x18 :: some z :: r) H2))) ∧
  (∀ (x0 x1 x2 x3 x4 x5 x6 x7 x8 x9 x10 x11 x12 x13 x14 x15 x16 x17 x18 : Option V) (y : Option V) (r : St) (vs : List Nat), wipe (x0 :: x1 :: x2 :: x3 :: x4 :: x5 :: x6 :: x7 :: x8 :: x9 :: x10 :: x11 :: x12 :: x13 :: x14 :: x15 :: x16 :: x17 :: x18 :: y :: r) (19 :: vs) = Setn (wipe (x0 :: x1 :: x2 :: x3 :: x4 :: x5 :: x6 :: x7 :: x8 :: x9 :: x10 :: x11 :: x12 :: x13 :: x14 :: x15 :: x16 :: x17 :: x18 :: y :: r) vs) 19) ∧
  (∀ (x0 x1 x2 x3 x4 x5 x6 x7 x8 x9 x10 x11 x12 x13 x14 x15 x16 x17 x18 : Option V) (y : Option V) (r : St), Setn (x0 :: x1 :: x2 :: x3 :: x4 :: x5 :: x6 :: x7 :: x8 :: x9 :: x10 :: x11 :: x12 :: x13 :: x14 :: x15 :: x16 :: x17 :: x18 :: y :: r) 19 = (x0 :: x1 :: x2 :: x3 :: x4 :: x5 :: x6 :: x7 :: x8 :: x9 :: x10 :: x11 :: x12 :: x13 :: x14 :: x15 :: x16 :: x17 :: x18 :: none :: r)) ∧
  (∀ (v : V) (r : List V), atI (v :: r) 0 = some v) ∧
  (∀ (x0 : V) (v : V) (r : List V), atI (x0 :: v :: r) 1 = some v) ∧
  (∀ (x0 x1 : V) (v : V) (r : List V), atI (x0 :: x1 :: v :: r) 2 = some v) ∧
  (∀ (x0 x1 x2 : V) (v : V) (r : List V), atI (x0 :: x1 :: x2 :: v :: r) 3 = some v) ∧
  (∀ (x0 x1 x2 x3 : V) (v : V) (r : List V), atI (x0 :: x1 :: x2 :: x3 :: v :: r) 4 = some v) ∧
  (∀ (x0 x1 x2 x3 x4 : V) (v : V) (r : List V), atI (x0 :: x1 :: x2 :: x3 :: x4 :: v :: r) 5 = some v) ∧
  (∀ (x0 x1 x2 x3 x4 x5 : V) (v : V) (r : List V), atI (x0 :: x1 :: x2 :: x3 :: x4 :: x5 :: v :: r) 6 = some v) ∧
  (∀ ( y : V) (r : List V), ixN (y :: r).length 0 = some 0) ∧
  (∀ ( y v : V) (r : List V), (y :: r).set 0 v = v :: r) ∧
  (∀ (x0 y : V) (r : List V), ixN (x0 :: y :: r).length 1 = some 1) ∧
  (∀ (x0 y v : V) (r : List V), (x0 :: y :: r).set 1 v = x0 :: v :: r) ∧
  (∀ (x0 x1 y : V) (r : List V), ixN (x0 :: x1 :: y :: r).length 2 = some 2) ∧
  (∀ (x0 x1 y v : V) (r : List V), (x0 :: x1 :: y :: r).set 2 v = x0 :: x1 :: v :: r) ∧
  (∀ (x0 x1 x2 y : V) (r : List V), ixN (x0 :: x1 :: x2 :: y :: r).length 3 = some 3) ∧
  (∀ (x0 x1 x2 y v : V) (r : List V), (x0 :: x1 :: x2 :: y :: r).set 3 v = x0 :: x1 :: x2 :: v :: r) ∧
  (∀ (x0 x1 x2 x3 y : V) (r : List V), ixN (x0 :: x1 :: x2 :: x3 :: y :: r).length 4 = some 4) ∧
  (∀ (x0 x1 x2 x3 y v : V) (r : List V), (x0 :: x1 :: x2 :: x3 :: y :: r).set 4 v = x0 :: x1 :: x2 :: x3 :: v :: r) ∧
  (∀ (x0 x1 x2 x3 x4 y : V) (r : List V), ixN (x0 :: x1 :: x2 :: x3 :: x4 :: y :: r).length 5 = some 5) ∧
  (∀ (x0 x1 x2 x3 x4 y v : V) (r : List V), (x0 :: x1 :: x2 :: x3 :: x4 :: y :: r).set 5 v = x0 :: x1 :: x2 :: x3 :: x4 :: v :: r) ∧
  (∀ (H : Hp) (p a : Addr) (o : HO), H p = none → (H a).isSome = true → upd H p o a = H a) ∧
  (∀ (H : Hp) (p : Addr) (o : HO), upd H p o p = some o) ∧
  (∀ (i j : Int), (-18446744073709551616 < j ∧ j < 18446744073709551616) → CMul i j = True) ∧
  (∀ (i j : Int), (-18446744073709551616 < i ∧ i < 18446744073709551616) → CMul i j = True) ∧
  (∀ (xs : List V), (some xs).isSome = true) ∧
  (∀ (x : HO), (some x).isSome = true) ∧
  (∀ (x : V) (r : List V), seqIndex? 0 (x :: r).length = some 0) ∧
  (∀ (x : V) (r : List V), (x :: r)[0]? = some x) ∧
  (∀ (x : V) (r : List V), (x :: r).eraseIdx 0 = r) ∧
  (∀ (c : Nat) (z : Str) (H : Hp) (Q : VK), rInSg (.str ⟨#[c]⟩) (.str z) H Q = Q (.bl (decide (c ∈ z.cps.toList))) H) ∧
  (∀ (c : Nat) (z : Str) (H : Hp) (Q : VK), rNiSg (.str ⟨#[c]⟩) (.str z) H Q = Q (.bl (!decide (c ∈ z.cps.toList))) H) ∧
  (∀ (i j : Str) (H : Hp) (Q : VK), rAddS (.str i) (.str j) H Q = (i.length + j.length ≤ sizeLine ∧ Q (.str (i ++ j)) H)) ∧
  (∀ (p : List Nat → List Nat → Bool) (i j : Str) (H : Hp) (Q : VK), rStC p (.str i) (.str j) H Q = Q (.bl (p i.cps.toList j.cps.toList)) H) ∧
  (∀ (z : Str) (H : Hp) (Q : VK), rLenS [.str z] H Q = (z.length ≤ sizeLine ∧ Q (.int z.length) H)) ∧
  (∀ (z : Str) (n : Int) (H : Hp) (Q : VK), rMulS (.str z) (.int n) H Q = (z.length ≤ 4000 ∧ -1000 ≤ n ∧ n ≤ 4000 ∧ ∀ r : Str, r.cps.toList = (List.replicate n.toNat z.cps.toList).flatten → Q (.str r) H)) ∧
  (∀ (a : Str) (p : Addr) (H : Hp) (Q : VK), rJoinS (.str a) [.ref p] H Q = (∃ ys : List Str, H p = some (.lst (ys.map V.str)) ∧ (ys.map (·.length)).sum + ys.length * a.length ≤ 16777216 ∧ Q (.str (Str.join a ys)) H)) ∧
  (∀ (i : Str), (∃ a, V.str i = V.str a) = True) ∧
  (∀ (a b : Bool) (H : Hp) (Q : VK), rIsB (.bl a) (.bl b) H Q = Q (.bl (decide (a = b))) H) ∧
  (∀ (a b : Bool) (H : Hp) (Q : VK), rNotB (.bl a) (.bl b) H Q = Q (.bl (!decide (a = b))) H) ∧
  (∀ (c : Bool) (j i : Int) (p : Int → Int → Bool) (σ : St) (H : Hp) (Q : VK), Chk c (tC (.int j)) (rI0 (fun i j => V.bl (p i j)) (.int i)) σ H Q = Q (.bl (c && p i j)) H) ∧
  (∀ (c : Bool) (j i : Str) (p : List Nat → List Nat → Bool) (σ : St) (H : Hp) (Q : VK), Chk c (tC (.str j)) (rStC p (.str i)) σ H Q = Q (.bl (c && p i.cps.toList j.cps.toList)) H) ∧
  (∀ (c : Bool) (j i : Int) (p : Int → Int → Bool) (r : St) (H : Hp) (Q : VK), Chk c (tVar 0) (rI0 (fun i j => V.bl (p i j)) (.int i)) (some (.int j) :: r) H Q = Q (.bl (c && p i j)) H) ∧
  (∀ (x0 : Option V) (c : Bool) (j i : Int) (p : Int → Int → Bool) (r : St) (H : Hp) (Q : VK), Chk c (tVar 1) (rI0 (fun i j => V.bl (p i j)) (.int i)) (x0 :: some (.int j) :: r) H Q = Q (.bl (c && p i j)) H) ∧
  (∀ (x0 x1 : Option V) (c : Bool) (j i : Int) (p : Int → Int → Bool) (r : St) (H : Hp) (Q : VK), Chk c (tVar 2) (rI0 (fun i j => V.bl (p i j)) (.int i)) (x0 :: x1 :: some (.int j) :: r) H Q = Q (.bl (c && p i j)) H) ∧
  (∀ (x0 x1 x2 : Option V) (c : Bool) (j i : Int) (p : Int → Int → Bool) (r : St) (H : Hp) (Q : VK), Chk c (tVar 3) (rI0 (fun i j => V.bl (p i j)) (.int i)) (x0 :: x1 :: x2 :: some (.int j) :: r) H Q = Q (.bl (c && p i j)) H) ∧
  (∀ (x0 x1 x2 x3 : Option V) (c : Bool) (j i : Int) (p : Int → Int → Bool) (r : St) (H : Hp) (Q : VK), Chk c (tVar 4) (rI0 (fun i j => V.bl (p i j)) (.int i)) (x0 :: x1 :: x2 :: x3 :: some (.int j) :: r) H Q = Q (.bl (c && p i j)) H) ∧
  (∀ (x0 x1 x2 x3 x4 : Option V) (c : Bool) (j i : Int) (p : Int → Int → Bool) (r : St) (H : Hp) (Q : VK), Chk c (tVar 5) (rI0 (fun i j => V.bl (p i j)) (.int i)) (x0 :: x1 :: x2 :: x3 :: x4 :: some (.int j) :: r) H Q = Q (.bl (c && p i j)) H) ∧
  (∀ (x0 x1 x2 x3 x4 x5 : Option V) (c : Bool) (j i : Int) (p : Int → Int → Bool) (r : St) (H : Hp) (Q : VK), Chk c (tVar 6) (rI0 (fun i j => V.bl (p i j)) (.int i)) (x0 :: x1 :: x2 :: x3 :: x4 :: x5 :: some (.int j) :: r) H Q = Q (.bl (c && p i j)) H) ∧
  (∀ (x0 x1 x2 x3 x4 x5 x6 : Option V) (c : Bool) (j i : Int) (p : Int → Int → Bool) (r : St) (H : Hp) (Q : VK), Chk c (tVar 7) (rI0 (fun i j => V.bl (p i j)) (.int i)) (x0 :: x1 :: x2 :: x3 :: x4 :: x5 :: x6 :: some (.int j) :: r) H Q = Q (.bl (c && p i j)) H) ∧
  (∀ (x0 x1 x2 x3 x4 x5 x6 x7 : Option V) (c : Bool) (j i : Int) (p : Int → Int → Bool) (r : St) (H : Hp) (Q : VK), Chk c (tVar 8) (rI0 (fun i j => V.bl (p i j)) (.int i)) (x0 :: x1 :: x2 :: x3 :: x4 :: x5 :: x6 :: x7 :: some (.int j) :: r) H Q = Q (.bl (c && p i j)) H) ∧
  (∀ (x0 x1 x2 x3 x4 x5 x6 x7 x8 : Option V) (c : Bool) (j i : Int) (p : Int → Int → Bool) (r : St) (H : Hp) (Q : VK), Chk c (tVar 9) (rI0 (fun i j => V.bl (p i j)) (.int i)) (x0 :: x1 :: x2 :: x3 :: x4 :: x5 :: x6 :: x7 :: x8 :: some (.int j) :: r) H Q = Q (.bl (c && p i j)) H) ∧
  (∀ (x0 x1 x2 x3 x4 x5 x6 x7 x8 x9 : Option V) (c : Bool) (j i : Int) (p : Int → Int → Bool) (r : St) (H : Hp) (Q : VK), Chk c (tVar 10) (rI0 (fun i j => V.bl (p i j)) (.int i)) (x0 :: x1 :: x2 :: x3 :: x4 :: x5 :: x6 :: x7 :: x8 :: x9 :: some (.int j) :: r) H Q = Q (.bl (c && p i j)) H) ∧
  (∀ (x0 x1 x2 x3 x4 x5 x6 x7 x8 x9 x10 : Option V) (c : Bool) (j i : Int) (p : Int → Int → Bool) (r : St) (H : Hp) (Q : VK), Chk c (tVar 11) (rI0 (fun i j => V.bl (p i j)) (.int i)) (x0 :: x1 :: x2 :: x3 :: x4 :: x5 :: x6 :: x7 :: x8 :: x9 :: x10 :: some (.int j) :: r) H Q = Q (.bl (c && p i j)) H) ∧
  (∀ (x0 x1 x2 x3 x4 x5 x6 x7 x8 x9 x10 x11 : Option V) (c : Bool) (j i : Int) (p : Int → Int → Bool) (r : St) (H : Hp) (Q : VK), Chk c (tVar 12) (rI0 (fun i j => V.bl (p i j)) (.int i)) (x0 :: x1 :: x2 :: x3 :: x4 :: x5 :: x6 :: x7 :: x8 :: x9 :: x10 :: x11 :: some (.int j) :: r) H Q = Q (.bl (c && p i j)) H) ∧
  (∀ (x0 x1 x2 x3 x4 x5 x6 x7 x8 x9 x10 x11 x12 : Option V) (c : Bool) (j i : Int) (p : Int → Int → Bool) (r : St) (H : Hp) (Q : VK), Chk c (tVar 13) (rI0 (fun i j => V.bl (p i j)) (.int i)) (x0 :: x1 :: x2 :: x3 :: x4 :: x5 :: x6 :: x7 :: x8 :: x9 :: x10 :: x11 :: x12 :: some (.int j) :: r) H Q = Q (.bl (c && p i j)) H) ∧
  (∀ (x0 x1 x2 x3 x4 x5 x6 x7 x8 x9 x10 x11 x12 x13 : Option V) (c : Bool) (j i : Int) (p : Int → Int → Bool) (r : St) (H : Hp) (Q : VK), Chk c (tVar 14) (rI0 (fun i j => V.bl (p i j)) (.int i)) (x0 :: x1 :: x2 :: x3 :: x4 :: x5 :: x6 :: x7 :: x8 :: x9 :: x10 :: x11 :: x12 :: x13 :: some (.int j) :: r) H Q = Q (.bl (c && p i j)) H) ∧
  (∀ (x0 x1 x2 x3 x4 x5 x6 x7 x8 x9 x10 x11 x12 x13 x14 : Option V) (c : Bool) (j i : Int) (p : Int → Int → Bool) (r : St) (H : Hp) (Q : VK), Chk c (tVar 15) (rI0 (fun i j => V.bl (p i j)) (.int i)) (x0 :: x1 :: x2 :: x3 :: x4 :: x5 :: x6 :: x7 :: x8 :: x9 :: x10 :: x11 :: x12 :: x13 :: x14 :: some (.int j) :: r) H Q = Q (.bl (c && p i j)) H) ∧
  (∀ (CX : CXT) (P : Program) (w : World) (K : PySem.W.Frag) (mg : Str → Option Value) (base : Heap) (N : List Str) (qual : Str) (scope : Scope) (f : Addr) (cd : Value) (A : Around) (outer : List Env) (s : Shared) (H : Hp) (E : XK), (cxOf CX P w K mg base N qual scope f cd A outer s H E).K = K) ∧
  (∀ (i j : Int), (0 ≤ j ∧ j ≤ 1000000 ∧ -18446744073709551616 < i ∧ i < 18446744073709551616) → CPow i j = True) ∧
  ((([] : List V).length ≤ sizeLine) = True) ∧
  (∀ (x0 : V), (([x0] : List V).length ≤ sizeLine) = True) ∧
  (∀ (x0 x1 : V), (([x0, x1] : List V).length ≤ sizeLine) = True) ∧
  (∀ (x0 x1 x2 : V), (([x0, x1, x2] : List V).length ≤ sizeLine) = True) ∧
  (∀ (x0 x1 x2 x3 : V), (([x0, x1, x2, x3] : List V).length ≤ sizeLine) = True) ∧
  (∀ (x0 x1 x2 x3 x4 : V), (([x0, x1, x2, x3, x4] : List V).length ≤ sizeLine) = True) ∧
  (∀ (x0 x1 x2 x3 x4 x5 : V), (([x0, x1, x2, x3, x4, x5] : List V).length ≤ sizeLine) = True) ∧
  (∀ (x0 x1 x2 x3 x4 x5 x6 : V), (([x0, x1, x2, x3, x4, x5, x6] : List V).length ≤ sizeLine) = True) ∧
  (∀ (x0 x1 x2 x3 x4 x5 x6 x7 : V), (([x0, x1, x2, x3, x4, x5, x6, x7] : List V).length ≤ sizeLine) = True) ∧
  (∀ (i : Int) (H : Hp) (Q : VK), rIsq [.int i, .ty "int"] H Q = Q (.bl true) H) ∧
  (∀ (i : Int) (H : Hp) (Q : VK), rIsq [.int i, .ty "bool"] H Q = Q (.bl false) H) ∧
  (∀ (i : Int) (H : Hp) (Q : VK), rIsq [.int i, .ty "str"] H Q = Q (.bl false) H) ∧
  (∀ (i : Int) (H : Hp) (Q : VK), rIsq [.int i, .ty "list"] H Q = Q (.bl false) H) ∧
  (∀ (i : Int) (H : Hp) (Q : VK), rIsq [.int i, .ty "tuple"] H Q = Q (.bl false) H) ∧
  (∀ (i : Bool) (H : Hp) (Q : VK), rIsq [.bl i, .ty "int"] H Q = Q (.bl true) H) ∧
  (∀ (i : Bool) (H : Hp) (Q : VK), rIsq [.bl i, .ty "bool"] H Q = Q (.bl true) H) ∧
  (∀ (i : Bool) (H : Hp) (Q : VK), rIsq [.bl i, .ty "str"] H Q = Q (.bl false) H) ∧
  (∀ (i : Bool) (H : Hp) (Q : VK), rIsq [.bl i, .ty "list"] H Q = Q (.bl false) H) ∧
  (∀ (i : Bool) (H : Hp) (Q : VK), rIsq [.bl i, .ty "tuple"] H Q = Q (.bl false) H) ∧
  (∀ (i : Str) (H : Hp) (Q : VK), rIsq [.str i, .ty "int"] H Q = Q (.bl false) H) ∧
  (∀ (i : Str) (H : Hp) (Q : VK), rIsq [.str i, .ty "bool"] H Q = Q (.bl false) H) ∧
  (∀ (i : Str) (H : Hp) (Q : VK), rIsq [.str i, .ty "str"] H Q = Q (.bl true) H) ∧
  (∀ (i : Str) (H : Hp) (Q : VK), rIsq [.str i, .ty "list"] H Q = Q (.bl false) H) ∧
  (∀ (i : Str) (H : Hp) (Q : VK), rIsq [.str i, .ty "tuple"] H Q = Q (.bl false) H) ∧
  (∀ (H : Hp) (Q : VK), rIsq [.non, .ty "int"] H Q = Q (.bl false) H) ∧
  (∀ (H : Hp) (Q : VK), rIsq [.non, .ty "bool"] H Q = Q (.bl false) H) ∧
  (∀ (H : Hp) (Q : VK), rIsq [.non, .ty "str"] H Q = Q (.bl false) H) ∧
  (∀ (H : Hp) (Q : VK), rIsq [.non, .ty "list"] H Q = Q (.bl false) H) ∧
  (∀ (H : Hp) (Q : VK), rIsq [.non, .ty "tuple"] H Q = Q (.bl false) H) ∧
  (∀ (p : Addr) (H : Hp) (Q : VK), (lstOf (H p)).isSome = true → rIsq [.ref p, .ty "int"] H Q = Q (.bl false) H) ∧
  (∀ (p : Addr) (H : Hp) (Q : VK), (lstOf (H p)).isSome = true → rIsq [.ref p, .ty "bool"] H Q = Q (.bl false) H) ∧
  (∀ (p : Addr) (H : Hp) (Q : VK), (lstOf (H p)).isSome = true → rIsq [.ref p, .ty "str"] H Q = Q (.bl false) H) ∧
  (∀ (p : Addr) (H : Hp) (Q : VK), (lstOf (H p)).isSome = true → rIsq [.ref p, .ty "list"] H Q = Q (.bl true) H) ∧
  (∀ (p : Addr) (H : Hp) (Q : VK), (lstOf (H p)).isSome = true → rIsq [.ref p, .ty "tuple"] H Q = Q (.bl false) H) ∧
  (∀ (p : Addr) (H : Hp) (Q : VK), (tupOf (H p)).isSome = true → rIsq [.ref p, .ty "int"] H Q = Q (.bl false) H) ∧
  (∀ (p : Addr) (H : Hp) (Q : VK), (tupOf (H p)).isSome = true → rIsq [.ref p, .ty "bool"] H Q = Q (.bl false) H) ∧
  (∀ (p : Addr) (H : Hp) (Q : VK), (tupOf (H p)).isSome = true → rIsq [.ref p, .ty "str"] H Q = Q (.bl false) H) ∧
  (∀ (p : Addr) (H : Hp) (Q : VK), (tupOf (H p)).isSome = true → rIsq [.ref p, .ty "list"] H Q = Q (.bl false) H) ∧
  (∀ (p : Addr) (H : Hp) (Q : VK), (tupOf (H p)).isSome = true → rIsq [.ref p, .ty "tuple"] H Q = Q (.bl true) H) ∧
  (∀ (i j : Int) (H : Hp) (Q : VK), rMx [.int i, .int j] H Q = Q (.int (max i j)) H) ∧
  (∀ (i j : Int) (H : Hp) (Q : VK), rMn [.int i, .int j] H Q = Q (.int (min i j)) H) ∧
  (∀ (i : Int) (H : Hp) (Q : VK), rIsNq (.int i) .non H Q = Q (.bl false) H) ∧
  (∀ (i : Bool) (H : Hp) (Q : VK), rIsNq (.bl i) .non H Q = Q (.bl false) H) ∧
  (∀ (i : Str) (H : Hp) (Q : VK), rIsNq (.str i) .non H Q = Q (.bl false) H) ∧
  (∀ (i : Addr) (H : Hp) (Q : VK), rIsNq (.ref i) .non H Q = Q (.bl false) H) ∧
  (∀ (H : Hp) (Q : VK), rIsNq (.non) .non H Q = Q (.bl true) H) ∧
  (∀ (i : Int) (H : Hp) (Q : VK), rNoNq (.int i) .non H Q = Q (.bl true) H) ∧
  (∀ (i : Bool) (H : Hp) (Q : VK), rNoNq (.bl i) .non H Q = Q (.bl true) H) ∧
  (∀ (i : Str) (H : Hp) (Q : VK), rNoNq (.str i) .non H Q = Q (.bl true) H) ∧
  (∀ (i : Addr) (H : Hp) (Q : VK), rNoNq (.ref i) .non H Q = Q (.bl true) H) ∧
  (∀ (H : Hp) (Q : VK), rNoNq (.non) .non H Q = Q (.bl false) H) ∧
  (∀ (i : Int) (H : Hp) (Q : VK), rStrI [.int i] H Q = (i.natAbs.log2 < 1920 ∧ Q (.str (toString i)) H)) ∧
  (∀ (x : V) (p : Addr) (H : Hp) (Q : VK), rInL true x (.ref p) H Q = (∃ xs, seqOf (H p) = some xs ∧ flatV x = true ∧ xs.all flatV = true ∧ Q (.bl (!inV x xs)) H)) ∧
  (∀ (x : V) (p : Addr) (H : Hp) (Q : VK), rInL false x (.ref p) H Q = (∃ xs, seqOf (H p) = some xs ∧ flatV x = true ∧ xs.all flatV = true ∧ Q (.bl (inV x xs)) H)) ∧
  (∀ (i : Str), flatV (.str i) = true) ∧
  (∀ (i : Int), flatV (.int i) = true) ∧
  (∀ (l b : Addr) (H : Hp) (Q : VK), rCatq (.ref l) (.ref b) H Q = (∃ xs, lstOf (H l) = some xs ∧ ∃ zs, lstOf (H b) = some zs ∧ xs.length + zs.length ≤ sizeLine ∧ New H (.lst (xs ++ zs)) (fun p H2 => Q (.ref p) H2))) ∧
  (∀ (a : Addr) (H : Hp) (Q : VK), rSumq [.ref a] H Q = (∃ ns, lstOf (H a) = some (ns.map V.int) ∧ Q (.int (List.sum ns)) H)) ∧
  (∀ (a : Addr) (H : Hp) (Q : VK), rSrtq [.ref a] H Q = (∃ ns, lstOf (H a) = some (ns.map V.int) ∧ ∀ (ns' : List Int) (p : Addr), ns'.Perm ns → ns'.Pairwise (· ≤ ·) → H p = none → Q (.ref p) (upd H p (.lst (ns'.map V.int))))) :=
  ⟨w0, w1, w2, w3, w4, w5, w6, w7, w8, w9, w10, w11, w12, w13, w14, w15, w16, w17, w18, w19, w20, w21, w22, w23, w24, w25, w26, w27, w28, w29, w30, w31, w32, w33, w34, w35, w36, w37, w38, w39, w40, w41, w42, w43, w44, w45, w46, w47, w48, w49, w50, w51, w52, w53, w54, w55, w56, w57, w58, w59, w60, w61, w62, w63, w64, w65, w66, w67, w68, w69, w70, w71, w72, w73, w74, w75, w76, w77, w78, w79, w80, w81, w82, w83, w84, w85, w86, w87, w88, w89, w90, w91, w92, w93, w94, w95, w96, w97, w98, w99, w100, w101, w102, w103, w104, w105, w106, w107, w108, w109, w110, w111, w112, w113, w114, w115, w116, w117, w118, w119, w120, w121, w122, w123, w124, w125, w126, w127, w128, w129, w130, w131, w132, w133, w134, w135, w136, w137, w138, w139, w140, w141, w142, w143, w144, w145, w146, w147, w148, w149, w150, w151, w152, w153, w154, w155, w156, w157, w158, w159, w160, w161, w162, w163, w164, w165, w166, w167, w168, w169, w170, w171, w172, w173, w174, w175, w176, w177, w178, w179, w180, w181, w182, w183, w184, w185, w186, w187, w188, w189, w190, w191, w192, w193, w194, w195, w196, w197, w198, w199, w200, w201, w202, w203, w204, w205, w206, w207, w208, w209, w210, w211, w212, w213, w214, w215, w216, w217, w218, w219, w220, w221, w222, w223, w224, w225, w226, w227, w228, w229, w230, w231, w232, w233, w234, w235, w236, w237, w238, w239, w240, w241, w242, w243, w244, w245, w246, w247, w248, w249, w250, w251, w252, w253, w254, w255, w256, w257, w258, w259, w260, w261, w262, w263, w264, w265, w266, w267, w268, w269, w270, w271, w272, w273, w274, w275, w276, w277, w278, w279, w280, w281, w282, w283, w284, w285, w286, w287, w288, w289, w290, w291, w292, w293, w294, w295, w296, w297, w298, w299, w300, w301, w302, w303, w304, w305, w306, w307, w308⟩
end Com
namespace Nv
open PySem L2
def topS (i : Nat) : Stmt := PySem.Challenge.pw_neverrounds_k19_shared.main.body.getD i (.Pass ⟨0, 0, 0, 0⟩)
abbrev s__law_state : Stmt := (topS 4)
abbrev s__law_mixed : Stmt := (topS 5)
abbrev s__law_draw : Stmt := (topS 6)
abbrev s__law_limit : Stmt := (topS 7)
abbrev s__law_name : Stmt := (topS 8)
abbrev s__law_rooms : Stmt := (topS 9)
abbrev s__law_stays : Stmt := (topS 10)
abbrev s__law_lengths : Stmt := (topS 13)
abbrev s__law_signed : Stmt := (topS 12)
abbrev s__law_walk : Stmt := (topS 14)
abbrev s__law_apart : Stmt := (topS 18)
abbrev s_shared : Stmt := (topS 2)
abbrev s__law_room : Stmt := (topS 15)
abbrev s__law_due : Stmt := (topS 16)
abbrev s__law_is_int : Stmt := (topS 11)
abbrev s__law_right : Stmt := (topS 17)
abbrev s_law : Stmt := (topS 19)
theorem sc__law_state : FnScope ["_law_script", "_law_cell"] ["_law_script"] (defScope s__law_state) := ⟨rfl, rfl, rfl, by decide +kernel, rfl, by decide +kernel, by decide +kernel⟩
theorem sc__law_mixed : FnScope ["_law_state_here", "_law_many", "_law_cells", "_law_turn", "_law_cell", "_law_one", "_law_two", "_law_three"] ["_law_state_here", "_law_many"] (defScope s__law_mixed) := ⟨rfl, rfl, rfl, by decide +kernel, rfl, by decide +kernel, by decide +kernel⟩
theorem sc__law_draw : FnScope ["_law_state_here", "_law_many", "_law_later", "_law_digit"] ["_law_state_here", "_law_many"] (defScope s__law_draw) := ⟨rfl, rfl, rfl, by decide +kernel, rfl, by decide +kernel, by decide +kernel⟩
theorem sc__law_limit : FnScope ["_law_state_here", "_law_limits"] ["_law_state_here"] (defScope s__law_limit) := ⟨rfl, rfl, rfl, by decide +kernel, rfl, by decide +kernel, by decide +kernel⟩
theorem sc__law_name : FnScope ["_law_state_here", "_law_signs", "_law_name_here", "_law_k"] ["_law_state_here"] (defScope s__law_name) := ⟨rfl, rfl, rfl, by decide +kernel, rfl, by decide +kernel, by decide +kernel⟩
theorem sc__law_rooms : FnScope ["_law_state_here", "_law_base", "_law_count", "_law_way", "_law_names", "_law_k", "_law_name_here", "_law_turn", "_law_place", "_law_letter"] ["_law_state_here"] (defScope s__law_rooms) := ⟨rfl, rfl, rfl, by decide +kernel, rfl, by decide +kernel, by decide +kernel⟩
theorem sc__law_stays : FnScope ["_law_state_here", "_law_rooms_here", "_law_many", "_law_lag", "_law_most", "_law_stays_here", "_law_k", "_law_place", "_law_room_here", "_law_least"] ["_law_state_here", "_law_rooms_here", "_law_many", "_law_lag"] (defScope s__law_stays) := ⟨rfl, rfl, rfl, by decide +kernel, rfl, by decide +kernel, by decide +kernel⟩
theorem sc__law_lengths : FnScope ["_law_state_here", "_law_stays_here", "_law_lengths_here", "_law_stay", "_law_way", "_law_length"] ["_law_state_here", "_law_stays_here"] (defScope s__law_lengths) := ⟨rfl, rfl, rfl, by decide +kernel, rfl, by decide +kernel, by decide +kernel⟩
theorem sc__law_signed : FnScope ["_law_state_here", "_law_many", "_law_number"] ["_law_state_here", "_law_many"] (defScope s__law_signed) := ⟨rfl, rfl, rfl, by decide +kernel, rfl, by decide +kernel, by decide +kernel⟩
theorem sc__law_walk : FnScope ["_law_stays_here", "_law_start", "_law_lengths_here", "_law_rows", "_law_k", "_law_enter"] ["_law_stays_here", "_law_start", "_law_lengths_here"] (defScope s__law_walk) := ⟨rfl, rfl, rfl, by decide +kernel, rfl, by decide +kernel, by decide +kernel⟩
theorem sc__law_apart : FnScope ["_law_state_here", "_law_one", "_law_two", "_law_row", "_law_other", "_law_moment"] ["_law_state_here", "_law_one", "_law_two"] (defScope s__law_apart) := ⟨rfl, rfl, rfl, by decide +kernel, rfl, by decide +kernel, by decide +kernel⟩
theorem sc_shared : FnScope ["one", "other", "found", "room", "enter", "leave", "place", "come", "go", "moment"] ["one", "other"] (defScope s_shared) := ⟨rfl, rfl, rfl, by decide +kernel, rfl, by decide +kernel, by decide +kernel⟩
theorem sc__law_room : FnScope ["_law_rows", "_law_moment", "_law_row"] ["_law_rows", "_law_moment"] (defScope s__law_room) := ⟨rfl, rfl, rfl, by decide +kernel, rfl, by decide +kernel, by decide +kernel⟩
theorem sc__law_due : FnScope ["_law_one", "_law_two", "_law_moment", "_law_room_here", "_law_row"] ["_law_one", "_law_two"] (defScope s__law_due) := ⟨rfl, rfl, rfl, by decide +kernel, rfl, by decide +kernel, by decide +kernel⟩
theorem sc__law_is_int : FnScope ["_law_value"] ["_law_value"] (defScope s__law_is_int) := ⟨rfl, rfl, rfl, by decide +kernel, rfl, by decide +kernel, by decide +kernel⟩
theorem sc__law_right : FnScope ["_law_one", "_law_two", "_law_given", "_law_lent", "_law_told", "_law_due_here"] ["_law_one", "_law_two"] (defScope s__law_right) := ⟨rfl, rfl, rfl, by decide +kernel, rfl, by decide +kernel, by decide +kernel⟩
theorem sc_law : FnScope ["_law_script", "_law_state_here", "_law_many", "_law_lag", "_law_rooms_here", "_law_first", "_law_second", "_law_lengths_here", "_law_others", "_law_start", "_law_one", "_law_apart_here", "_law_two"] ["_law_script"] (defScope s_law) := ⟨rfl, rfl, rfl, by decide +kernel, rfl, by decide +kernel, by decide +kernel⟩
abbrev FnP (K : PySem.W.Frag) (x : Str) (st : Stmt) : Prop := ∃ fd, FunD K x x (defArgs st) (defBody st) (defScope st) [] [] (He.ga K x) fd
structure Txt (K : PySem.W.Frag) (mg : Str → Option Value) : Prop where
  b_bool : mg "bool" = none
  b_int : mg "int" = none
  b_isinstance : mg "isinstance" = none
  b_len : mg "len" = none
  b_list : mg "list" = none
  b_max : mg "max" = none
  b_range : mg "range" = none
  b_sorted : mg "sorted" = none
  b_str : mg "str" = none
  b_sum : mg "sum" = none
  b_tuple : mg "tuple" = none
  c_HALL : Com.CStr mg "HALL" "hall"
  g__law_state : mg "_law_state" = some (.ref (He.ga K "_law_state"))
  F__law_state : FnP K "_law_state" s__law_state
  g__law_mixed : mg "_law_mixed" = some (.ref (He.ga K "_law_mixed"))
  F__law_mixed : FnP K "_law_mixed" s__law_mixed
  g__law_draw : mg "_law_draw" = some (.ref (He.ga K "_law_draw"))
  F__law_draw : FnP K "_law_draw" s__law_draw
  g__law_limit : mg "_law_limit" = some (.ref (He.ga K "_law_limit"))
  F__law_limit : FnP K "_law_limit" s__law_limit
  g__law_name : mg "_law_name" = some (.ref (He.ga K "_law_name"))
  F__law_name : FnP K "_law_name" s__law_name
  g__law_rooms : mg "_law_rooms" = some (.ref (He.ga K "_law_rooms"))
  F__law_rooms : FnP K "_law_rooms" s__law_rooms
  g__law_stays : mg "_law_stays" = some (.ref (He.ga K "_law_stays"))
  F__law_stays : FnP K "_law_stays" s__law_stays
  g__law_lengths : mg "_law_lengths" = some (.ref (He.ga K "_law_lengths"))
  F__law_lengths : FnP K "_law_lengths" s__law_lengths
  g__law_signed : mg "_law_signed" = some (.ref (He.ga K "_law_signed"))
  F__law_signed : FnP K "_law_signed" s__law_signed
  g__law_walk : mg "_law_walk" = some (.ref (He.ga K "_law_walk"))
  F__law_walk : FnP K "_law_walk" s__law_walk
  g__law_apart : mg "_law_apart" = some (.ref (He.ga K "_law_apart"))
  F__law_apart : FnP K "_law_apart" s__law_apart
  g_shared : mg "shared" = some (.ref (He.ga K "shared"))
  F_shared : FnP K "shared" s_shared
  g__law_room : mg "_law_room" = some (.ref (He.ga K "_law_room"))
  F__law_room : FnP K "_law_room" s__law_room
  g__law_due : mg "_law_due" = some (.ref (He.ga K "_law_due"))
  F__law_due : FnP K "_law_due" s__law_due
  g__law_is_int : mg "_law_is_int" = some (.ref (He.ga K "_law_is_int"))
  F__law_is_int : FnP K "_law_is_int" s__law_is_int
  g__law_right : mg "_law_right" = some (.ref (He.ga K "_law_right"))
  F__law_right : FnP K "_law_right" s__law_right
  g_law : mg "law" = some (.ref (He.ga K "law"))
  F_law : FnP K "law" s_law

/-- the state of the draws stands at a, its list of great cells at l, its cells at c; at most n draws were mixed -/
structure StAt (H : Hp) (a l c : Addr) (n : Nat) : Prop where
  ex : ∃ (acc turn : Int) (later cells : List Int), H a = some (.lst [.int acc, .ref l, .int turn, .ref c]) ∧ H l = some (.lst (later.map V.int)) ∧ H c = some (.lst (cells.map V.int)) ∧ 0 ≤ turn ∧ turn ≤ n ∧ later.length ≤ 63 ∧ cells.length ≤ 63
  al : a ≠ l
  ac : a ≠ c
  lc : l ≠ c
/-- all but the state's own two lists is kept -/
def Kp (a l : Addr) (H H' : Hp) : Prop := ∀ b o, b ≠ a → b ≠ l → H b = some o → H' b = some o
theorem same_new {H : Hp} {p : Addr} {o : HO} (h : H p = none) : Same H (upd H p o) := fun b u e => by rw [upd_ne (ne_of_none e h)]; exact e
theorem same_kp {a l : Addr} {H H' : Hp} (s : Same H H') : Kp a l H H' := fun b o _ _ e => s b o e
theorem StAt.ne {H : Hp} {a l c p : Addr} {n : Nat} (st : StAt H a l c n) (h : H p = none) : p ≠ a ∧ p ≠ l ∧ p ≠ c := by
  obtain ⟨⟨acc, turn, later, cells, h1, h2, h3, _⟩, _⟩ := st
  exact ⟨(ne_of_none h1 h).symm, (ne_of_none h2 h).symm, (ne_of_none h3 h).symm⟩
theorem StAt.write {H : Hp} {a l c p : Addr} {n : Nat} {o : HO} (st : StAt H a l c n) (h : p ≠ a ∧ p ≠ l ∧ p ≠ c) : StAt (upd H p o) a l c n := by
  obtain ⟨⟨acc, turn, later, cells, h1, h2, h3, hr⟩, al, ac, lc⟩ := st
  exact ⟨⟨acc, turn, later, cells, by rw [upd_ne h.1.symm, h1], by rw [upd_ne h.2.1.symm, h2], by rw [upd_ne h.2.2.symm, h3], hr⟩, al, ac, lc⟩
theorem StAt.newly {H : Hp} {a l c p : Addr} {n : Nat} {o : HO} (st : StAt H a l c n) (h : H p = none) : StAt (upd H p o) a l c n := st.write (st.ne h)
theorem StAt.same {H H' : Hp} {a l c : Addr} {n : Nat} (st : StAt H a l c n) (s : Same H H') : StAt H' a l c n := by
  obtain ⟨⟨acc, turn, later, cells, h1, h2, h3, hr⟩, al, ac, lc⟩ := st
  exact ⟨⟨acc, turn, later, cells, s _ _ h1, s _ _ h2, s _ _ h3, hr⟩, al, ac, lc⟩
theorem Kp.write {a l p : Addr} {H0 H : Hp} {o : HO} (k : Kp a l H0 H) (h : H0 p = none) : Kp a l H0 (upd H p o) := fun b u ha hb e => by rw [upd_ne (ne_of_none e h)]; exact k b u ha hb e
theorem Kp.newly {a l p : Addr} {H0 H : Hp} {o : HO} (k : Kp a l H0 H) (h : H p = none) : Kp a l H0 (upd H p o) := fun b u ha hb e => by
  have q := k b u ha hb e
  rw [upd_ne (ne_of_none q h)]
  exact q
theorem Kp.same {a l : Addr} {H0 H H' : Hp} (k : Kp a l H0 H) (s : Same H H') : Kp a l H0 H' := fun b u ha hb e => s _ _ (k b u ha hb e)
theorem Kp.free {a l c p : Addr} {n : Nat} {H0 H : Hp} (k : Kp a l H0 H) (st : StAt H0 a l c n) (h : H p = none) (hp : p ≠ a ∧ p ≠ l ∧ p ≠ c) : H0 p = none := by
  cases e : H0 p with
  | none => rfl
  | some o => rw [k p o hp.1 hp.2.1 e] at h; cases h
theorem Kp.trans {a l : Addr} {H H1 H2 : Hp} (x : Kp a l H H1) (y : Kp a l H1 H2) : Kp a l H H2 := fun b o ha hb e => y b o ha hb (x b o ha hb e)
theorem Kp.refl {a l : Addr} {H : Hp} : Kp a l H H := fun _ _ _ _ e => e
theorem StAt.mono {H : Hp} {a l c : Addr} {n m : Nat} (st : StAt H a l c n) (h : n ≤ m) : StAt H a l c m := by
  obtain ⟨⟨acc, turn, later, cells, h1, h2, h3, t0, tn, z1, z2⟩, al, ac, lc⟩ := st
  exact ⟨⟨acc, turn, later, cells, h1, h2, h3, t0, by omega, z1, z2⟩, al, ac, lc⟩
theorem cell_at {cells : List Int} {t : Int} (h : 0 < cells.length) : ∃ z, atI (cells.map V.int) (t % (cells.map V.int).length) = some (.int z) := by
  have h0 : (0 : Int) < ((cells.map V.int).length : Int) := by rw [List.length_map]; omega
  have a0 := Int.emod_nonneg t (show ((cells.map V.int).length : Int) ≠ 0 by omega)
  have a1 := Int.emod_lt_of_pos t h0
  obtain ⟨j, hj⟩ := Int.eq_ofNat_of_zero_le a0
  have hl : j < cells.length := by rw [List.length_map] at a1 hj; omega
  refine ⟨cells[j], ?_⟩
  rw [hj]
  exact atI_nat (by rw [List.getElem?_map, List.getElem?_eq_getElem hl]; rfl)
theorem small_mod (i : Int) {k : Int} (h : 0 < k) (hk : k ≤ 18446744073709551616) : -18446744073709551616 < i % k ∧ i % k < 18446744073709551616 := by
  have := Int.emod_nonneg i (show k ≠ 0 by omega)
  have := Int.emod_lt_of_pos i h
  omega
-- _law_state
def sp__law_state (K : PySem.W.Frag) : Sp := Com.Sp1 fun x H Q _ => ∃ (s : Addr) (ns : List Int), x = .ref s ∧ SqL K H s (ns.map V.int) ∧ ns.length ≤ 63 ∧ ∀ (a l c : Addr) H', StAt H' a l c 0 → Same H H' → H a = none → H l = none → Q (.ref a) H'
set_option maxHeartbeats 4000000 in
theorem ok__law_state {P : Program} {w : World} {K : PySem.W.Frag} {mg : Str → Option Value} {base : Heap} (T : Txt K mg) : Com.Fn P w K mg base CX0 1 "_law_state" ["_law_script"] (sp__law_state K) := by
  obtain ⟨fd, F⟩ := T.F__law_state
  refine ⟨He.ga K "_law_state", fd, F.ok sc__law_state (fun vs H Q E h => ?_) (fun cdv A outer s H vs Q E hr h => ?_), T.g__law_state, F.kp, F.bindsN fun _ _ _ _ _ _ us hl => match us, hl with | [_], _ => rfl⟩
  · obtain ⟨_, rfl, _⟩ := h
    rfl
  · obtain ⟨a0, rfl, h⟩ := h
    refine ⟨_, PSs.nox (pss_one (ps_ret (pe_lst (pa_cons pe_int (pa_cons (pe_lc (own := [("_law_cell", 1)]) (g := (gName 1)) rfl sc__law_state.nd (pi_list (pv 0)) (blkOk_by (own := [("_law_cell", 1)]) (N := ["_law_script", "_law_cell"]) (sc := defScope s__law_state) (by decide +kernel)) (fun _ _ _ _ _ => (pg_name (i := 1) sc__law_state.nd rfl (by first | exact Or.inl rfl | exact Or.inr rfl))) (fun _ _ _ _ _ => pts_one (pt_cmpR op_ge (pv 1) (pe_op op_pow pe_int pe_int) (nomark _))) (fun _ _ _ _ _ => (pv 1))) (pa_cons pe_int (pa_cons (pe_callTy call_list_of (by rfl) T.b_list (by decide +kernel) (pa_cons (pv 0) pa_nil)) pa_nil))))))), ?_⟩
    simp only [L2.start, List.map_cons, List.map_nil, List.length_cons, List.length_nil, List.cons_append, List.nil_append, Nat.reduceAdd, Nat.reduceSub, List.replicate_succ, List.replicate_zero]
    obtain ⟨s0, ns, rfl, hS, hn, q⟩ := h
    try simp only [Com.wp, Option.some.injEq, exists_eq_left', true_and, and_true, and_self, Int.reduceLT, Int.reduceLE, Int.reduceNeg, Int.reduceAdd, Int.reduceSub, Int.reducePow, Int.reduceToNat, Nat.reduceAdd, Nat.reduceLT, Nat.reduceLeDiff]
    refine ⟨s0, rfl, ⟨_, hS⟩, Com.lcL (ns.map V.int) fun D hD => ⟨fun i H1 => ∃ later : List Int, H1 = upd H D (.lst (later.map V.int)) ∧ later.length ≤ i, ⟨[], rfl, Nat.le_refl _⟩, ?_, ?_, ?_⟩⟩
    · rintro i H1 ⟨later, rfl, _⟩
      exact (same_new hD).seq hS
    · rintro i x H1 hi hx ⟨later, rfl, hl⟩
      obtain ⟨z, rfl⟩ : ∃ z, x = V.int z := by
        rw [List.getElem?_map] at hx
        cases e : ns[i]? with
        | none => rw [e] at hx; cases hx
        | some z => rw [e] at hx; exact ⟨z, (Option.some.inj hx).symm⟩
      try simp only [Com.wp, Option.some.injEq, exists_eq_left', true_and, and_true, and_self, Int.reduceLT, Int.reduceLE, Int.reduceNeg, Int.reduceAdd, Int.reduceSub, Int.reducePow, Int.reduceToNat, Nat.reduceAdd, Nat.reduceLT, Nat.reduceLeDiff]
      cases decide (1000000000000000000 ≤ z) with
      | false =>
        try simp only [Com.wp, Option.some.injEq, exists_eq_left', true_and, and_true, and_self, Int.reduceLT, Int.reduceLE, Int.reduceNeg, Int.reduceAdd, Int.reduceSub, Int.reducePow, Int.reduceToNat, Nat.reduceAdd, Nat.reduceLT, Nat.reduceLeDiff]
        exact ⟨later, rfl, by omega⟩
      | true =>
        try simp only [Com.wp, Option.some.injEq, exists_eq_left', true_and, and_true, and_self, Int.reduceLT, Int.reduceLE, Int.reduceNeg, Int.reduceAdd, Int.reduceSub, Int.reducePow, Int.reduceToNat, Nat.reduceAdd, Nat.reduceLT, Nat.reduceLeDiff, upd_upd]
        rw [List.length_map] at hi ⊢
        exact ⟨Nat.lt_of_le_of_lt (show later.length ≤ 100 by omega) (by decide), later ++ [z], by rw [List.map_append]; rfl, by rw [List.length_append]; simp; omega⟩
    · rintro H1 ⟨later, rfl, hl⟩
      have hS1 : SqL K (upd H D (.lst (later.map V.int))) s0 (ns.map V.int) := (same_new hD).seq hS
      rw [List.length_map] at hl
      refine ⟨s0, _, rfl, .inl hS1, fun c hc a ha => ?_⟩
      have Dc : D ≠ c := ne_of_none upd_same hc
      have aD : D ≠ a := ne_of_none (show _ = some _ by rw [upd_ne Dc]; exact upd_same) ha
      have ac : c ≠ a := ne_of_none upd_same ha
      have nc : H c = none := by rw [upd_ne Dc.symm] at hc; exact hc
      have na : H a = none := by rw [upd_ne ac.symm, upd_ne aD.symm] at ha; exact ha
      refine q a D c _ ⟨⟨1, 0, later, ns, upd_same, ?_, ?_, Int.le_refl _, Int.le_refl _, by omega, hn⟩, aD.symm, ac.symm, Dc⟩ ?_ na hD
      · rw [upd_ne aD, upd_ne Dc, upd_same]
      · rw [upd_ne ac, upd_same]
      · exact ((same_new hD).trans (same_new hc)).trans (same_new ha)
-- _law_mixed
def sp__law_mixed (_ : PySem.W.Frag) : Sp := Com.Sp2 fun x m H Q _ => ∃ (a l c : Addr) (n : Nat) (k : Int), x = .ref a ∧ m = .int k ∧ StAt H a l c n ∧ n < 1000000 ∧ 1 ≤ k ∧ ∀ (d : Int) H', 0 ≤ d → d < k → StAt H' a l c (n + 1) → Kp a l H H' → Q (.int d) H'
set_option maxHeartbeats 4000000 in
theorem ok__law_mixed {P : Program} {w : World} {K : PySem.W.Frag} {mg : Str → Option Value} {base : Heap} (T : Txt K mg) : Com.Fn P w K mg base CX0 1 "_law_mixed" ["_law_state_here", "_law_many"] (sp__law_mixed K) := by
  obtain ⟨fd, F⟩ := T.F__law_mixed
  refine ⟨He.ga K "_law_mixed", fd, F.ok sc__law_mixed (fun vs H Q E h => ?_) (fun cdv A outer s H vs Q E hr h => ?_), T.g__law_mixed, F.kp, F.bindsN fun _ _ _ _ _ _ us hl => match us, hl with | [_, _], _ => rfl⟩
  · obtain ⟨_, _, rfl, _⟩ := h
    rfl
  · obtain ⟨a0, a1, rfl, h⟩ := h
    refine ⟨_, PSs.nox (pss_cons (ps_set (i := 2) sc__law_mixed.nd rfl (by first | exact Or.inl rfl | exact Or.inr rfl) (pe_ix Com.qix_list (pv 0) pe_int (fun _ _ => rfl)))
      (pss_cons (ps_set (i := 3) sc__law_mixed.nd rfl (by first | exact Or.inl rfl | exact Or.inr rfl) (pe_ix Com.qix_list (pv 0) pe_int (fun _ _ => rfl)))
      (pss_cons (ps_asg (pe_op op_add (pv 3) pe_int) (pg_sub (pv 0) pe_int set_list))
      (pss_cons (ps_set (i := 4) sc__law_mixed.nd rfl (by first | exact Or.inl rfl | exact Or.inr rfl) pe_int)
      (pss_cons (ps_if (pt_cmpR op_gt (pe_callB Com.qlen (by rfl) T.b_len (by decide +kernel) (pa_cons (pv 2) pa_nil)) pe_int (nomark _)) (pss_one (ps_set (i := 4) sc__law_mixed.nd rfl (by first | exact Or.inl rfl | exact Or.inr rfl) (pe_ix Com.qix_list (pv 2) (pe_op op_mod (pe_callTy Com.qint (by rfl) T.b_int (by decide +kernel) (pa_cons (pv 3) pa_nil)) (pe_callB Com.qlen (by rfl) T.b_len (by decide +kernel) (pa_cons (pv 2) pa_nil))) (fun _ _ => rfl)))) pss_nil)
      (pss_cons (ps_set (i := 5) sc__law_mixed.nd rfl (by first | exact Or.inl rfl | exact Or.inr rfl) (pe_op op_mod (pe_callTy Com.qint (by rfl) T.b_int (by decide +kernel) (pa_cons (pe_op op_add (pe_op op_add (pe_op op_mul (pv 4) pe_int) (pe_op op_mul (pv 3) pe_int)) pe_int) pa_nil)) pe_int))
      (pss_cons (ps_set (i := 6) sc__law_mixed.nd rfl (by first | exact Or.inl rfl | exact Or.inr rfl) (pe_op op_mod (pe_callTy Com.qint (by rfl) T.b_int (by decide +kernel) (pa_cons (pe_op op_add (pe_op op_add (pe_op op_add (pe_op op_mul (pv 5) pe_int) (pe_op op_mul (pe_op op_mul (pv 3) (pv 3)) pe_int)) (pe_op op_mul (pv 4) pe_int)) pe_int) pa_nil)) pe_int))
      (pss_cons (ps_set (i := 7) sc__law_mixed.nd rfl (by first | exact Or.inl rfl | exact Or.inr rfl) (pe_op op_mod (pe_callTy Com.qint (by rfl) T.b_int (by decide +kernel) (pa_cons (pe_op op_add (pe_op op_add (pe_op op_mul (pv 6) pe_int) (pv 5)) (pe_op op_mul (pv 3) pe_int)) pa_nil)) pe_int))
      (pss_one (ps_ret (pe_op op_mod (pe_callTy Com.qint (by rfl) T.b_int (by decide +kernel) (pa_cons (pe_op op_add (pe_op op_mul (pv 6) pe_int) (pv 7)) pa_nil)) (pv 1)))))))))))), ?_⟩
    simp only [L2.start, List.map_cons, List.map_nil, List.length_cons, List.length_nil, List.cons_append, List.nil_append, Nat.reduceAdd, Nat.reduceSub, List.replicate_succ, List.replicate_zero]
    obtain ⟨a, l, c, n, k, rfl, rfl, ⟨⟨acc, turn, later, cells, h1, h2, h3, t0, tn, z1, z2⟩, al, ac, lc⟩, hn, hk, q⟩ := h
    try simp only [Com.wp, Option.some.injEq, exists_eq_left', true_and, and_true, and_self, Int.reduceLT, Int.reduceLE, Int.reduceNeg, Int.reduceAdd, Int.reduceSub, Int.reducePow, Int.reduceToNat, Nat.reduceAdd, Nat.reduceLT, Nat.reduceLeDiff, h1, h2, h3, upd_ne al.symm, upd_ne ac.symm]
    have tb : -18446744073709551616 < turn ∧ turn < 18446744073709551616 := by omega
    have fin : ∀ z : Int, Q (.int (z % k)) (upd H a (.lst [.int acc, .ref l, .int (turn + 1), .ref c])) := fun z =>
      q _ _ (Int.emod_nonneg _ (by omega)) (Int.emod_lt_of_pos _ (by omega)) ⟨⟨acc, turn + 1, later, cells, upd_same, by rw [upd_ne al.symm, h2], by rw [upd_ne ac.symm, h3], by omega, by omega, z1, z2⟩, al, ac, lc⟩
        (fun b o hb _ e => by rw [upd_ne hb]; exact e)
    refine Com.ifk (fun hc => ?_) (fun hc => ?_)
    · have hc : 0 < cells.length := by simpa using hc
      obtain ⟨z, hz⟩ := cell_at (t := turn) hc
      try simp only [Com.wp, Option.some.injEq, exists_eq_left', true_and, and_true, and_self, Int.reduceLT, Int.reduceLE, Int.reduceNeg, Int.reduceAdd, Int.reduceSub, Int.reducePow, Int.reduceToNat, Nat.reduceAdd, Nat.reduceLT, Nat.reduceLeDiff, h3, upd_ne ac.symm, hz, tb]
      exact ⟨by rw [List.length_map]; omega, by omega, fin _⟩
    · try simp only [Com.wp, Option.some.injEq, exists_eq_left', true_and, and_true, and_self, Int.reduceLT, Int.reduceLE, Int.reduceNeg, Int.reduceAdd, Int.reduceSub, Int.reducePow, Int.reduceToNat, Nat.reduceAdd, Nat.reduceLT, Nat.reduceLeDiff, tb]
      exact ⟨by omega, fin _⟩
-- _law_draw
def sp__law_draw (_ : PySem.W.Frag) : Sp := Com.Sp2 fun x m H Q _ => ∃ (a l c : Addr) (n : Nat) (k : Int), x = .ref a ∧ m = .int k ∧ StAt H a l c n ∧ n < 1000000 ∧ 1 ≤ k ∧ k < 2 ^ 1000 ∧ ∀ (d : Int) H', 0 ≤ d → d < k → StAt H' a l c (n + 1) → Kp a l H H' → Q (.int d) H'
theorem use_draw {K : PySem.W.Frag} {a l c : Addr} {n : Nat} {k : Int} {H : Hp} {Q : VK} {E : XK} (st : StAt H a l c n) (hn : n < 1000000) (hk : 1 ≤ k) (hk2 : k < 2 ^ 1000)
    (q : ∀ (j : Nat) H', (j : Int) < k → StAt H' a l c (n + 1) → Kp a l H H' → Q (.int j) H') : sp__law_draw K [.ref a, .int k] H Q E :=
  ⟨_, _, rfl, a, l, c, n, k, rfl, rfl, st, hn, hk, hk2, fun d H' d0 d1 st' kp => by
    obtain ⟨j, rfl⟩ := Int.eq_ofNat_of_zero_le d0
    exact q j H' d1 st' kp⟩
set_option maxHeartbeats 4000000 in
theorem ok__law_draw {P : Program} {w : World} {K : PySem.W.Frag} {mg : Str → Option Value} {base : Heap} (T : Txt K mg) : Com.Fn P w K mg base CX0 2 "_law_draw" ["_law_state_here", "_law_many"] (sp__law_draw K) := by
  have G__law_mixed := ok__law_mixed (P := P) (w := w) (base := base) T
  obtain ⟨fd, F⟩ := T.F__law_draw
  refine ⟨He.ga K "_law_draw", fd, F.ok sc__law_draw (fun vs H Q E h => ?_) (fun cdv A outer s H vs Q E hr h => ?_), T.g__law_draw, F.kp, F.bindsN fun _ _ _ _ _ _ us hl => match us, hl with | [_, _], _ => rfl⟩
  · obtain ⟨_, _, rfl, _⟩ := h
    rfl
  · obtain ⟨a0, a1, rfl, h⟩ := h
    refine ⟨_, PSs.nox (Com.pss_cutJ (ps_if (PW.pt (pw_and (pt_cmpR op_le (pe_ix Com.qix_list (pv 0) pe_int (fun _ _ => rfl)) pe_int (nomark _)) (pw_and1 (pt_cmpR op_gt (pe_callB Com.qlen (by rfl) T.b_len (by decide +kernel) (pa_cons (pe_ix Com.qix_list (pv 0) pe_int (fun _ _ => rfl)) pa_nil)) pe_int (nomark _))))) (pss_cons (ps_set (i := 2) sc__law_draw.nd rfl (by first | exact Or.inl rfl | exact Or.inr rfl) (pe_ix Com.qix_list (pv 0) pe_int (fun _ _ => rfl)))
      (pss_one (ps_asg (pe_bm PySem.F.plainAttrs_list PySem.F.slot_list_pop PySem.F.type_list_pop mt_popAt (pv 2) (pa_cons pe_int pa_nil)) (pg_sub (pv 0) pe_int set_list)))) pss_nil)
      (pss_cons (ps_if (pt_cmpR op_gt (pe_ix Com.qix_list (pv 0) pe_int (fun _ _ => rfl)) pe_int (nomark _)) (pss_cons (ps_set (i := 3) sc__law_draw.nd rfl (by first | exact Or.inl rfl | exact Or.inr rfl) (pe_op op_mod (pe_callTy Com.qint (by rfl) T.b_int (by decide +kernel) (pa_cons (pe_ix Com.qix_list (pv 0) pe_int (fun _ _ => rfl)) pa_nil)) (pv 1)))
      (pss_cons (ps_asg (pe_op op_fdivW (pe_ix Com.qix_list (pv 0) pe_int (fun _ _ => rfl)) (pv 1)) (pg_sub (pv 0) pe_int set_list))
      (pss_one (ps_ret (pv 3))))) pss_nil)
      (pss_one (ps_ret (Com.pcall G__law_mixed (hr.mono (by decide)) (by rfl) pass0 (pa_cons (pv 0) (pa_cons (pv 1) pa_nil))))))), ?_⟩
    simp only [L2.start, List.map_cons, List.map_nil, List.length_cons, List.length_nil, List.cons_append, List.nil_append, Nat.reduceAdd, Nat.reduceSub, List.replicate_succ, List.replicate_zero]
    obtain ⟨a, l, c, n, k, rfl, rfl, ⟨⟨acc, turn, later, cells, h1, h2, h3, t0, tn, z1, z2⟩, al, ac, lc⟩, hn, hk, hk2, q⟩ := h
    refine ⟨fun s2 H2 => ∃ (x2 : Option V) (acc : Int) (later : List Int), s2 = [some (.ref a), some (.int k), x2, none] ∧ H2 a = some (.lst [.int acc, .ref l, .int turn, .ref c]) ∧ H2 l = some (.lst (later.map V.int)) ∧ H2 c = some (.lst (cells.map V.int)) ∧ later.length ≤ 63 ∧ Kp a l H H2, ?_, ?_⟩
    · try simp only [Com.wp, Option.some.injEq, exists_eq_left', true_and, and_true, and_self, Int.reduceLT, Int.reduceLE, Int.reduceNeg, Int.reduceAdd, Int.reduceSub, Int.reducePow, Int.reduceToNat, Nat.reduceAdd, Nat.reduceLT, Nat.reduceLeDiff, h1, h2, h3]
      have stay : ∃ (x2 : Option V) (acc : Int) (later : List Int), [some (V.ref a), some (V.int k), none, none] = [some (V.ref a), some (V.int k), x2, none] ∧ H a = some (.lst [.int acc, .ref l, .int turn, .ref c]) ∧ H l = some (.lst (later.map V.int)) ∧ H c = some (.lst (cells.map V.int)) ∧ later.length ≤ 63 ∧ Kp a l H H :=
        ⟨none, acc, later, rfl, h1, h2, h3, z1, fun _ _ _ _ e => e⟩
      refine Com.andk (fun _ => ?_) (fun _ => Com.ifk (fun z => Bool.noConfusion z) (fun _ => stay))
      try simp only [Com.wp, Option.some.injEq, exists_eq_left', true_and, and_true, and_self, Int.reduceLT, Int.reduceLE, Int.reduceNeg, Int.reduceAdd, Int.reduceSub, Int.reducePow, Int.reduceToNat, Nat.reduceAdd, Nat.reduceLT, Nat.reduceLeDiff, h1, h2, h3]
      refine Com.ifk (fun hc => ?_) (fun _ => stay)
      cases later with
      | nil => simp at hc
      | cons y later =>
        try simp only [Com.wp, Option.some.injEq, exists_eq_left', true_and, and_true, and_self, Int.reduceLT, Int.reduceLE, Int.reduceNeg, Int.reduceAdd, Int.reduceSub, Int.reducePow, Int.reduceToNat, Nat.reduceAdd, Nat.reduceLT, Nat.reduceLeDiff, h1, h2, h3, upd_ne al, upd_ne al.symm, upd_ne lc.symm, upd_ne ac.symm, List.map_cons]
        exact ⟨_, y, later, rfl, rfl, rfl, by simp at z1; omega, fun b o ha hb e => by rw [upd_ne ha, upd_ne hb]; exact e⟩
    · rintro s2 H2 ⟨x2, acc, later, rfl, h1, h2, h3, z1, kp⟩
      try simp only [Com.wp, Option.some.injEq, exists_eq_left', true_and, and_true, and_self, Int.reduceLT, Int.reduceLE, Int.reduceNeg, Int.reduceAdd, Int.reduceSub, Int.reducePow, Int.reduceToNat, Nat.reduceAdd, Nat.reduceLT, Nat.reduceLeDiff, h1, h2, h3]
      refine Com.ifk (fun hc => ?_) (fun hc => ?_)
      · try simp only [Com.wp, Option.some.injEq, exists_eq_left', true_and, and_true, and_self, Int.reduceLT, Int.reduceLE, Int.reduceNeg, Int.reduceAdd, Int.reduceSub, Int.reducePow, Int.reduceToNat, Nat.reduceAdd, Nat.reduceLT, Nat.reduceLeDiff, h1, h2, h3, upd_ne al.symm]
        refine ⟨by omega, wide_div (b := 1000) (by omega) (by omega) (by decide) (by decide), q _ _ (Int.emod_nonneg _ (by omega)) (Int.emod_lt_of_pos _ (by omega)) ⟨⟨acc / k, turn, later, cells, upd_same, by rw [upd_ne al.symm, h2], by rw [upd_ne ac.symm, h3], t0, by omega, z1, z2⟩, al, ac, lc⟩ fun b o ha hb e => ?_⟩
        rw [upd_ne ha]
        exact kp b o ha hb e
      · try simp only [Com.wp, Option.some.injEq, exists_eq_left', true_and, and_true, and_self, Int.reduceLT, Int.reduceLE, Int.reduceNeg, Int.reduceAdd, Int.reduceSub, Int.reducePow, Int.reduceToNat, Nat.reduceAdd, Nat.reduceLT, Nat.reduceLeDiff]
        exact ⟨_, _, rfl, a, l, c, n, k, rfl, rfl, ⟨⟨acc, turn, later, cells, h1, h2, h3, t0, tn, z1, z2⟩, al, ac, lc⟩, hn, hk, fun d H' d0 d1 st kp' => q d H' d0 d1 st fun b o ha hb e => kp' b o ha hb (kp b o ha hb e)⟩
/-- a list of tuples -/
def ObsAt {α : Type} (f : α → List V) (H : Hp) (vs : List V) (rs : List α) : Prop := vs.length = rs.length ∧ ∀ (i : Nat) (r : α), rs[i]? = some r → ∃ t : Addr, vs[i]? = some (V.ref t) ∧ H t = some (.tup (f r))
/-- tuples stay -/
def Tx (H H' : Hp) : Prop := ∀ t xs, H t = some (.tup xs) → H' t = some (.tup xs)
theorem Tx.refl {H : Hp} : Tx H H := fun _ _ e => e
theorem Tx.trans {H H1 H2 : Hp} (x : Tx H H1) (y : Tx H1 H2) : Tx H H2 := fun t xs e => y _ _ (x t xs e)
theorem same_tx {H H' : Hp} (s : Same H H') : Tx H H' := fun t xs e => s _ _ e
theorem same_refl {H : Hp} : Same H H := fun _ _ e => e
theorem Tx.new {H0 H : Hp} {p : Addr} {o : HO} (x : Tx H0 H) (h : H p = none) : Tx H0 (upd H p o) := x.trans (same_tx (same_new h))
theorem Tx.lst {H0 H : Hp} {p : Addr} {o : HO} {xs : List V} (x : Tx H0 H) (h : H p = some (.lst xs)) : Tx H0 (upd H p o) := fun t ys e => by
  have z := x _ _ e
  have n : t ≠ p := fun q => by rw [q, h] at z; cases z
  rw [upd_ne n]; exact z
theorem kp_tx {H H' : Hp} {a l c : Addr} {n : Nat} (st : StAt H a l c n) (k : Kp a l H H') : Tx H H' := fun t xs e => by
  obtain ⟨⟨acc, turn, later, cells, h1, h2, h3, _⟩, _⟩ := st
  exact k t _ (fun q => by rw [q, h1] at e; cases e) (fun q => by rw [q, h2] at e; cases e) e
/-- what is neither of the state's lists stays -/
theorem Kp.at {H H' : Hp} {a l c p : Addr} {o : HO} (k : Kp a l H H') (hp : p ≠ a ∧ p ≠ l ∧ p ≠ c) (e : H p = some o) : H' p = some o := k p o hp.1 hp.2.1 e
section
variable {α : Type} {f : α → List V} {H H' : Hp} {vs ws : List V} {rs ss : List α}
theorem ObsAt.nil : ObsAt f H [] [] := ⟨rfl, fun i r e => by simp at e⟩
theorem ObsAt.mono (h : ObsAt f H vs rs) (x : Tx H H') : ObsAt f H' vs rs := ⟨h.1, fun i r e => by obtain ⟨t, e1, e2⟩ := h.2 i r e; exact ⟨t, e1, x _ _ e2⟩⟩
theorem ObsAt.get (h : ObsAt f H vs rs) {i : Nat} {x : V} (e : vs[i]? = some x) : ∃ r t, rs[i]? = some r ∧ x = .ref t ∧ H t = some (.tup (f r)) := by
  have hi := (List.getElem?_eq_some_iff.mp e).1
  have hi' : i < rs.length := by rw [← h.1]; exact hi
  have hr : rs[i]? = some rs[i] := List.getElem?_eq_getElem hi'
  obtain ⟨t, e1, e2⟩ := h.2 i _ hr
  rw [e1] at e
  exact ⟨_, t, hr, (Option.some.inj e).symm, e2⟩
theorem ObsAt.app (h : ObsAt f H vs rs) (k : ObsAt f H ws ss) : ObsAt f H (vs ++ ws) (rs ++ ss) := by
  refine ⟨by rw [List.length_append, List.length_append, h.1, k.1], fun i r e => ?_⟩
  by_cases hi : i < rs.length
  · rw [List.getElem?_append_left hi] at e
    obtain ⟨t, e1, e2⟩ := h.2 i r e
    exact ⟨t, by rw [List.getElem?_append_left (by rw [h.1]; exact hi)]; exact e1, e2⟩
  · rw [List.getElem?_append_right (by omega)] at e
    obtain ⟨t, e1, e2⟩ := k.2 _ r e
    exact ⟨t, by rw [List.getElem?_append_right (by rw [h.1]; omega), h.1]; exact e1, e2⟩
theorem ObsAt.one {t : Addr} {r : α} (e : H t = some (.tup (f r))) : ObsAt f H [.ref t] [r] := ⟨rfl, fun i s q => by
  cases i with
  | zero => cases q; exact ⟨t, rfl, e⟩
  | succ i => simp at q⟩
theorem ObsAt.snoc (h : ObsAt f H vs rs) {t : Addr} {r : α} (e : H t = some (.tup (f r))) : ObsAt f H (vs ++ [.ref t]) (rs ++ [r]) := h.app (ObsAt.one e)
theorem ObsAt.cons_inv {x : V} (h : ObsAt f H (x :: vs) rs) : ∃ r rs' t, rs = r :: rs' ∧ x = .ref t ∧ H t = some (.tup (f r)) ∧ ObsAt f H vs rs' := by
  cases rs with
  | nil => exact absurd h.1 (by simp)
  | cons r rs' =>
    obtain ⟨t, e1, e2⟩ := h.2 0 r rfl
    refine ⟨r, rs', t, rfl, by simpa using e1, e2, by have := h.1; simpa using this, fun i s e => ?_⟩
    exact h.2 (i + 1) s e
theorem ObsAt.dp {K : PySem.W.Frag} {g : α → PyData} (hg : ∀ r t, H t = some (.tup (f r)) → Dp K H (.ref t) (g r)) : ∀ {vs : List V} {rs : List α}, ObsAt f H vs rs → DpAll K H vs (rs.map g)
  | [], rs, h => by
    cases rs with
    | nil => exact .nil
    | cons r rs' => exact absurd h.1 (by simp)
  | x :: vs, rs, h => by
    obtain ⟨r, rs', t, rfl, rfl, e, h'⟩ := h.cons_inv
    exact .cons (hg r t e) (ObsAt.dp hg h')
end
theorem mem_take_succ {α : Type} {l : List α} {i : Nat} {x y : α} (h : l[i]? = some x) : y ∈ l.take (i + 1) ↔ y ∈ l.take i ∨ y = x := by
  rw [List.take_add_one, h, List.mem_append]
  simp
theorem take_succ_at {α : Type} {l : List α} {i : Nat} {x : α} (h : l[i]? = some x) : l.take (i + 1) = l.take i ++ [x] := by
  rw [List.take_add_one, h]; rfl
theorem map_get {α : Type} {f : α → V} {l : List α} {i : Nat} {x : V} (h : (l.map f)[i]? = some x) : ∃ z, l[i]? = some z ∧ x = f z := by
  rw [List.getElem?_map] at h
  cases e : l[i]? with
  | none => rw [e] at h; cases h
  | some z => rw [e] at h; exact ⟨z, rfl, (Option.some.inj h).symm⟩
theorem atI_of {l : List V} {j : Nat} {x : V} (h : l[j]? = some x) : atI l (j : Int) = some x := atI_nat h
-- _law_limit
def sp__law_limit (_ : PySem.W.Frag) : Sp := Com.Sp1 fun x H Q _ => ∃ (a l c : Addr) (n : Nat), x = .ref a ∧ StAt H a l c n ∧ n < 900000 ∧ ∀ (k : Int) H', 2 ≤ k → k ≤ 10 ^ 51 → StAt H' a l c (n + 1) → Kp a l H H' → Q (.int k) H'
theorem use_limit {K : PySem.W.Frag} {a l c : Addr} {n : Nat} {H : Hp} {Q : VK} {E : XK} (st : StAt H a l c n) (hn : n < 900000)
    (q : ∀ (k : Int) H', 2 ≤ k → k ≤ 10 ^ 51 → StAt H' a l c (n + 1) → Kp a l H H' → Q (.int k) H') : sp__law_limit K [.ref a] H Q E := ⟨_, rfl, a, l, c, n, rfl, st, hn, q⟩
set_option maxHeartbeats 4000000 in
theorem ok__law_limit {P : Program} {w : World} {K : PySem.W.Frag} {mg : Str → Option Value} {base : Heap} (T : Txt K mg) : Com.Fn P w K mg base CX0 3 "_law_limit" ["_law_state_here"] (sp__law_limit K) := by
  have G__law_draw := ok__law_draw (P := P) (w := w) (base := base) T
  obtain ⟨fd, F⟩ := T.F__law_limit
  refine ⟨He.ga K "_law_limit", fd, F.ok sc__law_limit (fun vs H Q E h => ?_) (fun cdv A outer s H vs Q E hr h => ?_), T.g__law_limit, F.kp, F.bindsN fun _ _ _ _ _ _ us hl => match us, hl with | [_], _ => rfl⟩
  · obtain ⟨_, rfl, _⟩ := h
    rfl
  · obtain ⟨a0, rfl, h⟩ := h
    refine ⟨_, PSs.nox (pss_cons (ps_set (i := 1) sc__law_limit.nd rfl (by first | exact Or.inl rfl | exact Or.inr rfl) (pe_lst (pa_cons pe_int (pa_cons pe_int (pa_cons pe_int (pa_cons pe_int (pa_cons (pe_op op_pow pe_int pe_int) (pa_cons (pe_op op_pow pe_int pe_int) (pa_cons (pe_op op_pow pe_int pe_int) pa_nil)))))))))
      (pss_one (ps_ret (pe_ix Com.qix_list (pv 1) (Com.pcall G__law_draw (hr.mono (by decide)) (by rfl) pass0 (pa_cons (pv 0) (pa_cons pe_int pa_nil))) (fun _ _ => rfl))))), ?_⟩
    simp only [L2.start, List.map_cons, List.map_nil, List.length_cons, List.length_nil, List.cons_append, List.nil_append, Nat.reduceAdd, Nat.reduceSub, List.replicate_succ, List.replicate_zero]
    obtain ⟨a, l, c, n, rfl, st, hn, q⟩ := h
    try simp only [Com.wp, Option.some.injEq, exists_eq_left', true_and, and_true, and_self, Int.reduceLT, Int.reduceLE, Int.reduceNeg, Int.reduceAdd, Int.reduceSub, Int.reducePow, Int.reduceToNat, Nat.reduceAdd, Nat.reduceLT, Nat.reduceLeDiff]
    intro p hp
    refine use_draw (st.newly hp) (by omega) (by decide) (by decide) fun j H1 hj st1 kp1 => ?_
    have h1 := kp1.at (st.ne hp) (upd_same (H := H))
    have kp := ((Kp.refl (a := a) (l := l)).newly hp).trans kp1
    try simp only [Com.wp, Option.some.injEq, exists_eq_left', true_and, and_true, and_self, Int.reduceLT, Int.reduceLE, Int.reduceNeg, Int.reduceAdd, Int.reduceSub, Int.reducePow, Int.reduceToNat, Nat.reduceAdd, Nat.reduceLT, Nat.reduceLeDiff, h1]
    have hj : j = 0 ∨ j = 1 ∨ j = 2 ∨ j = 3 ∨ j = 4 ∨ j = 5 ∨ j = 6 := by omega
    rcases hj with rfl | rfl | rfl | rfl | rfl | rfl | rfl <;> exact ⟨_, atI_of rfl, q _ _ (by decide) (by decide) st1 kp⟩
def isLet (c : Nat) : Bool := decide (97 ≤ c) && decide (c ≤ 122)
def isDig (c : Nat) : Bool := decide (48 ≤ c) && decide (c ≤ 57)
/-- the codes of a name -/
def nameC (cs : List Nat) : Bool := (decide (1 ≤ cs.length) && decide (cs.length ≤ 12)) && (isLet (cs.headD 0) && cs.all fun c => isLet c || isDig c)
theorem letters_eq : (Str.ofString "abcdefghijklmnopqrstuvwxyz").cps.toList = [97, 98, 99, 100, 101, 102, 103, 104, 105, 106, 107, 108, 109, 110, 111, 112, 113, 114, 115, 116, 117, 118, 119, 120, 121, 122] := by decide +kernel
theorem digits_eq : (Str.ofString "0123456789").cps.toList = [48, 49, 50, 51, 52, 53, 54, 55, 56, 57] := by decide +kernel
theorem mem_letters (c : Nat) : decide (c ∈ (Str.ofString "abcdefghijklmnopqrstuvwxyz").cps.toList) = isLet c := by
  rw [letters_eq]
  unfold isLet
  rw [← Bool.decide_and]
  refine decide_eq_decide.mpr ?_
  simp only [List.mem_cons, List.not_mem_nil, or_false]
  omega
theorem mem_digits (c : Nat) : decide (c ∈ (Str.ofString "0123456789").cps.toList) = isDig c := by
  rw [digits_eq]
  unfold isDig
  rw [← Bool.decide_and]
  refine decide_eq_decide.mpr ?_
  simp only [List.mem_cons, List.not_mem_nil, or_false]
  omega
theorem len_tl (z : Str) : z.cps.toList.length = z.length := Array.length_toList
theorem sz (z : Str) (h : z.length ≤ 1000000) : z.length ≤ sizeLine := Nat.le_trans h (by decide)
theorem len_app (x y : Str) : (x ++ y).length = x.length + y.length := Array.size_append
theorem line_of {n : Nat} (h : n ≤ 1000000) : n ≤ sizeLine := Nat.le_trans h (by decide)
theorem line_lt {n : Nat} (h : n ≤ 1000000) : n < sizeLine := Nat.lt_of_le_of_lt h (by decide)
theorem len_join : ∀ ys : List Str, (Str.join (Str.ofString "") ys).length = (ys.map (·.length)).sum
  | [] => rfl
  | [x] => by simp [Str.join]
  | x :: y :: r => by
    show (x ++ Str.ofString "" ++ Str.join (Str.ofString "") (y :: r)).length = _
    rw [len_app, len_app, len_join (y :: r), List.map_cons (l := y :: r), List.sum_cons]
    have : (Str.ofString "").length = 0 := by decide +kernel
    omega
theorem len_flat (n : Nat) (z r : Str) (h : r.cps.toList = (List.replicate n z.cps.toList).flatten) : r.length = n * z.length := by
  rw [← len_tl, h, List.length_flatten]
  simp only [List.map_replicate, List.sum_replicate_nat, len_tl]
theorem take_succ_all {α : Type} {p : α → Bool} {l : List α} {i : Nat} {c : α} (hc : l[i]? = some c) (h : (l.take i).all p = true) (hp : p c = true) : (l.take (i + 1)).all p = true := by
  rw [List.take_add_one, hc, List.all_append, h]
  simp [hp]
theorem one_lt (a b : Nat) : decide ([a] < [b]) = decide (a < b) := by
  refine decide_eq_decide.mpr ?_
  rw [List.cons_lt_cons_iff]
  constructor
  · rintro (h | ⟨_, h⟩)
    · exact h
    · exact absurd h (List.not_lt_nil _)
  · exact .inl
theorem tl_a : (Str.ofString "a").cps.toList = [97] := by decide +kernel
theorem tl_z : (Str.ofString "z").cps.toList = [122] := by decide +kernel
theorem tl_0 : (Str.ofString "0").cps.toList = [48] := by decide +kernel
theorem tl_9 : (Str.ofString "9").cps.toList = [57] := by decide +kernel
theorem ck_let (c : Nat) : (!decide (c < 97) && !decide (122 < c)) = isLet c := by
  unfold isLet
  rw [← decide_not, ← decide_not]
  congr 1 <;> exact decide_eq_decide.mpr (by omega)
theorem ck_dig (c : Nat) : (!decide (c < 48) && !decide (57 < c)) = isDig c := by
  unfold isDig
  rw [← decide_not, ← decide_not]
  congr 1 <;> exact decide_eq_decide.mpr (by omega)
/-- one sign as a value -/
def sg (c : Nat) : V := .str ⟨#[c]⟩
theorem take_filter {p : Nat → Bool} {l : List Nat} {i c : Nat} (hc : l[i]? = some c) : (l.take (i + 1)).filter p = (l.take i).filter p ++ (if p c = true then [c] else []) := by
  rw [List.take_add_one, hc, List.filter_append]
  congr 1
  show List.filter p [c] = _
  by_cases h : p c = true
  · rw [if_pos h]; simp [h]
  · rw [if_neg h]; simp [h]
theorem let_not_dig (c : Nat) : isLet c = true → isDig c = false := by
  unfold isLet isDig
  simp
  omega
theorem count_all : ∀ l : List Nat, ((l.filter isLet).length + (l.filter isDig).length = l.length ↔ l.all (fun c => isLet c || isDig c) = true) ∧ (l.filter isLet).length + (l.filter isDig).length ≤ l.length
  | [] => by simp
  | c :: r => by
    obtain ⟨h1, h2⟩ := count_all r
    have h3 := let_not_dig c
    have h4 : (c :: r).all (fun c => isLet c || isDig c) = ((isLet c || isDig c) && r.all fun c => isLet c || isDig c) := List.all_cons
    rw [h4]
    by_cases e1 : isLet c = true
    · have e2 : ¬ isDig c = true := by rw [h3 e1]; simp
      rw [List.filter_cons_of_pos e1, List.filter_cons_of_neg e2, e1, Bool.true_or, Bool.true_and, ← h1, List.length_cons, List.length_cons]
      omega
    · have e1' : isLet c = false := by simpa using e1
      by_cases e2 : isDig c = true
      · rw [List.filter_cons_of_neg e1, List.filter_cons_of_pos e2, e2, Bool.or_true, Bool.true_and, ← h1, List.length_cons, List.length_cons]
        omega
      · have e2' : isDig c = false := by simpa using e2
        rw [List.filter_cons_of_neg e1, List.filter_cons_of_neg e2, e1', e2', Bool.or_false, Bool.false_and, List.length_cons]
        simp only [Bool.false_eq_true, iff_false]
        omega
-- _law_name
def sp__law_name (_ : PySem.W.Frag) : Sp := Com.Sp1 fun x H Q _ => ∃ (a l c : Addr) (n : Nat), x = .ref a ∧ StAt H a l c n ∧ n < 900000 ∧ ∀ (z : Str) H', 1 ≤ z.length → z.length ≤ 12 → nameC z.cps.toList = true → StAt H' a l c (n + 20) → Kp a l H H' → Q (.str z) H'
theorem use_name {K : PySem.W.Frag} {a l c : Addr} {n : Nat} {H : Hp} {Q : VK} {E : XK} (st : StAt H a l c n) (hn : n < 900000)
    (q : ∀ (z : Str) H', 1 ≤ z.length → z.length ≤ 12 → nameC z.cps.toList = true → StAt H' a l c (n + 20) → Kp a l H H' → Q (.str z) H') : sp__law_name K [.ref a] H Q E :=
  ⟨_, rfl, a, l, c, n, rfl, st, hn, q⟩
set_option maxHeartbeats 4000000 in
theorem ok__law_name {P : Program} {w : World} {K : PySem.W.Frag} {mg : Str → Option Value} {base : Heap} (T : Txt K mg) : Com.Fn P w K mg base CX0 3 "_law_name" ["_law_state_here"] (sp__law_name K) := by
  have G__law_draw := ok__law_draw (P := P) (w := w) (base := base) T
  obtain ⟨fd, F⟩ := T.F__law_name
  refine ⟨He.ga K "_law_name", fd, F.ok sc__law_name (fun vs H Q E h => ?_) (fun cdv A outer s H vs Q E hr h => ?_), T.g__law_name, F.kp, F.bindsN fun _ _ _ _ _ _ us hl => match us, hl with | [_], _ => rfl⟩
  · obtain ⟨_, rfl, _⟩ := h
    rfl
  · obtain ⟨a0, rfl, h⟩ := h
    refine ⟨_, PSs.nox (pss_cons (ps_set (i := 1) sc__law_name.nd rfl (by first | exact Or.inl rfl | exact Or.inr rfl) pe_str)
      (pss_cons (ps_set (i := 2) sc__law_name.nd rfl (by first | exact Or.inl rfl | exact Or.inr rfl) (pe_ix ix_str (pv 1) (Com.pcall G__law_draw (hr.mono (by decide)) (by rfl) pass0 (pa_cons (pv 0) (pa_cons pe_int pa_nil))) (fun _ _ => rfl)))
      (pss_cons (ps_for PassesOwn.never rfl (pi_range1 (by rfl) T.b_range (pa_cons (Com.pcall G__law_draw (hr.mono (by decide)) (by rfl) pass0 (pa_cons (pv 0) (pa_cons pe_int pa_nil))) pa_nil)) (pg_name (i := 3) sc__law_name.nd rfl (by first | exact Or.inl rfl | exact Or.inr rfl)) (pss_one (ps_set (i := 2) sc__law_name.nd rfl (by first | exact Or.inl rfl | exact Or.inr rfl) (pe_op Com.qadd_str (pv 2) (pe_ix ix_str (pv 1) (Com.pcall G__law_draw (hr.mono (by decide)) (by rfl) pass0 (pa_cons (pv 0) (pa_cons pe_int pa_nil))) (fun _ _ => rfl))))))
      (pss_one (ps_ret (pv 2)))))), ?_⟩
    simp only [L2.start, List.map_cons, List.map_nil, List.length_cons, List.length_nil, List.cons_append, List.nil_append, Nat.reduceAdd, Nat.reduceSub, List.replicate_succ, List.replicate_zero]
    obtain ⟨a, l, c, n, rfl, st, hn, q⟩ := h
    try simp only [Com.wp, Option.some.injEq, exists_eq_left', true_and, and_true, and_self, Int.reduceLT, Int.reduceLE, Int.reduceNeg, Int.reduceAdd, Int.reduceSub, Int.reducePow, Int.reduceToNat, Nat.reduceAdd, Nat.reduceLT, Nat.reduceLeDiff]
    refine use_draw st (by omega) (by decide) (by decide) fun j H1 hj st1 kp1 => ?_
    try simp only [Com.wp, Option.some.injEq, exists_eq_left', true_and, and_true, and_self, Int.reduceLT, Int.reduceLE, Int.reduceNeg, Int.reduceAdd, Int.reduceSub, Int.reducePow, Int.reduceToNat, Nat.reduceAdd, Nat.reduceLT, Nat.reduceLeDiff]
    have hj : j < 26 := by omega
    have L36 : (Str.ofString "abcdefghijklmnopqrstuvwxyz0123456789").cps.toList.length = 36 := by decide +kernel
    have A36 : (Str.ofString "abcdefghijklmnopqrstuvwxyz0123456789").cps.toList.all (fun c => isLet c || isDig c) = true := by decide +kernel
    have A26 : ((Str.ofString "abcdefghijklmnopqrstuvwxyz0123456789").cps.toList.take 26).all isLet = true := by decide +kernel
    have g0 := List.getElem?_eq_getElem (show j < (Str.ofString "abcdefghijklmnopqrstuvwxyz0123456789").cps.toList.length by omega)
    refine ⟨by decide +kernel, _, atI_nat g0, use_draw st1 (by omega) (by decide) (by decide) fun m H2 hm st2 kp2 => ?_⟩
    have f0 := List.all_eq_true.mp A26 _ (List.mem_of_getElem? (show _ = some _ by rw [List.getElem?_take_of_lt hj]; exact g0))
    generalize (Str.ofString "abcdefghijklmnopqrstuvwxyz0123456789").cps.toList[j] = c0 at f0 ⊢
    try simp only [Com.wp, Option.some.injEq, exists_eq_left', true_and, and_true, and_self, Int.reduceLT, Int.reduceLE, Int.reduceNeg, Int.reduceAdd, Int.reduceSub, Int.reducePow, Int.reduceToNat, Nat.reduceAdd, Nat.reduceLT, Nat.reduceLeDiff]
    refine ⟨by omega, by omega, ?_⟩
    refine Com.loopR (fun i s2 H3 => ∃ (z : Str) (x : Option V), s2 = [some (.ref a), some (.str (Str.ofString "abcdefghijklmnopqrstuvwxyz0123456789")), some (.str z), x] ∧ z.length = i + 1 ∧ isLet (z.cps.toList.headD 0) = true ∧ z.cps.toList.all (fun c => isLet c || isDig c) = true ∧ StAt H3 a l c (n + 2 + i) ∧ Kp a l H H3)
      ⟨⟨#[c0]⟩, none, rfl, rfl, f0, by simp [f0], st2, kp1.trans kp2⟩ ?_ ?_
    · rintro i s2 H3 hi ⟨z, x, rfl, lz, hz, az, st3, kp3⟩
      try simp only [Com.wp, Option.some.injEq, exists_eq_left', true_and, and_true, and_self, Int.reduceLT, Int.reduceLE, Int.reduceNeg, Int.reduceAdd, Int.reduceSub, Int.reducePow, Int.reduceToNat, Nat.reduceAdd, Nat.reduceLT, Nat.reduceLeDiff]
      refine use_draw st3 (by omega) (by decide) (by decide) fun j H4 hj st4 kp4 => ?_
      have g1 := List.getElem?_eq_getElem (show j < (Str.ofString "abcdefghijklmnopqrstuvwxyz0123456789").cps.toList.length by omega)
      have f1 := List.all_eq_true.mp A36 _ (List.mem_of_getElem? g1)
      try simp only [Com.wp, Option.some.injEq, exists_eq_left', true_and, and_true, and_self, Int.reduceLT, Int.reduceLE, Int.reduceNeg, Int.reduceAdd, Int.reduceSub, Int.reducePow, Int.reduceToNat, Nat.reduceAdd, Nat.reduceLT, Nat.reduceLeDiff]
      refine ⟨by decide +kernel, _, atI_nat g1, Nat.le_trans (show z.length + 1 ≤ 1000 by omega) (by decide), ?_⟩
      generalize (Str.ofString "abcdefghijklmnopqrstuvwxyz0123456789").cps.toList[j] = c1 at f1 ⊢
      have e1 : (z ++ (⟨#[c1]⟩ : Str)).cps.toList = z.cps.toList ++ [c1] := TL.tl_append _ _
      refine ⟨_, _, rfl, ?_, ?_, ?_, st4, kp3.trans kp4⟩
      · rw [← len_tl, e1, List.length_append, len_tl, lz]
        rfl
      · rw [e1]
        cases e : z.cps.toList with
        | nil => rw [← len_tl, e] at lz; simp at lz
        | cons b r => rw [e] at hz; exact hz
      · rw [e1, List.all_append, az]
        simpa using f1
    · rintro s2 H3 ⟨z, x, rfl, lz, hz, az, st3, kp3⟩
      try simp only [Com.wp, Option.some.injEq, exists_eq_left', true_and, and_true, and_self, Int.reduceLT, Int.reduceLE, Int.reduceNeg, Int.reduceAdd, Int.reduceSub, Int.reducePow, Int.reduceToNat, Nat.reduceAdd, Nat.reduceLT, Nat.reduceLeDiff]
      refine q z H3 (by omega) (by omega) ?_ (st3.mono (by omega)) kp3
      unfold nameC
      rw [hz, az, len_tl, decide_eq_true (by omega), decide_eq_true (by omega)]
      rfl
theorem cut_pre (z : Str) (k : Nat) : (cutS z none (some (k : Int))).cps.toList = z.cps.toList.take k := by
  show (((z.cps.toList.drop (HT.sIx z.length 0 none)).take (HT.sIx z.length z.length (some (k : Int)) - HT.sIx z.length 0 none)).toArray).toList = _
  rw [HT.sIx_none, HT.sIx_nat, ← len_tl, List.drop_zero, Nat.sub_zero]
  show List.take (min k z.cps.toList.length) z.cps.toList = _
  by_cases h : k ≤ z.cps.toList.length
  · rw [Nat.min_eq_left h]
  · rw [Nat.min_eq_right (by omega), List.take_length, List.take_of_length_le (by omega)]
theorem cut_post (z : Str) (k : Nat) : (cutS z (some (k : Int)) none).cps.toList = z.cps.toList.drop k := by
  show (((z.cps.toList.drop (HT.sIx z.length 0 (some (k : Int)))).take (HT.sIx z.length z.length none - HT.sIx z.length 0 (some (k : Int)))).toArray).toList = _
  rw [HT.sIx_none, HT.sIx_nat, ← len_tl]
  show List.take (z.cps.toList.length - min k z.cps.toList.length) (List.drop (min k z.cps.toList.length) z.cps.toList) = _
  rw [List.take_of_length_le (by rw [List.length_drop]; exact Nat.le_refl _)]
  by_cases h : k ≤ z.cps.toList.length
  · rw [Nat.min_eq_left h]
  · rw [Nat.min_eq_right (by omega), List.drop_length, List.drop_of_length_le (by omega)]
theorem cutV_pre (xs : List V) (k : Nat) : cutV xs none (some (k : Int)) = xs.take k := by
  unfold cutV
  rw [HT.sIx_none, HT.sIx_nat, List.drop_zero, Nat.sub_zero]
  by_cases h : k ≤ xs.length
  · rw [Nat.min_eq_left h]
  · rw [Nat.min_eq_right (by omega), List.take_length, List.take_of_length_le (by omega)]
/-- a name with one sign made a letter is a name -/
theorem name_put {cs : List Nat} {j c : Nat} (h : nameC cs = true) (hj : j < cs.length) (hc : isLet c = true) : nameC (cs.take j ++ [c] ++ cs.drop (j + 1)) = true := by
  unfold nameC at h ⊢
  have hl : (cs.take j ++ [c] ++ cs.drop (j + 1)).length = cs.length := by
    rw [List.length_append, List.length_append, List.length_take, List.length_drop]
    simp
    omega
  rw [hl]
  rw [Bool.and_eq_true] at h ⊢
  refine ⟨h.1, ?_⟩
  have h2 := h.2
  rw [Bool.and_eq_true] at h2 ⊢
  refine ⟨?_, ?_⟩
  · cases j with
    | zero => simpa using hc
    | succ j =>
      cases cs with
      | nil => simp at hj
      | cons b r => simpa using h2.1
  · have h3 := List.all_eq_true.mp h2.2
    rw [List.all_append, List.all_append, Bool.and_eq_true, Bool.and_eq_true]
    exact ⟨⟨List.all_eq_true.mpr fun x hx => h3 x (List.mem_of_mem_take hx), by simp [hc]⟩, List.all_eq_true.mpr fun x hx => h3 x (List.mem_of_mem_drop hx)⟩
theorem q_name : ∀ i : Nat, i < 9 → nameC (Str.ofString "q" ++ Str.ofString (toString ((0 : Int) + (i : Int)))).cps.toList = true ∧ (Str.ofString (toString ((0 : Int) + (i : Int)))).length = 1 := by
  intro i hi
  have hj : i = 0 ∨ i = 1 ∨ i = 2 ∨ i = 3 ∨ i = 4 ∨ i = 5 ∨ i = 6 ∨ i = 7 ∨ i = 8 := by omega
  rcases hj with rfl | rfl | rfl | rfl | rfl | rfl | rfl | rfl | rfl <;> decide +kernel
theorem name_len {z : Str} (h : nameC z.cps.toList = true) : 1 ≤ z.length ∧ z.length ≤ 12 := by
  unfold nameC at h
  rw [len_tl] at h
  simp only [Bool.and_eq_true, decide_eq_true_eq] at h
  exact h.1
-- _law_rooms
def sp__law_rooms (_ : PySem.W.Frag) : Sp := Com.Sp1 fun x H Q _ => ∃ (a l c : Addr) (n : Nat), x = .ref a ∧ StAt H a l c n ∧ n < 800000 ∧ ∀ (p : Addr) (zs : List Str) H', H p = none → H' p = some (.lst (zs.map V.str)) → 1 ≤ zs.length → zs.length ≤ 6 → (∀ z ∈ zs, nameC z.cps.toList = true) → StAt H' a l c (n + 200) → Kp a l H H' → Q (.ref p) H'
set_option maxHeartbeats 4000000 in
theorem ok__law_rooms {P : Program} {w : World} {K : PySem.W.Frag} {mg : Str → Option Value} {base : Heap} (T : Txt K mg) : Com.Fn P w K mg base CX0 4 "_law_rooms" ["_law_state_here"] (sp__law_rooms K) := by
  have G__law_name := ok__law_name (P := P) (w := w) (base := base) T
  have G__law_draw := ok__law_draw (P := P) (w := w) (base := base) T
  obtain ⟨fd, F⟩ := T.F__law_rooms
  refine ⟨He.ga K "_law_rooms", fd, F.ok sc__law_rooms (fun vs H Q E h => ?_) (fun cdv A outer s H vs Q E hr h => ?_), T.g__law_rooms, F.kp, F.bindsN fun _ _ _ _ _ _ us hl => match us, hl with | [_], _ => rfl⟩
  · obtain ⟨_, rfl, _⟩ := h
    rfl
  · obtain ⟨a0, rfl, h⟩ := h
    refine ⟨_, PSs.nox (pss_cons (ps_set (i := 1) sc__law_rooms.nd rfl (by first | exact Or.inl rfl | exact Or.inr rfl) (Com.pcall G__law_name (hr.mono (by decide)) (by rfl) pass0 (pa_cons (pv 0) pa_nil)))
      (pss_cons (ps_set (i := 2) sc__law_rooms.nd rfl (by first | exact Or.inl rfl | exact Or.inr rfl) (pe_ix Com.qix_list (pe_lst (pa_cons pe_int (pa_cons pe_int (pa_cons pe_int (pa_cons pe_int pa_nil))))) (Com.pcall G__law_draw (hr.mono (by decide)) (by rfl) pass0 (pa_cons (pv 0) (pa_cons pe_int pa_nil))) (fun _ _ => rfl)))
      (pss_cons (ps_set (i := 3) sc__law_rooms.nd rfl (by first | exact Or.inl rfl | exact Or.inr rfl) (Com.pcall G__law_draw (hr.mono (by decide)) (by rfl) pass0 (pa_cons (pv 0) (pa_cons pe_int pa_nil))))
      (pss_cons (ps_set (i := 4) sc__law_rooms.nd rfl (by first | exact Or.inl rfl | exact Or.inr rfl) (pe_lst pa_nil))
      (pss_cons (ps_for PassesOwn.never rfl (pi_range1 (by rfl) T.b_range (pa_cons (pv 2) pa_nil)) (pg_name (i := 5) sc__law_rooms.nd rfl (by first | exact Or.inl rfl | exact Or.inr rfl)) (pss_cons (ps_set (i := 6) sc__law_rooms.nd rfl (by first | exact Or.inl rfl | exact Or.inr rfl) (pv 1))
      (Com.pss_cutJ (ps_if (PW.pt (pw_and (pt_cmpR op_gt (pv 5) pe_int (nomark _)) (pw_and1 (pt_cmpR op_eq (pv 3) pe_int (nomark _))))) (pss_one (ps_set (i := 6) sc__law_rooms.nd rfl (by first | exact Or.inl rfl | exact Or.inr rfl) (Com.pcall G__law_name (hr.mono (by decide)) (by rfl) pass0 (pa_cons (pv 0) pa_nil)))) pss_nil)
      (Com.pss_cutJ (ps_if (PW.pt (pw_and (pt_cmpR op_gt (pv 5) pe_int (nomark _)) (pw_and1 (pt_cmpR op_lt (pv 3) pe_int (nomark _))))) (pss_cons (ps_set (i := 8) sc__law_rooms.nd rfl (by first | exact Or.inl rfl | exact Or.inr rfl) (Com.pcall G__law_draw (hr.mono (by decide)) (by rfl) pass0 (pa_cons (pv 0) (pa_cons (pe_callB Com.qlen_str (by rfl) T.b_len (by decide +kernel) (pa_cons (pv 1) pa_nil)) pa_nil))))
      (pss_cons (ps_set (i := 9) sc__law_rooms.nd rfl (by first | exact Or.inl rfl | exact Or.inr rfl) (pe_ix ix_str pe_str (Com.pcall G__law_draw (hr.mono (by decide)) (by rfl) pass0 (pa_cons (pv 0) (pa_cons pe_int pa_nil))) (fun _ _ => rfl)))
      (pss_one (ps_set (i := 6) sc__law_rooms.nd rfl (by first | exact Or.inl rfl | exact Or.inr rfl) (pe_op Com.qadd_str (pe_op Com.qadd_str (pe_slice sl_str (pv 1) po_none (po_some (pv 8))) (pv 9)) (pe_slice sl_str (pv 1) (po_some (pe_op op_add (pv 8) pe_int)) po_none)))))) pss_nil)
      (pss_cons (ps_for PassesOwn.never rfl (pi_range1 (by rfl) T.b_range (pa_cons pe_int pa_nil)) (pg_name (i := 7) sc__law_rooms.nd rfl (by first | exact Or.inl rfl | exact Or.inr rfl)) (pss_one (ps_if (PW.pt (pw_or (pt_cmpR Com.qin_seq (pv 6) (pv 4) (by rfl)) (pw_or1 (pt_cmpR op_eq (pv 6) pe_str (nomark _))))) (pss_one (ps_set (i := 6) sc__law_rooms.nd rfl (by first | exact Or.inl rfl | exact Or.inr rfl) (pe_op Com.qadd_str pe_str (pe_callTy Com.qstr_int (by rfl) T.b_str (by decide +kernel) (pa_cons (pv 7) pa_nil))))) pss_nil)))
      (pss_one (ps_expr (pe_bm PySem.F.plainAttrs_list PySem.F.slot_list_append PySem.F.type_list_append mt_append (pv 4) (pa_cons (pv 6) pa_nil)))))))))
      (pss_one (ps_ret (pv 4)))))))), ?_⟩
    simp only [L2.start, List.map_cons, List.map_nil, List.length_cons, List.length_nil, List.cons_append, List.nil_append, Nat.reduceAdd, Nat.reduceSub, List.replicate_succ, List.replicate_zero]
    obtain ⟨a, l, c, n, rfl, st, hn, q⟩ := h
    try simp only [Com.wp, Option.some.injEq, exists_eq_left', true_and, and_true, and_self, Int.reduceLT, Int.reduceLE, Int.reduceNeg, Int.reduceAdd, Int.reduceSub, Int.reducePow, Int.reduceToNat, Nat.reduceAdd, Nat.reduceLT, Nat.reduceLeDiff]
    refine use_name st (by omega) fun base H1 b1 b2 b3 st1 kp1 => ?_
    try simp only [Com.wp, Option.some.injEq, exists_eq_left', true_and, and_true, and_self, Int.reduceLT, Int.reduceLE, Int.reduceNeg, Int.reduceAdd, Int.reduceSub, Int.reducePow, Int.reduceToNat, Nat.reduceAdd, Nat.reduceLT, Nat.reduceLeDiff]
    intro p6 hp6
    try simp only [Com.wp, Option.some.injEq, exists_eq_left', true_and, and_true, and_self, Int.reduceLT, Int.reduceLE, Int.reduceNeg, Int.reduceAdd, Int.reduceSub, Int.reducePow, Int.reduceToNat, Nat.reduceAdd, Nat.reduceLT, Nat.reduceLeDiff]
    refine use_draw (st1.newly hp6) (by omega) (by decide) (by decide) fun j H2 hj st2 kp2 => ?_
    have h6 := kp2.at (st1.ne hp6) (upd_same (H := H1))
    have hcnt : ∃ m : Nat, atI [V.int 6, V.int 3, V.int 2, V.int 1] (j : Int) = some (.int (m : Int)) ∧ 1 ≤ m ∧ m ≤ 6 := by
      have hj : j = 0 ∨ j = 1 ∨ j = 2 ∨ j = 3 := by omega
      rcases hj with rfl | rfl | rfl | rfl
      · exact ⟨6, atI_of rfl, by decide, by decide⟩
      · exact ⟨3, atI_of rfl, by decide, by decide⟩
      · exact ⟨2, atI_of rfl, by decide, by decide⟩
      · exact ⟨1, atI_of rfl, by decide, by decide⟩
    obtain ⟨m, hm, m1, m6⟩ := hcnt
    try simp only [Com.wp, Option.some.injEq, exists_eq_left', true_and, and_true, and_self, Int.reduceLT, Int.reduceLE, Int.reduceNeg, Int.reduceAdd, Int.reduceSub, Int.reducePow, Int.reduceToNat, Nat.reduceAdd, Nat.reduceLT, Nat.reduceLeDiff, h6]
    refine ⟨_, hm, use_draw st2 (by omega) (by decide) (by decide) fun way H3 hw st3 kp3 => ?_⟩
    try simp only [Com.wp, Option.some.injEq, exists_eq_left', true_and, and_true, and_self, Int.reduceLT, Int.reduceLE, Int.reduceNeg, Int.reduceAdd, Int.reduceSub, Int.reducePow, Int.reduceToNat, Nat.reduceAdd, Nat.reduceLT, Nat.reduceLeDiff]
    intro p hp
    have kp : Kp a l H H3 := kp1.trans ((Kp.refl.newly hp6).trans (kp2.trans kp3))
    have pne := st3.ne hp
    have hpH : H p = none := kp.free st hp pne
    have base' := sz base (by omega)
    have A26 : (Str.ofString "abcdefghijklmnopqrstuvwxyz").cps.toList.all isLet = true := by decide +kernel
    have L26 : (Str.ofString "abcdefghijklmnopqrstuvwxyz").cps.toList.length = 26 := by decide +kernel
    try simp only [Com.wp, Option.some.injEq, exists_eq_left', true_and, and_true, and_self, Int.reduceLT, Int.reduceLE, Int.reduceNeg, Int.reduceAdd, Int.reduceSub, Int.reducePow, Int.reduceToNat, Nat.reduceAdd, Nat.reduceLT, Nat.reduceLeDiff]
    refine ⟨by omega, by omega, ?_⟩
    refine Com.loopR (fun i s2 H4 => ∃ (zs : List Str) (x5 x6 x7 x8 x9 : Option V), s2 = [some (.ref a), some (.str base), some (.int m), some (.int way), some (.ref p), x5, x6, x7, x8, x9] ∧ H4 p = some (.lst (zs.map V.str)) ∧ zs.length = i ∧ (∀ z ∈ zs, nameC z.cps.toList = true) ∧ StAt H4 a l c (n + 22 + 25 * i) ∧ Kp a l H H4)
      ⟨[], _, _, _, _, _, rfl, upd_same, rfl, by simp, st3.newly hp, kp.newly hp⟩ ?_ ?_
    · rintro i s2 H4 hi ⟨zs, x5, x6, x7, x8, x9, rfl, h4, lz, az, st4, kp4⟩
      have hi6 : i < 6 := by omega
      try simp only [Com.wp, Option.some.injEq, exists_eq_left', true_and, and_true, and_self, Int.reduceLT, Int.reduceLE, Int.reduceNeg, Int.reduceAdd, Int.reduceSub, Int.reducePow, Int.reduceToNat, Nat.reduceAdd, Nat.reduceLT, Nat.reduceLeDiff]
      refine ⟨fun s3 H5 => ∃ z : Str, s3 = [some (.ref a), some (.str base), some (.int m), some (.int way), some (.ref p), some (.int (0 + (i : Int))), some (.str z), x7, x8, x9] ∧ nameC z.cps.toList = true ∧ H5 p = some (.lst (zs.map V.str)) ∧ StAt H5 a l c (n + 22 + 25 * i + 20) ∧ Kp a l H H5, ?_, ?_⟩
      · try simp only [Com.wp, Option.some.injEq, exists_eq_left', true_and, and_true, and_self, Int.reduceLT, Int.reduceLE, Int.reduceNeg, Int.reduceAdd, Int.reduceSub, Int.reducePow, Int.reduceToNat, Nat.reduceAdd, Nat.reduceLT, Nat.reduceLeDiff]
        have stay : ∃ z : Str, [some (V.ref a), some (.str base), some (.int m), some (.int way), some (.ref p), some (.int (0 + (i : Int))), some (.str base), x7, x8, x9] = [some (V.ref a), some (.str base), some (.int m), some (.int way), some (.ref p), some (.int (0 + (i : Int))), some (.str z), x7, x8, x9] ∧ nameC z.cps.toList = true ∧ H4 p = some (.lst (zs.map V.str)) ∧ StAt H4 a l c (n + 22 + 25 * i + 20) ∧ Kp a l H H4 := ⟨base, rfl, b3, h4, st4.mono (by omega), kp4⟩
        refine Com.andk (fun _ => ?_) (fun _ => Com.ifk (fun e => Bool.noConfusion e) (fun _ => stay))
        try simp only [Com.wp, Option.some.injEq, exists_eq_left', true_and, and_true, and_self, Int.reduceLT, Int.reduceLE, Int.reduceNeg, Int.reduceAdd, Int.reduceSub, Int.reducePow, Int.reduceToNat, Nat.reduceAdd, Nat.reduceLT, Nat.reduceLeDiff]
        refine Com.ifk (fun _ => ?_) (fun _ => stay)
        try simp only [Com.wp, Option.some.injEq, exists_eq_left', true_and, and_true, and_self, Int.reduceLT, Int.reduceLE, Int.reduceNeg, Int.reduceAdd, Int.reduceSub, Int.reducePow, Int.reduceToNat, Nat.reduceAdd, Nat.reduceLT, Nat.reduceLeDiff]
        refine use_name st4 (by omega) fun z H5 z1 z2 z3 st5 kp5 => ?_
        try simp only [Com.wp, Option.some.injEq, exists_eq_left', true_and, and_true, and_self, Int.reduceLT, Int.reduceLE, Int.reduceNeg, Int.reduceAdd, Int.reduceSub, Int.reducePow, Int.reduceToNat, Nat.reduceAdd, Nat.reduceLT, Nat.reduceLeDiff]
        exact ⟨z, rfl, z3, kp5.at pne h4, st5.mono (by omega), kp4.trans kp5⟩
      · rintro s3 H5 ⟨z, rfl, nz, h5, st5, kp5⟩
        refine ⟨fun s3 H5 => ∃ (z : Str) (x8 x9 : Option V), s3 = [some (.ref a), some (.str base), some (.int m), some (.int way), some (.ref p), some (.int (0 + (i : Int))), some (.str z), x7, x8, x9] ∧ nameC z.cps.toList = true ∧ H5 p = some (.lst (zs.map V.str)) ∧ StAt H5 a l c (n + 22 + 25 * i + 22) ∧ Kp a l H H5, ?_, ?_⟩
        · try simp only [Com.wp, Option.some.injEq, exists_eq_left', true_and, and_true, and_self, Int.reduceLT, Int.reduceLE, Int.reduceNeg, Int.reduceAdd, Int.reduceSub, Int.reducePow, Int.reduceToNat, Nat.reduceAdd, Nat.reduceLT, Nat.reduceLeDiff]
          have stay : ∃ (z' : Str) (x8' x9' : Option V), [some (V.ref a), some (.str base), some (.int m), some (.int way), some (.ref p), some (.int (0 + (i : Int))), some (.str z), x7, x8, x9] = [some (V.ref a), some (.str base), some (.int m), some (.int way), some (.ref p), some (.int (0 + (i : Int))), some (.str z'), x7, x8', x9'] ∧ nameC z'.cps.toList = true ∧ H5 p = some (.lst (zs.map V.str)) ∧ StAt H5 a l c (n + 22 + 25 * i + 22) ∧ Kp a l H H5 := ⟨z, _, _, rfl, nz, h5, st5.mono (by omega), kp5⟩
          refine Com.andk (fun _ => ?_) (fun _ => Com.ifk (fun e => Bool.noConfusion e) (fun _ => stay))
          try simp only [Com.wp, Option.some.injEq, exists_eq_left', true_and, and_true, and_self, Int.reduceLT, Int.reduceLE, Int.reduceNeg, Int.reduceAdd, Int.reduceSub, Int.reducePow, Int.reduceToNat, Nat.reduceAdd, Nat.reduceLT, Nat.reduceLeDiff]
          refine Com.ifk (fun _ => ?_) (fun _ => stay)
          try simp only [Com.wp, Option.some.injEq, exists_eq_left', true_and, and_true, and_self, Int.reduceLT, Int.reduceLE, Int.reduceNeg, Int.reduceAdd, Int.reduceSub, Int.reducePow, Int.reduceToNat, Nat.reduceAdd, Nat.reduceLT, Nat.reduceLeDiff, base']
          refine use_draw st5 (by omega) (by omega) (by have : (12 : Int) < 2 ^ 1000 := by decide
                                                        omega) fun at_ H6 hat st6 kp6 => ?_
          try simp only [Com.wp, Option.some.injEq, exists_eq_left', true_and, and_true, and_self, Int.reduceLT, Int.reduceLE, Int.reduceNeg, Int.reduceAdd, Int.reduceSub, Int.reducePow, Int.reduceToNat, Nat.reduceAdd, Nat.reduceLT, Nat.reduceLeDiff]
          refine use_draw st6 (by omega) (by decide) (by decide) fun j H7 hj st7 kp7 => ?_
          have g1 := List.getElem?_eq_getElem (show j < (Str.ofString "abcdefghijklmnopqrstuvwxyz").cps.toList.length by omega)
          have f1 := List.all_eq_true.mp A26 _ (List.mem_of_getElem? g1)
          try simp only [Com.wp, Option.some.injEq, exists_eq_left', true_and, and_true, and_self, Int.reduceLT, Int.reduceLE, Int.reduceNeg, Int.reduceAdd, Int.reduceSub, Int.reducePow, Int.reduceToNat, Nat.reduceAdd, Nat.reduceLT, Nat.reduceLeDiff]
          refine ⟨by decide +kernel, _, atI_nat g1, ?_⟩
          generalize (Str.ofString "abcdefghijklmnopqrstuvwxyz").cps.toList[j] = c1 at f1 ⊢
          have e1 : (cutS base none (some (at_ : Int)) ++ (⟨#[c1]⟩ : Str) ++ cutS base (some ((at_ : Int) + 1)) none).cps.toList = base.cps.toList.take at_ ++ [c1] ++ base.cps.toList.drop (at_ + 1) := by
            have t1 : (cutS base none (some (at_ : Int)) ++ (⟨#[c1]⟩ : Str) ++ cutS base (some ((at_ : Int) + 1)) none).cps.toList = (cutS base none (some (at_ : Int)) ++ (⟨#[c1]⟩ : Str)).cps.toList ++ (cutS base (some ((at_ : Int) + 1)) none).cps.toList := TL.tl_append _ _
            have t2 : (cutS base none (some (at_ : Int)) ++ (⟨#[c1]⟩ : Str)).cps.toList = (cutS base none (some (at_ : Int))).cps.toList ++ [c1] := TL.tl_append _ _
            rw [t1, t2, cut_pre, show ((at_ : Int) + 1) = ((at_ + 1 : Nat) : Int) by omega, cut_post]
          have e2 := name_put (j := at_) (c := c1) b3 (by rw [len_tl]; omega) f1
          rw [← e1] at e2
          have g1 := cutS_length base none (some (at_ : Int))
          have g2 := cutS_length base (some ((at_ : Int) + 1)) none
          have g3 : (⟨#[c1]⟩ : Str).length = 1 := rfl
          have g4 := len_app (cutS base none (some (at_ : Int))) ⟨#[c1]⟩
          try simp only [Com.wp, Option.some.injEq, exists_eq_left', true_and, and_true, and_self, Int.reduceLT, Int.reduceLE, Int.reduceNeg, Int.reduceAdd, Int.reduceSub, Int.reducePow, Int.reduceToNat, Nat.reduceAdd, Nat.reduceLT, Nat.reduceLeDiff, base']
          exact ⟨line_of (by omega), line_of (by omega), _, _, _, rfl, e2, kp7.at pne (kp6.at pne h5), st7, kp5.trans (kp6.trans kp7)⟩
        · rintro s4 H6 ⟨z, x8, x9, rfl, nz, h6, st6, kp6⟩
          try simp only [Com.wp, Option.some.injEq, exists_eq_left', true_and, and_true, and_self, Int.reduceLT, Int.reduceLE, Int.reduceNeg, Int.reduceAdd, Int.reduceSub, Int.reducePow, Int.reduceToNat, Nat.reduceAdd, Nat.reduceLT, Nat.reduceLeDiff]
          refine Com.loopR (fun t s5 H7 => ∃ (z : Str) (x7 : Option V), H7 = H6 ∧ s5 = [some (.ref a), some (.str base), some (.int m), some (.int way), some (.ref p), some (.int (0 + (i : Int))), some (.str z), x7, x8, x9] ∧ nameC z.cps.toList = true) ⟨_, _, rfl, rfl, nz⟩ ?_ ?_
          · rintro t s5 H7 ht ⟨z, x7, rfl, rfl, nz⟩
            obtain ⟨qn, ql⟩ := q_name t (by simpa using ht)
            have fl : (zs.map V.str).all flatV = true := by simp [flatV]
            have lg : ((0 : Int) + (t : Int)).natAbs.log2 < 1920 := by
              have : (0 + (t : Int)).natAbs < 2 ^ 1920 := by
                have h9 : (9 : Nat) < 2 ^ 1920 := by decide
                have : t < 9 := by simpa using ht
                omega
              by_cases h0 : (0 + (t : Int)).natAbs = 0
              · rw [h0]; decide
              · exact (Nat.log2_lt h0).mpr this
            try simp only [Com.wp, Option.some.injEq, exists_eq_left', true_and, and_true, and_self, Int.reduceLT, Int.reduceLE, Int.reduceNeg, Int.reduceAdd, Int.reduceSub, Int.reducePow, Int.reduceToNat, Nat.reduceAdd, Nat.reduceLT, Nat.reduceLeDiff, h6, fl]
            have chg : ∃ (z' : Str) (x7 : Option V), [some (V.ref a), some (.str base), some (.int m), some (.int way), some (.ref p), some (.int (0 + (i : Int))), some (.str (Str.ofString "q" ++ Str.ofString (toString (0 + (t : Int))))), some (.int (0 + (t : Int))), x8, x9] = [some (V.ref a), some (.str base), some (.int m), some (.int way), some (.ref p), some (.int (0 + (i : Int))), some (.str z'), x7, x8, x9] ∧ nameC z'.cps.toList = true := ⟨_, _, rfl, qn⟩
            have lq : (Str.ofString "q").length = 1 := by decide +kernel
            have lin : (Str.ofString "q").length + (Str.ofString (toString (0 + (t : Int)))).length ≤ sizeLine := line_of (by omega)
            refine Com.ork (fun _ => Com.ifk (fun _ => ?_) (fun e => Bool.noConfusion e)) (fun _ => ?_)
            · try simp only [Com.wp, Option.some.injEq, exists_eq_left', true_and, and_true, and_self, Int.reduceLT, Int.reduceLE, Int.reduceNeg, Int.reduceAdd, Int.reduceSub, Int.reducePow, Int.reduceToNat, Nat.reduceAdd, Nat.reduceLT, Nat.reduceLeDiff]
              exact ⟨lg, lin, chg⟩
            · try simp only [Com.wp, Option.some.injEq, exists_eq_left', true_and, and_true, and_self, Int.reduceLT, Int.reduceLE, Int.reduceNeg, Int.reduceAdd, Int.reduceSub, Int.reducePow, Int.reduceToNat, Nat.reduceAdd, Nat.reduceLT, Nat.reduceLeDiff]
              refine Com.ifk (fun _ => ?_) (fun _ => ?_)
              · try simp only [Com.wp, Option.some.injEq, exists_eq_left', true_and, and_true, and_self, Int.reduceLT, Int.reduceLE, Int.reduceNeg, Int.reduceAdd, Int.reduceSub, Int.reducePow, Int.reduceToNat, Nat.reduceAdd, Nat.reduceLT, Nat.reduceLeDiff]
                exact ⟨lg, lin, chg⟩
              · try simp only [Com.wp, Option.some.injEq, exists_eq_left', true_and, and_true, and_self, Int.reduceLT, Int.reduceLE, Int.reduceNeg, Int.reduceAdd, Int.reduceSub, Int.reducePow, Int.reduceToNat, Nat.reduceAdd, Nat.reduceLT, Nat.reduceLeDiff]
                exact ⟨z, _, rfl, nz⟩
          · rintro s5 H7 ⟨z, x7, rfl, rfl, nz⟩
            try simp only [Com.wp, Option.some.injEq, exists_eq_left', true_and, and_true, and_self, Int.reduceLT, Int.reduceLE, Int.reduceNeg, Int.reduceAdd, Int.reduceSub, Int.reducePow, Int.reduceToNat, Nat.reduceAdd, Nat.reduceLT, Nat.reduceLeDiff, h6, List.length_map]
            refine ⟨line_lt (by omega), zs ++ [z], _, _, _, _, _, rfl, by rw [List.map_append]; rfl, by rw [List.length_append, lz]; rfl, ?_, (st6.write pne).mono (by omega), kp6.write hpH⟩
            intro y hy
            rcases List.mem_append.mp hy with hy | hy
            · exact az y hy
            · cases List.mem_singleton.mp hy; exact nz
    · rintro s2 H4 ⟨zs, x5, x6, x7, x8, x9, rfl, h4, lz, az, st4, kp4⟩
      try simp only [Com.wp, Option.some.injEq, exists_eq_left', true_and, and_true, and_self, Int.reduceLT, Int.reduceLE, Int.reduceNeg, Int.reduceAdd, Int.reduceSub, Int.reducePow, Int.reduceToNat, Nat.reduceAdd, Nat.reduceLT, Nat.reduceLeDiff]
      exact q p zs H4 hpH h4 (by simp at lz; omega) (by simp at lz; omega) az (st4.mono (by simp; omega)) kp4
/-- a row of a walk: room, enter, leave -/
abbrev Rw := Str × Int × Int
def rwV (r : Rw) : List V := [.str r.1, .int r.2.1, .int r.2.2]
def rwD (r : Rw) : PyData := .tuple [.str r.1, .int r.2.1, .int r.2.2]
abbrev hallS : Str := "hall"
abbrev noS : Str := ""
def hit (r s : Rw) : Prop := s.1 = r.1 ∧ r.1 ≠ hallS ∧ r.2.1 < s.2.2 ∧ s.2.1 < r.2.2
def inn (r : Rw) (m : Int) : Prop := r.2.1 ≤ m ∧ m < r.2.2
def NoMeet (rs ss : List Rw) : Prop := ∀ r ∈ rs, ∀ s ∈ ss, ¬ hit r s
def Best (rs ss : List Rw) (m : Int) (z : Str) : Prop := (∃ r ∈ rs, ∃ s ∈ ss, hit r s ∧ m = max r.2.1 s.2.1 ∧ z = r.1) ∧ ∀ r ∈ rs, ∀ s ∈ ss, hit r s → m ≤ max r.2.1 s.2.1
def FoundAt (H : Hp) (v : V) (S : Rw → Rw → Prop) : Prop := (v = .non ∧ ∀ r s, S r s → ¬ hit r s) ∨
  ∃ (t : Addr) (m : Int) (z : Str), v = .ref t ∧ H t = some (.tup [.int m, .str z]) ∧ (∃ r s, S r s ∧ hit r s ∧ m = max r.2.1 s.2.1 ∧ z = r.1) ∧ ∀ r s, S r s → hit r s → m ≤ max r.2.1 s.2.1
theorem FoundAt.iff {H : Hp} {v : V} {S S' : Rw → Rw → Prop} (h : FoundAt H v S) (e : ∀ r s, S' r s ↔ S r s) : FoundAt H v S' := by
  have : S' = S := funext fun r => funext fun s => propext (e r s)
  rw [this]; exact h
theorem FoundAt.miss {H : Hp} {v : V} {S S' : Rw → Rw → Prop} {r s : Rw} (h : FoundAt H v S) (n : ¬ hit r s) (e : ∀ r' s', S' r' s' ↔ S r' s' ∨ (r' = r ∧ s' = s)) : FoundAt H v S' := by
  rcases h with ⟨rfl, h⟩ | ⟨t, m, z, rfl, ht, ⟨r1, s1, a, b⟩, h⟩
  · refine .inl ⟨rfl, fun r' s' q => ?_⟩
    rcases (e _ _).mp q with q | ⟨rfl, rfl⟩
    · exact h _ _ q
    · exact n
  · refine .inr ⟨t, m, z, rfl, ht, ⟨r1, s1, (e _ _).mpr (.inl a), b⟩, fun r' s' q hq => ?_⟩
    rcases (e _ _).mp q with q | ⟨rfl, rfl⟩
    · exact h _ _ q hq
    · exact absurd hq n
theorem FoundAt.keep {H : Hp} {t : Addr} {m : Int} {z : Str} {S S' : Rw → Rw → Prop} {r s : Rw} (h : FoundAt H (.ref t) S) (ht : H t = some (.tup [.int m, .str z])) (n : m ≤ max r.2.1 s.2.1) (e : ∀ r' s', S' r' s' ↔ S r' s' ∨ (r' = r ∧ s' = s)) : FoundAt H (.ref t) S' := by
  rcases h with ⟨h, _⟩ | ⟨t', m', z', h1, ht', ⟨r1, s1, a, b⟩, h⟩
  · cases h
  · cases h1
    rw [ht] at ht'
    cases ht'
    refine .inr ⟨t, m, z, rfl, ht, ⟨r1, s1, (e _ _).mpr (.inl a), b⟩, fun r' s' q hq => ?_⟩
    rcases (e _ _).mp q with q | ⟨rfl, rfl⟩
    · exact h _ _ q hq
    · exact n
theorem FoundAt.put {H : Hp} {t : Addr} {S S' : Rw → Rw → Prop} {r s : Rw} (ht : H t = some (.tup [.int (max r.2.1 s.2.1), .str r.1])) (hh : hit r s) (n : ∀ r' s', S r' s' → hit r' s' → max r.2.1 s.2.1 ≤ max r'.2.1 s'.2.1) (e : ∀ r' s', S' r' s' ↔ S r' s' ∨ (r' = r ∧ s' = s)) : FoundAt H (.ref t) S' := by
  refine .inr ⟨t, _, _, rfl, ht, ⟨r, s, (e _ _).mpr (.inr ⟨rfl, rfl⟩), hh, rfl, rfl⟩, fun r' s' q hq => ?_⟩
  rcases (e _ _).mp q with q | ⟨rfl, rfl⟩
  · exact n _ _ q hq
  · exact Int.le_refl _
theorem FoundAt.same {H H' : Hp} {v : V} {S : Rw → Rw → Prop} (h : FoundAt H v S) (s : Same H H') : FoundAt H' v S := by
  rcases h with h | ⟨t, m, z, h1, ht, h2⟩
  · exact .inl h
  · exact .inr ⟨t, m, z, h1, s _ _ ht, h2⟩
theorem name_strOk {z : Str} (h : nameC z.cps.toList = true) : PyData.strOk z = true := by
  unfold nameC at h
  rw [Bool.and_eq_true, Bool.and_eq_true, Bool.and_eq_true] at h
  have h2 := List.all_eq_true.mp h.2.2
  show z.cps.all (· < 0x110000) = true
  rw [← Array.all_toList]
  refine List.all_eq_true.mpr fun c hc => ?_
  have := h2 c hc
  unfold isLet isDig at this
  simp at this ⊢
  omega
theorem name_ne {z : Str} (h : nameC z.cps.toList = true) : z ≠ noS := fun e => by
  rw [e] at h
  exact absurd h (by decide +kernel)
/-- a stay as it is drawn -/
def StayOk (w g : Int) (s : Rw) : Prop := nameC s.1.cps.toList = true ∧ 1 ≤ s.2.1 ∧ s.2.1 ≤ s.2.2 ∧ s.2.1 ≤ w ∧ s.2.2 < s.2.1 + g
theorem hall_name : nameC hallS.cps.toList = true := by decide +kernel
theorem big51 : (10 : Int) ^ 51 < 2 ^ 900 := by decide
theorem big1000 : (2 : Int) ^ 900 + 1 < 2 ^ 1000 := by decide
def LenOk (ss : List Rw) (ls : List Int) : Prop := ls.length = ss.length ∧ ∀ (i : Nat) s d, ss[i]? = some s → ls[i]? = some d → s.2.1 ≤ d ∧ d ≤ s.2.2
theorem LenOk.snoc {ss : List Rw} {ls : List Int} {i : Nat} {s : Rw} {d : Int} (h : LenOk (ss.take i) ls) (hs : ss[i]? = some s) (hd : s.2.1 ≤ d ∧ d ≤ s.2.2) : LenOk (ss.take (i + 1)) (ls ++ [d]) := by
  rw [take_succ_at hs]
  refine ⟨by rw [List.length_append, List.length_append, h.1]; rfl, fun j s' d' e1 e2 => ?_⟩
  by_cases hj : j < ls.length
  · rw [List.getElem?_append_left (by rw [← h.1]; exact hj)] at e1
    rw [List.getElem?_append_left hj] at e2
    exact h.2 j s' d' e1 e2
  · rw [List.getElem?_append_right (by rw [← h.1]; omega)] at e1
    rw [List.getElem?_append_right (by omega)] at e2
    have hl := h.1
    cases hk : j - ls.length with
    | zero =>
      rw [hk] at e2
      rw [← hl, hk] at e1
      cases e1
      cases e2
      exact hd
    | succ k =>
      rw [hk] at e2
      simp at e2
-- _law_stays
def sp__law_stays (_ : PySem.W.Frag) : Sp := Com.Sp4 fun x y m g H Q _ => ∃ (a l c p : Addr) (n : Nat) (zs : List Str) (w k : Int), x = .ref a ∧ y = .ref p ∧ m = .int w ∧ g = .int k ∧ StAt H a l c n ∧ n < 800000 ∧ (p ≠ a ∧ p ≠ l ∧ p ≠ c) ∧ H p = some (.lst (zs.map V.str)) ∧ zs.length ≤ 100 ∧ (∀ z ∈ zs, nameC z.cps.toList = true) ∧
  1 ≤ w ∧ w < 2 ^ 900 ∧ 1 ≤ k ∧ k < 2 ^ 900 ∧ ∀ (q : Addr) (vs : List V) (ss : List Rw) H', H q = none → H' q = some (.lst vs) → ObsAt rwV H' vs ss → 1 ≤ ss.length → ss.length ≤ 6 → (∀ s ∈ ss, StayOk w k s) → StAt H' a l c (n + 30) → Kp a l H H' → Q (.ref q) H'
set_option maxHeartbeats 4000000 in
theorem ok__law_stays {P : Program} {w : World} {K : PySem.W.Frag} {mg : Str → Option Value} {base : Heap} (T : Txt K mg) : Com.Fn P w K mg base CX0 3 "_law_stays" ["_law_state_here", "_law_rooms_here", "_law_many", "_law_lag"] (sp__law_stays K) := by
  have G__law_draw := ok__law_draw (P := P) (w := w) (base := base) T
  obtain ⟨fd, F⟩ := T.F__law_stays
  refine ⟨He.ga K "_law_stays", fd, F.ok sc__law_stays (fun vs H Q E h => ?_) (fun cdv A outer s H vs Q E hr h => ?_), T.g__law_stays, F.kp, F.bindsN fun _ _ _ _ _ _ us hl => match us, hl with | [_, _, _, _], _ => rfl⟩
  · obtain ⟨_, _, _, _, rfl, _⟩ := h
    rfl
  · obtain ⟨a0, a1, a2, a3, rfl, h⟩ := h
    refine ⟨_, PSs.nox (pss_cons (ps_set (i := 4) sc__law_stays.nd rfl (by first | exact Or.inl rfl | exact Or.inr rfl) (pe_ix Com.qix_list (pe_lst (pa_cons pe_int (pa_cons pe_int (pa_cons pe_int (pa_cons pe_int pa_nil))))) (Com.pcall G__law_draw (hr.mono (by decide)) (by rfl) pass0 (pa_cons (pv 0) (pa_cons pe_int pa_nil))) (fun _ _ => rfl)))
      (pss_cons (ps_set (i := 5) sc__law_stays.nd rfl (by first | exact Or.inl rfl | exact Or.inr rfl) (pe_lst pa_nil))
      (pss_cons (ps_for PassesOwn.never rfl (pi_range1 (by rfl) T.b_range (pa_cons (pe_op op_add pe_int (Com.pcall G__law_draw (hr.mono (by decide)) (by rfl) pass0 (pa_cons (pv 0) (pa_cons (pv 4) pa_nil)))) pa_nil)) (pg_name (i := 6) sc__law_stays.nd rfl (by first | exact Or.inl rfl | exact Or.inr rfl)) (pss_cons (ps_set (i := 7) sc__law_stays.nd rfl (by first | exact Or.inl rfl | exact Or.inr rfl) (Com.pcall G__law_draw (hr.mono (by decide)) (by rfl) pass0 (pa_cons (pv 0) (pa_cons (pe_op op_add (pe_callB Com.qlen (by rfl) T.b_len (by decide +kernel) (pa_cons (pv 1) pa_nil)) pe_int) pa_nil))))
      (pss_cons (ps_set (i := 8) sc__law_stays.nd rfl (by first | exact Or.inl rfl | exact Or.inr rfl) pe_str)
      (Com.pss_cutJ (ps_if (pt_cmpR op_lt (pv 7) (pe_callB Com.qlen (by rfl) T.b_len (by decide +kernel) (pa_cons (pv 1) pa_nil)) (nomark _)) (pss_one (ps_set (i := 8) sc__law_stays.nd rfl (by first | exact Or.inl rfl | exact Or.inr rfl) (pe_ix Com.qix_list (pv 1) (pv 7) (fun _ _ => rfl)))) pss_nil)
      (pss_cons (ps_set (i := 9) sc__law_stays.nd rfl (by first | exact Or.inl rfl | exact Or.inr rfl) (pe_op op_add pe_int (Com.pcall G__law_draw (hr.mono (by decide)) (by rfl) pass0 (pa_cons (pv 0) (pa_cons (pv 2) pa_nil)))))
      (pss_one (ps_expr (pe_bm PySem.F.plainAttrs_list PySem.F.slot_list_append PySem.F.type_list_append mt_append (pv 5) (pa_cons (pe_tup (pa_cons (pv 8) (pa_cons (pv 9) (pa_cons (pe_op op_add (pv 9) (Com.pcall G__law_draw (hr.mono (by decide)) (by rfl) pass0 (pa_cons (pv 0) (pa_cons (pv 3) pa_nil)))) pa_nil)))) pa_nil)))))))))
      (pss_one (ps_ret (pv 5)))))), ?_⟩
    simp only [L2.start, List.map_cons, List.map_nil, List.length_cons, List.length_nil, List.cons_append, List.nil_append, Nat.reduceAdd, Nat.reduceSub, List.replicate_succ, List.replicate_zero]
    obtain ⟨a, l, c, p, n, zs, w', k, rfl, rfl, rfl, rfl, st, hn, pne, hp, lz, az, w1, w2, k1, k2, qk⟩ := h
    have B := big1000
    try simp only [Com.wp, Option.some.injEq, exists_eq_left', true_and, and_true, and_self, Int.reduceLT, Int.reduceLE, Int.reduceNeg, Int.reduceAdd, Int.reduceSub, Int.reducePow, Int.reduceToNat, Nat.reduceAdd, Nat.reduceLT, Nat.reduceLeDiff]
    intro p6 hp6
    try simp only [Com.wp, Option.some.injEq, exists_eq_left', true_and, and_true, and_self, Int.reduceLT, Int.reduceLE, Int.reduceNeg, Int.reduceAdd, Int.reduceSub, Int.reducePow, Int.reduceToNat, Nat.reduceAdd, Nat.reduceLT, Nat.reduceLeDiff]
    refine use_draw (st.newly hp6) (by omega) (by decide) (by decide) fun j H2 hj st2 kp2 => ?_
    have h6 := kp2.at (st.ne hp6) (upd_same (H := H))
    have kp2 := (Kp.refl.newly hp6).trans kp2
    have hcnt : ∃ m : Nat, atI [V.int 2, V.int 6, V.int 4, V.int 6] (j : Int) = some (.int (m : Int)) ∧ 1 ≤ m ∧ m ≤ 6 := by
      have hj : j = 0 ∨ j = 1 ∨ j = 2 ∨ j = 3 := by omega
      rcases hj with rfl | rfl | rfl | rfl
      · exact ⟨2, atI_of rfl, by decide, by decide⟩
      · exact ⟨6, atI_of rfl, by decide, by decide⟩
      · exact ⟨4, atI_of rfl, by decide, by decide⟩
      · exact ⟨6, atI_of rfl, by decide, by decide⟩
    obtain ⟨m, hm, m1, m6⟩ := hcnt
    try simp only [Com.wp, Option.some.injEq, exists_eq_left', true_and, and_true, and_self, Int.reduceLT, Int.reduceLE, Int.reduceNeg, Int.reduceAdd, Int.reduceSub, Int.reducePow, Int.reduceToNat, Nat.reduceAdd, Nat.reduceLT, Nat.reduceLeDiff, h6]
    refine ⟨_, hm, ?_⟩
    intro q hq
    have qne := st2.ne hq
    have hqH : H q = none := kp2.free st hq qne
    have qp : q ≠ p := (ne_of_none (kp2.at pne hp) hq).symm
    try simp only [Com.wp, Option.some.injEq, exists_eq_left', true_and, and_true, and_self, Int.reduceLT, Int.reduceLE, Int.reduceNeg, Int.reduceAdd, Int.reduceSub, Int.reducePow, Int.reduceToNat, Nat.reduceAdd, Nat.reduceLT, Nat.reduceLeDiff]
    refine use_draw (st2.newly hq) (by omega) (by omega) (by have : (6 : Int) < 2 ^ 1000 := by decide
                                                             omega) fun t H3 ht st3 kp3 => ?_
    have h3 := kp3.at qne (upd_same (H := H2))
    have kp3 := (kp2.newly hq).trans kp3
    try simp only [Com.wp, Option.some.injEq, exists_eq_left', true_and, and_true, and_self, Int.reduceLT, Int.reduceLE, Int.reduceNeg, Int.reduceAdd, Int.reduceSub, Int.reducePow, Int.reduceToNat, Nat.reduceAdd, Nat.reduceLT, Nat.reduceLeDiff]
    refine ⟨by omega, by omega, ?_⟩
    refine Com.loopR (fun i s2 H4 => ∃ (vs : List V) (ss : List Rw) (x6 x7 x8 x9 : Option V), s2 = [some (.ref a), some (.ref p), some (.int w'), some (.int k), some (.int m), some (.ref q), x6, x7, x8, x9] ∧ H4 q = some (.lst vs) ∧ ObsAt rwV H4 vs ss ∧ ss.length = i ∧ (∀ s ∈ ss, StayOk w' k s) ∧ StAt H4 a l c (n + 2 + 3 * i) ∧ Kp a l H H4)
      ⟨[], [], _, _, _, _, rfl, h3, ObsAt.nil, rfl, by simp, st3, kp3⟩ ?_ ?_
    · rintro i s2 H4 hi ⟨vs, ss, x6, x7, x8, x9, rfl, h4, os, ls, as, st4, kp4⟩
      have hi6 : i < 6 := by omega
      have hp4 := kp4.at pne hp
      try simp only [Com.wp, Option.some.injEq, exists_eq_left', true_and, and_true, and_self, Int.reduceLT, Int.reduceLE, Int.reduceNeg, Int.reduceAdd, Int.reduceSub, Int.reducePow, Int.reduceToNat, Nat.reduceAdd, Nat.reduceLT, Nat.reduceLeDiff, hp4, List.length_map]
      refine use_draw st4 (by omega) (by omega) (by have : (101 : Int) < 2 ^ 1000 := by decide
                                                    omega) fun at_ H5 hat st5 kp5 => ?_
      have hp5 := kp5.at pne hp4
      try simp only [Com.wp, Option.some.injEq, exists_eq_left', true_and, and_true, and_self, Int.reduceLT, Int.reduceLE, Int.reduceNeg, Int.reduceAdd, Int.reduceSub, Int.reducePow, Int.reduceToNat, Nat.reduceAdd, Nat.reduceLT, Nat.reduceLeDiff]
      refine ⟨fun s3 H6 => H6 = H5 ∧ ∃ z : Str, s3 = [some (.ref a), some (.ref p), some (.int w'), some (.int k), some (.int m), some (.ref q), some (.int (0 + (i : Int))), some (.int at_), some (.str z), x9] ∧ nameC z.cps.toList = true, ?_, ?_⟩
      · try simp only [Com.wp, Option.some.injEq, exists_eq_left', true_and, and_true, and_self, Int.reduceLT, Int.reduceLE, Int.reduceNeg, Int.reduceAdd, Int.reduceSub, Int.reducePow, Int.reduceToNat, Nat.reduceAdd, Nat.reduceLT, Nat.reduceLeDiff, hp5, List.length_map]
        refine Com.ifk (fun hc => ?_) (fun hc => ?_)
        · have hc : at_ < zs.length := by simpa using hc
          have hz : (zs.map V.str)[at_]? = some (V.str zs[at_]) := by rw [List.getElem?_map, List.getElem?_eq_getElem hc]; rfl
          try simp only [Com.wp, Option.some.injEq, exists_eq_left', true_and, and_true, and_self, Int.reduceLT, Int.reduceLE, Int.reduceNeg, Int.reduceAdd, Int.reduceSub, Int.reducePow, Int.reduceToNat, Nat.reduceAdd, Nat.reduceLT, Nat.reduceLeDiff, hp5]
          exact ⟨_, atI_of hz, _, rfl, az _ (List.getElem_mem hc)⟩
        · try simp only [Com.wp, Option.some.injEq, exists_eq_left', true_and, and_true, and_self, Int.reduceLT, Int.reduceLE, Int.reduceNeg, Int.reduceAdd, Int.reduceSub, Int.reducePow, Int.reduceToNat, Nat.reduceAdd, Nat.reduceLT, Nat.reduceLeDiff]
          exact ⟨_, rfl, hall_name⟩
      · rintro s3 H6 ⟨rfl, z, rfl, nz⟩
        try simp only [Com.wp, Option.some.injEq, exists_eq_left', true_and, and_true, and_self, Int.reduceLT, Int.reduceLE, Int.reduceNeg, Int.reduceAdd, Int.reduceSub, Int.reducePow, Int.reduceToNat, Nat.reduceAdd, Nat.reduceLT, Nat.reduceLeDiff]
        refine use_draw st5 (by omega) w1 (by omega) fun d H7 hd st7 kp7 => ?_
        have h7 := (kp5.trans kp7).at qne h4
        try simp only [Com.wp, Option.some.injEq, exists_eq_left', true_and, and_true, and_self, Int.reduceLT, Int.reduceLE, Int.reduceNeg, Int.reduceAdd, Int.reduceSub, Int.reducePow, Int.reduceToNat, Nat.reduceAdd, Nat.reduceLT, Nat.reduceLeDiff, h7]
        refine use_draw st7 (by omega) k1 (by omega) fun e H8 he st8 kp8 => ?_
        have kp57 := kp5.trans (kp7.trans kp8)
        have h8 := kp57.at qne h4
        have os8 := os.mono (kp_tx st4 kp57)
        try simp only [Com.wp, Option.some.injEq, exists_eq_left', true_and, and_true, and_self, Int.reduceLT, Int.reduceLE, Int.reduceNeg, Int.reduceAdd, Int.reduceSub, Int.reducePow, Int.reduceToNat, Nat.reduceAdd, Nat.reduceLT, Nat.reduceLeDiff]
        intro t' ht'
        have t'q : t' ≠ q := (ne_of_none h8 ht').symm
        try simp only [Com.wp, Option.some.injEq, exists_eq_left', true_and, and_true, and_self, Int.reduceLT, Int.reduceLE, Int.reduceNeg, Int.reduceAdd, Int.reduceSub, Int.reducePow, Int.reduceToNat, Nat.reduceAdd, Nat.reduceLT, Nat.reduceLeDiff, h8, ht']
        have h9 : upd H8 t' (.tup [.str z, .int (1 + (d : Int)), .int (1 + (d : Int) + (e : Int))]) q = some (.lst vs) := by rw [upd_ne t'q.symm]; exact h8
        refine ⟨line_lt (by have := os.1; omega), _, ss ++ [(z, 1 + (d : Int), 1 + (d : Int) + (e : Int))], _, _, _, _, rfl, rfl, ?_, by rw [List.length_append, ls]; rfl, ?_, ((st8.newly ht').write qne).mono (by omega), ((kp4.trans kp57).newly ht').write hqH⟩
        · exact (os8.mono ((Tx.refl.new ht').lst h9)).snoc (by rw [upd_ne t'q]; exact upd_same)
        · intro y hy
          rcases List.mem_append.mp hy with hy | hy
          · exact as y hy
          · cases List.mem_singleton.mp hy
            exact ⟨nz, by show (1 : Int) ≤ 1 + (d : Int); omega, by show (1 : Int) + d ≤ 1 + d + e; omega, by show (1 : Int) + d ≤ w'; omega, by show (1 : Int) + d + e < 1 + d + k; omega⟩
    · rintro s2 H4 ⟨vs, ss, x6, x7, x8, x9, rfl, h4, os, ls, as, st4, kp4⟩
      try simp only [Com.wp, Option.some.injEq, exists_eq_left', true_and, and_true, and_self, Int.reduceLT, Int.reduceLE, Int.reduceNeg, Int.reduceAdd, Int.reduceSub, Int.reducePow, Int.reduceToNat, Nat.reduceAdd, Nat.reduceLT, Nat.reduceLeDiff]
      exact qk q vs ss H4 hqH h4 os (by omega) (by omega) as (st4.mono (by omega)) kp4
-- _law_lengths
def sp__law_lengths (_ : PySem.W.Frag) : Sp := Com.Sp2 fun x y H Q _ => ∃ (a l c p : Addr) (n : Nat) (vs : List V) (ss : List Rw), x = .ref a ∧ y = .ref p ∧ StAt H a l c n ∧ n < 800000 ∧ (p ≠ a ∧ p ≠ l ∧ p ≠ c) ∧ H p = some (.lst vs) ∧ ObsAt rwV H vs ss ∧ ss.length ≤ 1000 ∧ (∀ s ∈ ss, s.2.1 ≤ s.2.2 ∧ s.2.2 < s.2.1 + 2 ^ 900) ∧
  ∀ (q : Addr) (ls : List Int) H', H q = none → H' q = some (.lst (ls.map V.int)) → LenOk ss ls → StAt H' a l c (n + 2 * ss.length) → Kp a l H H' → Q (.ref q) H'
set_option maxHeartbeats 4000000 in
theorem ok__law_lengths {P : Program} {w : World} {K : PySem.W.Frag} {mg : Str → Option Value} {base : Heap} (T : Txt K mg) : Com.Fn P w K mg base CX0 3 "_law_lengths" ["_law_state_here", "_law_stays_here"] (sp__law_lengths K) := by
  have G__law_draw := ok__law_draw (P := P) (w := w) (base := base) T
  obtain ⟨fd, F⟩ := T.F__law_lengths
  refine ⟨He.ga K "_law_lengths", fd, F.ok sc__law_lengths (fun vs H Q E h => ?_) (fun cdv A outer s H vs Q E hr h => ?_), T.g__law_lengths, F.kp, F.bindsN fun _ _ _ _ _ _ us hl => match us, hl with | [_, _], _ => rfl⟩
  · obtain ⟨_, _, rfl, _⟩ := h
    rfl
  · obtain ⟨a0, a1, rfl, h⟩ := h
    refine ⟨_, PSs.nox (pss_cons (ps_set (i := 2) sc__law_lengths.nd rfl (by first | exact Or.inl rfl | exact Or.inr rfl) (pe_lst pa_nil))
      (pss_cons (ps_for PassesOwn.never rfl (pi_list (pv 1)) (pg_name (i := 3) sc__law_lengths.nd rfl (by first | exact Or.inl rfl | exact Or.inr rfl)) (pss_cons (ps_set (i := 4) sc__law_lengths.nd rfl (by first | exact Or.inl rfl | exact Or.inr rfl) (Com.pcall G__law_draw (hr.mono (by decide)) (by rfl) pass0 (pa_cons (pv 0) (pa_cons pe_int pa_nil))))
      (pss_cons (ps_set (i := 5) sc__law_lengths.nd rfl (by first | exact Or.inl rfl | exact Or.inr rfl) (pe_ix Com.qix_tup (pv 3) pe_int (fun _ _ => rfl)))
      (Com.pss_cutJ (ps_if (pt_cmpR op_eq (pv 4) pe_int (nomark _)) (pss_one (ps_set (i := 5) sc__law_lengths.nd rfl (by first | exact Or.inl rfl | exact Or.inr rfl) (pe_ix Com.qix_tup (pv 3) pe_int (fun _ _ => rfl)))) pss_nil)
      (Com.pss_cutJ (ps_if (pt_cmpR op_gt (pv 4) pe_int (nomark _)) (pss_one (ps_set (i := 5) sc__law_lengths.nd rfl (by first | exact Or.inl rfl | exact Or.inr rfl) (pe_op op_add (pe_ix Com.qix_tup (pv 3) pe_int (fun _ _ => rfl)) (Com.pcall G__law_draw (hr.mono (by decide)) (by rfl) pass0 (pa_cons (pv 0) (pa_cons (pe_op op_add (pe_op op_sub (pe_ix Com.qix_tup (pv 3) pe_int (fun _ _ => rfl)) (pe_ix Com.qix_tup (pv 3) pe_int (fun _ _ => rfl))) pe_int) pa_nil)))))) pss_nil)
      (pss_one (ps_expr (pe_bm PySem.F.plainAttrs_list PySem.F.slot_list_append PySem.F.type_list_append mt_append (pv 2) (pa_cons (pv 5) pa_nil)))))))))
      (pss_one (ps_ret (pv 2))))), ?_⟩
    simp only [L2.start, List.map_cons, List.map_nil, List.length_cons, List.length_nil, List.cons_append, List.nil_append, Nat.reduceAdd, Nat.reduceSub, List.replicate_succ, List.replicate_zero]
    obtain ⟨a, l, c, p, n, vs, ss, rfl, rfl, st, hn, pne, hp, os, lss, as, qk⟩ := h
    have B := big1000
    try simp only [Com.wp, Option.some.injEq, exists_eq_left', true_and, and_true, and_self, Int.reduceLT, Int.reduceLE, Int.reduceNeg, Int.reduceAdd, Int.reduceSub, Int.reducePow, Int.reduceToNat, Nat.reduceAdd, Nat.reduceLT, Nat.reduceLeDiff]
    intro q hq
    have qne := st.ne hq
    have qp : q ≠ p := (ne_of_none hp hq).symm
    have hp1 : upd H q (.lst []) p = some (.lst vs) := by rw [upd_ne qp.symm]; exact hp
    try simp only [Com.wp, Option.some.injEq, exists_eq_left', true_and, and_true, and_self, Int.reduceLT, Int.reduceLE, Int.reduceNeg, Int.reduceAdd, Int.reduceSub, Int.reducePow, Int.reduceToNat, Nat.reduceAdd, Nat.reduceLT, Nat.reduceLeDiff, hp, hq]
    refine Com.loopL vs (fun i s2 H4 => ∃ (ls : List Int) (x3 x4 x5 : Option V), s2 = [some (.ref a), some (.ref p), some (.ref q), x3, x4, x5] ∧ H4 q = some (.lst (ls.map V.int)) ∧ LenOk (ss.take i) ls ∧ ls.length = i ∧ StAt H4 a l c (n + 2 * i) ∧ Kp a l H H4)
      ⟨[], _, _, _, rfl, upd_same, ⟨rfl, fun i s d e => by simp at e⟩, rfl, st.newly hq, Kp.refl.newly hq⟩ (fun i s2 H4 ⟨_, _, _, _, _, _, _, _, _, kp⟩ => kp.at pne hp) ?_ ?_
    · rintro i x s2 H4 hi hx ⟨ls, x3, x4, x5, rfl, h4, lo, ll, st4, kp4⟩
      obtain ⟨s, t, hs, rfl, ht⟩ := os.get hx
      have ht : H t = some (.tup [.str s.1, .int s.2.1, .int s.2.2]) := ht
      have ht4 := kp_tx st kp4 _ _ ht
      obtain ⟨s1, s2⟩ := as s (List.mem_of_getElem? hs)
      have hi' : i < 1000 := by have := os.1; omega
      try simp only [Com.wp, Option.some.injEq, exists_eq_left', true_and, and_true, and_self, Int.reduceLT, Int.reduceLE, Int.reduceNeg, Int.reduceAdd, Int.reduceSub, Int.reducePow, Int.reduceToNat, Nat.reduceAdd, Nat.reduceLT, Nat.reduceLeDiff]
      refine use_draw st4 (by omega) (by decide) (by decide) fun way H5 hw st5 kp5 => ?_
      have ht5 := kp_tx st4 kp5 _ _ ht4
      try simp only [Com.wp, Option.some.injEq, exists_eq_left', true_and, and_true, and_self, Int.reduceLT, Int.reduceLE, Int.reduceNeg, Int.reduceAdd, Int.reduceSub, Int.reducePow, Int.reduceToNat, Nat.reduceAdd, Nat.reduceLT, Nat.reduceLeDiff, ht5]
      refine ⟨fun s3 H6 => H6 = H5 ∧ ∃ d : Int, s3 = [some (.ref a), some (.ref p), some (.ref q), some (.ref t), some (.int way), some (.int d)] ∧ s.2.1 ≤ d ∧ d ≤ s.2.2, ?_, ?_⟩
      · try simp only [Com.wp, Option.some.injEq, exists_eq_left', true_and, and_true, and_self, Int.reduceLT, Int.reduceLE, Int.reduceNeg, Int.reduceAdd, Int.reduceSub, Int.reducePow, Int.reduceToNat, Nat.reduceAdd, Nat.reduceLT, Nat.reduceLeDiff]
        refine Com.ifk (fun _ => ?_) (fun _ => ?_)
        · try simp only [Com.wp, Option.some.injEq, exists_eq_left', true_and, and_true, and_self, Int.reduceLT, Int.reduceLE, Int.reduceNeg, Int.reduceAdd, Int.reduceSub, Int.reducePow, Int.reduceToNat, Nat.reduceAdd, Nat.reduceLT, Nat.reduceLeDiff, ht5]
          exact ⟨_, rfl, s1, Int.le_refl _⟩
        · try simp only [Com.wp, Option.some.injEq, exists_eq_left', true_and, and_true, and_self, Int.reduceLT, Int.reduceLE, Int.reduceNeg, Int.reduceAdd, Int.reduceSub, Int.reducePow, Int.reduceToNat, Nat.reduceAdd, Nat.reduceLT, Nat.reduceLeDiff]
          exact ⟨_, rfl, Int.le_refl _, s1⟩
      · rintro s3 H6 ⟨rfl, d, rfl, d1, d2⟩
        refine ⟨fun s3 H6 => ∃ d : Int, s3 = [some (.ref a), some (.ref p), some (.ref q), some (.ref t), some (.int way), some (.int d)] ∧ s.2.1 ≤ d ∧ d ≤ s.2.2 ∧ StAt H6 a l c (n + 2 * i + 2) ∧ Kp a l H4 H6, ?_, ?_⟩
        · try simp only [Com.wp, Option.some.injEq, exists_eq_left', true_and, and_true, and_self, Int.reduceLT, Int.reduceLE, Int.reduceNeg, Int.reduceAdd, Int.reduceSub, Int.reducePow, Int.reduceToNat, Nat.reduceAdd, Nat.reduceLT, Nat.reduceLeDiff]
          refine Com.ifk (fun _ => ?_) (fun _ => ?_)
          · try simp only [Com.wp, Option.some.injEq, exists_eq_left', true_and, and_true, and_self, Int.reduceLT, Int.reduceLE, Int.reduceNeg, Int.reduceAdd, Int.reduceSub, Int.reducePow, Int.reduceToNat, Nat.reduceAdd, Nat.reduceLT, Nat.reduceLeDiff, ht5]
            refine use_draw st5 (by omega) (by omega) (by omega) fun e H7 he st7 kp7 => ?_
            try simp only [Com.wp, Option.some.injEq, exists_eq_left', true_and, and_true, and_self, Int.reduceLT, Int.reduceLE, Int.reduceNeg, Int.reduceAdd, Int.reduceSub, Int.reducePow, Int.reduceToNat, Nat.reduceAdd, Nat.reduceLT, Nat.reduceLeDiff]
            exact ⟨_, rfl, by omega, by omega, st7, kp5.trans kp7⟩
          · try simp only [Com.wp, Option.some.injEq, exists_eq_left', true_and, and_true, and_self, Int.reduceLT, Int.reduceLE, Int.reduceNeg, Int.reduceAdd, Int.reduceSub, Int.reducePow, Int.reduceToNat, Nat.reduceAdd, Nat.reduceLT, Nat.reduceLeDiff]
            exact ⟨_, rfl, d1, d2, st5.mono (by omega), kp5⟩
        · rintro s3 H7 ⟨d, rfl, d1, d2, st7, kp7⟩
          have h7 := kp7.at qne h4
          try simp only [Com.wp, Option.some.injEq, exists_eq_left', true_and, and_true, and_self, Int.reduceLT, Int.reduceLE, Int.reduceNeg, Int.reduceAdd, Int.reduceSub, Int.reducePow, Int.reduceToNat, Nat.reduceAdd, Nat.reduceLT, Nat.reduceLeDiff, h7, List.length_map]
          refine ⟨line_lt (by omega), ls ++ [d], _, _, _, rfl, by rw [List.map_append]; rfl, lo.snoc hs ⟨d1, d2⟩, by rw [List.length_append, ll]; rfl, (st7.write qne).mono (by omega), (kp4.trans kp7).write hq⟩
    · rintro s2 H4 ⟨ls, x3, x4, x5, rfl, h4, lo, ll, st4, kp4⟩
      try simp only [Com.wp, Option.some.injEq, exists_eq_left', true_and, and_true, and_self, Int.reduceLT, Int.reduceLE, Int.reduceNeg, Int.reduceAdd, Int.reduceSub, Int.reducePow, Int.reduceToNat, Nat.reduceAdd, Nat.reduceLT, Nat.reduceLeDiff]
      rw [os.1, List.take_length] at lo
      rw [os.1] at st4
      exact qk q ls H4 hq h4 lo st4 kp4
-- _law_signed
def sp__law_signed (_ : PySem.W.Frag) : Sp := Com.Sp2 fun x m H Q _ => ∃ (a l c : Addr) (n : Nat) (k : Int), x = .ref a ∧ m = .int k ∧ StAt H a l c n ∧ n < 900000 ∧ 0 ≤ k ∧ k < 2 ^ 900 ∧ ∀ (d : Int) H', -k ≤ d → d ≤ k → StAt H' a l c (n + 2) → Kp a l H H' → Q (.int d) H'
theorem use_signed {K : PySem.W.Frag} {a l c : Addr} {n : Nat} {k : Int} {H : Hp} {Q : VK} {E : XK} (st : StAt H a l c n) (hn : n < 900000) (hk : 0 ≤ k) (hk2 : k < 2 ^ 900)
    (q : ∀ (d : Int) H', -k ≤ d → d ≤ k → StAt H' a l c (n + 2) → Kp a l H H' → Q (.int d) H') : sp__law_signed K [.ref a, .int k] H Q E := ⟨_, _, rfl, a, l, c, n, k, rfl, rfl, st, hn, hk, hk2, q⟩
set_option maxHeartbeats 4000000 in
theorem ok__law_signed {P : Program} {w : World} {K : PySem.W.Frag} {mg : Str → Option Value} {base : Heap} (T : Txt K mg) : Com.Fn P w K mg base CX0 3 "_law_signed" ["_law_state_here", "_law_many"] (sp__law_signed K) := by
  have G__law_draw := ok__law_draw (P := P) (w := w) (base := base) T
  obtain ⟨fd, F⟩ := T.F__law_signed
  refine ⟨He.ga K "_law_signed", fd, F.ok sc__law_signed (fun vs H Q E h => ?_) (fun cdv A outer s H vs Q E hr h => ?_), T.g__law_signed, F.kp, F.bindsN fun _ _ _ _ _ _ us hl => match us, hl with | [_, _], _ => rfl⟩
  · obtain ⟨_, _, rfl, _⟩ := h
    rfl
  · obtain ⟨a0, a1, rfl, h⟩ := h
    refine ⟨_, PSs.nox (pss_cons (ps_set (i := 2) sc__law_signed.nd rfl (by first | exact Or.inl rfl | exact Or.inr rfl) (Com.pcall G__law_draw (hr.mono (by decide)) (by rfl) pass0 (pa_cons (pv 0) (pa_cons (pe_op op_add (pv 1) pe_int) pa_nil))))
      (pss_cons (ps_if (pt_cmpR op_eq (Com.pcall G__law_draw (hr.mono (by decide)) (by rfl) pass0 (pa_cons (pv 0) (pa_cons pe_int pa_nil))) pe_int (nomark _)) (pss_one (ps_ret (pe_un un_neg (pv 2)))) pss_nil)
      (pss_one (ps_ret (pv 2))))), ?_⟩
    simp only [L2.start, List.map_cons, List.map_nil, List.length_cons, List.length_nil, List.cons_append, List.nil_append, Nat.reduceAdd, Nat.reduceSub, List.replicate_succ, List.replicate_zero]
    obtain ⟨a, l, c, n, k, rfl, rfl, st, hn, hk, hk2, q⟩ := h
    try simp only [Com.wp, Option.some.injEq, exists_eq_left', true_and, and_true, and_self, Int.reduceLT, Int.reduceLE, Int.reduceNeg, Int.reduceAdd, Int.reduceSub, Int.reducePow, Int.reduceToNat, Nat.reduceAdd, Nat.reduceLT, Nat.reduceLeDiff]
    refine use_draw st (by omega) (by omega) (by have : (2 : Int) ^ 900 + 1 < 2 ^ 1000 := by decide
                                                 omega) fun j H1 hj st1 kp1 => ?_
    try simp only [Com.wp, Option.some.injEq, exists_eq_left', true_and, and_true, and_self, Int.reduceLT, Int.reduceLE, Int.reduceNeg, Int.reduceAdd, Int.reduceSub, Int.reducePow, Int.reduceToNat, Nat.reduceAdd, Nat.reduceLT, Nat.reduceLeDiff]
    refine use_draw st1 (by omega) (by decide) (by decide) fun b H2 hb st2 kp2 => ?_
    try simp only [Com.wp, Option.some.injEq, exists_eq_left', true_and, and_true, and_self, Int.reduceLT, Int.reduceLE, Int.reduceNeg, Int.reduceAdd, Int.reduceSub, Int.reducePow, Int.reduceToNat, Nat.reduceAdd, Nat.reduceLT, Nat.reduceLeDiff]
    refine Com.ifk (fun _ => ?_) (fun _ => ?_)
    · try simp only [Com.wp, Option.some.injEq, exists_eq_left', true_and, and_true, and_self, Int.reduceLT, Int.reduceLE, Int.reduceNeg, Int.reduceAdd, Int.reduceSub, Int.reducePow, Int.reduceToNat, Nat.reduceAdd, Nat.reduceLT, Nat.reduceLeDiff]
      exact q _ _ (by omega) (by omega) st2 (kp1.trans kp2)
    · try simp only [Com.wp, Option.some.injEq, exists_eq_left', true_and, and_true, and_self, Int.reduceLT, Int.reduceLE, Int.reduceNeg, Int.reduceAdd, Int.reduceSub, Int.reducePow, Int.reduceToNat, Nat.reduceAdd, Nat.reduceLT, Nat.reduceLeDiff]
      exact q _ _ (by omega) (by omega) st2 (kp1.trans kp2)
def rowK (ss : List Rw) (ls : List Int) (e : Int) (k : Nat) : Rw := ((ss.map (·.1)).getD k noS, e + (ls.take k).sum, e + (ls.take k).sum + ls.getD k 0)
def walkR (ss : List Rw) (ls : List Int) (e : Int) : List Rw := (List.range ss.length).map (rowK ss ls e)
structure WalkOk (rs : List Rw) : Prop where
  go : ∀ r ∈ rs, r.2.1 < r.2.2 ∧ r.1 ≠ noS
  tx : ∀ r ∈ rs, PyData.strOk r.1 = true
  one : ∀ r ∈ rs, ∀ s ∈ rs, ∀ m, inn r m → inn s m → r = s
theorem sum_take_le : ∀ (ls : List Int), (∀ d ∈ ls, 0 ≤ d) → ∀ i j : Nat, i ≤ j → (ls.take i).sum ≤ (ls.take j).sum
  | [], _, i, j, _ => by simp
  | d :: ls, h, 0, j, _ => by
    have : ∀ (l : List Int), (∀ d ∈ l, 0 ≤ d) → 0 ≤ l.sum := fun l => by
      induction l with
      | nil => intro _; simp
      | cons x l ih =>
        intro h
        rw [List.sum_cons]
        have := h x (by simp)
        have := ih fun d hd => h d (by simp [hd])
        omega
    simp only [List.take_zero, List.sum_nil]
    exact this _ fun x hx => h x (List.mem_of_mem_take hx)
  | d :: ls, h, i + 1, 0, hij => by omega
  | d :: ls, h, i + 1, j + 1, hij => by
    have := sum_take_le ls (fun x hx => h x (by simp [hx])) i j (by omega)
    simp only [List.take_succ_cons, List.sum_cons]
    omega
theorem walk_ok {ss : List Rw} {ls : List Int} {e : Int} (h : LenOk ss ls) (hs : ∀ s ∈ ss, 1 ≤ s.2.1 ∧ s.1 ≠ noS ∧ PyData.strOk s.1 = true) : WalkOk (walkR ss ls e) := by
  have pos : ∀ d ∈ ls, 1 ≤ d := fun d hd => by
    obtain ⟨i, hi, rfl⟩ := List.getElem_of_mem hd
    have hi' : i < ss.length := by rw [← h.1]; exact hi
    have := (h.2 i ss[i] ls[i] (List.getElem?_eq_getElem hi') (List.getElem?_eq_getElem hi)).1
    have := (hs _ (List.getElem_mem hi')).1
    omega
  have nx : ∀ k, k < ss.length → ∃ d, ls.getD k 0 = d ∧ 1 ≤ d ∧ (ls.take (k + 1)).sum = (ls.take k).sum + d := fun k hk => by
    have hk' : k < ls.length := by rw [h.1]; exact hk
    refine ⟨ls[k], by simp [List.getD, List.getElem?_eq_getElem hk'], pos _ (List.getElem_mem hk'), ?_⟩
    rw [take_succ_at (List.getElem?_eq_getElem hk'), List.sum_append]
    simp
  refine ⟨fun r hr => ?_, fun r hr => ?_, fun r hr s hs' m i1 i2 => ?_⟩
  · obtain ⟨k, hk, rfl⟩ := List.mem_map.mp hr
    have hk := List.mem_range.mp hk
    obtain ⟨d, e1, e2, _⟩ := nx k hk
    refine ⟨?_, ?_⟩
    · show e + (ls.take k).sum < e + (ls.take k).sum + ls.getD k 0
      omega
    · show (ss.map (·.1)).getD k noS ≠ noS
      rw [List.getD, List.getElem?_map, List.getElem?_eq_getElem hk]
      exact (hs _ (List.getElem_mem hk)).2.1
  · obtain ⟨k, hk, rfl⟩ := List.mem_map.mp hr
    have hk := List.mem_range.mp hk
    show PyData.strOk ((ss.map (·.1)).getD k noS) = true
    rw [List.getD, List.getElem?_map, List.getElem?_eq_getElem hk]
    exact (hs _ (List.getElem_mem hk)).2.2
  · obtain ⟨j, hj, rfl⟩ := List.mem_map.mp hr
    obtain ⟨k, hk, rfl⟩ := List.mem_map.mp hs'
    have hj := List.mem_range.mp hj
    have hk := List.mem_range.mp hk
    obtain ⟨d, e1, e2, e3⟩ := nx j hj
    obtain ⟨d', f1, f2, f3⟩ := nx k hk
    obtain ⟨a1, a2⟩ : e + (ls.take j).sum ≤ m ∧ m < e + (ls.take j).sum + ls.getD j 0 := i1
    obtain ⟨b1, b2⟩ : e + (ls.take k).sum ≤ m ∧ m < e + (ls.take k).sum + ls.getD k 0 := i2
    have nn : ∀ d ∈ ls, 0 ≤ d := fun d hd => by have := pos d hd; omega
    rcases Nat.lt_trichotomy j k with hjk | rfl | hjk
    · have := sum_take_le ls nn (j + 1) k (by omega)
      omega
    · rfl
    · have := sum_take_le ls nn (k + 1) j (by omega)
      omega
def roomF : List Rw → Int → Str
  | [], _ => noS
  | r :: rs, m => if r.2.1 ≤ m ∧ m < r.2.2 then r.1 else roomF rs m
theorem room_of {rs : List Rw} {r : Rw} {m : Int} (w : WalkOk rs) (hr : r ∈ rs) (hi : inn r m) : roomF rs m = r.1 := by
  have key : ∀ l : List Rw, (∀ s ∈ l, inn s m → s = r) → r ∈ l → roomF l m = r.1 := fun l => by
    induction l with
    | nil => intro _ h; cases h
    | cons s l ih =>
      intro h1 h2
      show (if s.2.1 ≤ m ∧ m < s.2.2 then s.1 else roomF l m) = r.1
      by_cases hc : s.2.1 ≤ m ∧ m < s.2.2
      · rw [if_pos hc, h1 s (by simp) hc]
      · rw [if_neg hc]
        rcases List.mem_cons.mp h2 with rfl | h2
        · exact absurd hi hc
        · exact ih (fun s hs => h1 s (by simp [hs])) h2
  exact key rs (fun s hs i => w.one s hs r hr m i hi) hr
theorem of_room : ∀ {rs : List Rw} {m : Int}, roomF rs m ≠ noS → ∃ r ∈ rs, inn r m ∧ roomF rs m = r.1
  | [], m, h => absurd rfl h
  | s :: l, m, h => by
    show ∃ r ∈ s :: l, inn r m ∧ (if s.2.1 ≤ m ∧ m < s.2.2 then s.1 else roomF l m) = r.1
    have h' : (if s.2.1 ≤ m ∧ m < s.2.2 then s.1 else roomF l m) ≠ noS := h
    by_cases hc : s.2.1 ≤ m ∧ m < s.2.2
    · exact ⟨s, by simp, hc, by rw [if_pos hc]⟩
    · rw [if_neg hc] at h' ⊢
      obtain ⟨r, hr, e⟩ := of_room h'
      exact ⟨r, by simp [hr], e⟩
/-- both are in the room z at m -/
def MeetAt (rs ss : List Rw) (m : Int) (z : Str) : Prop := roomF rs m = z ∧ z ≠ noS ∧ z ≠ hallS ∧ z = roomF ss m
theorem meet_of {rs ss : List Rw} {r s : Rw} (w1 : WalkOk rs) (w2 : WalkOk ss) (hr : r ∈ rs) (hs : s ∈ ss) (h : hit r s) : MeetAt rs ss (max r.2.1 s.2.1) r.1 := by
  have a := (w1.go r hr)
  have b := (w2.go s hs)
  obtain ⟨h1, h2, h3, h4⟩ := h
  have i1 : inn r (max r.2.1 s.2.1) := ⟨by omega, by omega⟩
  have i2 : inn s (max r.2.1 s.2.1) := ⟨by omega, by omega⟩
  exact ⟨room_of w1 hr i1, a.2, h2, by rw [room_of w2 hs i2, h1]⟩
theorem hit_of {rs ss : List Rw} {m : Int} {z : Str} (h : MeetAt rs ss m z) : ∃ r ∈ rs, ∃ s ∈ ss, hit r s ∧ max r.2.1 s.2.1 ≤ m := by
  obtain ⟨h1, h2, h3, h4⟩ := h
  obtain ⟨r, hr, i1, e1⟩ := of_room (show roomF rs m ≠ noS by rw [h1]; exact h2)
  obtain ⟨s, hs, i2, e2⟩ := of_room (show roomF ss m ≠ noS by rw [← h4]; exact h2)
  obtain ⟨a1, a2⟩ := i1
  obtain ⟨b1, b2⟩ := i2
  exact ⟨r, hr, s, hs, ⟨by rw [← e1, ← e2, h1, h4], by rw [← e1, h1]; exact h3, by omega, by omega⟩, by omega⟩
def enters (rs ss : List Rw) : List Int := (rs ++ ss).map (·.2.1)
/-- what the law reckons: the first of the moments of entry at which both are in one room -/
def DueAt (H : Hp) (v : V) (rs ss : List Rw) : Prop := (v = .non ∧ ∀ m ∈ enters rs ss, ∀ z, ¬ MeetAt rs ss m z) ∨
  ∃ (t : Addr) (m : Int) (z : Str), v = .ref t ∧ H t = some (.tup [.int m, .str z]) ∧ m ∈ enters rs ss ∧ MeetAt rs ss m z ∧ ∀ m' ∈ enters rs ss, m' < m → ∀ z, ¬ MeetAt rs ss m' z
theorem due_best {rs ss : List Rw} (w1 : WalkOk rs) (w2 : WalkOk ss) {m m1 : Int} {z z1 : Str}
    (b : ∃ r s, (r ∈ rs ∧ s ∈ ss) ∧ hit r s ∧ m1 = max r.2.1 s.2.1 ∧ z1 = r.1) (b2 : ∀ r s, (r ∈ rs ∧ s ∈ ss) → hit r s → m1 ≤ max r.2.1 s.2.1)
    (d1 : MeetAt rs ss m z) (d2 : ∀ m' ∈ enters rs ss, m' < m → ∀ z, ¬ MeetAt rs ss m' z) : m1 = m ∧ z1 = z := by
  obtain ⟨r, s, ⟨hr, hs⟩, hh, rfl, rfl⟩ := b
  have me := meet_of w1 w2 hr hs hh
  obtain ⟨r', hr', s', hs', hh', le⟩ := hit_of d1
  have l1 := b2 r' s' ⟨hr', hs'⟩ hh'
  have mem : max r.2.1 s.2.1 ∈ enters rs ss := by
    unfold enters
    rw [List.map_append, List.mem_append]
    rcases Int.le_total r.2.1 s.2.1 with h | h
    · rw [Int.max_eq_right h]; exact .inr (List.mem_map.mpr ⟨s, hs, rfl⟩)
    · rw [Int.max_eq_left h]; exact .inl (List.mem_map.mpr ⟨r, hr, rfl⟩)
  have l2 : ¬ max r.2.1 s.2.1 < m := fun h => d2 _ mem h _ me
  have e : max r.2.1 s.2.1 = m := by omega
  refine ⟨e, ?_⟩
  rw [e] at me
  rw [← me.1, d1.1]
theorem due_none {rs ss : List Rw} (w1 : WalkOk rs) (w2 : WalkOk ss) (h : ∀ m ∈ enters rs ss, ∀ z, ¬ MeetAt rs ss m z) (r s : Rw) (hr : r ∈ rs) (hs : s ∈ ss) : ¬ hit r s := fun hh => by
  refine h _ ?_ _ (meet_of w1 w2 hr hs hh)
  unfold enters
  rw [List.map_append, List.mem_append]
  rcases Int.le_total r.2.1 s.2.1 with h | h
  · rw [Int.max_eq_right h]; exact .inr (List.mem_map.mpr ⟨s, hs, rfl⟩)
  · rw [Int.max_eq_left h]; exact .inl (List.mem_map.mpr ⟨r, hr, rfl⟩)
-- _law_walk
def sp__law_walk (_ : PySem.W.Frag) : Sp := Com.Sp3 fun x y z H Q _ => ∃ (p q : Addr) (vs : List V) (ss : List Rw) (ls : List Int) (e : Int), x = .ref p ∧ y = .int e ∧ z = .ref q ∧ H p = some (.lst vs) ∧ ObsAt rwV H vs ss ∧ H q = some (.lst (ls.map V.int)) ∧ ls.length = ss.length ∧ ss.length ≤ 1000 ∧
  ∀ (r : Addr) (ws : List V) H', H r = none → H' r = some (.lst ws) → ObsAt rwV H' ws (walkR ss ls e) → Same H H' → Q (.ref r) H'
set_option maxHeartbeats 4000000 in
theorem ok__law_walk {P : Program} {w : World} {K : PySem.W.Frag} {mg : Str → Option Value} {base : Heap} (T : Txt K mg) : Com.Fn P w K mg base CX0 1 "_law_walk" ["_law_stays_here", "_law_start", "_law_lengths_here"] (sp__law_walk K) := by
  obtain ⟨fd, F⟩ := T.F__law_walk
  refine ⟨He.ga K "_law_walk", fd, F.ok sc__law_walk (fun vs H Q E h => ?_) (fun cdv A outer s H vs Q E hr h => ?_), T.g__law_walk, F.kp, F.bindsN fun _ _ _ _ _ _ us hl => match us, hl with | [_, _, _], _ => rfl⟩
  · obtain ⟨_, _, _, rfl, _⟩ := h
    rfl
  · obtain ⟨a0, a1, a2, rfl, h⟩ := h
    refine ⟨_, PSs.nox (pss_cons (ps_set (i := 3) sc__law_walk.nd rfl (by first | exact Or.inl rfl | exact Or.inr rfl) (pe_lst pa_nil))
      (pss_cons (ps_for PassesOwn.never rfl (pi_range1 (by rfl) T.b_range (pa_cons (pe_callB Com.qlen (by rfl) T.b_len (by decide +kernel) (pa_cons (pv 0) pa_nil)) pa_nil)) (pg_name (i := 4) sc__law_walk.nd rfl (by first | exact Or.inl rfl | exact Or.inr rfl)) (pss_cons (ps_set (i := 5) sc__law_walk.nd rfl (by first | exact Or.inl rfl | exact Or.inr rfl) (pe_op op_add (pv 1) (pe_callB (Com.qsum rfl) (by rfl) T.b_sum (by decide +kernel) (pa_cons (pe_slice Com.qsl_list (pv 2) po_none (po_some (pv 4))) pa_nil))))
      (pss_one (ps_expr (pe_bm PySem.F.plainAttrs_list PySem.F.slot_list_append PySem.F.type_list_append mt_append (pv 3) (pa_cons (pe_tup (pa_cons (pe_ix Com.qix_tup (pe_ix Com.qix_list (pv 0) (pv 4) (fun _ _ => rfl)) pe_int (fun _ _ => rfl)) (pa_cons (pv 5) (pa_cons (pe_op op_add (pv 5) (pe_ix Com.qix_list (pv 2) (pv 4) (fun _ _ => rfl))) pa_nil)))) pa_nil))))))
      (pss_one (ps_ret (pv 3))))), ?_⟩
    simp only [L2.start, List.map_cons, List.map_nil, List.length_cons, List.length_nil, List.cons_append, List.nil_append, Nat.reduceAdd, Nat.reduceSub, List.replicate_succ, List.replicate_zero]
    obtain ⟨p, q, vs, ss, ls, e, rfl, rfl, rfl, hp, os, hq, le, l1, qk⟩ := h
    try simp only [Com.wp, Option.some.injEq, exists_eq_left', true_and, and_true, and_self, Int.reduceLT, Int.reduceLE, Int.reduceNeg, Int.reduceAdd, Int.reduceSub, Int.reducePow, Int.reduceToNat, Nat.reduceAdd, Nat.reduceLT, Nat.reduceLeDiff]
    intro r hr
    have rp : p ≠ r := ne_of_none hp hr
    have rq : q ≠ r := ne_of_none hq hr
    have ol := os.1
    try simp only [Com.wp, Option.some.injEq, exists_eq_left', true_and, and_true, and_self, Int.reduceLT, Int.reduceLE, Int.reduceNeg, Int.reduceAdd, Int.reduceSub, Int.reducePow, Int.reduceToNat, Nat.reduceAdd, Nat.reduceLT, Nat.reduceLeDiff, hp, hr]
    refine ⟨by omega, by omega, ?_⟩
    refine Com.loopR (fun i s2 H4 => ∃ (ws : List V) (x4 x5 : Option V), s2 = [some (.ref p), some (.int e), some (.ref q), some (.ref r), x4, x5] ∧ H4 r = some (.lst ws) ∧ ObsAt rwV H4 ws ((List.range i).map (rowK ss ls e)) ∧ Same H H4)
      ⟨[], _, _, rfl, upd_same, ObsAt.nil, same_new hr⟩ ?_ ?_
    · rintro i s2 H4 hi ⟨ws, x4, x5, rfl, h4, ow, sm⟩
      have hi' : i < ss.length := by omega
      have hp4 := sm _ _ hp
      have hq4 := sm _ _ hq
      obtain ⟨t, hv, ht⟩ := os.2 i ss[i] (List.getElem?_eq_getElem hi')
      have ht : H t = some (.tup [.str ss[i].1, .int ss[i].2.1, .int ss[i].2.2]) := ht
      have ht4 := sm _ _ ht
      have hl : (ls.map V.int)[i]? = some (V.int ls[i]) := by rw [List.getElem?_map, List.getElem?_eq_getElem (by omega)]; rfl
      have z0 : (0 : Int) + (i : Int) = (i : Int) := by omega
      try simp only [Com.wp, Option.some.injEq, exists_eq_left', true_and, and_true, and_self, Int.reduceLT, Int.reduceLE, Int.reduceNeg, Int.reduceAdd, Int.reduceSub, Int.reducePow, Int.reduceToNat, Nat.reduceAdd, Nat.reduceLT, Nat.reduceLeDiff, hq4, z0, cutV_pre]
      intro u hu
      refine ⟨ls.take i, by rw [upd_same, List.map_take]; rfl, ?_⟩
      have sm5 := same_new (o := .lst ((ls.map V.int).take i)) hu
      generalize upd H4 u (.lst ((ls.map V.int).take i)) = H5 at sm5 ⊢
      have hp5 := sm5 _ _ hp4
      have hq5 := sm5 _ _ hq4
      have ht5 := sm5 _ _ ht4
      have h5 := sm5 _ _ h4
      have ow5 := ow.mono (same_tx sm5)
      have sm := sm.trans sm5
      try simp only [Com.wp, Option.some.injEq, exists_eq_left', true_and, and_true, and_self, Int.reduceLT, Int.reduceLE, Int.reduceNeg, Int.reduceAdd, Int.reduceSub, Int.reducePow, Int.reduceToNat, Nat.reduceAdd, Nat.reduceLT, Nat.reduceLeDiff, hp5, h5]
      refine ⟨_, atI_of hv, ?_⟩
      try simp only [Com.wp, Option.some.injEq, exists_eq_left', true_and, and_true, and_self, Int.reduceLT, Int.reduceLE, Int.reduceNeg, Int.reduceAdd, Int.reduceSub, Int.reducePow, Int.reduceToNat, Nat.reduceAdd, Nat.reduceLT, Nat.reduceLeDiff, hq5, ht5]
      refine ⟨_, atI_of hl, ?_⟩
      try simp only [Com.wp, Option.some.injEq, exists_eq_left', true_and, and_true, and_self, Int.reduceLT, Int.reduceLE, Int.reduceNeg, Int.reduceAdd, Int.reduceSub, Int.reducePow, Int.reduceToNat, Nat.reduceAdd, Nat.reduceLT, Nat.reduceLeDiff]
      intro t' ht'
      have t'r : t' ≠ r := (ne_of_none h5 ht').symm
      try simp only [Com.wp, Option.some.injEq, exists_eq_left', true_and, and_true, and_self, Int.reduceLT, Int.reduceLE, Int.reduceNeg, Int.reduceAdd, Int.reduceSub, Int.reducePow, Int.reduceToNat, Nat.reduceAdd, Nat.reduceLT, Nat.reduceLeDiff, h5, ht']
      have h9 : upd H5 t' (.tup [.str ss[i].1, .int (e + (ls.take i).sum), .int (e + (ls.take i).sum + ls[i])]) r = some (.lst ws) := by rw [upd_ne t'r.symm]; exact h5
      have rk : rowK ss ls e i = (ss[i].1, e + (ls.take i).sum, e + (ls.take i).sum + ls[i]) := by
        unfold rowK
        have li : i < ls.length := by omega
        rw [List.getD, List.getD, List.getElem?_map, List.getElem?_eq_getElem hi', List.getElem?_eq_getElem li]
        rfl
      have lw := ow5.1
      rw [List.length_map, List.length_range] at lw
      refine ⟨line_lt (by omega), _, _, _, rfl, rfl, ?_, ?_⟩
      · rw [List.range_succ, List.map_append, List.map_cons, List.map_nil, rk]
        exact (ow5.mono ((Tx.refl.new ht').lst h9)).snoc (by rw [upd_ne t'r]; exact upd_same)
      · intro b o hb
        have := sm b o hb
        rw [upd_ne (ne_of_none hb hr), upd_ne (ne_of_none this ht')]
        exact this
    · rintro s2 H4 ⟨ws, x4, x5, rfl, h4, ow, sm⟩
      try simp only [Com.wp, Option.some.injEq, exists_eq_left', true_and, and_true, and_self, Int.reduceLT, Int.reduceLE, Int.reduceNeg, Int.reduceAdd, Int.reduceSub, Int.reducePow, Int.reduceToNat, Nat.reduceAdd, Nat.reduceLT, Nat.reduceLeDiff]
      have e1 : ((vs.length : Nat) : Int).toNat = ss.length := by omega
      rw [e1] at ow
      exact qk r ws H4 hr h4 ow sm
-- _law_apart
def sp__law_apart (_ : PySem.W.Frag) : Sp := Com.Sp3 fun x y z H Q _ => ∃ (a l c p q : Addr) (n : Nat) (vs ws : List V) (rs ss : List Rw), x = .ref a ∧ y = .ref p ∧ z = .ref q ∧ StAt H a l c n ∧ n < 800000 ∧ (p ≠ a ∧ p ≠ l ∧ p ≠ c) ∧ (q ≠ a ∧ q ≠ l ∧ q ≠ c) ∧ H p = some (.lst vs) ∧ H q = some (.lst ws) ∧ ObsAt rwV H vs rs ∧ ObsAt rwV H ws ss ∧
  1 ≤ rs.length ∧ rs.length ≤ 1000 ∧ 1 ≤ ss.length ∧ ss.length ≤ 1000 ∧ ∀ (d : Int) H', StAt H' a l c (n + 10) → Kp a l H H' → Q (.int d) H'
set_option maxHeartbeats 4000000 in
theorem ok__law_apart {P : Program} {w : World} {K : PySem.W.Frag} {mg : Str → Option Value} {base : Heap} (T : Txt K mg) : Com.Fn P w K mg base CX0 4 "_law_apart" ["_law_state_here", "_law_one", "_law_two"] (sp__law_apart K) := by
  have G__law_draw := ok__law_draw (P := P) (w := w) (base := base) T
  have G__law_signed := ok__law_signed (P := P) (w := w) (base := base) T
  have G__law_limit := ok__law_limit (P := P) (w := w) (base := base) T
  obtain ⟨fd, F⟩ := T.F__law_apart
  refine ⟨He.ga K "_law_apart", fd, F.ok sc__law_apart (fun vs H Q E h => ?_) (fun cdv A outer s H vs Q E hr h => ?_), T.g__law_apart, F.kp, F.bindsN fun _ _ _ _ _ _ us hl => match us, hl with | [_, _, _], _ => rfl⟩
  · obtain ⟨_, _, _, rfl, _⟩ := h
    rfl
  · obtain ⟨a0, a1, a2, rfl, h⟩ := h
    refine ⟨_, PSs.nox (pss_cons (ps_if (pt_cmpR op_eq (Com.pcall G__law_draw (hr.mono (by decide)) (by rfl) pass0 (pa_cons (pv 0) (pa_cons pe_int pa_nil))) pe_int (nomark _)) (pss_one (ps_ret (Com.pcall G__law_signed (hr.mono (by decide)) (by rfl) pass0 (pa_cons (pv 0) (pa_cons (Com.pcall G__law_limit (hr.mono (by decide)) (by rfl) pass0 (pa_cons (pv 0) pa_nil)) pa_nil))))) pss_nil)
      (pss_cons (ps_set (i := 3) sc__law_apart.nd rfl (by first | exact Or.inl rfl | exact Or.inr rfl) (pe_ix Com.qix_list (pv 1) (Com.pcall G__law_draw (hr.mono (by decide)) (by rfl) pass0 (pa_cons (pv 0) (pa_cons (pe_callB Com.qlen (by rfl) T.b_len (by decide +kernel) (pa_cons (pv 1) pa_nil)) pa_nil))) (fun _ _ => rfl)))
      (pss_cons (ps_set (i := 4) sc__law_apart.nd rfl (by first | exact Or.inl rfl | exact Or.inr rfl) (pe_ix Com.qix_list (pv 2) (Com.pcall G__law_draw (hr.mono (by decide)) (by rfl) pass0 (pa_cons (pv 0) (pa_cons (pe_callB Com.qlen (by rfl) T.b_len (by decide +kernel) (pa_cons (pv 2) pa_nil)) pa_nil))) (fun _ _ => rfl)))
      (pss_cons (ps_set (i := 5) sc__law_apart.nd rfl (by first | exact Or.inl rfl | exact Or.inr rfl) (pe_ix Com.qix_tup (pv 3) (pe_op op_add pe_int (Com.pcall G__law_draw (hr.mono (by decide)) (by rfl) pass0 (pa_cons (pv 0) (pa_cons pe_int pa_nil)))) (fun _ _ => rfl)))
      (pss_one (ps_ret (pe_op op_sub (pe_op op_add (pe_op op_sub (pv 5) (pe_ix Com.qix_tup (pv 4) (pe_op op_add pe_int (Com.pcall G__law_draw (hr.mono (by decide)) (by rfl) pass0 (pa_cons (pv 0) (pa_cons pe_int pa_nil)))) (fun _ _ => rfl))) (Com.pcall G__law_draw (hr.mono (by decide)) (by rfl) pass0 (pa_cons (pv 0) (pa_cons pe_int pa_nil)))) pe_int))))))), ?_⟩
    simp only [L2.start, List.map_cons, List.map_nil, List.length_cons, List.length_nil, List.cons_append, List.nil_append, Nat.reduceAdd, Nat.reduceSub, List.replicate_succ, List.replicate_zero]
    obtain ⟨a, l, c, p, q, n, vs, ws, rs, ss, rfl, rfl, rfl, st, hn, pne, qne, hp, hq, ors, oss, r1, r2, s1, s2, qk⟩ := h
    have B : (1000 : Int) < 2 ^ 1000 := by decide
    have a1 := ors.1
    have a2 := oss.1
    try simp only [Com.wp, Option.some.injEq, exists_eq_left', true_and, and_true, and_self, Int.reduceLT, Int.reduceLE, Int.reduceNeg, Int.reduceAdd, Int.reduceSub, Int.reducePow, Int.reduceToNat, Nat.reduceAdd, Nat.reduceLT, Nat.reduceLeDiff]
    refine use_draw st (by omega) (by decide) (by decide) fun w0 H1 hw st1 kp1 => ?_
    try simp only [Com.wp, Option.some.injEq, exists_eq_left', true_and, and_true, and_self, Int.reduceLT, Int.reduceLE, Int.reduceNeg, Int.reduceAdd, Int.reduceSub, Int.reducePow, Int.reduceToNat, Nat.reduceAdd, Nat.reduceLT, Nat.reduceLeDiff]
    refine Com.ifk (fun _ => ?_) (fun _ => ?_)
    · try simp only [Com.wp, Option.some.injEq, exists_eq_left', true_and, and_true, and_self, Int.reduceLT, Int.reduceLE, Int.reduceNeg, Int.reduceAdd, Int.reduceSub, Int.reducePow, Int.reduceToNat, Nat.reduceAdd, Nat.reduceLT, Nat.reduceLeDiff]
      refine use_limit st1 (by omega) fun k H2 k1 k2 st2 kp2 => ?_
      try simp only [Com.wp, Option.some.injEq, exists_eq_left', true_and, and_true, and_self, Int.reduceLT, Int.reduceLE, Int.reduceNeg, Int.reduceAdd, Int.reduceSub, Int.reducePow, Int.reduceToNat, Nat.reduceAdd, Nat.reduceLT, Nat.reduceLeDiff]
      refine use_signed st2 (by omega) (by omega) (Int.lt_of_le_of_lt k2 big51) fun d H3 _ _ st3 kp3 => ?_
      exact qk _ _ (st3.mono (by omega)) (kp1.trans (kp2.trans kp3))
    · have hp1 := kp1.at pne hp
      have hq1 := kp1.at qne hq
      try simp only [Com.wp, Option.some.injEq, exists_eq_left', true_and, and_true, and_self, Int.reduceLT, Int.reduceLE, Int.reduceNeg, Int.reduceAdd, Int.reduceSub, Int.reducePow, Int.reduceToNat, Nat.reduceAdd, Nat.reduceLT, Nat.reduceLeDiff, hp1]
      refine use_draw st1 (by omega) (by omega) (by omega) fun i H2 hi st2 kp2 => ?_
      have kp2 := kp1.trans kp2
      have hp2 := kp2.at pne hp
      have hq2 := kp2.at qne hq
      obtain ⟨t, hv, ht⟩ := ors.2 i _ (List.getElem?_eq_getElem (show i < rs.length by omega))
      generalize rs[i]'(by omega) = r at ht
      have ht : H t = some (.tup [.str r.1, .int r.2.1, .int r.2.2]) := ht
      try simp only [Com.wp, Option.some.injEq, exists_eq_left', true_and, and_true, and_self, Int.reduceLT, Int.reduceLE, Int.reduceNeg, Int.reduceAdd, Int.reduceSub, Int.reducePow, Int.reduceToNat, Nat.reduceAdd, Nat.reduceLT, Nat.reduceLeDiff, hp2]
      refine ⟨_, atI_of hv, ?_⟩
      try simp only [Com.wp, Option.some.injEq, exists_eq_left', true_and, and_true, and_self, Int.reduceLT, Int.reduceLE, Int.reduceNeg, Int.reduceAdd, Int.reduceSub, Int.reducePow, Int.reduceToNat, Nat.reduceAdd, Nat.reduceLT, Nat.reduceLeDiff, hq2]
      refine use_draw st2 (by omega) (by omega) (by omega) fun j H3 hj st3 kp3 => ?_
      have kp3 := kp2.trans kp3
      have hq3 := kp3.at qne hq
      obtain ⟨u, hw, hu⟩ := oss.2 j _ (List.getElem?_eq_getElem (show j < ss.length by omega))
      generalize ss[j]'(by omega) = s at hu
      have hu : H u = some (.tup [.str s.1, .int s.2.1, .int s.2.2]) := hu
      have ix : ∀ (r : Rw) (b : Nat), (b : Int) < 2 → ∃ m : Int, atI [V.str r.1, .int r.2.1, .int r.2.2] (1 + (b : Int)) = some (.int m) := fun r b hb => by
        have : b = 0 ∨ b = 1 := by omega
        rcases this with rfl | rfl
        · exact ⟨r.2.1, atI_of (j := 1) rfl⟩
        · exact ⟨r.2.2, atI_of (j := 2) rfl⟩
      try simp only [Com.wp, Option.some.injEq, exists_eq_left', true_and, and_true, and_self, Int.reduceLT, Int.reduceLE, Int.reduceNeg, Int.reduceAdd, Int.reduceSub, Int.reducePow, Int.reduceToNat, Nat.reduceAdd, Nat.reduceLT, Nat.reduceLeDiff, hq3]
      refine ⟨_, atI_of hw, ?_⟩
      try simp only [Com.wp, Option.some.injEq, exists_eq_left', true_and, and_true, and_self, Int.reduceLT, Int.reduceLE, Int.reduceNeg, Int.reduceAdd, Int.reduceSub, Int.reducePow, Int.reduceToNat, Nat.reduceAdd, Nat.reduceLT, Nat.reduceLeDiff]
      refine use_draw st3 (by omega) (by decide) (by decide) fun b H4 hb st4 kp4 => ?_
      have kp4 := kp3.trans kp4
      have ht4 := kp_tx st kp4 _ _ ht
      obtain ⟨m, em⟩ := ix r b hb
      try simp only [Com.wp, Option.some.injEq, exists_eq_left', true_and, and_true, and_self, Int.reduceLT, Int.reduceLE, Int.reduceNeg, Int.reduceAdd, Int.reduceSub, Int.reducePow, Int.reduceToNat, Nat.reduceAdd, Nat.reduceLT, Nat.reduceLeDiff, ht4]
      refine ⟨_, em, ?_⟩
      refine use_draw st4 (by omega) (by decide) (by decide) fun b' H5 hb' st5 kp5 => ?_
      have kp5 := kp4.trans kp5
      have hu5 := kp_tx st kp5 _ _ hu
      obtain ⟨m', em'⟩ := ix s b' hb'
      try simp only [Com.wp, Option.some.injEq, exists_eq_left', true_and, and_true, and_self, Int.reduceLT, Int.reduceLE, Int.reduceNeg, Int.reduceAdd, Int.reduceSub, Int.reducePow, Int.reduceToNat, Nat.reduceAdd, Nat.reduceLT, Nat.reduceLeDiff, hu5]
      refine ⟨_, em', ?_⟩
      try simp only [Com.wp, Option.some.injEq, exists_eq_left', true_and, and_true, and_self, Int.reduceLT, Int.reduceLE, Int.reduceNeg, Int.reduceAdd, Int.reduceSub, Int.reducePow, Int.reduceToNat, Nat.reduceAdd, Nat.reduceLT, Nat.reduceLeDiff]
      refine use_draw st5 (by omega) (by decide) (by decide) fun e H6 he st6 kp6 => ?_
      try simp only [Com.wp, Option.some.injEq, exists_eq_left', true_and, and_true, and_self, Int.reduceLT, Int.reduceLE, Int.reduceNeg, Int.reduceAdd, Int.reduceSub, Int.reducePow, Int.reduceToNat, Nat.reduceAdd, Nat.reduceLT, Nat.reduceLeDiff]
      exact qk _ _ (st6.mono (by omega)) (kp5.trans kp6)
-- shared
def sp_shared (_ : PySem.W.Frag) : Sp := Com.Sp2 fun x y H Q _ => ∃ (p q : Addr) (vs ws : List V) (rs ss : List Rw), x = .ref p ∧ y = .ref q ∧ H p = some (.lst vs) ∧ H q = some (.lst ws) ∧ ObsAt rwV H vs rs ∧ ObsAt rwV H ws ss ∧
  ∀ H' v, Same H H' → FoundAt H' v (fun r s => r ∈ rs ∧ s ∈ ss) → Q v H'
set_option maxHeartbeats 4000000 in
theorem ok_shared {P : Program} {w : World} {K : PySem.W.Frag} {mg : Str → Option Value} {base : Heap} (T : Txt K mg) : Com.Fn P w K mg base CX0 1 "shared" ["one", "other"] (sp_shared K) := by
  obtain ⟨fd, F⟩ := T.F_shared
  refine ⟨He.ga K "shared", fd, F.ok sc_shared (fun vs H Q E h => ?_) (fun cdv A outer s H vs Q E hr h => ?_), T.g_shared, F.kp, F.bindsN fun _ _ _ _ _ _ us hl => match us, hl with | [_, _], _ => rfl⟩
  · obtain ⟨_, _, rfl, _⟩ := h
    rfl
  · obtain ⟨a0, a1, rfl, h⟩ := h
    refine ⟨_, PSs.nox (pss_cons (ps_set (i := 2) sc_shared.nd rfl (by first | exact Or.inl rfl | exact Or.inr rfl) pe_non)
      (pss_cons (ps_for PassesOwn.never rfl (pi_list (pv 0)) (Com.qg_tup (n := 3) rfl (pgs_cons (pg_name (i := 3) sc_shared.nd rfl (by first | exact Or.inl rfl | exact Or.inr rfl)) (pgs_cons (pg_name (i := 4) sc_shared.nd rfl (by first | exact Or.inl rfl | exact Or.inr rfl)) (pgs_cons (pg_name (i := 5) sc_shared.nd rfl (by first | exact Or.inl rfl | exact Or.inr rfl)) pgs_nil)))) (pss_one (ps_for PassesOwn.never rfl (pi_list (pv 1)) (Com.qg_tup (n := 3) rfl (pgs_cons (pg_name (i := 6) sc_shared.nd rfl (by first | exact Or.inl rfl | exact Or.inr rfl)) (pgs_cons (pg_name (i := 7) sc_shared.nd rfl (by first | exact Or.inl rfl | exact Or.inr rfl)) (pgs_cons (pg_name (i := 8) sc_shared.nd rfl (by first | exact Or.inl rfl | exact Or.inr rfl)) pgs_nil)))) (pss_one (ps_if (PW.pt (pw_and (pt_cmpR op_eq (pv 6) (pv 3) (nomark _)) (pw_and (pt_cmpR op_ne (pv 3) (Com.pcstr T.c_HALL (by rfl)) (nomark _)) (pw_and (pt_cmpR op_lt (pv 4) (pv 8) (nomark _)) (pw_and1 (pt_cmpR op_lt (pv 7) (pv 5) (nomark _))))))) (pss_cons (ps_set (i := 9) sc_shared.nd rfl (by first | exact Or.inl rfl | exact Or.inr rfl) (pe_callB (Com.qmax2 rfl) (by rfl) T.b_max (by decide +kernel) (pa_cons (pv 4) (pa_cons (pv 7) pa_nil))))
      (pss_one (ps_if (PW.pt (pw_or (pt_cmpR Com.qisN (pv 2) pe_non (nomark _)) (pw_or1 (pt_cmpR op_lt (pv 9) (pe_ix Com.qix_tup (pv 2) pe_int (fun _ _ => rfl)) (nomark _))))) (pss_one (ps_set (i := 2) sc_shared.nd rfl (by first | exact Or.inl rfl | exact Or.inr rfl) (pe_tup (pa_cons (pv 9) (pa_cons (pv 3) pa_nil))))) pss_nil))) pss_nil)))))
      (pss_one (ps_ret (pv 2))))), ?_⟩
    simp only [L2.start, List.map_cons, List.map_nil, List.length_cons, List.length_nil, List.cons_append, List.nil_append, Nat.reduceAdd, Nat.reduceSub, List.replicate_succ, List.replicate_zero]
    obtain ⟨p, q, vs, ws, rs, ss, rfl, rfl, hp, hq, ors, oss, qk⟩ := h
    try simp only [Com.wp, Option.some.injEq, exists_eq_left', true_and, and_true, and_self, Int.reduceLT, Int.reduceLE, Int.reduceNeg, Int.reduceAdd, Int.reduceSub, Int.reducePow, Int.reduceToNat, Nat.reduceAdd, Nat.reduceLT, Nat.reduceLeDiff, hp]
    refine Com.loopL vs (fun i s2 H2 => ∃ f x3 x4 x5 x6 x7 x8 x9, s2 = [some (.ref p), some (.ref q), some f, x3, x4, x5, x6, x7, x8, x9] ∧ Same H H2 ∧ FoundAt H2 f (fun r s => r ∈ rs.take i ∧ s ∈ ss)) ⟨_, _, _, _, _, _, _, _, rfl, same_refl, .inl ⟨rfl, by simp⟩⟩ (fun i s2 H2 ⟨_, _, _, _, _, _, _, _, _, sm, _⟩ => sm _ _ hp) ?_ ?_
    · rintro i x s2 H2 hi hx ⟨f, x3, x4, x5, x6, x7, x8, x9, rfl, sm, fo⟩
      obtain ⟨r, t, hr, rfl, ht⟩ := ors.get hx
      have ht : H t = some (.tup [.str r.1, .int r.2.1, .int r.2.2]) := ht
      have ht2 := sm _ _ ht
      have hq2 := sm _ _ hq
      try simp only [Com.wp, Option.some.injEq, exists_eq_left', true_and, and_true, and_self, Int.reduceLT, Int.reduceLE, Int.reduceNeg, Int.reduceAdd, Int.reduceSub, Int.reducePow, Int.reduceToNat, Nat.reduceAdd, Nat.reduceLT, Nat.reduceLeDiff, ht2, hq2, List.length_cons, List.length_nil]
      refine Com.loopL ws (fun j s3 H3 => ∃ f x6 x7 x8 x9, s3 = [some (.ref p), some (.ref q), some f, some (.str r.1), some (.int r.2.1), some (.int r.2.2), x6, x7, x8, x9] ∧ Same H H3 ∧ FoundAt H3 f (fun r' s => (r' ∈ rs.take i ∧ s ∈ ss) ∨ (r' = r ∧ s ∈ ss.take j))) ⟨_, _, _, _, _, rfl, sm, fo.iff (by simp)⟩ (fun i s2 H2 ⟨_, _, _, _, _, _, sm, _⟩ => sm _ _ hq) ?_ ?_
      · rintro j x s3 H3 hj hxj ⟨f, x6, x7, x8, x9, rfl, sm3, fo3⟩
        obtain ⟨s, u, hs, rfl, hu⟩ := oss.get hxj
        have hu : H u = some (.tup [.str s.1, .int s.2.1, .int s.2.2]) := hu
        have hu3 := sm3 _ _ hu
        have ext : ∀ r' s', ((r' ∈ rs.take i ∧ s' ∈ ss) ∨ (r' = r ∧ s' ∈ ss.take (j + 1))) ↔ ((r' ∈ rs.take i ∧ s' ∈ ss) ∨ (r' = r ∧ s' ∈ ss.take j)) ∨ (r' = r ∧ s' = s) := fun r' s' => by
          rw [mem_take_succ hs]
          constructor
          · rintro (h | ⟨h1, h2 | h2⟩)
            · exact .inl (.inl h)
            · exact .inl (.inr ⟨h1, h2⟩)
            · exact .inr ⟨h1, h2⟩
          · rintro ((h | h) | h)
            · exact .inl h
            · exact .inr ⟨h.1, .inl h.2⟩
            · exact .inr ⟨h.1, .inr h.2⟩
        try simp only [Com.wp, Option.some.injEq, exists_eq_left', true_and, and_true, and_self, Int.reduceLT, Int.reduceLE, Int.reduceNeg, Int.reduceAdd, Int.reduceSub, Int.reducePow, Int.reduceToNat, Nat.reduceAdd, Nat.reduceLT, Nat.reduceLeDiff, hu3, List.length_cons, List.length_nil]
        refine Com.andk (fun c1 => ?_) (fun c1 => Com.ifk (fun e => Bool.noConfusion e) (fun _ => ?_))
        · try simp only [Com.wp, Option.some.injEq, exists_eq_left', true_and, and_true, and_self, Int.reduceLT, Int.reduceLE, Int.reduceNeg, Int.reduceAdd, Int.reduceSub, Int.reducePow, Int.reduceToNat, Nat.reduceAdd, Nat.reduceLT, Nat.reduceLeDiff]
          refine Com.andk (fun c2 => ?_) (fun c2 => Com.ifk (fun e => Bool.noConfusion e) (fun _ => ?_))
          · try simp only [Com.wp, Option.some.injEq, exists_eq_left', true_and, and_true, and_self, Int.reduceLT, Int.reduceLE, Int.reduceNeg, Int.reduceAdd, Int.reduceSub, Int.reducePow, Int.reduceToNat, Nat.reduceAdd, Nat.reduceLT, Nat.reduceLeDiff]
            refine Com.andk (fun c3 => ?_) (fun c3 => Com.ifk (fun e => Bool.noConfusion e) (fun _ => ?_))
            · try simp only [Com.wp, Option.some.injEq, exists_eq_left', true_and, and_true, and_self, Int.reduceLT, Int.reduceLE, Int.reduceNeg, Int.reduceAdd, Int.reduceSub, Int.reducePow, Int.reduceToNat, Nat.reduceAdd, Nat.reduceLT, Nat.reduceLeDiff]
              refine Com.ifk (fun c4 => ?_) (fun c4 => ?_)
              · have hh : hit r s := ⟨by simpa using c1, by simpa using c2, by simpa using c3, by simpa using c4⟩
                rcases fo3 with ⟨rfl, fo3⟩ | ⟨tf, m, z, rfl, hf, ex, fo4⟩
                · try simp only [Com.wp, Option.some.injEq, exists_eq_left', true_and, and_true, and_self, Int.reduceLT, Int.reduceLE, Int.reduceNeg, Int.reduceAdd, Int.reduceSub, Int.reducePow, Int.reduceToNat, Nat.reduceAdd, Nat.reduceLT, Nat.reduceLeDiff]
                  refine Com.ork (fun _ => Com.ifk (fun _ => ?_) (fun e => Bool.noConfusion e)) (fun e => Bool.noConfusion e)
                  try simp only [Com.wp, Option.some.injEq, exists_eq_left', true_and, and_true, and_self, Int.reduceLT, Int.reduceLE, Int.reduceNeg, Int.reduceAdd, Int.reduceSub, Int.reducePow, Int.reduceToNat, Nat.reduceAdd, Nat.reduceLT, Nat.reduceLeDiff]
                  intro t' ht'
                  try simp only [Com.wp, Option.some.injEq, exists_eq_left', true_and, and_true, and_self, Int.reduceLT, Int.reduceLE, Int.reduceNeg, Int.reduceAdd, Int.reduceSub, Int.reducePow, Int.reduceToNat, Nat.reduceAdd, Nat.reduceLT, Nat.reduceLeDiff]
                  exact ⟨_, _, _, _, _, rfl, sm3.trans (same_new ht'), FoundAt.put upd_same hh (fun r' s' q hq => absurd hq (fo3 r' s' q)) ext⟩
                · try simp only [Com.wp, Option.some.injEq, exists_eq_left', true_and, and_true, and_self, Int.reduceLT, Int.reduceLE, Int.reduceNeg, Int.reduceAdd, Int.reduceSub, Int.reducePow, Int.reduceToNat, Nat.reduceAdd, Nat.reduceLT, Nat.reduceLeDiff]
                  refine Com.ork (fun e => Bool.noConfusion e) (fun _ => ?_)
                  try simp only [Com.wp, Option.some.injEq, exists_eq_left', true_and, and_true, and_self, Int.reduceLT, Int.reduceLE, Int.reduceNeg, Int.reduceAdd, Int.reduceSub, Int.reducePow, Int.reduceToNat, Nat.reduceAdd, Nat.reduceLT, Nat.reduceLeDiff, hf]
                  refine Com.ifk (fun c5 => ?_) (fun c5 => ?_)
                  · try simp only [Com.wp, Option.some.injEq, exists_eq_left', true_and, and_true, and_self, Int.reduceLT, Int.reduceLE, Int.reduceNeg, Int.reduceAdd, Int.reduceSub, Int.reducePow, Int.reduceToNat, Nat.reduceAdd, Nat.reduceLT, Nat.reduceLeDiff]
                    intro t' ht'
                    have c5 : max r.2.1 s.2.1 < m := by simpa using c5
                    exact ⟨_, _, _, _, _, rfl, sm3.trans (same_new ht'), FoundAt.put upd_same hh (fun r' s' q hq => by have := fo4 r' s' q hq; omega) ext⟩
                  · try simp only [Com.wp, Option.some.injEq, exists_eq_left', true_and, and_true, and_self, Int.reduceLT, Int.reduceLE, Int.reduceNeg, Int.reduceAdd, Int.reduceSub, Int.reducePow, Int.reduceToNat, Nat.reduceAdd, Nat.reduceLT, Nat.reduceLeDiff]
                    have c5 : ¬ max r.2.1 s.2.1 < m := by simpa using c5
                    exact ⟨_, _, _, _, _, rfl, sm3, FoundAt.keep (.inr ⟨tf, m, z, rfl, hf, ex, fo4⟩) hf (by omega) ext⟩
              · try simp only [Com.wp, Option.some.injEq, exists_eq_left', true_and, and_true, and_self, Int.reduceLT, Int.reduceLE, Int.reduceNeg, Int.reduceAdd, Int.reduceSub, Int.reducePow, Int.reduceToNat, Nat.reduceAdd, Nat.reduceLT, Nat.reduceLeDiff]
                exact ⟨_, _, _, _, _, rfl, sm3, fo3.miss (fun hh => by have := hh.2.2.2; simp at c4; omega) ext⟩
            · try simp only [Com.wp, Option.some.injEq, exists_eq_left', true_and, and_true, and_self, Int.reduceLT, Int.reduceLE, Int.reduceNeg, Int.reduceAdd, Int.reduceSub, Int.reducePow, Int.reduceToNat, Nat.reduceAdd, Nat.reduceLT, Nat.reduceLeDiff]
              exact ⟨_, _, _, _, _, rfl, sm3, fo3.miss (fun hh => by have := hh.2.2.1; simp at c3; omega) ext⟩
          · try simp only [Com.wp, Option.some.injEq, exists_eq_left', true_and, and_true, and_self, Int.reduceLT, Int.reduceLE, Int.reduceNeg, Int.reduceAdd, Int.reduceSub, Int.reducePow, Int.reduceToNat, Nat.reduceAdd, Nat.reduceLT, Nat.reduceLeDiff]
            exact ⟨_, _, _, _, _, rfl, sm3, fo3.miss (fun hh => by have := hh.2.1; simp at c2; exact this c2) ext⟩
        · try simp only [Com.wp, Option.some.injEq, exists_eq_left', true_and, and_true, and_self, Int.reduceLT, Int.reduceLE, Int.reduceNeg, Int.reduceAdd, Int.reduceSub, Int.reducePow, Int.reduceToNat, Nat.reduceAdd, Nat.reduceLT, Nat.reduceLeDiff]
          exact ⟨_, _, _, _, _, rfl, sm3, fo3.miss (fun hh => by have := hh.1; simp at c1; exact c1 this) ext⟩
      · rintro s3 H3 ⟨f, x6, x7, x8, x9, rfl, sm3, fo3⟩
        refine ⟨_, _, _, _, _, _, _, _, rfl, sm3, fo3.iff fun r' s' => ?_⟩
        rw [oss.1, List.take_length, mem_take_succ hr]
        constructor
        · rintro ⟨h | h, k⟩
          · exact .inl ⟨h, k⟩
          · exact .inr ⟨h, k⟩
        · rintro (⟨h, k⟩ | ⟨h, k⟩)
          · exact ⟨.inl h, k⟩
          · exact ⟨.inr h, k⟩
    · rintro s2 H2 ⟨f, x3, x4, x5, x6, x7, x8, x9, rfl, sm, fo⟩
      try simp only [Com.wp, Option.some.injEq, exists_eq_left', true_and, and_true, and_self, Int.reduceLT, Int.reduceLE, Int.reduceNeg, Int.reduceAdd, Int.reduceSub, Int.reducePow, Int.reduceToNat, Nat.reduceAdd, Nat.reduceLT, Nat.reduceLeDiff]
      rw [ors.1, List.take_length] at fo
      exact qk _ _ sm fo
-- _law_room
def sp__law_room (_ : PySem.W.Frag) : Sp := Com.Sp2 fun x y H Q _ => ∃ (p : Addr) (vs : List V) (rs : List Rw) (m : Int), x = .ref p ∧ y = .int m ∧ H p = some (.lst vs) ∧ ObsAt rwV H vs rs ∧ Q (.str (roomF rs m)) H
set_option maxHeartbeats 4000000 in
theorem ok__law_room {P : Program} {w : World} {K : PySem.W.Frag} {mg : Str → Option Value} {base : Heap} (T : Txt K mg) : Com.Fn P w K mg base CX0 1 "_law_room" ["_law_rows", "_law_moment"] (sp__law_room K) := by
  obtain ⟨fd, F⟩ := T.F__law_room
  refine ⟨He.ga K "_law_room", fd, F.ok sc__law_room (fun vs H Q E h => ?_) (fun cdv A outer s H vs Q E hr h => ?_), T.g__law_room, F.kp, F.bindsN fun _ _ _ _ _ _ us hl => match us, hl with | [_, _], _ => rfl⟩
  · obtain ⟨_, _, rfl, _⟩ := h
    rfl
  · obtain ⟨a0, a1, rfl, h⟩ := h
    refine ⟨_, PSs.nox (pss_cons (ps_for PassesOwn.never rfl (pi_list (pv 0)) (pg_name (i := 2) sc__law_room.nd rfl (by first | exact Or.inl rfl | exact Or.inr rfl)) (pss_one (ps_if (pt_chain op_le op_lt (pe_ix Com.qix_tup (pv 2) pe_int (fun _ _ => rfl)) (pv 1) (pe_ix Com.qix_tup (pv 2) pe_int (fun _ _ => rfl))) (pss_one (ps_ret (pe_ix Com.qix_tup (pv 2) pe_int (fun _ _ => rfl)))) pss_nil)))
      (pss_one (ps_ret pe_str))), ?_⟩
    simp only [L2.start, List.map_cons, List.map_nil, List.length_cons, List.length_nil, List.cons_append, List.nil_append, Nat.reduceAdd, Nat.reduceSub, List.replicate_succ, List.replicate_zero]
    obtain ⟨p, vs, rs, m, rfl, rfl, hp, os, qk⟩ := h
    try simp only [Com.wp, Option.some.injEq, exists_eq_left', true_and, and_true, and_self, Int.reduceLT, Int.reduceLE, Int.reduceNeg, Int.reduceAdd, Int.reduceSub, Int.reducePow, Int.reduceToNat, Nat.reduceAdd, Nat.reduceLT, Nat.reduceLeDiff, hp]
    refine Com.loopL vs (fun i s2 H2 => ∃ x2, H2 = H ∧ s2 = [some (.ref p), some (.int m), x2] ∧ roomF rs m = roomF (rs.drop i) m) ⟨_, rfl, rfl, rfl⟩ (fun i s2 H2 ⟨_, e, _⟩ => by rw [e]; exact hp) ?_ ?_
    · rintro i x s2 H2 hi hx ⟨x2, rfl, rfl, e⟩
      obtain ⟨r, t, hr, rfl, ht⟩ := os.get hx
      have ht : H2 t = some (.tup [.str r.1, .int r.2.1, .int r.2.2]) := ht
      have ir := (List.getElem?_eq_some_iff.mp hr)
      have ed : rs.drop i = r :: rs.drop (i + 1) := by rw [List.drop_eq_getElem_cons ir.1, ir.2]
      rw [ed] at e
      have e : roomF rs m = if r.2.1 ≤ m ∧ m < r.2.2 then r.1 else roomF (rs.drop (i + 1)) m := e
      try simp only [Com.wp, Option.some.injEq, exists_eq_left', true_and, and_true, and_self, Int.reduceLT, Int.reduceLE, Int.reduceNeg, Int.reduceAdd, Int.reduceSub, Int.reducePow, Int.reduceToNat, Nat.reduceAdd, Nat.reduceLT, Nat.reduceLeDiff, ht]
      refine Com.chk (fun c1 => ?_) (fun c1 => ?_)
      · try simp only [Com.wp, Option.some.injEq, exists_eq_left', true_and, and_true, and_self, Int.reduceLT, Int.reduceLE, Int.reduceNeg, Int.reduceAdd, Int.reduceSub, Int.reducePow, Int.reduceToNat, Nat.reduceAdd, Nat.reduceLT, Nat.reduceLeDiff, ht]
        refine Com.ifk (fun c2 => ?_) (fun c2 => ?_)
        · try simp only [Com.wp, Option.some.injEq, exists_eq_left', true_and, and_true, and_self, Int.reduceLT, Int.reduceLE, Int.reduceNeg, Int.reduceAdd, Int.reduceSub, Int.reducePow, Int.reduceToNat, Nat.reduceAdd, Nat.reduceLT, Nat.reduceLeDiff, ht]
          rw [if_pos ⟨of_decide_eq_true c1, of_decide_eq_true c2⟩] at e
          rw [e] at qk
          exact qk
        · try simp only [Com.wp, Option.some.injEq, exists_eq_left', true_and, and_true, and_self, Int.reduceLT, Int.reduceLE, Int.reduceNeg, Int.reduceAdd, Int.reduceSub, Int.reducePow, Int.reduceToNat, Nat.reduceAdd, Nat.reduceLT, Nat.reduceLeDiff]
          rw [if_neg (fun h => absurd h.2 (of_decide_eq_false c2))] at e
          exact ⟨_, rfl, e⟩
      · try simp only [Com.wp, Option.some.injEq, exists_eq_left', true_and, and_true, and_self, Int.reduceLT, Int.reduceLE, Int.reduceNeg, Int.reduceAdd, Int.reduceSub, Int.reducePow, Int.reduceToNat, Nat.reduceAdd, Nat.reduceLT, Nat.reduceLeDiff]
        refine Com.ifk (fun e => Bool.noConfusion e) (fun _ => ?_)
        try simp only [Com.wp, Option.some.injEq, exists_eq_left', true_and, and_true, and_self, Int.reduceLT, Int.reduceLE, Int.reduceNeg, Int.reduceAdd, Int.reduceSub, Int.reducePow, Int.reduceToNat, Nat.reduceAdd, Nat.reduceLT, Nat.reduceLeDiff]
        rw [if_neg (fun h => absurd h.1 (of_decide_eq_false c1))] at e
        exact ⟨_, rfl, e⟩
    · rintro s2 H2 ⟨x2, rfl, rfl, e⟩
      try simp only [Com.wp, Option.some.injEq, exists_eq_left', true_and, and_true, and_self, Int.reduceLT, Int.reduceLE, Int.reduceNeg, Int.reduceAdd, Int.reduceSub, Int.reducePow, Int.reduceToNat, Nat.reduceAdd, Nat.reduceLT, Nat.reduceLeDiff]
      rw [os.1, List.drop_length] at e
      have e : roomF rs m = noS := e
      rw [e] at qk
      exact qk
theorem before_of {ns : List Int} (sd : ns.Pairwise (· ≤ ·)) {i : Nat} {m m' : Int} (h : ns[i]? = some m) (hm : m' ∈ ns) (lt : m' < m) : m' ∈ ns.take i := by
  obtain ⟨j, hj, rfl⟩ := List.getElem_of_mem hm
  obtain ⟨hi, rfl⟩ := List.getElem?_eq_some_iff.mp h
  by_cases hji : j < i
  · exact List.mem_take_iff_getElem.mpr ⟨j, by omega, rfl⟩
  · rcases Nat.lt_or_eq_of_le (Nat.le_of_not_lt hji) with h1 | rfl
    · have := List.pairwise_iff_getElem.mp sd i j hi hj h1
      omega
    · omega
-- _law_due
def sp__law_due (_ : PySem.W.Frag) : Sp := Com.Sp2 fun x y H Q _ => ∃ (p q : Addr) (vs ws : List V) (rs ss : List Rw), x = .ref p ∧ y = .ref q ∧ H p = some (.lst vs) ∧ H q = some (.lst ws) ∧ ObsAt rwV H vs rs ∧ ObsAt rwV H ws ss ∧ rs.length ≤ 1000 ∧ ss.length ≤ 1000 ∧
  ∀ H' v, Same H H' → DueAt H' v rs ss → Q v H'
set_option maxHeartbeats 4000000 in
theorem ok__law_due {P : Program} {w : World} {K : PySem.W.Frag} {mg : Str → Option Value} {base : Heap} (T : Txt K mg) : Com.Fn P w K mg base CX0 2 "_law_due" ["_law_one", "_law_two"] (sp__law_due K) := by
  have G__law_room := ok__law_room (P := P) (w := w) (base := base) T
  obtain ⟨fd, F⟩ := T.F__law_due
  refine ⟨He.ga K "_law_due", fd, F.ok sc__law_due (fun vs H Q E h => ?_) (fun cdv A outer s H vs Q E hr h => ?_), T.g__law_due, F.kp, F.bindsN fun _ _ _ _ _ _ us hl => match us, hl with | [_, _], _ => rfl⟩
  · obtain ⟨_, _, rfl, _⟩ := h
    rfl
  · obtain ⟨a0, a1, rfl, h⟩ := h
    refine ⟨_, PSs.nox (pss_cons (ps_for PassesOwn.never rfl (pi_list (pe_callB Com.qsortedI (by rfl) T.b_sorted (by decide +kernel) (pa_cons (pe_lc (own := [("_law_row", 4)]) (g := (gName 4)) (tt := tYes) rfl sc__law_due.nd (pi_list (pe_op Com.qcat (pv 0) (pv 1))) (blkOk_by (own := [("_law_row", 4)]) (N := ["_law_one", "_law_two", "_law_moment", "_law_room_here", "_law_row"]) (sc := defScope s__law_due) (by decide +kernel)) (fun _ _ _ _ _ => (pg_name (i := 4) sc__law_due.nd rfl (by first | exact Or.inl rfl | exact Or.inr rfl))) (fun _ _ _ _ _ => pts_nil) (fun _ _ _ _ _ => (pe_ix Com.qix_tup (pv 4) pe_int (fun _ _ => rfl)))) pa_nil))) (pg_name (i := 2) sc__law_due.nd rfl (by first | exact Or.inl rfl | exact Or.inr rfl)) (pss_cons (ps_set (i := 3) sc__law_due.nd rfl (by first | exact Or.inl rfl | exact Or.inr rfl) (Com.pcall G__law_room (hr.mono (by decide)) (by rfl) pass0 (pa_cons (pv 0) (pa_cons (pv 2) pa_nil))))
      (pss_one (ps_if (PW.pt (pw_and (pt_cmpR op_ne (pv 3) pe_str (nomark _)) (pw_and (pt_cmpR op_ne (pv 3) pe_str (nomark _)) (pw_and1 (pt_cmpR op_eq (pv 3) (Com.pcall G__law_room (hr.mono (by decide)) (by rfl) pass0 (pa_cons (pv 1) (pa_cons (pv 2) pa_nil))) (nomark _)))))) (pss_one (ps_ret (pe_tup (pa_cons (pv 2) (pa_cons (pv 3) pa_nil))))) pss_nil))))
      (pss_one (ps_ret pe_non))), ?_⟩
    simp only [L2.start, List.map_cons, List.map_nil, List.length_cons, List.length_nil, List.cons_append, List.nil_append, Nat.reduceAdd, Nat.reduceSub, List.replicate_succ, List.replicate_zero]
    obtain ⟨p, q, vs, ws, rs, ss, rfl, rfl, hp, hq, ors, oss, l1, l2, qk⟩ := h
    have a1 := ors.1
    have a2 := oss.1
    try simp only [Com.wp, Option.some.injEq, exists_eq_left', true_and, and_true, and_self, Int.reduceLT, Int.reduceLE, Int.reduceNeg, Int.reduceAdd, Int.reduceSub, Int.reducePow, Int.reduceToNat, Nat.reduceAdd, Nat.reduceLT, Nat.reduceLeDiff, hp, hq]
    refine ⟨line_of (by omega), ?_⟩
    intro r hr
    have sm1 := same_new (o := .lst (vs ++ ws)) hr
    have h1 : upd H r (.lst (vs ++ ws)) r = some (.lst (vs ++ ws)) := upd_same
    generalize upd H r (.lst (vs ++ ws)) = H1 at sm1 h1 ⊢
    have ob := (ors.mono (same_tx sm1)).app (oss.mono (same_tx sm1))
    try simp only [Com.wp, Option.some.injEq, exists_eq_left', true_and, and_true, and_self, Int.reduceLT, Int.reduceLE, Int.reduceNeg, Int.reduceAdd, Int.reduceSub, Int.reducePow, Int.reduceToNat, Nat.reduceAdd, Nat.reduceLT, Nat.reduceLeDiff, h1]
    refine Com.lcL (vs ++ ws) fun D hD => ⟨fun i H2 => H2 = upd H1 D (.lst ((((rs ++ ss).take i).map (·.2.1)).map V.int)), rfl, ?_, ?_, ?_⟩
    · rintro i H2 rfl
      exact SqL.of (same_new hD _ _ h1)
    · rintro i x H2 hi hx rfl
      obtain ⟨s, t, hs, rfl, ht⟩ := ob.get hx
      have ht : H1 t = some (.tup [.str s.1, .int s.2.1, .int s.2.2]) := ht
      have lt : ((((rs ++ ss).take i).map (·.2.1)).map V.int).length < sizeLine := by
        rw [List.length_map, List.length_map, List.length_take]
        rw [List.length_append] at hi
        exact line_lt (by omega)
      try simp only [Com.wp, Option.some.injEq, exists_eq_left', true_and, and_true, and_self, Int.reduceLT, Int.reduceLE, Int.reduceNeg, Int.reduceAdd, Int.reduceSub, Int.reducePow, Int.reduceToNat, Nat.reduceAdd, Nat.reduceLT, Nat.reduceLeDiff, ht, hD, lt, upd_upd]
      rw [take_succ_at hs, List.map_append, List.map_append]
      rfl
    · rintro H2 rfl
      have sm2 := sm1.trans (same_new (o := .lst ((((rs ++ ss).take (vs ++ ws).length).map (·.2.1)).map V.int)) hD)
      rw [ob.1, List.take_length] at sm2 ⊢
      try simp only [Com.wp, Option.some.injEq, exists_eq_left', true_and, and_true, and_self, Int.reduceLT, Int.reduceLE, Int.reduceNeg, Int.reduceAdd, Int.reduceSub, Int.reducePow, Int.reduceToNat, Nat.reduceAdd, Nat.reduceLT, Nat.reduceLeDiff]
      refine ⟨enters rs ss, rfl, fun ns p' pm sd hp' => ?_⟩
      have sm3 := sm2.trans (same_new (o := .lst (ns.map V.int)) hp')
      try simp only [Com.wp, Option.some.injEq, exists_eq_left', true_and, and_true, and_self, Int.reduceLT, Int.reduceLE, Int.reduceNeg, Int.reduceAdd, Int.reduceSub, Int.reducePow, Int.reduceToNat, Nat.reduceAdd, Nat.reduceLT, Nat.reduceLeDiff]
      refine Com.loopL (ns.map V.int) (fun i s2 H5 => ∃ x2 x3 x4, s2 = [some (.ref p), some (.ref q), x2, x3, x4] ∧ Same H H5 ∧ H5 p' = some (.lst (ns.map V.int)) ∧ ∀ m ∈ ns.take i, ∀ z, ¬ MeetAt rs ss m z) ⟨_, _, _, rfl, sm3, upd_same, by simp⟩ (fun i s2 H5 ⟨_, _, _, _, _, e, _⟩ => e) ?_ ?_
      · rintro i x s2 H5 hi hx ⟨x2, x3, x4, rfl, sm5, h5, no⟩
        obtain ⟨m, hm, rfl⟩ := map_get hx
        have miss : (∀ z, ¬ MeetAt rs ss m z) → ∀ m' ∈ ns.take (i + 1), ∀ z, ¬ MeetAt rs ss m' z := fun h m' hm' => by
          rcases (mem_take_succ hm).mp hm' with hm' | rfl
          · exact no m' hm'
          · exact h
        try simp only [Com.wp, Option.some.injEq, exists_eq_left', true_and, and_true, and_self, Int.reduceLT, Int.reduceLE, Int.reduceNeg, Int.reduceAdd, Int.reduceSub, Int.reducePow, Int.reduceToNat, Nat.reduceAdd, Nat.reduceLT, Nat.reduceLeDiff]
        refine ⟨_, _, rfl, p, vs, rs, m, rfl, rfl, sm5 _ _ hp, ors.mono (same_tx sm5), ?_⟩
        try simp only [Com.wp, Option.some.injEq, exists_eq_left', true_and, and_true, and_self, Int.reduceLT, Int.reduceLE, Int.reduceNeg, Int.reduceAdd, Int.reduceSub, Int.reducePow, Int.reduceToNat, Nat.reduceAdd, Nat.reduceLT, Nat.reduceLeDiff]
        refine Com.andk (fun c1 => ?_) (fun c1 => Com.ifk (fun e => Bool.noConfusion e) (fun _ => ?_))
        · try simp only [Com.wp, Option.some.injEq, exists_eq_left', true_and, and_true, and_self, Int.reduceLT, Int.reduceLE, Int.reduceNeg, Int.reduceAdd, Int.reduceSub, Int.reducePow, Int.reduceToNat, Nat.reduceAdd, Nat.reduceLT, Nat.reduceLeDiff]
          refine Com.andk (fun c2 => ?_) (fun c2 => Com.ifk (fun e => Bool.noConfusion e) (fun _ => ?_))
          · try simp only [Com.wp, Option.some.injEq, exists_eq_left', true_and, and_true, and_self, Int.reduceLT, Int.reduceLE, Int.reduceNeg, Int.reduceAdd, Int.reduceSub, Int.reducePow, Int.reduceToNat, Nat.reduceAdd, Nat.reduceLT, Nat.reduceLeDiff]
            refine ⟨_, _, rfl, q, ws, ss, m, rfl, rfl, sm5 _ _ hq, oss.mono (same_tx sm5), ?_⟩
            try simp only [Com.wp, Option.some.injEq, exists_eq_left', true_and, and_true, and_self, Int.reduceLT, Int.reduceLE, Int.reduceNeg, Int.reduceAdd, Int.reduceSub, Int.reducePow, Int.reduceToNat, Nat.reduceAdd, Nat.reduceLT, Nat.reduceLeDiff]
            refine Com.ifk (fun c3 => ?_) (fun c3 => ?_)
            · try simp only [Com.wp, Option.some.injEq, exists_eq_left', true_and, and_true, and_self, Int.reduceLT, Int.reduceLE, Int.reduceNeg, Int.reduceAdd, Int.reduceSub, Int.reducePow, Int.reduceToNat, Nat.reduceAdd, Nat.reduceLT, Nat.reduceLeDiff]
              intro t ht
              have me : MeetAt rs ss m (roomF rs m) := ⟨rfl, by simpa using c1, by simpa using c2, by simpa using c3⟩
              exact qk _ _ (sm5.trans (same_new ht)) (.inr ⟨t, m, _, rfl, upd_same, pm.mem_iff.mp (List.mem_of_getElem? hm), me, fun m' h1 h2 => no m' (before_of sd hm (pm.mem_iff.mpr h1) h2)⟩)
            · try simp only [Com.wp, Option.some.injEq, exists_eq_left', true_and, and_true, and_self, Int.reduceLT, Int.reduceLE, Int.reduceNeg, Int.reduceAdd, Int.reduceSub, Int.reducePow, Int.reduceToNat, Nat.reduceAdd, Nat.reduceLT, Nat.reduceLeDiff]
              exact ⟨_, _, _, rfl, sm5, h5, miss fun z me => by have := me.2.2.2; rw [← me.1] at this; simp at c3; exact c3 this⟩
          · try simp only [Com.wp, Option.some.injEq, exists_eq_left', true_and, and_true, and_self, Int.reduceLT, Int.reduceLE, Int.reduceNeg, Int.reduceAdd, Int.reduceSub, Int.reducePow, Int.reduceToNat, Nat.reduceAdd, Nat.reduceLT, Nat.reduceLeDiff]
            exact ⟨_, _, _, rfl, sm5, h5, miss fun z me => by have := me.2.2.1; rw [← me.1] at this; simp at c2; exact this c2⟩
        · try simp only [Com.wp, Option.some.injEq, exists_eq_left', true_and, and_true, and_self, Int.reduceLT, Int.reduceLE, Int.reduceNeg, Int.reduceAdd, Int.reduceSub, Int.reducePow, Int.reduceToNat, Nat.reduceAdd, Nat.reduceLT, Nat.reduceLeDiff]
          exact ⟨_, _, _, rfl, sm5, h5, miss fun z me => by have := me.2.1; rw [← me.1] at this; simp at c1; exact this c1⟩
      · rintro s2 H5 ⟨x2, x3, x4, rfl, sm5, h5, no⟩
        try simp only [Com.wp, Option.some.injEq, exists_eq_left', true_and, and_true, and_self, Int.reduceLT, Int.reduceLE, Int.reduceNeg, Int.reduceAdd, Int.reduceSub, Int.reducePow, Int.reduceToNat, Nat.reduceAdd, Nat.reduceLT, Nat.reduceLeDiff]
        rw [List.length_map, List.take_length] at no
        exact qk _ _ sm5 (.inl ⟨rfl, fun m hm => no m (pm.mem_iff.mpr hm)⟩)
-- _law_is_int
def sp__law_is_int (_ : PySem.W.Frag) : Sp := Com.Sp1 fun x H Q _ => ∃ i : Int, x = .int i ∧ Q (.bl true) H
set_option maxHeartbeats 4000000 in
theorem ok__law_is_int {P : Program} {w : World} {K : PySem.W.Frag} {mg : Str → Option Value} {base : Heap} (T : Txt K mg) : Com.Fn P w K mg base CX0 1 "_law_is_int" ["_law_value"] (sp__law_is_int K) := by
  obtain ⟨fd, F⟩ := T.F__law_is_int
  refine ⟨He.ga K "_law_is_int", fd, F.ok sc__law_is_int (fun vs H Q E h => ?_) (fun cdv A outer s H vs Q E hr h => ?_), T.g__law_is_int, F.kp, F.bindsN fun _ _ _ _ _ _ us hl => match us, hl with | [_], _ => rfl⟩
  · obtain ⟨_, rfl, _⟩ := h
    rfl
  · obtain ⟨a0, rfl, h⟩ := h
    refine ⟨_, PSs.nox (pss_one (ps_ret (pe_and (pe_callB Com.qisi (by rfl) T.b_isinstance (by decide +kernel) (pa_cons (pv 0) (pa_cons (pe_bltn (v := .ty "int") (by rfl) T.b_int (by decide +kernel) rfl) pa_nil))) (pe_one (pe_not (pe_callB Com.qisi (by rfl) T.b_isinstance (by decide +kernel) (pa_cons (pv 0) (pa_cons (pe_bltn (v := .ty "bool") (by rfl) T.b_bool (by decide +kernel) rfl) pa_nil)))))))), ?_⟩
    simp only [L2.start, List.map_cons, List.map_nil, List.length_cons, List.length_nil, List.cons_append, List.nil_append, Nat.reduceAdd, Nat.reduceSub, List.replicate_succ, List.replicate_zero]
    obtain ⟨i, rfl, q⟩ := h
    try simp only [Com.wp, Option.some.injEq, exists_eq_left', true_and, and_true, and_self, Int.reduceLT, Int.reduceLE, Int.reduceNeg, Int.reduceAdd, Int.reduceSub, Int.reducePow, Int.reduceToNat, Nat.reduceAdd, Nat.reduceLT, Nat.reduceLeDiff]
    refine Com.andVk (fun _ => ?_) (fun e => Bool.noConfusion e)
    try simp only [Com.wp, Option.some.injEq, exists_eq_left', true_and, and_true, and_self, Int.reduceLT, Int.reduceLE, Int.reduceNeg, Int.reduceAdd, Int.reduceSub, Int.reducePow, Int.reduceToNat, Nat.reduceAdd, Nat.reduceLT, Nat.reduceLeDiff]
    exact q
theorem rwD_eqv (r : Rw) : PyData.eqv (rwD r) (rwD r) = true := by
  simp [rwD, PyData.eqv, PyData.eqvAll]
theorem rwDs_eqv : ∀ rs : List Rw, PyData.eqvAll (rs.map rwD) (rs.map rwD) = true
  | [] => by simp [PyData.eqvAll]
  | r :: rs => by simp [PyData.eqvAll, rwD_eqv r, rwDs_eqv rs]
theorem rwDs_shaped (rs : List Rw) (tx : ∀ r ∈ rs, PyData.strOk r.1 = true) : SeqAt.shaped (.list (rs.map rwD)) = true := by
  have h1 : ∀ rs : List Rw, (∀ r ∈ rs, PyData.strOk r.1 = true) → PyData.canLayAll0 (rs.map rwD) = true ∧ PyData.depthAll (rs.map rwD) ≤ 2 := fun rs => by
    induction rs with
    | nil => intro _; simp [PyData.canLayAll0, PyData.depthAll]
    | cons r rs ih =>
      intro tx
      have ih := ih fun r hr => tx r (by simp [hr])
      have tr := tx r (by simp)
      have : (rwD r).depth = 1 := by simp [rwD, PyData.depth, PyData.depthAll]
      refine ⟨by simp [PyData.canLayAll0, ih.1, rwD, PyData.canLay0, tr], ?_⟩
      simp only [List.map_cons, PyData.depthAll]
      omega
  obtain ⟨a, b⟩ := h1 rs tx
  show (PyData.canLay0 (.list (rs.map rwD)) && decide (PyData.depth (.list (rs.map rwD)) ≤ 64)) = true
  rw [Bool.and_eq_true]
  refine ⟨by simp only [PyData.canLay0]; exact a, decide_eq_true ?_⟩
  simp only [PyData.depth]
  omega
theorem rows_dp {K : PySem.W.Frag} {H : Hp} {p : Addr} {vs : List V} {rs : List Rw} (hp : H p = some (.lst vs)) (o : ObsAt rwV H vs rs) : Dp K H (.ref p) (.list (rs.map rwD)) :=
  .lst (SqL.of hp) (o.dp fun r t e => .tup (SqT.of e) (.cons (.str _) (.cons (.int _) (.cons (.int _) .nil))))
theorem rows_ne {K : PySem.W.Frag} {H : Hp} {p q : Addr} {vs ws : List V} {rs : List Rw} {R : VK} (tx : ∀ r ∈ rs, PyData.strOk r.1 = true) (hp : H p = some (.lst vs)) (hq : H q = some (.lst ws)) (o : ObsAt rwV H vs rs) (o' : ObsAt rwV H ws rs) (h : R (.bl false) H) : rNeD K (.ref p) (.ref q) H R :=
  ⟨_, _, rows_dp hp o, rows_dp hq o', rwDs_shaped rs tx, rwDs_shaped rs tx, by
    have e : PyData.eqv (.list (rs.map rwD)) (.list (rs.map rwD)) = true := by simp only [PyData.eqv]; exact rwDs_eqv rs
    rw [e]; exact h⟩
theorem told_eq {K : PySem.W.Frag} {H : Hp} {p q : Addr} {m : Int} {z : Str} {R : VK} (tx : PyData.strOk z = true) (hp : H p = some (.tup [.int m, .str z])) (hq : H q = some (.tup [.int m, .str z])) (h : R (.bl true) H) : rEqD K (.ref p) (.ref q) H R := by
  have d : ∀ {a : Addr}, H a = some (.tup [.int m, .str z]) → Dp K H (.ref a) (.tuple [.int m, .str z]) := fun e => .tup (SqT.of e) (.cons (.int _) (.cons (.str _) .nil))
  have sh : SeqAt.shaped (.tuple [.int m, .str z]) = true := by
    show (PyData.canLay0 (.tuple [.int m, .str z]) && decide (PyData.depth (.tuple [.int m, .str z]) ≤ 64)) = true
    simp [PyData.canLay0, PyData.canLayAll0, PyData.depth, PyData.depthAll, tx]
  refine ⟨_, _, d hp, d hq, sh, sh, ?_⟩
  have e : PyData.eqv (.tuple [.int m, .str z]) (.tuple [.int m, .str z]) = true := by simp [PyData.eqv, PyData.eqvAll]
  rw [e]; exact h
-- _law_right
def sp__law_right (_ : PySem.W.Frag) : Sp := Com.Sp2 fun x y H Q _ => ∃ (p q : Addr) (vs ws : List V) (rs ss : List Rw), x = .ref p ∧ y = .ref q ∧ H p = some (.lst vs) ∧ H q = some (.lst ws) ∧ ObsAt rwV H vs rs ∧ ObsAt rwV H ws ss ∧ rs.length ≤ 1000 ∧ ss.length ≤ 1000 ∧ WalkOk rs ∧ WalkOk ss ∧ ∀ H', Same H H' → Q (.bl true) H'
set_option maxHeartbeats 4000000 in
theorem ok__law_right {P : Program} {w : World} {K : PySem.W.Frag} {mg : Str → Option Value} {base : Heap} (T : Txt K mg) : Com.Fn P w K mg base CX0 3 "_law_right" ["_law_one", "_law_two"] (sp__law_right K) := by
  have G_shared := ok_shared (P := P) (w := w) (base := base) T
  have G__law_due := ok__law_due (P := P) (w := w) (base := base) T
  have G__law_is_int := ok__law_is_int (P := P) (w := w) (base := base) T
  obtain ⟨fd, F⟩ := T.F__law_right
  refine ⟨He.ga K "_law_right", fd, F.ok sc__law_right (fun vs H Q E h => ?_) (fun cdv A outer s H vs Q E hr h => ?_), T.g__law_right, F.kp, F.bindsN fun _ _ _ _ _ _ us hl => match us, hl with | [_, _], _ => rfl⟩
  · obtain ⟨_, _, rfl, _⟩ := h
    rfl
  · obtain ⟨a0, a1, rfl, h⟩ := h
    refine ⟨_, PSs.nox (pss_cons (ps_set (i := 2) sc__law_right.nd rfl (by first | exact Or.inl rfl | exact Or.inr rfl) (pe_callTy Com.qlist (by rfl) T.b_list (by decide +kernel) (pa_cons (pv 0) pa_nil)))
      (pss_cons (ps_set (i := 3) sc__law_right.nd rfl (by first | exact Or.inl rfl | exact Or.inr rfl) (pe_callTy Com.qlist (by rfl) T.b_list (by decide +kernel) (pa_cons (pv 1) pa_nil)))
      (pss_cons (ps_set (i := 4) sc__law_right.nd rfl (by first | exact Or.inl rfl | exact Or.inr rfl) (Com.pcall G_shared (hr.mono (by decide)) (by rfl) pass0 (pa_cons (pv 2) (pa_cons (pv 3) pa_nil))))
      (pss_cons (ps_set (i := 5) sc__law_right.nd rfl (by first | exact Or.inl rfl | exact Or.inr rfl) (Com.pcall G__law_due (hr.mono (by decide)) (by rfl) pass0 (pa_cons (pv 0) (pa_cons (pv 1) pa_nil))))
      (pss_cons (ps_if (PW.pt (pw_or (pt_cmpR (op_neD hr.units) (pv 2) (pv 0) (nomark _)) (pw_or1 (pt_cmpR (op_neD hr.units) (pv 3) (pv 1) (nomark _))))) (pss_one (ps_ret pe_bl)) pss_nil)
      (pss_cons (ps_if (pt_cmpR Com.qisN (pv 5) pe_non (nomark _)) (pss_one (ps_ret (pe_cmpR Com.qisN (pv 4) pe_non (nomark _)))) pss_nil)
      (pss_cons (ps_if (PW.pt (pw_or (pt_not (pt_val (pe_callB Com.qisi (by rfl) T.b_isinstance (by decide +kernel) (pa_cons (pv 4) (pa_cons (pe_bltn (v := .ty "tuple") (by rfl) T.b_tuple (by decide +kernel) rfl) pa_nil))))) (pw_or1 (pt_cmpR op_ne (pe_callB Com.qlen (by rfl) T.b_len (by decide +kernel) (pa_cons (pv 4) pa_nil)) pe_int (nomark _))))) (pss_one (ps_ret pe_bl)) pss_nil)
      (pss_one (ps_ret (pe_and (Com.pcall G__law_is_int (hr.mono (by decide)) (by rfl) pass0 (pa_cons (pe_ix Com.qix_tup (pv 4) pe_int (fun _ _ => rfl)) pa_nil)) (pe_and (pe_callB Com.qisi (by rfl) T.b_isinstance (by decide +kernel) (pa_cons (pe_ix Com.qix_tup (pv 4) pe_int (fun _ _ => rfl)) (pa_cons (pe_bltn (v := .ty "str") (by rfl) T.b_str (by decide +kernel) rfl) pa_nil))) (pe_one (pe_cmpR (op_eqD hr.units) (pv 4) (pv 5) (nomark _)))))))))))))), ?_⟩
    simp only [L2.start, List.map_cons, List.map_nil, List.length_cons, List.length_nil, List.cons_append, List.nil_append, Nat.reduceAdd, Nat.reduceSub, List.replicate_succ, List.replicate_zero]
    obtain ⟨p, q, vs, ws, rs, ss, rfl, rfl, hp, hq, ors, oss, l1, l2, w1, w2, qk⟩ := h
    try simp only [Com.wp, Option.some.injEq, exists_eq_left', true_and, and_true, and_self, Int.reduceLT, Int.reduceLE, Int.reduceNeg, Int.reduceAdd, Int.reduceSub, Int.reducePow, Int.reduceToNat, Nat.reduceAdd, Nat.reduceLT, Nat.reduceLeDiff, hp]
    intro g hg
    have sm1 := same_new (o := .lst vs) hg
    have g1 : upd H g (.lst vs) g = some (.lst vs) := upd_same
    generalize upd H g (.lst vs) = H1 at sm1 g1 ⊢
    have hq1 := sm1 _ _ hq
    try simp only [Com.wp, Option.some.injEq, exists_eq_left', true_and, and_true, and_self, Int.reduceLT, Int.reduceLE, Int.reduceNeg, Int.reduceAdd, Int.reduceSub, Int.reducePow, Int.reduceToNat, Nat.reduceAdd, Nat.reduceLT, Nat.reduceLeDiff, hq1]
    intro k hk
    have sm2 := same_new (o := .lst ws) hk
    have k2 : upd H1 k (.lst ws) k = some (.lst ws) := upd_same
    generalize upd H1 k (.lst ws) = H2 at sm2 k2 ⊢
    have smA := sm1.trans sm2
    try simp only [Com.wp, Option.some.injEq, exists_eq_left', true_and, and_true, and_self, Int.reduceLT, Int.reduceLE, Int.reduceNeg, Int.reduceAdd, Int.reduceSub, Int.reducePow, Int.reduceToNat, Nat.reduceAdd, Nat.reduceLT, Nat.reduceLeDiff]
    refine ⟨_, _, rfl, g, k, vs, ws, rs, ss, rfl, rfl, sm2 _ _ g1, k2, ors.mono (same_tx smA), oss.mono (same_tx smA), fun H3 v sm3 fo => ?_⟩
    have smB := smA.trans sm3
    try simp only [Com.wp, Option.some.injEq, exists_eq_left', true_and, and_true, and_self, Int.reduceLT, Int.reduceLE, Int.reduceNeg, Int.reduceAdd, Int.reduceSub, Int.reducePow, Int.reduceToNat, Nat.reduceAdd, Nat.reduceLT, Nat.reduceLeDiff]
    refine ⟨_, _, rfl, p, q, vs, ws, rs, ss, rfl, rfl, smB _ _ hp, smB _ _ hq, ors.mono (same_tx smB), oss.mono (same_tx smB), l1, l2, fun H4 u sm4 du => ?_⟩
    have smC := smB.trans sm4
    have fo := fo.same sm4
    have g4 := sm4 _ _ (sm3 _ _ (sm2 _ _ g1))
    have k4 := sm4 _ _ (sm3 _ _ k2)
    have ors4 := ors.mono (same_tx smC)
    have oss4 := oss.mono (same_tx smC)
    have done := qk H4 smC
    try simp only [Com.wp, Option.some.injEq, exists_eq_left', true_and, and_true, and_self, Int.reduceLT, Int.reduceLE, Int.reduceNeg, Int.reduceAdd, Int.reduceSub, Int.reducePow, Int.reduceToNat, Nat.reduceAdd, Nat.reduceLT, Nat.reduceLeDiff]
    refine rows_ne w1.tx g4 (smC _ _ hp) ors4 ors4 ?_
    try simp only [Com.wp, Option.some.injEq, exists_eq_left', true_and, and_true, and_self, Int.reduceLT, Int.reduceLE, Int.reduceNeg, Int.reduceAdd, Int.reduceSub, Int.reducePow, Int.reduceToNat, Nat.reduceAdd, Nat.reduceLT, Nat.reduceLeDiff]
    refine Com.ork (fun e => Bool.noConfusion e) (fun _ => ?_)
    try simp only [Com.wp, Option.some.injEq, exists_eq_left', true_and, and_true, and_self, Int.reduceLT, Int.reduceLE, Int.reduceNeg, Int.reduceAdd, Int.reduceSub, Int.reducePow, Int.reduceToNat, Nat.reduceAdd, Nat.reduceLT, Nat.reduceLeDiff]
    refine rows_ne w2.tx k4 (smC _ _ hq) oss4 oss4 ?_
    try simp only [Com.wp, Option.some.injEq, exists_eq_left', true_and, and_true, and_self, Int.reduceLT, Int.reduceLE, Int.reduceNeg, Int.reduceAdd, Int.reduceSub, Int.reducePow, Int.reduceToNat, Nat.reduceAdd, Nat.reduceLT, Nat.reduceLeDiff]
    refine Com.ifk (fun e => Bool.noConfusion e) (fun _ => ?_)
    rcases du with ⟨rfl, no⟩ | ⟨t, m, z, rfl, ht, mem, me, min⟩
    · try simp only [Com.wp, Option.some.injEq, exists_eq_left', true_and, and_true, and_self, Int.reduceLT, Int.reduceLE, Int.reduceNeg, Int.reduceAdd, Int.reduceSub, Int.reducePow, Int.reduceToNat, Nat.reduceAdd, Nat.reduceLT, Nat.reduceLeDiff]
      refine Com.ifk (fun _ => ?_) (fun e => Bool.noConfusion e)
      rcases fo with ⟨rfl, _⟩ | ⟨t', m', z', rfl, ht', ⟨r, s, ⟨hr, hs⟩, hh, _⟩, _⟩
      · try simp only [Com.wp, Option.some.injEq, exists_eq_left', true_and, and_true, and_self, Int.reduceLT, Int.reduceLE, Int.reduceNeg, Int.reduceAdd, Int.reduceSub, Int.reducePow, Int.reduceToNat, Nat.reduceAdd, Nat.reduceLT, Nat.reduceLeDiff]
        exact done
      · exact absurd hh (due_none w1 w2 no r s hr hs)
    · try simp only [Com.wp, Option.some.injEq, exists_eq_left', true_and, and_true, and_self, Int.reduceLT, Int.reduceLE, Int.reduceNeg, Int.reduceAdd, Int.reduceSub, Int.reducePow, Int.reduceToNat, Nat.reduceAdd, Nat.reduceLT, Nat.reduceLeDiff]
      refine Com.ifk (fun e => Bool.noConfusion e) (fun _ => ?_)
      rcases fo with ⟨rfl, none⟩ | ⟨t', m', z', rfl, ht', b1, b2⟩
      · obtain ⟨r, hr, s, hs, hh, _⟩ := hit_of me
        exact absurd hh (none r s ⟨hr, hs⟩)
      · obtain ⟨rfl, rfl⟩ := due_best w1 w2 b1 b2 me min
        try simp only [Com.wp, Option.some.injEq, exists_eq_left', true_and, and_true, and_self, Int.reduceLT, Int.reduceLE, Int.reduceNeg, Int.reduceAdd, Int.reduceSub, Int.reducePow, Int.reduceToNat, Nat.reduceAdd, Nat.reduceLT, Nat.reduceLeDiff, ht']
        refine Com.ork (fun e => by simp at e) (fun _ => ?_)
        try simp only [Com.wp, Option.some.injEq, exists_eq_left', true_and, and_true, and_self, Int.reduceLT, Int.reduceLE, Int.reduceNeg, Int.reduceAdd, Int.reduceSub, Int.reducePow, Int.reduceToNat, Nat.reduceAdd, Nat.reduceLT, Nat.reduceLeDiff, ht', List.length_cons, List.length_nil]
        refine Com.ifk (fun e => by simp at e) (fun _ => ?_)
        try simp only [Com.wp, Option.some.injEq, exists_eq_left', true_and, and_true, and_self, Int.reduceLT, Int.reduceLE, Int.reduceNeg, Int.reduceAdd, Int.reduceSub, Int.reducePow, Int.reduceToNat, Nat.reduceAdd, Nat.reduceLT, Nat.reduceLeDiff, ht']
        refine ⟨_, rfl, _, rfl, ?_⟩
        try simp only [Com.wp, Option.some.injEq, exists_eq_left', true_and, and_true, and_self, Int.reduceLT, Int.reduceLE, Int.reduceNeg, Int.reduceAdd, Int.reduceSub, Int.reducePow, Int.reduceToNat, Nat.reduceAdd, Nat.reduceLT, Nat.reduceLeDiff]
        refine Com.andVk (fun _ => ?_) (fun e => Bool.noConfusion e)
        try simp only [Com.wp, Option.some.injEq, exists_eq_left', true_and, and_true, and_self, Int.reduceLT, Int.reduceLE, Int.reduceNeg, Int.reduceAdd, Int.reduceSub, Int.reducePow, Int.reduceToNat, Nat.reduceAdd, Nat.reduceLT, Nat.reduceLeDiff, ht']
        refine Com.andVk (fun _ => ?_) (fun e => Bool.noConfusion e)
        try simp only [Com.wp, Option.some.injEq, exists_eq_left', true_and, and_true, and_self, Int.reduceLT, Int.reduceLE, Int.reduceNeg, Int.reduceAdd, Int.reduceSub, Int.reducePow, Int.reduceToNat, Nat.reduceAdd, Nat.reduceLT, Nat.reduceLeDiff]
        obtain ⟨r, s, ⟨hr, hs⟩, _, _, ez⟩ := b1
        exact told_eq (by rw [ez]; exact w1.tx r hr) ht' ht done
-- law
def sp_law (K : PySem.W.Frag) : Sp := Com.Sp1 fun x H Q _ => ∃ (s : Addr) (ns : List Int), x = .ref s ∧ SqL K H s (ns.map V.int) ∧ ns.length ≤ 63 ∧ ∀ H', Q (.bl true) H'
theorem draw_ok {w g : Int} {s : Rw} (h : StayOk w g s) : 1 ≤ s.2.1 ∧ s.1 ≠ noS ∧ PyData.strOk s.1 = true := ⟨h.2.1, name_ne h.1, name_strOk h.1⟩
theorem walkR_len (ss : List Rw) (ls : List Int) (e : Int) : (walkR ss ls e).length = ss.length := by
  unfold walkR
  rw [List.length_map, List.length_range]
set_option maxHeartbeats 4000000 in
theorem okF_law {P : Program} {w : World} {K : PySem.W.Frag} {mg : Str → Option Value} {base : Heap} (T : Txt K mg) {fd : FuncData} (F : FunD K "law" "law" (defArgs s_law) (defBody s_law) (defScope s_law) [] [] (He.ga K "law") fd) : FnOk P w K mg base CX0 5 (He.ga K "law") fd ["_law_script"] (sp_law K) := by
  have G__law_state := ok__law_state (P := P) (w := w) (base := base) T
  have G__law_limit := ok__law_limit (P := P) (w := w) (base := base) T
  have G__law_rooms := ok__law_rooms (P := P) (w := w) (base := base) T
  have G__law_stays := ok__law_stays (P := P) (w := w) (base := base) T
  have G__law_lengths := ok__law_lengths (P := P) (w := w) (base := base) T
  have G__law_signed := ok__law_signed (P := P) (w := w) (base := base) T
  have G__law_walk := ok__law_walk (P := P) (w := w) (base := base) T
  have G__law_apart := ok__law_apart (P := P) (w := w) (base := base) T
  have G__law_right := ok__law_right (P := P) (w := w) (base := base) T
  refine F.ok sc_law (fun vs H Q E h => ?_) (fun cdv A outer s H vs Q E hr h => ?_)
  · obtain ⟨_, rfl, _⟩ := h
    rfl
  · obtain ⟨a0, rfl, h⟩ := h
    refine ⟨_, PSs.nox (pss_cons (ps_set (i := 1) sc_law.nd rfl (by first | exact Or.inl rfl | exact Or.inr rfl) (Com.pcall G__law_state (hr.mono (by decide)) (by rfl) pass0 (pa_cons (pv 0) pa_nil)))
      (pss_cons (ps_set (i := 2) sc_law.nd rfl (by first | exact Or.inl rfl | exact Or.inr rfl) (Com.pcall G__law_limit (hr.mono (by decide)) (by rfl) pass0 (pa_cons (pv 1) pa_nil)))
      (pss_cons (ps_set (i := 3) sc_law.nd rfl (by first | exact Or.inl rfl | exact Or.inr rfl) (Com.pcall G__law_limit (hr.mono (by decide)) (by rfl) pass0 (pa_cons (pv 1) pa_nil)))
      (pss_cons (ps_set (i := 4) sc_law.nd rfl (by first | exact Or.inl rfl | exact Or.inr rfl) (Com.pcall G__law_rooms (hr.mono (by decide)) (by rfl) pass0 (pa_cons (pv 1) pa_nil)))
      (pss_cons (ps_set (i := 5) sc_law.nd rfl (by first | exact Or.inl rfl | exact Or.inr rfl) (Com.pcall G__law_stays (hr.mono (by decide)) (by rfl) pass0 (pa_cons (pv 1) (pa_cons (pv 4) (pa_cons (pv 2) (pa_cons (pv 3) pa_nil))))))
      (pss_cons (ps_set (i := 6) sc_law.nd rfl (by first | exact Or.inl rfl | exact Or.inr rfl) (Com.pcall G__law_stays (hr.mono (by decide)) (by rfl) pass0 (pa_cons (pv 1) (pa_cons (pv 4) (pa_cons (pv 2) (pa_cons (pv 3) pa_nil))))))
      (pss_cons (ps_set (i := 7) sc_law.nd rfl (by first | exact Or.inl rfl | exact Or.inr rfl) (Com.pcall G__law_lengths (hr.mono (by decide)) (by rfl) pass0 (pa_cons (pv 1) (pa_cons (pv 5) pa_nil))))
      (pss_cons (ps_set (i := 8) sc_law.nd rfl (by first | exact Or.inl rfl | exact Or.inr rfl) (Com.pcall G__law_lengths (hr.mono (by decide)) (by rfl) pass0 (pa_cons (pv 1) (pa_cons (pv 6) pa_nil))))
      (pss_cons (ps_set (i := 9) sc_law.nd rfl (by first | exact Or.inl rfl | exact Or.inr rfl) (Com.pcall G__law_signed (hr.mono (by decide)) (by rfl) pass0 (pa_cons (pv 1) (pa_cons (Com.pcall G__law_limit (hr.mono (by decide)) (by rfl) pass0 (pa_cons (pv 1) pa_nil)) pa_nil))))
      (pss_cons (ps_set (i := 10) sc_law.nd rfl (by first | exact Or.inl rfl | exact Or.inr rfl) (Com.pcall G__law_walk (hr.mono (by decide)) (by rfl) pass0 (pa_cons (pv 5) (pa_cons (pv 9) (pa_cons (pv 7) pa_nil)))))
      (pss_cons (ps_set (i := 11) sc_law.nd rfl (by first | exact Or.inl rfl | exact Or.inr rfl) (Com.pcall G__law_apart (hr.mono (by decide)) (by rfl) pass0 (pa_cons (pv 1) (pa_cons (pv 10) (pa_cons (Com.pcall G__law_walk (hr.mono (by decide)) (by rfl) pass0 (pa_cons (pv 6) (pa_cons (pv 9) (pa_cons (pv 8) pa_nil)))) pa_nil)))))
      (pss_cons (ps_set (i := 12) sc_law.nd rfl (by first | exact Or.inl rfl | exact Or.inr rfl) (Com.pcall G__law_walk (hr.mono (by decide)) (by rfl) pass0 (pa_cons (pv 6) (pa_cons (pe_op op_add (pv 9) (pv 11)) (pa_cons (pv 8) pa_nil)))))
      (pss_cons (ps_if (PW.pt (pw_or (pt_not (pt_val (Com.pcall G__law_right (hr.mono (by decide)) (by rfl) pass0 (pa_cons (pv 10) (pa_cons (pv 12) pa_nil))))) (pw_or1 (pt_not (pt_val (Com.pcall G__law_right (hr.mono (by decide)) (by rfl) pass0 (pa_cons (pv 12) (pa_cons (pv 10) pa_nil)))))))) (pss_one (ps_ret pe_bl)) pss_nil)
      (pss_one (ps_ret (pe_and (Com.pcall G__law_right (hr.mono (by decide)) (by rfl) pass0 (pa_cons (pv 10) (pa_cons (pv 10) pa_nil))) (pe_one (Com.pcall G__law_right (hr.mono (by decide)) (by rfl) pass0 (pa_cons (pv 12) (pa_cons (pv 12) pa_nil)))))))))))))))))))), ?_⟩
    simp only [L2.start, List.map_cons, List.map_nil, List.length_cons, List.length_nil, List.cons_append, List.nil_append, Nat.reduceAdd, Nat.reduceSub, List.replicate_succ, List.replicate_zero]
    obtain ⟨s0, ns, rfl, hS, hn, q⟩ := h
    have B := big51
    try simp only [Com.wp, Option.some.injEq, exists_eq_left', true_and, and_true, and_self, Int.reduceLT, Int.reduceLE, Int.reduceNeg, Int.reduceAdd, Int.reduceSub, Int.reducePow, Int.reduceToNat, Nat.reduceAdd, Nat.reduceLT, Nat.reduceLeDiff]
    refine ⟨_, rfl, s0, ns, rfl, hS, hn, fun a l c H1 st1 sm1 na nl => ?_⟩
    try simp only [Com.wp, Option.some.injEq, exists_eq_left', true_and, and_true, and_self, Int.reduceLT, Int.reduceLE, Int.reduceNeg, Int.reduceAdd, Int.reduceSub, Int.reducePow, Int.reduceToNat, Nat.reduceAdd, Nat.reduceLT, Nat.reduceLeDiff]
    refine use_limit st1 (by omega) fun many H2 w1 w2 st2 kp2 => ?_
    try simp only [Com.wp, Option.some.injEq, exists_eq_left', true_and, and_true, and_self, Int.reduceLT, Int.reduceLE, Int.reduceNeg, Int.reduceAdd, Int.reduceSub, Int.reducePow, Int.reduceToNat, Nat.reduceAdd, Nat.reduceLT, Nat.reduceLeDiff]
    refine use_limit st2 (by omega) fun lag H3 g1 g2 st3 kp3 => ?_
    try simp only [Com.wp, Option.some.injEq, exists_eq_left', true_and, and_true, and_self, Int.reduceLT, Int.reduceLE, Int.reduceNeg, Int.reduceAdd, Int.reduceSub, Int.reducePow, Int.reduceToNat, Nat.reduceAdd, Nat.reduceLT, Nat.reduceLeDiff]
    refine ⟨_, rfl, a, l, c, _, rfl, st3, by omega, fun pr zs H4 np hpr z1 z6 az st4 kp4 => ?_⟩
    have prne := st3.ne np
    try simp only [Com.wp, Option.some.injEq, exists_eq_left', true_and, and_true, and_self, Int.reduceLT, Int.reduceLE, Int.reduceNeg, Int.reduceAdd, Int.reduceSub, Int.reducePow, Int.reduceToNat, Nat.reduceAdd, Nat.reduceLT, Nat.reduceLeDiff]
    refine ⟨_, _, _, _, rfl, a, l, c, pr, _, zs, many, lag, rfl, rfl, rfl, rfl, st4, by omega, prne, hpr, by omega, az, by omega, by omega, by omega, by omega, fun p1 vs1 ss1 H5 n1 h1 o1 e1 e1' a1 st5 kp5 => ?_⟩
    have p1ne := st4.ne n1
    have hpr5 := kp5.at prne hpr
    try simp only [Com.wp, Option.some.injEq, exists_eq_left', true_and, and_true, and_self, Int.reduceLT, Int.reduceLE, Int.reduceNeg, Int.reduceAdd, Int.reduceSub, Int.reducePow, Int.reduceToNat, Nat.reduceAdd, Nat.reduceLT, Nat.reduceLeDiff]
    refine ⟨_, _, _, _, rfl, a, l, c, pr, _, zs, many, lag, rfl, rfl, rfl, rfl, st5, by omega, prne, hpr5, by omega, az, by omega, by omega, by omega, by omega, fun p2 vs2 ss2 H6 n2 h2 o2 e2 e2' a2 st6 kp6 => ?_⟩
    have p2ne := st5.ne n2
    have h16 := kp6.at p1ne h1
    have o16 := o1.mono (kp_tx st5 kp6)
    try simp only [Com.wp, Option.some.injEq, exists_eq_left', true_and, and_true, and_self, Int.reduceLT, Int.reduceLE, Int.reduceNeg, Int.reduceAdd, Int.reduceSub, Int.reducePow, Int.reduceToNat, Nat.reduceAdd, Nat.reduceLT, Nat.reduceLeDiff]
    refine ⟨_, _, rfl, a, l, c, p1, _, vs1, ss1, rfl, rfl, st6, by omega, p1ne, h16, o16, by omega, fun s hs => by obtain ⟨_, _, x, _, y⟩ := a1 s hs; exact ⟨x, by omega⟩, fun q1 ls1 H7 n3 h3 lo1 st7 kp7 => ?_⟩
    have q1ne := st6.ne n3
    have h27 := kp7.at p2ne h2
    have o27 := o2.mono (kp_tx st6 kp7)
    have h17 := kp7.at p1ne h16
    have o17 := o16.mono (kp_tx st6 kp7)
    try simp only [Com.wp, Option.some.injEq, exists_eq_left', true_and, and_true, and_self, Int.reduceLT, Int.reduceLE, Int.reduceNeg, Int.reduceAdd, Int.reduceSub, Int.reducePow, Int.reduceToNat, Nat.reduceAdd, Nat.reduceLT, Nat.reduceLeDiff]
    refine ⟨_, _, rfl, a, l, c, p2, _, vs2, ss2, rfl, rfl, st7, by omega, p2ne, h27, o27, by omega, fun s hs => by obtain ⟨_, _, x, _, y⟩ := a2 s hs; exact ⟨x, by omega⟩, fun q2 ls2 H8 n4 h4 lo2 st8 kp8 => ?_⟩
    have q2ne := st7.ne n4
    try simp only [Com.wp, Option.some.injEq, exists_eq_left', true_and, and_true, and_self, Int.reduceLT, Int.reduceLE, Int.reduceNeg, Int.reduceAdd, Int.reduceSub, Int.reducePow, Int.reduceToNat, Nat.reduceAdd, Nat.reduceLT, Nat.reduceLeDiff]
    refine use_limit st8 (by omega) fun lim H9 l1 l2 st9 kp9 => ?_
    try simp only [Com.wp, Option.some.injEq, exists_eq_left', true_and, and_true, and_self, Int.reduceLT, Int.reduceLE, Int.reduceNeg, Int.reduceAdd, Int.reduceSub, Int.reducePow, Int.reduceToNat, Nat.reduceAdd, Nat.reduceLT, Nat.reduceLeDiff]
    refine use_signed st9 (by omega) (by omega) (Int.lt_of_le_of_lt l2 big51) fun start H10 _ _ st10 kp10 => ?_
    have kpA := kp8.trans (kp9.trans kp10)
    have kpB := kp9.trans kp10
    have h1A := kpA.at p1ne h17
    have h2A := kpA.at p2ne h27
    have h3A := kpA.at q1ne h3
    have h4A := kpB.at q2ne h4
    have o1A := o17.mono (kp_tx st7 kpA)
    have o2A := o27.mono (kp_tx st7 kpA)
    try simp only [Com.wp, Option.some.injEq, exists_eq_left', true_and, and_true, and_self, Int.reduceLT, Int.reduceLE, Int.reduceNeg, Int.reduceAdd, Int.reduceSub, Int.reducePow, Int.reduceToNat, Nat.reduceAdd, Nat.reduceLT, Nat.reduceLeDiff]
    refine ⟨_, _, _, rfl, p1, q1, vs1, ss1, ls1, start, rfl, rfl, rfl, h1A, o1A, h3A, lo1.1, by omega, fun r1 ws1 H11 n5 h5 ow1 sm11 => ?_⟩
    have st11 := st10.same sm11
    have r1ne := st10.ne n5
    try simp only [Com.wp, Option.some.injEq, exists_eq_left', true_and, and_true, and_self, Int.reduceLT, Int.reduceLE, Int.reduceNeg, Int.reduceAdd, Int.reduceSub, Int.reducePow, Int.reduceToNat, Nat.reduceAdd, Nat.reduceLT, Nat.reduceLeDiff]
    refine ⟨_, _, _, rfl, p2, q2, vs2, ss2, ls2, start, rfl, rfl, rfl, sm11 _ _ h2A, o2A.mono (same_tx sm11), sm11 _ _ h4A, lo2.1, by omega, fun r2 ws2 H12 n6 h6 ow2 sm12 => ?_⟩
    have st12 := st11.same sm12
    have r2ne := st11.ne n6
    have L1 := walkR_len ss1 ls1 start
    have L2 := walkR_len ss2 ls2 start
    refine ⟨_, _, _, rfl, a, l, c, r1, r2, _, ws1, ws2, _, _, rfl, rfl, rfl, st12, by omega, r1ne, r2ne, sm12 _ _ h5, h6, ow1.mono (same_tx sm12), ow2, by omega, by omega, by omega, by omega, fun d H13 st13 kp13 => ?_⟩
    have h2B := kp13.at p2ne (sm12 _ _ (sm11 _ _ h2A))
    have o2B := ((o2A.mono (same_tx sm11)).mono (same_tx sm12)).mono (kp_tx st12 kp13)
    have h4B := kp13.at q2ne (sm12 _ _ (sm11 _ _ h4A))
    have h5B := kp13.at r1ne (sm12 _ _ h5)
    have owB := (ow1.mono (same_tx sm12)).mono (kp_tx st12 kp13)
    try simp only [Com.wp, Option.some.injEq, exists_eq_left', true_and, and_true, and_self, Int.reduceLT, Int.reduceLE, Int.reduceNeg, Int.reduceAdd, Int.reduceSub, Int.reducePow, Int.reduceToNat, Nat.reduceAdd, Nat.reduceLT, Nat.reduceLeDiff]
    refine ⟨_, _, _, rfl, p2, q2, vs2, ss2, ls2, start + d, rfl, rfl, rfl, h2B, o2B, h4B, lo2.1, by omega, fun r3 ws3 H14 n7 h7 ow3 sm14 => ?_⟩
    have L3 := walkR_len ss2 ls2 (start + d)
    have h5C := sm14 _ _ h5B
    have owC := owB.mono (same_tx sm14)
    have W1 := walk_ok (e := start) lo1 fun s hs => draw_ok (a1 s hs)
    have W2 := walk_ok (e := start + d) lo2 fun s hs => draw_ok (a2 s hs)
    try simp only [Com.wp, Option.some.injEq, exists_eq_left', true_and, and_true, and_self, Int.reduceLT, Int.reduceLE, Int.reduceNeg, Int.reduceAdd, Int.reduceSub, Int.reducePow, Int.reduceToNat, Nat.reduceAdd, Nat.reduceLT, Nat.reduceLeDiff]
    refine ⟨_, _, rfl, r1, r3, ws1, ws3, _, _, rfl, rfl, h5C, h7, owC, ow3, by omega, by omega, W1, W2, fun H15 sm15 => ?_⟩
    try simp only [Com.wp, Option.some.injEq, exists_eq_left', true_and, and_true, and_self, Int.reduceLT, Int.reduceLE, Int.reduceNeg, Int.reduceAdd, Int.reduceSub, Int.reducePow, Int.reduceToNat, Nat.reduceAdd, Nat.reduceLT, Nat.reduceLeDiff]
    refine Com.ork (fun e => Bool.noConfusion e) (fun _ => ?_)
    try simp only [Com.wp, Option.some.injEq, exists_eq_left', true_and, and_true, and_self, Int.reduceLT, Int.reduceLE, Int.reduceNeg, Int.reduceAdd, Int.reduceSub, Int.reducePow, Int.reduceToNat, Nat.reduceAdd, Nat.reduceLT, Nat.reduceLeDiff]
    refine ⟨_, _, rfl, r3, r1, ws3, ws1, _, _, rfl, rfl, sm15 _ _ h7, sm15 _ _ h5C, ow3.mono (same_tx sm15), owC.mono (same_tx sm15), by omega, by omega, W2, W1, fun H16 sm16 => ?_⟩
    have smF := sm15.trans sm16
    try simp only [Com.wp, Option.some.injEq, exists_eq_left', true_and, and_true, and_self, Int.reduceLT, Int.reduceLE, Int.reduceNeg, Int.reduceAdd, Int.reduceSub, Int.reducePow, Int.reduceToNat, Nat.reduceAdd, Nat.reduceLT, Nat.reduceLeDiff]
    refine Com.ifk (fun e => Bool.noConfusion e) (fun _ => ?_)
    try simp only [Com.wp, Option.some.injEq, exists_eq_left', true_and, and_true, and_self, Int.reduceLT, Int.reduceLE, Int.reduceNeg, Int.reduceAdd, Int.reduceSub, Int.reducePow, Int.reduceToNat, Nat.reduceAdd, Nat.reduceLT, Nat.reduceLeDiff]
    refine ⟨_, _, rfl, r1, r1, ws1, ws1, _, _, rfl, rfl, smF _ _ h5C, smF _ _ h5C, owC.mono (same_tx smF), owC.mono (same_tx smF), by omega, by omega, W1, W1, fun H17 sm17 => ?_⟩
    have smG := smF.trans sm17
    try simp only [Com.wp, Option.some.injEq, exists_eq_left', true_and, and_true, and_self, Int.reduceLT, Int.reduceLE, Int.reduceNeg, Int.reduceAdd, Int.reduceSub, Int.reducePow, Int.reduceToNat, Nat.reduceAdd, Nat.reduceLT, Nat.reduceLeDiff]
    refine Com.andVk (fun _ => ?_) (fun e => Bool.noConfusion e)
    try simp only [Com.wp, Option.some.injEq, exists_eq_left', true_and, and_true, and_self, Int.reduceLT, Int.reduceLE, Int.reduceNeg, Int.reduceAdd, Int.reduceSub, Int.reducePow, Int.reduceToNat, Nat.reduceAdd, Nat.reduceLT, Nat.reduceLeDiff]
    exact ⟨_, _, rfl, r3, r3, ws3, ws3, _, _, rfl, rfl, smG _ _ h7, smG _ _ h7, ow3.mono (same_tx smG), ow3.mono (same_tx smG), by omega, by omega, W2, W2, fun H18 sm18 => q H18⟩
def d__law_state : He.DefD := ⟨("_law_state", none), "_law_state", "_law_state", defArgs s__law_state, defBody s__law_state, defScope s__law_state, [], []⟩
def d__law_mixed : He.DefD := ⟨("_law_mixed", none), "_law_mixed", "_law_mixed", defArgs s__law_mixed, defBody s__law_mixed, defScope s__law_mixed, [], []⟩
def d__law_draw : He.DefD := ⟨("_law_draw", none), "_law_draw", "_law_draw", defArgs s__law_draw, defBody s__law_draw, defScope s__law_draw, [], []⟩
def d__law_limit : He.DefD := ⟨("_law_limit", none), "_law_limit", "_law_limit", defArgs s__law_limit, defBody s__law_limit, defScope s__law_limit, [], []⟩
def d__law_name : He.DefD := ⟨("_law_name", none), "_law_name", "_law_name", defArgs s__law_name, defBody s__law_name, defScope s__law_name, [], []⟩
def d__law_rooms : He.DefD := ⟨("_law_rooms", none), "_law_rooms", "_law_rooms", defArgs s__law_rooms, defBody s__law_rooms, defScope s__law_rooms, [], []⟩
def d__law_stays : He.DefD := ⟨("_law_stays", none), "_law_stays", "_law_stays", defArgs s__law_stays, defBody s__law_stays, defScope s__law_stays, [], []⟩
def d__law_lengths : He.DefD := ⟨("_law_lengths", none), "_law_lengths", "_law_lengths", defArgs s__law_lengths, defBody s__law_lengths, defScope s__law_lengths, [], []⟩
def d__law_signed : He.DefD := ⟨("_law_signed", none), "_law_signed", "_law_signed", defArgs s__law_signed, defBody s__law_signed, defScope s__law_signed, [], []⟩
def d__law_walk : He.DefD := ⟨("_law_walk", none), "_law_walk", "_law_walk", defArgs s__law_walk, defBody s__law_walk, defScope s__law_walk, [], []⟩
def d__law_apart : He.DefD := ⟨("_law_apart", none), "_law_apart", "_law_apart", defArgs s__law_apart, defBody s__law_apart, defScope s__law_apart, [], []⟩
def d_shared : He.DefD := ⟨("shared", none), "shared", "shared", defArgs s_shared, defBody s_shared, defScope s_shared, [], []⟩
def d__law_room : He.DefD := ⟨("_law_room", none), "_law_room", "_law_room", defArgs s__law_room, defBody s__law_room, defScope s__law_room, [], []⟩
def d__law_due : He.DefD := ⟨("_law_due", none), "_law_due", "_law_due", defArgs s__law_due, defBody s__law_due, defScope s__law_due, [], []⟩
def d__law_is_int : He.DefD := ⟨("_law_is_int", none), "_law_is_int", "_law_is_int", defArgs s__law_is_int, defBody s__law_is_int, defScope s__law_is_int, [], []⟩
def d__law_right : He.DefD := ⟨("_law_right", none), "_law_right", "_law_right", defArgs s__law_right, defBody s__law_right, defScope s__law_right, [], []⟩
def d_law : He.DefD := ⟨("law", none), "law", "law", defArgs s_law, defBody s_law, defScope s_law, [], []⟩
def fnl : List He.DefD := [d__law_state, d__law_mixed, d__law_draw, d__law_limit, d__law_name, d__law_rooms, d__law_stays, d__law_lengths, d__law_signed, d__law_walk, d__law_apart, d_shared, d__law_room, d__law_due, d__law_is_int, d__law_right, d_law]
def fal : List He.Fa := [.free "bool", .free "int", .free "isinstance", .free "len", .free "list", .free "max", .free "range", .free "sorted", .free "str", .free "sum", .free "tuple", .str "HALL" "hall", .glo "_law_state", .glo "_law_mixed", .glo "_law_draw", .glo "_law_limit", .glo "_law_name", .glo "_law_rooms", .glo "_law_stays", .glo "_law_lengths", .glo "_law_signed", .glo "_law_walk", .glo "_law_apart", .glo "shared", .glo "_law_room", .glo "_law_due", .glo "_law_is_int", .glo "_law_right", .glo "law"]
def nm0 : List PySem.Str := ["HALL", "shared", "_law_state", "_law_mixed", "_law_draw", "_law_limit", "_law_name", "_law_rooms", "_law_stays", "_law_is_int", "_law_signed", "_law_lengths", "_law_walk", "_law_room", "_law_due", "_law_right", "_law_apart"]
def nml : List PySem.Str := nm0
abbrev R : PySem.W.OpenRow := PySem.W.OpenLaw.row PySem.Challenge.rw_neverrounds_k19_shared
abbrev hk : PySem.W.Hook := He.hookD 4 fal fnl
def ob (s : PySem.W.SharedT) : He.AlD := He.obsDG 4 fal fnl (HandSHeadRun.getT s)
theorem ob_eq (s : PySem.W.SharedT) : ob s = hk.obs s.abs := He.obsDG_eq (HandSHeadRun.getT_eq s)
theorem run (w : World) : HandSHeadRun.RunEq R (PySem.W.view R.prog [19]) hk ob 12000 nml w := by
  intro os
  kernel_rfl
theorem txt_of {K : PySem.W.Frag} {h : Heap} {mg : Str → Option Value} (X : K.In h) (G : h.Ns mainGlobals mg) (c : He.SaysD fal fnl K) : Txt K mg where
  b_bool := He.free_ok X G (c.fact 0 (f := .free "bool") rfl)
  b_int := He.free_ok X G (c.fact 1 (f := .free "int") rfl)
  b_isinstance := He.free_ok X G (c.fact 2 (f := .free "isinstance") rfl)
  b_len := He.free_ok X G (c.fact 3 (f := .free "len") rfl)
  b_list := He.free_ok X G (c.fact 4 (f := .free "list") rfl)
  b_max := He.free_ok X G (c.fact 5 (f := .free "max") rfl)
  b_range := He.free_ok X G (c.fact 6 (f := .free "range") rfl)
  b_sorted := He.free_ok X G (c.fact 7 (f := .free "sorted") rfl)
  b_str := He.free_ok X G (c.fact 8 (f := .free "str") rfl)
  b_sum := He.free_ok X G (c.fact 9 (f := .free "sum") rfl)
  b_tuple := He.free_ok X G (c.fact 10 (f := .free "tuple") rfl)
  c_HALL := He.str_ok X G (c.fact 11 (f := .str "HALL" "hall") rfl)
  g__law_state := He.glo_ok X G (c.fact 12 (f := .glo "_law_state") rfl)
  F__law_state := c.def_ 0 (d := d__law_state) rfl
  g__law_mixed := He.glo_ok X G (c.fact 13 (f := .glo "_law_mixed") rfl)
  F__law_mixed := c.def_ 1 (d := d__law_mixed) rfl
  g__law_draw := He.glo_ok X G (c.fact 14 (f := .glo "_law_draw") rfl)
  F__law_draw := c.def_ 2 (d := d__law_draw) rfl
  g__law_limit := He.glo_ok X G (c.fact 15 (f := .glo "_law_limit") rfl)
  F__law_limit := c.def_ 3 (d := d__law_limit) rfl
  g__law_name := He.glo_ok X G (c.fact 16 (f := .glo "_law_name") rfl)
  F__law_name := c.def_ 4 (d := d__law_name) rfl
  g__law_rooms := He.glo_ok X G (c.fact 17 (f := .glo "_law_rooms") rfl)
  F__law_rooms := c.def_ 5 (d := d__law_rooms) rfl
  g__law_stays := He.glo_ok X G (c.fact 18 (f := .glo "_law_stays") rfl)
  F__law_stays := c.def_ 6 (d := d__law_stays) rfl
  g__law_lengths := He.glo_ok X G (c.fact 19 (f := .glo "_law_lengths") rfl)
  F__law_lengths := c.def_ 7 (d := d__law_lengths) rfl
  g__law_signed := He.glo_ok X G (c.fact 20 (f := .glo "_law_signed") rfl)
  F__law_signed := c.def_ 8 (d := d__law_signed) rfl
  g__law_walk := He.glo_ok X G (c.fact 21 (f := .glo "_law_walk") rfl)
  F__law_walk := c.def_ 9 (d := d__law_walk) rfl
  g__law_apart := He.glo_ok X G (c.fact 22 (f := .glo "_law_apart") rfl)
  F__law_apart := c.def_ 10 (d := d__law_apart) rfl
  g_shared := He.glo_ok X G (c.fact 23 (f := .glo "shared") rfl)
  F_shared := c.def_ 11 (d := d_shared) rfl
  g__law_room := He.glo_ok X G (c.fact 24 (f := .glo "_law_room") rfl)
  F__law_room := c.def_ 12 (d := d__law_room) rfl
  g__law_due := He.glo_ok X G (c.fact 25 (f := .glo "_law_due") rfl)
  F__law_due := c.def_ 13 (d := d__law_due) rfl
  g__law_is_int := He.glo_ok X G (c.fact 26 (f := .glo "_law_is_int") rfl)
  F__law_is_int := c.def_ 14 (d := d__law_is_int) rfl
  g__law_right := He.glo_ok X G (c.fact 27 (f := .glo "_law_right") rfl)
  F__law_right := c.def_ 15 (d := d__law_right) rfl
  g_law := He.glo_ok X G (c.fact 28 (f := .glo "law") rfl)
  F_law := c.def_ 16 (d := d_law) rfl
end Nv
open PySem PySem.W PySem.Calls PyProof.Rows
set_option maxHeartbeats 0 in
theorem PySem.Challenge.cw_neverrounds_k19_shared_holds : PySem.Challenge.rw_neverrounds_k19_shared.Holds := by
  w_on; o_law
  refine HandSHeadRun.head_any (r := OpenLaw.row PySem.Challenge.rw_neverrounds_k19_shared) (q := view (OpenLaw.row PySem.Challenge.rw_neverrounds_k19_shared).prog [19]) (H := Nv.hk) (ob := Nv.ob) (M := 12000) (loose := Nv.nml) (d := HandSHeadRun.topDef (OpenLaw.row PySem.Challenge.rw_neverrounds_k19_shared).prog 19) (kwd := []) Nv.ob_eq
    (by kernel_rfl) (fun s => by kernel_rfl) Nv.run (by kernel_rfl) (by kernel_rfl) (by kernel_rfl) (by rfl) (by first | assumption | decide +kernel) (by decide +kernel) ⟨rfl, rfl, rfl, rfl, rfl, by decide +kernel⟩ ?hw ?hc
  case hw => w_witness2
  case hc =>
    refine L2.walk_ofE (l := PySem.Challenge.rw_neverrounds_k19_shared) (n := 63) (k := 5) (x := "_law_script") (CX := L2.CX0) rfl (by decide) (by kernel_rfl) ⟨rfl, by decide, by decide⟩ ?F (fun _ _ _ _ z => z)
    intro w mg fa h Y G hmg0
    obtain ⟨K, KX, c⟩ := Y
    have hmg : mg ("law" : PySem.Str) = some (.ref fa) := by
      have e : (HandSHeadRun.topDef (OpenLaw.row PySem.Challenge.rw_neverrounds_k19_shared).prog 19).name = ("law" : PySem.Str) := by kernel_rfl
      rw [← e]
      exact hmg0
    have T := Nv.txt_of KX G c
    obtain ⟨fd, F⟩ := T.F_law
    have eF : fa = He.ga K "law" := by
      have z := hmg.symm.trans T.g_law
      injection z with z
      injection z
    subst eF
    refine ⟨K, fd, Nv.sp_law K, KX, fun s v => L2.FunD.bindsA (ps := ["_law_script"]) F (fun _ _ _ _ _ _ us hl => match us, hl with | [_], _ => rfl) s [v] rfl, fun H a ns hl _ hS => ⟨_, rfl, a, ns, rfl, hS, hl, fun _ => rfl⟩, fun base _ _ => ?_⟩
    exact Nv.okF_law (P := (PySem.Challenge.rw_neverrounds_k19_shared).prog) (w := w) (base := base) T F
