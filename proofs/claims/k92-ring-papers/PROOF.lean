import PyProof.Rows.All
import Wide.All
import OpenK.AllK
import Wide.FinOn
import HandS.ForMost
import HandS.Exc
import HandS.TryOnly
import HandS.WordsExc
import HandS.IsInst
import HandS.Codes
import HandS.Deep
import HandS.OwnEq
import HandS.Property
import HandS.FStr
import HandS.NoneIn
import HandS.TupAny
import HandS.Defaults
import HandS.Wide
import HandS.WideBits
import HandS.StrMore
import HandS.Zip
import HandS.Conv
import KE.KTupSum
import KE.GoesEnum
import HandS.SetFor
import HandS.Walk
import KE.KExcSuper
import HandS.ExcSuper
import HandS.ExcInit
import HandS.ExcField
import HandS.ExcIs
import HandS.HotCalls
import HandS.Dict
import HandS.ExcOwn
import PySem.Challenge.RW_bitshades_k92_whole_ring_papers
import HandS.More
import HandS.Text
import HandS.HeadHook3
import HandS.Head0
import HandS.Head1
import HandS.Head2
import HandS.HeadEnd
set_option Elab.async false
set_option linter.all false
set_option maxRecDepth 100000
set_option maxHeartbeats 2000000
/-! Bs0: heaps with a set of places that may change, short words for readings, a walker. -/
namespace Bs
open PySem L2

/-! ### heaps: M tells which addresses may be changed -/
abbrev Mt := Addr → Prop
def N0 : Mt := fun _ => False
def Is (s : Addr) : Mt := fun a => a = s
def Plus (M : Mt) (p : Addr) : Mt := fun a => M a ∨ a = p
/-- what is tracked in H -/
def Trk (H : Hp) : Mt := fun a => H a ≠ none
def Ext (M : Mt) (H H' : Hp) : Prop := ∀ a o, ¬ M a → H a = some o → H' a = some o
def At (M : Mt) (H : Hp) (a : Addr) (o : HO) : Prop := ¬ M a ∧ H a = some o
section
variable {M M' : Mt} {H H1 H2 H' : Hp} {a p q : Addr} {o u : HO}
theorem Ext.refl (M : Mt) (H : Hp) : Ext M H H := fun _ _ _ h => h
theorem Ext.trans (x : Ext M H H1) (y : Ext M H1 H2) : Ext M H H2 := fun a o m h => y a o m (x a o m h)
theorem Ext.weak (x : Ext N0 H H') : Ext M H H' := fun a o _ h => x a o (fun z => z) h
theorem Ext.of (x : Ext M' H H') (h : ∀ a, M' a → M a) : Ext M H H' := fun a o m e => x a o (fun z => m (h a z)) e
theorem Ext.plus (x : Ext M H H') : Ext (Plus M p) H H' := fun a o m e => x a o (fun z => m (.inl z)) e
theorem Ext.is (x : Ext (Is p) H H') (h : M p) : Ext M H H' := fun a o m e => x a o (fun z => m (z ▸ h)) e
theorem Ext.new (h : H p = none) : Ext M H (upd H p o) := fun a u _ e => by rw [upd_ne (ne_of_none e h)]; exact e
theorem Ext.set (h : M p) : Ext M H (upd H p o) := fun a u m e => by rw [upd_ne (fun z : a = p => m (by rw [z]; exact h))]; exact e
theorem Ext.free (x : Ext N0 H H') (h : H' a = none) : H a = none := by
  cases e : H a with
  | none => rfl
  | some o => rw [x a o (fun z => z) e] at h; cases h
/-- what was made anew at p and then changed: from outside all stands -/
theorem Ext.close (x : Ext M H H1) (n : H p = none) (y : Ext (Plus M p) H1 H2) : Ext M H H2 := fun a o m e =>
  y a o (fun z => z.elim m fun q => by rw [q, n] at e; cases e) (x a o m e)
theorem plus_self : Plus M p p := .inr rfl
theorem plus_in (h : M a) : Plus M p a := .inl h
theorem At.get (h : At M H a o) : H a = some o := h.2
theorem At.ext (x : Ext M H H') (h : At M H a o) : At M H' a o := ⟨h.1, x a o h.1 h.2⟩
theorem At.plus (n : H p = none) (h : At M H a o) : At (Plus M p) H a o := ⟨fun z => z.elim h.1 (fun q => by rw [← q, h.2] at n; exact nomatch n), h.2⟩
theorem At.of (h : At M' H a o) (k : ∀ b, M b → M' b) : At M H a o := ⟨fun z => h.1 (k a z), h.2⟩
theorem At.less (h : At (Plus M p) H a o) : At M H a o := h.of fun _ z => .inl z
theorem At.mk' (m : ∀ b, M b → H1 b ≠ none) (n : H1 a = none) (h : H a = some o) : At M H a o := ⟨fun z => m a z n, h⟩
theorem At.raw (h : H a = some o) : At N0 H a o := ⟨fun z => z, h⟩
theorem At.zero (h : At M H a o) : At N0 H a o := ⟨fun z => z, h.2⟩
theorem At.new (k : ∀ b, M b → H b ≠ none) (n : H a = none) : At M (upd H a o) a o := ⟨fun z => k a z n, upd_same⟩
/-- the set's places are tracked -/
def MOk (M : Mt) (H : Hp) : Prop := ∀ b, M b → H b ≠ none
theorem MOk.zero : MOk N0 H := fun _ z => z.elim
theorem MOk.upd (m : MOk M H) : MOk M (upd H p o) := fun b z e => by
  by_cases h : b = p
  · rw [h, upd_same] at e; cases e
  · rw [upd_ne h] at e; exact m b z e
theorem MOk.plus (m : MOk M H) (h : H p ≠ none) : MOk (Plus M p) H := fun b z => z.elim (m b) fun e => e ▸ h
theorem MOk.is (h : H p ≠ none) : MOk (Is p) H := fun b z => z ▸ h
theorem MOk.less (m : MOk (Plus M p) H) : MOk M H := fun b z => m b (.inl z)
/-- nothing tracked gets lost -/
def Grow (H H' : Hp) : Prop := ∀ a, H' a = none → H a = none
theorem Grow.refl (H : Hp) : Grow H H := fun _ h => h
theorem Grow.trans (x : Grow H H1) (y : Grow H1 H2) : Grow H H2 := fun a h => x a (y a h)
theorem Grow.upd : Grow H (upd H p o) := fun a h => by
  by_cases e : a = p
  · rw [e, upd_same] at h; cases h
  · rw [upd_ne e] at h; exact h
theorem MOk.ext (m : MOk M H) (x : Ext M' H H') (k : ∀ b, M' b → H' b ≠ none) : MOk M H' := fun b z e => by
  by_cases h : M' b
  · exact k b h e
  · cases q : H b with
    | none => exact m b z q
    | some o => rw [x b o h q] at e; cases e
theorem MOk.same (m : MOk M H) (x : Ext N0 H H') : MOk M H' := m.ext x fun _ z => z.elim
theorem MOk.grow (m : MOk M H) (g : Grow H H') : MOk M H' := fun b z e => m b z (g b e)
theorem Ext.grow (x : Ext N0 H H') : Grow H H' := fun a h => x.free h
end
end Bs
set_option Elab.async false
set_option linter.all false
set_option maxRecDepth 100000
set_option maxHeartbeats 2000000
/-! Bs1: data, tables; the walker's lemmas. -/
namespace Bs
open PySem L2
/-! ### data -/
inductive Dt where
  | non | bl (b : Bool) | int (i : Int) | str (s : Str) | lst (xs : List Dt) | tup (xs : List Dt) | tab | dic
mutual
inductive Rp (CT : Addr) (M : Mt) (H : Hp) : V → Dt → Prop
  | non : Rp CT M H .non .non
  | bl (b : Bool) : Rp CT M H (.bl b) (.bl b)
  | int (i : Int) : Rp CT M H (.int i) (.int i)
  | str (x : Str) : Rp CT M H (.str x) (.str x)
  | lst {a : Addr} {xs : List V} {ds : List Dt} : At M H a (.lst xs) → RpA CT M H xs ds → Rp CT M H (.ref a) (.lst ds)
  | tup {a : Addr} {xs : List V} {ds : List Dt} : At M H a (.tup xs) → RpA CT M H xs ds → Rp CT M H (.ref a) (.tup ds)
  | tab {a dx : Addr} {fs : List (Str × V)} : At M H a (.ins CT dx fs) → Rp CT M H (.ref a) .tab
  | dic {a : Addr} : At M H a (.dK []) → Rp CT M H (.ref a) .dic
inductive RpA (CT : Addr) (M : Mt) (H : Hp) : List V → List Dt → Prop
  | nil : RpA CT M H [] []
  | cons {v : V} {vs : List V} {d : Dt} {ds : List Dt} : Rp CT M H v d → RpA CT M H vs ds → RpA CT M H (v :: vs) (d :: ds)
end
section
variable {CT : Addr} {M M' : Mt} {H H' : Hp} {p : Addr}
mutual
theorem Rp.map (f : ∀ a o, At M H a o → At M' H' a o) : ∀ (d : Dt) (v : V), Rp CT M H v d → Rp CT M' H' v d
  | .non, _, h => by cases h; exact .non
  | .bl b, _, h => by cases h; exact .bl b
  | .int i, _, h => by cases h; exact .int i
  | .str x, _, h => by cases h; exact .str x
  | .lst ds, _, h => by cases h with | lst h1 h2 => exact .lst (f _ _ h1) (RpA.map f ds _ h2)
  | .tup ds, _, h => by cases h with | tup h1 h2 => exact .tup (f _ _ h1) (RpA.map f ds _ h2)
  | .tab, _, h => by cases h with | tab h1 => exact .tab (f _ _ h1)
  | .dic, _, h => by cases h with | dic h1 => exact .dic (f _ _ h1)
theorem RpA.map (f : ∀ a o, At M H a o → At M' H' a o) : ∀ (ds : List Dt) (vs : List V), RpA CT M H vs ds → RpA CT M' H' vs ds
  | [], _, h => by cases h; exact .nil
  | d :: ds, _, h => by cases h with | cons h1 h2 => exact .cons (Rp.map f d _ h1) (RpA.map f ds _ h2)
end
variable {v : V} {d : Dt} {vs : List V} {ds : List Dt}
theorem Rp.ext (x : Ext M H H') (h : Rp CT M H v d) : Rp CT M H' v d := Rp.map (fun _ _ => At.ext x) _ _ h
theorem RpA.ext (x : Ext M H H') (h : RpA CT M H vs ds) : RpA CT M H' vs ds := RpA.map (fun _ _ => At.ext x) _ _ h
theorem Rp.plus (n : H p = none) (h : Rp CT M H v d) : Rp CT (Plus M p) H v d := Rp.map (fun _ _ => At.plus n) _ _ h
theorem RpA.plus (n : H p = none) (h : RpA CT M H vs ds) : RpA CT (Plus M p) H vs ds := RpA.map (fun _ _ => At.plus n) _ _ h
theorem Rp.of (h : Rp CT M' H v d) (k : ∀ b, M b → M' b) : Rp CT M H v d := Rp.map (fun _ _ z => z.of k) _ _ h
theorem RpA.of (h : RpA CT M' H vs ds) (k : ∀ b, M b → M' b) : RpA CT M H vs ds := RpA.map (fun _ _ z => z.of k) _ _ h
theorem Rp.zero (h : Rp CT M H v d) : Rp CT N0 H v d := h.of fun _ z => z.elim
theorem RpA.zero (h : RpA CT M H vs ds) : RpA CT N0 H vs ds := h.of fun _ z => z.elim
theorem RpA.length : ∀ {vs : List V} {ds : List Dt}, RpA CT M H vs ds → vs.length = ds.length
  | _, [], h => by cases h; rfl
  | _, d :: ds, h => by cases h with | cons h1 h2 => simp [RpA.length h2]
theorem RpA.get : ∀ {vs : List V} {ds : List Dt} {i : Nat} {d : Dt}, RpA CT M H vs ds → ds[i]? = some d → ∃ v, vs[i]? = some v ∧ Rp CT M H v d
  | _, [], _, _, _, e => by simp at e
  | _, d :: ds, 0, _, h, e => by
    cases h with
    | cons h1 h2 =>
      simp at e; subst e
      exact ⟨_, rfl, h1⟩
  | _, d :: ds, i + 1, _, h, e => by
    cases h with
    | cons h1 h2 =>
      obtain ⟨v, a, b⟩ := RpA.get (i := i) h2 (by simpa using e)
      exact ⟨v, by simpa using a, b⟩
theorem RpA.getV : ∀ {vs : List V} {ds : List Dt} {i : Nat} {v : V}, RpA CT M H vs ds → vs[i]? = some v → ∃ d, ds[i]? = some d ∧ Rp CT M H v d
  | [], _, _, _, _, e => by simp at e
  | v :: vs, _, 0, _, h, e => by
    cases h with
    | cons h1 h2 =>
      simp at e; subst e
      exact ⟨_, rfl, h1⟩
  | v :: vs, _, i + 1, _, h, e => by
    cases h with
    | cons h1 h2 =>
      obtain ⟨d, a, b⟩ := RpA.getV (i := i) h2 (by simpa using e)
      exact ⟨d, by simpa using a, b⟩
theorem RpA.append : ∀ {vs ws : List V} {ds es : List Dt}, RpA CT M H vs ds → RpA CT M H ws es → RpA CT M H (vs ++ ws) (ds ++ es)
  | [], _, _, _, h, k => by cases h; exact k
  | v :: vs, _, _, _, h, k => by cases h with | cons h1 h2 => exact .cons h1 (RpA.append h2 k)
theorem RpA.take : ∀ (n : Nat) {vs : List V} {ds : List Dt}, RpA CT M H vs ds → RpA CT M H (vs.take n) (ds.take n)
  | 0, _, _, _ => by simp; exact .nil
  | n + 1, _, _, h => by
    cases h with
    | nil => exact .nil
    | cons h1 h2 => exact .cons h1 (RpA.take n h2)
theorem RpA.drop : ∀ (n : Nat) {vs : List V} {ds : List Dt}, RpA CT M H vs ds → RpA CT M H (vs.drop n) (ds.drop n)
  | 0, _, _, h => h
  | n + 1, _, _, h => by
    cases h with
    | nil => exact .nil
    | cons h1 h2 => exact RpA.drop n h2
theorem RpA.set : ∀ (n : Nat) {vs : List V} {ds : List Dt} {v : V} {d : Dt}, RpA CT M H vs ds → Rp CT M H v d → RpA CT M H (vs.set n v) (ds.set n d)
  | 0, _, _, _, _, h, k => by
    cases h with
    | nil => exact .nil
    | cons h1 h2 => exact .cons k h2
  | n + 1, _, _, _, _, h, k => by
    cases h with
    | nil => exact .nil
    | cons h1 h2 => exact .cons h1 (RpA.set n h2 k)
end
/-! ### tables -/
def TabOk (n : Nat) (bs : List Int) : Prop := n ≤ 6 ∧ bs.length = 2 ^ n ∧ ∀ b ∈ bs, b = 0 ∨ b = 1
def tf (n : Int) (t : Addr) : List (Str × V) := [("wide", .int n), ("held", .ref t)]
structure Tb (CT : Addr) (M : Mt) (H : Hp) (a : Addr) (n : Nat) (bs : List Int) : Prop where
  ok : TabOk n bs
  ex : ∃ dx t, At M H a (.ins CT dx (tf n t)) ∧ At M H t (.tup (bs.map V.int))
section
variable {CT : Addr} {M M' : Mt} {H H' : Hp} {p a : Addr} {n : Nat} {bs : List Int}
theorem Tb.ext (x : Ext M H H') (h : Tb CT M H a n bs) : Tb CT M H' a n bs := ⟨h.ok, let ⟨d, t, h1, h2⟩ := h.ex; ⟨d, t, h1.ext x, h2.ext x⟩⟩
theorem Tb.plus (z : H p = none) (h : Tb CT M H a n bs) : Tb CT (Plus M p) H a n bs := ⟨h.ok, let ⟨d, t, h1, h2⟩ := h.ex; ⟨d, t, h1.plus z, h2.plus z⟩⟩
theorem Tb.of (h : Tb CT M' H a n bs) (k : ∀ b, M b → M' b) : Tb CT M H a n bs := ⟨h.ok, let ⟨d, t, h1, h2⟩ := h.ex; ⟨d, t, h1.of k, h2.of k⟩⟩
theorem Tb.zero (h : Tb CT M H a n bs) : Tb CT N0 H a n bs := h.of fun _ z => z.elim
theorem Tb.rp (h : Tb CT M H a n bs) : Rp CT M H (.ref a) .tab := let ⟨_, _, h1, _⟩ := h.ex; .tab h1
end

/-! ### the walker: one lemma a reading -/
section
variable {D : Ends} {σ : St} {H : Hp} {Q : VK} {QA : List V → Hp → Prop} {QB : Bool → Hp → Prop} {K : PySem.W.Frag} {v x y : V} {te ta tb : TE} {t u : TS} {c c' : TT} {g : TG} {tl tr : TA}
theorem i_seq (h : t ⟨u D, D.rt, D.bk, D.ct⟩ σ H) : tSeq t u D σ H := h
theorem i_asg (h : te σ H fun x H1 => g x σ H1 D.nx) : tAsg te g D σ H := h
theorem i_ret (h : te σ H D.rt) : tRet te D σ H := h
theorem i_retN (h : D.rt .non H) : tRetN D σ H := h
theorem i_drop (h : te σ H fun _ H1 => D.nx σ H1) : tDrop te D σ H := h
theorem i_ifS (h : c σ H fun b H1 => if b = true then t D σ H1 else u D σ H1) : tIfS c t u D σ H := h
theorem i_next (h : D.nx σ H) : tNext D σ H := h
theorem i_brk (h : D.bk σ H) : tBreak D σ H := h
theorem i_gname {i : Nat} {N : St → Hp → Prop} (h : N (σ.set i (some v)) H) : gName i v σ H N := h
theorem i_gsub {to ti : TE} {ts : TSet} {N : St → Hp → Prop} (h : to σ H fun o H1 => ti σ H1 fun i H2 => ts o i v H2 fun H3 => N σ H3) : gSub to ti ts v σ H N := h
theorem i_var {i : Nat} (e : σ[i]? = some (some v)) (h : Q v H) : tVar i σ H Q := ⟨v, e, h⟩
theorem i_c (h : Q v H) : tC v σ H Q := h
theorem i_op {r : R2} (h : ta σ H fun x H1 => tb σ H1 fun y H2 => r x y H2 Q) : tOp r ta tb σ H Q := h
theorem i_un {r : V → Hp → VK → Prop} (h : ta σ H fun x H1 => r x H1 Q) : tUn r ta σ H Q := h
theorem i_I0 {f : Int → Int → V} {i j : Int} (h : Q (f i j) H) : rI0 f (.int i) (.int j) H Q := ⟨i, j, rfl, rfl, h⟩
theorem i_I {C : Int → Int → Prop} {f : Int → Int → V} {i j : Int} (hc : C i j) (h : Q (f i j) H) : rI C f (.int i) (.int j) H Q := ⟨i, j, rfl, rfl, hc, h⟩
theorem i_U {f : Int → V} {i : Int} (h : Q (f i) H) : rU f (.int i) H Q := ⟨i, rfl, h⟩
theorem i_eq (e : scal x y = true) (h : Q (.bl (decide (x = y))) H) : rEq x y H Q := ⟨e, h⟩
theorem i_ne (e : scal x y = true) (h : Q (.bl (!decide (x = y))) H) : rNe x y H Q := ⟨e, h⟩
theorem i_isN (h : te σ H fun x H1 => Q (.bl (decide (x = .non))) H1) : tIsN te σ H Q := h
theorem i_notN (h : te σ H fun x H1 => Q (.bl (!decide (x = .non))) H1) : tNotN te σ H Q := h
theorem i_test (h : te σ H fun x H' => ∃ k, x = .bl k ∧ QB k H') : tTest te σ H QB := h
theorem i_tB (h : te σ H fun x H' => ∃ k, x = .bl k ∧ QB k H') : tB te σ H QB := h
theorem i_bl {b : Bool} {P : Bool → Prop} (h : P b) : ∃ k, V.bl b = .bl k ∧ P k := ⟨b, rfl, h⟩
theorem i_and (h : c σ H fun b H1 => if b = true then c' σ H1 QB else QB false H1) : tAnd c c' σ H QB := h
theorem i_or (h : c σ H fun b H1 => if b = true then QB true H1 else c' σ H1 QB) : tOr c c' σ H QB := h
theorem i_not (h : c σ H fun b H1 => QB (!b) H1) : tNot c σ H QB := h
theorem i_andV (h : ta σ H fun x H1 => ∃ b, x = .bl b ∧ if b = true then tb σ H1 Q else Q (.bl false) H1) : tAndV ta tb σ H Q := h
theorem i_orV (h : ta σ H fun x H1 => ∃ b, x = .bl b ∧ if b = true then Q (.bl true) H1 else tb σ H1 Q) : tOrV ta tb σ H Q := h
theorem i_notV (h : ta σ H fun x H1 => ∃ b, x = .bl b ∧ Q (.bl (!b)) H1) : tNotV ta σ H Q := h
theorem i_ifE (h : c σ H fun b H1 => if b = true then ta σ H1 Q else tb σ H1 Q) : tIf c ta tb σ H Q := h
theorem i_nil (h : QA [] H) : tNil σ H QA := h
theorem i_cons (h : ta σ H fun x H1 => tr σ H1 fun xs H2 => QA (x :: xs) H2) : tCons ta tr σ H QA := h
theorem i_cb {r : List V → Hp → VK → Prop} (h : tl σ H fun vs H1 => r vs H1 Q) : tCB r tl σ H Q := h
theorem i_call {sp : Sp} {E : XK} (h : tl σ H fun vs H1 => sp vs H1 Q E) : tCall sp [] E tl σ H Q := by
  show tl σ H fun vs H1 => sp (vs ++ []) H1 Q E
  simpa only [List.append_nil] using h
/-- a new object p of value o, and what follows -/
def Nw (Q : VK) (o : HO) (H : Hp) : Prop := ∀ p, H p = none → Q (.ref p) (upd H p o)
def NwT (Q : VK) (xs : List V) (H : Hp) : Prop := xs.length ≤ sizeLine ∧ Nw Q (.tup xs) H
def NwL (Q : VK) (xs : List V) (H : Hp) : Prop := xs.length ≤ sizeLine ∧ Nw Q (.lst xs) H
theorem i_nw {o : HO} (h : ∀ p H', H p = none → Ext N0 H H' → H' p = some o → Q (.ref p) H') : Nw Q o H := fun p n => h p _ n (Ext.new n) upd_same
theorem i_nwT {xs : List V} (l : xs.length ≤ 100000) (h : ∀ p H', H p = none → Ext N0 H H' → H' p = some (.tup xs) → Q (.ref p) H') : NwT Q xs H := ⟨Nat.le_trans l (by decide), i_nw h⟩
theorem i_nwL {xs : List V} (l : xs.length ≤ 100000) (h : ∀ p H', H p = none → Ext N0 H H' → H' p = some (.lst xs) → Q (.ref p) H') : NwL Q xs H := ⟨Nat.le_trans l (by decide), i_nw h⟩
theorem i_tup (h : tl σ H (NwT Q)) : tTup tl σ H Q := h
theorem i_lst (h : tl σ H (NwL Q)) : tLst tl σ H Q := h
theorem i_cat {l b : Addr} {xs zs : List V} (h1 : H l = some (.lst xs)) (h2 : H b = some (.lst zs)) (hl : xs.length + zs.length ≤ 100000) (k : ∀ p H', H p = none → Ext N0 H H' → H' p = some (.lst (xs ++ zs)) → Q (.ref p) H') : rCat (.ref l) (.ref b) H Q :=
  ⟨l, b, xs, zs, rfl, rfl, h1, h2, Nat.le_trans hl (by decide), fun p n => k p _ n (Ext.new n) upd_same⟩
theorem i_catA {l b : Addr} {xs zs : List V} (h1 : SqT K H l xs) (h2 : SqT K H b zs) (hz : zs ≠ []) (hl : xs.length + zs.length ≤ 100000) (k0 : xs = [] → Q (.ref b) H) (k : xs ≠ [] → ∀ p H', H p = none → Ext N0 H H' → H' p = some (.tup (xs ++ zs)) → Q (.ref p) H') : rCatA K (.ref l) (.ref b) H Q :=
  ⟨l, b, xs, zs, rfl, rfl, h1, h2, Nat.le_trans hl (by decide), k0, fun _ e => absurd e hz, fun h _ p n => k h p _ n (Ext.new n) upd_same⟩
theorem i_slc {l : Addr} {xs : List V} {lo hi : Option Int} (h1 : SqL K H l xs) (k : ∀ p H', H p = none → Ext N0 H H' → H' p = some (.lst (cutV xs lo hi)) → Q (.ref p) H') : rSlL K (.ref l) lo hi H Q := ⟨l, xs, rfl, h1, fun p n => k p _ n (Ext.new n) upd_same⟩
def LsO (K : PySem.W.Frag) (Q : VK) (vs : List V) (H : Hp) : Prop := ∃ p ys, vs = [V.ref p] ∧ (SqL K H p ys ∨ SqT K H p ys) ∧ Nw Q (.lst ys) H
theorem i_lsO (h : tl σ H (LsO K Q)) : tCB (fun xs H Q => ∃ p ys, xs = [V.ref p] ∧ (SqL K H p ys ∨ SqT K H p ys) ∧ ∀ l, H l = none → Q (.ref l) (upd H l (.lst ys))) tl σ H Q := h
theorem i_lsL {p : Addr} {ys : List V} (s : SqL K H p ys) (h : ∀ p H', H p = none → Ext N0 H H' → H' p = some (.lst ys) → Q (.ref p) H') : LsO K Q [.ref p] H := ⟨p, ys, rfl, .inl s, i_nw h⟩
theorem i_lsT {p : Addr} {ys : List V} (s : SqT K H p ys) (h : ∀ p H', H p = none → Ext N0 H H' → H' p = some (.lst ys) → Q (.ref p) H') : LsO K Q [.ref p] H := ⟨p, ys, rfl, .inr s, i_nw h⟩
def TpO (K : PySem.W.Frag) (Q : VK) (vs : List V) (H : Hp) : Prop := ∃ p ys, vs = [V.ref p] ∧ ((SqL K H p ys ∧ Nw Q (.tup ys) H) ∨ (SqT K H p ys ∧ Q (.ref p) H))
theorem i_tpO (h : tl σ H (TpO K Q)) : tCB (fun xs H Q => ∃ p ys, xs = [V.ref p] ∧ ((SqL K H p ys ∧ ∀ l, H l = none → Q (.ref l) (upd H l (.tup ys))) ∨ (SqT K H p ys ∧ Q (.ref p) H))) tl σ H Q := h
theorem i_tpL {p : Addr} {ys : List V} (s : SqL K H p ys) (h : ∀ p H', H p = none → Ext N0 H H' → H' p = some (.tup ys) → Q (.ref p) H') : TpO K Q [.ref p] H := ⟨p, ys, rfl, .inl ⟨s, i_nw h⟩⟩
theorem i_tpT {p : Addr} {ys : List V} (s : SqT K H p ys) (h : Q (.ref p) H) : TpO K Q [.ref p] H := ⟨p, ys, rfl, .inr ⟨s, h⟩⟩
def LnO (K : PySem.W.Frag) (Q : VK) (vs : List V) (H : Hp) : Prop := ∃ p ys, vs = [V.ref p] ∧ (SqL K H p ys ∨ SqT K H p ys) ∧ Q (.int ys.length) H
theorem i_lnO (h : tl σ H (LnO K Q)) : tCB (fun xs H Q => ∃ p ys, xs = [V.ref p] ∧ (SqL K H p ys ∨ SqT K H p ys) ∧ Q (.int ys.length) H) tl σ H Q := h
theorem i_lnL {p : Addr} {ys : List V} (s : SqL K H p ys) (h : Q (.int ys.length) H) : LnO K Q [.ref p] H := ⟨p, ys, rfl, .inl s, h⟩
theorem i_lnT {p : Addr} {ys : List V} (s : SqT K H p ys) (h : Q (.int ys.length) H) : LnO K Q [.ref p] H := ⟨p, ys, rfl, .inr s, h⟩
theorem i_dnew (h : Nw Q (.dK []) H) : tDNewK σ H Q := h
def InO (Q : VK) (vs : List V) (H : Hp) : Prop := (∃ i, vs = [.int i] ∧ Q (.int i) H) ∨ ∃ k, vs = [.bl k] ∧ Q (.int (if k then 1 else 0)) H
theorem i_inO (h : tl σ H (InO Q)) : tCB (fun xs H Q => (∃ i, xs = [V.int i] ∧ Q (.int i) H) ∨ ∃ k, xs = [.bl k] ∧ Q (.int (if k then 1 else 0)) H) tl σ H Q := h
theorem i_inI {i : Int} (h : Q (.int i) H) : InO Q [.int i] H := .inl ⟨i, rfl, h⟩
theorem i_inB {k : Bool} (h : Q (.int (if k then 1 else 0)) H) : InO Q [.bl k] H := .inr ⟨k, rfl, h⟩
def LrO (Q : VK) (a b : Int) (H : Hp) : Prop := RgOk a b ∧ Nw Q (.lst (rgV a b)) H
theorem i_lrO {te : L2.St → Hp → (Int → Int → Hp → Prop) → Prop} (h : te σ H (LrO Q)) : tLstRg te σ H Q := h
theorem i_rg1 {P : Int → Int → Hp → Prop} {ta : TE} (h : ta σ H fun x H1 => ∃ n, x = .int n ∧ P 0 n H1) : tRg1 ta σ H P := h
theorem i_rgX {P : Int → Prop} {i : Int} (h : P i) : ∃ n, V.int i = V.int n ∧ P n := ⟨i, rfl, h⟩
theorem i_ixL {M : Mt} {p : Addr} {xs : List V} {i : Int} (h : At M H p (.lst xs)) (e : atI xs i = some v) (q : Q v H) : rIxL K (.ref p) (.int i) H Q := ⟨p, xs, i, v, rfl, rfl, SqL.of h.2, e, q⟩
theorem i_ixT {M : Mt} {p : Addr} {xs : List V} {i : Int} (h : At M H p (.tup xs)) (e : atI xs i = some v) (q : Q v H) : rIxT K (.ref p) (.int i) H Q := ⟨p, xs, i, v, rfl, rfl, SqT.of h.2, e, q⟩
theorem i_ixK {p : Addr} {xs : List V} {i : Int} (h : SqT K H p xs) (e : atI xs i = some v) (q : Q v H) : rIxT K (.ref p) (.int i) H Q := ⟨p, xs, i, v, rfl, rfl, h, e, q⟩
/-- a branch: by its test -/
theorem i_dec {p A B : Prop} [Decidable p] (h1 : p → A) (h2 : ¬ p → B) : if decide p = true then A else B := by
  by_cases h : p
  · rw [if_pos (decide_eq_true h)]; exact h1 h
  · rw [if_neg (by simpa using h)]; exact h2 h
theorem i_ndec {p A B : Prop} [Decidable p] (h1 : ¬ p → A) (h2 : p → B) : if (!decide p) = true then A else B := by
  by_cases h : p
  · rw [if_neg (by simp [h])]; exact h2 h
  · rw [if_pos (by simp [h])]; exact h1 h
theorem i_bool {b : Bool} {A B : Prop} (h1 : b = true → A) (h2 : b = false → B) : if b = true then A else B := by
  cases b with
  | true => rw [if_pos rfl]; exact h1 rfl
  | false => rw [if_neg Bool.false_ne_true]; exact h2 rfl
theorem i_nT {A B : Prop} (h : B) : if (!true) = true then A else B := iteF h
theorem i_nF {A B : Prop} (h : A) : if (!false) = true then A else B := iteT h
end
/-- the empty state at the body's end -/
theorem small_line {n : Nat} (h : n ≤ 100000) : n ≤ sizeLine := Nat.le_trans h (by decide)
theorem small_lt {n : Nat} (h : n < 100000) : n < sizeLine := Nat.lt_of_lt_of_le h (by decide)
end Bs
set_option Elab.async false
set_option linter.all false
set_option maxRecDepth 100000
set_option maxHeartbeats 2000000
/-! BsR1: rules that the layer lacks: sum of a tuple, list.count of a bool, xs[i] += e, x in a tuple of tuples, enumerate of a tuple, own == and o[i], calls by keywords alone. -/
namespace Bs
open PySem PySem.Spec PyProof.Rows L2
section
variable {X : Cx}
/-! ### texts glued -/
def rAddStr : R2 := fun x y H Q => ∃ i j, x = .str i ∧ y = .str j ∧ i.length + j.length ≤ sizeLine ∧ Q (.str (i ++ j)) H
theorem op_add_strB : OpR X (binaryOp .Add) rAddStr := op_add_str
/-! ### xs[i] by values, for xs[i] += e -/
theorem get_list : PGet X (rIxL X.K) := by
  intro pins s σ H x y v u Q I rx ry h
  obtain ⟨p, xs, i, z, rfl, rfl, hq, he, q⟩ := h
  cases rx
  obtain ⟨t, rfl⟩ := ry
  obtain ⟨its, r, pl, hz⟩ := I.list hq
  obtain ⟨j, h1, h2, h3, h4, h5⟩ := atI_get he
  obtain ⟨w, ew, rw'⟩ := r.get h2
  have hl := r.length
  have hn := line63
  have fin : EP X pins σ Q w s := ⟨z, H, I, rw', q⟩
  by_cases h0 : 0 ≤ i
  · have hj : i.toNat = j := by
      rw [seqIndex_of h0 h5] at h1
      exact Option.some.inj h1
    exact wpAny_getItem_list pl.isList h0 (by omega) (by rw [hj]; simpa using ew) fin
  · have hj : (i + (its.toArray.size : Int)).toNat = j := by
      rw [seqIndex_neg (by omega) h4] at h1
      rw [List.size_toArray, ← hl]
      exact Option.some.inj h1
    exact wpAny_getItem_list_neg pl.isList (by omega) (by rw [List.size_toArray] <;> omega) (by omega) (by rw [hj]; simpa using ew) fin
/-! ### sum(t) -/
def rSumT (K : PySem.W.Frag) : List V → Hp → VK → Prop := fun vs H Q => ∃ (a : Addr) (ns : List Int), vs = [V.ref a] ∧ SqT K H a (ns.map V.int) ∧ Q (.int ns.sum) H
theorem cr_sumT (hc : X.calm = true) : CallR X (.builtin "sum") (rSumT X.K) := by
  intro pins s σ H vs us Q I r h
  obtain ⟨a, ns, rfl, hs, q⟩ := h
  obtain ⟨its, rv, p, _⟩ := I.tuple hs
  rw [Vals.ref1 r]
  have hi := rv.ints
  obtain ⟨xs, e⟩ := hi.allInts.items
  have hn : numsOf (intItems xs).toList = ns := by rw [← e]; exact hi.numsOf
  rw [nums_intItems] at hn
  have ht : s.heap.IsTuple a (intItems xs) := by rw [← e]; exact p
  refine PySem.W.ktm_sumG (I.ok.hd hc) ht fun h' tk t' hk => ⟨.int ns.sum, H, I.kept hk, ⟨t', ?_⟩, q⟩
  rw [preSum_eq, List.take_of_length_le (by simp), hn]
/-! ### xs.count(b) of bools -/
def eqb (b : Bool) (v : Value) : Bool := match v with
  | .bool c => c == b
  | _ => false
theorem eqb_count (b : Bool) : ∀ bs : List Bool, (bs.map Value.bool).countP (eqb b) = bs.count b
  | [] => rfl
  | c :: r => by
    rw [List.map_cons, List.countP_cons, List.count_cons, eqb_count b r]
    rfl
def rCntB (K : PySem.W.Frag) : V → List V → Hp → VK → Prop := fun x xs H Q => ∃ (p : Addr) (bs : List Bool) (b : Bool), x = .ref p ∧ xs = [.bl b] ∧ SqL K H p (bs.map V.bl) ∧ Q (.int (bs.count b : Nat)) H
theorem mt_countB : MtR X "list.count" (rCntB X.K) := by
  intro pins s σ H x xs v us Q I rx rxs h
  obtain ⟨p, bs, b, rfl, rfl, hs, q⟩ := h
  cases rx
  obtain ⟨u, rfl, ru⟩ := rxs.one
  cases ru
  obtain ⟨its, rv, ⟨⟨cls, dd, data, sl⟩, n, ho, hc, hdn, hd⟩, hlen⟩ := I.list hs
  simp only at hc hd
  subst hc hd
  have e := Vals.bls rv
  subst e
  refine call_meets PySem.F.slot_list_count ⟨_, ho, rfl⟩ PySem.F.entry_list_count (PySem.F.args_list_count_2 _ _)
    (SeqAt.list_countAt p (bs.map Value.bool).toArray n dd sl (.bool b) (eqb b)) ⟨ho, fun y hy => ?_, ?_⟩
  · obtain ⟨c, _, rfl⟩ := List.mem_map.mp (show y ∈ bs.map Value.bool by simpa using hy)
    exact eqAt_V (y := .bl c) (x := .bl b) rfl rfl rfl rfl
  refine ⟨.int (bs.count b : Nat), H, I.tok _, ⟨s.toks, ?_⟩, q⟩
  show Value.int (((bs.map Value.bool).toArray.toList.countP (eqb b) : Nat) : Int) s.toks = _
  rw [show (bs.map Value.bool).toArray.toList = bs.map Value.bool from rfl, eqb_count]
/-! ### x in a tuple of data of any depth -/
def rInDT (K : PySem.W.Frag) : R2 := fun x y H Q => ∃ d ds, Dp K H x d ∧ Dp K H y (.tuple ds) ∧ SeqAt.shaped d = true ∧ SeqAt.shaped (.tuple ds) = true ∧ Q (.bl (ds.any fun z => PyData.eqv z d)) H
theorem op_inDT (hu : X.A.units + 65 < cLine) : OpR X (compareOp .In) (rInDT X.K) := by
  intro pins s σ H x y v u Q I rx ry h
  obtain ⟨d, ds, hd, he, sd, se, q⟩ := h
  obtain ⟨as, r1⟩ := Dp.reads I d x v hd rx
  obtain ⟨bs, r2⟩ := Dp.reads I (.tuple ds) y u he ry
  exact SeqAt.in_tuple_reads r2 r1 (SeqAt.canLay_of_shaped se) (SeqAt.canLay_of_shaped sd) (room_in_shaped sd hu) ⟨.bl _, H, I, rfl, q⟩
/-! ### own == of two instances of one class, o[i] by an own __getitem__ -/
def rEqOwn (C : Addr) (sp : Sp) (E : XK) : R2 := fun x y H Q => ∃ a b dx dy fs gs, x = .ref a ∧ y = .ref b ∧ H a = some (.ins C dx fs) ∧ H b = some (.ins C dy gs) ∧ sp [.ref a, .ref b] H Q E
theorem op_eqOwn0 {CX : CXT} {n : Nat} {C f : Addr} {fd : FuncData} {ps : List Str} {sp : Sp} {E : XK} (F : FnOk X.prog X.w X.K X.mg X.base CX n f fd ps sp) (hr : Room n X.A)
    (hs : PySem.W.findIn X.K (.ref C) "__eq__" = some (some (.ref f))) (hf : PySem.W.isFn X.K (.ref f) = true) (hb : Binds X.K fd ps []) (hx : Passes CX X E) : OpR X (compareOp .Eq) (rEqOwn C sp E) := by
  intro pins s σ H x y v u Q I rx ry h
  obtain ⟨a, b, dx, dy, fs, gs, rfl, rfl, ha, hb', hsp⟩ := h
  cases rx
  cases ry
  obtain ⟨mA, J, _⟩ := ins_get I.hok ha
  obtain ⟨mB, J', _⟩ := ins_get I.hok hb'
  obtain ⟨od, J, _⟩ := J.look
  obtain ⟨od', J', _⟩ := J'.look
  obtain ⟨m, hF⟩ := I.fr
  show wpAny (model X.prog X.w) X.A (richCompare .Eq (.ref a) (.ref b)) (EP X pins σ Q) X.xe s
  refine PySem.W.cmp_K (op := .Eq) (tb := .ref C) hr.units0 hF I.ok.mod.kin J J'.type (by simp [PySem.W.notFirst]) hs hf ?_
  refine thn (run_fn (us := [.ref a, .ref b]) (vs := [.ref a, .ref b]) F hr hb .nil hx I (.cons rfl (.cons rfl .nil)) (by rw [List.append_nil]; exact hsp)) fun w s' hq => ?_
  obtain ⟨z, H', I', rz, q⟩ := hq
  cases z with
  | non => cases rz; exact ⟨.non, H', I', rfl, q⟩
  | bl b => cases rz; exact ⟨.bl b, H', I', rfl, q⟩
  | int i => obtain ⟨t, rfl⟩ := rz; exact ⟨.int i, H', I', ⟨t, rfl⟩, q⟩
  | str i => obtain ⟨t, rfl⟩ := rz; exact ⟨.str i, H', I', ⟨t, rfl⟩, q⟩
  | byt i => obtain ⟨t, rfl⟩ := rz; exact ⟨.byt i, H', I', ⟨t, rfl⟩, q⟩
  | flt i => obtain ⟨t, rfl⟩ := rz; exact ⟨.flt i, H', I', ⟨t, rfl⟩, q⟩
  | ref a => cases rz; exact ⟨.ref a, H', I', rfl, q⟩
  | ty n => cases rz; exact ⟨.ty n, H', I', rfl, q⟩
def rOwnIx (C : Addr) (sp : Sp) (E : XK) : R2 := fun x y H Q => ∃ a dx fs, x = .ref a ∧ H a = some (.ins C dx fs) ∧ sp [.ref a, y] H Q E
theorem pe_own0 {CX : CXT} {n : Nat} {C f : Addr} {fd : FuncData} {ps : List Str} {sp : Sp} {E : XK} {a b : Expr} {ta tb : TE} {pos : Pos} (F : FnOk X.prog X.w X.K X.mg X.base CX n f fd ps sp) (hr : Room (n + 1) X.A)
    (hs : PySem.W.findIn X.K (.ref C) "__getitem__" = some (some (.ref f))) (hf : PySem.W.isFn X.K (.ref f) = true) (hfn : PySem.W.fnIn X.K f = true) (hb : Binds X.K fd ps []) (hx : Passes CX X E)
    (ha : PE X a ta) (hbb : PE X b tb) (hsl : ∀ x i, subscripted b true (.ref x) i = runValue (.builtin "lifetime.subscript" ⟨[.ref x, i], []⟩) := by intro _ _; with_unfolding_all rfl) : PE X (.Subscript a b pos) (tOp (rOwnIx C sp E) ta tb) := by
  refine ⟨fun pins s σ H Q I h => ?_⟩
  refine Subscript_ (binT ha hbb I h fun v u s2 x y H2 I2 rx ry q => ?_)
  obtain ⟨a', dx, fs, rfl, ea, q⟩ := q
  cases rx
  obtain ⟨mA, J, _⟩ := ins_get I2.hok ea
  obtain ⟨od, J, _⟩ := J.look
  obtain ⟨m, hF⟩ := I2.fr
  refine PySem.W.sub_K hF I2.ok.mod.kin J hs hfn hf ?_ (hsl _ _)
  have r2 : Vals [V.ref a', y] [Value.ref a', u] := .cons rfl (.cons ry .nil)
  have hl : ([Value.ref a', u] : List Value).length = ps.length := by rw [← r2.length]; exact F.len _ _ _ _ q
  refine wpAny_call (codeAny_mono (F.run X.A.in1 X.stack s2 H2 ⟨[.ref a', u], []⟩ [.ref a', u] [.ref a', y] Q E hr.in1 I2.env0.in1 (by
    have := hb s2 [.ref a', u] I2.kIn (by simpa using hl)
    simpa using this) r2 q) fun r s' hq => ?_)
  cases r with
  | error er => exact hx pins σ H2 s2 er s' I2 hq
  | ok fl =>
    cases fl with
    | ret u => exact I2.after hq
    | next => exact False.elim hq
    | brk => exact False.elim hq
    | cont => exact False.elim hq
end
end Bs
set_option Elab.async false
set_option linter.all false
set_option maxRecDepth 100000
set_option maxHeartbeats 2000000
/-! BsR2: calls by keywords alone; for i, x in enumerate(t), t a tuple. -/
namespace Bs
open PySem PySem.Spec PyProof.Rows L2
section
variable {X : Cx} {CX : CXT} {k : Nat} {f : Addr} {fd : FuncData} {ps ks : List Str} {sp : Sp} {E : XK} {x : Str} {p pos : Pos} {kws : List Keyword} {tk : TA}
/-- all arguments by their names; gV puts the values, as they are written, in the parameters' order -/
structure KB0 (K : PySem.W.Frag) (fd : FuncData) (ps ks : List Str) (g : {α : Type} → List α → List α) : Prop where
  to : ∀ (s : Shared) (ws : List Value), K.In s.heap → ws.length = ks.length → BindsTo s fd ⟨[], ks.zip ws⟩ (ps.zip (g ws))
  rel : ∀ {zs : List V} {ws : List Value}, Vals zs ws → zs.length = ks.length → Vals (g zs) (g ws)
def tCalK0 (sp : Sp) (n : Nat) (g : List V → List V) (E : XK) (tk : TA) : TE := fun σ H Q => tk σ H fun zs H2 => zs.length = n ∧ sp (g zs) H2 Q E
theorem pe_calK00 {g : {α : Type} → List α → List α} (F : FnOk X.prog X.w X.K X.mg X.base CX k f fd ps sp) (hr : Room k X.A) (hm : X.mg x = some (.ref f)) (hk : PySem.W.keepIn X.K (.ref f) = true) (hb : KB0 X.K fd ps ks g) (hx : Passes CX X E)
    (hg : Gl X x) (hkw : PK X kws tk) (hall : (backToKw pos (keywordEach kws X.env)).all (·.1.isSome) = true := by rfl) (hks : (backToKw pos (keywordEach kws X.env)).filterMap (·.1) = ks := by rfl)
    (hdb : (x == ("__debug__" : Str)) = false := by decide) (hpl : ((backTo pos (starEach [] X.env)).any (·.1) || (backToKw pos (keywordEach kws X.env)).any (·.1.isNone)) = false := by rfl) :
    PE X (.Call (.Name x p) [] kws pos) (tCalK0 sp ks.length g E tk) := by
  refine ⟨fun pins s σ H Q I h => ?_⟩
  refine wpAny_Call_Name_kw (ld_glob I hg hm ?_ hdb)
  refine PySem.W.callWith_KW0 (h₀ := X.base) I.ok.mod.kin hk hall (thn (hkw.run pos pins s σ H _ I h) fun ws s2 ⟨zs, H2, I2, rz, hl, q2⟩ => ⟨I2.kIn, ?_⟩) hpl
  rw [hks]
  have r2 := hb.rel rz hl
  show wpAny _ _ (call (.ref f) [] (ks.zip ws)) _ _ _
  refine wpAny_call (codeAny_mono (F.run X.A X.stack s2 H2 ⟨[], ks.zip ws⟩ (g ws) (g zs) Q E hr I2.env0 (hb.to s2 ws I2.kIn (rz.length.symm.trans hl)) r2 q2) fun r s' hq => ?_)
  cases r with
  | error e => exact hx pins σ H2 s2 e s' I2 hq
  | ok fl =>
    cases fl with
    | ret u => exact I2.after hq
    | next => exact False.elim hq
    | brk => exact False.elim hq
    | cont => exact False.elim hq
end
/-! ### enumerate of a tuple -/
section
variable {prog : Program} {w : World} {A : Around} {E : Value → Shared → Prop} {s : Shared}
theorem enum_new_tuple (t : Addr) (items : Array Value) :
    Meets (Builtin.«enumerate.__new__» ⟨[.type "enumerate", .ref t], []⟩) (fun _ R s => s.heap.IsTuple t items ∧
      R (.ok (.ret (.ref (s.heap.push { cls := .type "tuple_iterator", data := .fields #[.ref t, .int 0 0] }).objs.size)))
        { s with heap := (s.heap.push { cls := .type "tuple_iterator", data := .fields #[.ref t, .int 0 0] }).push { cls := .type "enumerate", data := .fields #[.none, .bool false, .ref s.heap.objs.size, rawInt 0, .none, .none] } }) :=
  .of_wp fun prog w A R s h => by
    obtain ⟨hp, g, d, tk, os⟩ := s; obtain ⟨ht, h⟩ := h
    have hsub := sub_enumerate
    have q1 : ∀ {A' : Around} {E : Value → Shared → Prop} {Q : Value → Shared → Prop}, Q (.ref hp.objs.size) ⟨hp.push { cls := .type "tuple_iterator", data := .fields #[.ref t, .int 0 0] }, g, d, tk, os⟩ → wpAny (model prog w) A' (pyIter (.ref t)) Q E ⟨hp, g, d, tk, os⟩ :=
      fun q => wpAny_pyIter_tuple ht q
    wp_walk using q1
    refine wpAny_stack_any fun st => wpAny_pure ?_
    split
    · rename_i c _ _ _ _ _
      cases (c == Value.type "enumerate")
      · wp_walk using q1
        exact ⟨_, rfl, h⟩
      · wp_walk using q1
        exact ⟨_, rfl, h⟩
    · wp_walk using q1
      exact ⟨_, rfl, h⟩
theorem call_enumerate_tup {t : Addr} {items : Array Value} {Q : Value → Shared → Prop} (ht : s.heap.IsTuple t items)
    (h : ∀ h', IsEnum h' (s.heap.objs.size + 1) s.heap.objs.size 0 .none → h'.IsTupleIter s.heap.objs.size t 0 →
      (∀ b o, s.heap.get? b = some o → h'.get? b = some o) → Q (.ref (s.heap.objs.size + 1)) { s with heap := h' }) :
    wpAny (model prog w) A (call (.type "enumerate") [.ref t]) Q E s := by
  refine callType_new F.called_enumerate (by decide) (F.typeCall_enumerate_1 _) (F.newCall_enumerate_1 _) (fun obj => F.args_object_init_2 obj _) F.entry_enumerate_new
    (enum_new_tuple t items) ⟨ht, ?_⟩
  have hz : (s.heap.push { cls := .type "tuple_iterator", data := .fields #[.ref t, .int 0 0] }).objs.size = s.heap.objs.size + 1 := Heap.size_push ..
  show _ ∧ _
  rw [hz]
  have he : IsEnum ((s.heap.push { cls := .type "tuple_iterator", data := .fields #[.ref t, .int 0 0] }).push
      { cls := .type "enumerate", data := .fields #[.none, .bool false, .ref s.heap.objs.size, rawInt 0, .none, .none] }) (s.heap.objs.size + 1) s.heap.objs.size 0 .none := by
    have := Heap.get?_push_size (s.heap.push { cls := .type "tuple_iterator", data := .fields #[.ref t, .int 0 0] })
      (o := { cls := .type "enumerate", data := .fields #[.none, .bool false, .ref s.heap.objs.size, rawInt 0, .none, .none] }) rfl
    rw [hz] at this; exact this
  exact ⟨⟨_, he, rfl⟩, h _ he ⟨_, Heap.get?_push_of_some _ (Heap.get?_push_size _ rfl), rfl, rfl⟩ fun b o x => Heap.get?_push_of_some _ (Heap.get?_push_of_some _ x)⟩
end
/-- the tuple at a, each item in a new pair -/
def IteT (K : PySem.W.Frag) (a : Addr) : It :=
  ⟨fun i H => ∃ (xs : List V) (x : V), SqT K H a xs ∧ xs[i]? = some x, fun i H v H' => ∃ T x, v = .ref T ∧ H T = none ∧ H' = upd H T (.tup [.int (i : Nat), x]) ∧ ∀ xs, SqT K H a xs → xs[i]? = some x, fun i H => ∃ xs : List V, SqT K H a xs ∧ xs.length ≤ i⟩
theorem turn_enumT {P : Program} {w : World} {K : PySem.W.Frag} {elts : List Expr} {kk : Nat} {tpos : Pos} (a e it : Addr) :
    Turn P w K (.Tuple elts kk tpos) (IteT K a) [e, it] e (fun i h => (∃ old, IsEnum h e it ((i : Nat) : Int) old) ∧ h.IsTupleIter it a i ∧ e ≠ it) where
  mem := by simp
  obj := fun i h st b hb => by
    obtain ⟨⟨old, he⟩, ⟨o, ho, hc, hd⟩, _⟩ := st
    have e' : b = e ∨ b = it := by simpa using hb
    rcases e' with z | z
    · rw [z]; exact ⟨_, he, fun v q => nomatch q⟩
    · rw [z]; exact ⟨o, ho, fun v q => by rw [hd] at q; cases q⟩
  keep := fun i h h' st k => let ⟨⟨old, he⟩, hi, hne⟩ := st; ⟨⟨old, k e (by simp) _ he⟩, hi.at fun o q => k it (by simp) o q, hne⟩
  item := by
    intro X hP hw hK hc i pins s σ H E I hf st hg
    subst hP hw hK
    obtain ⟨⟨old, he⟩, hit, hne⟩ := st
    obtain ⟨xs, x, hq, hx⟩ := hg
    obtain ⟨its, rv, p, hz⟩ := I.tuple hq
    obtain ⟨u, hu, ru⟩ := rv.get hx
    have hel : e < s.heap.objs.size := Heap.lt_size he
    have hil : it < s.heap.objs.size := by obtain ⟨_, q, _⟩ := hit; exact Heap.lt_size q
    have pt : s.heap.IsTuple a its.toArray := p
    have hat : a ≠ it := fun z => by
      obtain ⟨o, h1, h2, _⟩ := pt
      obtain ⟨o', h3, h4, _⟩ := hit
      rw [z, h3] at h1
      rw [← Option.some.inj h1, h4] at h2
      exact absurd (Value.type.inj h2) (by decide)
    have hae : e ≠ a := fun z => by
      obtain ⟨o, h1, h2, _⟩ := pt
      rw [← z] at h1
      have he' := he
      unfold IsEnum at he'
      rw [he'] at h1
      rw [← Option.some.inj h1] at h2
      exact absurd (show "enumerate" = "tuple" from Value.type.inj h2) (by decide)
    have hlt : i < its.toArray.size := by
      have := (List.getElem?_eq_some_iff.mp hu).1
      simpa using this
    refine wpAny_pyNext_enum_itemC (Draws.tuple (prog := X.prog) (w := X.w) (A := X.A.in1) (I.ok.hd hc) it a hat its.toArray) he ⟨hit, pt⟩ hlt hne (by
      intro z
      rcases List.mem_cons.mp z with q | q
      · exact hne q
      · exact hae (List.mem_singleton.mp q)) fun x' h' tk hP ho hst' hT hsz hk => ?_
    have ex : x' = u := by
      have : its.toArray[i]? = some x' := hP
      rw [show its.toArray[i]? = its[i]? by simp, hu] at this
      exact (Option.some.inj this).symm
    subst ex
    refine ⟨_, rfl, wpAny_letOwnedTupleGo_enum (s := { s with heap := h', toks := tk + 1 }) ho fun h'' he' sb => ?_⟩
    have hT2 : h''.get? s.heap.objs.size = some { cls := .type "tuple", data := .seq #[.int i tk, x'] } := (sb.2 _ (Nat.ne_of_gt hel)).trans hT
    have new : ObjOk X.prog X.w (upd H s.heap.objs.size (.tup [.int (i : Nat), x])) h'' s.heap.objs.size (.tup [.int (i : Nat), x]) :=
      ⟨by show 2 ≤ sizeLine; decide, [.int i tk, x'], .cons ⟨_, rfl⟩ (.cons ru .nil), ⟨_, hT2, rfl, _, rfl⟩⟩
    have I1 : Inv X pins σ (upd H s.heap.objs.size (.tup [.int (i : Nat), x])) { s with heap := h'', toks := tk + 1 } :=
      I.turnedNew (ch := [e, it]) (fun b ob hb q => (sb.2 b (fun z => hb (by simp [z]))).trans (hk b ob (fun z => hb (by simp [z])) (fun z => hb (by simp [z])) q)) hf (Nat.le_refl _) new
    refine ⟨.ref s.heap.objs.size, _, I1, rfl, ⟨_, x, rfl, I.hok.fresh (Nat.le_refl _), rfl, fun ys hy => by rw [I.tuple_inj hy hq]; exact hx⟩, ⟨⟨x', ?_⟩, hst'.1.at fun o q => (sb.2 it (Ne.symm hne)).trans q, hne⟩, fun b hb => ?_⟩
    · have e1 : ((i + 1 : Nat) : Int) = (i : Int) + 1 := by omega
      rw [e1]; exact he'
    · have hb' : b < s.heap.objs.size := by
        have e' : b = e ∨ b = it := by simpa using hb
        rcases e' with z | z
        · rw [z]; exact hel
        · rw [z]; exact hil
      rw [upd_ne (Nat.ne_of_lt hb')]
      exact (hf b hb).1
  done := by
    intro X hP hw hK hc i pins s σ H E I hf st hg
    subst hP hw hK
    obtain ⟨⟨old, he⟩, hit, hne⟩ := st
    obtain ⟨xs, hq, hx⟩ := hg
    obtain ⟨its, rv, p, hz⟩ := I.tuple hq
    obtain ⟨f0, f1, f2, f3, f4, f5⟩ := hf it (by simp)
    have pt : s.heap.IsTuple a its.toArray := p
    have hat : a ≠ it := fun z => by
      obtain ⟨o, h1, h2, _⟩ := pt
      obtain ⟨o', h3, h4, _⟩ := hit
      rw [z, h3] at h1
      rw [← Option.some.inj h1, h4] at h2
      exact absurd (Value.type.inj h2) (by decide)
    have D' : Draws X.prog X.w X.A.in1 it [it, a] i (fun _ _ => True) (fun j h => j = i ∧ h.IsTupleIter it a j ∧ h.IsTuple a its.toArray) :=
      ⟨fun _ _ st' => let ⟨_, ⟨o, ho, _⟩, _⟩ := st'; ⟨o, ho⟩, fun _ _ _ st' hk => ⟨st'.1, st'.2.1.at fun o q => hk it (by simp) o q, st'.2.2.at fun o q => hk a (by simp) o q⟩,
        fun j s' Q' E' hj st' hQ => absurd st'.1 (Nat.ne_of_lt hj), fun s' Q' E' st' hE => wpAny_nextOf_tuple_end (I.ok.hd hc) st'.2.1 st'.2.2 (by have hl := rv.length; simp; omega) hE⟩
    exact wpAny_pyNext_enum_endD D' he ⟨rfl, hit, pt⟩ fun h' hx' => ⟨rfl, I.turned (t' := s.toks) (fun b o hb q => hx' b o hb q) f0 f1 f3 f4 f5⟩
  self := fun A i s Q E st h => let ⟨⟨_, he⟩, _⟩ := st; wpAny_pyIter_enum he h
def iEnumT (K : PySem.W.Frag) (ta : TA) : TI := fun σ H R => ta σ H fun vs H1 => ∃ a xs, vs = [.ref a] ∧ SqT K H1 a xs ∧ R (IteT K a) H1
theorem pi_enumT {X : Cx} {e : Expr} {ta : TA} {p pos tpos : Pos} {elts : List Expr} {kk : Nat} (hg : Gl X "enumerate") (hm : X.mg "enumerate" = none) (ha : PA X [e] ta) (hs : starEach [e] X.env = [(false, eval e X.env)] := by rfl) :
    PI X (.Tuple elts kk tpos) (.Call (.Name "enumerate" p) [e] [] pos) (iEnumT X.K ta) := by
  refine ⟨fun pins s σ H R I h => ?_⟩
  refine Call_ (ld_blt I hg hm boot_enumerate (PyProof.Rows.callWith_type1 (thn (ha.run pos pins s σ H _ I h) fun us s1 ⟨vs, H1, I1, r1, q1⟩ => ?_) hs rfl))
  obtain ⟨a, xs, ex, hq, q⟩ := q1
  subst ex
  cases r1 with
  | cons r rr =>
    cases rr
    cases r
    obtain ⟨its, rv, p', hz⟩ := I1.tuple hq
    refine call_enumerate_tup (show s1.heap.IsTuple a its.toArray from p') fun h' he hit hk => wpAny_pyIter_enum he ?_
    have I2 : Inv X pins σ H1 { s1 with heap := h' } := I1.kept (t' := s1.toks) hk
    refine ⟨s1.heap.objs.size + 1, [s1.heap.objs.size + 1, s1.heap.objs.size], _, _, H1, rfl, I2, turn_enumT a (s1.heap.objs.size + 1) s1.heap.objs.size, ⟨⟨.none, he⟩, hit, Nat.succ_ne_self _⟩, fun b hb => ?_, q⟩
    have e' : b = s1.heap.objs.size + 1 ∨ b = s1.heap.objs.size := by simpa using hb
    have hle : s1.heap.objs.size ≤ b := by
      rcases e' with z | z
      · rw [z]; exact Nat.le_add_right _ _
      · rw [z]; exact Nat.le_refl _
    exact I1.fpOk hle (I1.hok.fresh hle)
theorem walk_enumT {K : PySem.W.Frag} {a : Addr} {xs : List V} : Walk (IteT K a) xs.length (fun H => SqT K H a xs) (YPair (fun i => some (.int (i : Nat))) (fun i => xs[i]?)) := by
  refine ⟨fun i _ hi q => ⟨xs, xs[i], q, by simp [hi]⟩, fun _ q => ⟨xs, q, Nat.le_refl _⟩, fun i H v H' _ q y => ?_⟩
  obtain ⟨T, x, h1, h2, h3, h4⟩ := y
  exact ⟨T, .int (i : Nat), x, h1, h2, h3, rfl, h4 xs q⟩
end Bs
set_option Elab.async false
set_option linter.all false
set_option maxRecDepth 100000
set_option maxHeartbeats 4000000
/-! BsX1: the package's own error classes: over an own class over ValueError, their __init__ says super().__init__(f'..') and keeps the argument. -/
namespace BsX
open PySem PySem.W PySem.Calls PyProof.Rows PySem.HandSPX
/-! ### the text of __init__: its positions are letters -/
structure IPos where
  (a1 a2 b0 b1 b2 b3 b4 b5 b6 b7 b8 b9 c1 c2 c3 c4 : Pos)
def iA (p : IPos) : Arguments := { posonlyargs := [], args := [{ arg := "self", annotation := none, pos := p.a1 }, { arg := "argument", annotation := none, pos := p.a2 }], vararg := none, kwonlyargs := [], kw_defaults := [], kwarg := none, defaults := [] }
def iJ (p : IPos) (z : Str) : Expr := .JoinedStr [.FormattedValue (.Name "argument" p.b5) (-1) none p.b6, .Constant (.str z) 0 p.b7] p.b8
def iB (p : IPos) (z : Str) : List Stmt := [.Expr (.Call (.Attribute (.Call (.Name "super" p.b0) [] [] p.b1) "__init__" p.b2) [iJ p z] [] p.b3) p.b4, .Assign [.Attribute (.Name "self" p.c1) "argument" p.c2] (.Name "argument" p.c3) p.c4]
def iS : Scope := { kind := .function, names := [(PySem.Str.ofString "self", .local), (PySem.Str.ofString "argument", .local), (PySem.Str.ofString "__class__", .free), (PySem.Str.ofString "super", .globalImplicit)], isGenerator := false, isCoroutine := false, more := [] }
/-- the two classes of the text: WrongKind, WrongSize -/
def pp : Bool → IPos
  | true => ⟨⟨9, 17, 9, 21⟩, ⟨9, 23, 9, 31⟩, ⟨10, 8, 10, 13⟩, ⟨10, 8, 10, 15⟩, ⟨10, 8, 10, 24⟩, ⟨10, 8, 10, 58⟩, ⟨10, 8, 10, 58⟩, ⟨10, 28, 10, 36⟩, ⟨10, 27, 10, 37⟩, ⟨10, 37, 10, 56⟩, ⟨10, 25, 10, 57⟩, ⟨0, 0, 0, 0⟩, ⟨11, 8, 11, 12⟩, ⟨11, 8, 11, 21⟩, ⟨11, 24, 11, 32⟩, ⟨11, 8, 11, 32⟩⟩
  | false => ⟨⟨14, 17, 14, 21⟩, ⟨14, 23, 14, 31⟩, ⟨15, 8, 15, 13⟩, ⟨15, 8, 15, 15⟩, ⟨15, 8, 15, 24⟩, ⟨15, 8, 15, 56⟩, ⟨15, 8, 15, 56⟩, ⟨15, 28, 15, 36⟩, ⟨15, 27, 15, 37⟩, ⟨15, 37, 15, 54⟩, ⟨15, 25, 15, 55⟩, ⟨0, 0, 0, 0⟩, ⟨16, 8, 16, 12⟩, ⟨16, 8, 16, 21⟩, ⟨16, 24, 16, 32⟩, ⟨16, 8, 16, 32⟩⟩
def zz : Bool → Str
  | true => " is of a wrong kind"
  | false => " has a wrong size"
theorem k_super : iS.names.lookup ("super" : Str) = some NameKind.globalImplicit := by decide +kernel
theorem k_cls : iS.names.lookup ("__class__" : Str) = some NameKind.free := by decide +kernel
theorem k_self : iS.names.lookup ("self" : Str) = some NameKind.local := by decide +kernel
theorem k_arg : iS.names.lookup ("argument" : Str) = some NameKind.local := by decide +kernel
theorem zz_len : ∀ b : Bool, (zz b).length ≤ 100
  | true => by decide +kernel
  | false => by decide +kernel
/-- what the written part says of such a class -/
structure Ec (K : Frag) (mg : Str → Option Value) (prog : Program) (kd : Bool) (nm : Str) (C : Addr) : Prop where
  gC : mg nm = some (.ref C)
  cls : ∃ nm q N bs bm sn sub ab col dd k0 k1 k2 k3 k5, K.lookup C = some (excClassObj nm q C N bs bm true sn sub ab col dd k0 k1 k2 k3 k5 "ValueError.__new__") ∧ refsVE bm = true
  sa : findIn K (.ref C) "__setattr__" = some (some (.builtin "object.__setattr__"))
  ga : findIn K (.ref C) "__getattribute__" = some (some (.builtin "BaseException.__getattribute__"))
  gg : findIn K (.ref C) "__getattr__" = some none
  noN : findIn K (.ref C) "argument" = some none
  kC : keepIn K (.ref C) = true
  exC : subIn K (.ref C) (.type "BaseException") = some true
  veC : subIn K (.ref C) (.type "ValueError") = some true
  tyC : typeIn K (.ref C) = some (.type "type")
  hdC : hasDictIn K C = true
  self : mroIn K C (.ref C) = some true
  opq : nsIn K cStatics "thirdparty.any" = some none
  gS : mg "super" = none
  sup : ks_superIn K C C "__init__" = some (some (.builtin "ValueError.__init__"))
  fn : ∃ (fI cc cda : Addr) (qual : Str) (oc : Value) (od : Option Addr) (doc pm : Value) (an : Option Addr) (ct : Value) (osl : Array (Option Value)) (ccl cl : Value) (cdd cld : Option Addr) (ccs csl : Array (Option Value)) (vs : Array Value) (file : Str) (tf : Tok),
    findIn K (.ref C) "__init__" = some (some (.ref fI)) ∧ typeIn K (.ref fI) = some (.type "function") ∧
    K.lookup fI = some ⟨oc, od, .func (ksFn "__init__" qual (iA (pp kd)) (iB (pp kd) (zz kd)) iS .none .none doc pm an (.ref cda) ct cc), osl⟩ ∧ codeIn K (.ref cda) qual = true ∧
    K.lookup cda = some ⟨ccl, cdd, .fields vs, ccs⟩ ∧ vs[2]? = some (.str file tf) ∧ ((prog.main.file : Str) == file) = true ∧ (prog.main.scope.names.lookup ("super" : Str)).isSome = false ∧
    K.lookup cc = some ⟨cl, cld, .cell (some (.ref C)), csl⟩
/-- what __init__ leaves of a fresh exception at x -/
structure InitEnd (h h' : Heap) (x C dx t1 : Addr) (v : Value) : Prop where
  keep : ∀ b o, b ≠ x → h.get? b = some o → h'.get? b = some o
  obj : h'.get? x = some { cls := .ref C, dict := some dx, data := .fields #[.ref t1, .none, .none, .none, .bool false, .none] }
  dbig : h.objs.size ≤ dx
  dne : dx ≠ x
  ns : h'.Ns1 dx (fun y => if y = "argument" then some v else none)
/-- a made error -/
structure OwnMade (h h' : Heap) (e C d : Addr) (v : Value) : Prop where
  keep : ∀ b o, h.get? b = some o → h'.get? b = some o
  new : h.objs.size ≤ e
  obj : ∃ oe vs, h'.get? e = some oe ∧ oe.cls = .ref C ∧ oe.dict = some d ∧ oe.data = .fields vs ∧ vs[1]? = some .none
  dbig : h.objs.size ≤ d
  dne : d ≠ e
  ns : h'.Ns1 d (fun y => if y = "argument" then some v else none)
theorem one_size (v : Value) : [v].length ≤ sizeLine := by
  rw [sizeLine_eq]
  exact (by decide : 1 ≤ 16777216)
section
variable {prog : Program} {w : World} {A : Around} {E : Value → Shared → Prop} {R : Result → Shared → Prop} {s : Shared} {K : Frag} {mg mb : Str → Option Value} {C : Addr} {nm : Str} {kd : Bool}
/-- super().__init__(u), the wrapper of ValueError.__init__ called -/
theorem call_mw {hp : Heap} {g : Array GenState} {d : Drawn} {t : Nat} {os : OsState} {n q : Str} {N : Addr} {bs bm : List Value} {sn : List Str} {sub : List Value} {ab : Bool} {col : Option Bool} {dd : Option Addr} {k0 k1 k2 k3 k5 : Option Value} {u e t0 : Addr} {rest : List Value} {Q : Value → Shared → Prop}
    (hC : hp.get? C = some (excClassObj n q C N bs bm true sn sub ab col dd k0 k1 k2 k3 k5 "ValueError.__new__")) (he : hp.get? e = some (excO C t0)) (hu : hp.get? u = some (kxs_mw "ValueError.__init__" e)) (hrest : rest.length ≤ sizeLine)
    (hq : ∀ h' t1, (∀ b o, b ≠ e → hp.get? b = some o → h'.get? b = some o) → h'.get? e = some (excO C t1) → Q .none ⟨h', g, d, t, os⟩) :
    wpAny (model prog w) A (call (.ref u) rest) Q E ⟨hp, g, d, t, os⟩ := by
  refine wpAny_call (codeAny_of_tree ?_)
  show wpAny _ A.in1 (callAny (.ref u) ⟨rest, []⟩) _ _ _
  simp only [callAny]
  refine wpAny_bind (wpAny_load hu ?_)
  simp only [kxs_mw, show (Value.type "method-wrapper" == Value.type "method" || Value.type "method-wrapper" == Value.type "builtin_function_or_method" || Value.type "method-wrapper" == Value.type "method-wrapper") = true by decide, if_true]
  refine W.KFB.if_so (by decide) ?_
  refine wpAny_bind (PySem.ESX.check_bound F.excBase_ValueError hC he rfl ?_)
  refine wpAny_bind (wpAny_pure (wpAny_pure ?_))
  refine ⟨Code.quiet_builtin _ (by decide +kernel), codeAny_builtin F.excBase_ValueError.initEntry ?_⟩
  rw [Around.under_plainId F.excBase_ValueError.init.plain _]
  exact exc_init_tree (cls := .ref C) (t0 := t0) (dv := none) (c2 := .none) (c3 := .none) (b4 := .bool false) he hrest fun h' k q _ => hq h' _ k q
/-- f'{argument} ..' -/
theorem joined {env : Env} {m : Str → Option Value} {z y : Str} {ty : Tok} {p : IPos} {Q : Value → Shared → Prop} (hn : s.heap.Ns env.locals m) (hv : m "argument" = some (.str y ty)) (hy : y.length ≤ 1000) (hz : z.length ≤ 100)
    (hk : env.scope.kind = .function) (hl : env.kindOf "argument" = some .local) (h : ∀ u tk, Q u { s with toks := tk }) : wpAny (model prog w) A (eval (iJ p z) env) Q E s := by
  have hy' : y.length ≤ sizeLine := Nat.le_trans hy (by decide)
  have e0 : evalEach [Expr.FormattedValue (.Name "argument" p.b5) (-1) none p.b6, .Constant (.str z) 0 p.b7] env = [eval (.FormattedValue (.Name "argument" p.b5) (-1) none p.b6) env, eval (.Constant (.str z) 0 p.b7) env] := by first | rfl | simp [evalEach]
  have ey : (Str.empty ++ y).length = y.length := by
    rw [PySem.Str.length_append]
    show 0 + y.length = y.length
    omega
  have ez : (Str.empty ++ y ++ z).length ≤ sizeLine := by
    rw [PySem.Str.length_append, ey]
    exact Nat.le_trans (by omega : y.length + z.length ≤ 1100) (by decide)
  refine wpAny_JoinedStr ?_
  rw [e0]
  have fin : ∀ (s1 : Shared), (∃ tk, s1 = { s with toks := tk }) → Joins (model prog w) A E [eval (.Constant (.str z) 0 p.b7) env] (Str.empty ++ y) (fun out s' => out.length ≤ sizeLine ∧ Q (.str out s'.toks) { s' with toks := s'.toks + 1 }) s1 := by
    intro s1 e1
    obtain ⟨tk, rfl⟩ := e1
    refine Calls.Constant_str ?_
    exact ⟨z, _, rfl, ez, ez, h _ _⟩
  refine wpAny_FormattedValue_plain (wpAny_Name (wpAny_loadName_local hk hl hn hv ?_) (by decide))
  refine wpAny_formatField_str ?_ ?_ hy'
  · exact ⟨y, _, rfl, by rw [ey]; exact hy', fin _ ⟨s.toks, rfl⟩⟩
  · exact ⟨y, _, rfl, by rw [ey]; exact hy', fin _ ⟨s.toks + 1, rfl⟩⟩
theorem ec_init (T : Ec K mg prog kd nm C) {fI : Addr} (hfI : findIn K (.ref C) "__init__" = some (some (.ref fI))) {x t0 : Addr} {y : Str} {ty : Tok} (X : K.In s.heap) (hg : s.heap.Ns mainGlobals mg) (hb : s.heap.Ns builtinsNs mb) (hbb : ∀ x : Str, x ≠ "__name__" → mb x = bootBuiltins x) (hlim : s.heap.NoLimit)
    (hx : s.heap.get? x = some (excO C t0)) (hnx : K.lookup x = none) (hy : y.length ≤ 1000) (hroom : A.depth < recursionLimit)
    (hq : ∀ h' tk dx t1, InitEnd s.heap h' x C dx t1 (.str y ty) → R (.ok (.ret .none)) { s with heap := h', toks := tk }) :
    codeAny (model prog w) A (.call (.ref fI) ⟨[.ref x, .str y ty], []⟩) R s := by
  obtain ⟨fI', cc, cda, qual, oc, od, doc, pm, an, ct, osl, ccl, cl, cdd, cld, ccs, csl, vs, file, tf, f1, ft, lf, hcd, lcd, hvs, hfile, htop, lcc⟩ := T.fn
  obtain rfl : fI' = fI := by
    rw [f1] at hfI
    exact Value.ref.inj (Option.some.inj (Option.some.inj hfI))
  obtain ⟨n, q, N, bs, bm, sn, sub, ab, col, dd, k0, k1, k2, k3, k5, hC, hbm⟩ := T.cls
  have hcl : clsIn K C = some { name := n, bases := bs, mro := .ref C :: bm, ns := N, qualname := q, hasDict := true, slotNames := sn, subclasses := sub, abstract := ab, collection := col, hasDel := false } := by unfold clsIn; rw [hC] <;> rfl
  refine ks_codeAny_call_defAt (fd := ksFn "__init__" qual (iA (pp kd)) (iB (pp kd) (zz kd)) iS .none .none doc pm an (.ref cda) ct cc) (body := iB (pp kd) (zz kd)) (binds := [("self", .ref x), ("argument", .str y ty)]) hroom (X _ _ lf) rfl hlim (codeRec_of X hcd) rfl
    (args := ⟨[.ref x, .str y ty], []⟩) (BindsTo.of_eq (by first | rfl | with_unfolding_all rfl)) (show ∀ x ∈ iS.names, x.2 ≠ .cell by decide +kernel) (fun b hb => ?_) (fun h₁ hns k => ?_)
  · show iS.names.lookup b.1 = some .local
    rcases List.mem_cons.mp hb with e | hb
    · rw [e]
      exact (by decide +kernel : iS.names.lookup ("self" : Str) = some NameKind.local)
    · rw [List.mem_singleton.mp hb]
      exact (by decide +kernel : iS.names.lookup ("argument" : Str) = some NameKind.local)
  generalize hL : s.heap.objs.size = L at hns
  show _root_.PySem.wpAt (model prog w) (A.deeper (ksEnv qual iS L fI' (.ref cda) cc)) (.func (iB (pp kd) (zz kd)) (ksEnv qual iS L fI' (.ref cda) cc)) (execs (iB (pp kd) (zz kd)) (ksEnv qual iS L fI' (.ref cda) cc)) _ _ _
  have hxL : L ≠ x := by rw [← hL]; exact Nat.ne_of_gt (Heap.lt_size hx)
  have X₁ : K.In h₁ := X.keeps k
  have hx₁ := k _ _ hx
  have hs₁ : h₁.get? C = some _ := X₁ _ _ hC
  have lt1 : ∀ {b : Addr} {o : Obj}, s.heap.get? b = some o → b ≠ L := fun {b o} e => by rw [← hL]; exact Nat.ne_of_lt (Heap.lt_size e)
  have xC : x ≠ C := fun e => by
    have a := X _ _ hC
    rw [← e, hx] at a
    have b := congrArg Obj.data (Option.some.inj a)
    exact nomatch b
  refine ks_wpAt_execs_cons (ks_wpAt_Expr_any (ks_wpAt_MethodCall (pl := (do return (← importBound (.Call (.Name "super" (pp kd).b0) [] [] (pp kd).b1) (ksEnv qual iS L fI' (.ref cda) cc)).getD true)) ?_ (by cases kd <;> rfl)) rfl (by cases kd <;> rfl))
  -- super()
  refine ks_wpAt_super_base (env := ksEnv qual iS L fI' (.ref cda) cc) k_super k_cls (by decide +kernel) rfl (X₁ _ _ lf) rfl rfl rfl (X₁ _ _ lcd) rfl hvs hfile htop ?_
  refine ks_loadName_global rfl k_super (loadGlobal_builtin (env := ksEnv qual iS L fI' (.ref cda) cc) (hg.keeps k) T.gS (hb.keeps k) ((hbb _ (by decide +kernel)).trans (by decide +kernel)) ⟨rfl, ?_⟩)
  refine wpAny_loadName_free rfl k_cls rfl ⟨_, X₁ _ _ lcc, rfl⟩ ?_
  refine wpAny_loadName_local rfl k_self hns (v := .ref x) (by first | rfl | decide +kernel) ?_
  refine ks_wpAny_isType_cls hs₁ rfl ⟨rfl, ?_⟩
  obtain ⟨hp0, g, d, tk0, os⟩ := s
  refine ks_wpAny_call_super hs₁ rfl hx₁ rfl (fun c e => nomatch e) (looks_mroIn X₁ T.self) (fun h₂ e2 k2 => ?_)
  have X₂ : K.In h₂ := X₁.keeps k2
  have hx₂ := k2 _ _ hx₁
  have hns₂ := hns.keeps k2
  have hI : Looks (model prog w) h₂ (isInstance (.ref x) (.type "ValueError")) true := (InstAt.type (od := none) ⟨hx₂, rfl, rfl, trivial⟩).andThen (looks_subIn X₂ T.veC)
  have hsup : alongIn K "__init__" (((Value.ref C :: bm).dropWhile (· != .ref C)).drop 1) = some (some (.builtin "ValueError.__init__")) := by
    have q := T.sup
    unfold ks_superIn at q
    rw [hcl] at q
    exact q
  refine kxs_getMethod kxs_ValueError e2 (looks_opaque X₂ T.opq) (l₀ := .ref C :: bm) (fun A Q E s k q => wpAny_bind ((looks_clsIn X₂ hcl) A _ E s k (wpAny_pure q))) rfl X₂ hsup hI xC (by decide +kernel) ?_
  have e3 : (h₂.push (kxs_mw "ValueError.__init__" x)).get? h₂.objs.size = some (kxs_mw "ValueError.__init__" x) := Heap.get?_push_at rfl rfl
  have k3 : ∀ b o, h₂.get? b = some o → (h₂.push (kxs_mw "ValueError.__init__" x)).get? b = some o := fun b o e => Heap.get?_push_of_some _ e
  generalize h₂.push (kxs_mw "ValueError.__init__" x) = h₃ at e3 k3
  have X₃ : K.In h₃ := X₂.keeps k3
  have hns₃ := hns₂.keeps k3
  refine kxs_callWith (i := "ValueError.__init__") (x := x) rfl ?_
  refine Calls.evalArgs_plain (Calls.spliced_cons (joined (z := zz kd) (y := y) (ty := ty) hns₃ (by first | rfl | decide +kernel) hy (zz_len kd) rfl k_arg fun u tk => Calls.spliced_nil ⟨e3, ?_⟩))
  refine call_mw (X₃ _ _ hC) (k3 _ _ hx₂) e3 (one_size u) fun h₄ t1 k4 hx₄ => ?_
  -- self.argument = argument
  have X₄ : K.In h₄ := fun a o e => k4 a o (fun z => by rw [z, hnx] at e; cases e) (X₃ a o e)
  have xL₃ : L ≠ x := hxL
  have hns₄ : h₄.Ns L (fun y' => [(("self" : Str), Value.ref x), ("argument", .str y ty)].reverse.lookup y') := by
    obtain ⟨oL, es, ep, e, r⟩ := hns₃
    exact ⟨oL, es, ep, k4 _ _ xL₃ e, r⟩
  refine ks_wpAt_execs_cons (_root_.PySem.wpAt_of_wpAny (plainObj_wpAny_Assign_Attribute ?_))
  refine wpAny_Name (wpAny_loadName_local rfl k_arg hns₄ (v := .str y ty) (by first | rfl | decide +kernel) ?_) (by decide)
  refine wpAny_Name (wpAny_loadName_local rfl k_self hns₄ (v := .ref x) (by first | rfl | decide +kernel) ?_) (by decide)
  refine set_plain X₄ (ox := excO C t1) (od := none) ⟨hx₄, rfl, rfl, trivial⟩ T.sa ?_
  refine exc_osa X₄ hx₄ hcl (show refsVE (.ref C :: bm) = true from hbm) rfl T.noN (fun h₅ tk₅ dx k₅ dn dne hx₅ hn₅ => ?_)
  refine _root_.PySem.wpAt_of_wpAny (wpAny_execs_nil ?_)
  have old : ∀ b o, b ≠ x → hp0.get? b = some o → h₄.get? b = some o := fun b o hb e => k4 b o hb (k3 b o (k2 b o (k b o e)))
  have sz : hp0.objs.size ≤ h₄.objs.size := by
    obtain ⟨oL, es, ep, e, r⟩ := hns₄
    exact Nat.le_trans (Nat.le_of_eq hL) (Nat.le_of_lt (Heap.lt_size e))
  exact hq h₅ tk₅ dx t1 ⟨fun b o hb e => k₅ b o hb (old b o hb e), hx₅, Nat.le_trans sz dn, dne, hn₅⟩
end
end BsX
set_option Elab.async false
set_option linter.all false
set_option maxRecDepth 100000
set_option maxHeartbeats 4000000
/-! BsX2: such an error made, raised; its field and its class asked by a def that is called while it is handled. -/
namespace BsX
open PySem PySem.W PySem.Calls PyProof.Rows PySem.HandSPX
section
variable {prog : Program} {w : World} {A : Around} {E : Value → Shared → Prop} {R : Result → Shared → Prop} {s : Shared} {K : Frag} {mg mb : Str → Option Value} {C : Addr} {nm : Str} {kd : Bool}
theorem ec_made (T : Ec K mg prog kd nm C) {y : Str} {ty : Tok} (X : K.In s.heap) (hg : s.heap.Ns mainGlobals mg) (hb : s.heap.Ns builtinsNs mb) (hbb : ∀ x : Str, x ≠ "__name__" → mb x = bootBuiltins x) (hlim : s.heap.NoLimit) (hy : y.length ≤ 1000) (hroom : A.depth + 1 < recursionLimit)
    (hq : ∀ h' tk e d, OwnMade s.heap h' e C d (.str y ty) → R (.ok (.ret (.ref e))) { s with heap := h', toks := tk }) :
    codeAny (model prog w) A (.call (.ref C) ⟨[.str y ty], []⟩) R s := by
  obtain ⟨n, q, N, bs, bm, sn, sub, ab, col, dd, k0, k1, k2, k3, k5, hC, hbm⟩ := T.cls
  obtain ⟨fI, _, _, _, _, _, _, _, _, _, _, _, _, _, _, _, _, _, _, _, f1, ft, _⟩ := id T.fn
  obtain ⟨hp, g, dr, tk, os⟩ := s
  have k : ∀ b o, hp.get? b = some o → ((hp.push (kdv_tup [.str y ty])).push (excO C hp.objs.size)).get? b = some o := fun b o e => Heap.get?_push_of_some _ (Heap.get?_push_of_some _ e)
  have hget : ((hp.push (kdv_tup [.str y ty])).push (excO C hp.objs.size)).get? (hp.objs.size + 1) = some (excO C hp.objs.size) := by heap_get
  have hnx : K.lookup (hp.objs.size + 1) = none := by
    cases e : K.lookup (hp.objs.size + 1) with
    | none => rfl
    | some o =>
      have z : hp.get? (hp.objs.size + 1) = some o := X _ _ e
      exact absurd (Nat.lt_of_succ_lt (Heap.lt_size z)) (Nat.lt_irrefl _)
  refine call_own F.excBase_ValueError (fun X => refsVE_contains X bm hbm) (X _ _ hC) (looks_findIn X f1) (fun self => bind_fn X self ft) (one_size _) ?_
  refine ec_init (s := ⟨(hp.push (kdv_tup [.str y ty])).push (excO C hp.objs.size), g, dr, tk, os⟩) T f1 (X.keeps k) (hg.keeps k) (hb.keeps k) hbb (hlim.keeps k) hget hnx hy ?_ fun h' tk' dx t1 ⟨k', hx, dn, dne, hns⟩ => ?_
  · show A.depth + 1 < recursionLimit
    exact hroom
  · have old : ∀ b o, hp.get? b = some o → h'.get? b = some o := fun b o e => k' b o (Nat.ne_of_lt (Nat.lt_succ_of_lt (Heap.lt_size e))) (k b o e)
    have z : hp.objs.size + 1 + 1 ≤ dx := by
      first
        | (simpa only [Heap.size_push] using dn)
        | exact dn
        | (have q := dn; rw [Heap.size_push, Heap.size_push] at q; exact q)
    exact ⟨rfl, hq h' tk' (hp.objs.size + 1) dx ⟨old, Nat.le_succ _, ⟨_, _, hx, rfl, rfl, rfl, rfl⟩, Nat.le_trans (Nat.le_trans (Nat.le_succ _) (Nat.le_succ _)) z, dne, hns⟩⟩
end
end BsX
namespace Bs
open PySem PySem.Spec PyProof.Rows L2 BsX
theorem relO_arg {v : V} {v' : Value} (r : RelV v v') (f : Str) : RelO (List.lookup f [(("argument" : Str), v)]) (if f = "argument" then some v' else none) := by
  by_cases hw : f = "argument"
  · subst hw
    rw [if_pos rfl]
    have q : List.lookup ("argument" : Str) [(("argument" : Str), v)] = some v := by simp [List.lookup]
    rw [q]
    exact r
  · rw [if_neg hw]
    have qw : (f == ("argument" : Str)) = false := by simpa using hw
    have q2 : List.lookup f [(("argument" : Str), v)] = none := by simp [List.lookup, qw]
    rw [q2]
    trivial
section
variable {X : Cx} {C : Addr} {nm : Str} {kd : Bool}
/-- nm(e) -/
def tMkE (C : Addr) (ta : TA) : L2.St → Hp → XK → Prop := fun σ H Q => ta σ H fun vs H1 => ∃ z, vs = [V.str z] ∧ z.length ≤ 1000 ∧ ∀ d, H1 d = none → Q (.ref C) (some d) (upd H1 d (.xd [(("argument" : Str), .str z)]))
theorem pmk_ec {a : Expr} {ta : TA} {p pos : Pos} {k : Nat} (T : Ec X.K X.mg X.prog kd nm C) (hr : Room k X.A) (ha : PA X [a] ta) (hg : Gl X nm) (hdb : (nm == ("__debug__" : Str)) = false := by decide)
    (he : starEach (a :: []) X.env = (false, eval a X.env) :: starEach [] X.env := by rfl) (hpl : (backTo pos (starEach [] X.env)).any (·.1) = false := by rfl) :
    PMk X (.Call (.Name nm p) [a] [] pos) (tMkE C ta) := by
  intro pins s σ H Q I h
  refine wpAny_Call_Name_kw (ld_glob I hg T.gC ?_ hdb)
  refine PySem.W.callWith_K (h₀ := X.base) I.ok.mod.kin T.kC (thn (ha.run pos pins s σ H _ I h) fun us s1 hh => ?_) he hpl
  obtain ⟨vs, H1, I1, r1, z, ev, hz, q1⟩ := hh
  subst ev
  refine ⟨I1.kIn, ?_⟩
  obtain ⟨v', rfl, rv⟩ := vals1 r1
  obtain ⟨ty, rfl⟩ := id rv
  show wpAny _ _ (call (.ref C) [.str z ty]) _ _ _
  have hlim := I1.nolimit
  obtain ⟨mb, hb1, hb2⟩ := I1.mod.blt
  have hgl : s1.heap.Ns mainGlobals X.mg := I1.mod.glob.keeps I1.bk
  have hbl : s1.heap.Ns builtinsNs mb := hb1.keeps I1.bk
  obtain ⟨hp, g, dr, tk, os⟩ := s1
  refine wpAny_call (ec_made T I1.kIn hgl hbl hb2 hlim hz (by have := hr.dp; omega) fun h' tk' e d M => ?_)
  show MkP X pins σ Q (.ref e) ⟨h', g, dr, tk', os⟩
  obtain ⟨oe, fv, hoe, hc, hd, hdat, h1⟩ := M.obj
  have hns := M.ns
  obtain ⟨G', g1, g2⟩ := restrict h' fun b => decide (b ≠ e)
  have gk : ∀ b, b ≠ e → G'.get? b = h'.get? b := fun b hb => g1 b (decide_eq_true hb)
  have ge : G'.get? e = none := g2 e (by simp)
  have old : ∀ b o, hp.get? b = some o → G'.get? b = some o := fun b o q => (gk b (Nat.ne_of_lt (Nat.lt_of_lt_of_le (Heap.lt_size q) M.new))).trans (M.keep b o q)
  have ob : ObjOk X.prog X.w (upd H1 d (.xd [(("argument" : Str), .str z)])) G' d (.xd [(("argument" : Str), .str z)]) :=
    ⟨_, hns.at (fun o q => (gk d M.dne).trans q), fun f => relO_arg rv f⟩
  have J : Inv X pins σ (upd H1 d (.xd [(("argument" : Str), .str z)])) ⟨G', g, dr, tk', os⟩ := I1.laid (t' := tk') old M.dbig ob
  refine ⟨e, oe, fv, ⟨G', g, dr, tk', os⟩, _, .ref C, some d, rfl, J, fun b o q => ?_, ge, hoe, ⟨hc, hd⟩, hdat, h1, ?_, rfl, I1.bare, raises_own T.exC T.tyC, q1 d (I1.hok.fresh M.dbig)⟩
  · by_cases hb : b = e
    · have q' : G'.get? b = some o := q
      rw [hb, ge] at q'; cases q'
    · exact (gk b hb).symm.trans q
  · rw [upd_ne (Ne.symm M.dne)]
    exact I1.hok.fresh M.new
/-- raise nm(e) -/
def tRaiseE (C : Addr) (W : WX) (ta : TA) : TS := fun _ σ H => tMkE C ta σ H fun cls d H' => W cls d σ H'
theorem ps_raiseE {a : Expr} {ta : TA} {W : WX} {p pos pos2 : Pos} {k : Nat} (hc : X.calm = true) (T : Ec X.K X.mg X.prog kd nm C) (hr : Room k X.A) (tk : Takes X W) (ha : PA X [a] ta) (hg : Gl X nm) (hdb : (nm == ("__debug__" : Str)) = false := by decide)
    (he : starEach (a :: []) X.env = (false, eval a X.env) :: starEach [] X.env := by rfl) (hpl : (backTo pos (starEach [] X.env)).any (·.1) = false := by rfl) :
    PS X (.Raise (some (.Call (.Name nm p) [a] [] pos)) none pos2) (tRaiseE C W ta) := ps_raise hc tk (pmk_ec T hr ha hg hdb he hpl)
end
end Bs
set_option Elab.async false
set_option linter.all false
set_option maxRecDepth 100000
set_option maxHeartbeats 2000000
/-! Bs2: the program's defs, how they call each other, the classes of values. -/
namespace Bs
open PySem PySem.Spec PyProof.Rows L2
abbrev prog : Program := PySem.Challenge.pw_bitshades_k92_whole_ring_papers
abbrev top (i : Nat) : Stmt := prog.main.body.getD i (.Pass ⟨0, 0, 0, 0⟩)
abbrev FnF (K : PySem.W.Frag) (name qual : Str) (st : Stmt) (dvs : List V) (f : Addr) (fd : FuncData) : Prop := FunD K name qual (defArgs st) (defBody st) (defScope st) dvs [] f fd
/-! ### promises by the number of arguments -/
def sp0 (P : Hp → VK → XK → Prop) : Sp := fun vs H Q E => vs = [] ∧ P H Q E
def sp1 (P : V → Hp → VK → XK → Prop) : Sp := fun vs H Q E => match vs with | [a] => P a H Q E | _ => False
def sp2 (P : V → V → Hp → VK → XK → Prop) : Sp := fun vs H Q E => match vs with | [a, b] => P a b H Q E | _ => False
def sp3 (P : V → V → V → Hp → VK → XK → Prop) : Sp := fun vs H Q E => match vs with | [a, b, c] => P a b c H Q E | _ => False
def sp4 (P : V → V → V → V → Hp → VK → XK → Prop) : Sp := fun vs H Q E => match vs with | [a, b, c, d] => P a b c d H Q E | _ => False
section
variable {vs : List V} {H : Hp} {Q : VK} {E : XK}
theorem sp1_of {P : V → Hp → VK → XK → Prop} (h : sp1 P vs H Q E) : ∃ a, vs = [a] ∧ P a H Q E := by
  match vs, h with
  | [a], h => exact ⟨a, rfl, h⟩
theorem sp2_of {P : V → V → Hp → VK → XK → Prop} (h : sp2 P vs H Q E) : ∃ a b, vs = [a, b] ∧ P a b H Q E := by
  match vs, h with
  | [a, b], h => exact ⟨a, b, rfl, h⟩
theorem sp3_of {P : V → V → V → Hp → VK → XK → Prop} (h : sp3 P vs H Q E) : ∃ a b c, vs = [a, b, c] ∧ P a b c H Q E := by
  match vs, h with
  | [a, b, c], h => exact ⟨a, b, c, rfl, h⟩
theorem sp4_of {P : V → V → V → V → Hp → VK → XK → Prop} (h : sp4 P vs H Q E) : ∃ a b c d, vs = [a, b, c, d] ∧ P a b c d H Q E := by
  match vs, h with
  | [a, b, c, d], h => exact ⟨a, b, c, d, rfl, h⟩
end
theorem len1 {P : V → Hp → VK → XK → Prop} {x : Str} (vs : List V) (H : Hp) (Q : VK) (E : XK) (h : sp1 P vs H Q E) : vs.length = [x].length := by
  obtain ⟨a, rfl, _⟩ := sp1_of h; rfl
theorem len2 {P : V → V → Hp → VK → XK → Prop} {x y : Str} (vs : List V) (H : Hp) (Q : VK) (E : XK) (h : sp2 P vs H Q E) : vs.length = [x, y].length := by
  obtain ⟨a, b, rfl, _⟩ := sp2_of h; rfl
theorem len3 {P : V → V → V → Hp → VK → XK → Prop} {x y z : Str} (vs : List V) (H : Hp) (Q : VK) (E : XK) (h : sp3 P vs H Q E) : vs.length = [x, y, z].length := by
  obtain ⟨a, b, c, rfl, _⟩ := sp3_of h; rfl
theorem len4 {P : V → V → V → V → Hp → VK → XK → Prop} {x y z u : Str} (vs : List V) (H : Hp) (Q : VK) (E : XK) (h : sp4 P vs H Q E) : vs.length = [x, y, z, u].length := by
  obtain ⟨a, b, c, d, rfl, _⟩ := sp4_of h; rfl
/-! ### a def that may be called -/
structure Wd where
  (P : Program) (w : World) (K : PySem.W.Frag) (mg : Str → Option Value) (base : Heap)
/-- how the defaults stand -/
structure CalD (W : Wd) (CX : CXT) (k : Nat) (x : Str) (ps : List Str) (dvs : List V) (sp : Sp) : Prop where
  ex : ∃ f fd ds, FnOk W.P W.w W.K W.mg W.base CX k f fd ps sp ∧ W.mg x = some (.ref f) ∧ PySem.W.keepIn W.K (.ref f) = true ∧ L2.Binds W.K fd ps ds ∧ Vals dvs ds
abbrev Cal (W : Wd) (CX : CXT) (k : Nat) (x : Str) (ps : List Str) (sp : Sp) : Prop := CalD W CX k x ps [] sp
section
variable {X : Cx} {CX : CXT} {k n : Nat} {ps : List Str} {sp : Sp} {dvs : List V} {E : XK} {x : Str} {p pos : Pos} {e : Expr} {es : List Expr} {t : TA}
abbrev wd (X : Cx) : Wd := ⟨X.prog, X.w, X.K, X.mg, X.base⟩
theorem pe_cal (c : CalD (wd X) CX k x ps dvs sp) (hr : Room n X.A) (hk : k ≤ n) (hx : Passes CX X E) (hg : Gl X x) (ha : PA X (e :: es) t) (hdb : (x == ("__debug__" : Str)) = false := by decide)
    (he : starEach (e :: es) X.env = (false, eval e X.env) :: starEach es X.env := by rfl) (hpl : (backTo pos (starEach es X.env)).any (·.1) = false := by rfl) :
    PE X (.Call (.Name x p) (e :: es) [] pos) (tCall sp dvs E t) :=
  let ⟨_, _, _, F, h1, h2, h3, h4⟩ := c.ex
  pe_call F (hr.mono hk) hg h1 h2 h3 h4 hx ha hdb he hpl
/-- within a try -/
theorem pe_calS {W' : WX} (c : Cal (wd X) (L2.CX X.prog X.w) k x ps sp) (hr : Room n X.A) (hk : k ≤ n) (tk : Takes X W') (hg : Gl X x) (ha : PA X (e :: es) t) (hdb : (x == ("__debug__" : Str)) = false := by decide)
    (he : starEach (e :: es) X.env = (false, eval e X.env) :: starEach es X.env := by rfl) (hpl : (backTo pos (starEach es X.env)).any (·.1) = false := by rfl) :
    PE X (.Call (.Name x p) (e :: es) [] pos) (tCallS sp (WE W') t) :=
  let ⟨_, _, _, F, h1, h2, h3, h4⟩ := c.ex
  pe_callS F (hr.mono hk) hg h1 h2 (by cases h4; exact h3) (passAt tk) ha hdb he hpl
/-- by keywords alone -/
structure CalK (W : Wd) (CX : CXT) (k : Nat) (x : Str) (ps ks : List Str) (g : {α : Type} → List α → List α) (sp : Sp) : Prop where
  ex : ∃ f fd, FnOk W.P W.w W.K W.mg W.base CX k f fd ps sp ∧ W.mg x = some (.ref f) ∧ PySem.W.keepIn W.K (.ref f) = true ∧ KB0 W.K fd ps ks g
theorem pe_calK0 {ks : List Str} {g : {α : Type} → List α → List α} {kws : List Keyword} {tk : TA} (c : CalK (wd X) CX k x ps ks g sp) (hr : Room n X.A) (hk : k ≤ n) (hx : Passes CX X E) (hg : Gl X x) (ha : PK X kws tk)
    (hall : (backToKw pos (keywordEach kws X.env)).all (·.1.isSome) = true := by rfl) (hks : (backToKw pos (keywordEach kws X.env)).filterMap (·.1) = ks := by rfl)
    (hdb : (x == ("__debug__" : Str)) = false := by decide) (hpl : ((backTo pos (starEach [] X.env)).any (·.1) || (backToKw pos (keywordEach kws X.env)).any (·.1.isNone)) = false := by rfl) :
    PE X (.Call (.Name x p) [] kws pos) (tCalK0 sp ks.length g E tk) :=
  let ⟨_, _, F, h1, h2, h3⟩ := c.ex
  pe_calK00 F (hr.mono hk) h1 h2 h3 hx hg ha hall hks hdb hpl
/-- an object made -/
structure Mkr (W : Wd) (CX : CXT) (k : Nat) (C : Addr) (x : Str) (ps : List Str) (sp : Sp) : Prop where
  ex : ∃ f fd, Mk W.K C f ∧ FnOk W.P W.w W.K W.mg W.base CX k f fd ps sp ∧ W.mg x = some (.ref C) ∧ L2.Binds W.K fd ps []
theorem pe_mkr {C : Addr} (c : Mkr (wd X) CX0 k C x ps sp) (hr : Room n X.A) (hk : k + 1 ≤ n) (hg : Gl X x) (ha : PA X (e :: es) t) (hdb : (x == ("__debug__" : Str)) = false := by decide)
    (he : starEach (e :: es) X.env = (false, eval e X.env) :: starEach es X.env := by rfl) (hpl : (backTo pos (starEach es X.env)).any (·.1) = false := by rfl) :
    PE X (.Call (.Name x p) (e :: es) [] pos) (tMake C sp [] E0 t) :=
  let ⟨_, _, M, F, h1, h2⟩ := c.ex
  pe_make M F (hr.mono hk) hg h1 h2 .nil pass0 ha hdb he hpl
/-- a property -/
structure Prp (W : Wd) (CX : CXT) (k : Nat) (C : Addr) (x : Str) (ps : List Str) (sp : Sp) : Prop where
  ex : ∃ p f fd, Cls W.K C ∧ PropOf W.K C x p f ∧ FnOk W.P W.w W.K W.mg W.base CX k f fd ps sp ∧ L2.Binds W.K fd ps []
theorem pe_prp {C : Addr} {te : TE} (c : Prp (wd X) CX0 k C x ps sp) (hr : Room n X.A) (hk : k + 1 ≤ n) (ha : PE X e te) (hab : attributeBase e x X.env (eval e X.env) = eval e X.env := by rfl) : PE X (.Attribute e x pos) (tProp C sp [] E0 te) :=
  let ⟨_, _, _, h0, h1, F, h2⟩ := c.ex
  pe_prop ha h0 h1 F (hr.mono hk) h2 .nil pass0 hab
/-- an own operator -/
structure Own (W : Wd) (CX : CXT) (k : Nat) (C : Addr) (x : Str) (ps : List Str) (sp : Sp) : Prop where
  ex : ∃ f fd, FnOk W.P W.w W.K W.mg W.base CX k f fd ps sp ∧ PySem.W.findIn W.K (.ref C) x = some (some (.ref f)) ∧ PySem.W.isFn W.K (.ref f) = true ∧ PySem.W.fnIn W.K f = true ∧ L2.Binds W.K fd ps []
theorem op_eqOwn {C : Addr} (c : Own (wd X) CX0 k C "__eq__" ps sp) (hr : Room n X.A) (hk : k ≤ n) : OpR X (compareOp .Eq) (rEqOwn C sp E0) :=
  let ⟨_, _, F, h1, h2, _, h3⟩ := c.ex
  op_eqOwn0 F (hr.mono hk) h1 h2 h3 pass0
theorem pe_own {C : Addr} {b : Expr} {ta tb : TE} (c : Own (wd X) CX0 k C "__getitem__" ps sp) (hr : Room n X.A) (hk : k + 1 ≤ n) (ha : PE X e ta) (hb : PE X b tb)
    (hsl : ∀ x i, subscripted b true (.ref x) i = runValue (.builtin "lifetime.subscript" ⟨[.ref x, i], []⟩) := by intro _ _; with_unfolding_all rfl) : PE X (.Subscript e b pos) (tOp (rOwnIx C sp E0) ta tb) :=
  let ⟨_, _, F, h1, h2, h3, h4⟩ := c.ex
  pe_own0 F (hr.mono hk) h1 h2 h3 h4 pass0 ha hb hsl
end
/-! ### the top -/
/-- addresses of what the top holds -/
structure Ad where
  (ct ors prs bob oob es : Addr) (er : Nat → Addr) (bt : Str → Addr) (pr : Nat → Addr)
def kNames : List Str := ["WrongKind", "WrongSize", "OutOfRange", "BadText", "NotATable", "Spent", "TooFewPlaces", "WrongPaper", "UnknownName", "NameTaken", "NothingToUndo", "BookFull"]
structure Txt (K : PySem.W.Frag) (mg : Str → Option Value) (a : Ad) : Prop where
  len : mg "len" = none
  isinstance : mg "isinstance" = none
  int : mg "int" = none
  list : mg "list" = none
  tuple : mg "tuple" = none
  sum : mg "sum" = none
  all : mg "all" = none
  max : mg "max" = none
  min : mg "min" = none
  abs : mg "abs" = none
  range : mg "range" = none
  enumerate : mg "enumerate" = none
  str : mg "str" = none
  bool : mg "bool" = none
  ValueError : mg "ValueError" = none
  vMOST_WIDTH : ∃ u, mg "MOST_WIDTH" = some u ∧ L2.RelV (.int 6) u
  vMOST_COUNTED : ∃ u, mg "MOST_COUNTED" = some u ∧ L2.RelV (.int 4) u
  vRING : ∃ u, mg "RING" = some u ∧ L2.RelV (.str "ring") u
  vORDERS : ∃ u, mg "ORDERS" = some u ∧ L2.RelV (.ref a.ors) u
  vPAIRS : ∃ u, mg "PAIRS" = some u ∧ L2.RelV (.ref a.prs) u
  vBITS_OF_ORDER : ∃ u, mg "BITS_OF_ORDER" = some u ∧ L2.RelV (.ref a.bob) u
  vORDER_OF_BITS : ∃ u, mg "ORDER_OF_BITS" = some u ∧ L2.RelV (.ref a.oob) u
  vTable : ∃ u, mg "Table" = some u ∧ L2.RelV (.ref a.ct) u
  cls : Cls K a.ct
  k0 : PySem.W.findIn K (.ref a.ct) "__class__" = some (some (.builtin "object.__class__"))
  k1 : PySem.W.specialIn K (.builtin "object.__class__") "__get__" = some (some (.builtin "getset_descriptor.__get__"))
  k2 : PySem.W.takesIn K (.builtin "object.__class__") = some true
  k3 : PySem.W.mroIn K a.ct (.type "object") = some true
  nW : NoAttr K a.ct "wide"
  nH : NoAttr K a.ct "held"
  tk : ∀ x ∈ (["bool", "int", "str", "list", "tuple", "dict", "NoneType"] : List String), PySem.W.kitOne K (.type x) (.ref a.ct) = some false
  kt : ∀ x ∈ (["bool", "int", "str", "list", "tuple"] : List String), PySem.W.kitOne K (.ref a.ct) (.type x) = some false
  ktt : PySem.W.kitOne K (.ref a.ct) (.ref a.ct) = some true
/-! ### kinds of values -/
def tyD (ct : Addr) : Dt → Value
  | .non => .type "NoneType"
  | .bl _ => .type "bool"
  | .int _ => .type "int"
  | .str _ => .type "str"
  | .lst _ => .type "list"
  | .tup _ => .type "tuple"
  | .tab => .ref ct
  | .dic => .type "dict"
def Dt.isBool : Dt → Bool | .bl _ => true | _ => false
def Dt.isInt : Dt → Bool | .bl _ => true | .int _ => true | _ => false
def Dt.isStr : Dt → Bool | .str _ => true | _ => false
def Dt.isList : Dt → Bool | .lst _ => true | _ => false
def Dt.isTup : Dt → Bool | .tup _ => true | _ => false
def Dt.isTab : Dt → Bool | .tab => true | _ => false
theorem d_Bool_non : Dt.isBool (.non) = false := rfl
theorem d_Bool_bl (b : Bool) : Dt.isBool (.bl b) = true := rfl
theorem d_Bool_int (i : Int) : Dt.isBool (.int i) = false := rfl
theorem d_Bool_str (s : Str) : Dt.isBool (.str s) = false := rfl
theorem d_Bool_lst (xs : List Dt) : Dt.isBool (.lst xs) = false := rfl
theorem d_Bool_tup (xs : List Dt) : Dt.isBool (.tup xs) = false := rfl
theorem d_Bool_tab : Dt.isBool (.tab) = false := rfl
theorem d_Bool_dic : Dt.isBool (.dic) = false := rfl
theorem d_Int_non : Dt.isInt (.non) = false := rfl
theorem d_Int_bl (b : Bool) : Dt.isInt (.bl b) = true := rfl
theorem d_Int_int (i : Int) : Dt.isInt (.int i) = true := rfl
theorem d_Int_str (s : Str) : Dt.isInt (.str s) = false := rfl
theorem d_Int_lst (xs : List Dt) : Dt.isInt (.lst xs) = false := rfl
theorem d_Int_tup (xs : List Dt) : Dt.isInt (.tup xs) = false := rfl
theorem d_Int_tab : Dt.isInt (.tab) = false := rfl
theorem d_Int_dic : Dt.isInt (.dic) = false := rfl
theorem d_Str_non : Dt.isStr (.non) = false := rfl
theorem d_Str_bl (b : Bool) : Dt.isStr (.bl b) = false := rfl
theorem d_Str_int (i : Int) : Dt.isStr (.int i) = false := rfl
theorem d_Str_str (s : Str) : Dt.isStr (.str s) = true := rfl
theorem d_Str_lst (xs : List Dt) : Dt.isStr (.lst xs) = false := rfl
theorem d_Str_tup (xs : List Dt) : Dt.isStr (.tup xs) = false := rfl
theorem d_Str_tab : Dt.isStr (.tab) = false := rfl
theorem d_Str_dic : Dt.isStr (.dic) = false := rfl
theorem d_List_non : Dt.isList (.non) = false := rfl
theorem d_List_bl (b : Bool) : Dt.isList (.bl b) = false := rfl
theorem d_List_int (i : Int) : Dt.isList (.int i) = false := rfl
theorem d_List_str (s : Str) : Dt.isList (.str s) = false := rfl
theorem d_List_lst (xs : List Dt) : Dt.isList (.lst xs) = true := rfl
theorem d_List_tup (xs : List Dt) : Dt.isList (.tup xs) = false := rfl
theorem d_List_tab : Dt.isList (.tab) = false := rfl
theorem d_List_dic : Dt.isList (.dic) = false := rfl
theorem d_Tup_non : Dt.isTup (.non) = false := rfl
theorem d_Tup_bl (b : Bool) : Dt.isTup (.bl b) = false := rfl
theorem d_Tup_int (i : Int) : Dt.isTup (.int i) = false := rfl
theorem d_Tup_str (s : Str) : Dt.isTup (.str s) = false := rfl
theorem d_Tup_lst (xs : List Dt) : Dt.isTup (.lst xs) = false := rfl
theorem d_Tup_tup (xs : List Dt) : Dt.isTup (.tup xs) = true := rfl
theorem d_Tup_tab : Dt.isTup (.tab) = false := rfl
theorem d_Tup_dic : Dt.isTup (.dic) = false := rfl
theorem d_Tab_non : Dt.isTab (.non) = false := rfl
theorem d_Tab_bl (b : Bool) : Dt.isTab (.bl b) = false := rfl
theorem d_Tab_int (i : Int) : Dt.isTab (.int i) = false := rfl
theorem d_Tab_str (s : Str) : Dt.isTab (.str s) = false := rfl
theorem d_Tab_lst (xs : List Dt) : Dt.isTab (.lst xs) = false := rfl
theorem d_Tab_tup (xs : List Dt) : Dt.isTab (.tup xs) = false := rfl
theorem d_Tab_tab : Dt.isTab (.tab) = true := rfl
theorem d_Tab_dic : Dt.isTab (.dic) = false := rfl
section
variable {K : PySem.W.Frag} {mg : Str → Option Value} {a : Ad} {M : Mt} {H : Hp} {v : V} {d : Dt} {Q : VK}
theorem Rp.ty (T : Txt K mg a) (h : Rp a.ct M H v d) : TyX K H v (tyD a.ct d) := by
  cases h with
  | non => exact .base .non
  | bl b => exact .base (.bl b)
  | int b => exact .base (.int b)
  | str b => exact .base (.str b)
  | lst h _ => exact .base (.lst h.2)
  | tup h _ => exact .base (.tup h.2)
  | tab h => exact .base (.ins h.2 T.cls T.k0 T.k1 T.k2 T.k3)
  | dic h => exact .base (.dK h.2)
theorem kitBool (T : Txt K mg a) : PySem.W.kitOne K (tyD a.ct d) (.type "bool") = some d.isBool := by
  cases d with
  | tab => exact T.kt "bool" (by simp)
  | _ => exact kit_ty (by first | rfl | decide +kernel)
theorem kitInt (T : Txt K mg a) : PySem.W.kitOne K (tyD a.ct d) (.type "int") = some d.isInt := by
  cases d with
  | tab => exact T.kt "int" (by simp)
  | _ => exact kit_ty (by first | rfl | decide +kernel)
theorem kitStr (T : Txt K mg a) : PySem.W.kitOne K (tyD a.ct d) (.type "str") = some d.isStr := by
  cases d with
  | tab => exact T.kt "str" (by simp)
  | _ => exact kit_ty (by first | rfl | decide +kernel)
theorem kitList (T : Txt K mg a) : PySem.W.kitOne K (tyD a.ct d) (.type "list") = some d.isList := by
  cases d with
  | tab => exact T.kt "list" (by simp)
  | _ => exact kit_ty (by first | rfl | decide +kernel)
theorem kitTup (T : Txt K mg a) : PySem.W.kitOne K (tyD a.ct d) (.type "tuple") = some d.isTup := by
  cases d with
  | tab => exact T.kt "tuple" (by simp)
  | _ => exact kit_ty (by first | rfl | decide +kernel)
theorem kitTab (T : Txt K mg a) : PySem.W.kitOne K (tyD a.ct d) (.ref a.ct) = some d.isTab := by
  cases d with
  | tab => exact T.ktt
  | _ => exact T.tk _ (by simp [tyD])
theorem i_isB (T : Txt K mg a) (h : Rp a.ct M H v d) (q : Q (.bl d.isBool) H) : rIsi K [v, .ty "bool"] H Q := ⟨v, _, _, _, _, rfl, .ty _, h.ty T, kitBool T, q⟩
theorem i_isI (T : Txt K mg a) (h : Rp a.ct M H v d) (q : Q (.bl d.isInt) H) : rIsi K [v, .ty "int"] H Q := ⟨v, _, _, _, _, rfl, .ty _, h.ty T, kitInt T, q⟩
theorem i_isS (T : Txt K mg a) (h : Rp a.ct M H v d) (q : Q (.bl d.isStr) H) : rIsi K [v, .ty "str"] H Q := ⟨v, _, _, _, _, rfl, .ty _, h.ty T, kitStr T, q⟩
theorem i_isL (T : Txt K mg a) (h : Rp a.ct M H v d) (q : Q (.bl d.isList) H) : rIsi K [v, .ty "list"] H Q := ⟨v, _, _, _, _, rfl, .ty _, h.ty T, kitList T, q⟩
theorem i_isT (T : Txt K mg a) (h : Rp a.ct M H v d) (q : Q (.bl d.isTup) H) : rIsi K [v, .ty "tuple"] H Q := ⟨v, _, _, _, _, rfl, .ty _, h.ty T, kitTup T, q⟩
theorem i_isTab (T : Txt K mg a) (h : Rp a.ct M H v d) (q : Q (.bl d.isTab) H) : rIsi K [v, .ref a.ct] H Q := ⟨v, _, _, _, _, rfl, .own _, h.ty T, kitTab T, q⟩
theorem i_isLT {p : Addr} (T : Txt K mg a) (h : Rp a.ct M H v d) (hp : H p = some (.tup [.ty "list", .ty "tuple"])) (q : Q (.bl (d.isList || d.isTup)) H) : rIsiT K [v, .ref p] H Q := by
  refine ⟨v, p, _, _, [.type "list", .type "tuple"], _, rfl, hp, .cons (.ty _) (.cons (.ty _) .nil), h.ty T, ?_, q⟩
  have e1 := kitList (d := d) T
  have e2 := kitTup (d := d) T
  cases h1 : d.isList
  · rw [h1] at e1
    cases h2 : d.isTup
    · rw [h2] at e2
      simp [PySem.W.kitAny, e1, e2]
    · rw [h2] at e2
      simp [PySem.W.kitAny, e1, e2]
  · rw [h1] at e1
    simp [PySem.W.kitAny, e1]
/-- a table or something else -/
inductive Gv (ct : Addr) (M : Mt) (H : Hp) : V → Option (Nat × List Int) → Prop
  | tab {p : Addr} {n : Nat} {bs : List Int} : Tb ct M H p n bs → Gv ct M H (.ref p) (some (n, bs))
  | no {v : V} {d : Dt} : Rp ct M H v d → d.isTab = false → Gv ct M H v none
theorem Gv.ext {H H' : Hp} {ct : Addr} {o : Option (Nat × List Int)} (x : Ext M H H') (h : Gv ct M H v o) : Gv ct M H' v o := by
  cases h with
  | tab h => exact .tab (h.ext x)
  | no h e => exact .no (h.ext x) e
theorem Gv.zero {ct : Addr} {o : Option (Nat × List Int)} (h : Gv ct M H v o) : Gv ct N0 H v o := by
  cases h with
  | tab h => exact .tab h.zero
  | no h e => exact .no h.zero e
theorem i_isG {o : Option (Nat × List Int)} (T : Txt K mg a) (h : Gv a.ct M H v o) (q : Q (.bl o.isSome) H) : rIsi K [v, .ref a.ct] H Q := by
  cases h with
  | tab h => exact i_isTab T h.rp q
  | no h e => exact i_isTab T h (by rw [e]; exact q)
end
end Bs
set_option Elab.async false
set_option linter.all false
set_option maxRecDepth 100000
set_option maxHeartbeats 2000000
namespace Bs
open PySem PySem.Spec PyProof.Rows L2
/-! Bs3: a def of the top, its promise proved. -/
theorem iteT' {b : Bool} {A B : Prop} (h : A) (e : b = true) : if b = true then A else B := by rw [if_pos e]; exact h
theorem iteF' {b : Bool} {A B : Prop} (h : B) (e : b = false) : if b = true then A else B := by rw [if_neg (by simp [e])]; exact h
structure DefAt (W : Wd) (x name qual : Str) (st : Stmt) : Prop where
  ex : ∃ f fd, FnF W.K name qual st [] f fd ∧ W.mg x = some (.ref f)
theorem cal_mk {W : Wd} {CX : CXT} {k : Nat} {x name qual : Str} {st : Stmt} {N ps : List Str} {sp : Sp} (D : DefAt W x name qual st) (S : FnScope N ps (defScope st)) (len : ∀ vs H Q E, sp vs H Q E → vs.length = ps.length)
    (bi : ∀ f fd, FnF W.K name qual st [] f fd → L2.Binds W.K fd ps [])
    (body : ∀ (f : Addr) (cdv : Value) (A : Around) (outer : List Env) (s : Shared) (H : Hp) (vs : List V) (Q : VK) (E : XK), Room k (A.deeper (envOfC qual (defScope st) s.heap.objs.size f cdv)) → sp vs H Q E →
      ∃ t, PSs (cxOf CX W.P W.w W.K W.mg W.base N qual (defScope st) f cdv A outer s H E) (defBody st) t ∧ t { nx := fun x H' => Q V.non H', rt := Q } (L2.start N vs) H) : Cal W CX (k + 1) x ps sp :=
  let ⟨f, fd, F, h⟩ := D.ex
  ⟨f, fd, [], F.ok S len (body f), h, F.kp, bi f fd F, .nil⟩
structure DefAtD (W : Wd) (x name qual : Str) (st : Stmt) (dvs : List V) : Prop where
  ex : ∃ f fd, FnF W.K name qual st dvs f fd ∧ W.mg x = some (.ref f)
theorem cal_mkD {W : Wd} {CX : CXT} {k : Nat} {x name qual : Str} {st : Stmt} {N ps : List Str} {sp : Sp} {dvs dv2 : List V} (D : DefAtD W x name qual st dvs) (S : FnScope N ps (defScope st)) (len : ∀ vs H Q E, sp vs H Q E → vs.length = ps.length)
    (bi : ∀ f fd, FnF W.K name qual st dvs f fd → ∃ ds, Vals dv2 ds ∧ L2.Binds W.K fd ps ds)
    (body : ∀ (f : Addr) (cdv : Value) (A : Around) (outer : List Env) (s : Shared) (H : Hp) (vs : List V) (Q : VK) (E : XK), Room k (A.deeper (envOfC qual (defScope st) s.heap.objs.size f cdv)) → sp vs H Q E →
      ∃ t, PSs (cxOf CX W.P W.w W.K W.mg W.base N qual (defScope st) f cdv A outer s H E) (defBody st) t ∧ t { nx := fun x H' => Q V.non H', rt := Q } (L2.start N vs) H) : CalD W CX (k + 1) x ps dv2 sp :=
  let ⟨f, fd, F, h⟩ := D.ex
  let ⟨ds, h1, h2⟩ := bi f fd F
  ⟨f, fd, ds, F.ok S len (body f), h, F.kp, h2, h1⟩
/-- a method, by its address -/
theorem mth_mk {W : Wd} {CX : CXT} {k : Nat} {name qual : Str} {st : Stmt} {N ps : List Str} {sp : Sp} {f : Addr} {fd : FuncData} (F : FnF W.K name qual st [] f fd) (S : FnScope N ps (defScope st)) (len : ∀ vs H Q E, sp vs H Q E → vs.length = ps.length)
    (body : ∀ (f : Addr) (cdv : Value) (A : Around) (outer : List Env) (s : Shared) (H : Hp) (vs : List V) (Q : VK) (E : XK), Room k (A.deeper (envOfC qual (defScope st) s.heap.objs.size f cdv)) → sp vs H Q E →
      ∃ t, PSs (cxOf CX W.P W.w W.K W.mg W.base N qual (defScope st) f cdv A outer s H E) (defBody st) t ∧ t { nx := fun x H' => Q V.non H', rt := Q } (L2.start N vs) H) : FnOk W.P W.w W.K W.mg W.base CX (k + 1) f fd ps sp := F.ok S len (body f)
/-! more steps of the walker -/
section
variable {H : Hp} {Q : VK} {p : Addr} {A B : Prop}
theorem i_decT {p : Prop} [Decidable p] (e : p) (h : A) : if decide p = true then A else B := iteT' h (by simp [e])
theorem i_decF {p : Prop} [Decidable p] (e : ¬ p) (h : B) : if decide p = true then A else B := iteF' h (by simp [e])
theorem i_ndecT {p : Prop} [Decidable p] (e : ¬ p) (h : A) : if (!decide p) = true then A else B := iteT' h (by simp [e])
theorem i_ndecF {p : Prop} [Decidable p] (e : p) (h : B) : if (!decide p) = true then A else B := iteF' h (by simp [e])
theorem i_ifT (h : A) : if True then A else B := by rw [if_pos trivial]; exact h
theorem i_ifF (h : B) : if False then A else B := by rw [if_neg not_false]; exact h
theorem i_tt (h : A) : if true = true then A else B := iteT h
theorem i_ff (h : B) : if false = true then A else B := iteF h
theorem i_eqI {i j : Int} (h : Q (.bl (decide (i = j))) H) : rEq (.int i) (.int j) H Q := ⟨rfl, by simpa using h⟩
theorem i_eqS {i j : Str} (h : Q (.bl (decide (i = j))) H) : rEq (.str i) (.str j) H Q := ⟨rfl, by simpa using h⟩
theorem i_eqB {i j : Bool} (h : Q (.bl (decide (i = j))) H) : rEq (.bl i) (.bl j) H Q := ⟨rfl, by simpa using h⟩
theorem i_neI {i j : Int} (h : Q (.bl (!decide (i = j))) H) : rNe (.int i) (.int j) H Q := ⟨rfl, by simpa using h⟩
theorem i_neS {i j : Str} (h : Q (.bl (!decide (i = j))) H) : rNe (.str i) (.str j) H Q := ⟨rfl, by simpa using h⟩
theorem i_dR (h : B) : if decide (V.ref p = V.non) = true then A else B := iteF' h (by simp)
theorem i_dI {i : Int} (h : B) : if decide (V.int i = V.non) = true then A else B := iteF' h (by simp)
theorem i_dT {i : Bool} (h : B) : if decide (V.bl i = V.non) = true then A else B := iteF' h (by simp)
theorem i_dS {i : Str} (h : B) : if decide (V.str i = V.non) = true then A else B := iteF' h (by simp)
theorem i_dN (h : A) : if decide (V.non = V.non) = true then A else B := iteT' h (by simp)
theorem i_nR (h : A) : if (!decide (V.ref p = V.non)) = true then A else B := iteT' h (by simp)
theorem i_nI {i : Int} (h : A) : if (!decide (V.int i = V.non)) = true then A else B := iteT' h (by simp)
theorem i_nN (h : B) : if (!decide (V.non = V.non)) = true then A else B := iteF' h (by simp)
end
end Bs
set_option Elab.async false
set_option linter.all false
set_option maxRecDepth 100000
set_option maxHeartbeats 2000000
namespace Bs
open PySem PySem.Spec PyProof.Rows L2
/-! Bs4: numbers, rows, loops. -/
theorem pow1 (n : Nat) : (1 : Int) * 2 ^ ((n : Int)).toNat = ((2 ^ n : Nat) : Int) := by simp
theorem cpow1 {n : Nat} (h : n ≤ 1000) : CPow 1 (n : Int) := ⟨by omega, by omega, by decide⟩
theorem getI {bs : List Int} {i : Nat} {x : V} (h : (bs.map V.int)[i]? = some x) : ∃ b, bs[i]? = some b ∧ x = .int b := by
  rw [List.getElem?_map] at h
  cases e : bs[i]? with
  | none => rw [e] at h; cases h
  | some b => rw [e] at h; exact ⟨b, rfl, (Option.some.inj h).symm⟩
theorem atI_nat {α : Type} {xs : List α} {i : Nat} {v : α} (h : xs[i]? = some v) : atI xs (i : Int) = some v := by
  have hl : i < xs.length := (List.getElem?_eq_some_iff.mp h).1
  unfold atI ixN
  rw [if_pos (by omega), if_pos (by omega)]
  simpa using h
theorem atI_of {α : Type} {xs : List α} {i : Int} {v : α} (h0 : 0 ≤ i) (h : xs[i.toNat]? = some v) : atI xs i = some v := by
  obtain ⟨n, rfl⟩ := Int.eq_ofNat_of_zero_le h0
  exact atI_nat h
theorem pow_le6 {n : Nat} (h : n ≤ 6) : 2 ^ n ≤ 64 := Nat.le_trans (Nat.pow_le_pow_right (by omega) h) (by decide)
/-- a new list, item by item -/
theorem lc_rel {J : It} {n : Nat} {G : Hp → Prop} {Y : Nat → Hp → V → Hp → Prop} (wk : Walk J n G Y) {M : Mt} {H1 : Hp} {D : Addr} {σ : L2.St} {g : TG} {te : TE} {vs : List Nat} {Q : VK} (hD : H1 D = none) (m : MOk M H1) (hn : n ≤ 100000)
    (S : Nat → Hp → Prop) (R : Nat → V → Hp → Prop) (sR : ∀ i y H H', Ext (Plus M D) H H' → R i y H → R i y H') (sS : ∀ i H o, H D ≠ none → S i H → S i (upd H D o))
    (s0 : S 0 (upd H1 D (.lst [])))
    (g0 : ∀ i H, Ext (Plus M D) H1 H → S i H → G H)
    (step : ∀ i x H H' (N : V → Hp → Prop) (N' : Hp → Prop), i < n → Ext (Plus M D) H1 H → MOk (Plus M D) H → S i H → Y i H x H' → (∀ y H4, Ext M H H4 → MOk M H4 → R i y H4 → S (i + 1) H4 → N y H4) →
      g x (wipe σ vs) H' fun σ2 H2 => wipe σ2 vs = wipe σ vs ∧ tYes σ2 H2 fun b H3 => if b = true then te σ2 H3 N else N' H3)
    (fin : ∀ acc H, acc.length = n → (∀ i y, acc[i]? = some y → R i y H) → H D = some (.lst acc) → Ext M H1 H → MOk M H → S n H → Q (.ref D) H) :
    ∃ W : Nat → Nat → Hp → Prop, (∃ m, W 0 m (upd H1 D (.lst []))) ∧ ∀ (i m : Nat) (H : Hp), W i m H → J.stop i H ∧ Q (.ref D) H ∨ J.go i H ∧ ∃ Nx : Hp → Prop, (∀ H', Nx H' → ∃ m', m' < m ∧ W (i + 1) m' H') ∧
      ∀ x H', J.yld i H x H' → g x (wipe σ vs) H' fun σ2 H2 => wipe σ2 vs = wipe σ vs ∧ tYes σ2 H2 fun b H3 => if b = true then te σ2 H3 fun y H4 => ∃ acc, H4 D = some (.lst acc) ∧ acc.length < sizeLine ∧ Nx (upd H4 D (.lst (acc ++ [y]))) else Nx H3 := by
  have nM : ¬ M D := fun z => m D z hD
  refine lc_it wk (tt := tYes) (fun i H => ∃ acc : List V, acc.length = i ∧ (∀ j y, acc[j]? = some y → R j y H) ∧ H D = some (.lst acc) ∧ Ext (Plus M D) H1 H ∧ MOk M H ∧ S i H) ?_ ?_ ?_ ?_
  · exact ⟨[], rfl, fun j y h => by simp at h, upd_same, (Ext.new hD).plus, m.upd, s0⟩
  · rintro i H _ ⟨acc, _, _, _, x, _, s⟩
    exact g0 i H x s
  · rintro i x H H' hi ⟨acc, hl, hr, hd, x1, mo, s⟩ y
    refine step i x H H' _ _ hi x1 (mo.plus (by rw [hd]; simp)) s y fun y H4 x2 mo2 r s2 => ?_
    have hd4 : H4 D = some (.lst acc) := x2 D _ nM hd
    refine ⟨acc, hd4, ?_, acc ++ [y], by simp [hl], fun j z hz => ?_, upd_same, ?_, mo2.upd, sS _ _ _ (by rw [hd4]; simp) s2⟩
    · rw [hl]; exact small_lt (by omega)
    · refine sR j z _ _ (Ext.set plus_self) ?_
      rcases Nat.lt_trichotomy j acc.length with h1 | h1 | h1
      · rw [List.getElem?_append_left h1] at hz
        exact sR j z _ _ x2.plus (hr j z hz)
      · subst h1
        rw [List.getElem?_append_right (Nat.le_refl _)] at hz
        simp at hz
        rw [hl, ← hz]; exact r
      · rw [List.getElem?_append_right (by omega)] at hz
        have : j - acc.length ≠ 0 := by omega
        simp [this] at hz
    · exact (x1.trans x2.plus).trans (Ext.set plus_self)
  · rintro H ⟨acc, hl, hr, hd, x1, mo, s⟩
    exact fin acc H hl hr hd (Ext.close (Ext.refl M H1) hD x1) mo s
/-! fields of tables -/
def FldK (K : PySem.W.Frag) (f : Str) (Q : VK) (x : V) (H1 : Hp) : Prop := ∃ a C dx fs v, x = V.ref a ∧ H1 a = some (HO.ins C dx fs) ∧ Cls K C ∧ NoAttr K C f ∧ List.lookup f fs = some v ∧ Q v H1
theorem i_fld {K : PySem.W.Frag} {f : Str} {Q : VK} {te : TE} {σ : L2.St} {H : Hp} (h : te σ H (FldK K f Q)) : tFld K te f σ H Q := h
def SfK (K : PySem.W.Frag) (f : Str) (y : V) (D : Ends) (σ : L2.St) (x : V) (H2 : Hp) : Prop := ∃ a C dx fs, x = V.ref a ∧ H2 a = some (HO.ins C dx fs) ∧ Cls K C ∧ NoAttr K C f ∧ fs.length < 1000 ∧ D.nx σ (upd H2 a (HO.ins C dx (putF f y fs)))
theorem i_sf {K : PySem.W.Frag} {f : Str} {ta tv : TE} {D : Ends} {σ : L2.St} {H : Hp} (h : tv σ H fun y H1 => ta σ H1 (SfK K f y D σ)) : sFld K ta tv f D σ H := h
theorem i_wide {K : PySem.W.Frag} {mg : Str → Option Value} {a : Ad} {M : Mt} {Q : VK} {H : Hp} {p dx t : Addr} {n : Int} (T : Txt K mg a) (h : At M H p (.ins a.ct dx (tf n t))) (q : Q (.int n) H) : FldK K "wide" Q (.ref p) H := ⟨p, _, _, _, _, rfl, h.2, T.cls, T.nW, rfl, q⟩
theorem i_held {K : PySem.W.Frag} {mg : Str → Option Value} {a : Ad} {M : Mt} {Q : VK} {H : Hp} {p dx t : Addr} {n : Int} (T : Txt K mg a) (h : At M H p (.ins a.ct dx (tf n t))) (q : Q (.ref t) H) : FldK K "held" Q (.ref p) H := ⟨p, _, _, _, _, rfl, h.2, T.cls, T.nH, rfl, q⟩
def PrpK (C : Addr) (sp : Sp) (Q : VK) (x : V) (H1 : Hp) : Prop := ∃ a dx fs, x = V.ref a ∧ H1 a = some (HO.ins C dx fs) ∧ sp [.ref a] H1 Q E0
theorem i_prp {H : Hp} {Q : VK} {C : Addr} {sp : Sp} {te : TE} {σ : L2.St} (h : te σ H (PrpK C sp Q)) : tProp C sp [] E0 te σ H Q := h
def MkK (C : Addr) (sp : Sp) (Q : VK) (vs : List V) (H1 : Hp) : Prop := ∀ (x dx : Addr), H1 x = none → H1 dx = none → dx ≠ x → sp (V.ref x :: (vs ++ [])) (upd (upd H1 dx (HO.own x)) x (HO.ins C dx [])) (fun v H2 => v = V.non ∧ Q (V.ref x) H2) E0
theorem i_mk {H : Hp} {Q : VK} {C : Addr} {sp : Sp} {tl : TA} {σ : L2.St} (h : tl σ H (MkK C sp Q)) : tMake C sp [] E0 tl σ H Q := h
section
variable {A B : Prop} {α : Type} {x : α}
theorem i_sS (h : A) : if (some x).isSome = true then A else B := iteT' h rfl
theorem i_sN (h : B) : if (none : Option α).isSome = true then A else B := iteF' h rfl
theorem i_nsS (h : B) : if (!(some x).isSome) = true then A else B := iteF' h rfl
theorem i_nsN (h : A) : if (!(none : Option α).isSome) = true then A else B := iteT' h rfl
end
/-! loops -/
def ForK (g : TG) (tb : TS) (D : Ends) (σ : L2.St) (J : It) (H1 : Hp) : Prop := ∃ W : Nat → Nat → L2.St → Hp → Prop, (∃ m, W 0 m σ H1) ∧ ∀ (i m : Nat) (σ : L2.St) (H : Hp), W i m σ H → J.stop i H ∧ D.nx σ H ∨ J.go i H ∧ ∃ N : L2.St → Hp → Prop, (∀ σ' H', N σ' H' → ∃ m', m' < m ∧ W (i + 1) m' σ' H') ∧
  ∀ (x : V) (H' : Hp), J.yld i H x H' → g x σ H' fun σ2 H2 => tb { nx := N, rt := D.rt, bk := D.nx, ct := N } σ2 H2
section
variable {K : PySem.W.Frag} {g : TG} {tb : TS} {D : Ends} {σ : L2.St} {H : Hp} {wi : TI} {p : Addr} {xs : List V}
theorem i_for (h : wi σ H (ForK g tb D σ)) : tFor wi g tb D σ H := h
def LiK (K : PySem.W.Frag) (R : It → Hp → Prop) (x : V) (H1 : Hp) : Prop := ∃ a, x = V.ref a ∧ (∃ xs, SqL K H1 a xs) ∧ R (Itl K a) H1
def TiK (K : PySem.W.Frag) (R : It → Hp → Prop) (x : V) (H1 : Hp) : Prop := ∃ a, x = V.ref a ∧ (∃ xs, SqT K H1 a xs) ∧ R (Itt K a) H1
theorem i_iL {R : It → Hp → Prop} {tl : TE} (h : tl σ H (LiK K R)) : iList K tl σ H R := h
theorem i_iT {R : It → Hp → Prop} {tl : TE} (h : tl σ H (TiK K R)) : iTup K tl σ H R := h
def R1K (R : It → Hp → Prop) (vs : List V) (H1 : Hp) : Prop := ∃ j : Int, vs = [V.int j] ∧ -2 ^ 62 ≤ j ∧ j < 2 ^ 62 ∧ R (Itr 0 j.toNat) H1
theorem i_iR {R : It → Hp → Prop} {tl : TA} (h : tl σ H (R1K R)) : iRng1 tl σ H R := h
theorem f_list (s : SqL K H p xs) (Pv : Nat → L2.St → Hp → Prop) (h0 : Pv 0 σ H) (hk : ∀ i σ H, i ≤ xs.length → Pv i σ H → SqL K H p xs)
    (step : ∀ i x σ H, xs[i]? = some x → Pv i σ H → g x σ H fun σ2 H2 => tb { nx := Pv (i + 1), rt := D.rt, bk := D.nx, ct := Pv (i + 1) } σ2 H2) (fin : ∀ σ H, Pv xs.length σ H → D.nx σ H) : LiK K (ForK g tb D σ) (.ref p) H :=
  ⟨p, rfl, ⟨xs, s⟩, for_list Pv h0 hk step fin⟩
theorem f_tup (s : SqT K H p xs) (Pv : Nat → L2.St → Hp → Prop) (h0 : Pv 0 σ H) (hk : ∀ i σ H, i ≤ xs.length → Pv i σ H → SqT K H p xs)
    (step : ∀ i x σ H, xs[i]? = some x → Pv i σ H → g x σ H fun σ2 H2 => tb { nx := Pv (i + 1), rt := D.rt, bk := D.nx, ct := Pv (i + 1) } σ2 H2) (fin : ∀ σ H, Pv xs.length σ H → D.nx σ H) : TiK K (ForK g tb D σ) (.ref p) H :=
  ⟨p, rfl, ⟨xs, s⟩, for_tup Pv h0 hk step fin⟩
theorem f_rg {n : Nat} (hn : n ≤ 100000) (Pv : Nat → L2.St → Hp → Prop) (h0 : Pv 0 σ H)
    (step : ∀ (i : Nat) σ H, i < n → Pv i σ H → g (V.int (i : Int)) σ H fun σ2 H2 => tb { nx := Pv (i + 1), rt := D.rt, bk := D.nx, ct := Pv (i + 1) } σ2 H2) (fin : ∀ σ H, Pv n σ H → D.nx σ H) : R1K (ForK g tb D σ) [.int (n : Int)] H :=
  ⟨n, rfl, by omega, by omega, for_range (lo := 0) (n := n) Pv h0 (fun i σ H hi hP => by rw [Int.zero_add]; exact step i σ H hi hP) fin⟩
/-! comprehensions -/
def LcK (g : TG) (tt : TT) (te : TE) (vs : List Nat) (σ : L2.St) (Q : VK) (J : It) (H1 : Hp) : Prop := ∀ D : Addr, H1 D = none → ∃ W : Nat → Nat → Hp → Prop, (∃ m, W 0 m (upd H1 D (.lst []))) ∧ ∀ (i m : Nat) (H : Hp), W i m H → J.stop i H ∧ Q (.ref D) H ∨ J.go i H ∧ ∃ Nx : Hp → Prop, (∀ H', Nx H' → ∃ m', m' < m ∧ W (i + 1) m' H') ∧
  ∀ (x : V) (H' : Hp), J.yld i H x H' → g x (wipe σ vs) H' fun σ2 H2 => wipe σ2 vs = wipe σ vs ∧ tt σ2 H2 fun b H3 => if b = true then te σ2 H3 fun y H4 => ∃ acc, H4 D = some (.lst acc) ∧ acc.length < sizeLine ∧ Nx (upd H4 D (.lst (acc ++ [y]))) else Nx H3
theorem i_lc {tt : TT} {te : TE} {vs : List Nat} {Q : VK} (h : wi σ H (LcK g tt te vs σ Q)) : tLc wi g tt te vs σ H Q := h
theorem i_yes {te : TE} {σ2 : L2.St} {vs : List Nat} {N : V → Hp → Prop} {N' : Hp → Prop} (e : wipe σ2 vs = wipe σ vs) (h : te σ2 H N) : wipe σ2 vs = wipe σ vs ∧ tYes σ2 H fun b H3 => if b = true then te σ2 H3 N else N' H3 := ⟨e, iteT (B := N' H) (A := te σ2 H N) h⟩
theorem c_list {te : TE} {vs : List Nat} {Q : VK} {M : Mt} (s : SqL K H p xs) (m : MOk M H) (hn : xs.length ≤ 100000) (S : Addr → Nat → Hp → Prop) (R : Addr → Nat → V → Hp → Prop)
    (h : ∀ D, H D = none → (∀ i y H H', Ext (Plus M D) H H' → R D i y H → R D i y H') ∧ (∀ i H o, H D ≠ none → S D i H → S D i (upd H D o)) ∧ S D 0 (upd H D (.lst [])) ∧ (∀ i H1, Ext (Plus M D) H H1 → S D i H1 → SqL K H1 p xs) ∧
      (∀ i x H1 (N : V → Hp → Prop) (N' : Hp → Prop), xs[i]? = some x → Ext (Plus M D) H H1 → MOk (Plus M D) H1 → S D i H1 → (∀ y H4, Ext M H1 H4 → MOk M H4 → R D i y H4 → S D (i + 1) H4 → N y H4) →
        g x (wipe σ vs) H1 fun σ2 H2 => wipe σ2 vs = wipe σ vs ∧ tYes σ2 H2 fun b H3 => if b = true then te σ2 H3 N else N' H3) ∧
      (∀ acc H1, acc.length = xs.length → (∀ i y, acc[i]? = some y → R D i y H1) → H1 D = some (.lst acc) → Ext M H H1 → MOk M H1 → S D xs.length H1 → Q (.ref D) H1)) : LiK K (LcK g tYes te vs σ Q) (.ref p) H :=
  ⟨p, rfl, ⟨xs, s⟩, fun D hD => let ⟨a1, a2, a3, a4, a5, a6⟩ := h D hD; lc_rel (walk_list (K := K) (a := p) (xs := xs)) hD m hn (S D) (R D) a1 a2 a3 a4 (fun i x H1 H2 N N' hi e mo s y n => by obtain ⟨e1, hx⟩ := y; subst e1; exact a5 i x _ N N' hx e mo s n) a6⟩
theorem c_tup {te : TE} {vs : List Nat} {Q : VK} {M : Mt} (s : SqT K H p xs) (m : MOk M H) (hn : xs.length ≤ 100000) (S : Addr → Nat → Hp → Prop) (R : Addr → Nat → V → Hp → Prop)
    (h : ∀ D, H D = none → (∀ i y H H', Ext (Plus M D) H H' → R D i y H → R D i y H') ∧ (∀ i H o, H D ≠ none → S D i H → S D i (upd H D o)) ∧ S D 0 (upd H D (.lst [])) ∧ (∀ i H1, Ext (Plus M D) H H1 → S D i H1 → SqT K H1 p xs) ∧
      (∀ i x H1 (N : V → Hp → Prop) (N' : Hp → Prop), xs[i]? = some x → Ext (Plus M D) H H1 → MOk (Plus M D) H1 → S D i H1 → (∀ y H4, Ext M H1 H4 → MOk M H4 → R D i y H4 → S D (i + 1) H4 → N y H4) →
        g x (wipe σ vs) H1 fun σ2 H2 => wipe σ2 vs = wipe σ vs ∧ tYes σ2 H2 fun b H3 => if b = true then te σ2 H3 N else N' H3) ∧
      (∀ acc H1, acc.length = xs.length → (∀ i y, acc[i]? = some y → R D i y H1) → H1 D = some (.lst acc) → Ext M H H1 → MOk M H1 → S D xs.length H1 → Q (.ref D) H1)) : TiK K (LcK g tYes te vs σ Q) (.ref p) H :=
  ⟨p, rfl, ⟨xs, s⟩, fun D hD => let ⟨a1, a2, a3, a4, a5, a6⟩ := h D hD; lc_rel (walk_tup (K := K) (a := p) (xs := xs)) hD m hn (S D) (R D) a1 a2 a3 a4 (fun i x H1 H2 N N' hi e mo s y n => by obtain ⟨e1, hx⟩ := y; subst e1; exact a5 i x _ N N' hx e mo s n) a6⟩
theorem c_rg {te : TE} {vs : List Nat} {Q : VK} {M : Mt} {n : Nat} (m : MOk M H) (hn : n ≤ 100000) (S : Addr → Nat → Hp → Prop) (R : Addr → Nat → V → Hp → Prop)
    (h : ∀ D, H D = none → (∀ i y H H', Ext (Plus M D) H H' → R D i y H → R D i y H') ∧ (∀ i H o, H D ≠ none → S D i H → S D i (upd H D o)) ∧ S D 0 (upd H D (.lst [])) ∧
      (∀ (i : Nat) H1 (N : V → Hp → Prop) (N' : Hp → Prop), i < n → Ext (Plus M D) H H1 → MOk (Plus M D) H1 → S D i H1 → (∀ y H4, Ext M H1 H4 → MOk M H4 → R D i y H4 → S D (i + 1) H4 → N y H4) →
        g (.int (i : Int)) (wipe σ vs) H1 fun σ2 H2 => wipe σ2 vs = wipe σ vs ∧ tYes σ2 H2 fun b H3 => if b = true then te σ2 H3 N else N' H3) ∧
      (∀ acc H1, acc.length = n → (∀ i y, acc[i]? = some y → R D i y H1) → H1 D = some (.lst acc) → Ext M H H1 → MOk M H1 → S D n H1 → Q (.ref D) H1)) : R1K (LcK g tYes te vs σ Q) [.int (n : Int)] H :=
  ⟨n, rfl, by omega, by omega, fun D hD => let ⟨a1, a2, a3, a5, a6⟩ := h D hD; lc_rel (walk_range (lo := 0) (n := n)) hD m hn (S D) (R D) a1 a2 a3 (fun _ _ _ _ => trivial) (fun i x H1 H2 N N' hi e mo s y n => by obtain ⟨e1, e2⟩ := y; subst e1 e2; show g (V.int (0 + (i : Int))) _ _ _; rw [Int.zero_add]; exact a5 i _ N N' hi e mo s n) a6⟩
end
end Bs
set_option Elab.async false
set_option linter.all false
set_option maxRecDepth 100000
set_option maxHeartbeats 2000000
namespace Bs
open PySem PySem.Spec PyProof.Rows L2
/-! Bs5: == of rows of numbers. -/
theorem dp_ints {K : PySem.W.Frag} {H : Hp} : ∀ bs : List Int, DpAll K H (bs.map V.int) (bs.map PyData.int)
  | [] => .nil
  | b :: r => .cons (.int b) (dp_ints r)
theorem ints_eqv : ∀ xs ys : List Int, PyData.eqvAll (xs.map PyData.int) (ys.map PyData.int) = decide (xs = ys)
  | [], [] => rfl
  | [], _ :: _ => rfl
  | _ :: _, [] => rfl
  | x :: xs, y :: ys => by
    rw [List.map_cons, List.map_cons]
    unfold PyData.eqvAll PyData.eqv
    rw [ints_eqv xs ys]
    by_cases h1 : x = y <;> by_cases h2 : xs = ys <;> simp [h1, h2]
theorem ints_lay : ∀ xs : List Int, PyData.canLayAll0 (xs.map PyData.int) = true
  | [] => rfl
  | x :: xs => by
    rw [List.map_cons]
    unfold PyData.canLayAll0 PyData.canLay0
    rw [ints_lay xs]; rfl
theorem ints_dep : ∀ xs : List Int, PyData.depthAll (xs.map PyData.int) = 0
  | [] => rfl
  | x :: xs => by
    rw [List.map_cons]
    unfold PyData.depthAll PyData.depth
    rw [ints_dep xs]; rfl
theorem shT (xs : List Int) : SeqAt.shaped (.tuple (xs.map PyData.int)) = true := by
  unfold SeqAt.shaped PyData.canLay0 PyData.depth
  rw [ints_lay, ints_dep]; rfl
theorem shL (xs : List Int) : SeqAt.shaped (.list (xs.map PyData.int)) = true := by
  unfold SeqAt.shaped PyData.canLay0 PyData.depth
  rw [ints_lay, ints_dep]; rfl
theorem eqT (xs ys : List Int) : PyData.eqv (.tuple (xs.map PyData.int)) (.tuple (ys.map PyData.int)) = decide (xs = ys) := by
  rw [← ints_eqv]; unfold PyData.eqv; rfl
theorem eqL (xs ys : List Int) : PyData.eqv (.list (xs.map PyData.int)) (.list (ys.map PyData.int)) = decide (xs = ys) := by
  rw [← ints_eqv]; unfold PyData.eqv; rfl
section
variable {K : PySem.W.Frag} {H : Hp} {Q : VK} {p q : Addr} {xs ys : List Int}
theorem i_eqTI (h1 : SqT K H p (xs.map V.int)) (h2 : SqT K H q (ys.map V.int)) (h : Q (.bl (decide (xs = ys))) H) : rEqD K (.ref p) (.ref q) H Q :=
  ⟨_, _, .tup h1 (dp_ints xs), .tup h2 (dp_ints ys), shT xs, shT ys, by rw [eqT]; exact h⟩
theorem i_eqLI (h1 : SqL K H p (xs.map V.int)) (h2 : SqL K H q (ys.map V.int)) (h : Q (.bl (decide (xs = ys))) H) : rEqD K (.ref p) (.ref q) H Q :=
  ⟨_, _, .lst h1 (dp_ints xs), .lst h2 (dp_ints ys), shL xs, shL ys, by rw [eqL]; exact h⟩
theorem i_neLI (h1 : SqL K H p (xs.map V.int)) (h2 : SqL K H q (ys.map V.int)) (h : Q (.bl (!decide (xs = ys))) H) : rNeD K (.ref p) (.ref q) H Q :=
  ⟨_, _, .lst h1 (dp_ints xs), .lst h2 (dp_ints ys), shL xs, shL ys, by rw [eqL]; exact h⟩
end
theorem and1 (k : Int) : Builtin.bitAnd k 1 = 0 ∨ Builtin.bitAnd k 1 = 1 := by
  unfold Builtin.bitAnd
  have h1 : decide ((0 : Int) ≤ 1) = true := by decide
  rw [h1]
  cases h : decide (0 ≤ k)
  · show (1 : Int) - ↑((1 : Int).toNat &&& (Builtin.bitNot k).toNat) = 0 ∨ (1 : Int) - ↑((1 : Int).toNat &&& (Builtin.bitNot k).toNat) = 1
    have : (1 : Int).toNat &&& (Builtin.bitNot k).toNat ≤ 1 := Nat.and_le_left
    omega
  · show (↑(k.toNat &&& (1 : Int).toNat) : Int) = 0 ∨ (↑(k.toNat &&& (1 : Int).toNat) : Int) = 1
    have : k.toNat &&& (1 : Int).toNat ≤ 1 := Nat.and_le_right
    omega
theorem bit_xor (k : Int) {b : Int} (hb : b = 0 ∨ b = 1) : Builtin.bitXor (Builtin.bitAnd k 1) b = 0 ∨ Builtin.bitXor (Builtin.bitAnd k 1) b = 1 := by
  rcases and1 k with h | h <;> rcases hb with rfl | rfl <;> rw [h] <;> decide
end Bs
set_option Elab.async false
set_option linter.all false
set_option maxRecDepth 100000
set_option maxHeartbeats 400000
namespace Bs
open PySem PySem.Spec PyProof.Rows L2
/-! Bs6: a comprehension of two loops; rows as data. -/
/-- the inner loop's question -/
def In2 (g1 : TG) (te : TE) (vs1 : List Nat) (σ2 : L2.St) (D : Addr) (Nx : Hp → Prop) (J1 : It) (H4 : Hp) : Prop := ∃ W1 : Nat → Nat → Hp → Prop, (∃ m, W1 0 m H4) ∧ ∀ (j k : Nat) (H : Hp), W1 j k H → J1.stop j H ∧ Nx H ∨ J1.go j H ∧ ∃ Nx1 : Hp → Prop, (∀ H', Nx1 H' → ∃ k', k' < k ∧ W1 (j + 1) k' H') ∧
  ∀ (x : V) (H' : Hp), J1.yld j H x H' → g1 x (wipe σ2 vs1) H' fun σ3 H5 => wipe σ3 vs1 = wipe σ2 vs1 ∧ tYes σ3 H5 fun b H6 => if b = true then te σ3 H6 fun y H7 => ∃ acc, H7 D = some (.lst acc) ∧ acc.length < sizeLine ∧ Nx1 (upd H7 D (.lst (acc ++ [y]))) else Nx1 H6
def Lc2K (g : TG) (wi1 : TI) (g1 : TG) (te : TE) (vs vs1 : List Nat) (σ : L2.St) (Q : VK) (J : It) (H1 : Hp) : Prop := ∀ D : Addr, H1 D = none → ∃ W : Nat → Nat → Hp → Prop, (∃ m, W 0 m (upd H1 D (.lst []))) ∧ ∀ (i m : Nat) (H : Hp), W i m H → J.stop i H ∧ Q (.ref D) H ∨ J.go i H ∧ ∃ Nx : Hp → Prop, (∀ H', Nx H' → ∃ m', m' < m ∧ W (i + 1) m' H') ∧
  ∀ (x : V) (H' : Hp), J.yld i H x H' → g x (wipe σ vs) H' fun σ2 H2 => wipe σ2 vs = wipe σ vs ∧ tYes σ2 H2 fun b H3 => if b = true then wi1 σ2 H3 (In2 g1 te vs1 σ2 D Nx) else Nx H3
theorem i_lc2 {wi wi1 : TI} {g g1 : TG} {te : TE} {vs vs1 : List Nat} {σ : L2.St} {H : Hp} {Q : VK} (h : wi σ H (Lc2K g wi1 g1 te vs vs1 σ Q)) : tLc2 wi g tYes wi1 g1 tYes te vs vs1 σ H Q := h
/-- a state of the new list -/
def AcS (R : Nat → V → Hp → Prop) (M : Mt) (D : Addr) (H1 : Hp) (n : Nat) (H : Hp) : Prop := ∃ acc : List V, acc.length = n ∧ (∀ j y, acc[j]? = some y → R j y H) ∧ H D = some (.lst acc) ∧ Ext (Plus M D) H1 H ∧ MOk M H
theorem AcS.push {R : Nat → V → Hp → Prop} {M : Mt} {D : Addr} {H1 H H4 : Hp} {n : Nat} {y : V} (sR : ∀ i y H H', Ext (Plus M D) H H' → R i y H → R i y H') (nM : ¬ M D) (hn : n < 100000) (a : AcS R M D H1 n H) (x2 : Ext M H H4) (mo2 : MOk M H4) (r : R n y H4) :
    ∃ acc, H4 D = some (.lst acc) ∧ acc.length < sizeLine ∧ AcS R M D H1 (n + 1) (upd H4 D (.lst (acc ++ [y]))) := by
  obtain ⟨acc, hl, hr, hd, x1, mo⟩ := a
  have hd4 : H4 D = some (.lst acc) := x2 D _ nM hd
  refine ⟨acc, hd4, ?_, acc ++ [y], by simp [hl], fun j z hz => ?_, upd_same, ?_, mo2.upd⟩
  · rw [hl]; exact small_lt hn
  · refine sR j z _ _ (Ext.set plus_self) ?_
    rcases Nat.lt_trichotomy j acc.length with h1 | h1 | h1
    · rw [List.getElem?_append_left h1] at hz
      exact sR j z _ _ x2.plus (hr j z hz)
    · subst h1
      rw [List.getElem?_append_right (Nat.le_refl _)] at hz
      simp at hz
      rw [hl, ← hz]; exact r
    · rw [List.getElem?_append_right (by omega)] at hz
      have : j - acc.length ≠ 0 := by omega
      simp [this] at hz
  · exact (x1.trans x2.plus).trans (Ext.set plus_self)
theorem AcS.move {R : Nat → V → Hp → Prop} {M : Mt} {D : Addr} {H1 H H4 : Hp} {n : Nat} (sR : ∀ i y H H', Ext (Plus M D) H H' → R i y H → R i y H') (nM : ¬ M D) (a : AcS R M D H1 n H) (x2 : Ext M H H4) (mo2 : MOk M H4) : AcS R M D H1 n H4 := by
  obtain ⟨acc, hl, hr, hd, x1, mo⟩ := a
  exact ⟨acc, hl, fun j y h => sR j y _ _ x2.plus (hr j y h), x2 D _ nM hd, x1.trans x2.plus, mo2⟩
theorem in2_rel {J1 : It} {k : Nat} {G1 : Hp → Prop} {Y1 : Nat → Hp → V → Hp → Prop} (w1 : Walk J1 k G1 Y1) {M : Mt} {D : Addr} {H0 H4 : Hp} {g1 : TG} {te : TE} {vs1 : List Nat} {σ2 : L2.St} {Nx : Hp → Prop} {R : Nat → V → Hp → Prop} {c : Nat}
    (sR : ∀ i y H H', Ext (Plus M D) H H' → R i y H → R i y H') (nM : ¬ M D) (hc : c + k ≤ 100000) (a : AcS R M D H0 c H4) (nx : ∀ H, Ext (Plus M D) H4 H → AcS R M D H0 (c + k) H → Nx H)
    (g0 : ∀ H5, Ext (Plus M D) H4 H5 → G1 H5)
    (step : ∀ j x H5 H6 (N : V → Hp → Prop) (N' : Hp → Prop), j < k → Ext (Plus M D) H4 H5 → MOk (Plus M D) H5 → Y1 j H5 x H6 → (∀ y H7, Ext M H5 H7 → MOk M H7 → R (c + j) y H7 → N y H7) →
      g1 x (wipe σ2 vs1) H6 fun σ3 H7 => wipe σ3 vs1 = wipe σ2 vs1 ∧ tYes σ3 H7 fun b H8 => if b = true then te σ3 H8 N else N' H8) : In2 g1 te vs1 σ2 D Nx J1 H4 := by
  refine ⟨fun j m H => m + j = k ∧ Ext (Plus M D) H4 H ∧ AcS R M D H0 (c + j) H, ⟨k, by omega, Ext.refl _ _, a⟩, fun j m H hW => ?_⟩
  obtain ⟨hm, x, aj⟩ := hW
  by_cases hj : j = k
  · subst hj
    exact .inl ⟨w1.stops H (g0 H x), nx H x aj⟩
  · have hj' : j < k := by omega
    refine .inr ⟨w1.goes j H hj' (g0 H x), fun H' => Ext (Plus M D) H4 H' ∧ AcS R M D H0 (c + (j + 1)) H', fun H' h => ⟨m - 1, by omega, by omega, h.1, h.2⟩, fun xx H' y => ?_⟩
    obtain ⟨acc0, hl, hr, hd, x1, mo⟩ := id aj
    refine step j xx H H' _ _ hj' x (mo.plus (by rw [hd]; simp)) (w1.yields j H xx H' hj' (g0 H x) y) fun y H7 x2 mo2 r => ?_
    obtain ⟨acc, h1, h2, h3⟩ := AcS.push sR nM (by omega) aj x2 mo2 r
    exact ⟨acc, h1, h2, (x.trans x2.plus).trans (Ext.set plus_self), h3⟩
theorem lc2_rel {J : It} {n : Nat} {G : Hp → Prop} {Y : Nat → Hp → V → Hp → Prop} (wk : Walk J n G Y) {M : Mt} {H1 : Hp} {D : Addr} {σ : L2.St} {g g1 : TG} {wi1 : TI} {te : TE} {vs vs1 : List Nat} {Q : VK} (k : Nat) (hD : H1 D = none) (m : MOk M H1) (hn : n * k ≤ 100000)
    (R : Nat → V → Hp → Prop) (sR : ∀ i y H H', Ext (Plus M D) H H' → R i y H → R i y H')
    (g0 : ∀ H, Ext (Plus M D) H1 H → G H)
    (step : ∀ i x H H' (C : L2.St → It → Hp → Prop) (N' : Hp → Prop), i < n → Ext (Plus M D) H1 H → MOk (Plus M D) H → Y i H x H' →
      (∀ σ2 J1 H4 G1 Y1, Walk J1 k G1 Y1 → Ext M H H4 → MOk M H4 → (∀ H5, Ext (Plus M D) H4 H5 → G1 H5) →
        (∀ j x H5 H6 (N : V → Hp → Prop) (N' : Hp → Prop), j < k → Ext (Plus M D) H4 H5 → MOk (Plus M D) H5 → Y1 j H5 x H6 → (∀ y H7, Ext M H5 H7 → MOk M H7 → R (i * k + j) y H7 → N y H7) →
          g1 x (wipe σ2 vs1) H6 fun σ3 H7 => wipe σ3 vs1 = wipe σ2 vs1 ∧ tYes σ3 H7 fun b H8 => if b = true then te σ3 H8 N else N' H8) → C σ2 J1 H4) →
      g x (wipe σ vs) H' fun σ2 H2 => wipe σ2 vs = wipe σ vs ∧ tYes σ2 H2 fun b H3 => if b = true then wi1 σ2 H3 (C σ2) else N' H3)
    (fin : ∀ acc H, acc.length = n * k → (∀ i y, acc[i]? = some y → R i y H) → H D = some (.lst acc) → Ext M H1 H → MOk M H → Q (.ref D) H) :
    ∃ W : Nat → Nat → Hp → Prop, (∃ m, W 0 m (upd H1 D (.lst []))) ∧ ∀ (i m : Nat) (H : Hp), W i m H → J.stop i H ∧ Q (.ref D) H ∨ J.go i H ∧ ∃ Nx : Hp → Prop, (∀ H', Nx H' → ∃ m', m' < m ∧ W (i + 1) m' H') ∧
      ∀ x H', J.yld i H x H' → g x (wipe σ vs) H' fun σ2 H2 => wipe σ2 vs = wipe σ vs ∧ tYes σ2 H2 fun b H3 => if b = true then wi1 σ2 H3 (In2 g1 te vs1 σ2 D Nx) else Nx H3 := by
  have nM : ¬ M D := fun z => m D z hD
  refine ⟨fun i m H => m + i = n ∧ AcS R M D H1 (i * k) H, ⟨n, by omega, [], by simp, fun j y h => by simp at h, upd_same, (Ext.new hD).plus, m.upd⟩, fun i m H hW => ?_⟩
  obtain ⟨hm, ai⟩ := hW
  obtain ⟨acc0, hl, hr, hd, x1, mo⟩ := id ai
  by_cases hi : i = n
  · subst hi
    exact .inl ⟨wk.stops H (g0 H x1), fin acc0 H hl hr hd (Ext.close (Ext.refl M H1) hD x1) mo⟩
  · have hi' : i < n := by omega
    refine .inr ⟨wk.goes i H hi' (g0 H x1), fun H' => AcS R M D H1 ((i + 1) * k) H', fun H' h => ⟨m - 1, by omega, by omega, h⟩, fun x H' y => ?_⟩
    refine step i x H H' (fun σ2 => In2 g1 te vs1 σ2 D _) _ hi' x1 (mo.plus (by rw [hd]; simp)) (wk.yields i H x H' hi' (g0 H x1) y) fun σ2 J1 H4 G1 Y1 w1 x2 mo2 hg hs => ?_
    have hik : i * k + k ≤ 100000 := by
      have : (i + 1) * k ≤ n * k := Nat.mul_le_mul_right k hi'
      rw [Nat.succ_mul] at this
      omega
    refine in2_rel w1 sR nM hik (ai.move sR nM x2 mo2) (fun H5 _ a => by rw [Nat.succ_mul]; exact a) hg hs
theorem i_yesI {σ σ2 : L2.St} {H : Hp} {wi1 : TI} {vs : List Nat} {C : It → Hp → Prop} {N' : Hp → Prop} (e : wipe σ2 vs = wipe σ vs) (h : wi1 σ2 H C) : wipe σ2 vs = wipe σ vs ∧ tYes σ2 H fun b H3 => if b = true then wi1 σ2 H3 C else N' H3 := ⟨e, iteT (A := wi1 σ2 H C) (B := N' H) h⟩
theorem i_callD {sp : Sp} {dvs : List V} {E : XK} {tl : TA} {σ : L2.St} {H : Hp} {Q : VK} (h : tl σ H fun vs H1 => sp (vs ++ dvs) H1 Q E) : tCall sp dvs E tl σ H Q := h
/-! rows as data -/
section
variable {ct : Addr} {M : Mt} {H : Hp}
theorem rpA_of : ∀ {vs : List V} {ds : List Dt}, vs.length = ds.length → (∀ (i : Nat) v, vs[i]? = some v → ∃ d, ds[i]? = some d ∧ Rp ct M H v d) → RpA ct M H vs ds
  | [], [], _, _ => .nil
  | [], _ :: _, h, _ => by simp at h
  | _ :: _, [], h, _ => by simp at h
  | v :: vs, d :: ds, h, k => by
    obtain ⟨d', e, r⟩ := k 0 v rfl
    obtain rfl := Option.some.inj e
    exact .cons r (rpA_of (by simpa using h) fun i w hw => by simpa using k (i + 1) w (by simpa using hw))
end
section
variable {K : PySem.W.Frag} {σ : L2.St} {H : Hp} {N : L2.St → Hp → Prop} {x y z : V} {p : Addr} {i j k : Nat}
theorem i_gt2 (s : SqT K H p [x, y]) (h : N ((σ.set i (some x)).set j (some y)) H) : gTup K 2 (gCons (gName i) (gCons (gName j) gNil)) (.ref p) σ H N := ⟨p, _, rfl, s, rfl, x, _, rfl, y, _, rfl, rfl, h⟩
theorem i_gt3 (s : SqT K H p [x, y, z]) (h : N (((σ.set i (some x)).set j (some y)).set k (some z)) H) : gTup K 3 (gCons (gName i) (gCons (gName j) (gCons (gName k) gNil))) (.ref p) σ H N := ⟨p, _, rfl, s, rfl, x, _, rfl, y, _, rfl, z, _, rfl, rfl, h⟩
theorem i_gl3 (s : SqL K H p [x, y, z]) (h : N (((σ.set i (some x)).set j (some y)).set k (some z)) H) : gUnl K 3 (gCons (gName i) (gCons (gName j) (gCons (gName k) gNil))) (.ref p) σ H N := ⟨p, _, rfl, s, rfl, x, _, rfl, y, _, rfl, z, _, rfl, rfl, h⟩
end
theorem find_some {p : Nat → Bool} {n i : Nat} (hi : i < n) (h : p i = true) (k : ∀ c, c < i → p c = false) : (List.range n).find? p = some i := by
  rw [List.find?_range_eq_some]
  exact ⟨h, List.mem_range.mpr hi, fun c hc => by simp [k c hc]⟩
theorem find_none {p : Nat → Bool} {n : Nat} (k : ∀ c, c < n → p c = false) : (List.range n).find? p = none := by
  rw [List.find?_eq_none]
  intro c hc
  simp [k c (List.mem_range.mp hc)]
theorem Rp.tupAt {ct : Addr} {M : Mt} {H : Hp} {v : V} {ds : List Dt} (h : Rp ct M H v (.tup ds)) : ∃ p xs, v = .ref p ∧ At M H p (.tup xs) ∧ RpA ct M H xs ds := by
  cases h with
  | tup h1 h2 => exact ⟨_, _, rfl, h1, h2⟩
theorem Rp.lstAt {ct : Addr} {M : Mt} {H : Hp} {v : V} {ds : List Dt} (h : Rp ct M H v (.lst ds)) : ∃ p xs, v = .ref p ∧ At M H p (.lst xs) ∧ RpA ct M H xs ds := by
  cases h with
  | lst h1 h2 => exact ⟨_, _, rfl, h1, h2⟩
theorem RpA.two {ct : Addr} {M : Mt} {H : Hp} {xs : List V} {i j : Int} (h : RpA ct M H xs [.int i, .int j]) : xs = [.int i, .int j] := by
  cases h with | cons h1 h2 => cases h2 with | cons h3 h4 => cases h1; cases h3; cases h4; rfl
theorem RpA.i2 {ct : Addr} {M : Mt} {H : Hp} {i j : Int} : RpA ct M H [.int i, .int j] [.int i, .int j] := .cons (.int i) (.cons (.int j) .nil)
end Bs
set_option Elab.async false
set_option linter.all false
set_option maxRecDepth 100000
set_option maxHeartbeats 400000
namespace Bs
open PySem PySem.Spec PyProof.Rows L2
/-! BsK: .get of a dict that the top writes, its keys tuples of numbers. -/
structure KTab (K : PySem.W.Frag) (prog : Program) (w : World) (d : Addr) (kvs : List (List Key × V)) : Prop where
  ex : ∃ xs : List (List Key × Addr × Value), (∃ es ep, List.lookup d K = some { cls := .type "dict", data := .dict es ep } ∧ es.toList = xs.map (entryOfKey (tupleKind (mixKind prog w)))) ∧
    (∀ x ∈ xs, ∃ o items n, List.lookup x.2.1 K = some o ∧ o.cls = .type "tuple" ∧ o.data = .seq items n ∧ PySem.ItemsAre (mixKind prog w) x.1 items.toList) ∧ (xs.map (·.1)).Nodup ∧
    Paired (fun p q => p.1 = q.1 ∧ L2.RelV p.2 q.2.2) kvs xs
  low : (d == sysModules) = false
theorem ktab_of {K : PySem.W.Frag} {prog : Program} {w : World} {h : Heap} {d : Addr} (X : K.In h) {xs : List (List Key × Addr × Value)} (a : ∃ es ep, List.lookup d K = some { cls := .type "dict", data := .dict es ep } ∧ es.toList = xs.map (entryOfKey (tupleKind (mixKind prog w))))
    (b : ∀ x ∈ xs, ∃ o items n, List.lookup x.2.1 K = some o ∧ o.cls = .type "tuple" ∧ o.data = .seq items n ∧ PySem.ItemsAre (mixKind prog w) x.1 items.toList) (c : (xs.map (·.1)).Nodup) : Heap.DictOfH (tupleKind (mixKind prog w)) h d xs := by
  obtain ⟨es, ep, h1, h2⟩ := a
  refine ⟨_, es, ep, X _ _ h1, ⟨rfl, rfl, rfl⟩, rfl, h2, fun x hx => ?_, c⟩
  obtain ⟨o, items, n, g1, g2, g3, g4⟩ := b x hx
  exact ⟨o, items, n, X _ _ g1, g2, g3, g4⟩
theorem ktab_val {kvs : List (List Key × V)} {xs : List (List Key × Addr × Value)} (r : Paired (fun p q => p.1 = q.1 ∧ L2.RelV p.2 q.2.2) kvs xs) (k : List Key) : RelO (valV kvs k) ((atKey xs k).map (·.2)) := by
  induction r with
  | nil => exact trivial
  | @cons p q kvs xs h t ih =>
    obtain ⟨k1, v1⟩ := p
    obtain ⟨k2, a2, v2⟩ := q
    obtain ⟨h1, h2⟩ := h
    simp only at h1 h2
    subst h1
    by_cases hk : k1 = k
    · subst hk
      simpa [valV, atKey, RelO] using h2
    · simpa [valV, atKey, RelO, hk] using ih
section
variable {X : Cx}
def tKdT (d : Addr) (kvs : List (List Key × V)) (td : TE) (tl : TA) : TE := fun σ H Q => td σ H fun x H1 => x = .ref d ∧ tl σ H1 fun vs H3 => ∃ b k z, vs = [.ref b, z] ∧ H3 b = some (.tup (k.map kV)) ∧ Q ((valV kvs k).getD z) H3
theorem pe_kdT {o e f : Expr} {apos cpos : Pos} {td : TE} {tl : TA} {d : Addr} {kvs : List (List Key × V)} (D : KTab X.K X.prog X.w d kvs) (hu : X.A.units + 1 < cLine) (ho : PE X o td) (ha : PA X [e, f] tl)
    (base : attributeBase o "get" X.env (eval o X.env) = eval o X.env := by rfl)
    (few : ((((backTo cpos (starEach [e, f] X.env)).all fun x => !x.1) && (backToKw cpos (keywordEach [] X.env)).all fun x => x.1.isSome) && decide (([e, f].length + ([] : List Keyword).length + if ([] : List Keyword).isEmpty = true then 0 else 1) < 30)) = true := by rfl)
    (line : (apos.endLine == cpos.line) = true := by rfl) (he : starEach (e :: [f]) X.env = (false, eval e X.env) :: starEach [f] X.env := by rfl) (hpl : (backTo cpos (starEach [f] X.env)).any (·.1) = false := by rfl) :
    PE X (.Call (.Attribute o "get" apos) [e, f] [] cpos) (tKdT d kvs td tl) := by
  refine ⟨fun pins s σ H Q I h => ?_⟩
  refine wpAny_Call_method base few line F.plainAttrs_dict F.slot_dict_get F.type_dict_get (thn (ho.run pins s σ H _ I h) fun u s1 hq => ?_)
  obtain ⟨x, H1, I1, rx, rfl, q1⟩ := hq
  cases rx
  obtain ⟨xs, a, b, c, rel⟩ := D.ex
  have dd1 := ktab_of I1.kIn a b c
  refine ⟨dd1.typeIs, fun b' eb => ?_, ?_⟩
  · cases eb
    obtain ⟨es, ep, g1, _⟩ := a
    exact ⟨_, I1.kIn _ _ g1, rfl⟩
  have hA := ha.run cpos pins s1 σ H1 _ I1 q1
  rw [he] at hA ⊢
  refine Calls.callWith_builtin ?_ (Calls.evalArgs_plain (thn hA fun us s2 hh => ?_))
  · exact hpl
  obtain ⟨vs, H2, I2, r2, b2, k, z, rfl, hb, q2⟩ := hh
  obtain ⟨u1, u2, rfl, w1, w2⟩ : ∃ u1 u2, us = [u1, u2] ∧ L2.RelV (.ref b2) u1 ∧ L2.RelV z u2 := by
    cases r2 with
    | cons r1 r2 => cases r2 with | cons r3 r4 => cases r4; exact ⟨_, _, rfl, r1, r3⟩
  cases w1
  have dd2 := ktab_of I2.kIn a b c
  refine call_meetsIn F.slot_dict_get dd2.typeIs F.entry_dict_get (F.args_dict_get_3 _ _ _) (meetsH_dict_get_default (tupleKind (mixKind X.prog X.w)) d b2 D.low u2) ⟨tupleKind_room_in1 hu, k, xs, key_of I2.hok hb, dd2, ?_⟩
  exact ⟨_, H2, I2.tok _, RelO.getD (ktab_val rel k) w2, q2⟩
/-- enumerate of a list or a tuple -/
def iEnumB (K : PySem.W.Frag) (ta : TA) : TI := fun σ H R => iEnum K ta σ H R ∨ iEnumT K ta σ H R
theorem pi_enumB {e : Expr} {ta : TA} {p pos tpos : Pos} {elts : List Expr} {kk : Nat} (hg : Gl X "enumerate") (hm : X.mg "enumerate" = none) (ha : PA X [e] ta) (hs : starEach [e] X.env = [(false, eval e X.env)] := by rfl) :
    PI X (.Tuple elts kk tpos) (.Call (.Name "enumerate" p) [e] [] pos) (iEnumB X.K ta) :=
  ⟨fun pins s σ H R I h => h.elim (fun h => (pi_enum hg hm ha hs).run pins s σ H R I h) fun h => (pi_enumT hg hm ha hs).run pins s σ H R I h⟩
end
theorem u1 {k : Nat} {A : Around} (h : L2.Room k A) : A.units + 1 < cLine := by have := h.un; omega
theorem u65 {k : Nat} {A : Around} (h : L2.Room k A) : A.units + 65 < cLine := by have := h.un; omega
/-! what the top writes of votes -/
def orders : List Str := ["abc", "acb", "bac", "bca", "cab", "cba"]
def bitsOf (o : Str) : List Int := if o = "abc" then [1, 1, 0] else if o = "acb" then [1, 0, 0] else if o = "bac" then [0, 1, 0] else if o = "bca" then [0, 1, 1] else if o = "cab" then [1, 0, 1] else [0, 0, 1]
def ordI (i j k : Int) : Str := if i = 1 ∧ j = 1 ∧ k = 0 then "abc" else if i = 1 ∧ j = 0 ∧ k = 0 then "acb" else if i = 0 ∧ j = 1 ∧ k = 0 then "bac" else if i = 0 ∧ j = 1 ∧ k = 1 then "bca" else if i = 1 ∧ j = 0 ∧ k = 1 then "cab" else if i = 0 ∧ j = 0 ∧ k = 1 then "cba" else "ring"
def kvsO : List (List Key × V) := orders.map fun o => ((bitsOf o).map Sum.inl, V.str o)
theorem valO (i j k : Int) : (valV kvsO [Sum.inl i, .inl j, .inl k]).getD (.str "ring") = .str (ordI i j k) := by
  have e : kvsO = [([Sum.inl 1, .inl 1, .inl 0], .str "abc"), ([.inl 1, .inl 0, .inl 0], .str "acb"), ([.inl 0, .inl 1, .inl 0], .str "bac"), ([.inl 0, .inl 1, .inl 1], .str "bca"), ([.inl 1, .inl 0, .inl 1], .str "cab"), ([.inl 0, .inl 0, .inl 1], .str "cba")] := by
    rfl
  rw [e]
  unfold valV ordI
  by_cases a1 : i = 1 ∧ j = 1 ∧ k = 0
  · obtain ⟨rfl, rfl, rfl⟩ := a1; rfl
  by_cases a2 : i = 1 ∧ j = 0 ∧ k = 0
  · obtain ⟨rfl, rfl, rfl⟩ := a2; rfl
  by_cases a3 : i = 0 ∧ j = 1 ∧ k = 0
  · obtain ⟨rfl, rfl, rfl⟩ := a3; rfl
  by_cases a4 : i = 0 ∧ j = 1 ∧ k = 1
  · obtain ⟨rfl, rfl, rfl⟩ := a4; rfl
  by_cases a5 : i = 1 ∧ j = 0 ∧ k = 1
  · obtain ⟨rfl, rfl, rfl⟩ := a5; rfl
  by_cases a6 : i = 0 ∧ j = 0 ∧ k = 1
  · obtain ⟨rfl, rfl, rfl⟩ := a6; rfl
  rw [if_neg a1, if_neg a2, if_neg a3, if_neg a4, if_neg a5, if_neg a6]
  have n1 : ¬ ((1 : Int) = i ∧ (1 : Int) = j ∧ (0 : Int) = k) := fun z => a1 ⟨z.1.symm, z.2.1.symm, z.2.2.symm⟩
  have n2 : ¬ ((1 : Int) = i ∧ (0 : Int) = j ∧ (0 : Int) = k) := fun z => a2 ⟨z.1.symm, z.2.1.symm, z.2.2.symm⟩
  have n3 : ¬ ((0 : Int) = i ∧ (1 : Int) = j ∧ (0 : Int) = k) := fun z => a3 ⟨z.1.symm, z.2.1.symm, z.2.2.symm⟩
  have n4 : ¬ ((0 : Int) = i ∧ (1 : Int) = j ∧ (1 : Int) = k) := fun z => a4 ⟨z.1.symm, z.2.1.symm, z.2.2.symm⟩
  have n5 : ¬ ((1 : Int) = i ∧ (0 : Int) = j ∧ (1 : Int) = k) := fun z => a5 ⟨z.1.symm, z.2.1.symm, z.2.2.symm⟩
  have n6 : ¬ ((0 : Int) = i ∧ (0 : Int) = j ∧ (1 : Int) = k) := fun z => a6 ⟨z.1.symm, z.2.1.symm, z.2.2.symm⟩
  simp only [List.find?, List.cons.injEq, Sum.inl.injEq, and_true, n1, n2, n3, n4, n5, n6, decide_false, Option.map_none, Option.getD_none]
structure Tx2 (K : PySem.W.Frag) (prog : Program) (w : World) (a : Ad) : Prop where
  bob : ∀ o ∈ orders, KDct K w a.bob o (.ref (a.bt o)) ∧ ∀ H, SqT K H (a.bt o) ((bitsOf o).map V.int)
  oob : KTab K prog w a.oob kvsO
  ors : ∀ H, SqT K H a.ors (orders.map V.str)
  prs : ∀ H, SqT K H a.prs [.ref (a.pr 0), .ref (a.pr 1), .ref (a.pr 2)]
  pr0 : ∀ H, SqT K H (a.pr 0) [.int 0, .int 1]
  pr1 : ∀ H, SqT K H (a.pr 1) [.int 0, .int 2]
  pr2 : ∀ H, SqT K H (a.pr 2) [.int 1, .int 2]
end Bs
set_option Elab.async false
set_option linter.all false
set_option maxRecDepth 100000
set_option maxHeartbeats 400000
namespace Bs
open PySem PySem.Spec PyProof.Rows L2
/-! BsL: enumerate walked; items stored. -/
section
variable {K : PySem.W.Frag} {g : TG} {tb : TS} {D : Ends} {σ : L2.St} {H : Hp} {p : Addr} {xs : List V} {M : Mt} {ta : TA}
theorem i_augS {to ti te : TE} {tget : V → V → Hp → VK → Prop} {tip : TIp} {tset : TSet} (h : to σ H fun o H1 => ti σ H1 fun i H2 => tget o i H2 fun x H3 => te σ H3 fun y H4 => tip x y H4 fun z H5 => tset o i z H5 fun H6 => D.nx σ H6) : tAugS to ti te tget tip tset D σ H := h
theorem i_setL {v : V} {k : Int} {j : Nat} {N : Hp → Prop} (h : H p = some (.lst xs)) (e : ixN xs.length k = some j) (q : ∀ H', Ext (Is p) H H' → Grow H H' → H' p = some (.lst (xs.set j v)) → N H') : rSetL (.ref p) (.int k) v H N :=
  ⟨p, xs, k, j, rfl, rfl, h, e, q _ (Ext.set rfl) Grow.upd upd_same⟩
theorem i_cut {t u : TS} (Mid : L2.St → Hp → Prop) (h1 : t { nx := Mid, rt := D.rt, bk := D.bk, ct := D.ct } σ H) (h2 : ∀ σ' H', Mid σ' H' → u D σ' H') : C8.tCut t u D σ H := ⟨Mid, h1, h2⟩
theorem i_par {i j : Nat} (h : ta σ H fun vs H1 => ∃ v w, vs = [v, w] ∧ D.nx ((σ.set i (some v)).set j (some w)) H1) : tPar i j ta D σ H := h
def BitK (Q : VK) (x : V) (H1 : Hp) : Prop := ∃ i, x = V.int i ∧ Q (.int (Builtin.Int.intBits i : Nat)) H1
theorem i_bits {te : TE} {Q : VK} (h : te σ H (BitK Q)) : tBits te σ H Q := h
theorem i_bitI {i : Int} {Q : VK} (h : Q (.int (Builtin.Int.intBits i : Nat)) H) : BitK Q (.int i) H := ⟨i, rfl, h⟩
def M1K (r : V → List V → Hp → VK → Prop) (te : TE) (σ : L2.St) (Q : VK) (x : V) (H1 : Hp) : Prop := (∃ a, x = V.str a) ∧ te σ H1 fun y H2 => r x [y] H2 Q
theorem i_m1 {r : V → List V → Hp → VK → Prop} {to te : TE} {Q : VK} (h : to σ H (M1K r te σ Q)) : tM1 r to te σ H Q := h
theorem i_m1S {r : V → List V → Hp → VK → Prop} {te : TE} {Q : VK} {z : Str} (h : te σ H fun y H2 => r (.str z) [y] H2 Q) : M1K r te σ Q (.str z) H := ⟨⟨z, rfl⟩, h⟩
theorem i_sl {r : V → Option Int → Option Int → Hp → VK → Prop} {te : TE} {tl th : TO} {Q : VK} (h : te σ H fun x H1 => tl σ H1 fun l H2 => th σ H2 fun u H3 => r x l u H3 Q) : tSl r te tl th σ H Q := h
def PartK (P : Option Int → Hp → Prop) (x : V) (H1 : Hp) : Prop := ∃ i : Int, x = V.int i ∧ P (some i) H1
theorem i_part {te : TE} {P : Option Int → Hp → Prop} (h : te σ H (PartK P)) : tPart te σ H P := h
theorem i_partI {i : Int} {P : Option Int → Hp → Prop} (h : P (some i) H) : PartK P (.int i) H := ⟨i, rfl, h⟩
theorem i_nopart {P : Option Int → Hp → Prop} (h : P none H) : tNoPart σ H P := h
def BmK (K : PySem.W.Frag) (T : String) (r : V → List V → Hp → VK → Prop) (t : TA) (σ : L2.St) (Q : VK) (x : V) (H1 : Hp) : Prop := tyV K T x H1 ∧ t σ H1 fun xs H2 => r x xs H2 Q
theorem i_bm {T : String} {r : V → List V → Hp → VK → Prop} {to : TE} {t : TA} {Q : VK} (h : to σ H (BmK K T r t σ Q)) : tBM K T r to t σ H Q := h
theorem i_bmL {r : V → List V → Hp → VK → Prop} {t : TA} {Q : VK} (h : H p = some (.lst xs)) (k : t σ H fun vs H2 => r (.ref p) vs H2 Q) : BmK K "list" r t σ Q (.ref p) H := ⟨.inl ⟨rfl, xs, SqL.of h⟩, k⟩
theorem i_app {y : V} {Q : VK} (h : H p = some (.lst xs)) (hl : xs.length < 100000) (q : ∀ H', Ext (Is p) H H' → Grow H H' → H' p = some (.lst (xs ++ [y])) → Q .non H') : rAppend (.ref p) [y] H Q := ⟨p, xs, y, rfl, rfl, h, small_lt hl, q _ (Ext.set rfl) Grow.upd upd_same⟩
def Bm0K (K : PySem.W.Frag) (T : String) (r : V → List V → Hp → VK → Prop) (Q : VK) (x : V) (H1 : Hp) : Prop := tyV K T x H1 ∧ r x [] H1 Q
theorem i_bm0 {T : String} {r : V → List V → Hp → VK → Prop} {to : TE} {Q : VK} (h : to σ H (Bm0K K T r Q)) : tBM0 K T r to σ H Q := h
theorem i_bm0L {r : V → List V → Hp → VK → Prop} {Q : VK} (h : H p = some (.lst xs)) (k : r (.ref p) [] H Q) : Bm0K K "list" r Q (.ref p) H := ⟨.inl ⟨rfl, xs, SqL.of h⟩, k⟩
theorem i_rev {Q : VK} (h : H p = some (.lst xs)) (q : ∀ H', Ext (Is p) H H' → Grow H H' → H' p = some (.lst xs.reverse) → Q .non H') : rReverse (.ref p) [] H Q := ⟨p, xs, rfl, rfl, h, q _ (Ext.set rfl) Grow.upd upd_same⟩
theorem RpA.snoc {ct : Addr} {M : Mt} {H : Hp} {v : V} {d : Dt} : ∀ {vs : List V} {ds : List Dt}, RpA ct M H vs ds → Rp ct M H v d → RpA ct M H (vs ++ [v]) (ds ++ [d]) := fun h k => h.append (.cons k .nil)
theorem RpA.rev {ct : Addr} {M : Mt} {H : Hp} : ∀ {vs : List V} {ds : List Dt}, RpA ct M H vs ds → RpA ct M H vs.reverse ds.reverse
  | [], _, h => by cases h; exact .nil
  | v :: vs, _, h => by
    cases h with
    | cons h1 h2 => rw [List.reverse_cons, List.reverse_cons]; exact (RpA.rev h2).snoc h1
theorem f_enumL (s : At M H p (.lst xs)) (hv : ∀ R, R [V.ref p] H → ta σ H R) (Pv : Nat → L2.St → Hp → Prop) (h0 : Pv 0 σ H) (hk : ∀ i σ H', i ≤ xs.length → Pv i σ H' → Ext M H H')
    (step : ∀ (i : Nat) x σ H' H2 t, xs[i]? = some x → Pv i σ H' → H' t = none → Ext N0 H' H2 → H2 t = some (.tup [.int (i : Int), x]) → g (.ref t) σ H2 fun σ2 H2 => tb { nx := Pv (i + 1), rt := D.rt, bk := D.nx, ct := Pv (i + 1) } σ2 H2) (fin : ∀ σ H', Pv xs.length σ H' → D.nx σ H') : iEnum K ta σ H (ForK g tb D σ) := by
  refine hv _ ⟨p, xs, rfl, SqL.of s.2, ?_⟩
  refine for_it (walk_enum (K := K) (a := p) (xs := xs)) Pv h0 (fun i σ H' hi hP => SqL.of (s.ext (hk i σ H' hi hP)).2) (fun i x σ H' H2 hi hP y => ?_) fin
  obtain ⟨t, x1, x2, rfl, hn, rfl, e1, e2⟩ := y
  cases e1
  exact step i x2 σ H' _ t e2 hP hn (Ext.new hn) upd_same
theorem f_enumT (s : ∀ i σ H', i ≤ xs.length → (Pv : Nat → L2.St → Hp → Prop) i σ H' → SqT K H' p xs) (s0 : SqT K H p xs) (hv : ∀ R, R [V.ref p] H → ta σ H R) (h0 : Pv 0 σ H)
    (step : ∀ (i : Nat) x σ H' H2 t, xs[i]? = some x → Pv i σ H' → H' t = none → Ext N0 H' H2 → H2 t = some (.tup [.int (i : Int), x]) → g (.ref t) σ H2 fun σ2 H2 => tb { nx := Pv (i + 1), rt := D.rt, bk := D.nx, ct := Pv (i + 1) } σ2 H2) (fin : ∀ σ H', Pv xs.length σ H' → D.nx σ H') : iEnumT K ta σ H (ForK g tb D σ) := by
  refine hv _ ⟨p, xs, rfl, s0, ?_⟩
  refine for_it (walk_enumT (K := K) (a := p) (xs := xs)) Pv h0 (fun i σ H' hi hP => s i σ H' hi hP) (fun i x σ H' H2 hi hP y => ?_) fin
  obtain ⟨t, x1, x2, rfl, hn, rfl, e1, e2⟩ := y
  cases e1
  exact step i x2 σ H' _ t e2 hP hn (Ext.new hn) upd_same
theorem f_enumB (s : At M H p (.lst xs) ∨ At M H p (.tup xs)) (hv : ∀ R, R [V.ref p] H → ta σ H R) (Pv : Nat → L2.St → Hp → Prop) (h0 : Pv 0 σ H) (hk : ∀ i σ H', i ≤ xs.length → Pv i σ H' → Ext M H H')
    (step : ∀ (i : Nat) x σ H' H2 t, xs[i]? = some x → Pv i σ H' → H' t = none → Ext N0 H' H2 → H2 t = some (.tup [.int (i : Int), x]) → g (.ref t) σ H2 fun σ2 H2 => tb { nx := Pv (i + 1), rt := D.rt, bk := D.nx, ct := Pv (i + 1) } σ2 H2) (fin : ∀ σ H', Pv xs.length σ H' → D.nx σ H') : iEnumB K ta σ H (ForK g tb D σ) :=
  s.elim (fun s => .inl (f_enumL s hv Pv h0 hk step fin)) fun s => .inr (f_enumT (fun i σ H' hi hP => SqT.of (s.ext (hk i σ H' hi hP)).2) (SqT.of s.2) hv h0 step fin)
theorem c_list2 {g1 : TG} {wi1 : TI} {te : TE} {vs vs1 : List Nat} {Q : VK} (s : SqL K H p xs) (m : MOk M H) (k : Nat) (hn : xs.length * k ≤ 100000) (R : Addr → Nat → V → Hp → Prop)
    (h : ∀ D, H D = none → (∀ i y H H', Ext (Plus M D) H H' → R D i y H → R D i y H') ∧ (∀ H1, Ext (Plus M D) H H1 → SqL K H1 p xs) ∧
    (∀ i x H1 (C : L2.St → It → Hp → Prop) (N' : Hp → Prop), xs[i]? = some x → Ext (Plus M D) H H1 → MOk (Plus M D) H1 →
      (∀ σ2 J1 H4 G1 Y1, Walk J1 k G1 Y1 → Ext M H1 H4 → MOk M H4 → (∀ H5, Ext (Plus M D) H4 H5 → G1 H5) →
        (∀ j x H5 H6 (N : V → Hp → Prop) (N' : Hp → Prop), j < k → Ext (Plus M D) H4 H5 → MOk (Plus M D) H5 → Y1 j H5 x H6 → (∀ y H7, Ext M H5 H7 → MOk M H7 → R D (i * k + j) y H7 → N y H7) →
          g1 x (wipe σ2 vs1) H6 fun σ3 H7 => wipe σ3 vs1 = wipe σ2 vs1 ∧ tYes σ3 H7 fun b H8 => if b = true then te σ3 H8 N else N' H8) → C σ2 J1 H4) →
      g x (wipe σ vs) H1 fun σ2 H2 => wipe σ2 vs = wipe σ vs ∧ tYes σ2 H2 fun b H3 => if b = true then wi1 σ2 H3 (C σ2) else N' H3) ∧
    (∀ acc H1, acc.length = xs.length * k → (∀ i y, acc[i]? = some y → R D i y H1) → H1 D = some (.lst acc) → Ext M H H1 → MOk M H1 → Q (.ref D) H1)) : LiK K (Lc2K g wi1 g1 te vs vs1 σ Q) (.ref p) H :=
  ⟨p, rfl, ⟨xs, s⟩, fun D hD => let ⟨a1, a2, a3, a4⟩ := h D hD; lc2_rel (walk_list (K := K) (a := p) (xs := xs)) k hD m hn (R D) a1 a2 (fun i x H1 H2 C N' hi e mo y n => by obtain ⟨e1, hx⟩ := y; subst e1; exact a3 i x _ C N' hx e mo n) a4⟩
end
end Bs
set_option Elab.async false
set_option linter.all false
set_option maxRecDepth 100000
set_option maxHeartbeats 400000
namespace Bs
open PySem PySem.Spec PyProof.Rows L2 SX
open C8 (pe_gc pss_cut)
local macro_rules | `(tactic| walk_at "xt") => `(tactic| first | assumption | exact Ext.weak (by assumption) | exact Ext.is (by assumption) (by assumption) | exact Ext.plus (by assumption) | exact Ext.plus (Ext.weak (by assumption)) | exact Ext.plus (Ext.is (by assumption) (by assumption)) | exact Ext.set plus_self)
local macro_rules | `(tactic| walk_at "gr") => `(tactic| first | assumption | exact Ext.grow (by assumption) | exact Grow.upd)
local macro_rules | `(tactic| walk_at "mo") => `(tactic| first | assumption | exact MOk.zero | ((first | refine MOk.grow ?_ (by walk_at "gr") | exact MOk.upd (by walk_at "mo")); walk_at "mo") | exact MOk.plus (by walk_at "mo") (by assumption))
local macro_rules | `(tactic| walk_at "hp") => `(tactic| first
  | assumption | exact At.raw (by assumption)
  | exact At.mk' (by walk_at "mo") (by assumption) (by assumption)
  | ((first | refine At.ext (by walk_at "xt") ?_ | refine Rp.ext (by walk_at "xt") ?_ | refine RpA.ext (by walk_at "xt") ?_ | refine Tb.ext (by walk_at "xt") ?_); walk_at "hp")
  | ((first | refine At.plus (by assumption) ?_ | refine Rp.plus (by assumption) ?_ | refine RpA.plus (by assumption) ?_ | refine Tb.plus (by assumption) ?_); walk_at "hp"))
local macro_rules | `(tactic| walk_at "at") => `(tactic| first | assumption | exact At.get (M := N0) (by walk_at "hp"))
local macro_rules | `(tactic| walk_at "sq") => `(tactic| first | exact SqL.of (by walk_at "at") | exact SqT.of (by walk_at "at"))
local macro_rules | `(tactic| walk_at "st") => `(tactic| with_reducible first
  | refine i_seq ?_ | refine i_asg ?_ | refine i_ret ?_ | refine i_retN ?_ | refine i_drop ?_ | refine i_ifS ?_ | refine i_next ?_ | refine i_brk ?_
  | refine i_gname ?_ | refine i_gsub ?_ | refine i_c ?_ | refine i_op ?_ | refine i_un ?_ | refine i_I0 ?_ | refine i_U ?_ | refine i_isN ?_ | refine i_notN ?_
  | refine i_test ?_ | refine i_tB ?_ | refine i_bl ?_ | refine i_and ?_ | refine i_or ?_ | refine i_not ?_ | refine i_andV ?_ | refine i_orV ?_ | refine i_notV ?_ | refine i_ifE ?_
  | refine i_nil ?_ | refine i_cons ?_ | refine i_for ?_ | refine i_iL ?_ | refine i_iT ?_ | refine i_iR ?_ | refine i_lc ?_ | refine i_prp ?_ | refine i_mk ?_ | refine i_sS ?_ | refine i_sN ?_ | refine i_nsS ?_ | refine i_nsN ?_ | refine i_fld ?_ | refine i_sf ?_ | refine i_inO ?_ | refine i_lsO ?_ | refine i_tpO ?_ | refine i_lnO ?_ | refine i_cb ?_ | refine i_call ?_ | refine i_tup ?_ | refine i_lst ?_ | refine i_dnew ?_ | refine i_inI ?_ | refine i_inB ?_ | refine i_rgX ?_ | refine i_lrO ?_ | refine i_rg1 ?_ | refine i_nF ?_ | refine i_nT ?_ | refine i_tt ?_ | refine i_ff ?_ | refine i_ifT ?_ | refine i_ifF ?_
  | refine i_eqI ?_ | refine i_eqS ?_ | refine i_eqB ?_ | refine i_neI ?_ | refine i_neS ?_ | refine i_dR ?_ | refine i_dI ?_ | refine i_dT ?_ | refine i_dS ?_ | refine i_dN ?_ | refine i_nR ?_ | refine i_nI ?_ | refine i_nN ?_
  | (refine i_var (by with_unfolding_all rfl) ?_) | refine i_eq rfl ?_ | refine i_ne rfl ?_)
local macro_rules | `(tactic| walk_at "sc") => `(tactic| first | exact (Rp.int (M := N0) _) | exact (Rp.str (M := N0) _) | exact (Rp.bl (M := N0) _) | exact (Rp.non (M := N0)) | assumption | exact Rp.tab (by assumption) | exact Tb.rp (by assumption))
local macro_rules | `(tactic| walk_at "sd") => `(tactic| simp only [d_Bool_non, d_Bool_bl, d_Bool_int, d_Bool_str, d_Bool_lst, d_Bool_tup, d_Bool_tab, d_Bool_dic, d_Int_non, d_Int_bl, d_Int_int, d_Int_str, d_Int_lst, d_Int_tup, d_Int_tab, d_Int_dic, d_Str_non, d_Str_bl, d_Str_int, d_Str_str, d_Str_lst, d_Str_tup, d_Str_tab, d_Str_dic, d_List_non, d_List_bl, d_List_int, d_List_str, d_List_lst, d_List_tup, d_List_tab, d_List_dic, d_Tup_non, d_Tup_bl, d_Tup_int, d_Tup_str, d_Tup_lst, d_Tup_tup, d_Tup_tab, d_Tup_dic, d_Tab_non, d_Tab_bl, d_Tab_int, d_Tab_str, d_Tab_lst, d_Tab_tup, d_Tab_tab, d_Tab_dic, Bool.not_true, Bool.not_false, Bool.true_or, Bool.false_or, Bool.or_true, Bool.or_false, Bool.and_true, Bool.true_and, Bool.and_false, Bool.false_and, if_true, if_false, Bool.false_eq_true])
local macro_rules | `(tactic| walk_at "isi") => `(tactic| ((first | with_reducible apply i_isB | with_reducible apply i_isI | with_reducible apply i_isS | with_reducible apply i_isL | with_reducible apply i_isT | with_reducible apply i_isTab); (focus assumption); (focus walk_at "sc"); try simp only [d_Bool_non, d_Bool_bl, d_Bool_int, d_Bool_str, d_Bool_lst, d_Bool_tup, d_Bool_tab, d_Bool_dic, d_Int_non, d_Int_bl, d_Int_int, d_Int_str, d_Int_lst, d_Int_tup, d_Int_tab, d_Int_dic, d_Str_non, d_Str_bl, d_Str_int, d_Str_str, d_Str_lst, d_Str_tup, d_Str_tab, d_Str_dic, d_List_non, d_List_bl, d_List_int, d_List_str, d_List_lst, d_List_tup, d_List_tab, d_List_dic, d_Tup_non, d_Tup_bl, d_Tup_int, d_Tup_str, d_Tup_lst, d_Tup_tup, d_Tup_tab, d_Tup_dic, d_Tab_non, d_Tab_bl, d_Tab_int, d_Tab_str, d_Tab_lst, d_Tab_tup, d_Tab_tab, d_Tab_dic]))
local macro_rules | `(tactic| walk_at "om") => `(tactic| first | ((with_reducible refine i_decF ?_ ?_); (focus omega)) | ((with_reducible refine i_decT ?_ ?_); (focus omega)) | ((with_reducible refine i_ndecF ?_ ?_); (focus omega)) | ((with_reducible refine i_ndecT ?_ ?_); (focus omega)))
local macro_rules | `(tactic| walk_at "go") => `(tactic| ((repeat (first | walk_at "st" | walk_at "isi" | walk_at "om")); try dsimp only [List.set]))
variable {W : Wd} {a : Ad}
/-! L15: a caught error looked at: a def called while it is handled. -/
open PySem.W in
theorem kin_classD {prog : Program} {w : World} {A : Around} {E : Value → Shared → Prop} {s : Shared} {K : Frag} {x D : Addr} {ox : Obj} {od : Option Obj} {Q : Option Value → Shared → Prop} (C : ExcC K D) (X : K.In s.heap) (I : InstAt s.heap x ox D od)
    (h : Q (some (.ref D)) { s with toks := s.toks + 1 }) : wpAny (model prog w) A (getAttr? (.ref x) "__class__") Q E s := by
  have hf : findObj K D od "__class__" = some (.bind (.builtin "getset_descriptor.__get__") (.builtin "object.__class__")) := by
    obtain ⟨cd, hc, _⟩ := any_some C.hd
    have ha := C.ha
    have hn := C.hn
    have ht := C.ht
    unfold findObj
    rw [hc, Option.bind_some, ha, Option.bind_some]
    simp [hn, ht]
  obtain ⟨hp, g, d, t, os⟩ := s
  have ty0 := I.type (M := model prog w)
  have ga := looks_findIn (M := model prog w) X C.hg
  have gt := looks_findIn (M := model prog w) X C.hk
  have fi := looks_find (M := model prog w) X I hf
  have sub : Looks (model prog w) hp (isInstance (.ref x) (.type "BaseException")) true := ty0.andThen (looks_subIn X C.hs)
  have n0 : (false && onTheHeap (Value.builtin "BaseException.__getattribute__")) = false := rfl
  have n2 : (Value.builtin "BaseException.__getattribute__" == Value.builtin "object.__getattribute__") = false := by decide +kernel
  have n1 : (onTheHeap (Value.ref D) && Value.builtin "BaseException.__getattribute__" == Value.builtin "object.__getattribute__") = false := by rw [n2]; rfl
  unfold getAttr? getAttrBy? getAttrBy
  refine wpAny_bind (wpAny_mkText (wpAny_bind (wpAny_attempt (wpAny_holding (wpAny_bind (ty0.at (wpAny_bind (ga.at ?_))))))))
  show wpAny _ _ (if (onTheHeap (Value.ref D) && Value.builtin "BaseException.__getattribute__" == Value.builtin "object.__getattribute__") = true then _ else _) _ _ _
  rw [n1, if_neg Bool.false_ne_true]
  unfold getAttrByItsOwn hookBefore
  refine wpAny_bind ?_
  rw [if_pos (show onTheHeap (Value.ref D) = true from rfl)]
  refine gt.at ?_
  refine wpAny_bind (wpAny_attempt (wpAny_holding ?_))
  unfold callGetattribute
  rw [n0, if_neg Bool.false_ne_true]
  unfold boundAndCalled
  rw [PySem.F.excAttr_ValueError.ga.bind (.ref x)]
  refine wpAny_bind (wpAny_pure ?_)
  show wpAny _ _ (call (.builtin "BaseException.__getattribute__") [.ref x, .str "__class__" t]) _ _ _
  refine wpAny_call (codeAny_call_builtin PySem.F.excAttr_ValueError.ga.plain PySem.F.entry_bexc_ga ?_)
  refine @check_slot (model prog w) _ _ ⟨hp, g, d, t + 1, os⟩ "BaseException.__getattribute__" "BaseException" "__getattribute__" (.ref x) [.str "__class__" t] [] _ (by decide +kernel) (by decide +kernel) sub (PySem.F.args_bexc_ga (.ref x) (.str "__class__" t)) ?_
  unfold Builtin.«object.__getattribute__»
  refine wpAny_bind (wpAny_of_eq (a := ((Value.ref x : Value), [Value.str "__class__" t])) (by first | rfl | (simp only [slotArgs]; rfl)) ?_)
  refine wpAny_bind (wpAny_pure (wpAny_bind (ty0.at (wpAny_bind (fi.at ?_)))))
  show wpAny _ _ (holding [Value.builtin "object.__class__"] (call (.builtin "getset_descriptor.__get__") [.builtin "object.__class__", .ref x, .ref D]) >>= ret) _ _ _
  refine wpAny_bind (wpAny_holding (wpAny_call (class_get (s := ⟨hp, g, d, t + 1, os⟩) (ox := ox) (od := od) X I C.hm ?_)))
  refine wpAny_pure ?_
  show wpAny _ _ (handedOut (.ref D)) _ _ _
  rw [handedOut_of (v := .ref D) rfl]
  first
    | exact wpAny_pure (wpAny_pure h)
    | exact wpAny_pure h
    | exact wpAny_pure (wpAny_bind (wpAny_pure (wpAny_pure h)))
open PySem.W in
theorem kitx_excD {K : Frag} {x D : Addr} {ox : Obj} {od : Option Obj} (C : ExcC K D) : KitX K (.ref x) (.ref D) (fun h => InstAt h x ox D od) where
  ty := fun _ _ _ I => I.type
  it := fun M h X _ => by
    obtain ⟨cd, hc, _⟩ := any_some C.hd
    unfold clsIn at hc
    split at hc
    · rename_i ho
      intro A' Q' E' s' k q
      unfold isType loadHead
      exact wpAny_bind (wpAny_loadPart (k _ _ (X _ _ ho)) (wpAny_pure q))
    · cases hc
  ne := fun h tp dd its n sl X htp => by
    refine Bool.eq_false_iff.mpr fun q => ?_
    obtain rfl : D = tp := Value.ref.inj (beq_iff_eq.mp q)
    obtain ⟨cd, hc, _⟩ := any_some C.hd
    unfold clsIn at hc
    split at hc
    · rename_i ho
      have z := (X _ _ ho).symm.trans htp
      cases z
    · cases hc
  ca := fun X I k => kin_classD C X I k
/-- isinstance(e, c), e an own error that keeps its fields in a dict -/
def rIsD (K : PySem.W.Frag) (D x dd : Addr) : List V → Hp → VK → Prop := fun xs H Q => ∃ (c : V) (cv : Value) (b : Bool) (fs : List (Str × V)), xs = [.ref x, c] ∧ (∀ u, RelV c u → u = cv) ∧ PySem.W.kitOne K (.ref D) cv = some b ∧ H dd = some (.xd fs) ∧ Q (.bl b) H
theorem inst_of {X : Cx} {pins : List (Addr × Obj)} {s : Shared} {σ : L2.St} {H : Hp} {x D dd : Addr} {oe : Obj} {fs : List (Str × V)} (I : Inv X pins σ H s) (hp : (x, oe) ∈ X.pn) (hz : Zc (.ref D) (some dd) oe) (hf : ∃ vs, oe.data = .fields vs) (ea : H dd = some (.xd fs)) :
    ∃ (od : Obj) (mA : Str → Option Value), PySem.W.InstAt s.heap x oe D (some od) ∧ (∀ n, PySem.W.lookIn n od = some (mA n)) ∧ ∀ n, RelO (fs.lookup n) (mA n) := by
  obtain ⟨ha, _⟩ := I.pin (x, oe) (List.mem_append_left _ hp)
  obtain ⟨vs, hd⟩ := hf
  obtain ⟨mA, hns, hr⟩ := (show ObjOk X.prog X.w H s.heap dd (.xd fs) from I.hok dd _ ea)
  obtain ⟨od, ho, hl⟩ := lookIn_ns hns
  exact ⟨od, mA, ⟨ha, hz.1, by unfold PySem.W.notCls; rw [hd] <;> rfl, by rw [hz.2]; exact ho⟩, hl, hr⟩
theorem call_isD {X : Cx} {x D dd : Addr} {oe : Obj} (C : ExcC X.K D) (hp : (x, oe) ∈ X.pn) (hz : Zc (.ref D) (some dd) oe) (hf : ∃ vs, oe.data = .fields vs) : CallR X (.builtin "isinstance") (rIsD X.K D x dd) := by
  intro pins s σ H xs us Q I r h
  obtain ⟨c, cv, b, fs, rfl, hcv, e, ea, q⟩ := h
  cases r with
  | cons rx rr =>
    cases rr with
    | cons rt rr =>
      cases rr
      cases rx
      obtain rfl := hcv _ rt
      obtain ⟨od, _, J, _⟩ := inst_of I hp hz hf ea
      exact PySem.W.kia_one (kitx_excD C) I.kIn J e (fun z => nomatch z) fun tk => ⟨.bl b, H, I.kept (t' := tk) fun _ _ z => z, rfl, q⟩
theorem pe_xfS {X : Cx} {x C : Addr} {oe : Obj} {cls : Value} {d : Option Addr} {e : Expr} {te : TE} {pos : Pos} {n : Str} (T : XfC X.K C) (hno : PySem.W.findIn X.K (.ref C) n = some none) (hp : (x, oe) ∈ X.pn)
    (hz : Zc cls d oe) (hf : ∃ vs, oe.data = .fields vs) (he : PE X e te) (hb : attributeBase e n X.env (eval e X.env) = eval e X.env := by rfl) : PE X (.Attribute e n pos) (tXf x cls d C n te) := by
  refine ⟨fun pins s σ H Q I h => ?_⟩
  refine attr_of hb (thn (he.run pins s σ H _ I h) fun u s1 hh => ?_)
  obtain ⟨y, H1, I1, ry, ey, ec, dd, fs, v, ed, ea, l, q⟩ := hh
  subst ey
  obtain rfl : u = Value.ref x := ry
  subst ec
  subst ed
  obtain ⟨od, mA, J, hl, hr⟩ := inst_of I1 hp hz hf ea
  obtain ⟨u, hu, ru⟩ := RelO.some_of (v := v) (o := mA n) (by rw [← l]; exact hr n)
  exact HandSPX.exc_get I1.kIn J T.ga T.gg T.exC (PySem.W.findObj_own T.hdC hno rfl (by rw [hl, hu])) (handed_of ru) ⟨v, H1, I1.tok _, ru, q⟩
def erS : Nat → Str
  | 0 => "WrongKind"
  | _ => "WrongSize"
/-- what the top says of the package's errors -/
structure Tx3 (K : PySem.W.Frag) (mg : Str → Option Value) (a : Ad) : Prop where
  vWrongKind : ∃ u, mg "WrongKind" = some u ∧ L2.RelV (.ref (a.er 0)) u
  vWrongSize : ∃ u, mg "WrongSize" = some u ∧ L2.RelV (.ref (a.er 1)) u
  vOutOfRange : ∃ u, mg "OutOfRange" = some u ∧ L2.RelV (.ref (a.er 2)) u
  vBadText : ∃ u, mg "BadText" = some u ∧ L2.RelV (.ref (a.er 3)) u
  vNotATable : ∃ u, mg "NotATable" = some u ∧ L2.RelV (.ref (a.er 4)) u
  vSpent : ∃ u, mg "Spent" = some u ∧ L2.RelV (.ref (a.er 5)) u
  vTooFewPlaces : ∃ u, mg "TooFewPlaces" = some u ∧ L2.RelV (.ref (a.er 6)) u
  vWrongPaper : ∃ u, mg "WrongPaper" = some u ∧ L2.RelV (.ref (a.er 7)) u
  vUnknownName : ∃ u, mg "UnknownName" = some u ∧ L2.RelV (.ref (a.er 8)) u
  vNameTaken : ∃ u, mg "NameTaken" = some u ∧ L2.RelV (.ref (a.er 9)) u
  vNothingToUndo : ∃ u, mg "NothingToUndo" = some u ∧ L2.RelV (.ref (a.er 10)) u
  vBookFull : ∃ u, mg "BookFull" = some u ∧ L2.RelV (.ref (a.er 11)) u
  gShade : mg "ShadeError" = some (.ref a.es)
  ex : ∀ j, j < 2 → ExcC K (a.er j)
  kit : ∀ j, j < 2 → ∀ i, i < 12 → PySem.W.kitOne K (.ref (a.er j)) (.ref (a.er i)) = some (decide (i = j))
  kitV : ∀ j, j < 2 → PySem.W.kitOne K (.ref (a.er j)) (.type "ValueError") = some true
  exm : ∀ j, j < 2 → PySem.W.exmOne K (.ref (a.er j)) (.ref a.es) = some true
  xf : ∀ j, j < 2 → XfC K (a.er j)
  noA : ∀ j, j < 2 → PySem.W.findIn K (.ref (a.er j)) "argument" = some none
/-! ### a def that is called while x is handled -/
structure FnS (P : Program) (w : World) (K : PySem.W.Frag) (mg : Str → Option Value) (base : Heap) (CX : CXT) (k : Nat) (f : Addr) (fd : FuncData) (ps : List Str) (sp : Addr → Value → Option Addr → Sp) : Prop where
  len : ∀ x c d vs H Q E, sp x c d vs H Q E → vs.length = ps.length
  run : ∀ (A : Around) (outer : List Env) (s : Shared) (H : Hp) (args : Args) (us : List Value) (vs : List V) (Q : VK) (E : XK) (x : Addr) (oe : Obj) (c : Value) (d : Option Addr), L2H.RoomH k A → L2H.PinOk outer H s (x, oe) → Zc c d oe → (∃ vs, oe.data = .fields vs) →
    Env0 P w K mg base A outer s H → BindsTo s fd args (ps.zip us) → Vals vs us → sp x c d vs H Q E → codeAny (model P w) A (.call (.ref f) args) (CR CX outer P w H s Q E) s
structure CalS (W : Wd) (CX : CXT) (k : Nat) (x : Str) (ps : List Str) (sp : Addr → Value → Option Addr → Sp) : Prop where
  ex : ∃ f fd, FnS W.P W.w W.K W.mg W.base CX k f fd ps sp ∧ W.mg x = some (.ref f) ∧ PySem.W.keepIn W.K (.ref f) = true ∧ L2.Binds W.K fd ps []
theorem cal_mkS {W : Wd} {CX : CXT} {k : Nat} {y name qual : Str} {st : Stmt} {N ps : List Str} {sp : Addr → Value → Option Addr → Sp} (D : DefAt W y name qual st) (S : FnScope N ps (defScope st)) (len : ∀ x c d vs H Q E, sp x c d vs H Q E → vs.length = ps.length)
    (bi : ∀ f fd, FnF W.K name qual st [] f fd → L2.Binds W.K fd ps [])
    (body : ∀ (f : Addr) (cdv : Value) (A : Around) (outer : List Env) (s : Shared) (H : Hp) (vs : List V) (Q : VK) (E : XK) (x : Addr) (oe : Obj) (c : Value) (d : Option Addr), Zc c d oe → (∃ vs, oe.data = .fields vs) → sp x c d vs H Q E →
      ∃ t, PSs (L2H.cxH CX W.P W.w W.K W.mg W.base N qual (defScope st) f cdv A outer s H E (x, oe)) (defBody st) t ∧ t { nx := fun _ H' => Q V.non H', rt := Q } (L2.start N vs) H) : CalS W CX (k + 1) y ps sp := by
  obtain ⟨f, fd, F, h⟩ := D.ex
  refine ⟨f, fd, ⟨len, fun A outer s H args us vs Q E x oe c d hr hpin hz hf e0 hb r hsp => ?_⟩, h, F.kp, bi f fd F⟩
  obtain ⟨oc, od, dV, kV, doc, pm, an, cdv, ct, osl, rfl, lk, hcd, _, _⟩ := F.ex
  have hl := len _ _ _ _ _ _ _ hsp
  have KX : W.K.In s.heap := e0.mod.kin.keeps fun b o e => (e0.bs b o e).1
  have lim : s.heap.NoLimit := e0.mod.nolimit.keeps fun b o e => (e0.bs b o e).1
  refine codeAny_call_function hr.depth (KX _ _ lk) rfl S.co S.gen rfl (PySem.W.codeRec_of KX hcd) (hb _ _ _ _ ?_)
  refine wpAny_newFunctionEnv_cells S.kind (fun ⟨n, v⟩ hy => (S.par n (List.of_mem_zip hy).1).imp id fun q => ⟨q, PySem.W.cellsFrom_some _ _ _ (.inl q)⟩) fun env he s1 xx => ?_
  subst he
  refine ⟨lim.keeps xx.toInCall.keep, codeAny_func ?_⟩
  obtain ⟨t, ht, hq⟩ := body f cdv A outer s H vs Q E x oe c d hz hf hsp
  have I : Inv (L2H.cxH CX W.P W.w W.K W.mg W.base N qual (defScope st) f cdv A outer s H E (x, oe)) [] (L2.start N vs) H s1 := L2H.inv_startH S hpin e0 hl r xx
  refine wpAny_mono (ht.run [] s1 (L2.start N vs) H _ I hq) (fun fl s' hs => ?_) fun e s' hs => hs
  cases fl with
  | ret u =>
    obtain ⟨v, σ', H', J, rv, q⟩ := hs
    exact ⟨v, H', J.os, J.bare, J.base, J.hok, rv, q⟩
  | next =>
    obtain ⟨σ', H', J, q⟩ := hs
    exact ⟨V.non, H', J.os, J.bare, J.base, J.hok, rfl, q⟩
  | brk =>
    obtain ⟨_, _, _, q⟩ := hs
    exact False.elim q
  | cont =>
    obtain ⟨_, _, _, q⟩ := hs
    exact False.elim q
theorem pe_calSu {X : Cx} {a : Addr} {oe : Obj} {cls : Value} {d : Option Addr} {pn : List (Addr × Obj)} {k n : Nat} {y : Str} {ps : List Str} {sp : Addr → Value → Option Addr → Sp} {e : Expr} {es : List Expr} {p pos : Pos} {t : TA} (c : CalS (wd X) CX0 k y ps sp) (hr : Room n X.A) (hk : k ≤ n) (hz : Zc cls d oe) (hf : ∃ vs, oe.data = .fields vs)
    (hg : Gl X y) (ha : PA (X.suite a ((a, oe) :: pn)) (e :: es) t) (hdb : (y == ("__debug__" : Str)) = false := by decide)
    (he : starEach (e :: es) X.env = (false, eval e X.env) :: starEach es X.env := by rfl) (hpl : (backTo pos (starEach es X.env)).any (·.1) = false := by rfl) :
    PE (X.suite a ((a, oe) :: pn)) (.Call (.Name y p) (e :: es) [] pos) (tCall (sp a cls d) [] E0 t) := by
  obtain ⟨f, fd, F, hm, hkp, hb⟩ := c.ex
  refine ⟨fun pins s σ H Q I h => ?_⟩
  refine wpAny_Call_Name_kw (ld_glob I hg hm ?_ hdb)
  refine PySem.W.callWith_K (h₀ := X.base) I.ok.mod.kin hkp (thn (ha.run pos pins s σ H _ I h) fun us s1 ⟨vs, H1, I1, r, q⟩ => ⟨I1.kIn, ?_⟩) he hpl
  have q : sp a cls d (vs ++ []) H1 Q E0 := q
  rw [List.append_nil] at q
  have hl : us.length = ps.length := by rw [← r.length]; exact F.len _ _ _ _ _ _ _ q
  have b := hb s1 us I1.kIn (by rw [List.append_nil]; exact hl)
  rw [List.append_nil] at b
  have P1 := I1.pin (a, oe) (List.mem_append_left _ List.mem_cons_self)
  have hpin : L2H.PinOk X.stack H1 s1 (a, oe) := ⟨P1.1, P1.2.1, fun hm => (List.mem_cons.mp (I1.stkSub a hm)).elim P1.2.2.1 P1.2.2.2.1, P1.2.2.2.2⟩
  have hr' : L2H.RoomH k (X.suite a ((a, oe) :: pn)).A := ⟨(hr.mono hk).dp, (hr.mono hk).un⟩
  refine wpAny_call (codeAny_mono (F.run _ X.stack s1 H1 ⟨us, []⟩ us vs Q E0 a oe cls d hr' hpin hz hf I1.env0 b r q) fun r s' hq => ?_)
  cases r with
  | error e => exact hq.elim
  | ok fl =>
    cases fl with
    | ret u => exact I1.after hq
    | next => exact False.elim hq
    | brk => exact False.elim hq
    | cont => exact False.elim hq
end Bs
set_option Elab.async false
set_option linter.all false
set_option maxRecDepth 100000
set_option maxHeartbeats 2000000
namespace Bs
open PySem PySem.Spec PyProof.Rows L2
/-! E1: what the head looks at behind the top: the facts, by names. -/
/-- an own error class over an own class over ValueError -/
def ecB (K : PySem.W.Frag) (nm : Str) : Bool := match K.lookup (He.ga K nm) with
  | some ⟨.type "type", _, .cls cd, sl⟩ => (match cd.mro, sl.toList with
    | .ref C' :: bm, [_, _, _, _, some (.builtin n), _] => decide (C' = He.ga K nm) && (decide (n = "ValueError.__new__") && (!cd.hasDel && (cd.hasDict && PySem.HandSPX.refsVE bm)))
    | _, _ => false)
  | _ => false
theorem ecB_ok {K : PySem.W.Frag} {nm : Str} (h : ecB K nm = true) :
    ∃ n q N bs bm sn sub ab col dd k0 k1 k2 k3 k5, K.lookup (He.ga K nm) = some (excClassObj n q (He.ga K nm) N bs bm true sn sub ab col dd k0 k1 k2 k3 k5 "ValueError.__new__") ∧ PySem.HandSPX.refsVE bm = true := by
  unfold ecB at h
  split at h
  · rename_i dd cd sl ho
    split at h
    · rename_i C' bm k0 k1 k2 k3 n k5 hm hs
      simp only [Bool.and_eq_true, decide_eq_true_eq, Bool.not_eq_true'] at h
      obtain ⟨h1, h2, h3, h4, h5⟩ := h
      obtain ⟨c1, c2, c3, c4, c5, c6, c7, c8, c9, c10, c11⟩ := cd
      simp only at hm h3 h4
      subst hm h3 h4 h2
      obtain ⟨sl⟩ := sl
      simp only at hs
      subst hs
      subst h1
      exact ⟨c1, c5, c4, c2, bm, c7, c8, c9, c10, dd, k0, k1, k2, k3, k5, ho, h5⟩
    · cases h
  · cases h
/-- the text of an own __init__ -/
abbrev InV : Type := Option (Str × Arguments × FuncBody × Scope × Addr × List Str × Value × Value × Addr)
def inO (K : PySem.W.Frag) (nm : Str) : InV := match K.lookup (He.ma K (He.ga K nm) "__init__") with
  | some ⟨_, _, .func fd, _⟩ => some (fd.name, fd.params, fd.body, fd.scope, fd.globals, fd.closure.map (·.1), fd.defaults, fd.kwdefaults, fd.builtins)
  | _ => none
def inVal (kd : Bool) : InV := some ("__init__", BsX.iA (BsX.pp kd), .stmts (BsX.iB (BsX.pp kd) (BsX.zz kd)), BsX.iS, mainGlobals, ["__class__"], .none, .none, builtinsNs)
/-- .. its code, its cell -/
def inC (K : PySem.W.Frag) (file : Str) (nm : Str) : Bool := match K.lookup (He.ma K (He.ga K nm) "__init__") with
  | some ⟨_, _, .func fd, _⟩ => PySem.W.codeIn K fd.code fd.qualname && ((match fd.code with
    | .ref cda => (match K.lookup cda with
      | some ⟨_, _, .fields vs, _⟩ => (match (vs[2]? : Option Value) with
        | some (Value.str f _) => decide (f = file)
        | _ => false)
      | _ => false)
    | _ => false) && (match fd.closure with
    | [(_, cc)] => (match K.lookup cc with
      | some ⟨_, _, .cell (some (.ref C)), _⟩ => decide (C = He.ga K nm)
      | _ => false)
    | _ => false))
  | _ => false
def inB (K : PySem.W.Frag) (file : Str) (nm : Str) : Bool := He.eqO (PySem.W.findIn K (.ref (He.ga K nm)) "__init__") (some (some (.ref (He.ma K (He.ga K nm) "__init__")))) && (decide (PySem.W.typeIn K (.ref (He.ma K (He.ga K nm) "__init__")) = some (.type "function")) && inC K file nm)
theorem inC_ok {K : PySem.W.Frag} {file nm : Str} {kd : Bool} (e : inO K nm = inVal kd) (c : inC K file nm = true) :
    ∃ (cc cda : Addr) (qual : Str) (oc : Value) (od : Option Addr) (doc pm : Value) (an : Option Addr) (ct : Value) (osl : Array (Option Value)) (ccl cl : Value) (cdd cld : Option Addr) (ccs csl : Array (Option Value)) (vs : Array Value) (tf : Tok),
      K.lookup (He.ma K (He.ga K nm) "__init__") = some ⟨oc, od, .func (PySem.W.ksFn "__init__" qual (BsX.iA (BsX.pp kd)) (BsX.iB (BsX.pp kd) (BsX.zz kd)) BsX.iS .none .none doc pm an (.ref cda) ct cc), osl⟩ ∧ PySem.W.codeIn K (.ref cda) qual = true ∧
      K.lookup cda = some ⟨ccl, cdd, .fields vs, ccs⟩ ∧ vs[2]? = some (.str file tf) ∧ K.lookup cc = some ⟨cl, cld, .cell (some (.ref (He.ga K nm))), csl⟩ := by
  unfold inO at e
  unfold inC at c
  cases q : K.lookup (He.ma K (He.ga K nm) "__init__") with
  | none => rw [q] at c; cases c
  | some o =>
    obtain ⟨oc, od, dt, osl⟩ := o
    rw [q] at c e
    cases dt with
    | func fd =>
      obtain ⟨n1, n2, n3, n4, n5, n6, n7, n8, n9, n10, n11, n12, n13, n14, n15⟩ := fd
      have e2 : (some (n1, n3, n4, n5, n6, n7.map (·.1), n8, n9, n15) : InV) = (some ("__init__", BsX.iA (BsX.pp kd), .stmts (BsX.iB (BsX.pp kd) (BsX.zz kd)), BsX.iS, mainGlobals, ["__class__"], .none, .none, builtinsNs) : InV) := e
      simp only [Option.some.injEq, Prod.mk.injEq] at e2
      obtain ⟨h1, h3, h4, h5, h6, h7, h8, h9, h15⟩ := e2
      subst h1 h3 h4 h5 h6 h8 h9 h15
      obtain ⟨c1, c2⟩ := He.ba c
      obtain ⟨c3, c4⟩ := He.ba c2
      cases n13 with
      | ref cda =>
        match n7, h7, c4 with
        | [(x, cc)], h7, c4 =>
          obtain rfl : x = "__class__" := by simpa using h7
          cases q2 : K.lookup cda with
          | none =>
            have c3 : (match K.lookup cda with
              | some ⟨_, _, .fields vs, _⟩ => (match (vs[2]? : Option Value) with
                | some (Value.str f _) => decide (f = file)
                | _ => false)
              | _ => false) = true := c3
            rw [q2] at c3; cases c3
          | some o2 =>
            obtain ⟨ccl, cdd, d2, ccs⟩ := o2
            have c3 : (match K.lookup cda with
              | some ⟨_, _, .fields vs, _⟩ => (match (vs[2]? : Option Value) with
                | some (Value.str f _) => decide (f = file)
                | _ => false)
              | _ => false) = true := c3
            rw [q2] at c3
            cases d2 with
            | fields vs =>
              have c5 : (match (vs[2]? : Option Value) with
                | some (Value.str f _) => decide (f = file)
                | _ => false) = true := c3
              have c4 : (match K.lookup cc with
                | some ⟨_, _, .cell (some (.ref C)), _⟩ => decide (C = He.ga K nm)
                | _ => false) = true := c4
              split at c5
              · rename_i f tf hf
                obtain rfl := of_decide_eq_true c5
                split at c4
                · rename_i cl cld C csl hcc
                  obtain rfl := of_decide_eq_true c4
                  exact ⟨cc, cda, n2, oc, od, n10, n11, n12, n14, osl, ccl, cl, cdd, cld, ccs, csl, vs, tf, rfl, c1, q2, hf, hcc⟩
                · cases c4
              · cases c5
            | _ => cases c3
      | _ => cases c3
    | _ => cases c
end Bs
set_option Elab.async false
set_option linter.all false
set_option maxRecDepth 100000
set_option maxHeartbeats 2000000
namespace Bs
open PySem PySem.Spec PyProof.Rows L2
/-! E2: the head's Hook. -/
def prA (K : PySem.W.Frag) (x : Str) : Addr := He.ma K (He.ga K "Table") x
def prG (K : PySem.W.Frag) (x : Str) : Addr := match PySem.W.recIn K (prA K x) "property" with
  | some (.ref g :: _) => g
  | _ => 0
/-- one def: where it stands, its names, its text, its defaults -/
structure DefA where
  ad : PySem.W.Frag → Addr
  name : Str
  qual : Str
  st : Stmt
  dfl : List V
def fnA (K : PySem.W.Frag) (f : Addr) : He.FnW := match K.lookup f with
  | some ⟨_, _, .func fd, _⟩ => some (fd.name, fd.qualname, fd.params, fd.body, fd.scope, fd.globals, fd.closure, fd.builtins)
  | _ => none
def DefA.val (d : DefA) : He.FnW := some (d.name, d.qual, defArgs d.st, .stmts (defBody d.st), defScope d.st, mainGlobals, [], builtinsNs)
def DefA.ok (K : PySem.W.Frag) (d : DefA) : Bool := PySem.W.keepIn K (.ref (d.ad K)) && (match K.lookup (d.ad K) with
  | some ⟨_, _, .func fd, _⟩ => PySem.W.codeIn K fd.code d.qual && He.dflB K fd.defaults d.dfl
  | _ => false)
theorem DefA.fn {K : PySem.W.Frag} {d : DefA} (e : fnA K (d.ad K) = d.val) (c : d.ok K = true) : ∃ fd, FnF K d.name d.qual d.st d.dfl (d.ad K) fd := by
  obtain ⟨kp, c2⟩ := He.ba c
  unfold fnA at e
  cases q : K.lookup (d.ad K) with
  | none => rw [q] at c2; cases c2
  | some o =>
    obtain ⟨oc, od, dt, osl⟩ := o
    rw [q] at c2 e
    cases dt with
    | func fd =>
      obtain ⟨n1, n2, n3, n4, n5, n6, n7, n8, n9, n10, n11, n12, n13, n14, n15⟩ := fd
      have e2 : (some (n1, n2, n3, n4, n5, n6, n7, n15) : He.FnW) = some (d.name, d.qual, defArgs d.st, .stmts (defBody d.st), defScope d.st, mainGlobals, [], builtinsNs) := e
      simp only [Option.some.injEq, Prod.mk.injEq] at e2
      obtain ⟨h1, h2, h3, h4, h5, h6, h7, h8⟩ := e2
      subst h1 h2 h3 h4 h5 h6 h7 h8
      obtain ⟨k1, k2⟩ := He.ba (show (PySem.W.codeIn K n13 d.qual && He.dflB K n8 d.dfl) = true from c2)
      exact ⟨_, ⟨oc, od, n8, n9, n10, n11, n12, n13, n14, osl, rfl, q, k1, He.dflB_ok k2, .inl rfl⟩, kp⟩
    | _ => cases c2
def dfs0 : List DefA := [⟨fun K => He.ga K "check_integer_ratios", "check_integer", "check_integer", top 16, []⟩,
  ⟨fun K => He.ga K "check_between_ratios", "check_between", "check_between", top 18, []⟩,
  ⟨fun K => He.ga K "check_width_words", "check_width", "check_width", top 22, []⟩,
  ⟨fun K => He.ga K "word_count", "word_count", "word_count", top 24, []⟩,
  ⟨fun K => He.ga K "all_words", "all_words", "all_words", top 25, []⟩,
  ⟨fun K => He.ga K "check_integer_tables", "check_integer", "check_integer", top 27, []⟩,
  ⟨fun K => He.ga K "check_between_tables", "check_between", "check_between", top 29, []⟩,
  ⟨fun K => He.ga K "check_width_tables", "check_width", "check_width", top 31, []⟩,
  ⟨fun K => He.ga K "check_word", "check_word", "check_word", top 33, []⟩,
  ⟨fun K => He.ga K "check_place", "check_place", "check_place", top 34, []⟩,
  ⟨fun K => He.ga K "check_row", "check_row", "check_row", top 35, []⟩,
  ⟨fun K => He.ga K "check_bits", "check_bits", "check_bits", top 36, []⟩,
  ⟨fun K => He.ma K (He.ga K "Table") "__init__", "__init__", "Table.__init__", inClass (top 37) 0, []⟩,
  ⟨fun K => prG K "width", "width", "Table.width", inClass (top 37) 3, []⟩,
  ⟨fun K => prG K "bits", "bits", "Table.bits", inClass (top 37) 4, []⟩,
  ⟨fun K => prG K "ones", "ones", "Table.ones", inClass (top 37) 5, []⟩]
def dfs1 : List DefA := [⟨fun K => He.ma K (He.ga K "Table") "__getitem__", "__getitem__", "Table.__getitem__", inClass (top 37) 10, []⟩,
  ⟨fun K => He.ma K (He.ga K "Table") "__eq__", "__eq__", "Table.__eq__", inClass (top 37) 12, []⟩,
  ⟨fun K => He.ga K "plain_integer", "plain_integer", "plain_integer", top 39, []⟩,
  ⟨fun K => He.ga K "check_table", "check_table", "check_table", top 40, []⟩,
  ⟨fun K => He.ga K "place_table", "place_table", "place_table", top 42, [.int 0]⟩,
  ⟨fun K => He.ga K "need_table", "need_table", "need_table", top 45, [.int 6]⟩,
  ⟨fun K => He.ga K "own_pairs", "own_pairs", "own_pairs", top 47, []⟩,
  ⟨fun K => He.ga K "own_place", "own_place", "own_place", top 48, []⟩,
  ⟨fun K => He.ga K "check_three", "check_three", "check_three", top 56, []⟩,
  ⟨fun K => He.ga K "words_of_ballot", "words_of_ballot", "words_of_ballot", top 57, []⟩,
  ⟨fun K => He.ga K "order_with_bits", "order_with_bits", "order_with_bits", top 58, []⟩,
  ⟨fun K => He.ga K "ballot_with_words", "ballot_with_words", "ballot_with_words", top 59, []⟩,
  ⟨fun K => He.ga K "outcome_of", "outcome_of", "outcome_of", top 60, []⟩,
  ⟨fun K => He.ga K "ballots_of", "ballots_of", "ballots_of", top 61, []⟩,
  ⟨fun K => He.ga K "first_ring", "first_ring", "first_ring", top 62, []⟩,
  ⟨fun K => He.ga K "constant_bit", "constant_bit", "constant_bit", top 63, []⟩]
def dfs2 : List DefA := [⟨fun K => He.ga K "unlike_pair", "unlike_pair", "unlike_pair", top 64, []⟩,
  ⟨fun K => He.ga K "owned_by", "owned_by", "owned_by", top 65, []⟩,
  ⟨fun K => He.ga K "words_with", "words_with", "words_with", top 66, []⟩,
  ⟨fun K => He.ga K "ring_words", "ring_words", "ring_words", top 67, []⟩,
  ⟨fun K => He.ga K "ring_paper", "ring_paper", "ring_paper", top 68, []⟩,
  ⟨fun K => He.ga K "ringing", "ringing", "ringing", top 69, []⟩,
  ⟨fun K => He.ga K "is_ring_paper", "is_ring_paper", "is_ring_paper", top 70, []⟩,
  ⟨fun K => He.ga K "_law_mixed", "_law_mixed", "_law_mixed", top 72, []⟩,
  ⟨fun K => He.ga K "_law_wide", "_law_wide", "_law_wide", top 73, []⟩,
  ⟨fun K => He.ga K "_law_store", "_law_store", "_law_store", top 74, []⟩,
  ⟨fun K => He.ga K "_law_take", "_law_take", "_law_take", top 75, []⟩,
  ⟨fun K => He.ga K "_law_near", "_law_near", "_law_near", top 76, []⟩,
  ⟨fun K => He.ga K "_law_pick", "_law_pick", "_law_pick", top 77, []⟩,
  ⟨fun K => He.ga K "_law_is_integer", "_law_is_integer", "_law_is_integer", top 78, []⟩,
  ⟨fun K => He.ga K "_law_same", "_law_same", "_law_same", top 79, []⟩,
  ⟨fun K => He.ga K "_law_copy", "_law_copy", "_law_copy", top 80, []⟩]
def dfs3 : List DefA := [⟨fun K => He.ga K "_law_spoil", "_law_spoil", "_law_spoil", top 81, []⟩,
  ⟨fun K => He.ga K "_law_is_table", "_law_is_table", "_law_is_table", top 82, []⟩,
  ⟨fun K => He.ga K "_law_first_fault", "_law_first_fault", "_law_first_fault", top 83, []⟩,
  ⟨fun K => He.ga K "_law_bend", "_law_bend", "_law_bend", top 84, []⟩,
  ⟨fun K => He.ga K "_law_bend_row", "_law_bend_row", "_law_bend_row", top 85, []⟩,
  ⟨fun K => He.ga K "_law_bend_plain", "_law_bend_plain", "_law_bend_plain", top 86, []⟩,
  ⟨fun K => He.ga K "_law_odd", "_law_odd", "_law_odd", top 87, []⟩,
  ⟨fun K => He.ga K "_law_orders", "_law_orders", "_law_orders", top 88, []⟩,
  ⟨fun K => He.ga K "_law_order_bits", "_law_order_bits", "_law_order_bits", top 89, []⟩,
  ⟨fun K => He.ga K "_law_order_of", "_law_order_of", "_law_order_of", top 90, []⟩,
  ⟨fun K => He.ga K "_law_result_of", "_law_result_of", "_law_result_of", top 91, []⟩,
  ⟨fun K => He.ga K "_law_ring_right", "_law_ring_right", "_law_ring_right", top 92, []⟩,
  ⟨fun K => He.ga K "_law_ring_paper", "_law_ring_paper", "_law_ring_paper", top 93, []⟩,
  ⟨fun K => He.ga K "_law_fault_of", "_law_fault_of", "_law_fault_of", top 94, []⟩,
  ⟨fun K => He.ga K "_law_called", "_law_called", "_law_called", top 95, []⟩,
  ⟨fun K => He.ga K "_law_ask", "_law_ask", "_law_ask", top 96, []⟩]
def dfs4 : List DefA := [⟨fun K => He.ga K "_law_no_ring", "_law_no_ring", "_law_no_ring", top 97, []⟩,
  ⟨fun K => He.ga K "_law_judged", "_law_judged", "_law_judged", top 98, []⟩,
  ⟨fun K => He.ga K "_law_other_papers", "_law_other_papers", "_law_other_papers", top 99, []⟩,
  ⟨fun K => He.ga K "_law_some_three", "_law_some_three", "_law_some_three", top 100, []⟩,
  ⟨fun K => He.ga K "_law_good", "_law_good", "_law_good", top 101, []⟩,
  ⟨fun K => He.ga K "_law_bad", "_law_bad", "_law_bad", top 102, []⟩,
  ⟨fun K => He.ga K "law", "law", "law", top 103, []⟩]
def dfs : List DefA := dfs0 ++ dfs1 ++ dfs2 ++ dfs3 ++ dfs4
def frees : List Str := ["len", "isinstance", "int", "list", "tuple", "sum", "all", "max", "min", "abs", "range", "enumerate", "str", "bool", "ValueError", "super"]
def glos0 : List Str := ["check_integer_ratios", "check_between_ratios", "check_width_words", "word_count", "all_words", "check_integer_tables", "check_between_tables", "check_width_tables", "check_word", "check_place", "check_row", "check_bits", "plain_integer", "check_table", "place_table", "need_table"]
def glos1 : List Str := ["own_pairs", "own_place", "check_three", "words_of_ballot", "order_with_bits", "ballot_with_words", "outcome_of", "ballots_of", "first_ring", "constant_bit", "unlike_pair", "owned_by", "words_with", "ring_words", "ring_paper", "ringing"]
def glos2 : List Str := ["is_ring_paper", "_law_mixed", "_law_wide", "_law_store", "_law_take", "_law_near", "_law_pick", "_law_is_integer", "_law_same", "_law_copy", "_law_spoil", "_law_is_table", "_law_first_fault", "_law_bend", "_law_bend_row", "_law_bend_plain"]
def glos3 : List Str := ["_law_odd", "_law_orders", "_law_order_bits", "_law_order_of", "_law_result_of", "_law_ring_right", "_law_ring_paper", "_law_fault_of", "_law_called", "_law_ask", "_law_no_ring", "_law_judged", "_law_other_papers", "_law_some_three", "_law_good", "_law_bad"]
def glos4 : List Str := ["law", "Table", "ShadeError", "ORDERS", "PAIRS", "BITS_OF_ORDER", "ORDER_OF_BITS", "WrongKind", "WrongSize", "OutOfRange", "BadText", "NotATable", "Spent", "TooFewPlaces", "WrongPaper", "UnknownName"]
def glos5 : List Str := ["NameTaken", "NothingToUndo", "BookFull"]
def glos : List Str := glos0 ++ glos1 ++ glos2 ++ glos3 ++ glos4 ++ glos5

/-- a tuple at a -/
def tupAB (K : PySem.W.Frag) (a : Addr) (vs : List V) : Bool := match K.lookup a with
  | some ⟨.type c, _, .seq its _, _⟩ => decide (c = "tuple") && (decide (its.size ≤ sizeLine) && He.relAll vs its.toList)
  | _ => false
theorem tupAB_ok {K : PySem.W.Frag} {a : Addr} {vs : List V} (h : tupAB K a vs = true) : (∃ o its n, K.lookup a = some o ∧ o.cls = .type "tuple" ∧ o.data = .seq its n ∧ its.size ≤ sizeLine ∧ Vals vs its.toList) := by
  unfold tupAB at h
  cases q : K.lookup a with
  | none => rw [q] at h; cases h
  | some o =>
    obtain ⟨oc, od, dt, osl⟩ := o
    rw [q] at h
    cases oc with
    | type c =>
      cases dt with
      | seq its n =>
        obtain ⟨h1, h2⟩ := He.ba (show (decide (c = "tuple") && (decide (its.size ≤ sizeLine) && He.relAll vs its.toList)) = true from h)
        obtain ⟨h3, h4⟩ := He.ba h2
        exact ⟨_, its, n, rfl, congrArg Value.type (of_decide_eq_true h1), rfl, of_decide_eq_true h3, He.relAll_ok h4⟩
      | _ => cases h
    | _ => cases dt <;> cases h
theorem tupAB_sq {K : PySem.W.Frag} {a : Addr} {vs : List V} (h : tupAB K a vs = true) (H : Hp) : SqT K H a vs := by
  obtain ⟨o, its, n, q, h1, h2, h3, h4⟩ := tupAB_ok h
  exact .inr ⟨_, its, n, q, h1, h2, h3, h4⟩
/-- the i-th item of the tuple at a -/
def itA (K : PySem.W.Frag) (a : Addr) (i : Nat) : Addr := match K.lookup a with
  | some ⟨_, _, .seq its _, _⟩ => (match its.toList[i]? with
    | some (.ref b) => b
    | _ => 0)
  | _ => 0
/-- a dict's value, by a text key -/
def valA (K : PySem.W.Frag) (a : Addr) (x : Str) : Addr := match PySem.W.nsIn K a x with
  | some (some (.ref b)) => b
  | _ => 0
/-- the dict whose keys are tuples -/
def hB (o : Str) : Int := reduceHash (Builtin.Tuple.tupleHashOf ((bitsOf o).map hashInt))
def entB (K : PySem.W.Frag) : List DictEntry → List Str → Bool
  | [], [] => true
  | e :: es, o :: os => (match e.key with
    | .ref t => tupAB K t ((bitsOf o).map V.int)
    | _ => false) && (decide (e.hash = hB o) && (He.relB (.str o) e.val && entB K es os))
  | _, _ => false
def oobB (K : PySem.W.Frag) (d : Addr) : Bool := match K.lookup d with
  | some ⟨.type c, none, .dict es _, sl⟩ => decide (c = "dict") && (sl.isEmpty && (!(d == sysModules) && entB K es.toList orders))
  | _ => false
theorem items_ints {prog : Program} {w : World} : ∀ {is : List Int} {us : List Value}, Vals (is.map V.int) us → PySem.ItemsAre (mixKind prog w) (is.map Sum.inl) us
  | [], _, h => by cases h; exact .nil
  | i :: is, _, h => by
    cases h with
    | cons r t =>
      obtain ⟨tk, rfl⟩ := r
      exact .cons (keyIs_int i tk) (items_ints t)
theorem hB_eq (prog : Program) (w : World) (o : Str) : (tupleKind (mixKind prog w)).hash ((bitsOf o).map Sum.inl) = hB o := by
  show reduceHash (Builtin.Tuple.tupleHashOf (((bitsOf o).map Sum.inl).map (keyH w))) = _
  rw [List.map_map]
  rfl
theorem entB_ok {K : PySem.W.Frag} (prog : Program) (w : World) : ∀ {es : List DictEntry} {os : List Str}, entB K es os = true → ∃ xs : List (List Key × Addr × Value), es = xs.map (entryOfKey (tupleKind (mixKind prog w))) ∧
    (∀ x ∈ xs, ∃ o items n, List.lookup x.2.1 K = some o ∧ o.cls = .type "tuple" ∧ o.data = .seq items n ∧ PySem.ItemsAre (mixKind prog w) x.1 items.toList) ∧ xs.map (·.1) = os.map (fun o => (bitsOf o).map Sum.inl) ∧
    Paired (fun p q => p.1 = q.1 ∧ L2.RelV p.2 q.2.2) (os.map fun o => ((bitsOf o).map Sum.inl, V.str o)) xs
  | [], [], _ => ⟨[], rfl, (by intro x hx; cases hx), rfl, Paired.nil⟩
  | [], _ :: _, h => by cases h
  | _ :: _, [], h => by cases h
  | ⟨hs, key, val⟩ :: es, o :: os, h => by
    obtain ⟨h1, h⟩ := He.ba h
    obtain ⟨h2, h⟩ := He.ba h
    obtain ⟨h3, h4⟩ := He.ba h
    cases key with
    | ref t =>
      obtain ⟨xs, e1, e2, e3, e4⟩ := entB_ok prog w h4
      obtain ⟨ob, its, n, q1, q2, q3, _, q4⟩ := tupAB_ok h1
      refine ⟨((bitsOf o).map Sum.inl, t, val) :: xs, ?_, fun x hx => ?_, by rw [List.map_cons, List.map_cons, e3], .cons ⟨rfl, He.relB_ok h3⟩ e4⟩
      · rw [List.map_cons, ← e1]
        have : hs = hB o := of_decide_eq_true h2
        rw [this, ← hB_eq prog w o]
        rfl
      · rcases List.mem_cons.mp hx with e | hx
        · rw [e]
          exact ⟨ob, its, n, q1, q2, q3, items_ints q4⟩
        · exact e2 x hx
    | _ => cases h1
theorem keys_nodup : (orders.map (fun o => ((bitsOf o).map Sum.inl : List Key))).Nodup := by decide +kernel
theorem oobB_ok {K : PySem.W.Frag} (prog : Program) (w : World) {d : Addr} (h : oobB K d = true) : KTab K prog w d kvsO := by
  unfold oobB at h
  cases q : K.lookup d with
  | none => rw [q] at h; cases h
  | some o =>
    obtain ⟨oc, od, dt, osl⟩ := o
    rw [q] at h
    cases oc with
    | type c =>
      cases od with
      | none =>
        cases dt with
        | dict es n =>
          obtain ⟨h1, h2⟩ := He.ba (show (decide (c = "dict") && (osl.isEmpty && (!(d == sysModules) && entB K es.toList orders))) = true from h)
          obtain ⟨h3, h4⟩ := He.ba h2
          obtain ⟨h5, h6⟩ := He.ba h4
          obtain rfl : c = "dict" := of_decide_eq_true h1
          obtain rfl : osl = #[] := Array.isEmpty_iff.mp h3
          obtain ⟨xs, e1, e2, e3, e4⟩ := entB_ok prog w h6
          exact ⟨⟨xs, ⟨es, n, q, e1⟩, e2, by rw [e3]; exact keys_nodup, e4⟩, by simpa using h5⟩
        | _ => cases h
      | some b => cases dt <;> cases h
    | _ => cases od <;> cases dt <;> cases h
/-! the facts -/
def erA (K : PySem.W.Frag) (i : Nat) : Addr := He.ga K (kNames.getD i "")
def adOf (K : PySem.W.Frag) : Ad := ⟨He.ga K "Table", He.ga K "ORDERS", He.ga K "PAIRS", He.ga K "BITS_OF_ORDER", He.ga K "ORDER_OF_BITS", He.ga K "ShadeError", erA K, valA K (He.ga K "BITS_OF_ORDER"), itA K (He.ga K "PAIRS")⟩
def prB (K : PySem.W.Frag) (x : Str) : Bool := He.eqO (PySem.W.findIn K (.ref (He.ga K "Table")) x) (some (some (.ref (prA K x)))) && (He.eqO (PySem.W.specialIn K (.ref (prA K x)) "__get__") (some (some (.builtin "property.__get__"))) && (decide (PySem.W.takesIn K (.ref (prA K x)) = some true) &&
  (match PySem.W.recIn K (prA K x) "property" with
  | some (.ref g :: _) => decide (g = prG K x)
  | _ => false)))
def owB (K : PySem.W.Frag) (x : Str) : Bool := He.eqO (PySem.W.findIn K (.ref (He.ga K "Table")) x) (some (some (.ref (prA K x)))) && (PySem.W.isFn K (.ref (prA K x)) && PySem.W.fnIn K (prA K x))
def exB (K : PySem.W.Frag) (C : Addr) : Bool := He.eqO (PySem.W.findIn K (.ref C) "__getattribute__") (some (some (.builtin "BaseException.__getattribute__"))) && (He.eqO (PySem.W.findIn K (.ref C) "__getattr__") (some none) && (decide (PySem.W.subIn K (.ref C) (.type "BaseException") = some true) &&
  (PySem.W.hasDictIn K C && (He.eqO (PySem.W.findIn K (.ref C) "__class__") (some (some (.builtin "object.__class__"))) && decide (PySem.W.mroIn K C (.type "object") = some true)))))
def kiB (K : PySem.W.Frag) (j : Nat) : Bool := (List.range 12).all fun i => decide (PySem.W.kitOne K (.ref (erA K j)) (.ref (erA K i)) = some (decide (i = j)))
def txB (K : PySem.W.Frag) (j : Nat) : Bool := decide (PySem.W.kitOne K (.ref (erA K j)) (.type "ValueError") = some true) && (decide (PySem.W.exmOne K (.ref (erA K j)) (.ref (He.ga K "ShadeError")) = some true) && He.eqO (PySem.W.findIn K (.ref (erA K j)) "argument") (some none))
def exM (K : PySem.W.Frag) (C : Addr) : Bool := He.eqO (PySem.W.findIn K (.ref C) "__setattr__") (some (some (.builtin "object.__setattr__"))) && (PySem.W.keepIn K (.ref C) && (decide (PySem.W.subIn K (.ref C) (.type "ValueError") = some true) && (decide (PySem.W.typeIn K (.ref C) = some (.type "type")) &&
  (decide (PySem.W.mroIn K C (.ref C) = some true) && (He.eqO (PySem.W.nsIn K cStatics "thirdparty.any") (some none) && decide (PySem.W.ks_superIn K C C "__init__" = some (some (.builtin "ValueError.__init__"))))))))
def file : Str := prog.main.file
def exL (K : PySem.W.Frag) : List Bool :=
  [frees.all fun x => (He.Fa.free x).ok K, glos.all fun x => (He.Fa.glo x).ok K, (He.Fa.int "MOST_WIDTH" 6).ok K, (He.Fa.int "MOST_COUNTED" 4).ok K, (He.Fa.str "RING" "ring").ok K, (He.Fa.cls "Table").ok K, (He.Fa.noat "Table" "wide").ok K, (He.Fa.noat "Table" "held").ok K, (He.Fa.mkr "Table").ok K,
   He.eqO (PySem.W.findIn K (.ref (He.ga K "Table")) "__class__") (some (some (.builtin "object.__class__"))), He.eqO (PySem.W.specialIn K (.builtin "object.__class__") "__get__") (some (some (.builtin "getset_descriptor.__get__"))), decide (PySem.W.takesIn K (.builtin "object.__class__") = some true),
   decide (PySem.W.mroIn K (He.ga K "Table") (.type "object") = some true), (["bool", "int", "str", "list", "tuple", "dict", "NoneType"] : List String).all fun x => decide (PySem.W.kitOne K (.type x) (.ref (He.ga K "Table")) = some false),
   (["bool", "int", "str", "list", "tuple"] : List String).all fun x => decide (PySem.W.kitOne K (.ref (He.ga K "Table")) (.type x) = some false), decide (PySem.W.kitOne K (.ref (He.ga K "Table")) (.ref (He.ga K "Table")) = some true),
   prB K "width", prB K "bits", prB K "ones", owB K "__getitem__", owB K "__eq__",
   orders.all fun o => He.eqO (PySem.W.nsIn K (He.ga K "BITS_OF_ORDER") o) (some (some (.ref (valA K (He.ga K "BITS_OF_ORDER") o)))) && tupAB K (valA K (He.ga K "BITS_OF_ORDER") o) ((bitsOf o).map V.int),
   oobB K (He.ga K "ORDER_OF_BITS"), tupAB K (He.ga K "ORDERS") (orders.map V.str), tupAB K (He.ga K "PAIRS") [.ref (itA K (He.ga K "PAIRS") 0), .ref (itA K (He.ga K "PAIRS") 1), .ref (itA K (He.ga K "PAIRS") 2)],
   tupAB K (itA K (He.ga K "PAIRS") 0) [.int 0, .int 1], tupAB K (itA K (He.ga K "PAIRS") 1) [.int 0, .int 2], tupAB K (itA K (He.ga K "PAIRS") 2) [.int 1, .int 2],
   exB K (erA K 0), exB K (erA K 1), kiB K 0, kiB K 1, txB K 0, txB K 1, exM K (erA K 0), exM K (erA K 1), ecB K "WrongKind", ecB K "WrongSize", inB K file "WrongKind", inB K file "WrongSize"]
/-! the Hook -/
abbrev AlB : Type := Bool × List He.FnW × Option (List (Option (Str × Int))) × InV × InV
def obsB (K : PySem.W.Frag) : AlB := ((exL K).all id && dfs.all fun d => d.ok K, dfs.map fun d => fnA K (d.ad K), He.dicW K (He.ga K "BITS_OF_ORDER"), inO K "WrongKind", inO K "WrongSize")
def valB (w : World) : AlB := (true, dfs.map DefA.val, some (He.keysIn w.params orders), inVal true, inVal false)
def refsB (o : Obj) : List Addr := He.refsD o ++ (match o.data with
  | .dict es _ => es.toList.flatMap fun e => He.refV e.key
  | _ => [])
def refsG (g : Addr → Option Obj) (as : List Addr) : List Addr := as.flatMap fun a => match g a with
  | some o => refsB o
  | none => []
def bfs (g : Addr → Option Obj) : Nat → List Addr → List Addr
  | 0, as => as
  | n + 1, as => as ++ bfs g n (refsG g as)
def asB (g : Addr → Option Obj) : List Addr := cStatics :: bfs g 5 [mainGlobals]
def hookB : PySem.W.Hook where
  α := AlB
  obs := fun s => obsB (He.frG s.heap.get? (asB s.heap.get?))
  val := valB
  says := fun w h => ∃ K : PySem.W.Frag, K.In h ∧ obsB K = valB w
  of := fun _ _ e => ⟨_, He.frG_in, e⟩
  keeps := fun _ _ _ ⟨K, hK, c⟩ k => ⟨K, PySem.W.Frag.In.keeps hK k, c⟩
def obB (s : PySem.W.SharedT) : AlB := obsB (He.frG (HandSHeadRun.getT s) (asB (HandSHeadRun.getT s)))
theorem obB_eq (s : PySem.W.SharedT) : obB s = hookB.obs s.abs := by
  have e : HandSHeadRun.getT s = s.abs.heap.get? := funext (HandSHeadRun.getT_eq s)
  show obsB (He.frG (HandSHeadRun.getT s) (asB (HandSHeadRun.getT s))) = obsB (He.frG s.abs.heap.get? (asB s.abs.heap.get?))
  rw [e]
end Bs
set_option Elab.async false
set_option linter.all false
set_option maxRecDepth 100000
set_option maxHeartbeats 0
namespace Bs
open PySem PySem.Spec PyProof.Rows L2
/-! E3: the top, run in the kernel. -/
def loo0 : List Str := ["_wall", "__name__", "ShadeError", "WrongKind", "WrongSize", "OutOfRange", "BadText", "NotATable", "Spent", "TooFewPlaces", "WrongPaper", "UnknownName", "NameTaken", "NothingToUndo", "BookFull", "check_integer"]
def loo1 : List Str := ["check_integer_ratios", "check_between", "check_between_ratios", "MOST_WIDTH", "check_width", "check_width_words", "word_count", "all_words", "check_integer_tables", "check_between_tables", "check_width_tables", "check_word", "check_place", "check_row", "check_bits", "Table"]
def loo2 : List Str := ["plain_integer", "check_table", "place_table", "GREATEST_WIDTH", "need_table", "own_pairs", "own_place", "ORDERS", "RING", "MOST_COUNTED", "PAIRS", "BITS_OF_ORDER", "ORDER_OF_BITS", "check_three", "words_of_ballot", "order_with_bits"]
def loo3 : List Str := ["ballot_with_words", "outcome_of", "ballots_of", "first_ring", "constant_bit", "unlike_pair", "owned_by", "words_with", "ring_words", "ring_paper", "ringing", "is_ring_paper", "_law_mixed", "_law_wide", "_law_store", "_law_take"]
def loo4 : List Str := ["_law_near", "_law_pick", "_law_is_integer", "_law_same", "_law_copy", "_law_spoil", "_law_is_table", "_law_first_fault", "_law_bend", "_law_bend_row", "_law_bend_plain", "_law_odd", "_law_orders", "_law_order_bits", "_law_order_of", "_law_result_of"]
def loo5 : List Str := ["_law_ring_right", "_law_ring_paper", "_law_fault_of", "_law_called", "_law_ask", "_law_no_ring", "_law_judged", "_law_other_papers", "_law_some_three", "_law_good", "_law_bad"]
def loo : List Str := loo0 ++ loo1 ++ loo2 ++ loo3 ++ loo4 ++ loo5

abbrev Rw0 : PySem.W.OpenRow := PySem.W.OpenLaw.row PySem.Challenge.rw_bitshades_k92_whole_ring_papers
abbrev qv : Program := PySem.W.view Rw0.prog [103]
theorem runF (w : World) : HandSHeadRun.RunEq Rw0 qv hookB obB 20000 loo (w.withFollow "special-get-raises" false) := by
  intro os
  kernel_rfl
theorem runT (w : World) : HandSHeadRun.RunEq Rw0 qv hookB obB 20000 loo (w.withFollow "special-get-raises" true) := by
  intro os
  kernel_rfl
theorem runW (w : World) : HandSHeadRun.RunEq Rw0 qv hookB obB 20000 loo w := PySem.W.byRow2 "special-get-raises" runF runT w
end Bs
set_option Elab.async false
set_option linter.all false
set_option maxRecDepth 100000
set_option maxHeartbeats 0
namespace Bs
open PySem PySem.W PySem.Calls PyProof.Rows
/-! E4: what else the head asks of the row. -/
abbrev dLaw : DefRec := HandSHeadRun.topDef Rw0.prog 103
theorem hd_open : opening Rw0.prog = plainProg Rw0.prog.main.scope.names := by kernel_rfl
theorem hd_fence : ∀ s, fenceModules? Rw0.prog s = some s := fun s => by kernel_rfl
theorem hd_def : defOf qv Rw0.name = some (dLaw, []) := by kernel_rfl
theorem hd_the : Rw0.prog.theDef Rw0.name = some (dLaw.params, dLaw.body, dLaw.scope) := by kernel_rfl
theorem hd_kw : kwWritten? dLaw.params.kwonlyargs dLaw.params.kw_defaults = some [] := by kernel_rfl
theorem hd_name : dLaw.name = ("law" : PySem.Str) := by kernel_rfl
theorem hd_dfl : dLaw.params.defaults = [] := by kernel_rfl
theorem hd_wr : (!Rw0.writes || Rw0.records.isEmpty) = true := by rfl
theorem hd_ok : (chainsOk qv && opensWell Rw0.prog && (PySem.W.frees Rw0.toRowW && Rw0.within.isEmpty)) = true := by decide +kernel
theorem hd_whole : prog.tablesWhole = true := by decide +kernel
theorem hd_bare : Rw0.prog.bare := ⟨rfl, rfl, rfl, rfl, rfl, hd_whole⟩
theorem hd_prom : Rw0.toRowW.promised := by w_witness2
theorem hd_red (h : Rw0.wellSaid = true → Rw0.Holds) : PySem.Challenge.rw_bitshades_k92_whole_ring_papers.Holds := by
  w_on; o_law
  exact h (by first | assumption | decide +kernel)
end Bs
set_option Elab.async false
set_option linter.all false
set_option maxRecDepth 100000
set_option maxHeartbeats 2000000
namespace Bs
open PySem PySem.Spec PyProof.Rows L2
/-! F0: what the Hook says, put into the texts' words. -/
section
variable {K : PySem.W.Frag} {w : World} {h : Heap} {mg : Str → Option Value}
theorem fx (c : obsB K = valB w) (i : Nat) {b : Bool} (e : (exL K)[i]? = some b) : b = true := by
  have h1 : ((exL K).all id && dfs.all fun d => d.ok K) = true := congrArg (fun z : AlB => z.1) c
  exact List.all_eq_true.mp (He.ba h1).1 b (List.mem_of_getElem? e)
theorem dx (c : obsB K = valB w) (i : Nat) {d : DefA} (e : dfs[i]? = some d) : ∃ fd, FnF K d.name d.qual d.st d.dfl (d.ad K) fd := by
  have h1 : ((exL K).all id && dfs.all fun d => d.ok K) = true := congrArg (fun z : AlB => z.1) c
  have h2 : dfs.map (fun d => fnA K (d.ad K)) = dfs.map DefA.val := congrArg (fun z : AlB => z.2.1) c
  have h3 : (dfs.map fun d => fnA K (d.ad K))[i]? = (dfs.map DefA.val)[i]? := by rw [h2]
  rw [List.getElem?_map, List.getElem?_map, e] at h3
  exact DefA.fn (Option.some.inj h3) (List.all_eq_true.mp (He.ba h1).2 d (List.mem_of_getElem? e))
theorem frx (c : obsB K = valB w) (KX : K.In h) (G : h.Ns mainGlobals mg) {x : Str} (hx : x ∈ frees) : mg x = none := He.free_ok KX G (List.all_eq_true.mp (fx c 0 rfl) x hx)
theorem glx (c : obsB K = valB w) (KX : K.In h) (G : h.Ns mainGlobals mg) {x : Str} (hx : x ∈ glos) : mg x = some (.ref (He.ga K x)) := He.glo_ok KX G (List.all_eq_true.mp (fx c 1 rfl) x hx)
theorem txt_of (c : obsB K = valB w) (KX : K.In h) (G : h.Ns mainGlobals mg) : Txt K mg (adOf K) where
  len := frx c KX G (by decide)
  isinstance := frx c KX G (by decide)
  int := frx c KX G (by decide)
  list := frx c KX G (by decide)
  tuple := frx c KX G (by decide)
  sum := frx c KX G (by decide)
  all := frx c KX G (by decide)
  max := frx c KX G (by decide)
  min := frx c KX G (by decide)
  abs := frx c KX G (by decide)
  range := frx c KX G (by decide)
  enumerate := frx c KX G (by decide)
  str := frx c KX G (by decide)
  bool := frx c KX G (by decide)
  ValueError := frx c KX G (by decide)
  vMOST_WIDTH := let ⟨t, e⟩ := He.int_ok KX G (fx c 2 rfl); ⟨_, e, t, rfl⟩
  vMOST_COUNTED := let ⟨t, e⟩ := He.int_ok KX G (fx c 3 rfl); ⟨_, e, t, rfl⟩
  vRING := let ⟨t, e⟩ := He.str_ok KX G (fx c 4 rfl); ⟨_, e, t, rfl⟩
  vORDERS := ⟨_, glx c KX G (by decide), rfl⟩
  vPAIRS := ⟨_, glx c KX G (by decide), rfl⟩
  vBITS_OF_ORDER := ⟨_, glx c KX G (by decide), rfl⟩
  vORDER_OF_BITS := ⟨_, glx c KX G (by decide), rfl⟩
  vTable := ⟨_, glx c KX G (by decide), rfl⟩
  cls := He.cls_ok (fx c 5 rfl)
  nW := He.noat_ok (fx c 6 rfl)
  nH := He.noat_ok (fx c 7 rfl)
  k0 := He.eqO_ok (fx c 9 rfl)
  k1 := He.eqO_ok (fx c 10 rfl)
  k2 := of_decide_eq_true (fx c 11 rfl)
  k3 := of_decide_eq_true (fx c 12 rfl)
  tk := fun x hx => of_decide_eq_true (List.all_eq_true.mp (fx c 13 rfl) x hx)
  kt := fun x hx => of_decide_eq_true (List.all_eq_true.mp (fx c 14 rfl) x hx)
  ktt := of_decide_eq_true (fx c 15 rfl)
theorem tx2_of (c : obsB K = valB w) : Tx2 K prog w (adOf K) where
  bob := fun o ho => by
    obtain ⟨es, n, d⟩ := He.dicW_ok (w := w) (ks := orders) (show He.dicW K (He.ga K "BITS_OF_ORDER") = some (He.keysIn w.params orders) from congrArg (fun z : AlB => z.2.2.1) c)
    obtain ⟨h1, h2⟩ := He.ba (List.all_eq_true.mp (fx c 21 rfl) o ho)
    exact ⟨⟨es, n, _, d.at_, d.lit, He.eqO_ok h1, rfl⟩, tupAB_sq h2⟩
  oob := oobB_ok prog w (fx c 22 rfl)
  ors := tupAB_sq (fx c 23 rfl)
  prs := tupAB_sq (fx c 24 rfl)
  pr0 := tupAB_sq (fx c 25 rfl)
  pr1 := tupAB_sq (fx c 26 rfl)
  pr2 := tupAB_sq (fx c 27 rfl)
theorem two_of {p : Nat → Prop} (h0 : p 0) (h1 : p 1) : ∀ j, j < 2 → p j
  | 0, _ => h0
  | 1, _ => h1
  | j + 2, h => absurd h (by omega)
theorem exB_ok {C : Addr} (h : exB K C = true) (k1 : PySem.W.specialIn K (.builtin "object.__class__") "__get__" = some (some (.builtin "getset_descriptor.__get__"))) (k2 : PySem.W.takesIn K (.builtin "object.__class__") = some true) : ExcC K C ∧ XfC K C := by
  obtain ⟨h1, h⟩ := He.ba h
  obtain ⟨h2, h⟩ := He.ba h
  obtain ⟨h3, h⟩ := He.ba h
  obtain ⟨h4, h⟩ := He.ba h
  obtain ⟨h5, h6⟩ := He.ba h
  exact ⟨⟨He.eqO_ok h1, He.eqO_ok h2, of_decide_eq_true h3, h4, He.eqO_ok h5, k1, k2, of_decide_eq_true h6⟩, ⟨He.eqO_ok h1, He.eqO_ok h2, of_decide_eq_true h3, h4⟩⟩
theorem kiB_ok {j : Nat} (h : kiB K j = true) (i : Nat) (hi : i < 12) : PySem.W.kitOne K (.ref (erA K j)) (.ref (erA K i)) = some (decide (i = j)) := of_decide_eq_true (List.all_eq_true.mp h i (List.mem_range.mpr hi))
theorem tx3_of (c : obsB K = valB w) (KX : K.In h) (G : h.Ns mainGlobals mg) : Tx3 K mg (adOf K) where
  vWrongKind := ⟨_, glx c KX G (by decide), rfl⟩
  vWrongSize := ⟨_, glx c KX G (by decide), rfl⟩
  vOutOfRange := ⟨_, glx c KX G (by decide), rfl⟩
  vBadText := ⟨_, glx c KX G (by decide), rfl⟩
  vNotATable := ⟨_, glx c KX G (by decide), rfl⟩
  vSpent := ⟨_, glx c KX G (by decide), rfl⟩
  vTooFewPlaces := ⟨_, glx c KX G (by decide), rfl⟩
  vWrongPaper := ⟨_, glx c KX G (by decide), rfl⟩
  vUnknownName := ⟨_, glx c KX G (by decide), rfl⟩
  vNameTaken := ⟨_, glx c KX G (by decide), rfl⟩
  vNothingToUndo := ⟨_, glx c KX G (by decide), rfl⟩
  vBookFull := ⟨_, glx c KX G (by decide), rfl⟩
  gShade := glx c KX G (by decide)
  ex := two_of (exB_ok (fx c 28 rfl) (He.eqO_ok (fx c 10 rfl)) (of_decide_eq_true (fx c 11 rfl))).1 (exB_ok (fx c 29 rfl) (He.eqO_ok (fx c 10 rfl)) (of_decide_eq_true (fx c 11 rfl))).1
  kit := two_of (kiB_ok (fx c 30 rfl)) (kiB_ok (fx c 31 rfl))
  kitV := two_of (of_decide_eq_true (He.ba (fx c 32 rfl)).1) (of_decide_eq_true (He.ba (fx c 33 rfl)).1)
  exm := two_of (of_decide_eq_true (He.ba (He.ba (fx c 32 rfl)).2).1) (of_decide_eq_true (He.ba (He.ba (fx c 33 rfl)).2).1)
  xf := two_of (exB_ok (fx c 28 rfl) (He.eqO_ok (fx c 10 rfl)) (of_decide_eq_true (fx c 11 rfl))).2 (exB_ok (fx c 29 rfl) (He.eqO_ok (fx c 10 rfl)) (of_decide_eq_true (fx c 11 rfl))).2
  noA := two_of (He.eqO_ok (He.ba (He.ba (fx c 32 rfl)).2).2) (He.eqO_ok (He.ba (He.ba (fx c 33 rfl)).2).2)
/-- an own error class, whole -/
theorem ec_of {kd : Bool} {nm : Str} (KX : K.In h) (G : h.Ns mainGlobals mg) (gC : mg nm = some (.ref (He.ga K nm))) (gS : mg "super" = none) (e1 : ecB K nm = true) (e2 : exB K (He.ga K nm) = true) (e3 : exM K (He.ga K nm) = true) (e4 : inB K file nm = true) (e5 : inO K nm = inVal kd)
    (e6 : PySem.W.findIn K (.ref (He.ga K nm)) "argument" = some none) : BsX.Ec K mg prog kd nm (He.ga K nm) := by
  obtain ⟨h1, h'⟩ := He.ba e2
  obtain ⟨h2, h'⟩ := He.ba h'
  obtain ⟨h3, h'⟩ := He.ba h'
  obtain ⟨h4, _⟩ := He.ba h'
  obtain ⟨m1, m'⟩ := He.ba e3
  obtain ⟨m2, m'⟩ := He.ba m'
  obtain ⟨m3, m'⟩ := He.ba m'
  obtain ⟨m4, m'⟩ := He.ba m'
  obtain ⟨m5, m'⟩ := He.ba m'
  obtain ⟨m6, m7⟩ := He.ba m'
  obtain ⟨k1, k'⟩ := He.ba e4
  obtain ⟨k2, k3⟩ := He.ba k'
  obtain ⟨cc, cda, qual, oc, od, doc, pm, an, ct, osl, ccl, cl, cdd, cld, ccs, csl, vs, tf, f1, f2, f3, f4, f5⟩ := inC_ok e5 k3
  exact ⟨gC, ecB_ok e1, He.eqO_ok m1, He.eqO_ok h1, He.eqO_ok h2, e6, m2, of_decide_eq_true h3, of_decide_eq_true m3, of_decide_eq_true m4, h4, of_decide_eq_true m5, He.eqO_ok m6, gS, of_decide_eq_true m7,
    _, cc, cda, qual, oc, od, doc, pm, an, ct, osl, ccl, cl, cdd, cld, ccs, csl, vs, file, tf, He.eqO_ok k1, of_decide_eq_true k2, f1, f2, f3, f4, by decide +kernel, by decide +kernel, f5⟩
end
end Bs
set_option Elab.async false
set_option linter.all false
set_option maxRecDepth 100000
set_option maxHeartbeats 400000
namespace Bs
open PySem PySem.Spec PyProof.Rows L2 SX
open C8 (pe_gc pss_cut)
local macro_rules | `(tactic| walk_at "xt") => `(tactic| first | assumption | exact Ext.weak (by assumption) | exact Ext.is (by assumption) (by assumption) | exact Ext.plus (by assumption) | exact Ext.plus (Ext.weak (by assumption)) | exact Ext.plus (Ext.is (by assumption) (by assumption)) | exact Ext.set plus_self)
local macro_rules | `(tactic| walk_at "gr") => `(tactic| first | assumption | exact Ext.grow (by assumption) | exact Grow.upd)
local macro_rules | `(tactic| walk_at "mo") => `(tactic| first | assumption | exact MOk.zero | ((first | refine MOk.grow ?_ (by walk_at "gr") | exact MOk.upd (by walk_at "mo")); walk_at "mo") | exact MOk.plus (by walk_at "mo") (by assumption))
local macro_rules | `(tactic| walk_at "hp") => `(tactic| first
  | assumption | exact At.raw (by assumption)
  | exact At.mk' (by walk_at "mo") (by assumption) (by assumption)
  | ((first | refine At.ext (by walk_at "xt") ?_ | refine Rp.ext (by walk_at "xt") ?_ | refine RpA.ext (by walk_at "xt") ?_ | refine Tb.ext (by walk_at "xt") ?_); walk_at "hp")
  | ((first | refine At.plus (by assumption) ?_ | refine Rp.plus (by assumption) ?_ | refine RpA.plus (by assumption) ?_ | refine Tb.plus (by assumption) ?_); walk_at "hp"))
local macro_rules | `(tactic| walk_at "at") => `(tactic| first | assumption | exact At.get (M := N0) (by walk_at "hp"))
local macro_rules | `(tactic| walk_at "sq") => `(tactic| first | exact SqL.of (by walk_at "at") | exact SqT.of (by walk_at "at"))
local macro_rules | `(tactic| walk_at "st") => `(tactic| with_reducible first
  | refine i_seq ?_ | refine i_asg ?_ | refine i_ret ?_ | refine i_retN ?_ | refine i_drop ?_ | refine i_ifS ?_ | refine i_next ?_ | refine i_brk ?_
  | refine i_gname ?_ | refine i_gsub ?_ | refine i_c ?_ | refine i_op ?_ | refine i_un ?_ | refine i_I0 ?_ | refine i_U ?_ | refine i_isN ?_ | refine i_notN ?_
  | refine i_test ?_ | refine i_tB ?_ | refine i_bl ?_ | refine i_and ?_ | refine i_or ?_ | refine i_not ?_ | refine i_andV ?_ | refine i_orV ?_ | refine i_notV ?_ | refine i_ifE ?_
  | refine i_nil ?_ | refine i_cons ?_ | refine i_for ?_ | refine i_iL ?_ | refine i_iT ?_ | refine i_iR ?_ | refine i_lc ?_ | refine i_prp ?_ | refine i_mk ?_ | refine i_sS ?_ | refine i_sN ?_ | refine i_nsS ?_ | refine i_nsN ?_ | refine i_fld ?_ | refine i_sf ?_ | refine i_inO ?_ | refine i_lsO ?_ | refine i_tpO ?_ | refine i_lnO ?_ | refine i_cb ?_ | refine i_call ?_ | refine i_tup ?_ | refine i_lst ?_ | refine i_dnew ?_ | refine i_inI ?_ | refine i_inB ?_ | refine i_rgX ?_ | refine i_lrO ?_ | refine i_rg1 ?_ | refine i_nF ?_ | refine i_nT ?_ | refine i_tt ?_ | refine i_ff ?_ | refine i_ifT ?_ | refine i_ifF ?_
  | refine i_eqI ?_ | refine i_eqS ?_ | refine i_eqB ?_ | refine i_neI ?_ | refine i_neS ?_ | refine i_dR ?_ | refine i_dI ?_ | refine i_dT ?_ | refine i_dS ?_ | refine i_dN ?_ | refine i_nR ?_ | refine i_nI ?_ | refine i_nN ?_
  | (refine i_var (by with_unfolding_all rfl) ?_) | refine i_eq rfl ?_ | refine i_ne rfl ?_)
local macro_rules | `(tactic| walk_at "sc") => `(tactic| first | exact (Rp.int (M := N0) _) | exact (Rp.str (M := N0) _) | exact (Rp.bl (M := N0) _) | exact (Rp.non (M := N0)) | assumption | exact Rp.tab (by assumption) | exact Tb.rp (by assumption))
local macro_rules | `(tactic| walk_at "sd") => `(tactic| simp only [d_Bool_non, d_Bool_bl, d_Bool_int, d_Bool_str, d_Bool_lst, d_Bool_tup, d_Bool_tab, d_Bool_dic, d_Int_non, d_Int_bl, d_Int_int, d_Int_str, d_Int_lst, d_Int_tup, d_Int_tab, d_Int_dic, d_Str_non, d_Str_bl, d_Str_int, d_Str_str, d_Str_lst, d_Str_tup, d_Str_tab, d_Str_dic, d_List_non, d_List_bl, d_List_int, d_List_str, d_List_lst, d_List_tup, d_List_tab, d_List_dic, d_Tup_non, d_Tup_bl, d_Tup_int, d_Tup_str, d_Tup_lst, d_Tup_tup, d_Tup_tab, d_Tup_dic, d_Tab_non, d_Tab_bl, d_Tab_int, d_Tab_str, d_Tab_lst, d_Tab_tup, d_Tab_tab, d_Tab_dic, Bool.not_true, Bool.not_false, Bool.true_or, Bool.false_or, Bool.or_true, Bool.or_false, Bool.and_true, Bool.true_and, Bool.and_false, Bool.false_and, if_true, if_false, Bool.false_eq_true])
local macro_rules | `(tactic| walk_at "isi") => `(tactic| ((first | with_reducible apply i_isB | with_reducible apply i_isI | with_reducible apply i_isS | with_reducible apply i_isL | with_reducible apply i_isT | with_reducible apply i_isTab); (focus assumption); (focus walk_at "sc"); try simp only [d_Bool_non, d_Bool_bl, d_Bool_int, d_Bool_str, d_Bool_lst, d_Bool_tup, d_Bool_tab, d_Bool_dic, d_Int_non, d_Int_bl, d_Int_int, d_Int_str, d_Int_lst, d_Int_tup, d_Int_tab, d_Int_dic, d_Str_non, d_Str_bl, d_Str_int, d_Str_str, d_Str_lst, d_Str_tup, d_Str_tab, d_Str_dic, d_List_non, d_List_bl, d_List_int, d_List_str, d_List_lst, d_List_tup, d_List_tab, d_List_dic, d_Tup_non, d_Tup_bl, d_Tup_int, d_Tup_str, d_Tup_lst, d_Tup_tup, d_Tup_tab, d_Tup_dic, d_Tab_non, d_Tab_bl, d_Tab_int, d_Tab_str, d_Tab_lst, d_Tab_tup, d_Tab_tab, d_Tab_dic]))
local macro_rules | `(tactic| walk_at "om") => `(tactic| first | ((with_reducible refine i_decF ?_ ?_); (focus omega)) | ((with_reducible refine i_decT ?_ ?_); (focus omega)) | ((with_reducible refine i_ndecF ?_ ?_); (focus omega)) | ((with_reducible refine i_ndecT ?_ ?_); (focus omega)))
local macro_rules | `(tactic| walk_at "go") => `(tactic| ((repeat (first | walk_at "st" | walk_at "isi" | walk_at "om")); try dsimp only [List.set]))
variable {W : Wd} {a : Ad}
local macro_rules | `(tactic| walk_at "st") => `(tactic| with_reducible first | refine i_sl ?_ | refine i_nopart ?_ | refine i_part ?_ | refine i_partI ?_ | refine i_bm ?_ | refine i_bm0 ?_ | refine i_m1 ?_ | refine i_m1S ?_)
/-! L16: what a caught error says; calls. -/
section
variable {K : PySem.W.Frag} {mg : Str → Option Value} {H : Hp} {Q : VK} {x dd p : Addr} {fs : List (Str × V)} {j : Nat}
theorem i_isE (T3 : Tx3 K mg a) (hj : j < 2) {i : Nat} (hi : i < 12) (hd : H dd = some (.xd fs)) (q : Q (.bl (decide (i = j))) H) : rIsD K (a.er j) x dd [.ref x, .ref (a.er i)] H Q := ⟨_, _, _, fs, rfl, fun _ e => e, T3.kit j hj i hi, hd, q⟩
theorem i_isV (T3 : Tx3 K mg a) (hj : j < 2) (hd : H dd = some (.xd fs)) (q : Q (.bl true) H) : rIsD K (a.er j) x dd [.ref x, .ty "ValueError"] H Q := ⟨_, _, _, fs, rfl, fun _ e => e, T3.kitV j hj, hd, q⟩
def flg (j : Nat) : List Bool := [decide (0 = j), decide (1 = j), decide (2 = j), decide (3 = j), decide (4 = j), decide (5 = j), decide (6 = j), decide (7 = j), decide (8 = j), decide (9 = j), decide (10 = j), decide (11 = j)]
theorem flg_count : ∀ j, j < 2 → (flg j).count true = 1 := by decide
theorem i_cntF (hj : j < 2) (h : H p = some (.lst ((flg j).map V.bl))) (q : Q (.int 1) H) : rCntB K (.ref p) [.bl true] H Q := ⟨p, flg j, true, rfl, rfl, SqL.of h, by rw [flg_count j hj]; exact q⟩
theorem i_idxF (hj : j < 2) (h : H p = some (.lst ((flg j).map V.bl))) (q : Q (.int (j : Nat)) H) : rIndex K (.ref p) [.bl true] H Q := by
  match j, hj with
  | 0, _ => exact ⟨p, _, .bl true, 0, .bl true, rfl, rfl, SqL.of h, rfl, rfl, rfl, rfl, fun m z hm => absurd hm (Nat.not_lt_zero m), q⟩
  | 1, _ => exact ⟨p, _, .bl true, 1, .bl true, rfl, rfl, SqL.of h, rfl, rfl, rfl, rfl, fun m z hm e => by
      obtain rfl : m = 0 := by omega
      cases e; rfl, q⟩
end
def sp_fault (a : Ad) (x : Addr) (cls : Value) (d : Option Addr) : Sp := sp1 fun v H Q _ => ∃ j dd z, v = .ref x ∧ j < 2 ∧ cls = .ref (a.er j) ∧ d = some dd ∧ H dd = some (.xd [("argument", .str z)]) ∧ ∀ t H', Ext N0 H H' → H' t = some (.tup [.str (erS j), .str z]) → Q (.ref t) H'
abbrev s_law_fault_of : Stmt := top 94
abbrev N_law_fault_of : List Str := ["_law_caught", "_law_flags"]
abbrev P_law_fault_of : List Str := ["_law_caught"]
theorem sc_law_fault_of : FnScope N_law_fault_of P_law_fault_of (defScope s_law_fault_of) := ⟨rfl, rfl, rfl, by decide +kernel, rfl, by decide +kernel, by decide +kernel⟩
theorem bi_law_fault_of {K : PySem.W.Frag} {f : Addr} {fd : FuncData} (F : FnF K "_law_fault_of" "_law_fault_of" s_law_fault_of [] f fd) : Binds K fd P_law_fault_of [] := FunD.bindsN F fun _ _ _ _ _ _ us hl => match us, hl with | [_], _ => rfl
theorem c_law_fault_of (T : Txt W.K W.mg a) (T3 : Tx3 W.K W.mg a) (D : DefAt W "_law_fault_of" "_law_fault_of" "_law_fault_of" s_law_fault_of) : CalS W CX0 1 "_law_fault_of" P_law_fault_of (sp_fault a) := cal_mkS D sc_law_fault_of (fun _ _ _ => len1) (fun _ _ => bi_law_fault_of) fun f cdv A outer s H vs Q E x oe c d hz hf h => by
  obtain ⟨_, rfl, j, dd, z, rfl, hj, rfl, rfl, hd, q⟩ := sp1_of h
  refine ⟨_, (pss_cons (ps_set (i := 1) sc_law_fault_of.nd rfl (by first | exact Or.inl rfl | exact Or.inr rfl) (pe_lst (pa_cons (pe_callB (call_isD (T3.ex j hj) List.mem_cons_self hz hf) rfl T.isinstance (by decide +kernel) (pa_cons (pv 0) (pa_cons (pe_gc rfl T3.vWrongKind) pa_nil))) (pa_cons (pe_callB (call_isD (T3.ex j hj) List.mem_cons_self hz hf) rfl T.isinstance (by decide +kernel) (pa_cons (pv 0) (pa_cons (pe_gc rfl T3.vWrongSize) pa_nil))) (pa_cons (pe_callB (call_isD (T3.ex j hj) List.mem_cons_self hz hf) rfl T.isinstance (by decide +kernel) (pa_cons (pv 0) (pa_cons (pe_gc rfl T3.vOutOfRange) pa_nil))) pa_nil)))))
 (pss_cons (ps_set (i := 1) sc_law_fault_of.nd rfl (by first | exact Or.inl rfl | exact Or.inr rfl) (pe_op op_cat (pv 1) (pe_lst (pa_cons (pe_callB (call_isD (T3.ex j hj) List.mem_cons_self hz hf) rfl T.isinstance (by decide +kernel) (pa_cons (pv 0) (pa_cons (pe_gc rfl T3.vBadText) pa_nil))) (pa_cons (pe_callB (call_isD (T3.ex j hj) List.mem_cons_self hz hf) rfl T.isinstance (by decide +kernel) (pa_cons (pv 0) (pa_cons (pe_gc rfl T3.vNotATable) pa_nil))) (pa_cons (pe_callB (call_isD (T3.ex j hj) List.mem_cons_self hz hf) rfl T.isinstance (by decide +kernel) (pa_cons (pv 0) (pa_cons (pe_gc rfl T3.vSpent) pa_nil))) pa_nil))))))
 (pss_cons (ps_set (i := 1) sc_law_fault_of.nd rfl (by first | exact Or.inl rfl | exact Or.inr rfl) (pe_op op_cat (pv 1) (pe_lst (pa_cons (pe_callB (call_isD (T3.ex j hj) List.mem_cons_self hz hf) rfl T.isinstance (by decide +kernel) (pa_cons (pv 0) (pa_cons (pe_gc rfl T3.vTooFewPlaces) pa_nil))) (pa_cons (pe_callB (call_isD (T3.ex j hj) List.mem_cons_self hz hf) rfl T.isinstance (by decide +kernel) (pa_cons (pv 0) (pa_cons (pe_gc rfl T3.vWrongPaper) pa_nil))) (pa_cons (pe_callB (call_isD (T3.ex j hj) List.mem_cons_self hz hf) rfl T.isinstance (by decide +kernel) (pa_cons (pv 0) (pa_cons (pe_gc rfl T3.vUnknownName) pa_nil))) pa_nil))))))
 (pss_cons (ps_set (i := 1) sc_law_fault_of.nd rfl (by first | exact Or.inl rfl | exact Or.inr rfl) (pe_op op_cat (pv 1) (pe_lst (pa_cons (pe_callB (call_isD (T3.ex j hj) List.mem_cons_self hz hf) rfl T.isinstance (by decide +kernel) (pa_cons (pv 0) (pa_cons (pe_gc rfl T3.vNameTaken) pa_nil))) (pa_cons (pe_callB (call_isD (T3.ex j hj) List.mem_cons_self hz hf) rfl T.isinstance (by decide +kernel) (pa_cons (pv 0) (pa_cons (pe_gc rfl T3.vNothingToUndo) pa_nil))) (pa_cons (pe_callB (call_isD (T3.ex j hj) List.mem_cons_self hz hf) rfl T.isinstance (by decide +kernel) (pa_cons (pv 0) (pa_cons (pe_gc rfl T3.vBookFull) pa_nil))) pa_nil))))))
 (pss_cons (ps_if (PW.pt (pw_or (pt_cmpR op_ne (pe_bm PySem.F.plainAttrs_list PySem.F.slot_list_count PySem.F.type_list_count mt_countB (pv 1) (pa_cons pe_bl pa_nil)) pe_int (by rfl)) (pw_or (pt_not (pt_val (pe_callB (call_isD (T3.ex j hj) List.mem_cons_self hz hf) rfl T.isinstance (by decide +kernel) (pa_cons (pv 0) (pa_cons (pe_bltn (v := .ty "ValueError") rfl T.ValueError (by decide +kernel) rfl) pa_nil))))) (pw_or1 (pt_cmpR op_gt (pe_bm PySem.F.plainAttrs_list PySem.F.slot_list_index PySem.F.type_list_index mt_index (pv 1) (pa_cons pe_bl pa_nil)) pe_int (by rfl))))))
  (pss_one (ps_ret (pe_tup (pa_cons pe_str (pa_cons pe_non pa_nil)))))
  pss_nil)
 (pss_one (ps_ret (pe_tup (pa_cons (pe_ix ix_seq (pe_lst (pa_cons pe_str (pa_cons pe_str (pa_cons pe_str pa_nil)))) (pe_bm PySem.F.plainAttrs_list PySem.F.slot_list_index PySem.F.type_list_index mt_index (pv 1) (pa_cons pe_bl pa_nil)) (fun _ _ => rfl)) (pa_cons (pe_xfS (T3.xf j hj) (T3.noA j hj) List.mem_cons_self hz hf (pv 0) rfl) pa_nil)))))))))), ?_⟩
  walk_at "go"
  iterate 3
    refine i_isE T3 hj ?_ hd ?_
    · omega
    walk_at "go"
  refine i_nwL (by simp) fun p1 H1 n1 x1 h1 => ?_
  walk_at "go"
  have hd1 := x1 _ _ (fun z => z) hd
  iterate 3
    refine i_isE T3 hj ?_ hd1 ?_
    · omega
    walk_at "go"
  refine i_nwL (by simp) fun p2 H2 n2 x2 h2 => ?_
  have h1 := x2 _ _ (fun z => z) h1
  have hd2 := x2 _ _ (fun z => z) hd1
  refine i_cat h1 h2 (by simp) fun p3 H3 n3 x3 h3 => ?_
  walk_at "go"
  have hd3 := x3 _ _ (fun z => z) hd2
  iterate 3
    refine i_isE T3 hj ?_ hd3 ?_
    · omega
    walk_at "go"
  refine i_nwL (by simp) fun p4 H4 n4 x4 h4 => ?_
  have h3 := x4 _ _ (fun z => z) h3
  have hd4 := x4 _ _ (fun z => z) hd3
  refine i_cat h3 h4 (by simp) fun p5 H5 n5 x5 h5 => ?_
  walk_at "go"
  have hd5 := x5 _ _ (fun z => z) hd4
  iterate 3
    refine i_isE T3 hj ?_ hd5 ?_
    · omega
    walk_at "go"
  refine i_nwL (by simp) fun p6 H6 n6 x6 h6 => ?_
  have h5 := x6 _ _ (fun z => z) h5
  have hd6 := x6 _ _ (fun z => z) hd5
  refine i_cat h5 h6 (by simp) fun p7 H7 n7 x7 h7 => ?_
  walk_at "go"
  have hd7 := x7 _ _ (fun z => z) hd6
  have h7 : H7 p7 = some (.lst ((flg j).map V.bl)) := h7
  refine i_bmL h7 ?_
  walk_at "go"
  refine i_cntF hj h7 ?_
  walk_at "go"
  refine i_isV T3 hj hd7 ?_
  walk_at "go"
  refine i_bmL h7 ?_
  walk_at "go"
  refine i_idxF hj h7 ?_
  walk_at "go"
  refine i_nwL (by simp) fun p8 H8 n8 x8 h8 => ?_
  have h7 := x8 _ _ (fun z => z) h7
  have hd8 := x8 _ _ (fun z => z) hd7
  walk_at "go"
  refine i_bmL h7 ?_
  walk_at "go"
  refine i_idxF hj h7 ?_
  have e6 : atI [V.str "WrongKind", .str "WrongSize", .str "OutOfRange"] (j : Int) = some (.str (erS j)) := by
    match j, hj with
    | 0, _ => rfl
    | 1, _ => rfl
  refine .inl (i_ixL (At.raw h8) e6 ?_)
  walk_at "go"
  refine ⟨_, rfl, rfl, rfl, dd, _, .str z, rfl, hd8, ?_, ?_⟩
  · simp [List.lookup]
  walk_at "go"
  refine i_nwT (by simp) fun p9 H9 n9 x9 h9 => ?_
  exact q _ _ (x1.trans (x2.trans (x3.trans (x4.trans (x5.trans (x6.trans (x7.trans (x8.trans x9)))))))) h9
end Bs
set_option Elab.async false
set_option linter.all false
set_option maxRecDepth 100000
set_option maxHeartbeats 400000
namespace Bs
open PySem PySem.Spec PyProof.Rows L2 SX
open C8 (pe_gc pss_cut)
local macro_rules | `(tactic| walk_at "xt") => `(tactic| first | assumption | exact Ext.weak (by assumption) | exact Ext.is (by assumption) (by assumption) | exact Ext.plus (by assumption) | exact Ext.plus (Ext.weak (by assumption)) | exact Ext.plus (Ext.is (by assumption) (by assumption)) | exact Ext.set plus_self)
local macro_rules | `(tactic| walk_at "gr") => `(tactic| first | assumption | exact Ext.grow (by assumption) | exact Grow.upd)
local macro_rules | `(tactic| walk_at "mo") => `(tactic| first | assumption | exact MOk.zero | ((first | refine MOk.grow ?_ (by walk_at "gr") | exact MOk.upd (by walk_at "mo")); walk_at "mo") | exact MOk.plus (by walk_at "mo") (by assumption))
local macro_rules | `(tactic| walk_at "hp") => `(tactic| first
  | assumption | exact At.raw (by assumption)
  | exact At.mk' (by walk_at "mo") (by assumption) (by assumption)
  | ((first | refine At.ext (by walk_at "xt") ?_ | refine Rp.ext (by walk_at "xt") ?_ | refine RpA.ext (by walk_at "xt") ?_ | refine Tb.ext (by walk_at "xt") ?_); walk_at "hp")
  | ((first | refine At.plus (by assumption) ?_ | refine Rp.plus (by assumption) ?_ | refine RpA.plus (by assumption) ?_ | refine Tb.plus (by assumption) ?_); walk_at "hp"))
local macro_rules | `(tactic| walk_at "at") => `(tactic| first | assumption | exact At.get (M := N0) (by walk_at "hp"))
local macro_rules | `(tactic| walk_at "sq") => `(tactic| first | exact SqL.of (by walk_at "at") | exact SqT.of (by walk_at "at"))
local macro_rules | `(tactic| walk_at "st") => `(tactic| with_reducible first
  | refine i_seq ?_ | refine i_asg ?_ | refine i_ret ?_ | refine i_retN ?_ | refine i_drop ?_ | refine i_ifS ?_ | refine i_next ?_ | refine i_brk ?_
  | refine i_gname ?_ | refine i_gsub ?_ | refine i_c ?_ | refine i_op ?_ | refine i_un ?_ | refine i_I0 ?_ | refine i_U ?_ | refine i_isN ?_ | refine i_notN ?_
  | refine i_test ?_ | refine i_tB ?_ | refine i_bl ?_ | refine i_and ?_ | refine i_or ?_ | refine i_not ?_ | refine i_andV ?_ | refine i_orV ?_ | refine i_notV ?_ | refine i_ifE ?_
  | refine i_nil ?_ | refine i_cons ?_ | refine i_for ?_ | refine i_iL ?_ | refine i_iT ?_ | refine i_iR ?_ | refine i_lc ?_ | refine i_prp ?_ | refine i_mk ?_ | refine i_sS ?_ | refine i_sN ?_ | refine i_nsS ?_ | refine i_nsN ?_ | refine i_fld ?_ | refine i_sf ?_ | refine i_inO ?_ | refine i_lsO ?_ | refine i_tpO ?_ | refine i_lnO ?_ | refine i_cb ?_ | refine i_call ?_ | refine i_tup ?_ | refine i_lst ?_ | refine i_dnew ?_ | refine i_inI ?_ | refine i_inB ?_ | refine i_rgX ?_ | refine i_lrO ?_ | refine i_rg1 ?_ | refine i_nF ?_ | refine i_nT ?_ | refine i_tt ?_ | refine i_ff ?_ | refine i_ifT ?_ | refine i_ifF ?_
  | refine i_eqI ?_ | refine i_eqS ?_ | refine i_eqB ?_ | refine i_neI ?_ | refine i_neS ?_ | refine i_dR ?_ | refine i_dI ?_ | refine i_dT ?_ | refine i_dS ?_ | refine i_dN ?_ | refine i_nR ?_ | refine i_nI ?_ | refine i_nN ?_
  | (refine i_var (by with_unfolding_all rfl) ?_) | refine i_eq rfl ?_ | refine i_ne rfl ?_)
local macro_rules | `(tactic| walk_at "sc") => `(tactic| first | exact (Rp.int (M := N0) _) | exact (Rp.str (M := N0) _) | exact (Rp.bl (M := N0) _) | exact (Rp.non (M := N0)) | assumption | exact Rp.tab (by assumption) | exact Tb.rp (by assumption))
local macro_rules | `(tactic| walk_at "sd") => `(tactic| simp only [d_Bool_non, d_Bool_bl, d_Bool_int, d_Bool_str, d_Bool_lst, d_Bool_tup, d_Bool_tab, d_Bool_dic, d_Int_non, d_Int_bl, d_Int_int, d_Int_str, d_Int_lst, d_Int_tup, d_Int_tab, d_Int_dic, d_Str_non, d_Str_bl, d_Str_int, d_Str_str, d_Str_lst, d_Str_tup, d_Str_tab, d_Str_dic, d_List_non, d_List_bl, d_List_int, d_List_str, d_List_lst, d_List_tup, d_List_tab, d_List_dic, d_Tup_non, d_Tup_bl, d_Tup_int, d_Tup_str, d_Tup_lst, d_Tup_tup, d_Tup_tab, d_Tup_dic, d_Tab_non, d_Tab_bl, d_Tab_int, d_Tab_str, d_Tab_lst, d_Tab_tup, d_Tab_tab, d_Tab_dic, Bool.not_true, Bool.not_false, Bool.true_or, Bool.false_or, Bool.or_true, Bool.or_false, Bool.and_true, Bool.true_and, Bool.and_false, Bool.false_and, if_true, if_false, Bool.false_eq_true])
local macro_rules | `(tactic| walk_at "isi") => `(tactic| ((first | with_reducible apply i_isB | with_reducible apply i_isI | with_reducible apply i_isS | with_reducible apply i_isL | with_reducible apply i_isT | with_reducible apply i_isTab); (focus assumption); (focus walk_at "sc"); try simp only [d_Bool_non, d_Bool_bl, d_Bool_int, d_Bool_str, d_Bool_lst, d_Bool_tup, d_Bool_tab, d_Bool_dic, d_Int_non, d_Int_bl, d_Int_int, d_Int_str, d_Int_lst, d_Int_tup, d_Int_tab, d_Int_dic, d_Str_non, d_Str_bl, d_Str_int, d_Str_str, d_Str_lst, d_Str_tup, d_Str_tab, d_Str_dic, d_List_non, d_List_bl, d_List_int, d_List_str, d_List_lst, d_List_tup, d_List_tab, d_List_dic, d_Tup_non, d_Tup_bl, d_Tup_int, d_Tup_str, d_Tup_lst, d_Tup_tup, d_Tup_tab, d_Tup_dic, d_Tab_non, d_Tab_bl, d_Tab_int, d_Tab_str, d_Tab_lst, d_Tab_tup, d_Tab_tab, d_Tab_dic]))
local macro_rules | `(tactic| walk_at "om") => `(tactic| first | ((with_reducible refine i_decF ?_ ?_); (focus omega)) | ((with_reducible refine i_decT ?_ ?_); (focus omega)) | ((with_reducible refine i_ndecF ?_ ?_); (focus omega)) | ((with_reducible refine i_ndecT ?_ ?_); (focus omega)))
local macro_rules | `(tactic| walk_at "go") => `(tactic| ((repeat (first | walk_at "st" | walk_at "isi" | walk_at "om")); try dsimp only [List.set]))
variable {W : Wd} {a : Ad}
/-! D1: the checks of numbers. -/
abbrev s_check_integer_ratios : Stmt := top 16
abbrev N_check_integer_ratios : List Str := ["value", "argument"]
abbrev P_check_integer_ratios : List Str := ["value", "argument"]
theorem sc_check_integer_ratios : FnScope N_check_integer_ratios P_check_integer_ratios (defScope s_check_integer_ratios) := ⟨rfl, rfl, rfl, by decide +kernel, rfl, by decide +kernel, by decide +kernel⟩
theorem bi_check_integer_ratios {K : PySem.W.Frag} {f : Addr} {fd : FuncData} (F : FnF K "check_integer" "check_integer" s_check_integer_ratios [] f fd) : Binds K fd P_check_integer_ratios [] := FunD.bindsN F fun _ _ _ _ _ _ us hl => match us, hl with | [_, _], _ => rfl
def sp_ckint : Sp := sp2 fun v g H Q _ => ∃ i, v = .int i ∧ Q .non H
theorem c_check_integer_ratios (T : Txt W.K W.mg a) (D : DefAt W "check_integer_ratios" "check_integer" "check_integer" s_check_integer_ratios) : Cal W CX0 1 "check_integer_ratios" P_check_integer_ratios sp_ckint := cal_mk D sc_check_integer_ratios len2 (fun _ _ => bi_check_integer_ratios) fun f cdv A outer s H vs Q E hr h => by
  obtain ⟨x, y, rfl, i, rfl, q⟩ := sp2_of h
  refine ⟨_, (pss_one (ps_if (PW.pt (pw_or (pt_val (pe_callB call_isi rfl T.isinstance (by decide +kernel) (pa_cons (pv 0) (pa_cons (pe_bltn (v := .ty "bool") rfl T.bool (by decide +kernel) rfl) pa_nil)))) (pw_or1 (pt_not (pt_val (pe_callB call_isi rfl T.isinstance (by decide +kernel) (pa_cons (pv 0) (pa_cons (pe_bltn (v := .ty "int") rfl T.int (by decide +kernel) rfl) pa_nil))))))))
  (pss_one ps_never)
  pss_nil)), ?_⟩
  walk_at "go"
  exact q
abbrev s_check_between_ratios : Stmt := top 18
abbrev N_check_between_ratios : List Str := ["value", "least", "most", "argument"]
abbrev P_check_between_ratios : List Str := ["value", "least", "most", "argument"]
theorem sc_check_between_ratios : FnScope N_check_between_ratios P_check_between_ratios (defScope s_check_between_ratios) := ⟨rfl, rfl, rfl, by decide +kernel, rfl, by decide +kernel, by decide +kernel⟩
theorem bi_check_between_ratios {K : PySem.W.Frag} {f : Addr} {fd : FuncData} (F : FnF K "check_between" "check_between" s_check_between_ratios [] f fd) : Binds K fd P_check_between_ratios [] := FunD.bindsN F fun _ _ _ _ _ _ us hl => match us, hl with | [_, _, _, _], _ => rfl
def sp_ckbet : Sp := sp4 fun v lo hi g H Q _ => ∃ i l h, v = .int i ∧ lo = .int l ∧ hi = .int h ∧ l ≤ i ∧ i ≤ h ∧ Q .non H
theorem c_check_between_ratios (T : Txt W.K W.mg a) (D : DefAt W "check_between_ratios" "check_between" "check_between" s_check_between_ratios)
    (c_check_integer_ratios : Cal W CX0 1 "check_integer_ratios" P_check_integer_ratios sp_ckint) : Cal W CX0 2 "check_between_ratios" P_check_between_ratios sp_ckbet := cal_mk D sc_check_between_ratios len4 (fun _ _ => bi_check_between_ratios) fun f cdv A outer s H vs Q E hr h => by
  obtain ⟨x, y, z, u, rfl, i, l, h, rfl, rfl, rfl, h1, h2, q⟩ := sp4_of h
  refine ⟨_, (pss_cons (ps_expr (pe_cal c_check_integer_ratios hr (by omega) pass0 rfl (pa_cons (pv 0) (pa_cons (pv 3) pa_nil))))
 (pss_one (ps_if (PW.pt (pw_or (pt_cmpR op_lt (pv 0) (pv 1) (by rfl)) (pw_or1 (pt_cmpR op_gt (pv 0) (pv 2) (by rfl)))))
  (pss_one ps_never)
  pss_nil))), ?_⟩
  walk_at "go"
  refine ⟨i, rfl, ?_⟩
  walk_at "go"
  exact q
def sp_ckw : Sp := sp1 fun v H Q _ => ∃ n : Nat, v = .int n ∧ n ≤ 6 ∧ Q .non H
abbrev s_check_width_words : Stmt := top 22
abbrev N_check_width_words : List Str := ["width"]
abbrev P_check_width_words : List Str := ["width"]
theorem sc_check_width_words : FnScope N_check_width_words P_check_width_words (defScope s_check_width_words) := ⟨rfl, rfl, rfl, by decide +kernel, rfl, by decide +kernel, by decide +kernel⟩
theorem bi_check_width_words {K : PySem.W.Frag} {f : Addr} {fd : FuncData} (F : FnF K "check_width" "check_width" s_check_width_words [] f fd) : Binds K fd P_check_width_words [] := FunD.bindsN F fun _ _ _ _ _ _ us hl => match us, hl with | [_], _ => rfl
theorem c_check_width_words (T : Txt W.K W.mg a) (D : DefAt W "check_width_words" "check_width" "check_width" s_check_width_words)
    (c_check_between_ratios : Cal W CX0 2 "check_between_ratios" P_check_between_ratios sp_ckbet) : Cal W CX0 3 "check_width_words" P_check_width_words sp_ckw := cal_mk D sc_check_width_words len1 (fun _ _ => bi_check_width_words) fun f cdv A outer s H vs Q E hr h => by
  obtain ⟨x, rfl, n, rfl, h1, q⟩ := sp1_of h
  refine ⟨_, (pss_one (ps_expr (pe_cal c_check_between_ratios hr (by omega) pass0 rfl (pa_cons (pv 0) (pa_cons pe_int (pa_cons (pe_gc rfl T.vMOST_WIDTH) (pa_cons pe_str pa_nil))))))), ?_⟩
  walk_at "go"
  exact ⟨n, 0, 6, rfl, rfl, rfl, by omega, by omega, q⟩
abbrev s_word_count : Stmt := top 24
abbrev N_word_count : List Str := ["width"]
abbrev P_word_count : List Str := ["width"]
theorem sc_word_count : FnScope N_word_count P_word_count (defScope s_word_count) := ⟨rfl, rfl, rfl, by decide +kernel, rfl, by decide +kernel, by decide +kernel⟩
theorem bi_word_count {K : PySem.W.Frag} {f : Addr} {fd : FuncData} (F : FnF K "word_count" "word_count" s_word_count [] f fd) : Binds K fd P_word_count [] := FunD.bindsN F fun _ _ _ _ _ _ us hl => match us, hl with | [_], _ => rfl
def sp_wc : Sp := sp1 fun v H Q _ => ∃ n : Nat, v = .int n ∧ n ≤ 6 ∧ Q (.int (2 ^ n : Nat)) H
theorem c_word_count (T : Txt W.K W.mg a) (D : DefAt W "word_count" "word_count" "word_count" s_word_count)
    (c_check_width_words : Cal W CX0 3 "check_width_words" P_check_width_words sp_ckw) : Cal W CX0 4 "word_count" P_word_count sp_wc := cal_mk D sc_word_count len1 (fun _ _ => bi_word_count) fun f cdv A outer s H vs Q E hr h => by
  obtain ⟨x, rfl, n, rfl, h1, q⟩ := sp1_of h
  refine ⟨_, (pss_cons (ps_expr (pe_cal c_check_width_words hr (by omega) pass0 rfl (pa_cons (pv 0) pa_nil)))
 (pss_one (ps_ret (pe_op op_shl pe_int (pv 0))))), ?_⟩
  walk_at "go"
  refine ⟨n, rfl, h1, ?_⟩
  walk_at "go"
  refine i_I (cpow1 (by omega)) ?_
  rw [pow1]; exact q
abbrev s_all_words : Stmt := top 25
abbrev N_all_words : List Str := ["width"]
abbrev P_all_words : List Str := ["width"]
theorem sc_all_words : FnScope N_all_words P_all_words (defScope s_all_words) := ⟨rfl, rfl, rfl, by decide +kernel, rfl, by decide +kernel, by decide +kernel⟩
theorem bi_all_words {K : PySem.W.Frag} {f : Addr} {fd : FuncData} (F : FnF K "all_words" "all_words" s_all_words [] f fd) : Binds K fd P_all_words [] := FunD.bindsN F fun _ _ _ _ _ _ us hl => match us, hl with | [_], _ => rfl
def sp_aw : Sp := sp1 fun v H Q _ => ∃ n : Nat, v = .int n ∧ n ≤ 6 ∧ ∀ p H', H p = none → Ext N0 H H' → H' p = some (.lst ((List.range (2 ^ n)).map fun i => V.int (i : Nat))) → Q (.ref p) H'
theorem c_all_words (T : Txt W.K W.mg a) (D : DefAt W "all_words" "all_words" "all_words" s_all_words)
    (c_check_width_words : Cal W CX0 3 "check_width_words" P_check_width_words sp_ckw) : Cal W CX0 4 "all_words" P_all_words sp_aw := cal_mk D sc_all_words len1 (fun _ _ => bi_all_words) fun f cdv A outer s H vs Q E hr h => by
  obtain ⟨x, rfl, n, rfl, h1, q⟩ := sp1_of h
  refine ⟨_, (pss_cons (ps_expr (pe_cal c_check_width_words hr (by omega) pass0 rfl (pa_cons (pv 0) pa_nil)))
 (pss_one (ps_ret (pe_listRg rfl rfl T.list (prg_1 rfl T.range (pe_op op_shl pe_int (pv 0))))))), ?_⟩
  walk_at "go"
  refine ⟨n, rfl, h1, ?_⟩
  walk_at "go"
  refine i_I (cpow1 (by omega)) ?_
  have h2 := pow_le6 h1
  rw [pow1]
  walk_at "go"
  have h3 : ((2 ^ n : Nat) : Int) ≤ 64 := by exact_mod_cast h2
  have h4 : (0 : Int) ≤ ((2 ^ n : Nat) : Int) := Int.natCast_nonneg _
  generalize hm : 2 ^ n = m at *
  refine ⟨⟨by omega, by omega, by omega, by omega, by omega⟩, i_nw fun p H' n' x t => q p _ n' x ?_⟩
  rw [t]
  simp [rgV]
abbrev s_check_integer_tables : Stmt := top 27
abbrev N_check_integer_tables : List Str := ["argument", "value"]
abbrev P_check_integer_tables : List Str := ["argument", "value"]
theorem sc_check_integer_tables : FnScope N_check_integer_tables P_check_integer_tables (defScope s_check_integer_tables) := ⟨rfl, rfl, rfl, by decide +kernel, rfl, by decide +kernel, by decide +kernel⟩
theorem bi_check_integer_tables {K : PySem.W.Frag} {f : Addr} {fd : FuncData} (F : FnF K "check_integer" "check_integer" s_check_integer_tables [] f fd) : Binds K fd P_check_integer_tables [] := FunD.bindsN F fun _ _ _ _ _ _ us hl => match us, hl with | [_, _], _ => rfl
def sp_ckint2 : Sp := sp2 fun g v H Q _ => ∃ i, v = .int i ∧ Q .non H
theorem c_check_integer_tables (T : Txt W.K W.mg a) (D : DefAt W "check_integer_tables" "check_integer" "check_integer" s_check_integer_tables) : Cal W CX0 1 "check_integer_tables" P_check_integer_tables sp_ckint2 := cal_mk D sc_check_integer_tables len2 (fun _ _ => bi_check_integer_tables) fun f cdv A outer s H vs Q E hr h => by
  obtain ⟨x, y, rfl, i, rfl, q⟩ := sp2_of h
  refine ⟨_, (pss_one (ps_if (PW.pt (pw_or (pt_val (pe_callB call_isi rfl T.isinstance (by decide +kernel) (pa_cons (pv 1) (pa_cons (pe_bltn (v := .ty "bool") rfl T.bool (by decide +kernel) rfl) pa_nil)))) (pw_or1 (pt_not (pt_val (pe_callB call_isi rfl T.isinstance (by decide +kernel) (pa_cons (pv 1) (pa_cons (pe_bltn (v := .ty "int") rfl T.int (by decide +kernel) rfl) pa_nil))))))))
  (pss_one ps_never)
  pss_nil)), ?_⟩
  walk_at "go"
  exact q
abbrev s_check_between_tables : Stmt := top 29
abbrev N_check_between_tables : List Str := ["argument", "value", "least", "most"]
abbrev P_check_between_tables : List Str := ["argument", "value", "least", "most"]
theorem sc_check_between_tables : FnScope N_check_between_tables P_check_between_tables (defScope s_check_between_tables) := ⟨rfl, rfl, rfl, by decide +kernel, rfl, by decide +kernel, by decide +kernel⟩
theorem bi_check_between_tables {K : PySem.W.Frag} {f : Addr} {fd : FuncData} (F : FnF K "check_between" "check_between" s_check_between_tables [] f fd) : Binds K fd P_check_between_tables [] := FunD.bindsN F fun _ _ _ _ _ _ us hl => match us, hl with | [_, _, _, _], _ => rfl
def sp_ckbet2 : Sp := sp4 fun g v lo hi H Q _ => ∃ i l h, v = .int i ∧ lo = .int l ∧ hi = .int h ∧ l ≤ i ∧ i ≤ h ∧ Q .non H
theorem c_check_between_tables (T : Txt W.K W.mg a) (D : DefAt W "check_between_tables" "check_between" "check_between" s_check_between_tables)
    (c_check_integer_tables : Cal W CX0 1 "check_integer_tables" P_check_integer_tables sp_ckint2) : Cal W CX0 2 "check_between_tables" P_check_between_tables sp_ckbet2 := cal_mk D sc_check_between_tables len4 (fun _ _ => bi_check_between_tables) fun f cdv A outer s H vs Q E hr h => by
  obtain ⟨x, y, z, u, rfl, i, l, h, rfl, rfl, rfl, h1, h2, q⟩ := sp4_of h
  refine ⟨_, (pss_cons (ps_expr (pe_cal c_check_integer_tables hr (by omega) pass0 rfl (pa_cons (pv 0) (pa_cons (pv 1) pa_nil))))
 (pss_one (ps_if (PW.pt (pw_or (pt_cmpR op_lt (pv 1) (pv 2) (by rfl)) (pw_or1 (pt_cmpR op_gt (pv 1) (pv 3) (by rfl)))))
  (pss_one ps_never)
  pss_nil))), ?_⟩
  walk_at "go"
  refine ⟨i, rfl, ?_⟩
  walk_at "go"
  exact q
abbrev s_check_width_tables : Stmt := top 31
abbrev N_check_width_tables : List Str := ["width"]
abbrev P_check_width_tables : List Str := ["width"]
theorem sc_check_width_tables : FnScope N_check_width_tables P_check_width_tables (defScope s_check_width_tables) := ⟨rfl, rfl, rfl, by decide +kernel, rfl, by decide +kernel, by decide +kernel⟩
theorem bi_check_width_tables {K : PySem.W.Frag} {f : Addr} {fd : FuncData} (F : FnF K "check_width" "check_width" s_check_width_tables [] f fd) : Binds K fd P_check_width_tables [] := FunD.bindsN F fun _ _ _ _ _ _ us hl => match us, hl with | [_], _ => rfl
theorem c_check_width_tables (T : Txt W.K W.mg a) (D : DefAt W "check_width_tables" "check_width" "check_width" s_check_width_tables)
    (c_check_between_tables : Cal W CX0 2 "check_between_tables" P_check_between_tables sp_ckbet2) : Cal W CX0 3 "check_width_tables" P_check_width_tables sp_ckw := cal_mk D sc_check_width_tables len1 (fun _ _ => bi_check_width_tables) fun f cdv A outer s H vs Q E hr h => by
  obtain ⟨x, rfl, n, rfl, h1, q⟩ := sp1_of h
  refine ⟨_, (pss_one (ps_expr (pe_cal c_check_between_tables hr (by omega) pass0 rfl (pa_cons pe_str (pa_cons (pv 0) (pa_cons pe_int (pa_cons (pe_gc rfl T.vMOST_WIDTH) pa_nil))))))), ?_⟩
  walk_at "go"
  exact ⟨n, 0, 6, rfl, rfl, rfl, by omega, by omega, q⟩
abbrev s_check_word : Stmt := top 33
abbrev N_check_word : List Str := ["argument", "width", "word"]
abbrev P_check_word : List Str := ["argument", "width", "word"]
theorem sc_check_word : FnScope N_check_word P_check_word (defScope s_check_word) := ⟨rfl, rfl, rfl, by decide +kernel, rfl, by decide +kernel, by decide +kernel⟩
theorem bi_check_word {K : PySem.W.Frag} {f : Addr} {fd : FuncData} (F : FnF K "check_word" "check_word" s_check_word [] f fd) : Binds K fd P_check_word [] := FunD.bindsN F fun _ _ _ _ _ _ us hl => match us, hl with | [_, _, _], _ => rfl
def sp_ckword : Sp := sp3 fun g v w H Q _ => ∃ n i : Nat, v = .int n ∧ w = .int i ∧ n ≤ 6 ∧ i < 2 ^ n ∧ Q .non H
theorem c_check_word (T : Txt W.K W.mg a) (D : DefAt W "check_word" "check_word" "check_word" s_check_word)
    (c_check_between_tables : Cal W CX0 2 "check_between_tables" P_check_between_tables sp_ckbet2) : Cal W CX0 3 "check_word" P_check_word sp_ckword := cal_mk D sc_check_word len3 (fun _ _ => bi_check_word) fun f cdv A outer s H vs Q E hr h => by
  obtain ⟨x, y, z, rfl, n, i, rfl, rfl, h1, h2, q⟩ := sp3_of h
  refine ⟨_, (pss_one (ps_expr (pe_cal c_check_between_tables hr (by omega) pass0 rfl (pa_cons (pv 0) (pa_cons (pv 2) (pa_cons pe_int (pa_cons (pe_op op_sub (pe_op op_shl pe_int (pv 1)) pe_int) pa_nil))))))), ?_⟩
  walk_at "go"
  refine i_I (cpow1 (by omega)) ?_
  rw [pow1]
  walk_at "go"
  exact ⟨_, _, _, rfl, rfl, rfl, by omega, by omega, q⟩
abbrev s_check_place : Stmt := top 34
abbrev N_check_place : List Str := ["width", "place"]
abbrev P_check_place : List Str := ["width", "place"]
theorem sc_check_place : FnScope N_check_place P_check_place (defScope s_check_place) := ⟨rfl, rfl, rfl, by decide +kernel, rfl, by decide +kernel, by decide +kernel⟩
theorem bi_check_place {K : PySem.W.Frag} {f : Addr} {fd : FuncData} (F : FnF K "check_place" "check_place" s_check_place [] f fd) : Binds K fd P_check_place [] := FunD.bindsN F fun _ _ _ _ _ _ us hl => match us, hl with | [_, _], _ => rfl
def sp_ckplace : Sp := sp2 fun v w H Q _ => ∃ n i : Nat, v = .int n ∧ w = .int i ∧ i < n ∧ Q .non H
theorem c_check_place (T : Txt W.K W.mg a) (D : DefAt W "check_place" "check_place" "check_place" s_check_place)
    (c_check_between_tables : Cal W CX0 2 "check_between_tables" P_check_between_tables sp_ckbet2) : Cal W CX0 3 "check_place" P_check_place sp_ckplace := cal_mk D sc_check_place len2 (fun _ _ => bi_check_place) fun f cdv A outer s H vs Q E hr h => by
  obtain ⟨x, y, rfl, n, i, rfl, rfl, h2, q⟩ := sp2_of h
  refine ⟨_, (pss_one (ps_expr (pe_cal c_check_between_tables hr (by omega) pass0 rfl (pa_cons pe_str (pa_cons (pv 1) (pa_cons pe_int (pa_cons (pe_op op_sub (pv 0) pe_int) pa_nil))))))), ?_⟩
  walk_at "go"
  exact ⟨_, _, _, rfl, rfl, rfl, by omega, by omega, q⟩
abbrev s_check_row : Stmt := top 35
abbrev N_check_row : List Str := ["argument", "row", "least", "most"]
abbrev P_check_row : List Str := ["argument", "row", "least", "most"]
theorem sc_check_row : FnScope N_check_row P_check_row (defScope s_check_row) := ⟨rfl, rfl, rfl, by decide +kernel, rfl, by decide +kernel, by decide +kernel⟩
theorem bi_check_row {K : PySem.W.Frag} {f : Addr} {fd : FuncData} (F : FnF K "check_row" "check_row" s_check_row [] f fd) : Binds K fd P_check_row [] := FunD.bindsN F fun _ _ _ _ _ _ us hl => match us, hl with | [_, _, _, _], _ => rfl
def sp_ckrow : Sp := sp4 fun g r lo hi H Q _ => ∃ p xs l h, r = .ref p ∧ H p = some (.lst xs) ∧ lo = .int l ∧ hi = .int h ∧ l ≤ xs.length ∧ xs.length ≤ h ∧ ∀ H', Ext N0 H H' → Q .non H'
theorem c_check_row (T : Txt W.K W.mg a) (D : DefAt W "check_row" "check_row" "check_row" s_check_row) : Cal W CX0 1 "check_row" P_check_row sp_ckrow := cal_mk D sc_check_row len4 (fun _ _ => bi_check_row) fun f cdv A outer s H vs Q E hr h => by
  obtain ⟨x, y, z, u, rfl, p, xs, l, h, rfl, hp, rfl, rfl, h1, h2, q⟩ := sp4_of h
  refine ⟨_, (pss_cons (ps_if (pt_not (pt_val (pe_callB call_isiT rfl T.isinstance (by decide +kernel) (pa_cons (pv 1) (pa_cons (pe_tup (pa_cons (pe_bltn (v := .ty "list") rfl T.list (by decide +kernel) rfl) (pa_cons (pe_bltn (v := .ty "tuple") rfl T.tuple (by decide +kernel) rfl) pa_nil))) pa_nil)))))
  (pss_one ps_never)
  pss_nil)
 (pss_one (ps_if (PW.pt (pw_or (pt_cmpR op_lt (pe_callB call_len_seq rfl T.len PySem.boot_len (pa_cons (pv 1) pa_nil)) (pv 2) (by rfl)) (pw_or1 (pt_cmpR op_gt (pe_callB call_len_seq rfl T.len PySem.boot_len (pa_cons (pv 1) pa_nil)) (pv 3) (by rfl)))))
  (pss_one ps_never)
  pss_nil))), ?_⟩
  walk_at "go"
  refine i_nwT (by simp) fun p1 H1 n1 x1 t1 => ?_
  walk_at "go"
  have hp1 := x1 _ _ (fun z => z) hp
  refine ⟨_, _, _, _, [.type "list", .type "tuple"], true, rfl, t1, .cons (.ty _) (.cons (.ty _) .nil), .base (.lst hp1), by rfl, ?_⟩
  walk_at "go"
  refine i_lnL (by walk_at "sq") ?_
  walk_at "go"
  refine i_lnL (by walk_at "sq") ?_
  walk_at "go"
  exact q _ x1
abbrev s_check_bits : Stmt := top 36
abbrev N_check_bits : List Str := ["bits", "least", "most", "bit"]
abbrev P_check_bits : List Str := ["bits", "least", "most"]
theorem sc_check_bits : FnScope N_check_bits P_check_bits (defScope s_check_bits) := ⟨rfl, rfl, rfl, by decide +kernel, rfl, by decide +kernel, by decide +kernel⟩
theorem bi_check_bits {K : PySem.W.Frag} {f : Addr} {fd : FuncData} (F : FnF K "check_bits" "check_bits" s_check_bits [] f fd) : Binds K fd P_check_bits [] := FunD.bindsN F fun _ _ _ _ _ _ us hl => match us, hl with | [_, _, _], _ => rfl
def sp_ckbits : Sp := sp3 fun r lo hi H Q _ => ∃ p l h, ∃ bs : List Int, r = .ref p ∧ H p = some (.lst (bs.map V.int)) ∧ (∀ b ∈ bs, b = 0 ∨ b = 1) ∧ lo = .int l ∧ hi = .int h ∧ l ≤ bs.length ∧ bs.length ≤ h ∧ ∀ H', Ext N0 H H' → Q .non H'
theorem c_check_bits (T : Txt W.K W.mg a) (D : DefAt W "check_bits" "check_bits" "check_bits" s_check_bits) (c_check_row : Cal W CX0 1 "check_row" P_check_row sp_ckrow)
    (c_check_between_tables : Cal W CX0 2 "check_between_tables" P_check_between_tables sp_ckbet2) : Cal W CX0 3 "check_bits" P_check_bits sp_ckbits := cal_mk D sc_check_bits len3 (fun _ _ => bi_check_bits) fun f cdv A outer s H vs Q E hr h => by
  obtain ⟨x, y, z, rfl, p, l, hi, bs, rfl, hp, hb, rfl, rfl, h1, h2, q⟩ := sp3_of h
  refine ⟨_, (PSs.nox (pss_cons (ps_expr (pe_cal c_check_row hr (by omega) pass0 rfl (pa_cons pe_str (pa_cons (pv 0) (pa_cons (pv 1) (pa_cons (pv 2) pa_nil))))))
 (pss_one (ps_for PassesOwn.never rfl (pi_list (pv 0)) (pg_name (i := 3) sc_check_bits.nd rfl (by first | exact Or.inl rfl | exact Or.inr rfl))
  (pss_one (ps_expr (pe_cal c_check_between_tables hr (by omega) pass0 rfl (pa_cons pe_str (pa_cons (pv 3) (pa_cons pe_int (pa_cons pe_int pa_nil))))))))))), ?_⟩
  walk_at "go"
  refine ⟨_, _, _, _, rfl, hp, rfl, rfl, by simpa using h1, by simpa using h2, fun H1 x1 => ?_⟩
  walk_at "go"
  have hp1 := x1 _ _ (fun z => z) hp
  refine f_list (SqL.of hp1) (fun _ σ Hx => (∃ v, σ = [some (.ref p), some (.int l), some (.int hi), v]) ∧ Hx = H1) ⟨⟨_, rfl⟩, rfl⟩ (fun _ _ _ _ e => e.2 ▸ SqL.of hp1) ?_ (fun σ Hx e => e.2 ▸ q _ x1)
  rintro i v σ Hx hv ⟨⟨_, rfl⟩, rfl⟩
  obtain ⟨b, hb1, rfl⟩ := getI hv
  walk_at "go"
  have hb2 := hb b (List.mem_of_getElem? hb1)
  refine ⟨b, 0, 1, rfl, rfl, rfl, by omega, by omega, ?_⟩
  walk_at "go"
  exact ⟨⟨_, rfl⟩, rfl⟩
end Bs
set_option Elab.async false
set_option linter.all false
set_option maxRecDepth 100000
set_option maxHeartbeats 400000
namespace Bs
open PySem PySem.Spec PyProof.Rows L2 SX
open C8 (pe_gc pss_cut)
local macro_rules | `(tactic| walk_at "xt") => `(tactic| first | assumption | exact Ext.weak (by assumption) | exact Ext.is (by assumption) (by assumption) | exact Ext.plus (by assumption) | exact Ext.plus (Ext.weak (by assumption)) | exact Ext.plus (Ext.is (by assumption) (by assumption)) | exact Ext.set plus_self)
local macro_rules | `(tactic| walk_at "gr") => `(tactic| first | assumption | exact Ext.grow (by assumption) | exact Grow.upd)
local macro_rules | `(tactic| walk_at "mo") => `(tactic| first | assumption | exact MOk.zero | ((first | refine MOk.grow ?_ (by walk_at "gr") | exact MOk.upd (by walk_at "mo")); walk_at "mo") | exact MOk.plus (by walk_at "mo") (by assumption))
local macro_rules | `(tactic| walk_at "hp") => `(tactic| first
  | assumption | exact At.raw (by assumption)
  | exact At.mk' (by walk_at "mo") (by assumption) (by assumption)
  | ((first | refine At.ext (by walk_at "xt") ?_ | refine Rp.ext (by walk_at "xt") ?_ | refine RpA.ext (by walk_at "xt") ?_ | refine Tb.ext (by walk_at "xt") ?_); walk_at "hp")
  | ((first | refine At.plus (by assumption) ?_ | refine Rp.plus (by assumption) ?_ | refine RpA.plus (by assumption) ?_ | refine Tb.plus (by assumption) ?_); walk_at "hp"))
local macro_rules | `(tactic| walk_at "at") => `(tactic| first | assumption | exact At.get (M := N0) (by walk_at "hp"))
local macro_rules | `(tactic| walk_at "sq") => `(tactic| first | exact SqL.of (by walk_at "at") | exact SqT.of (by walk_at "at"))
local macro_rules | `(tactic| walk_at "st") => `(tactic| with_reducible first
  | refine i_seq ?_ | refine i_asg ?_ | refine i_ret ?_ | refine i_retN ?_ | refine i_drop ?_ | refine i_ifS ?_ | refine i_next ?_ | refine i_brk ?_
  | refine i_gname ?_ | refine i_gsub ?_ | refine i_c ?_ | refine i_op ?_ | refine i_un ?_ | refine i_I0 ?_ | refine i_U ?_ | refine i_isN ?_ | refine i_notN ?_
  | refine i_test ?_ | refine i_tB ?_ | refine i_bl ?_ | refine i_and ?_ | refine i_or ?_ | refine i_not ?_ | refine i_andV ?_ | refine i_orV ?_ | refine i_notV ?_ | refine i_ifE ?_
  | refine i_nil ?_ | refine i_cons ?_ | refine i_for ?_ | refine i_iL ?_ | refine i_iT ?_ | refine i_iR ?_ | refine i_lc ?_ | refine i_prp ?_ | refine i_mk ?_ | refine i_sS ?_ | refine i_sN ?_ | refine i_nsS ?_ | refine i_nsN ?_ | refine i_fld ?_ | refine i_sf ?_ | refine i_inO ?_ | refine i_lsO ?_ | refine i_tpO ?_ | refine i_lnO ?_ | refine i_cb ?_ | refine i_call ?_ | refine i_tup ?_ | refine i_lst ?_ | refine i_dnew ?_ | refine i_inI ?_ | refine i_inB ?_ | refine i_rgX ?_ | refine i_lrO ?_ | refine i_rg1 ?_ | refine i_nF ?_ | refine i_nT ?_ | refine i_tt ?_ | refine i_ff ?_ | refine i_ifT ?_ | refine i_ifF ?_
  | refine i_eqI ?_ | refine i_eqS ?_ | refine i_eqB ?_ | refine i_neI ?_ | refine i_neS ?_ | refine i_dR ?_ | refine i_dI ?_ | refine i_dT ?_ | refine i_dS ?_ | refine i_dN ?_ | refine i_nR ?_ | refine i_nI ?_ | refine i_nN ?_
  | (refine i_var (by with_unfolding_all rfl) ?_) | refine i_eq rfl ?_ | refine i_ne rfl ?_)
local macro_rules | `(tactic| walk_at "sc") => `(tactic| first | exact (Rp.int (M := N0) _) | exact (Rp.str (M := N0) _) | exact (Rp.bl (M := N0) _) | exact (Rp.non (M := N0)) | assumption | exact Rp.tab (by assumption) | exact Tb.rp (by assumption))
local macro_rules | `(tactic| walk_at "sd") => `(tactic| simp only [d_Bool_non, d_Bool_bl, d_Bool_int, d_Bool_str, d_Bool_lst, d_Bool_tup, d_Bool_tab, d_Bool_dic, d_Int_non, d_Int_bl, d_Int_int, d_Int_str, d_Int_lst, d_Int_tup, d_Int_tab, d_Int_dic, d_Str_non, d_Str_bl, d_Str_int, d_Str_str, d_Str_lst, d_Str_tup, d_Str_tab, d_Str_dic, d_List_non, d_List_bl, d_List_int, d_List_str, d_List_lst, d_List_tup, d_List_tab, d_List_dic, d_Tup_non, d_Tup_bl, d_Tup_int, d_Tup_str, d_Tup_lst, d_Tup_tup, d_Tup_tab, d_Tup_dic, d_Tab_non, d_Tab_bl, d_Tab_int, d_Tab_str, d_Tab_lst, d_Tab_tup, d_Tab_tab, d_Tab_dic, Bool.not_true, Bool.not_false, Bool.true_or, Bool.false_or, Bool.or_true, Bool.or_false, Bool.and_true, Bool.true_and, Bool.and_false, Bool.false_and, if_true, if_false, Bool.false_eq_true])
local macro_rules | `(tactic| walk_at "isi") => `(tactic| ((first | with_reducible apply i_isB | with_reducible apply i_isI | with_reducible apply i_isS | with_reducible apply i_isL | with_reducible apply i_isT | with_reducible apply i_isTab); (focus assumption); (focus walk_at "sc"); try simp only [d_Bool_non, d_Bool_bl, d_Bool_int, d_Bool_str, d_Bool_lst, d_Bool_tup, d_Bool_tab, d_Bool_dic, d_Int_non, d_Int_bl, d_Int_int, d_Int_str, d_Int_lst, d_Int_tup, d_Int_tab, d_Int_dic, d_Str_non, d_Str_bl, d_Str_int, d_Str_str, d_Str_lst, d_Str_tup, d_Str_tab, d_Str_dic, d_List_non, d_List_bl, d_List_int, d_List_str, d_List_lst, d_List_tup, d_List_tab, d_List_dic, d_Tup_non, d_Tup_bl, d_Tup_int, d_Tup_str, d_Tup_lst, d_Tup_tup, d_Tup_tab, d_Tup_dic, d_Tab_non, d_Tab_bl, d_Tab_int, d_Tab_str, d_Tab_lst, d_Tab_tup, d_Tab_tab, d_Tab_dic]))
local macro_rules | `(tactic| walk_at "om") => `(tactic| first | ((with_reducible refine i_decF ?_ ?_); (focus omega)) | ((with_reducible refine i_decT ?_ ?_); (focus omega)) | ((with_reducible refine i_ndecF ?_ ?_); (focus omega)) | ((with_reducible refine i_ndecT ?_ ?_); (focus omega)))
local macro_rules | `(tactic| walk_at "go") => `(tactic| ((repeat (first | walk_at "st" | walk_at "isi" | walk_at "om")); try dsimp only [List.set]))
variable {W : Wd} {a : Ad}
/-! D2: the class of tables. -/
theorem one_dx {H : Hp} {x dx p : Addr} {o u v : HO} (hp : H p = some o) (n1 : H x = none) (n2 : H dx = none) : upd (upd H dx u) x v p = some o := by
  rw [upd_ne (ne_of_none hp n1), upd_ne (ne_of_none hp n2)]; exact hp
def sp_init (ct : Addr) : Sp := sp3 fun x w b H Q _ => ∃ p dx q, ∃ n : Nat, ∃ bs : List Int, x = .ref p ∧ w = .int n ∧ b = .ref q ∧ H p = some (.ins ct dx []) ∧ H q = some (.lst (bs.map V.int)) ∧ TabOk n bs ∧ ∀ H' t, H t = none → Ext (Is p) H H' → H' p = some (.ins ct dx (tf n t)) → H' t = some (.tup (bs.map V.int)) → Q .non H'
abbrev s_Table_init : Stmt := inClass (top 37) 0
abbrev N_Table_init : List Str := ["self", "width", "bits"]
abbrev P_Table_init : List Str := ["self", "width", "bits"]
theorem sc_Table_init : FnScope N_Table_init P_Table_init (defScope s_Table_init) := ⟨rfl, rfl, rfl, by decide +kernel, rfl, by decide +kernel, by decide +kernel⟩
theorem bi_Table_init {K : PySem.W.Frag} {f : Addr} {fd : FuncData} (F : FnF K "__init__" "Table.__init__" s_Table_init [] f fd) : Binds K fd P_Table_init [] := FunD.bindsN F fun _ _ _ _ _ _ us hl => match us, hl with | [_, _, _], _ => rfl
theorem m_init (T : Txt W.K W.mg a) {f : Addr} {fd : FuncData} (F : FnF W.K "__init__" "Table.__init__" s_Table_init [] f fd)
    (c_check_width_tables : Cal W CX0 3 "check_width_tables" P_check_width_tables sp_ckw) (c_check_bits : Cal W CX0 3 "check_bits" P_check_bits sp_ckbits) : FnOk W.P W.w W.K W.mg W.base CX0 4 f fd P_Table_init (sp_init a.ct) := mth_mk F sc_Table_init len3 fun f cdv A outer s H vs Q E hr h => by
  obtain ⟨x, y, z, rfl, p, dx, b, n, bs, rfl, rfl, rfl, hp, hb, ok, q⟩ := sp3_of h
  obtain ⟨k1, k2, k3⟩ := id ok
  refine ⟨_, (pss_cons (ps_expr (pe_cal c_check_width_tables hr (by omega) pass0 rfl (pa_cons (pv 1) pa_nil)))
 (pss_cons (ps_expr (pe_cal c_check_bits hr (by omega) pass0 rfl (pa_cons (pv 2) (pa_cons (pe_op op_shl pe_int (pv 1)) (pa_cons (pe_op op_shl pe_int (pv 1)) pa_nil)))))
 (pss_cons (ps_fld (pv 0) (pv 1) rfl)
 (pss_one (ps_fld (pv 0) (pe_callTy call_tuple_of rfl T.tuple (by decide +kernel) (pa_cons (pv 2) pa_nil)) rfl))))), ?_⟩
  walk_at "go"
  refine ⟨n, rfl, k1, ?_⟩
  walk_at "go"
  have h2 : ((1 : Int) * 2 ^ ((n : Int)).toNat) = ((2 ^ n : Nat) : Int) := pow1 n
  refine i_I (cpow1 (by omega)) ?_
  rw [h2]
  walk_at "go"
  refine i_I (cpow1 (by omega)) ?_
  rw [h2]
  walk_at "go"
  refine ⟨_, _, _, bs, rfl, hb, k3, rfl, rfl, by omega, by omega, fun H1 x1 => ?_⟩
  walk_at "go"
  have hp1 := x1 _ _ (fun z => z) hp
  refine ⟨_, _, _, _, rfl, hp1, T.cls, T.nW, by decide, ?_⟩
  walk_at "go"
  have hbp : b ≠ p := fun e => by rw [e, hp] at hb; cases hb
  have hb1 : upd H1 p (.ins a.ct dx (putF "wide" (.int n) [])) b = some (.lst (bs.map V.int)) := by rw [upd_ne hbp]; exact x1 _ _ (fun z => z) hb
  refine i_tpL (SqL.of hb1) fun t H2 n2 x2 t2 => ?_
  walk_at "go"
  have hp2 := x2 _ _ (fun z => z) (upd_same (H := H1) (a := p) (o := .ins a.ct dx (putF "wide" (.int n) [])))
  have hpt : t ≠ p := fun e => by rw [e, upd_same] at n2; cases n2
  refine ⟨_, _, _, _, rfl, hp2, T.cls, T.nH, (by show 1 < 1000; decide), ?_⟩
  refine q _ t ?_ ?_ ?_ ?_
  · rw [upd_ne hpt] at n2; exact x1.free n2
  · exact (x1.weak.trans (Ext.set (M := Is p) rfl)).trans (x2.weak.trans (Ext.set (M := Is p) rfl))
  · rw [upd_same]; rfl
  · rw [upd_ne hpt]; exact t2
/-- Table(n, bs) -/
theorem i_mkT {ct : Addr} {H : Hp} {Q : VK} {M : Mt} {n : Nat} {bs : List Int} {q : Addr} (m : MOk M H) (hq : H q = some (.lst (bs.map V.int))) (ok : TabOk n bs) (k : ∀ x H', H x = none → Ext N0 H H' → Tb ct M H' x n bs → MOk M H' → Q (.ref x) H') :
    ∀ (x dx : Addr), H x = none → H dx = none → dx ≠ x → sp_init ct (V.ref x :: ([V.int n, .ref q] ++ [])) (upd (upd H dx (HO.own x)) x (HO.ins ct dx [])) (fun v H2 => v = V.non ∧ Q (V.ref x) H2) E0 := fun x dx n1 n2 d => by
  refine ⟨x, dx, q, n, bs, rfl, rfl, rfl, upd_same, one_dx hq n1 n2, ok, fun H' t nt xx h1 h2 => ⟨rfl, ?_⟩⟩
  have e : Ext N0 H H' := fun b o _ hb => xx b o (ne_of_none hb n1) (one_dx hb n1 n2)
  have ntH : H t = none := by
    by_cases h1 : t = x
    · rw [h1]; exact n1
    · rw [upd_ne h1] at nt
      by_cases h3 : t = dx
      · rw [h3]; exact n2
      · rw [upd_ne h3] at nt; exact nt
  exact k x H' n1 e ⟨ok, dx, t, ⟨fun z => m x z n1, h1⟩, ⟨fun z => m t z ntH, h2⟩⟩ (m.grow e.grow)
def sp_wid (ct : Addr) : Sp := sp1 fun x H Q _ => ∃ p M n bs, x = .ref p ∧ Tb ct M H p n bs ∧ Q (.int n) H
abbrev s_Table_width : Stmt := inClass (top 37) 3
abbrev N_Table_width : List Str := ["self"]
abbrev P_Table_width : List Str := ["self"]
theorem sc_Table_width : FnScope N_Table_width P_Table_width (defScope s_Table_width) := ⟨rfl, rfl, rfl, by decide +kernel, rfl, by decide +kernel, by decide +kernel⟩
theorem bi_Table_width {K : PySem.W.Frag} {f : Addr} {fd : FuncData} (F : FnF K "width" "Table.width" s_Table_width [] f fd) : Binds K fd P_Table_width [] := FunD.bindsN F fun _ _ _ _ _ _ us hl => match us, hl with | [_], _ => rfl
theorem m_width (T : Txt W.K W.mg a) {f : Addr} {fd : FuncData} (F : FnF W.K "width" "Table.width" s_Table_width [] f fd) : FnOk W.P W.w W.K W.mg W.base CX0 1 f fd P_Table_width (sp_wid a.ct) := mth_mk F sc_Table_width len1 fun f cdv A outer s H vs Q E hr h => by
  obtain ⟨x, rfl, p, M, n, bs, rfl, ⟨ok, dx, t, h1, h2⟩, q⟩ := sp1_of h
  refine ⟨_, (pss_one (ps_ret (pe_fld (pv 0) rfl))), ?_⟩
  walk_at "go"
  exact i_wide T h1 q
def sp_bits (ct : Addr) : Sp := sp1 fun x H Q _ => ∃ p M n bs, x = .ref p ∧ Tb ct M H p n bs ∧ ∀ t, At M H t (.tup (bs.map V.int)) → Q (.ref t) H
abbrev s_Table_bits : Stmt := inClass (top 37) 4
abbrev N_Table_bits : List Str := ["self"]
abbrev P_Table_bits : List Str := ["self"]
theorem sc_Table_bits : FnScope N_Table_bits P_Table_bits (defScope s_Table_bits) := ⟨rfl, rfl, rfl, by decide +kernel, rfl, by decide +kernel, by decide +kernel⟩
theorem bi_Table_bits {K : PySem.W.Frag} {f : Addr} {fd : FuncData} (F : FnF K "bits" "Table.bits" s_Table_bits [] f fd) : Binds K fd P_Table_bits [] := FunD.bindsN F fun _ _ _ _ _ _ us hl => match us, hl with | [_], _ => rfl
theorem m_bits (T : Txt W.K W.mg a) {f : Addr} {fd : FuncData} (F : FnF W.K "bits" "Table.bits" s_Table_bits [] f fd) : FnOk W.P W.w W.K W.mg W.base CX0 1 f fd P_Table_bits (sp_bits a.ct) := mth_mk F sc_Table_bits len1 fun f cdv A outer s H vs Q E hr h => by
  obtain ⟨x, rfl, p, M, n, bs, rfl, ⟨ok, dx, t, h1, h2⟩, q⟩ := sp1_of h
  refine ⟨_, (pss_one (ps_ret (pe_fld (pv 0) rfl))), ?_⟩
  walk_at "go"
  exact i_held T h1 (q t h2)
def sp_ones (ct : Addr) : Sp := sp1 fun x H Q _ => ∃ p M n bs, x = .ref p ∧ Tb ct M H p n bs ∧ Q (.int bs.sum) H
abbrev s_Table_ones : Stmt := inClass (top 37) 5
abbrev N_Table_ones : List Str := ["self"]
abbrev P_Table_ones : List Str := ["self"]
theorem sc_Table_ones : FnScope N_Table_ones P_Table_ones (defScope s_Table_ones) := ⟨rfl, rfl, rfl, by decide +kernel, rfl, by decide +kernel, by decide +kernel⟩
theorem bi_Table_ones {K : PySem.W.Frag} {f : Addr} {fd : FuncData} (F : FnF K "ones" "Table.ones" s_Table_ones [] f fd) : Binds K fd P_Table_ones [] := FunD.bindsN F fun _ _ _ _ _ _ us hl => match us, hl with | [_], _ => rfl
theorem m_ones (T : Txt W.K W.mg a) {f : Addr} {fd : FuncData} (F : FnF W.K "ones" "Table.ones" s_Table_ones [] f fd) : FnOk W.P W.w W.K W.mg W.base CX0 1 f fd P_Table_ones (sp_ones a.ct) := mth_mk F sc_Table_ones len1 fun f cdv A outer s H vs Q E hr h => by
  obtain ⟨x, rfl, p, M, n, bs, rfl, ⟨ok, dx, t, h1, h2⟩, q⟩ := sp1_of h
  refine ⟨_, (pss_one (ps_ret (pe_callB (cr_sumT rfl) rfl T.sum (by decide +kernel) (pa_cons (pe_fld (pv 0) rfl) pa_nil)))), ?_⟩
  walk_at "go"
  refine i_held T h1 ?_
  walk_at "go"
  exact ⟨t, bs, rfl, SqT.of h2.2, q⟩
def sp_get (ct : Addr) : Sp := sp2 fun x w H Q _ => ∃ p M n bs, ∃ i : Nat, ∃ b : Int, x = .ref p ∧ w = .int i ∧ Tb ct M H p n bs ∧ bs[i]? = some b ∧ Q (.int b) H
abbrev s_Table_getitem : Stmt := inClass (top 37) 10
abbrev N_Table_getitem : List Str := ["self", "word"]
abbrev P_Table_getitem : List Str := ["self", "word"]
theorem sc_Table_getitem : FnScope N_Table_getitem P_Table_getitem (defScope s_Table_getitem) := ⟨rfl, rfl, rfl, by decide +kernel, rfl, by decide +kernel, by decide +kernel⟩
theorem bi_Table_getitem {K : PySem.W.Frag} {f : Addr} {fd : FuncData} (F : FnF K "__getitem__" "Table.__getitem__" s_Table_getitem [] f fd) : Binds K fd P_Table_getitem [] := FunD.bindsN F fun _ _ _ _ _ _ us hl => match us, hl with | [_, _], _ => rfl
theorem m_get (T : Txt W.K W.mg a) {f : Addr} {fd : FuncData} (F : FnF W.K "__getitem__" "Table.__getitem__" s_Table_getitem [] f fd) (c_check_word : Cal W CX0 3 "check_word" P_check_word sp_ckword) : FnOk W.P W.w W.K W.mg W.base CX0 4 f fd P_Table_getitem (sp_get a.ct) := mth_mk F sc_Table_getitem len2 fun f cdv A outer s H vs Q E hr h => by
  obtain ⟨x, y, rfl, p, M, n, bs, i, b, rfl, rfl, ⟨ok, dx, t, h1, h2⟩, hi, q⟩ := sp2_of h
  refine ⟨_, (pss_cons (ps_expr (pe_cal c_check_word hr (by omega) pass0 rfl (pa_cons pe_str (pa_cons (pe_fld (pv 0) rfl) (pa_cons (pv 1) pa_nil)))))
 (pss_one (ps_ret (pe_ix ix_seq (pe_fld (pv 0) rfl) (pv 1) (fun _ _ => rfl))))), ?_⟩
  walk_at "go"
  refine i_wide T h1 ?_
  walk_at "go"
  have hl := (List.getElem?_eq_some_iff.mp hi).1
  refine ⟨n, i, rfl, rfl, ok.1, by rw [← ok.2.1]; exact hl, ?_⟩
  walk_at "go"
  refine i_held T h1 ?_
  walk_at "go"
  exact .inr (.inl (i_ixT h2 (atI_nat (by rw [List.getElem?_map, hi]; rfl)) q))
def sp_eq (ct : Addr) : Sp := sp2 fun x y H Q _ => ∃ p M n bs p' n' bs', x = .ref p ∧ y = .ref p' ∧ Tb ct M H p n bs ∧ Tb ct M H p' n' bs' ∧ Q (.bl (decide (n = n' ∧ bs = bs'))) H
abbrev s_Table_eq : Stmt := inClass (top 37) 12
abbrev N_Table_eq : List Str := ["self", "other"]
abbrev P_Table_eq : List Str := ["self", "other"]
theorem sc_Table_eq : FnScope N_Table_eq P_Table_eq (defScope s_Table_eq) := ⟨rfl, rfl, rfl, by decide +kernel, rfl, by decide +kernel, by decide +kernel⟩
theorem bi_Table_eq {K : PySem.W.Frag} {f : Addr} {fd : FuncData} (F : FnF K "__eq__" "Table.__eq__" s_Table_eq [] f fd) : Binds K fd P_Table_eq [] := FunD.bindsN F fun _ _ _ _ _ _ us hl => match us, hl with | [_, _], _ => rfl
theorem m_eq (T : Txt W.K W.mg a) {f : Addr} {fd : FuncData} (F : FnF W.K "__eq__" "Table.__eq__" s_Table_eq [] f fd) : FnOk W.P W.w W.K W.mg W.base CX0 1 f fd P_Table_eq (sp_eq a.ct) := mth_mk F sc_Table_eq len2 fun f cdv A outer s H vs Q E hr h => by
  obtain ⟨x, y, rfl, p, M, n, bs, p', n', bs', rfl, rfl, ⟨ok, dx, t, h1, h2⟩, ⟨ok', dx', t', h1', h2'⟩, q⟩ := sp2_of h
  refine ⟨_, (pss_one (ps_ret (pe_and (pe_callB call_isi rfl T.isinstance (by decide +kernel) (pa_cons (pv 1) (pa_cons (pe_gc rfl T.vTable) pa_nil))) (pe_and (pe_cmpR op_eq (pe_fld (pv 0) rfl) (pe_fld (pv 1) rfl) (by rfl)) (pe_one (pe_cmpR (op_eqD (hr.units)) (pe_fld (pv 0) rfl) (pe_fld (pv 1) rfl) (by rfl))))))), ?_⟩
  walk_at "go"
  refine i_wide T h1 ?_
  walk_at "go"
  refine i_wide T h1' ?_
  walk_at "go"
  refine i_dec (fun e => ?_) (fun e => ?_)
  · walk_at "go"
    refine i_held T h1 ?_
    walk_at "go"
    refine i_held T h1' ?_
    refine i_eqTI (SqT.of h2.2) (SqT.of h2'.2) ?_
    have e' : n = n' := by omega
    rw [show decide (n = n' ∧ bs = bs') = decide (bs = bs') by simp [e']] at q
    exact q
  · have e' : n ≠ n' := fun z => e (by rw [z])
    rw [show decide (n = n' ∧ bs = bs') = false by simp [e']] at q
    exact q
section
variable {ct : Addr} {Q : VK} {p : Addr} {M : Mt} {H : Hp} {n : Nat} {bs : List Int}
theorem i_pwid (h : Tb ct M H p n bs) (q : Q (.int n) H) : PrpK ct (sp_wid ct) Q (.ref p) H := let ⟨_, dx, _, h1, _⟩ := id h; ⟨p, dx, _, rfl, h1.2, p, M, n, bs, rfl, h, q⟩
theorem i_pones (h : Tb ct M H p n bs) (q : Q (.int bs.sum) H) : PrpK ct (sp_ones ct) Q (.ref p) H := let ⟨_, dx, _, h1, _⟩ := id h; ⟨p, dx, _, rfl, h1.2, p, M, n, bs, rfl, h, q⟩
theorem i_pbits (h : Tb ct M H p n bs) (q : ∀ t, At M H t (.tup (bs.map V.int)) → Q (.ref t) H) : PrpK ct (sp_bits ct) Q (.ref p) H := let ⟨_, dx, _, h1, _⟩ := id h; ⟨p, dx, _, rfl, h1.2, p, M, n, bs, rfl, h, q⟩
theorem i_mkTb {q : Addr} (m : MOk M H) (hq : H q = some (.lst (bs.map V.int))) (ok : TabOk n bs) (k : ∀ x H', H x = none → Ext N0 H H' → Tb ct M H' x n bs → MOk M H' → Q (.ref x) H') : MkK ct (sp_init ct) Q [.int n, .ref q] H := i_mkT m hq ok k
end
end Bs
set_option Elab.async false
set_option linter.all false
set_option maxRecDepth 100000
set_option maxHeartbeats 400000
namespace Bs
open PySem PySem.Spec PyProof.Rows L2 SX
open C8 (pe_gc pss_cut)
local macro_rules | `(tactic| walk_at "xt") => `(tactic| first | assumption | exact Ext.weak (by assumption) | exact Ext.is (by assumption) (by assumption) | exact Ext.plus (by assumption) | exact Ext.plus (Ext.weak (by assumption)) | exact Ext.plus (Ext.is (by assumption) (by assumption)) | exact Ext.set plus_self)
local macro_rules | `(tactic| walk_at "gr") => `(tactic| first | assumption | exact Ext.grow (by assumption) | exact Grow.upd)
local macro_rules | `(tactic| walk_at "mo") => `(tactic| first | assumption | exact MOk.zero | ((first | refine MOk.grow ?_ (by walk_at "gr") | exact MOk.upd (by walk_at "mo")); walk_at "mo") | exact MOk.plus (by walk_at "mo") (by assumption))
local macro_rules | `(tactic| walk_at "hp") => `(tactic| first
  | assumption | exact At.raw (by assumption)
  | exact At.mk' (by walk_at "mo") (by assumption) (by assumption)
  | ((first | refine At.ext (by walk_at "xt") ?_ | refine Rp.ext (by walk_at "xt") ?_ | refine RpA.ext (by walk_at "xt") ?_ | refine Tb.ext (by walk_at "xt") ?_); walk_at "hp")
  | ((first | refine At.plus (by assumption) ?_ | refine Rp.plus (by assumption) ?_ | refine RpA.plus (by assumption) ?_ | refine Tb.plus (by assumption) ?_); walk_at "hp"))
local macro_rules | `(tactic| walk_at "at") => `(tactic| first | assumption | exact At.get (M := N0) (by walk_at "hp"))
local macro_rules | `(tactic| walk_at "sq") => `(tactic| first | exact SqL.of (by walk_at "at") | exact SqT.of (by walk_at "at"))
local macro_rules | `(tactic| walk_at "st") => `(tactic| with_reducible first
  | refine i_seq ?_ | refine i_asg ?_ | refine i_ret ?_ | refine i_retN ?_ | refine i_drop ?_ | refine i_ifS ?_ | refine i_next ?_ | refine i_brk ?_
  | refine i_gname ?_ | refine i_gsub ?_ | refine i_c ?_ | refine i_op ?_ | refine i_un ?_ | refine i_I0 ?_ | refine i_U ?_ | refine i_isN ?_ | refine i_notN ?_
  | refine i_test ?_ | refine i_tB ?_ | refine i_bl ?_ | refine i_and ?_ | refine i_or ?_ | refine i_not ?_ | refine i_andV ?_ | refine i_orV ?_ | refine i_notV ?_ | refine i_ifE ?_
  | refine i_nil ?_ | refine i_cons ?_ | refine i_for ?_ | refine i_iL ?_ | refine i_iT ?_ | refine i_iR ?_ | refine i_lc ?_ | refine i_prp ?_ | refine i_mk ?_ | refine i_sS ?_ | refine i_sN ?_ | refine i_nsS ?_ | refine i_nsN ?_ | refine i_fld ?_ | refine i_sf ?_ | refine i_inO ?_ | refine i_lsO ?_ | refine i_tpO ?_ | refine i_lnO ?_ | refine i_cb ?_ | refine i_call ?_ | refine i_tup ?_ | refine i_lst ?_ | refine i_dnew ?_ | refine i_inI ?_ | refine i_inB ?_ | refine i_rgX ?_ | refine i_lrO ?_ | refine i_rg1 ?_ | refine i_nF ?_ | refine i_nT ?_ | refine i_tt ?_ | refine i_ff ?_ | refine i_ifT ?_ | refine i_ifF ?_
  | refine i_eqI ?_ | refine i_eqS ?_ | refine i_eqB ?_ | refine i_neI ?_ | refine i_neS ?_ | refine i_dR ?_ | refine i_dI ?_ | refine i_dT ?_ | refine i_dS ?_ | refine i_dN ?_ | refine i_nR ?_ | refine i_nI ?_ | refine i_nN ?_
  | (refine i_var (by with_unfolding_all rfl) ?_) | refine i_eq rfl ?_ | refine i_ne rfl ?_)
local macro_rules | `(tactic| walk_at "sc") => `(tactic| first | exact (Rp.int (M := N0) _) | exact (Rp.str (M := N0) _) | exact (Rp.bl (M := N0) _) | exact (Rp.non (M := N0)) | assumption | exact Rp.tab (by assumption) | exact Tb.rp (by assumption))
local macro_rules | `(tactic| walk_at "sd") => `(tactic| simp only [d_Bool_non, d_Bool_bl, d_Bool_int, d_Bool_str, d_Bool_lst, d_Bool_tup, d_Bool_tab, d_Bool_dic, d_Int_non, d_Int_bl, d_Int_int, d_Int_str, d_Int_lst, d_Int_tup, d_Int_tab, d_Int_dic, d_Str_non, d_Str_bl, d_Str_int, d_Str_str, d_Str_lst, d_Str_tup, d_Str_tab, d_Str_dic, d_List_non, d_List_bl, d_List_int, d_List_str, d_List_lst, d_List_tup, d_List_tab, d_List_dic, d_Tup_non, d_Tup_bl, d_Tup_int, d_Tup_str, d_Tup_lst, d_Tup_tup, d_Tup_tab, d_Tup_dic, d_Tab_non, d_Tab_bl, d_Tab_int, d_Tab_str, d_Tab_lst, d_Tab_tup, d_Tab_tab, d_Tab_dic, Bool.not_true, Bool.not_false, Bool.true_or, Bool.false_or, Bool.or_true, Bool.or_false, Bool.and_true, Bool.true_and, Bool.and_false, Bool.false_and, if_true, if_false, Bool.false_eq_true])
local macro_rules | `(tactic| walk_at "isi") => `(tactic| ((first | with_reducible apply i_isB | with_reducible apply i_isI | with_reducible apply i_isS | with_reducible apply i_isL | with_reducible apply i_isT | with_reducible apply i_isTab); (focus assumption); (focus walk_at "sc"); try simp only [d_Bool_non, d_Bool_bl, d_Bool_int, d_Bool_str, d_Bool_lst, d_Bool_tup, d_Bool_tab, d_Bool_dic, d_Int_non, d_Int_bl, d_Int_int, d_Int_str, d_Int_lst, d_Int_tup, d_Int_tab, d_Int_dic, d_Str_non, d_Str_bl, d_Str_int, d_Str_str, d_Str_lst, d_Str_tup, d_Str_tab, d_Str_dic, d_List_non, d_List_bl, d_List_int, d_List_str, d_List_lst, d_List_tup, d_List_tab, d_List_dic, d_Tup_non, d_Tup_bl, d_Tup_int, d_Tup_str, d_Tup_lst, d_Tup_tup, d_Tup_tab, d_Tup_dic, d_Tab_non, d_Tab_bl, d_Tab_int, d_Tab_str, d_Tab_lst, d_Tab_tup, d_Tab_tab, d_Tab_dic]))
local macro_rules | `(tactic| walk_at "om") => `(tactic| first | ((with_reducible refine i_decF ?_ ?_); (focus omega)) | ((with_reducible refine i_decT ?_ ?_); (focus omega)) | ((with_reducible refine i_ndecF ?_ ?_); (focus omega)) | ((with_reducible refine i_ndecT ?_ ?_); (focus omega)))
local macro_rules | `(tactic| walk_at "go") => `(tactic| ((repeat (first | walk_at "st" | walk_at "isi" | walk_at "om")); try dsimp only [List.set]))
variable {W : Wd} {a : Ad}
/-! D3: tables checked, raising. -/
abbrev EcK (W : Wd) (a : Ad) : Prop := BsX.Ec W.K W.mg W.P true "WrongKind" (a.er 0)
abbrev EcS (W : Wd) (a : Ad) : Prop := BsX.Ec W.K W.mg W.P false "WrongSize" (a.er 1)
abbrev CXr (W : Wd) : CXT := L2.CX W.P W.w
/-- what is raised: a new error of the class at C that says z -/
def Rz (E : XK) (C : Addr) (z : Str) (H : Hp) : Prop := ∀ d H', H d = none → Ext N0 H H' → H' d = some (.xd [("argument", .str z)]) → E (.ref C) (some d) H'
theorem i_rz {C : Addr} {E : XK} {ta : TA} {σ : L2.St} {H : Hp} (h : ta σ H fun vs H1 => ∃ z, vs = [V.str z] ∧ z.length ≤ 1000 ∧ ∀ d, H1 d = none → E (.ref C) (some d) (upd H1 d (.xd [("argument", .str z)]))) : tMkE C ta σ H E := h
theorem i_rzE {C : Addr} {E : XK} {z : Str} {H : Hp} (l : z.length ≤ 1000) (h : Rz E C z H) : ∃ y, [V.str z] = [V.str y] ∧ y.length ≤ 1000 ∧ ∀ d, H d = none → E (.ref C) (some d) (upd H d (.xd [("argument", .str y)])) :=
  ⟨z, rfl, l, fun d n => h d _ n (Ext.new n) upd_same⟩
def sp_plain (ct : Addr) : Sp := sp1 fun v H Q _ => ∃ M d, Rp ct M H v d ∧ Q (.bl (d.isInt && !d.isBool)) H
abbrev s_plain_integer : Stmt := top 39
abbrev N_plain_integer : List Str := ["value"]
abbrev P_plain_integer : List Str := ["value"]
theorem sc_plain_integer : FnScope N_plain_integer P_plain_integer (defScope s_plain_integer) := ⟨rfl, rfl, rfl, by decide +kernel, rfl, by decide +kernel, by decide +kernel⟩
theorem bi_plain_integer {K : PySem.W.Frag} {f : Addr} {fd : FuncData} (F : FnF K "plain_integer" "plain_integer" s_plain_integer [] f fd) : Binds K fd P_plain_integer [] := FunD.bindsN F fun _ _ _ _ _ _ us hl => match us, hl with | [_], _ => rfl
theorem c_plain_integer (T : Txt W.K W.mg a) (D : DefAt W "plain_integer" "plain_integer" "plain_integer" s_plain_integer) : Cal W CX0 1 "plain_integer" P_plain_integer (sp_plain a.ct) := cal_mk D sc_plain_integer len1 (fun _ _ => bi_plain_integer) fun f cdv A outer s H vs Q E hr h => by
  obtain ⟨x, rfl, M, d, hd, q⟩ := sp1_of h
  refine ⟨_, (pss_one (ps_ret (pe_and (pe_callB call_isi rfl T.isinstance (by decide +kernel) (pa_cons (pv 0) (pa_cons (pe_bltn (v := .ty "int") rfl T.int (by decide +kernel) rfl) pa_nil))) (pe_one (pe_not (pe_callB call_isi rfl T.isinstance (by decide +kernel) (pa_cons (pv 0) (pa_cons (pe_bltn (v := .ty "bool") rfl T.bool (by decide +kernel) rfl) pa_nil)))))))), ?_⟩
  walk_at "go"
  refine i_bool (fun e => ?_) (fun e => ?_)
  · walk_at "go"
    rw [e] at q
    exact q
  · rw [e] at q
    exact q
def sp_cktab (a : Ad) : Sp := sp3 fun v m g H Q E => ∃ M o most z, Gv a.ct M H v o ∧ m = .int most ∧ g = .str z ∧ z.length ≤ 1000 ∧ (∀ n bs, o = some (n, bs) → (n : Int) ≤ most ∧ Q .non H) ∧ (o = none → Rz E (a.er 0) z H)
abbrev s_check_table : Stmt := top 40
abbrev N_check_table : List Str := ["value", "most", "argument"]
abbrev P_check_table : List Str := ["value", "most", "argument"]
theorem sc_check_table : FnScope N_check_table P_check_table (defScope s_check_table) := ⟨rfl, rfl, rfl, by decide +kernel, rfl, by decide +kernel, by decide +kernel⟩
theorem bi_check_table {K : PySem.W.Frag} {f : Addr} {fd : FuncData} (F : FnF K "check_table" "check_table" s_check_table [] f fd) : Binds K fd P_check_table [] := FunD.bindsN F fun _ _ _ _ _ _ us hl => match us, hl with | [_, _, _], _ => rfl
theorem c_check_table (T : Txt W.K W.mg a) (eK : EcK W a) (eS : EcS W a) (D : DefAt W "check_table" "check_table" "check_table" s_check_table) (c_width : Prp W CX0 1 a.ct "width" P_Table_width (sp_wid a.ct)) :
    Cal W (CXr W) 3 "check_table" P_check_table (sp_cktab a) := cal_mk D sc_check_table len3 (fun _ _ => bi_check_table) fun f cdv A outer s H vs Q E hr h => by
  obtain ⟨x, y, z, rfl, M, o, most, z, hv, rfl, rfl, hz, q1, q2⟩ := sp3_of h
  refine ⟨_, (pss_cons (ps_if (pt_not (pt_val (pe_callB call_isi rfl T.isinstance (by decide +kernel) (pa_cons (pv 0) (pa_cons (pe_gc rfl T.vTable) pa_nil)))))
  (pss_one (ps_raiseE rfl eK hr (takes_of rfl rfl rfl rfl) (pa_cons (pv 2) pa_nil) rfl))
  pss_nil)
 (pss_one (ps_if (pt_cmpR op_gt (pe_prp c_width hr (by omega) (pv 0)) (pv 1) (by rfl))
  (pss_one ps_never)
  pss_nil))), ?_⟩
  walk_at "go"
  refine i_isG T hv ?_
  walk_at "go"
  cases hv with
  | no h1 h2 =>
    walk_at "go"
    refine i_rz ?_
    walk_at "go"
    exact i_rzE hz (q2 rfl)
  | @tab p n bs h1 =>
    obtain ⟨l, q⟩ := q1 _ _ rfl
    walk_at "go"
    refine i_pwid h1 ?_
    walk_at "go"
    exact q
/-! place tables -/
def plI (n p : Nat) (b : Int) : List Int := (List.range (2 ^ n)).map fun i : Nat => Builtin.bitXor (Builtin.bitAnd (((i : Nat) : Int) / 2 ^ p) 1) b
theorem plI_ok {n p : Nat} {b : Int} (h : n ≤ 6) (hb : b = 0 ∨ b = 1) : TabOk n (plI n p b) := by
  refine ⟨h, by simp [plI], fun c hc => ?_⟩
  obtain ⟨i, _, rfl⟩ := List.mem_map.mp hc
  exact bit_xor _ hb
abbrev s_place_table : Stmt := top 42
abbrev N_place_table : List Str := ["width", "place", "bit", "word"]
abbrev P_place_table : List Str := ["width", "place", "bit"]
theorem sc_place_table : FnScope N_place_table P_place_table (defScope s_place_table) := ⟨rfl, rfl, rfl, by decide +kernel, rfl, by decide +kernel, by decide +kernel⟩
def sp_place (ct : Addr) : Sp := sp3 fun w p b H Q _ => ∃ n i : Nat, ∃ c : Int, ∃ M, w = .int n ∧ p = .int i ∧ b = .int c ∧ n ≤ 6 ∧ i < n ∧ (c = 0 ∨ c = 1) ∧ MOk M H ∧ ∀ x H', Ext N0 H H' → Tb ct M H' x n (plI n i c) → Q (.ref x) H'
theorem bi_place_table {K : PySem.W.Frag} {f : Addr} {fd : FuncData} (F : FnF K "place_table" "place_table" s_place_table [.int 0] f fd) : ∃ ds, Vals [] ds ∧ L2.Binds K fd P_place_table ds :=
  FunD.binds1 F 3 1 (by decide) rfl fun _ _ _ _ _ _ _ us its hl hi => match us, its, hl, hi with | [_, _, _], [_], _, _ => ⟨_, rfl, rfl⟩
theorem c_place_table (T : Txt W.K W.mg a) (D : DefAtD W "place_table" "place_table" "place_table" s_place_table [.int 0]) (c_check_width_tables : Cal W CX0 3 "check_width_tables" P_check_width_tables sp_ckw)
    (c_check_place : Cal W CX0 3 "check_place" P_check_place sp_ckplace) (c_check_between_tables : Cal W CX0 2 "check_between_tables" P_check_between_tables sp_ckbet2) (c_all_words : Cal W CX0 4 "all_words" P_all_words sp_aw)
    (c_Table : Mkr W CX0 4 a.ct "Table" P_Table_init (sp_init a.ct)) : Cal W CX0 6 "place_table" P_place_table (sp_place a.ct) := cal_mkD D sc_place_table len3 (fun _ _ => bi_place_table) fun f cdv A outer s H vs Q E hr h => by
  obtain ⟨x, y, z, rfl, n, i, c, M, rfl, rfl, rfl, h1, h2, h3, m, q⟩ := sp3_of h
  refine ⟨_, (pss_cons (ps_expr (pe_cal c_check_width_tables hr (by omega) pass0 rfl (pa_cons (pv 0) pa_nil)))
 (pss_cons (ps_expr (pe_cal c_check_place hr (by omega) pass0 rfl (pa_cons (pv 0) (pa_cons (pv 1) pa_nil))))
 (pss_cons (ps_expr (pe_cal c_check_between_tables hr (by omega) pass0 rfl (pa_cons pe_str (pa_cons (pv 2) (pa_cons pe_int (pa_cons pe_int pa_nil))))))
 (pss_one (ps_ret (pe_mkr c_Table hr (by omega) rfl (pa_cons (pv 0) (pa_cons (pe_lc (own := [("word", 3)]) (g := gName 3) (tt := tYes) rfl sc_place_table.nd (pi_list (pe_cal c_all_words hr (by omega) pass0 rfl (pa_cons (pv 0) pa_nil))) (blkOk_by (N := N_place_table) (sc := defScope s_place_table) (by decide +kernel)) (fun _ _ _ _ _ => (pg_name (i := 3) sc_place_table.nd rfl (by first | exact Or.inl rfl | exact Or.inr rfl))) (fun _ _ _ _ _ => pts_nil) (fun _ _ _ _ _ => (pe_op op_xor (pe_op op_and (pe_op op_shr (pv 3) (pv 1)) pe_int) (pv 2)))) pa_nil)))))))), ?_⟩
  walk_at "go"
  refine ⟨n, rfl, h1, ?_⟩
  walk_at "go"
  refine ⟨n, i, rfl, rfl, h2, ?_⟩
  walk_at "go"
  refine ⟨c, 0, 1, rfl, rfl, rfl, by omega, by omega, ?_⟩
  walk_at "go"
  refine ⟨n, rfl, h1, fun p1 H1 n1 x1 t1 => ?_⟩
  walk_at "go"
  have m1 : MOk M H1 := by walk_at "mo"
  refine c_list (M := N0) (SqL.of t1) MOk.zero (by simp; have := pow_le6 h1; omega) (fun _ _ _ => True) (fun D j y _ => ∃ k, (List.range (2 ^ n))[j]? = some k ∧ y = .int (Builtin.bitXor (Builtin.bitAnd ((k : Int) / 2 ^ i) 1) c)) fun D nD => ⟨fun _ _ _ _ _ e => e, fun _ _ _ _ e => e, trivial, ?_, ?_, ?_⟩
  · intro _ H2 e _
    have t2 : At (Plus N0 D) H1 p1 _ := (At.raw t1).plus nD
    exact SqL.of (t2.ext e).2
  · intro j v H2 N N' hv x2 m2 _ nx
    rw [List.getElem?_map] at hv
    cases e : (List.range (2 ^ n))[j]? with
    | none => rw [e] at hv; cases hv
    | some k =>
      rw [e] at hv
      obtain rfl := (Option.some.inj hv).symm
      walk_at "go"
      refine i_yes rfl ?_
      walk_at "go"
      refine i_I (by omega) ?_
      walk_at "go"
      exact nx _ _ (Ext.refl _ _) m2.less ⟨k, e, rfl⟩ trivial
  · intro acc H2 hl hr hd x2 m2 _
    walk_at "go"
    have hacc : acc = (plI n i c).map V.int := by
      apply List.ext_getElem?
      intro j
      cases e : acc[j]? with
      | some y =>
        obtain ⟨k, e1, rfl⟩ := hr j y e
        rw [plI, List.getElem?_map, List.getElem?_map, e1]; rfl
      | none =>
        have : acc.length ≤ j := List.getElem?_eq_none_iff.mp e
        symm
        rw [List.getElem?_eq_none_iff]
        rw [hl] at this
        simpa [plI] using this
    subst hacc
    refine i_mkTb (m1.grow x2.grow) hd (plI_ok h1 h3) fun t H3 n3 x3 tb m3 => ?_
    exact q t H3 ((x1.trans x2).trans x3) tb

abbrev s_need_table : Stmt := top 45
abbrev N_need_table : List Str := ["table", "most"]
abbrev P_need_table : List Str := ["table", "most"]
theorem sc_need_table : FnScope N_need_table P_need_table (defScope s_need_table) := ⟨rfl, rfl, rfl, by decide +kernel, rfl, by decide +kernel, by decide +kernel⟩
def sp_need (ct : Addr) : Sp := sp2 fun v m H Q _ => ∃ M p n bs, v = .ref p ∧ m = .int 6 ∧ Tb ct M H p n bs ∧ Q .non H
theorem bi_need_table {K : PySem.W.Frag} {f : Addr} {fd : FuncData} (F : FnF K "need_table" "need_table" s_need_table [.int 6] f fd) : ∃ ds, Vals [.int 6] ds ∧ L2.Binds K fd P_need_table ds :=
  FunD.binds1 F 1 0 (by decide) rfl fun _ _ _ _ _ _ _ us its hl hi => match us, its, hl, hi with | [_], [_], _, _ => ⟨_, rfl, rfl⟩
theorem c_need_table (T : Txt W.K W.mg a) (D : DefAtD W "need_table" "need_table" "need_table" s_need_table [.int 6]) (c_width : Prp W CX0 1 a.ct "width" P_Table_width (sp_wid a.ct)) : CalD W CX0 3 "need_table" P_need_table [.int 6] (sp_need a.ct) := cal_mkD D sc_need_table len2 (fun _ _ => bi_need_table) fun f cdv A outer s H vs Q E hr h => by
  obtain ⟨x, y, rfl, M, p, n, bs, rfl, rfl, h1, q⟩ := sp2_of h
  obtain ⟨k1, _, _⟩ := h1.ok
  refine ⟨_, (pss_cons (ps_if (pt_not (pt_val (pe_callB call_isi rfl T.isinstance (by decide +kernel) (pa_cons (pv 0) (pa_cons (pe_gc rfl T.vTable) pa_nil)))))
  (pss_one ps_never)
  pss_nil)
 (pss_one (ps_if (pt_cmpR op_gt (pe_prp c_width hr (by omega) (pv 0)) (pv 1) (by rfl))
  (pss_one ps_never)
  pss_nil))), ?_⟩
  walk_at "go"
  refine i_pwid h1 ?_
  walk_at "go"
  exact q
end Bs
set_option Elab.async false
set_option linter.all false
set_option maxRecDepth 100000
set_option maxHeartbeats 400000
namespace Bs
open PySem PySem.Spec PyProof.Rows L2 SX
open C8 (pe_gc pss_cut)
local macro_rules | `(tactic| walk_at "xt") => `(tactic| first | assumption | exact Ext.weak (by assumption) | exact Ext.is (by assumption) (by assumption) | exact Ext.plus (by assumption) | exact Ext.plus (Ext.weak (by assumption)) | exact Ext.plus (Ext.is (by assumption) (by assumption)) | exact Ext.set plus_self)
local macro_rules | `(tactic| walk_at "gr") => `(tactic| first | assumption | exact Ext.grow (by assumption) | exact Grow.upd)
local macro_rules | `(tactic| walk_at "mo") => `(tactic| first | assumption | exact MOk.zero | ((first | refine MOk.grow ?_ (by walk_at "gr") | exact MOk.upd (by walk_at "mo")); walk_at "mo") | exact MOk.plus (by walk_at "mo") (by assumption))
local macro_rules | `(tactic| walk_at "hp") => `(tactic| first
  | assumption | exact At.raw (by assumption)
  | exact At.mk' (by walk_at "mo") (by assumption) (by assumption)
  | ((first | refine At.ext (by walk_at "xt") ?_ | refine Rp.ext (by walk_at "xt") ?_ | refine RpA.ext (by walk_at "xt") ?_ | refine Tb.ext (by walk_at "xt") ?_); walk_at "hp")
  | ((first | refine At.plus (by assumption) ?_ | refine Rp.plus (by assumption) ?_ | refine RpA.plus (by assumption) ?_ | refine Tb.plus (by assumption) ?_); walk_at "hp"))
local macro_rules | `(tactic| walk_at "at") => `(tactic| first | assumption | exact At.get (M := N0) (by walk_at "hp"))
local macro_rules | `(tactic| walk_at "sq") => `(tactic| first | exact SqL.of (by walk_at "at") | exact SqT.of (by walk_at "at"))
local macro_rules | `(tactic| walk_at "st") => `(tactic| with_reducible first
  | refine i_seq ?_ | refine i_asg ?_ | refine i_ret ?_ | refine i_retN ?_ | refine i_drop ?_ | refine i_ifS ?_ | refine i_next ?_ | refine i_brk ?_
  | refine i_gname ?_ | refine i_gsub ?_ | refine i_c ?_ | refine i_op ?_ | refine i_un ?_ | refine i_I0 ?_ | refine i_U ?_ | refine i_isN ?_ | refine i_notN ?_
  | refine i_test ?_ | refine i_tB ?_ | refine i_bl ?_ | refine i_and ?_ | refine i_or ?_ | refine i_not ?_ | refine i_andV ?_ | refine i_orV ?_ | refine i_notV ?_ | refine i_ifE ?_
  | refine i_nil ?_ | refine i_cons ?_ | refine i_for ?_ | refine i_iL ?_ | refine i_iT ?_ | refine i_iR ?_ | refine i_lc ?_ | refine i_prp ?_ | refine i_mk ?_ | refine i_sS ?_ | refine i_sN ?_ | refine i_nsS ?_ | refine i_nsN ?_ | refine i_fld ?_ | refine i_sf ?_ | refine i_inO ?_ | refine i_lsO ?_ | refine i_tpO ?_ | refine i_lnO ?_ | refine i_cb ?_ | refine i_call ?_ | refine i_tup ?_ | refine i_lst ?_ | refine i_dnew ?_ | refine i_inI ?_ | refine i_inB ?_ | refine i_rgX ?_ | refine i_lrO ?_ | refine i_rg1 ?_ | refine i_nF ?_ | refine i_nT ?_ | refine i_tt ?_ | refine i_ff ?_ | refine i_ifT ?_ | refine i_ifF ?_
  | refine i_eqI ?_ | refine i_eqS ?_ | refine i_eqB ?_ | refine i_neI ?_ | refine i_neS ?_ | refine i_dR ?_ | refine i_dI ?_ | refine i_dT ?_ | refine i_dS ?_ | refine i_dN ?_ | refine i_nR ?_ | refine i_nI ?_ | refine i_nN ?_
  | (refine i_var (by with_unfolding_all rfl) ?_) | refine i_eq rfl ?_ | refine i_ne rfl ?_)
local macro_rules | `(tactic| walk_at "sc") => `(tactic| first | exact (Rp.int (M := N0) _) | exact (Rp.str (M := N0) _) | exact (Rp.bl (M := N0) _) | exact (Rp.non (M := N0)) | assumption | exact Rp.tab (by assumption) | exact Tb.rp (by assumption))
local macro_rules | `(tactic| walk_at "sd") => `(tactic| simp only [d_Bool_non, d_Bool_bl, d_Bool_int, d_Bool_str, d_Bool_lst, d_Bool_tup, d_Bool_tab, d_Bool_dic, d_Int_non, d_Int_bl, d_Int_int, d_Int_str, d_Int_lst, d_Int_tup, d_Int_tab, d_Int_dic, d_Str_non, d_Str_bl, d_Str_int, d_Str_str, d_Str_lst, d_Str_tup, d_Str_tab, d_Str_dic, d_List_non, d_List_bl, d_List_int, d_List_str, d_List_lst, d_List_tup, d_List_tab, d_List_dic, d_Tup_non, d_Tup_bl, d_Tup_int, d_Tup_str, d_Tup_lst, d_Tup_tup, d_Tup_tab, d_Tup_dic, d_Tab_non, d_Tab_bl, d_Tab_int, d_Tab_str, d_Tab_lst, d_Tab_tup, d_Tab_tab, d_Tab_dic, Bool.not_true, Bool.not_false, Bool.true_or, Bool.false_or, Bool.or_true, Bool.or_false, Bool.and_true, Bool.true_and, Bool.and_false, Bool.false_and, if_true, if_false, Bool.false_eq_true])
local macro_rules | `(tactic| walk_at "isi") => `(tactic| ((first | with_reducible apply i_isB | with_reducible apply i_isI | with_reducible apply i_isS | with_reducible apply i_isL | with_reducible apply i_isT | with_reducible apply i_isTab); (focus assumption); (focus walk_at "sc"); try simp only [d_Bool_non, d_Bool_bl, d_Bool_int, d_Bool_str, d_Bool_lst, d_Bool_tup, d_Bool_tab, d_Bool_dic, d_Int_non, d_Int_bl, d_Int_int, d_Int_str, d_Int_lst, d_Int_tup, d_Int_tab, d_Int_dic, d_Str_non, d_Str_bl, d_Str_int, d_Str_str, d_Str_lst, d_Str_tup, d_Str_tab, d_Str_dic, d_List_non, d_List_bl, d_List_int, d_List_str, d_List_lst, d_List_tup, d_List_tab, d_List_dic, d_Tup_non, d_Tup_bl, d_Tup_int, d_Tup_str, d_Tup_lst, d_Tup_tup, d_Tup_tab, d_Tup_dic, d_Tab_non, d_Tab_bl, d_Tab_int, d_Tab_str, d_Tab_lst, d_Tab_tup, d_Tab_tab, d_Tab_dic]))
local macro_rules | `(tactic| walk_at "om") => `(tactic| first | ((with_reducible refine i_decF ?_ ?_); (focus omega)) | ((with_reducible refine i_decT ?_ ?_); (focus omega)) | ((with_reducible refine i_ndecF ?_ ?_); (focus omega)) | ((with_reducible refine i_ndecT ?_ ?_); (focus omega)))
local macro_rules | `(tactic| walk_at "go") => `(tactic| ((repeat (first | walk_at "st" | walk_at "isi" | walk_at "om")); try dsimp only [List.set]))
variable {W : Wd} {a : Ad}
/-! D4: a table's own place. -/
def prsD (n : Nat) : List Dt := (List.range (n * 2)).map fun c : Nat => .tup [.int ((c / 2 : Nat) : Int), .int ((c % 2 : Nat) : Int)]
abbrev s_own_pairs : Stmt := top 47
abbrev N_own_pairs : List Str := ["width", "place", "bit"]
abbrev P_own_pairs : List Str := ["width"]
theorem sc_own_pairs : FnScope N_own_pairs P_own_pairs (defScope s_own_pairs) := ⟨rfl, rfl, rfl, by decide +kernel, rfl, by decide +kernel, by decide +kernel⟩
theorem bi_own_pairs {K : PySem.W.Frag} {f : Addr} {fd : FuncData} (F : FnF K "own_pairs" "own_pairs" s_own_pairs [] f fd) : Binds K fd P_own_pairs [] := FunD.bindsN F fun _ _ _ _ _ _ us hl => match us, hl with | [_], _ => rfl
def sp_ownp (ct : Addr) : Sp := sp1 fun v H Q _ => ∃ n : Nat, v = .int n ∧ n ≤ 6 ∧ ∀ p H' xs, Ext N0 H H' → H' p = some (.lst xs) → RpA ct N0 H' xs (prsD n) → Q (.ref p) H'
theorem c_own_pairs (T : Txt W.K W.mg a) (D : DefAt W "own_pairs" "own_pairs" "own_pairs" s_own_pairs) : Cal W CX0 1 "own_pairs" P_own_pairs (sp_ownp a.ct) := cal_mk D sc_own_pairs len1 (fun _ _ => bi_own_pairs) fun f cdv A outer s H vs Q E hr h => by
  obtain ⟨x, rfl, n, rfl, h1, q⟩ := sp1_of h
  refine ⟨_, (pss_one (ps_ret (pe_lc2 (own := [("place", 1), ("bit", 2)]) (vs1 := [2]) (g := gName 1) (tt := tYes) (g1 := gName 2) (tt1 := tYes) (wi1 := iTup W.K (tTup (tCons (tC (V.int 0)) (tCons (tC (V.int 1)) tNil)))) rfl sc_own_pairs.nd (pi_range1 (by rfl) T.range (pa_cons (pv 0) pa_nil)) (blkOk_by (N := N_own_pairs) (sc := defScope s_own_pairs) (by decide +kernel)) (by decide) (fun _ _ _ _ _ => (pg_name (i := 1) sc_own_pairs.nd rfl (by first | exact Or.inl rfl | exact Or.inr rfl))) (fun _ _ _ _ _ => pts_nil) (fun _ _ _ _ _ => (pi_tup (pe_tup (pa_cons pe_int (pa_cons pe_int pa_nil))))) (fun _ _ _ _ _ => (pg_name (i := 2) sc_own_pairs.nd rfl (by first | exact Or.inl rfl | exact Or.inr rfl))) (fun _ _ _ _ _ => pts_nil) (fun _ _ _ _ _ => (pe_tup (pa_cons (pv 1) (pa_cons (pv 2) pa_nil))))))), ?_⟩
  walk_at "go"
  refine i_lc2 ?_
  walk_at "go"
  refine ⟨n, rfl, by omega, by omega, fun D nD => ?_⟩
  refine lc2_rel (walk_range (lo := 0) (n := n)) (M := N0) 2 nD MOk.zero (by omega) (fun c y H => Rp a.ct (Plus N0 D) H y (.tup [.int ((c / 2 : Nat) : Int), .int ((c % 2 : Nat) : Int)])) (fun i y H H' x h => h.ext x) (fun _ _ => trivial) ?_ ?_
  · intro i x H1 H2 C N' hi x1 m1 y k
    obtain ⟨e1, e2⟩ := y
    subst e1 e2
    walk_at "go"
    refine i_yesI rfl ?_
    walk_at "go"
    refine i_nwT (by simp) fun p H3 n3 x3 t3 => ?_
    refine ⟨p, rfl, ⟨_, SqT.of t3⟩, ?_⟩
    refine k _ _ H3 _ _ (walk_tup (K := W.K) (a := p) (xs := [.int 0, .int 1])) x3.weak MOk.zero (fun H5 x5 => SqT.of (x5 _ _ (fun z => z.elim (fun z => z) fun e => ?_) t3)) ?_
    · subst e
      exact m1 _ plus_self n3
    · intro j x H5 H6 N N'' hj x5 m5 y nx
      obtain ⟨e1, e2⟩ := y
      subst e1
      have hx : x = .int j := by
        match j, hj, e2 with
        | 0, _, e2 => exact (Option.some.inj e2).symm
        | 1, _, e2 => exact (Option.some.inj e2).symm
      subst hx
      walk_at "go"
      refine i_yes rfl ?_
      walk_at "go"
      refine i_nwT (by simp) fun t H7 n7 x7 t7 => ?_
      refine nx _ _ x7 MOk.zero ?_
      have e1 : (i * 2 + j) / 2 = i := by omega
      have e2 : (i * 2 + j) % 2 = j := by omega
      rw [e1, e2]
      rw [Int.zero_add] at t7
      exact .tup (At.mk' m5 n7 t7) .i2
  · intro acc H2 hl hr hd x2 m2
    refine q D H2 acc x2 hd (rpA_of (by simp [prsD, hl]) fun i v hv => ?_)
    have hi : i < n * 2 := by rw [← hl]; exact (List.getElem?_eq_some_iff.mp hv).1
    exact ⟨_, by simp [prsD, hi], (hr i v hv).of fun _ z => z.elim⟩
/-! the own place -/
def ownIx (n : Nat) (bs : List Int) : Option Nat := (List.range (n * 2)).find? fun c => decide (plI n (c / 2) ((c % 2 : Nat) : Int) = bs)
def ownD : Option Nat → Dt
  | none => .non
  | some c => .tup [.int ((c / 2 : Nat) : Int), .int ((c % 2 : Nat) : Int)]
abbrev s_own_place : Stmt := top 48
abbrev N_own_place : List Str := ["table", "place", "bit"]
abbrev P_own_place : List Str := ["table"]
theorem sc_own_place : FnScope N_own_place P_own_place (defScope s_own_place) := ⟨rfl, rfl, rfl, by decide +kernel, rfl, by decide +kernel, by decide +kernel⟩
theorem bi_own_place {K : PySem.W.Frag} {f : Addr} {fd : FuncData} (F : FnF K "own_place" "own_place" s_own_place [] f fd) : Binds K fd P_own_place [] := FunD.bindsN F fun _ _ _ _ _ _ us hl => match us, hl with | [_], _ => rfl
def sp_own (ct : Addr) : Sp := sp1 fun v H Q _ => ∃ M p n bs, v = .ref p ∧ MOk M H ∧ Tb ct M H p n bs ∧ ∀ r H', Ext N0 H H' → Rp ct M H' r (ownD (ownIx n bs)) → Q r H'
theorem c_own_place (T : Txt W.K W.mg a) (D : DefAt W "own_place" "own_place" "own_place" s_own_place) (c_width : Prp W CX0 1 a.ct "width" P_Table_width (sp_wid a.ct)) (c_eq : Own W CX0 1 a.ct "__eq__" P_Table_eq (sp_eq a.ct)) (c_need_table : CalD W CX0 3 "need_table" P_need_table [.int 6] (sp_need a.ct))
    (c_own_pairs : Cal W CX0 1 "own_pairs" P_own_pairs (sp_ownp a.ct)) (c_place_table : Cal W CX0 6 "place_table" P_place_table (sp_place a.ct)) : Cal W CX0 7 "own_place" P_own_place (sp_own a.ct) := cal_mk D sc_own_place len1 (fun _ _ => bi_own_place) fun f cdv A outer s H vs Q E hr h => by
  obtain ⟨x, rfl, M, p, n, bs, rfl, m, hb, q⟩ := sp1_of h
  obtain ⟨k1, k2, k3⟩ := hb.ok
  refine ⟨_, (PSs.nox (pss_cons (ps_expr (pe_cal c_need_table hr (by omega) pass0 rfl (pa_cons (pv 0) pa_nil)))
 (pss_cons (ps_for PassesOwn.never rfl (pi_list (pe_cal c_own_pairs hr (by omega) pass0 rfl (pa_cons (pe_prp c_width hr (by omega) (pv 0)) pa_nil))) (pg_tup rfl (pgs_cons (pg_name (i := 1) sc_own_place.nd rfl (by first | exact Or.inl rfl | exact Or.inr rfl)) (pgs_cons (pg_name (i := 2) sc_own_place.nd rfl (by first | exact Or.inl rfl | exact Or.inr rfl)) pgs_nil)))
  (pss_one (ps_if (pt_cmpR (op_eqOwn c_eq hr (by omega)) (pe_cal c_place_table hr (by omega) pass0 rfl (pa_cons (pe_prp c_width hr (by omega) (pv 0)) (pa_cons (pv 1) (pa_cons (pv 2) pa_nil)))) (pv 0) (by rfl))
  (pss_one (ps_ret (pe_tup (pa_cons (pv 1) (pa_cons (pv 2) pa_nil)))))
  pss_nil)))
 (pss_one (ps_ret pe_non))))), ?_⟩
  walk_at "go"
  refine i_callD ?_
  walk_at "go"
  refine ⟨M, p, n, bs, rfl, rfl, hb, ?_⟩
  walk_at "go"
  refine i_pwid hb ?_
  walk_at "go"
  refine ⟨n, rfl, k1, fun l H1 xs x1 hl hA => ?_⟩
  have hx := hA.length
  refine f_list (SqL.of hl) (fun i σ Hx => (∃ v w, σ = [some (.ref p), v, w]) ∧ Ext N0 H1 Hx ∧ ∀ c, c < i → plI n (c / 2) ((c % 2 : Nat) : Int) ≠ bs) ⟨⟨_, _, rfl⟩, Ext.refl _ _, fun c hc => by omega⟩ (fun i σ Hx _ e => SqL.of (e.2.1 _ _ (fun z => z) hl)) ?_ ?_
  · rintro i v σ Hx hv ⟨⟨w1, w2, rfl⟩, x2, hno⟩
    obtain ⟨d, hd, hr⟩ := (hA.ext x2).getV hv
    have hi : i < n * 2 := by
      have := (List.getElem?_eq_some_iff.mp hd).1
      simpa [prsD] using this
    have : d = .tup [.int ((i / 2 : Nat) : Int), .int ((i % 2 : Nat) : Int)] := by
      simp [prsD, hi] at hd
      rw [← hd]; rfl
    subst this
    obtain ⟨t, ys, rfl, ht, hy⟩ := hr.tupAt
    obtain rfl := hy.two
    refine i_gt2 (SqT.of ht.2) ?_
    have hb2 : Tb a.ct M Hx p n bs := by walk_at "hp"
    walk_at "go"
    refine i_pwid hb2 ?_
    walk_at "go"
    refine ⟨n, i / 2, _, M, rfl, rfl, rfl, k1, by omega, by omega, by walk_at "mo", fun y H3 x3 hy => ?_⟩
    walk_at "go"
    have hb3 : Tb a.ct M H3 p n bs := by walk_at "hp"
    obtain ⟨_, dx, _, g1, _⟩ := id hy
    obtain ⟨_, dx', _, g2, _⟩ := id hb3
    refine ⟨y, p, dx, dx', _, _, rfl, rfl, g1.2, g2.2, y, M, n, _, p, n, bs, rfl, rfl, hy, hb3, ?_⟩
    walk_at "go"
    refine i_dec (fun e => ?_) (fun e => ?_)
    · walk_at "go"
      refine i_nwT (by simp) fun t2 H4 n4 x4 t4 => ?_
      refine q _ _ (((x1.trans x2).trans x3).trans x4) ?_
      have : ownIx n bs = some i := find_some hi (decide_eq_true e.2) fun c hc => decide_eq_false (hno c hc)
      rw [this]
      exact .tup (At.mk' (by walk_at "mo") n4 t4) .i2
    · walk_at "go"
      refine ⟨⟨_, _, rfl⟩, x2.trans x3, fun c hc => ?_⟩
      by_cases h : c = i
      · subst h; exact fun z => e ⟨rfl, z⟩
      · exact hno c (by omega)
  · rintro σ Hx ⟨⟨w1, w2, rfl⟩, x2, hno⟩
    walk_at "go"
    refine q _ _ (x1.trans x2) ?_
    have : ownIx n bs = none := find_none fun c hc => decide_eq_false (hno c (by rw [hx]; simpa [prsD] using hc))
    rw [this]
    exact .non
end Bs
set_option Elab.async false
set_option linter.all false
set_option maxRecDepth 100000
set_option maxHeartbeats 400000
namespace Bs
open PySem PySem.Spec PyProof.Rows L2 SX
open C8 (pe_gc pss_cut)
local macro_rules | `(tactic| walk_at "xt") => `(tactic| first | assumption | exact Ext.weak (by assumption) | exact Ext.is (by assumption) (by assumption) | exact Ext.plus (by assumption) | exact Ext.plus (Ext.weak (by assumption)) | exact Ext.plus (Ext.is (by assumption) (by assumption)) | exact Ext.set plus_self)
local macro_rules | `(tactic| walk_at "gr") => `(tactic| first | assumption | exact Ext.grow (by assumption) | exact Grow.upd)
local macro_rules | `(tactic| walk_at "mo") => `(tactic| first | assumption | exact MOk.zero | ((first | refine MOk.grow ?_ (by walk_at "gr") | exact MOk.upd (by walk_at "mo")); walk_at "mo") | exact MOk.plus (by walk_at "mo") (by assumption))
local macro_rules | `(tactic| walk_at "hp") => `(tactic| first
  | assumption | exact At.raw (by assumption)
  | exact At.mk' (by walk_at "mo") (by assumption) (by assumption)
  | ((first | refine At.ext (by walk_at "xt") ?_ | refine Rp.ext (by walk_at "xt") ?_ | refine RpA.ext (by walk_at "xt") ?_ | refine Tb.ext (by walk_at "xt") ?_); walk_at "hp")
  | ((first | refine At.plus (by assumption) ?_ | refine Rp.plus (by assumption) ?_ | refine RpA.plus (by assumption) ?_ | refine Tb.plus (by assumption) ?_); walk_at "hp"))
local macro_rules | `(tactic| walk_at "at") => `(tactic| first | assumption | exact At.get (M := N0) (by walk_at "hp"))
local macro_rules | `(tactic| walk_at "sq") => `(tactic| first | exact SqL.of (by walk_at "at") | exact SqT.of (by walk_at "at"))
local macro_rules | `(tactic| walk_at "st") => `(tactic| with_reducible first
  | refine i_seq ?_ | refine i_asg ?_ | refine i_ret ?_ | refine i_retN ?_ | refine i_drop ?_ | refine i_ifS ?_ | refine i_next ?_ | refine i_brk ?_
  | refine i_gname ?_ | refine i_gsub ?_ | refine i_c ?_ | refine i_op ?_ | refine i_un ?_ | refine i_I0 ?_ | refine i_U ?_ | refine i_isN ?_ | refine i_notN ?_
  | refine i_test ?_ | refine i_tB ?_ | refine i_bl ?_ | refine i_and ?_ | refine i_or ?_ | refine i_not ?_ | refine i_andV ?_ | refine i_orV ?_ | refine i_notV ?_ | refine i_ifE ?_
  | refine i_nil ?_ | refine i_cons ?_ | refine i_for ?_ | refine i_iL ?_ | refine i_iT ?_ | refine i_iR ?_ | refine i_lc ?_ | refine i_prp ?_ | refine i_mk ?_ | refine i_sS ?_ | refine i_sN ?_ | refine i_nsS ?_ | refine i_nsN ?_ | refine i_fld ?_ | refine i_sf ?_ | refine i_inO ?_ | refine i_lsO ?_ | refine i_tpO ?_ | refine i_lnO ?_ | refine i_cb ?_ | refine i_call ?_ | refine i_tup ?_ | refine i_lst ?_ | refine i_dnew ?_ | refine i_inI ?_ | refine i_inB ?_ | refine i_rgX ?_ | refine i_lrO ?_ | refine i_rg1 ?_ | refine i_nF ?_ | refine i_nT ?_ | refine i_tt ?_ | refine i_ff ?_ | refine i_ifT ?_ | refine i_ifF ?_
  | refine i_eqI ?_ | refine i_eqS ?_ | refine i_eqB ?_ | refine i_neI ?_ | refine i_neS ?_ | refine i_dR ?_ | refine i_dI ?_ | refine i_dT ?_ | refine i_dS ?_ | refine i_dN ?_ | refine i_nR ?_ | refine i_nI ?_ | refine i_nN ?_
  | (refine i_var (by with_unfolding_all rfl) ?_) | refine i_eq rfl ?_ | refine i_ne rfl ?_)
local macro_rules | `(tactic| walk_at "sc") => `(tactic| first | exact (Rp.int (M := N0) _) | exact (Rp.str (M := N0) _) | exact (Rp.bl (M := N0) _) | exact (Rp.non (M := N0)) | assumption | exact Rp.tab (by assumption) | exact Tb.rp (by assumption))
local macro_rules | `(tactic| walk_at "sd") => `(tactic| simp only [d_Bool_non, d_Bool_bl, d_Bool_int, d_Bool_str, d_Bool_lst, d_Bool_tup, d_Bool_tab, d_Bool_dic, d_Int_non, d_Int_bl, d_Int_int, d_Int_str, d_Int_lst, d_Int_tup, d_Int_tab, d_Int_dic, d_Str_non, d_Str_bl, d_Str_int, d_Str_str, d_Str_lst, d_Str_tup, d_Str_tab, d_Str_dic, d_List_non, d_List_bl, d_List_int, d_List_str, d_List_lst, d_List_tup, d_List_tab, d_List_dic, d_Tup_non, d_Tup_bl, d_Tup_int, d_Tup_str, d_Tup_lst, d_Tup_tup, d_Tup_tab, d_Tup_dic, d_Tab_non, d_Tab_bl, d_Tab_int, d_Tab_str, d_Tab_lst, d_Tab_tup, d_Tab_tab, d_Tab_dic, Bool.not_true, Bool.not_false, Bool.true_or, Bool.false_or, Bool.or_true, Bool.or_false, Bool.and_true, Bool.true_and, Bool.and_false, Bool.false_and, if_true, if_false, Bool.false_eq_true])
local macro_rules | `(tactic| walk_at "isi") => `(tactic| ((first | with_reducible apply i_isB | with_reducible apply i_isI | with_reducible apply i_isS | with_reducible apply i_isL | with_reducible apply i_isT | with_reducible apply i_isTab); (focus assumption); (focus walk_at "sc"); try simp only [d_Bool_non, d_Bool_bl, d_Bool_int, d_Bool_str, d_Bool_lst, d_Bool_tup, d_Bool_tab, d_Bool_dic, d_Int_non, d_Int_bl, d_Int_int, d_Int_str, d_Int_lst, d_Int_tup, d_Int_tab, d_Int_dic, d_Str_non, d_Str_bl, d_Str_int, d_Str_str, d_Str_lst, d_Str_tup, d_Str_tab, d_Str_dic, d_List_non, d_List_bl, d_List_int, d_List_str, d_List_lst, d_List_tup, d_List_tab, d_List_dic, d_Tup_non, d_Tup_bl, d_Tup_int, d_Tup_str, d_Tup_lst, d_Tup_tup, d_Tup_tab, d_Tup_dic, d_Tab_non, d_Tab_bl, d_Tab_int, d_Tab_str, d_Tab_lst, d_Tab_tup, d_Tab_tab, d_Tab_dic]))
local macro_rules | `(tactic| walk_at "om") => `(tactic| first | ((with_reducible refine i_decF ?_ ?_); (focus omega)) | ((with_reducible refine i_decT ?_ ?_); (focus omega)) | ((with_reducible refine i_ndecF ?_ ?_); (focus omega)) | ((with_reducible refine i_ndecT ?_ ?_); (focus omega)))
local macro_rules | `(tactic| walk_at "go") => `(tactic| ((repeat (first | walk_at "st" | walk_at "isi" | walk_at "om")); try dsimp only [List.set]))
variable {W : Wd} {a : Ad}
/-! D5: votes. -/
/-- what check_three says of its tables -/
def flt3 (a : Ad) : Option (Nat × List Int) → Option (Nat × List Int) → Option (Nat × List Int) → Option (Addr × Str)
  | none, _, _ => some (a.er 0, "first")
  | some _, none, _ => some (a.er 0, "second")
  | some (n, _), some (n2, _), o => if n2 ≠ n then some (a.er 1, "second") else match o with
    | none => some (a.er 0, "third")
    | some (n3, _) => if n3 ≠ n then some (a.er 1, "third") else none
def sp_ck3 (a : Ad) : Sp := sp4 fun x y z m H Q E => ∃ M o1 o2 o3 most, Gv a.ct M H x o1 ∧ Gv a.ct M H y o2 ∧ Gv a.ct M H z o3 ∧ m = .int most ∧ (∀ n bs, o1 = some (n, bs) → (n : Int) ≤ most) ∧
  (∀ C s, flt3 a o1 o2 o3 = some (C, s) → Rz E C s H) ∧ (flt3 a o1 o2 o3 = none → Q .non H)
abbrev s_check_three : Stmt := top 56
abbrev N_check_three : List Str := ["first", "second", "third", "most"]
abbrev P_check_three : List Str := ["first", "second", "third", "most"]
theorem sc_check_three : FnScope N_check_three P_check_three (defScope s_check_three) := ⟨rfl, rfl, rfl, by decide +kernel, rfl, by decide +kernel, by decide +kernel⟩
theorem bi_check_three {K : PySem.W.Frag} {f : Addr} {fd : FuncData} (F : FnF K "check_three" "check_three" s_check_three [] f fd) : Binds K fd P_check_three [] := FunD.bindsN F fun _ _ _ _ _ _ us hl => match us, hl with | [_, _, _, _], _ => rfl
theorem c_check_three (T : Txt W.K W.mg a) (eS : EcS W a) (D : DefAt W "check_three" "check_three" "check_three" s_check_three) (c_width : Prp W CX0 1 a.ct "width" P_Table_width (sp_wid a.ct))
    (c_check_table : Cal W (CXr W) 3 "check_table" P_check_table (sp_cktab a)) : Cal W (CXr W) 4 "check_three" P_check_three (sp_ck3 a) := cal_mk D sc_check_three len4 (fun _ _ => bi_check_three) fun f cdv A outer s H vs Q E hr h => by
  obtain ⟨x, y, z, u, rfl, M, o1, o2, o3, most, h1, h2, h3, rfl, hm, qe, q⟩ := sp4_of h
  refine ⟨_, (pss_cons (ps_expr (pe_cal c_check_table hr (by omega) (passes_call (takes_of rfl rfl rfl rfl) fun _ _ _ _ h => h) rfl (pa_cons (pv 0) (pa_cons (pv 3) (pa_cons pe_str pa_nil)))))
 (pss_cons (ps_expr (pe_cal c_check_table hr (by omega) (passes_call (takes_of rfl rfl rfl rfl) fun _ _ _ _ h => h) rfl (pa_cons (pv 1) (pa_cons (pe_gc rfl T.vMOST_WIDTH) (pa_cons pe_str pa_nil)))))
 (pss_cons (ps_if (pt_cmpR op_ne (pe_prp c_width hr (by omega) (pv 1)) (pe_prp c_width hr (by omega) (pv 0)) (by rfl))
  (pss_one (ps_raiseE rfl eS hr (takes_of rfl rfl rfl rfl) (pa_cons pe_str pa_nil) rfl))
  pss_nil)
 (pss_cons (ps_expr (pe_cal c_check_table hr (by omega) (passes_call (takes_of rfl rfl rfl rfl) fun _ _ _ _ h => h) rfl (pa_cons (pv 2) (pa_cons (pe_gc rfl T.vMOST_WIDTH) (pa_cons pe_str pa_nil)))))
 (pss_one (ps_if (pt_cmpR op_ne (pe_prp c_width hr (by omega) (pv 2)) (pe_prp c_width hr (by omega) (pv 0)) (by rfl))
  (pss_one (ps_raiseE rfl eS hr (takes_of rfl rfl rfl rfl) (pa_cons pe_str pa_nil) rfl))
  pss_nil)))))), ?_⟩
  walk_at "go"
  refine ⟨M, o1, most, "first", h1, rfl, rfl, by decide, fun n bs e => ⟨hm n bs e, ?_⟩, fun e => qe _ _ (by subst e; rfl)⟩
  subst e
  walk_at "go"
  refine ⟨M, o2, 6, "second", h2, rfl, rfl, by decide, fun n2 b2 e => ⟨?_, ?_⟩, fun e => qe _ _ (by subst e; rfl)⟩
  · subst e
    cases h2 with | tab h2 => exact_mod_cast h2.ok.1
  subst e
  cases h1 with | @tab p1 _ _ h1 =>
  cases h2 with | @tab p2 _ _ h2 =>
  walk_at "go"
  refine i_pwid h2 ?_
  walk_at "go"
  refine i_pwid h1 ?_
  walk_at "go"
  refine i_ndec (fun e => ?_) (fun e => ?_)
  · walk_at "go"
    refine i_rz ?_
    walk_at "go"
    exact i_rzE (by decide) (qe _ _ (if_pos (by omega)))
  have e2 : n2 = n := by omega
  subst e2
  walk_at "go"
  refine ⟨M, o3, 6, "third", h3, rfl, rfl, by decide, fun n3 b3 e => ⟨?_, ?_⟩, fun e => qe _ _ (by subst e; simp [flt3])⟩
  · subst e
    cases h3 with | tab h3 => exact_mod_cast h3.ok.1
  subst e
  cases h3 with | @tab p3 _ _ h3 =>
  walk_at "go"
  refine i_pwid h3 ?_
  walk_at "go"
  refine i_pwid h1 ?_
  walk_at "go"
  refine i_ndec (fun e => ?_) (fun e => ?_)
  · walk_at "go"
    refine i_rz ?_
    walk_at "go"
    exact i_rzE (by decide) (qe _ _ (by
      have : n3 ≠ n2 := by omega
      simp [flt3, this]))
  · walk_at "go"
    exact q (by
      have : n3 = n2 := by omega
      simp [flt3, this])
/-! constants -/
def con (n : Nat) (bs : List Int) : Option Int := if bs.sum = 0 then some 0 else if bs.sum = (2 ^ n : Nat) then some 1 else none
def oV : Option Int → V
  | none => .non
  | some i => .int i
abbrev s_constant_bit : Stmt := top 63
abbrev N_constant_bit : List Str := ["table"]
abbrev P_constant_bit : List Str := ["table"]
theorem sc_constant_bit : FnScope N_constant_bit P_constant_bit (defScope s_constant_bit) := ⟨rfl, rfl, rfl, by decide +kernel, rfl, by decide +kernel, by decide +kernel⟩
theorem bi_constant_bit {K : PySem.W.Frag} {f : Addr} {fd : FuncData} (F : FnF K "constant_bit" "constant_bit" s_constant_bit [] f fd) : Binds K fd P_constant_bit [] := FunD.bindsN F fun _ _ _ _ _ _ us hl => match us, hl with | [_], _ => rfl
def sp_con (ct : Addr) : Sp := sp1 fun v H Q _ => ∃ M p n bs, v = .ref p ∧ Tb ct M H p n bs ∧ Q (oV (con n bs)) H
theorem c_constant_bit (T : Txt W.K W.mg a) (D : DefAt W "constant_bit" "constant_bit" "constant_bit" s_constant_bit) (c_width : Prp W CX0 1 a.ct "width" P_Table_width (sp_wid a.ct)) (c_ones : Prp W CX0 1 a.ct "ones" P_Table_ones (sp_ones a.ct))
    (c_word_count : Cal W CX0 4 "word_count" P_word_count sp_wc) : Cal W CX0 5 "constant_bit" P_constant_bit (sp_con a.ct) := cal_mk D sc_constant_bit len1 (fun _ _ => bi_constant_bit) fun f cdv A outer s H vs Q E hr h => by
  obtain ⟨x, rfl, M, p, n, bs, rfl, hb, q⟩ := sp1_of h
  refine ⟨_, (pss_cons (ps_if (pt_cmpR op_eq (pe_prp c_ones hr (by omega) (pv 0)) pe_int (by rfl))
  (pss_one (ps_ret pe_int))
  pss_nil)
 (pss_cons (ps_if (pt_cmpR op_eq (pe_prp c_ones hr (by omega) (pv 0)) (pe_cal c_word_count hr (by omega) pass0 rfl (pa_cons (pe_prp c_width hr (by omega) (pv 0)) pa_nil)) (by rfl))
  (pss_one (ps_ret pe_int))
  pss_nil)
 (pss_one (ps_ret pe_non)))), ?_⟩
  walk_at "go"
  refine i_pones hb ?_
  walk_at "go"
  refine i_dec (fun e => ?_) (fun e => ?_)
  · walk_at "go"
    rw [con, if_pos e] at q
    exact q
  walk_at "go"
  refine i_pones hb ?_
  walk_at "go"
  refine i_pwid hb ?_
  walk_at "go"
  refine ⟨n, rfl, hb.ok.1, ?_⟩
  walk_at "go"
  rw [con, if_neg e] at q
  refine i_dec (fun e => ?_) (fun e => ?_)
  · walk_at "go"
    rw [if_pos e] at q
    exact q
  · walk_at "go"
    rw [if_neg e] at q
    exact q
def unl : Option Int → Option Int → Bool
  | some i, some j => !decide (i = j)
  | _, _ => false
abbrev s_unlike_pair : Stmt := top 64
abbrev N_unlike_pair : List Str := ["tables", "low", "high", "one", "two"]
abbrev P_unlike_pair : List Str := ["tables", "low", "high"]
theorem sc_unlike_pair : FnScope N_unlike_pair P_unlike_pair (defScope s_unlike_pair) := ⟨rfl, rfl, rfl, by decide +kernel, rfl, by decide +kernel, by decide +kernel⟩
theorem bi_unlike_pair {K : PySem.W.Frag} {f : Addr} {fd : FuncData} (F : FnF K "unlike_pair" "unlike_pair" s_unlike_pair [] f fd) : Binds K fd P_unlike_pair [] := FunD.bindsN F fun _ _ _ _ _ _ us hl => match us, hl with | [_, _, _], _ => rfl
/-- three tables in a tuple -/
structure Tr (ct : Addr) (M : Mt) (H : Hp) (t : Addr) (n : Nat) (b1 b2 b3 : List Int) : Prop where
  ex : ∃ p1 p2 p3, At M H t (.tup [.ref p1, .ref p2, .ref p3]) ∧ Tb ct M H p1 n b1 ∧ Tb ct M H p2 n b2 ∧ Tb ct M H p3 n b3
def b3of (b1 b2 b3 : List Int) : Nat → List Int
  | 0 => b1
  | 1 => b2
  | _ => b3
theorem Tr.at {ct : Addr} {M : Mt} {H : Hp} {t : Addr} {n : Nat} {b1 b2 b3 : List Int} (h : Tr ct M H t n b1 b2 b3) : ∃ xs, At M H t (.tup xs) ∧ ∀ i : Nat, i < 3 → ∃ p, atI xs (i : Int) = some (.ref p) ∧ Tb ct M H p n (b3of b1 b2 b3 i) := by
  obtain ⟨p1, p2, p3, h0, h1, h2, h3⟩ := h.ex
  refine ⟨_, h0, fun i hi => ?_⟩
  match i, hi with
  | 0, _ => exact ⟨p1, rfl, h1⟩
  | 1, _ => exact ⟨p2, rfl, h2⟩
  | 2, _ => exact ⟨p3, rfl, h3⟩
def sp_unl (ct : Addr) : Sp := sp3 fun v x y H Q _ => ∃ M t n b1 b2 b3, ∃ i j : Nat, v = .ref t ∧ x = .int i ∧ y = .int j ∧ i < 3 ∧ j < 3 ∧ Tr ct M H t n b1 b2 b3 ∧ Q (.bl (unl (con n (b3of b1 b2 b3 i)) (con n (b3of b1 b2 b3 j)))) H
theorem c_unlike_pair (T : Txt W.K W.mg a) (D : DefAt W "unlike_pair" "unlike_pair" "unlike_pair" s_unlike_pair) (c_constant_bit : Cal W CX0 5 "constant_bit" P_constant_bit (sp_con a.ct)) : Cal W CX0 6 "unlike_pair" P_unlike_pair (sp_unl a.ct) := cal_mk D sc_unlike_pair len3 (fun _ _ => bi_unlike_pair) fun f cdv A outer s H vs Q E hr h => by
  obtain ⟨x, y, z, rfl, M, t, n, b1, b2, b3, i, j, rfl, rfl, rfl, hi, hj, ht, q⟩ := sp3_of h
  obtain ⟨xs, h0, hp⟩ := ht.at
  obtain ⟨p, e1, t1⟩ := hp i hi
  obtain ⟨p', e2, t2⟩ := hp j hj
  refine ⟨_, (pss_cons (ps_set (i := 3) sc_unlike_pair.nd rfl (by first | exact Or.inl rfl | exact Or.inr rfl) (pe_cal c_constant_bit hr (by omega) pass0 rfl (pa_cons (pe_ix ix_seq (pv 0) (pv 1) (fun _ _ => rfl)) pa_nil)))
 (pss_cons (ps_set (i := 4) sc_unlike_pair.nd rfl (by first | exact Or.inl rfl | exact Or.inr rfl) (pe_cal c_constant_bit hr (by omega) pass0 rfl (pa_cons (pe_ix ix_seq (pv 0) (pv 2) (fun _ _ => rfl)) pa_nil)))
 (pss_one (ps_ret (pe_and (pe_cmp (pc_notN (pv 3))) (pe_and (pe_cmp (pc_notN (pv 4))) (pe_one (pe_cmpR op_ne (pv 3) (pv 4) (by rfl))))))))), ?_⟩
  walk_at "go"
  refine .inr (.inl (i_ixT h0 e1 ?_))
  walk_at "go"
  refine ⟨M, p, n, _, rfl, t1, ?_⟩
  walk_at "go"
  refine .inr (.inl (i_ixT h0 e2 ?_))
  walk_at "go"
  refine ⟨M, p', n, _, rfl, t2, ?_⟩
  walk_at "go"
  generalize con n (b3of b1 b2 b3 i) = c1 at q ⊢
  generalize con n (b3of b1 b2 b3 j) = c2 at q ⊢
  cases c1 with
  | none =>
    show if (!decide (V.non = V.non)) = true then _ else _
    walk_at "go"
    exact q
  | some c1 =>
    show if (!decide (V.int c1 = V.non)) = true then _ else _
    walk_at "go"
    cases c2 with
    | none =>
      show if (!decide (V.non = V.non)) = true then _ else _
      walk_at "go"
      exact q
    | some c2 =>
      show if (!decide (V.int c2 = V.non)) = true then _ else _
      walk_at "go"
      rw [show (!decide (oV (some c1) = oV (some c2))) = unl (some c1) (some c2) by simp [oV, unl]]
      exact q
end Bs
set_option Elab.async false
set_option linter.all false
set_option maxRecDepth 100000
set_option maxHeartbeats 400000
namespace Bs
open PySem PySem.Spec PyProof.Rows L2 SX
open C8 (pe_gc pss_cut)
local macro_rules | `(tactic| walk_at "xt") => `(tactic| first | assumption | exact Ext.weak (by assumption) | exact Ext.is (by assumption) (by assumption) | exact Ext.plus (by assumption) | exact Ext.plus (Ext.weak (by assumption)) | exact Ext.plus (Ext.is (by assumption) (by assumption)) | exact Ext.set plus_self)
local macro_rules | `(tactic| walk_at "gr") => `(tactic| first | assumption | exact Ext.grow (by assumption) | exact Grow.upd)
local macro_rules | `(tactic| walk_at "mo") => `(tactic| first | assumption | exact MOk.zero | ((first | refine MOk.grow ?_ (by walk_at "gr") | exact MOk.upd (by walk_at "mo")); walk_at "mo") | exact MOk.plus (by walk_at "mo") (by assumption))
local macro_rules | `(tactic| walk_at "hp") => `(tactic| first
  | assumption | exact At.raw (by assumption)
  | exact At.mk' (by walk_at "mo") (by assumption) (by assumption)
  | ((first | refine At.ext (by walk_at "xt") ?_ | refine Rp.ext (by walk_at "xt") ?_ | refine RpA.ext (by walk_at "xt") ?_ | refine Tb.ext (by walk_at "xt") ?_); walk_at "hp")
  | ((first | refine At.plus (by assumption) ?_ | refine Rp.plus (by assumption) ?_ | refine RpA.plus (by assumption) ?_ | refine Tb.plus (by assumption) ?_); walk_at "hp"))
local macro_rules | `(tactic| walk_at "at") => `(tactic| first | assumption | exact At.get (M := N0) (by walk_at "hp"))
local macro_rules | `(tactic| walk_at "sq") => `(tactic| first | exact SqL.of (by walk_at "at") | exact SqT.of (by walk_at "at"))
local macro_rules | `(tactic| walk_at "st") => `(tactic| with_reducible first
  | refine i_seq ?_ | refine i_asg ?_ | refine i_ret ?_ | refine i_retN ?_ | refine i_drop ?_ | refine i_ifS ?_ | refine i_next ?_ | refine i_brk ?_
  | refine i_gname ?_ | refine i_gsub ?_ | refine i_c ?_ | refine i_op ?_ | refine i_un ?_ | refine i_I0 ?_ | refine i_U ?_ | refine i_isN ?_ | refine i_notN ?_
  | refine i_test ?_ | refine i_tB ?_ | refine i_bl ?_ | refine i_and ?_ | refine i_or ?_ | refine i_not ?_ | refine i_andV ?_ | refine i_orV ?_ | refine i_notV ?_ | refine i_ifE ?_
  | refine i_nil ?_ | refine i_cons ?_ | refine i_for ?_ | refine i_iL ?_ | refine i_iT ?_ | refine i_iR ?_ | refine i_lc ?_ | refine i_prp ?_ | refine i_mk ?_ | refine i_sS ?_ | refine i_sN ?_ | refine i_nsS ?_ | refine i_nsN ?_ | refine i_fld ?_ | refine i_sf ?_ | refine i_inO ?_ | refine i_lsO ?_ | refine i_tpO ?_ | refine i_lnO ?_ | refine i_cb ?_ | refine i_call ?_ | refine i_tup ?_ | refine i_lst ?_ | refine i_dnew ?_ | refine i_inI ?_ | refine i_inB ?_ | refine i_rgX ?_ | refine i_lrO ?_ | refine i_rg1 ?_ | refine i_nF ?_ | refine i_nT ?_ | refine i_tt ?_ | refine i_ff ?_ | refine i_ifT ?_ | refine i_ifF ?_
  | refine i_eqI ?_ | refine i_eqS ?_ | refine i_eqB ?_ | refine i_neI ?_ | refine i_neS ?_ | refine i_dR ?_ | refine i_dI ?_ | refine i_dT ?_ | refine i_dS ?_ | refine i_dN ?_ | refine i_nR ?_ | refine i_nI ?_ | refine i_nN ?_
  | (refine i_var (by with_unfolding_all rfl) ?_) | refine i_eq rfl ?_ | refine i_ne rfl ?_)
local macro_rules | `(tactic| walk_at "sc") => `(tactic| first | exact (Rp.int (M := N0) _) | exact (Rp.str (M := N0) _) | exact (Rp.bl (M := N0) _) | exact (Rp.non (M := N0)) | assumption | exact Rp.tab (by assumption) | exact Tb.rp (by assumption))
local macro_rules | `(tactic| walk_at "sd") => `(tactic| simp only [d_Bool_non, d_Bool_bl, d_Bool_int, d_Bool_str, d_Bool_lst, d_Bool_tup, d_Bool_tab, d_Bool_dic, d_Int_non, d_Int_bl, d_Int_int, d_Int_str, d_Int_lst, d_Int_tup, d_Int_tab, d_Int_dic, d_Str_non, d_Str_bl, d_Str_int, d_Str_str, d_Str_lst, d_Str_tup, d_Str_tab, d_Str_dic, d_List_non, d_List_bl, d_List_int, d_List_str, d_List_lst, d_List_tup, d_List_tab, d_List_dic, d_Tup_non, d_Tup_bl, d_Tup_int, d_Tup_str, d_Tup_lst, d_Tup_tup, d_Tup_tab, d_Tup_dic, d_Tab_non, d_Tab_bl, d_Tab_int, d_Tab_str, d_Tab_lst, d_Tab_tup, d_Tab_tab, d_Tab_dic, Bool.not_true, Bool.not_false, Bool.true_or, Bool.false_or, Bool.or_true, Bool.or_false, Bool.and_true, Bool.true_and, Bool.and_false, Bool.false_and, if_true, if_false, Bool.false_eq_true])
local macro_rules | `(tactic| walk_at "isi") => `(tactic| ((first | with_reducible apply i_isB | with_reducible apply i_isI | with_reducible apply i_isS | with_reducible apply i_isL | with_reducible apply i_isT | with_reducible apply i_isTab); (focus assumption); (focus walk_at "sc"); try simp only [d_Bool_non, d_Bool_bl, d_Bool_int, d_Bool_str, d_Bool_lst, d_Bool_tup, d_Bool_tab, d_Bool_dic, d_Int_non, d_Int_bl, d_Int_int, d_Int_str, d_Int_lst, d_Int_tup, d_Int_tab, d_Int_dic, d_Str_non, d_Str_bl, d_Str_int, d_Str_str, d_Str_lst, d_Str_tup, d_Str_tab, d_Str_dic, d_List_non, d_List_bl, d_List_int, d_List_str, d_List_lst, d_List_tup, d_List_tab, d_List_dic, d_Tup_non, d_Tup_bl, d_Tup_int, d_Tup_str, d_Tup_lst, d_Tup_tup, d_Tup_tab, d_Tup_dic, d_Tab_non, d_Tab_bl, d_Tab_int, d_Tab_str, d_Tab_lst, d_Tab_tup, d_Tab_tab, d_Tab_dic]))
local macro_rules | `(tactic| walk_at "om") => `(tactic| first | ((with_reducible refine i_decF ?_ ?_); (focus omega)) | ((with_reducible refine i_decT ?_ ?_); (focus omega)) | ((with_reducible refine i_ndecF ?_ ?_); (focus omega)) | ((with_reducible refine i_ndecT ?_ ?_); (focus omega)))
local macro_rules | `(tactic| walk_at "go") => `(tactic| ((repeat (first | walk_at "st" | walk_at "isi" | walk_at "om")); try dsimp only [List.set]))
variable {W : Wd} {a : Ad}
/-! D6: ballots. -/
def bq (q : Nat) (o : Str) : Int := (bitsOf o).getD q 0
/-- the word of a ballot for question q -/
def wq (q : Nat) : List Str → Int
  | [] => 0
  | o :: r => bq q o + 2 * wq q r
theorem bq_01 (q : Nat) (o : Str) : bq q o = 0 ∨ bq q o = 1 := by
  unfold bq bitsOf
  repeat' split
  all_goals
    match q with
    | 0 => decide
    | 1 => decide
    | 2 => decide
    | q + 3 => left; rfl
theorem wq_app (q : Nat) : ∀ (b : List Str) (o : Str), wq q (b ++ [o]) = wq q b + bq q o * 2 ^ b.length
  | [], o => by simp [wq]
  | c :: r, o => by
    rw [List.cons_append, wq, wq, wq_app q r o, List.length_cons, Int.pow_succ]
    rw [Int.mul_add, Int.mul_comm 2 (bq q o * 2 ^ r.length), Int.mul_assoc]
    omega
theorem bits3 (o : Str) : bitsOf o = [bq 0 o, bq 1 o, bq 2 o] := by
  unfold bq bitsOf
  repeat' split
  all_goals rfl
def SqB (K : PySem.W.Frag) (H : Hp) (p : Addr) (b : List Str) : Prop := SqL K H p (b.map V.str) ∨ SqT K H p (b.map V.str)
def sp_wob : Sp := sp1 fun v H Q _ => ∃ M p b, v = .ref p ∧ (At M H p (.lst (b.map V.str)) ∨ At M H p (.tup (b.map V.str))) ∧ b.length ≤ 20 ∧ (∀ o ∈ b, o ∈ orders) ∧ ∀ t H', Ext N0 H H' → H' t = some (.tup [.int (wq 0 b), .int (wq 1 b), .int (wq 2 b)]) → Q (.ref t) H'
abbrev s_words_of_ballot : Stmt := top 57
abbrev N_words_of_ballot : List Str := ["ballot", "words", "voter", "order", "question", "bit"]
abbrev P_words_of_ballot : List Str := ["ballot"]
theorem sc_words_of_ballot : FnScope N_words_of_ballot P_words_of_ballot (defScope s_words_of_ballot) := ⟨rfl, rfl, rfl, by decide +kernel, rfl, by decide +kernel, by decide +kernel⟩
theorem bi_words_of_ballot {K : PySem.W.Frag} {f : Addr} {fd : FuncData} (F : FnF K "words_of_ballot" "words_of_ballot" s_words_of_ballot [] f fd) : Binds K fd P_words_of_ballot [] := FunD.bindsN F fun _ _ _ _ _ _ us hl => match us, hl with | [_], _ => rfl
theorem c_words_of_ballot (T : Txt W.K W.mg a) (T2 : Tx2 W.K W.P W.w a) (D : DefAt W "words_of_ballot" "words_of_ballot" "words_of_ballot" s_words_of_ballot) : Cal W CX0 1 "words_of_ballot" P_words_of_ballot sp_wob := cal_mk D sc_words_of_ballot len1 (fun _ _ => bi_words_of_ballot) fun f cdv A outer s H vs Q E hr h => by
  obtain ⟨x, rfl, M, p, b, rfl, hb, hl, ho, q⟩ := sp1_of h
  refine ⟨_, (PSs.nox (pss_cons (ps_set (i := 1) sc_words_of_ballot.nd rfl (by first | exact Or.inl rfl | exact Or.inr rfl) (pe_lst (pa_cons pe_int (pa_cons pe_int (pa_cons pe_int pa_nil)))))
 (pss_cons (ps_for PassesOwn.never rfl (pi_enumB (by rfl) T.enumerate (pa_cons (pv 0) pa_nil)) (pg_tup rfl (pgs_cons (pg_name (i := 2) sc_words_of_ballot.nd rfl (by first | exact Or.inl rfl | exact Or.inr rfl)) (pgs_cons (pg_name (i := 3) sc_words_of_ballot.nd rfl (by first | exact Or.inl rfl | exact Or.inr rfl)) pgs_nil)))
  (pss_one (ps_for PassesOwn.never rfl (pi_enumT (by rfl) T.enumerate (pa_cons (pe_ix ix_kdict (pe_gc rfl T.vBITS_OF_ORDER) (pv 3) (fun _ _ => rfl)) pa_nil)) (pg_tup rfl (pgs_cons (pg_name (i := 4) sc_words_of_ballot.nd rfl (by first | exact Or.inl rfl | exact Or.inr rfl)) (pgs_cons (pg_name (i := 5) sc_words_of_ballot.nd rfl (by first | exact Or.inl rfl | exact Or.inr rfl)) pgs_nil)))
  (pss_one (ps_augS (pv 1) (pv 4) get_list (pe_op op_shl (pv 5) (pv 2)) ip_add set_list)))))
 (pss_one (ps_ret (pe_callTy call_tuple_of rfl T.tuple (by decide +kernel) (pa_cons (pv 1) pa_nil))))))), ?_⟩
  walk_at "go"
  refine i_nwL (by simp) fun l H1 n1 x1 t1 => ?_
  walk_at "go"
  have hb0 : At (Plus N0 l) H1 p (.lst (b.map V.str)) ∨ At (Plus N0 l) H1 p (.tup (b.map V.str)) := hb.imp (fun z => (z.zero.plus n1).ext x1.weak) fun z => (z.zero.plus n1).ext x1.weak
  refine f_enumB hb0 (fun R h => i_cons (i_var rfl (i_nil h))) (fun i σ Hx => (∃ v1 v2 v3 v4, σ = [some (.ref p), some (.ref l), v1, v2, v3, v4]) ∧ Ext (Plus N0 l) H1 Hx ∧ Hx l = some (.lst [.int (wq 0 (b.take i)), .int (wq 1 (b.take i)), .int (wq 2 (b.take i))]))
    ⟨⟨_, _, _, _, rfl⟩, Ext.refl _ _, by simpa [wq] using t1⟩ (fun i σ H' _ e => e.2.1) ?_ ?_
  · rintro i v σ Hx Hy t hv ⟨⟨v1, v2, v3, v4, rfl⟩, x2, hl2⟩ nt xt et
    obtain ⟨o, hoi, rfl⟩ : ∃ o, b[i]? = some o ∧ v = .str o := by
      rw [List.getElem?_map] at hv
      cases e : b[i]? with
      | none => rw [e] at hv; cases hv
      | some o => rw [e] at hv; exact ⟨o, rfl, (Option.some.inj hv).symm⟩
    have hi : i < b.length := (List.getElem?_eq_some_iff.mp hoi).1
    obtain ⟨g1, g2⟩ := T2.bob o (ho o (List.mem_of_getElem? hoi))
    refine i_gt2 (SqT.of et) ?_
    walk_at "go"
    have hly := xt _ _ (fun z => z) hl2
    refine f_enumT (p := a.bt o) (xs := (bitsOf o).map V.int) (Pv := fun j σ Hz => (∃ v3 v4, σ = [some (.ref p), some (.ref l), some (.int i), some (.str o), v3, v4]) ∧ Ext (Plus N0 l) H1 Hz ∧ Hz l = some (.lst [V.int (wq 0 (b.take i) + if 0 < j then bq 0 o * 2 ^ i else 0), V.int (wq 1 (b.take i) + if 1 < j then bq 1 o * 2 ^ i else 0), V.int (wq 2 (b.take i) + if 2 < j then bq 2 o * 2 ^ i else 0)])) (fun _ _ _ _ _ => g2 _) (g2 _) ?_ ⟨⟨_, _, rfl⟩, x2.trans xt.weak, by simpa using hly⟩ ?_ ?_
    · intro R hR
      walk_at "go"
      exact ⟨a.bob, o, _, rfl, rfl, g1, hR⟩
    · rintro j v σ Ha Hb t' hv ⟨⟨v3, v4, rfl⟩, x3, hl3⟩ nt' xt' et'
      obtain ⟨c, hc, rfl⟩ := getI hv
      have hj : j < 3 := by
        have := (List.getElem?_eq_some_iff.mp hc).1
        rw [bits3] at this
        exact this
      have hcq : c = bq j o := by
        unfold bq
        rw [List.getD_eq_getElem?_getD, hc]; rfl
      subst hcq
      refine i_gt2 (SqT.of et') ?_
      walk_at "go"
      refine i_augS ?_
      walk_at "go"
      have hl4 := xt' _ _ (fun z => z) hl3
      have hc0 : ∀ c : Nat, CPow (bq c o) (i : Int) := fun c => ⟨by omega, by omega, by rcases bq_01 c o with h | h <;> rw [h] <;> decide⟩
      have h3 : j = 0 ∨ j = 1 ∨ j = 2 := by omega
      rcases h3 with rfl | rfl | rfl
      all_goals
        refine ⟨l, _, _, _, rfl, rfl, SqL.of hl4, rfl, ?_⟩
        walk_at "go"
        refine i_I (hc0 _) ?_
        refine ⟨_, _, rfl, rfl, ?_⟩
        refine i_setL hl4 rfl fun Hc xc gc tc => ?_
        refine ⟨⟨_, _, rfl⟩, (x3.trans xt'.weak).trans (xc.is plus_self), ?_⟩
        rw [tc]
        simp
    · rintro σ Hz ⟨⟨v3, v4, rfl⟩, x3, hl3⟩
      refine ⟨⟨_, _, _, _, rfl⟩, x3, ?_⟩
      rw [hl3]
      have e : b.take (i + 1) = b.take i ++ [o] := by
        rw [List.take_succ, hoi]; rfl
      have e2 : (b.take i).length = i := by simp; omega
      rw [e, wq_app, wq_app, wq_app, e2]
      simp [bits3]
  · rintro σ Hx ⟨⟨v1, v2, v3, v4, rfl⟩, x2, hl2⟩
    walk_at "go"
    refine i_tpL (SqL.of hl2) fun t H3 n3 x3 t3 => ?_
    refine q t H3 ((Ext.close x1 n1 x2).trans x3) ?_
    rw [t3]
    simp [List.take_of_length_le]
end Bs
set_option Elab.async false
set_option linter.all false
set_option maxRecDepth 100000
set_option maxHeartbeats 400000
namespace Bs
open PySem PySem.Spec PyProof.Rows L2 SX
open C8 (pe_gc pss_cut)
local macro_rules | `(tactic| walk_at "xt") => `(tactic| first | assumption | exact Ext.weak (by assumption) | exact Ext.is (by assumption) (by assumption) | exact Ext.plus (by assumption) | exact Ext.plus (Ext.weak (by assumption)) | exact Ext.plus (Ext.is (by assumption) (by assumption)) | exact Ext.set plus_self)
local macro_rules | `(tactic| walk_at "gr") => `(tactic| first | assumption | exact Ext.grow (by assumption) | exact Grow.upd)
local macro_rules | `(tactic| walk_at "mo") => `(tactic| first | assumption | exact MOk.zero | ((first | refine MOk.grow ?_ (by walk_at "gr") | exact MOk.upd (by walk_at "mo")); walk_at "mo") | exact MOk.plus (by walk_at "mo") (by assumption))
local macro_rules | `(tactic| walk_at "hp") => `(tactic| first
  | assumption | exact At.raw (by assumption)
  | exact At.mk' (by walk_at "mo") (by assumption) (by assumption)
  | ((first | refine At.ext (by walk_at "xt") ?_ | refine Rp.ext (by walk_at "xt") ?_ | refine RpA.ext (by walk_at "xt") ?_ | refine Tb.ext (by walk_at "xt") ?_); walk_at "hp")
  | ((first | refine At.plus (by assumption) ?_ | refine Rp.plus (by assumption) ?_ | refine RpA.plus (by assumption) ?_ | refine Tb.plus (by assumption) ?_); walk_at "hp"))
local macro_rules | `(tactic| walk_at "at") => `(tactic| first | assumption | exact At.get (M := N0) (by walk_at "hp"))
local macro_rules | `(tactic| walk_at "sq") => `(tactic| first | exact SqL.of (by walk_at "at") | exact SqT.of (by walk_at "at"))
local macro_rules | `(tactic| walk_at "st") => `(tactic| with_reducible first
  | refine i_seq ?_ | refine i_asg ?_ | refine i_ret ?_ | refine i_retN ?_ | refine i_drop ?_ | refine i_ifS ?_ | refine i_next ?_ | refine i_brk ?_
  | refine i_gname ?_ | refine i_gsub ?_ | refine i_c ?_ | refine i_op ?_ | refine i_un ?_ | refine i_I0 ?_ | refine i_U ?_ | refine i_isN ?_ | refine i_notN ?_
  | refine i_test ?_ | refine i_tB ?_ | refine i_bl ?_ | refine i_and ?_ | refine i_or ?_ | refine i_not ?_ | refine i_andV ?_ | refine i_orV ?_ | refine i_notV ?_ | refine i_ifE ?_
  | refine i_nil ?_ | refine i_cons ?_ | refine i_for ?_ | refine i_iL ?_ | refine i_iT ?_ | refine i_iR ?_ | refine i_lc ?_ | refine i_prp ?_ | refine i_mk ?_ | refine i_sS ?_ | refine i_sN ?_ | refine i_nsS ?_ | refine i_nsN ?_ | refine i_fld ?_ | refine i_sf ?_ | refine i_inO ?_ | refine i_lsO ?_ | refine i_tpO ?_ | refine i_lnO ?_ | refine i_cb ?_ | refine i_call ?_ | refine i_tup ?_ | refine i_lst ?_ | refine i_dnew ?_ | refine i_inI ?_ | refine i_inB ?_ | refine i_rgX ?_ | refine i_lrO ?_ | refine i_rg1 ?_ | refine i_nF ?_ | refine i_nT ?_ | refine i_tt ?_ | refine i_ff ?_ | refine i_ifT ?_ | refine i_ifF ?_
  | refine i_eqI ?_ | refine i_eqS ?_ | refine i_eqB ?_ | refine i_neI ?_ | refine i_neS ?_ | refine i_dR ?_ | refine i_dI ?_ | refine i_dT ?_ | refine i_dS ?_ | refine i_dN ?_ | refine i_nR ?_ | refine i_nI ?_ | refine i_nN ?_
  | (refine i_var (by with_unfolding_all rfl) ?_) | refine i_eq rfl ?_ | refine i_ne rfl ?_)
local macro_rules | `(tactic| walk_at "sc") => `(tactic| first | exact (Rp.int (M := N0) _) | exact (Rp.str (M := N0) _) | exact (Rp.bl (M := N0) _) | exact (Rp.non (M := N0)) | assumption | exact Rp.tab (by assumption) | exact Tb.rp (by assumption))
local macro_rules | `(tactic| walk_at "sd") => `(tactic| simp only [d_Bool_non, d_Bool_bl, d_Bool_int, d_Bool_str, d_Bool_lst, d_Bool_tup, d_Bool_tab, d_Bool_dic, d_Int_non, d_Int_bl, d_Int_int, d_Int_str, d_Int_lst, d_Int_tup, d_Int_tab, d_Int_dic, d_Str_non, d_Str_bl, d_Str_int, d_Str_str, d_Str_lst, d_Str_tup, d_Str_tab, d_Str_dic, d_List_non, d_List_bl, d_List_int, d_List_str, d_List_lst, d_List_tup, d_List_tab, d_List_dic, d_Tup_non, d_Tup_bl, d_Tup_int, d_Tup_str, d_Tup_lst, d_Tup_tup, d_Tup_tab, d_Tup_dic, d_Tab_non, d_Tab_bl, d_Tab_int, d_Tab_str, d_Tab_lst, d_Tab_tup, d_Tab_tab, d_Tab_dic, Bool.not_true, Bool.not_false, Bool.true_or, Bool.false_or, Bool.or_true, Bool.or_false, Bool.and_true, Bool.true_and, Bool.and_false, Bool.false_and, if_true, if_false, Bool.false_eq_true])
local macro_rules | `(tactic| walk_at "isi") => `(tactic| ((first | with_reducible apply i_isB | with_reducible apply i_isI | with_reducible apply i_isS | with_reducible apply i_isL | with_reducible apply i_isT | with_reducible apply i_isTab); (focus assumption); (focus walk_at "sc"); try simp only [d_Bool_non, d_Bool_bl, d_Bool_int, d_Bool_str, d_Bool_lst, d_Bool_tup, d_Bool_tab, d_Bool_dic, d_Int_non, d_Int_bl, d_Int_int, d_Int_str, d_Int_lst, d_Int_tup, d_Int_tab, d_Int_dic, d_Str_non, d_Str_bl, d_Str_int, d_Str_str, d_Str_lst, d_Str_tup, d_Str_tab, d_Str_dic, d_List_non, d_List_bl, d_List_int, d_List_str, d_List_lst, d_List_tup, d_List_tab, d_List_dic, d_Tup_non, d_Tup_bl, d_Tup_int, d_Tup_str, d_Tup_lst, d_Tup_tup, d_Tup_tab, d_Tup_dic, d_Tab_non, d_Tab_bl, d_Tab_int, d_Tab_str, d_Tab_lst, d_Tab_tup, d_Tab_tab, d_Tab_dic]))
local macro_rules | `(tactic| walk_at "om") => `(tactic| first | ((with_reducible refine i_decF ?_ ?_); (focus omega)) | ((with_reducible refine i_decT ?_ ?_); (focus omega)) | ((with_reducible refine i_ndecF ?_ ?_); (focus omega)) | ((with_reducible refine i_ndecT ?_ ?_); (focus omega)))
local macro_rules | `(tactic| walk_at "go") => `(tactic| ((repeat (first | walk_at "st" | walk_at "isi" | walk_at "om")); try dsimp only [List.set]))
variable {W : Wd} {a : Ad}
/-! D7: outcomes. -/
theorem wq_lo (q : Nat) : ∀ b : List Str, 0 ≤ wq q b ∧ wq q b < 2 ^ b.length
  | [] => by simp [wq]
  | o :: r => by
    have := wq_lo q r
    have h := bq_01 q o
    rw [wq, List.length_cons, Int.pow_succ]
    omega
def gI (bs : List Int) (w : Int) : Int := bs.getD w.toNat 0
def outc (b1 b2 b3 : List Int) (b : List Str) : Str := ordI (gI b1 (wq 0 b)) (gI b2 (wq 1 b)) (gI b3 (wq 2 b))
theorem gI_at {n : Nat} {bs : List Int} (h : TabOk n bs) {w : Int} (h0 : 0 ≤ w) (h1 : w < 2 ^ n) : ∃ i : Nat, w = i ∧ bs[i]? = some (gI bs w) := by
  obtain ⟨i, rfl⟩ := Int.eq_ofNat_of_zero_le h0
  refine ⟨i, rfl, ?_⟩
  have hi : i < bs.length := by
    rw [h.2.1]
    exact_mod_cast h1
  simp [gI, List.getD_eq_getElem?_getD, hi]
abbrev s_order_with_bits : Stmt := top 58
abbrev N_order_with_bits : List Str := ["bits"]
abbrev P_order_with_bits : List Str := ["bits"]
theorem sc_order_with_bits : FnScope N_order_with_bits P_order_with_bits (defScope s_order_with_bits) := ⟨rfl, rfl, rfl, by decide +kernel, rfl, by decide +kernel, by decide +kernel⟩
theorem bi_order_with_bits {K : PySem.W.Frag} {f : Addr} {fd : FuncData} (F : FnF K "order_with_bits" "order_with_bits" s_order_with_bits [] f fd) : Binds K fd P_order_with_bits [] := FunD.bindsN F fun _ _ _ _ _ _ us hl => match us, hl with | [_], _ => rfl
def sp_owb : Sp := sp1 fun v H Q _ => ∃ p i j k, v = .ref p ∧ H p = some (.tup [.int i, .int j, .int k]) ∧ Q (.str (ordI i j k)) H
theorem c_order_with_bits (T : Txt W.K W.mg a) (T2 : Tx2 W.K W.P W.w a) (D : DefAt W "order_with_bits" "order_with_bits" "order_with_bits" s_order_with_bits) : Cal W CX0 1 "order_with_bits" P_order_with_bits sp_owb := cal_mk D sc_order_with_bits len1 (fun _ _ => bi_order_with_bits) fun f cdv A outer s H vs Q E hr h => by
  obtain ⟨x, rfl, p, i, j, k, rfl, hp, q⟩ := sp1_of h
  refine ⟨_, (pss_one (ps_ret (pe_kdT T2.oob (u1 hr) (pe_gc rfl T.vORDER_OF_BITS) (pa_cons (pv 0) (pa_cons (pe_gc rfl T.vRING) pa_nil))))), ?_⟩
  walk_at "go"
  refine ⟨rfl, ?_⟩
  walk_at "go"
  refine ⟨p, [.inl i, .inl j, .inl k], _, rfl, hp, ?_⟩
  rw [valO]
  exact q
def sp_out (ct : Addr) : Sp := sp2 fun v w H Q _ => ∃ M t n b1 b2 b3 p b, v = .ref t ∧ w = .ref p ∧ Tr ct M H t n b1 b2 b3 ∧ (At M H p (.lst (b.map V.str)) ∨ At M H p (.tup (b.map V.str))) ∧ b.length = n ∧ (∀ o ∈ b, o ∈ orders) ∧ ∀ H', Ext N0 H H' → Q (.str (outc b1 b2 b3 b)) H'
abbrev s_outcome_of : Stmt := top 60
abbrev N_outcome_of : List Str := ["tables", "ballot", "x", "y", "z"]
abbrev P_outcome_of : List Str := ["tables", "ballot"]
theorem sc_outcome_of : FnScope N_outcome_of P_outcome_of (defScope s_outcome_of) := ⟨rfl, rfl, rfl, by decide +kernel, rfl, by decide +kernel, by decide +kernel⟩
theorem bi_outcome_of {K : PySem.W.Frag} {f : Addr} {fd : FuncData} (F : FnF K "outcome_of" "outcome_of" s_outcome_of [] f fd) : Binds K fd P_outcome_of [] := FunD.bindsN F fun _ _ _ _ _ _ us hl => match us, hl with | [_, _], _ => rfl
theorem Tr.ext {ct : Addr} {M : Mt} {H H' : Hp} {t : Addr} {n : Nat} {b1 b2 b3 : List Int} (x : Ext M H H') (h : Tr ct M H t n b1 b2 b3) : Tr ct M H' t n b1 b2 b3 := by
  obtain ⟨p1, p2, p3, h0, h1, h2, h3⟩ := h.ex
  exact ⟨p1, p2, p3, h0.ext x, h1.ext x, h2.ext x, h3.ext x⟩
theorem Tr.plus {ct : Addr} {M : Mt} {H : Hp} {t p : Addr} {n : Nat} {b1 b2 b3 : List Int} (x : H p = none) (h : Tr ct M H t n b1 b2 b3) : Tr ct (Plus M p) H t n b1 b2 b3 := by
  obtain ⟨p1, p2, p3, h0, h1, h2, h3⟩ := h.ex
  exact ⟨p1, p2, p3, h0.plus x, h1.plus x, h2.plus x, h3.plus x⟩
theorem Tr.zero {ct : Addr} {M : Mt} {H : Hp} {t : Addr} {n : Nat} {b1 b2 b3 : List Int} (h : Tr ct M H t n b1 b2 b3) : Tr ct N0 H t n b1 b2 b3 := by
  obtain ⟨p1, p2, p3, h0, h1, h2, h3⟩ := h.ex
  exact ⟨p1, p2, p3, h0.zero, h1.zero, h2.zero, h3.zero⟩
theorem c_outcome_of (T : Txt W.K W.mg a) (T2 : Tx2 W.K W.P W.w a) (D : DefAt W "outcome_of" "outcome_of" "outcome_of" s_outcome_of) (c_words_of_ballot : Cal W CX0 1 "words_of_ballot" P_words_of_ballot sp_wob)
    (c_getitem : Own W CX0 4 a.ct "__getitem__" P_Table_getitem (sp_get a.ct)) (c_order_with_bits : Cal W CX0 1 "order_with_bits" P_order_with_bits sp_owb) : Cal W CX0 6 "outcome_of" P_outcome_of (sp_out a.ct) := cal_mk D sc_outcome_of len2 (fun _ _ => bi_outcome_of) fun f cdv A outer s H vs Q E hr h => by
  obtain ⟨x, y, rfl, M, t, n, b1, b2, b3, p, b, rfl, rfl, ht, hb, hl, ho, q⟩ := sp2_of h
  refine ⟨_, (pss_cons (ps_asg (pe_cal c_words_of_ballot hr (by omega) pass0 rfl (pa_cons (pv 1) pa_nil)) (pg_tup rfl (pgs_cons (pg_name (i := 2) sc_outcome_of.nd rfl (by first | exact Or.inl rfl | exact Or.inr rfl)) (pgs_cons (pg_name (i := 3) sc_outcome_of.nd rfl (by first | exact Or.inl rfl | exact Or.inr rfl)) (pgs_cons (pg_name (i := 4) sc_outcome_of.nd rfl (by first | exact Or.inl rfl | exact Or.inr rfl)) pgs_nil)))))
 (pss_one (ps_ret (pe_cal c_order_with_bits hr (by omega) pass0 rfl (pa_cons (pe_tup (pa_cons (pe_own c_getitem hr (by omega) (pe_ix ix_seq (pv 0) pe_int (fun _ _ => rfl)) (pv 2)) (pa_cons (pe_own c_getitem hr (by omega) (pe_ix ix_seq (pv 0) pe_int (fun _ _ => rfl)) (pv 3)) (pa_cons (pe_own c_getitem hr (by omega) (pe_ix ix_seq (pv 0) pe_int (fun _ _ => rfl)) (pv 4)) pa_nil)))) pa_nil))))), ?_⟩
  walk_at "go"
  obtain ⟨_, _, _, _, ht1, _, _⟩ := ht.ex
  have hn := ht1.ok.1
  refine ⟨M, p, b, rfl, hb, by omega, ho, fun u H1 x1 u1 => ?_⟩
  refine i_gt3 (SqT.of u1) ?_
  walk_at "go"
  have ht := ht.ext x1.weak
  clear ht1
  obtain ⟨p1, p2, p3, h0, h1, h2, h3⟩ := ht.ex
  have w0 := wq_lo 0 b
  have w1 := wq_lo 1 b
  have w2 := wq_lo 2 b
  rw [hl] at w0 w1 w2
  refine .inr (.inl (i_ixT h0 (i := 0) rfl ?_))
  walk_at "go"
  obtain ⟨i, ei, gi⟩ := gI_at h1.ok w0.1 w0.2
  obtain ⟨_, d1, _, k1, _⟩ := id h1
  refine ⟨p1, d1, _, rfl, k1.2, p1, M, n, b1, i, _, rfl, by rw [ei], h1, gi, ?_⟩
  walk_at "go"
  refine .inr (.inl (i_ixT h0 (i := 1) rfl ?_))
  walk_at "go"
  obtain ⟨j, ej, gj⟩ := gI_at h2.ok w1.1 w1.2
  obtain ⟨_, d2, _, k2, _⟩ := id h2
  refine ⟨p2, d2, _, rfl, k2.2, p2, M, n, b2, j, _, rfl, by rw [ej], h2, gj, ?_⟩
  walk_at "go"
  refine .inr (.inl (i_ixT h0 (i := 2) rfl ?_))
  walk_at "go"
  obtain ⟨k, ek, gk⟩ := gI_at h3.ok w2.1 w2.2
  obtain ⟨_, d3, _, k3, _⟩ := id h3
  refine ⟨p3, d3, _, rfl, k3.2, p3, M, n, b3, k, _, rfl, by rw [ek], h3, gk, ?_⟩
  walk_at "go"
  refine i_nwT (by simp) fun r H2 n2 x2 r2 => ?_
  walk_at "go"
  exact ⟨r, _, _, _, rfl, r2, q _ (x1.trans x2)⟩
/-! a ballot of words -/
def bI (x : Int) (v : Nat) : Int := Builtin.bitAnd (x / 2 ^ v) 1
def bwF (n : Nat) (x y z : Int) : List Str := (List.range n).map fun v => ordI (bI x v) (bI y v) (bI z v)
def sp_bww : Sp := sp2 fun v w H Q _ => ∃ t n x y z, v = .int (n : Nat) ∧ w = .ref t ∧ H t = some (.tup [.int x, .int y, .int z]) ∧ n ≤ 6 ∧ (∀ o ∈ bwF n x y z, o ≠ "ring") ∧ ∀ p H', H p = none → Ext N0 H H' → H' p = some (.lst ((bwF n x y z).map V.str)) → Q (.ref p) H'
abbrev s_ballot_with_words : Stmt := top 59
abbrev N_ballot_with_words : List Str := ["width", "words", "x", "y", "z", "ballot", "voter", "order"]
abbrev P_ballot_with_words : List Str := ["width", "words"]
theorem sc_ballot_with_words : FnScope N_ballot_with_words P_ballot_with_words (defScope s_ballot_with_words) := ⟨rfl, rfl, rfl, by decide +kernel, rfl, by decide +kernel, by decide +kernel⟩
theorem bi_ballot_with_words {K : PySem.W.Frag} {f : Addr} {fd : FuncData} (F : FnF K "ballot_with_words" "ballot_with_words" s_ballot_with_words [] f fd) : Binds K fd P_ballot_with_words [] := FunD.bindsN F fun _ _ _ _ _ _ us hl => match us, hl with | [_, _], _ => rfl
theorem c_ballot_with_words (T : Txt W.K W.mg a) (T2 : Tx2 W.K W.P W.w a) (D : DefAt W "ballot_with_words" "ballot_with_words" "ballot_with_words" s_ballot_with_words)
    (c_order_with_bits : Cal W CX0 1 "order_with_bits" P_order_with_bits sp_owb) : Cal W CX0 2 "ballot_with_words" P_ballot_with_words sp_bww := cal_mk D sc_ballot_with_words len2 (fun _ _ => bi_ballot_with_words) fun f cdv A outer s H vs Q E hr h => by
  obtain ⟨_, _, rfl, t, n, x, y, z, rfl, rfl, ht, hn, hno, q⟩ := sp2_of h
  refine ⟨_, (PSs.nox (pss_cons (ps_asg (pv 1) (pg_tup rfl (pgs_cons (pg_name (i := 2) sc_ballot_with_words.nd rfl (by first | exact Or.inl rfl | exact Or.inr rfl)) (pgs_cons (pg_name (i := 3) sc_ballot_with_words.nd rfl (by first | exact Or.inl rfl | exact Or.inr rfl)) (pgs_cons (pg_name (i := 4) sc_ballot_with_words.nd rfl (by first | exact Or.inl rfl | exact Or.inr rfl)) pgs_nil)))))
 (pss_cons (ps_set (i := 5) sc_ballot_with_words.nd rfl (by first | exact Or.inl rfl | exact Or.inr rfl) (pe_lst pa_nil))
 (pss_cons (ps_for PassesOwn.never rfl (pi_range1 (by rfl) T.range (pa_cons (pv 0) pa_nil)) (pg_name (i := 6) sc_ballot_with_words.nd rfl (by first | exact Or.inl rfl | exact Or.inr rfl))
  (pss_cons (ps_set (i := 7) sc_ballot_with_words.nd rfl (by first | exact Or.inl rfl | exact Or.inr rfl) (pe_cal c_order_with_bits hr (by omega) pass0 rfl (pa_cons (pe_tup (pa_cons (pe_op op_and (pe_op op_shr (pv 2) (pv 6)) pe_int) (pa_cons (pe_op op_and (pe_op op_shr (pv 3) (pv 6)) pe_int) (pa_cons (pe_op op_and (pe_op op_shr (pv 4) (pv 6)) pe_int) pa_nil)))) pa_nil)))
 (pss_cons (ps_if (pt_cmpR op_eq (pv 7) (pe_gc rfl T.vRING) (by rfl))
  (pss_one (ps_ret pe_non))
  pss_nil)
 (pss_one (ps_expr (pe_bm PySem.F.plainAttrs_list PySem.F.slot_list_append PySem.F.type_list_append mt_append (pv 5) (pa_cons (pv 7) pa_nil)))))))
 (pss_one (ps_ret (pv 5))))))), ?_⟩
  walk_at "go"
  refine i_gt3 (SqT.of ht) ?_
  walk_at "go"
  refine i_nwL (by simp) fun l H1 n1 x1 l1 => ?_
  walk_at "go"
  refine f_rg (by omega) (fun i σ Hx => (∃ v1 v2, σ = [some (.int n), some (.ref t), some (.int x), some (.int y), some (.int z), some (.ref l), v1, v2]) ∧ Ext (Plus N0 l) H1 Hx ∧ Hx l = some (.lst (((bwF n x y z).take i).map V.str))) ⟨⟨_, _, rfl⟩, Ext.refl _ _, by simpa using l1⟩ ?_ ?_
  · rintro i σ Hx hi ⟨⟨v1, v2, rfl⟩, x2, hl⟩
    walk_at "go"
    refine i_I (by omega) ?_
    walk_at "go"
    refine i_I (by omega) ?_
    walk_at "go"
    refine i_I (by omega) ?_
    walk_at "go"
    refine i_nwT (by simp) fun r H2 n2 x3 r2 => ?_
    walk_at "go"
    refine ⟨r, _, _, _, rfl, r2, ?_⟩
    walk_at "go"
    have e : (bwF n x y z)[i]? = some (ordI (bI x i) (bI y i) (bI z i)) := by simp [bwF, hi]
    refine i_dec (fun h => absurd h (hno _ (List.mem_of_getElem? e))) (fun _ => ?_)
    have hl2 := x3 _ _ (fun z => z) hl
    walk_at "go"
    refine i_bm ?_
    walk_at "go"
    refine i_bmL hl2 ?_
    walk_at "go"
    refine i_app hl2 (by simp; omega) fun H3 x4 g4 l4 => ?_
    refine ⟨⟨_, _, rfl⟩, (x2.trans x3.weak).trans (x4.is plus_self), ?_⟩
    rw [l4, List.take_succ, e]
    simp
    rfl
  · rintro σ Hx ⟨⟨v1, v2, rfl⟩, x2, hl⟩
    walk_at "go"
    refine q l _ n1 (Ext.close x1 n1 x2) ?_
    rw [hl, List.take_of_length_le (by simp [bwF])]
end Bs
set_option Elab.async false
set_option linter.all false
set_option maxRecDepth 100000
set_option maxHeartbeats 400000
namespace Bs
open PySem PySem.Spec PyProof.Rows L2 SX
open C8 (pe_gc pss_cut)
local macro_rules | `(tactic| walk_at "xt") => `(tactic| first | assumption | exact Ext.weak (by assumption) | exact Ext.is (by assumption) (by assumption) | exact Ext.plus (by assumption) | exact Ext.plus (Ext.weak (by assumption)) | exact Ext.plus (Ext.is (by assumption) (by assumption)) | exact Ext.set plus_self)
local macro_rules | `(tactic| walk_at "gr") => `(tactic| first | assumption | exact Ext.grow (by assumption) | exact Grow.upd)
local macro_rules | `(tactic| walk_at "mo") => `(tactic| first | assumption | exact MOk.zero | ((first | refine MOk.grow ?_ (by walk_at "gr") | exact MOk.upd (by walk_at "mo")); walk_at "mo") | exact MOk.plus (by walk_at "mo") (by assumption))
local macro_rules | `(tactic| walk_at "hp") => `(tactic| first
  | assumption | exact At.raw (by assumption)
  | exact At.mk' (by walk_at "mo") (by assumption) (by assumption)
  | ((first | refine At.ext (by walk_at "xt") ?_ | refine Rp.ext (by walk_at "xt") ?_ | refine RpA.ext (by walk_at "xt") ?_ | refine Tb.ext (by walk_at "xt") ?_); walk_at "hp")
  | ((first | refine At.plus (by assumption) ?_ | refine Rp.plus (by assumption) ?_ | refine RpA.plus (by assumption) ?_ | refine Tb.plus (by assumption) ?_); walk_at "hp"))
local macro_rules | `(tactic| walk_at "at") => `(tactic| first | assumption | exact At.get (M := N0) (by walk_at "hp"))
local macro_rules | `(tactic| walk_at "sq") => `(tactic| first | exact SqL.of (by walk_at "at") | exact SqT.of (by walk_at "at"))
local macro_rules | `(tactic| walk_at "st") => `(tactic| with_reducible first
  | refine i_seq ?_ | refine i_asg ?_ | refine i_ret ?_ | refine i_retN ?_ | refine i_drop ?_ | refine i_ifS ?_ | refine i_next ?_ | refine i_brk ?_
  | refine i_gname ?_ | refine i_gsub ?_ | refine i_c ?_ | refine i_op ?_ | refine i_un ?_ | refine i_I0 ?_ | refine i_U ?_ | refine i_isN ?_ | refine i_notN ?_
  | refine i_test ?_ | refine i_tB ?_ | refine i_bl ?_ | refine i_and ?_ | refine i_or ?_ | refine i_not ?_ | refine i_andV ?_ | refine i_orV ?_ | refine i_notV ?_ | refine i_ifE ?_
  | refine i_nil ?_ | refine i_cons ?_ | refine i_for ?_ | refine i_iL ?_ | refine i_iT ?_ | refine i_iR ?_ | refine i_lc ?_ | refine i_prp ?_ | refine i_mk ?_ | refine i_sS ?_ | refine i_sN ?_ | refine i_nsS ?_ | refine i_nsN ?_ | refine i_fld ?_ | refine i_sf ?_ | refine i_inO ?_ | refine i_lsO ?_ | refine i_tpO ?_ | refine i_lnO ?_ | refine i_cb ?_ | refine i_call ?_ | refine i_tup ?_ | refine i_lst ?_ | refine i_dnew ?_ | refine i_inI ?_ | refine i_inB ?_ | refine i_rgX ?_ | refine i_lrO ?_ | refine i_rg1 ?_ | refine i_nF ?_ | refine i_nT ?_ | refine i_tt ?_ | refine i_ff ?_ | refine i_ifT ?_ | refine i_ifF ?_
  | refine i_eqI ?_ | refine i_eqS ?_ | refine i_eqB ?_ | refine i_neI ?_ | refine i_neS ?_ | refine i_dR ?_ | refine i_dI ?_ | refine i_dT ?_ | refine i_dS ?_ | refine i_dN ?_ | refine i_nR ?_ | refine i_nI ?_ | refine i_nN ?_
  | (refine i_var (by with_unfolding_all rfl) ?_) | refine i_eq rfl ?_ | refine i_ne rfl ?_)
local macro_rules | `(tactic| walk_at "sc") => `(tactic| first | exact (Rp.int (M := N0) _) | exact (Rp.str (M := N0) _) | exact (Rp.bl (M := N0) _) | exact (Rp.non (M := N0)) | assumption | exact Rp.tab (by assumption) | exact Tb.rp (by assumption))
local macro_rules | `(tactic| walk_at "sd") => `(tactic| simp only [d_Bool_non, d_Bool_bl, d_Bool_int, d_Bool_str, d_Bool_lst, d_Bool_tup, d_Bool_tab, d_Bool_dic, d_Int_non, d_Int_bl, d_Int_int, d_Int_str, d_Int_lst, d_Int_tup, d_Int_tab, d_Int_dic, d_Str_non, d_Str_bl, d_Str_int, d_Str_str, d_Str_lst, d_Str_tup, d_Str_tab, d_Str_dic, d_List_non, d_List_bl, d_List_int, d_List_str, d_List_lst, d_List_tup, d_List_tab, d_List_dic, d_Tup_non, d_Tup_bl, d_Tup_int, d_Tup_str, d_Tup_lst, d_Tup_tup, d_Tup_tab, d_Tup_dic, d_Tab_non, d_Tab_bl, d_Tab_int, d_Tab_str, d_Tab_lst, d_Tab_tup, d_Tab_tab, d_Tab_dic, Bool.not_true, Bool.not_false, Bool.true_or, Bool.false_or, Bool.or_true, Bool.or_false, Bool.and_true, Bool.true_and, Bool.and_false, Bool.false_and, if_true, if_false, Bool.false_eq_true])
local macro_rules | `(tactic| walk_at "isi") => `(tactic| ((first | with_reducible apply i_isB | with_reducible apply i_isI | with_reducible apply i_isS | with_reducible apply i_isL | with_reducible apply i_isT | with_reducible apply i_isTab); (focus assumption); (focus walk_at "sc"); try simp only [d_Bool_non, d_Bool_bl, d_Bool_int, d_Bool_str, d_Bool_lst, d_Bool_tup, d_Bool_tab, d_Bool_dic, d_Int_non, d_Int_bl, d_Int_int, d_Int_str, d_Int_lst, d_Int_tup, d_Int_tab, d_Int_dic, d_Str_non, d_Str_bl, d_Str_int, d_Str_str, d_Str_lst, d_Str_tup, d_Str_tab, d_Str_dic, d_List_non, d_List_bl, d_List_int, d_List_str, d_List_lst, d_List_tup, d_List_tab, d_List_dic, d_Tup_non, d_Tup_bl, d_Tup_int, d_Tup_str, d_Tup_lst, d_Tup_tup, d_Tup_tab, d_Tup_dic, d_Tab_non, d_Tab_bl, d_Tab_int, d_Tab_str, d_Tab_lst, d_Tab_tup, d_Tab_tab, d_Tab_dic]))
local macro_rules | `(tactic| walk_at "om") => `(tactic| first | ((with_reducible refine i_decF ?_ ?_); (focus omega)) | ((with_reducible refine i_decT ?_ ?_); (focus omega)) | ((with_reducible refine i_ndecF ?_ ?_); (focus omega)) | ((with_reducible refine i_ndecT ?_ ?_); (focus omega)))
local macro_rules | `(tactic| walk_at "go") => `(tactic| ((repeat (first | walk_at "st" | walk_at "isi" | walk_at "om")); try dsimp only [List.set]))
variable {W : Wd} {a : Ad}
/-! D8: all ballots; first_ring. -/
def balL : Nat → List (List Str)
  | 0 => [[]]
  | k + 1 => (List.range ((balL k).length * 6)).map fun c => (balL k).getD (c / 6) [] ++ [orders.getD (c % 6) ""]
theorem balL_len (k : Nat) : (balL k).length = 6 ^ k := by
  induction k with
  | zero => rfl
  | succ k ih => simp [balL, ih, Nat.pow_succ]
theorem balL_ok : ∀ (k : Nat) (b : List Str), b ∈ balL k → b.length = k ∧ ∀ o ∈ b, o ∈ orders
  | 0, b, h => by simp [balL] at h; subst h; simp
  | k + 1, b, h => by
    obtain ⟨c, hc, rfl⟩ := List.mem_map.mp h
    have hc := List.mem_range.mp hc
    have h1 : c / 6 < (balL k).length := by omega
    have h2 : (balL k).getD (c / 6) [] ∈ balL k := by
      rw [List.getD_eq_getElem?_getD, List.getElem?_eq_getElem h1]
      exact List.getElem_mem h1
    obtain ⟨g1, g2⟩ := balL_ok k _ h2
    refine ⟨by rw [List.length_append, g1]; rfl, fun o ho => ?_⟩
    rcases List.mem_append.mp ho with h | h
    · exact g2 o h
    · have h3 : c % 6 < 6 := Nat.mod_lt _ (by omega)
      have h4 : orders.getD (c % 6) "" ∈ orders := by
        rw [List.getD_eq_getElem?_getD, List.getElem?_eq_getElem (by exact h3)]
        exact List.getElem_mem _
      rw [List.mem_singleton.mp h]
      exact h4
theorem balL_all : ∀ (k : Nat) (b : List Str), b.length = k → (∀ o ∈ b, o ∈ orders) → b ∈ balL k
  | 0, b, h, _ => by simp [List.length_eq_zero_iff.mp h, balL]
  | k + 1, b, h, ho => by
    obtain ⟨c, o, rfl⟩ : ∃ c o, b = c ++ [o] := by
      refine ⟨b.dropLast, b.getLast (by intro e; simp [e] at h), ?_⟩
      exact (List.dropLast_concat_getLast _).symm
    have h1 : c ∈ balL k := balL_all k c (by simpa using h) fun x hx => ho x (List.mem_append_left _ hx)
    have h2 : o ∈ orders := ho o (by simp)
    obtain ⟨i, hi, e1⟩ := List.getElem_of_mem h1
    obtain ⟨j, hj, e2⟩ := List.getElem_of_mem h2
    have hj6 : j < 6 := hj
    refine List.mem_map.mpr ⟨i * 6 + j, List.mem_range.mpr (by omega), ?_⟩
    have e3 : (i * 6 + j) / 6 = i := by omega
    have e4 : (i * 6 + j) % 6 = j := by omega
    rw [e3, e4, List.getD_eq_getElem?_getD, List.getD_eq_getElem?_getD, List.getElem?_eq_getElem hi, List.getElem?_eq_getElem hj, e1, e2]
    rfl
def tbD (b : List Str) : Dt := .tup (b.map Dt.str)
theorem rpA_str {ct : Addr} {M : Mt} {H : Hp} : ∀ b : List Str, RpA ct M H (b.map V.str) (b.map Dt.str)
  | [] => .nil
  | o :: r => .cons (.str o) (rpA_str r)
theorem RpA.strs {ct : Addr} {M : Mt} {H : Hp} : ∀ {b : List Str} {xs : List V}, RpA ct M H xs (b.map Dt.str) → xs = b.map V.str
  | [], _, h => by cases h; rfl
  | o :: r, _, h => by
    cases h with
    | cons h1 h2 =>
      cases h1
      rw [RpA.strs h2]; rfl
def sp_balls (ct : Addr) : Sp := sp1 fun v H Q _ => ∃ n : Nat, v = .int n ∧ n ≤ 2 ∧ ∀ p H' xs, Ext N0 H H' → H' p = some (.lst xs) → RpA ct N0 H' xs ((balL n).map tbD) → Q (.ref p) H'
abbrev s_ballots_of : Stmt := top 61
abbrev N_ballots_of : List Str := ["voters", "ballots", "spare", "ballot", "order"]
abbrev P_ballots_of : List Str := ["voters"]
theorem sc_ballots_of : FnScope N_ballots_of P_ballots_of (defScope s_ballots_of) := ⟨rfl, rfl, rfl, by decide +kernel, rfl, by decide +kernel, by decide +kernel⟩
theorem bi_ballots_of {K : PySem.W.Frag} {f : Addr} {fd : FuncData} (F : FnF K "ballots_of" "ballots_of" s_ballots_of [] f fd) : Binds K fd P_ballots_of [] := FunD.bindsN F fun _ _ _ _ _ _ us hl => match us, hl with | [_], _ => rfl
theorem c_ballots_of (T : Txt W.K W.mg a) (T2 : Tx2 W.K W.P W.w a) (D : DefAt W "ballots_of" "ballots_of" "ballots_of" s_ballots_of) : Cal W CX0 1 "ballots_of" P_ballots_of (sp_balls a.ct) := cal_mk D sc_ballots_of len1 (fun _ _ => bi_ballots_of) fun f cdv A outer s H vs Q E hr h => by
  obtain ⟨x, rfl, n, rfl, h1, q⟩ := sp1_of h
  refine ⟨_, (PSs.nox (pss_cons (ps_set (i := 1) sc_ballots_of.nd rfl (by first | exact Or.inl rfl | exact Or.inr rfl) (pe_lst (pa_cons (pe_tup pa_nil) pa_nil)))
 (pss_cons (ps_for PassesOwn.never rfl (pi_range1 (by rfl) T.range (pa_cons (pv 0) pa_nil)) (pg_name (i := 2) sc_ballots_of.nd rfl (by first | exact Or.inl rfl | exact Or.inr rfl))
  (pss_one (ps_setLc2 (i := 1) (own := [("ballot", 3), ("order", 4)]) (vs1 := [4]) (g := gName 3) (tt := tYes) (g1 := gName 4) (tt1 := tYes) (wi1 := iTup W.K (tC (V.ref a.ors))) (te := tOp (rCatA W.K) (tVar 3) (tTup (tCons (tVar 4) tNil))) rfl sc_ballots_of.nd rfl rfl (sw_true rfl rfl rfl (by decide +kernel)) (pi_list (pv 1)) (blkOk_by (N := N_ballots_of) (sc := defScope s_ballots_of) (by decide +kernel)) (by decide) (fun _ _ _ _ _ => (pg_name (i := 3) sc_ballots_of.nd rfl (by first | exact Or.inl rfl | exact Or.inr rfl))) (fun _ _ _ _ _ => pts_nil) (fun _ _ _ _ _ => (pi_tup (pe_gc rfl T.vORDERS))) (fun _ _ _ _ _ => (pg_name (i := 4) sc_ballots_of.nd rfl (by first | exact Or.inl rfl | exact Or.inr rfl))) (fun _ _ _ _ _ => pts_nil) (fun _ _ _ _ _ => (pe_op op_catA (pv 3) (pe_tup (pa_cons (pv 4) pa_nil)))))))
 (pss_one (ps_ret (pv 1)))))), ?_⟩
  walk_at "go"
  refine i_nwT (by simp) fun t H1 n1 x1 t1 => ?_
  walk_at "go"
  refine i_nwL (by simp) fun l H2 n2 x2 l2 => ?_
  walk_at "go"
  refine f_rg (by omega) (fun i σ Hx => ∃ p xs v2 v3 v4, σ = [some (.int n), some (.ref p), v2, v3, v4] ∧ Ext N0 H Hx ∧ Hx p = some (.lst xs) ∧ RpA a.ct N0 Hx xs ((balL i).map tbD)) ⟨l, _, _, _, _, rfl, x1.trans x2, l2, .cons (.tup (At.raw (x2 _ _ (fun z => z) t1)) .nil) .nil⟩ ?_ ?_
  · rintro i σ Hx hi ⟨p, xs, v2, v3, v4, rfl, x3, hp, hA⟩
    have hlen : xs.length = 6 ^ i := by rw [hA.length, List.length_map, balL_len]
    have hi1 : 6 ^ i ≤ 36 := Nat.le_trans (Nat.pow_le_pow_right (by omega) (show i ≤ 2 by omega)) (by decide)
    walk_at "go"
    refine i_lc2 ?_
    walk_at "go"
    refine c_list2 (M := N0) (SqL.of hp) MOk.zero 6 (by omega) (fun D c y Hy => Rp a.ct (Plus N0 D) Hy y (tbD ((balL (i + 1)).getD c []))) fun D nD => ⟨fun i y H H' x h => h.ext x, fun Hy x4 => SqL.of ((At.raw hp |>.plus nD).ext x4).2, ?_, ?_⟩
    · intro i1 x H3 C N' e2 x4 m4 k
      obtain ⟨d, hd, hr⟩ := ((hA.plus nD).ext x4).getV e2
      obtain ⟨b, hb, rfl⟩ : ∃ b, (balL i)[i1]? = some b ∧ d = tbD b := by
        rw [List.getElem?_map] at hd
        cases e : (balL i)[i1]? with
        | none => rw [e] at hd; cases hd
        | some b => rw [e] at hd; exact ⟨b, rfl, (Option.some.inj hd).symm⟩
      obtain ⟨t0, ys, rfl, ht0, hy⟩ := hr.tupAt
      obtain rfl := hy.strs
      walk_at "go"
      refine i_yesI rfl ?_
      walk_at "go"
      refine ⟨a.ors, rfl, ⟨_, T2.ors _⟩, ?_⟩
      refine k _ _ _ _ _ (walk_tup (K := W.K) (a := a.ors) (xs := orders.map V.str)) (Ext.refl _ _) MOk.zero (fun H5 _ => T2.ors _) ?_
      intro j x H5 H6 N N'' hj x5 m5 y nx
      obtain ⟨e3, e4⟩ := y
      subst e3
      obtain ⟨o, ho, rfl⟩ : ∃ o, orders[j]? = some o ∧ x = .str o := by
        rw [List.getElem?_map] at e4
        cases e : orders[j]? with
        | none => rw [e] at e4; cases e4
        | some b => rw [e] at e4; exact ⟨b, rfl, (Option.some.inj e4).symm⟩
      have e5 : (balL (i + 1)).getD (i1 * 6 + j) [] = b ++ [o] := by
        have hl1 : i1 < (balL i).length := (List.getElem?_eq_some_iff.mp hb).1
        have g1 : (i1 * 6 + j) / 6 = i1 := by omega
        have g2 : (i1 * 6 + j) % 6 = j := by omega
        have g3 : i1 * 6 + j < (balL i).length * 6 := by omega
        rw [balL, List.getD_eq_getElem?_getD, List.getElem?_map, List.getElem?_range g3]
        show (balL i).getD ((i1 * 6 + j) / 6) [] ++ [orders.getD ((i1 * 6 + j) % 6) ""] = _
        rw [g1, g2, List.getD_eq_getElem?_getD, List.getD_eq_getElem?_getD, hb, ho]
        rfl
      walk_at "go"
      refine i_yes rfl ?_
      walk_at "go"
      refine i_nwT (by simp) fun u H7 n7 x7 u7 => ?_
      have ht7 := (ht0.ext x5).ext x7.weak
      have u7' := At.mk' m5 n7 u7
      have hbl : b.length ≤ 2 := by
        have := (balL_ok i b (List.mem_of_getElem? hb)).1
        omega
      refine i_catA (SqT.of ht7.2) (SqT.of u7) (by simp) (by simp; omega) (fun e => ?_) (fun _ w H8 n8 x8 w8 => ?_)
      · refine nx _ _ x7 MOk.zero ?_
        have : b = [] := by simpa using e
        subst this
        rw [e5]
        exact .tup u7' (.cons (.str o) .nil)
      · refine nx _ _ (x7.trans x8) MOk.zero ?_
        rw [e5, tbD, List.map_append]
        refine .tup (At.mk' (m5.grow x7.grow) n8 w8) ?_
        exact (rpA_str b).append (.cons (.str o) .nil)
    · intro acc H5 hl hr hd x5 m5
      walk_at "go"
      refine ⟨D, acc, _, _, _, rfl, x3.trans x5, hd, rpA_of (by rw [List.length_map, balL_len, hl, hlen, Nat.pow_succ]) fun c v hv => ?_⟩
      have hc : c < (balL (i + 1)).length := by
        rw [balL_len, Nat.pow_succ, ← hlen, ← hl]; exact (List.getElem?_eq_some_iff.mp hv).1
      refine ⟨_, ?_, (hr c v hv).of fun _ z => z.elim⟩
      rw [List.getElem?_map, List.getElem?_eq_getElem hc, List.getD_eq_getElem?_getD, List.getElem?_eq_getElem hc]
      rfl
  · rintro σ Hx ⟨p, xs, v2, v3, v4, rfl, x3, hp, hA⟩
    walk_at "go"
    exact q p Hx xs x3 hp hA
def ringAny (n : Nat) (b1 b2 b3 : List Int) : Bool := (balL n).any fun b => decide (outc b1 b2 b3 b = "ring")
def sp_first (a : Ad) : Sp := sp3 fun x y z H Q _ => ∃ M p1 p2 p3 n b1 b2 b3, x = .ref p1 ∧ y = .ref p2 ∧ z = .ref p3 ∧ Tb a.ct M H p1 n b1 ∧ Tb a.ct M H p2 n b2 ∧ Tb a.ct M H p3 n b3 ∧ n ≤ 2 ∧ ∀ r H', Ext N0 H H' → (ringAny n b1 b2 b3 = false → r = .non) → (ringAny n b1 b2 b3 = true → ∃ p, r = .ref p) → Q r H'
abbrev s_first_ring : Stmt := top 62
abbrev N_first_ring : List Str := ["first", "second", "third", "ballot"]
abbrev P_first_ring : List Str := ["first", "second", "third"]
theorem sc_first_ring : FnScope N_first_ring P_first_ring (defScope s_first_ring) := ⟨rfl, rfl, rfl, by decide +kernel, rfl, by decide +kernel, by decide +kernel⟩
theorem bi_first_ring {K : PySem.W.Frag} {f : Addr} {fd : FuncData} (F : FnF K "first_ring" "first_ring" s_first_ring [] f fd) : Binds K fd P_first_ring [] := FunD.bindsN F fun _ _ _ _ _ _ us hl => match us, hl with | [_, _, _], _ => rfl
theorem c_first_ring (T : Txt W.K W.mg a) (D : DefAt W "first_ring" "first_ring" "first_ring" s_first_ring) (c_width : Prp W CX0 1 a.ct "width" P_Table_width (sp_wid a.ct)) (c_check_three : Cal W (CXr W) 4 "check_three" P_check_three (sp_ck3 a))
    (c_ballots_of : Cal W CX0 1 "ballots_of" P_ballots_of (sp_balls a.ct)) (c_outcome_of : Cal W CX0 6 "outcome_of" P_outcome_of (sp_out a.ct)) : Cal W CX0 7 "first_ring" P_first_ring (sp_first a) := cal_mk D sc_first_ring len3 (fun _ _ => bi_first_ring) fun f cdv A outer s H vs Q E hr h => by
  obtain ⟨_, _, _, rfl, M, p1, p2, p3, n, b1, b2, b3, rfl, rfl, rfl, h1, h2, h3, hn, q⟩ := sp3_of h
  refine ⟨_, (PSs.nox (pss_cons (ps_expr (pe_cal c_check_three hr (by omega) passL rfl (pa_cons (pv 0) (pa_cons (pv 1) (pa_cons (pv 2) (pa_cons (pe_gc rfl T.vMOST_COUNTED) pa_nil))))))
 (pss_cons (ps_for PassesOwn.never rfl (pi_list (pe_cal c_ballots_of hr (by omega) pass0 rfl (pa_cons (pe_prp c_width hr (by omega) (pv 0)) pa_nil))) (pg_name (i := 3) sc_first_ring.nd rfl (by first | exact Or.inl rfl | exact Or.inr rfl))
  (pss_one (ps_if (pt_cmpR op_eq (pe_cal c_outcome_of hr (by omega) pass0 rfl (pa_cons (pe_tup (pa_cons (pv 0) (pa_cons (pv 1) (pa_cons (pv 2) pa_nil)))) (pa_cons (pv 3) pa_nil))) (pe_gc rfl T.vRING) (by rfl))
  (pss_one (ps_ret (pe_callTy call_list_of rfl T.list (by decide +kernel) (pa_cons (pv 3) pa_nil))))
  pss_nil)))
 (pss_one (ps_ret pe_non))))), ?_⟩
  walk_at "go"
  refine ⟨M, _, _, _, 4, .tab h1, .tab h2, .tab h3, rfl, fun n' bs e => by cases e; omega, fun C s e => by simp [flt3] at e, fun _ => ?_⟩
  walk_at "go"
  refine i_pwid h1 ?_
  walk_at "go"
  refine ⟨n, rfl, hn, fun l H1 xs x1 hl hA => ?_⟩
  refine f_list (SqL.of hl) (fun i σ Hx => (∃ v, σ = [some (.ref p1), some (.ref p2), some (.ref p3), v]) ∧ Ext N0 H1 Hx ∧ ∀ c b, c < i → (balL n)[c]? = some b → outc b1 b2 b3 b ≠ "ring") ⟨⟨_, rfl⟩, Ext.refl _ _, fun c b hc => by omega⟩ (fun i σ Hx _ e => SqL.of (e.2.1 _ _ (fun z => z) hl)) ?_ ?_
  · rintro i v σ Hx hv ⟨⟨w1, rfl⟩, x2, hno⟩
    obtain ⟨d, hd, hr⟩ := (hA.ext x2).getV hv
    obtain ⟨b, hb, rfl⟩ : ∃ b, (balL n)[i]? = some b ∧ d = tbD b := by
      rw [List.getElem?_map] at hd
      cases e : (balL n)[i]? with
      | none => rw [e] at hd; cases hd
      | some b => rw [e] at hd; exact ⟨b, rfl, (Option.some.inj hd).symm⟩
    obtain ⟨t, ys, rfl, ht, hy⟩ := hr.tupAt
    obtain rfl := hy.strs
    obtain ⟨g1, g2⟩ := balL_ok n b (List.mem_of_getElem? hb)
    walk_at "go"
    refine i_nwT (by simp) fun u H3 n3 x3 u3 => ?_
    walk_at "go"
    have xx : Ext N0 H H3 := (x1.trans x2).trans x3
    refine ⟨N0, u, n, b1, b2, b3, t, b, rfl, rfl, ⟨p1, p2, p3, At.raw u3, h1.zero.ext xx, h2.zero.ext xx, h3.zero.ext xx⟩, .inr (ht.ext x3), g1, g2, fun H4 x4 => ?_⟩
    walk_at "go"
    refine i_dec (fun e => ?_) (fun e => ?_)
    · walk_at "go"
      refine i_lsT (SqT.of ((ht.ext x3).ext x4).2) fun w H5 n5 x5 w5 => ?_
      refine q _ _ ((xx.trans x4).trans x5) (fun z => ?_) (fun _ => ⟨w, rfl⟩)
      have : ringAny n b1 b2 b3 = true := List.any_eq_true.mpr ⟨b, List.mem_of_getElem? hb, decide_eq_true e⟩
      rw [z] at this; cases this
    · walk_at "go"
      refine ⟨⟨_, rfl⟩, (x2.trans x3).trans x4, fun c b' hc hb' => ?_⟩
      by_cases h : c = i
      · subst h
        rw [hb] at hb'
        cases hb'
        exact e
      · exact hno c b' (by omega) hb'
  · rintro σ Hx ⟨⟨w1, rfl⟩, x2, hno⟩
    walk_at "go"
    refine q _ _ (x1.trans x2) (fun _ => rfl) (fun z => ?_)
    obtain ⟨b, hb, e⟩ := List.any_eq_true.mp z
    obtain ⟨c, hc, e2⟩ := List.getElem_of_mem hb
    have hl2 := hA.length
    rw [List.length_map] at hl2
    exact absurd (of_decide_eq_true e) (hno c b (by omega) (by rw [List.getElem?_eq_getElem hc, e2]))
end Bs
set_option Elab.async false
set_option linter.all false
set_option maxRecDepth 100000
set_option maxHeartbeats 400000
namespace Bs
open PySem PySem.Spec PyProof.Rows L2 SX
open C8 (pe_gc pss_cut)
local macro_rules | `(tactic| walk_at "xt") => `(tactic| first | assumption | exact Ext.weak (by assumption) | exact Ext.is (by assumption) (by assumption) | exact Ext.plus (by assumption) | exact Ext.plus (Ext.weak (by assumption)) | exact Ext.plus (Ext.is (by assumption) (by assumption)) | exact Ext.set plus_self)
local macro_rules | `(tactic| walk_at "gr") => `(tactic| first | assumption | exact Ext.grow (by assumption) | exact Grow.upd)
local macro_rules | `(tactic| walk_at "mo") => `(tactic| first | assumption | exact MOk.zero | ((first | refine MOk.grow ?_ (by walk_at "gr") | exact MOk.upd (by walk_at "mo")); walk_at "mo") | exact MOk.plus (by walk_at "mo") (by assumption))
local macro_rules | `(tactic| walk_at "hp") => `(tactic| first
  | assumption | exact At.raw (by assumption)
  | exact At.mk' (by walk_at "mo") (by assumption) (by assumption)
  | ((first | refine At.ext (by walk_at "xt") ?_ | refine Rp.ext (by walk_at "xt") ?_ | refine RpA.ext (by walk_at "xt") ?_ | refine Tb.ext (by walk_at "xt") ?_); walk_at "hp")
  | ((first | refine At.plus (by assumption) ?_ | refine Rp.plus (by assumption) ?_ | refine RpA.plus (by assumption) ?_ | refine Tb.plus (by assumption) ?_); walk_at "hp"))
local macro_rules | `(tactic| walk_at "at") => `(tactic| first | assumption | exact At.get (M := N0) (by walk_at "hp"))
local macro_rules | `(tactic| walk_at "sq") => `(tactic| first | exact SqL.of (by walk_at "at") | exact SqT.of (by walk_at "at"))
local macro_rules | `(tactic| walk_at "st") => `(tactic| with_reducible first
  | refine i_seq ?_ | refine i_asg ?_ | refine i_ret ?_ | refine i_retN ?_ | refine i_drop ?_ | refine i_ifS ?_ | refine i_next ?_ | refine i_brk ?_
  | refine i_gname ?_ | refine i_gsub ?_ | refine i_c ?_ | refine i_op ?_ | refine i_un ?_ | refine i_I0 ?_ | refine i_U ?_ | refine i_isN ?_ | refine i_notN ?_
  | refine i_test ?_ | refine i_tB ?_ | refine i_bl ?_ | refine i_and ?_ | refine i_or ?_ | refine i_not ?_ | refine i_andV ?_ | refine i_orV ?_ | refine i_notV ?_ | refine i_ifE ?_
  | refine i_nil ?_ | refine i_cons ?_ | refine i_for ?_ | refine i_iL ?_ | refine i_iT ?_ | refine i_iR ?_ | refine i_lc ?_ | refine i_prp ?_ | refine i_mk ?_ | refine i_sS ?_ | refine i_sN ?_ | refine i_nsS ?_ | refine i_nsN ?_ | refine i_fld ?_ | refine i_sf ?_ | refine i_inO ?_ | refine i_lsO ?_ | refine i_tpO ?_ | refine i_lnO ?_ | refine i_cb ?_ | refine i_call ?_ | refine i_tup ?_ | refine i_lst ?_ | refine i_dnew ?_ | refine i_inI ?_ | refine i_inB ?_ | refine i_rgX ?_ | refine i_lrO ?_ | refine i_rg1 ?_ | refine i_nF ?_ | refine i_nT ?_ | refine i_tt ?_ | refine i_ff ?_ | refine i_ifT ?_ | refine i_ifF ?_
  | refine i_eqI ?_ | refine i_eqS ?_ | refine i_eqB ?_ | refine i_neI ?_ | refine i_neS ?_ | refine i_dR ?_ | refine i_dI ?_ | refine i_dT ?_ | refine i_dS ?_ | refine i_dN ?_ | refine i_nR ?_ | refine i_nI ?_ | refine i_nN ?_
  | (refine i_var (by with_unfolding_all rfl) ?_) | refine i_eq rfl ?_ | refine i_ne rfl ?_)
local macro_rules | `(tactic| walk_at "sc") => `(tactic| first | exact (Rp.int (M := N0) _) | exact (Rp.str (M := N0) _) | exact (Rp.bl (M := N0) _) | exact (Rp.non (M := N0)) | assumption | exact Rp.tab (by assumption) | exact Tb.rp (by assumption))
local macro_rules | `(tactic| walk_at "sd") => `(tactic| simp only [d_Bool_non, d_Bool_bl, d_Bool_int, d_Bool_str, d_Bool_lst, d_Bool_tup, d_Bool_tab, d_Bool_dic, d_Int_non, d_Int_bl, d_Int_int, d_Int_str, d_Int_lst, d_Int_tup, d_Int_tab, d_Int_dic, d_Str_non, d_Str_bl, d_Str_int, d_Str_str, d_Str_lst, d_Str_tup, d_Str_tab, d_Str_dic, d_List_non, d_List_bl, d_List_int, d_List_str, d_List_lst, d_List_tup, d_List_tab, d_List_dic, d_Tup_non, d_Tup_bl, d_Tup_int, d_Tup_str, d_Tup_lst, d_Tup_tup, d_Tup_tab, d_Tup_dic, d_Tab_non, d_Tab_bl, d_Tab_int, d_Tab_str, d_Tab_lst, d_Tab_tup, d_Tab_tab, d_Tab_dic, Bool.not_true, Bool.not_false, Bool.true_or, Bool.false_or, Bool.or_true, Bool.or_false, Bool.and_true, Bool.true_and, Bool.and_false, Bool.false_and, if_true, if_false, Bool.false_eq_true])
local macro_rules | `(tactic| walk_at "isi") => `(tactic| ((first | with_reducible apply i_isB | with_reducible apply i_isI | with_reducible apply i_isS | with_reducible apply i_isL | with_reducible apply i_isT | with_reducible apply i_isTab); (focus assumption); (focus walk_at "sc"); try simp only [d_Bool_non, d_Bool_bl, d_Bool_int, d_Bool_str, d_Bool_lst, d_Bool_tup, d_Bool_tab, d_Bool_dic, d_Int_non, d_Int_bl, d_Int_int, d_Int_str, d_Int_lst, d_Int_tup, d_Int_tab, d_Int_dic, d_Str_non, d_Str_bl, d_Str_int, d_Str_str, d_Str_lst, d_Str_tup, d_Str_tab, d_Str_dic, d_List_non, d_List_bl, d_List_int, d_List_str, d_List_lst, d_List_tup, d_List_tab, d_List_dic, d_Tup_non, d_Tup_bl, d_Tup_int, d_Tup_str, d_Tup_lst, d_Tup_tup, d_Tup_tab, d_Tup_dic, d_Tab_non, d_Tab_bl, d_Tab_int, d_Tab_str, d_Tab_lst, d_Tab_tup, d_Tab_tab, d_Tab_dic]))
local macro_rules | `(tactic| walk_at "om") => `(tactic| first | ((with_reducible refine i_decF ?_ ?_); (focus omega)) | ((with_reducible refine i_decT ?_ ?_); (focus omega)) | ((with_reducible refine i_ndecF ?_ ?_); (focus omega)) | ((with_reducible refine i_ndecT ?_ ?_); (focus omega)))
local macro_rules | `(tactic| walk_at "go") => `(tactic| ((repeat (first | walk_at "st" | walk_at "isi" | walk_at "om")); try dsimp only [List.set]))
variable {W : Wd} {a : Ad}
/-! D9: owners; the words of a bit; words that make a ring. -/
def ownEq (ix : Option Nat) (u v : Int) : Bool := match ix with
  | none => false
  | some c => decide (((c / 2 : Nat) : Int) = u ∧ ((c % 2 : Nat) : Int) = v)
theorem eq2 (i j u v : Int) : decide ([i, j] = [u, v]) = decide (i = u ∧ j = v) := by simp
theorem i_eqOw {K : PySem.W.Frag} {ct : Addr} {M : Mt} {H : Hp} {Q : VK} {r : V} {q : Addr} {ix : Option Nat} {u v : Int} (h1 : Rp ct M H r (ownD ix)) (h2 : H q = some (.tup [.int u, .int v])) (h : Q (.bl (ownEq ix u v)) H) : rEqD K r (.ref q) H Q := by
  cases ix with
  | none =>
    cases h1
    exact ⟨.none, .tuple ([u, v].map PyData.int), .non, .tup (xs := [u, v].map V.int) (SqT.of h2) (dp_ints [u, v]), rfl, shT [u, v], h⟩
  | some c =>
    obtain ⟨t, ys, rfl, ht, hy⟩ := h1.tupAt
    obtain rfl := hy.two
    refine i_eqTI (xs := [((c / 2 : Nat) : Int), ((c % 2 : Nat) : Int)]) (ys := [u, v]) (SqT.of ht.2) (SqT.of h2) ?_
    rw [eq2]; exact h
def ownAll (n : Nat) (b1 b2 b3 : List Int) (u v : Int) : Bool := ownEq (ownIx n b1) u v && (ownEq (ownIx n b2) u v && ownEq (ownIx n b3) u v)
def sp_oby (ct : Addr) : Sp := sp2 fun x y H Q _ => ∃ t q n b1 b2 b3 u v, x = .ref t ∧ y = .ref q ∧ Tr ct N0 H t n b1 b2 b3 ∧ H q = some (.tup [.int u, .int v]) ∧ ∀ H', Ext N0 H H' → Q (.bl (ownAll n b1 b2 b3 u v)) H'
abbrev s_owned_by : Stmt := top 65
abbrev N_owned_by : List Str := ["tables", "owner", "table"]
abbrev P_owned_by : List Str := ["tables", "owner"]
theorem sc_owned_by : FnScope N_owned_by P_owned_by (defScope s_owned_by) := ⟨rfl, rfl, rfl, by decide +kernel, rfl, by decide +kernel, by decide +kernel⟩
theorem bi_owned_by {K : PySem.W.Frag} {f : Addr} {fd : FuncData} (F : FnF K "owned_by" "owned_by" s_owned_by [] f fd) : Binds K fd P_owned_by [] := FunD.bindsN F fun _ _ _ _ _ _ us hl => match us, hl with | [_, _], _ => rfl
theorem c_owned_by (T : Txt W.K W.mg a) (D : DefAt W "owned_by" "owned_by" "owned_by" s_owned_by) (c_own_place : Cal W CX0 7 "own_place" P_own_place (sp_own a.ct)) : Cal W CX0 8 "owned_by" P_owned_by (sp_oby a.ct) := cal_mk D sc_owned_by len2 (fun _ _ => bi_owned_by) fun f cdv A outer s H vs Q E hr h => by
  obtain ⟨_, _, rfl, t, p, n, b1, b2, b3, u, v, rfl, rfl, ht, hp, q⟩ := sp2_of h
  obtain ⟨xs, h0, hx⟩ := ht.at
  have hxl : xs.length = 3 := by
    obtain ⟨p1, p2, p3, g0, _⟩ := ht.ex
    have := g0.2.symm.trans h0.2
    cases this; rfl
  refine ⟨_, (pss_one (ps_ret (pe_callB (cr_all rfl) rfl T.all (by decide +kernel) (pa_cons (pe_lc (own := [("table", 2)]) (g := gName 2) (tt := tYes) (te := tOp (rEqD W.K) (tCall (sp_own a.ct) [] E0 (tCons (tVar 2) tNil)) (tVar 1)) rfl sc_owned_by.nd (pi_tup (pv 0)) (blkOk_by (N := N_owned_by) (sc := defScope s_owned_by) (by decide +kernel)) (fun _ _ _ _ _ => (pg_name (i := 2) sc_owned_by.nd rfl (by first | exact Or.inl rfl | exact Or.inr rfl))) (fun _ _ _ _ _ => pts_nil) (fun _ _ _ _ _ => (pe_cmpR (op_eqD (hr.units)) (pe_cal c_own_place hr (by omega) pass0 rfl (pa_cons (pv 2) pa_nil)) (pv 1) (by rfl)))) pa_nil)))), ?_⟩
  walk_at "go"
  refine c_tup (M := N0) (SqT.of h0.2) MOk.zero (by omega) (fun _ _ _ => True) (fun D j y _ => y = .bl (ownEq (ownIx n (b3of b1 b2 b3 j)) u v)) fun D nD => ⟨fun _ _ _ _ _ e => e, fun _ _ _ _ e => e, trivial, fun _ H1 x _ => SqT.of ((h0.plus nD).ext x).2, ?_, ?_⟩
  · intro j w H1 N N' hw x1 m1 _ nx
    have hj : j < 3 := by rw [← hxl]; exact (List.getElem?_eq_some_iff.mp hw).1
    obtain ⟨y, e1, ty⟩ := hx j hj
    have e2 := atI_nat hw
    rw [e1] at e2
    cases e2
    walk_at "go"
    refine i_yes rfl ?_
    walk_at "go"
    refine ⟨Plus N0 D, y, n, _, rfl, m1, (ty.plus nD).ext x1, fun r H2 x2 hr2 => ?_⟩
    walk_at "go"
    exact i_eqOw hr2 (((At.raw hp).plus nD).ext (x1.trans x2.weak)).2 (nx _ _ x2 MOk.zero rfl trivial)
  · intro acc H1 hl hr' hd x1 _ _
    walk_at "go"
    have e : acc = ([ownEq (ownIx n b1) u v, ownEq (ownIx n b2) u v, ownEq (ownIx n b3) u v]).map V.bl := by
      match acc, hl.trans hxl, hr' with
      | [a0, a1, a2], _, hr' =>
        rw [hr' 0 a0 rfl, hr' 1 a1 rfl, hr' 2 a2 rfl]; rfl
    subst e
    refine ⟨D, _, rfl, SqL.of hd, ?_⟩
    have := q H1 x1
    simpa [ownAll] using this
/-! words -/
theorem filt_yes {p : Nat → Bool} {i : Nat} (h : p i = true) : (List.range (i + 1)).filter p = (List.range i).filter p ++ [i] := by
  rw [List.range_succ, List.filter_append]; simp [h]
theorem filt_no {p : Nat → Bool} {i : Nat} (h : p i = false) : (List.range (i + 1)).filter p = (List.range i).filter p := by
  rw [List.range_succ, List.filter_append]; simp [h]
def wwN (n : Nat) (bs : List Int) (w : Int) : List Nat := (List.range (2 ^ n)).filter fun j => decide (bs.getD j 0 = w)
def nV (xs : List Nat) : List V := xs.map fun i : Nat => V.int (i : Int)
def sp_ww (ct : Addr) : Sp := sp2 fun x y H Q _ => ∃ M p n bs w, x = .ref p ∧ y = .int w ∧ Tb ct M H p n bs ∧ ∀ l H', H l = none → Ext N0 H H' → H' l = some (.lst (nV (wwN n bs w))) → Q (.ref l) H'
abbrev s_words_with : Stmt := top 66
abbrev N_words_with : List Str := ["table", "wanted", "word", "bit"]
abbrev P_words_with : List Str := ["table", "wanted"]
theorem sc_words_with : FnScope N_words_with P_words_with (defScope s_words_with) := ⟨rfl, rfl, rfl, by decide +kernel, rfl, by decide +kernel, by decide +kernel⟩
theorem bi_words_with {K : PySem.W.Frag} {f : Addr} {fd : FuncData} (F : FnF K "words_with" "words_with" s_words_with [] f fd) : Binds K fd P_words_with [] := FunD.bindsN F fun _ _ _ _ _ _ us hl => match us, hl with | [_, _], _ => rfl
theorem c_words_with (T : Txt W.K W.mg a) (D : DefAt W "words_with" "words_with" "words_with" s_words_with) (c_bits : Prp W CX0 1 a.ct "bits" P_Table_bits (sp_bits a.ct)) : Cal W CX0 3 "words_with" P_words_with (sp_ww a.ct) := cal_mk D sc_words_with len2 (fun _ _ => bi_words_with) fun f cdv A outer s H vs Q E hr h => by
  obtain ⟨_, _, rfl, M, p, n, bs, w, rfl, rfl, ht, q⟩ := sp2_of h
  have ok := ht.ok
  have h64 := pow_le6 ok.1
  refine ⟨_, (pss_one (ps_ret (pe_lc (own := [("word", 2), ("bit", 3)]) (g := gTup W.K 2 (gCons (gName 2) (gCons (gName 3) gNil))) rfl sc_words_with.nd (pi_enumT (by rfl) T.enumerate (pa_cons (pe_prp c_bits hr (by omega) (pv 0)) pa_nil)) (blkOk_by (N := N_words_with) (sc := defScope s_words_with) (by decide +kernel)) (fun _ _ _ _ _ => (pg_tup rfl (pgs_cons (pg_name (i := 2) sc_words_with.nd rfl (by first | exact Or.inl rfl | exact Or.inr rfl)) (pgs_cons (pg_name (i := 3) sc_words_with.nd rfl (by first | exact Or.inl rfl | exact Or.inr rfl)) pgs_nil)))) (fun _ _ _ _ _ => (pts_one (pt_cmpR op_eq (pv 3) (pv 1) (by rfl)))) (fun _ _ _ _ _ => (pv 2))))), ?_⟩
  walk_at "go"
  show iEnumT _ _ _ _ _
  refine i_cons ?_
  walk_at "go"
  refine i_pbits ht fun t tt => ?_
  walk_at "go"
  refine ⟨t, _, rfl, SqT.of tt.2, fun D nD => ?_⟩
  have tt' := tt.zero.plus nD
  refine lc_it (walk_enumT (K := W.K) (a := t) (xs := bs.map V.int)) (fun i Hx => Ext (Plus N0 D) H Hx ∧ Hx D = some (.lst (nV ((List.range i).filter fun j => decide (bs.getD j 0 = w))))) ⟨Ext.plus (Ext.new nD), upd_same⟩ (fun i Hx _ e => SqT.of (tt'.ext e.1).2) ?_ ?_
  · rintro i x Hx Hy hi ⟨x1, hd⟩ ⟨u, x1', x2', rfl, nu, rfl, e1, e2⟩
    cases e1
    obtain ⟨b, hb, rfl⟩ := getI e2
    have hi' : i < bs.length := by simpa using hi
    have e3 : bs.getD i 0 = b := by rw [List.getD_eq_getElem?_getD, hb]; rfl
    have uD : u ≠ D := fun e => by rw [e, hd] at nu; cases nu
    refine i_gt2 (SqT.of upd_same) ?_
    refine ⟨rfl, ?_⟩
    have hd2 : (upd Hx u (.tup [.int (i : Int), .int b])) D = some (.lst (nV ((List.range i).filter fun j => decide (bs.getD j 0 = w)))) := by rw [upd_ne (Ne.symm uD)]; exact hd
    have x2 : Ext (Plus N0 D) H (upd Hx u (.tup [.int (i : Int), .int b])) := x1.trans (Ext.new nu)
    walk_at "go"
    refine i_dec (fun e => ?_) (fun e => ?_)
    · walk_at "go"
      refine ⟨_, hd2, ?_, x2.trans (Ext.set plus_self), ?_⟩
      · have := List.length_filter_le (fun j => decide (bs.getD j 0 = w)) (List.range i)
        rw [List.length_range] at this
        refine small_lt ?_
        rw [nV, List.length_map]
        have h2 := ok.2.1
        omega
      · rw [upd_same, filt_yes (p := fun j => decide (bs.getD j 0 = w)) (by show decide (bs.getD i 0 = w) = true; rw [e3]; exact decide_eq_true e)]
        simp [nV]
    · refine ⟨x2, ?_⟩
      rw [hd2, filt_no (p := fun j => decide (bs.getD j 0 = w)) (by show decide (bs.getD i 0 = w) = false; rw [e3]; exact decide_eq_false e)]
  · rintro Hx ⟨x1, hd⟩
    walk_at "go"
    refine q D Hx nD (Ext.close (Ext.refl N0 H) nD x1) ?_
    rw [hd, List.length_map, ok.2.1]
    rfl
/-! words that make a ring -/
theorem fs_at {α β : Type} {f : α → Option β} {r : β} : ∀ {xs : List α} {i : Nat} {x : α}, xs[i]? = some x → (∀ j y, j < i → xs[j]? = some y → f y = none) → f x = some r → xs.findSome? f = some r
  | [], _, _, h, _, _ => by simp at h
  | y :: ys, 0, x, h, _, e => by
    simp at h; subst h
    rw [List.findSome?_cons, e]
  | y :: ys, i + 1, x, h, k, e => by
    rw [List.findSome?_cons, k 0 y (by omega) rfl]
    exact fs_at (i := i) (by simpa using h) (fun j z hj hz => k (j + 1) z (by omega) (by simpa using hz)) e
theorem fs_none {α β : Type} {f : α → Option β} : ∀ {xs : List α}, (∀ j y, j < xs.length → xs[j]? = some y → f y = none) → xs.findSome? f = none
  | [], _ => rfl
  | y :: ys, k => by
    rw [List.findSome?_cons, k 0 y (by simp) rfl]
    exact fs_none fun j z hj hz => k (j + 1) z (by simpa using hj) (by simpa using hz)
def fZ (n x y z : Nat) : Option (Nat × Nat × Nat) := if Builtin.bitOr (Builtin.bitXor x y) (Builtin.bitXor x z) = ((2 ^ n : Nat) : Int) - 1 then some (x, y, z) else none
def fY (n : Nat) (b3 : List Int) (w : Int) (x y : Nat) : Option (Nat × Nat × Nat) := (wwN n b3 w).findSome? (fZ n x y)
def fX (n : Nat) (b2 b3 : List Int) (w : Int) (x : Nat) : Option (Nat × Nat × Nat) := (wwN n b2 w).findSome? (fY n b3 w x)
def fW (n : Nat) (b1 b2 b3 : List Int) (w : Int) : Option (Nat × Nat × Nat) := (wwN n b1 w).findSome? (fX n b2 b3 w)
def ringW (n : Nat) (b1 b2 b3 : List Int) : Option (Nat × Nat × Nat) := ([0, 1] : List Int).findSome? (fW n b1 b2 b3)
theorem nV_at {xs : List Nat} {i : Nat} {v : V} (h : (nV xs)[i]? = some v) : ∃ k, xs[i]? = some k ∧ v = .int (k : Int) := by
  rw [nV, List.getElem?_map] at h
  cases e : xs[i]? with
  | none => rw [e] at h; cases h
  | some b => rw [e] at h; exact ⟨b, rfl, (Option.some.inj h).symm⟩
def sp_rw (ct : Addr) : Sp := sp1 fun v H Q _ => ∃ t n b1 b2 b3, v = .ref t ∧ Tr ct N0 H t n b1 b2 b3 ∧ ∀ r H', Ext N0 H H' → (ringW n b1 b2 b3 = none → r = .non) → (∀ x y z, ringW n b1 b2 b3 = some (x, y, z) → ∃ p, r = .ref p ∧ H' p = some (.tup [.int (x : Nat), .int (y : Nat), .int (z : Nat)])) → Q r H'
abbrev s_ring_words : Stmt := top 67
abbrev N_ring_words : List Str := ["tables", "everywhere", "wanted", "xs", "ys", "zs", "x", "y", "z", "table"]
abbrev P_ring_words : List Str := ["tables"]
theorem sc_ring_words : FnScope N_ring_words P_ring_words (defScope s_ring_words) := ⟨rfl, rfl, rfl, by decide +kernel, rfl, by decide +kernel, by decide +kernel⟩
theorem bi_ring_words {K : PySem.W.Frag} {f : Addr} {fd : FuncData} (F : FnF K "ring_words" "ring_words" s_ring_words [] f fd) : Binds K fd P_ring_words [] := FunD.bindsN F fun _ _ _ _ _ _ us hl => match us, hl with | [_], _ => rfl
theorem c_ring_words (T : Txt W.K W.mg a) (D : DefAt W "ring_words" "ring_words" "ring_words" s_ring_words) (c_width : Prp W CX0 1 a.ct "width" P_Table_width (sp_wid a.ct)) (c_word_count : Cal W CX0 4 "word_count" P_word_count sp_wc)
    (c_words_with : Cal W CX0 3 "words_with" P_words_with (sp_ww a.ct)) : Cal W CX0 5 "ring_words" P_ring_words (sp_rw a.ct) := cal_mk D sc_ring_words len1 (fun _ _ => bi_ring_words) fun f cdv A outer s H vs Q E hr h => by
  obtain ⟨_, rfl, t, n, b1, b2, b3, rfl, ht, q⟩ := sp1_of h
  obtain ⟨ts, h0, hx⟩ := ht.at
  have hxl : ts.length = 3 := by
    obtain ⟨p1, p2, p3, g0, _⟩ := ht.ex
    have := g0.2.symm.trans h0.2
    cases this; rfl
  refine ⟨_, (PSs.nox (pss_cons (ps_set (i := 1) sc_ring_words.nd rfl (by first | exact Or.inl rfl | exact Or.inr rfl) (pe_op op_sub (pe_cal c_word_count hr (by omega) pass0 rfl (pa_cons (pe_prp c_width hr (by omega) (pe_ix ix_seq (pv 0) pe_int (fun _ _ => rfl))) pa_nil)) pe_int))
 (pss_cons (ps_for PassesOwn.never rfl (pi_tup (pe_tup (pa_cons pe_int (pa_cons pe_int pa_nil)))) (pg_name (i := 2) sc_ring_words.nd rfl (by first | exact Or.inl rfl | exact Or.inr rfl))
  (pss_cons (ps_asg (pe_lc (own := [("table", 9)]) (g := gName 9) (tt := tYes) rfl sc_ring_words.nd (pi_tup (pv 0)) (blkOk_by (N := N_ring_words) (sc := defScope s_ring_words) (by decide +kernel)) (fun _ _ _ _ _ => (pg_name (i := 9) sc_ring_words.nd rfl (by first | exact Or.inl rfl | exact Or.inr rfl))) (fun _ _ _ _ _ => pts_nil) (fun _ _ _ _ _ => (pe_cal c_words_with hr (by omega) pass0 rfl (pa_cons (pv 9) (pa_cons (pv 2) pa_nil))))) (pg_unl rfl (pgs_cons (pg_name (i := 3) sc_ring_words.nd rfl (by first | exact Or.inl rfl | exact Or.inr rfl)) (pgs_cons (pg_name (i := 4) sc_ring_words.nd rfl (by first | exact Or.inl rfl | exact Or.inr rfl)) (pgs_cons (pg_name (i := 5) sc_ring_words.nd rfl (by first | exact Or.inl rfl | exact Or.inr rfl)) pgs_nil)))))
 (pss_one (ps_for PassesOwn.never rfl (pi_list (pv 3)) (pg_name (i := 6) sc_ring_words.nd rfl (by first | exact Or.inl rfl | exact Or.inr rfl))
  (pss_one (ps_for PassesOwn.never rfl (pi_list (pv 4)) (pg_name (i := 7) sc_ring_words.nd rfl (by first | exact Or.inl rfl | exact Or.inr rfl))
  (pss_one (ps_for PassesOwn.never rfl (pi_list (pv 5)) (pg_name (i := 8) sc_ring_words.nd rfl (by first | exact Or.inl rfl | exact Or.inr rfl))
  (pss_one (ps_if (pt_cmpR op_eq (pe_op op_or (pe_op op_xor (pv 6) (pv 7)) (pe_op op_xor (pv 6) (pv 8))) (pv 1) (by rfl))
  (pss_one (ps_ret (pe_tup (pa_cons (pv 6) (pa_cons (pv 7) (pa_cons (pv 8) pa_nil))))))
  pss_nil))))))))))
 (pss_one (ps_ret pe_non))))), ?_⟩
  walk_at "go"
  obtain ⟨p0, e0, t0⟩ := hx 0 (by omega)
  refine .inr (.inl (i_ixT h0 e0 ?_))
  walk_at "go"
  refine i_pwid t0 ?_
  walk_at "go"
  refine ⟨n, rfl, t0.ok.1, ?_⟩
  walk_at "go"
  refine i_nwT (by simp) fun u H1 n1 x1 u1 => ?_
  refine f_tup (SqT.of u1) (fun i σ Hx => (∃ v2 v3 v4 v5 v6 v7 v8 v9, σ = [some (.ref t), some (.int (((2 ^ n : Nat) : Int) - 1)), v2, v3, v4, v5, v6, v7, v8, v9]) ∧ Ext N0 H1 Hx ∧ ∀ j w, j < i → ([0, 1] : List Int)[j]? = some w → fW n b1 b2 b3 w = none) ⟨⟨_, _, _, _, _, _, _, _, rfl⟩, Ext.refl _ _, fun j w hj => by omega⟩ (fun i σ Hx _ e => SqT.of (e.2.1 _ _ (fun z => z) u1)) ?_ ?_
  · rintro i v σ Hx hv ⟨⟨_, _, _, _, _, _, _, _, rfl⟩, x2, hno⟩
    obtain ⟨w, hw, rfl⟩ : ∃ w, ([0, 1] : List Int)[i]? = some w ∧ v = .int w := getI (bs := [0, 1]) hv
    walk_at "go"
    have hx2 := ht.ext (x1.trans x2)
    have h02 := h0.ext (x1.trans x2)
    refine c_tup (M := N0) (SqT.of h02.2) MOk.zero (by omega) (fun _ _ _ => True) (fun D j y Hy => ∃ l, y = .ref l ∧ At (Plus N0 D) Hy l (.lst (nV (wwN n (b3of b1 b2 b3 j) w)))) fun D nD => ⟨fun _ _ _ _ x ⟨l, e1, e2⟩ => ⟨l, e1, e2.ext x⟩, fun _ _ _ _ e => e, trivial, fun _ H1 x _ => SqT.of ((h02.plus nD).ext x).2, ?_, ?_⟩
    · intro j y H3 N N' hy x3 m3 _ nx
      have hj : j < 3 := by rw [← hxl]; exact (List.getElem?_eq_some_iff.mp hy).1
      obtain ⟨p, e1, tp⟩ := hx j hj
      have e2 := atI_nat hy
      rw [e1] at e2
      cases e2
      walk_at "go"
      refine i_yes rfl ?_
      walk_at "go"
      refine ⟨Plus N0 D, p, n, _, w, rfl, rfl, (((tp.ext x1).ext x2).plus nD).ext x3, fun l H4 n4 x4 hl => ?_⟩
      exact nx _ _ x4 MOk.zero ⟨l, rfl, At.mk' m3 n4 hl⟩ trivial
    · intro acc H3 hl hr' hd x3 _ _
      obtain ⟨l1, l2, l3, rfl, hl1, hl2, hl3⟩ : ∃ l1 l2 l3, acc = [.ref l1, .ref l2, .ref l3] ∧ H3 l1 = some (.lst (nV (wwN n b1 w))) ∧ H3 l2 = some (.lst (nV (wwN n b2 w))) ∧ H3 l3 = some (.lst (nV (wwN n b3 w))) := by
        match acc, hl.trans hxl, hr' with
        | [a0, a1, a2], _, hr' =>
          obtain ⟨l1, rfl, g1⟩ := hr' 0 a0 rfl
          obtain ⟨l2, rfl, g2⟩ := hr' 1 a1 rfl
          obtain ⟨l3, rfl, g3⟩ := hr' 2 a2 rfl
          exact ⟨l1, l2, l3, rfl, g1.2, g2.2, g3.2⟩
      refine i_gl3 (SqL.of hd) ?_
      walk_at "go"
      have xx := (x1.trans x2).trans x3
      have hfound : ∀ r, fW n b1 b2 b3 w = some r → ringW n b1 b2 b3 = some r := fun r hr => fs_at hw hno hr
      refine f_list (SqL.of hl1) (fun i1 σ Hy => (∃ v6 v7 v8 v9, σ = [some (.ref t), some (.int (((2 ^ n : Nat) : Int) - 1)), some (.int w), some (.ref l1), some (.ref l2), some (.ref l3), v6, v7, v8, v9]) ∧ Hy = H3 ∧ ∀ j x, j < i1 → (wwN n b1 w)[j]? = some x → fX n b2 b3 w x = none) ⟨⟨_, _, _, _, rfl⟩, rfl, fun j w hj => by omega⟩ (fun i σ Hx _ e => e.2.1 ▸ SqL.of hl1) ?_ ?_
      · rintro i1 v σ Hy hv ⟨⟨_, _, _, _, rfl⟩, rfl, hno1⟩
        obtain ⟨x, hx1, rfl⟩ := nV_at hv
        walk_at "go"
        refine f_list (SqL.of hl2) (fun i2 σ Hz => (∃ v7 v8 v9, σ = [some (.ref t), some (.int (((2 ^ n : Nat) : Int) - 1)), some (.int w), some (.ref l1), some (.ref l2), some (.ref l3), some (.int x), v7, v8, v9]) ∧ Hz = Hy ∧ ∀ j y, j < i2 → (wwN n b2 w)[j]? = some y → fY n b3 w x y = none) ⟨⟨_, _, _, rfl⟩, rfl, fun j w hj => by omega⟩ (fun i σ Hx _ e => e.2.1 ▸ SqL.of hl2) ?_ ?_
        · rintro i2 v σ Hz hv ⟨⟨_, _, _, rfl⟩, rfl, hno2⟩
          obtain ⟨y, hy1, rfl⟩ := nV_at hv
          walk_at "go"
          refine f_list (SqL.of hl3) (fun i3 σ Hu => (∃ v8 v9, σ = [some (.ref t), some (.int (((2 ^ n : Nat) : Int) - 1)), some (.int w), some (.ref l1), some (.ref l2), some (.ref l3), some (.int x), some (.int y), v8, v9]) ∧ Hu = Hz ∧ ∀ j z, j < i3 → (wwN n b3 w)[j]? = some z → fZ n x y z = none) ⟨⟨_, _, rfl⟩, rfl, fun j w hj => by omega⟩ (fun i σ Hx _ e => e.2.1 ▸ SqL.of hl3) ?_ ?_
          · rintro i3 v σ Hu hv ⟨⟨_, _, rfl⟩, rfl, hno3⟩
            obtain ⟨z, hz1, rfl⟩ := nV_at hv
            walk_at "go"
            refine i_dec (fun e => ?_) (fun e => ?_)
            · walk_at "go"
              refine i_nwT (by simp) fun r H4 n4 x4 r4 => ?_
              have hf := hfound (x, y, z) (fs_at hx1 hno1 (fs_at hy1 hno2 (fs_at hz1 hno3 (if_pos e))))
              refine q _ _ (xx.trans x4) (fun e => by rw [hf] at e; cases e) (fun x' y' z' e => ?_)
              rw [hf] at e
              cases e
              exact ⟨r, rfl, r4⟩
            · walk_at "go"
              refine ⟨⟨_, _, rfl⟩, rfl, fun j z' hj hz' => ?_⟩
              by_cases h : j = i3
              · subst h
                rw [hz1] at hz'
                cases hz'
                exact if_neg e
              · exact hno3 j z' (by omega) hz'
          · rintro σ Hu ⟨⟨_, _, rfl⟩, rfl, hno3⟩
            refine ⟨⟨_, _, _, rfl⟩, rfl, fun j y' hj hy' => ?_⟩
            by_cases h : j = i2
            · subst h
              rw [hy1] at hy'
              cases hy'
              exact fs_none fun j z hj hz => hno3 j z (by simpa [nV] using hj) hz
            · exact hno2 j y' (by omega) hy'
        · rintro σ Hz ⟨⟨_, _, _, rfl⟩, rfl, hno2⟩
          refine ⟨⟨_, _, _, _, rfl⟩, rfl, fun j x' hj hx' => ?_⟩
          by_cases h : j = i1
          · subst h
            rw [hx1] at hx'
            cases hx'
            exact fs_none fun j z hj hz => hno2 j z (by simpa [nV] using hj) hz
          · exact hno1 j x' (by omega) hx'
      · rintro σ Hy ⟨⟨_, _, _, _, rfl⟩, rfl, hno1⟩
        refine ⟨⟨_, _, _, _, _, _, _, _, rfl⟩, x2.trans x3, fun j w' hj hw' => ?_⟩
        by_cases h : j = i
        · subst h
          rw [hw] at hw'
          cases hw'
          exact fs_none fun j z hj hz => hno1 j z (by simpa [nV] using hj) hz
        · exact hno j w' (by omega) hw'
  · rintro σ Hx ⟨⟨_, _, _, _, _, _, _, _, rfl⟩, x2, hno⟩
    walk_at "go"
    have hf : ringW n b1 b2 b3 = none := fs_none fun j w hj hw => hno j w hj hw
    exact q _ _ (x1.trans x2) (fun _ => rfl) (fun x y z e => by rw [hf] at e; cases e)
end Bs
set_option Elab.async false
set_option linter.all false
set_option maxRecDepth 100000
set_option maxHeartbeats 400000
namespace Bs
open PySem PySem.Spec PyProof.Rows L2 SX
open C8 (pe_gc pss_cut)
local macro_rules | `(tactic| walk_at "xt") => `(tactic| first | assumption | exact Ext.weak (by assumption) | exact Ext.is (by assumption) (by assumption) | exact Ext.plus (by assumption) | exact Ext.plus (Ext.weak (by assumption)) | exact Ext.plus (Ext.is (by assumption) (by assumption)) | exact Ext.set plus_self)
local macro_rules | `(tactic| walk_at "gr") => `(tactic| first | assumption | exact Ext.grow (by assumption) | exact Grow.upd)
local macro_rules | `(tactic| walk_at "mo") => `(tactic| first | assumption | exact MOk.zero | ((first | refine MOk.grow ?_ (by walk_at "gr") | exact MOk.upd (by walk_at "mo")); walk_at "mo") | exact MOk.plus (by walk_at "mo") (by assumption))
local macro_rules | `(tactic| walk_at "hp") => `(tactic| first
  | assumption | exact At.raw (by assumption)
  | exact At.mk' (by walk_at "mo") (by assumption) (by assumption)
  | ((first | refine At.ext (by walk_at "xt") ?_ | refine Rp.ext (by walk_at "xt") ?_ | refine RpA.ext (by walk_at "xt") ?_ | refine Tb.ext (by walk_at "xt") ?_); walk_at "hp")
  | ((first | refine At.plus (by assumption) ?_ | refine Rp.plus (by assumption) ?_ | refine RpA.plus (by assumption) ?_ | refine Tb.plus (by assumption) ?_); walk_at "hp"))
local macro_rules | `(tactic| walk_at "at") => `(tactic| first | assumption | exact At.get (M := N0) (by walk_at "hp"))
local macro_rules | `(tactic| walk_at "sq") => `(tactic| first | exact SqL.of (by walk_at "at") | exact SqT.of (by walk_at "at"))
local macro_rules | `(tactic| walk_at "st") => `(tactic| with_reducible first
  | refine i_seq ?_ | refine i_asg ?_ | refine i_ret ?_ | refine i_retN ?_ | refine i_drop ?_ | refine i_ifS ?_ | refine i_next ?_ | refine i_brk ?_
  | refine i_gname ?_ | refine i_gsub ?_ | refine i_c ?_ | refine i_op ?_ | refine i_un ?_ | refine i_I0 ?_ | refine i_U ?_ | refine i_isN ?_ | refine i_notN ?_
  | refine i_test ?_ | refine i_tB ?_ | refine i_bl ?_ | refine i_and ?_ | refine i_or ?_ | refine i_not ?_ | refine i_andV ?_ | refine i_orV ?_ | refine i_notV ?_ | refine i_ifE ?_
  | refine i_nil ?_ | refine i_cons ?_ | refine i_for ?_ | refine i_iL ?_ | refine i_iT ?_ | refine i_iR ?_ | refine i_lc ?_ | refine i_prp ?_ | refine i_mk ?_ | refine i_sS ?_ | refine i_sN ?_ | refine i_nsS ?_ | refine i_nsN ?_ | refine i_fld ?_ | refine i_sf ?_ | refine i_inO ?_ | refine i_lsO ?_ | refine i_tpO ?_ | refine i_lnO ?_ | refine i_cb ?_ | refine i_call ?_ | refine i_tup ?_ | refine i_lst ?_ | refine i_dnew ?_ | refine i_inI ?_ | refine i_inB ?_ | refine i_rgX ?_ | refine i_lrO ?_ | refine i_rg1 ?_ | refine i_nF ?_ | refine i_nT ?_ | refine i_tt ?_ | refine i_ff ?_ | refine i_ifT ?_ | refine i_ifF ?_
  | refine i_eqI ?_ | refine i_eqS ?_ | refine i_eqB ?_ | refine i_neI ?_ | refine i_neS ?_ | refine i_dR ?_ | refine i_dI ?_ | refine i_dT ?_ | refine i_dS ?_ | refine i_dN ?_ | refine i_nR ?_ | refine i_nI ?_ | refine i_nN ?_
  | (refine i_var (by with_unfolding_all rfl) ?_) | refine i_eq rfl ?_ | refine i_ne rfl ?_)
local macro_rules | `(tactic| walk_at "sc") => `(tactic| first | exact (Rp.int (M := N0) _) | exact (Rp.str (M := N0) _) | exact (Rp.bl (M := N0) _) | exact (Rp.non (M := N0)) | assumption | exact Rp.tab (by assumption) | exact Tb.rp (by assumption))
local macro_rules | `(tactic| walk_at "sd") => `(tactic| simp only [d_Bool_non, d_Bool_bl, d_Bool_int, d_Bool_str, d_Bool_lst, d_Bool_tup, d_Bool_tab, d_Bool_dic, d_Int_non, d_Int_bl, d_Int_int, d_Int_str, d_Int_lst, d_Int_tup, d_Int_tab, d_Int_dic, d_Str_non, d_Str_bl, d_Str_int, d_Str_str, d_Str_lst, d_Str_tup, d_Str_tab, d_Str_dic, d_List_non, d_List_bl, d_List_int, d_List_str, d_List_lst, d_List_tup, d_List_tab, d_List_dic, d_Tup_non, d_Tup_bl, d_Tup_int, d_Tup_str, d_Tup_lst, d_Tup_tup, d_Tup_tab, d_Tup_dic, d_Tab_non, d_Tab_bl, d_Tab_int, d_Tab_str, d_Tab_lst, d_Tab_tup, d_Tab_tab, d_Tab_dic, Bool.not_true, Bool.not_false, Bool.true_or, Bool.false_or, Bool.or_true, Bool.or_false, Bool.and_true, Bool.true_and, Bool.and_false, Bool.false_and, if_true, if_false, Bool.false_eq_true])
local macro_rules | `(tactic| walk_at "isi") => `(tactic| ((first | with_reducible apply i_isB | with_reducible apply i_isI | with_reducible apply i_isS | with_reducible apply i_isL | with_reducible apply i_isT | with_reducible apply i_isTab); (focus assumption); (focus walk_at "sc"); try simp only [d_Bool_non, d_Bool_bl, d_Bool_int, d_Bool_str, d_Bool_lst, d_Bool_tup, d_Bool_tab, d_Bool_dic, d_Int_non, d_Int_bl, d_Int_int, d_Int_str, d_Int_lst, d_Int_tup, d_Int_tab, d_Int_dic, d_Str_non, d_Str_bl, d_Str_int, d_Str_str, d_Str_lst, d_Str_tup, d_Str_tab, d_Str_dic, d_List_non, d_List_bl, d_List_int, d_List_str, d_List_lst, d_List_tup, d_List_tab, d_List_dic, d_Tup_non, d_Tup_bl, d_Tup_int, d_Tup_str, d_Tup_lst, d_Tup_tup, d_Tup_tab, d_Tup_dic, d_Tab_non, d_Tab_bl, d_Tab_int, d_Tab_str, d_Tab_lst, d_Tab_tup, d_Tab_tab, d_Tab_dic]))
local macro_rules | `(tactic| walk_at "om") => `(tactic| first | ((with_reducible refine i_decF ?_ ?_); (focus omega)) | ((with_reducible refine i_decT ?_ ?_); (focus omega)) | ((with_reducible refine i_ndecF ?_ ?_); (focus omega)) | ((with_reducible refine i_ndecT ?_ ?_); (focus omega)))
local macro_rules | `(tactic| walk_at "go") => `(tactic| ((repeat (first | walk_at "st" | walk_at "isi" | walk_at "om")); try dsimp only [List.set]))
variable {W : Wd} {a : Ad}
/-! BsM: a def called by position and by keywords alone. -/
/-- by keywords alone -/
theorem kb0_of {K : PySem.W.Frag} {name qual : Str} {st : Stmt} {f : Addr} {fd : FuncData} {ps ks : List Str} (F : FnF K name qual st [] f fd) (g : {α : Type} → List α → List α)
    (hrel : ∀ {zs : List V} {ws : List Value}, Vals zs ws → zs.length = ks.length → Vals (g zs) (g ws))
    (h : ∀ (kV doc pm : Value) (an : Option Addr) (cdv ct : Value) (ws : List Value), ws.length = ks.length → bindArgs (PySem.W.fnOf name qual (defArgs st) (defBody st) (defScope st) .none kV doc pm an cdv ct) ⟨[], ks.zip ws⟩ = pure (ps.zip (g ws))) : KB0 K fd ps ks g := by
  obtain ⟨oc, od, dV, kV, doc, pm, an, cdv, ct, osl, rfl, lk, hcd, hD, hK⟩ := F.ex
  rcases hD with ⟨_, rfl⟩ | ⟨e, _⟩
  · exact ⟨fun s ws _ hl => .of_eq (h kV doc pm an cdv ct ws hl), hrel⟩
  · exact absurd rfl e
def g3 : {α : Type} → List α → List α := fun xs => xs.reverse
theorem Vals.rev {vs : List V} {us : List Value} (h : Vals vs us) : Vals vs.reverse us.reverse := by
  induction h with
  | nil => exact .nil
  | cons r _ ih => rw [List.reverse_cons, List.reverse_cons]; exact ih.append (.cons r .nil)
theorem cal_mk2 {W : Wd} {CX : CXT} {k : Nat} {x name qual : Str} {st : Stmt} {N ps ks : List Str} {g : {α : Type} → List α → List α} {sp : Sp} (D : DefAt W x name qual st) (S : FnScope N ps (defScope st)) (len : ∀ vs H Q E, sp vs H Q E → vs.length = ps.length)
    (bi : ∀ f fd, FnF W.K name qual st [] f fd → L2.Binds W.K fd ps []) (kb : ∀ f fd, FnF W.K name qual st [] f fd → KB0 W.K fd ps ks g)
    (body : ∀ (f : Addr) (cdv : Value) (A : Around) (outer : List Env) (s : Shared) (H : Hp) (vs : List V) (Q : VK) (E : XK), Room k (A.deeper (envOfC qual (defScope st) s.heap.objs.size f cdv)) → sp vs H Q E →
      ∃ t, PSs (cxOf CX W.P W.w W.K W.mg W.base N qual (defScope st) f cdv A outer s H E) (defBody st) t ∧ t { nx := fun x H' => Q V.non H', rt := Q } (L2.start N vs) H) : Cal W CX (k + 1) x ps sp ∧ CalK W CX (k + 1) x ps ks g sp :=
  let ⟨f, fd, F, h⟩ := D.ex
  ⟨⟨f, fd, [], F.ok S len (body f), h, F.kp, bi f fd F, .nil⟩, ⟨f, fd, F.ok S len (body f), h, F.kp, kb f fd F⟩⟩
end Bs
set_option Elab.async false
set_option linter.all false
set_option maxRecDepth 100000
set_option maxHeartbeats 400000
namespace Bs
open PySem PySem.Spec PyProof.Rows L2 SX
open C8 (pe_gc pss_cut)
local macro_rules | `(tactic| walk_at "xt") => `(tactic| first | assumption | exact Ext.weak (by assumption) | exact Ext.is (by assumption) (by assumption) | exact Ext.plus (by assumption) | exact Ext.plus (Ext.weak (by assumption)) | exact Ext.plus (Ext.is (by assumption) (by assumption)) | exact Ext.set plus_self)
local macro_rules | `(tactic| walk_at "gr") => `(tactic| first | assumption | exact Ext.grow (by assumption) | exact Grow.upd)
local macro_rules | `(tactic| walk_at "mo") => `(tactic| first | assumption | exact MOk.zero | ((first | refine MOk.grow ?_ (by walk_at "gr") | exact MOk.upd (by walk_at "mo")); walk_at "mo") | exact MOk.plus (by walk_at "mo") (by assumption))
local macro_rules | `(tactic| walk_at "hp") => `(tactic| first
  | assumption | exact At.raw (by assumption)
  | exact At.mk' (by walk_at "mo") (by assumption) (by assumption)
  | ((first | refine At.ext (by walk_at "xt") ?_ | refine Rp.ext (by walk_at "xt") ?_ | refine RpA.ext (by walk_at "xt") ?_ | refine Tb.ext (by walk_at "xt") ?_); walk_at "hp")
  | ((first | refine At.plus (by assumption) ?_ | refine Rp.plus (by assumption) ?_ | refine RpA.plus (by assumption) ?_ | refine Tb.plus (by assumption) ?_); walk_at "hp"))
local macro_rules | `(tactic| walk_at "at") => `(tactic| first | assumption | exact At.get (M := N0) (by walk_at "hp"))
local macro_rules | `(tactic| walk_at "sq") => `(tactic| first | exact SqL.of (by walk_at "at") | exact SqT.of (by walk_at "at"))
local macro_rules | `(tactic| walk_at "st") => `(tactic| with_reducible first
  | refine i_seq ?_ | refine i_asg ?_ | refine i_ret ?_ | refine i_retN ?_ | refine i_drop ?_ | refine i_ifS ?_ | refine i_next ?_ | refine i_brk ?_
  | refine i_gname ?_ | refine i_gsub ?_ | refine i_c ?_ | refine i_op ?_ | refine i_un ?_ | refine i_I0 ?_ | refine i_U ?_ | refine i_isN ?_ | refine i_notN ?_
  | refine i_test ?_ | refine i_tB ?_ | refine i_bl ?_ | refine i_and ?_ | refine i_or ?_ | refine i_not ?_ | refine i_andV ?_ | refine i_orV ?_ | refine i_notV ?_ | refine i_ifE ?_
  | refine i_nil ?_ | refine i_cons ?_ | refine i_for ?_ | refine i_iL ?_ | refine i_iT ?_ | refine i_iR ?_ | refine i_lc ?_ | refine i_prp ?_ | refine i_mk ?_ | refine i_sS ?_ | refine i_sN ?_ | refine i_nsS ?_ | refine i_nsN ?_ | refine i_fld ?_ | refine i_sf ?_ | refine i_inO ?_ | refine i_lsO ?_ | refine i_tpO ?_ | refine i_lnO ?_ | refine i_cb ?_ | refine i_call ?_ | refine i_tup ?_ | refine i_lst ?_ | refine i_dnew ?_ | refine i_inI ?_ | refine i_inB ?_ | refine i_rgX ?_ | refine i_lrO ?_ | refine i_rg1 ?_ | refine i_nF ?_ | refine i_nT ?_ | refine i_tt ?_ | refine i_ff ?_ | refine i_ifT ?_ | refine i_ifF ?_
  | refine i_eqI ?_ | refine i_eqS ?_ | refine i_eqB ?_ | refine i_neI ?_ | refine i_neS ?_ | refine i_dR ?_ | refine i_dI ?_ | refine i_dT ?_ | refine i_dS ?_ | refine i_dN ?_ | refine i_nR ?_ | refine i_nI ?_ | refine i_nN ?_
  | (refine i_var (by with_unfolding_all rfl) ?_) | refine i_eq rfl ?_ | refine i_ne rfl ?_)
local macro_rules | `(tactic| walk_at "sc") => `(tactic| first | exact (Rp.int (M := N0) _) | exact (Rp.str (M := N0) _) | exact (Rp.bl (M := N0) _) | exact (Rp.non (M := N0)) | assumption | exact Rp.tab (by assumption) | exact Tb.rp (by assumption))
local macro_rules | `(tactic| walk_at "sd") => `(tactic| simp only [d_Bool_non, d_Bool_bl, d_Bool_int, d_Bool_str, d_Bool_lst, d_Bool_tup, d_Bool_tab, d_Bool_dic, d_Int_non, d_Int_bl, d_Int_int, d_Int_str, d_Int_lst, d_Int_tup, d_Int_tab, d_Int_dic, d_Str_non, d_Str_bl, d_Str_int, d_Str_str, d_Str_lst, d_Str_tup, d_Str_tab, d_Str_dic, d_List_non, d_List_bl, d_List_int, d_List_str, d_List_lst, d_List_tup, d_List_tab, d_List_dic, d_Tup_non, d_Tup_bl, d_Tup_int, d_Tup_str, d_Tup_lst, d_Tup_tup, d_Tup_tab, d_Tup_dic, d_Tab_non, d_Tab_bl, d_Tab_int, d_Tab_str, d_Tab_lst, d_Tab_tup, d_Tab_tab, d_Tab_dic, Bool.not_true, Bool.not_false, Bool.true_or, Bool.false_or, Bool.or_true, Bool.or_false, Bool.and_true, Bool.true_and, Bool.and_false, Bool.false_and, if_true, if_false, Bool.false_eq_true])
local macro_rules | `(tactic| walk_at "isi") => `(tactic| ((first | with_reducible apply i_isB | with_reducible apply i_isI | with_reducible apply i_isS | with_reducible apply i_isL | with_reducible apply i_isT | with_reducible apply i_isTab); (focus assumption); (focus walk_at "sc"); try simp only [d_Bool_non, d_Bool_bl, d_Bool_int, d_Bool_str, d_Bool_lst, d_Bool_tup, d_Bool_tab, d_Bool_dic, d_Int_non, d_Int_bl, d_Int_int, d_Int_str, d_Int_lst, d_Int_tup, d_Int_tab, d_Int_dic, d_Str_non, d_Str_bl, d_Str_int, d_Str_str, d_Str_lst, d_Str_tup, d_Str_tab, d_Str_dic, d_List_non, d_List_bl, d_List_int, d_List_str, d_List_lst, d_List_tup, d_List_tab, d_List_dic, d_Tup_non, d_Tup_bl, d_Tup_int, d_Tup_str, d_Tup_lst, d_Tup_tup, d_Tup_tab, d_Tup_dic, d_Tab_non, d_Tab_bl, d_Tab_int, d_Tab_str, d_Tab_lst, d_Tab_tup, d_Tab_tab, d_Tab_dic]))
local macro_rules | `(tactic| walk_at "om") => `(tactic| first | ((with_reducible refine i_decF ?_ ?_); (focus omega)) | ((with_reducible refine i_decT ?_ ?_); (focus omega)) | ((with_reducible refine i_ndecF ?_ ?_); (focus omega)) | ((with_reducible refine i_ndecT ?_ ?_); (focus omega)))
local macro_rules | `(tactic| walk_at "go") => `(tactic| ((repeat (first | walk_at "st" | walk_at "isi" | walk_at "om")); try dsimp only [List.set]))
variable {W : Wd} {a : Ad}
/-! D10: the paper of a ring. -/
def uprs : List (Nat × Nat) := [(0, 1), (0, 2), (1, 2)]
def unlIx (n : Nat) (b1 b2 b3 : List Int) : Option (Nat × Nat) := uprs.find? fun p => unl (con n (b3of b1 b2 b3 p.1)) (con n (b3of b1 b2 b3 p.2))
def plain (n : Nat) (b1 b2 b3 : List Int) : Option Dt := match unlIx n b1 b2 b3 with
  | some p => some (.tup [.str "unlike", .int (p.1 : Nat), .int (p.2 : Nat)])
  | none => match ownIx n b1 with
    | some c => if ownAll n b1 b2 b3 ((c / 2 : Nat) : Int) ((c % 2 : Nat) : Int) = true then some (.tup [.str "own", .int ((c / 2 : Nat) : Int), .int ((c % 2 : Nat) : Int)]) else none
    | none => none
def paperD (n : Nat) (b1 b2 b3 : List Int) : Dt := match plain n b1 b2 b3 with
  | some d => d
  | none => match ringW n b1 b2 b3 with
    | some (x, y, z) => .tup [.str "ring", .lst ((bwF n x y z).map Dt.str)]
    | none => .non
/-- the plain law: where no plain paper is right, there is a ring -/
def PlainOk : Prop := ∀ n b1 b2 b3, TabOk n b1 → TabOk n b2 → TabOk n b3 → plain n b1 b2 b3 = none → ∃ x y z, ringW n b1 b2 b3 = some (x, y, z) ∧ ∀ o ∈ bwF n x y z, o ≠ "ring"
def sp_rpaper (a : Ad) : Sp := sp3 fun x y z H Q E => ∃ M o1 o2 o3, MOk M H ∧ Gv a.ct N0 H x o1 ∧ Gv a.ct N0 H y o2 ∧ Gv a.ct N0 H z o3 ∧
  (∀ C s, flt3 a o1 o2 o3 = some (C, s) → Rz E C s H) ∧ (∀ n b1 b2 b3, o1 = some (n, b1) → o2 = some (n, b2) → o3 = some (n, b3) → ∀ r H', Ext N0 H H' → Rp a.ct M H' r (paperD n b1 b2 b3) → Q r H')
theorem flt3_none {a : Ad} {o1 o2 o3 : Option (Nat × List Int)} (h : flt3 a o1 o2 o3 = none) : ∃ n b1 b2 b3, o1 = some (n, b1) ∧ o2 = some (n, b2) ∧ o3 = some (n, b3) := by
  match o1, o2, o3 with
  | none, _, _ => simp [flt3] at h
  | some _, none, _ => simp [flt3] at h
  | some (n, b1), some (n2, b2), o3 =>
    by_cases e : n2 = n
    · subst e
      match o3 with
      | none => simp [flt3] at h
      | some (n3, b3) =>
        by_cases e : n3 = n2
        · subst e
          exact ⟨_, _, _, _, rfl, rfl, rfl⟩
        · simp [flt3, e] at h
    · simp [flt3, e] at h
theorem find3 {α : Type} {p : α → Bool} {x y z : α} {r : α} {i : Nat} (h : [x, y, z][i]? = some r) (k : ∀ j s, j < i → [x, y, z][j]? = some s → p s = false) (e : p r = true) : [x, y, z].find? p = some r := by
  match i, h with
  | 0, h => cases h; simp [e]
  | 1, h => cases h; simp [e, k 0 x (by omega) rfl]
  | 2, h => cases h; simp [e, k 0 x (by omega) rfl, k 1 y (by omega) rfl]
abbrev s_ring_paper : Stmt := top 68
abbrev N_ring_paper : List Str := ["first", "second", "third", "tables", "low", "high", "owner"]
abbrev P_ring_paper : List Str := ["first", "second", "third"]
theorem sc_ring_paper : FnScope N_ring_paper P_ring_paper (defScope s_ring_paper) := ⟨rfl, rfl, rfl, by decide +kernel, rfl, by decide +kernel, by decide +kernel⟩
theorem bi_ring_paper {K : PySem.W.Frag} {f : Addr} {fd : FuncData} (F : FnF K "ring_paper" "ring_paper" s_ring_paper [] f fd) : Binds K fd P_ring_paper [] := FunD.bindsN F fun _ _ _ _ _ _ us hl => match us, hl with | [_, _, _], _ => rfl
theorem c_ring_paper (PL : PlainOk) (T : Txt W.K W.mg a) (T2 : Tx2 W.K W.P W.w a) (D : DefAt W "ring_paper" "ring_paper" "ring_paper" s_ring_paper) (c_width : Prp W CX0 1 a.ct "width" P_Table_width (sp_wid a.ct)) (c_check_three : Cal W (CXr W) 4 "check_three" P_check_three (sp_ck3 a))
    (c_unlike_pair : Cal W CX0 6 "unlike_pair" P_unlike_pair (sp_unl a.ct)) (c_own_place : Cal W CX0 7 "own_place" P_own_place (sp_own a.ct)) (c_owned_by : Cal W CX0 8 "owned_by" P_owned_by (sp_oby a.ct))
    (c_ring_words : Cal W CX0 5 "ring_words" P_ring_words (sp_rw a.ct)) (c_ballot_with_words : Cal W CX0 2 "ballot_with_words" P_ballot_with_words sp_bww)
    : Cal W (CXr W) 9 "ring_paper" P_ring_paper (sp_rpaper a) ∧ CalK W (CXr W) 9 "ring_paper" P_ring_paper ["third", "second", "first"] g3 (sp_rpaper a) := cal_mk2 D sc_ring_paper len3 (fun _ _ => bi_ring_paper) (fun _ _ F => kb0_of F g3 (fun r _ => Vals.rev r) fun _ _ _ _ _ _ ws hl => match ws, hl with | [_, _, _], _ => rfl) fun f cdv A outer s H vs Q E hr h => by
  obtain ⟨_, _, _, rfl, M, o1, o2, o3, m, h1, h2, h3, qe, q⟩ := sp3_of h
  refine ⟨_, (pss_cons (ps_expr (pe_cal c_check_three hr (by omega) (passes_call (takes_of rfl rfl rfl rfl) fun _ _ _ _ h => h) rfl (pa_cons (pv 0) (pa_cons (pv 1) (pa_cons (pv 2) (pa_cons (pe_gc rfl T.vMOST_WIDTH) pa_nil))))))
 (PSs.nox (pss_cons (ps_set (i := 3) sc_ring_paper.nd rfl (by first | exact Or.inl rfl | exact Or.inr rfl) (pe_tup (pa_cons (pv 0) (pa_cons (pv 1) (pa_cons (pv 2) pa_nil)))))
 (pss_cons (ps_for PassesOwn.never rfl (pi_tup (pe_gc rfl T.vPAIRS)) (pg_tup rfl (pgs_cons (pg_name (i := 4) sc_ring_paper.nd rfl (by first | exact Or.inl rfl | exact Or.inr rfl)) (pgs_cons (pg_name (i := 5) sc_ring_paper.nd rfl (by first | exact Or.inl rfl | exact Or.inr rfl)) pgs_nil)))
  (pss_one (ps_if (pt_val (pe_cal c_unlike_pair hr (by omega) pass0 rfl (pa_cons (pv 3) (pa_cons (pv 4) (pa_cons (pv 5) pa_nil)))))
  (pss_one (ps_ret (pe_tup (pa_cons pe_str (pa_cons (pv 4) (pa_cons (pv 5) pa_nil))))))
  pss_nil)))
 (pss_cons (ps_set (i := 6) sc_ring_paper.nd rfl (by first | exact Or.inl rfl | exact Or.inr rfl) (pe_cal c_own_place hr (by omega) pass0 rfl (pa_cons (pv 0) pa_nil)))
 (pss_cut (ps_if (PW.pt (pw_and (pt_cmp (pc_notN (pv 6))) (pw_and1 (pt_val (pe_cal c_owned_by hr (by omega) pass0 rfl (pa_cons (pv 3) (pa_cons (pv 6) pa_nil)))))))
  (pss_one (ps_ret (pe_tup (pa_cons pe_str (pa_cons (pe_ix ix_seq (pv 6) pe_int (fun _ _ => rfl)) (pa_cons (pe_ix ix_seq (pv 6) pe_int (fun _ _ => rfl)) pa_nil))))))
  pss_nil)
 (pss_one (ps_ret (pe_tup (pa_cons (pe_gc rfl T.vRING) (pa_cons (pe_cal c_ballot_with_words hr (by omega) pass0 rfl (pa_cons (pe_prp c_width hr (by omega) (pv 0)) (pa_cons (pe_cal c_ring_words hr (by omega) pass0 rfl (pa_cons (pv 3) pa_nil)) pa_nil))) pa_nil))))))))))), ?_⟩
  walk_at "go"
  refine ⟨N0, o1, o2, o3, 6, h1, h2, h3, rfl, fun n bs e => ?_, qe, fun e => ?_⟩
  · subst e
    cases h1 with | tab h1 => exact_mod_cast h1.ok.1
  obtain ⟨n, b1, b2, b3, rfl, rfl, rfl⟩ := flt3_none e
  have q := q n b1 b2 b3 rfl rfl rfl
  cases h1 with | @tab p1 _ _ h1 =>
  cases h2 with | @tab p2 _ _ h2 =>
  cases h3 with | @tab p3 _ _ h3 =>
  walk_at "go"
  refine i_nwT (by simp) fun t H1 n1 x1 t1 => ?_
  walk_at "go"
  have ht : Tr a.ct N0 H1 t n b1 b2 b3 := ⟨p1, p2, p3, At.raw t1, h1.zero.ext x1, h2.zero.ext x1, h3.zero.ext x1⟩
  have m1 : MOk M H1 := m.grow x1.grow
  refine f_tup (T2.prs _) (fun i σ Hx => (∃ v4 v5 v6, σ = [some (.ref p1), some (.ref p2), some (.ref p3), some (.ref t), v4, v5, v6]) ∧ Hx = H1 ∧ ∀ j p, j < i → uprs[j]? = some p → unl (con n (b3of b1 b2 b3 p.1)) (con n (b3of b1 b2 b3 p.2)) = false) ⟨⟨_, _, _, rfl⟩, rfl, fun j w hj => by omega⟩ (fun i σ Hx _ e => T2.prs _) ?_ ?_
  · rintro i v σ Hx hv ⟨⟨_, _, _, rfl⟩, rfl, hno⟩
    obtain ⟨lo, hi, rfl, hlh, hs, hl3, hh3⟩ : ∃ lo hi : Nat, v = .ref (a.pr i) ∧ uprs[i]? = some (lo, hi) ∧ SqT W.K Hx (a.pr i) [.int lo, .int hi] ∧ lo < 3 ∧ hi < 3 := by
      match i, hv with
      | 0, hv => cases hv; exact ⟨0, 1, rfl, rfl, T2.pr0 _, by omega, by omega⟩
      | 1, hv => cases hv; exact ⟨0, 2, rfl, rfl, T2.pr1 _, by omega, by omega⟩
      | 2, hv => cases hv; exact ⟨1, 2, rfl, rfl, T2.pr2 _, by omega, by omega⟩
    refine i_gt2 hs ?_
    walk_at "go"
    refine ⟨N0, t, n, b1, b2, b3, lo, hi, rfl, rfl, rfl, hl3, hh3, ht, ?_⟩
    walk_at "go"
    refine i_bool (fun e => ?_) (fun e => ?_)
    · walk_at "go"
      refine i_nwT (by simp) fun r H4 n4 x4 r4 => ?_
      refine q _ _ (x1.trans x4) ?_
      have hu : unlIx n b1 b2 b3 = some (lo, hi) := find3 hlh hno e
      have hp : paperD n b1 b2 b3 = .tup [.str "unlike", .int (lo : Nat), .int (hi : Nat)] := by simp [paperD, plain, hu]
      rw [hp]
      exact .tup (At.mk' m1 n4 r4) (.cons (.str _) .i2)
    · walk_at "go"
      refine ⟨⟨_, _, _, rfl⟩, rfl, fun j p hj hp => ?_⟩
      by_cases h : j = i
      · subst h
        rw [hlh] at hp
        cases hp
        exact e
      · exact hno j p (by omega) hp
  · rintro σ Hx ⟨⟨_, _, _, rfl⟩, rfl, hno⟩
    have hu : unlIx n b1 b2 b3 = none := by
      rw [unlIx, uprs, List.find?_eq_none]
      intro p hp
      obtain ⟨j, hj, e⟩ := List.getElem_of_mem hp
      rw [hno j p hj (by rw [← e]; exact List.getElem?_eq_getElem hj)]
      decide
    walk_at "go"
    refine ⟨N0, p1, n, b1, rfl, MOk.zero, h1.ext x1, fun r H2 x2 hr2 => ?_⟩
    walk_at "go"
    have ht2 := ht.ext x2
    refine i_cut (fun σ' H' => (∃ w4 w5, σ' = [some (.ref p1), some (.ref p2), some (.ref p3), some (.ref t), w4, w5, some r]) ∧ Ext N0 H2 H' ∧ plain n b1 b2 b3 = none) ?_ ?_
    · walk_at "go"
      cases hix : ownIx n b1 with
      | none =>
        rw [hix] at hr2
        cases hr2
        walk_at "go"
        exact ⟨⟨_, _, rfl⟩, Ext.refl _ _, by simp [plain, hu, hix]⟩
      | some c =>
        rw [hix] at hr2
        obtain ⟨w, ys, rfl, hw, hy⟩ := hr2.tupAt
        obtain rfl := hy.two
        walk_at "go"
        refine ⟨t, w, n, b1, b2, b3, _, _, rfl, rfl, ht2, hw.2, fun H3 x3 => ?_⟩
        walk_at "go"
        have hw3 := hw.ext x3.weak
        refine i_bool (fun e => ?_) (fun e => ?_)
        · walk_at "go"
          refine .inr (.inl (i_ixT hw3 (i := 0) rfl ?_))
          walk_at "go"
          refine .inr (.inl (i_ixT hw3 (i := 1) rfl ?_))
          walk_at "go"
          refine i_nwT (by simp) fun u H4 n4 x4 u4 => ?_
          have hp : paperD n b1 b2 b3 = .tup [.str "own", .int ((c / 2 : Nat) : Int), .int ((c % 2 : Nat) : Int)] := by simp only [paperD, plain, hu, hix, e, if_true]
          refine q _ _ (((x1.trans x2).trans x3).trans x4) ?_
          rw [hp]
          exact .tup (At.mk' (m1.grow (x2.trans x3).grow) n4 u4) (.cons (.str _) .i2)
        · walk_at "go"
          exact ⟨⟨_, _, rfl⟩, x3, by simp only [plain, hu, hix, e]; rfl⟩
    · rintro σ' H3 ⟨⟨_, _, rfl⟩, x3, hpl⟩
      obtain ⟨x, y, z, hw, hno⟩ := PL n b1 b2 b3 h1.ok h2.ok h3.ok hpl
      walk_at "go"
      have xx : Ext N0 Hx H3 := x2.trans x3
      refine i_pwid (h1.zero.ext (x1.trans xx)) ?_
      walk_at "go"
      refine ⟨t, n, b1, b2, b3, rfl, ht2.ext x3, fun r' H4 x4 _ hr4 => ?_⟩
      obtain ⟨p, rfl, hp⟩ := hr4 x y z hw
      walk_at "go"
      refine ⟨p, n, x, y, z, rfl, rfl, hp, h1.ok.1, hno, fun l H5 n5 x5 l5 => ?_⟩
      walk_at "go"
      refine i_nwT (by simp) fun u H6 n6 x6 u6 => ?_
      have hpd : paperD n b1 b2 b3 = .tup [.str "ring", .lst ((bwF n x y z).map Dt.str)] := by simp only [paperD, hpl, hw]
      refine q _ _ ((((x1.trans xx).trans x4).trans x5).trans x6) ?_
      rw [hpd]
      have m4 : MOk M H4 := m1.grow (xx.trans x4).grow
      have m5 : MOk M H5 := m4.grow x5.grow
      exact .tup (At.mk' m5 n6 u6) (.cons (.str _) (.cons (.lst ((At.mk' m4 n5 l5).ext x6.weak) (rpA_str _)) .nil))
end Bs
set_option Elab.async false
set_option linter.all false
set_option maxRecDepth 100000
set_option maxHeartbeats 400000
namespace Bs
open PySem PySem.Spec PyProof.Rows L2 SX
open C8 (pe_gc pss_cut)
local macro_rules | `(tactic| walk_at "xt") => `(tactic| first | assumption | exact Ext.weak (by assumption) | exact Ext.is (by assumption) (by assumption) | exact Ext.plus (by assumption) | exact Ext.plus (Ext.weak (by assumption)) | exact Ext.plus (Ext.is (by assumption) (by assumption)) | exact Ext.set plus_self)
local macro_rules | `(tactic| walk_at "gr") => `(tactic| first | assumption | exact Ext.grow (by assumption) | exact Grow.upd)
local macro_rules | `(tactic| walk_at "mo") => `(tactic| first | assumption | exact MOk.zero | ((first | refine MOk.grow ?_ (by walk_at "gr") | exact MOk.upd (by walk_at "mo")); walk_at "mo") | exact MOk.plus (by walk_at "mo") (by assumption))
local macro_rules | `(tactic| walk_at "hp") => `(tactic| first
  | assumption | exact At.raw (by assumption)
  | exact At.mk' (by walk_at "mo") (by assumption) (by assumption)
  | ((first | refine At.ext (by walk_at "xt") ?_ | refine Rp.ext (by walk_at "xt") ?_ | refine RpA.ext (by walk_at "xt") ?_ | refine Tb.ext (by walk_at "xt") ?_); walk_at "hp")
  | ((first | refine At.plus (by assumption) ?_ | refine Rp.plus (by assumption) ?_ | refine RpA.plus (by assumption) ?_ | refine Tb.plus (by assumption) ?_); walk_at "hp"))
local macro_rules | `(tactic| walk_at "at") => `(tactic| first | assumption | exact At.get (M := N0) (by walk_at "hp"))
local macro_rules | `(tactic| walk_at "sq") => `(tactic| first | exact SqL.of (by walk_at "at") | exact SqT.of (by walk_at "at"))
local macro_rules | `(tactic| walk_at "st") => `(tactic| with_reducible first
  | refine i_seq ?_ | refine i_asg ?_ | refine i_ret ?_ | refine i_retN ?_ | refine i_drop ?_ | refine i_ifS ?_ | refine i_next ?_ | refine i_brk ?_
  | refine i_gname ?_ | refine i_gsub ?_ | refine i_c ?_ | refine i_op ?_ | refine i_un ?_ | refine i_I0 ?_ | refine i_U ?_ | refine i_isN ?_ | refine i_notN ?_
  | refine i_test ?_ | refine i_tB ?_ | refine i_bl ?_ | refine i_and ?_ | refine i_or ?_ | refine i_not ?_ | refine i_andV ?_ | refine i_orV ?_ | refine i_notV ?_ | refine i_ifE ?_
  | refine i_nil ?_ | refine i_cons ?_ | refine i_for ?_ | refine i_iL ?_ | refine i_iT ?_ | refine i_iR ?_ | refine i_lc ?_ | refine i_prp ?_ | refine i_mk ?_ | refine i_sS ?_ | refine i_sN ?_ | refine i_nsS ?_ | refine i_nsN ?_ | refine i_fld ?_ | refine i_sf ?_ | refine i_inO ?_ | refine i_lsO ?_ | refine i_tpO ?_ | refine i_lnO ?_ | refine i_cb ?_ | refine i_call ?_ | refine i_tup ?_ | refine i_lst ?_ | refine i_dnew ?_ | refine i_inI ?_ | refine i_inB ?_ | refine i_rgX ?_ | refine i_lrO ?_ | refine i_rg1 ?_ | refine i_nF ?_ | refine i_nT ?_ | refine i_tt ?_ | refine i_ff ?_ | refine i_ifT ?_ | refine i_ifF ?_
  | refine i_eqI ?_ | refine i_eqS ?_ | refine i_eqB ?_ | refine i_neI ?_ | refine i_neS ?_ | refine i_dR ?_ | refine i_dI ?_ | refine i_dT ?_ | refine i_dS ?_ | refine i_dN ?_ | refine i_nR ?_ | refine i_nI ?_ | refine i_nN ?_
  | (refine i_var (by with_unfolding_all rfl) ?_) | refine i_eq rfl ?_ | refine i_ne rfl ?_)
local macro_rules | `(tactic| walk_at "sc") => `(tactic| first | exact (Rp.int (M := N0) _) | exact (Rp.str (M := N0) _) | exact (Rp.bl (M := N0) _) | exact (Rp.non (M := N0)) | assumption | exact Rp.tab (by assumption) | exact Tb.rp (by assumption))
local macro_rules | `(tactic| walk_at "sd") => `(tactic| simp only [d_Bool_non, d_Bool_bl, d_Bool_int, d_Bool_str, d_Bool_lst, d_Bool_tup, d_Bool_tab, d_Bool_dic, d_Int_non, d_Int_bl, d_Int_int, d_Int_str, d_Int_lst, d_Int_tup, d_Int_tab, d_Int_dic, d_Str_non, d_Str_bl, d_Str_int, d_Str_str, d_Str_lst, d_Str_tup, d_Str_tab, d_Str_dic, d_List_non, d_List_bl, d_List_int, d_List_str, d_List_lst, d_List_tup, d_List_tab, d_List_dic, d_Tup_non, d_Tup_bl, d_Tup_int, d_Tup_str, d_Tup_lst, d_Tup_tup, d_Tup_tab, d_Tup_dic, d_Tab_non, d_Tab_bl, d_Tab_int, d_Tab_str, d_Tab_lst, d_Tab_tup, d_Tab_tab, d_Tab_dic, Bool.not_true, Bool.not_false, Bool.true_or, Bool.false_or, Bool.or_true, Bool.or_false, Bool.and_true, Bool.true_and, Bool.and_false, Bool.false_and, if_true, if_false, Bool.false_eq_true])
local macro_rules | `(tactic| walk_at "isi") => `(tactic| ((first | with_reducible apply i_isB | with_reducible apply i_isI | with_reducible apply i_isS | with_reducible apply i_isL | with_reducible apply i_isT | with_reducible apply i_isTab); (focus assumption); (focus walk_at "sc"); try simp only [d_Bool_non, d_Bool_bl, d_Bool_int, d_Bool_str, d_Bool_lst, d_Bool_tup, d_Bool_tab, d_Bool_dic, d_Int_non, d_Int_bl, d_Int_int, d_Int_str, d_Int_lst, d_Int_tup, d_Int_tab, d_Int_dic, d_Str_non, d_Str_bl, d_Str_int, d_Str_str, d_Str_lst, d_Str_tup, d_Str_tab, d_Str_dic, d_List_non, d_List_bl, d_List_int, d_List_str, d_List_lst, d_List_tup, d_List_tab, d_List_dic, d_Tup_non, d_Tup_bl, d_Tup_int, d_Tup_str, d_Tup_lst, d_Tup_tup, d_Tup_tab, d_Tup_dic, d_Tab_non, d_Tab_bl, d_Tab_int, d_Tab_str, d_Tab_lst, d_Tab_tup, d_Tab_tab, d_Tab_dic]))
local macro_rules | `(tactic| walk_at "om") => `(tactic| first | ((with_reducible refine i_decF ?_ ?_); (focus omega)) | ((with_reducible refine i_decT ?_ ?_); (focus omega)) | ((with_reducible refine i_ndecF ?_ ?_); (focus omega)) | ((with_reducible refine i_ndecT ?_ ?_); (focus omega)))
local macro_rules | `(tactic| walk_at "go") => `(tactic| ((repeat (first | walk_at "st" | walk_at "isi" | walk_at "om")); try dsimp only [List.set]))
variable {W : Wd} {a : Ad}
/-! D11: is a paper right. -/
def isOrd : Dt → Bool
  | .str s => decide (s ∈ orders)
  | _ => false
def strD : Dt → Str
  | .str s => s
  | _ => ""
def ringB (n : Nat) (b1 b2 b3 : List Int) : Dt → Bool
  | .lst ds => decide (ds.length = n) && (ds.all isOrd && decide (outc b1 b2 b3 (ds.map strD) = "ring"))
  | _ => false
theorem inV_ord (s : Str) : inV (.str s) (orders.map V.str) = decide (s ∈ orders) := by
  unfold inV
  rw [List.any_map]
  by_cases h : s ∈ orders
  · rw [decide_eq_true h]
    exact List.any_eq_true.mpr ⟨s, h, by simp [eqV]⟩
  · rw [decide_eq_false h, List.any_eq_false]
    intro x hx
    have : x ≠ s := fun e => h (e ▸ hx)
    simpa [eqV] using this
theorem RpA.ords {ct : Addr} {M : Mt} {H : Hp} : ∀ {ds : List Dt} {xs : List V}, ds.all isOrd = true → RpA ct M H xs ds → xs = (ds.map strD).map V.str ∧ ∀ o ∈ ds.map strD, o ∈ orders
  | [], _, _, h => by cases h; exact ⟨rfl, by simp⟩
  | d :: ds, _, e, h => by
    cases h with
    | cons h1 h2 =>
      rw [List.all_cons, Bool.and_eq_true] at e
      obtain ⟨g1, g2⟩ := RpA.ords e.2 h2
      cases h1 with
      | str s =>
        have hs : s ∈ orders := of_decide_eq_true e.1
        refine ⟨by rw [g1]; rfl, fun o ho => ?_⟩
        rcases List.mem_cons.mp ho with h | h
        · rw [h]; exact hs
        · exact g2 o h
      | _ => exact absurd e.1 (by simp [isOrd])
theorem ord_flat : (orders.map V.str).all flatV = true := by rfl
def sp_ringing (ct : Addr) : Sp := sp2 fun x y H Q _ => ∃ t n b1 b2 b3 d, x = .ref t ∧ Tr ct N0 H t n b1 b2 b3 ∧ Rp ct N0 H y d ∧ ∀ H', Ext N0 H H' → Q (.bl (ringB n b1 b2 b3 d)) H'
abbrev s_ringing : Stmt := top 69
abbrev N_ringing : List Str := ["tables", "ballot", "order"]
abbrev P_ringing : List Str := ["tables", "ballot"]
theorem sc_ringing : FnScope N_ringing P_ringing (defScope s_ringing) := ⟨rfl, rfl, rfl, by decide +kernel, rfl, by decide +kernel, by decide +kernel⟩
theorem bi_ringing {K : PySem.W.Frag} {f : Addr} {fd : FuncData} (F : FnF K "ringing" "ringing" s_ringing [] f fd) : Binds K fd P_ringing [] := FunD.bindsN F fun _ _ _ _ _ _ us hl => match us, hl with | [_, _], _ => rfl
theorem c_ringing (T : Txt W.K W.mg a) (T2 : Tx2 W.K W.P W.w a) (D : DefAt W "ringing" "ringing" "ringing" s_ringing) (c_width : Prp W CX0 1 a.ct "width" P_Table_width (sp_wid a.ct)) (c_outcome_of : Cal W CX0 6 "outcome_of" P_outcome_of (sp_out a.ct)) : Cal W CX0 7 "ringing" P_ringing (sp_ringing a.ct) := cal_mk D sc_ringing len2 (fun _ _ => bi_ringing) fun f cdv A outer s H vs Q E hr h => by
  obtain ⟨_, y, rfl, t, n, b1, b2, b3, d, rfl, ht, hd, q⟩ := sp2_of h
  refine ⟨_, (PSs.nox (pss_cons (ps_if (PW.pt (pw_or (pt_not (pt_val (pe_callB call_isi rfl T.isinstance (by decide +kernel) (pa_cons (pv 1) (pa_cons (pe_bltn (v := .ty "list") rfl T.list (by decide +kernel) rfl) pa_nil))))) (pw_or1 (pt_cmpR op_ne (pe_callB call_len_seq rfl T.len PySem.boot_len (pa_cons (pv 1) pa_nil)) (pe_prp c_width hr (by omega) (pe_ix ix_seq (pv 0) pe_int (fun _ _ => rfl))) (by rfl)))))
  (pss_one (ps_ret pe_bl))
  pss_nil)
 (pss_cons (ps_for PassesOwn.never rfl (pi_list (pv 1)) (pg_name (i := 2) sc_ringing.nd rfl (by first | exact Or.inl rfl | exact Or.inr rfl))
  (pss_one (ps_if (PW.pt (pw_or (pt_not (pt_val (pe_callB call_isi rfl T.isinstance (by decide +kernel) (pa_cons (pv 2) (pa_cons (pe_bltn (v := .ty "str") rfl T.str (by decide +kernel) rfl) pa_nil))))) (pw_or1 (pt_cmpR op_notIn_seq (pv 2) (pe_gc rfl T.vORDERS) (by rfl)))))
  (pss_one (ps_ret pe_bl))
  pss_nil)))
 (pss_one (ps_ret (pe_cmpR op_eq (pe_cal c_outcome_of hr (by omega) pass0 rfl (pa_cons (pv 0) (pa_cons (pv 1) pa_nil))) (pe_gc rfl T.vRING) (by rfl))))))), ?_⟩
  walk_at "go"
  refine i_bool (fun e => ?_) (fun e => ?_)
  · walk_at "go"
    have : ringB n b1 b2 b3 d = false := by
      cases d with
      | lst ds => rw [d_List_lst] at e; cases e
      | _ => rfl
    rw [← this]
    exact q _ (Ext.refl _ _)
  cases d with
  | lst ds =>
    obtain ⟨p, xs, rfl, hp, hA⟩ := hd.lstAt
    walk_at "go"
    refine i_lnL (SqL.of hp.2) ?_
    walk_at "go"
    obtain ⟨ts, h0, hx⟩ := ht.at
    obtain ⟨p0, e0, t0⟩ := hx 0 (by omega)
    refine .inr (.inl (i_ixT h0 e0 ?_))
    walk_at "go"
    refine i_pwid t0 ?_
    walk_at "go"
    have hl := hA.length
    refine i_ndec (fun e => ?_) (fun e => ?_)
    · walk_at "go"
      have : ringB n b1 b2 b3 (.lst ds) = false := by
        have : ds.length ≠ n := by omega
        simp [ringB, this]
      rw [← this]
      exact q _ (Ext.refl _ _)
    have hn : ds.length = n := by omega
    walk_at "go"
    refine f_list (SqL.of hp.2) (fun i σ Hx => (∃ v, σ = [some (.ref t), some (.ref p), v]) ∧ Hx = H ∧ (ds.take i).all isOrd = true) ⟨⟨_, rfl⟩, rfl, rfl⟩ (fun i σ Hx _ e => by rw [e.2.1]; exact SqL.of hp.2) ?_ ?_
    · rintro i v σ Hx hv ⟨⟨_, rfl⟩, rfl, hall⟩
      obtain ⟨d, hd1, hr1⟩ := hA.getV hv
      have hno : isOrd d = false → ringB n b1 b2 b3 (.lst ds) = false := fun e => by
        have : ds.all isOrd = false := List.all_eq_false.mpr ⟨d, List.mem_of_getElem? hd1, by simp [e]⟩
        simp [ringB, this]
      walk_at "go"
      refine i_bool (fun e => ?_) (fun e => ?_)
      · walk_at "go"
        rw [← hno (by cases d with | str s => rw [d_Str_str] at e; cases e | _ => rfl)]
        exact q _ (Ext.refl _ _)
      cases d with
      | str s =>
        cases hr1
        walk_at "go"
        refine ⟨a.ors, _, rfl, .inr (T2.ors _), rfl, ord_flat, ?_⟩
        rw [inV_ord]
        walk_at "go"
        show if (!decide (s ∈ orders)) = true then _ else _
        refine i_ndec (fun e => ?_) (fun e => ?_)
        · walk_at "go"
          rw [← hno (by simp [isOrd, e])]
          exact q _ (Ext.refl _ _)
        · walk_at "go"
          refine ⟨⟨_, rfl⟩, rfl, ?_⟩
          rw [List.take_succ, List.all_append, hall, hd1]
          simp [isOrd, e]
      | _ => simp [Dt.isStr] at e
    · rintro σ Hx ⟨⟨_, rfl⟩, rfl, hall⟩
      rw [List.take_of_length_le (by omega)] at hall
      obtain ⟨g1, g2⟩ := hA.ords hall
      walk_at "go"
      subst g1
      refine ⟨N0, t, n, b1, b2, b3, p, ds.map strD, rfl, rfl, ht, .inl hp, by simpa using hn, g2, fun H4 x4 => ?_⟩
      walk_at "go"
      have := q _ x4
      simp only [ringB, hn, hall, decide_true, Bool.true_and] at this
      exact this
  | _ => simp [Dt.isList] at e
/-! is_ring_paper -/
def inPr (i j : Int) : Bool := decide (i = 0 ∧ j = 1 ∨ i = 0 ∧ j = 2 ∨ i = 1 ∧ j = 2)
def isR2 (n : Nat) (b1 b2 b3 : List Int) : Dt → Dt → Bool
  | .str s, g => decide (s = "ring") && ringB n b1 b2 b3 g
  | _, _ => false
def isR3 (n : Nat) (b1 b2 b3 : List Int) : Dt → Dt → Dt → Bool
  | .str s, .int i, .int j => if s = "unlike" then inPr i j && unl (con n (b3of b1 b2 b3 i.toNat)) (con n (b3of b1 b2 b3 j.toNat)) else decide (s = "own") && ownAll n b1 b2 b3 i j
  | _, _, _ => false
def isRs (n : Nat) (b1 b2 b3 : List Int) : List Dt → Bool
  | [x, y] => isR2 n b1 b2 b3 x y
  | [x, y, z] => isR3 n b1 b2 b3 x y z
  | _ => false
def isRing (n : Nat) (b1 b2 b3 : List Int) : Dt → Bool
  | .tup ds => isRs n b1 b2 b3 ds
  | _ => false
theorem i_inPr {K : PySem.W.Frag} {prog : Program} {w : World} {a : Ad} {H : Hp} {Q : VK} {p : Addr} {i j : Int} (T2 : Tx2 K prog w a) (hp : H p = some (.tup [.int i, .int j])) (h : Q (.bl (inPr i j)) H) : rInDT K (.ref p) (.ref a.prs) H Q := by
  refine ⟨.tuple ([i, j].map PyData.int), [.tuple ([0, 1].map PyData.int), .tuple ([0, 2].map PyData.int), .tuple ([1, 2].map PyData.int)], .tup (xs := [i, j].map V.int) (SqT.of hp) (dp_ints [i, j]),
    .tup (T2.prs H) (.cons (.tup (xs := ([0, 1] : List Int).map V.int) (T2.pr0 H) (dp_ints _)) (.cons (.tup (xs := ([0, 2] : List Int).map V.int) (T2.pr1 H) (dp_ints _)) (.cons (.tup (xs := ([1, 2] : List Int).map V.int) (T2.pr2 H) (dp_ints _)) .nil))), shT [i, j], by rfl, ?_⟩
  rw [List.any_cons, List.any_cons, List.any_cons, List.any_nil, eqT, eqT, eqT]
  have : (decide ([0, 1] = [i, j]) || (decide ([0, 2] = [i, j]) || (decide ([1, 2] = [i, j]) || false))) = inPr i j := by
    by_cases h1 : i = 0 <;> by_cases h2 : j = 1 <;> by_cases h3 : j = 2 <;> by_cases h4 : i = 1 <;> simp [inPr, h1, h2, h3, h4, eq_comm]
    all_goals omega
  rw [this]; exact h
def sp_isr (a : Ad) : Sp := sp4 fun x y z v H Q E => ∃ M o1 o2 o3 d, Gv a.ct M H x o1 ∧ Gv a.ct M H y o2 ∧ Gv a.ct M H z o3 ∧ Rp a.ct M H v d ∧
  (∀ C s, flt3 a o1 o2 o3 = some (C, s) → Rz E C s H) ∧ (∀ n b1 b2 b3, o1 = some (n, b1) → o2 = some (n, b2) → o3 = some (n, b3) → ∀ H', Ext N0 H H' → Q (.bl (isRing n b1 b2 b3 d)) H')
theorem in23 (k : Nat) : inV (.int k) [.int 2, .int 3] = decide (k = 2 ∨ k = 3) := by
  unfold inV
  rw [List.any_cons, List.any_cons, List.any_nil]
  show ((2 : Int) == (k : Int) || ((3 : Int) == (k : Int) || false)) = _
  by_cases h1 : k = 2
  · subst h1; rfl
  by_cases h2 : k = 3
  · subst h2; rfl
  have e1 : ((2 : Int) == (k : Int)) = false := by simpa using (show (2 : Int) ≠ k by omega)
  have e2 : ((3 : Int) == (k : Int)) = false := by simpa using (show (3 : Int) ≠ k by omega)
  rw [e1, e2]
  simp [h1, h2]
abbrev s_is_ring_paper : Stmt := top 70
abbrev N_is_ring_paper : List Str := ["first", "second", "third", "paper", "tables", "form", "low", "high"]
abbrev P_is_ring_paper : List Str := ["first", "second", "third", "paper"]
theorem sc_is_ring_paper : FnScope N_is_ring_paper P_is_ring_paper (defScope s_is_ring_paper) := ⟨rfl, rfl, rfl, by decide +kernel, rfl, by decide +kernel, by decide +kernel⟩
theorem bi_is_ring_paper {K : PySem.W.Frag} {f : Addr} {fd : FuncData} (F : FnF K "is_ring_paper" "is_ring_paper" s_is_ring_paper [] f fd) : Binds K fd P_is_ring_paper [] := FunD.bindsN F fun _ _ _ _ _ _ us hl => match us, hl with | [_, _, _, _], _ => rfl
theorem c_is_ring_paper (T : Txt W.K W.mg a) (T2 : Tx2 W.K W.P W.w a) (D : DefAt W "is_ring_paper" "is_ring_paper" "is_ring_paper" s_is_ring_paper) (c_check_three : Cal W (CXr W) 4 "check_three" P_check_three (sp_ck3 a))
    (c_plain_integer : Cal W CX0 1 "plain_integer" P_plain_integer (sp_plain a.ct)) (c_unlike_pair : Cal W CX0 6 "unlike_pair" P_unlike_pair (sp_unl a.ct)) (c_owned_by : Cal W CX0 8 "owned_by" P_owned_by (sp_oby a.ct))
    (c_ringing : Cal W CX0 7 "ringing" P_ringing (sp_ringing a.ct)) : Cal W (CXr W) 9 "is_ring_paper" P_is_ring_paper (sp_isr a) ∧ CalK W (CXr W) 9 "is_ring_paper" P_is_ring_paper ["paper", "third", "second", "first"] g3 (sp_isr a) := cal_mk2 D sc_is_ring_paper len4 (fun _ _ => bi_is_ring_paper) (fun _ _ F => kb0_of F g3 (fun r _ => Vals.rev r) fun _ _ _ _ _ _ ws hl => match ws, hl with | [_, _, _, _], _ => rfl) fun f cdv A outer s H vs Q E hr h => by
  obtain ⟨_, _, _, v, rfl, M, o1, o2, o3, d, h1, h2, h3, hd, qe, q⟩ := sp4_of h
  refine ⟨_, (pss_cons (ps_expr (pe_cal c_check_three hr (by omega) (passes_call (takes_of rfl rfl rfl rfl) fun _ _ _ _ h => h) rfl (pa_cons (pv 0) (pa_cons (pv 1) (pa_cons (pv 2) (pa_cons (pe_gc rfl T.vMOST_WIDTH) pa_nil))))))
 (pss_cons (ps_set (i := 4) sc_is_ring_paper.nd rfl (by first | exact Or.inl rfl | exact Or.inr rfl) (pe_tup (pa_cons (pv 0) (pa_cons (pv 1) (pa_cons (pv 2) pa_nil)))))
 (pss_cons (ps_if (PW.pt (pw_or (pt_not (pt_val (pe_callB call_isi rfl T.isinstance (by decide +kernel) (pa_cons (pv 3) (pa_cons (pe_bltn (v := .ty "tuple") rfl T.tuple (by decide +kernel) rfl) pa_nil))))) (pw_or1 (pt_cmpR op_notIn_seq (pe_callB call_len_seq rfl T.len PySem.boot_len (pa_cons (pv 3) pa_nil)) (pe_tup (pa_cons pe_int (pa_cons pe_int pa_nil))) (by rfl)))))
  (pss_one (ps_ret pe_bl))
  pss_nil)
 (pss_cons (ps_set (i := 5) sc_is_ring_paper.nd rfl (by first | exact Or.inl rfl | exact Or.inr rfl) (pe_ix ix_seq (pv 3) pe_int (fun _ _ => rfl)))
 (pss_cons (ps_if (pt_not (pt_val (pe_callB call_isi rfl T.isinstance (by decide +kernel) (pa_cons (pv 5) (pa_cons (pe_bltn (v := .ty "str") rfl T.str (by decide +kernel) rfl) pa_nil)))))
  (pss_one (ps_ret pe_bl))
  pss_nil)
 (pss_cons (ps_if (pt_cmpR op_eq (pe_callB call_len_seq rfl T.len PySem.boot_len (pa_cons (pv 3) pa_nil)) pe_int (by rfl))
  (pss_one (ps_ret (pe_and (pe_cmpR op_eq (pv 5) (pe_gc rfl T.vRING) (by rfl)) (pe_one (pe_cal c_ringing hr (by omega) pass0 rfl (pa_cons (pv 4) (pa_cons (pe_ix ix_seq (pv 3) pe_int (fun _ _ => rfl)) pa_nil)))))))
  pss_nil)
 (pss_cons (ps_par (i := 6) (j := 7) (by rfl) sc_is_ring_paper.nd rfl rfl (by decide) rfl rfl (pa_cons (pe_ix ix_seq (pv 3) pe_int (fun _ _ => rfl)) (pa_cons (pe_ix ix_seq (pv 3) pe_int (fun _ _ => rfl)) pa_nil)) (by rfl))
 (pss_cons (ps_if (PW.pt (pw_or (pt_not (pt_val (pe_cal c_plain_integer hr (by omega) pass0 rfl (pa_cons (pv 6) pa_nil)))) (pw_or1 (pt_not (pt_val (pe_cal c_plain_integer hr (by omega) pass0 rfl (pa_cons (pv 7) pa_nil)))))))
  (pss_one (ps_ret pe_bl))
  pss_nil)
 (pss_cons (ps_if (pt_cmpR op_eq (pv 5) pe_str (by rfl))
  (pss_one (ps_ret (pe_and (pe_cmpR (op_inDT (u65 hr)) (pe_tup (pa_cons (pv 6) (pa_cons (pv 7) pa_nil))) (pe_gc rfl T.vPAIRS) (by rfl)) (pe_one (pe_cal c_unlike_pair hr (by omega) pass0 rfl (pa_cons (pv 4) (pa_cons (pv 6) (pa_cons (pv 7) pa_nil))))))))
  pss_nil)
 (pss_one (ps_ret (pe_and (pe_cmpR op_eq (pv 5) pe_str (by rfl)) (pe_one (pe_cal c_owned_by hr (by omega) pass0 rfl (pa_cons (pv 4) (pa_cons (pe_tup (pa_cons (pv 6) (pa_cons (pv 7) pa_nil))) pa_nil)))))))))))))))), ?_⟩
  walk_at "go"
  refine ⟨M, o1, o2, o3, 6, h1, h2, h3, rfl, fun n bs e => ?_, qe, fun e => ?_⟩
  · subst e
    cases h1 with | tab h1 => exact_mod_cast h1.ok.1
  obtain ⟨n, b1, b2, b3, rfl, rfl, rfl⟩ := flt3_none e
  have q := q n b1 b2 b3 rfl rfl rfl
  cases h1 with | @tab p1 _ _ h1 =>
  cases h2 with | @tab p2 _ _ h2 =>
  cases h3 with | @tab p3 _ _ h3 =>
  walk_at "go"
  refine i_nwT (by simp) fun t H1 n1 x1 t1 => ?_
  walk_at "go"
  have ht : Tr a.ct N0 H1 t n b1 b2 b3 := ⟨p1, p2, p3, At.raw t1, h1.zero.ext x1, h2.zero.ext x1, h3.zero.ext x1⟩
  have hd1 : Rp a.ct N0 H1 v d := hd.zero.ext x1
  refine i_isT T hd1 ?_
  walk_at "go"
  have done : ∀ {Hy : Hp} {c : Bool}, Ext N0 H1 Hy → isRing n b1 b2 b3 d = c → Q (.bl c) Hy := fun x e => e ▸ q _ (x1.trans x)
  refine i_bool (fun e => ?_) (fun e => ?_)
  · walk_at "go"
    refine done (Ext.refl _ _) ?_
    cases d with
    | tup ds => rw [d_Tup_tup] at e; cases e
    | _ => rfl
  cases d with
  | tup ds =>
    obtain ⟨p, xs, rfl, hp, hA⟩ := hd1.tupAt
    have hl := hA.length
    walk_at "go"
    refine i_lnT (SqT.of hp.2) ?_
    walk_at "go"
    refine i_nwT (by simp) fun u H2 n2 x2 u2 => ?_
    refine ⟨u, _, rfl, .inr (SqT.of u2), rfl, rfl, ?_⟩
    rw [in23]
    walk_at "go"
    show if (!decide (xs.length = 2 ∨ xs.length = 3)) = true then _ else _
    have hp2 := hp.ext x2
    have hA2 := hA.ext x2
    have ht2 := ht.ext x2
    refine i_ndec (fun e5 => ?_) (fun e5 => ?_)
    · walk_at "go"
      refine done x2 ?_
      match ds, hl with
      | [], _ => rfl
      | [_], _ => rfl
      | [_, _], hl => exact absurd (.inl hl) e5
      | [_, _, _], hl => exact absurd (.inr hl) e5
      | _ :: _ :: _ :: _ :: _, _ => rfl
    walk_at "go"
    obtain ⟨w0, xr, rfl⟩ : ∃ w0 xr, xs = w0 :: xr := by
      cases xs with
      | nil => simp at e5
      | cons a b => exact ⟨a, b, rfl⟩
    refine .inr (.inl (i_ixT hp2 (i := 0) (atI_nat (i := 0) rfl) ?_))
    walk_at "go"
    obtain ⟨d0, dr, rfl⟩ : ∃ d0 dr, ds = d0 :: dr := by
      cases ds with
      | nil => simp at hl
      | cons a b => exact ⟨a, b, rfl⟩
    cases hA2 with
    | cons hw0 hA3 =>
    walk_at "go"
    refine i_bool (fun e' => ?_) (fun e' => ?_)
    · walk_at "go"
      refine done x2 ?_
      match dr with
      | [] => rfl
      | [g] => cases d0 with | str s => rw [d_Str_str] at e'; cases e' | _ => rfl
      | [g, g'] => cases d0 with | str s => rw [d_Str_str] at e'; cases e' | _ => rfl
      | _ :: _ :: _ :: _ => rfl
    cases d0 with
    | str s =>
      cases hw0
      walk_at "go"
      refine i_lnT (SqT.of hp2.2) ?_
      walk_at "go"
      match dr, xr, hA3 with
      | [], [], _ => simp at e5
      | [g], [vg], hA3 =>
        cases hA3 with
        | cons hg _ =>
        refine i_decT (by rfl) ?_
        walk_at "go"
        refine i_dec (fun e6 => ?_) (fun e6 => ?_)
        · walk_at "go"
          refine .inr (.inl (i_ixT hp2 (i := 1) rfl ?_))
          walk_at "go"
          refine ⟨t, n, b1, b2, b3, g, rfl, ht2, hg, fun H4 x4 => ?_⟩
          refine done (x2.trans x4) ?_
          simp [isRing, isRs, isR2, e6]
        · refine done x2 ?_
          simp [isRing, isRs, isR2, e6]
      | [l, g], [vl, vg], hA3 =>
        cases hA3 with
        | cons hl1 hA4 =>
        cases hA4 with
        | cons hg1 _ =>
        refine i_decF (by show ¬ (((3 : Nat) : Int) = 2); omega) ?_
        walk_at "go"
        refine i_par ?_
        walk_at "go"
        refine .inr (.inl (i_ixT hp2 (i := 1) rfl ?_))
        walk_at "go"
        refine .inr (.inl (i_ixT hp2 (i := 2) rfl ?_))
        walk_at "go"
        refine ⟨_, _, rfl, ?_⟩
        walk_at "go"
        refine ⟨N0, l, hl1, ?_⟩
        walk_at "go"
        have no1 : (l.isInt && !l.isBool) = false → isRing n b1 b2 b3 (.tup [.str s, l, g]) = false := fun e8 => by
          cases l with
          | int i => simp [Dt.isInt, Dt.isBool] at e8
          | _ => rfl
        have no2 : ∀ i, l = .int i → (g.isInt && !g.isBool) = false → isRing n b1 b2 b3 (.tup [.str s, l, g]) = false := fun i e1 e8 => by
          subst e1
          cases g with
          | int i => simp [Dt.isInt, Dt.isBool] at e8
          | _ => rfl
        cases hbl : (l.isInt && !l.isBool)
        · walk_at "go"
          exact done x2 (no1 hbl)
        walk_at "go"
        obtain ⟨i, rfl⟩ : ∃ i, l = .int i := by
          cases l with
          | int i => exact ⟨i, rfl⟩
          | _ => simp [Dt.isInt, Dt.isBool] at hbl
        refine ⟨N0, g, hg1, ?_⟩
        walk_at "go"
        cases hbg : (g.isInt && !g.isBool)
        · walk_at "go"
          exact done x2 (no2 i rfl hbg)
        walk_at "go"
        obtain ⟨j, rfl⟩ : ∃ j, g = .int j := by
          cases g with
          | int i => exact ⟨i, rfl⟩
          | _ => simp [Dt.isInt, Dt.isBool] at hbg
        cases hl1
        cases hg1
        refine i_dec (fun e6 => ?_) (fun e6 => ?_)
        · walk_at "go"
          refine i_nwT (by simp) fun u3 H3 n3 x3 u3' => ?_
          walk_at "go"
          refine i_inPr T2 u3' ?_
          walk_at "go"
          refine i_bool (fun e7 => ?_) (fun e7 => ?_)
          · walk_at "go"
            obtain ⟨i0, j0, rfl, rfl, hi, hj⟩ : ∃ i0 j0 : Nat, i = i0 ∧ j = j0 ∧ i0 < 3 ∧ j0 < 3 := by
              rcases of_decide_eq_true e7 with ⟨rfl, rfl⟩ | ⟨rfl, rfl⟩ | ⟨rfl, rfl⟩
              · exact ⟨0, 1, rfl, rfl, by omega, by omega⟩
              · exact ⟨0, 2, rfl, rfl, by omega, by omega⟩
              · exact ⟨1, 2, rfl, rfl, by omega, by omega⟩
            refine ⟨N0, t, n, b1, b2, b3, i0, j0, rfl, rfl, rfl, hi, hj, ht2.ext x3, ?_⟩
            refine done (x2.trans x3) ?_
            simp [isRing, isRs, isR3, e6, e7]
          · refine done (x2.trans x3) ?_
            simp [isRing, isRs, isR3, e6, e7]
        · walk_at "go"
          refine i_dec (fun e7 => ?_) (fun e7 => ?_)
          · walk_at "go"
            refine i_nwT (by simp) fun u3 H3 n3 x3 u3' => ?_
            walk_at "go"
            refine ⟨t, u3, n, b1, b2, b3, i, j, rfl, rfl, ht2.ext x3, u3', fun H4 x4 => ?_⟩
            refine done ((x2.trans x3).trans x4) ?_
            simp only [isRing, isRs, isR3, if_neg e6, decide_eq_true e7, Bool.true_and]
          · refine done x2 ?_
            simp only [isRing, isRs, isR3, if_neg e6, decide_eq_false e7, Bool.false_and]
      | _ :: _ :: _ :: _, _ :: _ :: _ :: _, _ => simp at e5
    | _ => simp [Dt.isStr] at e'
  | _ => simp [Dt.isTup] at e
end Bs
set_option Elab.async false
set_option linter.all false
set_option maxRecDepth 100000
set_option maxHeartbeats 400000
namespace Bs
open PySem PySem.Spec PyProof.Rows L2 SX
open C8 (pe_gc pss_cut)
local macro_rules | `(tactic| walk_at "xt") => `(tactic| first | assumption | exact Ext.weak (by assumption) | exact Ext.is (by assumption) (by assumption) | exact Ext.plus (by assumption) | exact Ext.plus (Ext.weak (by assumption)) | exact Ext.plus (Ext.is (by assumption) (by assumption)) | exact Ext.set plus_self)
local macro_rules | `(tactic| walk_at "gr") => `(tactic| first | assumption | exact Ext.grow (by assumption) | exact Grow.upd)
local macro_rules | `(tactic| walk_at "mo") => `(tactic| first | assumption | exact MOk.zero | ((first | refine MOk.grow ?_ (by walk_at "gr") | exact MOk.upd (by walk_at "mo")); walk_at "mo") | exact MOk.plus (by walk_at "mo") (by assumption))
local macro_rules | `(tactic| walk_at "hp") => `(tactic| first
  | assumption | exact At.raw (by assumption)
  | exact At.mk' (by walk_at "mo") (by assumption) (by assumption)
  | ((first | refine At.ext (by walk_at "xt") ?_ | refine Rp.ext (by walk_at "xt") ?_ | refine RpA.ext (by walk_at "xt") ?_ | refine Tb.ext (by walk_at "xt") ?_); walk_at "hp")
  | ((first | refine At.plus (by assumption) ?_ | refine Rp.plus (by assumption) ?_ | refine RpA.plus (by assumption) ?_ | refine Tb.plus (by assumption) ?_); walk_at "hp"))
local macro_rules | `(tactic| walk_at "at") => `(tactic| first | assumption | exact At.get (M := N0) (by walk_at "hp"))
local macro_rules | `(tactic| walk_at "sq") => `(tactic| first | exact SqL.of (by walk_at "at") | exact SqT.of (by walk_at "at"))
local macro_rules | `(tactic| walk_at "st") => `(tactic| with_reducible first
  | refine i_seq ?_ | refine i_asg ?_ | refine i_ret ?_ | refine i_retN ?_ | refine i_drop ?_ | refine i_ifS ?_ | refine i_next ?_ | refine i_brk ?_
  | refine i_gname ?_ | refine i_gsub ?_ | refine i_c ?_ | refine i_op ?_ | refine i_un ?_ | refine i_I0 ?_ | refine i_U ?_ | refine i_isN ?_ | refine i_notN ?_
  | refine i_test ?_ | refine i_tB ?_ | refine i_bl ?_ | refine i_and ?_ | refine i_or ?_ | refine i_not ?_ | refine i_andV ?_ | refine i_orV ?_ | refine i_notV ?_ | refine i_ifE ?_
  | refine i_nil ?_ | refine i_cons ?_ | refine i_for ?_ | refine i_iL ?_ | refine i_iT ?_ | refine i_iR ?_ | refine i_lc ?_ | refine i_prp ?_ | refine i_mk ?_ | refine i_sS ?_ | refine i_sN ?_ | refine i_nsS ?_ | refine i_nsN ?_ | refine i_fld ?_ | refine i_sf ?_ | refine i_inO ?_ | refine i_lsO ?_ | refine i_tpO ?_ | refine i_lnO ?_ | refine i_cb ?_ | refine i_call ?_ | refine i_tup ?_ | refine i_lst ?_ | refine i_dnew ?_ | refine i_inI ?_ | refine i_inB ?_ | refine i_rgX ?_ | refine i_lrO ?_ | refine i_rg1 ?_ | refine i_nF ?_ | refine i_nT ?_ | refine i_tt ?_ | refine i_ff ?_ | refine i_ifT ?_ | refine i_ifF ?_
  | refine i_eqI ?_ | refine i_eqS ?_ | refine i_eqB ?_ | refine i_neI ?_ | refine i_neS ?_ | refine i_dR ?_ | refine i_dI ?_ | refine i_dT ?_ | refine i_dS ?_ | refine i_dN ?_ | refine i_nR ?_ | refine i_nI ?_ | refine i_nN ?_
  | (refine i_var (by with_unfolding_all rfl) ?_) | refine i_eq rfl ?_ | refine i_ne rfl ?_)
local macro_rules | `(tactic| walk_at "sc") => `(tactic| first | exact (Rp.int (M := N0) _) | exact (Rp.str (M := N0) _) | exact (Rp.bl (M := N0) _) | exact (Rp.non (M := N0)) | assumption | exact Rp.tab (by assumption) | exact Tb.rp (by assumption))
local macro_rules | `(tactic| walk_at "sd") => `(tactic| simp only [d_Bool_non, d_Bool_bl, d_Bool_int, d_Bool_str, d_Bool_lst, d_Bool_tup, d_Bool_tab, d_Bool_dic, d_Int_non, d_Int_bl, d_Int_int, d_Int_str, d_Int_lst, d_Int_tup, d_Int_tab, d_Int_dic, d_Str_non, d_Str_bl, d_Str_int, d_Str_str, d_Str_lst, d_Str_tup, d_Str_tab, d_Str_dic, d_List_non, d_List_bl, d_List_int, d_List_str, d_List_lst, d_List_tup, d_List_tab, d_List_dic, d_Tup_non, d_Tup_bl, d_Tup_int, d_Tup_str, d_Tup_lst, d_Tup_tup, d_Tup_tab, d_Tup_dic, d_Tab_non, d_Tab_bl, d_Tab_int, d_Tab_str, d_Tab_lst, d_Tab_tup, d_Tab_tab, d_Tab_dic, Bool.not_true, Bool.not_false, Bool.true_or, Bool.false_or, Bool.or_true, Bool.or_false, Bool.and_true, Bool.true_and, Bool.and_false, Bool.false_and, if_true, if_false, Bool.false_eq_true])
local macro_rules | `(tactic| walk_at "isi") => `(tactic| ((first | with_reducible apply i_isB | with_reducible apply i_isI | with_reducible apply i_isS | with_reducible apply i_isL | with_reducible apply i_isT | with_reducible apply i_isTab); (focus assumption); (focus walk_at "sc"); try simp only [d_Bool_non, d_Bool_bl, d_Bool_int, d_Bool_str, d_Bool_lst, d_Bool_tup, d_Bool_tab, d_Bool_dic, d_Int_non, d_Int_bl, d_Int_int, d_Int_str, d_Int_lst, d_Int_tup, d_Int_tab, d_Int_dic, d_Str_non, d_Str_bl, d_Str_int, d_Str_str, d_Str_lst, d_Str_tup, d_Str_tab, d_Str_dic, d_List_non, d_List_bl, d_List_int, d_List_str, d_List_lst, d_List_tup, d_List_tab, d_List_dic, d_Tup_non, d_Tup_bl, d_Tup_int, d_Tup_str, d_Tup_lst, d_Tup_tup, d_Tup_tab, d_Tup_dic, d_Tab_non, d_Tab_bl, d_Tab_int, d_Tab_str, d_Tab_lst, d_Tab_tup, d_Tab_tab, d_Tab_dic]))
local macro_rules | `(tactic| walk_at "om") => `(tactic| first | ((with_reducible refine i_decF ?_ ?_); (focus omega)) | ((with_reducible refine i_decT ?_ ?_); (focus omega)) | ((with_reducible refine i_ndecF ?_ ?_); (focus omega)) | ((with_reducible refine i_ndecT ?_ ?_); (focus omega)))
local macro_rules | `(tactic| walk_at "go") => `(tactic| ((repeat (first | walk_at "st" | walk_at "isi" | walk_at "om")); try dsimp only [List.set]))
variable {W : Wd} {a : Ad}
/-! L1: what the law draws. -/
theorem cmul {i j : Int} (h1 : 0 ≤ i) (h2 : i < 2 ^ 200) (h3 : 0 ≤ j) (h4 : j < 2 ^ 200) : CMulW i j := wide_mul (a := 200) (b := 200) (by omega) (by omega) (by omega) (by omega) (by omega)
theorem cdiv {i j : Int} (h1 : 0 < j) (h2 : j < 2 ^ 200) : CDivW i j := wide_div (b := 200) h1 (by omega) (by omega) (by omega)
abbrev s_law_mixed : Stmt := top 72
abbrev N_law_mixed : List Str := ["_law_cell", "_law_nth", "_law_low", "_law_high"]
abbrev P_law_mixed : List Str := ["_law_cell", "_law_nth"]
theorem sc_law_mixed : FnScope N_law_mixed P_law_mixed (defScope s_law_mixed) := ⟨rfl, rfl, rfl, by decide +kernel, rfl, by decide +kernel, by decide +kernel⟩
theorem bi_law_mixed {K : PySem.W.Frag} {f : Addr} {fd : FuncData} (F : FnF K "_law_mixed" "_law_mixed" s_law_mixed [] f fd) : Binds K fd P_law_mixed [] := FunD.bindsN F fun _ _ _ _ _ _ us hl => match us, hl with | [_, _], _ => rfl
def sp_mixed : Sp := sp2 fun c n H Q _ => ∃ i j : Int, c = .int i ∧ n = .int j ∧ 0 ≤ j ∧ j < 2 ^ 60 ∧ ∀ r : Int, 0 ≤ r → r < 2147483399 → Q (.int r) H
theorem c_law_mixed (T : Txt W.K W.mg a) (D : DefAt W "_law_mixed" "_law_mixed" "_law_mixed" s_law_mixed) : Cal W CX0 1 "_law_mixed" P_law_mixed sp_mixed := cal_mk D sc_law_mixed len2 (fun _ _ => bi_law_mixed) fun f cdv A outer s H vs Q E hr h => by
  obtain ⟨x, y, rfl, i, j, rfl, rfl, h1, h2, q⟩ := sp2_of h
  refine ⟨_, (pss_cons (ps_set (i := 2) sc_law_mixed.nd rfl (by first | exact Or.inl rfl | exact Or.inr rfl) (pe_op op_mod (pe_callTy call_int1 rfl T.int (by decide +kernel) (pa_cons (pe_op op_add (pe_op op_add (pe_op op_mulW (pe_op op_mod (pe_callTy call_int1 rfl T.int (by decide +kernel) (pa_cons (pv 0) pa_nil)) pe_int) pe_int) (pe_op op_mulW (pv 1) pe_int)) pe_int) pa_nil)) pe_int))
 (pss_cons (ps_set (i := 3) sc_law_mixed.nd rfl (by first | exact Or.inl rfl | exact Or.inr rfl) (pe_op op_mod (pe_callTy call_int1 rfl T.int (by decide +kernel) (pa_cons (pe_op op_add (pe_op op_add (pe_op op_mulW (pv 2) (pv 2)) (pe_op op_mulW (pv 1) pe_int)) pe_int) pa_nil)) pe_int))
 (pss_one (ps_ret (pe_op op_mod (pe_callTy call_int1 rfl T.int (by decide +kernel) (pa_cons (pe_op op_add (pe_op op_add (pe_op op_mulW (pe_op op_fdivW (pv 3) pe_int) pe_int) (pe_op op_mulW (pe_op op_mod (pe_callTy call_int1 rfl T.int (by decide +kernel) (pa_cons (pv 3) pa_nil)) pe_int) pe_int)) (pe_op op_mod (pe_callTy call_int1 rfl T.int (by decide +kernel) (pa_cons (pv 2) pa_nil)) pe_int)) pa_nil)) pe_int))))), ?_⟩
  walk_at "go"
  refine i_I (by omega) ?_
  walk_at "go"
  refine i_I (cmul (by omega) (by omega) (by omega) (by omega)) ?_
  walk_at "go"
  refine i_I (cmul (by omega) (by omega) (by omega) (by omega)) ?_
  walk_at "go"
  refine i_I (by omega) ?_
  generalize hl : (i % 2147483647 * 48271 + j * 69621 + 8191) % 2147483647 = l
  have l0 : 0 ≤ l ∧ l < 2147483647 := by omega
  clear hl
  walk_at "go"
  refine i_I (cmul (by omega) (by omega) (by omega) (by omega)) ?_
  walk_at "go"
  refine i_I (cmul (by omega) (by omega) (by omega) (by omega)) ?_
  walk_at "go"
  refine i_I (by omega) ?_
  generalize hg : (l * l + j * 40692 + 77) % 2147483399 = g
  have g0 : 0 ≤ g ∧ g < 2147483399 := by omega
  clear hg
  walk_at "go"
  refine i_I (cdiv (by omega) (by omega)) ?_
  walk_at "go"
  refine i_I (cmul (by omega) (by omega) (by omega) (by omega)) ?_
  walk_at "go"
  refine i_I (by omega) ?_
  walk_at "go"
  refine i_I (cmul (by omega) (by omega) (by omega) (by omega)) ?_
  walk_at "go"
  refine i_I (by omega) ?_
  walk_at "go"
  refine i_I (by omega) ?_
  exact q _ (by omega) (by omega)
theorem bits64 {m : Int} (h0 : 0 ≤ m) (h : m ≤ 2 ^ 64) : Builtin.Int.intBits m ≤ 66 := by
  unfold Builtin.Int.intBits
  split
  · omega
  · have : m.natAbs < 2 ^ 65 := by omega
    have := Nat.log2_lt (n := m.natAbs) (k := 65) (by intro e; simp_all) |>.mpr this
    omega
def sp_lwide : Sp := sp3 fun c n m H Q _ => ∃ i j k : Int, c = .int i ∧ n = .int j ∧ m = .int k ∧ 0 ≤ j ∧ j < 2 ^ 40 ∧ 0 < k ∧ k ≤ 2 ^ 64 ∧ ∀ r : Int, 0 ≤ r → r < k → Q (.int r) H
abbrev s_law_wide : Stmt := top 73
abbrev N_law_wide : List Str := ["_law_cell", "_law_nth", "_law_many", "_law_told", "_law_k"]
abbrev P_law_wide : List Str := ["_law_cell", "_law_nth", "_law_many"]
theorem sc_law_wide : FnScope N_law_wide P_law_wide (defScope s_law_wide) := ⟨rfl, rfl, rfl, by decide +kernel, rfl, by decide +kernel, by decide +kernel⟩
theorem bi_law_wide {K : PySem.W.Frag} {f : Addr} {fd : FuncData} (F : FnF K "_law_wide" "_law_wide" s_law_wide [] f fd) : Binds K fd P_law_wide [] := FunD.bindsN F fun _ _ _ _ _ _ us hl => match us, hl with | [_, _, _], _ => rfl
theorem c_law_wide (T : Txt W.K W.mg a) (D : DefAt W "_law_wide" "_law_wide" "_law_wide" s_law_wide) (c_law_mixed : Cal W CX0 1 "_law_mixed" P_law_mixed sp_mixed) : Cal W CX0 2 "_law_wide" P_law_wide sp_lwide := cal_mk D sc_law_wide len3 (fun _ _ => bi_law_wide) fun f cdv A outer s H vs Q E hr h => by
  obtain ⟨x, y, z, rfl, i, j, k, rfl, rfl, rfl, h1, h2, h3, h4, q⟩ := sp3_of h
  refine ⟨_, (PSs.nox (pss_cons (ps_set (i := 3) sc_law_wide.nd rfl (by first | exact Or.inl rfl | exact Or.inr rfl) (pe_cal c_law_mixed hr (by omega) pass0 rfl (pa_cons (pv 0) (pa_cons (pv 1) pa_nil))))
 (pss_cons (ps_for PassesOwn.never rfl (pi_range1 (by rfl) T.range (pa_cons (pe_op op_fdivW (pe_bits (pv 2)) pe_int) pa_nil)) (pg_name (i := 4) sc_law_wide.nd rfl (by first | exact Or.inl rfl | exact Or.inr rfl))
  (pss_one (ps_set (i := 3) sc_law_wide.nd rfl (by first | exact Or.inl rfl | exact Or.inr rfl) (pe_op op_add (pe_op op_mulW (pv 3) pe_int) (pe_cal c_law_mixed hr (by omega) pass0 rfl (pa_cons (pv 0) (pa_cons (pe_op op_add (pv 1) (pe_op op_mulW pe_int (pe_op op_add (pv 4) pe_int))) pa_nil)))))))
 (pss_one (ps_ret (pe_op op_mod (pe_callTy call_int1 rfl T.int (by decide +kernel) (pa_cons (pv 3) pa_nil)) (pv 2))))))), ?_⟩
  walk_at "go"
  refine ⟨i, j, rfl, rfl, h1, by omega, fun r r0 r1 => ?_⟩
  walk_at "go"
  refine i_bits ?_
  walk_at "go"
  refine i_bitI ?_
  walk_at "go"
  refine i_I (cdiv (by omega) (by omega)) ?_
  walk_at "go"
  have hb := bits64 (by omega) h4
  have e : ((Builtin.Int.intBits k : Nat) : Int) / 20 = ((Builtin.Int.intBits k / 20 : Nat) : Int) := by omega
  rw [e]
  generalize hn : Builtin.Int.intBits k / 20 = n at *
  have hn4 : n ≤ 4 := by omega
  refine f_rg (by omega) (fun c σ Hx => (∃ t v, σ = [some (.int i), some (.int j), some (.int k), some (.int t), v] ∧ 0 ≤ t ∧ t < 2 ^ (32 * (c + 1))) ∧ Hx = H) ⟨⟨r, _, rfl, r0, by simp; omega⟩, rfl⟩ ?_ ?_
  · rintro c σ Hx hc ⟨⟨t, v, rfl, t0, t1⟩, rfl⟩
    have hP : (2 : Int) ^ (32 * (c + 1)) ≤ 2 ^ (32 * 5) := by
      exact_mod_cast Nat.pow_le_pow_right (by omega : 0 < 2) (by omega : 32 * (c + 1) ≤ 32 * 5)
    walk_at "go"
    refine i_I (cmul t0 (by omega) (by omega) (by omega)) ?_
    walk_at "go"
    refine i_I (cmul (by omega) (by omega) (by omega) (by omega)) ?_
    walk_at "go"
    refine ⟨i, _, rfl, rfl, by omega, by omega, fun r' r0' r1' => ?_⟩
    walk_at "go"
    refine ⟨⟨_, _, rfl, by omega, ?_⟩, rfl⟩
    have e : (2 : Int) ^ (32 * (c + 1 + 1)) = 2 ^ (32 * (c + 1)) * 2 ^ 32 := by rw [← Int.pow_add]; rfl
    rw [e]
    omega
  · rintro σ Hx ⟨⟨t, v, rfl, t0, t1⟩, rfl⟩
    walk_at "go"
    refine i_I (by omega) ?_
    exact q _ (Int.emod_nonneg _ (by omega)) (Int.emod_lt_of_pos _ (by omega))
/-! the store -/
def Sto (M : Mt) (H : Hp) (s : Addr) (k : Nat) : Prop := M s ∧ ∃ c, ∃ cells : List Int, ∃ i r m n : Int, H s = some (.lst [.ref c, .int i, .int r, .int m, .int n]) ∧ At M H c (.lst (cells.map V.int)) ∧ 0 ≤ i ∧ 0 ≤ r ∧ 0 ≤ n ∧ n ≤ k
section
variable {M : Mt} {H H' : Hp} {s p : Addr} {k k' : Nat}
theorem Sto.le (h : Sto M H s k) (e : k ≤ k') : Sto M H s k' := let ⟨g, c, cells, i, r, m, n, h1, h2, h3, h4, h5, h6⟩ := h; ⟨g, c, cells, i, r, m, n, h1, h2, h3, h4, h5, by omega⟩
theorem Sto.ext (h : Sto M H s k) (x : Ext N0 H H') : Sto M H' s k := let ⟨g, c, cells, i, r, m, n, h1, h2, h3⟩ := h; ⟨g, c, cells, i, r, m, n, x _ _ (fun z => z) h1, h2.ext x.weak, h3⟩
theorem Sto.plus (h : Sto M H s k) (x : H p = none) : Sto (Plus M p) H s k := let ⟨g, c, cells, i, r, m, n, h1, h2, h3⟩ := h; ⟨.inl g, c, cells, i, r, m, n, h1, h2.plus x, h3⟩
theorem Sto.less (h : Sto (Plus M p) H s k) (g : M s) : Sto M H s k := let ⟨_, c, cells, i, r, m, n, h1, h2, h3⟩ := h; ⟨g, c, cells, i, r, m, n, h1, h2.less, h3⟩
theorem Sto.at (h : Sto M H s k) : H s ≠ none := by
  obtain ⟨_, c, cells, i, r, m, n, h1, _⟩ := h
  rw [h1]; simp
theorem Sto.ne (h : Sto M H s k) (x : H p = none) : s ≠ p := fun e => h.at (e ▸ x)
/-- what is stored at another place of M -/
theorem Sto.set (h : Sto (Plus M p) H s k) (e : s ≠ p) (x : Ext (Is p) H H') : Sto (Plus M p) H' s k := let ⟨g, c, cells, i, r, m, n, h1, h2, h3⟩ := h; ⟨g, c, cells, i, r, m, n, x _ _ e h1, h2.ext (x.is plus_self), h3⟩
theorem Sto.mem (h : Sto M H s k) : M s := h.1
end
abbrev s_law_store : Stmt := top 74
abbrev N_law_store : List Str := ["_law_script", "_law_mixture", "_law_cell"]
abbrev P_law_store : List Str := ["_law_script"]
theorem sc_law_store : FnScope N_law_store P_law_store (defScope s_law_store) := ⟨rfl, rfl, rfl, by decide +kernel, rfl, by decide +kernel, by decide +kernel⟩
theorem bi_law_store {K : PySem.W.Frag} {f : Addr} {fd : FuncData} (F : FnF K "_law_store" "_law_store" s_law_store [] f fd) : Binds K fd P_law_store [] := FunD.bindsN F fun _ _ _ _ _ _ us hl => match us, hl with | [_], _ => rfl
def sp_store (K : PySem.W.Frag) : Sp := sp1 fun v H Q _ => ∃ p, ∃ cells : List Int, v = .ref p ∧ SqL K H p (cells.map V.int) ∧ ∀ s H', Ext N0 H H' → Sto (Is s) H' s 0 → Q (.ref s) H'
theorem c_law_store (T : Txt W.K W.mg a) (D : DefAt W "_law_store" "_law_store" "_law_store" s_law_store) : Cal W CX0 1 "_law_store" P_law_store (sp_store W.K) := cal_mk D sc_law_store len1 (fun _ _ => bi_law_store) fun f cdv A outer s H vs Q E hr h => by
  obtain ⟨x, rfl, p, cells, rfl, hp, q⟩ := sp1_of h
  refine ⟨_, (PSs.nox (pss_cons (ps_set (i := 1) sc_law_store.nd rfl (by first | exact Or.inl rfl | exact Or.inr rfl) pe_int)
 (pss_cons (ps_for PassesOwn.never rfl (pi_list (pv 0)) (pg_name (i := 2) sc_law_store.nd rfl (by first | exact Or.inl rfl | exact Or.inr rfl))
  (pss_one (ps_set (i := 1) sc_law_store.nd rfl (by first | exact Or.inl rfl | exact Or.inr rfl) (pe_op op_mod (pe_callTy call_int1 rfl T.int (by decide +kernel) (pa_cons (pe_op op_add (pe_op op_add (pe_op op_mulW (pv 1) pe_int) (pe_op op_mod (pe_callTy call_int1 rfl T.int (by decide +kernel) (pa_cons (pv 2) pa_nil)) pe_int)) pe_int) pa_nil)) pe_int))))
 (pss_one (ps_ret (pe_lst (pa_cons (pe_callTy call_list_of rfl T.list (by decide +kernel) (pa_cons (pv 0) pa_nil)) (pa_cons pe_int (pa_cons pe_int (pa_cons (pv 1) (pa_cons pe_int pa_nil))))))))))), ?_⟩
  walk_at "go"
  refine f_list hp (fun c σ Hx => (∃ t v, σ = [some (.ref p), some (.int t), v] ∧ 0 ≤ t ∧ t < 2 ^ 40) ∧ Hx = H) ⟨⟨_, _, rfl, by omega, by omega⟩, rfl⟩ (fun i σ Hx _ e => by rw [e.2]; exact hp) ?_ ?_
  · rintro c x σ Hx hc ⟨⟨t, v, rfl, t0, t1⟩, rfl⟩
    obtain ⟨b, hb, rfl⟩ := getI hc
    walk_at "go"
    refine i_I (cmul t0 (by omega) (by omega) (by omega)) ?_
    walk_at "go"
    refine i_I (by omega) ?_
    walk_at "go"
    refine i_I (by omega) ?_
    exact ⟨⟨_, _, rfl, by omega, by omega⟩, rfl⟩
  · rintro σ Hx ⟨⟨t, v, rfl, t0, t1⟩, rfl⟩
    walk_at "go"
    refine i_lsL hp fun l H1 n1 x1 l1 => ?_
    walk_at "go"
    refine i_nwL (by simp) fun l2 H2 n2 x2 l2' => ?_
    refine q l2 H2 (x1.trans x2) ⟨rfl, l, cells, 0, 0, t, 0, l2', ⟨fun e => ?_, x2 _ _ (fun z => z) l1⟩, by omega, by omega, by omega, by omega⟩
    have e : l = l2 := e
    rw [← e, l1] at n2
    cases n2
def sp_take : Sp := sp2 fun x m H Q _ => ∃ M s k, ∃ t : Int, x = .ref s ∧ m = .int t ∧ Sto M H s k ∧ k ≤ 1000000 ∧ t ≤ 2 ^ 64 ∧ ∀ r H', (t < 2 → r = 0) → (2 ≤ t → 0 ≤ r ∧ r < t) → Ext (Is s) H H' → Grow H H' → Sto M H' s (k + 1) → Q (.int r) H'
abbrev s_law_take : Stmt := top 75
abbrev N_law_take : List Str := ["_law_store_here", "_law_many", "_law_cell", "_law_told"]
abbrev P_law_take : List Str := ["_law_store_here", "_law_many"]
theorem sc_law_take : FnScope N_law_take P_law_take (defScope s_law_take) := ⟨rfl, rfl, rfl, by decide +kernel, rfl, by decide +kernel, by decide +kernel⟩
theorem bi_law_take {K : PySem.W.Frag} {f : Addr} {fd : FuncData} (F : FnF K "_law_take" "_law_take" s_law_take [] f fd) : Binds K fd P_law_take [] := FunD.bindsN F fun _ _ _ _ _ _ us hl => match us, hl with | [_, _], _ => rfl
theorem c_law_take (T : Txt W.K W.mg a) (D : DefAt W "_law_take" "_law_take" "_law_take" s_law_take) (c_law_wide : Cal W CX0 2 "_law_wide" P_law_wide sp_lwide) : Cal W CX0 3 "_law_take" P_law_take sp_take := cal_mk D sc_law_take len2 (fun _ _ => bi_law_take) fun f cdv A outer s H vs Q E hr h => by
  obtain ⟨_, _, rfl, M, s, k, t, rfl, rfl, hs, hk, ht, q⟩ := sp2_of h
  have hs' := hs
  obtain ⟨hM, c, cells, i, r, m, n, h1, h2, h3, h4, h5, h6⟩ := hs'
  refine ⟨_, (pss_cons (ps_if (pt_cmpR op_lt (pv 1) pe_int (by rfl))
  (pss_one (ps_ret pe_int))
  pss_nil)
 (pss_cons (ps_asg (pe_op op_add (pe_ix ix_seq (pv 0) pe_int (fun _ _ => rfl)) pe_int) (pg_sub (pv 0) pe_int set_list))
 (pss_cut (ps_if (PW.pt (pw_and (pt_cmpR op_eq (pe_ix ix_seq (pv 0) pe_int (fun _ _ => rfl)) pe_int (by rfl)) (pw_and1 (pt_cmpR op_lt (pe_ix ix_seq (pv 0) pe_int (fun _ _ => rfl)) (pe_callB call_len_seq rfl T.len PySem.boot_len (pa_cons (pe_ix ix_seq (pv 0) pe_int (fun _ _ => rfl)) pa_nil)) (by rfl)))))
  (pss_cons (ps_set (i := 2) sc_law_take.nd rfl (by first | exact Or.inl rfl | exact Or.inr rfl) (pe_callTy call_int1 rfl T.int (by decide +kernel) (pa_cons (pe_ix ix_seq (pe_ix ix_seq (pv 0) pe_int (fun _ _ => rfl)) (pe_ix ix_seq (pv 0) pe_int (fun _ _ => rfl)) (fun _ _ => rfl)) pa_nil)))
 (pss_cons (ps_asg (pe_op op_add (pe_ix ix_seq (pv 0) pe_int (fun _ _ => rfl)) pe_int) (pg_sub (pv 0) pe_int set_list))
 (pss_cons (ps_if (pt_cmpR op_lt (pv 2) (pe_op op_pow pe_int pe_int) (by rfl))
  (pss_one (ps_ret (pe_cal c_law_wide hr (by omega) pass0 rfl (pa_cons (pv 2) (pa_cons (pe_ix ix_seq (pv 0) pe_int (fun _ _ => rfl)) (pa_cons (pv 1) pa_nil))))))
  pss_nil)
 (pss_one (ps_asg (pv 2) (pg_sub (pv 0) pe_int set_list))))))
  pss_nil)
 (pss_cons (ps_if (pt_cmpR op_gt (pe_ix ix_seq (pv 0) pe_int (fun _ _ => rfl)) pe_int (by rfl))
  (pss_cons (ps_set (i := 3) sc_law_take.nd rfl (by first | exact Or.inl rfl | exact Or.inr rfl) (pe_op op_mod (pe_callTy call_int1 rfl T.int (by decide +kernel) (pa_cons (pe_ix ix_seq (pv 0) pe_int (fun _ _ => rfl)) pa_nil)) (pv 1)))
 (pss_cons (ps_asg (pe_op op_fdivW (pe_callTy call_int1 rfl T.int (by decide +kernel) (pa_cons (pe_ix ix_seq (pv 0) pe_int (fun _ _ => rfl)) pa_nil)) (pv 1)) (pg_sub (pv 0) pe_int set_list))
 (pss_one (ps_ret (pv 3)))))
  pss_nil)
 (pss_one (ps_ret (pe_cal c_law_wide hr (by omega) pass0 rfl (pa_cons (pe_ix ix_seq (pv 0) pe_int (fun _ _ => rfl)) (pa_cons (pe_ix ix_seq (pv 0) pe_int (fun _ _ => rfl)) (pa_cons (pv 1) pa_nil)))))))))), ?_⟩
  walk_at "go"
  refine i_dec (fun e => ?_) (fun e => ?_)
  · walk_at "go"
    exact q 0 H (fun _ => rfl) (fun e => by omega) (Ext.refl _ _) (Grow.refl _) (hs.le (by omega))
  walk_at "go"
  refine .inl (i_ixL (At.raw h1) (i := 4) rfl ?_)
  walk_at "go"
  refine i_setL h1 rfl fun H1 x1 g1 s1 => ?_
  have c1 := h2.ext (x1.is hM)
  have s1 : H1 s = some (.lst [.ref c, .int i, .int r, .int m, .int (n + 1)]) := s1
  refine i_cut (fun σ' H' => (∃ v3 v4, σ' = [some (.ref s), some (.int t), v3, v4]) ∧ Ext (Is s) H H' ∧ Grow H H' ∧ ∃ i' r', 0 ≤ i' ∧ 0 ≤ r' ∧ H' s = some (.lst [.ref c, .int i', .int r', .int m, .int (n + 1)])) ?_ ?_
  · walk_at "go"
    refine .inl (i_ixL (At.raw s1) (i := 2) rfl ?_)
    walk_at "go"
    refine i_dec (fun e1 => ?_) (fun e1 => ?_)
    · walk_at "go"
      refine .inl (i_ixL (At.raw s1) (i := 1) rfl ?_)
      walk_at "go"
      refine .inl (i_ixL (At.raw s1) (i := 0) rfl ?_)
      walk_at "go"
      refine i_lnL (SqL.of c1.2) ?_
      walk_at "go"
      refine i_dec (fun e2 => ?_) (fun e2 => ?_)
      · walk_at "go"
        refine .inl (i_ixL (At.raw s1) (i := 0) rfl ?_)
        walk_at "go"
        refine .inl (i_ixL (At.raw s1) (i := 1) rfl ?_)
        walk_at "go"
        obtain ⟨i0, rfl⟩ := Int.eq_ofNat_of_zero_le h3
        have hi0 : i0 < cells.length := by simpa using e2
        refine .inl (i_ixL c1 (v := .int cells[i0]) (atI_nat (by simp [hi0])) ?_)
        walk_at "go"
        refine .inl (i_ixL (At.raw s1) (i := 1) rfl ?_)
        walk_at "go"
        refine i_setL s1 rfl fun H2 x2 g2 s2 => ?_
        have s2 : H2 s = some (.lst [.ref c, .int ((i0 : Int) + 1), .int r, .int m, .int (n + 1)]) := s2
        walk_at "go"
        refine i_I ⟨by omega, by omega, by decide⟩ ?_
        walk_at "go"
        refine i_dec (fun e3 => ?_) (fun e3 => ?_)
        · walk_at "go"
          refine .inl (i_ixL (At.raw s2) (i := 4) rfl ?_)
          walk_at "go"
          refine ⟨_, _, _, rfl, rfl, rfl, by omega, by omega, by omega, ht, fun r' r0 r1 => ?_⟩
          exact q r' H2 (fun e => by omega) (fun _ => ⟨r0, r1⟩) (x1.trans x2) (g1.trans g2) ⟨hM, c, cells, _, _, _, _, s2, c1.ext (x2.is hM), by omega, h4, by omega, by omega⟩
        · walk_at "go"
          refine i_setL s2 rfl fun H3 x3 g3 s3 => ?_
          have e4 : ¬ cells[i0] < 10 ^ 18 := e3
          exact ⟨⟨_, _, rfl⟩, (x1.trans x2).trans x3, (g1.trans g2).trans g3, _, _, by omega, by omega, s3⟩
      · walk_at "go"
        exact ⟨⟨_, _, rfl⟩, x1, g1, i, r, h3, h4, s1⟩
    · walk_at "go"
      exact ⟨⟨_, _, rfl⟩, x1, g1, i, r, h3, h4, s1⟩
  · rintro σ' H' ⟨⟨_, _, rfl⟩, x2, g2, i', r', i0, r0, s2⟩
    have c2 := h2.ext (x2.is hM)
    walk_at "go"
    refine .inl (i_ixL (At.raw s2) (i := 2) rfl ?_)
    walk_at "go"
    refine i_dec (fun e1 => ?_) (fun e1 => ?_)
    · walk_at "go"
      refine .inl (i_ixL (At.raw s2) (i := 2) rfl ?_)
      walk_at "go"
      refine i_I (by omega) ?_
      walk_at "go"
      refine .inl (i_ixL (At.raw s2) (i := 2) rfl ?_)
      walk_at "go"
      refine i_I (cdiv (by omega) (by omega)) ?_
      walk_at "go"
      refine i_setL s2 rfl fun H3 x3 g3 s3 => ?_
      walk_at "go"
      exact q _ H3 (fun e => by omega) (fun _ => ⟨Int.emod_nonneg _ (by omega), Int.emod_lt_of_pos _ (by omega)⟩) (x2.trans x3) (g2.trans g3) ⟨hM, c, cells, _, _, _, _, s3, c2.ext (x3.is hM), i0, Int.ediv_nonneg r0 (by omega), by omega, by omega⟩
    · walk_at "go"
      refine .inl (i_ixL (At.raw s2) (i := 3) rfl ?_)
      walk_at "go"
      refine .inl (i_ixL (At.raw s2) (i := 4) rfl ?_)
      walk_at "go"
      refine ⟨_, _, _, rfl, rfl, rfl, by omega, by omega, by omega, ht, fun r' r0' r1 => ?_⟩
      exact q r' H' (fun e => by omega) (fun _ => ⟨r0', r1⟩) x2 g2 ⟨hM, c, cells, _, _, _, _, s2, c2, i0, r0, by omega, by omega⟩
end Bs
set_option Elab.async false
set_option linter.all false
set_option maxRecDepth 100000
set_option maxHeartbeats 400000
namespace Bs
open PySem PySem.Spec PyProof.Rows L2 SX
open C8 (pe_gc pss_cut)
local macro_rules | `(tactic| walk_at "xt") => `(tactic| first | assumption | exact Ext.weak (by assumption) | exact Ext.is (by assumption) (by assumption) | exact Ext.plus (by assumption) | exact Ext.plus (Ext.weak (by assumption)) | exact Ext.plus (Ext.is (by assumption) (by assumption)) | exact Ext.set plus_self)
local macro_rules | `(tactic| walk_at "gr") => `(tactic| first | assumption | exact Ext.grow (by assumption) | exact Grow.upd)
local macro_rules | `(tactic| walk_at "mo") => `(tactic| first | assumption | exact MOk.zero | ((first | refine MOk.grow ?_ (by walk_at "gr") | exact MOk.upd (by walk_at "mo")); walk_at "mo") | exact MOk.plus (by walk_at "mo") (by assumption))
local macro_rules | `(tactic| walk_at "hp") => `(tactic| first
  | assumption | exact At.raw (by assumption)
  | exact At.mk' (by walk_at "mo") (by assumption) (by assumption)
  | ((first | refine At.ext (by walk_at "xt") ?_ | refine Rp.ext (by walk_at "xt") ?_ | refine RpA.ext (by walk_at "xt") ?_ | refine Tb.ext (by walk_at "xt") ?_); walk_at "hp")
  | ((first | refine At.plus (by assumption) ?_ | refine Rp.plus (by assumption) ?_ | refine RpA.plus (by assumption) ?_ | refine Tb.plus (by assumption) ?_); walk_at "hp"))
local macro_rules | `(tactic| walk_at "at") => `(tactic| first | assumption | exact At.get (M := N0) (by walk_at "hp"))
local macro_rules | `(tactic| walk_at "sq") => `(tactic| first | exact SqL.of (by walk_at "at") | exact SqT.of (by walk_at "at"))
local macro_rules | `(tactic| walk_at "st") => `(tactic| with_reducible first
  | refine i_seq ?_ | refine i_asg ?_ | refine i_ret ?_ | refine i_retN ?_ | refine i_drop ?_ | refine i_ifS ?_ | refine i_next ?_ | refine i_brk ?_
  | refine i_gname ?_ | refine i_gsub ?_ | refine i_c ?_ | refine i_op ?_ | refine i_un ?_ | refine i_I0 ?_ | refine i_U ?_ | refine i_isN ?_ | refine i_notN ?_
  | refine i_test ?_ | refine i_tB ?_ | refine i_bl ?_ | refine i_and ?_ | refine i_or ?_ | refine i_not ?_ | refine i_andV ?_ | refine i_orV ?_ | refine i_notV ?_ | refine i_ifE ?_
  | refine i_nil ?_ | refine i_cons ?_ | refine i_for ?_ | refine i_iL ?_ | refine i_iT ?_ | refine i_iR ?_ | refine i_lc ?_ | refine i_prp ?_ | refine i_mk ?_ | refine i_sS ?_ | refine i_sN ?_ | refine i_nsS ?_ | refine i_nsN ?_ | refine i_fld ?_ | refine i_sf ?_ | refine i_inO ?_ | refine i_lsO ?_ | refine i_tpO ?_ | refine i_lnO ?_ | refine i_cb ?_ | refine i_call ?_ | refine i_tup ?_ | refine i_lst ?_ | refine i_dnew ?_ | refine i_inI ?_ | refine i_inB ?_ | refine i_rgX ?_ | refine i_lrO ?_ | refine i_rg1 ?_ | refine i_nF ?_ | refine i_nT ?_ | refine i_tt ?_ | refine i_ff ?_ | refine i_ifT ?_ | refine i_ifF ?_
  | refine i_eqI ?_ | refine i_eqS ?_ | refine i_eqB ?_ | refine i_neI ?_ | refine i_neS ?_ | refine i_dR ?_ | refine i_dI ?_ | refine i_dT ?_ | refine i_dS ?_ | refine i_dN ?_ | refine i_nR ?_ | refine i_nI ?_ | refine i_nN ?_
  | (refine i_var (by with_unfolding_all rfl) ?_) | refine i_eq rfl ?_ | refine i_ne rfl ?_)
local macro_rules | `(tactic| walk_at "sc") => `(tactic| first | exact (Rp.int (M := N0) _) | exact (Rp.str (M := N0) _) | exact (Rp.bl (M := N0) _) | exact (Rp.non (M := N0)) | assumption | exact Rp.tab (by assumption) | exact Tb.rp (by assumption))
local macro_rules | `(tactic| walk_at "sd") => `(tactic| simp only [d_Bool_non, d_Bool_bl, d_Bool_int, d_Bool_str, d_Bool_lst, d_Bool_tup, d_Bool_tab, d_Bool_dic, d_Int_non, d_Int_bl, d_Int_int, d_Int_str, d_Int_lst, d_Int_tup, d_Int_tab, d_Int_dic, d_Str_non, d_Str_bl, d_Str_int, d_Str_str, d_Str_lst, d_Str_tup, d_Str_tab, d_Str_dic, d_List_non, d_List_bl, d_List_int, d_List_str, d_List_lst, d_List_tup, d_List_tab, d_List_dic, d_Tup_non, d_Tup_bl, d_Tup_int, d_Tup_str, d_Tup_lst, d_Tup_tup, d_Tup_tab, d_Tup_dic, d_Tab_non, d_Tab_bl, d_Tab_int, d_Tab_str, d_Tab_lst, d_Tab_tup, d_Tab_tab, d_Tab_dic, Bool.not_true, Bool.not_false, Bool.true_or, Bool.false_or, Bool.or_true, Bool.or_false, Bool.and_true, Bool.true_and, Bool.and_false, Bool.false_and, if_true, if_false, Bool.false_eq_true])
local macro_rules | `(tactic| walk_at "isi") => `(tactic| ((first | with_reducible apply i_isB | with_reducible apply i_isI | with_reducible apply i_isS | with_reducible apply i_isL | with_reducible apply i_isT | with_reducible apply i_isTab); (focus assumption); (focus walk_at "sc"); try simp only [d_Bool_non, d_Bool_bl, d_Bool_int, d_Bool_str, d_Bool_lst, d_Bool_tup, d_Bool_tab, d_Bool_dic, d_Int_non, d_Int_bl, d_Int_int, d_Int_str, d_Int_lst, d_Int_tup, d_Int_tab, d_Int_dic, d_Str_non, d_Str_bl, d_Str_int, d_Str_str, d_Str_lst, d_Str_tup, d_Str_tab, d_Str_dic, d_List_non, d_List_bl, d_List_int, d_List_str, d_List_lst, d_List_tup, d_List_tab, d_List_dic, d_Tup_non, d_Tup_bl, d_Tup_int, d_Tup_str, d_Tup_lst, d_Tup_tup, d_Tup_tab, d_Tup_dic, d_Tab_non, d_Tab_bl, d_Tab_int, d_Tab_str, d_Tab_lst, d_Tab_tup, d_Tab_tab, d_Tab_dic]))
local macro_rules | `(tactic| walk_at "om") => `(tactic| first | ((with_reducible refine i_decF ?_ ?_); (focus omega)) | ((with_reducible refine i_decT ?_ ?_); (focus omega)) | ((with_reducible refine i_ndecF ?_ ?_); (focus omega)) | ((with_reducible refine i_ndecT ?_ ?_); (focus omega)))
local macro_rules | `(tactic| walk_at "go") => `(tactic| ((repeat (first | walk_at "st" | walk_at "isi" | walk_at "om")); try dsimp only [List.set]))
variable {W : Wd} {a : Ad}
/-! L2: near, pick. -/
theorem len3' {P : V → V → V → Hp → VK → XK → Prop} {x y z : Str} (vs : List V) (H : Hp) (Q : VK) (E : XK) (h : sp3 P vs H Q E) : vs.length = [x, y, z].length := len3 vs H Q E h
def sp_near : Sp := sp3 fun x l h H Q _ => ∃ M s k, ∃ i j : Int, x = .ref s ∧ l = .int i ∧ h = .int j ∧ Sto M H s k ∧ k + 2 ≤ 1000000 ∧ i ≤ j ∧ j < i + 2 ^ 60 ∧ ∀ r H', i ≤ r → r ≤ j → Ext (Is s) H H' → Grow H H' → Sto M H' s (k + 2) → Q (.int r) H'
abbrev s_law_near : Stmt := top 76
abbrev N_law_near : List Str := ["_law_store_here", "_law_low", "_law_high", "_law_kind"]
abbrev P_law_near : List Str := ["_law_store_here", "_law_low", "_law_high"]
theorem sc_law_near : FnScope N_law_near P_law_near (defScope s_law_near) := ⟨rfl, rfl, rfl, by decide +kernel, rfl, by decide +kernel, by decide +kernel⟩
theorem bi_law_near {K : PySem.W.Frag} {f : Addr} {fd : FuncData} (F : FnF K "_law_near" "_law_near" s_law_near [] f fd) : Binds K fd P_law_near [] := FunD.bindsN F fun _ _ _ _ _ _ us hl => match us, hl with | [_, _, _], _ => rfl
theorem c_law_near (T : Txt W.K W.mg a) (D : DefAt W "_law_near" "_law_near" "_law_near" s_law_near) (c_law_take : Cal W CX0 3 "_law_take" P_law_take sp_take) : Cal W CX0 4 "_law_near" P_law_near sp_near := cal_mk D sc_law_near len3 (fun _ _ => bi_law_near) fun f cdv A outer s H vs Q E hr h => by
  obtain ⟨_, _, _, rfl, M, s, k, i, j, rfl, rfl, rfl, hs, hk, hij, hj, q⟩ := sp3_of h
  refine ⟨_, (pss_cons (ps_set (i := 3) sc_law_near.nd rfl (by first | exact Or.inl rfl | exact Or.inr rfl) (pe_cal c_law_take hr (by omega) pass0 rfl (pa_cons (pv 0) (pa_cons pe_int pa_nil))))
 (pss_cons (ps_if (pt_cmpR op_lt (pv 3) pe_int (by rfl))
  (pss_one (ps_ret (pe_ix ix_seq (pe_lst (pa_cons (pv 1) (pa_cons (pv 2) (pa_cons (pe_callB (call_min2 rfl) rfl T.min (by decide +kernel) (pa_cons (pe_op op_add (pv 1) pe_int) (pa_cons (pv 2) pa_nil))) (pa_cons (pe_callB (call_max2 rfl) rfl T.max (by decide +kernel) (pa_cons (pe_op op_sub (pv 2) pe_int) (pa_cons (pv 1) pa_nil))) pa_nil))))) (pv 3) (fun _ _ => rfl))))
  pss_nil)
 (pss_one (ps_ret (pe_op op_add (pv 1) (pe_cal c_law_take hr (by omega) pass0 rfl (pa_cons (pv 0) (pa_cons (pe_op op_add (pe_op op_sub (pv 2) (pv 1)) pe_int) pa_nil)))))))), ?_⟩
  walk_at "go"
  refine ⟨M, s, k, 12, rfl, rfl, hs, by omega, by omega, fun r H1 _ r1 x1 g1 s1 => ?_⟩
  have r1 := r1 (by omega)
  walk_at "go"
  refine i_dec (fun e => ?_) (fun e => ?_)
  · walk_at "go"
    refine ⟨_, _, rfl, ?_⟩
    walk_at "go"
    refine ⟨_, _, rfl, ?_⟩
    walk_at "go"
    refine i_nwL (by simp) fun p H2 n2 x2 p2 => ?_
    walk_at "go"
    have fin : ∀ z, i ≤ z → z ≤ j → Q (.int z) H2 := fun z a b => q z H2 a b (x1.trans x2.weak) (g1.trans x2.grow) ((s1.ext x2).le (by omega))
    have h4 : r = 0 ∨ r = 1 ∨ r = 2 ∨ r = 3 := by omega
    rcases h4 with rfl | rfl | rfl | rfl
    · exact .inl (i_ixL (At.raw p2) rfl (fin _ (by omega) (by omega)))
    · exact .inl (i_ixL (At.raw p2) rfl (fin _ (by omega) (by omega)))
    · exact .inl (i_ixL (At.raw p2) rfl (fin _ (by split <;> omega) (by split <;> omega)))
    · exact .inl (i_ixL (At.raw p2) rfl (fin _ (by split <;> omega) (by split <;> omega)))
  · walk_at "go"
    refine ⟨M, s, k + 1, _, rfl, rfl, s1, by omega, by omega, fun r' H2 r2 r3 x2 g2 s2 => ?_⟩
    walk_at "go"
    by_cases h2 : j - i + 1 < 2
    · rw [r2 h2]
      exact q _ H2 (by omega) (by omega) (x1.trans x2) (g1.trans g2) s2
    · have r3 := r3 (by omega)
      exact q _ H2 (by omega) (by omega) (x1.trans x2) (g1.trans g2) s2
def sp_pick : Sp := sp2 fun x l H Q _ => ∃ M s k p xs, x = .ref s ∧ l = .ref p ∧ At M H p (.lst xs) ∧ xs ≠ [] ∧ xs.length ≤ 100000 ∧ Sto M H s k ∧ k + 1 ≤ 1000000 ∧ ∀ (i : Nat) v H', xs[i]? = some v → Ext (Is s) H H' → Grow H H' → Sto M H' s (k + 1) → Q v H'
abbrev s_law_pick : Stmt := top 77
abbrev N_law_pick : List Str := ["_law_store_here", "_law_row"]
abbrev P_law_pick : List Str := ["_law_store_here", "_law_row"]
theorem sc_law_pick : FnScope N_law_pick P_law_pick (defScope s_law_pick) := ⟨rfl, rfl, rfl, by decide +kernel, rfl, by decide +kernel, by decide +kernel⟩
theorem bi_law_pick {K : PySem.W.Frag} {f : Addr} {fd : FuncData} (F : FnF K "_law_pick" "_law_pick" s_law_pick [] f fd) : Binds K fd P_law_pick [] := FunD.bindsN F fun _ _ _ _ _ _ us hl => match us, hl with | [_, _], _ => rfl
theorem c_law_pick (T : Txt W.K W.mg a) (D : DefAt W "_law_pick" "_law_pick" "_law_pick" s_law_pick) (c_law_take : Cal W CX0 3 "_law_take" P_law_take sp_take) : Cal W CX0 4 "_law_pick" P_law_pick sp_pick := cal_mk D sc_law_pick len2 (fun _ _ => bi_law_pick) fun f cdv A outer s H vs Q E hr h => by
  obtain ⟨_, _, rfl, M, s, k, p, xs, rfl, rfl, hp, hn, hl, hs, hk, q⟩ := sp2_of h
  refine ⟨_, (pss_one (ps_ret (pe_ix ix_seq (pv 1) (pe_cal c_law_take hr (by omega) pass0 rfl (pa_cons (pv 0) (pa_cons (pe_callB call_len_seq rfl T.len PySem.boot_len (pa_cons (pv 1) pa_nil)) pa_nil))) (fun _ _ => rfl)))), ?_⟩
  walk_at "go"
  refine i_lnL (SqL.of hp.2) ?_
  walk_at "go"
  have hpos : 0 < xs.length := List.length_pos_iff.mpr hn
  refine ⟨M, s, k, _, rfl, rfl, hs, by omega, by omega, fun r H1 r1 r2 x1 g1 s1 => ?_⟩
  have hr : 0 ≤ r ∧ r < xs.length := by
    by_cases h : (xs.length : Int) < 2
    · rw [r1 h]; omega
    · exact r2 (by omega)
  walk_at "go"
  have hi : r.toNat < xs.length := by omega
  have hp1 := hp.ext (x1.is hs.mem)
  refine .inl (i_ixL hp1 (atI_of hr.1 (List.getElem?_eq_getElem hi)) ?_)
  exact q _ _ _ (List.getElem?_eq_getElem hi) x1 g1 s1
abbrev s_law_is_integer : Stmt := top 78
abbrev N_law_is_integer : List Str := ["_law_given"]
abbrev P_law_is_integer : List Str := ["_law_given"]
theorem sc_law_is_integer : FnScope N_law_is_integer P_law_is_integer (defScope s_law_is_integer) := ⟨rfl, rfl, rfl, by decide +kernel, rfl, by decide +kernel, by decide +kernel⟩
theorem bi_law_is_integer {K : PySem.W.Frag} {f : Addr} {fd : FuncData} (F : FnF K "_law_is_integer" "_law_is_integer" s_law_is_integer [] f fd) : Binds K fd P_law_is_integer [] := FunD.bindsN F fun _ _ _ _ _ _ us hl => match us, hl with | [_], _ => rfl
theorem c_law_is_integer (T : Txt W.K W.mg a) (D : DefAt W "_law_is_integer" "_law_is_integer" "_law_is_integer" s_law_is_integer) : Cal W CX0 1 "_law_is_integer" P_law_is_integer (sp_plain a.ct) := cal_mk D sc_law_is_integer len1 (fun _ _ => bi_law_is_integer) fun f cdv A outer s H vs Q E hr h => by
  obtain ⟨x, rfl, M, d, hd, q⟩ := sp1_of h
  refine ⟨_, (pss_one (ps_ret (pe_and (pe_callB call_isi rfl T.isinstance (by decide +kernel) (pa_cons (pv 0) (pa_cons (pe_bltn (v := .ty "int") rfl T.int (by decide +kernel) rfl) pa_nil))) (pe_one (pe_not (pe_callB call_isi rfl T.isinstance (by decide +kernel) (pa_cons (pv 0) (pa_cons (pe_bltn (v := .ty "bool") rfl T.bool (by decide +kernel) rfl) pa_nil)))))))), ?_⟩
  walk_at "go"
  refine i_bool (fun e => ?_) (fun e => ?_)
  · walk_at "go"
    rw [e] at q
    exact q
  · rw [e] at q
    exact q
end Bs
set_option Elab.async false
set_option linter.all false
set_option maxRecDepth 100000
set_option maxHeartbeats 400000
namespace Bs
open PySem PySem.Spec PyProof.Rows L2 SX
open C8 (pe_gc pss_cut)
local macro_rules | `(tactic| walk_at "xt") => `(tactic| first | assumption | exact Ext.weak (by assumption) | exact Ext.is (by assumption) (by assumption) | exact Ext.plus (by assumption) | exact Ext.plus (Ext.weak (by assumption)) | exact Ext.plus (Ext.is (by assumption) (by assumption)) | exact Ext.set plus_self)
local macro_rules | `(tactic| walk_at "gr") => `(tactic| first | assumption | exact Ext.grow (by assumption) | exact Grow.upd)
local macro_rules | `(tactic| walk_at "mo") => `(tactic| first | assumption | exact MOk.zero | ((first | refine MOk.grow ?_ (by walk_at "gr") | exact MOk.upd (by walk_at "mo")); walk_at "mo") | exact MOk.plus (by walk_at "mo") (by assumption))
local macro_rules | `(tactic| walk_at "hp") => `(tactic| first
  | assumption | exact At.raw (by assumption)
  | exact At.mk' (by walk_at "mo") (by assumption) (by assumption)
  | ((first | refine At.ext (by walk_at "xt") ?_ | refine Rp.ext (by walk_at "xt") ?_ | refine RpA.ext (by walk_at "xt") ?_ | refine Tb.ext (by walk_at "xt") ?_); walk_at "hp")
  | ((first | refine At.plus (by assumption) ?_ | refine Rp.plus (by assumption) ?_ | refine RpA.plus (by assumption) ?_ | refine Tb.plus (by assumption) ?_); walk_at "hp"))
local macro_rules | `(tactic| walk_at "at") => `(tactic| first | assumption | exact At.get (M := N0) (by walk_at "hp"))
local macro_rules | `(tactic| walk_at "sq") => `(tactic| first | exact SqL.of (by walk_at "at") | exact SqT.of (by walk_at "at"))
local macro_rules | `(tactic| walk_at "st") => `(tactic| with_reducible first
  | refine i_seq ?_ | refine i_asg ?_ | refine i_ret ?_ | refine i_retN ?_ | refine i_drop ?_ | refine i_ifS ?_ | refine i_next ?_ | refine i_brk ?_
  | refine i_gname ?_ | refine i_gsub ?_ | refine i_c ?_ | refine i_op ?_ | refine i_un ?_ | refine i_I0 ?_ | refine i_U ?_ | refine i_isN ?_ | refine i_notN ?_
  | refine i_test ?_ | refine i_tB ?_ | refine i_bl ?_ | refine i_and ?_ | refine i_or ?_ | refine i_not ?_ | refine i_andV ?_ | refine i_orV ?_ | refine i_notV ?_ | refine i_ifE ?_
  | refine i_nil ?_ | refine i_cons ?_ | refine i_for ?_ | refine i_iL ?_ | refine i_iT ?_ | refine i_iR ?_ | refine i_lc ?_ | refine i_prp ?_ | refine i_mk ?_ | refine i_sS ?_ | refine i_sN ?_ | refine i_nsS ?_ | refine i_nsN ?_ | refine i_fld ?_ | refine i_sf ?_ | refine i_inO ?_ | refine i_lsO ?_ | refine i_tpO ?_ | refine i_lnO ?_ | refine i_cb ?_ | refine i_call ?_ | refine i_tup ?_ | refine i_lst ?_ | refine i_dnew ?_ | refine i_inI ?_ | refine i_inB ?_ | refine i_rgX ?_ | refine i_lrO ?_ | refine i_rg1 ?_ | refine i_nF ?_ | refine i_nT ?_ | refine i_tt ?_ | refine i_ff ?_ | refine i_ifT ?_ | refine i_ifF ?_
  | refine i_eqI ?_ | refine i_eqS ?_ | refine i_eqB ?_ | refine i_neI ?_ | refine i_neS ?_ | refine i_dR ?_ | refine i_dI ?_ | refine i_dT ?_ | refine i_dS ?_ | refine i_dN ?_ | refine i_nR ?_ | refine i_nI ?_ | refine i_nN ?_
  | (refine i_var (by with_unfolding_all rfl) ?_) | refine i_eq rfl ?_ | refine i_ne rfl ?_)
local macro_rules | `(tactic| walk_at "sc") => `(tactic| first | exact (Rp.int (M := N0) _) | exact (Rp.str (M := N0) _) | exact (Rp.bl (M := N0) _) | exact (Rp.non (M := N0)) | assumption | exact Rp.tab (by assumption) | exact Tb.rp (by assumption))
local macro_rules | `(tactic| walk_at "sd") => `(tactic| simp only [d_Bool_non, d_Bool_bl, d_Bool_int, d_Bool_str, d_Bool_lst, d_Bool_tup, d_Bool_tab, d_Bool_dic, d_Int_non, d_Int_bl, d_Int_int, d_Int_str, d_Int_lst, d_Int_tup, d_Int_tab, d_Int_dic, d_Str_non, d_Str_bl, d_Str_int, d_Str_str, d_Str_lst, d_Str_tup, d_Str_tab, d_Str_dic, d_List_non, d_List_bl, d_List_int, d_List_str, d_List_lst, d_List_tup, d_List_tab, d_List_dic, d_Tup_non, d_Tup_bl, d_Tup_int, d_Tup_str, d_Tup_lst, d_Tup_tup, d_Tup_tab, d_Tup_dic, d_Tab_non, d_Tab_bl, d_Tab_int, d_Tab_str, d_Tab_lst, d_Tab_tup, d_Tab_tab, d_Tab_dic, Bool.not_true, Bool.not_false, Bool.true_or, Bool.false_or, Bool.or_true, Bool.or_false, Bool.and_true, Bool.true_and, Bool.and_false, Bool.false_and, if_true, if_false, Bool.false_eq_true])
local macro_rules | `(tactic| walk_at "isi") => `(tactic| ((first | with_reducible apply i_isB | with_reducible apply i_isI | with_reducible apply i_isS | with_reducible apply i_isL | with_reducible apply i_isT | with_reducible apply i_isTab); (focus assumption); (focus walk_at "sc"); try simp only [d_Bool_non, d_Bool_bl, d_Bool_int, d_Bool_str, d_Bool_lst, d_Bool_tup, d_Bool_tab, d_Bool_dic, d_Int_non, d_Int_bl, d_Int_int, d_Int_str, d_Int_lst, d_Int_tup, d_Int_tab, d_Int_dic, d_Str_non, d_Str_bl, d_Str_int, d_Str_str, d_Str_lst, d_Str_tup, d_Str_tab, d_Str_dic, d_List_non, d_List_bl, d_List_int, d_List_str, d_List_lst, d_List_tup, d_List_tab, d_List_dic, d_Tup_non, d_Tup_bl, d_Tup_int, d_Tup_str, d_Tup_lst, d_Tup_tup, d_Tup_tab, d_Tup_dic, d_Tab_non, d_Tab_bl, d_Tab_int, d_Tab_str, d_Tab_lst, d_Tab_tup, d_Tab_tab, d_Tab_dic]))
local macro_rules | `(tactic| walk_at "om") => `(tactic| first | ((with_reducible refine i_decF ?_ ?_); (focus omega)) | ((with_reducible refine i_decT ?_ ?_); (focus omega)) | ((with_reducible refine i_ndecF ?_ ?_); (focus omega)) | ((with_reducible refine i_ndecT ?_ ?_); (focus omega)))
local macro_rules | `(tactic| walk_at "go") => `(tactic| ((repeat (first | walk_at "st" | walk_at "isi" | walk_at "om")); try dsimp only [List.set]))
variable {W : Wd} {a : Ad}
/-! L3: the same data, copies. -/
def okD (B : Nat) : Nat → Dt → Bool
  | _, .non => true
  | _, .bl _ => true
  | _, .int _ => true
  | _, .str s => decide (s.length ≤ B) && PyData.strOk s
  | 0, .lst _ => false
  | 0, .tup _ => false
  | n + 1, .lst ds => decide (ds.length ≤ B) && ds.all (okD B n)
  | n + 1, .tup ds => decide (ds.length ≤ B) && ds.all (okD B n)
  | _, .tab => false
  | _, .dic => false
theorem cal_no {W : Wd} {CX : CXT} {x name qual : Str} {st : Stmt} {ps : List Str} {sp : Sp} (D : DefAt W x name qual st) (bi : ∀ f fd, FnF W.K name qual st [] f fd → L2.Binds W.K fd ps []) (no : ∀ vs H Q E, sp vs H Q E → False) : Cal W CX 0 x ps sp :=
  let ⟨f, fd, F, h⟩ := D.ex
  ⟨f, fd, [], ⟨fun vs H Q E h => (no vs H Q E h).elim, fun _ _ _ H _ _ vs Q E _ _ _ _ h => (no vs H Q E h).elim⟩, h, F.kp, bi f fd F, .nil⟩
/-- data of depth below n -/
def okN (B : Nat) : Nat → Dt → Prop
  | 0, _ => False
  | n + 1, d => okD B n d = true
theorem rp_bl {ct : Addr} {M : Mt} {H : Hp} {v : V} {b : Bool} (h : Rp ct M H v (.bl b)) : v = .bl b := by cases h; rfl
def sp_same (ct : Addr) (B n : Nat) : Sp := sp2 fun x y H Q _ => ∃ t d, Rp ct N0 H x t ∧ Rp ct N0 H y d ∧ okN B n d ∧ ∀ b : Bool, (b = true ↔ t = d) → Q (.bl b) H
abbrev s_law_same : Stmt := top 79
abbrev N_law_same : List Str := ["_law_told", "_law_due", "_law_k"]
abbrev P_law_same : List Str := ["_law_told", "_law_due"]
theorem sc_law_same : FnScope N_law_same P_law_same (defScope s_law_same) := ⟨rfl, rfl, rfl, by decide +kernel, rfl, by decide +kernel, by decide +kernel⟩
theorem bi_law_same {K : PySem.W.Frag} {f : Addr} {fd : FuncData} (F : FnF K "_law_same" "_law_same" s_law_same [] f fd) : Binds K fd P_law_same [] := FunD.bindsN F fun _ _ _ _ _ _ us hl => match us, hl with | [_, _], _ => rfl
theorem ok_all {B n : Nat} {ds : List Dt} (h : (decide (ds.length ≤ B) && ds.all (okD B n)) = true) : ds.length ≤ B ∧ ∀ d ∈ ds, okD B n d = true := by
  rw [Bool.and_eq_true] at h
  exact ⟨of_decide_eq_true h.1, fun d hd => List.all_eq_true.mp h.2 d hd⟩
theorem c_law_same (T : Txt W.K W.mg a) (D : DefAt W "_law_same" "_law_same" "_law_same" s_law_same) (B : Nat) (hB : B ≤ 1000) : ∀ n, Cal W CX0 n "_law_same" P_law_same (sp_same a.ct B n)
  | 0 => cal_no D (fun _ _ => bi_law_same) fun vs H Q E h => by
    obtain ⟨_, _, _, t, d, _, _, h, _⟩ := sp2_of h
    exact h
  | n + 1 => by
    have c_law_same := c_law_same T D B hB n
    refine cal_mk D sc_law_same len2 (fun _ _ => bi_law_same) fun f cdv A outer s H vs Q E hr h => ?_
    obtain ⟨x, y, rfl, t, d, hx, hy, ok, q⟩ := sp2_of h
    refine ⟨_, (PSs.nox (pss_cons (ps_if (pt_cmp (pc_isN (pv 1)))
  (pss_one (ps_ret (pe_cmp (pc_isN (pv 0)))))
  pss_nil)
 (pss_cons (ps_if (pt_val (pe_callB call_isi rfl T.isinstance (by decide +kernel) (pa_cons (pv 1) (pa_cons (pe_bltn (v := .ty "bool") rfl T.bool (by decide +kernel) rfl) pa_nil))))
  (pss_one (ps_ret (pe_and (pe_callB call_isi rfl T.isinstance (by decide +kernel) (pa_cons (pv 0) (pa_cons (pe_bltn (v := .ty "bool") rfl T.bool (by decide +kernel) rfl) pa_nil))) (pe_one (pe_cmpR op_eq (pv 0) (pv 1) (by rfl))))))
  pss_nil)
 (pss_cons (ps_if (pt_val (pe_callB call_isi rfl T.isinstance (by decide +kernel) (pa_cons (pv 1) (pa_cons (pe_bltn (v := .ty "int") rfl T.int (by decide +kernel) rfl) pa_nil))))
  (pss_one (ps_ret (pe_and (pe_callB call_isi rfl T.isinstance (by decide +kernel) (pa_cons (pv 0) (pa_cons (pe_bltn (v := .ty "int") rfl T.int (by decide +kernel) rfl) pa_nil))) (pe_and (pe_not (pe_callB call_isi rfl T.isinstance (by decide +kernel) (pa_cons (pv 0) (pa_cons (pe_bltn (v := .ty "bool") rfl T.bool (by decide +kernel) rfl) pa_nil)))) (pe_one (pe_cmpR op_eq (pv 0) (pv 1) (by rfl)))))))
  pss_nil)
 (pss_cons (ps_if (pt_val (pe_callB call_isi rfl T.isinstance (by decide +kernel) (pa_cons (pv 1) (pa_cons (pe_bltn (v := .ty "str") rfl T.str (by decide +kernel) rfl) pa_nil))))
  (pss_one (ps_ret (pe_and (pe_callB call_isi rfl T.isinstance (by decide +kernel) (pa_cons (pv 0) (pa_cons (pe_bltn (v := .ty "str") rfl T.str (by decide +kernel) rfl) pa_nil))) (pe_one (pe_cmpR op_eq (pv 0) (pv 1) (by rfl))))))
  pss_nil)
 (pss_cons (ps_if (PW.pt (pw_and (pt_val (pe_callB call_isi rfl T.isinstance (by decide +kernel) (pa_cons (pv 1) (pa_cons (pe_bltn (v := .ty "list") rfl T.list (by decide +kernel) rfl) pa_nil)))) (pw_and1 (pt_not (pt_val (pe_callB call_isi rfl T.isinstance (by decide +kernel) (pa_cons (pv 0) (pa_cons (pe_bltn (v := .ty "list") rfl T.list (by decide +kernel) rfl) pa_nil))))))))
  (pss_one (ps_ret pe_bl))
  pss_nil)
 (pss_cons (ps_if (PW.pt (pw_and (pt_val (pe_callB call_isi rfl T.isinstance (by decide +kernel) (pa_cons (pv 1) (pa_cons (pe_bltn (v := .ty "tuple") rfl T.tuple (by decide +kernel) rfl) pa_nil)))) (pw_and1 (pt_not (pt_val (pe_callB call_isi rfl T.isinstance (by decide +kernel) (pa_cons (pv 0) (pa_cons (pe_bltn (v := .ty "tuple") rfl T.tuple (by decide +kernel) rfl) pa_nil))))))))
  (pss_one (ps_ret pe_bl))
  pss_nil)
 (pss_cons (ps_if (pt_cmpR op_ne (pe_callB call_len_seq rfl T.len PySem.boot_len (pa_cons (pv 0) pa_nil)) (pe_callB call_len_seq rfl T.len PySem.boot_len (pa_cons (pv 1) pa_nil)) (by rfl))
  (pss_one (ps_ret pe_bl))
  pss_nil)
 (pss_cons (ps_for PassesOwn.never rfl (pi_range1 (by rfl) T.range (pa_cons (pe_callB call_len_seq rfl T.len PySem.boot_len (pa_cons (pv 1) pa_nil)) pa_nil)) (pg_name (i := 2) sc_law_same.nd rfl (by first | exact Or.inl rfl | exact Or.inr rfl))
  (pss_one (ps_if (pt_not (pt_val (pe_cal c_law_same hr (by omega) pass0 rfl (pa_cons (pe_ix ix_seq (pv 0) (pv 2) (fun _ _ => rfl)) (pa_cons (pe_ix ix_seq (pv 1) (pv 2) (fun _ _ => rfl)) pa_nil)))))
  (pss_one (ps_ret pe_bl))
  pss_nil)))
 (pss_one (ps_ret pe_bl))))))))))), ?_⟩
    cases d with
    | non =>
      cases hy
      walk_at "go"
      refine q _ ?_
      cases hx <;> simp
    | bl b =>
      cases hy
      walk_at "go"
      cases hx with
      | bl b' =>
        walk_at "sd"
        walk_at "go"
        refine q _ ?_
        simp
      | _ =>
        walk_at "sd"
        walk_at "go"
        refine q _ ?_
        simp
    | int i =>
      cases hy
      walk_at "go"
      cases hx with
      | int i' =>
        walk_at "sd"
        walk_at "go"
        refine q _ ?_
        simp
      | _ =>
        walk_at "sd"
        walk_at "go"
        refine q _ ?_
        simp
    | str i =>
      cases hy
      walk_at "go"
      cases hx with
      | str i' =>
        walk_at "sd"
        walk_at "go"
        refine q _ ?_
        simp
      | _ =>
        walk_at "sd"
        walk_at "go"
        refine q _ ?_
        simp
    | lst ds =>
      cases n with
      | zero => cases ok
      | succ n0 =>
        obtain ⟨hB1, hok⟩ := ok_all (show (decide (ds.length ≤ B) && ds.all (okD B n0)) = true from ok)
        obtain ⟨p', ys, rfl, hp', hA'⟩ := hy.lstAt
        walk_at "go"
        cases t with
        | lst ts =>
          obtain ⟨p, xs, rfl, hp, hA⟩ := hx.lstAt
          walk_at "sd"
          walk_at "go"
          refine i_lnL (SqL.of hp.2) ?_
          walk_at "go"
          refine i_lnL (SqL.of hp'.2) ?_
          walk_at "go"
          have l1 := hA.length
          have l2 := hA'.length
          refine i_ndec (fun e => ?_) (fun e => ?_)
          · walk_at "go"
            refine q _ ?_
            simp
            intro e2
            subst e2
            omega
          walk_at "go"
          refine i_lnL (SqL.of hp'.2) ?_
          walk_at "go"
          refine f_rg (by omega) (fun i σ Hx => (∃ v, σ = [some (.ref p), some (.ref p'), v]) ∧ Hx = H ∧ ∀ j : Nat, j < i → ts[j]? = ds[j]?) ⟨⟨_, rfl⟩, rfl, fun j hj => by omega⟩ ?_ ?_
          · rintro i σ Hx hi ⟨⟨_, rfl⟩, rfl, hall⟩
            obtain ⟨u, hu⟩ : ∃ u, xs[i]? = some u := ⟨xs[i]'(by omega), List.getElem?_eq_getElem _⟩
            obtain ⟨u', hu'⟩ : ∃ u, ys[i]? = some u := ⟨ys[i]'hi, List.getElem?_eq_getElem _⟩
            obtain ⟨t1, ht1, hr1⟩ := hA.getV hu
            obtain ⟨d1, hd1, hr2⟩ := hA'.getV hu'
            walk_at "go"
            refine .inl (i_ixL hp (atI_nat hu) ?_)
            walk_at "go"
            refine .inl (i_ixL hp' (atI_nat hu') ?_)
            walk_at "go"
            refine ⟨t1, d1, hr1, hr2, hok d1 (List.mem_of_getElem? hd1), fun b hb => ?_⟩
            walk_at "go"
            cases b with
            | true =>
              walk_at "go"
              have e3 : t1 = d1 := hb.mp rfl
              refine ⟨⟨_, rfl⟩, rfl, fun j hj => ?_⟩
              by_cases h : j = i
              · rw [h, ht1, hd1, e3]
              · exact hall j (by omega)
            | false =>
              walk_at "go"
              refine q _ ?_
              have e3 : t1 ≠ d1 := fun z => by
                have := hb.mpr z
                cases this
              simp
              intro e2
              subst e2
              rw [ht1] at hd1
              exact e3 (Option.some.inj hd1)
          · rintro σ Hx ⟨⟨_, rfl⟩, rfl, hall⟩
            walk_at "go"
            refine q _ ?_
            have : ts = ds := List.ext_getElem? fun j => by
              by_cases h : j < ys.length
              · exact hall j h
              · rw [List.getElem?_eq_none (by omega), List.getElem?_eq_none (by omega)]
            simp [this]
        | _ =>
          walk_at "sd"
          walk_at "go"
          refine q _ ?_
          simp
    | tup ds =>
      cases n with
      | zero => cases ok
      | succ n0 =>
        obtain ⟨hB1, hok⟩ := ok_all (show (decide (ds.length ≤ B) && ds.all (okD B n0)) = true from ok)
        obtain ⟨p', ys, rfl, hp', hA'⟩ := hy.tupAt
        walk_at "go"
        cases t with
        | tup ts =>
          obtain ⟨p, xs, rfl, hp, hA⟩ := hx.tupAt
          walk_at "sd"
          walk_at "go"
          refine i_lnT (SqT.of hp.2) ?_
          walk_at "go"
          refine i_lnT (SqT.of hp'.2) ?_
          walk_at "go"
          have l1 := hA.length
          have l2 := hA'.length
          refine i_ndec (fun e => ?_) (fun e => ?_)
          · walk_at "go"
            refine q _ ?_
            simp
            intro e2
            subst e2
            omega
          walk_at "go"
          refine i_lnT (SqT.of hp'.2) ?_
          walk_at "go"
          refine f_rg (by omega) (fun i σ Hx => (∃ v, σ = [some (.ref p), some (.ref p'), v]) ∧ Hx = H ∧ ∀ j : Nat, j < i → ts[j]? = ds[j]?) ⟨⟨_, rfl⟩, rfl, fun j hj => by omega⟩ ?_ ?_
          · rintro i σ Hx hi ⟨⟨_, rfl⟩, rfl, hall⟩
            obtain ⟨u, hu⟩ : ∃ u, xs[i]? = some u := ⟨xs[i]'(by omega), List.getElem?_eq_getElem _⟩
            obtain ⟨u', hu'⟩ : ∃ u, ys[i]? = some u := ⟨ys[i]'hi, List.getElem?_eq_getElem _⟩
            obtain ⟨t1, ht1, hr1⟩ := hA.getV hu
            obtain ⟨d1, hd1, hr2⟩ := hA'.getV hu'
            walk_at "go"
            refine .inr (.inl (i_ixT hp (atI_nat hu) ?_))
            walk_at "go"
            refine .inr (.inl (i_ixT hp' (atI_nat hu') ?_))
            walk_at "go"
            refine ⟨t1, d1, hr1, hr2, hok d1 (List.mem_of_getElem? hd1), fun b hb => ?_⟩
            walk_at "go"
            cases b with
            | true =>
              walk_at "go"
              have e3 : t1 = d1 := hb.mp rfl
              refine ⟨⟨_, rfl⟩, rfl, fun j hj => ?_⟩
              by_cases h : j = i
              · rw [h, ht1, hd1, e3]
              · exact hall j (by omega)
            | false =>
              walk_at "go"
              refine q _ ?_
              have e3 : t1 ≠ d1 := fun z => by
                have := hb.mpr z
                cases this
              simp
              intro e2
              subst e2
              rw [ht1] at hd1
              exact e3 (Option.some.inj hd1)
          · rintro σ Hx ⟨⟨_, rfl⟩, rfl, hall⟩
            walk_at "go"
            refine q _ ?_
            have : ts = ds := List.ext_getElem? fun j => by
              by_cases h : j < ys.length
              · exact hall j h
              · rw [List.getElem?_eq_none (by omega), List.getElem?_eq_none (by omega)]
            simp [this]
        | _ =>
          walk_at "sd"
          walk_at "go"
          refine q _ ?_
          simp
    | _ => cases n <;> cases ok
end Bs
set_option Elab.async false
set_option linter.all false
set_option maxRecDepth 100000
set_option maxHeartbeats 400000
namespace Bs
open PySem PySem.Spec PyProof.Rows L2 SX
open C8 (pe_gc pss_cut)
local macro_rules | `(tactic| walk_at "xt") => `(tactic| first | assumption | exact Ext.weak (by assumption) | exact Ext.is (by assumption) (by assumption) | exact Ext.plus (by assumption) | exact Ext.plus (Ext.weak (by assumption)) | exact Ext.plus (Ext.is (by assumption) (by assumption)) | exact Ext.set plus_self)
local macro_rules | `(tactic| walk_at "gr") => `(tactic| first | assumption | exact Ext.grow (by assumption) | exact Grow.upd)
local macro_rules | `(tactic| walk_at "mo") => `(tactic| first | assumption | exact MOk.zero | ((first | refine MOk.grow ?_ (by walk_at "gr") | exact MOk.upd (by walk_at "mo")); walk_at "mo") | exact MOk.plus (by walk_at "mo") (by assumption))
local macro_rules | `(tactic| walk_at "hp") => `(tactic| first
  | assumption | exact At.raw (by assumption)
  | exact At.mk' (by walk_at "mo") (by assumption) (by assumption)
  | ((first | refine At.ext (by walk_at "xt") ?_ | refine Rp.ext (by walk_at "xt") ?_ | refine RpA.ext (by walk_at "xt") ?_ | refine Tb.ext (by walk_at "xt") ?_); walk_at "hp")
  | ((first | refine At.plus (by assumption) ?_ | refine Rp.plus (by assumption) ?_ | refine RpA.plus (by assumption) ?_ | refine Tb.plus (by assumption) ?_); walk_at "hp"))
local macro_rules | `(tactic| walk_at "at") => `(tactic| first | assumption | exact At.get (M := N0) (by walk_at "hp"))
local macro_rules | `(tactic| walk_at "sq") => `(tactic| first | exact SqL.of (by walk_at "at") | exact SqT.of (by walk_at "at"))
local macro_rules | `(tactic| walk_at "st") => `(tactic| with_reducible first
  | refine i_seq ?_ | refine i_asg ?_ | refine i_ret ?_ | refine i_retN ?_ | refine i_drop ?_ | refine i_ifS ?_ | refine i_next ?_ | refine i_brk ?_
  | refine i_gname ?_ | refine i_gsub ?_ | refine i_c ?_ | refine i_op ?_ | refine i_un ?_ | refine i_I0 ?_ | refine i_U ?_ | refine i_isN ?_ | refine i_notN ?_
  | refine i_test ?_ | refine i_tB ?_ | refine i_bl ?_ | refine i_and ?_ | refine i_or ?_ | refine i_not ?_ | refine i_andV ?_ | refine i_orV ?_ | refine i_notV ?_ | refine i_ifE ?_
  | refine i_nil ?_ | refine i_cons ?_ | refine i_for ?_ | refine i_iL ?_ | refine i_iT ?_ | refine i_iR ?_ | refine i_lc ?_ | refine i_prp ?_ | refine i_mk ?_ | refine i_sS ?_ | refine i_sN ?_ | refine i_nsS ?_ | refine i_nsN ?_ | refine i_fld ?_ | refine i_sf ?_ | refine i_inO ?_ | refine i_lsO ?_ | refine i_tpO ?_ | refine i_lnO ?_ | refine i_cb ?_ | refine i_call ?_ | refine i_tup ?_ | refine i_lst ?_ | refine i_dnew ?_ | refine i_inI ?_ | refine i_inB ?_ | refine i_rgX ?_ | refine i_lrO ?_ | refine i_rg1 ?_ | refine i_nF ?_ | refine i_nT ?_ | refine i_tt ?_ | refine i_ff ?_ | refine i_ifT ?_ | refine i_ifF ?_
  | refine i_eqI ?_ | refine i_eqS ?_ | refine i_eqB ?_ | refine i_neI ?_ | refine i_neS ?_ | refine i_dR ?_ | refine i_dI ?_ | refine i_dT ?_ | refine i_dS ?_ | refine i_dN ?_ | refine i_nR ?_ | refine i_nI ?_ | refine i_nN ?_
  | (refine i_var (by with_unfolding_all rfl) ?_) | refine i_eq rfl ?_ | refine i_ne rfl ?_)
local macro_rules | `(tactic| walk_at "sc") => `(tactic| first | exact (Rp.int (M := N0) _) | exact (Rp.str (M := N0) _) | exact (Rp.bl (M := N0) _) | exact (Rp.non (M := N0)) | assumption | exact Rp.tab (by assumption) | exact Tb.rp (by assumption))
local macro_rules | `(tactic| walk_at "sd") => `(tactic| simp only [d_Bool_non, d_Bool_bl, d_Bool_int, d_Bool_str, d_Bool_lst, d_Bool_tup, d_Bool_tab, d_Bool_dic, d_Int_non, d_Int_bl, d_Int_int, d_Int_str, d_Int_lst, d_Int_tup, d_Int_tab, d_Int_dic, d_Str_non, d_Str_bl, d_Str_int, d_Str_str, d_Str_lst, d_Str_tup, d_Str_tab, d_Str_dic, d_List_non, d_List_bl, d_List_int, d_List_str, d_List_lst, d_List_tup, d_List_tab, d_List_dic, d_Tup_non, d_Tup_bl, d_Tup_int, d_Tup_str, d_Tup_lst, d_Tup_tup, d_Tup_tab, d_Tup_dic, d_Tab_non, d_Tab_bl, d_Tab_int, d_Tab_str, d_Tab_lst, d_Tab_tup, d_Tab_tab, d_Tab_dic, Bool.not_true, Bool.not_false, Bool.true_or, Bool.false_or, Bool.or_true, Bool.or_false, Bool.and_true, Bool.true_and, Bool.and_false, Bool.false_and, if_true, if_false, Bool.false_eq_true])
local macro_rules | `(tactic| walk_at "isi") => `(tactic| ((first | with_reducible apply i_isB | with_reducible apply i_isI | with_reducible apply i_isS | with_reducible apply i_isL | with_reducible apply i_isT | with_reducible apply i_isTab); (focus assumption); (focus walk_at "sc"); try simp only [d_Bool_non, d_Bool_bl, d_Bool_int, d_Bool_str, d_Bool_lst, d_Bool_tup, d_Bool_tab, d_Bool_dic, d_Int_non, d_Int_bl, d_Int_int, d_Int_str, d_Int_lst, d_Int_tup, d_Int_tab, d_Int_dic, d_Str_non, d_Str_bl, d_Str_int, d_Str_str, d_Str_lst, d_Str_tup, d_Str_tab, d_Str_dic, d_List_non, d_List_bl, d_List_int, d_List_str, d_List_lst, d_List_tup, d_List_tab, d_List_dic, d_Tup_non, d_Tup_bl, d_Tup_int, d_Tup_str, d_Tup_lst, d_Tup_tup, d_Tup_tab, d_Tup_dic, d_Tab_non, d_Tab_bl, d_Tab_int, d_Tab_str, d_Tab_lst, d_Tab_tup, d_Tab_tab, d_Tab_dic]))
local macro_rules | `(tactic| walk_at "om") => `(tactic| first | ((with_reducible refine i_decF ?_ ?_); (focus omega)) | ((with_reducible refine i_decT ?_ ?_); (focus omega)) | ((with_reducible refine i_ndecF ?_ ?_); (focus omega)) | ((with_reducible refine i_ndecT ?_ ?_); (focus omega)))
local macro_rules | `(tactic| walk_at "go") => `(tactic| ((repeat (first | walk_at "st" | walk_at "isi" | walk_at "om")); try dsimp only [List.set]))
variable {W : Wd} {a : Ad}
/-! L4: copies. -/
theorem MOk.onto {M : Mt} {H H' : Hp} {D : Addr} (m : MOk M H) (x : Ext (Plus N0 D) H H') (n : H D = none) (d : H' D ≠ none) : MOk (Plus M D) H' := fun b z e => by
  rcases z with z | z
  · cases q : H b with
    | none => exact m b z q
    | some o =>
      have : ¬ Plus N0 D b := fun y => y.elim (fun y => y) fun y => by rw [y, n] at q; cases q
      rw [x b o this q] at e; cases e
  · rw [z] at e; exact d e
def sp_copy (ct : Addr) (B n : Nat) : Sp := sp1 fun x H Q _ => ∃ d, Rp ct N0 H x d ∧ okN B n d ∧ ∀ r H', Ext N0 H H' → (∀ M, MOk M H → Rp ct M H' r d) → Q r H'
abbrev s_law_copy : Stmt := top 80
abbrev N_law_copy : List Str := ["_law_given", "_law_item"]
abbrev P_law_copy : List Str := ["_law_given"]
theorem sc_law_copy : FnScope N_law_copy P_law_copy (defScope s_law_copy) := ⟨rfl, rfl, rfl, by decide +kernel, rfl, by decide +kernel, by decide +kernel⟩
theorem bi_law_copy {K : PySem.W.Frag} {f : Addr} {fd : FuncData} (F : FnF K "_law_copy" "_law_copy" s_law_copy [] f fd) : Binds K fd P_law_copy [] := FunD.bindsN F fun _ _ _ _ _ _ us hl => match us, hl with | [_], _ => rfl
theorem c_law_copy (T : Txt W.K W.mg a) (D : DefAt W "_law_copy" "_law_copy" "_law_copy" s_law_copy) (B : Nat) (hB : B ≤ 1000) : ∀ n, Cal W CX0 n "_law_copy" P_law_copy (sp_copy a.ct B n)
  | 0 => cal_no D (fun _ _ => bi_law_copy) fun vs H Q E h => by
    obtain ⟨_, _, d, _, h, _⟩ := sp1_of h
    exact h
  | n + 1 => by
    have c_law_copy := c_law_copy T D B hB n
    refine cal_mk D sc_law_copy len1 (fun _ _ => bi_law_copy) fun f cdv A outer s H vs Q E hr h => ?_
    obtain ⟨x, rfl, d, hx, ok, q⟩ := sp1_of h
    refine ⟨_, (pss_cons (ps_if (pt_val (pe_callB call_isi rfl T.isinstance (by decide +kernel) (pa_cons (pv 0) (pa_cons (pe_bltn (v := .ty "list") rfl T.list (by decide +kernel) rfl) pa_nil))))
  (pss_one (ps_ret (pe_lc (own := [("_law_item", 1)]) (g := gName 1) (tt := tYes) rfl sc_law_copy.nd (pi_list (pv 0)) (blkOk_by (N := N_law_copy) (sc := defScope s_law_copy) (by decide +kernel)) (fun _ _ _ _ _ => (pg_name (i := 1) sc_law_copy.nd rfl (by first | exact Or.inl rfl | exact Or.inr rfl))) (fun _ _ _ _ _ => pts_nil) (fun _ _ _ _ _ => (pe_cal c_law_copy hr (by omega) pass0 rfl (pa_cons (pv 1) pa_nil))))))
  pss_nil)
 (pss_cons (ps_if (pt_val (pe_callB call_isi rfl T.isinstance (by decide +kernel) (pa_cons (pv 0) (pa_cons (pe_bltn (v := .ty "tuple") rfl T.tuple (by decide +kernel) rfl) pa_nil))))
  (pss_one (ps_ret (pe_callTy call_tuple_of rfl T.tuple (by decide +kernel) (pa_cons (pe_lc (own := [("_law_item", 1)]) (g := gName 1) (tt := tYes) rfl sc_law_copy.nd (pi_tup (pv 0)) (blkOk_by (N := N_law_copy) (sc := defScope s_law_copy) (by decide +kernel)) (fun _ _ _ _ _ => (pg_name (i := 1) sc_law_copy.nd rfl (by first | exact Or.inl rfl | exact Or.inr rfl))) (fun _ _ _ _ _ => pts_nil) (fun _ _ _ _ _ => (pe_cal c_law_copy hr (by omega) pass0 rfl (pa_cons (pv 1) pa_nil)))) pa_nil))))
  pss_nil)
 (pss_one (ps_ret (pv 0))))), ?_⟩
    cases d with
    | lst ds =>
      cases n with
      | zero => cases ok
      | succ n0 =>
        obtain ⟨hB1, hok⟩ := ok_all (show (decide (ds.length ≤ B) && ds.all (okD B n0)) = true from ok)
        obtain ⟨p, xs, rfl, hp, hA⟩ := hx.lstAt
        have hl := hA.length
        walk_at "go"
        refine c_list (M := N0) (SqL.of hp.2) MOk.zero (by omega) (fun _ _ _ => True) (fun D j y Hy => ∃ dj, ds[j]? = some dj ∧ ∀ M, MOk M H → Rp a.ct (Plus M D) Hy y dj) fun D nD => ⟨fun i y H H' x ⟨dj, e, r⟩ => ⟨dj, e, fun M hM => (r M hM).ext (x.of fun _ z => z.elim (fun z => z.elim) .inr)⟩, fun _ _ _ _ e => e, trivial, fun _ H1 x _ => SqL.of ((hp.plus nD).ext x).2, ?_, ?_⟩
        · intro j v H1 N N' hv x1 m1 _ nx
          obtain ⟨dj, hdj, hrj⟩ := ((hA.plus nD).ext x1).getV hv
          walk_at "go"
          refine i_yes rfl ?_
          walk_at "go"
          refine ⟨dj, hrj.zero, hok dj (List.mem_of_getElem? hdj), fun r H2 x2 hr2 => ?_⟩
          exact nx r H2 x2 MOk.zero ⟨dj, hdj, fun M hM => hr2 _ (hM.onto x1 nD (m1 D plus_self))⟩ trivial
        · intro acc H1 hl1 hr1 hd1 x1 _ _
          refine q _ H1 x1 fun M hM => .lst ⟨fun z => hM D z nD, hd1⟩ (rpA_of (by omega) fun i v hv => ?_)
          obtain ⟨dj, e, r⟩ := hr1 i v hv
          exact ⟨dj, e, (r M hM).of fun _ z => .inl z⟩
    | tup ds =>
      cases n with
      | zero => cases ok
      | succ n0 =>
        obtain ⟨hB1, hok⟩ := ok_all (show (decide (ds.length ≤ B) && ds.all (okD B n0)) = true from ok)
        obtain ⟨p, xs, rfl, hp, hA⟩ := hx.tupAt
        have hl := hA.length
        walk_at "go"
        refine c_tup (M := N0) (SqT.of hp.2) MOk.zero (by omega) (fun _ _ _ => True) (fun D j y Hy => ∃ dj, ds[j]? = some dj ∧ ∀ M, MOk M H → Rp a.ct (Plus M D) Hy y dj) fun D nD => ⟨fun i y H H' x ⟨dj, e, r⟩ => ⟨dj, e, fun M hM => (r M hM).ext (x.of fun _ z => z.elim (fun z => z.elim) .inr)⟩, fun _ _ _ _ e => e, trivial, fun _ H1 x _ => SqT.of ((hp.plus nD).ext x).2, ?_, ?_⟩
        · intro j v H1 N N' hv x1 m1 _ nx
          obtain ⟨dj, hdj, hrj⟩ := ((hA.plus nD).ext x1).getV hv
          walk_at "go"
          refine i_yes rfl ?_
          walk_at "go"
          refine ⟨dj, hrj.zero, hok dj (List.mem_of_getElem? hdj), fun r H2 x2 hr2 => ?_⟩
          exact nx r H2 x2 MOk.zero ⟨dj, hdj, fun M hM => hr2 _ (hM.onto x1 nD (m1 D plus_self))⟩ trivial
        · intro acc H1 hl1 hr1 hd1 x1 _ _
          walk_at "go"
          refine i_tpL (SqL.of hd1) fun u H2 n2 x2 u2 => ?_
          refine q _ H2 (x1.trans x2) fun M hM => .tup (At.mk' (hM.grow x1.grow) n2 u2) (rpA_of (by omega) fun i v hv => ?_)
          obtain ⟨dj, e, r⟩ := hr1 i v hv
          exact ⟨dj, e, ((r M hM).of fun _ z => .inl z).ext x2.weak⟩
    | tab => cases n <;> cases ok
    | dic => cases n <;> cases ok
    | _ =>
      walk_at "go"
      refine q _ H (Ext.refl _ _) fun M hM => ?_
      cases hx; constructor
end Bs
set_option Elab.async false
set_option linter.all false
set_option maxRecDepth 100000
set_option maxHeartbeats 400000
namespace Bs
open PySem PySem.Spec PyProof.Rows L2 SX
open C8 (pe_gc pss_cut)
local macro_rules | `(tactic| walk_at "xt") => `(tactic| first | assumption | exact Ext.weak (by assumption) | exact Ext.is (by assumption) (by assumption) | exact Ext.plus (by assumption) | exact Ext.plus (Ext.weak (by assumption)) | exact Ext.plus (Ext.is (by assumption) (by assumption)) | exact Ext.set plus_self)
local macro_rules | `(tactic| walk_at "gr") => `(tactic| first | assumption | exact Ext.grow (by assumption) | exact Grow.upd)
local macro_rules | `(tactic| walk_at "mo") => `(tactic| first | assumption | exact MOk.zero | ((first | refine MOk.grow ?_ (by walk_at "gr") | exact MOk.upd (by walk_at "mo")); walk_at "mo") | exact MOk.plus (by walk_at "mo") (by assumption))
local macro_rules | `(tactic| walk_at "hp") => `(tactic| first
  | assumption | exact At.raw (by assumption)
  | exact At.mk' (by walk_at "mo") (by assumption) (by assumption)
  | ((first | refine At.ext (by walk_at "xt") ?_ | refine Rp.ext (by walk_at "xt") ?_ | refine RpA.ext (by walk_at "xt") ?_ | refine Tb.ext (by walk_at "xt") ?_); walk_at "hp")
  | ((first | refine At.plus (by assumption) ?_ | refine Rp.plus (by assumption) ?_ | refine RpA.plus (by assumption) ?_ | refine Tb.plus (by assumption) ?_); walk_at "hp"))
local macro_rules | `(tactic| walk_at "at") => `(tactic| first | assumption | exact At.get (M := N0) (by walk_at "hp"))
local macro_rules | `(tactic| walk_at "sq") => `(tactic| first | exact SqL.of (by walk_at "at") | exact SqT.of (by walk_at "at"))
local macro_rules | `(tactic| walk_at "st") => `(tactic| with_reducible first
  | refine i_seq ?_ | refine i_asg ?_ | refine i_ret ?_ | refine i_retN ?_ | refine i_drop ?_ | refine i_ifS ?_ | refine i_next ?_ | refine i_brk ?_
  | refine i_gname ?_ | refine i_gsub ?_ | refine i_c ?_ | refine i_op ?_ | refine i_un ?_ | refine i_I0 ?_ | refine i_U ?_ | refine i_isN ?_ | refine i_notN ?_
  | refine i_test ?_ | refine i_tB ?_ | refine i_bl ?_ | refine i_and ?_ | refine i_or ?_ | refine i_not ?_ | refine i_andV ?_ | refine i_orV ?_ | refine i_notV ?_ | refine i_ifE ?_
  | refine i_nil ?_ | refine i_cons ?_ | refine i_for ?_ | refine i_iL ?_ | refine i_iT ?_ | refine i_iR ?_ | refine i_lc ?_ | refine i_prp ?_ | refine i_mk ?_ | refine i_sS ?_ | refine i_sN ?_ | refine i_nsS ?_ | refine i_nsN ?_ | refine i_fld ?_ | refine i_sf ?_ | refine i_inO ?_ | refine i_lsO ?_ | refine i_tpO ?_ | refine i_lnO ?_ | refine i_cb ?_ | refine i_call ?_ | refine i_tup ?_ | refine i_lst ?_ | refine i_dnew ?_ | refine i_inI ?_ | refine i_inB ?_ | refine i_rgX ?_ | refine i_lrO ?_ | refine i_rg1 ?_ | refine i_nF ?_ | refine i_nT ?_ | refine i_tt ?_ | refine i_ff ?_ | refine i_ifT ?_ | refine i_ifF ?_
  | refine i_eqI ?_ | refine i_eqS ?_ | refine i_eqB ?_ | refine i_neI ?_ | refine i_neS ?_ | refine i_dR ?_ | refine i_dI ?_ | refine i_dT ?_ | refine i_dS ?_ | refine i_dN ?_ | refine i_nR ?_ | refine i_nI ?_ | refine i_nN ?_
  | (refine i_var (by with_unfolding_all rfl) ?_) | refine i_eq rfl ?_ | refine i_ne rfl ?_)
local macro_rules | `(tactic| walk_at "sc") => `(tactic| first | exact (Rp.int (M := N0) _) | exact (Rp.str (M := N0) _) | exact (Rp.bl (M := N0) _) | exact (Rp.non (M := N0)) | assumption | exact Rp.tab (by assumption) | exact Tb.rp (by assumption))
local macro_rules | `(tactic| walk_at "sd") => `(tactic| simp only [d_Bool_non, d_Bool_bl, d_Bool_int, d_Bool_str, d_Bool_lst, d_Bool_tup, d_Bool_tab, d_Bool_dic, d_Int_non, d_Int_bl, d_Int_int, d_Int_str, d_Int_lst, d_Int_tup, d_Int_tab, d_Int_dic, d_Str_non, d_Str_bl, d_Str_int, d_Str_str, d_Str_lst, d_Str_tup, d_Str_tab, d_Str_dic, d_List_non, d_List_bl, d_List_int, d_List_str, d_List_lst, d_List_tup, d_List_tab, d_List_dic, d_Tup_non, d_Tup_bl, d_Tup_int, d_Tup_str, d_Tup_lst, d_Tup_tup, d_Tup_tab, d_Tup_dic, d_Tab_non, d_Tab_bl, d_Tab_int, d_Tab_str, d_Tab_lst, d_Tab_tup, d_Tab_tab, d_Tab_dic, Bool.not_true, Bool.not_false, Bool.true_or, Bool.false_or, Bool.or_true, Bool.or_false, Bool.and_true, Bool.true_and, Bool.and_false, Bool.false_and, if_true, if_false, Bool.false_eq_true])
local macro_rules | `(tactic| walk_at "isi") => `(tactic| ((first | with_reducible apply i_isB | with_reducible apply i_isI | with_reducible apply i_isS | with_reducible apply i_isL | with_reducible apply i_isT | with_reducible apply i_isTab); (focus assumption); (focus walk_at "sc"); try simp only [d_Bool_non, d_Bool_bl, d_Bool_int, d_Bool_str, d_Bool_lst, d_Bool_tup, d_Bool_tab, d_Bool_dic, d_Int_non, d_Int_bl, d_Int_int, d_Int_str, d_Int_lst, d_Int_tup, d_Int_tab, d_Int_dic, d_Str_non, d_Str_bl, d_Str_int, d_Str_str, d_Str_lst, d_Str_tup, d_Str_tab, d_Str_dic, d_List_non, d_List_bl, d_List_int, d_List_str, d_List_lst, d_List_tup, d_List_tab, d_List_dic, d_Tup_non, d_Tup_bl, d_Tup_int, d_Tup_str, d_Tup_lst, d_Tup_tup, d_Tup_tab, d_Tup_dic, d_Tab_non, d_Tab_bl, d_Tab_int, d_Tab_str, d_Tab_lst, d_Tab_tup, d_Tab_tab, d_Tab_dic]))
local macro_rules | `(tactic| walk_at "om") => `(tactic| first | ((with_reducible refine i_decF ?_ ?_); (focus omega)) | ((with_reducible refine i_decT ?_ ?_); (focus omega)) | ((with_reducible refine i_ndecF ?_ ?_); (focus omega)) | ((with_reducible refine i_ndecT ?_ ?_); (focus omega)))
local macro_rules | `(tactic| walk_at "go") => `(tactic| ((repeat (first | walk_at "st" | walk_at "isi" | walk_at "om")); try dsimp only [List.set]))
variable {W : Wd} {a : Ad}
/-! L5: what is given is spoilt. -/
def scal1 : Dt → Bool
  | .lst _ => false
  | .tup _ => false
  | _ => true
def LS (ct : Addr) (c : Nat) (H : Hp) (l : Addr) : Prop := ∃ xs ds, H l = some (.lst xs) ∧ RpA ct N0 H xs ds ∧ (∀ d ∈ ds, okD 1000 0 d = true) ∧ xs.length ≤ c
def sp_spoil0 (ct : Addr) : Sp := sp1 fun x H Q _ => ∃ d, Rp ct N0 H x d ∧ okD 1000 0 d = true ∧ ∀ H', Ext N0 H H' → Q .non H'
theorem ok0_list {d : Dt} (h : okD 1000 0 d = true) : d.isList = false ∧ d.isTup = false := by
  cases d with
  | lst ds => cases h
  | tup ds => cases h
  | _ => exact ⟨rfl, rfl⟩
theorem RpA.sc {ct : Addr} {M : Mt} {H H' : Hp} : ∀ {ds : List Dt} {xs : List V}, (∀ d ∈ ds, okD 1000 0 d = true) → RpA ct M H xs ds → RpA ct N0 H' xs ds
  | [], _, _, h => by cases h; exact .nil
  | d :: ds, _, k, h => by
    cases h with
    | cons h1 h2 =>
      refine .cons ?_ (RpA.sc (fun d hd => k d (List.mem_cons_of_mem _ hd)) h2)
      have := k d List.mem_cons_self
      cases h1 with
      | non => exact .non
      | bl b => exact .bl b
      | int b => exact .int b
      | str b => exact .str b
      | _ => cases this
abbrev s_law_spoil : Stmt := top 81
abbrev N_law_spoil : List Str := ["_law_given", "_law_item"]
abbrev P_law_spoil : List Str := ["_law_given"]
theorem sc_law_spoil : FnScope N_law_spoil P_law_spoil (defScope s_law_spoil) := ⟨rfl, rfl, rfl, by decide +kernel, rfl, by decide +kernel, by decide +kernel⟩
theorem bi_law_spoil {K : PySem.W.Frag} {f : Addr} {fd : FuncData} (F : FnF K "_law_spoil" "_law_spoil" s_law_spoil [] f fd) : Binds K fd P_law_spoil [] := FunD.bindsN F fun _ _ _ _ _ _ us hl => match us, hl with | [_], _ => rfl
theorem c_law_spoil0 (T : Txt W.K W.mg a) (D : DefAt W "_law_spoil" "_law_spoil" "_law_spoil" s_law_spoil) : Cal W CX0 1 "_law_spoil" P_law_spoil (sp_spoil0 a.ct) := by
  have c_law_spoil : Cal W CX0 0 "_law_spoil" P_law_spoil (fun _ _ _ _ => False) := cal_no D (fun _ _ => bi_law_spoil) fun _ _ _ _ h => h
  refine cal_mk D sc_law_spoil len1 (fun _ _ => bi_law_spoil) fun f cdv A outer s H vs Q E hr h => ?_
  obtain ⟨x, rfl, d, hx, ok, q⟩ := sp1_of h
  obtain ⟨e1, e2⟩ := ok0_list ok
  refine ⟨_, (PSs.nox (pss_cons (ps_if (pt_val (pe_callB call_isiT rfl T.isinstance (by decide +kernel) (pa_cons (pv 0) (pa_cons (pe_tup (pa_cons (pe_bltn (v := .ty "list") rfl T.list (by decide +kernel) rfl) (pa_cons (pe_bltn (v := .ty "tuple") rfl T.tuple (by decide +kernel) rfl) pa_nil))) pa_nil))))
  (pss_one (ps_for PassesOwn.never rfl (pi_list (pe_callTy call_list_of rfl T.list (by decide +kernel) (pa_cons (pv 0) pa_nil))) (pg_name (i := 1) sc_law_spoil.nd rfl (by first | exact Or.inl rfl | exact Or.inr rfl))
  (pss_one (ps_expr (pe_cal c_law_spoil hr (by omega) pass0 rfl (pa_cons (pv 1) pa_nil))))))
  pss_nil)
 (pss_one (ps_if (pt_val (pe_callB call_isi rfl T.isinstance (by decide +kernel) (pa_cons (pv 0) (pa_cons (pe_bltn (v := .ty "list") rfl T.list (by decide +kernel) rfl) pa_nil))))
  (pss_cons (ps_expr (pe_bm0 PySem.F.plainAttrs_list PySem.F.slot_list_reverse PySem.F.type_list_reverse mt_reverse (pv 0)))
 (pss_cons (ps_expr (pe_bm PySem.F.plainAttrs_list PySem.F.slot_list_append PySem.F.type_list_append mt_append (pv 0) (pa_cons pe_str pa_nil)))
 (pss_one (ps_asg pe_str (pg_sub (pv 0) pe_int set_list)))))
  pss_nil)))), ?_⟩
  walk_at "go"
  refine i_nwT (by simp) fun u H1 n1 x1 u1 => ?_
  walk_at "go"
  have hx1 := hx.ext x1
  refine i_isLT T hx1 u1 ?_
  rw [e1, e2]
  refine ⟨false, rfl, i_ff ?_⟩
  walk_at "go"
  rw [e1]
  walk_at "go"
  exact q _ x1
/-- a list of scalars, or a scalar -/
def sp_spoil1 (ct : Addr) : Sp := sp1 fun x H Q _ => ∃ M c, ((∃ d, Rp ct N0 H x d ∧ okD 1000 0 d = true) ∨ (∃ l, x = .ref l ∧ M l ∧ LS ct c H l)) ∧ c ≤ 500 ∧ MOk M H ∧ ∀ H', Ext M H H' → Grow H H' → (∀ l, M l → LS ct c H l → LS ct (c + 1) H' l) → Q .non H'
theorem LS.ext {ct : Addr} {c : Nat} {H H' : Hp} {l : Addr} (h : LS ct c H l) (x : Ext N0 H H') : LS ct c H' l := let ⟨xs, ds, h1, h2, h3, h4⟩ := h; ⟨xs, ds, x _ _ (fun z => z) h1, h2.sc h3, h3, h4⟩
theorem LS.le {ct : Addr} {c c' : Nat} {H : Hp} {l : Addr} (h : LS ct c H l) (e : c ≤ c') : LS ct c' H l := let ⟨xs, ds, h1, h2, h3, h4⟩ := h; ⟨xs, ds, h1, h2, h3, by omega⟩
theorem c_law_spoil1 (T : Txt W.K W.mg a) (D : DefAt W "_law_spoil" "_law_spoil" "_law_spoil" s_law_spoil) : Cal W CX0 2 "_law_spoil" P_law_spoil (sp_spoil1 a.ct) := by
  have c_law_spoil := c_law_spoil0 T D
  refine cal_mk D sc_law_spoil len1 (fun _ _ => bi_law_spoil) fun f cdv A outer s H vs Q E hr h => ?_
  obtain ⟨x, rfl, M, c, hx, hc, m, q⟩ := sp1_of h
  refine ⟨_, (PSs.nox (pss_cons (ps_if (pt_val (pe_callB call_isiT rfl T.isinstance (by decide +kernel) (pa_cons (pv 0) (pa_cons (pe_tup (pa_cons (pe_bltn (v := .ty "list") rfl T.list (by decide +kernel) rfl) (pa_cons (pe_bltn (v := .ty "tuple") rfl T.tuple (by decide +kernel) rfl) pa_nil))) pa_nil))))
  (pss_one (ps_for PassesOwn.never rfl (pi_list (pe_callTy call_list_of rfl T.list (by decide +kernel) (pa_cons (pv 0) pa_nil))) (pg_name (i := 1) sc_law_spoil.nd rfl (by first | exact Or.inl rfl | exact Or.inr rfl))
  (pss_one (ps_expr (pe_cal c_law_spoil hr (by omega) pass0 rfl (pa_cons (pv 1) pa_nil))))))
  pss_nil)
 (pss_one (ps_if (pt_val (pe_callB call_isi rfl T.isinstance (by decide +kernel) (pa_cons (pv 0) (pa_cons (pe_bltn (v := .ty "list") rfl T.list (by decide +kernel) rfl) pa_nil))))
  (pss_cons (ps_expr (pe_bm0 PySem.F.plainAttrs_list PySem.F.slot_list_reverse PySem.F.type_list_reverse mt_reverse (pv 0)))
 (pss_cons (ps_expr (pe_bm PySem.F.plainAttrs_list PySem.F.slot_list_append PySem.F.type_list_append mt_append (pv 0) (pa_cons pe_str pa_nil)))
 (pss_one (ps_asg pe_str (pg_sub (pv 0) pe_int set_list)))))
  pss_nil)))), ?_⟩
  walk_at "go"
  refine i_nwT (by simp) fun u H1 n1 x1 u1 => ?_
  walk_at "go"
  rcases hx with ⟨d, hx, ok⟩ | ⟨l, rfl, hM, hl⟩
  · obtain ⟨e1, e2⟩ := ok0_list ok
    have hx1 := hx.ext x1
    refine i_isLT T hx1 u1 ?_
    rw [e1, e2]
    refine ⟨false, rfl, i_ff ?_⟩
    walk_at "go"
    rw [e1]
    walk_at "go"
    exact q _ x1.weak x1.grow fun l _ h => (h.ext x1).le (by omega)
  · obtain ⟨xs, ds, h1, h2, h3, h4⟩ := hl.ext x1
    have hx1 : Rp a.ct N0 H1 (.ref l) (.lst ds) := .lst (At.raw h1) h2
    refine i_isLT T hx1 u1 ?_
    walk_at "sd"
    walk_at "go"
    refine i_lsL (SqL.of h1) fun p H2 n2 x2 p2 => ?_
    refine f_list (SqL.of p2) (fun i σ Hx => (∃ v, σ = [some (.ref l), v]) ∧ Ext N0 H2 Hx) ⟨⟨_, rfl⟩, Ext.refl _ _⟩ (fun i σ Hx _ e => SqL.of (e.2 _ _ (fun z => z) p2)) ?_ ?_
    · rintro i v σ Hx hv ⟨⟨_, rfl⟩, x3⟩
      obtain ⟨d, hd, hr1⟩ := h2.getV hv
      walk_at "go"
      refine ⟨d, hr1.ext (x2.trans x3), h3 d (List.mem_of_getElem? hd), fun H3 x4 => ?_⟩
      walk_at "go"
      exact ⟨⟨_, rfl⟩, x3.trans x4⟩
    · rintro σ Hx ⟨⟨_, rfl⟩, x3⟩
      have xx : Ext N0 H1 Hx := x2.trans x3
      have hx2 := hx1.ext xx
      walk_at "go"
      have h5 := xx _ _ (fun z => z) h1
      refine i_bm0 ?_
      walk_at "go"
      refine i_bm0L h5 ?_
      refine i_rev h5 fun H3 x4 g4 h6 => ?_
      walk_at "go"
      refine i_bm ?_
      walk_at "go"
      refine i_bmL h6 ?_
      walk_at "go"
      refine i_app h6 (by simp; omega) fun H4 x5 g5 h7 => ?_
      walk_at "go"
      refine i_setL h7 (j := 0) (by simp [ixN]) fun H5 x6 g6 h8 => ?_
      have y1 : Ext (Is l) Hx H5 := (x4.trans x5).trans x6
      have y2 : Ext M H H5 := ((x1.trans xx).weak).trans (y1.is hM)
      refine q _ y2 (((x1.trans xx).grow.trans g4).trans (g5.trans g6)) fun l' hM' hl' => ?_
      by_cases e : l' = l
      · subst e
        obtain ⟨xs', ds', k1, k2, k3, k4⟩ := hl'.ext x1
        rw [h1] at k1
        cases k1
        refine ⟨_, ((ds'.reverse ++ [Dt.str "spoilt"]).set 0 (.str "spoilt")), h8, ?_, ?_, by simp; omega⟩
        · exact (((k2.sc k3).rev).append (.cons (.str _) .nil)).set 0 (.str _)
        · intro d hd
          rcases List.mem_or_eq_of_mem_set hd with h | h
          · rcases List.mem_append.mp h with h | h
            · exact k3 d (List.mem_reverse.mp h)
            · rw [List.mem_singleton.mp h]; decide +kernel
          · rw [h]; decide +kernel
      · obtain ⟨xs', ds', k1, k2, k3, k4⟩ := (hl'.ext x1).ext xx
        exact ⟨xs', ds', y1 _ _ e k1, k2.sc k3, k3, by omega⟩
/-- a tuple of such -/
def sp_spoil2 (ct : Addr) : Sp := sp1 fun x H Q _ => ∃ M c t xs, x = .ref t ∧ At M H t (.tup xs) ∧ xs.length ≤ 100 ∧ (∀ v ∈ xs, (∃ d, Rp ct N0 H v d ∧ okD 1000 0 d = true) ∨ (∃ l, v = .ref l ∧ M l ∧ LS ct c H l)) ∧ c ≤ 100 ∧ MOk M H ∧ ∀ H', Ext M H H' → Grow H H' → Q .non H'
theorem scal_any {ct : Addr} {M : Mt} {H H' : Hp} {v : V} {d : Dt} (h : Rp ct M H v d) (ok : okD 1000 0 d = true) : Rp ct N0 H' v d := by
  cases h with
  | non => exact .non
  | bl b => exact .bl b
  | int b => exact .int b
  | str b => exact .str b
  | _ => cases ok
theorem c_law_spoil2 (T : Txt W.K W.mg a) (D : DefAt W "_law_spoil" "_law_spoil" "_law_spoil" s_law_spoil) : Cal W CX0 3 "_law_spoil" P_law_spoil (sp_spoil2 a.ct) := by
  have c_law_spoil := c_law_spoil1 T D
  refine cal_mk D sc_law_spoil len1 (fun _ _ => bi_law_spoil) fun f cdv A outer s H vs Q E hr h => ?_
  obtain ⟨x, rfl, M, c, t, xs, rfl, ht, hl, hx, hc, m, q⟩ := sp1_of h
  refine ⟨_, (PSs.nox (pss_cons (ps_if (pt_val (pe_callB call_isiT rfl T.isinstance (by decide +kernel) (pa_cons (pv 0) (pa_cons (pe_tup (pa_cons (pe_bltn (v := .ty "list") rfl T.list (by decide +kernel) rfl) (pa_cons (pe_bltn (v := .ty "tuple") rfl T.tuple (by decide +kernel) rfl) pa_nil))) pa_nil))))
  (pss_one (ps_for PassesOwn.never rfl (pi_list (pe_callTy call_list_of rfl T.list (by decide +kernel) (pa_cons (pv 0) pa_nil))) (pg_name (i := 1) sc_law_spoil.nd rfl (by first | exact Or.inl rfl | exact Or.inr rfl))
  (pss_one (ps_expr (pe_cal c_law_spoil hr (by omega) pass0 rfl (pa_cons (pv 1) pa_nil))))))
  pss_nil)
 (pss_one (ps_if (pt_val (pe_callB call_isi rfl T.isinstance (by decide +kernel) (pa_cons (pv 0) (pa_cons (pe_bltn (v := .ty "list") rfl T.list (by decide +kernel) rfl) pa_nil))))
  (pss_cons (ps_expr (pe_bm0 PySem.F.plainAttrs_list PySem.F.slot_list_reverse PySem.F.type_list_reverse mt_reverse (pv 0)))
 (pss_cons (ps_expr (pe_bm PySem.F.plainAttrs_list PySem.F.slot_list_append PySem.F.type_list_append mt_append (pv 0) (pa_cons pe_str pa_nil)))
 (pss_one (ps_asg pe_str (pg_sub (pv 0) pe_int set_list)))))
  pss_nil)))), ?_⟩
  walk_at "go"
  refine i_nwT (by simp) fun u H1 n1 x1 u1 => ?_
  walk_at "go"
  have ht1 := x1 _ _ (fun z => z) ht.2
  refine ⟨_, _, _, _, [.type "list", .type "tuple"], true, rfl, u1, .cons (.ty _) (.cons (.ty _) .nil), .base (.tup ht1), by rfl, ?_⟩
  walk_at "go"
  refine i_lsT (SqT.of ht1) fun p H2 n2 x2 p2 => ?_
  have m2 : MOk M H2 := (m.grow x1.grow).grow x2.grow
  have hpM : ¬ M p := fun z => m.grow x1.grow p z n2
  refine f_list (SqL.of p2) (fun i σ Hx => (∃ v, σ = [some (.ref t), v]) ∧ Ext M H2 Hx ∧ Grow H2 Hx ∧ ∀ v ∈ xs, (∃ d, Rp a.ct N0 Hx v d ∧ okD 1000 0 d = true) ∨ (∃ l, v = .ref l ∧ M l ∧ LS a.ct (c + i) Hx l)) ⟨⟨_, rfl⟩, Ext.refl _ _, Grow.refl _, fun v hv => (hx v hv).imp (fun ⟨d, r, ok⟩ => ⟨d, scal_any r ok, ok⟩) fun ⟨l, e, hM, r⟩ => ⟨l, e, hM, (r.ext x1).ext x2⟩⟩ (fun i σ Hx _ e => SqL.of (e.2.1 _ _ hpM p2)) ?_ ?_
  · rintro i v σ Hx hv ⟨⟨_, rfl⟩, x3, g3, hall⟩
    have hi := (List.getElem?_eq_some_iff.mp hv).1
    walk_at "go"
    refine ⟨M, c + i, hall v (List.mem_of_getElem? hv), by omega, m2.grow g3, fun H3 x4 g4 k => ?_⟩
    walk_at "go"
    exact ⟨⟨_, rfl⟩, x3.trans x4, g3.trans g4, fun w hw => (hall w hw).imp (fun ⟨d, r, ok⟩ => ⟨d, scal_any r ok, ok⟩) fun ⟨l, e, hM, r⟩ => ⟨l, e, hM, k l hM r⟩⟩
  · rintro σ Hx ⟨⟨_, rfl⟩, x3, g3, hall⟩
    walk_at "go"
    have ht2 : Hx t = some (.tup xs) := (ht.ext (((x1.trans x2).weak).trans x3)).2
    refine ⟨_, _, .type "tuple", .type "list", false, rfl, .ty _, .base (.tup ht2), kit_ty (by decide +kernel), ?_⟩
    walk_at "go"
    exact q _ (((x1.trans x2).weak).trans x3) (((x1.trans x2).grow).trans g3)
end Bs
set_option Elab.async false
set_option linter.all false
set_option maxRecDepth 100000
set_option maxHeartbeats 400000
namespace Bs
open PySem PySem.Spec PyProof.Rows L2 SX
open C8 (pe_gc pss_cut)
local macro_rules | `(tactic| walk_at "xt") => `(tactic| first | assumption | exact Ext.weak (by assumption) | exact Ext.is (by assumption) (by assumption) | exact Ext.plus (by assumption) | exact Ext.plus (Ext.weak (by assumption)) | exact Ext.plus (Ext.is (by assumption) (by assumption)) | exact Ext.set plus_self)
local macro_rules | `(tactic| walk_at "gr") => `(tactic| first | assumption | exact Ext.grow (by assumption) | exact Grow.upd)
local macro_rules | `(tactic| walk_at "mo") => `(tactic| first | assumption | exact MOk.zero | ((first | refine MOk.grow ?_ (by walk_at "gr") | exact MOk.upd (by walk_at "mo")); walk_at "mo") | exact MOk.plus (by walk_at "mo") (by assumption))
local macro_rules | `(tactic| walk_at "hp") => `(tactic| first
  | assumption | exact At.raw (by assumption)
  | exact At.mk' (by walk_at "mo") (by assumption) (by assumption)
  | ((first | refine At.ext (by walk_at "xt") ?_ | refine Rp.ext (by walk_at "xt") ?_ | refine RpA.ext (by walk_at "xt") ?_ | refine Tb.ext (by walk_at "xt") ?_); walk_at "hp")
  | ((first | refine At.plus (by assumption) ?_ | refine Rp.plus (by assumption) ?_ | refine RpA.plus (by assumption) ?_ | refine Tb.plus (by assumption) ?_); walk_at "hp"))
local macro_rules | `(tactic| walk_at "at") => `(tactic| first | assumption | exact At.get (M := N0) (by walk_at "hp"))
local macro_rules | `(tactic| walk_at "sq") => `(tactic| first | exact SqL.of (by walk_at "at") | exact SqT.of (by walk_at "at"))
local macro_rules | `(tactic| walk_at "st") => `(tactic| with_reducible first
  | refine i_seq ?_ | refine i_asg ?_ | refine i_ret ?_ | refine i_retN ?_ | refine i_drop ?_ | refine i_ifS ?_ | refine i_next ?_ | refine i_brk ?_
  | refine i_gname ?_ | refine i_gsub ?_ | refine i_c ?_ | refine i_op ?_ | refine i_un ?_ | refine i_I0 ?_ | refine i_U ?_ | refine i_isN ?_ | refine i_notN ?_
  | refine i_test ?_ | refine i_tB ?_ | refine i_bl ?_ | refine i_and ?_ | refine i_or ?_ | refine i_not ?_ | refine i_andV ?_ | refine i_orV ?_ | refine i_notV ?_ | refine i_ifE ?_
  | refine i_nil ?_ | refine i_cons ?_ | refine i_for ?_ | refine i_iL ?_ | refine i_iT ?_ | refine i_iR ?_ | refine i_lc ?_ | refine i_prp ?_ | refine i_mk ?_ | refine i_sS ?_ | refine i_sN ?_ | refine i_nsS ?_ | refine i_nsN ?_ | refine i_fld ?_ | refine i_sf ?_ | refine i_inO ?_ | refine i_lsO ?_ | refine i_tpO ?_ | refine i_lnO ?_ | refine i_cb ?_ | refine i_call ?_ | refine i_tup ?_ | refine i_lst ?_ | refine i_dnew ?_ | refine i_inI ?_ | refine i_inB ?_ | refine i_rgX ?_ | refine i_lrO ?_ | refine i_rg1 ?_ | refine i_nF ?_ | refine i_nT ?_ | refine i_tt ?_ | refine i_ff ?_ | refine i_ifT ?_ | refine i_ifF ?_
  | refine i_eqI ?_ | refine i_eqS ?_ | refine i_eqB ?_ | refine i_neI ?_ | refine i_neS ?_ | refine i_dR ?_ | refine i_dI ?_ | refine i_dT ?_ | refine i_dS ?_ | refine i_dN ?_ | refine i_nR ?_ | refine i_nI ?_ | refine i_nN ?_
  | (refine i_var (by with_unfolding_all rfl) ?_) | refine i_eq rfl ?_ | refine i_ne rfl ?_)
local macro_rules | `(tactic| walk_at "sc") => `(tactic| first | exact (Rp.int (M := N0) _) | exact (Rp.str (M := N0) _) | exact (Rp.bl (M := N0) _) | exact (Rp.non (M := N0)) | assumption | exact Rp.tab (by assumption) | exact Tb.rp (by assumption))
local macro_rules | `(tactic| walk_at "sd") => `(tactic| simp only [d_Bool_non, d_Bool_bl, d_Bool_int, d_Bool_str, d_Bool_lst, d_Bool_tup, d_Bool_tab, d_Bool_dic, d_Int_non, d_Int_bl, d_Int_int, d_Int_str, d_Int_lst, d_Int_tup, d_Int_tab, d_Int_dic, d_Str_non, d_Str_bl, d_Str_int, d_Str_str, d_Str_lst, d_Str_tup, d_Str_tab, d_Str_dic, d_List_non, d_List_bl, d_List_int, d_List_str, d_List_lst, d_List_tup, d_List_tab, d_List_dic, d_Tup_non, d_Tup_bl, d_Tup_int, d_Tup_str, d_Tup_lst, d_Tup_tup, d_Tup_tab, d_Tup_dic, d_Tab_non, d_Tab_bl, d_Tab_int, d_Tab_str, d_Tab_lst, d_Tab_tup, d_Tab_tab, d_Tab_dic, Bool.not_true, Bool.not_false, Bool.true_or, Bool.false_or, Bool.or_true, Bool.or_false, Bool.and_true, Bool.true_and, Bool.and_false, Bool.false_and, if_true, if_false, Bool.false_eq_true])
local macro_rules | `(tactic| walk_at "isi") => `(tactic| ((first | with_reducible apply i_isB | with_reducible apply i_isI | with_reducible apply i_isS | with_reducible apply i_isL | with_reducible apply i_isT | with_reducible apply i_isTab); (focus assumption); (focus walk_at "sc"); try simp only [d_Bool_non, d_Bool_bl, d_Bool_int, d_Bool_str, d_Bool_lst, d_Bool_tup, d_Bool_tab, d_Bool_dic, d_Int_non, d_Int_bl, d_Int_int, d_Int_str, d_Int_lst, d_Int_tup, d_Int_tab, d_Int_dic, d_Str_non, d_Str_bl, d_Str_int, d_Str_str, d_Str_lst, d_Str_tup, d_Str_tab, d_Str_dic, d_List_non, d_List_bl, d_List_int, d_List_str, d_List_lst, d_List_tup, d_List_tab, d_List_dic, d_Tup_non, d_Tup_bl, d_Tup_int, d_Tup_str, d_Tup_lst, d_Tup_tup, d_Tup_tab, d_Tup_dic, d_Tab_non, d_Tab_bl, d_Tab_int, d_Tab_str, d_Tab_lst, d_Tab_tup, d_Tab_tab, d_Tab_dic]))
local macro_rules | `(tactic| walk_at "om") => `(tactic| first | ((with_reducible refine i_decF ?_ ?_); (focus omega)) | ((with_reducible refine i_decT ?_ ?_); (focus omega)) | ((with_reducible refine i_ndecF ?_ ?_); (focus omega)) | ((with_reducible refine i_ndecT ?_ ?_); (focus omega)))
local macro_rules | `(tactic| walk_at "go") => `(tactic| ((repeat (first | walk_at "st" | walk_at "isi" | walk_at "om")); try dsimp only [List.set]))
variable {W : Wd} {a : Ad}
/-! L6: tables looked at; odd papers; orders. -/
theorem okI (B : Nat) (n : Nat) : ∀ bs : List Int, (bs.map Dt.int).all (okD B n) = true
  | [] => rfl
  | b :: r => by
    rw [List.map_cons, List.all_cons, okI B n r]
    cases n <;> rfl
theorem rpA_int {ct : Addr} {M : Mt} {H : Hp} : ∀ bs : List Int, RpA ct M H (bs.map V.int) (bs.map Dt.int)
  | [] => .nil
  | b :: r => .cons (.int b) (rpA_int r)
def sp_istab (ct : Addr) : Sp := sp3 fun x w y H Q _ => ∃ p n bs q, x = .ref p ∧ w = .int (n : Nat) ∧ y = .ref q ∧ Tb ct N0 H p n bs ∧ H q = some (.lst (bs.map V.int)) ∧ ∀ H', Ext N0 H H' → Q (.bl true) H'
abbrev s_law_is_table : Stmt := top 82
abbrev N_law_is_table : List Str := ["_law_given", "_law_wide_here", "_law_due"]
abbrev P_law_is_table : List Str := ["_law_given", "_law_wide_here", "_law_due"]
theorem sc_law_is_table : FnScope N_law_is_table P_law_is_table (defScope s_law_is_table) := ⟨rfl, rfl, rfl, by decide +kernel, rfl, by decide +kernel, by decide +kernel⟩
theorem bi_law_is_table {K : PySem.W.Frag} {f : Addr} {fd : FuncData} (F : FnF K "_law_is_table" "_law_is_table" s_law_is_table [] f fd) : Binds K fd P_law_is_table [] := FunD.bindsN F fun _ _ _ _ _ _ us hl => match us, hl with | [_, _, _], _ => rfl
theorem c_law_is_table (T : Txt W.K W.mg a) (D : DefAt W "_law_is_table" "_law_is_table" "_law_is_table" s_law_is_table) (c_width : Prp W CX0 1 a.ct "width" P_Table_width (sp_wid a.ct)) (c_bits : Prp W CX0 1 a.ct "bits" P_Table_bits (sp_bits a.ct))
    (c_law_same : Cal W CX0 2 "_law_same" P_law_same (sp_same a.ct 1000 2)) : Cal W CX0 3 "_law_is_table" P_law_is_table (sp_istab a.ct) := cal_mk D sc_law_is_table len3 (fun _ _ => bi_law_is_table) fun f cdv A outer s H vs Q E hr h => by
  obtain ⟨_, _, _, rfl, p, n, bs, r, rfl, rfl, rfl, ht, hq, q⟩ := sp3_of h
  have ok := ht.ok
  have h64 := pow_le6 ok.1
  refine ⟨_, (pss_cons (ps_if (pt_not (pt_val (pe_callB call_isi rfl T.isinstance (by decide +kernel) (pa_cons (pv 0) (pa_cons (pe_gc rfl T.vTable) pa_nil)))))
  (pss_one (ps_ret pe_bl))
  pss_nil)
 (pss_one (ps_ret (pe_and (pe_cal c_law_same hr (by omega) pass0 rfl (pa_cons (pe_prp c_width hr (by omega) (pv 0)) (pa_cons (pv 1) pa_nil))) (pe_one (pe_cal c_law_same hr (by omega) pass0 rfl (pa_cons (pe_prp c_bits hr (by omega) (pv 0)) (pa_cons (pe_callTy call_tuple_of rfl T.tuple (by decide +kernel) (pa_cons (pv 2) pa_nil)) pa_nil)))))))), ?_⟩
  walk_at "go"
  refine i_pwid ht ?_
  walk_at "go"
  refine ⟨.int n, .int n, .int _, .int _, by rfl, fun b hb => ?_⟩
  cases hb.mpr rfl
  walk_at "go"
  refine i_pbits ht fun t ht1 => ?_
  walk_at "go"
  refine i_tpL (SqL.of hq) fun u H1 n1 x1 u1 => ?_
  walk_at "go"
  have hl := ok.2.1
  refine ⟨.tup (bs.map Dt.int), .tup (bs.map Dt.int), .tup (ht1.ext x1) (rpA_int bs), .tup (At.raw u1) (rpA_int bs), ?_, fun b hb => ?_⟩
  · show (decide ((bs.map Dt.int).length ≤ 1000) && (bs.map Dt.int).all (okD 1000 0)) = true
    rw [okI, List.length_map, decide_eq_true (by omega)]
    rfl
  cases hb.mpr rfl
  exact q _ x1
def ffD (fs : List (Str × Str)) : Dt := match fs.find? fun p => !decide (p.2 = ("" : Str)) with
  | some p => .tup [.str p.2, .str p.1]
  | none => .non
def ffR (p : Str × Str) : Dt := .tup [.str p.1, .str p.2]
def sp_ff (ct : Addr) : Sp := sp1 fun x H Q _ => ∃ p xs, ∃ fs : List (Str × Str), x = .ref p ∧ H p = some (.lst xs) ∧ RpA ct N0 H xs (fs.map ffR) ∧ ∀ r H', Ext N0 H H' → Rp ct N0 H' r (ffD fs) → Q r H'
abbrev s_law_first_fault : Stmt := top 83
abbrev N_law_first_fault : List Str := ["_law_pair_row", "_law_item"]
abbrev P_law_first_fault : List Str := ["_law_pair_row"]
theorem sc_law_first_fault : FnScope N_law_first_fault P_law_first_fault (defScope s_law_first_fault) := ⟨rfl, rfl, rfl, by decide +kernel, rfl, by decide +kernel, by decide +kernel⟩
theorem bi_law_first_fault {K : PySem.W.Frag} {f : Addr} {fd : FuncData} (F : FnF K "_law_first_fault" "_law_first_fault" s_law_first_fault [] f fd) : Binds K fd P_law_first_fault [] := FunD.bindsN F fun _ _ _ _ _ _ us hl => match us, hl with | [_], _ => rfl
theorem RpA.strs2 {ct : Addr} {M : Mt} {H : Hp} {xs : List V} {i j : Str} (h : RpA ct M H xs [.str i, .str j]) : xs = [.str i, .str j] := by
  cases h with | cons h1 h2 => cases h2 with | cons h3 h4 => cases h1; cases h3; cases h4; rfl
theorem find_at {α : Type} {p : α → Bool} : ∀ {xs : List α} {i : Nat} {x : α}, xs[i]? = some x → (∀ j y, j < i → xs[j]? = some y → p y = false) → p x = true → xs.find? p = some x
  | [], _, _, h, _, _ => by simp at h
  | y :: ys, 0, x, h, _, e => by
    simp at h; subst h
    rw [List.find?_cons, e]
  | y :: ys, i + 1, x, h, k, e => by
    rw [List.find?_cons, k 0 y (by omega) rfl]
    exact find_at (i := i) (by simpa using h) (fun j z hj hz => k (j + 1) z (by omega) (by simpa using hz)) e
theorem find_no {α : Type} {p : α → Bool} : ∀ {xs : List α}, (∀ j y, j < xs.length → xs[j]? = some y → p y = false) → xs.find? p = none
  | [], _ => rfl
  | y :: ys, k => by
    rw [List.find?_cons, k 0 y (by simp) rfl]
    exact find_no fun j z hj hz => k (j + 1) z (by simpa using hj) (by simpa using hz)
theorem c_law_first_fault (T : Txt W.K W.mg a) (D : DefAt W "_law_first_fault" "_law_first_fault" "_law_first_fault" s_law_first_fault) : Cal W CX0 1 "_law_first_fault" P_law_first_fault (sp_ff a.ct) := cal_mk D sc_law_first_fault len1 (fun _ _ => bi_law_first_fault) fun f cdv A outer s H vs Q E hr h => by
  obtain ⟨_, rfl, p, xs, fs, rfl, hp, hA, q⟩ := sp1_of h
  refine ⟨_, (PSs.nox (pss_cons (ps_for PassesOwn.never rfl (pi_list (pv 0)) (pg_name (i := 1) sc_law_first_fault.nd rfl (by first | exact Or.inl rfl | exact Or.inr rfl))
  (pss_one (ps_if (pt_cmpR op_ne (pe_ix ix_seq (pv 1) pe_int (fun _ _ => rfl)) pe_str (by rfl))
  (pss_one (ps_ret (pe_tup (pa_cons (pe_ix ix_seq (pv 1) pe_int (fun _ _ => rfl)) (pa_cons (pe_ix ix_seq (pv 1) pe_int (fun _ _ => rfl)) pa_nil)))))
  pss_nil)))
 (pss_one (ps_ret pe_non)))), ?_⟩
  walk_at "go"
  refine f_list (SqL.of hp) (fun i σ Hx => (∃ v, σ = [some (.ref p), v]) ∧ Hx = H ∧ ∀ j y, j < i → fs[j]? = some y → (!decide (y.2 = ("" : Str))) = false) ⟨⟨_, rfl⟩, rfl, fun j w hj => by omega⟩ (fun i σ Hx _ e => by rw [e.2.1]; exact SqL.of hp) ?_ ?_
  · rintro i v σ Hx hv ⟨⟨_, rfl⟩, rfl, hno⟩
    obtain ⟨d, hd, hr1⟩ := hA.getV hv
    obtain ⟨fp, hf, rfl⟩ : ∃ b, fs[i]? = some b ∧ d = ffR b := by
      rw [List.getElem?_map] at hd
      cases e : fs[i]? with
      | none => rw [e] at hd; cases hd
      | some b => rw [e] at hd; exact ⟨b, rfl, (Option.some.inj hd).symm⟩
    obtain ⟨t, ys, rfl, ht, hy⟩ := hr1.tupAt
    obtain rfl := hy.strs2
    walk_at "go"
    refine .inr (.inl (i_ixT ht (i := 1) rfl ?_))
    walk_at "go"
    refine i_ndec (fun e => ?_) (fun e => ?_)
    · walk_at "go"
      refine .inr (.inl (i_ixT ht (i := 1) rfl ?_))
      walk_at "go"
      refine .inr (.inl (i_ixT ht (i := 0) rfl ?_))
      walk_at "go"
      refine i_nwT (by simp) fun u H1 n1 x1 u1 => ?_
      refine q _ _ x1 ?_
      have hff : ffD fs = .tup [.str fp.2, .str fp.1] := by
        rw [ffD, find_at hf hno (by simpa using e)]
      rw [hff]
      exact .tup (At.raw u1) (.cons (.str _) (.cons (.str _) .nil))
    · walk_at "go"
      refine ⟨⟨_, rfl⟩, rfl, fun j y hj hy => ?_⟩
      by_cases h : j = i
      · subst h
        rw [hf] at hy
        cases hy
        simpa using e
      · exact hno j y (by omega) hy
  · rintro σ Hx ⟨⟨_, rfl⟩, rfl, hno⟩
    walk_at "go"
    have hl := hA.length
    rw [List.length_map] at hl
    refine q _ _ (Ext.refl _ _) ?_
    have hff : ffD fs = .non := by
      rw [ffD, find_no fun j y hj hy => hno j y (by omega) hy]
    rw [hff]
    exact .non
/-! odd papers -/
def deepD : Nat → Dt
  | 0 => .non
  | n + 1 => .lst [deepD n]
def oddL : List Dt := [.non, .str "", .str "sum", .int (-1), .int (10 ^ 20), .lst [], .lst [.non], .tup [.str "sum"], .tup [.str "break", .int 0], .tup [.str "ring", .non], .tup [.str "sum", .str "1"], deepD 19]
theorem odd_ring {d : Dt} (h : d ∈ oddL) (n : Nat) (b1 b2 b3 : List Int) : isRing n b1 b2 b3 d = false := by
  have e : oddL = [.non, .str "", .str "sum", .int (-1), .int (10 ^ 20), .lst [], .lst [.non], .tup [.str "sum"], .tup [.str "break", .int 0], .tup [.str "ring", .non], .tup [.str "sum", .str "1"], deepD 19] := rfl
  rw [e] at h
  simp only [List.mem_cons, List.not_mem_nil, or_false] at h
  rcases h with rfl | rfl | rfl | rfl | rfl | rfl | rfl | rfl | rfl | rfl | rfl | rfl
  all_goals first | rfl | (simp [isRing, isRs, isR2, ringB]; done) | skip
  all_goals simp [isRing, isRs, isR2, ringB]
  all_goals (intro e; exact absurd e (by decide))
theorem odd_ok {d : Dt} (h : d ∈ oddL) : okD 100 20 d = true := by
  have : oddL.all (okD 100 20) = true := by decide +kernel
  exact List.all_eq_true.mp this d h
def sp_odd (ct : Addr) : Sp := sp1 fun x H Q _ => ∃ M s k, x = .ref s ∧ Sto M H s k ∧ MOk M H ∧ k + 1 ≤ 1000000 ∧ ∀ r d H', d ∈ oddL → Rp ct M H' r d → Ext (Is s) H H' → Grow H H' → Sto M H' s (k + 1) → Q r H'
abbrev s_law_odd : Stmt := top 87
abbrev N_law_odd : List Str := ["_law_store_here", "_law_kind", "_law_deep", "_law_k", "_law_menu"]
abbrev P_law_odd : List Str := ["_law_store_here"]
theorem sc_law_odd : FnScope N_law_odd P_law_odd (defScope s_law_odd) := ⟨rfl, rfl, rfl, by decide +kernel, rfl, by decide +kernel, by decide +kernel⟩
theorem bi_law_odd {K : PySem.W.Frag} {f : Addr} {fd : FuncData} (F : FnF K "_law_odd" "_law_odd" s_law_odd [] f fd) : Binds K fd P_law_odd [] := FunD.bindsN F fun _ _ _ _ _ _ us hl => match us, hl with | [_], _ => rfl
theorem c_law_odd (T : Txt W.K W.mg a) (D : DefAt W "_law_odd" "_law_odd" "_law_odd" s_law_odd) (c_law_take : Cal W CX0 3 "_law_take" P_law_take sp_take) : Cal W CX0 4 "_law_odd" P_law_odd (sp_odd a.ct) := cal_mk D sc_law_odd len1 (fun _ _ => bi_law_odd) fun f cdv A outer s H vs Q E hr h => by
  obtain ⟨_, rfl, M, s, k, rfl, hs, m, hk, q⟩ := sp1_of h
  refine ⟨_, (PSs.nox (pss_cons (ps_set (i := 1) sc_law_odd.nd rfl (by first | exact Or.inl rfl | exact Or.inr rfl) (pe_cal c_law_take hr (by omega) pass0 rfl (pa_cons (pv 0) (pa_cons pe_int pa_nil))))
 (pss_cons (ps_set (i := 2) sc_law_odd.nd rfl (by first | exact Or.inl rfl | exact Or.inr rfl) pe_non)
 (pss_cons (ps_for PassesOwn.never rfl (pi_range1 (by rfl) T.range (pa_cons pe_int pa_nil)) (pg_name (i := 3) sc_law_odd.nd rfl (by first | exact Or.inl rfl | exact Or.inr rfl))
  (pss_one (ps_set (i := 2) sc_law_odd.nd rfl (by first | exact Or.inl rfl | exact Or.inr rfl) (pe_lst (pa_cons (pv 2) pa_nil)))))
 (pss_cons (ps_set (i := 4) sc_law_odd.nd rfl (by first | exact Or.inl rfl | exact Or.inr rfl) (pe_lst (pa_cons pe_non (pa_cons pe_str (pa_cons pe_str (pa_cons (pe_un un_neg pe_int) (pa_cons (pe_op op_pow pe_int pe_int) (pa_cons (pe_lst pa_nil) (pa_cons (pe_lst (pa_cons pe_non pa_nil)) (pa_cons (pe_tup (pa_cons pe_str pa_nil)) (pa_cons (pe_tup (pa_cons pe_str (pa_cons pe_int pa_nil))) (pa_cons (pe_tup (pa_cons pe_str (pa_cons pe_non pa_nil))) (pa_cons (pe_tup (pa_cons pe_str (pa_cons pe_str pa_nil))) (pa_cons (pv 2) pa_nil))))))))))))))
 (pss_one (ps_ret (pe_ix ix_seq (pv 4) (pv 1) (fun _ _ => rfl))))))))), ?_⟩
  walk_at "go"
  refine ⟨M, s, k, 12, rfl, rfl, hs, by omega, by omega, fun r H1 _ r1 x1 g1 s1 => ?_⟩
  have r1 := r1 (by omega)
  have m1 := m.grow g1
  walk_at "go"
  refine f_rg (n := 19) (by omega) (fun i σ Hx => (∃ d v w, σ = [some (.ref s), some (.int r), some d, v, w] ∧ Rp a.ct M Hx d (deepD i)) ∧ Ext N0 H1 Hx) ⟨⟨_, _, _, rfl, .non⟩, Ext.refl _ _⟩ ?_ ?_
  · rintro i σ Hx hi ⟨⟨d, v, w, rfl, hd⟩, x2⟩
    walk_at "go"
    refine i_nwL (by simp) fun p H2 n2 x3 p2 => ?_
    walk_at "go"
    exact ⟨⟨_, _, _, rfl, .lst (At.mk' (m1.grow x2.grow) n2 p2) (.cons (hd.ext x3.weak) .nil)⟩, x2.trans x3⟩
  · rintro σ Hx ⟨⟨d, v, w, rfl, hd⟩, x2⟩
    have m2 := m1.grow x2.grow
    walk_at "go"
    refine i_I ⟨by omega, by omega, by decide⟩ ?_
    walk_at "go"
    refine i_nwL (by simp) fun p3 H3 n3 x3 p3' => ?_
    walk_at "go"
    refine i_nwL (by simp) fun p4 H4 n4 x4 p4' => ?_
    walk_at "go"
    refine i_nwT (by simp) fun p5 H5 n5 x5 p5' => ?_
    walk_at "go"
    refine i_nwT (by simp) fun p6 H6 n6 x6 p6' => ?_
    walk_at "go"
    refine i_nwT (by simp) fun p7 H7 n7 x7 p7' => ?_
    walk_at "go"
    refine i_nwT (by simp) fun p8 H8 n8 x8 p8' => ?_
    walk_at "go"
    refine i_nwL (by simp) fun p9 H9 n9 x9 p9' => ?_
    walk_at "go"
    have m3 := m2.grow x3.grow
    have m4 := m3.grow x4.grow
    have m5 := m4.grow x5.grow
    have m6 := m5.grow x6.grow
    have m7 := m6.grow x7.grow
    have e3 : Rp a.ct M H3 (.ref p3) (.lst []) := .lst (At.mk' m2 n3 p3') .nil
    have e4 : Rp a.ct M H4 (.ref p4) (.lst [.non]) := .lst (At.mk' m3 n4 p4') (.cons .non .nil)
    have e5 : Rp a.ct M H5 (.ref p5) (.tup [.str "sum"]) := .tup (At.mk' m4 n5 p5') (.cons (.str _) .nil)
    have e6 : Rp a.ct M H6 (.ref p6) (.tup [.str "break", .int 0]) := .tup (At.mk' m5 n6 p6') (.cons (.str _) (.cons (.int _) .nil))
    have e7 : Rp a.ct M H7 (.ref p7) (.tup [.str "ring", .non]) := .tup (At.mk' m6 n7 p7') (.cons (.str _) (.cons .non .nil))
    have e8 : Rp a.ct M H8 (.ref p8) (.tup [.str "sum", .str "1"]) := .tup (At.mk' m7 n8 p8') (.cons (.str _) (.cons (.str _) .nil))
    have y9 := x9.weak (M := M)
    have y8 := (x8.weak (M := M)).trans y9
    have y7 := (x7.weak (M := M)).trans y8
    have y6 := (x6.weak (M := M)).trans y7
    have y5 := (x5.weak (M := M)).trans y6
    have y4 := (x4.weak (M := M)).trans y5
    have y3 := (x3.weak (M := M)).trans y4
    have z0 : Ext N0 H1 H9 := x2.trans (x3.trans (x4.trans (x5.trans (x6.trans (x7.trans (x8.trans x9))))))
    have hA : ∃ xs, H9 p9 = some (.lst xs) ∧ RpA a.ct M H9 xs oddL := ⟨_, p9', .cons .non (.cons (.str _) (.cons (.str _) (.cons (.int _) (.cons (.int _) (.cons (e3.ext y4) (.cons (e4.ext y5) (.cons (e5.ext y6) (.cons (e6.ext y7) (.cons (e7.ext y8) (.cons (e8.ext y9) (.cons (hd.ext y3) .nil)))))))))))⟩
    obtain ⟨xs, h9, hA⟩ := hA
    have hl := hA.length
    have hl2 : oddL.length = 12 := rfl
    have hi : r.toNat < xs.length := by omega
    obtain ⟨d', hd', hr'⟩ := hA.getV (List.getElem?_eq_getElem hi)
    refine .inl (i_ixL (At.raw h9) (atI_of r1.1 (List.getElem?_eq_getElem hi)) ?_)
    exact q _ d' H9 (List.mem_of_getElem? hd') hr' (x1.trans z0.weak) (g1.trans z0.grow) (s1.ext z0)
end Bs
set_option Elab.async false
set_option linter.all false
set_option maxRecDepth 100000
set_option maxHeartbeats 400000
namespace Bs
open PySem PySem.Spec PyProof.Rows L2 SX
open C8 (pe_gc pss_cut)
local macro_rules | `(tactic| walk_at "xt") => `(tactic| first | assumption | exact Ext.weak (by assumption) | exact Ext.is (by assumption) (by assumption) | exact Ext.plus (by assumption) | exact Ext.plus (Ext.weak (by assumption)) | exact Ext.plus (Ext.is (by assumption) (by assumption)) | exact Ext.set plus_self)
local macro_rules | `(tactic| walk_at "gr") => `(tactic| first | assumption | exact Ext.grow (by assumption) | exact Grow.upd)
local macro_rules | `(tactic| walk_at "mo") => `(tactic| first | assumption | exact MOk.zero | ((first | refine MOk.grow ?_ (by walk_at "gr") | exact MOk.upd (by walk_at "mo")); walk_at "mo") | exact MOk.plus (by walk_at "mo") (by assumption))
local macro_rules | `(tactic| walk_at "hp") => `(tactic| first
  | assumption | exact At.raw (by assumption)
  | exact At.mk' (by walk_at "mo") (by assumption) (by assumption)
  | ((first | refine At.ext (by walk_at "xt") ?_ | refine Rp.ext (by walk_at "xt") ?_ | refine RpA.ext (by walk_at "xt") ?_ | refine Tb.ext (by walk_at "xt") ?_); walk_at "hp")
  | ((first | refine At.plus (by assumption) ?_ | refine Rp.plus (by assumption) ?_ | refine RpA.plus (by assumption) ?_ | refine Tb.plus (by assumption) ?_); walk_at "hp"))
local macro_rules | `(tactic| walk_at "at") => `(tactic| first | assumption | exact At.get (M := N0) (by walk_at "hp"))
local macro_rules | `(tactic| walk_at "sq") => `(tactic| first | exact SqL.of (by walk_at "at") | exact SqT.of (by walk_at "at"))
local macro_rules | `(tactic| walk_at "st") => `(tactic| with_reducible first
  | refine i_seq ?_ | refine i_asg ?_ | refine i_ret ?_ | refine i_retN ?_ | refine i_drop ?_ | refine i_ifS ?_ | refine i_next ?_ | refine i_brk ?_
  | refine i_gname ?_ | refine i_gsub ?_ | refine i_c ?_ | refine i_op ?_ | refine i_un ?_ | refine i_I0 ?_ | refine i_U ?_ | refine i_isN ?_ | refine i_notN ?_
  | refine i_test ?_ | refine i_tB ?_ | refine i_bl ?_ | refine i_and ?_ | refine i_or ?_ | refine i_not ?_ | refine i_andV ?_ | refine i_orV ?_ | refine i_notV ?_ | refine i_ifE ?_
  | refine i_nil ?_ | refine i_cons ?_ | refine i_for ?_ | refine i_iL ?_ | refine i_iT ?_ | refine i_iR ?_ | refine i_lc ?_ | refine i_prp ?_ | refine i_mk ?_ | refine i_sS ?_ | refine i_sN ?_ | refine i_nsS ?_ | refine i_nsN ?_ | refine i_fld ?_ | refine i_sf ?_ | refine i_inO ?_ | refine i_lsO ?_ | refine i_tpO ?_ | refine i_lnO ?_ | refine i_cb ?_ | refine i_call ?_ | refine i_tup ?_ | refine i_lst ?_ | refine i_dnew ?_ | refine i_inI ?_ | refine i_inB ?_ | refine i_rgX ?_ | refine i_lrO ?_ | refine i_rg1 ?_ | refine i_nF ?_ | refine i_nT ?_ | refine i_tt ?_ | refine i_ff ?_ | refine i_ifT ?_ | refine i_ifF ?_
  | refine i_eqI ?_ | refine i_eqS ?_ | refine i_eqB ?_ | refine i_neI ?_ | refine i_neS ?_ | refine i_dR ?_ | refine i_dI ?_ | refine i_dT ?_ | refine i_dS ?_ | refine i_dN ?_ | refine i_nR ?_ | refine i_nI ?_ | refine i_nN ?_
  | (refine i_var (by with_unfolding_all rfl) ?_) | refine i_eq rfl ?_ | refine i_ne rfl ?_)
local macro_rules | `(tactic| walk_at "sc") => `(tactic| first | exact (Rp.int (M := N0) _) | exact (Rp.str (M := N0) _) | exact (Rp.bl (M := N0) _) | exact (Rp.non (M := N0)) | assumption | exact Rp.tab (by assumption) | exact Tb.rp (by assumption))
local macro_rules | `(tactic| walk_at "sd") => `(tactic| simp only [d_Bool_non, d_Bool_bl, d_Bool_int, d_Bool_str, d_Bool_lst, d_Bool_tup, d_Bool_tab, d_Bool_dic, d_Int_non, d_Int_bl, d_Int_int, d_Int_str, d_Int_lst, d_Int_tup, d_Int_tab, d_Int_dic, d_Str_non, d_Str_bl, d_Str_int, d_Str_str, d_Str_lst, d_Str_tup, d_Str_tab, d_Str_dic, d_List_non, d_List_bl, d_List_int, d_List_str, d_List_lst, d_List_tup, d_List_tab, d_List_dic, d_Tup_non, d_Tup_bl, d_Tup_int, d_Tup_str, d_Tup_lst, d_Tup_tup, d_Tup_tab, d_Tup_dic, d_Tab_non, d_Tab_bl, d_Tab_int, d_Tab_str, d_Tab_lst, d_Tab_tup, d_Tab_tab, d_Tab_dic, Bool.not_true, Bool.not_false, Bool.true_or, Bool.false_or, Bool.or_true, Bool.or_false, Bool.and_true, Bool.true_and, Bool.and_false, Bool.false_and, if_true, if_false, Bool.false_eq_true])
local macro_rules | `(tactic| walk_at "isi") => `(tactic| ((first | with_reducible apply i_isB | with_reducible apply i_isI | with_reducible apply i_isS | with_reducible apply i_isL | with_reducible apply i_isT | with_reducible apply i_isTab); (focus assumption); (focus walk_at "sc"); try simp only [d_Bool_non, d_Bool_bl, d_Bool_int, d_Bool_str, d_Bool_lst, d_Bool_tup, d_Bool_tab, d_Bool_dic, d_Int_non, d_Int_bl, d_Int_int, d_Int_str, d_Int_lst, d_Int_tup, d_Int_tab, d_Int_dic, d_Str_non, d_Str_bl, d_Str_int, d_Str_str, d_Str_lst, d_Str_tup, d_Str_tab, d_Str_dic, d_List_non, d_List_bl, d_List_int, d_List_str, d_List_lst, d_List_tup, d_List_tab, d_List_dic, d_Tup_non, d_Tup_bl, d_Tup_int, d_Tup_str, d_Tup_lst, d_Tup_tup, d_Tup_tab, d_Tup_dic, d_Tab_non, d_Tab_bl, d_Tab_int, d_Tab_str, d_Tab_lst, d_Tab_tup, d_Tab_tab, d_Tab_dic]))
local macro_rules | `(tactic| walk_at "om") => `(tactic| first | ((with_reducible refine i_decF ?_ ?_); (focus omega)) | ((with_reducible refine i_decT ?_ ?_); (focus omega)) | ((with_reducible refine i_ndecF ?_ ?_); (focus omega)) | ((with_reducible refine i_ndecT ?_ ?_); (focus omega)))
local macro_rules | `(tactic| walk_at "go") => `(tactic| ((repeat (first | walk_at "st" | walk_at "isi" | walk_at "om")); try dsimp only [List.set]))
variable {W : Wd} {a : Ad}
/-! L7: orders and their bits. -/
theorem strs_of {P : Str → Prop} : ∀ {acc : List V}, (∀ (i : Nat) y, acc[i]? = some y → ∃ o, y = .str o ∧ P o) → ∃ b : List Str, acc = b.map V.str ∧ ∀ o ∈ b, P o
  | [], _ => ⟨[], rfl, by simp⟩
  | v :: vs, h => by
    obtain ⟨o, rfl, ho⟩ := h 0 v rfl
    obtain ⟨b, rfl, hb⟩ := strs_of (acc := vs) fun i y hy => h (i + 1) y (by simpa using hy)
    exact ⟨o :: b, rfl, fun x hx => by
      rcases List.mem_cons.mp hx with h | h
      · rw [h]; exact ho
      · exact hb x h⟩
def sp_orders : Sp := sp2 fun x m H Q _ => ∃ M s k, ∃ n : Nat, x = .ref s ∧ m = .int n ∧ n ≤ 50 ∧ Sto M H s k ∧ MOk M H ∧ k + 60 ≤ 1000000 ∧ ∀ p (b : List Str) H', b.length = n → (∀ o ∈ b, o ∈ orders) → At M H' p (.lst (b.map V.str)) → Ext (Is s) H H' → Grow H H' → Sto M H' s (k + 60) → Q (.ref p) H'
abbrev s_law_orders : Stmt := top 88
abbrev N_law_orders : List Str := ["_law_store_here", "_law_many", "_law_menu", "_law_kind", "_law_one", "_law_k"]
abbrev P_law_orders : List Str := ["_law_store_here", "_law_many"]
theorem sc_law_orders : FnScope N_law_orders P_law_orders (defScope s_law_orders) := ⟨rfl, rfl, rfl, by decide +kernel, rfl, by decide +kernel, by decide +kernel⟩
theorem bi_law_orders {K : PySem.W.Frag} {f : Addr} {fd : FuncData} (F : FnF K "_law_orders" "_law_orders" s_law_orders [] f fd) : Binds K fd P_law_orders [] := FunD.bindsN F fun _ _ _ _ _ _ us hl => match us, hl with | [_, _], _ => rfl
theorem c_law_orders (T : Txt W.K W.mg a) (D : DefAt W "_law_orders" "_law_orders" "_law_orders" s_law_orders) (c_law_take : Cal W CX0 3 "_law_take" P_law_take sp_take) (c_law_pick : Cal W CX0 4 "_law_pick" P_law_pick sp_pick) : Cal W CX0 5 "_law_orders" P_law_orders sp_orders := cal_mk D sc_law_orders len2 (fun _ _ => bi_law_orders) fun f cdv A outer s H vs Q E hr h => by
  obtain ⟨_, _, rfl, M, s, k, n, rfl, rfl, hn, hs, m, hk, q⟩ := sp2_of h
  refine ⟨_, (pss_cons (ps_set (i := 2) sc_law_orders.nd rfl (by first | exact Or.inl rfl | exact Or.inr rfl) (pe_lst (pa_cons pe_str (pa_cons pe_str (pa_cons pe_str (pa_cons pe_str (pa_cons pe_str (pa_cons pe_str pa_nil))))))))
 (pss_cons (ps_set (i := 3) sc_law_orders.nd rfl (by first | exact Or.inl rfl | exact Or.inr rfl) (pe_cal c_law_take hr (by omega) pass0 rfl (pa_cons (pv 0) (pa_cons pe_int pa_nil))))
 (pss_cut (ps_if (pt_cmpR op_lt (pv 3) pe_int (by rfl))
  (pss_cons (ps_set (i := 4) sc_law_orders.nd rfl (by first | exact Or.inl rfl | exact Or.inr rfl) (pe_cal c_law_pick hr (by omega) pass0 rfl (pa_cons (pv 0) (pa_cons (pv 2) pa_nil))))
 (pss_cons (ps_set (i := 2) sc_law_orders.nd rfl (by first | exact Or.inl rfl | exact Or.inr rfl) (pe_lst (pa_cons (pv 4) (pa_cons (pv 4) pa_nil))))
 (pss_one (ps_if (pt_cmpR op_eq (pv 3) pe_int (by rfl))
  (pss_one (ps_asg (pe_ix ix_seq (pe_lst (pa_cons pe_str (pa_cons pe_str (pa_cons pe_str pa_nil)))) (pe_cal c_law_take hr (by omega) pass0 rfl (pa_cons (pv 0) (pa_cons pe_int pa_nil))) (fun _ _ => rfl)) (pg_sub (pv 2) pe_int set_list)))
  pss_nil))))
  pss_nil)
 (pss_one (ps_ret (pe_lc (own := [("_law_k", 5)]) (g := gName 5) (tt := tYes) rfl sc_law_orders.nd (pi_range1 (by rfl) T.range (pa_cons (pv 1) pa_nil)) (blkOk_by (N := N_law_orders) (sc := defScope s_law_orders) (by decide +kernel)) (fun _ _ _ _ _ => (pg_name (i := 5) sc_law_orders.nd rfl (by first | exact Or.inl rfl | exact Or.inr rfl))) (fun _ _ _ _ _ => pts_nil) (fun _ _ _ _ _ => (pe_cal c_law_pick hr (by omega) pass0 rfl (pa_cons (pv 0) (pa_cons (pv 2) pa_nil)))))))))), ?_⟩
  walk_at "go"
  refine i_nwL (by simp) fun p H1 n1 x1 p1 => ?_
  walk_at "go"
  have m1 := m.grow x1.grow
  have pM : ¬ M p := fun z => m p z n1
  have nps : p ≠ s := fun e => pM (e ▸ hs.mem)
  refine ⟨M, s, k, 6, rfl, rfl, hs.ext x1, by omega, by omega, fun r H2 _ r2 x2 g2 s2 => ?_⟩
  have r2 := r2 (by omega)
  walk_at "go"
  have p2 : H2 p = some (.lst (orders.map V.str)) := x2 _ _ nps p1
  refine i_cut (fun σ' Hx => (∃ t v w, ∃ ys : List Str, σ' = [some (.ref s), some (.int n), some (.ref t), some (.int r), v, w] ∧ At M Hx t (.lst (ys.map V.str)) ∧ ys ≠ [] ∧ ys.length ≤ 10 ∧ ∀ o ∈ ys, o ∈ orders) ∧ Ext (Is s) H Hx ∧ Grow H Hx ∧ MOk M Hx ∧ Sto M Hx s (k + 4)) ?_ ?_
  · walk_at "go"
    have x12 : Ext (Is s) H H2 := x1.weak.trans x2
    have g12 : Grow H H2 := x1.grow.trans g2
    refine i_dec (fun e => ?_) (fun e => ?_)
    · walk_at "go"
      refine ⟨M, s, k + 1, p, _, rfl, rfl, ⟨pM, p2⟩, by simp [orders], by decide, s2, by omega, fun i v H3 hv x3 g3 s3 => ?_⟩
      obtain ⟨o, ho, rfl⟩ : ∃ o, orders[i]? = some o ∧ v = .str o := by
        rw [List.getElem?_map] at hv
        cases e : orders[i]? with
        | none => rw [e] at hv; cases hv
        | some b => rw [e] at hv; exact ⟨b, rfl, (Option.some.inj hv).symm⟩
      have ho := List.mem_of_getElem? ho
      walk_at "go"
      refine i_nwL (by simp) fun u H4 n4 x4 u4 => ?_
      walk_at "go"
      have m3 : MOk M H3 := (m1.grow g2).grow g3
      have u4' := At.mk' m3 n4 u4
      refine i_dec (fun e => ?_) (fun e => ?_)
      · walk_at "go"
        refine i_nwL (by simp) fun w H5 n5 x5 w5 => ?_
        walk_at "go"
        have m4 := m3.grow x4.grow
        have sus : s ≠ u := s3.ne n4
        have s5 : Sto (Plus M u) H5 s (k + 2) := ((s3.plus n4).ext x4).ext x5
        have m5 : MOk (Plus M u) H5 := (m4.grow x5.grow).plus (by rw [x5 _ _ (fun z => z) u4]; simp)
        have w5' := At.mk' (M := Plus M u) (m4.plus (by rw [u4]; simp)) n5 w5
        refine ⟨Plus M u, s, k + 2, 3, rfl, rfl, s5, by omega, by omega, fun r' H6 _ r6 x6 g6 s6 => ?_⟩
        have r6 := r6 (by omega)
        walk_at "go"
        have w6 := w5'.ext (x6.is s5.mem)
        obtain ⟨o', ho', e6⟩ : ∃ o', o' ∈ orders ∧ atI [V.str "cba", .str "bca", .str "cab"] r' = some (.str o') := by
          have : r' = 0 ∨ r' = 1 ∨ r' = 2 := by omega
          rcases this with rfl | rfl | rfl
          · exact ⟨"cba", by decide, rfl⟩
          · exact ⟨"bca", by decide, rfl⟩
          · exact ⟨"cab", by decide, rfl⟩
        refine .inl (i_ixL (At.raw w6.2) e6 ?_)
        walk_at "go"
        have u6 : H6 u = some (.lst [.str o, .str o]) := x6 _ _ (fun e => sus e.symm) (x5 _ _ (fun z => z) u4)
        refine i_setL u6 (j := 1) rfl fun H7 x7 g7 u7 => ?_
        have u7 : H7 u = some (.lst ([o, o'].map V.str)) := u7
        have y : Ext (Plus (Is s) u) H4 H7 := (x5.weak.trans (x6.is (.inl rfl))).trans (x7.is plus_self)
        have y2 : Ext (Is s) H3 H7 := Ext.close (x4.weak) n4 y |>.trans (Ext.refl _ _)
        refine ⟨⟨u, _, _, [o, o'], rfl, ⟨u4'.1, u7⟩, by simp, by simp, fun z hz => ?_⟩, (x12.trans x3).trans y2, ((((g12.trans g3).trans x4.grow).trans x5.grow).trans g6).trans g7, ((m4.grow x5.grow).grow g6).grow g7, ((s6.set sus x7).less hs.mem).le (by omega)⟩
        simp at hz
        rcases hz with rfl | rfl
        · exact ho
        · exact ho'
      · walk_at "go"
        refine ⟨⟨u, _, _, [o, o], rfl, u4', by simp, by simp, fun z hz => ?_⟩, (x12.trans x3).trans x4.weak, (g12.trans g3).trans x4.grow, m3.grow x4.grow, (s3.ext x4).le (by omega)⟩
        simp at hz
        rw [hz]; exact ho
    · walk_at "go"
      exact ⟨⟨p, _, _, orders, rfl, ⟨pM, p2⟩, by simp [orders], by decide, fun _ h => h⟩, x12, g12, m1.grow g2, s2.le (by omega)⟩
  · rintro σ' Hx ⟨⟨t, v, w, ys, rfl, ht, hy1, hy2, hy3⟩, x3, g3, m3, s3⟩
    walk_at "go"
    have hM := hs.mem
    have mD : ∀ {D Hz}, MOk (Plus M D) Hz → MOk M Hz := fun z => z.less
    refine c_rg (M := M) m3 (by omega) (fun D i Hz => Sto (Plus M D) Hz s (k + 4 + i) ∧ Grow Hx Hz ∧ Ext (Plus (Is s) D) Hx Hz) (fun D i y Hz => ∃ o, y = .str o ∧ o ∈ orders) fun D nD => ⟨fun _ _ _ _ _ e => e, fun i Hz o hz ⟨e1, e2, e3⟩ => ⟨e1.set (s3.ne nD) (Ext.set rfl), e2.trans Grow.upd, e3.trans (Ext.set plus_self)⟩, ⟨(s3.plus nD).ext (Ext.new nD), Grow.upd, (Ext.new nD)⟩, ?_, ?_⟩
    · intro i H4 N N' hi x4 m4 ⟨s4, g4, y4⟩ nx
      walk_at "go"
      refine i_yes rfl ?_
      walk_at "go"
      refine ⟨Plus M D, s, k + 4 + i, t, _, rfl, rfl, (ht.plus nD).ext x4, by simpa using hy1, by simp; omega, s4, by omega, fun j v H5 hv x5 g5 s5 => ?_⟩
      obtain ⟨o, ho, rfl⟩ : ∃ o, ys[j]? = some o ∧ v = .str o := by
        rw [List.getElem?_map] at hv
        cases e : ys[j]? with
        | none => rw [e] at hv; cases hv
        | some b => rw [e] at hv; exact ⟨b, rfl, (Option.some.inj hv).symm⟩
      exact nx _ _ (x5.is hM) ((m4.less).grow g5) ⟨o, rfl, hy3 o (List.mem_of_getElem? ho)⟩ ⟨s5.le (by omega), g4.trans g5, y4.trans (x5.is (.inl rfl))⟩
    · intro acc H4 hl hr' hd x4 m4 ⟨s4, g4, y4⟩
      obtain ⟨b, rfl, hb⟩ : ∃ b : List Str, acc = b.map V.str ∧ ∀ o ∈ b, o ∈ orders := strs_of fun i y hy => hr' i y hy
      refine q D b H4 (by simpa using hl) hb ⟨fun z => m3 D z nD, hd⟩ (x3.trans (Ext.close (Ext.refl _ _) nD y4)) (g3.trans g4) ((s4.less hM).le (by omega))
end Bs
set_option Elab.async false
set_option linter.all false
set_option maxRecDepth 100000
set_option maxHeartbeats 400000
namespace Bs
open PySem PySem.Spec PyProof.Rows L2 SX
open C8 (pe_gc pss_cut)
local macro_rules | `(tactic| walk_at "xt") => `(tactic| first | assumption | exact Ext.weak (by assumption) | exact Ext.is (by assumption) (by assumption) | exact Ext.plus (by assumption) | exact Ext.plus (Ext.weak (by assumption)) | exact Ext.plus (Ext.is (by assumption) (by assumption)) | exact Ext.set plus_self)
local macro_rules | `(tactic| walk_at "gr") => `(tactic| first | assumption | exact Ext.grow (by assumption) | exact Grow.upd)
local macro_rules | `(tactic| walk_at "mo") => `(tactic| first | assumption | exact MOk.zero | ((first | refine MOk.grow ?_ (by walk_at "gr") | exact MOk.upd (by walk_at "mo")); walk_at "mo") | exact MOk.plus (by walk_at "mo") (by assumption))
local macro_rules | `(tactic| walk_at "hp") => `(tactic| first
  | assumption | exact At.raw (by assumption)
  | exact At.mk' (by walk_at "mo") (by assumption) (by assumption)
  | ((first | refine At.ext (by walk_at "xt") ?_ | refine Rp.ext (by walk_at "xt") ?_ | refine RpA.ext (by walk_at "xt") ?_ | refine Tb.ext (by walk_at "xt") ?_); walk_at "hp")
  | ((first | refine At.plus (by assumption) ?_ | refine Rp.plus (by assumption) ?_ | refine RpA.plus (by assumption) ?_ | refine Tb.plus (by assumption) ?_); walk_at "hp"))
local macro_rules | `(tactic| walk_at "at") => `(tactic| first | assumption | exact At.get (M := N0) (by walk_at "hp"))
local macro_rules | `(tactic| walk_at "sq") => `(tactic| first | exact SqL.of (by walk_at "at") | exact SqT.of (by walk_at "at"))
local macro_rules | `(tactic| walk_at "st") => `(tactic| with_reducible first
  | refine i_seq ?_ | refine i_asg ?_ | refine i_ret ?_ | refine i_retN ?_ | refine i_drop ?_ | refine i_ifS ?_ | refine i_next ?_ | refine i_brk ?_
  | refine i_gname ?_ | refine i_gsub ?_ | refine i_c ?_ | refine i_op ?_ | refine i_un ?_ | refine i_I0 ?_ | refine i_U ?_ | refine i_isN ?_ | refine i_notN ?_
  | refine i_test ?_ | refine i_tB ?_ | refine i_bl ?_ | refine i_and ?_ | refine i_or ?_ | refine i_not ?_ | refine i_andV ?_ | refine i_orV ?_ | refine i_notV ?_ | refine i_ifE ?_
  | refine i_nil ?_ | refine i_cons ?_ | refine i_for ?_ | refine i_iL ?_ | refine i_iT ?_ | refine i_iR ?_ | refine i_lc ?_ | refine i_prp ?_ | refine i_mk ?_ | refine i_sS ?_ | refine i_sN ?_ | refine i_nsS ?_ | refine i_nsN ?_ | refine i_fld ?_ | refine i_sf ?_ | refine i_inO ?_ | refine i_lsO ?_ | refine i_tpO ?_ | refine i_lnO ?_ | refine i_cb ?_ | refine i_call ?_ | refine i_tup ?_ | refine i_lst ?_ | refine i_dnew ?_ | refine i_inI ?_ | refine i_inB ?_ | refine i_rgX ?_ | refine i_lrO ?_ | refine i_rg1 ?_ | refine i_nF ?_ | refine i_nT ?_ | refine i_tt ?_ | refine i_ff ?_ | refine i_ifT ?_ | refine i_ifF ?_
  | refine i_eqI ?_ | refine i_eqS ?_ | refine i_eqB ?_ | refine i_neI ?_ | refine i_neS ?_ | refine i_dR ?_ | refine i_dI ?_ | refine i_dT ?_ | refine i_dS ?_ | refine i_dN ?_ | refine i_nR ?_ | refine i_nI ?_ | refine i_nN ?_
  | (refine i_var (by with_unfolding_all rfl) ?_) | refine i_eq rfl ?_ | refine i_ne rfl ?_)
local macro_rules | `(tactic| walk_at "sc") => `(tactic| first | exact (Rp.int (M := N0) _) | exact (Rp.str (M := N0) _) | exact (Rp.bl (M := N0) _) | exact (Rp.non (M := N0)) | assumption | exact Rp.tab (by assumption) | exact Tb.rp (by assumption))
local macro_rules | `(tactic| walk_at "sd") => `(tactic| simp only [d_Bool_non, d_Bool_bl, d_Bool_int, d_Bool_str, d_Bool_lst, d_Bool_tup, d_Bool_tab, d_Bool_dic, d_Int_non, d_Int_bl, d_Int_int, d_Int_str, d_Int_lst, d_Int_tup, d_Int_tab, d_Int_dic, d_Str_non, d_Str_bl, d_Str_int, d_Str_str, d_Str_lst, d_Str_tup, d_Str_tab, d_Str_dic, d_List_non, d_List_bl, d_List_int, d_List_str, d_List_lst, d_List_tup, d_List_tab, d_List_dic, d_Tup_non, d_Tup_bl, d_Tup_int, d_Tup_str, d_Tup_lst, d_Tup_tup, d_Tup_tab, d_Tup_dic, d_Tab_non, d_Tab_bl, d_Tab_int, d_Tab_str, d_Tab_lst, d_Tab_tup, d_Tab_tab, d_Tab_dic, Bool.not_true, Bool.not_false, Bool.true_or, Bool.false_or, Bool.or_true, Bool.or_false, Bool.and_true, Bool.true_and, Bool.and_false, Bool.false_and, if_true, if_false, Bool.false_eq_true])
local macro_rules | `(tactic| walk_at "isi") => `(tactic| ((first | with_reducible apply i_isB | with_reducible apply i_isI | with_reducible apply i_isS | with_reducible apply i_isL | with_reducible apply i_isT | with_reducible apply i_isTab); (focus assumption); (focus walk_at "sc"); try simp only [d_Bool_non, d_Bool_bl, d_Bool_int, d_Bool_str, d_Bool_lst, d_Bool_tup, d_Bool_tab, d_Bool_dic, d_Int_non, d_Int_bl, d_Int_int, d_Int_str, d_Int_lst, d_Int_tup, d_Int_tab, d_Int_dic, d_Str_non, d_Str_bl, d_Str_int, d_Str_str, d_Str_lst, d_Str_tup, d_Str_tab, d_Str_dic, d_List_non, d_List_bl, d_List_int, d_List_str, d_List_lst, d_List_tup, d_List_tab, d_List_dic, d_Tup_non, d_Tup_bl, d_Tup_int, d_Tup_str, d_Tup_lst, d_Tup_tup, d_Tup_tab, d_Tup_dic, d_Tab_non, d_Tab_bl, d_Tab_int, d_Tab_str, d_Tab_lst, d_Tab_tup, d_Tab_tab, d_Tab_dic]))
local macro_rules | `(tactic| walk_at "om") => `(tactic| first | ((with_reducible refine i_decF ?_ ?_); (focus omega)) | ((with_reducible refine i_decT ?_ ?_); (focus omega)) | ((with_reducible refine i_ndecF ?_ ?_); (focus omega)) | ((with_reducible refine i_ndecT ?_ ?_); (focus omega)))
local macro_rules | `(tactic| walk_at "go") => `(tactic| ((repeat (first | walk_at "st" | walk_at "isi" | walk_at "om")); try dsimp only [List.set]))
variable {W : Wd} {a : Ad}
/-! L8: the bits of an order, the order of bits, a result. -/
def sp_obits : Sp := sp1 fun x H Q _ => ∃ o, x = .str o ∧ o ∈ orders ∧ ∀ t H', Ext N0 H H' → H' t = some (.tup [.int (bq 0 o), .int (bq 1 o), .int (bq 2 o)]) → Q (.ref t) H'
def fbit (o x y : Str) : Int := if decide (Txt.find o x < Txt.find o y) = true then 1 else 0
theorem fbits : ∀ o ∈ orders, fbit o "a" "b" = bq 0 o ∧ fbit o "b" "c" = bq 1 o ∧ fbit o "c" "a" = bq 2 o := by decide +kernel
abbrev s_law_order_bits : Stmt := top 89
abbrev N_law_order_bits : List Str := ["_law_one", "_law_at_a", "_law_at_b", "_law_at_c"]
abbrev P_law_order_bits : List Str := ["_law_one"]
theorem sc_law_order_bits : FnScope N_law_order_bits P_law_order_bits (defScope s_law_order_bits) := ⟨rfl, rfl, rfl, by decide +kernel, rfl, by decide +kernel, by decide +kernel⟩
theorem bi_law_order_bits {K : PySem.W.Frag} {f : Addr} {fd : FuncData} (F : FnF K "_law_order_bits" "_law_order_bits" s_law_order_bits [] f fd) : Binds K fd P_law_order_bits [] := FunD.bindsN F fun _ _ _ _ _ _ us hl => match us, hl with | [_], _ => rfl
theorem c_law_order_bits (T : Txt W.K W.mg a) (D : DefAt W "_law_order_bits" "_law_order_bits" "_law_order_bits" s_law_order_bits) : Cal W CX0 1 "_law_order_bits" P_law_order_bits sp_obits := cal_mk D sc_law_order_bits len1 (fun _ _ => bi_law_order_bits) fun f cdv A outer s H vs Q E hr h => by
  obtain ⟨_, rfl, o, rfl, ho, q⟩ := sp1_of h
  refine ⟨_, (pss_cons (ps_set (i := 1) sc_law_order_bits.nd rfl (by first | exact Or.inl rfl | exact Or.inr rfl) (pe_m1 PySem.F.slot_str_find PySem.F.type_str_find mt_find (pv 0) pe_str))
 (pss_cons (ps_set (i := 2) sc_law_order_bits.nd rfl (by first | exact Or.inl rfl | exact Or.inr rfl) (pe_m1 PySem.F.slot_str_find PySem.F.type_str_find mt_find (pv 0) pe_str))
 (pss_cons (ps_set (i := 3) sc_law_order_bits.nd rfl (by first | exact Or.inl rfl | exact Or.inr rfl) (pe_m1 PySem.F.slot_str_find PySem.F.type_str_find mt_find (pv 0) pe_str))
 (pss_one (ps_ret (pe_tup (pa_cons (pe_callTy call_int1 rfl T.int (by decide +kernel) (pa_cons (pe_cmpR op_lt (pv 1) (pv 2) (by rfl)) pa_nil)) (pa_cons (pe_callTy call_int1 rfl T.int (by decide +kernel) (pa_cons (pe_cmpR op_lt (pv 2) (pv 3) (by rfl)) pa_nil)) (pa_cons (pe_callTy call_int1 rfl T.int (by decide +kernel) (pa_cons (pe_cmpR op_lt (pv 3) (pv 1) (by rfl)) pa_nil)) pa_nil))))))))), ?_⟩
  walk_at "go"
  refine i_m1 ?_
  walk_at "go"
  refine i_m1S ?_
  walk_at "go"
  refine ⟨_, _, rfl, rfl, ?_⟩
  walk_at "go"
  refine i_m1 ?_
  walk_at "go"
  refine i_m1S ?_
  walk_at "go"
  refine ⟨_, _, rfl, rfl, ?_⟩
  walk_at "go"
  refine i_m1 ?_
  walk_at "go"
  refine i_m1S ?_
  walk_at "go"
  refine ⟨_, _, rfl, rfl, ?_⟩
  walk_at "go"
  refine i_nwT (by simp) fun t H1 n1 x1 t1 => ?_
  refine q t H1 x1 ?_
  obtain ⟨e1, e2, e3⟩ := fbits o ho
  rw [t1, ← e1, ← e2, ← e3]
  rfl
def sp_oof : Sp := sp3 fun x y z H Q _ => ∃ i j k : Int, x = .int i ∧ y = .int j ∧ z = .int k ∧ ∀ H', Ext N0 H H' → Q (.str (ordI i j k)) H'
theorem ordI_of : ∀ o ∈ orders, ordI (bq 0 o) (bq 1 o) (bq 2 o) = o := by decide +kernel
theorem ordI_no {i j k : Int} (h : ∀ o ∈ orders, ¬ [bq 0 o, bq 1 o, bq 2 o] = [i, j, k]) : ordI i j k = "ring" := by
  have h1 : ¬ (i = 1 ∧ j = 1 ∧ k = 0) := fun ⟨a, b, c⟩ => h "abc" (by decide) (by subst a b c; decide +kernel)
  have h2 : ¬ (i = 1 ∧ j = 0 ∧ k = 0) := fun ⟨a, b, c⟩ => h "acb" (by decide) (by subst a b c; decide +kernel)
  have h3 : ¬ (i = 0 ∧ j = 1 ∧ k = 0) := fun ⟨a, b, c⟩ => h "bac" (by decide) (by subst a b c; decide +kernel)
  have h4 : ¬ (i = 0 ∧ j = 1 ∧ k = 1) := fun ⟨a, b, c⟩ => h "bca" (by decide) (by subst a b c; decide +kernel)
  have h5 : ¬ (i = 1 ∧ j = 0 ∧ k = 1) := fun ⟨a, b, c⟩ => h "cab" (by decide) (by subst a b c; decide +kernel)
  have h6 : ¬ (i = 0 ∧ j = 0 ∧ k = 1) := fun ⟨a, b, c⟩ => h "cba" (by decide) (by subst a b c; decide +kernel)
  rw [ordI, if_neg h1, if_neg h2, if_neg h3, if_neg h4, if_neg h5, if_neg h6]
abbrev s_law_order_of : Stmt := top 90
abbrev N_law_order_of : List Str := ["_law_one", "_law_two", "_law_three", "_law_item"]
abbrev P_law_order_of : List Str := ["_law_one", "_law_two", "_law_three"]
theorem sc_law_order_of : FnScope N_law_order_of P_law_order_of (defScope s_law_order_of) := ⟨rfl, rfl, rfl, by decide +kernel, rfl, by decide +kernel, by decide +kernel⟩
theorem bi_law_order_of {K : PySem.W.Frag} {f : Addr} {fd : FuncData} (F : FnF K "_law_order_of" "_law_order_of" s_law_order_of [] f fd) : Binds K fd P_law_order_of [] := FunD.bindsN F fun _ _ _ _ _ _ us hl => match us, hl with | [_, _, _], _ => rfl
theorem c_law_order_of (T : Txt W.K W.mg a) (D : DefAt W "_law_order_of" "_law_order_of" "_law_order_of" s_law_order_of) (c_law_order_bits : Cal W CX0 1 "_law_order_bits" P_law_order_bits sp_obits) : Cal W CX0 2 "_law_order_of" P_law_order_of sp_oof := cal_mk D sc_law_order_of len3 (fun _ _ => bi_law_order_of) fun f cdv A outer s H vs Q E hr h => by
  obtain ⟨_, _, _, rfl, i, j, k, rfl, rfl, rfl, q⟩ := sp3_of h
  refine ⟨_, (PSs.nox (pss_cons (ps_for PassesOwn.never rfl (pi_list (pe_lst (pa_cons pe_str (pa_cons pe_str (pa_cons pe_str (pa_cons pe_str (pa_cons pe_str (pa_cons pe_str pa_nil)))))))) (pg_name (i := 3) sc_law_order_of.nd rfl (by first | exact Or.inl rfl | exact Or.inr rfl))
  (pss_one (ps_if (pt_cmpR (op_eqD (hr.units)) (pe_cal c_law_order_bits hr (by omega) pass0 rfl (pa_cons (pv 3) pa_nil)) (pe_tup (pa_cons (pv 0) (pa_cons (pv 1) (pa_cons (pv 2) pa_nil)))) (by rfl))
  (pss_one (ps_ret (pv 3)))
  pss_nil)))
 (pss_one (ps_ret pe_str)))), ?_⟩
  walk_at "go"
  refine i_nwL (by simp) fun p H1 n1 x1 p1 => ?_
  have p1 : H1 p = some (.lst (orders.map V.str)) := p1
  refine f_list (SqL.of p1) (fun c σ Hx => (∃ v, σ = [some (.int i), some (.int j), some (.int k), v]) ∧ Ext N0 H1 Hx ∧ ∀ d o, d < c → orders[d]? = some o → ¬ [bq 0 o, bq 1 o, bq 2 o] = [i, j, k]) ⟨⟨_, rfl⟩, Ext.refl _ _, fun d o hd => by omega⟩ (fun i σ Hx _ e => SqL.of (e.2.1 _ _ (fun z => z) p1)) ?_ ?_
  · rintro c v σ Hx hv ⟨⟨_, rfl⟩, x2, hno⟩
    obtain ⟨o, ho, rfl⟩ : ∃ o, orders[c]? = some o ∧ v = .str o := by
      rw [List.getElem?_map] at hv
      cases e : orders[c]? with
      | none => rw [e] at hv; cases hv
      | some b => rw [e] at hv; exact ⟨b, rfl, (Option.some.inj hv).symm⟩
    have hm := List.mem_of_getElem? ho
    walk_at "go"
    refine ⟨o, rfl, hm, fun t H2 x3 t2 => ?_⟩
    walk_at "go"
    refine i_nwT (by simp) fun u H3 n3 x4 u3 => ?_
    have t3 := x4 _ _ (fun z => z) t2
    refine i_eqTI (xs := [bq 0 o, bq 1 o, bq 2 o]) (ys := [i, j, k]) (SqT.of t3) (SqT.of u3) ?_
    walk_at "go"
    refine i_dec (fun e => ?_) (fun e => ?_)
    · walk_at "go"
      simp only [List.cons.injEq, and_true] at e
      have := q H3 (((x1.trans x2).trans x3).trans x4)
      rw [← e.1, ← e.2.1, ← e.2.2, ordI_of o hm] at this
      exact this
    · walk_at "go"
      refine ⟨⟨_, rfl⟩, (x2.trans x3).trans x4, fun d o' hd ho' => ?_⟩
      by_cases h : d = c
      · subst h
        rw [ho] at ho'
        cases ho'
        exact e
      · exact hno d o' (by omega) ho'
  · rintro σ Hx ⟨⟨_, rfl⟩, x2, hno⟩
    walk_at "go"
    have := q Hx (x1.trans x2)
    rw [ordI_no fun o ho => by
      obtain ⟨d, hd, e⟩ := List.getElem_of_mem ho
      exact hno d o hd (by rw [← e]; exact List.getElem?_eq_getElem hd)] at this
    exact this
/-- three rows of bits -/
structure Rw (M : Mt) (H : Hp) (p : Addr) (b1 b2 b3 : List Int) : Prop where
  ex : ∃ r1 r2 r3, At M H p (.lst [.ref r1, .ref r2, .ref r3]) ∧ At M H r1 (.lst (b1.map V.int)) ∧ At M H r2 (.lst (b2.map V.int)) ∧ At M H r3 (.lst (b3.map V.int))
theorem Rw.ext {M : Mt} {H H' : Hp} {p : Addr} {b1 b2 b3 : List Int} (h : Rw M H p b1 b2 b3) (x : Ext M H H') : Rw M H' p b1 b2 b3 := let ⟨r1, r2, r3, h0, h1, h2, h3⟩ := h.ex; ⟨r1, r2, r3, h0.ext x, h1.ext x, h2.ext x, h3.ext x⟩
theorem Rw.zero {M : Mt} {H : Hp} {p : Addr} {b1 b2 b3 : List Int} (h : Rw M H p b1 b2 b3) : Rw N0 H p b1 b2 b3 := let ⟨r1, r2, r3, h0, h1, h2, h3⟩ := h.ex; ⟨r1, r2, r3, h0.zero, h1.zero, h2.zero, h3.zero⟩
theorem Rw.plus {M : Mt} {H : Hp} {p q : Addr} {b1 b2 b3 : List Int} (h : Rw M H p b1 b2 b3) (n : H q = none) : Rw (Plus M q) H p b1 b2 b3 := let ⟨r1, r2, r3, h0, h1, h2, h3⟩ := h.ex; ⟨r1, r2, r3, h0.plus n, h1.plus n, h2.plus n, h3.plus n⟩
def sp_rof : Sp := sp2 fun x y H Q _ => ∃ p n b1 b2 b3 l b, x = .ref p ∧ y = .ref l ∧ Rw N0 H p b1 b2 b3 ∧ TabOk n b1 ∧ TabOk n b2 ∧ TabOk n b3 ∧ H l = some (.lst (b.map V.str)) ∧ b.length = n ∧ (∀ o ∈ b, o ∈ orders) ∧ ∀ H', Ext N0 H H' → Q (.str (outc b1 b2 b3 b)) H'
abbrev s_law_result_of : Stmt := top 91
abbrev N_law_result_of : List Str := ["_law_three", "_law_ballot", "_law_row", "_law_at", "_law_held", "_law_k"]
abbrev P_law_result_of : List Str := ["_law_three", "_law_ballot"]
theorem sc_law_result_of : FnScope N_law_result_of P_law_result_of (defScope s_law_result_of) := ⟨rfl, rfl, rfl, by decide +kernel, rfl, by decide +kernel, by decide +kernel⟩
theorem bi_law_result_of {K : PySem.W.Frag} {f : Addr} {fd : FuncData} (F : FnF K "_law_result_of" "_law_result_of" s_law_result_of [] f fd) : Binds K fd P_law_result_of [] := FunD.bindsN F fun _ _ _ _ _ _ us hl => match us, hl with | [_, _], _ => rfl
theorem c_law_result_of (T : Txt W.K W.mg a) (D : DefAt W "_law_result_of" "_law_result_of" "_law_result_of" s_law_result_of) (c_law_order_bits : Cal W CX0 1 "_law_order_bits" P_law_order_bits sp_obits) (c_law_order_of : Cal W CX0 2 "_law_order_of" P_law_order_of sp_oof) : Cal W CX0 3 "_law_result_of" P_law_result_of sp_rof := cal_mk D sc_law_result_of len2 (fun _ _ => bi_law_result_of) fun f cdv A outer s H vs Q E hr h => by
  obtain ⟨_, _, rfl, p, n, b1, b2, b3, l, b, rfl, rfl, hp, ok1, ok2, ok3, hl, hbn, ho, q⟩ := sp2_of h
  have hn := ok1.1
  refine ⟨_, (PSs.nox (pss_cons (ps_set (i := 2) sc_law_result_of.nd rfl (by first | exact Or.inl rfl | exact Or.inr rfl) (pe_lst (pa_cons pe_int (pa_cons pe_int (pa_cons pe_int pa_nil)))))
 (pss_cons (ps_for PassesOwn.never rfl (pi_range1 (by rfl) T.range (pa_cons (pe_callB call_len_seq rfl T.len PySem.boot_len (pa_cons (pv 1) pa_nil)) pa_nil)) (pg_name (i := 3) sc_law_result_of.nd rfl (by first | exact Or.inl rfl | exact Or.inr rfl))
  (pss_cons (ps_set (i := 4) sc_law_result_of.nd rfl (by first | exact Or.inl rfl | exact Or.inr rfl) (pe_cal c_law_order_bits hr (by omega) pass0 rfl (pa_cons (pe_ix ix_seq (pv 1) (pv 3) (fun _ _ => rfl)) pa_nil)))
 (pss_one (ps_set (i := 2) sc_law_result_of.nd rfl (by first | exact Or.inl rfl | exact Or.inr rfl) (pe_lc (own := [("_law_k", 5)]) (g := gName 5) (tt := tYes) (te := tOp (rI0 fun i j => V.int (i + j)) (tOp (rIx W.K) (tVar 2) (tVar 5)) (tOp (rI CPow fun i j => V.int (i * 2 ^ j.toNat)) (tOp (rIx W.K) (tVar 4) (tVar 5)) (tVar 3))) rfl sc_law_result_of.nd (pi_range1 (by rfl) T.range (pa_cons pe_int pa_nil)) (blkOk_by (N := N_law_result_of) (sc := defScope s_law_result_of) (by decide +kernel)) (fun _ _ _ _ _ => (pg_name (i := 5) sc_law_result_of.nd rfl (by first | exact Or.inl rfl | exact Or.inr rfl))) (fun _ _ _ _ _ => pts_nil) (fun _ _ _ _ _ => (pe_op op_add (pe_ix ix_seq (pv 2) (pv 5) (fun _ _ => rfl)) (pe_op op_shl (pe_ix ix_seq (pv 4) (pv 5) (fun _ _ => rfl)) (pv 3)))))))))
 (pss_one (ps_ret (pe_cal c_law_order_of hr (by omega) pass0 rfl (pa_cons (pe_ix ix_seq (pe_ix ix_seq (pv 0) pe_int (fun _ _ => rfl)) (pe_ix ix_seq (pv 2) pe_int (fun _ _ => rfl)) (fun _ _ => rfl)) (pa_cons (pe_ix ix_seq (pe_ix ix_seq (pv 0) pe_int (fun _ _ => rfl)) (pe_ix ix_seq (pv 2) pe_int (fun _ _ => rfl)) (fun _ _ => rfl)) (pa_cons (pe_ix ix_seq (pe_ix ix_seq (pv 0) pe_int (fun _ _ => rfl)) (pe_ix ix_seq (pv 2) pe_int (fun _ _ => rfl)) (fun _ _ => rfl)) pa_nil))))))))), ?_⟩
  walk_at "go"
  refine i_nwL (by simp) fun w H1 n1 x1 w1 => ?_
  walk_at "go"
  refine i_lnL (SqL.of (x1 _ _ (fun z => z) hl)) ?_
  walk_at "go"
  refine f_rg (by simp; omega) (fun i σ Hx => (∃ w v3 v4 v5, σ = [some (.ref p), some (.ref l), some (.ref w), v3, v4, v5] ∧ Hx w = some (.lst [.int (wq 0 (b.take i)), .int (wq 1 (b.take i)), .int (wq 2 (b.take i))])) ∧ Ext N0 H Hx) ⟨⟨w, _, _, _, rfl, by simpa [wq] using w1⟩, x1⟩ ?_ ?_
  · rintro i σ Hx hi ⟨⟨w, v3, v4, v5, rfl, hw⟩, x2⟩
    have hi' : i < b.length := by simpa using hi
    obtain ⟨o, hoi⟩ : ∃ o, b[i]? = some o := ⟨b[i], List.getElem?_eq_getElem hi'⟩
    have hom := ho o (List.mem_of_getElem? hoi)
    have hl2 := x2 _ _ (fun z => z) hl
    walk_at "go"
    refine .inl (i_ixL (At.raw hl2) (v := .str o) (atI_nat (by rw [List.getElem?_map, hoi]; rfl)) ?_)
    walk_at "go"
    refine ⟨o, rfl, hom, fun t H2 x3 t2 => ?_⟩
    walk_at "go"
    have hw2 := x3 _ _ (fun z => z) hw
    refine c_rg (n := 3) (M := N0) MOk.zero (by omega) (fun _ _ _ => True) (fun D j y _ => y = .int (wq j (b.take i) + bq j o * 2 ^ i)) fun D nD => ⟨fun _ _ _ _ _ e => e, fun _ _ _ _ e => e, trivial, ?_, ?_⟩
    · intro j H4 N N' hj x4 m4 _ nx
      have hw4 := (((At.raw hw2).plus nD).ext x4).2
      have ht4 := (((At.raw t2).plus nD).ext x4).2
      walk_at "go"
      refine i_yes rfl ?_
      have hc0 : ∀ c : Nat, CPow (bq c o) (i : Int) := fun c => ⟨by omega, by omega, by rcases bq_01 c o with h | h <;> rw [h] <;> decide⟩
      have h3 : j = 0 ∨ j = 1 ∨ j = 2 := by omega
      rcases h3 with rfl | rfl | rfl
      all_goals
        walk_at "go"
        refine .inl (i_ixL (At.raw hw4) rfl ?_)
        walk_at "go"
        refine .inr (.inl (i_ixT (At.raw ht4) rfl ?_))
        walk_at "go"
        refine i_I (hc0 _) ?_
        refine i_I0 ?_
        exact nx _ _ (Ext.refl _ _) m4.less rfl trivial
    · intro acc H4 hl4 hr' hd x4 m4 _
      walk_at "go"
      refine ⟨⟨D, _, _, _, rfl, ?_⟩, (x2.trans x3).trans x4⟩
      have e : b.take (i + 1) = b.take i ++ [o] := by
        rw [List.take_succ, hoi]; rfl
      have e2 : (b.take i).length = i := by simp; omega
      rw [e, wq_app, wq_app, wq_app, e2, hd]
      match acc, hl4, hr' with
      | [a0, a1, a2], _, hr' => rw [hr' 0 a0 rfl, hr' 1 a1 rfl, hr' 2 a2 rfl]
  · rintro σ Hx ⟨⟨w, v3, v4, v5, rfl, hw⟩, x2⟩
    have hw : Hx w = some (.lst [.int (wq 0 b), .int (wq 1 b), .int (wq 2 b)]) := by
      rw [hw, List.take_of_length_le (by simp)]
    obtain ⟨r1, r2, r3, h0, h1, h2, h3⟩ := (hp.ext x2).ex
    have w0 := wq_lo 0 b
    have w1 := wq_lo 1 b
    have w2 := wq_lo 2 b
    rw [hbn] at w0 w1 w2
    obtain ⟨i, ei, gi⟩ := gI_at ok1 w0.1 w0.2
    obtain ⟨j, ej, gj⟩ := gI_at ok2 w1.1 w1.2
    obtain ⟨k, ek, gk⟩ := gI_at ok3 w2.1 w2.2
    walk_at "go"
    refine .inl (i_ixL h0 (i := 0) rfl ?_)
    walk_at "go"
    refine .inl (i_ixL (At.raw hw) (i := 0) rfl ?_)
    walk_at "go"
    refine .inl (i_ixL h1 (by rw [ei]; exact atI_nat (by rw [List.getElem?_map, gi]; rfl)) ?_)
    walk_at "go"
    refine .inl (i_ixL h0 (i := 1) rfl ?_)
    walk_at "go"
    refine .inl (i_ixL (At.raw hw) (i := 1) rfl ?_)
    walk_at "go"
    refine .inl (i_ixL h2 (by rw [ej]; exact atI_nat (by rw [List.getElem?_map, gj]; rfl)) ?_)
    walk_at "go"
    refine .inl (i_ixL h0 (i := 2) rfl ?_)
    walk_at "go"
    refine .inl (i_ixL (At.raw hw) (i := 2) rfl ?_)
    walk_at "go"
    refine .inl (i_ixL h3 (by rw [ek]; exact atI_nat (by rw [List.getElem?_map, gk]; rfl)) ?_)
    walk_at "go"
    exact ⟨_, _, _, rfl, rfl, rfl, fun H4 x4 => q H4 (x2.trans x4)⟩
end Bs
set_option Elab.async false
set_option linter.all false
set_option maxRecDepth 100000
set_option maxHeartbeats 400000
namespace Bs
open PySem PySem.Spec PyProof.Rows L2 SX
open C8 (pe_gc pss_cut)
local macro_rules | `(tactic| walk_at "xt") => `(tactic| first | assumption | exact Ext.weak (by assumption) | exact Ext.is (by assumption) (by assumption) | exact Ext.plus (by assumption) | exact Ext.plus (Ext.weak (by assumption)) | exact Ext.plus (Ext.is (by assumption) (by assumption)) | exact Ext.set plus_self)
local macro_rules | `(tactic| walk_at "gr") => `(tactic| first | assumption | exact Ext.grow (by assumption) | exact Grow.upd)
local macro_rules | `(tactic| walk_at "mo") => `(tactic| first | assumption | exact MOk.zero | ((first | refine MOk.grow ?_ (by walk_at "gr") | exact MOk.upd (by walk_at "mo")); walk_at "mo") | exact MOk.plus (by walk_at "mo") (by assumption))
local macro_rules | `(tactic| walk_at "hp") => `(tactic| first
  | assumption | exact At.raw (by assumption)
  | exact At.mk' (by walk_at "mo") (by assumption) (by assumption)
  | ((first | refine At.ext (by walk_at "xt") ?_ | refine Rp.ext (by walk_at "xt") ?_ | refine RpA.ext (by walk_at "xt") ?_ | refine Tb.ext (by walk_at "xt") ?_); walk_at "hp")
  | ((first | refine At.plus (by assumption) ?_ | refine Rp.plus (by assumption) ?_ | refine RpA.plus (by assumption) ?_ | refine Tb.plus (by assumption) ?_); walk_at "hp"))
local macro_rules | `(tactic| walk_at "at") => `(tactic| first | assumption | exact At.get (M := N0) (by walk_at "hp"))
local macro_rules | `(tactic| walk_at "sq") => `(tactic| first | exact SqL.of (by walk_at "at") | exact SqT.of (by walk_at "at"))
local macro_rules | `(tactic| walk_at "st") => `(tactic| with_reducible first
  | refine i_seq ?_ | refine i_asg ?_ | refine i_ret ?_ | refine i_retN ?_ | refine i_drop ?_ | refine i_ifS ?_ | refine i_next ?_ | refine i_brk ?_
  | refine i_gname ?_ | refine i_gsub ?_ | refine i_c ?_ | refine i_op ?_ | refine i_un ?_ | refine i_I0 ?_ | refine i_U ?_ | refine i_isN ?_ | refine i_notN ?_
  | refine i_test ?_ | refine i_tB ?_ | refine i_bl ?_ | refine i_and ?_ | refine i_or ?_ | refine i_not ?_ | refine i_andV ?_ | refine i_orV ?_ | refine i_notV ?_ | refine i_ifE ?_
  | refine i_nil ?_ | refine i_cons ?_ | refine i_for ?_ | refine i_iL ?_ | refine i_iT ?_ | refine i_iR ?_ | refine i_lc ?_ | refine i_prp ?_ | refine i_mk ?_ | refine i_sS ?_ | refine i_sN ?_ | refine i_nsS ?_ | refine i_nsN ?_ | refine i_fld ?_ | refine i_sf ?_ | refine i_inO ?_ | refine i_lsO ?_ | refine i_tpO ?_ | refine i_lnO ?_ | refine i_cb ?_ | refine i_call ?_ | refine i_tup ?_ | refine i_lst ?_ | refine i_dnew ?_ | refine i_inI ?_ | refine i_inB ?_ | refine i_rgX ?_ | refine i_lrO ?_ | refine i_rg1 ?_ | refine i_nF ?_ | refine i_nT ?_ | refine i_tt ?_ | refine i_ff ?_ | refine i_ifT ?_ | refine i_ifF ?_
  | refine i_eqI ?_ | refine i_eqS ?_ | refine i_eqB ?_ | refine i_neI ?_ | refine i_neS ?_ | refine i_dR ?_ | refine i_dI ?_ | refine i_dT ?_ | refine i_dS ?_ | refine i_dN ?_ | refine i_nR ?_ | refine i_nI ?_ | refine i_nN ?_
  | (refine i_var (by with_unfolding_all rfl) ?_) | refine i_eq rfl ?_ | refine i_ne rfl ?_)
local macro_rules | `(tactic| walk_at "sc") => `(tactic| first | exact (Rp.int (M := N0) _) | exact (Rp.str (M := N0) _) | exact (Rp.bl (M := N0) _) | exact (Rp.non (M := N0)) | assumption | exact Rp.tab (by assumption) | exact Tb.rp (by assumption))
local macro_rules | `(tactic| walk_at "sd") => `(tactic| simp only [d_Bool_non, d_Bool_bl, d_Bool_int, d_Bool_str, d_Bool_lst, d_Bool_tup, d_Bool_tab, d_Bool_dic, d_Int_non, d_Int_bl, d_Int_int, d_Int_str, d_Int_lst, d_Int_tup, d_Int_tab, d_Int_dic, d_Str_non, d_Str_bl, d_Str_int, d_Str_str, d_Str_lst, d_Str_tup, d_Str_tab, d_Str_dic, d_List_non, d_List_bl, d_List_int, d_List_str, d_List_lst, d_List_tup, d_List_tab, d_List_dic, d_Tup_non, d_Tup_bl, d_Tup_int, d_Tup_str, d_Tup_lst, d_Tup_tup, d_Tup_tab, d_Tup_dic, d_Tab_non, d_Tab_bl, d_Tab_int, d_Tab_str, d_Tab_lst, d_Tab_tup, d_Tab_tab, d_Tab_dic, Bool.not_true, Bool.not_false, Bool.true_or, Bool.false_or, Bool.or_true, Bool.or_false, Bool.and_true, Bool.true_and, Bool.and_false, Bool.false_and, if_true, if_false, Bool.false_eq_true])
local macro_rules | `(tactic| walk_at "isi") => `(tactic| ((first | with_reducible apply i_isB | with_reducible apply i_isI | with_reducible apply i_isS | with_reducible apply i_isL | with_reducible apply i_isT | with_reducible apply i_isTab); (focus assumption); (focus walk_at "sc"); try simp only [d_Bool_non, d_Bool_bl, d_Bool_int, d_Bool_str, d_Bool_lst, d_Bool_tup, d_Bool_tab, d_Bool_dic, d_Int_non, d_Int_bl, d_Int_int, d_Int_str, d_Int_lst, d_Int_tup, d_Int_tab, d_Int_dic, d_Str_non, d_Str_bl, d_Str_int, d_Str_str, d_Str_lst, d_Str_tup, d_Str_tab, d_Str_dic, d_List_non, d_List_bl, d_List_int, d_List_str, d_List_lst, d_List_tup, d_List_tab, d_List_dic, d_Tup_non, d_Tup_bl, d_Tup_int, d_Tup_str, d_Tup_lst, d_Tup_tup, d_Tup_tab, d_Tup_dic, d_Tab_non, d_Tab_bl, d_Tab_int, d_Tab_str, d_Tab_lst, d_Tab_tup, d_Tab_tab, d_Tab_dic]))
local macro_rules | `(tactic| walk_at "om") => `(tactic| first | ((with_reducible refine i_decF ?_ ?_); (focus omega)) | ((with_reducible refine i_decT ?_ ?_); (focus omega)) | ((with_reducible refine i_ndecF ?_ ?_); (focus omega)) | ((with_reducible refine i_ndecT ?_ ?_); (focus omega)))
local macro_rules | `(tactic| walk_at "go") => `(tactic| ((repeat (first | walk_at "st" | walk_at "isi" | walk_at "om")); try dsimp only [List.set]))
variable {W : Wd} {a : Ad}
/-! P1: constants and place tables, in plain Lean. -/
theorem sum01 : ∀ l : List Int, (∀ b ∈ l, b = 0 ∨ b = 1) → 0 ≤ l.sum ∧ l.sum ≤ l.length ∧ (l.sum = 0 ↔ l = List.replicate l.length 0) ∧ (l.sum = l.length ↔ l = List.replicate l.length 1)
  | [], _ => by simp
  | b :: r, h => by
    obtain ⟨h1, h2, h3, h4⟩ := sum01 r fun x hx => h x (List.mem_cons_of_mem _ hx)
    have hb := h b List.mem_cons_self
    have e1 : (b :: r).sum = b + r.sum := List.sum_cons
    have e2 : ((b :: r).length : Int) = r.length + 1 := by simp
    rw [e1, e2, List.length_cons, List.replicate_succ, List.replicate_succ]
    refine ⟨by omega, by omega, ⟨fun e => ?_, fun e => ?_⟩, ⟨fun e => ?_, fun e => ?_⟩⟩
    · have : b = 0 := by omega
      rw [this, ← h3.mp (by omega)]
    · have h5 := List.cons.inj e
      have := h3.mpr h5.2
      omega
    · have : b = 1 := by omega
      rw [this, ← h4.mp (by omega)]
    · have h5 := List.cons.inj e
      have := h4.mpr h5.2
      omega
theorem con0 {n : Nat} {b : List Int} (h : TabOk n b) : con n b = some 0 ↔ b = List.replicate (2 ^ n) 0 := by
  obtain ⟨h1, h2, h3, h4⟩ := sum01 b h.2.2
  rw [h.2.1] at h3 h4
  rw [← h3, con]
  by_cases e : b.sum = 0
  · rw [if_pos e]; simp [e]
  · rw [if_neg e]
    constructor
    · intro z
      split at z <;> simp at z
    · intro z; exact absurd z e
theorem con1 {n : Nat} {b : List Int} (h : TabOk n b) : con n b = some 1 ↔ b = List.replicate (2 ^ n) 1 := by
  obtain ⟨h1, h2, h3, h4⟩ := sum01 b h.2.2
  have hp : 0 < 2 ^ n := Nat.two_pow_pos n
  rw [h.2.1] at h3 h4
  rw [← h4, con]
  by_cases e : b.sum = 0
  · rw [if_pos e]
    constructor
    · intro z; simp at z
    · intro z; omega
  · rw [if_neg e]
    constructor
    · intro z
      split at z
      · assumption
      · simp at z
    · intro z; rw [if_pos z]
theorem con_or {n : Nat} {b : List Int} : con n b = some 0 ∨ con n b = some 1 ∨ con n b = none := by
  unfold con
  split
  · exact .inl rfl
  · split
    · exact .inr (.inl rfl)
    · exact .inr (.inr rfl)
theorem rep_ne {n : Nat} : List.replicate (2 ^ n) (0 : Int) ≠ List.replicate (2 ^ n) 1 := by
  have hp : 0 < 2 ^ n := Nat.two_pow_pos n
  intro e
  obtain ⟨m, hm⟩ : ∃ m, 2 ^ n = m + 1 := ⟨2 ^ n - 1, by omega⟩
  rw [hm, List.replicate_succ, List.replicate_succ] at e
  have := (List.cons.inj e).1
  omega
theorem rep_hd {n : Nat} (v : Int) : gI (List.replicate (2 ^ n) v) 0 = v := by
  have hp : 0 < 2 ^ n := Nat.two_pow_pos n
  simp [gI, List.getD_eq_getElem?_getD, List.getElem?_replicate, hp]
/-- the law's own words for unlike constants -/
theorem unl_law {n : Nat} {b c : List Int} (hb : TabOk n b) (hc : TabOk n c) : (b = List.replicate (2 ^ n) (gI b 0) ∧ c = List.replicate (2 ^ n) (1 - gI b 0)) ↔ unl (con n b) (con n c) = true := by
  have hg : gI b 0 = 0 ∨ gI b 0 = 1 := by
    obtain ⟨i, _, e⟩ := gI_at hb (w := 0) (by omega) (by exact_mod_cast Nat.two_pow_pos n)
    exact hb.2.2 _ (List.mem_of_getElem? e)
  constructor
  · rintro ⟨h1, h2⟩
    rcases hg with e | e
    · rw [e] at h1 h2
      rw [(con0 hb).mpr h1, (con1 hc).mpr h2]; rfl
    · rw [e] at h1 h2
      rw [(con1 hb).mpr h1, (con0 hc).mpr h2]; rfl
  · intro h
    rcases con_or (n := n) (b := b) with e | e | e
    · rcases con_or (n := n) (b := c) with f | f | f
      · rw [e, f] at h; cases h
      · have h1 := (con0 hb).mp e
        have h2 := (con1 hc).mp f
        rw [h1, rep_hd]
        exact ⟨rfl, h2⟩
      · rw [e, f] at h; cases h
    · rcases con_or (n := n) (b := c) with f | f | f
      · have h1 := (con1 hb).mp e
        have h2 := (con0 hc).mp f
        rw [h1, rep_hd]
        exact ⟨rfl, h2⟩
      · rw [e, f] at h; cases h
      · rw [e, f] at h; cases h
    · rw [e] at h; cases h
/-! bits -/
theorem band1 (x p : Nat) : Builtin.bitAnd ((x : Int) / 2 ^ p) 1 = if x.testBit p = true then 1 else 0 := by
  have e : ((x : Int) / 2 ^ p) = ((x / 2 ^ p : Nat) : Int) := by
    rw [Int.natCast_ediv]; simp
  rw [e]
  unfold Builtin.bitAnd
  have h1 : decide ((0 : Int) ≤ ((x / 2 ^ p : Nat) : Int)) = true := decide_eq_true (Int.natCast_nonneg _)
  have h2 : decide ((0 : Int) ≤ 1) = true := by decide
  rw [h1, h2]
  show (((((x / 2 ^ p : Nat) : Int).toNat &&& (1 : Int).toNat : Nat)) : Int) = _
  have e3 : ((x / 2 ^ p : Nat) : Int).toNat = x / 2 ^ p := Int.toNat_natCast _
  have e4 : (1 : Int).toNat = 1 := rfl
  rw [e3, e4, Nat.and_one_is_mod]
  rw [Nat.testBit_eq_decide_div_mod_eq]
  have : x / 2 ^ p % 2 = 0 ∨ x / 2 ^ p % 2 = 1 := by omega
  rcases this with h | h <;> rw [h] <;> simp
theorem plI_get {n p x : Nat} {b : Int} (hx : x < 2 ^ n) : (plI n p b)[x]? = some (Builtin.bitXor (if x.testBit p = true then 1 else 0) b) := by
  unfold plI
  rw [List.getElem?_map, List.getElem?_range hx]
  show some (Builtin.bitXor (Builtin.bitAnd ((x : Int) / 2 ^ p) 1) b) = _
  rw [band1]
theorem plI_inj {n p q : Nat} {b c : Int} (hp : p < n) (hq : q < n) (hb : b = 0 ∨ b = 1) (hc : c = 0 ∨ c = 1) (h : plI n p b = plI n q c) : p = q ∧ b = c := by
  have h0 := plI_get (n := n) (p := p) (x := 0) (b := b) (Nat.two_pow_pos n)
  have h1 := plI_get (n := n) (p := q) (x := 0) (b := c) (Nat.two_pow_pos n)
  rw [h, h1] at h0
  have e0 := Option.some.inj h0
  rw [Nat.zero_testBit, Nat.zero_testBit] at e0
  have hbc : b = c := by
    rcases hb with rfl | rfl <;> rcases hc with rfl | rfl <;> first | rfl | (exact absurd e0 (by decide +kernel))
  subst hbc
  refine ⟨?_, rfl⟩
  have hx : 2 ^ p < 2 ^ n := Nat.pow_lt_pow_right (by omega) hp
  have g0 := plI_get (n := n) (p := p) (x := 2 ^ p) (b := b) hx
  have g1 := plI_get (n := n) (p := q) (x := 2 ^ p) (b := b) hx
  rw [h, g1] at g0
  have e1 := Option.some.inj g0
  rw [Nat.testBit_two_pow, Nat.testBit_two_pow] at e1
  by_cases e : p = q
  · exact e
  · rw [decide_eq_true (rfl : p = p), decide_eq_false e] at e1
    rcases hb with rfl | rfl <;> exact absurd e1 (by decide +kernel)
/-- the law's own words for a common place -/
theorem own_law {n : Nat} {bs : List Int} {i j : Int} : ownEq (ownIx n bs) i j = true ↔ 0 ≤ i ∧ i < n ∧ (j = 0 ∨ j = 1) ∧ plI n i.toNat j = bs := by
  constructor
  · intro h
    cases e : ownIx n bs with
    | none => rw [e] at h; cases h
    | some c =>
      rw [e] at h
      obtain ⟨h1, h2⟩ := of_decide_eq_true h
      rw [ownIx, List.find?_range_eq_some] at e
      obtain ⟨e1, e2, _⟩ := e
      have e2 := List.mem_range.mp e2
      have e1 := of_decide_eq_true e1
      refine ⟨by omega, by omega, by omega, ?_⟩
      rw [← h1, ← h2, Int.toNat_natCast]
      exact e1
  · rintro ⟨h1, h2, h3, h4⟩
    obtain ⟨p, rfl⟩ := Int.eq_ofNat_of_zero_le h1
    obtain ⟨b, rfl⟩ : ∃ b : Nat, j = b := ⟨j.toNat, by omega⟩
    have hpn : p < n := by omega
    have hb : b < 2 := by omega
    have e : ownIx n bs = some (p * 2 + b) := by
      refine find_some (by omega) ?_ fun c hc => ?_
      · have a1 : (p * 2 + b) / 2 = p := by omega
        have a2 : (p * 2 + b) % 2 = b := by omega
        rw [a1, a2]
        exact decide_eq_true h4
      · refine decide_eq_false fun z => ?_
        have := plI_inj (n := n) (p := c / 2) (q := p) (b := ((c % 2 : Nat) : Int)) (c := (b : Int)) (by omega) hpn (by omega) (by omega) (z.trans h4.symm)
        omega
    rw [e]
    have a1 : (p * 2 + b) / 2 = p := by omega
    have a2 : (p * 2 + b) % 2 = b := by omega
    show decide ((((p * 2 + b) / 2 : Nat) : Int) = (p : Int) ∧ (((p * 2 + b) % 2 : Nat) : Int) = (b : Int)) = true
    rw [a1, a2]
    exact decide_eq_true ⟨rfl, rfl⟩
end Bs
set_option Elab.async false
set_option linter.all false
set_option maxRecDepth 100000
set_option maxHeartbeats 400000
namespace Bs
open PySem PySem.Spec PyProof.Rows L2 SX
open C8 (pe_gc pss_cut)
local macro_rules | `(tactic| walk_at "xt") => `(tactic| first | assumption | exact Ext.weak (by assumption) | exact Ext.is (by assumption) (by assumption) | exact Ext.plus (by assumption) | exact Ext.plus (Ext.weak (by assumption)) | exact Ext.plus (Ext.is (by assumption) (by assumption)) | exact Ext.set plus_self)
local macro_rules | `(tactic| walk_at "gr") => `(tactic| first | assumption | exact Ext.grow (by assumption) | exact Grow.upd)
local macro_rules | `(tactic| walk_at "mo") => `(tactic| first | assumption | exact MOk.zero | ((first | refine MOk.grow ?_ (by walk_at "gr") | exact MOk.upd (by walk_at "mo")); walk_at "mo") | exact MOk.plus (by walk_at "mo") (by assumption))
local macro_rules | `(tactic| walk_at "hp") => `(tactic| first
  | assumption | exact At.raw (by assumption)
  | exact At.mk' (by walk_at "mo") (by assumption) (by assumption)
  | ((first | refine At.ext (by walk_at "xt") ?_ | refine Rp.ext (by walk_at "xt") ?_ | refine RpA.ext (by walk_at "xt") ?_ | refine Tb.ext (by walk_at "xt") ?_); walk_at "hp")
  | ((first | refine At.plus (by assumption) ?_ | refine Rp.plus (by assumption) ?_ | refine RpA.plus (by assumption) ?_ | refine Tb.plus (by assumption) ?_); walk_at "hp"))
local macro_rules | `(tactic| walk_at "at") => `(tactic| first | assumption | exact At.get (M := N0) (by walk_at "hp"))
local macro_rules | `(tactic| walk_at "sq") => `(tactic| first | exact SqL.of (by walk_at "at") | exact SqT.of (by walk_at "at"))
local macro_rules | `(tactic| walk_at "st") => `(tactic| with_reducible first
  | refine i_seq ?_ | refine i_asg ?_ | refine i_ret ?_ | refine i_retN ?_ | refine i_drop ?_ | refine i_ifS ?_ | refine i_next ?_ | refine i_brk ?_
  | refine i_gname ?_ | refine i_gsub ?_ | refine i_c ?_ | refine i_op ?_ | refine i_un ?_ | refine i_I0 ?_ | refine i_U ?_ | refine i_isN ?_ | refine i_notN ?_
  | refine i_test ?_ | refine i_tB ?_ | refine i_bl ?_ | refine i_and ?_ | refine i_or ?_ | refine i_not ?_ | refine i_andV ?_ | refine i_orV ?_ | refine i_notV ?_ | refine i_ifE ?_
  | refine i_nil ?_ | refine i_cons ?_ | refine i_for ?_ | refine i_iL ?_ | refine i_iT ?_ | refine i_iR ?_ | refine i_lc ?_ | refine i_prp ?_ | refine i_mk ?_ | refine i_sS ?_ | refine i_sN ?_ | refine i_nsS ?_ | refine i_nsN ?_ | refine i_fld ?_ | refine i_sf ?_ | refine i_inO ?_ | refine i_lsO ?_ | refine i_tpO ?_ | refine i_lnO ?_ | refine i_cb ?_ | refine i_call ?_ | refine i_tup ?_ | refine i_lst ?_ | refine i_dnew ?_ | refine i_inI ?_ | refine i_inB ?_ | refine i_rgX ?_ | refine i_lrO ?_ | refine i_rg1 ?_ | refine i_nF ?_ | refine i_nT ?_ | refine i_tt ?_ | refine i_ff ?_ | refine i_ifT ?_ | refine i_ifF ?_
  | refine i_eqI ?_ | refine i_eqS ?_ | refine i_eqB ?_ | refine i_neI ?_ | refine i_neS ?_ | refine i_dR ?_ | refine i_dI ?_ | refine i_dT ?_ | refine i_dS ?_ | refine i_dN ?_ | refine i_nR ?_ | refine i_nI ?_ | refine i_nN ?_
  | (refine i_var (by with_unfolding_all rfl) ?_) | refine i_eq rfl ?_ | refine i_ne rfl ?_)
local macro_rules | `(tactic| walk_at "sc") => `(tactic| first | exact (Rp.int (M := N0) _) | exact (Rp.str (M := N0) _) | exact (Rp.bl (M := N0) _) | exact (Rp.non (M := N0)) | assumption | exact Rp.tab (by assumption) | exact Tb.rp (by assumption))
local macro_rules | `(tactic| walk_at "sd") => `(tactic| simp only [d_Bool_non, d_Bool_bl, d_Bool_int, d_Bool_str, d_Bool_lst, d_Bool_tup, d_Bool_tab, d_Bool_dic, d_Int_non, d_Int_bl, d_Int_int, d_Int_str, d_Int_lst, d_Int_tup, d_Int_tab, d_Int_dic, d_Str_non, d_Str_bl, d_Str_int, d_Str_str, d_Str_lst, d_Str_tup, d_Str_tab, d_Str_dic, d_List_non, d_List_bl, d_List_int, d_List_str, d_List_lst, d_List_tup, d_List_tab, d_List_dic, d_Tup_non, d_Tup_bl, d_Tup_int, d_Tup_str, d_Tup_lst, d_Tup_tup, d_Tup_tab, d_Tup_dic, d_Tab_non, d_Tab_bl, d_Tab_int, d_Tab_str, d_Tab_lst, d_Tab_tup, d_Tab_tab, d_Tab_dic, Bool.not_true, Bool.not_false, Bool.true_or, Bool.false_or, Bool.or_true, Bool.or_false, Bool.and_true, Bool.true_and, Bool.and_false, Bool.false_and, if_true, if_false, Bool.false_eq_true])
local macro_rules | `(tactic| walk_at "isi") => `(tactic| ((first | with_reducible apply i_isB | with_reducible apply i_isI | with_reducible apply i_isS | with_reducible apply i_isL | with_reducible apply i_isT | with_reducible apply i_isTab); (focus assumption); (focus walk_at "sc"); try simp only [d_Bool_non, d_Bool_bl, d_Bool_int, d_Bool_str, d_Bool_lst, d_Bool_tup, d_Bool_tab, d_Bool_dic, d_Int_non, d_Int_bl, d_Int_int, d_Int_str, d_Int_lst, d_Int_tup, d_Int_tab, d_Int_dic, d_Str_non, d_Str_bl, d_Str_int, d_Str_str, d_Str_lst, d_Str_tup, d_Str_tab, d_Str_dic, d_List_non, d_List_bl, d_List_int, d_List_str, d_List_lst, d_List_tup, d_List_tab, d_List_dic, d_Tup_non, d_Tup_bl, d_Tup_int, d_Tup_str, d_Tup_lst, d_Tup_tup, d_Tup_tab, d_Tup_dic, d_Tab_non, d_Tab_bl, d_Tab_int, d_Tab_str, d_Tab_lst, d_Tab_tup, d_Tab_tab, d_Tab_dic]))
local macro_rules | `(tactic| walk_at "om") => `(tactic| first | ((with_reducible refine i_decF ?_ ?_); (focus omega)) | ((with_reducible refine i_decT ?_ ?_); (focus omega)) | ((with_reducible refine i_ndecF ?_ ?_); (focus omega)) | ((with_reducible refine i_ndecT ?_ ?_); (focus omega)))
local macro_rules | `(tactic| walk_at "go") => `(tactic| ((repeat (first | walk_at "st" | walk_at "isi" | walk_at "om")); try dsimp only [List.set]))
variable {W : Wd} {a : Ad}
/-! L9: the law's judge. -/
theorem inPr_eq (i j : Int) : inPr i j = decide (0 ≤ i ∧ i < j ∧ j ≤ 2) := by
  unfold inPr
  by_cases h : 0 ≤ i ∧ i < j ∧ j ≤ 2
  · rw [decide_eq_true h]; exact decide_eq_true (by omega)
  · rw [decide_eq_false h]; exact decide_eq_false (by omega)
theorem Rw.at {M : Mt} {H : Hp} {p : Addr} {b1 b2 b3 : List Int} (h : Rw M H p b1 b2 b3) : ∃ xs, At M H p (.lst xs) ∧ ∀ i : Nat, i < 3 → ∃ r, atI xs (i : Int) = some (.ref r) ∧ At M H r (.lst ((b3of b1 b2 b3 i).map V.int)) := by
  obtain ⟨r1, r2, r3, h0, h1, h2, h3⟩ := h.ex
  refine ⟨_, h0, fun i hi => ?_⟩
  match i, hi with
  | 0, _ => exact ⟨r1, rfl, h1⟩
  | 1, _ => exact ⟨r2, rfl, h2⟩
  | 2, _ => exact ⟨r3, rfl, h3⟩
theorem acc_rep {c : Int} : ∀ {m : Nat} {acc : List V}, acc.length = m → (∀ (i : Nat) y, acc[i]? = some y → y = .int c) → acc = (List.replicate m c).map V.int
  | 0, [], _, _ => rfl
  | m + 1, v :: vs, h, k => by
    rw [k 0 v rfl, List.replicate_succ, List.map_cons, ← acc_rep (m := m) (by simpa using h) fun i y hy => k (i + 1) y (by simpa using hy)]
theorem acc_pl {n p : Nat} {c : Int} {acc : List V} (h : acc.length = 2 ^ n) (k : ∀ (i : Nat) y, acc[i]? = some y → y = .int (Builtin.bitXor (Builtin.bitAnd ((i : Int) / 2 ^ p) 1) c)) : acc = (plI n p c).map V.int := by
  apply List.ext_getElem?
  intro j
  cases e : acc[j]? with
  | some y =>
    have hj : j < 2 ^ n := by rw [← h]; exact (List.getElem?_eq_some_iff.mp e).1
    rw [k j y e, plI, List.getElem?_map, List.getElem?_map, List.getElem?_range hj]; rfl
  | none =>
    have : acc.length ≤ j := List.getElem?_eq_none_iff.mp e
    symm
    rw [List.getElem?_eq_none_iff]
    rw [h] at this
    simpa [plI] using this
theorem ownEq_dec {n : Nat} {bs : List Int} {i j : Int} (h1 : 0 ≤ i) (h2 : i < n) (h3 : j = 0 ∨ j = 1) : ownEq (ownIx n bs) i j = decide (bs = plI n i.toNat j) := by
  by_cases h : bs = plI n i.toNat j
  · rw [decide_eq_true h]
    exact own_law.mpr ⟨h1, h2, h3, h.symm⟩
  · rw [decide_eq_false h]
    cases e : ownEq (ownIx n bs) i j with
    | false => rfl
    | true => exact absurd (own_law.mp e).2.2.2.symm h
theorem ownAll_no {n : Nat} {b1 b2 b3 : List Int} {i j : Int} (h : ¬ (0 ≤ i ∧ i < n ∧ (j = 0 ∨ j = 1))) : ownAll n b1 b2 b3 i j = false := by
  unfold ownAll
  cases e : ownEq (ownIx n b1) i j with
  | false => rfl
  | true =>
    obtain ⟨g1, g2, g3, _⟩ := own_law.mp e
    exact absurd ⟨g1, g2, g3⟩ h
theorem unl_dec {n : Nat} {b c : List Int} (hb : TabOk n b) (hc : TabOk n c) : unl (con n b) (con n c) = (decide (b = List.replicate (2 ^ n) (gI b 0)) && decide (c = List.replicate (2 ^ n) (1 - gI b 0))) := by
  have := unl_law hb hc
  by_cases h1 : b = List.replicate (2 ^ n) (gI b 0)
  · by_cases h2 : c = List.replicate (2 ^ n) (1 - gI b 0)
    · rw [decide_eq_true h1, decide_eq_true h2]; exact this.mp ⟨h1, h2⟩
    · rw [decide_eq_true h1, decide_eq_false h2]
      cases e : unl (con n b) (con n c) with
      | false => rfl
      | true => exact absurd (this.mpr e).2 h2
  · rw [decide_eq_false h1]
    cases e : unl (con n b) (con n c) with
    | false => rfl
    | true => exact absurd (this.mpr e).1 h1
theorem ok3of {n : Nat} {b1 b2 b3 : List Int} (h1 : TabOk n b1) (h2 : TabOk n b2) (h3 : TabOk n b3) : ∀ i, TabOk n (b3of b1 b2 b3 i)
  | 0 => h1
  | 1 => h2
  | _ + 2 => h3
def sp_rright (ct : Addr) : Sp := sp3 fun x y v H Q _ => ∃ n p b1 b2 b3 d, x = .int (n : Nat) ∧ y = .ref p ∧ Rw N0 H p b1 b2 b3 ∧ TabOk n b1 ∧ TabOk n b2 ∧ TabOk n b3 ∧ Rp ct N0 H v d ∧ ∀ H', Ext N0 H H' → Q (.bl (isRing n b1 b2 b3 d)) H'
abbrev s_law_ring_right : Stmt := top 92
abbrev N_law_ring_right : List Str := ["_law_wide_here", "_law_three", "_law_given", "_law_item", "_law_size", "_law_one", "_law_row", "_law_k", "_law_x"]
abbrev P_law_ring_right : List Str := ["_law_wide_here", "_law_three", "_law_given"]
theorem sc_law_ring_right : FnScope N_law_ring_right P_law_ring_right (defScope s_law_ring_right) := ⟨rfl, rfl, rfl, by decide +kernel, rfl, by decide +kernel, by decide +kernel⟩
theorem bi_law_ring_right {K : PySem.W.Frag} {f : Addr} {fd : FuncData} (F : FnF K "_law_ring_right" "_law_ring_right" s_law_ring_right [] f fd) : Binds K fd P_law_ring_right [] := FunD.bindsN F fun _ _ _ _ _ _ us hl => match us, hl with | [_, _, _], _ => rfl
theorem c_law_ring_right (T : Txt W.K W.mg a) (D : DefAt W "_law_ring_right" "_law_ring_right" "_law_ring_right" s_law_ring_right) (c_law_is_integer : Cal W CX0 1 "_law_is_integer" P_law_is_integer (sp_plain a.ct))
    (c_law_result_of : Cal W CX0 3 "_law_result_of" P_law_result_of sp_rof) : Cal W CX0 4 "_law_ring_right" P_law_ring_right (sp_rright a.ct) := cal_mk D sc_law_ring_right len3 (fun _ _ => bi_law_ring_right) fun f cdv A outer s H vs Q E hr h => by
  obtain ⟨_, _, v, rfl, n, p, b1, b2, b3, d, rfl, rfl, hp, ok1, ok2, ok3, hd, q⟩ := sp3_of h
  refine ⟨_, (PSs.nox (pss_cons (ps_if (PW.pt (pw_or (pt_not (pt_val (pe_callB call_isi rfl T.isinstance (by decide +kernel) (pa_cons (pv 2) (pa_cons (pe_bltn (v := .ty "tuple") rfl T.tuple (by decide +kernel) rfl) pa_nil))))) (pw_or (pt_cmpR op_lt (pe_callB call_len_seq rfl T.len PySem.boot_len (pa_cons (pv 2) pa_nil)) pe_int (by rfl)) (pw_or1 (pt_not (pt_val (pe_callB call_isi rfl T.isinstance (by decide +kernel) (pa_cons (pe_ix ix_seq (pv 2) pe_int (fun _ _ => rfl)) (pa_cons (pe_bltn (v := .ty "str") rfl T.str (by decide +kernel) rfl) pa_nil)))))))))
  (pss_one (ps_ret pe_bl))
  pss_nil)
 (pss_cons (ps_if (pt_cmpR op_eq (pe_callB call_len_seq rfl T.len PySem.boot_len (pa_cons (pv 2) pa_nil)) pe_int (by rfl))
  (pss_cons (ps_if (PW.pt (pw_or (pt_cmpR op_ne (pe_ix ix_seq (pv 2) pe_int (fun _ _ => rfl)) pe_str (by rfl)) (pw_or (pt_not (pt_val (pe_callB call_isi rfl T.isinstance (by decide +kernel) (pa_cons (pe_ix ix_seq (pv 2) pe_int (fun _ _ => rfl)) (pa_cons (pe_bltn (v := .ty "list") rfl T.list (by decide +kernel) rfl) pa_nil))))) (pw_or1 (pt_cmpR op_ne (pe_callB call_len_seq rfl T.len PySem.boot_len (pa_cons (pe_ix ix_seq (pv 2) pe_int (fun _ _ => rfl)) pa_nil)) (pv 0) (by rfl))))))
  (pss_one (ps_ret pe_bl))
  pss_nil)
 (pss_cons (ps_for PassesOwn.never rfl (pi_list (pe_ix ix_seq (pv 2) pe_int (fun _ _ => rfl))) (pg_name (i := 3) sc_law_ring_right.nd rfl (by first | exact Or.inl rfl | exact Or.inr rfl))
  (pss_one (ps_if (PW.pt (pw_or (pt_not (pt_val (pe_callB call_isi rfl T.isinstance (by decide +kernel) (pa_cons (pv 3) (pa_cons (pe_bltn (v := .ty "str") rfl T.str (by decide +kernel) rfl) pa_nil))))) (pw_or1 (pt_cmpR op_notIn_seq (pv 3) (pe_lst (pa_cons pe_str (pa_cons pe_str (pa_cons pe_str (pa_cons pe_str (pa_cons pe_str (pa_cons pe_str pa_nil))))))) (by rfl)))))
  (pss_one (ps_ret pe_bl))
  pss_nil)))
 (pss_one (ps_ret (pe_cmpR op_eq (pe_cal c_law_result_of hr (by omega) pass0 rfl (pa_cons (pv 1) (pa_cons (pe_ix ix_seq (pv 2) pe_int (fun _ _ => rfl)) pa_nil))) pe_str (by rfl))))))
  pss_nil)
 (pss_cons (ps_if (PW.pt (pw_or (pt_cmpR op_ne (pe_callB call_len_seq rfl T.len PySem.boot_len (pa_cons (pv 2) pa_nil)) pe_int (by rfl)) (pw_or (pt_not (pt_val (pe_cal c_law_is_integer hr (by omega) pass0 rfl (pa_cons (pe_ix ix_seq (pv 2) pe_int (fun _ _ => rfl)) pa_nil)))) (pw_or1 (pt_not (pt_val (pe_cal c_law_is_integer hr (by omega) pass0 rfl (pa_cons (pe_ix ix_seq (pv 2) pe_int (fun _ _ => rfl)) pa_nil))))))))
  (pss_one (ps_ret pe_bl))
  pss_nil)
 (pss_cons (ps_if (pt_cmpR op_eq (pe_ix ix_seq (pv 2) pe_int (fun _ _ => rfl)) pe_str (by rfl))
  (pss_cons (ps_if (PW.pt (pw_or (pt_cmpR op_lt (pe_ix ix_seq (pv 2) pe_int (fun _ _ => rfl)) pe_int (by rfl)) (pw_or (pt_cmpR op_le (pe_ix ix_seq (pv 2) pe_int (fun _ _ => rfl)) (pe_ix ix_seq (pv 2) pe_int (fun _ _ => rfl)) (by rfl)) (pw_or1 (pt_cmpR op_gt (pe_ix ix_seq (pv 2) pe_int (fun _ _ => rfl)) pe_int (by rfl))))))
  (pss_one (ps_ret pe_bl))
  pss_nil)
 (pss_cons (ps_set (i := 4) sc_law_ring_right.nd rfl (by first | exact Or.inl rfl | exact Or.inr rfl) (pe_op op_shl pe_int (pv 0)))
 (pss_cons (ps_set (i := 5) sc_law_ring_right.nd rfl (by first | exact Or.inl rfl | exact Or.inr rfl) (pe_ix ix_seq (pv 1) (pe_ix ix_seq (pv 2) pe_int (fun _ _ => rfl)) (fun _ _ => rfl)))
 (pss_one (ps_ret (pe_and (pe_cmpR (op_eqD (hr.units)) (pv 5) (pe_lc (own := [("_law_k", 7)]) (g := gName 7) (tt := tYes) (te := tOp (rIx W.K) (tVar 5) (tC (V.int 0))) rfl sc_law_ring_right.nd (pi_range1 (by rfl) T.range (pa_cons (pv 4) pa_nil)) (blkOk_by (N := N_law_ring_right) (sc := defScope s_law_ring_right) (by decide +kernel)) (fun _ _ _ _ _ => (pg_name (i := 7) sc_law_ring_right.nd rfl (by first | exact Or.inl rfl | exact Or.inr rfl))) (fun _ _ _ _ _ => pts_nil) (fun _ _ _ _ _ => (pe_ix ix_seq (pv 5) pe_int (fun _ _ => rfl)))) (by rfl)) (pe_one (pe_cmpR (op_eqD (hr.units)) (pe_ix ix_seq (pv 1) (pe_ix ix_seq (pv 2) pe_int (fun _ _ => rfl)) (fun _ _ => rfl)) (pe_lc (own := [("_law_k", 7)]) (g := gName 7) (tt := tYes) (te := tOp (rI0 fun i j => V.int (i - j)) (tC (V.int 1)) (tOp (rIx W.K) (tVar 5) (tC (V.int 0)))) rfl sc_law_ring_right.nd (pi_range1 (by rfl) T.range (pa_cons (pv 4) pa_nil)) (blkOk_by (N := N_law_ring_right) (sc := defScope s_law_ring_right) (by decide +kernel)) (fun _ _ _ _ _ => (pg_name (i := 7) sc_law_ring_right.nd rfl (by first | exact Or.inl rfl | exact Or.inr rfl))) (fun _ _ _ _ _ => pts_nil) (fun _ _ _ _ _ => (pe_op op_sub pe_int (pe_ix ix_seq (pv 5) pe_int (fun _ _ => rfl))))) (by rfl)))))))))
  pss_nil)
 (pss_cons (ps_if (PW.pt (pw_or (pt_cmpR op_ne (pe_ix ix_seq (pv 2) pe_int (fun _ _ => rfl)) pe_str (by rfl)) (pw_or (pt_cmpR op_lt (pe_ix ix_seq (pv 2) pe_int (fun _ _ => rfl)) pe_int (by rfl)) (pw_or (pt_cmpR op_ge (pe_ix ix_seq (pv 2) pe_int (fun _ _ => rfl)) (pv 0) (by rfl)) (pw_or (pt_cmpR op_lt (pe_ix ix_seq (pv 2) pe_int (fun _ _ => rfl)) pe_int (by rfl)) (pw_or1 (pt_cmpR op_gt (pe_ix ix_seq (pv 2) pe_int (fun _ _ => rfl)) pe_int (by rfl))))))))
  (pss_one (ps_ret pe_bl))
  pss_nil)
 (pss_cons (ps_setLc (i := 6) (own := [("_law_x", 8)]) (g := gName 8) (tt := tYes) (te := tOp (rI0 fun i j => V.int (Builtin.bitXor i j)) (tOp (rI0 fun i j => V.int (Builtin.bitAnd i j)) (tOp (rI (fun _ j => 0 ≤ j) fun i j => V.int (i / 2 ^ j.toNat)) (tVar 8) (tOp (rIx W.K) (tVar 2) (tC (V.int 1)))) (tC (V.int 1))) (tOp (rIx W.K) (tVar 2) (tC (V.int 2)))) rfl sc_law_ring_right.nd rfl rfl (sw_true rfl rfl rfl (by decide +kernel)) (pi_range1 (by rfl) T.range (pa_cons (pe_op op_shl pe_int (pv 0)) pa_nil)) (blkOk_by (N := N_law_ring_right) (sc := defScope s_law_ring_right) (by decide +kernel)) (fun _ _ _ _ _ => (pg_name (i := 8) sc_law_ring_right.nd rfl (by first | exact Or.inl rfl | exact Or.inr rfl))) (fun _ _ _ _ _ => pts_nil) (fun _ _ _ _ _ => (pe_op op_xor (pe_op op_and (pe_op op_shr (pv 8) (pe_ix ix_seq (pv 2) pe_int (fun _ _ => rfl))) pe_int) (pe_ix ix_seq (pv 2) pe_int (fun _ _ => rfl)))))
 (pss_one (ps_ret (pe_and (pe_cmpR (op_eqD (hr.units)) (pe_ix ix_seq (pv 1) pe_int (fun _ _ => rfl)) (pv 6) (by rfl)) (pe_and (pe_cmpR (op_eqD (hr.units)) (pe_ix ix_seq (pv 1) pe_int (fun _ _ => rfl)) (pv 6) (by rfl)) (pe_one (pe_cmpR (op_eqD (hr.units)) (pe_ix ix_seq (pv 1) pe_int (fun _ _ => rfl)) (pv 6) (by rfl)))))))))))))), ?_⟩
  have done : ∀ {Hy : Hp} {c : Bool}, Ext N0 H Hy → isRing n b1 b2 b3 d = c → Q (.bl c) Hy := fun x e => e ▸ q _ x
  cases d with
  | tup ds =>
    obtain ⟨t, xs, rfl, ht, hA⟩ := hd.tupAt
    have hl := hA.length
    walk_at "go"
    refine i_lnT (SqT.of ht.2) ?_
    walk_at "go"
    refine i_dec (fun e => ?_) (fun e => ?_)
    · walk_at "go"
      refine done (Ext.refl _ _) ?_
      match ds, hl with
      | [], _ => rfl
      | [_], _ => rfl
      | _ :: _ :: _, hl => simp at hl; omega
    obtain ⟨x0, x1, xr, rfl⟩ : ∃ x0 x1 xr, xs = x0 :: x1 :: xr := by
      match xs, e with
      | [], e => simp at e
      | [_], e => simp at e
      | a :: b :: c, _ => exact ⟨a, b, c, rfl⟩
    obtain ⟨d0, d1, dr, rfl⟩ : ∃ x0 x1 xr, ds = x0 :: x1 :: xr := by
      match ds, hl with
      | [], e => simp at e
      | [_], e => simp at e
      | a :: b :: c, _ => exact ⟨a, b, c, rfl⟩
    cases hA with
    | cons hr0 hA =>
    cases hA with
    | cons hr1 hA =>
    walk_at "go"
    refine .inr (.inl (i_ixT ht (atI_nat (i := 0) rfl) ?_))
    walk_at "go"
    refine i_bool (fun e' => ?_) (fun e' => ?_)
    · walk_at "go"
      refine done (Ext.refl _ _) ?_
      match dr with
      | [] => cases d0 with | str s => rw [d_Str_str] at e'; cases e' | _ => rfl
      | [g] => cases d0 with | str s => rw [d_Str_str] at e'; cases e' | _ => rfl
      | _ :: _ :: _ => rfl
    cases d0 with
    | str s =>
      cases hr0
      walk_at "go"
      refine i_lnT (SqT.of ht.2) ?_
      walk_at "go"
      match dr, xr, hA with
      | [], [], _ =>
        refine i_decT (by rfl) ?_
        walk_at "go"
        refine .inr (.inl (i_ixT ht (i := 0) rfl ?_))
        walk_at "go"
        refine i_ndec (fun e6 => ?_) (fun e6 => ?_)
        · walk_at "go"
          refine done (Ext.refl _ _) ?_
          simp [isRing, isRs, isR2, e6]
        walk_at "go"
        refine .inr (.inl (i_ixT ht (i := 1) rfl ?_))
        walk_at "go"
        refine i_bool (fun e7 => ?_) (fun e7 => ?_)
        · walk_at "go"
          refine done (Ext.refl _ _) ?_
          have : ringB n b1 b2 b3 d1 = false := by
            cases d1 with
            | lst es => rw [d_List_lst] at e7; cases e7
            | _ => rfl
          simp [isRing, isRs, isR2, this]
        cases d1 with
        | lst es =>
          obtain ⟨l, ys, rfl, hl1, hB⟩ := hr1.lstAt
          have hl2 := hB.length
          walk_at "go"
          refine .inr (.inl (i_ixT ht (i := 1) rfl ?_))
          walk_at "go"
          refine i_lnL (SqL.of hl1.2) ?_
          walk_at "go"
          have hR : ∀ c, ringB n b1 b2 b3 (.lst es) = c → isRing n b1 b2 b3 (.tup [.str s, .lst es]) = c := fun c e => by
            simp [isRing, isRs, isR2, e6, e]
          refine i_ndec (fun e8 => ?_) (fun e8 => ?_)
          · walk_at "go"
            refine done (Ext.refl _ _) (hR _ ?_)
            have : es.length ≠ n := by omega
            simp [ringB, this]
          have hn : es.length = n := by omega
          walk_at "go"
          refine .inr (.inl (i_ixT ht (i := 1) rfl ?_))
          refine f_list (SqL.of hl1.2) (fun i σ Hx => (∃ v, σ = [some (.int n), some (.ref p), some (.ref t), v, none, none, none, none, none]) ∧ Ext N0 H Hx ∧ (es.take i).all isOrd = true) ⟨⟨_, rfl⟩, Ext.refl _ _, rfl⟩ (fun i σ Hx _ e => SqL.of (e.2.1 _ _ (fun z => z) hl1.2)) ?_ ?_
          · rintro i v σ Hx hv ⟨⟨_, rfl⟩, x2, hall⟩
            obtain ⟨d, hd1, hr1⟩ := (hB.ext x2).getV hv
            have hno : isOrd d = false → isRing n b1 b2 b3 (.tup [.str s, .lst es]) = false := fun e => hR _ (by
              have : es.all isOrd = false := List.all_eq_false.mpr ⟨d, List.mem_of_getElem? hd1, by simp [e]⟩
              simp [ringB, this])
            walk_at "go"
            refine i_bool (fun e9 => ?_) (fun e9 => ?_)
            · walk_at "go"
              exact done x2 (hno (by cases d with | str s => rw [d_Str_str] at e9; cases e9 | _ => rfl))
            cases d with
            | str z =>
              cases hr1
              walk_at "go"
              refine i_nwL (by simp) fun u H3 n3 x3 u3 => ?_
              have u3 : H3 u = some (.lst (orders.map V.str)) := u3
              refine ⟨u, _, rfl, .inl (SqL.of u3), rfl, ord_flat, ?_⟩
              rw [inV_ord]
              walk_at "go"
              show if (!decide (z ∈ orders)) = true then _ else _
              refine i_ndec (fun e => ?_) (fun e => ?_)
              · walk_at "go"
                exact done (x2.trans x3) (hno (by simp [isOrd, e]))
              · walk_at "go"
                refine ⟨⟨_, rfl⟩, x2.trans x3, ?_⟩
                rw [List.take_succ, List.all_append, hall, hd1]
                simp [isOrd, e]
            | _ => simp [Dt.isStr] at e9
          · rintro σ Hx ⟨⟨_, rfl⟩, x2, hall⟩
            rw [List.take_of_length_le (by omega)] at hall
            obtain ⟨g1, g2⟩ := hB.ords hall
            walk_at "go"
            refine .inr (.inl (i_ixT (ht.ext x2) (i := 1) rfl ?_))
            walk_at "go"
            subst g1
            refine ⟨p, n, b1, b2, b3, l, es.map strD, rfl, rfl, hp.ext x2, ok1, ok2, ok3, x2 _ _ (fun z => z) hl1.2, by simpa using hn, g2, fun H4 x4 => ?_⟩
            walk_at "go"
            refine done (x2.trans x4) (hR _ ?_)
            simp only [ringB, hn, hall, decide_true, Bool.true_and]
        | _ => simp [Dt.isList] at e7
      | [d2], [x2], hA =>
        cases hA with
        | cons hr2 _ =>
        refine i_decF (by show ¬ (((3 : Nat) : Int) = 2); omega) ?_
        walk_at "go"
        refine i_lnT (SqT.of ht.2) ?_
        walk_at "go"
        refine i_ndecF (by rfl) ?_
        walk_at "go"
        have no1 : (d1.isInt && !d1.isBool) = false → isRing n b1 b2 b3 (.tup [.str s, d1, d2]) = false := fun e => by
          cases d1 with
          | int i => simp [Dt.isInt, Dt.isBool] at e
          | _ => rfl
        have no2 : ∀ i, d1 = .int i → (d2.isInt && !d2.isBool) = false → isRing n b1 b2 b3 (.tup [.str s, d1, d2]) = false := fun i e1 e => by
          subst e1
          cases d2 with
          | int i => simp [Dt.isInt, Dt.isBool] at e
          | _ => rfl
        refine .inr (.inl (i_ixT ht (i := 1) rfl ?_))
        walk_at "go"
        refine ⟨N0, d1, hr1, ?_⟩
        walk_at "go"
        cases hbl : (d1.isInt && !d1.isBool)
        · walk_at "go"
          exact done (Ext.refl _ _) (no1 hbl)
        walk_at "go"
        obtain ⟨i, rfl⟩ : ∃ i, d1 = .int i := by
          cases d1 with
          | int i => exact ⟨i, rfl⟩
          | _ => simp [Dt.isInt, Dt.isBool] at hbl
        refine .inr (.inl (i_ixT ht (i := 2) rfl ?_))
        walk_at "go"
        refine ⟨N0, d2, hr2, ?_⟩
        walk_at "go"
        cases hbg : (d2.isInt && !d2.isBool)
        · walk_at "go"
          exact done (Ext.refl _ _) (no2 i rfl hbg)
        walk_at "go"
        obtain ⟨j, rfl⟩ : ∃ j, d2 = .int j := by
          cases d2 with
          | int i => exact ⟨i, rfl⟩
          | _ => simp [Dt.isInt, Dt.isBool] at hbg
        cases hr1
        cases hr2
        have hR : isRing n b1 b2 b3 (.tup [.str s, .int i, .int j]) = isR3 n b1 b2 b3 (.str s) (.int i) (.int j) := rfl
        rw [isR3] at hR
        refine .inr (.inl (i_ixT ht (i := 0) rfl ?_))
        walk_at "go"
        refine i_dec (fun e6 => ?_) (fun e6 => ?_)
        · rw [if_pos e6, inPr_eq] at hR
          walk_at "go"
          refine .inr (.inl (i_ixT ht (i := 1) rfl ?_))
          walk_at "go"
          refine i_dec (fun e7 => ?_) (fun e7 => ?_)
          · walk_at "go"
            refine done (Ext.refl _ _) ?_
            rw [hR, decide_eq_false (by omega)]; rfl
          walk_at "go"
          refine .inr (.inl (i_ixT ht (i := 2) rfl ?_))
          walk_at "go"
          refine .inr (.inl (i_ixT ht (i := 1) rfl ?_))
          walk_at "go"
          refine i_dec (fun e8 => ?_) (fun e8 => ?_)
          · walk_at "go"
            refine done (Ext.refl _ _) ?_
            rw [hR, decide_eq_false (by omega)]; rfl
          walk_at "go"
          refine .inr (.inl (i_ixT ht (i := 2) rfl ?_))
          walk_at "go"
          refine i_dec (fun e9 => ?_) (fun e9 => ?_)
          · walk_at "go"
            refine done (Ext.refl _ _) ?_
            rw [hR, decide_eq_false (by omega)]; rfl
          rw [decide_eq_true (by omega), Bool.true_and] at hR
          obtain ⟨i0, rfl⟩ := Int.eq_ofNat_of_zero_le (show 0 ≤ i by omega)
          obtain ⟨j0, rfl⟩ := Int.eq_ofNat_of_zero_le (show 0 ≤ j by omega)
          rw [Int.toNat_natCast, Int.toNat_natCast, unl_dec (ok3of ok1 ok2 ok3 i0) (ok3of ok1 ok2 ok3 j0)] at hR
          obtain ⟨rs, h0, hrs⟩ := hp.at
          obtain ⟨r, er, hr⟩ := hrs i0 (by omega)
          obtain ⟨r', er', hr'⟩ := hrs j0 (by omega)
          have okb := ok3of ok1 ok2 ok3 i0
          have okc := ok3of ok1 ok2 ok3 j0
          have h64 := pow_le6 okb.1
          obtain ⟨_, hz, hg⟩ := gI_at okb (w := 0) (by omega) (by exact_mod_cast Nat.two_pow_pos n)
          obtain rfl : 0 = _ := by exact_mod_cast hz
          have hn6 := okb.1
          walk_at "go"
          refine i_I (cpow1 (by omega)) ?_
          rw [pow1]
          walk_at "go"
          refine .inr (.inl (i_ixT ht (i := 1) rfl ?_))
          walk_at "go"
          refine .inl (i_ixL h0 er ?_)
          walk_at "go"
          have hone : ∀ {Hx : Hp}, At N0 Hx r (.lst ((b3of b1 b2 b3 i0).map V.int)) → ∀ {Q : VK}, Q (.int (gI (b3of b1 b2 b3 i0) 0)) Hx → rIx W.K (.ref r) (.int 0) Hx Q := fun h _ q => .inl (i_ixL h (atI_nat (i := 0) (by rw [List.getElem?_map, hg]; rfl)) q)
          refine c_rg (n := 2 ^ n) (M := N0) MOk.zero (by omega) (fun _ _ _ => True) (fun D c y _ => y = .int (gI (b3of b1 b2 b3 i0) 0)) fun D nD => ⟨fun _ _ _ _ _ e => e, fun _ _ _ _ e => e, trivial, ?_, ?_⟩
          · intro c H4 N N' hc x4 m4 _ nx
            walk_at "go"
            refine i_yes rfl ?_
            walk_at "go"
            refine hone (((hr.plus nD).ext x4).zero) ?_
            exact nx _ _ (Ext.refl _ _) m4.less rfl trivial
          · intro acc H4 hl4 hr4 hd4 x4 m4 _
            obtain rfl := acc_rep hl4 hr4
            walk_at "go"
            have hr' := hr'.ext x4
            have h0 := h0.ext x4
            have ht := ht.ext x4
            have hr := hr.ext x4
            refine i_eqLI (SqL.of hr.2) (SqL.of hd4) ?_
            walk_at "go"
            refine i_dec (fun e10 => ?_) (fun e10 => ?_)
            · rw [decide_eq_true e10, Bool.true_and] at hR
              walk_at "go"
              refine .inr (.inl (i_ixT ht (i := 2) rfl ?_))
              walk_at "go"
              refine .inl (i_ixL h0 er' ?_)
              walk_at "go"
              refine c_rg (n := 2 ^ n) (M := N0) MOk.zero (by omega) (fun _ _ _ => True) (fun D c y _ => y = .int (1 - gI (b3of b1 b2 b3 i0) 0)) fun D2 nD2 => ⟨fun _ _ _ _ _ e => e, fun _ _ _ _ e => e, trivial, ?_, ?_⟩
              · intro c H5 N N' hc x5 m5 _ nx
                walk_at "go"
                refine i_yes rfl ?_
                walk_at "go"
                refine hone (((hr.plus nD2).ext x5).zero) ?_
                walk_at "go"
                exact nx _ _ (Ext.refl _ _) m5.less rfl trivial
              · intro acc H5 hl5 hr5 hd5 x5 m5 _
                obtain rfl := acc_rep hl5 hr5
                refine i_eqLI (SqL.of (hr'.ext x5).2) (SqL.of hd5) ?_
                exact done (x4.trans x5) hR
            · rw [decide_eq_false e10, Bool.false_and] at hR
              exact done x4 hR
        · rw [if_neg e6] at hR
          walk_at "go"
          refine .inr (.inl (i_ixT ht (i := 0) rfl ?_))
          walk_at "go"
          refine i_ndec (fun e7 => ?_) (fun e7 => ?_)
          · walk_at "go"
            refine done (Ext.refl _ _) ?_
            rw [hR, decide_eq_false e7]; rfl
          rw [decide_eq_true e7, Bool.true_and] at hR
          walk_at "go"
          refine .inr (.inl (i_ixT ht (i := 1) rfl ?_))
          walk_at "go"
          refine i_dec (fun e8 => ?_) (fun e8 => ?_)
          · walk_at "go"
            exact done (Ext.refl _ _) (hR.trans (ownAll_no (by omega)))
          walk_at "go"
          refine .inr (.inl (i_ixT ht (i := 1) rfl ?_))
          walk_at "go"
          refine i_dec (fun e9 => ?_) (fun e9 => ?_)
          · walk_at "go"
            exact done (Ext.refl _ _) (hR.trans (ownAll_no (by omega)))
          walk_at "go"
          refine .inr (.inl (i_ixT ht (i := 2) rfl ?_))
          walk_at "go"
          refine i_dec (fun e10 => ?_) (fun e10 => ?_)
          · walk_at "go"
            exact done (Ext.refl _ _) (hR.trans (ownAll_no (by omega)))
          walk_at "go"
          refine .inr (.inl (i_ixT ht (i := 2) rfl ?_))
          walk_at "go"
          refine i_dec (fun e11 => ?_) (fun e11 => ?_)
          · walk_at "go"
            exact done (Ext.refl _ _) (hR.trans (ownAll_no (by omega)))
          have hn6 := ok1.1
          have h64 := pow_le6 ok1.1
          obtain ⟨r1, r2, r3, h0, h1, h2, h3⟩ := hp.ex
          rw [ownAll, ownEq_dec (by omega) (by omega) (by omega), ownEq_dec (by omega) (by omega) (by omega), ownEq_dec (by omega) (by omega) (by omega)] at hR
          walk_at "go"
          refine i_I (cpow1 (by omega)) ?_
          rw [pow1]
          walk_at "go"
          refine c_rg (n := 2 ^ n) (M := N0) MOk.zero (by omega) (fun _ _ _ => True) (fun D c y _ => y = .int (Builtin.bitXor (Builtin.bitAnd ((c : Int) / 2 ^ i.toNat) 1) j)) fun D nD => ⟨fun _ _ _ _ _ e => e, fun _ _ _ _ e => e, trivial, ?_, ?_⟩
          · intro c H4 N N' hc x4 m4 _ nx
            have ht4 := ((ht.plus nD).ext x4)
            walk_at "go"
            refine i_yes rfl ?_
            walk_at "go"
            refine .inr (.inl (i_ixT ht4 (i := 1) rfl ?_))
            refine i_I (by omega) ?_
            walk_at "go"
            refine .inr (.inl (i_ixT ht4 (i := 2) rfl ?_))
            walk_at "go"
            exact nx _ _ (Ext.refl _ _) m4.less rfl trivial
          · intro acc H4 hl4 hr4 hd4 x4 m4 _
            obtain rfl := acc_pl hl4 hr4
            have h0 := h0.ext x4
            have h1 := h1.ext x4
            have h2 := h2.ext x4
            have h3 := h3.ext x4
            walk_at "go"
            refine .inl (i_ixL h0 (i := 0) rfl ?_)
            walk_at "go"
            refine i_eqLI (SqL.of h1.2) (SqL.of hd4) ?_
            walk_at "go"
            refine i_dec (fun e12 => ?_) (fun e12 => ?_)
            · rw [decide_eq_true e12, Bool.true_and] at hR
              walk_at "go"
              refine .inl (i_ixL h0 (i := 1) rfl ?_)
              walk_at "go"
              refine i_eqLI (SqL.of h2.2) (SqL.of hd4) ?_
              walk_at "go"
              refine i_dec (fun e13 => ?_) (fun e13 => ?_)
              · rw [decide_eq_true e13, Bool.true_and] at hR
                walk_at "go"
                refine .inl (i_ixL h0 (i := 2) rfl ?_)
                walk_at "go"
                refine i_eqLI (SqL.of h3.2) (SqL.of hd4) ?_
                exact done x4 hR
              · rw [decide_eq_false e13, Bool.false_and] at hR
                exact done x4 hR
            · rw [decide_eq_false e12, Bool.false_and] at hR
              exact done x4 hR
      | _ :: _ :: _, _ :: _ :: _, _ =>
        refine i_decF (by simp; omega) ?_
        walk_at "go"
        refine i_lnT (SqT.of ht.2) ?_
        walk_at "go"
        refine i_ndecT (by simp; omega) ?_
        walk_at "go"
        exact done (Ext.refl _ _) rfl
    | _ => simp [Dt.isStr] at e'
  | _ =>
    walk_at "go"
    exact done (Ext.refl _ _) rfl
end Bs
set_option Elab.async false
set_option linter.all false
set_option maxRecDepth 100000
set_option maxHeartbeats 400000
namespace Bs
open PySem PySem.Spec PyProof.Rows L2 SX
open C8 (pe_gc pss_cut)
local macro_rules | `(tactic| walk_at "xt") => `(tactic| first | assumption | exact Ext.weak (by assumption) | exact Ext.is (by assumption) (by assumption) | exact Ext.plus (by assumption) | exact Ext.plus (Ext.weak (by assumption)) | exact Ext.plus (Ext.is (by assumption) (by assumption)) | exact Ext.set plus_self)
local macro_rules | `(tactic| walk_at "gr") => `(tactic| first | assumption | exact Ext.grow (by assumption) | exact Grow.upd)
local macro_rules | `(tactic| walk_at "mo") => `(tactic| first | assumption | exact MOk.zero | ((first | refine MOk.grow ?_ (by walk_at "gr") | exact MOk.upd (by walk_at "mo")); walk_at "mo") | exact MOk.plus (by walk_at "mo") (by assumption))
local macro_rules | `(tactic| walk_at "hp") => `(tactic| first
  | assumption | exact At.raw (by assumption)
  | exact At.mk' (by walk_at "mo") (by assumption) (by assumption)
  | ((first | refine At.ext (by walk_at "xt") ?_ | refine Rp.ext (by walk_at "xt") ?_ | refine RpA.ext (by walk_at "xt") ?_ | refine Tb.ext (by walk_at "xt") ?_); walk_at "hp")
  | ((first | refine At.plus (by assumption) ?_ | refine Rp.plus (by assumption) ?_ | refine RpA.plus (by assumption) ?_ | refine Tb.plus (by assumption) ?_); walk_at "hp"))
local macro_rules | `(tactic| walk_at "at") => `(tactic| first | assumption | exact At.get (M := N0) (by walk_at "hp"))
local macro_rules | `(tactic| walk_at "sq") => `(tactic| first | exact SqL.of (by walk_at "at") | exact SqT.of (by walk_at "at"))
local macro_rules | `(tactic| walk_at "st") => `(tactic| with_reducible first
  | refine i_seq ?_ | refine i_asg ?_ | refine i_ret ?_ | refine i_retN ?_ | refine i_drop ?_ | refine i_ifS ?_ | refine i_next ?_ | refine i_brk ?_
  | refine i_gname ?_ | refine i_gsub ?_ | refine i_c ?_ | refine i_op ?_ | refine i_un ?_ | refine i_I0 ?_ | refine i_U ?_ | refine i_isN ?_ | refine i_notN ?_
  | refine i_test ?_ | refine i_tB ?_ | refine i_bl ?_ | refine i_and ?_ | refine i_or ?_ | refine i_not ?_ | refine i_andV ?_ | refine i_orV ?_ | refine i_notV ?_ | refine i_ifE ?_
  | refine i_nil ?_ | refine i_cons ?_ | refine i_for ?_ | refine i_iL ?_ | refine i_iT ?_ | refine i_iR ?_ | refine i_lc ?_ | refine i_prp ?_ | refine i_mk ?_ | refine i_sS ?_ | refine i_sN ?_ | refine i_nsS ?_ | refine i_nsN ?_ | refine i_fld ?_ | refine i_sf ?_ | refine i_inO ?_ | refine i_lsO ?_ | refine i_tpO ?_ | refine i_lnO ?_ | refine i_cb ?_ | refine i_call ?_ | refine i_tup ?_ | refine i_lst ?_ | refine i_dnew ?_ | refine i_inI ?_ | refine i_inB ?_ | refine i_rgX ?_ | refine i_lrO ?_ | refine i_rg1 ?_ | refine i_nF ?_ | refine i_nT ?_ | refine i_tt ?_ | refine i_ff ?_ | refine i_ifT ?_ | refine i_ifF ?_
  | refine i_eqI ?_ | refine i_eqS ?_ | refine i_eqB ?_ | refine i_neI ?_ | refine i_neS ?_ | refine i_dR ?_ | refine i_dI ?_ | refine i_dT ?_ | refine i_dS ?_ | refine i_dN ?_ | refine i_nR ?_ | refine i_nI ?_ | refine i_nN ?_
  | (refine i_var (by with_unfolding_all rfl) ?_) | refine i_eq rfl ?_ | refine i_ne rfl ?_)
local macro_rules | `(tactic| walk_at "sc") => `(tactic| first | exact (Rp.int (M := N0) _) | exact (Rp.str (M := N0) _) | exact (Rp.bl (M := N0) _) | exact (Rp.non (M := N0)) | assumption | exact Rp.tab (by assumption) | exact Tb.rp (by assumption))
local macro_rules | `(tactic| walk_at "sd") => `(tactic| simp only [d_Bool_non, d_Bool_bl, d_Bool_int, d_Bool_str, d_Bool_lst, d_Bool_tup, d_Bool_tab, d_Bool_dic, d_Int_non, d_Int_bl, d_Int_int, d_Int_str, d_Int_lst, d_Int_tup, d_Int_tab, d_Int_dic, d_Str_non, d_Str_bl, d_Str_int, d_Str_str, d_Str_lst, d_Str_tup, d_Str_tab, d_Str_dic, d_List_non, d_List_bl, d_List_int, d_List_str, d_List_lst, d_List_tup, d_List_tab, d_List_dic, d_Tup_non, d_Tup_bl, d_Tup_int, d_Tup_str, d_Tup_lst, d_Tup_tup, d_Tup_tab, d_Tup_dic, d_Tab_non, d_Tab_bl, d_Tab_int, d_Tab_str, d_Tab_lst, d_Tab_tup, d_Tab_tab, d_Tab_dic, Bool.not_true, Bool.not_false, Bool.true_or, Bool.false_or, Bool.or_true, Bool.or_false, Bool.and_true, Bool.true_and, Bool.and_false, Bool.false_and, if_true, if_false, Bool.false_eq_true])
local macro_rules | `(tactic| walk_at "isi") => `(tactic| ((first | with_reducible apply i_isB | with_reducible apply i_isI | with_reducible apply i_isS | with_reducible apply i_isL | with_reducible apply i_isT | with_reducible apply i_isTab); (focus assumption); (focus walk_at "sc"); try simp only [d_Bool_non, d_Bool_bl, d_Bool_int, d_Bool_str, d_Bool_lst, d_Bool_tup, d_Bool_tab, d_Bool_dic, d_Int_non, d_Int_bl, d_Int_int, d_Int_str, d_Int_lst, d_Int_tup, d_Int_tab, d_Int_dic, d_Str_non, d_Str_bl, d_Str_int, d_Str_str, d_Str_lst, d_Str_tup, d_Str_tab, d_Str_dic, d_List_non, d_List_bl, d_List_int, d_List_str, d_List_lst, d_List_tup, d_List_tab, d_List_dic, d_Tup_non, d_Tup_bl, d_Tup_int, d_Tup_str, d_Tup_lst, d_Tup_tup, d_Tup_tab, d_Tup_dic, d_Tab_non, d_Tab_bl, d_Tab_int, d_Tab_str, d_Tab_lst, d_Tab_tup, d_Tab_tab, d_Tab_dic]))
local macro_rules | `(tactic| walk_at "om") => `(tactic| first | ((with_reducible refine i_decF ?_ ?_); (focus omega)) | ((with_reducible refine i_decT ?_ ?_); (focus omega)) | ((with_reducible refine i_ndecF ?_ ?_); (focus omega)) | ((with_reducible refine i_ndecT ?_ ?_); (focus omega)))
local macro_rules | `(tactic| walk_at "go") => `(tactic| ((repeat (first | walk_at "st" | walk_at "isi" | walk_at "om")); try dsimp only [List.set]))
variable {W : Wd} {a : Ad}
/-! L10: bent data. -/
theorem ok_up {B B' : Nat} (hB : B ≤ B') : ∀ {n m : Nat} {d : Dt}, n ≤ m → okD B n d = true → okD B' m d = true
  | _, _, .non, _, _ => by unfold okD; rfl
  | _, _, .bl _, _, _ => by unfold okD; rfl
  | _, _, .int _, _, _ => by unfold okD; rfl
  | _, _, .str s, _, h => by
    unfold okD at h ⊢
    rw [Bool.and_eq_true] at h ⊢
    exact ⟨decide_eq_true (Nat.le_trans (of_decide_eq_true h.1) hB), h.2⟩
  | 0, _, .lst _, _, h => by unfold okD at h; cases h
  | 0, _, .tup _, _, h => by unfold okD at h; cases h
  | n + 1, m, .lst ds, e, h => by
    obtain ⟨k, rfl⟩ : ∃ k, m = k + 1 := ⟨m - 1, by omega⟩
    obtain ⟨h1, h2⟩ := ok_all (show (decide (ds.length ≤ B) && ds.all (okD B n)) = true from h)
    show (decide (ds.length ≤ B') && ds.all (okD B' k)) = true
    rw [decide_eq_true (Nat.le_trans h1 hB), Bool.true_and, List.all_eq_true]
    exact fun d hd => ok_up hB (by omega) (h2 d hd)
  | n + 1, m, .tup ds, e, h => by
    obtain ⟨k, rfl⟩ : ∃ k, m = k + 1 := ⟨m - 1, by omega⟩
    obtain ⟨h1, h2⟩ := ok_all (show (decide (ds.length ≤ B) && ds.all (okD B n)) = true from h)
    show (decide (ds.length ≤ B') && ds.all (okD B' k)) = true
    rw [decide_eq_true (Nat.le_trans h1 hB), Bool.true_and, List.all_eq_true]
    exact fun d hd => ok_up hB (by omega) (h2 d hd)
  | n, _, .tab, _, h => by cases n <;> cases h
  | n, _, .dic, _, h => by cases n <;> cases h
theorem strOk_app {x y : Str} (h : PyData.strOk x = true) (k : PyData.strOk y = true) : PyData.strOk (x ++ y) = true := by
  unfold PyData.strOk at h k ⊢
  have e : (x ++ y).cps = x.cps ++ y.cps := rfl
  rw [e, Array.all_append, h, k]; rfl
theorem okS_app {x y : Str} (hl : x.length + y.length ≤ 501) (h : PyData.strOk x = true) (k : PyData.strOk y = true) : okD 501 2 (.str (x ++ y)) = true := by
  show (decide ((x ++ y).length ≤ 501) && PyData.strOk (x ++ y)) = true
  rw [strOk_app h k, PySem.Str.length_append, decide_eq_true hl]; rfl
def sp_bplain (ct : Addr) : Sp := sp2 fun x v H Q _ => ∃ M s k d, x = .ref s ∧ Sto M H s k ∧ MOk M H ∧ k + 1 ≤ 1000000 ∧ Rp ct M H v d ∧ okD 500 0 d = true ∧ ∀ r d' H', okD 501 2 d' = true → Rp ct M H' r d' → Ext (Is s) H H' → Grow H H' → Sto M H' s (k + 1) → Q r H'
/-- one of a list of data, drawn -/
theorem drawn {ct : Addr} {M : Mt} {H : Hp} {p : Addr} {xs : List V} {ds : List Dt} {K : PySem.W.Frag} {Q : VK} {r : Int} (h : H p = some (.lst xs)) (hA : RpA ct M H xs ds) (r0 : 0 ≤ r) (r1 : r < ds.length) (q : ∀ v d, d ∈ ds → Rp ct M H v d → Q v H) : rIx K (.ref p) (.int r) H Q := by
  have hl := hA.length
  have hi : r.toNat < xs.length := by omega
  obtain ⟨d', hd', hr'⟩ := hA.getV (List.getElem?_eq_getElem hi)
  exact .inl (i_ixL (At.raw h) (atI_of r0 (List.getElem?_eq_getElem hi)) (q _ d' (List.mem_of_getElem? hd') hr'))
abbrev s_law_bend_plain : Stmt := top 86
abbrev N_law_bend_plain : List Str := ["_law_store_here", "_law_given", "_law_menu"]
abbrev P_law_bend_plain : List Str := ["_law_store_here", "_law_given"]
theorem sc_law_bend_plain : FnScope N_law_bend_plain P_law_bend_plain (defScope s_law_bend_plain) := ⟨rfl, rfl, rfl, by decide +kernel, rfl, by decide +kernel, by decide +kernel⟩
theorem bi_law_bend_plain {K : PySem.W.Frag} {f : Addr} {fd : FuncData} (F : FnF K "_law_bend_plain" "_law_bend_plain" s_law_bend_plain [] f fd) : Binds K fd P_law_bend_plain [] := FunD.bindsN F fun _ _ _ _ _ _ us hl => match us, hl with | [_, _], _ => rfl
theorem c_law_bend_plain (T : Txt W.K W.mg a) (D : DefAt W "_law_bend_plain" "_law_bend_plain" "_law_bend_plain" s_law_bend_plain) (c_law_take : Cal W CX0 3 "_law_take" P_law_take sp_take) : Cal W CX0 4 "_law_bend_plain" P_law_bend_plain (sp_bplain a.ct) := cal_mk D sc_law_bend_plain len2 (fun _ _ => bi_law_bend_plain) fun f cdv A outer s H vs Q E hr h => by
  obtain ⟨_, v, rfl, M, s, k, d, rfl, hs, m, hk, hd, ok, q⟩ := sp2_of h
  have pM : ∀ {p : Addr} {H1 : Hp}, MOk M H1 → H1 p = none → p ≠ s := fun m n e => m _ (e ▸ hs.mem) n
  refine ⟨_, (pss_cons (ps_if (pt_val (pe_callB call_isi rfl T.isinstance (by decide +kernel) (pa_cons (pv 1) (pa_cons (pe_bltn (v := .ty "bool") rfl T.bool (by decide +kernel) rfl) pa_nil))))
  (pss_one (ps_ret (pe_ix ix_seq (pe_lst (pa_cons (pe_not (pv 1)) (pa_cons (pe_not (pv 1)) (pa_cons pe_non (pa_cons pe_str pa_nil))))) (pe_cal c_law_take hr (by omega) pass0 rfl (pa_cons (pv 0) (pa_cons pe_int pa_nil))) (fun _ _ => rfl))))
  pss_nil)
 (pss_cons (ps_if (pt_val (pe_callB call_isi rfl T.isinstance (by decide +kernel) (pa_cons (pv 1) (pa_cons (pe_bltn (v := .ty "int") rfl T.int (by decide +kernel) rfl) pa_nil))))
  (pss_cons (ps_set (i := 2) sc_law_bend_plain.nd rfl (by first | exact Or.inl rfl | exact Or.inr rfl) (pe_lst (pa_cons (pe_op op_add (pv 1) pe_int) (pa_cons (pe_op op_sub (pv 1) pe_int) (pa_cons (pe_op op_add (pv 1) pe_int) (pa_cons (pe_op op_sub (pv 1) pe_int) (pa_cons (pe_op op_xor (pv 1) pe_int) (pa_cons (pe_op op_add (pv 1) (pe_op op_pow pe_int pe_int)) (pa_cons (pe_op op_sub (pe_un un_neg pe_int) (pe_callB call_abs rfl T.abs (by decide +kernel) (pa_cons (pv 1) pa_nil))) (pa_cons pe_non (pa_cons pe_str pa_nil)))))))))))
 (pss_one (ps_ret (pe_ix ix_seq (pe_op op_cat (pv 2) (pe_lst (pa_cons (pe_lst (pa_cons (pv 1) pa_nil)) (pa_cons (pe_lst (pa_cons (pe_lst (pa_cons (pv 1) pa_nil)) (pa_cons (pe_lst pa_nil) pa_nil))) pa_nil)))) (pe_cal c_law_take hr (by omega) pass0 rfl (pa_cons (pv 0) (pa_cons pe_int pa_nil))) (fun _ _ => rfl)))))
  pss_nil)
 (pss_cons (ps_if (pt_val (pe_callB call_isi rfl T.isinstance (by decide +kernel) (pa_cons (pv 1) (pa_cons (pe_bltn (v := .ty "str") rfl T.str (by decide +kernel) rfl) pa_nil))))
  (pss_one (ps_ret (pe_ix ix_seq (pe_lst (pa_cons (pe_op op_add_strB (pv 1) pe_str) (pa_cons (pe_op op_add_strB pe_str (pv 1)) (pa_cons pe_non (pa_cons (pe_un un_neg pe_int) (pa_cons (pe_lst (pa_cons (pv 1) pa_nil)) (pa_cons (pe_lst (pa_cons (pe_lst (pa_cons (pv 1) pa_nil)) (pa_cons (pe_lst pa_nil) pa_nil))) pa_nil))))))) (pe_cal c_law_take hr (by omega) pass0 rfl (pa_cons (pv 0) (pa_cons pe_int pa_nil))) (fun _ _ => rfl))))
  pss_nil)
 (pss_cons (ps_if (pt_cmp (pc_isN (pv 1)))
  (pss_one (ps_ret (pe_ix ix_seq (pe_lst (pa_cons pe_str (pa_cons (pe_un un_neg pe_int) pa_nil))) (pe_cal c_law_take hr (by omega) pass0 rfl (pa_cons (pv 0) (pa_cons pe_int pa_nil))) (fun _ _ => rfl))))
  pss_nil)
 (pss_one (ps_ret pe_non)))))), ?_⟩
  cases d with
  | bl b =>
    cases hd
    walk_at "go"
    refine i_nwL (by simp) fun p H1 n1 x1 p1 => ?_
    walk_at "go"
    refine ⟨M, s, k, 4, rfl, rfl, hs.ext x1, by omega, by omega, fun r H2 _ r2 x2 g2 s2 => ?_⟩
    have r2 := r2 (by omega)
    walk_at "go"
    have p2 := x2 _ _ (pM m n1) p1
    refine drawn (ct := a.ct) (M := M) p2 (.cons (.bl (!b)) (.cons (.bl (!b)) (.cons .non (.cons (.str "True") .nil)))) r2.1 r2.2 fun v d hd hv => ?_
    refine q v d H2 ?_ hv (x1.weak.trans x2) (x1.grow.trans g2) s2
    have : ([Dt.bl (!b), .bl (!b), .non, .str "True"]).all (okD 501 2) = true := by cases b <;> decide +kernel
    exact List.all_eq_true.mp this d hd
  | int i =>
    cases hd
    walk_at "go"
    refine i_I ⟨by omega, by omega, by decide⟩ ?_
    walk_at "go"
    refine ⟨_, rfl, ?_⟩
    walk_at "go"
    refine i_nwL (by simp) fun p1 H1 n1 x1 t1 => ?_
    walk_at "go"
    refine i_nwL (by simp) fun p2 H2 n2 x2 t2 => ?_
    walk_at "go"
    refine i_nwL (by simp) fun p3 H3 n3 x3 t3 => ?_
    walk_at "go"
    refine i_nwL (by simp) fun p4 H4 n4 x4 t4 => ?_
    walk_at "go"
    refine i_nwL (by simp) fun p5 H5 n5 x5 t5 => ?_
    walk_at "go"
    refine i_nwL (by simp) fun p6 H6 n6 x6 t6 => ?_
    walk_at "go"
    have m1 := m.grow x1.grow
    have m2 := m1.grow x2.grow
    have m3 := m2.grow x3.grow
    have m4 := m3.grow x4.grow
    have m5 := m4.grow x5.grow
    have m6 := m5.grow x6.grow
    have t1 := (x2.trans (x3.trans (x4.trans (x5.trans x6)))) _ _ (fun z => z) t1
    refine i_cat t1 t6 (by simp) fun p7 H7 n7 x7 t7 => ?_
    walk_at "go"
    have e2 : Rp a.ct M H2 (.ref p2) (.lst [.int i]) := .lst (At.mk' m1 n2 t2) (.cons (.int i) .nil)
    have e3 : Rp a.ct M H3 (.ref p3) (.lst [.int i]) := .lst (At.mk' m2 n3 t3) (.cons (.int i) .nil)
    have e4 : Rp a.ct M H4 (.ref p4) (.lst []) := .lst (At.mk' m3 n4 t4) .nil
    have e5 : Rp a.ct M H5 (.ref p5) (.lst [.lst [.int i], .lst []]) := .lst (At.mk' m4 n5 t5) (.cons (e3.ext (x4.trans x5).weak) (.cons (e4.ext x5.weak) .nil))
    have z7 : Ext N0 H H7 := x1.trans (x2.trans (x3.trans (x4.trans (x5.trans (x6.trans x7)))))
    refine ⟨M, s, k, 11, rfl, rfl, hs.ext z7, by omega, by omega, fun r H8 _ r2 x8 g8 s8 => ?_⟩
    have r2 := r2 (by omega)
    walk_at "go"
    have t8 := x8 _ _ (pM m6 n7) t7
    have y8 : Ext M H7 H8 := x8.is hs.mem
    have z2 : Ext M H2 H8 := (x3.trans (x4.trans (x5.trans (x6.trans x7)))).weak.trans y8
    have z5 : Ext M H5 H8 := (x6.trans x7).weak.trans y8
    refine drawn (ct := a.ct) (M := M) t8 (.cons (.int _) (.cons (.int _) (.cons (.int _) (.cons (.int _) (.cons (.int _) (.cons (.int _) (.cons (.int _) (.cons .non (.cons (.str _) (.cons (e2.ext z2) (.cons (e5.ext z5) .nil))))))))))) r2.1 r2.2 fun v d hd hv => ?_
    refine q v d H8 ?_ hv (z7.weak.trans x8) (z7.grow.trans g8) s8
    simp only [List.mem_cons, List.not_mem_nil, or_false] at hd
    rcases hd with rfl | rfl | rfl | rfl | rfl | rfl | rfl | rfl | rfl | rfl | rfl <;> first | rfl | decide +kernel
  | str z =>
    have hz := ok
    unfold okD at hz
    rw [Bool.and_eq_true] at hz
    have hz1 : z.length ≤ 500 := of_decide_eq_true hz.1
    cases hd
    walk_at "go"
    refine ⟨_, _, rfl, rfl, Nat.le_trans (show z.length + Str.length "x" ≤ 1000 by have : Str.length "x" = 1 := rfl; omega) (by decide), ?_⟩
    walk_at "go"
    refine ⟨_, _, rfl, rfl, Nat.le_trans (show Str.length "?" + z.length ≤ 1000 by have : Str.length "?" = 1 := rfl; omega) (by decide), ?_⟩
    walk_at "go"
    refine i_nwL (by simp) fun p2 H2 n2 x2 t2 => ?_
    walk_at "go"
    refine i_nwL (by simp) fun p3 H3 n3 x3 t3 => ?_
    walk_at "go"
    refine i_nwL (by simp) fun p4 H4 n4 x4 t4 => ?_
    walk_at "go"
    refine i_nwL (by simp) fun p5 H5 n5 x5 t5 => ?_
    walk_at "go"
    refine i_nwL (by simp) fun p6 H6 n6 x6 t6 => ?_
    walk_at "go"
    have m2 := m.grow x2.grow
    have m3 := m2.grow x3.grow
    have m4 := m3.grow x4.grow
    have m5 := m4.grow x5.grow
    have m6 := m5.grow x6.grow
    have e2 : Rp a.ct M H2 (.ref p2) (.lst [.str z]) := .lst (At.mk' m n2 t2) (.cons (.str z) .nil)
    have e3 : Rp a.ct M H3 (.ref p3) (.lst [.str z]) := .lst (At.mk' m2 n3 t3) (.cons (.str z) .nil)
    have e4 : Rp a.ct M H4 (.ref p4) (.lst []) := .lst (At.mk' m3 n4 t4) .nil
    have e5 : Rp a.ct M H5 (.ref p5) (.lst [.lst [.str z], .lst []]) := .lst (At.mk' m4 n5 t5) (.cons (e3.ext (x4.trans x5).weak) (.cons (e4.ext x5.weak) .nil))
    have z6 : Ext N0 H H6 := x2.trans (x3.trans (x4.trans (x5.trans x6)))
    refine ⟨M, s, k, 6, rfl, rfl, hs.ext z6, by omega, by omega, fun r H8 _ r2 x8 g8 s8 => ?_⟩
    have r2 := r2 (by omega)
    walk_at "go"
    have t8 := x8 _ _ (pM m5 n6) t6
    have y8 : Ext M H6 H8 := x8.is hs.mem
    have z2 : Ext M H2 H8 := (x3.trans (x4.trans (x5.trans x6))).weak.trans y8
    have z5 : Ext M H5 H8 := x6.weak.trans y8
    refine drawn (ct := a.ct) (M := M) t8 (.cons (.str _) (.cons (.str _) (.cons .non (.cons (.int _) (.cons (e2.ext z2) (.cons (e5.ext z5) .nil)))))) r2.1 r2.2 fun v d hd hv => ?_
    refine q v d H8 ?_ hv (z6.weak.trans x8) (z6.grow.trans g8) s8
    simp only [List.mem_cons, List.not_mem_nil, or_false] at hd
    have o1 : okD 501 0 (.str z) = true := ok_up (by omega) (Nat.le_refl 0) ok
    have o2 : okD 501 2 (.lst [.str z]) = true := by
      show (decide (1 ≤ 501) && (okD 501 1 (.str z) && true)) = true
      rw [ok_up (Nat.le_refl _) (Nat.zero_le 1) o1]; rfl
    have o3 : okD 501 2 (.lst [.lst [.str z], .lst []]) = true := by
      show (decide (2 ≤ 501) && ((decide (1 ≤ 501) && (okD 501 0 (.str z) && true)) && ((decide (0 ≤ 501) && true) && true))) = true
      rw [o1]; rfl
    have o4 : ∀ x : Str, x.length ≤ 1 → PyData.strOk x = true → okD 501 2 (.str (z ++ x)) = true ∧ okD 501 2 (.str (x ++ z)) = true := fun x hx hk => by
      refine ⟨okS_app (by omega) hz.2 hk, okS_app (by omega) hk hz.2⟩
    rcases hd with rfl | rfl | rfl | rfl | rfl | rfl
    · exact (o4 _ (by decide) (by decide +kernel)).1
    · exact (o4 _ (by decide) (by decide +kernel)).2
    · rfl
    · rfl
    · exact o2
    · exact o3
  | non =>
    cases hd
    walk_at "go"
    refine i_nwL (by simp) fun p H1 n1 x1 p1 => ?_
    walk_at "go"
    refine ⟨M, s, k, 2, rfl, rfl, hs.ext x1, by omega, by omega, fun r H2 _ r2 x2 g2 s2 => ?_⟩
    have r2 := r2 (by omega)
    walk_at "go"
    have p2 := x2 _ _ (pM m n1) p1
    refine drawn (ct := a.ct) (M := M) p2 (.cons (.str "") (.cons (.int (-1)) .nil)) r2.1 r2.2 fun v d hd hv => ?_
    refine q v d H2 ?_ hv (x1.weak.trans x2) (x1.grow.trans g2) s2
    have : ([Dt.str "", .int (-1)]).all (okD 501 2) = true := by decide +kernel
    exact List.all_eq_true.mp this d hd
  | _ => cases ok
/-! rows bent -/
theorem RpA.cut {ct : Addr} {M : Mt} {H : Hp} {xs : List V} {ds : List Dt} (h : RpA ct M H xs ds) (lo hi : Option Int) : ∃ es, RpA ct M H (cutV xs lo hi) es ∧ es.length ≤ ds.length ∧ ∀ d ∈ es, d ∈ ds := by
  refine ⟨_, (h.drop _).take _, ?_, fun d hd => List.mem_of_mem_drop (List.mem_of_mem_take hd)⟩
  rw [List.length_take, List.length_drop]
  omega
mutual
theorem rp_dp {K : PySem.W.Frag} {ct : Addr} {M : Mt} {H : Hp} {B : Nat} : ∀ (n : Nat) (d : Dt) (v : V), okD B n d = true → Rp ct M H v d → ∃ e : PyData, Dp K H v e ∧ e.canLay0 = true ∧ e.depth ≤ n
  | n, d, v, ok, h => by
    cases d with
    | non => cases h; exact ⟨.none, .non, rfl, Nat.zero_le _⟩
    | bl b => cases h; exact ⟨.bool b, .bl b, rfl, Nat.zero_le _⟩
    | int i => cases h; exact ⟨.int i, .int i, rfl, Nat.zero_le _⟩
    | str s =>
      cases h
      unfold okD at ok
      rw [Bool.and_eq_true] at ok
      exact ⟨.str s, .str s, ok.2, Nat.zero_le _⟩
    | lst ds =>
      cases n with
      | zero => cases ok
      | succ n =>
        obtain ⟨h1, h2⟩ := ok_all (show (decide (ds.length ≤ B) && ds.all (okD B n)) = true from ok)
        cases h with
        | lst g1 g2 =>
          obtain ⟨es, e1, e2, e3⟩ := rpA_dp n ds _ h2 g2
          exact ⟨.list es, .lst (SqL.of g1.2) e1, by unfold PyData.canLay0; exact e2, by unfold PyData.depth; omega⟩
    | tup ds =>
      cases n with
      | zero => cases ok
      | succ n =>
        obtain ⟨h1, h2⟩ := ok_all (show (decide (ds.length ≤ B) && ds.all (okD B n)) = true from ok)
        cases h with
        | tup g1 g2 =>
          obtain ⟨es, e1, e2, e3⟩ := rpA_dp n ds _ h2 g2
          exact ⟨.tuple es, .tup (SqT.of g1.2) e1, by unfold PyData.canLay0; exact e2, by unfold PyData.depth; omega⟩
    | tab => cases n <;> cases ok
    | dic => cases n <;> cases ok
  termination_by n d => (n, 0)
theorem rpA_dp {K : PySem.W.Frag} {ct : Addr} {M : Mt} {H : Hp} {B : Nat} : ∀ (n : Nat) (ds : List Dt) (vs : List V), (∀ d ∈ ds, okD B n d = true) → RpA ct M H vs ds → ∃ es : List PyData, DpAll K H vs es ∧ PyData.canLayAll0 es = true ∧ PyData.depthAll es ≤ n
  | n, [], _, _, h => by cases h; exact ⟨[], .nil, rfl, Nat.zero_le _⟩
  | n, d :: ds, _, ok, h => by
    cases h with
    | cons h1 h2 =>
      obtain ⟨e, a1, a2, a3⟩ := rp_dp n d _ (ok d List.mem_cons_self) h1
      obtain ⟨es, b1, b2, b3⟩ := rpA_dp n ds _ (fun x hx => ok x (List.mem_cons_of_mem _ hx)) h2
      refine ⟨e :: es, .cons a1 b1, ?_, ?_⟩
      · unfold PyData.canLayAll0; rw [a2, b2]; rfl
      · unfold PyData.depthAll; omega
  termination_by n ds => (n, ds.length + 1)
end
end Bs
set_option Elab.async false
set_option linter.all false
set_option maxRecDepth 100000
set_option maxHeartbeats 400000
namespace Bs
open PySem PySem.Spec PyProof.Rows L2 SX
open C8 (pe_gc pss_cut)
local macro_rules | `(tactic| walk_at "xt") => `(tactic| first | assumption | exact Ext.weak (by assumption) | exact Ext.is (by assumption) (by assumption) | exact Ext.plus (by assumption) | exact Ext.plus (Ext.weak (by assumption)) | exact Ext.plus (Ext.is (by assumption) (by assumption)) | exact Ext.set plus_self)
local macro_rules | `(tactic| walk_at "gr") => `(tactic| first | assumption | exact Ext.grow (by assumption) | exact Grow.upd)
local macro_rules | `(tactic| walk_at "mo") => `(tactic| first | assumption | exact MOk.zero | ((first | refine MOk.grow ?_ (by walk_at "gr") | exact MOk.upd (by walk_at "mo")); walk_at "mo") | exact MOk.plus (by walk_at "mo") (by assumption))
local macro_rules | `(tactic| walk_at "hp") => `(tactic| first
  | assumption | exact At.raw (by assumption)
  | exact At.mk' (by walk_at "mo") (by assumption) (by assumption)
  | ((first | refine At.ext (by walk_at "xt") ?_ | refine Rp.ext (by walk_at "xt") ?_ | refine RpA.ext (by walk_at "xt") ?_ | refine Tb.ext (by walk_at "xt") ?_); walk_at "hp")
  | ((first | refine At.plus (by assumption) ?_ | refine Rp.plus (by assumption) ?_ | refine RpA.plus (by assumption) ?_ | refine Tb.plus (by assumption) ?_); walk_at "hp"))
local macro_rules | `(tactic| walk_at "at") => `(tactic| first | assumption | exact At.get (M := N0) (by walk_at "hp"))
local macro_rules | `(tactic| walk_at "sq") => `(tactic| first | exact SqL.of (by walk_at "at") | exact SqT.of (by walk_at "at"))
local macro_rules | `(tactic| walk_at "st") => `(tactic| with_reducible first
  | refine i_seq ?_ | refine i_asg ?_ | refine i_ret ?_ | refine i_retN ?_ | refine i_drop ?_ | refine i_ifS ?_ | refine i_next ?_ | refine i_brk ?_
  | refine i_gname ?_ | refine i_gsub ?_ | refine i_c ?_ | refine i_op ?_ | refine i_un ?_ | refine i_I0 ?_ | refine i_U ?_ | refine i_isN ?_ | refine i_notN ?_
  | refine i_test ?_ | refine i_tB ?_ | refine i_bl ?_ | refine i_and ?_ | refine i_or ?_ | refine i_not ?_ | refine i_andV ?_ | refine i_orV ?_ | refine i_notV ?_ | refine i_ifE ?_
  | refine i_nil ?_ | refine i_cons ?_ | refine i_for ?_ | refine i_iL ?_ | refine i_iT ?_ | refine i_iR ?_ | refine i_lc ?_ | refine i_prp ?_ | refine i_mk ?_ | refine i_sS ?_ | refine i_sN ?_ | refine i_nsS ?_ | refine i_nsN ?_ | refine i_fld ?_ | refine i_sf ?_ | refine i_inO ?_ | refine i_lsO ?_ | refine i_tpO ?_ | refine i_lnO ?_ | refine i_cb ?_ | refine i_call ?_ | refine i_tup ?_ | refine i_lst ?_ | refine i_dnew ?_ | refine i_inI ?_ | refine i_inB ?_ | refine i_rgX ?_ | refine i_lrO ?_ | refine i_rg1 ?_ | refine i_nF ?_ | refine i_nT ?_ | refine i_tt ?_ | refine i_ff ?_ | refine i_ifT ?_ | refine i_ifF ?_
  | refine i_eqI ?_ | refine i_eqS ?_ | refine i_eqB ?_ | refine i_neI ?_ | refine i_neS ?_ | refine i_dR ?_ | refine i_dI ?_ | refine i_dT ?_ | refine i_dS ?_ | refine i_dN ?_ | refine i_nR ?_ | refine i_nI ?_ | refine i_nN ?_
  | (refine i_var (by with_unfolding_all rfl) ?_) | refine i_eq rfl ?_ | refine i_ne rfl ?_)
local macro_rules | `(tactic| walk_at "sc") => `(tactic| first | exact (Rp.int (M := N0) _) | exact (Rp.str (M := N0) _) | exact (Rp.bl (M := N0) _) | exact (Rp.non (M := N0)) | assumption | exact Rp.tab (by assumption) | exact Tb.rp (by assumption))
local macro_rules | `(tactic| walk_at "sd") => `(tactic| simp only [d_Bool_non, d_Bool_bl, d_Bool_int, d_Bool_str, d_Bool_lst, d_Bool_tup, d_Bool_tab, d_Bool_dic, d_Int_non, d_Int_bl, d_Int_int, d_Int_str, d_Int_lst, d_Int_tup, d_Int_tab, d_Int_dic, d_Str_non, d_Str_bl, d_Str_int, d_Str_str, d_Str_lst, d_Str_tup, d_Str_tab, d_Str_dic, d_List_non, d_List_bl, d_List_int, d_List_str, d_List_lst, d_List_tup, d_List_tab, d_List_dic, d_Tup_non, d_Tup_bl, d_Tup_int, d_Tup_str, d_Tup_lst, d_Tup_tup, d_Tup_tab, d_Tup_dic, d_Tab_non, d_Tab_bl, d_Tab_int, d_Tab_str, d_Tab_lst, d_Tab_tup, d_Tab_tab, d_Tab_dic, Bool.not_true, Bool.not_false, Bool.true_or, Bool.false_or, Bool.or_true, Bool.or_false, Bool.and_true, Bool.true_and, Bool.and_false, Bool.false_and, if_true, if_false, Bool.false_eq_true])
local macro_rules | `(tactic| walk_at "isi") => `(tactic| ((first | with_reducible apply i_isB | with_reducible apply i_isI | with_reducible apply i_isS | with_reducible apply i_isL | with_reducible apply i_isT | with_reducible apply i_isTab); (focus assumption); (focus walk_at "sc"); try simp only [d_Bool_non, d_Bool_bl, d_Bool_int, d_Bool_str, d_Bool_lst, d_Bool_tup, d_Bool_tab, d_Bool_dic, d_Int_non, d_Int_bl, d_Int_int, d_Int_str, d_Int_lst, d_Int_tup, d_Int_tab, d_Int_dic, d_Str_non, d_Str_bl, d_Str_int, d_Str_str, d_Str_lst, d_Str_tup, d_Str_tab, d_Str_dic, d_List_non, d_List_bl, d_List_int, d_List_str, d_List_lst, d_List_tup, d_List_tab, d_List_dic, d_Tup_non, d_Tup_bl, d_Tup_int, d_Tup_str, d_Tup_lst, d_Tup_tup, d_Tup_tab, d_Tup_dic, d_Tab_non, d_Tab_bl, d_Tab_int, d_Tab_str, d_Tab_lst, d_Tab_tup, d_Tab_tab, d_Tab_dic]))
local macro_rules | `(tactic| walk_at "om") => `(tactic| first | ((with_reducible refine i_decF ?_ ?_); (focus omega)) | ((with_reducible refine i_decT ?_ ?_); (focus omega)) | ((with_reducible refine i_ndecF ?_ ?_); (focus omega)) | ((with_reducible refine i_ndecT ?_ ?_); (focus omega)))
local macro_rules | `(tactic| walk_at "go") => `(tactic| ((repeat (first | walk_at "st" | walk_at "isi" | walk_at "om")); try dsimp only [List.set]))
variable {W : Wd} {a : Ad}
local macro_rules | `(tactic| walk_at "st") => `(tactic| with_reducible first | refine i_sl ?_ | refine i_nopart ?_ | refine i_part ?_ | refine i_partI ?_ | refine i_bm ?_ | refine i_bm0 ?_ | refine i_m1 ?_ | refine i_m1S ?_)
/-! L11: rows bent. -/
def sp_brow (ct : Addr) (n : Nat) : Sp := sp3 fun x p kd H Q _ => ∃ M s k q xs ds, ∃ t : Int, x = .ref s ∧ p = .ref q ∧ kd = .int t ∧ Sto M H s k ∧ MOk M H ∧ k + 2 ≤ 1000000 ∧ At M H q (.lst xs) ∧ RpA ct M H xs ds ∧ ds.length ≤ 100 ∧ (∀ d ∈ ds, okD 501 n d = true) ∧
  ∀ p' xs' ds' H', At M H' p' (.lst xs') → RpA ct M H' xs' ds' → ds'.length ≤ 401 → (∀ d ∈ ds', okD 501 n d = true) → Ext (Is s) H H' → Grow H H' → Sto M H' s (k + 2) → Q (.ref p') H'
abbrev s_law_bend_row : Stmt := top 85
abbrev N_law_bend_row : List Str := ["_law_store_here", "_law_row", "_law_kind", "_law_at", "_law_found"]
abbrev P_law_bend_row : List Str := ["_law_store_here", "_law_row", "_law_kind"]
theorem sc_law_bend_row : FnScope N_law_bend_row P_law_bend_row (defScope s_law_bend_row) := ⟨rfl, rfl, rfl, by decide +kernel, rfl, by decide +kernel, by decide +kernel⟩
theorem bi_law_bend_row {K : PySem.W.Frag} {f : Addr} {fd : FuncData} (F : FnF K "_law_bend_row" "_law_bend_row" s_law_bend_row [] f fd) : Binds K fd P_law_bend_row [] := FunD.bindsN F fun _ _ _ _ _ _ us hl => match us, hl with | [_, _, _], _ => rfl
theorem c_law_bend_row (T : Txt W.K W.mg a) (D : DefAt W "_law_bend_row" "_law_bend_row" "_law_bend_row" s_law_bend_row) (c_law_near : Cal W CX0 4 "_law_near" P_law_near sp_near) (n : Nat) (hn : n ≤ 50) : Cal W CX0 5 "_law_bend_row" P_law_bend_row (sp_brow a.ct n) := cal_mk D sc_law_bend_row len3 (fun _ _ => bi_law_bend_row) fun f cdv A outer s H vs Q E hr h => by
  obtain ⟨_, _, _, rfl, M, s, k, q0, xs, ds, t, rfl, rfl, rfl, hs, m, hk, hq, hA, hl, hok, q⟩ := sp3_of h
  refine ⟨_, (pss_cons (ps_if (PW.pt (pw_or (pt_cmpR op_eq (pv 2) pe_int (by rfl)) (pw_or1 (pt_cmpR op_eq (pe_callB call_len_seq rfl T.len PySem.boot_len (pa_cons (pv 1) pa_nil)) pe_int (by rfl)))))
  (pss_one (ps_ret (pe_op op_cat (pv 1) (pe_lst (pa_cons pe_non pa_nil)))))
  pss_nil)
 (pss_cons (ps_set (i := 3) sc_law_bend_row.nd rfl (by first | exact Or.inl rfl | exact Or.inr rfl) (pe_cal c_law_near hr (by omega) pass0 rfl (pa_cons (pv 0) (pa_cons pe_int (pa_cons (pe_op op_sub (pe_callB call_len_seq rfl T.len PySem.boot_len (pa_cons (pv 1) pa_nil)) pe_int) pa_nil)))))
 (pss_cons (ps_if (pt_cmpR op_lt (pv 2) pe_int (by rfl))
  (pss_one (ps_ret (pe_op op_cat (pe_slice sl_list (pv 1) po_none (po_some (pv 3))) (pe_slice sl_list (pv 1) (po_some (pe_op op_add (pv 3) pe_int)) po_none))))
  pss_nil)
 (pss_cons (ps_if (pt_cmpR op_lt (pv 2) pe_int (by rfl))
  (pss_one (ps_ret (pe_op op_cat (pe_slice sl_list (pv 1) po_none (po_some (pe_op op_add (pv 3) pe_int))) (pe_slice sl_list (pv 1) (po_some (pv 3)) po_none))))
  pss_nil)
 (pss_cons (ps_set (i := 4) sc_law_bend_row.nd rfl (by first | exact Or.inl rfl | exact Or.inr rfl) (pe_op op_cat (pe_op op_cat (pe_op op_cat (pe_slice sl_list (pv 1) po_none (po_some (pv 3))) (pe_slice sl_list (pv 1) (po_some (pe_op op_add (pv 3) pe_int)) (po_some (pe_op op_add (pv 3) pe_int)))) (pe_slice sl_list (pv 1) (po_some (pv 3)) (po_some (pe_op op_add (pv 3) pe_int)))) (pe_slice sl_list (pv 1) (po_some (pe_op op_add (pv 3) pe_int)) po_none)))
 (pss_cons (ps_if (pt_cmpR (op_eqD (hr.units)) (pv 4) (pv 1) (by rfl))
  (pss_one (ps_ret (pe_op op_cat (pv 1) (pe_lst (pa_cons pe_non pa_nil)))))
  pss_nil)
 (pss_one (ps_ret (pv 4))))))))), ?_⟩
  have hlen := hA.length
  have more : ∀ {Hx : Hp} {Q' : VK}, Ext (Is s) H Hx → Grow H Hx → Sto M Hx s (k + 2) → (∀ p' xs' ds' H', At M H' p' (.lst xs') → RpA a.ct M H' xs' ds' → ds'.length ≤ 401 → (∀ d ∈ ds', okD 501 n d = true) → Ext (Is s) H H' → Grow H H' → Sto M H' s (k + 2) → Q' (.ref p') H') → NwL (fun x H1 => rCat (.ref q0) x H1 Q') [.non] Hx := by
    intro Hx Q' x g st q'
    refine i_nwL (by simp) fun p1 H1 n1 x1 t1 => ?_
    have hx := (hq.ext (x.is hs.mem)).ext x1.weak
    refine i_cat hx.2 t1 (by simp; omega) fun p2 H2 n2 x2 t2 => ?_
    have m2 : MOk M H1 := (m.grow g).grow x1.grow
    refine q' p2 _ (ds ++ [.non]) H2 (At.mk' m2 n2 t2) ((((hA.ext (x.is hs.mem)).ext x1.weak).ext x2.weak).append (.cons .non .nil)) (by simp; omega) (fun d hd => ?_) ((x.trans x1.weak).trans x2.weak) ((g.trans x1.grow).trans x2.grow) ((st.ext x1).ext x2)
    rcases List.mem_append.mp hd with h | h
    · exact hok d h
    · rw [List.mem_singleton.mp h]
      cases n <;> rfl
  walk_at "go"
  refine i_dec (fun e => ?_) (fun e => ?_)
  · walk_at "go"
    exact more (Ext.refl _ _) (Grow.refl _) (hs.le (by omega)) fun p' xs' ds' H' g1 g2 g3 g4 x g st => q p' xs' ds' H' g1 g2 g3 g4 x g st
  walk_at "go"
  refine i_lnL (SqL.of hq.2) ?_
  walk_at "go"
  refine i_dec (fun e2 => ?_) (fun e2 => ?_)
  · walk_at "go"
    exact more (Ext.refl _ _) (Grow.refl _) (hs.le (by omega)) fun p' xs' ds' H' g1 g2 g3 g4 x g st => q p' xs' ds' H' g1 g2 g3 g4 x g st
  walk_at "go"
  refine i_lnL (SqL.of hq.2) ?_
  walk_at "go"
  refine ⟨M, s, k, 0, _, rfl, rfl, rfl, hs, hk, by omega, by omega, fun r H1 r0 r1 x1 g1 s1 => ?_⟩
  have hq1 := hq.ext (x1.is hs.mem)
  have hA1 := hA.ext (x1.is hs.mem)
  have m1 := m.grow g1
  walk_at "go"
  refine i_dec (fun e3 => ?_) (fun e3 => ?_)
  · walk_at "go"
    refine i_slc (SqL.of hq1.2) fun p2 H2 n2 x2 t2 => ?_
    walk_at "go"
    refine i_slc (SqL.of (hq1.ext x2.weak).2) fun p3 H3 n3 x3 t3 => ?_
    obtain ⟨e1, a1, a2, a3⟩ := hA1.cut none (some r)
    obtain ⟨e2, b1, b2, b3⟩ := hA1.cut (some (r + 1)) none
    have t2 := x3 _ _ (fun z => z) t2
    have z1 := a1.length
    have z2 := b1.length
    refine i_cat t2 t3 (by omega) fun p4 H4 n4 x4 t4 => ?_
    have y4 : Ext N0 H1 H4 := x2.trans (x3.trans x4)
    refine q p4 _ (e1 ++ e2) H4 (At.mk' ((m1.grow x2.grow).grow x3.grow) n4 t4) ((a1.append b1).ext y4.weak) (by simp; omega) (fun d hd => ?_) (x1.trans y4.weak) (g1.trans y4.grow) (s1.ext y4)
    exact (List.mem_append.mp hd).elim (fun h => hok d (a3 d h)) fun h => hok d (b3 d h)
  walk_at "go"
  refine i_dec (fun e4 => ?_) (fun e4 => ?_)
  · walk_at "go"
    refine i_slc (SqL.of hq1.2) fun p2 H2 n2 x2 t2 => ?_
    walk_at "go"
    refine i_slc (SqL.of (hq1.ext x2.weak).2) fun p3 H3 n3 x3 t3 => ?_
    obtain ⟨e1, a1, a2, a3⟩ := hA1.cut none (some (r + 1))
    obtain ⟨e2, b1, b2, b3⟩ := hA1.cut (some r) none
    have t2 := x3 _ _ (fun z => z) t2
    have z1 := a1.length
    have z2 := b1.length
    refine i_cat t2 t3 (by omega) fun p4 H4 n4 x4 t4 => ?_
    have y4 : Ext N0 H1 H4 := x2.trans (x3.trans x4)
    refine q p4 _ (e1 ++ e2) H4 (At.mk' ((m1.grow x2.grow).grow x3.grow) n4 t4) ((a1.append b1).ext y4.weak) (by simp; omega) (fun d hd => ?_) (x1.trans y4.weak) (g1.trans y4.grow) (s1.ext y4)
    exact (List.mem_append.mp hd).elim (fun h => hok d (a3 d h)) fun h => hok d (b3 d h)
  walk_at "go"
  refine i_slc (SqL.of hq1.2) fun p2 H2 n2 x2 t2 => ?_
  walk_at "go"
  refine i_slc (SqL.of (hq1.ext x2.weak).2) fun p3 H3 n3 x3 t3 => ?_
  obtain ⟨e1, a1, a2, a3⟩ := hA1.cut none (some r)
  obtain ⟨e2', b1, b2, b3⟩ := hA1.cut (some (r + 1)) (some (r + 2))
  obtain ⟨e3', c1, c2, c3⟩ := hA1.cut (some r) (some (r + 1))
  obtain ⟨e4', d1, d2, d3⟩ := hA1.cut (some (r + 2)) none
  have z1 := a1.length
  have z2 := b1.length
  have z3 := c1.length
  have z4 := d1.length
  have t2 := x3 _ _ (fun z => z) t2
  refine i_cat t2 t3 (by omega) fun p4 H4 n4 x4 t4 => ?_
  walk_at "go"
  have y4 : Ext N0 H1 H4 := x2.trans (x3.trans x4)
  refine i_slc (SqL.of (hq1.ext y4.weak).2) fun p5 H5 n5 x5 t5 => ?_
  have t4 := x5 _ _ (fun z => z) t4
  refine i_cat t4 t5 (by simp; omega) fun p6 H6 n6 x6 t6 => ?_
  walk_at "go"
  have y6 : Ext N0 H1 H6 := y4.trans (x5.trans x6)
  refine i_slc (SqL.of (hq1.ext y6.weak).2) fun p7 H7 n7 x7 t7 => ?_
  have t6 := x7 _ _ (fun z => z) t6
  refine i_cat t6 t7 (by simp; omega) fun p8 H8 n8 x8 t8 => ?_
  walk_at "go"
  have y8 : Ext N0 H1 H8 := y6.trans (x7.trans x8)
  have m8 : MOk M H7 := m1.grow (y6.trans x7).grow
  have hR : RpA a.ct M H8 _ (((e1 ++ e2') ++ e3') ++ e4') := (((a1.append b1).append c1).append d1).ext y8.weak
  have hRok : ∀ d ∈ (((e1 ++ e2') ++ e3') ++ e4'), okD 501 n d = true := fun d hd => by
    rcases List.mem_append.mp hd with h | h
    · rcases List.mem_append.mp h with h | h
      · rcases List.mem_append.mp h with h | h
        · exact hok d (a3 d h)
        · exact hok d (b3 d h)
      · exact hok d (c3 d h)
    · exact hok d (d3 d h)
  have hq8 := hq1.ext y8.weak
  obtain ⟨f1, g1', g2, g3⟩ := rpA_dp n _ _ hRok hR
  obtain ⟨f2, h1', h2, h3⟩ := rpA_dp n _ _ hok (hA1.ext y8.weak)
  have shL : ∀ es : List PyData, PyData.canLayAll0 es = true → PyData.depthAll es ≤ n → SeqAt.shaped (.list es) = true := fun es u v => by
    unfold SeqAt.shaped PyData.canLay0 PyData.depth
    rw [u, Bool.true_and]
    exact decide_eq_true (by omega)
  refine ⟨.list f1, .list f2, .lst (SqL.of t8) g1', .lst (SqL.of hq8.2) h1', shL _ g2 g3, shL _ h2 h3, ?_⟩
  walk_at "go"
  refine i_bool (fun _ => ?_) (fun _ => ?_)
  · walk_at "go"
    exact more (x1.trans y8.weak) (g1.trans y8.grow) (s1.ext y8) fun p' xs' ds' H' g1 g2 g3 g4 x g st => q p' xs' ds' H' g1 g2 g3 g4 x g st
  · walk_at "go"
    exact q p8 _ _ H8 (At.mk' m8 n8 t8) hR (by simp; omega) hRok (x1.trans y8.weak) (g1.trans y8.grow) (s1.ext y8)
end Bs
set_option Elab.async false
set_option linter.all false
set_option maxRecDepth 100000
set_option maxHeartbeats 400000
namespace Bs
open PySem PySem.Spec PyProof.Rows L2 SX
open C8 (pe_gc pss_cut)
local macro_rules | `(tactic| walk_at "xt") => `(tactic| first | assumption | exact Ext.weak (by assumption) | exact Ext.is (by assumption) (by assumption) | exact Ext.plus (by assumption) | exact Ext.plus (Ext.weak (by assumption)) | exact Ext.plus (Ext.is (by assumption) (by assumption)) | exact Ext.set plus_self)
local macro_rules | `(tactic| walk_at "gr") => `(tactic| first | assumption | exact Ext.grow (by assumption) | exact Grow.upd)
local macro_rules | `(tactic| walk_at "mo") => `(tactic| first | assumption | exact MOk.zero | ((first | refine MOk.grow ?_ (by walk_at "gr") | exact MOk.upd (by walk_at "mo")); walk_at "mo") | exact MOk.plus (by walk_at "mo") (by assumption))
local macro_rules | `(tactic| walk_at "hp") => `(tactic| first
  | assumption | exact At.raw (by assumption)
  | exact At.mk' (by walk_at "mo") (by assumption) (by assumption)
  | ((first | refine At.ext (by walk_at "xt") ?_ | refine Rp.ext (by walk_at "xt") ?_ | refine RpA.ext (by walk_at "xt") ?_ | refine Tb.ext (by walk_at "xt") ?_); walk_at "hp")
  | ((first | refine At.plus (by assumption) ?_ | refine Rp.plus (by assumption) ?_ | refine RpA.plus (by assumption) ?_ | refine Tb.plus (by assumption) ?_); walk_at "hp"))
local macro_rules | `(tactic| walk_at "at") => `(tactic| first | assumption | exact At.get (M := N0) (by walk_at "hp"))
local macro_rules | `(tactic| walk_at "sq") => `(tactic| first | exact SqL.of (by walk_at "at") | exact SqT.of (by walk_at "at"))
local macro_rules | `(tactic| walk_at "st") => `(tactic| with_reducible first
  | refine i_seq ?_ | refine i_asg ?_ | refine i_ret ?_ | refine i_retN ?_ | refine i_drop ?_ | refine i_ifS ?_ | refine i_next ?_ | refine i_brk ?_
  | refine i_gname ?_ | refine i_gsub ?_ | refine i_c ?_ | refine i_op ?_ | refine i_un ?_ | refine i_I0 ?_ | refine i_U ?_ | refine i_isN ?_ | refine i_notN ?_
  | refine i_test ?_ | refine i_tB ?_ | refine i_bl ?_ | refine i_and ?_ | refine i_or ?_ | refine i_not ?_ | refine i_andV ?_ | refine i_orV ?_ | refine i_notV ?_ | refine i_ifE ?_
  | refine i_nil ?_ | refine i_cons ?_ | refine i_for ?_ | refine i_iL ?_ | refine i_iT ?_ | refine i_iR ?_ | refine i_lc ?_ | refine i_prp ?_ | refine i_mk ?_ | refine i_sS ?_ | refine i_sN ?_ | refine i_nsS ?_ | refine i_nsN ?_ | refine i_fld ?_ | refine i_sf ?_ | refine i_inO ?_ | refine i_lsO ?_ | refine i_tpO ?_ | refine i_lnO ?_ | refine i_cb ?_ | refine i_call ?_ | refine i_tup ?_ | refine i_lst ?_ | refine i_dnew ?_ | refine i_inI ?_ | refine i_inB ?_ | refine i_rgX ?_ | refine i_lrO ?_ | refine i_rg1 ?_ | refine i_nF ?_ | refine i_nT ?_ | refine i_tt ?_ | refine i_ff ?_ | refine i_ifT ?_ | refine i_ifF ?_
  | refine i_eqI ?_ | refine i_eqS ?_ | refine i_eqB ?_ | refine i_neI ?_ | refine i_neS ?_ | refine i_dR ?_ | refine i_dI ?_ | refine i_dT ?_ | refine i_dS ?_ | refine i_dN ?_ | refine i_nR ?_ | refine i_nI ?_ | refine i_nN ?_
  | (refine i_var (by with_unfolding_all rfl) ?_) | refine i_eq rfl ?_ | refine i_ne rfl ?_)
local macro_rules | `(tactic| walk_at "sc") => `(tactic| first | exact (Rp.int (M := N0) _) | exact (Rp.str (M := N0) _) | exact (Rp.bl (M := N0) _) | exact (Rp.non (M := N0)) | assumption | exact Rp.tab (by assumption) | exact Tb.rp (by assumption))
local macro_rules | `(tactic| walk_at "sd") => `(tactic| simp only [d_Bool_non, d_Bool_bl, d_Bool_int, d_Bool_str, d_Bool_lst, d_Bool_tup, d_Bool_tab, d_Bool_dic, d_Int_non, d_Int_bl, d_Int_int, d_Int_str, d_Int_lst, d_Int_tup, d_Int_tab, d_Int_dic, d_Str_non, d_Str_bl, d_Str_int, d_Str_str, d_Str_lst, d_Str_tup, d_Str_tab, d_Str_dic, d_List_non, d_List_bl, d_List_int, d_List_str, d_List_lst, d_List_tup, d_List_tab, d_List_dic, d_Tup_non, d_Tup_bl, d_Tup_int, d_Tup_str, d_Tup_lst, d_Tup_tup, d_Tup_tab, d_Tup_dic, d_Tab_non, d_Tab_bl, d_Tab_int, d_Tab_str, d_Tab_lst, d_Tab_tup, d_Tab_tab, d_Tab_dic, Bool.not_true, Bool.not_false, Bool.true_or, Bool.false_or, Bool.or_true, Bool.or_false, Bool.and_true, Bool.true_and, Bool.and_false, Bool.false_and, if_true, if_false, Bool.false_eq_true])
local macro_rules | `(tactic| walk_at "isi") => `(tactic| ((first | with_reducible apply i_isB | with_reducible apply i_isI | with_reducible apply i_isS | with_reducible apply i_isL | with_reducible apply i_isT | with_reducible apply i_isTab); (focus assumption); (focus walk_at "sc"); try simp only [d_Bool_non, d_Bool_bl, d_Bool_int, d_Bool_str, d_Bool_lst, d_Bool_tup, d_Bool_tab, d_Bool_dic, d_Int_non, d_Int_bl, d_Int_int, d_Int_str, d_Int_lst, d_Int_tup, d_Int_tab, d_Int_dic, d_Str_non, d_Str_bl, d_Str_int, d_Str_str, d_Str_lst, d_Str_tup, d_Str_tab, d_Str_dic, d_List_non, d_List_bl, d_List_int, d_List_str, d_List_lst, d_List_tup, d_List_tab, d_List_dic, d_Tup_non, d_Tup_bl, d_Tup_int, d_Tup_str, d_Tup_lst, d_Tup_tup, d_Tup_tab, d_Tup_dic, d_Tab_non, d_Tab_bl, d_Tab_int, d_Tab_str, d_Tab_lst, d_Tab_tup, d_Tab_tab, d_Tab_dic]))
local macro_rules | `(tactic| walk_at "om") => `(tactic| first | ((with_reducible refine i_decF ?_ ?_); (focus omega)) | ((with_reducible refine i_decT ?_ ?_); (focus omega)) | ((with_reducible refine i_ndecF ?_ ?_); (focus omega)) | ((with_reducible refine i_ndecT ?_ ?_); (focus omega)))
local macro_rules | `(tactic| walk_at "go") => `(tactic| ((repeat (first | walk_at "st" | walk_at "isi" | walk_at "om")); try dsimp only [List.set]))
variable {W : Wd} {a : Ad}
local macro_rules | `(tactic| walk_at "st") => `(tactic| with_reducible first | refine i_sl ?_ | refine i_nopart ?_ | refine i_part ?_ | refine i_partI ?_ | refine i_bm ?_ | refine i_bm0 ?_ | refine i_m1 ?_ | refine i_m1S ?_)
/-! L12: data bent. -/
theorem i_lsE {K : PySem.W.Frag} {Q : VK} {H : Hp} {p : Addr} {ys : List V} (s : SqL K H p ys ∨ SqT K H p ys) (h : ∀ p H', H p = none → Ext N0 H H' → H' p = some (.lst ys) → Q (.ref p) H') : LsO K Q [.ref p] H := ⟨p, ys, rfl, s, i_nw h⟩
def sp_bend (ct : Addr) (n : Nat) : Sp := sp2 fun x v H Q _ => ∃ M s k d, x = .ref s ∧ Sto M H s k ∧ MOk M H ∧ k + 4 * n ≤ 1000000 ∧ Rp ct M H v d ∧ okN 100 n d ∧ ∀ r d' H', okD 501 (n + 2) d' = true → Rp ct M H' r d' → Ext (Is s) H H' → Grow H H' → Sto M H' s (k + 4 * n) → Q r H'
abbrev s_law_bend : Stmt := top 84
abbrev N_law_bend : List Str := ["_law_store_here", "_law_given", "_law_row", "_law_at", "_law_kind"]
abbrev P_law_bend : List Str := ["_law_store_here", "_law_given"]
theorem sc_law_bend : FnScope N_law_bend P_law_bend (defScope s_law_bend) := ⟨rfl, rfl, rfl, by decide +kernel, rfl, by decide +kernel, by decide +kernel⟩
theorem bi_law_bend {K : PySem.W.Frag} {f : Addr} {fd : FuncData} (F : FnF K "_law_bend" "_law_bend" s_law_bend [] f fd) : Binds K fd P_law_bend [] := FunD.bindsN F fun _ _ _ _ _ _ us hl => match us, hl with | [_, _], _ => rfl
theorem c_law_bend (T : Txt W.K W.mg a) (D : DefAt W "_law_bend" "_law_bend" "_law_bend" s_law_bend) (c_law_take : Cal W CX0 3 "_law_take" P_law_take sp_take) (c_law_near : Cal W CX0 4 "_law_near" P_law_near sp_near) (c_law_bend_plain : Cal W CX0 4 "_law_bend_plain" P_law_bend_plain (sp_bplain a.ct))
    (c_br : ∀ n, n ≤ 50 → Cal W CX0 5 "_law_bend_row" P_law_bend_row (sp_brow a.ct n)) : ∀ n, n ≤ 30 → Cal W CX0 (n + 5) "_law_bend" P_law_bend (sp_bend a.ct n)
  | 0, _ => by
    obtain ⟨f, fd, ds, F, h1, h2, h3, h4⟩ := (cal_no (CX := CX0) D (fun _ _ => bi_law_bend) (sp := sp_bend a.ct 0) fun vs H Q E h => by
      obtain ⟨_, _, _, M, s, k, d, _, _, _, _, _, h, _⟩ := sp2_of h
      exact h : Cal W CX0 0 "_law_bend" P_law_bend (sp_bend a.ct 0)).ex
    exact ⟨f, fd, ds, F.mono (by omega), h1, h2, h3, h4⟩
  | n + 1, hn => by
    have c_law_bend := c_law_bend T D c_law_take c_law_near c_law_bend_plain c_br n (by omega)
    have c_law_bend_row := c_br n (by omega)
    refine cal_mk D sc_law_bend len2 (fun _ _ => bi_law_bend) fun f cdv A outer s H vs Q E hr h => ?_
    obtain ⟨_, v, rfl, M, s, k, d, rfl, hs, m, hk, hd, ok, q⟩ := sp2_of h
    refine ⟨_, (pss_cons (ps_if (pt_not (pt_val (pe_callB call_isiT rfl T.isinstance (by decide +kernel) (pa_cons (pv 1) (pa_cons (pe_tup (pa_cons (pe_bltn (v := .ty "list") rfl T.list (by decide +kernel) rfl) (pa_cons (pe_bltn (v := .ty "tuple") rfl T.tuple (by decide +kernel) rfl) pa_nil))) pa_nil)))))
  (pss_one (ps_ret (pe_cal c_law_bend_plain hr (by omega) pass0 rfl (pa_cons (pv 0) (pa_cons (pv 1) pa_nil)))))
  pss_nil)
 (pss_cons (ps_set (i := 2) sc_law_bend.nd rfl (by first | exact Or.inl rfl | exact Or.inr rfl) (pe_callTy call_list_of rfl T.list (by decide +kernel) (pa_cons (pv 1) pa_nil)))
 (pss_cut (ps_if (PW.pt (pw_and (pt_cmpR op_gt (pe_callB call_len_seq rfl T.len PySem.boot_len (pa_cons (pv 2) pa_nil)) pe_int (by rfl)) (pw_and1 (pt_cmpR op_gt (pe_cal c_law_take hr (by omega) pass0 rfl (pa_cons (pv 0) (pa_cons pe_int pa_nil))) pe_int (by rfl)))))
  (pss_cons (ps_set (i := 3) sc_law_bend.nd rfl (by first | exact Or.inl rfl | exact Or.inr rfl) (pe_cal c_law_near hr (by omega) pass0 rfl (pa_cons (pv 0) (pa_cons pe_int (pa_cons (pe_op op_sub (pe_callB call_len_seq rfl T.len PySem.boot_len (pa_cons (pv 2) pa_nil)) pe_int) pa_nil)))))
 (pss_one (ps_asg (pe_cal c_law_bend hr (by omega) pass0 rfl (pa_cons (pv 0) (pa_cons (pe_ix ix_seq (pv 2) (pv 3) (fun _ _ => rfl)) pa_nil))) (pg_sub (pv 2) (pv 3) set_list))))
  (pss_cons (ps_set (i := 4) sc_law_bend.nd rfl (by first | exact Or.inl rfl | exact Or.inr rfl) (pe_cal c_law_take hr (by omega) pass0 rfl (pa_cons (pv 0) (pa_cons pe_int pa_nil))))
 (pss_cons (ps_if (pt_cmpR op_lt (pv 4) pe_int (by rfl))
  (pss_one (ps_ret (pe_ix ix_seq (pe_lst (pa_cons pe_non (pa_cons pe_str pa_nil))) (pv 4) (fun _ _ => rfl))))
  pss_nil)
 (pss_one (ps_set (i := 2) sc_law_bend.nd rfl (by first | exact Or.inl rfl | exact Or.inr rfl) (pe_cal c_law_bend_row hr (by omega) pass0 rfl (pa_cons (pv 0) (pa_cons (pv 2) (pa_cons (pv 4) pa_nil)))))))))
 (pss_cons (ps_if (pt_val (pe_callB call_isi rfl T.isinstance (by decide +kernel) (pa_cons (pv 1) (pa_cons (pe_bltn (v := .ty "tuple") rfl T.tuple (by decide +kernel) rfl) pa_nil))))
  (pss_one (ps_ret (pe_callTy call_tuple_of rfl T.tuple (by decide +kernel) (pa_cons (pv 2) pa_nil))))
  pss_nil)
 (pss_one (ps_ret (pv 2))))))), ?_⟩
    walk_at "go"
    refine i_nwT (by simp) fun u H0 n0 x0 u0 => ?_
    walk_at "go"
    have hd0 := hd.ext x0.weak
    have hs0 := hs.ext x0
    have m0 := m.grow x0.grow
    refine i_isLT T hd0 u0 ?_
    by_cases hsc : okD 100 0 d = true
    · obtain ⟨e1, e2⟩ : d.isList = false ∧ d.isTup = false := by
        cases d with
        | lst ds => cases hsc
        | tup ds => cases hsc
        | _ => exact ⟨rfl, rfl⟩
      rw [e1, e2]
      refine ⟨false, rfl, i_tt ?_⟩
      walk_at "go"
      refine ⟨M, s, k, d, rfl, hs0, m0, by omega, hd0, ok_up (by omega) (Nat.le_refl 0) hsc, fun r d' H1 o1 r1 x1 g1 s1 => ?_⟩
      exact q r d' H1 (ok_up (Nat.le_refl _) (by omega) o1) r1 (x0.weak.trans x1) (x0.grow.trans g1) (s1.le (by omega))
    obtain ⟨p0, xs, ds, rfl, hq, hA, hB1, hok, hLT⟩ : ∃ p0 xs ds, v = .ref p0 ∧ (SqL W.K H0 p0 xs ∨ SqT W.K H0 p0 xs) ∧ RpA a.ct M H0 xs ds ∧ ds.length ≤ 100 ∧ (∀ d ∈ ds, okN 100 n d) ∧ (d = .lst ds ∨ d = .tup ds) := by
      cases n with
      | zero => exact absurd ok hsc
      | succ n0 =>
        cases d with
        | lst ds =>
          obtain ⟨g1, g2⟩ := ok_all (show (decide (ds.length ≤ 100) && ds.all (okD 100 n0)) = true from ok)
          obtain ⟨p0, xs, rfl, h1, h2⟩ := hd0.lstAt
          exact ⟨p0, xs, ds, rfl, .inl (SqL.of h1.2), h2, g1, g2, .inl rfl⟩
        | tup ds =>
          obtain ⟨g1, g2⟩ := ok_all (show (decide (ds.length ≤ 100) && ds.all (okD 100 n0)) = true from ok)
          obtain ⟨p0, xs, rfl, h1, h2⟩ := hd0.tupAt
          exact ⟨p0, xs, ds, rfl, .inr (SqT.of h1.2), h2, g1, g2, .inr rfl⟩
        | tab => cases ok
        | dic => cases ok
        | str s => exact absurd ok hsc
        | _ => exact absurd rfl hsc
    have hdLT : (d.isList || d.isTup) = true := by rcases hLT with rfl | rfl <;> rfl
    rw [hdLT]
    refine ⟨true, rfl, i_ff ?_⟩
    walk_at "go"
    refine i_lsE hq fun p H1 n1 x1 t1 => ?_
    walk_at "go"
    have hl := hA.length
    have hA1 : RpA a.ct (Plus M p) H1 xs ds := (hA.plus n1).ext x1.weak
    have s1 : Sto (Plus M p) H1 s k := (hs0.plus n1).ext x1
    have m1 : MOk (Plus M p) H1 := (m0.grow x1.grow).plus (by rw [t1]; simp)
    have hpM : ¬ M p := fun z => m0 p z n1
    have hps : p ≠ s := fun e => hpM (e ▸ hs.mem)
    have e01 : Ext (Is s) H H1 := (x0.trans x1).weak
    have g01 : Grow H H1 := (x0.trans x1).grow
    have hok501 : ∀ d ∈ ds, okD 501 (n + 2) d = true := fun d hd => by
      have := hok d hd
      cases n with
      | zero => exact this.elim
      | succ n0 => exact ok_up (by omega) (by omega) this
    refine i_cut (fun σ' Hx => ∃ p' xs' ds', (∃ v3 v4, σ' = [some (.ref s), some (.ref p0), some (.ref p'), v3, v4]) ∧ At M Hx p' (.lst xs') ∧ RpA a.ct M Hx xs' ds' ∧ ds'.length ≤ 401 ∧ (∀ d ∈ ds', okD 501 (n + 2) d = true) ∧ Ext (Is s) H Hx ∧ Grow H Hx ∧ Sto M Hx s (k + 4 * (n + 1))) ?_ ?_
    · walk_at "go"
      refine i_lnL (SqL.of t1) ?_
      walk_at "go"
      refine i_dec (fun e => ?_) (fun e => ?_)
      · walk_at "go"
        refine ⟨Plus M p, s, k, 4, rfl, rfl, s1, by omega, by omega, fun r0 H2 _ r2 x2 g2 s2 => ?_⟩
        have t2 : H2 p = some (.lst xs) := x2 _ _ hps t1
        have m2 := m1.grow g2
        walk_at "go"
        refine i_dec (fun e4 => ?_) (fun e4 => ?_)
        · walk_at "go"
          refine i_lnL (SqL.of t2) ?_
          walk_at "go"
          refine ⟨Plus M p, s, k + 1, 0, _, rfl, rfl, rfl, s2, by omega, by omega, by omega, fun r H3 ra rb x3 g3 s3 => ?_⟩
          have t3 : H3 p = some (.lst xs) := x3 _ _ hps t2
          have hA3 : RpA a.ct (Plus M p) H3 xs ds := hA1.ext ((x2.trans x3).is (.inl hs.mem))
          obtain ⟨j, rfl⟩ := Int.eq_ofNat_of_zero_le ra
          have hj : j < xs.length := by omega
          obtain ⟨dj, hdj, hrj⟩ := hA3.getV (List.getElem?_eq_getElem hj)
          walk_at "go"
          refine .inl (i_ixL (At.raw t3) (atI_nat (List.getElem?_eq_getElem hj)) ?_)
          walk_at "go"
          refine ⟨Plus M p, s, k + 1 + 2, dj, rfl, s3, m2.grow g3, by omega, hrj, hok dj (List.mem_of_getElem? hdj), fun w d' H4 o4 r4 x4 g4 s4 => ?_⟩
          have t4 : H4 p = some (.lst xs) := x4 _ _ hps t3
          walk_at "go"
          refine i_setL t4 (j := j) (by simp [ixN]; omega) fun H5 x5 g5 t5 => ?_
          have y5 : Ext (Plus M p) H1 H5 := (((x2.trans x3).trans x4).is (.inl hs.mem)).trans (x5.is plus_self)
          have hA5 : RpA a.ct (Plus M p) H5 (xs.set j w) (ds.set j d') := ((hA3.ext (x4.is (.inl hs.mem))).set j r4).ext (x5.is plus_self)
          have y6 : Ext (Plus (Is s) p) H1 H5 := (((x2.trans x3).trans x4).is (.inl rfl)).trans (x5.is plus_self)
          have y7 : Ext (Is s) H0 H5 := Ext.close x1.weak n1 y6
          refine ⟨p, _, ds.set j d', ⟨_, _, rfl⟩, ⟨hpM, t5⟩, hA5.of fun _ z => .inl z, by simp; omega, fun d hd => ?_, x0.weak.trans y7, (g01.trans (g2.trans (g3.trans (g4.trans g5)))), ((s4.set (fun e => hps e.symm) x5).less hs.mem).le (by omega)⟩
          rcases List.mem_or_eq_of_mem_set hd with h | h
          · exact hok501 d h
          · rw [h]; exact o4
        · skip
          have hM1 : Ext (Plus M p) H1 H2 := x2.is (.inl hs.mem)
          walk_at "go"
          refine ⟨Plus M p, s, (k + 1), 8, rfl, rfl, s2, by omega, by omega, fun r H3 _ r3 x3 g3 s3 => ?_⟩
          have r3 := r3 (by omega)
          have t3 : H3 p = some (.lst xs) := x3 _ _ hps t2
          have e13 : Ext (Is s) H1 H3 := x2.trans x3
          have m3 : MOk M H3 := (m1.less.grow g2).grow g3
          walk_at "go"
          refine i_dec (fun e5 => ?_) (fun e5 => ?_)
          · walk_at "go"
            refine i_nwL (by simp) fun p6 H6 n6 x6 t6 => ?_
            walk_at "go"
            refine drawn (ct := a.ct) (M := M) t6 (.cons .non (.cons (.str "x") .nil)) r3.1 (by show r < 2; omega) fun v d hd hv => ?_
            refine q v d H6 ?_ hv ((e01.trans e13).trans x6.weak) ((g01.trans (g2.trans g3)).trans x6.grow) (((s3.less hs.mem).ext x6).le (by omega))
            simp only [List.mem_cons, List.not_mem_nil, or_false] at hd
            rcases hd with rfl | rfl
            · rfl
            · exact ok_up (B := 501) (Nat.le_refl _) (Nat.zero_le _) (by decide +kernel : okD 501 0 (.str "x") = true)
          · walk_at "go"
            have hA3 : RpA a.ct M H3 xs ds := (hA1.ext (e13.is (.inl hs.mem))).of fun _ z => .inl z
            refine ⟨M, s, (k + 1) + 1, p, xs, ds, r, rfl, rfl, rfl, s3.less hs.mem, m3, by omega, ⟨hpM, t3⟩, hA3, hB1, fun d hd => ?_, fun p' xs' ds' H4 g1' g2' g3' g4' x4 g4 st4 => ?_⟩
            · have := hok d hd
              cases n with
              | zero => exact this.elim
              | succ n0 => exact ok_up (by omega) (by omega) this
            · exact ⟨p', xs', ds', ⟨_, _, rfl⟩, g1', g2', g3', fun d hd => ok_up (Nat.le_refl _) (by omega) (g4' d hd), (e01.trans e13).trans x4, (g01.trans (g2.trans g3)).trans g4, st4.le (by omega)⟩
      · skip
        have hM1 : Ext (Plus M p) H1 H1 := (Ext.refl (Is s) H1).is (.inl hs.mem)
        walk_at "go"
        refine ⟨Plus M p, s, k, 8, rfl, rfl, s1, by omega, by omega, fun r H3 _ r3 x3 g3 s3 => ?_⟩
        have r3 := r3 (by omega)
        have t3 : H3 p = some (.lst xs) := x3 _ _ hps t1
        have e13 : Ext (Is s) H1 H3 := (Ext.refl (Is s) H1).trans x3
        have m3 : MOk M H3 := (m1.less.grow (Grow.refl H1)).grow g3
        walk_at "go"
        refine i_dec (fun e5 => ?_) (fun e5 => ?_)
        · walk_at "go"
          refine i_nwL (by simp) fun p6 H6 n6 x6 t6 => ?_
          walk_at "go"
          refine drawn (ct := a.ct) (M := M) t6 (.cons .non (.cons (.str "x") .nil)) r3.1 (by show r < 2; omega) fun v d hd hv => ?_
          refine q v d H6 ?_ hv ((e01.trans e13).trans x6.weak) ((g01.trans ((Grow.refl H1).trans g3)).trans x6.grow) (((s3.less hs.mem).ext x6).le (by omega))
          simp only [List.mem_cons, List.not_mem_nil, or_false] at hd
          rcases hd with rfl | rfl
          · rfl
          · exact ok_up (B := 501) (Nat.le_refl _) (Nat.zero_le _) (by decide +kernel : okD 501 0 (.str "x") = true)
        · walk_at "go"
          have hA3 : RpA a.ct M H3 xs ds := (hA1.ext (e13.is (.inl hs.mem))).of fun _ z => .inl z
          refine ⟨M, s, k + 1, p, xs, ds, r, rfl, rfl, rfl, s3.less hs.mem, m3, by omega, ⟨hpM, t3⟩, hA3, hB1, fun d hd => ?_, fun p' xs' ds' H4 g1' g2' g3' g4' x4 g4 st4 => ?_⟩
          · have := hok d hd
            cases n with
            | zero => exact this.elim
            | succ n0 => exact ok_up (by omega) (by omega) this
          · exact ⟨p', xs', ds', ⟨_, _, rfl⟩, g1', g2', g3', fun d hd => ok_up (Nat.le_refl _) (by omega) (g4' d hd), (e01.trans e13).trans x4, (g01.trans ((Grow.refl H1).trans g3)).trans g4, st4.le (by omega)⟩
    · rintro σ' Hx ⟨p', xs', ds', ⟨v3, v4, rfl⟩, h1, h2, h3, h4, h5, h6, h7⟩
      have hdx := hd.ext (h5.is hs.mem)
      walk_at "go"
      have hfin : okD 501 (n + 1 + 2) (.lst ds') = true ∧ okD 501 (n + 1 + 2) (.tup ds') = true := by
        have e : (decide (ds'.length ≤ 501) && ds'.all (okD 501 (n + 2))) = true := by
          rw [decide_eq_true (by omega), Bool.true_and, List.all_eq_true]; exact h4
        exact ⟨e, e⟩
      rcases hLT with rfl | rfl
      · walk_at "sd"
        walk_at "go"
        exact q _ _ Hx hfin.1 (.lst h1 h2) h5 h6 h7
      · walk_at "sd"
        walk_at "go"
        refine i_tpL (SqL.of h1.2) fun w H2 n2 x2 w2 => ?_
        exact q _ _ H2 hfin.2 (.tup (At.mk' (m.grow h6) n2 w2) (h2.ext x2.weak)) (h5.trans x2.weak) (h6.trans x2.grow) (h7.ext x2)
end Bs
set_option Elab.async false
set_option linter.all false
set_option maxRecDepth 100000
set_option maxHeartbeats 400000
namespace Bs
open PySem PySem.Spec PyProof.Rows L2 SX
open C8 (pe_gc pss_cut)
local macro_rules | `(tactic| walk_at "xt") => `(tactic| first | assumption | exact Ext.weak (by assumption) | exact Ext.is (by assumption) (by assumption) | exact Ext.plus (by assumption) | exact Ext.plus (Ext.weak (by assumption)) | exact Ext.plus (Ext.is (by assumption) (by assumption)) | exact Ext.set plus_self)
local macro_rules | `(tactic| walk_at "gr") => `(tactic| first | assumption | exact Ext.grow (by assumption) | exact Grow.upd)
local macro_rules | `(tactic| walk_at "mo") => `(tactic| first | assumption | exact MOk.zero | ((first | refine MOk.grow ?_ (by walk_at "gr") | exact MOk.upd (by walk_at "mo")); walk_at "mo") | exact MOk.plus (by walk_at "mo") (by assumption))
local macro_rules | `(tactic| walk_at "hp") => `(tactic| first
  | assumption | exact At.raw (by assumption)
  | exact At.mk' (by walk_at "mo") (by assumption) (by assumption)
  | ((first | refine At.ext (by walk_at "xt") ?_ | refine Rp.ext (by walk_at "xt") ?_ | refine RpA.ext (by walk_at "xt") ?_ | refine Tb.ext (by walk_at "xt") ?_); walk_at "hp")
  | ((first | refine At.plus (by assumption) ?_ | refine Rp.plus (by assumption) ?_ | refine RpA.plus (by assumption) ?_ | refine Tb.plus (by assumption) ?_); walk_at "hp"))
local macro_rules | `(tactic| walk_at "at") => `(tactic| first | assumption | exact At.get (M := N0) (by walk_at "hp"))
local macro_rules | `(tactic| walk_at "sq") => `(tactic| first | exact SqL.of (by walk_at "at") | exact SqT.of (by walk_at "at"))
local macro_rules | `(tactic| walk_at "st") => `(tactic| with_reducible first
  | refine i_seq ?_ | refine i_asg ?_ | refine i_ret ?_ | refine i_retN ?_ | refine i_drop ?_ | refine i_ifS ?_ | refine i_next ?_ | refine i_brk ?_
  | refine i_gname ?_ | refine i_gsub ?_ | refine i_c ?_ | refine i_op ?_ | refine i_un ?_ | refine i_I0 ?_ | refine i_U ?_ | refine i_isN ?_ | refine i_notN ?_
  | refine i_test ?_ | refine i_tB ?_ | refine i_bl ?_ | refine i_and ?_ | refine i_or ?_ | refine i_not ?_ | refine i_andV ?_ | refine i_orV ?_ | refine i_notV ?_ | refine i_ifE ?_
  | refine i_nil ?_ | refine i_cons ?_ | refine i_for ?_ | refine i_iL ?_ | refine i_iT ?_ | refine i_iR ?_ | refine i_lc ?_ | refine i_prp ?_ | refine i_mk ?_ | refine i_sS ?_ | refine i_sN ?_ | refine i_nsS ?_ | refine i_nsN ?_ | refine i_fld ?_ | refine i_sf ?_ | refine i_inO ?_ | refine i_lsO ?_ | refine i_tpO ?_ | refine i_lnO ?_ | refine i_cb ?_ | refine i_call ?_ | refine i_tup ?_ | refine i_lst ?_ | refine i_dnew ?_ | refine i_inI ?_ | refine i_inB ?_ | refine i_rgX ?_ | refine i_lrO ?_ | refine i_rg1 ?_ | refine i_nF ?_ | refine i_nT ?_ | refine i_tt ?_ | refine i_ff ?_ | refine i_ifT ?_ | refine i_ifF ?_
  | refine i_eqI ?_ | refine i_eqS ?_ | refine i_eqB ?_ | refine i_neI ?_ | refine i_neS ?_ | refine i_dR ?_ | refine i_dI ?_ | refine i_dT ?_ | refine i_dS ?_ | refine i_dN ?_ | refine i_nR ?_ | refine i_nI ?_ | refine i_nN ?_
  | (refine i_var (by with_unfolding_all rfl) ?_) | refine i_eq rfl ?_ | refine i_ne rfl ?_)
local macro_rules | `(tactic| walk_at "sc") => `(tactic| first | exact (Rp.int (M := N0) _) | exact (Rp.str (M := N0) _) | exact (Rp.bl (M := N0) _) | exact (Rp.non (M := N0)) | assumption | exact Rp.tab (by assumption) | exact Tb.rp (by assumption))
local macro_rules | `(tactic| walk_at "sd") => `(tactic| simp only [d_Bool_non, d_Bool_bl, d_Bool_int, d_Bool_str, d_Bool_lst, d_Bool_tup, d_Bool_tab, d_Bool_dic, d_Int_non, d_Int_bl, d_Int_int, d_Int_str, d_Int_lst, d_Int_tup, d_Int_tab, d_Int_dic, d_Str_non, d_Str_bl, d_Str_int, d_Str_str, d_Str_lst, d_Str_tup, d_Str_tab, d_Str_dic, d_List_non, d_List_bl, d_List_int, d_List_str, d_List_lst, d_List_tup, d_List_tab, d_List_dic, d_Tup_non, d_Tup_bl, d_Tup_int, d_Tup_str, d_Tup_lst, d_Tup_tup, d_Tup_tab, d_Tup_dic, d_Tab_non, d_Tab_bl, d_Tab_int, d_Tab_str, d_Tab_lst, d_Tab_tup, d_Tab_tab, d_Tab_dic, Bool.not_true, Bool.not_false, Bool.true_or, Bool.false_or, Bool.or_true, Bool.or_false, Bool.and_true, Bool.true_and, Bool.and_false, Bool.false_and, if_true, if_false, Bool.false_eq_true])
local macro_rules | `(tactic| walk_at "isi") => `(tactic| ((first | with_reducible apply i_isB | with_reducible apply i_isI | with_reducible apply i_isS | with_reducible apply i_isL | with_reducible apply i_isT | with_reducible apply i_isTab); (focus assumption); (focus walk_at "sc"); try simp only [d_Bool_non, d_Bool_bl, d_Bool_int, d_Bool_str, d_Bool_lst, d_Bool_tup, d_Bool_tab, d_Bool_dic, d_Int_non, d_Int_bl, d_Int_int, d_Int_str, d_Int_lst, d_Int_tup, d_Int_tab, d_Int_dic, d_Str_non, d_Str_bl, d_Str_int, d_Str_str, d_Str_lst, d_Str_tup, d_Str_tab, d_Str_dic, d_List_non, d_List_bl, d_List_int, d_List_str, d_List_lst, d_List_tup, d_List_tab, d_List_dic, d_Tup_non, d_Tup_bl, d_Tup_int, d_Tup_str, d_Tup_lst, d_Tup_tup, d_Tup_tab, d_Tup_dic, d_Tab_non, d_Tab_bl, d_Tab_int, d_Tab_str, d_Tab_lst, d_Tab_tup, d_Tab_tab, d_Tab_dic]))
local macro_rules | `(tactic| walk_at "om") => `(tactic| first | ((with_reducible refine i_decF ?_ ?_); (focus omega)) | ((with_reducible refine i_decT ?_ ?_); (focus omega)) | ((with_reducible refine i_ndecF ?_ ?_); (focus omega)) | ((with_reducible refine i_ndecT ?_ ?_); (focus omega)))
local macro_rules | `(tactic| walk_at "go") => `(tactic| ((repeat (first | walk_at "st" | walk_at "isi" | walk_at "om")); try dsimp only [List.set]))
variable {W : Wd} {a : Ad}
local macro_rules | `(tactic| walk_at "st") => `(tactic| with_reducible first | refine i_sl ?_ | refine i_nopart ?_ | refine i_part ?_ | refine i_partI ?_ | refine i_bm ?_ | refine i_bm0 ?_ | refine i_m1 ?_ | refine i_m1S ?_)
/-! L13: a drawn paper. -/
def sp_lrp (ct : Addr) : Sp := sp3 fun x w y H Q _ => ∃ M s k n p b1 b2 b3, x = .ref s ∧ w = .int (n : Nat) ∧ y = .ref p ∧ Sto M H s k ∧ MOk M H ∧ k + 2000 ≤ 1000000 ∧ Rw M H p b1 b2 b3 ∧ TabOk n b1 ∧ TabOk n b2 ∧ TabOk n b3 ∧
  ∀ r d H', okD 501 30 d = true → Rp ct M H' r d → Ext (Is s) H H' → Grow H H' → Sto M H' s (k + 2000) → Q r H'
theorem ord_ok : ∀ o ∈ orders, okD 100 0 (.str o) = true := by decide +kernel
theorem ring_ok (b : List Str) (hl : b.length ≤ 50) (hb : ∀ o ∈ b, o ∈ orders) : okD 100 2 (.tup [.str "ring", .lst (b.map Dt.str)]) = true := by
  have h1 : (b.map Dt.str).all (okD 100 0) = true := by
    rw [List.all_eq_true]
    intro d hd
    obtain ⟨o, ho, rfl⟩ := List.mem_map.mp hd
    exact ord_ok o (hb o ho)
  have h2 : okD 100 1 (.str "ring") = true := by decide +kernel
  show (decide (2 ≤ 100) && (okD 100 1 (.str "ring") && ((decide ((b.map Dt.str).length ≤ 100) && (b.map Dt.str).all (okD 100 0)) && true))) = true
  rw [h1, h2, decide_eq_true (show (b.map Dt.str).length ≤ 100 by simp; omega)]
  rfl
theorem two_ok (z : Str) (hz : okD 100 0 (.str z) = true) (i j : Int) : okD 100 2 (.tup [.str z, .int i, .int j]) = true := by
  show (decide (3 ≤ 100) && (okD 100 1 (.str z) && (true && (true && true)))) = true
  rw [ok_up (Nat.le_refl _) (Nat.zero_le 1) hz]
  rfl
abbrev s_law_ring_paper : Stmt := top 93
abbrev N_law_ring_paper : List Str := ["_law_store_here", "_law_wide_here", "_law_three", "_law_kind", "_law_found", "_law_ballot", "_law_k"]
abbrev P_law_ring_paper : List Str := ["_law_store_here", "_law_wide_here", "_law_three"]
theorem sc_law_ring_paper : FnScope N_law_ring_paper P_law_ring_paper (defScope s_law_ring_paper) := ⟨rfl, rfl, rfl, by decide +kernel, rfl, by decide +kernel, by decide +kernel⟩
theorem bi_law_ring_paper {K : PySem.W.Frag} {f : Addr} {fd : FuncData} (F : FnF K "_law_ring_paper" "_law_ring_paper" s_law_ring_paper [] f fd) : Binds K fd P_law_ring_paper [] := FunD.bindsN F fun _ _ _ _ _ _ us hl => match us, hl with | [_, _, _], _ => rfl
theorem c_law_ring_paper (T : Txt W.K W.mg a) (D : DefAt W "_law_ring_paper" "_law_ring_paper" "_law_ring_paper" s_law_ring_paper) (c_law_take : Cal W CX0 3 "_law_take" P_law_take sp_take) (c_law_odd : Cal W CX0 4 "_law_odd" P_law_odd (sp_odd a.ct)) (c_law_orders : Cal W CX0 5 "_law_orders" P_law_orders sp_orders)
    (c_law_result_of : Cal W CX0 3 "_law_result_of" P_law_result_of sp_rof) (c_law_bend : Cal W CX0 8 "_law_bend" P_law_bend (sp_bend a.ct 3)) : Cal W CX0 9 "_law_ring_paper" P_law_ring_paper (sp_lrp a.ct) := cal_mk D sc_law_ring_paper len3 (fun _ _ => bi_law_ring_paper) fun f cdv A outer s H vs Q E hr h => by
  obtain ⟨_, _, _, rfl, M, s, k, n, p, b1, b2, b3, rfl, rfl, rfl, hs, m, hk, hp, ok1, ok2, ok3, q⟩ := sp3_of h
  have hn := ok1.1
  have hM := hs.mem
  refine ⟨_, (PSs.nox (pss_cons (ps_set (i := 3) sc_law_ring_paper.nd rfl (by first | exact Or.inl rfl | exact Or.inr rfl) (pe_cal c_law_take hr (by omega) pass0 rfl (pa_cons (pv 0) (pa_cons pe_int pa_nil))))
 (pss_cons (ps_if (pt_cmpR op_eq (pv 3) pe_int (by rfl))
  (pss_one (ps_ret (pe_cal c_law_odd hr (by omega) pass0 rfl (pa_cons (pv 0) pa_nil))))
  pss_nil)
 (pss_cons (ps_set (i := 4) sc_law_ring_paper.nd rfl (by first | exact Or.inl rfl | exact Or.inr rfl) (pe_tup (pa_cons pe_str (pa_cons (pe_cal c_law_take hr (by omega) pass0 rfl (pa_cons (pv 0) (pa_cons pe_int pa_nil))) (pa_cons (pe_op op_add pe_int (pe_cal c_law_take hr (by omega) pass0 rfl (pa_cons (pv 0) (pa_cons pe_int pa_nil)))) pa_nil)))))
 (pss_cut (ps_if (PW.pt (pw_and (pt_cmpR op_lt (pv 3) pe_int (by rfl)) (pw_and1 (pt_cmpR op_gt (pv 3) pe_int (by rfl)))))
  (pss_one (ps_set (i := 4) sc_law_ring_paper.nd rfl (by first | exact Or.inl rfl | exact Or.inr rfl) (pe_tup (pa_cons pe_str (pa_cons (pe_cal c_law_take hr (by omega) pass0 rfl (pa_cons (pv 0) (pa_cons (pe_op op_add (pv 1) pe_int) pa_nil))) (pa_cons (pe_cal c_law_take hr (by omega) pass0 rfl (pa_cons (pv 0) (pa_cons pe_int pa_nil))) pa_nil))))))
  pss_nil)
 (pss_cut (ps_if (pt_cmpR op_eq (pv 3) pe_int (by rfl))
  (pss_one (ps_set (i := 4) sc_law_ring_paper.nd rfl (by first | exact Or.inl rfl | exact Or.inr rfl) (pe_tup (pa_cons pe_str (pa_cons (pe_cal c_law_orders hr (by omega) pass0 rfl (pa_cons (pv 0) (pa_cons (pe_callB (call_max2 rfl) rfl T.max (by decide +kernel) (pa_cons pe_int (pa_cons (pe_op op_add (pe_op op_sub (pv 1) pe_int) (pe_cal c_law_take hr (by omega) pass0 rfl (pa_cons (pv 0) (pa_cons pe_int pa_nil)))) pa_nil))) pa_nil))) pa_nil)))))
  pss_nil)
 (pss_cut (ps_if (pt_cmpR op_gt (pv 3) pe_int (by rfl))
  (pss_cons (ps_set (i := 5) sc_law_ring_paper.nd rfl (by first | exact Or.inl rfl | exact Or.inr rfl) (pe_lst pa_nil))
 (pss_cons (ps_for PassesOwn.never rfl (pi_range1 (by rfl) T.range (pa_cons pe_int pa_nil)) (pg_name (i := 6) sc_law_ring_paper.nd rfl (by first | exact Or.inl rfl | exact Or.inr rfl))
  (pss_cons (ps_set (i := 5) sc_law_ring_paper.nd rfl (by first | exact Or.inl rfl | exact Or.inr rfl) (pe_cal c_law_orders hr (by omega) pass0 rfl (pa_cons (pv 0) (pa_cons (pv 1) pa_nil))))
 (pss_one (ps_if (pt_cmpR op_eq (pe_cal c_law_result_of hr (by omega) pass0 rfl (pa_cons (pv 2) (pa_cons (pv 5) pa_nil))) pe_str (by rfl))
  (pss_one ps_break)
  pss_nil))))
 (pss_one (ps_set (i := 4) sc_law_ring_paper.nd rfl (by first | exact Or.inl rfl | exact Or.inr rfl) (pe_tup (pa_cons pe_str (pa_cons (pv 5) pa_nil)))))))
  pss_nil)
 (pss_cons (ps_if (pt_cmpR op_eq (pe_cal c_law_take hr (by omega) pass0 rfl (pa_cons (pv 0) (pa_cons pe_int pa_nil))) pe_int (by rfl))
  (pss_one (ps_ret (pe_cal c_law_bend hr (by omega) pass0 rfl (pa_cons (pv 0) (pa_cons (pv 4) pa_nil)))))
  pss_nil)
 (pss_one (ps_ret (pv 4))))))))))), ?_⟩
  walk_at "go"
  refine ⟨M, s, k, 8, rfl, rfl, hs, by omega, by omega, fun r H1 _ r1 x1 g1 s1 => ?_⟩
  have r1 := r1 (by omega)
  have m1 := m.grow g1
  walk_at "go"
  refine i_dec (fun e => ?_) (fun e => ?_)
  · walk_at "go"
    refine ⟨M, s, k + 1, rfl, s1, m1, by omega, fun v d H2 hd hv x2 g2 s2 => ?_⟩
    exact q v d H2 (ok_up (by omega) (by omega) (odd_ok hd)) hv (x1.trans x2) (g1.trans g2) (s2.le (by omega))
  walk_at "go"
  refine ⟨M, s, k + 1, 3, rfl, rfl, s1, by omega, by omega, fun ra H2 _ _ x2 g2 s2 => ?_⟩
  walk_at "go"
  refine ⟨M, s, k + 2, 2, rfl, rfl, s2, by omega, by omega, fun rb H3 _ _ x3 g3 s3 => ?_⟩
  walk_at "go"
  refine i_nwT (by simp) fun t H4 n4 x4 t4 => ?_
  walk_at "go"
  have m3 := (m1.grow g2).grow g3
  have xx3 : Ext (Is s) H H3 := (x1.trans x2).trans x3
  have gg3 : Grow H H3 := (g1.trans g2).trans g3
  have Pz : ∀ c v d v5 v6 Hx, Rp a.ct M Hx v d → okD 100 2 d = true → Ext (Is s) H Hx → Grow H Hx → Sto M Hx s (k + c) → ∃ v' d' v5' v6', [some (V.ref s), some (.int n), some (.ref p), some (.int r), some v, v5, v6] = [some (V.ref s), some (.int n), some (.ref p), some (.int r), some v', v5', v6'] ∧ Rp a.ct M Hx v' d' ∧ okD 100 2 d' = true ∧ Ext (Is s) H Hx ∧ Grow H Hx ∧ Sto M Hx s (k + c) := fun c v d v5 v6 Hx h1 h2 h3 h4 h5 => ⟨v, d, v5, v6, rfl, h1, h2, h3, h4, h5⟩
  refine i_cut (fun σ' Hx => ∃ v d v5 v6, σ' = [some (V.ref s), some (.int n), some (.ref p), some (.int r), some v, v5, v6] ∧ Rp a.ct M Hx v d ∧ okD 100 2 d = true ∧ Ext (Is s) H Hx ∧ Grow H Hx ∧ Sto M Hx s (k + 10)) ?_ ?_
  · have fin : ∃ v d v5 v6, [some (V.ref s), some (.int n), some (.ref p), some (.int r), some (.ref t), none, none] = [some (V.ref s), some (.int n), some (.ref p), some (.int r), some v, v5, v6] ∧ Rp a.ct M H4 v d ∧ okD 100 2 d = true ∧ Ext (Is s) H H4 ∧ Grow H H4 ∧ Sto M H4 s (k + 10) :=
      Pz _ _ _ _ _ _ (.tup (At.mk' m3 n4 t4) (.cons (.str "unlike") .i2)) (two_ok "unlike" (by decide +kernel) _ _) (xx3.trans x4.weak) (gg3.trans x4.grow) ((s3.ext x4).le (by omega))
    walk_at "go"
    refine i_dec (fun e1 => ?_) (fun e1 => ?_)
    · walk_at "go"
      refine i_dec (fun e2 => ?_) (fun e2 => ?_)
      · walk_at "go"
        refine ⟨M, s, k + 3, _, rfl, rfl, s3.ext x4, by omega, by omega, fun rc H5 _ _ x5 g5 s5 => ?_⟩
        walk_at "go"
        refine ⟨M, s, k + 4, 2, rfl, rfl, s5, by omega, by omega, fun rd H6 _ _ x6 g6 s6 => ?_⟩
        walk_at "go"
        refine i_nwT (by simp) fun t7 H7 n7 x7 h7 => ?_
        exact Pz _ _ _ _ _ _ (.tup (At.mk' (((m3.grow x4.grow).grow g5).grow g6) n7 h7) (.cons (.str "own") .i2)) (two_ok "own" (by decide +kernel) _ _) ((((xx3.trans x4.weak).trans x5).trans x6).trans x7.weak) ((((gg3.trans x4.grow).trans g5).trans g6).trans x7.grow) ((s6.ext x7).le (by omega))
      · walk_at "go"
        exact fin
    · walk_at "go"
      exact fin
  · rintro σ' Hx ⟨v, d, v5, v6, rfl, hv, hd, xx, gg, ss⟩
    have mm := m.grow gg
    refine i_cut (fun σ' Hx => ∃ v d v5 v6, σ' = [some (V.ref s), some (.int n), some (.ref p), some (.int r), some v, v5, v6] ∧ Rp a.ct M Hx v d ∧ okD 100 2 d = true ∧ Ext (Is s) H Hx ∧ Grow H Hx ∧ Sto M Hx s (k + 80)) ?_ ?_
    · walk_at "go"
      refine i_dec (fun e1 => ?_) (fun e1 => ?_)
      · walk_at "go"
        refine ⟨M, s, k + 10, 3, rfl, rfl, ss, by omega, by omega, fun rc H5 _ rc1 x5 g5 s5 => ?_⟩
        have rc1 := rc1 (by omega)
        walk_at "go"
        refine ⟨_, _, rfl, ?_⟩
        have e5 : (if (n : Int) - 1 + rc > 0 then (n : Int) - 1 + rc else 0) = (((n : Int) - 1 + rc).toNat : Int) := by split <;> omega
        rw [e5]
        walk_at "go"
        refine ⟨M, s, k + 11, _, rfl, rfl, by omega, s5.le (by omega), mm.grow g5, by omega, fun l b H6 hb1 hb2 hl x6 g6 s6 => ?_⟩
        walk_at "go"
        refine i_nwT (by simp) fun t7 H7 n7 x7 h7 => ?_
        exact Pz _ _ _ _ _ _ (.tup (At.mk' ((mm.grow g5).grow g6) n7 h7) (.cons (.str "ring") (.cons (.lst (hl.ext x7.weak) (rpA_str b)) .nil))) (ring_ok b (by omega) hb2) (((xx.trans x5).trans x6).trans x7.weak) (((gg.trans g5).trans g6).trans x7.grow) ((s6.ext x7).le (by omega))
      · walk_at "go"
        exact Pz _ _ _ _ _ _ hv hd xx gg (ss.le (by omega))
    · rintro σ' Hx ⟨v, d, v5, v6, rfl, hv, hd, xx, gg, ss⟩
      have mm := m.grow gg
      refine i_cut (fun σ' Hx => ∃ v d v5 v6, σ' = [some (V.ref s), some (.int n), some (.ref p), some (.int r), some v, v5, v6] ∧ Rp a.ct M Hx v d ∧ okD 100 2 d = true ∧ Ext (Is s) H Hx ∧ Grow H Hx ∧ Sto M Hx s (k + 1500)) ?_ ?_
      · walk_at "go"
        refine i_dec (fun e1 => ?_) (fun e1 => ?_)
        · walk_at "go"
          refine i_nwL (by simp) fun l5 H5 n5 x5 h5 => ?_
          walk_at "go"
          have Lf : ∀ i σ Hy, i ≤ 20 → (∃ w l, ∃ b : List Str, σ = [some (V.ref s), some (.int n), some (.ref p), some (.int r), some v, some (.ref l), w] ∧ At M Hy l (.lst (b.map V.str)) ∧ b.length ≤ 50 ∧ (∀ o ∈ b, o ∈ orders) ∧ Ext (Is s) H Hy ∧ Grow H Hy ∧ Sto M Hy s (k + 80 + 60 * i)) → tAsg (tTup (tCons (tC (V.str "ring")) (tCons (tVar 5) tNil))) (gName 4) { nx := fun σ' Hx => ∃ v d v5 v6, σ' = [some (V.ref s), some (.int n), some (.ref p), some (.int r), some v, v5, v6] ∧ Rp a.ct M Hx v d ∧ okD 100 2 d = true ∧ Ext (Is s) H Hx ∧ Grow H Hx ∧ Sto M Hx s (k + 1500), rt := Q } σ Hy := by
            rintro i σ Hy hi ⟨w, l, b, rfl, hl, hb1, hb2, y1, y2, y3⟩
            walk_at "go"
            refine i_nwT (by simp) fun t7 H7 n7 x7 h7 => ?_
            exact Pz _ _ _ _ _ _ (.tup (At.mk' (m.grow y2) n7 h7) (.cons (.str "ring") (.cons (.lst (hl.ext x7.weak) (rpA_str b)) .nil))) (ring_ok b hb1 hb2) (y1.trans x7.weak) (y2.trans x7.grow) ((y3.ext x7).le (by omega))
          refine f_rg (n := 20) (by omega) (fun i σ Hy => i ≤ 20 ∧ ∃ w l, ∃ b : List Str, σ = [some (V.ref s), some (.int n), some (.ref p), some (.int r), some v, some (.ref l), w] ∧ At M Hy l (.lst (b.map V.str)) ∧ b.length ≤ 50 ∧ (∀ o ∈ b, o ∈ orders) ∧ Ext (Is s) H Hy ∧ Grow H Hy ∧ Sto M Hy s (k + 80 + 60 * i))
            ⟨by omega, _, l5, [], rfl, At.mk' mm n5 h5, by simp, by simp, xx.trans x5.weak, gg.trans x5.grow, (ss.ext x5).le (by omega)⟩ ?_ (fun σ Hy e => Lf 20 σ Hy (by omega) e.2)
          rintro i σ Hy hi ⟨_, w, l, b, rfl, hl, hb1, hb2, y1, y2, y3⟩
          walk_at "go"
          refine ⟨M, s, _, n, rfl, rfl, by omega, y3, m.grow y2, by omega, fun l' b' H6 hb1' hb2' hl' x6 g6 s6 => ?_⟩
          walk_at "go"
          have z6 : Ext (Is s) H H6 := y1.trans x6
          refine ⟨p, n, b1, b2, b3, l', b', rfl, rfl, (hp.ext (z6.is hM)).zero, ok1, ok2, ok3, hl'.2, hb1', hb2', fun H7 x7 => ?_⟩
          walk_at "go"
          have c7 : i + 1 ≤ 20 ∧ ∃ w l, ∃ b : List Str, [some (V.ref s), some (.int n), some (.ref p), some (.int r), some v, some (.ref l'), some (.int (i : Int))] = [some (V.ref s), some (.int n), some (.ref p), some (.int r), some v, some (.ref l), w] ∧ At M H7 l (.lst (b.map V.str)) ∧ b.length ≤ 50 ∧ (∀ o ∈ b, o ∈ orders) ∧ Ext (Is s) H H7 ∧ Grow H H7 ∧ Sto M H7 s (k + 80 + 60 * (i + 1)) := ⟨by omega, _, l', b', rfl, hl'.ext x7.weak, by omega, hb2', z6.trans x7.weak, (y2.trans g6).trans x7.grow, (s6.ext x7).le (by omega)⟩
          refine i_dec (fun e2 => ?_) (fun e2 => ?_)
          · refine i_brk ?_
            exact Lf (i + 1) _ H7 (by omega) c7.2
          · walk_at "go"
            exact c7
        · walk_at "go"
          exact Pz _ _ _ _ _ _ hv hd xx gg (ss.le (by omega))
      · rintro σ' Hx ⟨v, d, v5, v6, rfl, hv, hd, xx, gg, ss⟩
        have mm := m.grow gg
        walk_at "go"
        refine ⟨M, s, _, 6, rfl, rfl, ss, by omega, by omega, fun rc H5 _ _ x5 g5 s5 => ?_⟩
        have hv5 := hv.ext (x5.is hM)
        walk_at "go"
        refine i_dec (fun e1 => ?_) (fun e1 => ?_)
        · walk_at "go"
          refine ⟨M, s, _, d, rfl, s5, mm.grow g5, by omega, hv5, hd, fun r' d' H6 o6 r6 x6 g6 s6 => ?_⟩
          exact q r' d' H6 (ok_up (Nat.le_refl _) (by omega) o6) r6 ((xx.trans x5).trans x6) ((gg.trans g5).trans g6) (s6.le (by omega))
        · walk_at "go"
          exact q v d H5 (ok_up (by omega) (by omega) hd) hv5 (xx.trans x5) (gg.trans g5) (s5.le (by omega))
end Bs
set_option Elab.async false
set_option linter.all false
set_option maxRecDepth 100000
set_option maxHeartbeats 400000
namespace Bs
open PySem PySem.Spec PyProof.Rows L2 SX
open C8 (pe_gc pss_cut)
local macro_rules | `(tactic| walk_at "xt") => `(tactic| first | assumption | exact Ext.weak (by assumption) | exact Ext.is (by assumption) (by assumption) | exact Ext.plus (by assumption) | exact Ext.plus (Ext.weak (by assumption)) | exact Ext.plus (Ext.is (by assumption) (by assumption)) | exact Ext.set plus_self)
local macro_rules | `(tactic| walk_at "gr") => `(tactic| first | assumption | exact Ext.grow (by assumption) | exact Grow.upd)
local macro_rules | `(tactic| walk_at "mo") => `(tactic| first | assumption | exact MOk.zero | ((first | refine MOk.grow ?_ (by walk_at "gr") | exact MOk.upd (by walk_at "mo")); walk_at "mo") | exact MOk.plus (by walk_at "mo") (by assumption))
local macro_rules | `(tactic| walk_at "hp") => `(tactic| first
  | assumption | exact At.raw (by assumption)
  | exact At.mk' (by walk_at "mo") (by assumption) (by assumption)
  | ((first | refine At.ext (by walk_at "xt") ?_ | refine Rp.ext (by walk_at "xt") ?_ | refine RpA.ext (by walk_at "xt") ?_ | refine Tb.ext (by walk_at "xt") ?_); walk_at "hp")
  | ((first | refine At.plus (by assumption) ?_ | refine Rp.plus (by assumption) ?_ | refine RpA.plus (by assumption) ?_ | refine Tb.plus (by assumption) ?_); walk_at "hp"))
local macro_rules | `(tactic| walk_at "at") => `(tactic| first | assumption | exact At.get (M := N0) (by walk_at "hp"))
local macro_rules | `(tactic| walk_at "sq") => `(tactic| first | exact SqL.of (by walk_at "at") | exact SqT.of (by walk_at "at"))
local macro_rules | `(tactic| walk_at "st") => `(tactic| with_reducible first
  | refine i_seq ?_ | refine i_asg ?_ | refine i_ret ?_ | refine i_retN ?_ | refine i_drop ?_ | refine i_ifS ?_ | refine i_next ?_ | refine i_brk ?_
  | refine i_gname ?_ | refine i_gsub ?_ | refine i_c ?_ | refine i_op ?_ | refine i_un ?_ | refine i_I0 ?_ | refine i_U ?_ | refine i_isN ?_ | refine i_notN ?_
  | refine i_test ?_ | refine i_tB ?_ | refine i_bl ?_ | refine i_and ?_ | refine i_or ?_ | refine i_not ?_ | refine i_andV ?_ | refine i_orV ?_ | refine i_notV ?_ | refine i_ifE ?_
  | refine i_nil ?_ | refine i_cons ?_ | refine i_for ?_ | refine i_iL ?_ | refine i_iT ?_ | refine i_iR ?_ | refine i_lc ?_ | refine i_prp ?_ | refine i_mk ?_ | refine i_sS ?_ | refine i_sN ?_ | refine i_nsS ?_ | refine i_nsN ?_ | refine i_fld ?_ | refine i_sf ?_ | refine i_inO ?_ | refine i_lsO ?_ | refine i_tpO ?_ | refine i_lnO ?_ | refine i_cb ?_ | refine i_call ?_ | refine i_tup ?_ | refine i_lst ?_ | refine i_dnew ?_ | refine i_inI ?_ | refine i_inB ?_ | refine i_rgX ?_ | refine i_lrO ?_ | refine i_rg1 ?_ | refine i_nF ?_ | refine i_nT ?_ | refine i_tt ?_ | refine i_ff ?_ | refine i_ifT ?_ | refine i_ifF ?_
  | refine i_eqI ?_ | refine i_eqS ?_ | refine i_eqB ?_ | refine i_neI ?_ | refine i_neS ?_ | refine i_dR ?_ | refine i_dI ?_ | refine i_dT ?_ | refine i_dS ?_ | refine i_dN ?_ | refine i_nR ?_ | refine i_nI ?_ | refine i_nN ?_
  | (refine i_var (by with_unfolding_all rfl) ?_) | refine i_eq rfl ?_ | refine i_ne rfl ?_)
local macro_rules | `(tactic| walk_at "sc") => `(tactic| first | exact (Rp.int (M := N0) _) | exact (Rp.str (M := N0) _) | exact (Rp.bl (M := N0) _) | exact (Rp.non (M := N0)) | assumption | exact Rp.tab (by assumption) | exact Tb.rp (by assumption))
local macro_rules | `(tactic| walk_at "sd") => `(tactic| simp only [d_Bool_non, d_Bool_bl, d_Bool_int, d_Bool_str, d_Bool_lst, d_Bool_tup, d_Bool_tab, d_Bool_dic, d_Int_non, d_Int_bl, d_Int_int, d_Int_str, d_Int_lst, d_Int_tup, d_Int_tab, d_Int_dic, d_Str_non, d_Str_bl, d_Str_int, d_Str_str, d_Str_lst, d_Str_tup, d_Str_tab, d_Str_dic, d_List_non, d_List_bl, d_List_int, d_List_str, d_List_lst, d_List_tup, d_List_tab, d_List_dic, d_Tup_non, d_Tup_bl, d_Tup_int, d_Tup_str, d_Tup_lst, d_Tup_tup, d_Tup_tab, d_Tup_dic, d_Tab_non, d_Tab_bl, d_Tab_int, d_Tab_str, d_Tab_lst, d_Tab_tup, d_Tab_tab, d_Tab_dic, Bool.not_true, Bool.not_false, Bool.true_or, Bool.false_or, Bool.or_true, Bool.or_false, Bool.and_true, Bool.true_and, Bool.and_false, Bool.false_and, if_true, if_false, Bool.false_eq_true])
local macro_rules | `(tactic| walk_at "isi") => `(tactic| ((first | with_reducible apply i_isB | with_reducible apply i_isI | with_reducible apply i_isS | with_reducible apply i_isL | with_reducible apply i_isT | with_reducible apply i_isTab); (focus assumption); (focus walk_at "sc"); try simp only [d_Bool_non, d_Bool_bl, d_Bool_int, d_Bool_str, d_Bool_lst, d_Bool_tup, d_Bool_tab, d_Bool_dic, d_Int_non, d_Int_bl, d_Int_int, d_Int_str, d_Int_lst, d_Int_tup, d_Int_tab, d_Int_dic, d_Str_non, d_Str_bl, d_Str_int, d_Str_str, d_Str_lst, d_Str_tup, d_Str_tab, d_Str_dic, d_List_non, d_List_bl, d_List_int, d_List_str, d_List_lst, d_List_tup, d_List_tab, d_List_dic, d_Tup_non, d_Tup_bl, d_Tup_int, d_Tup_str, d_Tup_lst, d_Tup_tup, d_Tup_tab, d_Tup_dic, d_Tab_non, d_Tab_bl, d_Tab_int, d_Tab_str, d_Tab_lst, d_Tab_tup, d_Tab_tab, d_Tab_dic]))
local macro_rules | `(tactic| walk_at "om") => `(tactic| first | ((with_reducible refine i_decF ?_ ?_); (focus omega)) | ((with_reducible refine i_decT ?_ ?_); (focus omega)) | ((with_reducible refine i_ndecF ?_ ?_); (focus omega)) | ((with_reducible refine i_ndecT ?_ ?_); (focus omega)))
local macro_rules | `(tactic| walk_at "go") => `(tactic| ((repeat (first | walk_at "st" | walk_at "isi" | walk_at "om")); try dsimp only [List.set]))
variable {W : Wd} {a : Ad}
local macro_rules | `(tactic| walk_at "st") => `(tactic| with_reducible first | refine i_sl ?_ | refine i_nopart ?_ | refine i_part ?_ | refine i_partI ?_ | refine i_bm ?_ | refine i_bm0 ?_ | refine i_m1 ?_ | refine i_m1S ?_)
/-! L14: the law's own plain paper. -/
def tiltI (n : Nat) (b : List Int) : Int := (con n b).getD (-1)
def plD : Option Dt → Dt
  | none => .non
  | some d => d
theorem in02 (s l : Int) : inV (.int s) [.int 0, .int l] = decide (s = 0 ∨ s = l) := by
  unfold inV
  rw [List.any_cons, List.any_cons, List.any_nil]
  show ((0 : Int) == s || (l == s || false)) = _
  by_cases h1 : s = 0
  · subst h1; simp
  · have e1 : ((0 : Int) == s) = false := by simpa using fun e => h1 e.symm
    rw [e1]
    by_cases h2 : s = l
    · subst h2; simp
    · have e2 : (l == s) = false := by simpa using fun e => h2 e.symm
      rw [e2]; simp [h1, h2]
/-- the tilt as the law reckons it -/
theorem tilt_eq {n : Nat} {b : List Int} (hb : TabOk n b) : tiltI n b = if decide (b.sum = 0 ∨ b.sum = b.length) = true then gI b 0 else -1 := by
  have hl : (b.length : Int) = (2 ^ n : Nat) := by rw [hb.2.1]
  rw [hl]
  rcases con_or (n := n) (b := b) with e | e | e
  · have h := (con0 hb).mp e
    have hs : b.sum = 0 := by
      unfold con at e
      split at e
      · assumption
      · split at e <;> simp at e
    rw [tiltI, e, decide_eq_true (.inl hs), if_pos rfl, h, rep_hd]; rfl
  · have h := (con1 hb).mp e
    have hs : b.sum = (2 ^ n : Nat) := by
      unfold con at e
      split at e
      · simp at e
      · split at e
        · assumption
        · simp at e
    rw [tiltI, e, decide_eq_true (.inr hs), if_pos rfl, h, rep_hd]; rfl
  · have hs : ¬ (b.sum = 0 ∨ b.sum = (2 ^ n : Nat)) := by
      unfold con at e
      split at e
      · simp at e
      · split at e
        · simp at e
        · rename_i h1 h2
          exact fun z => z.elim h1 h2
    rw [tiltI, e, decide_eq_false hs]; rfl
theorem tilt_unl {n : Nat} {b c : List Int} : unl (con n b) (con n c) = (decide (tiltI n b + tiltI n c = 1) && !decide (-1 = tiltI n b ∨ -1 = tiltI n c)) := by
  unfold tiltI
  rcases con_or (n := n) (b := b) with e | e | e <;> rcases con_or (n := n) (b := c) with f | f | f <;> rw [e, f] <;> decide +kernel
theorem inm1 (x y : Int) : inV (.int (-1)) [.int x, .int y] = decide (-1 = x ∨ -1 = y) := by
  unfold inV
  rw [List.any_cons, List.any_cons, List.any_nil]
  show (x == (-1 : Int) || (y == (-1 : Int) || false)) = _
  by_cases h1 : -1 = x
  · subst h1; simp
  · have e1 : (x == (-1 : Int)) = false := by simpa using fun e => h1 e.symm
    rw [e1]
    by_cases h2 : -1 = y
    · subst h2; simp
    · have e2 : (y == (-1 : Int)) = false := by simpa using fun e => h2 e.symm
      rw [e2]; simp [h1, h2]
theorem plain_ne {n : Nat} {b1 b2 b3 : List Int} (hu : unlIx n b1 b2 b3 = none) (h : ¬ (b1 = b2 ∧ b1 = b3)) : plain n b1 b2 b3 = none := by
  rw [plain, hu]
  show (match ownIx n b1 with | some c => if ownAll n b1 b2 b3 ((c / 2 : Nat) : Int) ((c % 2 : Nat) : Int) = true then some (Dt.tup [.str "own", .int ((c / 2 : Nat) : Int), .int ((c % 2 : Nat) : Int)]) else none | none => none) = none
  cases e : ownIx n b1 with
  | none => rfl
  | some c =>
    refine if_neg fun z => h ?_
    unfold ownAll at z
    rw [Bool.and_eq_true, Bool.and_eq_true] at z
    have g1 := (own_law.mp z.1).2.2.2
    have g2 := (own_law.mp z.2.1).2.2.2
    have g3 := (own_law.mp z.2.2).2.2.2
    exact ⟨g1.symm.trans g2, g1.symm.trans g3⟩
theorem plain_eq {n : Nat} {b : List Int} (hu : unlIx n b b b = none) : plain n b b b = (ownIx n b).map fun c => .tup [.str "own", .int ((c / 2 : Nat) : Int), .int ((c % 2 : Nat) : Int)] := by
  rw [plain, hu]
  show (match ownIx n b with | some c => if ownAll n b b b ((c / 2 : Nat) : Int) ((c % 2 : Nat) : Int) = true then some (Dt.tup [.str "own", .int ((c / 2 : Nat) : Int), .int ((c % 2 : Nat) : Int)]) else none | none => none) = _
  cases e : ownIx n b with
  | none => rfl
  | some c =>
    have : ownEq (some c) ((c / 2 : Nat) : Int) ((c % 2 : Nat) : Int) = true := decide_eq_true ⟨rfl, rfl⟩
    refine if_pos ?_
    unfold ownAll
    rw [e, this]; rfl
def sp_noring (ct : Addr) : Sp := sp2 fun w y H Q _ => ∃ n p b1 b2 b3, w = .int (n : Nat) ∧ y = .ref p ∧ Rw N0 H p b1 b2 b3 ∧ TabOk n b1 ∧ TabOk n b2 ∧ TabOk n b3 ∧ ∀ r H', Ext N0 H H' → Rp ct N0 H' r (plD (plain n b1 b2 b3)) → Q r H'
abbrev s_law_no_ring : Stmt := top 97
abbrev N_law_no_ring : List Str := ["_law_wide_here", "_law_three", "_law_tilts", "_law_pair", "_law_at", "_law_tilt", "_law_mine", "_law_x"]
abbrev P_law_no_ring : List Str := ["_law_wide_here", "_law_three"]
theorem sc_law_no_ring : FnScope N_law_no_ring P_law_no_ring (defScope s_law_no_ring) := ⟨rfl, rfl, rfl, by decide +kernel, rfl, by decide +kernel, by decide +kernel⟩
theorem bi_law_no_ring {K : PySem.W.Frag} {f : Addr} {fd : FuncData} (F : FnF K "_law_no_ring" "_law_no_ring" s_law_no_ring [] f fd) : Binds K fd P_law_no_ring [] := FunD.bindsN F fun _ _ _ _ _ _ us hl => match us, hl with | [_, _], _ => rfl
theorem c_law_no_ring (T : Txt W.K W.mg a) (D : DefAt W "_law_no_ring" "_law_no_ring" "_law_no_ring" s_law_no_ring) : Cal W CX0 1 "_law_no_ring" P_law_no_ring (sp_noring a.ct) := cal_mk D sc_law_no_ring len2 (fun _ _ => bi_law_no_ring) fun f cdv A outer s H vs Q E hr h => by
  obtain ⟨_, _, rfl, n, p, b1, b2, b3, rfl, rfl, hp, ok1, ok2, ok3, q⟩ := sp2_of h
  refine ⟨_, (PSs.nox (pss_cons (ps_setLc (i := 2) (own := [("_law_mine", 6)]) (g := gName 6) (tt := tYes) (te := tOp (rIx W.K) (tLst (tCons (tUn (rU fun i => V.int (-i)) (tC (V.int 1))) (tCons (tOp (rIx W.K) (tVar 6) (tC (V.int 0))) tNil))) (tCB (fun xs H Q => (∃ i, xs = [V.int i] ∧ Q (V.int i) H) ∨ ∃ k, xs = [V.bl k] ∧ Q (V.int (if k then 1 else 0)) H) (tCons (tOp (rIn W.K false) (tCB (rSum W.K) (tCons (tVar 6) tNil)) (tLst (tCons (tC (V.int 0)) (tCons (tCB (fun xs H Q => ∃ p ys, xs = [V.ref p] ∧ (SqL W.K H p ys ∨ SqT W.K H p ys) ∧ Q (V.int ys.length) H) (tCons (tVar 6) tNil)) tNil)))) tNil))) rfl sc_law_no_ring.nd rfl rfl (sw_true rfl rfl rfl (by decide +kernel)) (pi_list (pv 1)) (blkOk_by (N := N_law_no_ring) (sc := defScope s_law_no_ring) (by decide +kernel)) (fun _ _ _ _ _ => (pg_name (i := 6) sc_law_no_ring.nd rfl (by first | exact Or.inl rfl | exact Or.inr rfl))) (fun _ _ _ _ _ => pts_nil) (fun _ _ _ _ _ => (pe_ix ix_seq (pe_lst (pa_cons (pe_un un_neg pe_int) (pa_cons (pe_ix ix_seq (pv 6) pe_int (fun _ _ => rfl)) pa_nil))) (pe_callTy call_int1 rfl T.int (by decide +kernel) (pa_cons (pe_cmpR op_in_seq (pe_callB (cr_sum rfl) rfl T.sum (by decide +kernel) (pa_cons (pv 6) pa_nil)) (pe_lst (pa_cons pe_int (pa_cons (pe_callB call_len_seq rfl T.len PySem.boot_len (pa_cons (pv 6) pa_nil)) pa_nil))) (by rfl)) pa_nil)) (fun _ _ => rfl))))
 (pss_cons (ps_for PassesOwn.never rfl (pi_list (pe_lst (pa_cons (pe_tup (pa_cons pe_int (pa_cons pe_int pa_nil))) (pa_cons (pe_tup (pa_cons pe_int (pa_cons pe_int pa_nil))) (pa_cons (pe_tup (pa_cons pe_int (pa_cons pe_int pa_nil))) pa_nil))))) (pg_name (i := 3) sc_law_no_ring.nd rfl (by first | exact Or.inl rfl | exact Or.inr rfl))
  (pss_one (ps_if (PW.pt (pw_and (pt_cmpR op_eq (pe_op op_add (pe_ix ix_seq (pv 2) (pe_ix ix_seq (pv 3) pe_int (fun _ _ => rfl)) (fun _ _ => rfl)) (pe_ix ix_seq (pv 2) (pe_ix ix_seq (pv 3) pe_int (fun _ _ => rfl)) (fun _ _ => rfl))) pe_int (by rfl)) (pw_and1 (pt_cmpR op_notIn_seq (pe_un un_neg pe_int) (pe_lst (pa_cons (pe_ix ix_seq (pv 2) (pe_ix ix_seq (pv 3) pe_int (fun _ _ => rfl)) (fun _ _ => rfl)) (pa_cons (pe_ix ix_seq (pv 2) (pe_ix ix_seq (pv 3) pe_int (fun _ _ => rfl)) (fun _ _ => rfl)) pa_nil))) (by rfl)))))
  (pss_one (ps_ret (pe_tup (pa_cons pe_str (pa_cons (pe_ix ix_seq (pv 3) pe_int (fun _ _ => rfl)) (pa_cons (pe_ix ix_seq (pv 3) pe_int (fun _ _ => rfl)) pa_nil))))))
  pss_nil)))
 (pss_cons (ps_if (PW.pt (pw_or (pt_cmpR (op_neD (hr.units)) (pe_ix ix_seq (pv 1) pe_int (fun _ _ => rfl)) (pe_ix ix_seq (pv 1) pe_int (fun _ _ => rfl)) (by rfl)) (pw_or1 (pt_cmpR (op_neD (hr.units)) (pe_ix ix_seq (pv 1) pe_int (fun _ _ => rfl)) (pe_ix ix_seq (pv 1) pe_int (fun _ _ => rfl)) (by rfl)))))
  (pss_one (ps_ret pe_non))
  pss_nil)
 (pss_cons (ps_for PassesOwn.never rfl (pi_range1 (by rfl) T.range (pa_cons (pv 0) pa_nil)) (pg_name (i := 4) sc_law_no_ring.nd rfl (by first | exact Or.inl rfl | exact Or.inr rfl))
  (pss_one (ps_for PassesOwn.never rfl (pi_range1 (by rfl) T.range (pa_cons pe_int pa_nil)) (pg_name (i := 5) sc_law_no_ring.nd rfl (by first | exact Or.inl rfl | exact Or.inr rfl))
  (pss_one (ps_if (pt_cmpR (op_eqD (hr.units)) (pe_ix ix_seq (pv 1) pe_int (fun _ _ => rfl)) (pe_lc (own := [("_law_x", 7)]) (g := gName 7) (tt := tYes) rfl sc_law_no_ring.nd (pi_range1 (by rfl) T.range (pa_cons (pe_op op_shl pe_int (pv 0)) pa_nil)) (blkOk_by (N := N_law_no_ring) (sc := defScope s_law_no_ring) (by decide +kernel)) (fun _ _ _ _ _ => (pg_name (i := 7) sc_law_no_ring.nd rfl (by first | exact Or.inl rfl | exact Or.inr rfl))) (fun _ _ _ _ _ => pts_nil) (fun _ _ _ _ _ => (pe_op op_xor (pe_op op_and (pe_op op_shr (pv 7) (pv 4)) pe_int) (pv 5)))) (by rfl))
  (pss_one (ps_ret (pe_tup (pa_cons pe_str (pa_cons (pv 4) (pa_cons (pv 5) pa_nil))))))
  pss_nil)))))
 (pss_one (ps_ret pe_non))))))), ?_⟩
  walk_at "go"
  obtain ⟨ts, h0, hx⟩ := hp.at
  have hxl : ts.length = 3 := by
    obtain ⟨p1, p2, p3, g0, _⟩ := hp.ex
    have := g0.2.symm.trans h0.2
    cases this; rfl
  refine c_list (M := N0) (SqL.of h0.2) MOk.zero (by omega) (fun _ _ _ => True) (fun D j y _ => y = .int (tiltI n (b3of b1 b2 b3 j))) fun D nD => ⟨fun _ _ _ _ _ e => e, fun _ _ _ _ e => e, trivial, fun _ H1 x _ => SqL.of ((h0.plus nD).ext x).2, ?_, ?_⟩
  · intro j w H1 N N' hw x1 m1 _ nx
    have hj : j < 3 := by rw [← hxl]; exact (List.getElem?_eq_some_iff.mp hw).1
    obtain ⟨y, e1, ty⟩ := hx j hj
    have e2 := atI_nat hw
    rw [e1] at e2
    cases e2
    have okb := ok3of ok1 ok2 ok3 j
    have ty1 := (ty.plus nD).ext x1
    obtain ⟨_, hz, hg⟩ := gI_at okb (w := 0) (by omega) (by exact_mod_cast Nat.two_pow_pos n)
    obtain rfl : 0 = _ := by exact_mod_cast hz
    walk_at "go"
    refine i_yes rfl ?_
    walk_at "go"
    refine .inl (i_ixL ty1 (v := .int (gI (b3of b1 b2 b3 j) 0)) (atI_nat (i := 0) (by rw [List.getElem?_map, hg]; rfl)) ?_)
    walk_at "go"
    refine i_nwL (by simp) fun p6 H6 n6 x6 h6 => ?_
    have ty6 := ty1.ext x6.weak
    walk_at "go"
    refine ⟨y, _, rfl, SqL.of ty6.2, ?_⟩
    walk_at "go"
    refine i_lnL (SqL.of ty6.2) ?_
    walk_at "go"
    refine i_nwL (by simp) fun p7 H7 n7 x7 h7 => ?_
    refine ⟨p7, _, rfl, .inl (SqL.of h7), rfl, rfl, ?_⟩
    rw [if_neg Bool.false_ne_true, in02, List.length_map]
    have h6 := x7 _ _ (fun z => z) h6
    walk_at "go"
    have te := tilt_eq okb
    have fin : ∀ v : Int, v = tiltI n (b3of b1 b2 b3 j) → N (.int v) H7 := fun v e => nx _ _ (x6.trans x7) MOk.zero (by rw [e]) trivial
    cases hc : decide ((b3of b1 b2 b3 j).sum = 0 ∨ (b3of b1 b2 b3 j).sum = (b3of b1 b2 b3 j).length)
    · rw [hc, if_neg Bool.false_ne_true] at te
      exact .inl (i_ixL (At.raw h6) (i := 0) rfl (fin _ te.symm))
    · rw [hc, if_pos rfl] at te
      exact .inl (i_ixL (At.raw h6) (i := 1) rfl (fin _ te.symm))
  · intro acc H1 hl hr' hd x1 _ _
    have hacc : acc = [.int (tiltI n b1), .int (tiltI n b2), .int (tiltI n b3)] := by
      match acc, hl.trans hxl, hr' with
      | [a0, a1, a2], _, hr' => rw [hr' 0 a0 rfl, hr' 1 a1 rfl, hr' 2 a2 rfl]; rfl
    subst hacc
    have hti : ∀ i : Nat, i < 3 → atI [V.int (tiltI n b1), .int (tiltI n b2), .int (tiltI n b3)] (i : Int) = some (.int (tiltI n (b3of b1 b2 b3 i))) := fun i hi => by
      match i, hi with
      | 0, _ => rfl
      | 1, _ => rfl
      | 2, _ => rfl
    walk_at "go"
    refine i_nwT (by simp) fun t2 H2 n2 x2 h2 => ?_
    walk_at "go"
    refine i_nwT (by simp) fun t3 H3 n3 x3 h3 => ?_
    walk_at "go"
    refine i_nwT (by simp) fun t4 H4 n4 x4 h4 => ?_
    walk_at "go"
    refine i_nwL (by simp) fun t5 H5 n5 x5 h5 => ?_
    have h2 := (x3.trans (x4.trans x5)) _ _ (fun z => z) h2
    have h3 := (x4.trans x5) _ _ (fun z => z) h3
    have h4 := x5 _ _ (fun z => z) h4
    have hd := (x2.trans (x3.trans (x4.trans x5))) _ _ (fun z => z) hd
    have z5 : Ext N0 H H5 := x1.trans (x2.trans (x3.trans (x4.trans x5)))
    refine f_list (SqL.of h5) (fun i σ Hx => (∃ v3, σ = [some (.int n), some (.ref p), some (.ref D), v3, none, none, none, none]) ∧ Ext N0 H5 Hx ∧ ∀ j pr, j < i → uprs[j]? = some pr → unl (con n (b3of b1 b2 b3 pr.1)) (con n (b3of b1 b2 b3 pr.2)) = false) ⟨⟨_, rfl⟩, Ext.refl _ _, fun j pr hj => by omega⟩ (fun i σ Hx _ e => SqL.of (e.2.1 _ _ (fun z => z) h5)) ?_ ?_
    · rintro i v σ Hx hv ⟨⟨v3, rfl⟩, y, hno⟩
      obtain ⟨lo, hi, tt, rfl, hlh, hs, hl3, hh3⟩ : ∃ lo hi : Nat, ∃ tt, v = .ref tt ∧ uprs[i]? = some (lo, hi) ∧ Hx tt = some (.tup [.int lo, .int hi]) ∧ lo < 3 ∧ hi < 3 := by
        match i, hv with
        | 0, hv => cases hv; exact ⟨0, 1, t2, rfl, rfl, y _ _ (fun z => z) h2, by omega, by omega⟩
        | 1, hv => cases hv; exact ⟨0, 2, t3, rfl, rfl, y _ _ (fun z => z) h3, by omega, by omega⟩
        | 2, hv => cases hv; exact ⟨1, 2, t4, rfl, rfl, y _ _ (fun z => z) h4, by omega, by omega⟩
      have hdx := y _ _ (fun z => z) hd
      have hu := tilt_unl (n := n) (b := b3of b1 b2 b3 lo) (c := b3of b1 b2 b3 hi)
      have nxt : ∀ {Hy : Hp} {v' : Option V}, Ext N0 H5 Hy → unl (con n (b3of b1 b2 b3 lo)) (con n (b3of b1 b2 b3 hi)) = false → (∃ v3, [some (V.int n), some (.ref p), some (.ref D), v', none, none, none, none] = [some (V.int n), some (.ref p), some (.ref D), v3, none, none, none, none]) ∧ Ext N0 H5 Hy ∧ ∀ j pr, j < i + 1 → uprs[j]? = some pr → unl (con n (b3of b1 b2 b3 pr.1)) (con n (b3of b1 b2 b3 pr.2)) = false := fun z e => ⟨⟨_, rfl⟩, z, fun j pr hj hp => by
        by_cases h : j = i
        · subst h
          rw [hlh] at hp
          cases hp
          exact e
        · exact hno j pr (by omega) hp⟩
      walk_at "go"
      refine .inr (.inl (i_ixT (At.raw hs) (i := 0) rfl ?_))
      walk_at "go"
      refine .inl (i_ixL (At.raw hdx) (hti lo hl3) ?_)
      walk_at "go"
      refine .inr (.inl (i_ixT (At.raw hs) (i := 1) rfl ?_))
      walk_at "go"
      refine .inl (i_ixL (At.raw hdx) (hti hi hh3) ?_)
      walk_at "go"
      refine i_dec (fun e => ?_) (fun e => ?_)
      · walk_at "go"
        refine .inr (.inl (i_ixT (At.raw hs) (i := 0) rfl ?_))
        walk_at "go"
        refine .inl (i_ixL (At.raw hdx) (hti lo hl3) ?_)
        walk_at "go"
        refine .inr (.inl (i_ixT (At.raw hs) (i := 1) rfl ?_))
        walk_at "go"
        refine .inl (i_ixL (At.raw hdx) (hti hi hh3) ?_)
        walk_at "go"
        refine i_nwL (by simp) fun t6 H6 n6 x6 h6 => ?_
        refine ⟨t6, _, rfl, .inl (SqL.of h6), rfl, rfl, ?_⟩
        show ∃ k, V.bl (!inV (.int (-1)) [.int (tiltI n (b3of b1 b2 b3 lo)), .int (tiltI n (b3of b1 b2 b3 hi))]) = V.bl k ∧ _
        rw [inm1]
        walk_at "go"
        rw [decide_eq_true e, Bool.true_and] at hu
        refine i_ndec (fun e2 => ?_) (fun e2 => ?_)
        · rw [decide_eq_false e2] at hu
          have hs6 := x6 _ _ (fun z => z) hs
          walk_at "go"
          refine .inr (.inl (i_ixT (At.raw hs6) (i := 0) rfl ?_))
          walk_at "go"
          refine .inr (.inl (i_ixT (At.raw hs6) (i := 1) rfl ?_))
          walk_at "go"
          refine i_nwT (by simp) fun t7 H7 n7 x7 h7 => ?_
          have hix : unlIx n b1 b2 b3 = some (lo, hi) := find3 hlh hno hu
          refine q _ H7 (z5.trans (y.trans (x6.trans x7))) ?_
          have : plD (plain n b1 b2 b3) = .tup [.str "unlike", .int (lo : Nat), .int (hi : Nat)] := by simp [plD, plain, hix]
          rw [this]
          exact .tup (At.raw h7) (.cons (.str _) .i2)
        · rw [decide_eq_true e2] at hu
          walk_at "go"
          exact nxt (y.trans x6) hu
      · rw [decide_eq_false e, Bool.false_and] at hu
        walk_at "go"
        exact nxt y hu
    · rintro σ Hx ⟨⟨v3, rfl⟩, y, hno⟩
      have hu : unlIx n b1 b2 b3 = none := by
        rw [unlIx, uprs, List.find?_eq_none]
        intro pr hp
        obtain ⟨j, hj, e⟩ := List.getElem_of_mem hp
        rw [hno j pr hj (by rw [← e]; exact List.getElem?_eq_getElem hj)]
        decide
      have z5 : Ext N0 H Hx := z5.trans y
      obtain ⟨r1, r2, r3, k0, k1, k2, k3⟩ := (hp.ext z5).ex
      have non : ¬ (b1 = b2 ∧ b1 = b3) → Q .non Hx := fun e => q _ Hx z5 (by rw [plain_ne hu e]; exact .non)
      walk_at "go"
      refine .inl (i_ixL k0 (i := 0) rfl ?_)
      walk_at "go"
      refine .inl (i_ixL k0 (i := 1) rfl ?_)
      refine i_neLI (SqL.of k1.2) (SqL.of k2.2) ?_
      walk_at "go"
      refine i_ndec (fun e => ?_) (fun e => ?_)
      · walk_at "go"
        exact non fun z => e z.1
      walk_at "go"
      refine .inl (i_ixL k0 (i := 0) rfl ?_)
      walk_at "go"
      refine .inl (i_ixL k0 (i := 2) rfl ?_)
      refine i_neLI (SqL.of k1.2) (SqL.of k3.2) ?_
      walk_at "go"
      refine i_ndec (fun e2 => ?_) (fun e2 => ?_)
      · walk_at "go"
        exact non fun z => e2 z.2
      subst e
      subst e2
      have hn6 := ok1.1
      have h64 := pow_le6 ok1.1
      walk_at "go"
      refine f_rg (n := n) (by omega) (fun i σ Hy => (∃ v4 v5, σ = [some (.int n), some (.ref p), some (.ref D), v3, v4, v5, none, none]) ∧ Ext N0 Hx Hy ∧ ∀ c, c < i * 2 → plI n (c / 2) ((c % 2 : Nat) : Int) ≠ b1) ⟨⟨_, _, rfl⟩, Ext.refl _ _, fun c hc => by omega⟩ ?_ ?_
      · rintro i σ Hy hi ⟨⟨v4, v5, rfl⟩, y1, hno1⟩
        walk_at "go"
        refine f_rg (n := 2) (by omega) (fun j σ Hy => (∃ v5, σ = [some (.int n), some (.ref p), some (.ref D), v3, some (.int (i : Int)), v5, none, none]) ∧ Ext N0 Hx Hy ∧ ∀ c, c < i * 2 + j → plI n (c / 2) ((c % 2 : Nat) : Int) ≠ b1) ⟨⟨_, rfl⟩, y1, fun c hc => hno1 c (by omega)⟩ ?_ ?_
        · rintro j σ Hz hj ⟨⟨v5, rfl⟩, y2, hno2⟩
          have k0' := k0.ext y2
          have k1' := k1.ext y2
          walk_at "go"
          refine .inl (i_ixL k0' (i := 0) rfl ?_)
          walk_at "go"
          refine i_I (cpow1 (by omega)) ?_
          rw [pow1]
          walk_at "go"
          refine c_rg (n := 2 ^ n) (M := N0) MOk.zero (by omega) (fun _ _ _ => True) (fun D c y _ => y = .int (Builtin.bitXor (Builtin.bitAnd ((c : Int) / 2 ^ i) 1) (j : Int))) fun D2 nD2 => ⟨fun _ _ _ _ _ e => e, fun _ _ _ _ e => e, trivial, ?_, ?_⟩
          · intro c H8 N N' hc x8 m8 _ nx
            walk_at "go"
            refine i_yes rfl ?_
            walk_at "go"
            refine i_I (by omega) ?_
            walk_at "go"
            exact nx _ _ (Ext.refl _ _) m8.less rfl trivial
          · intro acc H8 hl8 hr8 hd8 x8 m8 _
            obtain rfl := acc_pl hl8 hr8
            refine i_eqLI (SqL.of (k1'.ext x8).2) (SqL.of hd8) ?_
            walk_at "go"
            have d2 : (i * 2 + j) / 2 = i := by omega
            have d3 : (i * 2 + j) % 2 = j := by omega
            refine i_dec (fun e => ?_) (fun e => ?_)
            · walk_at "go"
              refine i_nwT (by simp) fun t9 H9 n9 x9 h9 => ?_
              have hix : ownIx n b1 = some (i * 2 + j) := find_some (by omega) (decide_eq_true (by rw [d2, d3]; exact e.symm)) fun c hc => decide_eq_false (hno2 c hc)
              refine q _ H9 (z5.trans (y2.trans (x8.trans x9))) ?_
              rw [plain_eq hu, hix, Option.map_some, d2, d3]
              exact .tup (At.raw h9) (.cons (.str _) .i2)
            · walk_at "go"
              refine ⟨⟨_, rfl⟩, y2.trans x8, fun c hc => ?_⟩
              by_cases h : c = i * 2 + j
              · subst h
                rw [d2, d3]
                exact fun z => e z.symm
              · exact hno2 c (by omega)
        · rintro σ Hz ⟨⟨v5, rfl⟩, y2, hno2⟩
          exact ⟨⟨_, _, rfl⟩, y2, fun c hc => hno2 c (by omega)⟩
      · rintro σ Hy ⟨⟨v4, v5, rfl⟩, y1, hno1⟩
        walk_at "go"
        refine q _ Hy (z5.trans y1) ?_
        have hix : ownIx n b1 = none := find_none fun c hc => decide_eq_false (hno1 c hc)
        rw [plain_eq hu, hix]
        exact .non
end Bs
namespace Arw
/-- the word with all bits turned -/
def cpl (n x : Nat) : Nat := 2 ^ n - (x + 1)
theorem cpl_lt {n x : Nat} (h : x < 2 ^ n) : cpl n x < 2 ^ n := by unfold cpl; omega
theorem cpl_bit {n x : Nat} (h : x < 2 ^ n) {p : Nat} (hp : p < n) : (cpl n x).testBit p = !x.testBit p := by
  unfold cpl
  rw [Nat.testBit_two_pow_sub_succ h]
  simp [hp]
theorem cpl_cpl {n x : Nat} (h : x < 2 ^ n) : cpl n (cpl n x) = x := by unfold cpl; omega
/-- at no place below n three equal bits -/
def Nae (n x y z : Nat) : Prop := ∀ p, p < n → ¬ (x.testBit p = y.testBit p ∧ x.testBit p = z.testBit p)
/-- a ring of the three tables -/
def Ring (n : Nat) (f g h : Nat → Bool) : Prop := ∃ x y z, x < 2 ^ n ∧ y < 2 ^ n ∧ z < 2 ^ n ∧ Nae n x y z ∧ f x = g y ∧ f x = h z
def Con (n : Nat) (f : Nat → Bool) (b : Bool) : Prop := ∀ x, x < 2 ^ n → f x = b
def Own (n : Nat) (f : Nat → Bool) (p : Nat) (b : Bool) : Prop := p < n ∧ ∀ x, x < 2 ^ n → f x = (x.testBit p ^^ b)
theorem nae_cpl {n x y : Nat} (hx : x < 2 ^ n) : Nae n x (cpl n x) y := fun p hp ⟨a, _⟩ => by
  rw [cpl_bit hx hp] at a
  cases h : x.testBit p <;> rw [h] at a <;> cases a
theorem nae_13 {n x y : Nat} (hx : x < 2 ^ n) : Nae n x y (cpl n x) := fun p hp ⟨_, a⟩ => by
  rw [cpl_bit hx hp] at a
  cases h : x.testBit p <;> rw [h] at a <;> cases a
theorem nae_23 {n x y : Nat} (hy : y < 2 ^ n) : Nae n x y (cpl n y) := fun p hp ⟨a, b⟩ => by
  rw [cpl_bit hy hp] at b
  rw [a] at b
  cases h : y.testBit p <;> rw [h] at b <;> cases b
theorem one_pos (n : Nat) : 0 < 2 ^ n := Nat.two_pow_pos n
/-- a self-dual table without a ring of its own, 0 at the word 0, is a place's table -/
theorem dict {n : Nat} {f : Nat → Bool} (hd : ∀ x, x < 2 ^ n → f (cpl n x) = !f x) (h0 : f 0 = false)
    (hr : ∀ x y z, x < 2 ^ n → y < 2 ^ n → z < 2 ^ n → Nae n x y z → f x = f y → f x = f z → False) : ∃ p, Own n f p false := by
  have meet : ∀ x y, x < 2 ^ n → y < 2 ^ n → f x = true → f y = true → f (x &&& y) = true := fun x y hx hy fx fy => by
    have hxy : x &&& y < 2 ^ n := Nat.and_lt_two_pow x hy
    have hz := cpl_lt hxy
    have hn : Nae n x y (cpl n (x &&& y)) := fun p hp ⟨a, b⟩ => by
      rw [cpl_bit hxy hp, Nat.testBit_and, ← a] at b
      cases h : x.testBit p <;> rw [h] at b <;> cases b
    cases h : f (x &&& y) with
    | true => rfl
    | false =>
      have e := hd _ hxy
      rw [h] at e
      exact (hr x y _ hx hy hz hn (fx.trans fy.symm) (fx.trans e.symm)).elim
  have h1 : f (cpl n 0) = true := by
    rw [hd 0 (one_pos n), h0]
    rfl
  -- the least word with bit 1
  have least : ∃ m, m < 2 ^ n ∧ f m = true ∧ ∀ x, x < m → f x = false := by
    have : ∀ k, (∃ m, m < k ∧ f m = true ∧ ∀ x, x < m → f x = false) ∨ ∀ x, x < k → f x = false := by
      intro k
      induction k with
      | zero => exact .inr fun x hx => absurd hx (Nat.not_lt_zero x)
      | succ k ih =>
        rcases ih with ⟨m, a, b, c⟩ | h
        · exact .inl ⟨m, Nat.lt_succ_of_lt a, b, c⟩
        · cases e : f k with
          | true => exact .inl ⟨k, Nat.lt_succ_self k, e, h⟩
          | false =>
            refine .inr fun x hx => ?_
            rcases Nat.lt_succ_iff_lt_or_eq.mp hx with q | q
            · exact h x q
            · rw [q]; exact e
    rcases this (2 ^ n) with h | h
    · exact h
    · have := h _ (cpl_lt (one_pos n))
      rw [h1] at this
      cases this
  obtain ⟨m, hm, fm, lm⟩ := least
  have m0 : m ≠ 0 := fun e => by
    rw [e, h0] at fm
    cases fm
  obtain ⟨p, hp⟩ := Nat.exists_testBit_of_ne_zero m0
  have pn : p < n := by
    rcases Nat.lt_or_ge p n with q | q
    · exact q
    · have : m.testBit p = false := Nat.testBit_lt_two_pow (Nat.lt_of_lt_of_le hm (Nat.pow_le_pow_right (by decide) q))
      rw [hp] at this
      cases this
  have up : ∀ x, x < 2 ^ n → f x = true → x.testBit p = true := fun x hx fx => by
    have e := meet m x hm hx fm fx
    have le : m &&& x ≤ m := Nat.and_le_left
    have : m &&& x = m := by
      rcases Nat.lt_or_ge (m &&& x) m with q | q
      · rw [lm _ q] at e
        cases e
      · omega
    have e2 : (m &&& x).testBit p = true := by rw [this]; exact hp
    rw [Nat.testBit_and, hp] at e2
    simpa using e2
  refine ⟨p, pn, fun x hx => ?_⟩
  cases fx : f x with
  | true => rw [up x hx fx]; rfl
  | false =>
    have e : f (cpl n x) = true := by rw [hd x hx, fx]; rfl
    have e2 := up _ (cpl_lt hx) e
    rw [cpl_bit hx pn] at e2
    cases h : x.testBit p with
    | false => rfl
    | true => rw [h] at e2; cases e2
theorem not_con {n : Nat} {f : Nat → Bool} (h : ∀ b, ¬ Con n f b) (b : Bool) : ∃ x, x < 2 ^ n ∧ f x = b := by
  refine Classical.byContradiction fun q => h (!b) fun x hx => ?_
  cases e : f x with
  | true => cases b with
    | true => exact (q ⟨x, hx, e⟩).elim
    | false => rfl
  | false => cases b with
    | true => rfl
    | false => exact (q ⟨x, hx, e⟩).elim
/-- THE LAW of the votes: no two unlike constants, not one place's table three times: then a ring -/
theorem ring_of {n : Nat} {f g h : Nat → Bool} (u1 : ∀ b, Con n f b → ¬ Con n g (!b)) (u2 : ∀ b, Con n f b → ¬ Con n h (!b)) (u3 : ∀ b, Con n g b → ¬ Con n h (!b))
    (ho : ∀ p b, ¬ (Own n f p b ∧ Own n g p b ∧ Own n h p b)) : Ring n f g h := by
  -- a table that no unlike constant faces takes the wanted bit
  have takes : ∀ (k : Nat → Bool) (b : Bool), ¬ Con n k (!b) → ∃ x, x < 2 ^ n ∧ k x = b := fun k b q => by
    refine Classical.byContradiction fun z => q fun x hx => ?_
    cases e : k x with
    | true => cases b with
      | true => exact (z ⟨x, hx, e⟩).elim
      | false => rfl
    | false => cases b with
      | true => rfl
      | false => exact (z ⟨x, hx, e⟩).elim
  by_cases cf : ∃ b, Con n f b
  · obtain ⟨b, cf⟩ := cf
    obtain ⟨y, hy, gy⟩ := takes g b (u1 b cf)
    obtain ⟨z, hz, hz2⟩ := takes h b (u2 b cf)
    have fx := cf (cpl n y) (cpl_lt hy)
    refine ⟨cpl n y, y, z, cpl_lt hy, hy, hz, ?_, by rw [fx, gy], by rw [fx, hz2]⟩
    have q := nae_cpl (n := n) (x := cpl n y) (y := z) (cpl_lt hy)
    rw [cpl_cpl hy] at q
    exact q
  by_cases cg : ∃ b, Con n g b
  · obtain ⟨b, cg⟩ := cg
    obtain ⟨x, hx, fx⟩ := takes f b (fun q => u1 (!b) q (by rw [Bool.not_not]; exact cg))
    obtain ⟨z, hz, hz2⟩ := takes h b (u3 b cg)
    have gy := cg (cpl n x) (cpl_lt hx)
    exact ⟨x, cpl n x, z, hx, cpl_lt hx, hz, nae_cpl hx, by rw [fx, gy], by rw [fx, hz2]⟩
  by_cases ch : ∃ b, Con n h b
  · obtain ⟨b, ch⟩ := ch
    obtain ⟨x, hx, fx⟩ := takes f b (fun q => u2 (!b) q (by rw [Bool.not_not]; exact ch))
    obtain ⟨y, hy, gy⟩ := takes g b (fun q => u3 (!b) q (by rw [Bool.not_not]; exact ch))
    have hz := ch (cpl n x) (cpl_lt hx)
    exact ⟨x, y, cpl n x, hx, hy, cpl_lt hx, nae_13 hx, by rw [fx, gy], by rw [fx, hz]⟩
  have cf' : ∀ b, ¬ Con n f b := fun b q => cf ⟨b, q⟩
  have cg' : ∀ b, ¬ Con n g b := fun b q => cg ⟨b, q⟩
  have ch' : ∀ b, ¬ Con n h b := fun b q => ch ⟨b, q⟩
  refine Classical.byContradiction fun nr => ?_
  have fg : ∀ x, x < 2 ^ n → g (cpl n x) = !f x := fun x hx => by
    obtain ⟨z, hz, e⟩ := not_con ch' (f x)
    cases q : f x <;> cases r : g (cpl n x) <;> try rfl
    all_goals exact (nr ⟨x, cpl n x, z, hx, cpl_lt hx, hz, nae_cpl hx, by rw [q, r], by rw [e]⟩).elim
  have fh : ∀ x, x < 2 ^ n → h (cpl n x) = !f x := fun x hx => by
    obtain ⟨y, hy, e⟩ := not_con cg' (f x)
    cases q : f x <;> cases r : h (cpl n x) <;> try rfl
    all_goals exact (nr ⟨x, y, cpl n x, hx, hy, cpl_lt hx, nae_13 hx, by rw [e], by rw [q, r]⟩).elim
  have gh : ∀ x, x < 2 ^ n → h (cpl n x) = !g x := fun y hy => by
    obtain ⟨x, hx, e⟩ := not_con cf' (g y)
    cases q : g y <;> cases r : h (cpl n y) <;> try rfl
    all_goals exact (nr ⟨x, y, cpl n y, hx, hy, cpl_lt hy, nae_23 hy, e, by rw [e, q, r]⟩).elim
  have e1 : ∀ x, x < 2 ^ n → f x = g x := fun x hx => by
    have a := fh x hx
    rw [gh x hx] at a
    cases q : f x <;> cases r : g x <;> rw [q, r] at a <;> first | rfl | cases a
  have e2 : ∀ x, x < 2 ^ n → f x = h x := fun x hx => by
    have a := fg (cpl n x) (cpl_lt hx)
    have b := fh (cpl n x) (cpl_lt hx)
    rw [cpl_cpl hx] at a b
    rw [e1 x hx, a, b]
  have hd : ∀ x, x < 2 ^ n → f (cpl n x) = !f x := fun x hx => by
    rw [e1 _ (cpl_lt hx)]
    exact fg x hx
  have hr : ∀ x y z, x < 2 ^ n → y < 2 ^ n → z < 2 ^ n → Nae n x y z → f x = f y → f x = f z → False := fun x y z hx hy hz a b c =>
    nr ⟨x, y, z, hx, hy, hz, a, by rw [← e1 y hy]; exact b, by rw [← e2 z hz]; exact c⟩
  cases h0 : f 0 with
  | false =>
    obtain ⟨p, pn, hp⟩ := dict hd h0 hr
    exact ho p false ⟨⟨pn, hp⟩, ⟨pn, fun x hx => (e1 x hx) ▸ hp x hx⟩, ⟨pn, fun x hx => (e2 x hx) ▸ hp x hx⟩⟩
  | true =>
    have := dict (n := n) (f := fun x => !f x) (fun x hx => by show (!f (cpl n x)) = !!f x; rw [hd x hx]) (by show (!f 0) = false; rw [h0]; rfl)
      (fun x y z hx hy hz a b c => hr x y z hx hy hz a (Bool.not_inj b) (Bool.not_inj c))
    obtain ⟨p, pn, hp⟩ := this
    have hp' : ∀ x, x < 2 ^ n → f x = (x.testBit p ^^ true) := fun x hx => by
      have a := hp x hx
      cases q : f x <;> cases r : x.testBit p <;> simp [q, r] at a ⊢
    exact ho p true ⟨⟨pn, hp'⟩, ⟨pn, fun x hx => (e1 x hx) ▸ hp' x hx⟩, ⟨pn, fun x hx => (e2 x hx) ▸ hp' x hx⟩⟩
/-- the other way -/
theorem no_ring_unlike {n : Nat} {f g h : Nat → Bool} {b : Bool} (r : Ring n f g h) : ¬ (Con n f b ∧ Con n g (!b)) ∧ ¬ (Con n f b ∧ Con n h (!b)) ∧ ¬ (Con n g b ∧ Con n h (!b)) := by
  obtain ⟨x, y, z, hx, hy, hz, _, a, c⟩ := r
  refine ⟨fun ⟨p, q⟩ => ?_, fun ⟨p, q⟩ => ?_, fun ⟨p, q⟩ => ?_⟩
  · rw [p x hx, q y hy] at a; cases b <;> cases a
  · rw [p x hx, q z hz] at c; cases b <;> cases c
  · rw [a, p y hy, q z hz] at c; cases b <;> cases c
theorem no_ring_own {n : Nat} {f g h : Nat → Bool} {p : Nat} {b : Bool} (r : Ring n f g h) : ¬ (Own n f p b ∧ Own n g p b ∧ Own n h p b) := by
  obtain ⟨x, y, z, hx, hy, hz, na, a, c⟩ := r
  rintro ⟨⟨pn, q1⟩, ⟨_, q2⟩, ⟨_, q3⟩⟩
  rw [q1 x hx, q2 y hy] at a
  rw [q1 x hx, q3 z hz] at c
  refine na p pn ⟨?_, ?_⟩
  · cases h1 : x.testBit p <;> cases h2 : y.testBit p <;> rw [h1, h2] at a <;> first | rfl | (cases b <;> cases a)
  · cases h1 : x.testBit p <;> cases h2 : z.testBit p <;> rw [h1, h2] at c <;> first | rfl | (cases b <;> cases c)
end Arw
set_option Elab.async false
set_option linter.all false
set_option maxRecDepth 100000
set_option maxHeartbeats 400000
namespace Bs
open PySem PySem.Spec PyProof.Rows L2 SX
open C8 (pe_gc pss_cut)
local macro_rules | `(tactic| walk_at "xt") => `(tactic| first | assumption | exact Ext.weak (by assumption) | exact Ext.is (by assumption) (by assumption) | exact Ext.plus (by assumption) | exact Ext.plus (Ext.weak (by assumption)) | exact Ext.plus (Ext.is (by assumption) (by assumption)) | exact Ext.set plus_self)
local macro_rules | `(tactic| walk_at "gr") => `(tactic| first | assumption | exact Ext.grow (by assumption) | exact Grow.upd)
local macro_rules | `(tactic| walk_at "mo") => `(tactic| first | assumption | exact MOk.zero | ((first | refine MOk.grow ?_ (by walk_at "gr") | exact MOk.upd (by walk_at "mo")); walk_at "mo") | exact MOk.plus (by walk_at "mo") (by assumption))
local macro_rules | `(tactic| walk_at "hp") => `(tactic| first
  | assumption | exact At.raw (by assumption)
  | exact At.mk' (by walk_at "mo") (by assumption) (by assumption)
  | ((first | refine At.ext (by walk_at "xt") ?_ | refine Rp.ext (by walk_at "xt") ?_ | refine RpA.ext (by walk_at "xt") ?_ | refine Tb.ext (by walk_at "xt") ?_); walk_at "hp")
  | ((first | refine At.plus (by assumption) ?_ | refine Rp.plus (by assumption) ?_ | refine RpA.plus (by assumption) ?_ | refine Tb.plus (by assumption) ?_); walk_at "hp"))
local macro_rules | `(tactic| walk_at "at") => `(tactic| first | assumption | exact At.get (M := N0) (by walk_at "hp"))
local macro_rules | `(tactic| walk_at "sq") => `(tactic| first | exact SqL.of (by walk_at "at") | exact SqT.of (by walk_at "at"))
local macro_rules | `(tactic| walk_at "st") => `(tactic| with_reducible first
  | refine i_seq ?_ | refine i_asg ?_ | refine i_ret ?_ | refine i_retN ?_ | refine i_drop ?_ | refine i_ifS ?_ | refine i_next ?_ | refine i_brk ?_
  | refine i_gname ?_ | refine i_gsub ?_ | refine i_c ?_ | refine i_op ?_ | refine i_un ?_ | refine i_I0 ?_ | refine i_U ?_ | refine i_isN ?_ | refine i_notN ?_
  | refine i_test ?_ | refine i_tB ?_ | refine i_bl ?_ | refine i_and ?_ | refine i_or ?_ | refine i_not ?_ | refine i_andV ?_ | refine i_orV ?_ | refine i_notV ?_ | refine i_ifE ?_
  | refine i_nil ?_ | refine i_cons ?_ | refine i_for ?_ | refine i_iL ?_ | refine i_iT ?_ | refine i_iR ?_ | refine i_lc ?_ | refine i_prp ?_ | refine i_mk ?_ | refine i_sS ?_ | refine i_sN ?_ | refine i_nsS ?_ | refine i_nsN ?_ | refine i_fld ?_ | refine i_sf ?_ | refine i_inO ?_ | refine i_lsO ?_ | refine i_tpO ?_ | refine i_lnO ?_ | refine i_cb ?_ | refine i_call ?_ | refine i_tup ?_ | refine i_lst ?_ | refine i_dnew ?_ | refine i_inI ?_ | refine i_inB ?_ | refine i_rgX ?_ | refine i_lrO ?_ | refine i_rg1 ?_ | refine i_nF ?_ | refine i_nT ?_ | refine i_tt ?_ | refine i_ff ?_ | refine i_ifT ?_ | refine i_ifF ?_
  | refine i_eqI ?_ | refine i_eqS ?_ | refine i_eqB ?_ | refine i_neI ?_ | refine i_neS ?_ | refine i_dR ?_ | refine i_dI ?_ | refine i_dT ?_ | refine i_dS ?_ | refine i_dN ?_ | refine i_nR ?_ | refine i_nI ?_ | refine i_nN ?_
  | (refine i_var (by with_unfolding_all rfl) ?_) | refine i_eq rfl ?_ | refine i_ne rfl ?_)
local macro_rules | `(tactic| walk_at "sc") => `(tactic| first | exact (Rp.int (M := N0) _) | exact (Rp.str (M := N0) _) | exact (Rp.bl (M := N0) _) | exact (Rp.non (M := N0)) | assumption | exact Rp.tab (by assumption) | exact Tb.rp (by assumption))
local macro_rules | `(tactic| walk_at "sd") => `(tactic| simp only [d_Bool_non, d_Bool_bl, d_Bool_int, d_Bool_str, d_Bool_lst, d_Bool_tup, d_Bool_tab, d_Bool_dic, d_Int_non, d_Int_bl, d_Int_int, d_Int_str, d_Int_lst, d_Int_tup, d_Int_tab, d_Int_dic, d_Str_non, d_Str_bl, d_Str_int, d_Str_str, d_Str_lst, d_Str_tup, d_Str_tab, d_Str_dic, d_List_non, d_List_bl, d_List_int, d_List_str, d_List_lst, d_List_tup, d_List_tab, d_List_dic, d_Tup_non, d_Tup_bl, d_Tup_int, d_Tup_str, d_Tup_lst, d_Tup_tup, d_Tup_tab, d_Tup_dic, d_Tab_non, d_Tab_bl, d_Tab_int, d_Tab_str, d_Tab_lst, d_Tab_tup, d_Tab_tab, d_Tab_dic, Bool.not_true, Bool.not_false, Bool.true_or, Bool.false_or, Bool.or_true, Bool.or_false, Bool.and_true, Bool.true_and, Bool.and_false, Bool.false_and, if_true, if_false, Bool.false_eq_true])
local macro_rules | `(tactic| walk_at "isi") => `(tactic| ((first | with_reducible apply i_isB | with_reducible apply i_isI | with_reducible apply i_isS | with_reducible apply i_isL | with_reducible apply i_isT | with_reducible apply i_isTab); (focus assumption); (focus walk_at "sc"); try simp only [d_Bool_non, d_Bool_bl, d_Bool_int, d_Bool_str, d_Bool_lst, d_Bool_tup, d_Bool_tab, d_Bool_dic, d_Int_non, d_Int_bl, d_Int_int, d_Int_str, d_Int_lst, d_Int_tup, d_Int_tab, d_Int_dic, d_Str_non, d_Str_bl, d_Str_int, d_Str_str, d_Str_lst, d_Str_tup, d_Str_tab, d_Str_dic, d_List_non, d_List_bl, d_List_int, d_List_str, d_List_lst, d_List_tup, d_List_tab, d_List_dic, d_Tup_non, d_Tup_bl, d_Tup_int, d_Tup_str, d_Tup_lst, d_Tup_tup, d_Tup_tab, d_Tup_dic, d_Tab_non, d_Tab_bl, d_Tab_int, d_Tab_str, d_Tab_lst, d_Tab_tup, d_Tab_tab, d_Tab_dic]))
local macro_rules | `(tactic| walk_at "om") => `(tactic| first | ((with_reducible refine i_decF ?_ ?_); (focus omega)) | ((with_reducible refine i_decT ?_ ?_); (focus omega)) | ((with_reducible refine i_ndecF ?_ ?_); (focus omega)) | ((with_reducible refine i_ndecT ?_ ?_); (focus omega)))
local macro_rules | `(tactic| walk_at "go") => `(tactic| ((repeat (first | walk_at "st" | walk_at "isi" | walk_at "om")); try dsimp only [List.set]))
variable {W : Wd} {a : Ad}
/-! P2: where no plain paper is right, there is a ring. -/
open Arw in
theorem fz_iff {n x y z : Nat} (hx : x < 2 ^ n) (hy : y < 2 ^ n) (hz : z < 2 ^ n) : Builtin.bitOr (Builtin.bitXor x y) (Builtin.bitXor x z) = ((2 ^ n : Nat) : Int) - 1 ↔ Nae n x y z := by
  have e : Builtin.bitOr (Builtin.bitXor x y) (Builtin.bitXor x z) = (((x ^^^ y) ||| (x ^^^ z) : Nat) : Int) := by
    rw [Bits.bitXor_pp (Int.natCast_nonneg _) (Int.natCast_nonneg _), Bits.bitXor_pp (Int.natCast_nonneg _) (Int.natCast_nonneg _), Bits.bitOr_pp (Int.natCast_nonneg _) (Int.natCast_nonneg _)]
    rfl
  have hp : 0 < 2 ^ n := Nat.two_pow_pos n
  have e2 : (((x ^^^ y) ||| (x ^^^ z) : Nat) : Int) = ((2 ^ n : Nat) : Int) - 1 ↔ (x ^^^ y) ||| (x ^^^ z) = 2 ^ n - 1 := by omega
  rw [e, e2]
  constructor
  · intro h p hpn ⟨h1, h2⟩
    have := congrArg (fun w => w.testBit p) h
    simp only [Nat.testBit_or, Nat.testBit_xor, Nat.testBit_two_pow_sub_one, h1, h2, decide_eq_true hpn] at this
    rw [← h2, h1] at this
    simp at this
  · intro h
    apply Nat.eq_of_testBit_eq
    intro p
    rw [Nat.testBit_or, Nat.testBit_xor, Nat.testBit_xor, Nat.testBit_two_pow_sub_one]
    by_cases hpn : p < n
    · rw [decide_eq_true hpn]
      have := h p hpn
      cases h1 : x.testBit p <;> cases h2 : y.testBit p <;> cases h3 : z.testBit p <;> simp_all
    · have hw : ∀ w, w < 2 ^ n → w.testBit p = false := fun w hw => Nat.testBit_lt_two_pow (Nat.lt_of_lt_of_le hw (Nat.pow_le_pow_right (by omega) (by omega)))
      rw [hw x hx, hw y hy, hw z hz, decide_eq_false hpn]; rfl
def bF (b : List Int) (x : Nat) : Bool := decide (b.getD x 0 = 1)
def bZ (v : Bool) : Int := if v = true then 1 else 0
theorem get01 {n : Nat} {b : List Int} (h : TabOk n b) {x : Nat} (hx : x < 2 ^ n) : b[x]? = some (bZ (bF b x)) := by
  have hl : x < b.length := by rw [h.2.1]; exact hx
  have e : b.getD x 0 = b[x] := by rw [List.getD_eq_getElem?_getD, List.getElem?_eq_getElem hl]; rfl
  rw [List.getElem?_eq_getElem hl, bF, e]
  rcases h.2.2 _ (List.getElem_mem hl) with g | g <;> rw [g] <;> rfl
theorem bZ_inj {u v : Bool} (h : bZ u = bZ v) : u = v := by cases u <;> cases v <;> first | rfl | cases h
theorem con_iff {n : Nat} {b : List Int} (h : TabOk n b) (v : Bool) : Arw.Con n (bF b) v ↔ con n b = some (bZ v) := by
  have key : Arw.Con n (bF b) v ↔ b = List.replicate (2 ^ n) (bZ v) := by
    constructor
    · intro c
      apply List.ext_getElem?
      intro x
      by_cases hx : x < 2 ^ n
      · rw [get01 h hx, c x hx, List.getElem?_replicate, if_pos hx]
      · rw [List.getElem?_eq_none (by rw [h.2.1]; omega), List.getElem?_eq_none (by simp; omega)]
    · intro e x hx
      have := get01 h hx
      rw [e, List.getElem?_replicate, if_pos hx] at this
      rw [e]
      exact (bZ_inj (Option.some.inj this)).symm
  rw [key]
  cases v with
  | true => exact (con1 h).symm
  | false => exact (con0 h).symm
theorem xz (u v : Bool) : Builtin.bitXor (if u = true then 1 else 0) (bZ v) = bZ (u ^^ v) := by cases u <;> cases v <;> decide +kernel
theorem own_iff {n p : Nat} {b : List Int} (h : TabOk n b) (v : Bool) : Arw.Own n (bF b) p v ↔ p < n ∧ plI n p (bZ v) = b := by
  constructor
  · rintro ⟨hp, c⟩
    refine ⟨hp, ?_⟩
    apply List.ext_getElem?
    intro x
    by_cases hx : x < 2 ^ n
    · rw [plI_get hx, get01 h hx, c x hx, xz]
    · rw [List.getElem?_eq_none (by simp [plI]; omega), List.getElem?_eq_none (by rw [h.2.1]; omega)]
  · rintro ⟨hp, e⟩
    refine ⟨hp, fun x hx => ?_⟩
    have := get01 h hx
    rw [← e, plI_get hx, xz, e] at this
    exact (bZ_inj (Option.some.inj this)).symm
theorem unl_of {n : Nat} {b c : List Int} (v : Bool) (hb : con n b = some (bZ v)) (hc : con n c = some (bZ (!v))) : unl (con n b) (con n c) = true := by
  rw [hb, hc]; cases v <;> rfl
theorem unl_from {n : Nat} {b c : List Int} (h : unl (con n b) (con n c) = true) : ∃ v, con n b = some (bZ v) ∧ con n c = some (bZ (!v)) := by
  rcases con_or (n := n) (b := b) with e | e | e <;> rcases con_or (n := n) (b := c) with f | f | f <;> rw [e, f] at h <;> first | (cases h; done) | skip
  · exact ⟨false, e, f⟩
  · exact ⟨true, e, f⟩
theorem unlIx_none {n : Nat} {b1 b2 b3 : List Int} : unlIx n b1 b2 b3 = none ↔ unl (con n b1) (con n b2) = false ∧ unl (con n b1) (con n b3) = false ∧ unl (con n b2) (con n b3) = false := by
  unfold unlIx uprs
  simp [List.find?_eq_none, b3of]
theorem plain_unl {n : Nat} {b1 b2 b3 : List Int} (h : plain n b1 b2 b3 = none) : unlIx n b1 b2 b3 = none := by
  cases e : unlIx n b1 b2 b3 with
  | none => rfl
  | some p => rw [plain, e] at h; cases h
theorem ww_mem {n : Nat} {b : List Int} (h : TabOk n b) {x : Nat} {w : Bool} : x ∈ wwN n b (bZ w) ↔ x < 2 ^ n ∧ bF b x = w := by
  rw [wwN, List.mem_filter, List.mem_range]
  constructor
  · rintro ⟨hx, e⟩
    refine ⟨hx, bZ_inj ?_⟩
    have := get01 h hx
    have e := of_decide_eq_true e
    rw [List.getD_eq_getElem?_getD, this] at e
    exact e
  · rintro ⟨hx, e⟩
    refine ⟨hx, decide_eq_true ?_⟩
    rw [List.getD_eq_getElem?_getD, get01 h hx, e]; rfl
theorem noring_bits {n x y z : Nat} (h : Arw.Nae n x y z) : ∀ o ∈ bwF n x y z, o ≠ "ring" := by
  intro o ho
  obtain ⟨v, hv, rfl⟩ := List.mem_map.mp ho
  have hv := List.mem_range.mp hv
  have := h v hv
  unfold bI
  rw [band1, band1, band1]
  cases h1 : x.testBit v <;> cases h2 : y.testBit v <;> cases h3 : z.testBit v
  all_goals (rw [h1, h2, h3] at this)
  all_goals first | exact absurd ⟨rfl, rfl⟩ this | decide +kernel
theorem ringW_of {n : Nat} {b1 b2 b3 : List Int} (h1 : TabOk n b1) (h2 : TabOk n b2) (h3 : TabOk n b3) (r : Arw.Ring n (bF b1) (bF b2) (bF b3)) : ∃ x y z, ringW n b1 b2 b3 = some (x, y, z) ∧ Arw.Nae n x y z := by
  obtain ⟨x, y, z, hx, hy, hz, na, e1, e2⟩ := r
  cases e : ringW n b1 b2 b3 with
  | none =>
    exfalso
    have g0 := List.findSome?_eq_none_iff.mp e (bZ (bF b1 x)) (by cases bF b1 x <;> simp [bZ])
    have g1 := List.findSome?_eq_none_iff.mp g0 x ((ww_mem h1).mpr ⟨hx, rfl⟩)
    have g2 := List.findSome?_eq_none_iff.mp g1 y ((ww_mem h2).mpr ⟨hy, e1.symm⟩)
    have g3 := List.findSome?_eq_none_iff.mp g2 z ((ww_mem h3).mpr ⟨hz, e2.symm⟩)
    rw [fZ, if_pos ((fz_iff hx hy hz).mpr na)] at g3
    cases g3
  | some t =>
    obtain ⟨x', y', z'⟩ := t
    refine ⟨x', y', z', rfl, ?_⟩
    obtain ⟨w, hw, f1⟩ := List.exists_of_findSome?_eq_some e
    obtain ⟨u, hu, f2⟩ := List.exists_of_findSome?_eq_some f1
    obtain ⟨v, hv, f3⟩ := List.exists_of_findSome?_eq_some f2
    obtain ⟨t, ht, f4⟩ := List.exists_of_findSome?_eq_some f3
    have lt : ∀ {b : List Int} {q : Nat}, q ∈ wwN n b w → q < 2 ^ n := fun h => List.mem_range.mp (List.mem_filter.mp h).1
    unfold fZ at f4
    split at f4
    · rename_i hc
      cases f4
      exact (fz_iff (lt hu) (lt hv) (lt ht)).mp hc
    · cases f4
theorem plain_ring {n : Nat} {b1 b2 b3 : List Int} (h1 : TabOk n b1) (h2 : TabOk n b2) (h3 : TabOk n b3) (h : plain n b1 b2 b3 = none) : Arw.Ring n (bF b1) (bF b2) (bF b3) := by
  have hu := plain_unl h
  obtain ⟨n1, n2, n3⟩ := unlIx_none.mp hu
  refine Arw.ring_of (fun v c d => ?_) (fun v c d => ?_) (fun v c d => ?_) fun p v ⟨o1, o2, o3⟩ => ?_
  · have := unl_of v ((con_iff h1 v).mp c) ((con_iff h2 _).mp d)
    rw [n1] at this; cases this
  · have := unl_of v ((con_iff h1 v).mp c) ((con_iff h3 _).mp d)
    rw [n2] at this; cases this
  · have := unl_of v ((con_iff h2 v).mp c) ((con_iff h3 _).mp d)
    rw [n3] at this; cases this
  · obtain ⟨hp, g1⟩ := (own_iff h1 v).mp o1
    have g2 := ((own_iff h2 v).mp o2).2
    have g3 := ((own_iff h3 v).mp o3).2
    obtain rfl := g1.symm.trans g2
    obtain rfl := g1.symm.trans g3
    have := plain_eq hu
    rw [h] at this
    have own : ownEq (ownIx n b1) (p : Int) (bZ v) = true := own_law.mpr ⟨by omega, by omega, by cases v <;> simp [bZ], by rw [Int.toNat_natCast]; exact g1⟩
    cases e : ownIx n b1 with
    | none => rw [e] at own; cases own
    | some c => rw [e] at this; cases this
theorem plain_ok : PlainOk := fun n b1 b2 b3 h1 h2 h3 h => by
  have r := plain_ring h1 h2 h3 h
  obtain ⟨x, y, z, e, na⟩ := ringW_of h1 h2 h3 r
  exact ⟨x, y, z, e, noring_bits na⟩
end Bs
set_option Elab.async false
set_option linter.all false
set_option maxRecDepth 100000
set_option maxHeartbeats 400000
namespace Bs
open PySem PySem.Spec PyProof.Rows L2 SX
open C8 (pe_gc pss_cut)
local macro_rules | `(tactic| walk_at "xt") => `(tactic| first | assumption | exact Ext.weak (by assumption) | exact Ext.is (by assumption) (by assumption) | exact Ext.plus (by assumption) | exact Ext.plus (Ext.weak (by assumption)) | exact Ext.plus (Ext.is (by assumption) (by assumption)) | exact Ext.set plus_self)
local macro_rules | `(tactic| walk_at "gr") => `(tactic| first | assumption | exact Ext.grow (by assumption) | exact Grow.upd)
local macro_rules | `(tactic| walk_at "mo") => `(tactic| first | assumption | exact MOk.zero | ((first | refine MOk.grow ?_ (by walk_at "gr") | exact MOk.upd (by walk_at "mo")); walk_at "mo") | exact MOk.plus (by walk_at "mo") (by assumption))
local macro_rules | `(tactic| walk_at "hp") => `(tactic| first
  | assumption | exact At.raw (by assumption)
  | exact At.mk' (by walk_at "mo") (by assumption) (by assumption)
  | ((first | refine At.ext (by walk_at "xt") ?_ | refine Rp.ext (by walk_at "xt") ?_ | refine RpA.ext (by walk_at "xt") ?_ | refine Tb.ext (by walk_at "xt") ?_); walk_at "hp")
  | ((first | refine At.plus (by assumption) ?_ | refine Rp.plus (by assumption) ?_ | refine RpA.plus (by assumption) ?_ | refine Tb.plus (by assumption) ?_); walk_at "hp"))
local macro_rules | `(tactic| walk_at "at") => `(tactic| first | assumption | exact At.get (M := N0) (by walk_at "hp"))
local macro_rules | `(tactic| walk_at "sq") => `(tactic| first | exact SqL.of (by walk_at "at") | exact SqT.of (by walk_at "at"))
local macro_rules | `(tactic| walk_at "st") => `(tactic| with_reducible first
  | refine i_seq ?_ | refine i_asg ?_ | refine i_ret ?_ | refine i_retN ?_ | refine i_drop ?_ | refine i_ifS ?_ | refine i_next ?_ | refine i_brk ?_
  | refine i_gname ?_ | refine i_gsub ?_ | refine i_c ?_ | refine i_op ?_ | refine i_un ?_ | refine i_I0 ?_ | refine i_U ?_ | refine i_isN ?_ | refine i_notN ?_
  | refine i_test ?_ | refine i_tB ?_ | refine i_bl ?_ | refine i_and ?_ | refine i_or ?_ | refine i_not ?_ | refine i_andV ?_ | refine i_orV ?_ | refine i_notV ?_ | refine i_ifE ?_
  | refine i_nil ?_ | refine i_cons ?_ | refine i_for ?_ | refine i_iL ?_ | refine i_iT ?_ | refine i_iR ?_ | refine i_lc ?_ | refine i_prp ?_ | refine i_mk ?_ | refine i_sS ?_ | refine i_sN ?_ | refine i_nsS ?_ | refine i_nsN ?_ | refine i_fld ?_ | refine i_sf ?_ | refine i_inO ?_ | refine i_lsO ?_ | refine i_tpO ?_ | refine i_lnO ?_ | refine i_cb ?_ | refine i_call ?_ | refine i_tup ?_ | refine i_lst ?_ | refine i_dnew ?_ | refine i_inI ?_ | refine i_inB ?_ | refine i_rgX ?_ | refine i_lrO ?_ | refine i_rg1 ?_ | refine i_nF ?_ | refine i_nT ?_ | refine i_tt ?_ | refine i_ff ?_ | refine i_ifT ?_ | refine i_ifF ?_
  | refine i_eqI ?_ | refine i_eqS ?_ | refine i_eqB ?_ | refine i_neI ?_ | refine i_neS ?_ | refine i_dR ?_ | refine i_dI ?_ | refine i_dT ?_ | refine i_dS ?_ | refine i_dN ?_ | refine i_nR ?_ | refine i_nI ?_ | refine i_nN ?_
  | (refine i_var (by with_unfolding_all rfl) ?_) | refine i_eq rfl ?_ | refine i_ne rfl ?_)
local macro_rules | `(tactic| walk_at "sc") => `(tactic| first | exact (Rp.int (M := N0) _) | exact (Rp.str (M := N0) _) | exact (Rp.bl (M := N0) _) | exact (Rp.non (M := N0)) | assumption | exact Rp.tab (by assumption) | exact Tb.rp (by assumption))
local macro_rules | `(tactic| walk_at "sd") => `(tactic| simp only [d_Bool_non, d_Bool_bl, d_Bool_int, d_Bool_str, d_Bool_lst, d_Bool_tup, d_Bool_tab, d_Bool_dic, d_Int_non, d_Int_bl, d_Int_int, d_Int_str, d_Int_lst, d_Int_tup, d_Int_tab, d_Int_dic, d_Str_non, d_Str_bl, d_Str_int, d_Str_str, d_Str_lst, d_Str_tup, d_Str_tab, d_Str_dic, d_List_non, d_List_bl, d_List_int, d_List_str, d_List_lst, d_List_tup, d_List_tab, d_List_dic, d_Tup_non, d_Tup_bl, d_Tup_int, d_Tup_str, d_Tup_lst, d_Tup_tup, d_Tup_tab, d_Tup_dic, d_Tab_non, d_Tab_bl, d_Tab_int, d_Tab_str, d_Tab_lst, d_Tab_tup, d_Tab_tab, d_Tab_dic, Bool.not_true, Bool.not_false, Bool.true_or, Bool.false_or, Bool.or_true, Bool.or_false, Bool.and_true, Bool.true_and, Bool.and_false, Bool.false_and, if_true, if_false, Bool.false_eq_true])
local macro_rules | `(tactic| walk_at "isi") => `(tactic| ((first | with_reducible apply i_isB | with_reducible apply i_isI | with_reducible apply i_isS | with_reducible apply i_isL | with_reducible apply i_isT | with_reducible apply i_isTab); (focus assumption); (focus walk_at "sc"); try simp only [d_Bool_non, d_Bool_bl, d_Bool_int, d_Bool_str, d_Bool_lst, d_Bool_tup, d_Bool_tab, d_Bool_dic, d_Int_non, d_Int_bl, d_Int_int, d_Int_str, d_Int_lst, d_Int_tup, d_Int_tab, d_Int_dic, d_Str_non, d_Str_bl, d_Str_int, d_Str_str, d_Str_lst, d_Str_tup, d_Str_tab, d_Str_dic, d_List_non, d_List_bl, d_List_int, d_List_str, d_List_lst, d_List_tup, d_List_tab, d_List_dic, d_Tup_non, d_Tup_bl, d_Tup_int, d_Tup_str, d_Tup_lst, d_Tup_tup, d_Tup_tab, d_Tup_dic, d_Tab_non, d_Tab_bl, d_Tab_int, d_Tab_str, d_Tab_lst, d_Tab_tup, d_Tab_tab, d_Tab_dic]))
local macro_rules | `(tactic| walk_at "om") => `(tactic| first | ((with_reducible refine i_decF ?_ ?_); (focus omega)) | ((with_reducible refine i_decT ?_ ?_); (focus omega)) | ((with_reducible refine i_ndecF ?_ ?_); (focus omega)) | ((with_reducible refine i_ndecT ?_ ?_); (focus omega)))
local macro_rules | `(tactic| walk_at "go") => `(tactic| ((repeat (first | walk_at "st" | walk_at "isi" | walk_at "om")); try dsimp only [List.set]))
variable {W : Wd} {a : Ad}
/-! P3: ballots and words. -/
def wqn (q : Nat) : List Str → Nat
  | [] => 0
  | o :: r => (bq q o).toNat + 2 * wqn q r
theorem wq_nat (q : Nat) : ∀ b, wq q b = (wqn q b : Nat)
  | [] => rfl
  | o :: r => by
    have h := bq_01 q o
    rw [wq, wqn, wq_nat q r]
    omega
theorem wqn_bit (q : Nat) : ∀ (b : List Str) (v : Nat), (wqn q b).testBit v = match b[v]? with
    | some o => decide (bq q o = 1)
    | none => false
  | [], v => by simp [wqn]
  | o :: r, 0 => by
    have h := bq_01 q o
    rw [wqn, Nat.testBit_zero]
    show decide (((bq q o).toNat + 2 * wqn q r) % 2 = 1) = decide (bq q o = 1)
    rcases h with h | h <;> rw [h]
    · exact (decide_eq_false (by omega)).trans (by decide)
    · exact (decide_eq_true (by omega)).trans (by decide)
  | o :: r, v + 1 => by
    have h := bq_01 q o
    rw [wqn, Nat.testBit_succ]
    have e : ((bq q o).toNat + 2 * wqn q r) / 2 = wqn q r := by omega
    rw [e, wqn_bit q r v]
    simp
theorem ord_mix : ∀ o ∈ orders, ¬ (bq 0 o = bq 1 o ∧ bq 0 o = bq 2 o) := by decide +kernel
theorem ord_back : ∀ u v w : Bool, ¬ (u = v ∧ u = w) → ordI (bZ u) (bZ v) (bZ w) ∈ orders ∧ bq 0 (ordI (bZ u) (bZ v) (bZ w)) = bZ u ∧ bq 1 (ordI (bZ u) (bZ v) (bZ w)) = bZ v ∧ bq 2 (ordI (bZ u) (bZ v) (bZ w)) = bZ w := by decide +kernel
theorem ord_ring : ∀ u v w : Bool, ordI (bZ u) (bZ v) (bZ w) = "ring" ↔ u = v ∧ u = w := by decide +kernel
theorem outc_iff {n : Nat} {b1 b2 b3 : List Int} (h1 : TabOk n b1) (h2 : TabOk n b2) (h3 : TabOk n b3) {b : List Str} (hb : b.length = n) : outc b1 b2 b3 b = "ring" ↔ bF b1 (wqn 0 b) = bF b2 (wqn 1 b) ∧ bF b1 (wqn 0 b) = bF b3 (wqn 2 b) := by
  have lt : ∀ q, wqn q b < 2 ^ n := fun q => by
    have := (wq_lo q b).2
    rw [wq_nat, hb] at this
    exact_mod_cast this
  have e : ∀ {c : List Int} (q : Nat), TabOk n c → gI c (wq q b) = bZ (bF c (wqn q b)) := fun q hc => by
    rw [gI, wq_nat, Int.toNat_natCast, List.getD_eq_getElem?_getD, get01 hc (lt q)]; rfl
  rw [outc, e 0 h1, e 1 h2, e 2 h3]
  exact ord_ring _ _ _
theorem bal_nae {n : Nat} {b : List Str} (hb : b.length = n) (ho : ∀ o ∈ b, o ∈ orders) : Arw.Nae n (wqn 0 b) (wqn 1 b) (wqn 2 b) := by
  intro p hp ⟨e1, e2⟩
  rw [wqn_bit, wqn_bit] at e1 e2
  rw [List.getElem?_eq_getElem (by omega)] at e1 e2
  have e1 : decide (bq 0 (b[p]'(by omega)) = 1) = decide (bq 1 (b[p]'(by omega)) = 1) := e1
  have e2 : decide (bq 0 (b[p]'(by omega)) = 1) = decide (bq 2 (b[p]'(by omega)) = 1) := e2
  have hm := ord_mix _ (ho _ (List.getElem_mem (by omega : p < b.length)))
  rcases bq_01 0 (b[p]'(by omega)) with g0 | g0 <;> rcases bq_01 1 (b[p]'(by omega)) with g1 | g1 <;> rcases bq_01 2 (b[p]'(by omega)) with g2 | g2
  all_goals (rw [g0, g1] at e1; rw [g0, g2] at e2; rw [g0, g1, g2] at hm)
  all_goals first | exact hm ⟨rfl, rfl⟩ | (revert e1; decide) | (revert e2; decide)
theorem bw_back {n x y z : Nat} (hx : x < 2 ^ n) (hy : y < 2 ^ n) (hz : z < 2 ^ n) (h : Arw.Nae n x y z) : (bwF n x y z).length = n ∧ (∀ o ∈ bwF n x y z, o ∈ orders) ∧ wqn 0 (bwF n x y z) = x ∧ wqn 1 (bwF n x y z) = y ∧ wqn 2 (bwF n x y z) = z := by
  have bz : ∀ u v : Nat, bI (u : Int) v = bZ (u.testBit v) := fun u v => band1 u v
  have at_ : ∀ v, v < n → (bwF n x y z)[v]? = some (ordI (bZ (x.testBit v)) (bZ (y.testBit v)) (bZ (z.testBit v))) := fun v hv => by
    rw [bwF, List.getElem?_map, List.getElem?_range hv, Option.map_some, bz, bz, bz]
  have len : (bwF n x y z).length = n := by simp [bwF]
  have big : ∀ w v, w < 2 ^ n → ¬ v < n → w.testBit v = false := fun w v hw hv => Nat.testBit_lt_two_pow (Nat.lt_of_lt_of_le hw (Nat.pow_le_pow_right (by omega) (by omega)))
  have dz : ∀ u : Bool, decide (bZ u = 1) = u := by decide
  refine ⟨len, fun o ho => ?_, ?_, ?_, ?_⟩
  · obtain ⟨v, hv, e⟩ := List.getElem_of_mem ho
    have := at_ v (by omega)
    rw [List.getElem?_eq_getElem hv, e] at this
    rw [Option.some.inj this]
    exact (ord_back _ _ _ (h v (by omega))).1
  all_goals
    apply Nat.eq_of_testBit_eq
    intro v
    rw [wqn_bit]
    by_cases hv : v < n
    · rw [at_ v hv]
      have := ord_back _ _ _ (h v hv)
      first
        | (show decide (bq 0 _ = 1) = x.testBit v; rw [this.2.1, dz])
        | (show decide (bq 1 _ = 1) = y.testBit v; rw [this.2.2.1, dz])
        | (show decide (bq 2 _ = 1) = z.testBit v; rw [this.2.2.2, dz])
    · rw [List.getElem?_eq_none (by omega), big _ v (by assumption) hv]
theorem any_iff {n : Nat} {b1 b2 b3 : List Int} (h1 : TabOk n b1) (h2 : TabOk n b2) (h3 : TabOk n b3) : ringAny n b1 b2 b3 = true ↔ Arw.Ring n (bF b1) (bF b2) (bF b3) := by
  unfold ringAny
  rw [List.any_eq_true]
  constructor
  · rintro ⟨b, hb, e⟩
    obtain ⟨l, ho⟩ := balL_ok n b hb
    have e := (outc_iff h1 h2 h3 l).mp (of_decide_eq_true e)
    have lt : ∀ q, wqn q b < 2 ^ n := fun q => by
      have := (wq_lo q b).2
      rw [wq_nat, l] at this
      exact_mod_cast this
    exact ⟨_, _, _, lt 0, lt 1, lt 2, bal_nae l ho, e.1, e.2⟩
  · rintro ⟨x, y, z, hx, hy, hz, na, e1, e2⟩
    obtain ⟨l, ho, w0, w1, w2⟩ := bw_back hx hy hz na
    refine ⟨_, balL_all n _ l ho, decide_eq_true ((outc_iff h1 h2 h3 l).mpr ?_)⟩
    rw [w0, w1, w2]
    exact ⟨e1, e2⟩
theorem ring_plain {n : Nat} {b1 b2 b3 : List Int} (h1 : TabOk n b1) (h2 : TabOk n b2) (h3 : TabOk n b3) (r : Arw.Ring n (bF b1) (bF b2) (bF b3)) : plain n b1 b2 b3 = none := by
  have hu : unlIx n b1 b2 b3 = none := by
    rw [unlIx_none]
    refine ⟨?_, ?_, ?_⟩
    · cases e : unl (con n b1) (con n b2) with
      | false => rfl
      | true =>
        obtain ⟨v, g1, g2⟩ := unl_from e
        exact absurd ⟨(con_iff h1 v).mpr g1, (con_iff h2 _).mpr g2⟩ (Arw.no_ring_unlike (b := v) r).1
    · cases e : unl (con n b1) (con n b3) with
      | false => rfl
      | true =>
        obtain ⟨v, g1, g2⟩ := unl_from e
        exact absurd ⟨(con_iff h1 v).mpr g1, (con_iff h3 _).mpr g2⟩ (Arw.no_ring_unlike (b := v) r).2.1
    · cases e : unl (con n b2) (con n b3) with
      | false => rfl
      | true =>
        obtain ⟨v, g1, g2⟩ := unl_from e
        exact absurd ⟨(con_iff h2 v).mpr g1, (con_iff h3 _).mpr g2⟩ (Arw.no_ring_unlike (b := v) r).2.2
  by_cases e : b1 = b2 ∧ b1 = b3
  · obtain ⟨rfl, rfl⟩ := e
    rw [plain_eq hu]
    cases e : ownIx n b1 with
    | none => rfl
    | some c =>
      exfalso
      have own : ownEq (ownIx n b1) ((c / 2 : Nat) : Int) ((c % 2 : Nat) : Int) = true := by rw [e]; exact decide_eq_true ⟨rfl, rfl⟩
      obtain ⟨g1, g2, g3, g4⟩ := own_law.mp own
      rw [Int.toNat_natCast] at g4
      obtain ⟨v, hv⟩ : ∃ v, ((c % 2 : Nat) : Int) = bZ v := g3.elim (fun z => ⟨false, z⟩) fun z => ⟨true, z⟩
      rw [hv] at g4
      have o := (own_iff h1 v).mpr ⟨by omega, g4⟩
      exact Arw.no_ring_own r ⟨o, o, o⟩
  · exact plain_ne hu e
theorem any_plain {n : Nat} {b1 b2 b3 : List Int} (h1 : TabOk n b1) (h2 : TabOk n b2) (h3 : TabOk n b3) : ringAny n b1 b2 b3 = true ↔ plain n b1 b2 b3 = none :=
  (any_iff h1 h2 h3).trans ⟨ring_plain h1 h2 h3, plain_ring h1 h2 h3⟩
end Bs
set_option Elab.async false
set_option linter.all false
set_option maxRecDepth 100000
set_option maxHeartbeats 400000
namespace Bs
open PySem PySem.Spec PyProof.Rows L2 SX
open C8 (pe_gc pss_cut)
local macro_rules | `(tactic| walk_at "xt") => `(tactic| first | assumption | exact Ext.weak (by assumption) | exact Ext.is (by assumption) (by assumption) | exact Ext.plus (by assumption) | exact Ext.plus (Ext.weak (by assumption)) | exact Ext.plus (Ext.is (by assumption) (by assumption)) | exact Ext.set plus_self)
local macro_rules | `(tactic| walk_at "gr") => `(tactic| first | assumption | exact Ext.grow (by assumption) | exact Grow.upd)
local macro_rules | `(tactic| walk_at "mo") => `(tactic| first | assumption | exact MOk.zero | ((first | refine MOk.grow ?_ (by walk_at "gr") | exact MOk.upd (by walk_at "mo")); walk_at "mo") | exact MOk.plus (by walk_at "mo") (by assumption))
local macro_rules | `(tactic| walk_at "hp") => `(tactic| first
  | assumption | exact At.raw (by assumption)
  | exact At.mk' (by walk_at "mo") (by assumption) (by assumption)
  | ((first | refine At.ext (by walk_at "xt") ?_ | refine Rp.ext (by walk_at "xt") ?_ | refine RpA.ext (by walk_at "xt") ?_ | refine Tb.ext (by walk_at "xt") ?_); walk_at "hp")
  | ((first | refine At.plus (by assumption) ?_ | refine Rp.plus (by assumption) ?_ | refine RpA.plus (by assumption) ?_ | refine Tb.plus (by assumption) ?_); walk_at "hp"))
local macro_rules | `(tactic| walk_at "at") => `(tactic| first | assumption | exact At.get (M := N0) (by walk_at "hp"))
local macro_rules | `(tactic| walk_at "sq") => `(tactic| first | exact SqL.of (by walk_at "at") | exact SqT.of (by walk_at "at"))
local macro_rules | `(tactic| walk_at "st") => `(tactic| with_reducible first
  | refine i_seq ?_ | refine i_asg ?_ | refine i_ret ?_ | refine i_retN ?_ | refine i_drop ?_ | refine i_ifS ?_ | refine i_next ?_ | refine i_brk ?_
  | refine i_gname ?_ | refine i_gsub ?_ | refine i_c ?_ | refine i_op ?_ | refine i_un ?_ | refine i_I0 ?_ | refine i_U ?_ | refine i_isN ?_ | refine i_notN ?_
  | refine i_test ?_ | refine i_tB ?_ | refine i_bl ?_ | refine i_and ?_ | refine i_or ?_ | refine i_not ?_ | refine i_andV ?_ | refine i_orV ?_ | refine i_notV ?_ | refine i_ifE ?_
  | refine i_nil ?_ | refine i_cons ?_ | refine i_for ?_ | refine i_iL ?_ | refine i_iT ?_ | refine i_iR ?_ | refine i_lc ?_ | refine i_prp ?_ | refine i_mk ?_ | refine i_sS ?_ | refine i_sN ?_ | refine i_nsS ?_ | refine i_nsN ?_ | refine i_fld ?_ | refine i_sf ?_ | refine i_inO ?_ | refine i_lsO ?_ | refine i_tpO ?_ | refine i_lnO ?_ | refine i_cb ?_ | refine i_call ?_ | refine i_tup ?_ | refine i_lst ?_ | refine i_dnew ?_ | refine i_inI ?_ | refine i_inB ?_ | refine i_rgX ?_ | refine i_lrO ?_ | refine i_rg1 ?_ | refine i_nF ?_ | refine i_nT ?_ | refine i_tt ?_ | refine i_ff ?_ | refine i_ifT ?_ | refine i_ifF ?_
  | refine i_eqI ?_ | refine i_eqS ?_ | refine i_eqB ?_ | refine i_neI ?_ | refine i_neS ?_ | refine i_dR ?_ | refine i_dI ?_ | refine i_dT ?_ | refine i_dS ?_ | refine i_dN ?_ | refine i_nR ?_ | refine i_nI ?_ | refine i_nN ?_
  | (refine i_var (by with_unfolding_all rfl) ?_) | refine i_eq rfl ?_ | refine i_ne rfl ?_)
local macro_rules | `(tactic| walk_at "sc") => `(tactic| first | exact (Rp.int (M := N0) _) | exact (Rp.str (M := N0) _) | exact (Rp.bl (M := N0) _) | exact (Rp.non (M := N0)) | assumption | exact Rp.tab (by assumption) | exact Tb.rp (by assumption))
local macro_rules | `(tactic| walk_at "sd") => `(tactic| simp only [d_Bool_non, d_Bool_bl, d_Bool_int, d_Bool_str, d_Bool_lst, d_Bool_tup, d_Bool_tab, d_Bool_dic, d_Int_non, d_Int_bl, d_Int_int, d_Int_str, d_Int_lst, d_Int_tup, d_Int_tab, d_Int_dic, d_Str_non, d_Str_bl, d_Str_int, d_Str_str, d_Str_lst, d_Str_tup, d_Str_tab, d_Str_dic, d_List_non, d_List_bl, d_List_int, d_List_str, d_List_lst, d_List_tup, d_List_tab, d_List_dic, d_Tup_non, d_Tup_bl, d_Tup_int, d_Tup_str, d_Tup_lst, d_Tup_tup, d_Tup_tab, d_Tup_dic, d_Tab_non, d_Tab_bl, d_Tab_int, d_Tab_str, d_Tab_lst, d_Tab_tup, d_Tab_tab, d_Tab_dic, Bool.not_true, Bool.not_false, Bool.true_or, Bool.false_or, Bool.or_true, Bool.or_false, Bool.and_true, Bool.true_and, Bool.and_false, Bool.false_and, if_true, if_false, Bool.false_eq_true])
local macro_rules | `(tactic| walk_at "isi") => `(tactic| ((first | with_reducible apply i_isB | with_reducible apply i_isI | with_reducible apply i_isS | with_reducible apply i_isL | with_reducible apply i_isT | with_reducible apply i_isTab); (focus assumption); (focus walk_at "sc"); try simp only [d_Bool_non, d_Bool_bl, d_Bool_int, d_Bool_str, d_Bool_lst, d_Bool_tup, d_Bool_tab, d_Bool_dic, d_Int_non, d_Int_bl, d_Int_int, d_Int_str, d_Int_lst, d_Int_tup, d_Int_tab, d_Int_dic, d_Str_non, d_Str_bl, d_Str_int, d_Str_str, d_Str_lst, d_Str_tup, d_Str_tab, d_Str_dic, d_List_non, d_List_bl, d_List_int, d_List_str, d_List_lst, d_List_tup, d_List_tab, d_List_dic, d_Tup_non, d_Tup_bl, d_Tup_int, d_Tup_str, d_Tup_lst, d_Tup_tup, d_Tup_tab, d_Tup_dic, d_Tab_non, d_Tab_bl, d_Tab_int, d_Tab_str, d_Tab_lst, d_Tab_tup, d_Tab_tab, d_Tab_dic]))
local macro_rules | `(tactic| walk_at "om") => `(tactic| first | ((with_reducible refine i_decF ?_ ?_); (focus omega)) | ((with_reducible refine i_decT ?_ ?_); (focus omega)) | ((with_reducible refine i_ndecF ?_ ?_); (focus omega)) | ((with_reducible refine i_ndecT ?_ ?_); (focus omega)))
local macro_rules | `(tactic| walk_at "go") => `(tactic| ((repeat (first | walk_at "st" | walk_at "isi" | walk_at "om")); try dsimp only [List.set]))
variable {W : Wd} {a : Ad}
/-! P4: the computed paper is right. -/
theorem strD_map (b : List Str) : (b.map Dt.str).map strD = b := by
  rw [List.map_map]
  have : strD ∘ Dt.str = id := by funext s; rfl
  rw [this, List.map_id]
theorem isOrd_all {b : List Str} (h : ∀ o ∈ b, o ∈ orders) : (b.map Dt.str).all isOrd = true := by
  rw [List.all_eq_true]
  intro d hd
  obtain ⟨o, ho, rfl⟩ := List.mem_map.mp hd
  exact decide_eq_true (h o ho)
theorem ringW_some {n : Nat} {b1 b2 b3 : List Int} (h1 : TabOk n b1) (h2 : TabOk n b2) (h3 : TabOk n b3) {x y z : Nat} (e : ringW n b1 b2 b3 = some (x, y, z)) : x < 2 ^ n ∧ y < 2 ^ n ∧ z < 2 ^ n ∧ Arw.Nae n x y z ∧ bF b1 x = bF b2 y ∧ bF b1 x = bF b3 z := by
  obtain ⟨w, hw, f1⟩ := List.exists_of_findSome?_eq_some e
  obtain ⟨u, hu, f2⟩ := List.exists_of_findSome?_eq_some f1
  obtain ⟨v, hv, f3⟩ := List.exists_of_findSome?_eq_some f2
  obtain ⟨t, ht, f4⟩ := List.exists_of_findSome?_eq_some f3
  obtain ⟨c, rfl⟩ : ∃ c, w = bZ c := by
    simp only [List.mem_cons, List.not_mem_nil, or_false] at hw
    exact hw.elim (fun z => ⟨false, z⟩) fun z => ⟨true, z⟩
  obtain ⟨a1, a2⟩ := (ww_mem h1).mp hu
  obtain ⟨a3, a4⟩ := (ww_mem h2).mp hv
  obtain ⟨a5, a6⟩ := (ww_mem h3).mp ht
  unfold fZ at f4
  split at f4
  · rename_i hc
    cases f4
    exact ⟨a1, a3, a5, (fz_iff a1 a3 a5).mp hc, a2.trans a4.symm, a2.trans a6.symm⟩
  · cases f4
theorem paper_right {n : Nat} {b1 b2 b3 : List Int} (h1 : TabOk n b1) (h2 : TabOk n b2) (h3 : TabOk n b3) : isRing n b1 b2 b3 (paperD n b1 b2 b3) = true := by
  cases hp : plain n b1 b2 b3 with
  | none =>
    obtain ⟨x, y, z, e, _⟩ := ringW_of h1 h2 h3 (plain_ring h1 h2 h3 hp)
    obtain ⟨hx, hy, hz, na, e1, e2⟩ := ringW_some h1 h2 h3 e
    obtain ⟨l, ho, w0, w1, w2⟩ := bw_back hx hy hz na
    have : paperD n b1 b2 b3 = .tup [.str "ring", .lst ((bwF n x y z).map Dt.str)] := by simp only [paperD, hp, e]
    rw [this]
    have o : outc b1 b2 b3 (bwF n x y z) = "ring" := (outc_iff h1 h2 h3 l).mpr (by rw [w0, w1, w2]; exact ⟨e1, e2⟩)
    show (decide (("ring" : Str) = "ring") && (decide (((bwF n x y z).map Dt.str).length = n) && (((bwF n x y z).map Dt.str).all isOrd && decide (outc b1 b2 b3 (((bwF n x y z).map Dt.str).map strD) = "ring")))) = true
    rw [strD_map, o, isOrd_all ho, List.length_map, l]
    simp
  | some d =>
    have : paperD n b1 b2 b3 = d := by simp only [paperD, hp]
    rw [this]
    cases hu : unlIx n b1 b2 b3 with
    | some p =>
      rw [plain, hu] at hp
      cases hp
      have g := List.find?_some hu
      have m := List.mem_of_find?_eq_some hu
      simp only [uprs, List.mem_cons, List.not_mem_nil, or_false] at m
      rcases m with rfl | rfl | rfl
      · show isR3 n b1 b2 b3 (.str "unlike") (.int 0) (.int 1) = true
        rw [isR3, if_pos rfl]
        show (inPr 0 1 && unl (con n b1) (con n b2)) = true
        rw [show unl (con n b1) (con n b2) = true from g]; rfl
      · show isR3 n b1 b2 b3 (.str "unlike") (.int 0) (.int 2) = true
        rw [isR3, if_pos rfl]
        show (inPr 0 2 && unl (con n b1) (con n b3)) = true
        rw [show unl (con n b1) (con n b3) = true from g]; rfl
      · show isR3 n b1 b2 b3 (.str "unlike") (.int 1) (.int 2) = true
        rw [isR3, if_pos rfl]
        show (inPr 1 2 && unl (con n b2) (con n b3)) = true
        rw [show unl (con n b2) (con n b3) = true from g]; rfl
    | none =>
      by_cases e : b1 = b2 ∧ b1 = b3
      · obtain ⟨rfl, rfl⟩ := e
        rw [plain_eq hu] at hp
        cases hix : ownIx n b1 with
        | none => rw [hix] at hp; cases hp
        | some c =>
          rw [hix] at hp
          cases hp
          have own : ownEq (some c) ((c / 2 : Nat) : Int) ((c % 2 : Nat) : Int) = true := decide_eq_true ⟨rfl, rfl⟩
          show isR3 n b1 b1 b1 (.str "own") (.int ((c / 2 : Nat) : Int)) (.int ((c % 2 : Nat) : Int)) = true
          rw [isR3, if_neg (by decide), ownAll, hix, own]; rfl
      · rw [plain_ne hu e] at hp; cases hp
end Bs
set_option Elab.async false
set_option linter.all false
set_option maxRecDepth 100000
set_option maxHeartbeats 400000
namespace Bs
open PySem PySem.Spec PyProof.Rows L2 SX
open C8 (pe_gc pss_cut)
local macro_rules | `(tactic| walk_at "xt") => `(tactic| first | assumption | exact Ext.weak (by assumption) | exact Ext.is (by assumption) (by assumption) | exact Ext.plus (by assumption) | exact Ext.plus (Ext.weak (by assumption)) | exact Ext.plus (Ext.is (by assumption) (by assumption)) | exact Ext.set plus_self)
local macro_rules | `(tactic| walk_at "gr") => `(tactic| first | assumption | exact Ext.grow (by assumption) | exact Grow.upd)
local macro_rules | `(tactic| walk_at "mo") => `(tactic| first | assumption | exact MOk.zero | ((first | refine MOk.grow ?_ (by walk_at "gr") | exact MOk.upd (by walk_at "mo")); walk_at "mo") | exact MOk.plus (by walk_at "mo") (by assumption))
local macro_rules | `(tactic| walk_at "hp") => `(tactic| first
  | assumption | exact At.raw (by assumption)
  | exact At.mk' (by walk_at "mo") (by assumption) (by assumption)
  | ((first | refine At.ext (by walk_at "xt") ?_ | refine Rp.ext (by walk_at "xt") ?_ | refine RpA.ext (by walk_at "xt") ?_ | refine Tb.ext (by walk_at "xt") ?_); walk_at "hp")
  | ((first | refine At.plus (by assumption) ?_ | refine Rp.plus (by assumption) ?_ | refine RpA.plus (by assumption) ?_ | refine Tb.plus (by assumption) ?_); walk_at "hp"))
local macro_rules | `(tactic| walk_at "at") => `(tactic| first | assumption | exact At.get (M := N0) (by walk_at "hp"))
local macro_rules | `(tactic| walk_at "sq") => `(tactic| first | exact SqL.of (by walk_at "at") | exact SqT.of (by walk_at "at"))
local macro_rules | `(tactic| walk_at "st") => `(tactic| with_reducible first
  | refine i_seq ?_ | refine i_asg ?_ | refine i_ret ?_ | refine i_retN ?_ | refine i_drop ?_ | refine i_ifS ?_ | refine i_next ?_ | refine i_brk ?_
  | refine i_gname ?_ | refine i_gsub ?_ | refine i_c ?_ | refine i_op ?_ | refine i_un ?_ | refine i_I0 ?_ | refine i_U ?_ | refine i_isN ?_ | refine i_notN ?_
  | refine i_test ?_ | refine i_tB ?_ | refine i_bl ?_ | refine i_and ?_ | refine i_or ?_ | refine i_not ?_ | refine i_andV ?_ | refine i_orV ?_ | refine i_notV ?_ | refine i_ifE ?_
  | refine i_nil ?_ | refine i_cons ?_ | refine i_for ?_ | refine i_iL ?_ | refine i_iT ?_ | refine i_iR ?_ | refine i_lc ?_ | refine i_prp ?_ | refine i_mk ?_ | refine i_sS ?_ | refine i_sN ?_ | refine i_nsS ?_ | refine i_nsN ?_ | refine i_fld ?_ | refine i_sf ?_ | refine i_inO ?_ | refine i_lsO ?_ | refine i_tpO ?_ | refine i_lnO ?_ | refine i_cb ?_ | refine i_call ?_ | refine i_tup ?_ | refine i_lst ?_ | refine i_dnew ?_ | refine i_inI ?_ | refine i_inB ?_ | refine i_rgX ?_ | refine i_lrO ?_ | refine i_rg1 ?_ | refine i_nF ?_ | refine i_nT ?_ | refine i_tt ?_ | refine i_ff ?_ | refine i_ifT ?_ | refine i_ifF ?_
  | refine i_eqI ?_ | refine i_eqS ?_ | refine i_eqB ?_ | refine i_neI ?_ | refine i_neS ?_ | refine i_dR ?_ | refine i_dI ?_ | refine i_dT ?_ | refine i_dS ?_ | refine i_dN ?_ | refine i_nR ?_ | refine i_nI ?_ | refine i_nN ?_
  | (refine i_var (by with_unfolding_all rfl) ?_) | refine i_eq rfl ?_ | refine i_ne rfl ?_)
local macro_rules | `(tactic| walk_at "sc") => `(tactic| first | exact (Rp.int (M := N0) _) | exact (Rp.str (M := N0) _) | exact (Rp.bl (M := N0) _) | exact (Rp.non (M := N0)) | assumption | exact Rp.tab (by assumption) | exact Tb.rp (by assumption))
local macro_rules | `(tactic| walk_at "sd") => `(tactic| simp only [d_Bool_non, d_Bool_bl, d_Bool_int, d_Bool_str, d_Bool_lst, d_Bool_tup, d_Bool_tab, d_Bool_dic, d_Int_non, d_Int_bl, d_Int_int, d_Int_str, d_Int_lst, d_Int_tup, d_Int_tab, d_Int_dic, d_Str_non, d_Str_bl, d_Str_int, d_Str_str, d_Str_lst, d_Str_tup, d_Str_tab, d_Str_dic, d_List_non, d_List_bl, d_List_int, d_List_str, d_List_lst, d_List_tup, d_List_tab, d_List_dic, d_Tup_non, d_Tup_bl, d_Tup_int, d_Tup_str, d_Tup_lst, d_Tup_tup, d_Tup_tab, d_Tup_dic, d_Tab_non, d_Tab_bl, d_Tab_int, d_Tab_str, d_Tab_lst, d_Tab_tup, d_Tab_tab, d_Tab_dic, Bool.not_true, Bool.not_false, Bool.true_or, Bool.false_or, Bool.or_true, Bool.or_false, Bool.and_true, Bool.true_and, Bool.and_false, Bool.false_and, if_true, if_false, Bool.false_eq_true])
local macro_rules | `(tactic| walk_at "isi") => `(tactic| ((first | with_reducible apply i_isB | with_reducible apply i_isI | with_reducible apply i_isS | with_reducible apply i_isL | with_reducible apply i_isT | with_reducible apply i_isTab); (focus assumption); (focus walk_at "sc"); try simp only [d_Bool_non, d_Bool_bl, d_Bool_int, d_Bool_str, d_Bool_lst, d_Bool_tup, d_Bool_tab, d_Bool_dic, d_Int_non, d_Int_bl, d_Int_int, d_Int_str, d_Int_lst, d_Int_tup, d_Int_tab, d_Int_dic, d_Str_non, d_Str_bl, d_Str_int, d_Str_str, d_Str_lst, d_Str_tup, d_Str_tab, d_Str_dic, d_List_non, d_List_bl, d_List_int, d_List_str, d_List_lst, d_List_tup, d_List_tab, d_List_dic, d_Tup_non, d_Tup_bl, d_Tup_int, d_Tup_str, d_Tup_lst, d_Tup_tup, d_Tup_tab, d_Tup_dic, d_Tab_non, d_Tab_bl, d_Tab_int, d_Tab_str, d_Tab_lst, d_Tab_tup, d_Tab_tab, d_Tab_dic]))
local macro_rules | `(tactic| walk_at "om") => `(tactic| first | ((with_reducible refine i_decF ?_ ?_); (focus omega)) | ((with_reducible refine i_decT ?_ ?_); (focus omega)) | ((with_reducible refine i_ndecF ?_ ?_); (focus omega)) | ((with_reducible refine i_ndecT ?_ ?_); (focus omega)))
local macro_rules | `(tactic| walk_at "go") => `(tactic| ((repeat (first | walk_at "st" | walk_at "isi" | walk_at "om")); try dsimp only [List.set]))
variable {W : Wd} {a : Ad}
local macro_rules | `(tactic| walk_at "st") => `(tactic| with_reducible first | refine i_sl ?_ | refine i_nopart ?_ | refine i_part ?_ | refine i_partI ?_ | refine i_bm ?_ | refine i_bm0 ?_ | refine i_m1 ?_ | refine i_m1S ?_)
/-! L17: what is asked; calls. -/
theorem i_calK {sp : Sp} {n : Nat} {g : List V → List V} {E : XK} {tk : TA} {σ : L2.St} {H : Hp} {Q : VK} (h : tk σ H fun zs H2 => zs.length = n ∧ sp (g zs) H2 Q E) : tCalK0 sp n g E tk σ H Q := h
theorem i_callS {sp : Sp} {E : L2.St → XK} {tl : TA} {σ : L2.St} {H : Hp} {Q : VK} (h : tl σ H fun vs H1 => sp vs H1 Q (E σ)) : tCallS sp E tl σ H Q := h
def flJ : Option (Nat × List Int) → Option (Nat × List Int) → Option (Nat × List Int) → Option (Nat × Str)
  | none, _, _ => some (0, "first")
  | some _, none, _ => some (0, "second")
  | some (n, _), some (n2, _), o => if n2 ≠ n then some (1, "second") else match o with
    | none => some (0, "third")
    | some (n3, _) => if n3 ≠ n then some (1, "third") else none
theorem flt3_J (a : Ad) (o1 o2 o3 : Option (Nat × List Int)) : flt3 a o1 o2 o3 = (flJ o1 o2 o3).map fun p => (a.er p.1, p.2) := by
  match o1, o2, o3 with
  | none, _, _ => rfl
  | some _, none, _ => rfl
  | some (n, _), some (n2, _), none =>
    simp only [flt3, flJ]
    split <;> rfl
  | some (n, _), some (n2, _), some (n3, _) =>
    simp only [flt3, flJ]
    split
    · rfl
    · split <;> rfl
theorem flJ_lt {o1 o2 o3 : Option (Nat × List Int)} {j : Nat} {s : Str} (h : flJ o1 o2 o3 = some (j, s)) : j < 2 := by
  match o1, o2, o3 with
  | none, _, _ => cases h; decide
  | some _, none, _ => cases h; decide
  | some (n, _), some (n2, _), none =>
    simp only [flJ] at h
    split at h <;> cases h <;> decide
  | some (n, _), some (n2, _), some (n3, _) =>
    simp only [flJ] at h
    split at h
    · cases h; decide
    · split at h <;> cases h
      decide
theorem flt3_of {a : Ad} {o1 o2 o3 : Option (Nat × List Int)} {C : Addr} {s : Str} (h : flt3 a o1 o2 o3 = some (C, s)) : ∃ j, j < 2 ∧ C = a.er j ∧ flJ o1 o2 o3 = some (j, s) := by
  rw [flt3_J] at h
  cases e : flJ o1 o2 o3 with
  | none => rw [e] at h; cases h
  | some p =>
    obtain ⟨j, s'⟩ := p
    rw [e] at h
    cases h
    exact ⟨j, flJ_lt e, rfl, rfl⟩
def sp_ask (a : Ad) : Sp := sp2 fun w g H Q E => ∃ (i : Int) (l : Addr) (v1 v2 v3 : V) (r : List V), w = .int i ∧ g = .ref l ∧ H l = some (.lst (v1 :: v2 :: v3 :: r)) ∧ ((i = 0 ∧ sp_rpaper a [v1, v2, v3] H Q E) ∨ (i ≠ 0 ∧ ∃ v4 r', r = v4 :: r' ∧ sp_isr a [v1, v2, v3, v4] H Q E))
abbrev s_law_ask : Stmt := top 96
abbrev N_law_ask : List Str := ["_law_which", "_law_given"]
abbrev P_law_ask : List Str := ["_law_which", "_law_given"]
theorem sc_law_ask : FnScope N_law_ask P_law_ask (defScope s_law_ask) := ⟨rfl, rfl, rfl, by decide +kernel, rfl, by decide +kernel, by decide +kernel⟩
theorem bi_law_ask {K : PySem.W.Frag} {f : Addr} {fd : FuncData} (F : FnF K "_law_ask" "_law_ask" s_law_ask [] f fd) : Binds K fd P_law_ask [] := FunD.bindsN F fun _ _ _ _ _ _ us hl => match us, hl with | [_, _], _ => rfl
theorem c_law_ask (T : Txt W.K W.mg a) (D : DefAt W "_law_ask" "_law_ask" "_law_ask" s_law_ask) (ck_ring_paper : CalK W (CXr W) 9 "ring_paper" P_ring_paper ["third", "second", "first"] g3 (sp_rpaper a)) (c_is_ring_paper : Cal W (CXr W) 9 "is_ring_paper" P_is_ring_paper (sp_isr a))
    (ck_is_ring_paper : CalK W (CXr W) 9 "is_ring_paper" P_is_ring_paper ["paper", "third", "second", "first"] g3 (sp_isr a)) : Cal W (CXr W) 10 "_law_ask" P_law_ask (sp_ask a) := cal_mk D sc_law_ask len2 (fun _ _ => bi_law_ask) fun f cdv A outer s H vs Q E hr h => by
  obtain ⟨_, _, rfl, i, l, v1, v2, v3, r, rfl, rfl, hl, hh⟩ := sp2_of h
  refine ⟨_, (pss_cons (ps_if (pt_cmpR op_eq (pv 0) pe_int (by rfl))
  (pss_one (ps_ret (pe_calK0 ck_ring_paper hr (by omega) (passes_call (takes_of rfl rfl rfl rfl) fun _ _ _ _ h => h) rfl (pk_cons (pe_ix ix_seq (pv 1) pe_int (fun _ _ => rfl)) (pk_cons (pe_ix ix_seq (pv 1) pe_int (fun _ _ => rfl)) (pk_cons (pe_ix ix_seq (pv 1) pe_int (fun _ _ => rfl)) pk_nil))))))
  pss_nil)
 (pss_cons (ps_if (pt_cmpR op_eq (pv 0) pe_int (by rfl))
  (pss_one (ps_ret (pe_cal c_is_ring_paper hr (by omega) (passes_call (takes_of rfl rfl rfl rfl) fun _ _ _ _ h => h) rfl (pa_cons (pe_ix ix_seq (pv 1) pe_int (fun _ _ => rfl)) (pa_cons (pe_ix ix_seq (pv 1) pe_int (fun _ _ => rfl)) (pa_cons (pe_ix ix_seq (pv 1) pe_int (fun _ _ => rfl)) (pa_cons (pe_ix ix_seq (pv 1) pe_int (fun _ _ => rfl)) pa_nil)))))))
  pss_nil)
 (pss_one (ps_ret (pe_calK0 ck_is_ring_paper hr (by omega) (passes_call (takes_of rfl rfl rfl rfl) fun _ _ _ _ h => h) rfl (pk_cons (pe_ix ix_seq (pv 1) pe_int (fun _ _ => rfl)) (pk_cons (pe_ix ix_seq (pv 1) pe_int (fun _ _ => rfl)) (pk_cons (pe_ix ix_seq (pv 1) pe_int (fun _ _ => rfl)) (pk_cons (pe_ix ix_seq (pv 1) pe_int (fun _ _ => rfl)) pk_nil))))))))), ?_⟩
  have a1 : atI (v1 :: v2 :: v3 :: r) 0 = some v1 := atI_nat (i := 0) rfl
  have a2 : atI (v1 :: v2 :: v3 :: r) 1 = some v2 := atI_nat (i := 1) rfl
  have a3 : atI (v1 :: v2 :: v3 :: r) 2 = some v3 := atI_nat (i := 2) rfl
  walk_at "go"
  rcases hh with ⟨rfl, hh⟩ | ⟨hi, v4, r', rfl, hh⟩
  · refine i_decT rfl ?_
    walk_at "go"
    refine i_calK ?_
    walk_at "go"
    refine .inl (i_ixL (At.raw hl) a3 ?_)
    walk_at "go"
    refine .inl (i_ixL (At.raw hl) a2 ?_)
    walk_at "go"
    refine .inl (i_ixL (At.raw hl) a1 ?_)
    walk_at "go"
    exact ⟨rfl, hh⟩
  · have a4 : atI (v1 :: v2 :: v3 :: v4 :: r') 3 = some v4 := atI_nat (i := 3) rfl
    refine i_decF hi ?_
    walk_at "go"
    refine i_dec (fun e => ?_) (fun e => ?_)
    · walk_at "go"
      refine .inl (i_ixL (At.raw hl) a1 ?_)
      walk_at "go"
      refine .inl (i_ixL (At.raw hl) a2 ?_)
      walk_at "go"
      refine .inl (i_ixL (At.raw hl) a3 ?_)
      walk_at "go"
      refine .inl (i_ixL (At.raw hl) a4 ?_)
      walk_at "go"
      exact hh
    · walk_at "go"
      refine i_calK ?_
      walk_at "go"
      refine .inl (i_ixL (At.raw hl) a4 ?_)
      walk_at "go"
      refine .inl (i_ixL (At.raw hl) a3 ?_)
      walk_at "go"
      refine .inl (i_ixL (At.raw hl) a2 ?_)
      walk_at "go"
      refine .inl (i_ixL (At.raw hl) a1 ?_)
      walk_at "go"
      exact ⟨rfl, hh⟩
/-! called -/
def ansD (i : Int) (n : Nat) (b1 b2 b3 : List Int) (d : Dt) : Dt := if i = 0 then paperD n b1 b2 b3 else .bl (isRing n b1 b2 b3 d)
def sp_called (a : Ad) : Sp := sp2 fun w g H Q _ => ∃ (i : Int) (l : Addr) (v1 v2 v3 : V) (r : List V) (o1 o2 o3 : Option (Nat × List Int)) (d : Dt), w = .int i ∧ g = .ref l ∧ H l = some (.lst (v1 :: v2 :: v3 :: r)) ∧ Gv a.ct N0 H v1 o1 ∧ Gv a.ct N0 H v2 o2 ∧ Gv a.ct N0 H v3 o3 ∧
  (i = 0 ∨ (i ≠ 0 ∧ ∃ v4 r', r = v4 :: r' ∧ Rp a.ct N0 H v4 d)) ∧ (∀ j s, flJ o1 o2 o3 = some (j, s) → ∀ x H', Ext N0 H H' → Rp a.ct N0 H' x (.tup [.str "refused", .tup [.str (erS j), .str s]]) → Q x H') ∧
  (∀ n b1 b2 b3, o1 = some (n, b1) → o2 = some (n, b2) → o3 = some (n, b3) → ∀ x H', Ext N0 H H' → Rp a.ct N0 H' x (.tup [.str "answer", ansD i n b1 b2 b3 d]) → Q x H')
abbrev s_law_called : Stmt := top 95
abbrev N_law_called : List Str := ["_law_which", "_law_given", "_law_caught"]
abbrev P_law_called : List Str := ["_law_which", "_law_given"]
theorem sc_law_called : FnScope N_law_called P_law_called (defScope s_law_called) := ⟨rfl, rfl, rfl, by decide +kernel, rfl, by decide +kernel, by decide +kernel⟩
theorem bi_law_called {K : PySem.W.Frag} {f : Addr} {fd : FuncData} (F : FnF K "_law_called" "_law_called" s_law_called [] f fd) : Binds K fd P_law_called [] := FunD.bindsN F fun _ _ _ _ _ _ us hl => match us, hl with | [_, _], _ => rfl
theorem c_law_called (T : Txt W.K W.mg a) (T3 : Tx3 W.K W.mg a) (D : DefAt W "_law_called" "_law_called" "_law_called" s_law_called) (c_law_ask : Cal W (CXr W) 10 "_law_ask" P_law_ask (sp_ask a)) (c_law_fault_of : CalS W CX0 1 "_law_fault_of" P_law_fault_of (sp_fault a)) :
    Cal W CX0 11 "_law_called" P_law_called (sp_called a) := cal_mk D sc_law_called len2 (fun _ _ => bi_law_called) fun f cdv A outer s H vs Q E hr h => by
  obtain ⟨_, _, rfl, i, l, v1, v2, v3, r, o1, o2, o3, d, rfl, rfl, hl, h1, h2, h3, hi, qe, q⟩ := sp2_of h
  refine ⟨_, (pss_one (ps_try_as rfl rfl sc_law_called.nd (i := 2) rfl rfl ⟨rfl, by decide, .inl T3.gShade⟩ takes0 (fun _ _ _ tk _ => (pss_one (ps_ret (pe_tup (pa_cons pe_str (pa_cons (pe_calS c_law_ask hr (by omega) tk rfl (pa_cons (pv 0) (pa_cons (pv 1) pa_nil))) pa_nil)))))) (fun _ _ _ _ _ hz hf => (pss_one (ps_ret (pe_tup (pa_cons pe_str (pa_cons (pe_calSu c_law_fault_of hr (by omega) hz hf rfl (pa_cons (pv 2) pa_nil)) pa_nil)))))))), ?_⟩
  walk_at "go"
  refine i_callS ?_
  walk_at "go"
  refine ⟨i, l, v1, v2, v3, r, rfl, rfl, hl, ?_⟩
  rcases hi with rfl | ⟨hi, v4, r', rfl, hd⟩
  · refine .inl ⟨rfl, N0, o1, o2, o3, MOk.zero, h1, h2, h3, fun C s e dd H1 n1 x1 hx => ?_, fun n b1 b2 b3 e1 e2 e3 x H1 x1 hx => ?_⟩
    · obtain ⟨j, hj, rfl, ej⟩ := flt3_of e
      refine ⟨true, T3.exm j hj, fun _ a' na => ?_, fun e => by cases e⟩
      walk_at "go"
      refine ⟨j, dd, s, rfl, hj, rfl, rfl, hx, fun t H2 x2 t2 => ?_⟩
      walk_at "go"
      refine i_nwT (by simp) fun u H3 n3 x3 u3 => ?_
      exact qe j s ej _ _ (x1.trans (x2.trans x3)) (.tup (At.raw u3) (.cons (.str _) (.cons (.tup (At.raw (x3 _ _ (fun z => z) t2)) (.cons (.str _) (.cons (.str _) .nil))) .nil)))
    · refine i_nwT (by simp) fun u H3 n3 x3 u3 => ?_
      exact q n b1 b2 b3 e1 e2 e3 _ _ (x1.trans x3) (.tup (At.raw u3) (.cons (.str _) (.cons (hx.ext x3) .nil)))
  · refine .inr ⟨hi, v4, r', rfl, N0, o1, o2, o3, d, h1, h2, h3, hd, fun C s e dd H1 n1 x1 hx => ?_, fun n b1 b2 b3 e1 e2 e3 H1 x1 => ?_⟩
    · obtain ⟨j, hj, rfl, ej⟩ := flt3_of e
      refine ⟨true, T3.exm j hj, fun _ a' na => ?_, fun e => by cases e⟩
      walk_at "go"
      refine ⟨j, dd, s, rfl, hj, rfl, rfl, hx, fun t H2 x2 t2 => ?_⟩
      walk_at "go"
      refine i_nwT (by simp) fun u H3 n3 x3 u3 => ?_
      exact qe j s ej _ _ (x1.trans (x2.trans x3)) (.tup (At.raw u3) (.cons (.str _) (.cons (.tup (At.raw (x3 _ _ (fun z => z) t2)) (.cons (.str _) (.cons (.str _) .nil))) .nil)))
    · refine i_nwT (by simp) fun u H3 n3 x3 u3 => ?_
      refine q n b1 b2 b3 e1 e2 e3 _ _ (x1.trans x3) (.tup (At.raw u3) (.cons (.str _) (.cons ?_ .nil)))
      rw [ansD, if_neg hi]
      exact .bl _
end Bs
set_option Elab.async false
set_option linter.all false
set_option maxRecDepth 100000
set_option maxHeartbeats 400000
namespace Bs
open PySem PySem.Spec PyProof.Rows L2 SX
open C8 (pe_gc pss_cut)
local macro_rules | `(tactic| walk_at "xt") => `(tactic| first | assumption | exact Ext.weak (by assumption) | exact Ext.is (by assumption) (by assumption) | exact Ext.plus (by assumption) | exact Ext.plus (Ext.weak (by assumption)) | exact Ext.plus (Ext.is (by assumption) (by assumption)) | exact Ext.set plus_self)
local macro_rules | `(tactic| walk_at "gr") => `(tactic| first | assumption | exact Ext.grow (by assumption) | exact Grow.upd)
local macro_rules | `(tactic| walk_at "mo") => `(tactic| first | assumption | exact MOk.zero | ((first | refine MOk.grow ?_ (by walk_at "gr") | exact MOk.upd (by walk_at "mo")); walk_at "mo") | exact MOk.plus (by walk_at "mo") (by assumption))
local macro_rules | `(tactic| walk_at "hp") => `(tactic| first
  | assumption | exact At.raw (by assumption)
  | exact At.mk' (by walk_at "mo") (by assumption) (by assumption)
  | ((first | refine At.ext (by walk_at "xt") ?_ | refine Rp.ext (by walk_at "xt") ?_ | refine RpA.ext (by walk_at "xt") ?_ | refine Tb.ext (by walk_at "xt") ?_); walk_at "hp")
  | ((first | refine At.plus (by assumption) ?_ | refine Rp.plus (by assumption) ?_ | refine RpA.plus (by assumption) ?_ | refine Tb.plus (by assumption) ?_); walk_at "hp"))
local macro_rules | `(tactic| walk_at "at") => `(tactic| first | assumption | exact At.get (M := N0) (by walk_at "hp"))
local macro_rules | `(tactic| walk_at "sq") => `(tactic| first | exact SqL.of (by walk_at "at") | exact SqT.of (by walk_at "at"))
local macro_rules | `(tactic| walk_at "st") => `(tactic| with_reducible first
  | refine i_seq ?_ | refine i_asg ?_ | refine i_ret ?_ | refine i_retN ?_ | refine i_drop ?_ | refine i_ifS ?_ | refine i_next ?_ | refine i_brk ?_
  | refine i_gname ?_ | refine i_gsub ?_ | refine i_c ?_ | refine i_op ?_ | refine i_un ?_ | refine i_I0 ?_ | refine i_U ?_ | refine i_isN ?_ | refine i_notN ?_
  | refine i_test ?_ | refine i_tB ?_ | refine i_bl ?_ | refine i_and ?_ | refine i_or ?_ | refine i_not ?_ | refine i_andV ?_ | refine i_orV ?_ | refine i_notV ?_ | refine i_ifE ?_
  | refine i_nil ?_ | refine i_cons ?_ | refine i_for ?_ | refine i_iL ?_ | refine i_iT ?_ | refine i_iR ?_ | refine i_lc ?_ | refine i_prp ?_ | refine i_mk ?_ | refine i_sS ?_ | refine i_sN ?_ | refine i_nsS ?_ | refine i_nsN ?_ | refine i_fld ?_ | refine i_sf ?_ | refine i_inO ?_ | refine i_lsO ?_ | refine i_tpO ?_ | refine i_lnO ?_ | refine i_cb ?_ | refine i_call ?_ | refine i_tup ?_ | refine i_lst ?_ | refine i_dnew ?_ | refine i_inI ?_ | refine i_inB ?_ | refine i_rgX ?_ | refine i_lrO ?_ | refine i_rg1 ?_ | refine i_nF ?_ | refine i_nT ?_ | refine i_tt ?_ | refine i_ff ?_ | refine i_ifT ?_ | refine i_ifF ?_
  | refine i_eqI ?_ | refine i_eqS ?_ | refine i_eqB ?_ | refine i_neI ?_ | refine i_neS ?_ | refine i_dR ?_ | refine i_dI ?_ | refine i_dT ?_ | refine i_dS ?_ | refine i_dN ?_ | refine i_nR ?_ | refine i_nI ?_ | refine i_nN ?_
  | (refine i_var (by with_unfolding_all rfl) ?_) | refine i_eq rfl ?_ | refine i_ne rfl ?_)
local macro_rules | `(tactic| walk_at "sc") => `(tactic| first | exact (Rp.int (M := N0) _) | exact (Rp.str (M := N0) _) | exact (Rp.bl (M := N0) _) | exact (Rp.non (M := N0)) | assumption | exact Rp.tab (by assumption) | exact Tb.rp (by assumption))
local macro_rules | `(tactic| walk_at "sd") => `(tactic| simp only [d_Bool_non, d_Bool_bl, d_Bool_int, d_Bool_str, d_Bool_lst, d_Bool_tup, d_Bool_tab, d_Bool_dic, d_Int_non, d_Int_bl, d_Int_int, d_Int_str, d_Int_lst, d_Int_tup, d_Int_tab, d_Int_dic, d_Str_non, d_Str_bl, d_Str_int, d_Str_str, d_Str_lst, d_Str_tup, d_Str_tab, d_Str_dic, d_List_non, d_List_bl, d_List_int, d_List_str, d_List_lst, d_List_tup, d_List_tab, d_List_dic, d_Tup_non, d_Tup_bl, d_Tup_int, d_Tup_str, d_Tup_lst, d_Tup_tup, d_Tup_tab, d_Tup_dic, d_Tab_non, d_Tab_bl, d_Tab_int, d_Tab_str, d_Tab_lst, d_Tab_tup, d_Tab_tab, d_Tab_dic, Bool.not_true, Bool.not_false, Bool.true_or, Bool.false_or, Bool.or_true, Bool.or_false, Bool.and_true, Bool.true_and, Bool.and_false, Bool.false_and, if_true, if_false, Bool.false_eq_true])
local macro_rules | `(tactic| walk_at "isi") => `(tactic| ((first | with_reducible apply i_isB | with_reducible apply i_isI | with_reducible apply i_isS | with_reducible apply i_isL | with_reducible apply i_isT | with_reducible apply i_isTab); (focus assumption); (focus walk_at "sc"); try simp only [d_Bool_non, d_Bool_bl, d_Bool_int, d_Bool_str, d_Bool_lst, d_Bool_tup, d_Bool_tab, d_Bool_dic, d_Int_non, d_Int_bl, d_Int_int, d_Int_str, d_Int_lst, d_Int_tup, d_Int_tab, d_Int_dic, d_Str_non, d_Str_bl, d_Str_int, d_Str_str, d_Str_lst, d_Str_tup, d_Str_tab, d_Str_dic, d_List_non, d_List_bl, d_List_int, d_List_str, d_List_lst, d_List_tup, d_List_tab, d_List_dic, d_Tup_non, d_Tup_bl, d_Tup_int, d_Tup_str, d_Tup_lst, d_Tup_tup, d_Tup_tab, d_Tup_dic, d_Tab_non, d_Tab_bl, d_Tab_int, d_Tab_str, d_Tab_lst, d_Tab_tup, d_Tab_tab, d_Tab_dic]))
local macro_rules | `(tactic| walk_at "om") => `(tactic| first | ((with_reducible refine i_decF ?_ ?_); (focus omega)) | ((with_reducible refine i_decT ?_ ?_); (focus omega)) | ((with_reducible refine i_ndecF ?_ ?_); (focus omega)) | ((with_reducible refine i_ndecT ?_ ?_); (focus omega)))
local macro_rules | `(tactic| walk_at "go") => `(tactic| ((repeat (first | walk_at "st" | walk_at "isi" | walk_at "om")); try dsimp only [List.set]))
variable {W : Wd} {a : Ad}
/-! L18: a paper judged; other papers. -/
/-- three tables in a list -/
structure Tl (ct : Addr) (M : Mt) (H : Hp) (p : Addr) (n : Nat) (b1 b2 b3 : List Int) : Prop where
  ex : ∃ p1 p2 p3, At M H p (.lst [.ref p1, .ref p2, .ref p3]) ∧ Tb ct M H p1 n b1 ∧ Tb ct M H p2 n b2 ∧ Tb ct M H p3 n b3
theorem Tl.ext {ct : Addr} {M : Mt} {H H' : Hp} {p : Addr} {n : Nat} {b1 b2 b3 : List Int} (x : Ext M H H') (h : Tl ct M H p n b1 b2 b3) : Tl ct M H' p n b1 b2 b3 := by
  obtain ⟨p1, p2, p3, h0, h1, h2, h3⟩ := h.ex
  exact ⟨p1, p2, p3, h0.ext x, h1.ext x, h2.ext x, h3.ext x⟩
theorem Tl.zero {ct : Addr} {M : Mt} {H : Hp} {p : Addr} {n : Nat} {b1 b2 b3 : List Int} (h : Tl ct M H p n b1 b2 b3) : Tl ct N0 H p n b1 b2 b3 := by
  obtain ⟨p1, p2, p3, h0, h1, h2, h3⟩ := h.ex
  exact ⟨p1, p2, p3, h0.zero, h1.zero, h2.zero, h3.zero⟩
theorem Tl.plus {ct : Addr} {M : Mt} {H : Hp} {p q : Addr} {n : Nat} {b1 b2 b3 : List Int} (x : H q = none) (h : Tl ct M H p n b1 b2 b3) : Tl ct (Plus M q) H p n b1 b2 b3 := by
  obtain ⟨p1, p2, p3, h0, h1, h2, h3⟩ := h.ex
  exact ⟨p1, p2, p3, h0.plus x, h1.plus x, h2.plus x, h3.plus x⟩
/-- the tables and one thing more: what is answered -/
theorem i_ans {a : Ad} {H : Hp} {Q : VK} {E : XK} {i : Int} {l p1 p2 p3 : Addr} {v : V} {n : Nat} {b1 b2 b3 : List Int} {d : Dt} (hi : i ≠ 0) (hl : H l = some (.lst [.ref p1, .ref p2, .ref p3, v])) (h1 : Tb a.ct N0 H p1 n b1) (h2 : Tb a.ct N0 H p2 n b2) (h3 : Tb a.ct N0 H p3 n b3) (hd : Rp a.ct N0 H v d)
    (q : ∀ x H', Ext N0 H H' → Rp a.ct N0 H' x (.tup [.str "answer", .bl (isRing n b1 b2 b3 d)]) → Q x H') : sp_called a [.int i, .ref l] H Q E := by
  refine ⟨i, l, _, _, _, _, some (n, b1), some (n, b2), some (n, b3), d, rfl, rfl, hl, .tab h1, .tab h2, .tab h3, .inr ⟨hi, v, [], rfl, hd⟩, fun j s e => ?_, fun n' c1 c2 c3 e1 e2 e3 x H' xx hx => ?_⟩
  · simp [flJ] at e
  · cases e1; cases e2; cases e3
    rw [ansD, if_neg hi] at hx
    exact q x H' xx hx
def sp_judged (a : Ad) : Sp := sp4 fun tabs w thr g H Q _ => ∃ n tp p b1 b2 b3 d, tabs = .ref tp ∧ w = .int (n : Nat) ∧ thr = .ref p ∧ Tl a.ct N0 H tp n b1 b2 b3 ∧ Rw N0 H p b1 b2 b3 ∧ Rp a.ct N0 H g d ∧ okD 501 30 d = true ∧ ∀ H', Ext N0 H H' → Q (.bl true) H'
abbrev s_law_judged : Stmt := top 98
abbrev N_law_judged : List Str := ["_law_tables", "_law_wide_here", "_law_three", "_law_given", "_law_kept", "_law_due", "_law_told"]
abbrev P_law_judged : List Str := ["_law_tables", "_law_wide_here", "_law_three", "_law_given"]
theorem sc_law_judged : FnScope N_law_judged P_law_judged (defScope s_law_judged) := ⟨rfl, rfl, rfl, by decide +kernel, rfl, by decide +kernel, by decide +kernel⟩
theorem bi_law_judged {K : PySem.W.Frag} {f : Addr} {fd : FuncData} (F : FnF K "_law_judged" "_law_judged" s_law_judged [] f fd) : Binds K fd P_law_judged [] := FunD.bindsN F fun _ _ _ _ _ _ us hl => match us, hl with | [_, _, _, _], _ => rfl
theorem two_ans (c : Bool) : okD 1000 30 (.lst [.tup [.str "answer", .bl c], .tup [.str "answer", .bl c]]) = true := by cases c <;> decide +kernel
theorem c_law_judged (T : Txt W.K W.mg a) (D : DefAt W "_law_judged" "_law_judged" "_law_judged" s_law_judged) (c_law_copy : Cal W CX0 31 "_law_copy" P_law_copy (sp_copy a.ct 1000 31)) (c_law_ring_right : Cal W CX0 4 "_law_ring_right" P_law_ring_right (sp_rright a.ct))
    (c_law_called : Cal W CX0 11 "_law_called" P_law_called (sp_called a)) (c_law_same : Cal W CX0 31 "_law_same" P_law_same (sp_same a.ct 1000 31)) : Cal W CX0 32 "_law_judged" P_law_judged (sp_judged a) := cal_mk D sc_law_judged len4 (fun _ _ => bi_law_judged) fun f cdv A outer s H vs Q E hr h => by
  obtain ⟨_, _, _, g, rfl, n, tp, p, b1, b2, b3, d, rfl, rfl, rfl, ht, hp, hd, ok, q⟩ := sp4_of h
  have ok1000 : okD 1000 30 d = true := ok_up (by omega) (by omega) ok
  obtain ⟨p1, p2, p3, h0, h1, h2, h3⟩ := ht.ex
  refine ⟨_, (pss_cons (ps_set (i := 4) sc_law_judged.nd rfl (by first | exact Or.inl rfl | exact Or.inr rfl) (pe_cal c_law_copy hr (by omega) pass0 rfl (pa_cons (pv 3) pa_nil)))
 (pss_cons (ps_set (i := 5) sc_law_judged.nd rfl (by first | exact Or.inl rfl | exact Or.inr rfl) (pe_tup (pa_cons pe_str (pa_cons (pe_cal c_law_ring_right hr (by omega) pass0 rfl (pa_cons (pv 1) (pa_cons (pv 2) (pa_cons (pv 4) pa_nil)))) pa_nil))))
 (pss_cons (ps_set (i := 6) sc_law_judged.nd rfl (by first | exact Or.inl rfl | exact Or.inr rfl) (pe_lst (pa_cons (pe_cal c_law_called hr (by omega) pass0 rfl (pa_cons pe_int (pa_cons (pe_op op_cat (pv 0) (pe_lst (pa_cons (pv 3) pa_nil))) pa_nil))) (pa_cons (pe_cal c_law_called hr (by omega) pass0 rfl (pa_cons pe_int (pa_cons (pe_op op_cat (pv 0) (pe_lst (pa_cons (pv 3) pa_nil))) pa_nil))) pa_nil))))
 (pss_one (ps_ret (pe_and (pe_cal c_law_same hr (by omega) pass0 rfl (pa_cons (pv 6) (pa_cons (pe_lst (pa_cons (pv 5) (pa_cons (pv 5) pa_nil))) pa_nil))) (pe_one (pe_cal c_law_same hr (by omega) pass0 rfl (pa_cons (pv 3) (pa_cons (pv 4) pa_nil)))))))))), ?_⟩
  walk_at "go"
  refine ⟨d, hd, ok1000, fun k H1 x1 hk => ?_⟩
  have hk := hk N0 MOk.zero
  walk_at "go"
  refine ⟨n, p, b1, b2, b3, d, rfl, rfl, hp.ext x1, h1.ok, h2.ok, h3.ok, hk, fun H2 x2 => ?_⟩
  walk_at "go"
  refine i_nwT (by simp) fun u H3 n3 x3 u3 => ?_
  generalize hc : isRing n b1 b2 b3 d = c at *
  have x13 := x1.trans (x2.trans x3)
  walk_at "go"
  refine i_nwL (by simp) fun l4 H4 n4 x4 l4' => ?_
  have x14 := x13.trans x4
  refine i_cat (h0.ext x14).2 l4' (by simp) fun l5 H5 n5 x5 l5' => ?_
  have x15 := x14.trans x5
  walk_at "go"
  refine i_ans (by decide) l5' (h1.ext x15) (h2.ext x15) (h3.ext x15) (hd.ext x15) fun t1 H6 x6 ht1 => ?_
  have x16 := x15.trans x6
  walk_at "go"
  refine i_nwL (by simp) fun l7 H7 n7 x7 l7' => ?_
  have x17 := x16.trans x7
  refine i_cat (h0.ext x17).2 l7' (by simp) fun l8 H8 n8 x8 l8' => ?_
  have x18 := x17.trans x8
  walk_at "go"
  refine i_ans (by decide) l8' (h1.ext x18) (h2.ext x18) (h3.ext x18) (hd.ext x18) fun t2 H9 x9 ht2 => ?_
  have x19 := x18.trans x9
  walk_at "go"
  refine i_nwL (by simp) fun l10 H10 n10 x10 h10 => ?_
  walk_at "go"
  refine i_nwL (by simp) fun l11 H11 n11 x11 h11 => ?_
  walk_at "go"
  rw [hc] at ht1 ht2
  have y4 : Ext N0 H3 H11 := x4.trans (x5.trans (x6.trans (x7.trans (x8.trans (x9.trans (x10.trans x11))))))
  have y6 : Ext N0 H6 H11 := x7.trans (x8.trans (x9.trans (x10.trans x11)))
  have y9 : Ext N0 H9 H11 := x10.trans x11
  have hu : Rp a.ct N0 H11 (.ref u) (.tup [.str "answer", .bl c]) := .tup (At.raw (y4 _ _ (fun z => z) u3)) (.cons (.str _) (.cons (.bl _) .nil))
  refine ⟨_, _, .lst (At.raw (x11 _ _ (fun z => z) h10)) (.cons (ht1.ext y6) (.cons (ht2.ext y9) .nil)), .lst (At.raw h11) (.cons hu (.cons hu .nil)), two_ans c, fun b hb => ?_⟩
  cases hb.mpr rfl
  walk_at "go"
  refine ⟨d, d, hd.ext (x19.trans y9), hk.ext (x2.trans (x3.trans y4)), ok1000, fun b hb => ?_⟩
  cases hb.mpr rfl
  exact q _ (x19.trans y9)
/-! other papers -/
def mx (n : Nat) : Nat := if n > 1 then n else 1
theorem mx_pos (n : Nat) : 0 < mx n := by unfold mx; split <;> omega
def me1 : List Dt := [.tab, .tup [.str "ring", .tab], .tup [.tab, .tab, .tab], .lst [.str "ring"], .tup [.str "unlike", .int 1, .int 0], .tup [.str "unlike", .int 0, .int 0]]
def me2 (n : Nat) : List Dt := [.tup [.str "own", .int (n : Nat), .int 0], .tup [.str "own", .int (-1), .int 0], .tup [.str "own", .int 0, .int 2], .tup [.str "ring", .str "abc"], .tup [.str "unlike", .int 0, .int 3], .tup [.str "none"]]
def me3 (n : Nat) : List Dt := [.tup [.str "ring", .lst (List.replicate (n + 1) (.str "abc"))], .tup [.str "ring", .lst (List.replicate (mx n) (.lst [.str "abc"]))]]
def me4 (n : Nat) : List Dt := [.tup [.str "ring", .lst (List.replicate (mx n) .tab)], .tup [.lst [.str "own"], .int 0, .int 0], .tup [.tab, .int 0, .int 1]]
def me5 : List Dt := [.tup [.str "own", .lst [.int 0], .int 0], .tup [.str "own", .int 0, .lst [.int 0]], .tup [.str "unlike", .lst [.int 0], .int 1], .tup [.str "unlike", .int 0, .tab]]
theorem ringB_no {n : Nat} {b1 b2 b3 : List Int} {m : Nat} {d : Dt} (h : isOrd d = false) (hm : 0 < m) : ringB n b1 b2 b3 (.lst (List.replicate m d)) = false := by
  obtain ⟨k, rfl⟩ := Nat.exists_eq_succ_of_ne_zero (Nat.pos_iff_ne_zero.mp hm)
  show (decide _ && ((List.replicate (k + 1) d).all isOrd && _)) = false
  rw [List.replicate_succ, List.all_cons, h, Bool.false_and, Bool.false_and, Bool.and_false]
theorem isR_ring {n : Nat} {b1 b2 b3 : List Int} (g : Dt) : isRing n b1 b2 b3 (.tup [.str "ring", g]) = ringB n b1 b2 b3 g := by
  show (decide (("ring" : Str) = "ring") && ringB n b1 b2 b3 g) = _
  rw [decide_eq_true rfl, Bool.true_and]
theorem isR_own {n : Nat} {b1 b2 b3 : List Int} (i j : Int) : isRing n b1 b2 b3 (.tup [.str "own", .int i, .int j]) = ownAll n b1 b2 b3 i j := by
  show isR3 n b1 b2 b3 (.str "own") (.int i) (.int j) = _
  rw [isR3, if_neg (by decide), decide_eq_true rfl, Bool.true_and]
theorem isR_unl {n : Nat} {b1 b2 b3 : List Int} (i j : Int) (h : inPr i j = false) : isRing n b1 b2 b3 (.tup [.str "unlike", .int i, .int j]) = false := by
  show isR3 n b1 b2 b3 (.str "unlike") (.int i) (.int j) = _
  rw [isR3, if_pos rfl, h, Bool.false_and]
theorem other_no {n : Nat} {b1 b2 b3 : List Int} : ∀ d ∈ me1 ++ me2 n ++ me3 n ++ me4 n ++ me5, isRing n b1 b2 b3 d = false := by
  intro d hd
  simp only [me1, me2, me3, me4, me5, List.mem_append, List.mem_cons, List.not_mem_nil, or_false] at hd
  rcases hd with (((h | h) | h) | h) | h
  · rcases h with rfl | rfl | rfl | rfl | rfl | rfl
    · rfl
    · exact isR_ring _
    · rfl
    · rfl
    · exact isR_unl _ _ (by decide)
    · exact isR_unl _ _ (by decide)
  · rcases h with rfl | rfl | rfl | rfl | rfl | rfl
    · exact (isR_own _ _).trans (ownAll_no (by omega))
    · exact (isR_own _ _).trans (ownAll_no (by omega))
    · exact (isR_own _ _).trans (ownAll_no (by omega))
    · exact isR_ring _
    · exact isR_unl _ _ (by decide)
    · rfl
  · rcases h with rfl | rfl
    · refine (isR_ring _).trans ?_
      have e : decide ((List.replicate (n + 1) (Dt.str "abc")).length = n) = false := by
        rw [List.length_replicate]
        exact decide_eq_false (by omega)
      show (decide ((List.replicate (n + 1) (Dt.str "abc")).length = n) && ((List.replicate (n + 1) (Dt.str "abc")).all isOrd && decide (outc b1 b2 b3 ((List.replicate (n + 1) (Dt.str "abc")).map strD) = "ring"))) = false
      rw [e, Bool.false_and]
    · exact (isR_ring _).trans (ringB_no rfl (mx_pos n))
  · rcases h with rfl | rfl | rfl
    · exact (isR_ring _).trans (ringB_no rfl (mx_pos n))
    · rfl
    · rfl
  · rcases h with rfl | rfl | rfl | rfl <;> rfl
end Bs
set_option Elab.async false
set_option linter.all false
set_option maxRecDepth 100000
set_option maxHeartbeats 400000
namespace Bs
open PySem PySem.Spec PyProof.Rows L2 SX
open C8 (pe_gc pss_cut)
local macro_rules | `(tactic| walk_at "xt") => `(tactic| first | assumption | exact Ext.weak (by assumption) | exact Ext.is (by assumption) (by assumption) | exact Ext.plus (by assumption) | exact Ext.plus (Ext.weak (by assumption)) | exact Ext.plus (Ext.is (by assumption) (by assumption)) | exact Ext.set plus_self)
local macro_rules | `(tactic| walk_at "gr") => `(tactic| first | assumption | exact Ext.grow (by assumption) | exact Grow.upd)
local macro_rules | `(tactic| walk_at "mo") => `(tactic| first | assumption | exact MOk.zero | ((first | refine MOk.grow ?_ (by walk_at "gr") | exact MOk.upd (by walk_at "mo")); walk_at "mo") | exact MOk.plus (by walk_at "mo") (by assumption))
local macro_rules | `(tactic| walk_at "hp") => `(tactic| first
  | assumption | exact At.raw (by assumption)
  | exact At.mk' (by walk_at "mo") (by assumption) (by assumption)
  | ((first | refine At.ext (by walk_at "xt") ?_ | refine Rp.ext (by walk_at "xt") ?_ | refine RpA.ext (by walk_at "xt") ?_ | refine Tb.ext (by walk_at "xt") ?_); walk_at "hp")
  | ((first | refine At.plus (by assumption) ?_ | refine Rp.plus (by assumption) ?_ | refine RpA.plus (by assumption) ?_ | refine Tb.plus (by assumption) ?_); walk_at "hp"))
local macro_rules | `(tactic| walk_at "at") => `(tactic| first | assumption | exact At.get (M := N0) (by walk_at "hp"))
local macro_rules | `(tactic| walk_at "sq") => `(tactic| first | exact SqL.of (by walk_at "at") | exact SqT.of (by walk_at "at"))
local macro_rules | `(tactic| walk_at "st") => `(tactic| with_reducible first
  | refine i_seq ?_ | refine i_asg ?_ | refine i_ret ?_ | refine i_retN ?_ | refine i_drop ?_ | refine i_ifS ?_ | refine i_next ?_ | refine i_brk ?_
  | refine i_gname ?_ | refine i_gsub ?_ | refine i_c ?_ | refine i_op ?_ | refine i_un ?_ | refine i_I0 ?_ | refine i_U ?_ | refine i_isN ?_ | refine i_notN ?_
  | refine i_test ?_ | refine i_tB ?_ | refine i_bl ?_ | refine i_and ?_ | refine i_or ?_ | refine i_not ?_ | refine i_andV ?_ | refine i_orV ?_ | refine i_notV ?_ | refine i_ifE ?_
  | refine i_nil ?_ | refine i_cons ?_ | refine i_for ?_ | refine i_iL ?_ | refine i_iT ?_ | refine i_iR ?_ | refine i_lc ?_ | refine i_prp ?_ | refine i_mk ?_ | refine i_sS ?_ | refine i_sN ?_ | refine i_nsS ?_ | refine i_nsN ?_ | refine i_fld ?_ | refine i_sf ?_ | refine i_inO ?_ | refine i_lsO ?_ | refine i_tpO ?_ | refine i_lnO ?_ | refine i_cb ?_ | refine i_call ?_ | refine i_tup ?_ | refine i_lst ?_ | refine i_dnew ?_ | refine i_inI ?_ | refine i_inB ?_ | refine i_rgX ?_ | refine i_lrO ?_ | refine i_rg1 ?_ | refine i_nF ?_ | refine i_nT ?_ | refine i_tt ?_ | refine i_ff ?_ | refine i_ifT ?_ | refine i_ifF ?_
  | refine i_eqI ?_ | refine i_eqS ?_ | refine i_eqB ?_ | refine i_neI ?_ | refine i_neS ?_ | refine i_dR ?_ | refine i_dI ?_ | refine i_dT ?_ | refine i_dS ?_ | refine i_dN ?_ | refine i_nR ?_ | refine i_nI ?_ | refine i_nN ?_
  | (refine i_var (by with_unfolding_all rfl) ?_) | refine i_eq rfl ?_ | refine i_ne rfl ?_)
local macro_rules | `(tactic| walk_at "sc") => `(tactic| first | exact (Rp.int (M := N0) _) | exact (Rp.str (M := N0) _) | exact (Rp.bl (M := N0) _) | exact (Rp.non (M := N0)) | assumption | exact Rp.tab (by assumption) | exact Tb.rp (by assumption))
local macro_rules | `(tactic| walk_at "sd") => `(tactic| simp only [d_Bool_non, d_Bool_bl, d_Bool_int, d_Bool_str, d_Bool_lst, d_Bool_tup, d_Bool_tab, d_Bool_dic, d_Int_non, d_Int_bl, d_Int_int, d_Int_str, d_Int_lst, d_Int_tup, d_Int_tab, d_Int_dic, d_Str_non, d_Str_bl, d_Str_int, d_Str_str, d_Str_lst, d_Str_tup, d_Str_tab, d_Str_dic, d_List_non, d_List_bl, d_List_int, d_List_str, d_List_lst, d_List_tup, d_List_tab, d_List_dic, d_Tup_non, d_Tup_bl, d_Tup_int, d_Tup_str, d_Tup_lst, d_Tup_tup, d_Tup_tab, d_Tup_dic, d_Tab_non, d_Tab_bl, d_Tab_int, d_Tab_str, d_Tab_lst, d_Tab_tup, d_Tab_tab, d_Tab_dic, Bool.not_true, Bool.not_false, Bool.true_or, Bool.false_or, Bool.or_true, Bool.or_false, Bool.and_true, Bool.true_and, Bool.and_false, Bool.false_and, if_true, if_false, Bool.false_eq_true])
local macro_rules | `(tactic| walk_at "isi") => `(tactic| ((first | with_reducible apply i_isB | with_reducible apply i_isI | with_reducible apply i_isS | with_reducible apply i_isL | with_reducible apply i_isT | with_reducible apply i_isTab); (focus assumption); (focus walk_at "sc"); try simp only [d_Bool_non, d_Bool_bl, d_Bool_int, d_Bool_str, d_Bool_lst, d_Bool_tup, d_Bool_tab, d_Bool_dic, d_Int_non, d_Int_bl, d_Int_int, d_Int_str, d_Int_lst, d_Int_tup, d_Int_tab, d_Int_dic, d_Str_non, d_Str_bl, d_Str_int, d_Str_str, d_Str_lst, d_Str_tup, d_Str_tab, d_Str_dic, d_List_non, d_List_bl, d_List_int, d_List_str, d_List_lst, d_List_tup, d_List_tab, d_List_dic, d_Tup_non, d_Tup_bl, d_Tup_int, d_Tup_str, d_Tup_lst, d_Tup_tup, d_Tup_tab, d_Tup_dic, d_Tab_non, d_Tab_bl, d_Tab_int, d_Tab_str, d_Tab_lst, d_Tab_tup, d_Tab_tab, d_Tab_dic]))
local macro_rules | `(tactic| walk_at "om") => `(tactic| first | ((with_reducible refine i_decF ?_ ?_); (focus omega)) | ((with_reducible refine i_decT ?_ ?_); (focus omega)) | ((with_reducible refine i_ndecF ?_ ?_); (focus omega)) | ((with_reducible refine i_ndecT ?_ ?_); (focus omega)))
local macro_rules | `(tactic| walk_at "go") => `(tactic| ((repeat (first | walk_at "st" | walk_at "isi" | walk_at "om")); try dsimp only [List.set]))
variable {W : Wd} {a : Ad}
/-! L19: other papers are not right. -/
theorem rpA_rep {ct : Addr} {M : Mt} {H : Hp} {d : Dt} {m : Nat} {acc : List V} (h : acc.length = m) (k : ∀ (i : Nat) y, acc[i]? = some y → Rp ct M H y d) : RpA ct M H acc (List.replicate m d) :=
  rpA_of (by simp [h]) fun i v e => ⟨d, by rw [List.getElem?_replicate, if_pos (by rw [← h]; exact (List.getElem?_eq_some_iff.mp e).1)], k i v e⟩
theorem i_eqT3 {K : PySem.W.Frag} {H : Hp} {Q : VK} {p q : Addr} (h1 : H p = some (.lst [.bl true, .bl true, .bl true])) (h2 : H q = some (.lst [.bl true, .bl true, .bl true])) (h : Q (.bl true) H) : rEqD K (.ref p) (.ref q) H Q := by
  refine ⟨.list [.bool true, .bool true, .bool true], .list [.bool true, .bool true, .bool true], .lst (SqL.of h1) (.cons (.bl _) (.cons (.bl _) (.cons (.bl _) .nil))), .lst (SqL.of h2) (.cons (.bl _) (.cons (.bl _) (.cons (.bl _) .nil))), by decide +kernel, by decide +kernel, ?_⟩
  rw [show PyData.eqv (.list [.bool true, .bool true, .bool true]) (.list [.bool true, .bool true, .bool true]) = true by decide +kernel]
  exact h
def sp_other (a : Ad) : Sp := sp3 fun tabs w thr H Q _ => ∃ n tp p b1 b2 b3, tabs = .ref tp ∧ w = .int (n : Nat) ∧ thr = .ref p ∧ Tl a.ct N0 H tp n b1 b2 b3 ∧ Rw N0 H p b1 b2 b3 ∧ ∀ H', Ext N0 H H' → Q (.bl true) H'
abbrev s_law_other_papers : Stmt := top 99
abbrev N_law_other_papers : List Str := ["_law_tables", "_law_wide_here", "_law_three", "_law_menu", "_law_item", "_law_dues", "_law_k", "_law_pair"]
abbrev P_law_other_papers : List Str := ["_law_tables", "_law_wide_here", "_law_three"]
theorem sc_law_other_papers : FnScope N_law_other_papers P_law_other_papers (defScope s_law_other_papers) := ⟨rfl, rfl, rfl, by decide +kernel, rfl, by decide +kernel, by decide +kernel⟩
theorem bi_law_other_papers {K : PySem.W.Frag} {f : Addr} {fd : FuncData} (F : FnF K "_law_other_papers" "_law_other_papers" s_law_other_papers [] f fd) : Binds K fd P_law_other_papers [] := FunD.bindsN F fun _ _ _ _ _ _ us hl => match us, hl with | [_, _, _], _ => rfl
theorem c_law_other_papers (T : Txt W.K W.mg a) (D : DefAt W "_law_other_papers" "_law_other_papers" "_law_other_papers" s_law_other_papers) (c_law_judged : Cal W CX0 32 "_law_judged" P_law_judged (sp_judged a))
    (c_law_called : Cal W CX0 11 "_law_called" P_law_called (sp_called a)) (c_law_same : Cal W CX0 31 "_law_same" P_law_same (sp_same a.ct 1000 31)) : Cal W CX0 33 "_law_other_papers" P_law_other_papers (sp_other a) := cal_mk D sc_law_other_papers len3 (fun _ _ => bi_law_other_papers) fun f cdv A outer s H vs Q E hr h => by
  obtain ⟨_, _, _, rfl, n, tp, p, b1, b2, b3, rfl, rfl, rfl, ht, hp, q⟩ := sp3_of h
  obtain ⟨p1, p2, p3, h0, g1, g2, g3⟩ := ht.ex
  have hn := g1.ok.1
  have hmx : mx n ≤ 100 := by unfold mx; split <;> omega
  refine ⟨_, (PSs.nox (pss_cut (ps_set (i := 3) sc_law_other_papers.nd rfl (by first | exact Or.inl rfl | exact Or.inr rfl) (pe_lst (pa_cons (pe_ix ix_seq (pv 0) pe_int (fun _ _ => rfl)) (pa_cons (pe_tup (pa_cons pe_str (pa_cons (pe_ix ix_seq (pv 0) pe_int (fun _ _ => rfl)) pa_nil))) (pa_cons (pe_callTy call_tuple_of rfl T.tuple (by decide +kernel) (pa_cons (pv 0) pa_nil)) (pa_cons (pe_lst (pa_cons pe_str pa_nil)) (pa_cons (pe_tup (pa_cons pe_str (pa_cons pe_int (pa_cons pe_int pa_nil)))) (pa_cons (pe_tup (pa_cons pe_str (pa_cons pe_int (pa_cons pe_int pa_nil)))) pa_nil))))))))
 (pss_cut (ps_set (i := 3) sc_law_other_papers.nd rfl (by first | exact Or.inl rfl | exact Or.inr rfl) (pe_op op_cat (pv 3) (pe_lst (pa_cons (pe_tup (pa_cons pe_str (pa_cons (pv 1) (pa_cons pe_int pa_nil)))) (pa_cons (pe_tup (pa_cons pe_str (pa_cons (pe_un un_neg pe_int) (pa_cons pe_int pa_nil)))) (pa_cons (pe_tup (pa_cons pe_str (pa_cons pe_int (pa_cons pe_int pa_nil)))) (pa_cons (pe_tup (pa_cons pe_str (pa_cons pe_str pa_nil))) (pa_cons (pe_tup (pa_cons pe_str (pa_cons pe_int (pa_cons pe_int pa_nil)))) (pa_cons (pe_tup (pa_cons pe_str pa_nil)) pa_nil)))))))))
 (pss_cut (ps_set (i := 3) sc_law_other_papers.nd rfl (by first | exact Or.inl rfl | exact Or.inr rfl) (pe_op op_cat (pv 3) (pe_lst (pa_cons (pe_tup (pa_cons pe_str (pa_cons (pe_lc (own := [("_law_k", 6)]) (g := gName 6) (tt := tYes) rfl sc_law_other_papers.nd (pi_range1 (by rfl) T.range (pa_cons (pe_op op_add (pv 1) pe_int) pa_nil)) (blkOk_by (N := N_law_other_papers) (sc := defScope s_law_other_papers) (by decide +kernel)) (fun _ _ _ _ _ => (pg_name (i := 6) sc_law_other_papers.nd rfl (by first | exact Or.inl rfl | exact Or.inr rfl))) (fun _ _ _ _ _ => pts_nil) (fun _ _ _ _ _ => pe_str)) pa_nil))) (pa_cons (pe_tup (pa_cons pe_str (pa_cons (pe_lc (own := [("_law_k", 6)]) (g := gName 6) (tt := tYes) rfl sc_law_other_papers.nd (pi_range1 (by rfl) T.range (pa_cons (pe_callB (call_max2 rfl) rfl T.max (by decide +kernel) (pa_cons pe_int (pa_cons (pv 1) pa_nil))) pa_nil)) (blkOk_by (N := N_law_other_papers) (sc := defScope s_law_other_papers) (by decide +kernel)) (fun _ _ _ _ _ => (pg_name (i := 6) sc_law_other_papers.nd rfl (by first | exact Or.inl rfl | exact Or.inr rfl))) (fun _ _ _ _ _ => pts_nil) (fun _ _ _ _ _ => (pe_lst (pa_cons pe_str pa_nil)))) pa_nil))) pa_nil)))))
 (pss_cut (ps_set (i := 3) sc_law_other_papers.nd rfl (by first | exact Or.inl rfl | exact Or.inr rfl) (pe_op op_cat (pv 3) (pe_lst (pa_cons (pe_tup (pa_cons pe_str (pa_cons (pe_lc (own := [("_law_k", 6)]) (g := gName 6) (tt := tYes) (te := tOp (rIx W.K) (tVar 0) (tC (V.int 0))) rfl sc_law_other_papers.nd (pi_range1 (by rfl) T.range (pa_cons (pe_callB (call_max2 rfl) rfl T.max (by decide +kernel) (pa_cons pe_int (pa_cons (pv 1) pa_nil))) pa_nil)) (blkOk_by (N := N_law_other_papers) (sc := defScope s_law_other_papers) (by decide +kernel)) (fun _ _ _ _ _ => (pg_name (i := 6) sc_law_other_papers.nd rfl (by first | exact Or.inl rfl | exact Or.inr rfl))) (fun _ _ _ _ _ => pts_nil) (fun _ _ _ _ _ => (pe_ix ix_seq (pv 0) pe_int (fun _ _ => rfl)))) pa_nil))) (pa_cons (pe_tup (pa_cons (pe_lst (pa_cons pe_str pa_nil)) (pa_cons pe_int (pa_cons pe_int pa_nil)))) (pa_cons (pe_tup (pa_cons (pe_ix ix_seq (pv 0) pe_int (fun _ _ => rfl)) (pa_cons pe_int (pa_cons pe_int pa_nil)))) pa_nil))))))
 (pss_cut (ps_set (i := 3) sc_law_other_papers.nd rfl (by first | exact Or.inl rfl | exact Or.inr rfl) (pe_op op_cat (pv 3) (pe_lst (pa_cons (pe_tup (pa_cons pe_str (pa_cons (pe_lst (pa_cons pe_int pa_nil)) (pa_cons pe_int pa_nil)))) (pa_cons (pe_tup (pa_cons pe_str (pa_cons pe_int (pa_cons (pe_lst (pa_cons pe_int pa_nil)) pa_nil)))) (pa_cons (pe_tup (pa_cons pe_str (pa_cons (pe_lst (pa_cons pe_int pa_nil)) (pa_cons pe_int pa_nil)))) (pa_cons (pe_tup (pa_cons pe_str (pa_cons pe_int (pa_cons (pe_ix ix_seq (pv 0) pe_int (fun _ _ => rfl)) pa_nil)))) pa_nil)))))))
 (pss_cons (ps_for PassesOwn.never rfl (pi_list (pv 3)) (pg_name (i := 4) sc_law_other_papers.nd rfl (by first | exact Or.inl rfl | exact Or.inr rfl))
  (pss_one (ps_if (pt_not (pt_val (pe_cal c_law_same hr (by omega) pass0 rfl (pa_cons (pe_cal c_law_called hr (by omega) pass0 rfl (pa_cons pe_int (pa_cons (pe_op op_cat (pv 0) (pe_lst (pa_cons (pv 4) pa_nil))) pa_nil))) (pa_cons (pe_tup (pa_cons pe_str (pa_cons pe_bl pa_nil))) pa_nil)))))
  (pss_one (ps_ret pe_bl))
  pss_nil)))
 (pss_cons (ps_setLc (i := 5) (own := [("_law_pair", 7)]) (g := gName 7) (tt := tYes) (te := tCall (sp_judged a) [] E0 (tCons (tVar 0) (tCons (tVar 1) (tCons (tVar 2) (tCons (tTup (tCons (tC (V.str "unlike")) (tCons (tOp (rIx W.K) (tVar 7) (tC (V.int 0))) (tCons (tOp (rIx W.K) (tVar 7) (tC (V.int 1))) tNil)))) tNil))))) rfl sc_law_other_papers.nd rfl rfl (sw_true rfl rfl rfl (by decide +kernel)) (pi_list (pe_lst (pa_cons (pe_tup (pa_cons pe_int (pa_cons pe_int pa_nil))) (pa_cons (pe_tup (pa_cons pe_int (pa_cons pe_int pa_nil))) (pa_cons (pe_tup (pa_cons pe_int (pa_cons pe_int pa_nil))) pa_nil))))) (blkOk_by (N := N_law_other_papers) (sc := defScope s_law_other_papers) (by decide +kernel)) (fun _ _ _ _ _ => (pg_name (i := 7) sc_law_other_papers.nd rfl (by first | exact Or.inl rfl | exact Or.inr rfl))) (fun _ _ _ _ _ => pts_nil) (fun _ _ _ _ _ => (pe_cal c_law_judged hr (by omega) pass0 rfl (pa_cons (pv 0) (pa_cons (pv 1) (pa_cons (pv 2) (pa_cons (pe_tup (pa_cons pe_str (pa_cons (pe_ix ix_seq (pv 7) pe_int (fun _ _ => rfl)) (pa_cons (pe_ix ix_seq (pv 7) pe_int (fun _ _ => rfl)) pa_nil)))) pa_nil)))))))
 (pss_one (ps_ret (pe_cmpR (op_eqD (hr.units)) (pv 5) (pe_lst (pa_cons pe_bl (pa_cons pe_bl (pa_cons pe_bl pa_nil)))) (by rfl)))))))))))), ?_⟩
  walk_at "go"
  refine i_cut (fun σ' Hx => ∃ m xs, σ' = [some (.ref tp), some (.int n), some (.ref p), some (.ref m), none, none, none, none] ∧ Hx m = some (.lst xs) ∧ RpA a.ct N0 Hx xs me1 ∧ Ext N0 H Hx) ?_ ?_
  · walk_at "go"
    refine .inl (i_ixL h0 rfl ?_)
    walk_at "go"
    refine .inl (i_ixL h0 rfl ?_)
    walk_at "go"
    refine i_nwT (by simp) fun t2 H2 n2 x2 e2 => ?_
    walk_at "go"
    refine i_tpL (SqL.of (h0.ext x2).2) fun t3 H3 n3 x3 e3 => ?_
    walk_at "go"
    refine i_nwL (by simp) fun t4 H4 n4 x4 e4 => ?_
    walk_at "go"
    refine i_nwT (by simp) fun t5 H5 n5 x5 e5 => ?_
    walk_at "go"
    refine i_nwT (by simp) fun t6 H6 n6 x6 e6 => ?_
    walk_at "go"
    refine i_nwL (by simp) fun m H7 n7 x7 e7 => ?_
    have y5 := x6.trans x7
    have y4 := x5.trans y5
    have y3 := x4.trans y4
    have y2 := x3.trans y3
    have y1 := x2.trans y2
    refine ⟨m, _, rfl, e7, .cons (g1.rp.ext y1) (.cons (.tup (At.raw (y2 _ _ (fun z => z) e2)) (.cons (.str _) (.cons (g1.rp.ext y1) .nil))) (.cons (.tup (At.raw (y3 _ _ (fun z => z) e3)) (.cons (g1.rp.ext y1) (.cons (g2.rp.ext y1) (.cons (g3.rp.ext y1) .nil)))) (.cons (.lst (At.raw (y4 _ _ (fun z => z) e4)) (.cons (.str _) .nil))
      (.cons (.tup (At.raw (y5 _ _ (fun z => z) e5)) (.cons (.str _) .i2)) (.cons (.tup (At.raw (x7 _ _ (fun z => z) e6)) (.cons (.str _) .i2)) .nil))))), y1⟩
  rintro σ' Ha ⟨m, xs, rfl, hm, hA, xa⟩
  refine i_cut (fun σ' Hx => ∃ m xs, σ' = [some (.ref tp), some (.int n), some (.ref p), some (.ref m), none, none, none, none] ∧ Hx m = some (.lst xs) ∧ RpA a.ct N0 Hx xs (me1 ++ me2 n) ∧ Ext N0 H Hx) ?_ ?_
  · have hl := hA.length
    walk_at "go"
    refine i_nwT (by simp) fun t1 H1 n1 x1 e1 => ?_
    walk_at "go"
    refine i_nwT (by simp) fun t2 H2 n2 x2 e2 => ?_
    walk_at "go"
    refine i_nwT (by simp) fun t3 H3 n3 x3 e3 => ?_
    walk_at "go"
    refine i_nwT (by simp) fun t4 H4 n4 x4 e4 => ?_
    walk_at "go"
    refine i_nwT (by simp) fun t5 H5 n5 x5 e5 => ?_
    walk_at "go"
    refine i_nwT (by simp) fun t6 H6 n6 x6 e6 => ?_
    walk_at "go"
    refine i_nwL (by simp) fun l7 H7 n7 x7 e7 => ?_
    have y7 := x1.trans (x2.trans (x3.trans (x4.trans (x5.trans (x6.trans x7)))))
    refine i_cat (y7 _ _ (fun z => z) hm) e7 (by simp only [me1, List.length_cons, List.length_nil] at hl; simp; omega) fun l8 H8 n8 x8 e8 => ?_
    have y6 := x7.trans x8
    have y5 := x6.trans y6
    have y4 := x5.trans y5
    have y3 := x4.trans y4
    have y2 := x3.trans y3
    have y1 := x2.trans y2
    refine ⟨l8, _, rfl, e8, (hA.ext (y7.trans x8)).append (.cons (.tup (At.raw (y1 _ _ (fun z => z) e1)) (.cons (.str _) .i2)) (.cons (.tup (At.raw (y2 _ _ (fun z => z) e2)) (.cons (.str _) .i2)) (.cons (.tup (At.raw (y3 _ _ (fun z => z) e3)) (.cons (.str _) .i2))
      (.cons (.tup (At.raw (y4 _ _ (fun z => z) e4)) (.cons (.str _) (.cons (.str _) .nil))) (.cons (.tup (At.raw (y5 _ _ (fun z => z) e5)) (.cons (.str _) .i2)) (.cons (.tup (At.raw (y6 _ _ (fun z => z) e6)) (.cons (.str _) .nil)) .nil)))))), xa.trans (y7.trans x8)⟩
  clear hm hA
  rintro σ' Hb ⟨m, xs, rfl, hm, hA, xb⟩
  refine i_cut (fun σ' Hx => ∃ m xs, σ' = [some (.ref tp), some (.int n), some (.ref p), some (.ref m), none, none, none, none] ∧ Hx m = some (.lst xs) ∧ RpA a.ct N0 Hx xs (me1 ++ me2 n ++ me3 n) ∧ Ext N0 H Hx) ?_ ?_
  · have hl := hA.length
    walk_at "go"
    rw [show ((n : Int) + 1) = ((n + 1 : Nat) : Int) by omega]
    refine c_rg (n := n + 1) (M := N0) MOk.zero (by omega) (fun _ _ _ => True) (fun _ _ y _ => y = .str "abc") fun D1 nD1 => ⟨fun _ _ _ _ _ e => e, fun _ _ _ _ e => e, trivial, ?_, ?_⟩
    · intro j H1 N N' hj x1 m1 _ nx
      walk_at "go"
      refine i_yes rfl ?_
      walk_at "go"
      exact nx _ _ (Ext.refl _ _) m1.less rfl trivial
    intro acc1 H1 hl1 hr1 hd1 x1 _ _
    walk_at "go"
    refine i_nwT (by simp) fun t2 H2 n2 x2 e2 => ?_
    walk_at "go"
    refine ⟨_, _, rfl, ?_⟩
    rw [show (if (n : Int) > 1 then (n : Int) else 1) = ((mx n : Nat) : Int) by unfold mx; split <;> split <;> omega]
    walk_at "go"
    refine c_rg (n := mx n) (M := N0) MOk.zero (by omega) (fun _ _ _ => True) (fun D _ y Hy => ∃ l, y = .ref l ∧ At (Plus N0 D) Hy l (.lst [.str "abc"])) fun D3 nD3 => ⟨fun _ _ _ _ x ⟨l, e1, e2⟩ => ⟨l, e1, e2.ext x⟩, fun _ _ _ _ e => e, trivial, ?_, ?_⟩
    · intro j H3 N N' hj x3 m3 _ nx
      walk_at "go"
      refine i_yes rfl ?_
      walk_at "go"
      refine i_nwL (by simp) fun l H4 n4 x4 e4 => ?_
      exact nx _ _ x4 MOk.zero ⟨l, rfl, At.mk' m3 n4 e4⟩ trivial
    intro acc3 H3 hl3 hr3 hd3 x3 _ _
    walk_at "go"
    refine i_nwT (by simp) fun t4 H4 n4 x4 e4 => ?_
    walk_at "go"
    refine i_nwL (by simp) fun l7 H7 n7 x7 e7 => ?_
    have y7 := x1.trans (x2.trans (x3.trans (x4.trans x7)))
    refine i_cat (y7 _ _ (fun z => z) hm) e7 (by simp only [me1, me2, List.length_append, List.length_cons, List.length_nil] at hl; simp; omega) fun l8 H8 n8 x8 e8 => ?_
    have y4 := x7.trans x8
    have y3 := x4.trans y4
    have y2 := x3.trans y3
    have y1 := x2.trans y2
    refine ⟨l8, _, rfl, e8, (hA.ext (y7.trans x8)).append (.cons (.tup (At.raw (y2 _ _ (fun z => z) e2)) (.cons (.str _) (.cons (.lst (At.raw (y1 _ _ (fun z => z) hd1)) (rpA_rep hl1 fun i y e => by rw [hr1 i y e]; exact .str _)) .nil)))
      (.cons (.tup (At.raw (y4 _ _ (fun z => z) e4)) (.cons (.str _) (.cons (.lst (At.raw (y3 _ _ (fun z => z) hd3)) (rpA_rep hl3 fun i y e => ?_)) .nil))) .nil)), xb.trans (y7.trans x8)⟩
    obtain ⟨l, rfl, hl⟩ := hr3 i y e
    exact .lst (At.raw (y3 _ _ (fun z => z) hl.2)) (.cons (.str _) .nil)
  clear hm hA
  rintro σ' Hc ⟨m, xs, rfl, hm, hA, xc⟩
  refine i_cut (fun σ' Hx => ∃ m xs, σ' = [some (.ref tp), some (.int n), some (.ref p), some (.ref m), none, none, none, none] ∧ Hx m = some (.lst xs) ∧ RpA a.ct N0 Hx xs (me1 ++ me2 n ++ me3 n ++ me4 n) ∧ Ext N0 H Hx) ?_ ?_
  · have hl := hA.length
    have h0 := h0.ext xc
    have g1 := g1.ext xc
    walk_at "go"
    refine ⟨_, _, rfl, ?_⟩
    rw [show (if (n : Int) > 1 then (n : Int) else 1) = ((mx n : Nat) : Int) by unfold mx; split <;> split <;> omega]
    walk_at "go"
    refine c_rg (n := mx n) (M := N0) MOk.zero (by omega) (fun _ _ _ => True) (fun _ _ y _ => y = .ref p1) fun D1 nD1 => ⟨fun _ _ _ _ _ e => e, fun _ _ _ _ e => e, trivial, ?_, ?_⟩
    · intro j H1 N N' hj x1 m1 _ nx
      have k0 := (h0.plus nD1).ext x1
      walk_at "go"
      refine i_yes rfl ?_
      walk_at "go"
      refine .inl (i_ixL k0 rfl ?_)
      exact nx _ _ (Ext.refl _ _) m1.less rfl trivial
    intro acc1 H1 hl1 hr1 hd1 x1 _ _
    walk_at "go"
    refine i_nwT (by simp) fun t2 H2 n2 x2 e2 => ?_
    walk_at "go"
    refine i_nwL (by simp) fun t3 H3 n3 x3 e3 => ?_
    walk_at "go"
    refine i_nwT (by simp) fun t4 H4 n4 x4 e4 => ?_
    walk_at "go"
    refine .inl (i_ixL (h0.ext (x1.trans (x2.trans (x3.trans x4)))) rfl ?_)
    walk_at "go"
    refine i_nwT (by simp) fun t5 H5 n5 x5 e5 => ?_
    walk_at "go"
    refine i_nwL (by simp) fun l7 H7 n7 x7 e7 => ?_
    have y7 := x1.trans (x2.trans (x3.trans (x4.trans (x5.trans x7))))
    refine i_cat (y7 _ _ (fun z => z) hm) e7 (by simp only [me1, me2, me3, List.length_append, List.length_cons, List.length_nil] at hl; simp; omega) fun l8 H8 n8 x8 e8 => ?_
    have y5 := x7.trans x8
    have y4 := x5.trans y5
    have y3 := x4.trans y4
    have y2 := x3.trans y3
    have y1 := x2.trans y2
    have t1 := g1.rp.ext (y7.trans x8)
    exact ⟨l8, _, rfl, e8, (hA.ext (y7.trans x8)).append (.cons (.tup (At.raw (y2 _ _ (fun z => z) e2)) (.cons (.str _) (.cons (.lst (At.raw (y1 _ _ (fun z => z) hd1)) (rpA_rep hl1 fun i y e => by rw [hr1 i y e]; exact t1)) .nil)))
      (.cons (.tup (At.raw (y4 _ _ (fun z => z) e4)) (.cons (.lst (At.raw (y3 _ _ (fun z => z) e3)) (.cons (.str _) .nil)) .i2)) (.cons (.tup (At.raw (y5 _ _ (fun z => z) e5)) (.cons t1 .i2)) .nil))), xc.trans (y7.trans x8)⟩
  clear hm hA
  rintro σ' Hd ⟨m, xs, rfl, hm, hA, xd⟩
  refine i_cut (fun σ' Hx => ∃ m xs, σ' = [some (.ref tp), some (.int n), some (.ref p), some (.ref m), none, none, none, none] ∧ Hx m = some (.lst xs) ∧ RpA a.ct N0 Hx xs (me1 ++ me2 n ++ me3 n ++ me4 n ++ me5) ∧ Ext N0 H Hx) ?_ ?_
  · have hl := hA.length
    have h0 := h0.ext xd
    have g2 := g2.ext xd
    walk_at "go"
    refine i_nwL (by simp) fun t1 H1 n1 x1 e1 => ?_
    walk_at "go"
    refine i_nwT (by simp) fun t2 H2 n2 x2 e2 => ?_
    walk_at "go"
    refine i_nwL (by simp) fun t3 H3 n3 x3 e3 => ?_
    walk_at "go"
    refine i_nwT (by simp) fun t4 H4 n4 x4 e4 => ?_
    walk_at "go"
    refine i_nwL (by simp) fun t5 H5 n5 x5 e5 => ?_
    walk_at "go"
    refine i_nwT (by simp) fun t6 H6 n6 x6 e6 => ?_
    have y6 := x1.trans (x2.trans (x3.trans (x4.trans (x5.trans x6))))
    walk_at "go"
    refine .inl (i_ixL (h0.ext y6) rfl ?_)
    walk_at "go"
    refine i_nwT (by simp) fun t8 H8 n8 x8 e8 => ?_
    walk_at "go"
    refine i_nwL (by simp) fun l9 H9 n9 x9 e9 => ?_
    have y7 := y6.trans (x8.trans x9)
    refine i_cat (y7 _ _ (fun z => z) hm) e9 (by simp only [me1, me2, me3, me4, List.length_append, List.length_cons, List.length_nil] at hl; simp; omega) fun l10 H10 n10 x10 e10 => ?_
    have z8 := x9.trans x10
    have z6 := x8.trans z8
    have z5 := x6.trans z6
    have z4 := x5.trans z5
    have z3 := x4.trans z4
    have z2 := x3.trans z3
    have z1 := x2.trans z2
    exact ⟨l10, _, rfl, e10, (hA.ext (y7.trans x10)).append (.cons (.tup (At.raw (z2 _ _ (fun z => z) e2)) (.cons (.str _) (.cons (.lst (At.raw (z1 _ _ (fun z => z) e1)) (.cons (.int _) .nil)) (.cons (.int _) .nil))))
      (.cons (.tup (At.raw (z4 _ _ (fun z => z) e4)) (.cons (.str _) (.cons (.int _) (.cons (.lst (At.raw (z3 _ _ (fun z => z) e3)) (.cons (.int _) .nil)) .nil)))) (.cons (.tup (At.raw (z6 _ _ (fun z => z) e6)) (.cons (.str _) (.cons (.lst (At.raw (z5 _ _ (fun z => z) e5)) (.cons (.int _) .nil)) (.cons (.int _) .nil))))
      (.cons (.tup (At.raw (z8 _ _ (fun z => z) e8)) (.cons (.str _) (.cons (.int _) (.cons (g2.rp.ext (y7.trans x10)) .nil)))) .nil)))), xd.trans (y7.trans x10)⟩
  clear hm hA
  rintro σ' He ⟨m, xs, rfl, hm, hA, xe⟩
  have hl := hA.length
  have ln : (me1 ++ me2 n ++ me3 n ++ me4 n ++ me5).length = 21 := by simp [me1, me2, me3, me4, me5]
  walk_at "go"
  refine f_list (SqL.of hm) (fun i σ Hx => (∃ v, σ = [some (.ref tp), some (.int n), some (.ref p), some (.ref m), v, none, none, none]) ∧ Ext N0 He Hx) ⟨⟨_, rfl⟩, Ext.refl _ _⟩ (fun i σ Hx _ e => SqL.of (e.2 _ _ (fun z => z) hm)) ?_ ?_
  · rintro i v σ Hx hv ⟨⟨_, rfl⟩, x1⟩
    obtain ⟨d, hd, hr1⟩ := hA.getV hv
    have no := other_no (b1 := b1) (b2 := b2) (b3 := b3) d (List.mem_of_getElem? hd)
    have xx := xe.trans x1
    walk_at "go"
    refine i_nwL (by simp) fun l4 H4 n4 x4 l4' => ?_
    refine i_cat (h0.ext (xx.trans x4)).2 l4' (by simp) fun l5 H5 n5 x5 l5' => ?_
    have x15 := xx.trans (x4.trans x5)
    walk_at "go"
    refine i_ans (by decide) l5' (g1.ext x15) (g2.ext x15) (g3.ext x15) (hr1.ext (x1.trans (x4.trans x5))) fun t1 H6 x6 ht1 => ?_
    rw [no] at ht1
    walk_at "go"
    refine i_nwT (by simp) fun u H7 n7 x7 u7 => ?_
    walk_at "go"
    refine ⟨_, _, ht1.ext x7, .tup (At.raw u7) (.cons (.str _) (.cons (.bl _) .nil)), (by decide +kernel : okD 1000 30 (.tup [.str "answer", .bl false]) = true), fun b hb => ?_⟩
    cases hb.mpr rfl
    walk_at "go"
    exact ⟨⟨_, rfl⟩, x1.trans (x4.trans (x5.trans (x6.trans x7)))⟩
  · rintro σ Hx ⟨⟨v, rfl⟩, x1⟩
    have xx := xe.trans x1
    walk_at "go"
    refine i_nwT (by simp) fun t1 H1 n1 y1 e1 => ?_
    walk_at "go"
    refine i_nwT (by simp) fun t2 H2 n2 y2 e2 => ?_
    walk_at "go"
    refine i_nwT (by simp) fun t3 H3 n3 y3 e3 => ?_
    walk_at "go"
    refine i_nwL (by simp) fun t4 H4 n4 y4 e4 => ?_
    have z3 := y4
    have z2 := y3.trans z3
    have z1 := y2.trans z2
    have xy := xx.trans (y1.trans z1)
    have e1 := z1 _ _ (fun z => z) e1
    have e2 := z2 _ _ (fun z => z) e2
    have e3 := z3 _ _ (fun z => z) e3
    refine c_list (M := N0) (SqL.of e4) MOk.zero (by simp) (fun _ _ _ => True) (fun _ _ y _ => y = .bl true) fun D nD => ⟨fun _ _ _ _ _ e => e, fun _ _ _ _ e => e, trivial, fun _ H1 x _ => SqL.of (((At.raw e4).plus nD).ext x).2, ?_, ?_⟩
    · intro j w H5 N N' hw x5 m5 _ nx
      obtain ⟨i, k, tt, rfl, htt⟩ : ∃ (i k : Int) (tt : Addr), w = .ref tt ∧ At N0 H4 tt (.tup [.int i, .int k]) := by
        match j, hw with
        | 0, hw => cases hw; exact ⟨0, 1, t1, rfl, At.raw e1⟩
        | 1, hw => cases hw; exact ⟨0, 2, t2, rfl, At.raw e2⟩
        | 2, hw => cases hw; exact ⟨1, 2, t3, rfl, At.raw e3⟩
      have htt := (htt.plus nD).ext x5
      have ht5 := ((ht.ext xy).plus nD).ext x5
      have hp5 := ((hp.ext xy).plus nD).ext x5
      walk_at "go"
      refine i_yes rfl ?_
      walk_at "go"
      refine .inr (.inl (i_ixT htt rfl ?_))
      walk_at "go"
      refine .inr (.inl (i_ixT htt rfl ?_))
      walk_at "go"
      refine i_nwT (by simp) fun u H6 n6 x6 u6 => ?_
      walk_at "go"
      refine ⟨n, tp, p, b1, b2, b3, .tup [.str "unlike", .int i, .int k], rfl, rfl, rfl, (ht5.ext x6.weak).zero, (hp5.ext x6.weak).zero, .tup (At.raw u6) (.cons (.str _) .i2), ok_up (by omega) (by omega) (two_ok "unlike" (by decide +kernel) i k), fun H7 x7 => ?_⟩
      exact nx _ _ (x6.trans x7) MOk.zero rfl trivial
    · intro acc H5 hl5 hr5 hd5 x5 _ _
      walk_at "go"
      refine i_nwL (by simp) fun t6 H6 n6 x6 e6 => ?_
      have : acc = [.bl true, .bl true, .bl true] := by
        match acc, hl5, hr5 with
        | [a0, a1, a2], _, hr5 => rw [hr5 0 a0 rfl, hr5 1 a1 rfl, hr5 2 a2 rfl]
      subst this
      refine i_eqT3 (x6 _ _ (fun z => z) hd5) e6 ?_
      exact q _ (xy.trans (x5.trans x6))
end Bs
set_option Elab.async false
set_option linter.all false
set_option maxRecDepth 100000
set_option maxHeartbeats 400000
namespace Bs
open PySem PySem.Spec PyProof.Rows L2 SX
open C8 (pe_gc pss_cut)
local macro_rules | `(tactic| walk_at "xt") => `(tactic| first | assumption | exact Ext.weak (by assumption) | exact Ext.is (by assumption) (by assumption) | exact Ext.plus (by assumption) | exact Ext.plus (Ext.weak (by assumption)) | exact Ext.plus (Ext.is (by assumption) (by assumption)) | exact Ext.set plus_self)
local macro_rules | `(tactic| walk_at "gr") => `(tactic| first | assumption | exact Ext.grow (by assumption) | exact Grow.upd)
local macro_rules | `(tactic| walk_at "mo") => `(tactic| first | assumption | exact MOk.zero | ((first | refine MOk.grow ?_ (by walk_at "gr") | exact MOk.upd (by walk_at "mo")); walk_at "mo") | exact MOk.plus (by walk_at "mo") (by assumption))
local macro_rules | `(tactic| walk_at "hp") => `(tactic| first
  | assumption | exact At.raw (by assumption)
  | exact At.mk' (by walk_at "mo") (by assumption) (by assumption)
  | ((first | refine At.ext (by walk_at "xt") ?_ | refine Rp.ext (by walk_at "xt") ?_ | refine RpA.ext (by walk_at "xt") ?_ | refine Tb.ext (by walk_at "xt") ?_); walk_at "hp")
  | ((first | refine At.plus (by assumption) ?_ | refine Rp.plus (by assumption) ?_ | refine RpA.plus (by assumption) ?_ | refine Tb.plus (by assumption) ?_); walk_at "hp"))
local macro_rules | `(tactic| walk_at "at") => `(tactic| first | assumption | exact At.get (M := N0) (by walk_at "hp"))
local macro_rules | `(tactic| walk_at "sq") => `(tactic| first | exact SqL.of (by walk_at "at") | exact SqT.of (by walk_at "at"))
local macro_rules | `(tactic| walk_at "st") => `(tactic| with_reducible first
  | refine i_seq ?_ | refine i_asg ?_ | refine i_ret ?_ | refine i_retN ?_ | refine i_drop ?_ | refine i_ifS ?_ | refine i_next ?_ | refine i_brk ?_
  | refine i_gname ?_ | refine i_gsub ?_ | refine i_c ?_ | refine i_op ?_ | refine i_un ?_ | refine i_I0 ?_ | refine i_U ?_ | refine i_isN ?_ | refine i_notN ?_
  | refine i_test ?_ | refine i_tB ?_ | refine i_bl ?_ | refine i_and ?_ | refine i_or ?_ | refine i_not ?_ | refine i_andV ?_ | refine i_orV ?_ | refine i_notV ?_ | refine i_ifE ?_
  | refine i_nil ?_ | refine i_cons ?_ | refine i_for ?_ | refine i_iL ?_ | refine i_iT ?_ | refine i_iR ?_ | refine i_lc ?_ | refine i_prp ?_ | refine i_mk ?_ | refine i_sS ?_ | refine i_sN ?_ | refine i_nsS ?_ | refine i_nsN ?_ | refine i_fld ?_ | refine i_sf ?_ | refine i_inO ?_ | refine i_lsO ?_ | refine i_tpO ?_ | refine i_lnO ?_ | refine i_cb ?_ | refine i_call ?_ | refine i_tup ?_ | refine i_lst ?_ | refine i_dnew ?_ | refine i_inI ?_ | refine i_inB ?_ | refine i_rgX ?_ | refine i_lrO ?_ | refine i_rg1 ?_ | refine i_nF ?_ | refine i_nT ?_ | refine i_tt ?_ | refine i_ff ?_ | refine i_ifT ?_ | refine i_ifF ?_
  | refine i_eqI ?_ | refine i_eqS ?_ | refine i_eqB ?_ | refine i_neI ?_ | refine i_neS ?_ | refine i_dR ?_ | refine i_dI ?_ | refine i_dT ?_ | refine i_dS ?_ | refine i_dN ?_ | refine i_nR ?_ | refine i_nI ?_ | refine i_nN ?_
  | (refine i_var (by with_unfolding_all rfl) ?_) | refine i_eq rfl ?_ | refine i_ne rfl ?_)
local macro_rules | `(tactic| walk_at "sc") => `(tactic| first | exact (Rp.int (M := N0) _) | exact (Rp.str (M := N0) _) | exact (Rp.bl (M := N0) _) | exact (Rp.non (M := N0)) | assumption | exact Rp.tab (by assumption) | exact Tb.rp (by assumption))
local macro_rules | `(tactic| walk_at "sd") => `(tactic| simp only [d_Bool_non, d_Bool_bl, d_Bool_int, d_Bool_str, d_Bool_lst, d_Bool_tup, d_Bool_tab, d_Bool_dic, d_Int_non, d_Int_bl, d_Int_int, d_Int_str, d_Int_lst, d_Int_tup, d_Int_tab, d_Int_dic, d_Str_non, d_Str_bl, d_Str_int, d_Str_str, d_Str_lst, d_Str_tup, d_Str_tab, d_Str_dic, d_List_non, d_List_bl, d_List_int, d_List_str, d_List_lst, d_List_tup, d_List_tab, d_List_dic, d_Tup_non, d_Tup_bl, d_Tup_int, d_Tup_str, d_Tup_lst, d_Tup_tup, d_Tup_tab, d_Tup_dic, d_Tab_non, d_Tab_bl, d_Tab_int, d_Tab_str, d_Tab_lst, d_Tab_tup, d_Tab_tab, d_Tab_dic, Bool.not_true, Bool.not_false, Bool.true_or, Bool.false_or, Bool.or_true, Bool.or_false, Bool.and_true, Bool.true_and, Bool.and_false, Bool.false_and, if_true, if_false, Bool.false_eq_true])
local macro_rules | `(tactic| walk_at "isi") => `(tactic| ((first | with_reducible apply i_isB | with_reducible apply i_isI | with_reducible apply i_isS | with_reducible apply i_isL | with_reducible apply i_isT | with_reducible apply i_isTab); (focus assumption); (focus walk_at "sc"); try simp only [d_Bool_non, d_Bool_bl, d_Bool_int, d_Bool_str, d_Bool_lst, d_Bool_tup, d_Bool_tab, d_Bool_dic, d_Int_non, d_Int_bl, d_Int_int, d_Int_str, d_Int_lst, d_Int_tup, d_Int_tab, d_Int_dic, d_Str_non, d_Str_bl, d_Str_int, d_Str_str, d_Str_lst, d_Str_tup, d_Str_tab, d_Str_dic, d_List_non, d_List_bl, d_List_int, d_List_str, d_List_lst, d_List_tup, d_List_tab, d_List_dic, d_Tup_non, d_Tup_bl, d_Tup_int, d_Tup_str, d_Tup_lst, d_Tup_tup, d_Tup_tab, d_Tup_dic, d_Tab_non, d_Tab_bl, d_Tab_int, d_Tab_str, d_Tab_lst, d_Tab_tup, d_Tab_tab, d_Tab_dic]))
local macro_rules | `(tactic| walk_at "om") => `(tactic| first | ((with_reducible refine i_decF ?_ ?_); (focus omega)) | ((with_reducible refine i_decT ?_ ?_); (focus omega)) | ((with_reducible refine i_ndecF ?_ ?_); (focus omega)) | ((with_reducible refine i_ndecT ?_ ?_); (focus omega)))
local macro_rules | `(tactic| walk_at "go") => `(tactic| ((repeat (first | walk_at "st" | walk_at "isi" | walk_at "om")); try dsimp only [List.set]))
variable {W : Wd} {a : Ad}
/-! L20: three rows of bits. -/
def P4 (M : Mt) (p r1 r2 r3 : Addr) : Mt := fun a => M a ∨ a = p ∨ a = r1 ∨ a = r2 ∨ a = r3
theorem Sto.of {M M' : Mt} {H : Hp} {s : Addr} {k : Nat} (h : Sto M' H s k) (g : M s) (e : ∀ b, M b → M' b) : Sto M H s k := let ⟨_, c, cells, i, r, m, n, h1, h2, h3⟩ := h; ⟨g, c, cells, i, r, m, n, h1, h2.of e, h3⟩
theorem Sto.p4 {M : Mt} {H : Hp} {s p r1 r2 r3 : Addr} {k : Nat} (h : Sto M H s k) (n0 : H p = none) (n1 : H r1 = none) (n2 : H r2 = none) (n3 : H r3 = none) : Sto (P4 M p r1 r2 r3) H s k := by
  obtain ⟨g, c, cells, i, r, m, n, h1, h2, h3⟩ := h
  refine ⟨.inl g, c, cells, i, r, m, n, h1, ⟨fun z => ?_, h2.2⟩, h3⟩
  have hc := h2.2
  rcases z with z | z | z | z | z
  · exact h2.1 z
  · rw [z, n0] at hc; cases hc
  · rw [z, n1] at hc; cases hc
  · rw [z, n2] at hc; cases hc
  · rw [z, n3] at hc; cases hc
theorem Sto.setM {M : Mt} {H H' : Hp} {s r : Addr} {k : Nat} (h : Sto M H s k) (hr : M r) (e : s ≠ r) (x : Ext (Is r) H H') : Sto M H' s k := let ⟨g, c, cells, i, q, m, n, h1, h2, h3⟩ := h; ⟨g, c, cells, i, q, m, n, x _ _ e h1, h2.ext (x.is hr), h3⟩
/-- three rows at p, all made anew since H0 -/
structure R3 (M : Mt) (H0 H : Hp) (s : Addr) (k n : Nat) (p : Addr) : Prop where
  ex : ∃ r1 r2 r3 b1 b2 b3, H p = some (.lst [.ref r1, .ref r2, .ref r3]) ∧ H r1 = some (.lst (b1.map V.int)) ∧ H r2 = some (.lst (b2.map V.int)) ∧ H r3 = some (.lst (b3.map V.int)) ∧ TabOk n b1 ∧ TabOk n b2 ∧ TabOk n b3 ∧
    H0 p = none ∧ H0 r1 = none ∧ H0 r2 = none ∧ H0 r3 = none ∧ Sto (P4 M p r1 r2 r3) H s k
  x : Ext (Is s) H0 H
  g : Grow H0 H
theorem R3.rw {M : Mt} {H0 H : Hp} {s : Addr} {k n : Nat} {p : Addr} (h : R3 M H0 H s k n p) (m : MOk M H0) (g : M s) : ∃ b1 b2 b3, Rw M H p b1 b2 b3 ∧ TabOk n b1 ∧ TabOk n b2 ∧ TabOk n b3 ∧ Sto M H s k := by
  obtain ⟨r1, r2, r3, b1, b2, b3, h0, h1, h2, h3, o1, o2, o3, n0, n1, n2, n3, st⟩ := h.ex
  exact ⟨b1, b2, b3, ⟨r1, r2, r3, ⟨fun z => m _ z n0, h0⟩, ⟨fun z => m _ z n1, h1⟩, ⟨fun z => m _ z n2, h2⟩, ⟨fun z => m _ z n3, h3⟩⟩, o1, o2, o3, st.of g fun _ => .inl⟩
theorem free_of {D D2 : Addr} {H1 Hx : Hp} (x : Ext (Plus N0 D) H1 Hx) (m : MOk (Plus N0 D) Hx) (n : Hx D2 = none) : H1 D2 = none := by
  cases e : H1 D2 with
  | none => rfl
  | some o =>
    have := x D2 o (fun z => m D2 z n) e
    rw [n] at this; cases this
/-- a new row -/
def Nr (H1 : Hp) (n : Nat) (D : Addr) (y : V) (Hy : Hp) : Prop := ∃ l b, y = .ref l ∧ H1 l = none ∧ At (Plus N0 D) Hy l (.lst (b.map V.int)) ∧ TabOk n b
theorem Nr.ext {H1 H H' : Hp} {n : Nat} {D : Addr} {y : V} (x : Ext (Plus N0 D) H H') (h : Nr H1 n D y H) : Nr H1 n D y H' := let ⟨l, b, e, n1, h1, h2⟩ := h; ⟨l, b, e, n1, h1.ext x, h2⟩
theorem bits_of {n : Nat} (hn : n ≤ 6) {acc : List V} (h : acc.length = 2 ^ n) (k : ∀ (i : Nat) y, acc[i]? = some y → ∃ v : Int, y = .int v ∧ (v = 0 ∨ v = 1)) : ∃ b, acc = b.map V.int ∧ TabOk n b := by
  have : ∀ {acc : List V}, (∀ (i : Nat) y, acc[i]? = some y → ∃ v : Int, y = .int v ∧ (v = 0 ∨ v = 1)) → ∃ b : List Int, acc = b.map V.int ∧ ∀ v ∈ b, v = 0 ∨ v = 1 := by
    intro acc
    induction acc with
    | nil => intro _; exact ⟨[], rfl, by simp⟩
    | cons v vs ih =>
      intro k
      obtain ⟨u, rfl, hu⟩ := k 0 v rfl
      obtain ⟨b, rfl, hb⟩ := ih fun i y hy => k (i + 1) y (by simpa using hy)
      exact ⟨u :: b, rfl, fun z hz => by
        rcases List.mem_cons.mp hz with h | h
        · rw [h]; exact hu
        · exact hb z h⟩
  obtain ⟨b, rfl, hb⟩ := this k
  exact ⟨b, rfl, hn, by simpa using h, hb⟩
theorem R3.mk' {M : Mt} {H0 H1 H2 : Hp} {s : Addr} {k n : Nat} {D : Addr} {acc : List V} (x : Ext (Is s) H0 H1) (g : Grow H0 H1) (st : Sto M H1 s k) (nD : H1 D = none) (hd : H2 D = some (.lst acc)) (l : acc.length = 3) (h : ∀ (i : Nat) y, acc[i]? = some y → Nr H1 n D y H2) (x2 : Ext N0 H1 H2) : R3 M H0 H2 s k n D := by
  match acc, l, h, hd with
  | [y1, y2, y3], _, h, hd =>
    obtain ⟨r1, b1, rfl, n1, h1, o1⟩ := h 0 y1 rfl
    obtain ⟨r2, b2, rfl, n2, h2, o2⟩ := h 1 y2 rfl
    obtain ⟨r3, b3, rfl, n3, h3, o3⟩ := h 2 y3 rfl
    exact ⟨⟨r1, r2, r3, b1, b2, b3, hd, h1.2, h2.2, h3.2, o1, o2, o3, g _ nD, g _ n1, g _ n2, g _ n3, (st.p4 nD n1 n2 n3).ext x2⟩, x.trans x2.weak, g.trans x2.grow⟩
theorem TabOk.set {n : Nat} {b : List Int} (h : TabOk n b) (j : Nat) {v : Int} (hv : v = 0 ∨ v = 1) : TabOk n (b.set j v) := by
  refine ⟨h.1, by rw [List.length_set]; exact h.2.1, fun c hc => ?_⟩
  rcases List.mem_or_eq_of_mem_set hc with e | e
  · exact h.2.2 c e
  · rw [e]; exact hv
theorem ixN_of {l : Nat} {x : Int} (h0 : 0 ≤ x) (h1 : x < l) : ixN l x = some x.toNat := by
  unfold ixN
  rw [if_pos (by omega), if_pos (by omega)]
theorem refs_ne {r1 r2 r3 : Addr} {b : List Int} : ([V.ref r1, .ref r2, .ref r3] : List V) ≠ b.map V.int := by
  cases b with
  | nil => simp
  | cons x xs => simp
theorem R3.draw {M : Mt} {H0 H : Hp} {s : Addr} {k k0 n : Nat} {p : Addr} {Q : VK} {E : XK} {t : Int} (h : R3 M H0 H s k n p) (hs : Sto M H0 s k0) (ht : t ≤ 2 ^ 64) (hk : k ≤ 1000000)
    (q : ∀ r H', (t < 2 → r = 0) → (2 ≤ t → 0 ≤ r ∧ r < t) → R3 M H0 H' s (k + 1) n p → (∀ a o, H0 a = none → H a = some o → H' a = some o) → Q (.int r) H') : sp_take [.ref s, .int t] H Q E := by
  obtain ⟨r1, r2, r3, b1, b2, b3, a0, a1, a2, a3, o1, o2, o3, n0, n1, n2, n3, st⟩ := h.ex
  refine ⟨_, s, k, t, rfl, rfl, st, hk, ht, fun r H' c1 c2 x g st' => ?_⟩
  have keep : ∀ a o, H0 a = none → H a = some o → H' a = some o := fun a o e h => x a o (fun z => hs.ne e z.symm) h
  exact q r H' c1 c2 ⟨⟨r1, r2, r3, b1, b2, b3, keep _ _ n0 a0, keep _ _ n1 a1, keep _ _ n2 a2, keep _ _ n3 a3, o1, o2, o3, n0, n1, n2, n3, st'⟩, h.x.trans x, h.g.trans g⟩ keep
/-- one row's bit is changed -/
theorem R3.mut {M : Mt} {H0 H H' : Hp} {s : Addr} {k k0 n : Nat} {p r : Addr} {xs : List V} {b' : List Int} {j : Nat} (h : R3 M H0 H s k n p) (hs : Sto M H0 s k0) (hx : H p = some (.lst xs)) (hj : xs[j]? = some (.ref r)) (ok : TabOk n b') (y : Ext (Is r) H H') (gy : Grow H H') (hr' : H' r = some (.lst (b'.map V.int))) : R3 M H0 H' s k n p := by
  obtain ⟨r1, r2, r3, b1, b2, b3, a0, a1, a2, a3, o1, o2, o3, n0, n1, n2, n3, st⟩ := h.ex
  rw [a0] at hx
  cases hx
  have hr : r = r1 ∨ r = r2 ∨ r = r3 := by
    match j, hj with
    | 0, hj => cases hj; exact .inl rfl
    | 1, hj => cases hj; exact .inr (.inl rfl)
    | 2, hj => cases hj; exact .inr (.inr rfl)
  obtain ⟨hr0, c, hrc⟩ : H0 r = none ∧ ∃ c : List Int, H r = some (.lst (c.map V.int)) := by
    rcases hr with rfl | rfl | rfl
    · exact ⟨n1, _, a1⟩
    · exact ⟨n2, _, a2⟩
    · exact ⟨n3, _, a3⟩
  have hp : p ≠ r := fun e => by
    rw [e, hrc] at a0
    injection a0 with e
    injection e with e
    exact refs_ne e.symm
  have row : ∀ {q : Addr} {c : List Int}, H q = some (.lst (c.map V.int)) → TabOk n c → ∃ c' : List Int, H' q = some (.lst (c'.map V.int)) ∧ TabOk n c' := fun {q c} h1 h2 => by
    by_cases e : q = r
    · exact ⟨b', by rw [e]; exact hr', ok⟩
    · exact ⟨c, y _ _ e h1, h2⟩
  obtain ⟨c1, d1, k1⟩ := row a1 o1
  obtain ⟨c2, d2, k2⟩ := row a2 o2
  obtain ⟨c3, d3, k3⟩ := row a3 o3
  exact ⟨⟨r1, r2, r3, c1, c2, c3, y _ _ hp a0, d1, d2, d3, k1, k2, k3, n0, n1, n2, n3, st.setM (.inr (.inr hr)) (hs.ne hr0) y⟩, Ext.close h.x hr0 (y.of fun _ z => .inr z), h.g.trans gy⟩
/-- one row is put anew -/
theorem R3.mutP {M : Mt} {H0 Hb H H' : Hp} {s : Addr} {k k0 n : Nat} {p q : Addr} {xs : List V} {b' : List Int} {j : Nat} (h : R3 M H0 Hb s k n p) (hs : Sto M H0 s k0) (hx : Hb p = some (.lst xs)) (hj : j < 3) (x1 : Ext N0 Hb H) (nq : Hb q = none) (hq : H q = some (.lst (b'.map V.int))) (ok : TabOk n b') (y : Ext (Is p) H H') (gy : Grow H H')
    (hp' : H' p = some (.lst (xs.set j (.ref q)))) : R3 M H0 H' s k n p := by
  obtain ⟨r1, r2, r3, b1, b2, b3, a0, a1, a2, a3, o1, o2, o3, n0, n1, n2, n3, st⟩ := h.ex
  rw [a0] at hx
  cases hx
  have q0 := h.g _ nq
  have ne : ∀ {r : Addr} {c : List Int}, Hb r = some (.lst (c.map V.int)) → r ≠ p := fun {r c} h1 e => by
    rw [e, a0] at h1
    injection h1 with h1
    injection h1 with h1
    exact refs_ne h1
  have up : ∀ {r : Addr} {c : List Int}, Hb r = some (.lst (c.map V.int)) → H' r = some (.lst (c.map V.int)) := fun h1 => y _ _ (ne h1) (x1 _ _ (fun z => z) h1)
  have qp : q ≠ p := fun e => by rw [e, a0] at nq; cases nq
  have hq' : H' q = some (.lst (b'.map V.int)) := y _ _ qp hq
  have st1 : Sto (Plus (P4 M p r1 r2 r3) q) H' s k := ((st.plus nq).ext x1).setM (.inl (.inr (.inl rfl))) (hs.ne n0) y
  have xx : Ext (Is s) H0 H' := Ext.close (h.x.trans x1.weak) n0 (y.of fun _ z => .inr z)
  have gg : Grow H0 H' := (h.g.trans x1.grow).trans gy
  match j, hj, hp' with
  | 0, _, hp' => exact ⟨⟨q, r2, r3, b', b2, b3, hp', hq', up a2, up a3, ok, o2, o3, n0, q0, n2, n3, st1.of (.inl hs.mem) fun b z => by
      rcases z with z | z | z | z | z
      · exact .inl (.inl z)
      · exact .inl (.inr (.inl z))
      · exact .inr z
      · exact .inl (.inr (.inr (.inr (.inl z))))
      · exact .inl (.inr (.inr (.inr (.inr z))))⟩, xx, gg⟩
  | 1, _, hp' => exact ⟨⟨r1, q, r3, b1, b', b3, hp', up a1, hq', up a3, o1, ok, o3, n0, n1, q0, n3, st1.of (.inl hs.mem) fun b z => by
      rcases z with z | z | z | z | z
      · exact .inl (.inl z)
      · exact .inl (.inr (.inl z))
      · exact .inl (.inr (.inr (.inl z)))
      · exact .inr z
      · exact .inl (.inr (.inr (.inr (.inr z))))⟩, xx, gg⟩
  | 2, _, hp' => exact ⟨⟨r1, r2, q, b1, b2, b', hp', up a1, up a2, hq', o1, o2, ok, n0, n1, n2, q0, st1.of (.inl hs.mem) fun b z => by
      rcases z with z | z | z | z | z
      · exact .inl (.inl z)
      · exact .inl (.inr (.inl z))
      · exact .inl (.inr (.inr (.inl z)))
      · exact .inl (.inr (.inr (.inr (.inl z))))
      · exact .inr z⟩, xx, gg⟩
theorem R3.list {M : Mt} {H0 H : Hp} {s : Addr} {k n : Nat} {p : Addr} (h : R3 M H0 H s k n p) : ∃ r1 r2 r3, H p = some (.lst [.ref r1, .ref r2, .ref r3]) ∧ (∃ b : List Int, H r1 = some (.lst (b.map V.int)) ∧ TabOk n b) ∧ (∃ b : List Int, H r2 = some (.lst (b.map V.int)) ∧ TabOk n b) ∧ (∃ b : List Int, H r3 = some (.lst (b.map V.int)) ∧ TabOk n b) ∧ H0 p = none ∧ H0 r1 = none ∧ H0 r2 = none ∧ H0 r3 = none := by
  obtain ⟨r1, r2, r3, b1, b2, b3, a0, a1, a2, a3, o1, o2, o3, n0, n1, n2, n3, st⟩ := h.ex
  exact ⟨r1, r2, r3, a0, ⟨b1, a1, o1⟩, ⟨b2, a2, o2⟩, ⟨b3, a3, o3⟩, n0, n1, n2, n3⟩
theorem R3.sto {M : Mt} {H0 H : Hp} {s : Addr} {k n : Nat} {p : Addr} (h : R3 M H0 H s k n p) (g : M s) : Sto M H s k := let ⟨_, _, _, _, _, _, _, _, _, _, _, _, _, _, _, _, _, st⟩ := h.ex; st.of g fun _ => .inl
theorem R3.le {M : Mt} {H0 H : Hp} {s : Addr} {k k' n : Nat} {p : Addr} (h : R3 M H0 H s k n p) (e : k ≤ k') : R3 M H0 H s k' n p := by
  obtain ⟨r1, r2, r3, b1, b2, b3, a0, a1, a2, a3, o1, o2, o3, n0, n1, n2, n3, st⟩ := h.ex
  exact ⟨⟨r1, r2, r3, b1, b2, b3, a0, a1, a2, a3, o1, o2, o3, n0, n1, n2, n3, st.le e⟩, h.x, h.g⟩
def sp_some : Sp := sp2 fun x w H Q _ => ∃ M s k, ∃ n : Nat, x = .ref s ∧ w = .int n ∧ n ≤ 6 ∧ Sto M H s k ∧ MOk M H ∧ k + 20 ≤ 1000000 ∧ ∀ p b1 b2 b3 H', Rw M H' p b1 b2 b3 → TabOk n b1 → TabOk n b2 → TabOk n b3 → Ext (Is s) H H' → Grow H H' → Sto M H' s (k + 20) → Q (.ref p) H'
abbrev s_law_some_three : Stmt := top 100
abbrev N_law_some_three : List Str := ["_law_store_here", "_law_wide_here", "_law_size", "_law_numbers", "_law_rows", "_law_kind", "_law_tilt", "_law_at", "_law_k", "_law_number", "_law_x"]
abbrev P_law_some_three : List Str := ["_law_store_here", "_law_wide_here"]
theorem sc_law_some_three : FnScope N_law_some_three P_law_some_three (defScope s_law_some_three) := ⟨rfl, rfl, rfl, by decide +kernel, rfl, by decide +kernel, by decide +kernel⟩
theorem bi_law_some_three {K : PySem.W.Frag} {f : Addr} {fd : FuncData} (F : FnF K "_law_some_three" "_law_some_three" s_law_some_three [] f fd) : Binds K fd P_law_some_three [] := FunD.bindsN F fun _ _ _ _ _ _ us hl => match us, hl with | [_, _], _ => rfl
theorem c_law_some_three (T : Txt W.K W.mg a) (D : DefAt W "_law_some_three" "_law_some_three" "_law_some_three" s_law_some_three) (c_law_take : Cal W CX0 3 "_law_take" P_law_take sp_take) : Cal W CX0 4 "_law_some_three" P_law_some_three sp_some := cal_mk D sc_law_some_three len2 (fun _ _ => bi_law_some_three) fun f cdv A outer s H vs Q E hr h => by
  obtain ⟨_, _, rfl, M, s, k, n, rfl, rfl, hn, hs, m, hk, q⟩ := sp2_of h
  have h64 := pow_le6 hn
  have hM := hs.mem
  have hbig : 2 ^ 2 ^ n ≤ 2 ^ 64 := Nat.pow_le_pow_right (by omega) h64
  refine ⟨_, (pss_cons (ps_set (i := 2) sc_law_some_three.nd rfl (by first | exact Or.inl rfl | exact Or.inr rfl) (pe_op op_shl pe_int (pv 1)))
 (pss_cons (ps_setLc (i := 3) (own := [("_law_k", 8)]) (g := gName 8) (tt := tYes) rfl sc_law_some_three.nd rfl rfl (sw_true rfl rfl rfl (by decide +kernel)) (pi_range1 (by rfl) T.range (pa_cons pe_int pa_nil)) (blkOk_by (N := N_law_some_three) (sc := defScope s_law_some_three) (by decide +kernel)) (fun _ _ _ _ _ => (pg_name (i := 8) sc_law_some_three.nd rfl (by first | exact Or.inl rfl | exact Or.inr rfl))) (fun _ _ _ _ _ => pts_nil) (fun _ _ _ _ _ => (pe_cal c_law_take hr (by omega) pass0 rfl (pa_cons (pv 0) (pa_cons (pe_op op_shl pe_int (pv 2)) pa_nil)))))
 (pss_cons (ps_set (i := 4) sc_law_some_three.nd rfl (by first | exact Or.inl rfl | exact Or.inr rfl) (pe_lc (own := [("_law_number", 9)]) (g := gName 9) (tt := tYes) rfl sc_law_some_three.nd (pi_list (pv 3)) (blkOk_by (N := N_law_some_three) (sc := defScope s_law_some_three) (by decide +kernel)) (fun _ _ _ _ _ => (pg_name (i := 9) sc_law_some_three.nd rfl (by first | exact Or.inl rfl | exact Or.inr rfl))) (fun _ _ _ _ _ => pts_nil) (fun _ _ _ _ _ => (pe_lc (own := [("_law_x", 10)]) (g := gName 10) (tt := tYes) rfl sc_law_some_three.nd (pi_range1 (by rfl) T.range (pa_cons (pv 2) pa_nil)) (blkOk_by (N := N_law_some_three) (sc := relS _ (defScope s_law_some_three)) (by decide +kernel)) (fun _ _ _ _ _ => (pg_name (i := 10) sc_law_some_three.nd rfl (by first | exact Or.inl rfl | exact Or.inr rfl))) (fun _ _ _ _ _ => pts_nil) (fun _ _ _ _ _ => (pe_op op_and (pe_op op_shr (pv 9) (pv 10)) pe_int))))))
 (pss_cons (ps_set (i := 5) sc_law_some_three.nd rfl (by first | exact Or.inl rfl | exact Or.inr rfl) (pe_cal c_law_take hr (by omega) pass0 rfl (pa_cons (pv 0) (pa_cons pe_int pa_nil))))
 (pss_cons (ps_set (i := 6) sc_law_some_three.nd rfl (by first | exact Or.inl rfl | exact Or.inr rfl) (pe_cal c_law_take hr (by omega) pass0 rfl (pa_cons (pv 0) (pa_cons pe_int pa_nil))))
 (pss_cut (ps_if (pt_cmpR op_eq (pv 5) pe_int (by rfl))
  (pss_one (ps_set (i := 4) sc_law_some_three.nd rfl (by first | exact Or.inl rfl | exact Or.inr rfl) (pe_lc (own := [("_law_k", 8)]) (g := gName 8) (tt := tYes) (te := tCB (fun xs H Q => ∃ p ys, xs = [V.ref p] ∧ (SqL W.K H p ys ∨ SqT W.K H p ys) ∧ ∀ l, H l = none → Q (.ref l) (upd H l (.lst ys))) (tCons (tOp (rIx W.K) (tVar 4) (tC (V.int 0))) tNil)) rfl sc_law_some_three.nd (pi_range1 (by rfl) T.range (pa_cons pe_int pa_nil)) (blkOk_by (N := N_law_some_three) (sc := defScope s_law_some_three) (by decide +kernel)) (fun _ _ _ _ _ => (pg_name (i := 8) sc_law_some_three.nd rfl (by first | exact Or.inl rfl | exact Or.inr rfl))) (fun _ _ _ _ _ => pts_nil) (fun _ _ _ _ _ => (pe_callTy call_list_of rfl T.list (by decide +kernel) (pa_cons (pe_ix ix_seq (pv 4) pe_int (fun _ _ => rfl)) pa_nil))))))
  pss_nil)
 (pss_cut (ps_if (PW.pt (pw_and (pt_cmpR op_gt (pv 5) pe_int (by rfl)) (pw_and (pt_cmpR op_lt (pv 5) pe_int (by rfl)) (pw_and1 (pt_cmpR op_gt (pv 1) pe_int (by rfl))))))
  (pss_cons (ps_set (i := 7) sc_law_some_three.nd rfl (by first | exact Or.inl rfl | exact Or.inr rfl) (pe_cal c_law_take hr (by omega) pass0 rfl (pa_cons (pv 0) (pa_cons (pv 1) pa_nil))))
 (pss_cons (ps_set (i := 4) sc_law_some_three.nd rfl (by first | exact Or.inl rfl | exact Or.inr rfl) (pe_lc (own := [("_law_k", 8)]) (g := gName 8) (tt := tYes) rfl sc_law_some_three.nd (pi_range1 (by rfl) T.range (pa_cons pe_int pa_nil)) (blkOk_by (N := N_law_some_three) (sc := defScope s_law_some_three) (by decide +kernel)) (fun _ _ _ _ _ => (pg_name (i := 8) sc_law_some_three.nd rfl (by first | exact Or.inl rfl | exact Or.inr rfl))) (fun _ _ _ _ _ => pts_nil) (fun _ _ _ _ _ => (pe_lc (own := [("_law_x", 10)]) (g := gName 10) (tt := tYes) rfl sc_law_some_three.nd (pi_range1 (by rfl) T.range (pa_cons (pv 2) pa_nil)) (blkOk_by (N := N_law_some_three) (sc := relS _ (defScope s_law_some_three)) (by decide +kernel)) (fun _ _ _ _ _ => (pg_name (i := 10) sc_law_some_three.nd rfl (by first | exact Or.inl rfl | exact Or.inr rfl))) (fun _ _ _ _ _ => pts_nil) (fun _ _ _ _ _ => (pe_op op_xor (pe_op op_and (pe_op op_shr (pv 10) (pv 7)) pe_int) (pv 6)))))))
 (pss_one (ps_if (pt_cmpR op_eq (pv 5) pe_int (by rfl))
  (pss_one (ps_asg (pv 6) (pg_sub (pe_ix ix_seq (pv 4) (pe_cal c_law_take hr (by omega) pass0 rfl (pa_cons (pv 0) (pa_cons pe_int pa_nil))) (fun _ _ => rfl)) (pe_cal c_law_take hr (by omega) pass0 rfl (pa_cons (pv 0) (pa_cons (pv 2) pa_nil))) set_list)))
  pss_nil))))
  pss_nil)
 (pss_cut (ps_if (PW.pt (pw_or (pt_cmpR op_eq (pv 5) pe_int (by rfl)) (pw_or1 (pt_cmpR op_eq (pv 5) pe_int (by rfl)))))
  (pss_cons (ps_set (i := 7) sc_law_some_three.nd rfl (by first | exact Or.inl rfl | exact Or.inr rfl) (pe_cal c_law_take hr (by omega) pass0 rfl (pa_cons (pv 0) (pa_cons pe_int pa_nil))))
 (pss_cons (ps_asg (pe_lc (own := [("_law_x", 10)]) (g := gName 10) (tt := tYes) rfl sc_law_some_three.nd (pi_range1 (by rfl) T.range (pa_cons (pv 2) pa_nil)) (blkOk_by (N := N_law_some_three) (sc := defScope s_law_some_three) (by decide +kernel)) (fun _ _ _ _ _ => (pg_name (i := 10) sc_law_some_three.nd rfl (by first | exact Or.inl rfl | exact Or.inr rfl))) (fun _ _ _ _ _ => pts_nil) (fun _ _ _ _ _ => (pv 6))) (pg_sub (pv 4) (pv 7) set_list))
 (pss_one (ps_asg (pe_lc (own := [("_law_x", 10)]) (g := gName 10) (tt := tYes) rfl sc_law_some_three.nd (pi_range1 (by rfl) T.range (pa_cons (pv 2) pa_nil)) (blkOk_by (N := N_law_some_three) (sc := defScope s_law_some_three) (by decide +kernel)) (fun _ _ _ _ _ => (pg_name (i := 10) sc_law_some_three.nd rfl (by first | exact Or.inl rfl | exact Or.inr rfl))) (fun _ _ _ _ _ => pts_nil) (fun _ _ _ _ _ => (pe_op op_sub pe_int (pv 6)))) (pg_sub (pv 4) (pe_op op_sub (pv 7) pe_int) set_list)))))
  pss_nil)
 (pss_cut (ps_if (pt_cmpR op_eq (pv 5) pe_int (by rfl))
  (pss_one (ps_set (i := 4) sc_law_some_three.nd rfl (by first | exact Or.inl rfl | exact Or.inr rfl) (pe_lc (own := [("_law_k", 8)]) (g := gName 8) (tt := tYes) rfl sc_law_some_three.nd (pi_range1 (by rfl) T.range (pa_cons pe_int pa_nil)) (blkOk_by (N := N_law_some_three) (sc := defScope s_law_some_three) (by decide +kernel)) (fun _ _ _ _ _ => (pg_name (i := 8) sc_law_some_three.nd rfl (by first | exact Or.inl rfl | exact Or.inr rfl))) (fun _ _ _ _ _ => pts_nil) (fun _ _ _ _ _ => (pe_lc (own := [("_law_x", 10)]) (g := gName 10) (tt := tYes) rfl sc_law_some_three.nd (pi_range1 (by rfl) T.range (pa_cons (pv 2) pa_nil)) (blkOk_by (N := N_law_some_three) (sc := relS _ (defScope s_law_some_three)) (by decide +kernel)) (fun _ _ _ _ _ => (pg_name (i := 10) sc_law_some_three.nd rfl (by first | exact Or.inl rfl | exact Or.inr rfl))) (fun _ _ _ _ _ => pts_nil) (fun _ _ _ _ _ => (pv 6)))))))
  pss_nil)
 (pss_one (ps_ret (pv 4)))))))))))), ?_⟩
  walk_at "go"
  refine i_I (cpow1 (by omega)) ?_
  rw [pow1]
  walk_at "go"
  have big : ((2 ^ 2 ^ n : Nat) : Int) ≤ 2 ^ 64 := by exact_mod_cast hbig
  refine c_rg (n := 3) (M := M) m (by omega) (fun D i Hz => Sto (Plus M D) Hz s (k + i) ∧ Grow H Hz ∧ Ext (Plus (Is s) D) H Hz) (fun D i y Hz => ∃ v : Int, y = .int v ∧ 0 ≤ v) fun D0 nD => ⟨fun _ _ _ _ _ e => e, fun i Hz o hz ⟨e1, e2, e3⟩ => ⟨e1.set (hs.ne nD) (Ext.set rfl), e2.trans Grow.upd, e3.trans (Ext.set plus_self)⟩, ⟨(hs.plus nD).ext (Ext.new nD), Grow.upd, Ext.new nD⟩, ?_, ?_⟩
  · intro i H1 N N' hi x1 m1 ⟨s1, g1, y1⟩ nx
    walk_at "go"
    refine i_yes rfl ?_
    walk_at "go"
    refine i_I (cpow1 (by omega)) ?_
    rw [pow1]
    walk_at "go"
    refine ⟨Plus M D0, s, k + i, _, rfl, rfl, s1, by omega, big, fun r H2 r1 r2 x2 g2 s2 => ?_⟩
    have hr0 : 0 ≤ r := by
      by_cases h2 : ((2 ^ 2 ^ n : Nat) : Int) < 2
      · rw [r1 h2]; omega
      · exact (r2 (by omega)).1
    exact nx _ _ (x2.is hM) (m1.less.grow g2) ⟨r, rfl, hr0⟩ ⟨s2, g1.trans g2, y1.trans (x2.is (.inl rfl))⟩
  intro nums H1 hl1 hr1 hd1 x1 m1 ⟨s1, g1, y1⟩
  have xs1 : Ext (Is s) H H1 := Ext.close (Ext.refl _ _) nD y1
  have st1 : Sto M H1 s (k + 3) := s1.less hM
  walk_at "go"
  refine c_list (M := N0) (SqL.of hd1) MOk.zero (by omega) (fun _ _ _ => True) (fun D _ y Hy => Nr H1 n D y Hy) fun D nD => ⟨fun _ _ _ _ x e => e.ext x, fun _ _ _ _ e => e, trivial, fun _ H2 x _ => SqL.of (((At.raw hd1).plus nD).ext x).2, ?_, ?_⟩
  · intro j w H2 N N' hw x2 m2 _ nx
    obtain ⟨v, rfl, hv⟩ := hr1 j w hw
    walk_at "go"
    refine i_yes rfl ?_
    walk_at "go"
    refine c_rg (n := 2 ^ n) (M := N0) MOk.zero (by omega) (fun _ _ _ => True) (fun _ _ y _ => ∃ v : Int, y = .int v ∧ (v = 0 ∨ v = 1)) fun D2 nD2 => ⟨fun _ _ _ _ _ e => e, fun _ _ _ _ e => e, trivial, ?_, ?_⟩
    · intro i H3 N2 N2' hi x3 m3 _ nx2
      walk_at "go"
      refine i_yes rfl ?_
      walk_at "go"
      refine i_I (by omega) ?_
      walk_at "go"
      exact nx2 _ _ (Ext.refl _ _) MOk.zero ⟨_, rfl, and1 _⟩ trivial
    · intro acc H3 hl3 hr3 hd3 x3 _ _
      obtain ⟨b, rfl, ok⟩ := bits_of hn hl3 hr3
      exact nx _ _ x3 MOk.zero ⟨D2, b, rfl, free_of x2 m2 nD2, ⟨fun z => m2 _ z nD2, hd3⟩, ok⟩ trivial
  intro acc H2 hl2 hr2 hd2 x2 _ _
  have q2 : R3 M H H2 s (k + 3) n D := R3.mk' xs1 g1 st1 nD hd2 (hl2.trans hl1) hr2 x2
  clear hr2 hd2 x2 hl2
  walk_at "go"
  obtain ⟨r1, r2, r3, b1, b2, b3, a0, a1, a2, a3, o1, o2, o3, n0, n1, n2, n3, st2⟩ := q2.ex
  refine ⟨_, s, k + 3, 8, rfl, rfl, st2, by omega, by omega, fun kd H3 _ hkd x3 g3 st3 => ?_⟩
  have hkd := hkd (by omega)
  walk_at "go"
  refine ⟨_, s, k + 4, 2, rfl, rfl, st3, by omega, by omega, fun tl H4 _ htl x4 g4 st4 => ?_⟩
  have htl := htl (by omega)
  have ns : ∀ {r : Addr}, H r = none → s ≠ r := fun e => hs.ne e
  have keep : ∀ {r : Addr} {o : HO}, H r = none → H2 r = some o → H4 r = some o := fun {r o} e h => (x3.trans x4) r o (fun z => ns e z.symm) h
  have q4 : R3 M H H4 s (k + 5) n D := ⟨⟨r1, r2, r3, b1, b2, b3, keep n0 a0, keep n1 a1, keep n2 a2, keep n3 a3, o1, o2, o3, n0, n1, n2, n3, st4⟩, q2.x.trans (x3.trans x4), q2.g.trans (g3.trans g4)⟩
  clear keep a0 a1 a2 a3 o1 o2 o3 n0 n1 n2 n3 st2 st3 st4 q2
  have htl : tl = 0 ∨ tl = 1 := by omega
  have htl1 : 1 - tl = 0 ∨ 1 - tl = 1 := by omega
  let Mid : Nat → L2.St → Hp → Prop := fun c σ' Hx => ∃ p v7, σ' = [some (V.ref s), some (.int n), some (.int ((2 ^ n : Nat) : Int)), some (.ref D0), some (.ref p), some (.int kd), some (.int tl), v7, none, none, none] ∧ R3 M H Hx s (k + c) n p
  -- a new row at a heap
  have row : ∀ {D' : Addr} {Hc Hx : Hp} {acc : List V} {D2 : Addr} {H3 : Hp} {N : V → Hp → Prop}, Ext (Plus N0 D') Hc Hx → MOk (Plus N0 D') Hx → Hx D2 = none → Ext N0 Hx H3 → acc.length = 2 ^ n → (∀ (i : Nat) y, acc[i]? = some y → ∃ v : Int, y = .int v ∧ (v = 0 ∨ v = 1)) → H3 D2 = some (.lst acc) →
      (∀ y H4, Ext N0 Hx H4 → MOk N0 H4 → Nr Hc n D' y H4 → True → N y H4) → N (.ref D2) H3 := fun {D' Hc Hx acc D2 H3 N} x2 m2 nD2 x3 hl3 hr3 hd3 nx => by
    obtain ⟨b, rfl, ok⟩ := bits_of hn hl3 hr3
    exact nx _ _ x3 MOk.zero ⟨D2, b, rfl, free_of x2 m2 nD2, ⟨fun z => m2 _ z nD2, hd3⟩, ok⟩ trivial
  refine i_cut (Mid 5) ?_ ?_
  · walk_at "go"
    refine i_dec (fun e => ?_) (fun e => ?_)
    · obtain ⟨r1, r2, r3, a0, ⟨b1, a1, o1⟩, _⟩ := q4.list
      walk_at "go"
      refine c_rg (n := 3) (M := N0) MOk.zero (by omega) (fun _ _ _ => True) (fun D' _ y Hy => Nr H4 n D' y Hy) fun D' nD' => ⟨fun _ _ _ _ x e => e.ext x, fun _ _ _ _ e => e, trivial, ?_, ?_⟩
      · intro i H5 N N' hi x5 m5 _ nx
        have a0' := ((At.raw a0).plus nD').ext x5
        have a1' := ((At.raw a1).plus nD').ext x5
        walk_at "go"
        refine i_yes rfl ?_
        walk_at "go"
        refine .inl (i_ixL a0' rfl ?_)
        walk_at "go"
        refine i_lsL (SqL.of a1'.2) fun l H6 n6 x6 e6 => ?_
        exact nx _ _ x6 MOk.zero ⟨l, b1, rfl, free_of x5 m5 n6, ⟨fun z => m5 _ z n6, e6⟩, o1⟩ trivial
      · intro acc H5 hl5 hr5 hd5 x5 _ _
        exact ⟨D', _, rfl, R3.mk' q4.x q4.g (q4.sto hM) nD' hd5 hl5 hr5 x5⟩
    · walk_at "go"
      exact ⟨D, _, rfl, q4⟩
  clear q4
  rintro σ' H5 ⟨p, v7, rfl, q5⟩
  refine i_cut (Mid 8) ?_ ?_
  · have done : ∀ v7, ∃ p' v7', [some (V.ref s), some (.int n), some (.int ((2 ^ n : Nat) : Int)), some (.ref D0), some (.ref p), some (.int kd), some (.int tl), v7, none, none, none] = [some (V.ref s), some (.int n), some (.int ((2 ^ n : Nat) : Int)), some (.ref D0), some (.ref p'), some (.int kd), some (.int tl), v7', none, none, none] ∧ R3 M H H5 s (k + 8) n p' := fun v7 => ⟨p, v7, rfl, q5.le (by omega)⟩
    walk_at "go"
    refine i_dec (fun e1 => ?_) (fun e1 => ?_)
    rotate_left
    · walk_at "go"
      exact done _
    walk_at "go"
    refine i_dec (fun e2 => ?_) (fun e2 => ?_)
    rotate_left
    · walk_at "go"
      exact done _
    walk_at "go"
    refine i_dec (fun e3 => ?_) (fun e3 => ?_)
    rotate_left
    · walk_at "go"
      exact done _
    walk_at "go"
    refine q5.draw hs (t := n) (by omega) (by omega) fun at_ H6 c1 c2 q6 _ => ?_
    have hat : 0 ≤ at_ ∧ at_ < n := by
      by_cases h2 : (n : Int) < 2
      · rw [c1 h2]; omega
      · exact c2 (by omega)
    walk_at "go"
    refine c_rg (n := 3) (M := N0) MOk.zero (by omega) (fun _ _ _ => True) (fun D' _ y Hy => Nr H6 n D' y Hy) fun D' nD' => ⟨fun _ _ _ _ x e => e.ext x, fun _ _ _ _ e => e, trivial, ?_, ?_⟩
    · intro i H7 N N' hi x7 m7 _ nx
      walk_at "go"
      refine i_yes rfl ?_
      walk_at "go"
      refine c_rg (n := 2 ^ n) (M := N0) MOk.zero (by omega) (fun _ _ _ => True) (fun _ _ y _ => ∃ v : Int, y = .int v ∧ (v = 0 ∨ v = 1)) fun D2 nD2 => ⟨fun _ _ _ _ _ e => e, fun _ _ _ _ e => e, trivial, ?_, ?_⟩
      · intro i H8 N2 N2' hi x8 m8 _ nx2
        walk_at "go"
        refine i_yes rfl ?_
        walk_at "go"
        refine i_I (by omega) ?_
        walk_at "go"
        exact nx2 _ _ (Ext.refl _ _) MOk.zero ⟨_, rfl, bit_xor _ htl⟩ trivial
      · intro acc H8 hl8 hr8 hd8 x8 _ _
        exact row x7 m7 nD2 x8 hl8 hr8 hd8 nx
    intro acc H7 hl7 hr7 hd7 x7 _ _
    have q7 := R3.mk' q6.x q6.g (q6.sto hM) nD' hd7 hl7 hr7 x7
    walk_at "go"
    refine i_dec (fun e4 => ?_) (fun e4 => ?_)
    · obtain ⟨r1, r2, r3, a0, ⟨b1, a1, o1⟩, ⟨b2, a2, o2⟩, ⟨b3, a3, o3⟩, n0, n1, n2, n3⟩ := q7.list
      walk_at "go"
      refine q7.draw hs (t := 3) (by omega) (by omega) fun ri H8 _ c3 q8 keep8 => ?_
      have c3 := c3 (by omega)
      walk_at "go"
      obtain ⟨r, b, j, rfl, hj, hr, hb, ok⟩ : ∃ (r : Addr) (b : List Int) (j : Nat), ri = (j : Int) ∧ ([V.ref r1, .ref r2, .ref r3] : List V)[j]? = some (.ref r) ∧ H r = none ∧ H8 r = some (.lst (b.map V.int)) ∧ TabOk n b := by
        have : ri = 0 ∨ ri = 1 ∨ ri = 2 := by omega
        rcases this with rfl | rfl | rfl
        · exact ⟨r1, b1, 0, rfl, rfl, n1, keep8 _ _ n1 a1, o1⟩
        · exact ⟨r2, b2, 1, rfl, rfl, n2, keep8 _ _ n2 a2, o2⟩
        · exact ⟨r3, b3, 2, rfl, rfl, n3, keep8 _ _ n3 a3, o3⟩
      refine .inl (i_ixL (At.raw (keep8 _ _ n0 a0)) (atI_nat hj) ?_)
      walk_at "go"
      refine q8.draw hs (t := ((2 ^ n : Nat) : Int)) (by omega) (by omega) fun xi H9 c4 c5 q9 keep9 => ?_
      have hxi : 0 ≤ xi ∧ xi < ((2 ^ n : Nat) : Int) := by
        have hp := Nat.two_pow_pos n
        by_cases h2 : ((2 ^ n : Nat) : Int) < 2
        · rw [c4 h2]; omega
        · exact c5 (by omega)
      walk_at "go"
      refine i_setL (keep9 _ _ hr hb) (j := xi.toNat) (ixN_of hxi.1 (by rw [List.length_map, ok.2.1]; exact hxi.2)) fun H10 x10 g10 e10 => ?_
      have e10 : H10 r = some (.lst ((b.set xi.toNat tl).map V.int)) := by rw [e10, List.map_set]
      exact ⟨D', _, rfl, q9.mut hs (keep9 _ _ n0 (keep8 _ _ n0 a0)) hj (ok.set _ htl) x10 g10 e10⟩
    · walk_at "go"
      exact ⟨D', _, rfl, q7.le (by omega)⟩
  clear q5
  rintro σ' H5 ⟨p, v7, rfl, q5⟩
  refine i_cut (Mid 9) ?_ ?_
  · walk_at "go"
    refine i_dec (fun e1 => ?_) (fun e1 => ?_)
    rotate_left
    walk_at "go"
    refine i_dec (fun e2 => ?_) (fun e2 => ?_)
    rotate_left
    · walk_at "go"
      exact ⟨p, _, rfl, q5.le (by omega)⟩
    all_goals
      walk_at "go"
      refine q5.draw hs (t := 3) (by omega) (by omega) fun at_ H6 _ c2 q6 _ => ?_
      have hat := c2 (by omega)
      obtain ⟨r1, r2, r3, a0, _, _, _, n0, _⟩ := q6.list
      walk_at "go"
      refine c_rg (n := 2 ^ n) (M := N0) MOk.zero (by omega) (fun _ _ _ => True) (fun _ _ y _ => ∃ v : Int, y = .int v ∧ (v = 0 ∨ v = 1)) fun D2 nD2 => ⟨fun _ _ _ _ _ e => e, fun _ _ _ _ e => e, trivial, ?_, ?_⟩
      · intro i H8 N2 N2' hi x8 m8 _ nx2
        walk_at "go"
        refine i_yes rfl ?_
        walk_at "go"
        exact nx2 _ _ (Ext.refl _ _) MOk.zero ⟨_, rfl, htl⟩ trivial
      intro acc H7 hl7 hr7 hd7 x7 _ _
      obtain ⟨b, rfl, ok⟩ := bits_of hn hl7 hr7
      walk_at "go"
      refine i_setL (x7 _ _ (fun z => z) a0) (j := at_.toNat) (ixN_of hat.1 (by simp; omega)) fun H8 x8 g8 e8 => ?_
      have q8 := q6.mutP hs a0 (by omega) x7 nD2 hd7 ok x8 g8 e8
      clear a0
      obtain ⟨r1, r2, r3, a0, _, _, _, n0, _⟩ := q8.list
      walk_at "go"
      refine c_rg (n := 2 ^ n) (M := N0) MOk.zero (by omega) (fun _ _ _ => True) (fun _ _ y _ => ∃ v : Int, y = .int v ∧ (v = 0 ∨ v = 1)) fun D3 nD3 => ⟨fun _ _ _ _ _ e => e, fun _ _ _ _ e => e, trivial, ?_, ?_⟩
      · intro i H9 N2 N2' hi x9 m9 _ nx2
        walk_at "go"
        refine i_yes rfl ?_
        walk_at "go"
        exact nx2 _ _ (Ext.refl _ _) MOk.zero ⟨_, rfl, htl1⟩ trivial
      intro acc3 H9 hl9 hr9 hd9 x9 _ _
      obtain ⟨b3, rfl, ok3⟩ := bits_of hn hl9 hr9
      walk_at "go"
      obtain ⟨j, hj, hix⟩ : ∃ j, j < 3 ∧ ixN 3 (at_ - 1) = some j := by
        have : at_ = 0 ∨ at_ = 1 ∨ at_ = 2 := by omega
        rcases this with rfl | rfl | rfl
        · exact ⟨2, by omega, rfl⟩
        · exact ⟨0, by omega, rfl⟩
        · exact ⟨1, by omega, rfl⟩
      refine i_setL (x9 _ _ (fun z => z) a0) (j := j) hix fun H10 x10 g10 e10 => ?_
      exact ⟨p, _, rfl, (q8.mutP hs a0 hj x9 nD3 hd9 ok3 x10 g10 e10).le (by omega)⟩
  clear q5
  rintro σ' H5 ⟨p, v7, rfl, q5⟩
  refine i_cut (Mid 9) ?_ ?_
  · walk_at "go"
    refine i_dec (fun e1 => ?_) (fun e1 => ?_)
    rotate_left
    · walk_at "go"
      exact ⟨p, _, rfl, q5⟩
    walk_at "go"
    refine c_rg (n := 3) (M := N0) MOk.zero (by omega) (fun _ _ _ => True) (fun D' _ y Hy => Nr H5 n D' y Hy) fun D' nD' => ⟨fun _ _ _ _ x e => e.ext x, fun _ _ _ _ e => e, trivial, ?_, ?_⟩
    · intro i H7 N N' hi x7 m7 _ nx
      walk_at "go"
      refine i_yes rfl ?_
      walk_at "go"
      refine c_rg (n := 2 ^ n) (M := N0) MOk.zero (by omega) (fun _ _ _ => True) (fun _ _ y _ => ∃ v : Int, y = .int v ∧ (v = 0 ∨ v = 1)) fun D2 nD2 => ⟨fun _ _ _ _ _ e => e, fun _ _ _ _ e => e, trivial, ?_, ?_⟩
      · intro i H8 N2 N2' hi x8 m8 _ nx2
        walk_at "go"
        refine i_yes rfl ?_
        walk_at "go"
        exact nx2 _ _ (Ext.refl _ _) MOk.zero ⟨_, rfl, htl⟩ trivial
      · intro acc H8 hl8 hr8 hd8 x8 _ _
        exact row x7 m7 nD2 x8 hl8 hr8 hd8 nx
    intro acc H7 hl7 hr7 hd7 x7 _ _
    exact ⟨D', _, rfl, R3.mk' q5.x q5.g (q5.sto hM) nD' hd7 hl7 hr7 x7⟩
  clear q5
  rintro σ' H5 ⟨p, v7, rfl, q5⟩
  walk_at "go"
  obtain ⟨b1, b2, b3, hrw, o1, o2, o3, st⟩ := q5.rw m hM
  exact q p b1 b2 b3 H5 hrw o1 o2 o3 q5.x q5.g (st.le (by omega))
end Bs
set_option Elab.async false
set_option linter.all false
set_option maxRecDepth 100000
set_option maxHeartbeats 400000
namespace Bs
open PySem PySem.Spec PyProof.Rows L2 SX
open C8 (pe_gc pss_cut)
local macro_rules | `(tactic| walk_at "xt") => `(tactic| first | assumption | exact Ext.weak (by assumption) | exact Ext.is (by assumption) (by assumption) | exact Ext.plus (by assumption) | exact Ext.plus (Ext.weak (by assumption)) | exact Ext.plus (Ext.is (by assumption) (by assumption)) | exact Ext.set plus_self)
local macro_rules | `(tactic| walk_at "gr") => `(tactic| first | assumption | exact Ext.grow (by assumption) | exact Grow.upd)
local macro_rules | `(tactic| walk_at "mo") => `(tactic| first | assumption | exact MOk.zero | ((first | refine MOk.grow ?_ (by walk_at "gr") | exact MOk.upd (by walk_at "mo")); walk_at "mo") | exact MOk.plus (by walk_at "mo") (by assumption))
local macro_rules | `(tactic| walk_at "hp") => `(tactic| first
  | assumption | exact At.raw (by assumption)
  | exact At.mk' (by walk_at "mo") (by assumption) (by assumption)
  | ((first | refine At.ext (by walk_at "xt") ?_ | refine Rp.ext (by walk_at "xt") ?_ | refine RpA.ext (by walk_at "xt") ?_ | refine Tb.ext (by walk_at "xt") ?_); walk_at "hp")
  | ((first | refine At.plus (by assumption) ?_ | refine Rp.plus (by assumption) ?_ | refine RpA.plus (by assumption) ?_ | refine Tb.plus (by assumption) ?_); walk_at "hp"))
local macro_rules | `(tactic| walk_at "at") => `(tactic| first | assumption | exact At.get (M := N0) (by walk_at "hp"))
local macro_rules | `(tactic| walk_at "sq") => `(tactic| first | exact SqL.of (by walk_at "at") | exact SqT.of (by walk_at "at"))
local macro_rules | `(tactic| walk_at "st") => `(tactic| with_reducible first
  | refine i_seq ?_ | refine i_asg ?_ | refine i_ret ?_ | refine i_retN ?_ | refine i_drop ?_ | refine i_ifS ?_ | refine i_next ?_ | refine i_brk ?_
  | refine i_gname ?_ | refine i_gsub ?_ | refine i_c ?_ | refine i_op ?_ | refine i_un ?_ | refine i_I0 ?_ | refine i_U ?_ | refine i_isN ?_ | refine i_notN ?_
  | refine i_test ?_ | refine i_tB ?_ | refine i_bl ?_ | refine i_and ?_ | refine i_or ?_ | refine i_not ?_ | refine i_andV ?_ | refine i_orV ?_ | refine i_notV ?_ | refine i_ifE ?_
  | refine i_nil ?_ | refine i_cons ?_ | refine i_for ?_ | refine i_iL ?_ | refine i_iT ?_ | refine i_iR ?_ | refine i_lc ?_ | refine i_prp ?_ | refine i_mk ?_ | refine i_sS ?_ | refine i_sN ?_ | refine i_nsS ?_ | refine i_nsN ?_ | refine i_fld ?_ | refine i_sf ?_ | refine i_inO ?_ | refine i_lsO ?_ | refine i_tpO ?_ | refine i_lnO ?_ | refine i_cb ?_ | refine i_call ?_ | refine i_tup ?_ | refine i_lst ?_ | refine i_dnew ?_ | refine i_inI ?_ | refine i_inB ?_ | refine i_rgX ?_ | refine i_lrO ?_ | refine i_rg1 ?_ | refine i_nF ?_ | refine i_nT ?_ | refine i_tt ?_ | refine i_ff ?_ | refine i_ifT ?_ | refine i_ifF ?_
  | refine i_eqI ?_ | refine i_eqS ?_ | refine i_eqB ?_ | refine i_neI ?_ | refine i_neS ?_ | refine i_dR ?_ | refine i_dI ?_ | refine i_dT ?_ | refine i_dS ?_ | refine i_dN ?_ | refine i_nR ?_ | refine i_nI ?_ | refine i_nN ?_
  | (refine i_var (by with_unfolding_all rfl) ?_) | refine i_eq rfl ?_ | refine i_ne rfl ?_)
local macro_rules | `(tactic| walk_at "sc") => `(tactic| first | exact (Rp.int (M := N0) _) | exact (Rp.str (M := N0) _) | exact (Rp.bl (M := N0) _) | exact (Rp.non (M := N0)) | assumption | exact Rp.tab (by assumption) | exact Tb.rp (by assumption))
local macro_rules | `(tactic| walk_at "sd") => `(tactic| simp only [d_Bool_non, d_Bool_bl, d_Bool_int, d_Bool_str, d_Bool_lst, d_Bool_tup, d_Bool_tab, d_Bool_dic, d_Int_non, d_Int_bl, d_Int_int, d_Int_str, d_Int_lst, d_Int_tup, d_Int_tab, d_Int_dic, d_Str_non, d_Str_bl, d_Str_int, d_Str_str, d_Str_lst, d_Str_tup, d_Str_tab, d_Str_dic, d_List_non, d_List_bl, d_List_int, d_List_str, d_List_lst, d_List_tup, d_List_tab, d_List_dic, d_Tup_non, d_Tup_bl, d_Tup_int, d_Tup_str, d_Tup_lst, d_Tup_tup, d_Tup_tab, d_Tup_dic, d_Tab_non, d_Tab_bl, d_Tab_int, d_Tab_str, d_Tab_lst, d_Tab_tup, d_Tab_tab, d_Tab_dic, Bool.not_true, Bool.not_false, Bool.true_or, Bool.false_or, Bool.or_true, Bool.or_false, Bool.and_true, Bool.true_and, Bool.and_false, Bool.false_and, if_true, if_false, Bool.false_eq_true])
local macro_rules | `(tactic| walk_at "isi") => `(tactic| ((first | with_reducible apply i_isB | with_reducible apply i_isI | with_reducible apply i_isS | with_reducible apply i_isL | with_reducible apply i_isT | with_reducible apply i_isTab); (focus assumption); (focus walk_at "sc"); try simp only [d_Bool_non, d_Bool_bl, d_Bool_int, d_Bool_str, d_Bool_lst, d_Bool_tup, d_Bool_tab, d_Bool_dic, d_Int_non, d_Int_bl, d_Int_int, d_Int_str, d_Int_lst, d_Int_tup, d_Int_tab, d_Int_dic, d_Str_non, d_Str_bl, d_Str_int, d_Str_str, d_Str_lst, d_Str_tup, d_Str_tab, d_Str_dic, d_List_non, d_List_bl, d_List_int, d_List_str, d_List_lst, d_List_tup, d_List_tab, d_List_dic, d_Tup_non, d_Tup_bl, d_Tup_int, d_Tup_str, d_Tup_lst, d_Tup_tup, d_Tup_tab, d_Tup_dic, d_Tab_non, d_Tab_bl, d_Tab_int, d_Tab_str, d_Tab_lst, d_Tab_tup, d_Tab_tab, d_Tab_dic]))
local macro_rules | `(tactic| walk_at "om") => `(tactic| first | ((with_reducible refine i_decF ?_ ?_); (focus omega)) | ((with_reducible refine i_decT ?_ ?_); (focus omega)) | ((with_reducible refine i_ndecF ?_ ?_); (focus omega)) | ((with_reducible refine i_ndecT ?_ ?_); (focus omega)))
local macro_rules | `(tactic| walk_at "go") => `(tactic| ((repeat (first | walk_at "st" | walk_at "isi" | walk_at "om")); try dsimp only [List.set]))
variable {W : Wd} {a : Ad}
/-! L21: good tables. -/
theorem paper_shape {n : Nat} {b1 b2 b3 : List Int} (h1 : TabOk n b1) (h2 : TabOk n b2) (h3 : TabOk n b3) : (∃ z i j, paperD n b1 b2 b3 = .tup [.str z, .int i, .int j] ∧ plain n b1 b2 b3 = some (paperD n b1 b2 b3) ∧ okD 100 0 (.str z) = true) ∨
    (∃ b : List Str, paperD n b1 b2 b3 = .tup [.str "ring", .lst (b.map Dt.str)] ∧ plain n b1 b2 b3 = none ∧ b.length = n ∧ ∀ o ∈ b, o ∈ orders) := by
  cases hp : plain n b1 b2 b3 with
  | some d =>
    have e : paperD n b1 b2 b3 = d := by simp only [paperD, hp]
    have : ∃ z i j, d = .tup [.str z, .int i, .int j] ∧ okD 100 0 (.str z) = true := by
      unfold plain at hp
      split at hp
      · cases hp
        exact ⟨_, _, _, rfl, by decide +kernel⟩
      · split at hp
        · split at hp
          · cases hp
            exact ⟨_, _, _, rfl, by decide +kernel⟩
          · cases hp
        · cases hp
    obtain ⟨z, i, j, rfl, hz⟩ := this
    exact .inl ⟨z, i, j, e, by rw [e], hz⟩
  | none =>
    obtain ⟨x, y, z, e, _⟩ := ringW_of h1 h2 h3 (plain_ring h1 h2 h3 hp)
    obtain ⟨hx, hy, hz, na, e1, e2⟩ := ringW_some h1 h2 h3 e
    obtain ⟨l, ho, _⟩ := bw_back hx hy hz na
    exact .inr ⟨bwF n x y z, by simp only [paperD, hp, e], rfl, l, ho⟩
theorem paper_ok {n : Nat} {b1 b2 b3 : List Int} (h1 : TabOk n b1) (h2 : TabOk n b2) (h3 : TabOk n b3) : okD 100 2 (paperD n b1 b2 b3) = true := by
  rcases paper_shape h1 h2 h3 with ⟨z, i, j, e, _, hz⟩ | ⟨b, e, _, hl, ho⟩
  · rw [e]; exact two_ok z hz i j
  · rw [e]; exact ring_ok b (by have := h1.1; omega) ho
section
variable {M Mx : Mt} {H3 H6 H7 : Hp} {ct a p s : Addr} {o : HO} {n k : Nat} {b1 b2 b3 bs : List Int}
theorem At.over (h : At M H3 a o) (x : Ext N0 H3 H6) (y : Ext Mx H6 H7) (f : ∀ a, Mx a → H3 a = none) : At M H7 a o := ⟨h.1, y _ _ (fun z => by have := h.2; rw [f _ z] at this; cases this) (x _ _ (fun z => z) h.2)⟩
theorem Tb.over (h : Tb ct M H3 a n bs) (x : Ext N0 H3 H6) (y : Ext Mx H6 H7) (f : ∀ a, Mx a → H3 a = none) : Tb ct M H7 a n bs := ⟨h.ok, let ⟨d, t, h1, h2⟩ := h.ex; ⟨d, t, h1.over x y f, h2.over x y f⟩⟩
theorem Tl.over (h : Tl ct M H3 p n b1 b2 b3) (x : Ext N0 H3 H6) (y : Ext Mx H6 H7) (f : ∀ a, Mx a → H3 a = none) : Tl ct M H7 p n b1 b2 b3 := by
  obtain ⟨p1, p2, p3, h0, h1, h2, h3⟩ := h.ex
  exact ⟨p1, p2, p3, h0.over x y f, h1.over x y f, h2.over x y f, h3.over x y f⟩
theorem Rw.over (h : Rw M H3 p b1 b2 b3) (x : Ext N0 H3 H6) (y : Ext Mx H6 H7) (f : ∀ a, Mx a → H3 a = none) : Rw M H7 p b1 b2 b3 := by
  obtain ⟨p1, p2, p3, h0, h1, h2, h3⟩ := h.ex
  exact ⟨p1, p2, p3, h0.over x y f, h1.over x y f, h2.over x y f, h3.over x y f⟩
theorem Sto.over (h : Sto M H3 s k) (x : Ext N0 H3 H6) (y : Ext Mx H6 H7) (f : ∀ a, Mx a → H3 a = none) : Sto M H7 s k := by
  obtain ⟨g, c, cells, i, r, m, n, h1, h2, h3⟩ := h
  exact ⟨g, c, cells, i, r, m, n, ((At.raw h1).over x y f).2, h2.over x y f, h3⟩
end
theorem Tl.at {ct : Addr} {M : Mt} {H : Hp} {p : Addr} {n : Nat} {b1 b2 b3 : List Int} (h : Tl ct M H p n b1 b2 b3) : ∃ xs, At M H p (.lst xs) ∧ ∀ i : Nat, i < 3 → ∃ r, atI xs (i : Int) = some (.ref r) ∧ Tb ct M H r n (b3of b1 b2 b3 i) := by
  obtain ⟨r1, r2, r3, h0, h1, h2, h3⟩ := h.ex
  refine ⟨_, h0, fun i hi => ?_⟩
  match i, hi with
  | 0, _ => exact ⟨r1, rfl, h1⟩
  | 1, _ => exact ⟨r2, rfl, h2⟩
  | 2, _ => exact ⟨r3, rfl, h3⟩
theorem ans_ok {d : Dt} (h : okD 100 2 d = true) : okD 1000 30 (.tup [.str "answer", d]) = true := by
  show (decide (2 ≤ 1000) && (okD 1000 29 (.str "answer") && (okD 1000 29 d && true))) = true
  rw [ok_up (by omega) (by omega) h, (by decide +kernel : okD 1000 29 (.str "answer") = true)]
  rfl
theorem Sto.mok {H : Hp} {s : Addr} {k : Nat} (h : Sto (Is s) H s k) : MOk (Is s) H := MOk.is h.at
def sp_good : Sp := sp2 fun x w H Q _ => ∃ s k, ∃ n : Nat, x = .ref s ∧ w = .int n ∧ n ≤ 6 ∧ Sto (Is s) H s k ∧ k + 10000 ≤ 1000000 ∧ ∀ H', Sto (Is s) H' s (k + 10000) → Q (.bl true) H'
abbrev s_law_good : Stmt := top 101
abbrev N_law_good : List Str := ["_law_store_here", "_law_wide_here", "_law_three", "_law_tables", "_law_due", "_law_paper", "_law_kept", "_law_papers", "_law_given", "_law_mine", "_law_k"]
abbrev P_law_good : List Str := ["_law_store_here", "_law_wide_here"]
theorem sc_law_good : FnScope N_law_good P_law_good (defScope s_law_good) := ⟨rfl, rfl, rfl, by decide +kernel, rfl, by decide +kernel, by decide +kernel⟩
theorem bi_law_good {K : PySem.W.Frag} {f : Addr} {fd : FuncData} (F : FnF K "_law_good" "_law_good" s_law_good [] f fd) : Binds K fd P_law_good [] := FunD.bindsN F fun _ _ _ _ _ _ us hl => match us, hl with | [_, _], _ => rfl
theorem c_law_good (T : Txt W.K W.mg a) (D : DefAt W "_law_good" "_law_good" "_law_good" s_law_good) (c_law_some_three : Cal W CX0 4 "_law_some_three" P_law_some_three sp_some) (c_Table : Mkr W CX0 4 a.ct "Table" P_Table_init (sp_init a.ct))
    (c_law_no_ring : Cal W CX0 1 "_law_no_ring" P_law_no_ring (sp_noring a.ct)) (c_ring_paper : Cal W (CXr W) 9 "ring_paper" P_ring_paper (sp_rpaper a)) (c_law_same : Cal W CX0 31 "_law_same" P_law_same (sp_same a.ct 1000 31))
    (c_law_ring_right : Cal W CX0 4 "_law_ring_right" P_law_ring_right (sp_rright a.ct)) (c_law_copy : Cal W CX0 31 "_law_copy" P_law_copy (sp_copy a.ct 1000 31)) (c_law_spoil : Cal W CX0 3 "_law_spoil" P_law_spoil (sp_spoil2 a.ct))
    (c_law_called : Cal W CX0 11 "_law_called" P_law_called (sp_called a)) (c_first_ring : Cal W CX0 7 "first_ring" P_first_ring (sp_first a)) (c_law_bend : Cal W CX0 8 "_law_bend" P_law_bend (sp_bend a.ct 3))
    (c_law_ring_paper : Cal W CX0 9 "_law_ring_paper" P_law_ring_paper (sp_lrp a.ct)) (c_law_judged : Cal W CX0 32 "_law_judged" P_law_judged (sp_judged a)) (c_law_other_papers : Cal W CX0 33 "_law_other_papers" P_law_other_papers (sp_other a))
    (c_law_is_table : Cal W CX0 3 "_law_is_table" P_law_is_table (sp_istab a.ct)) : Cal W CX0 34 "_law_good" P_law_good sp_good := cal_mk D sc_law_good len2 (fun _ _ => bi_law_good) fun f cdv A outer s H vs Q E hr h => by
  obtain ⟨_, _, rfl, s, k, n, rfl, rfl, hn, hs, hk, q⟩ := sp2_of h
  refine ⟨_, (PSs.nox (pss_cons (ps_set (i := 2) sc_law_good.nd rfl (by first | exact Or.inl rfl | exact Or.inr rfl) (pe_cal c_law_some_three hr (by omega) pass0 rfl (pa_cons (pv 0) (pa_cons (pv 1) pa_nil))))
 (pss_cons (ps_set (i := 3) sc_law_good.nd rfl (by first | exact Or.inl rfl | exact Or.inr rfl) (pe_lc (own := [("_law_mine", 9)]) (g := gName 9) (tt := tYes) (te := tMake a.ct (sp_init a.ct) [] E0 (tCons (tVar 1) (tCons (tCB (fun xs H Q => ∃ p ys, xs = [V.ref p] ∧ (SqL W.K H p ys ∨ SqT W.K H p ys) ∧ ∀ l, H l = none → Q (.ref l) (upd H l (.lst ys))) (tCons (tVar 9) tNil)) tNil))) rfl sc_law_good.nd (pi_list (pv 2)) (blkOk_by (N := N_law_good) (sc := defScope s_law_good) (by decide +kernel)) (fun _ _ _ _ _ => (pg_name (i := 9) sc_law_good.nd rfl (by first | exact Or.inl rfl | exact Or.inr rfl))) (fun _ _ _ _ _ => pts_nil) (fun _ _ _ _ _ => (pe_mkr c_Table hr (by omega) rfl (pa_cons (pv 1) (pa_cons (pe_callTy call_list_of rfl T.list (by decide +kernel) (pa_cons (pv 9) pa_nil)) pa_nil))))))
 (pss_cons (ps_set (i := 4) sc_law_good.nd rfl (by first | exact Or.inl rfl | exact Or.inr rfl) (pe_cal c_law_no_ring hr (by omega) pass0 rfl (pa_cons (pv 1) (pa_cons (pv 2) pa_nil))))
 (pss_cons (ps_set (i := 5) sc_law_good.nd rfl (by first | exact Or.inl rfl | exact Or.inr rfl) (pe_cal c_ring_paper hr (by omega) passL rfl (pa_cons (pe_ix ix_seq (pv 3) pe_int (fun _ _ => rfl)) (pa_cons (pe_ix ix_seq (pv 3) pe_int (fun _ _ => rfl)) (pa_cons (pe_ix ix_seq (pv 3) pe_int (fun _ _ => rfl)) pa_nil)))))
 (pss_cut (ps_if (PW.pt (pw_and (pt_cmp (pc_notN (pv 4))) (pw_and1 (pt_not (pt_val (pe_cal c_law_same hr (by omega) pass0 rfl (pa_cons (pv 5) (pa_cons (pv 4) pa_nil))))))))
  (pss_one (ps_ret pe_bl))
  pss_nil)
 (pss_cut (ps_if (PW.pt (pw_and (pt_cmp (pc_isN (pv 4))) (pw_and1 (PW.pt (pw_or (pt_not (pt_val (pe_cal c_law_ring_right hr (by omega) pass0 rfl (pa_cons (pv 1) (pa_cons (pv 2) (pa_cons (pv 5) pa_nil)))))) (pw_or1 (pt_cmpR op_ne (pe_ix ix_seq (pv 5) pe_int (fun _ _ => rfl)) pe_str (by rfl))))))))
  (pss_one (ps_ret pe_bl))
  pss_nil)
 (pss_cons (ps_set (i := 6) sc_law_good.nd rfl (by first | exact Or.inl rfl | exact Or.inr rfl) (pe_cal c_law_copy hr (by omega) pass0 rfl (pa_cons (pv 5) pa_nil)))
 (pss_cut (ps_expr (pe_cal c_law_spoil hr (by omega) pass0 rfl (pa_cons (pv 5) pa_nil)))
 (pss_cut (ps_if (PW.pt (pw_and (pt_cmpR op_lt (pv 1) pe_int (by rfl)) (pw_and1 (pt_not (pt_val (pe_cal c_law_same hr (by omega) pass0 rfl (pa_cons (pe_cal c_law_called hr (by omega) pass0 rfl (pa_cons pe_int (pa_cons (pv 3) pa_nil))) (pa_cons (pe_tup (pa_cons pe_str (pa_cons (pv 6) pa_nil))) pa_nil))))))))
  (pss_one (ps_ret pe_bl))
  pss_nil)
 (pss_cut (ps_if (PW.pt (pw_and (pt_cmpR op_lt (pv 1) pe_int (by rfl)) (pw_and1 (pt_cmpR op_ne (pe_cmp (pc_isN (pe_cal c_first_ring hr (by omega) pass0 rfl (pa_cons (pe_ix ix_seq (pv 3) pe_int (fun _ _ => rfl)) (pa_cons (pe_ix ix_seq (pv 3) pe_int (fun _ _ => rfl)) (pa_cons (pe_ix ix_seq (pv 3) pe_int (fun _ _ => rfl)) pa_nil)))))) (pe_cmp (pc_notN (pv 4))) (by rfl)))))
  (pss_one (ps_ret pe_bl))
  pss_nil)
 (pss_cons (ps_set (i := 7) sc_law_good.nd rfl (by first | exact Or.inl rfl | exact Or.inr rfl) (pe_lst (pa_cons (pe_cal c_law_bend hr (by omega) pass0 rfl (pa_cons (pv 0) (pa_cons (pv 6) pa_nil))) (pa_cons (pe_cal c_law_bend hr (by omega) pass0 rfl (pa_cons (pv 0) (pa_cons (pv 6) pa_nil))) pa_nil))))
 (pss_cons (ps_set (i := 7) sc_law_good.nd rfl (by first | exact Or.inl rfl | exact Or.inr rfl) (pe_op op_cat (pv 7) (pe_lst (pa_cons (pe_cal c_law_ring_paper hr (by omega) pass0 rfl (pa_cons (pv 0) (pa_cons (pv 1) (pa_cons (pv 2) pa_nil)))) (pa_cons (pe_cal c_law_ring_paper hr (by omega) pass0 rfl (pa_cons (pv 0) (pa_cons (pv 1) (pa_cons (pv 2) pa_nil)))) (pa_cons (pv 6) pa_nil))))))
 (pss_cons (ps_for PassesOwn.never rfl (pi_list (pv 7)) (pg_name (i := 8) sc_law_good.nd rfl (by first | exact Or.inl rfl | exact Or.inr rfl))
  (pss_one (ps_if (pt_not (pt_val (pe_cal c_law_judged hr (by omega) pass0 rfl (pa_cons (pv 3) (pa_cons (pv 1) (pa_cons (pv 2) (pa_cons (pv 8) pa_nil)))))))
  (pss_one (ps_ret pe_bl))
  pss_nil)))
 (pss_cons (ps_if (pt_not (pt_val (pe_cal c_law_other_papers hr (by omega) pass0 rfl (pa_cons (pv 3) (pa_cons (pv 1) (pa_cons (pv 2) pa_nil))))))
  (pss_one (ps_ret pe_bl))
  pss_nil)
 (pss_one (ps_ret (pe_cmpR (op_eqD (hr.units)) (pe_lc (own := [("_law_k", 10)]) (g := gName 10) (tt := tYes) (te := tCall (sp_istab a.ct) [] E0 (tCons (tOp (rIx W.K) (tVar 3) (tVar 10)) (tCons (tVar 1) (tCons (tOp (rIx W.K) (tVar 2) (tVar 10)) tNil)))) rfl sc_law_good.nd (pi_range1 (by rfl) T.range (pa_cons pe_int pa_nil)) (blkOk_by (N := N_law_good) (sc := defScope s_law_good) (by decide +kernel)) (fun _ _ _ _ _ => (pg_name (i := 10) sc_law_good.nd rfl (by first | exact Or.inl rfl | exact Or.inr rfl))) (fun _ _ _ _ _ => pts_nil) (fun _ _ _ _ _ => (pe_cal c_law_is_table hr (by omega) pass0 rfl (pa_cons (pe_ix ix_seq (pv 3) (pv 10) (fun _ _ => rfl)) (pa_cons (pv 1) (pa_cons (pe_ix ix_seq (pv 2) (pv 10) (fun _ _ => rfl)) pa_nil)))))) (pe_lst (pa_cons pe_bl (pa_cons pe_bl (pa_cons pe_bl pa_nil)))) (by rfl))))))))))))))))))), ?_⟩
  walk_at "go"
  refine ⟨Is s, s, k, n, rfl, rfl, hn, hs, hs.mok, by omega, fun p b1 b2 b3 H1 hrw o1 o2 o3 x1 g1 st1 => ?_⟩
  walk_at "go"
  obtain ⟨xs, h0, hx⟩ := hrw.at
  have hxl : xs.length = 3 := by
    obtain ⟨p1, p2, p3, g0, _⟩ := hrw.ex
    have := g0.2.symm.trans h0.2
    cases this; rfl
  refine c_list (M := N0) (SqL.of h0.2) MOk.zero (by omega) (fun _ _ _ => True) (fun D j y Hy => ∃ q, y = .ref q ∧ Tb a.ct (Plus (Is s) D) Hy q n (b3of b1 b2 b3 j)) fun D nD => ⟨fun i y H H' x ⟨q, e, t⟩ => ⟨q, e, t.ext (x.of fun _ z => z.elim (fun z => z.elim) .inr)⟩, fun _ _ _ _ e => e, trivial, fun _ H2 x _ => SqL.of ((h0.zero.plus nD).ext x).2, ?_, ?_⟩
  · intro j w H2 N N' hw x2 m2 _ nx
    have hj : j < 3 := by rw [← hxl]; exact (List.getElem?_eq_some_iff.mp hw).1
    obtain ⟨r, e1, ty⟩ := hx j hj
    have e2 := atI_nat hw
    rw [e1] at e2
    cases e2
    have ty2 := (ty.zero.plus nD).ext x2
    have m2' : MOk (Plus (Is s) D) H2 := fun b z => z.elim (fun z e => by
      have hsD : ¬ Plus N0 D s := fun z => z.elim (fun z => z) fun z => st1.ne nD z
      obtain ⟨_, c, cells, i, r, m, nn, h1, _⟩ := st1
      have := x2 s _ hsD h1
      have zb : b = s := z
      rw [zb, this] at e; cases e) fun z => m2 b (.inr z)
    walk_at "go"
    refine i_yes rfl ?_
    walk_at "go"
    refine i_lsL (SqL.of ty2.2) fun l H3 n3 x3 e3 => ?_
    walk_at "go"
    refine i_mkTb (m2'.grow x3.grow) e3 (ok3of o1 o2 o3 j) fun t H4 n4 x4 tb m4 => ?_
    exact nx _ _ (x3.trans x4) MOk.zero ⟨t, rfl, tb⟩ trivial
  intro acc H2 hl2 hr2 hd2 x2 _ _
  have htl2 : Tl a.ct (Is s) H2 D n b1 b2 b3 := by
    match acc, hl2.trans hxl, hr2, hd2 with
    | [a0, a1, a2], _, hr2, hd2 =>
      obtain ⟨q1, rfl, t1⟩ := hr2 0 a0 rfl
      obtain ⟨q2, rfl, t2⟩ := hr2 1 a1 rfl
      obtain ⟨q3, rfl, t3⟩ := hr2 2 a2 rfl
      exact ⟨q1, q2, q3, ⟨fun z => st1.ne nD z.symm, hd2⟩, t1.of fun _ => .inl, t2.of fun _ => .inl, t3.of fun _ => .inl⟩
  clear hr2 hd2 hl2
  walk_at "go"
  refine ⟨n, p, b1, b2, b3, rfl, rfl, (hrw.ext x2.weak).zero, o1, o2, o3, fun due H3 x3 hdue => ?_⟩
  have xx3 := x2.trans x3
  have htl3 := htl2.ext x3.weak
  have hrw3 := hrw.ext xx3.weak
  have st3 := st1.ext xx3
  obtain ⟨p1, p2, p3, t0, t1, t2, t3⟩ := htl3.ex
  walk_at "go"
  refine .inl (i_ixL t0 rfl ?_)
  walk_at "go"
  refine .inl (i_ixL t0 rfl ?_)
  walk_at "go"
  refine .inl (i_ixL t0 rfl ?_)
  walk_at "go"
  refine ⟨Trk H3, some (n, b1), some (n, b2), some (n, b3), fun _ z => z, .tab t1.zero, .tab t2.zero, .tab t3.zero, fun C s e => by simp [flt3] at e, fun n' c1 c2 c3 e1 e2 e3 pap H4 x4 hpap => ?_⟩
  cases e1; cases e2; cases e3
  walk_at "go"
  have hdue4 := hdue.ext x4
  have hshape := paper_shape o1 o2 o3
  have hok := paper_ok o1 o2 o3
  have ok1000 : okD 1000 30 (paperD n b1 b2 b3) = true := ok_up (by omega) (by omega) hok
  refine i_cut (fun σ' Hx => σ' = [some (V.ref s), some (.int n), some (.ref p), some (.ref D), some due, some pap, none, none, none, none, none] ∧ Ext N0 H4 Hx) ?_ ?_
  · rcases hshape with ⟨z, i, j, e, hp, _⟩ | ⟨b, e, hp, _⟩
    · rw [hp] at hdue4
      have hdue4 : Rp a.ct N0 H4 due (paperD n b1 b2 b3) := hdue4
      obtain ⟨t, ys, rfl, _⟩ := (show Rp a.ct N0 H4 due (.tup [.str z, .int i, .int j]) by rw [← e]; exact hdue4).tupAt
      walk_at "go"
      refine ⟨_, _, hpap.zero, hdue4, ok1000, fun b hb => ?_⟩
      cases hb.mpr rfl
      walk_at "go"
      exact ⟨rfl, Ext.refl _ _⟩
    · rw [hp] at hdue4
      cases hdue4
      walk_at "go"
      exact ⟨rfl, Ext.refl _ _⟩
  rintro σ' H5 ⟨rfl, x5⟩
  refine i_cut (fun σ' Hx => σ' = [some (V.ref s), some (.int n), some (.ref p), some (.ref D), some due, some pap, none, none, none, none, none] ∧ Ext N0 H5 Hx) ?_ ?_
  · have hdue5 := hdue4.ext x5
    have hpap5 := (hpap.zero).ext x5
    rcases hshape with ⟨z, i, j, e, hp, _⟩ | ⟨b, e, hp, _⟩
    · rw [hp] at hdue5
      obtain ⟨t, ys, rfl, _⟩ := (show Rp a.ct N0 H5 due (.tup [.str z, .int i, .int j]) by rw [← e]; exact hdue5).tupAt
      walk_at "go"
      exact ⟨rfl, Ext.refl _ _⟩
    · rw [hp] at hdue5
      cases hdue5
      walk_at "go"
      refine ⟨n, p, b1, b2, b3, _, rfl, rfl, (hrw3.ext ((x4.trans x5).weak)).zero, o1, o2, o3, hpap5, fun H6 x6 => ?_⟩
      rw [paper_right o1 o2 o3]
      rw [e] at hpap5
      obtain ⟨t, ys, rfl, ht, hy⟩ := hpap5.tupAt
      cases hy with
      | cons hy1 hy2 =>
        cases hy1
        walk_at "go"
        refine .inr (.inl (i_ixT (ht.ext x6) (atI_nat (i := 0) rfl) ?_))
        walk_at "go"
        refine i_ndecF rfl ?_
        walk_at "go"
        exact ⟨rfl, x6⟩
  rintro σ' H6 ⟨rfl, x6⟩
  walk_at "go"
  have x46 := x5.trans x6
  have x36 := x4.trans x46
  refine ⟨_, hpap.zero.ext x46, ok1000, fun kept H7 x7 hkept => ?_⟩
  walk_at "go"
  refine i_cut (fun σ' Hx => σ' = [some (V.ref s), some (.int n), some (.ref p), some (.ref D), some due, some pap, some kept, none, none, none, none] ∧ Tl a.ct (Is s) Hx D n b1 b2 b3 ∧ Rw (Is s) Hx p b1 b2 b3 ∧ Sto (Is s) Hx s (k + 20) ∧ Rp a.ct (Is s) Hx kept (paperD n b1 b2 b3)) ?_ ?_
  · have key : ∀ (Mx : Mt) H8, (∀ a, Mx a → H3 a = none) → (∀ a, Mx a → H6 a ≠ none) → Ext Mx H7 H8 → Tl a.ct (Is s) H8 D n b1 b2 b3 ∧ Rw (Is s) H8 p b1 b2 b3 ∧ Sto (Is s) H8 s (k + 20) ∧ Rp a.ct (Is s) H8 kept (paperD n b1 b2 b3) := fun Mx H8 f1 f2 y => by
      have x37 := x36.trans x7
      refine ⟨htl3.over x37 y f1, hrw3.over x37 y f1, st3.over x37 y f1, ?_⟩
      have hk7 := hkept (fun a => Mx a ∨ a = s) fun b z => z.elim (f2 b) fun z => by rw [z]; exact (st3.ext x36).at
      exact (hk7.ext (y.of fun _ => .inl)).of fun _ => .inr
    rcases hshape with ⟨z, i, j, e, hp, hz⟩ | ⟨b, e, hp, hbl, hbo⟩
    · rw [e] at hpap
      obtain ⟨t, ys, rfl, ht, hy⟩ := hpap.tupAt
      obtain rfl : ys = [.str z, .int i, .int j] := by
        cases hy with
        | cons h1 h2 => cases h2 with
          | cons h3 h4 => cases h4 with
            | cons h5 h6 => cases h1; cases h3; cases h5; cases h6; rfl
      walk_at "go"
      refine ⟨N0, 0, t, _, rfl, (ht.zero.ext x46).ext x7, by simp, fun v hv => ?_, by omega, MOk.zero, fun H8 x8 g8 => ?_⟩
      · simp only [List.mem_cons, List.not_mem_nil, or_false] at hv
        rcases hv with rfl | rfl | rfl
        · exact .inl ⟨_, .str _, ok_up (by omega) (by omega) hz⟩
        · exact .inl ⟨_, .int _, rfl⟩
        · exact .inl ⟨_, .int _, rfl⟩
      · walk_at "go"
        exact ⟨rfl, key N0 H8 (fun _ z => z.elim) (fun _ z => z.elim) x8⟩
    · rw [e] at hpap
      obtain ⟨t, ys, rfl, ht, hy⟩ := hpap.tupAt
      obtain ⟨l, zs, rfl, hl, hzs⟩ : ∃ l zs, ys = [.str "ring", .ref l] ∧ At (Trk H3) H4 l (.lst zs) ∧ RpA a.ct (Trk H3) H4 zs (b.map Dt.str) := by
        cases hy with
        | cons h1 h2 => cases h2 with
          | cons h3 h4 =>
            cases h1; cases h4
            obtain ⟨l, zs, rfl, hl, hz⟩ := h3.lstAt
            exact ⟨l, zs, rfl, hl, hz⟩
      have x47 := x46.trans x7
      have ht7 := ht.zero.ext x47
      have hl7 := hl.zero.ext x47
      have hlz := hzs.length
      rw [List.length_map] at hlz
      have h3l : H3 l = none := Classical.byContradiction fun z => hl.1 z
      have h6l : H6 l ≠ none := by rw [(hl.zero.ext x46).2]; simp
      walk_at "go"
      refine ⟨Is l, zs.length, t, _, rfl, ⟨fun z => ?_, ht7.2⟩, by simp, fun v hv => ?_, by omega, MOk.is (by rw [hl7.2]; simp), fun H8 x8 g8 => ?_⟩
      · have z : t = l := z
        have := ht7.2
        rw [z, hl7.2] at this
        cases this
      · simp only [List.mem_cons, List.not_mem_nil, or_false] at hv
        rcases hv with rfl | rfl
        · exact .inl ⟨_, .str _, by decide +kernel⟩
        · refine .inr ⟨l, rfl, rfl, zs, b.map Dt.str, hl7.2, hzs.zero.ext x47, fun d hd => ?_, Nat.le_refl _⟩
          obtain ⟨o, ho, rfl⟩ := List.mem_map.mp hd
          exact ok_up (by omega) (by omega) (ord_ok o (hbo o ho))
      · walk_at "go"
        exact ⟨rfl, key (Is l) H8 (fun a z => by rw [show a = l from z]; exact h3l) (fun a z => by rw [show a = l from z]; exact h6l) x8⟩
  rintro σ' H8 ⟨rfl, htl8, hrw8, st8, hk8⟩
  have SS : ∀ {σ' : L2.St} {Hx : Hp}, σ' = [some (V.ref s), some (.int n), some (.ref p), some (.ref D), some due, some pap, some kept, none, none, none, none] ∧ Ext N0 H8 Hx → Tl a.ct (Is s) Hx D n b1 b2 b3 ∧ Rw (Is s) Hx p b1 b2 b3 ∧ Sto (Is s) Hx s (k + 20) ∧ Rp a.ct (Is s) Hx kept (paperD n b1 b2 b3) := fun z => ⟨htl8.ext z.2.weak, hrw8.ext z.2.weak, st8.ext z.2, hk8.ext z.2.weak⟩
  refine i_cut (fun σ' Hx => σ' = [some (V.ref s), some (.int n), some (.ref p), some (.ref D), some due, some pap, some kept, none, none, none, none] ∧ Ext N0 H8 Hx) ?_ ?_
  · walk_at "go"
    refine i_dec (fun e => ?_) (fun e => ?_)
    · obtain ⟨q1, q2, q3, t0, t1, t2, t3⟩ := htl8.ex
      walk_at "go"
      refine ⟨0, D, _, _, _, [], some (n, b1), some (n, b2), some (n, b3), .non, rfl, rfl, t0.2, .tab t1.zero, .tab t2.zero, .tab t3.zero, .inl rfl, fun j s e => by simp [flJ] at e, fun n' c1 c2 c3 e1 e2 e3 x H9 x9 hx => ?_⟩
      cases e1; cases e2; cases e3
      rw [ansD, if_pos rfl] at hx
      walk_at "go"
      refine i_nwT (by simp) fun u H10 n10 x10 u10 => ?_
      walk_at "go"
      refine ⟨_, _, hx.ext x10, .tup (At.raw u10) (.cons (.str _) (.cons (hk8.zero.ext (x9.trans x10)) .nil)), ans_ok hok, fun b hb => ?_⟩
      cases hb.mpr rfl
      walk_at "go"
      exact ⟨rfl, x9.trans x10⟩
    · walk_at "go"
      exact ⟨rfl, Ext.refl _ _⟩
  rintro σ' H9 ⟨rfl, x9⟩
  refine i_cut (fun σ' Hx => σ' = [some (V.ref s), some (.int n), some (.ref p), some (.ref D), some due, some pap, some kept, none, none, none, none] ∧ Ext N0 H8 Hx) ?_ ?_
  · walk_at "go"
    refine i_dec (fun e => ?_) (fun e => ?_)
    · obtain ⟨q1, q2, q3, t0, t1, t2, t3⟩ := (htl8.ext x9.weak).ex
      walk_at "go"
      refine .inl (i_ixL t0 rfl ?_)
      walk_at "go"
      refine .inl (i_ixL t0 rfl ?_)
      walk_at "go"
      refine .inl (i_ixL t0 rfl ?_)
      walk_at "go"
      refine ⟨Is s, q1, q2, q3, n, b1, b2, b3, rfl, rfl, rfl, t1, t2, t3, by omega, fun r H10 x10 hf ht => ?_⟩
      have hap := any_plain o1 o2 o3
      rcases hshape with ⟨z, i, j, e, hp, _⟩ | ⟨b, e, hp, _⟩
      · rw [hp] at hdue4
        obtain ⟨t, ys, rfl, _⟩ := (show Rp a.ct N0 H4 due (.tup [.str z, .int i, .int j]) by rw [← e]; exact hdue4).tupAt
        have hr0 : ringAny n b1 b2 b3 = false := by
          cases h : ringAny n b1 b2 b3 with
          | false => rfl
          | true => rw [hap.mp h] at hp; cases hp
        obtain rfl := hf hr0
        walk_at "go"
        refine i_ndecF (by simp) ?_
        walk_at "go"
        exact ⟨rfl, x9.trans x10⟩
      · rw [hp] at hdue4
        cases hdue4
        obtain ⟨t, rfl⟩ := ht (hap.mpr hp)
        walk_at "go"
        refine i_ndecF (by simp) ?_
        walk_at "go"
        exact ⟨rfl, x9.trans x10⟩
    · walk_at "go"
      exact ⟨rfl, x9⟩
  rintro σ' H10 ⟨rfl, x10⟩
  obtain ⟨htl, hrw, st, hkp⟩ := SS ⟨rfl, x10⟩
  clear SS
  walk_at "go"
  refine ⟨Is s, s, k + 20, _, rfl, st, st.mok, by omega, hkp, hok, fun v1 d1 Ha ok1 hv1 xa ga sa => ?_⟩
  walk_at "go"
  refine ⟨Is s, s, _, _, rfl, sa, sa.mok, by omega, hkp.ext xa, hok, fun v2 d2 Hb ok2 hv2 xb gb sb => ?_⟩
  walk_at "go"
  refine i_nwL (by simp) fun l1 Hc nc xc hc => ?_
  have xac : Ext (Is s) H10 Hc := xa.trans (xb.trans xc.weak)
  have sc := sb.ext xc
  walk_at "go"
  refine ⟨Is s, s, _, n, p, b1, b2, b3, rfl, rfl, rfl, sc, sc.mok, by omega, hrw.ext xac, o1, o2, o3, fun v3 d3 Hd ok3 hv3 xd gd sd => ?_⟩
  walk_at "go"
  have xad := xac.trans xd
  refine ⟨Is s, s, _, n, p, b1, b2, b3, rfl, rfl, rfl, sd, sd.mok, by omega, hrw.ext xad, o1, o2, o3, fun v4 d4 He ok4 hv4 xe ge se => ?_⟩
  walk_at "go"
  have xae := xad.trans xe
  refine i_nwL (by simp) fun l2 Hf nf xf hf => ?_
  have l1s : ∀ {Hx : Hp}, Ext (Is s) Hc Hx → Hx l1 = some (.lst [v1, v2]) := fun x => x _ _ (fun z => sb.ne nc (show l1 = s from z).symm) hc
  refine i_cat (l1s (xd.trans (xe.trans xf.weak))) hf (by simp) fun m Hg ng xg hm => ?_
  have xeg := xf.trans xg
  have xag := xae.trans xeg.weak
  have hA : RpA a.ct (Is s) Hg ([v1, v2] ++ [v3, v4, kept]) [d1, d2, d3, d4, paperD n b1 b2 b3] := .cons (hv1.ext (xb.trans (xc.weak.trans (xd.trans (xe.trans xeg.weak))))) (.cons (hv2.ext (xc.weak.trans (xd.trans (xe.trans xeg.weak)))) (.cons (hv3.ext (xe.trans xeg.weak)) (.cons (hv4.ext xeg.weak) (.cons (hkp.ext xag) .nil))))
  have okA : ∀ d ∈ [d1, d2, d3, d4, paperD n b1 b2 b3], okD 501 30 d = true := fun d hd => by
    simp only [List.mem_cons, List.not_mem_nil, or_false] at hd
    rcases hd with rfl | rfl | rfl | rfl | rfl
    · exact ok_up (Nat.le_refl _) (by omega) ok1
    · exact ok_up (Nat.le_refl _) (by omega) ok2
    · exact ok3
    · exact ok4
    · exact ok_up (by omega) (by omega) hok
  have htg := (htl.ext xag).zero
  have hrg := (hrw.ext xag).zero
  have sg := se.ext xeg
  walk_at "go"
  refine f_list (SqL.of hm) (fun i σ Hx => (∃ v, σ = [some (V.ref s), some (.int n), some (.ref p), some (.ref D), some due, some pap, some kept, some (.ref m), v, none, none]) ∧ Ext N0 Hg Hx) ⟨⟨_, rfl⟩, Ext.refl _ _⟩ (fun i σ Hx _ e => SqL.of (e.2 _ _ (fun z => z) hm)) ?_ ?_
  · rintro i v σ Hx hv ⟨⟨_, rfl⟩, y1⟩
    obtain ⟨d, hd, hr1⟩ := hA.getV hv
    walk_at "go"
    refine ⟨n, D, p, b1, b2, b3, d, rfl, rfl, rfl, htg.ext y1, hrg.ext y1, (hr1.zero).ext y1, okA d (List.mem_of_getElem? hd), fun H' y2 => ?_⟩
    walk_at "go"
    exact ⟨⟨_, rfl⟩, y1.trans y2⟩
  · rintro σ Hx ⟨⟨_, rfl⟩, y1⟩
    walk_at "go"
    refine ⟨n, D, p, b1, b2, b3, rfl, rfl, rfl, htg.ext y1, hrg.ext y1, fun Hy y2 => ?_⟩
    have y12 := y1.trans y2
    walk_at "go"
    obtain ⟨ts, k0, kx⟩ := (htg.ext y12).at
    obtain ⟨rs, j0, jx⟩ := (hrg.ext y12).at
    refine c_rg (n := 3) (M := N0) MOk.zero (by omega) (fun _ _ _ => True) (fun _ _ y _ => y = .bl true) fun D5 nD5 => ⟨fun _ _ _ _ _ e => e, fun _ _ _ _ e => e, trivial, ?_, ?_⟩
    · intro i H11 N N' hi z1 m1 _ nx
      obtain ⟨qt, e1, tq⟩ := kx i hi
      obtain ⟨qr, e2, rq⟩ := jx i hi
      walk_at "go"
      refine i_yes rfl ?_
      walk_at "go"
      refine .inl (i_ixL ((k0.plus nD5).ext z1) e1 ?_)
      walk_at "go"
      refine .inl (i_ixL ((j0.plus nD5).ext z1) e2 ?_)
      walk_at "go"
      refine ⟨qt, n, _, qr, rfl, rfl, rfl, ((tq.plus nD5).ext z1).zero, ((rq.plus nD5).ext z1).2, fun H12 z2 => ?_⟩
      exact nx _ _ z2 MOk.zero rfl trivial
    · intro acc H11 hl11 hr11 hd11 z1 _ _
      have : acc = [.bl true, .bl true, .bl true] := by
        match acc, hl11, hr11 with
        | [a0, a1, a2], _, hr11 => rw [hr11 0 a0 rfl, hr11 1 a1 rfl, hr11 2 a2 rfl]
      subst this
      walk_at "go"
      refine i_nwL (by simp) fun t6 H12 n12 z2 e6 => ?_
      refine i_eqT3 (z2 _ _ (fun z => z) hd11) e6 ?_
      exact q _ ((sg.ext (y12.trans (z1.trans z2))).le (by omega))
end Bs
set_option Elab.async false
set_option linter.all false
set_option maxRecDepth 100000
set_option maxHeartbeats 400000
namespace Bs
open PySem PySem.Spec PyProof.Rows L2 SX
open C8 (pe_gc pss_cut)
local macro_rules | `(tactic| walk_at "xt") => `(tactic| first | assumption | exact Ext.weak (by assumption) | exact Ext.is (by assumption) (by assumption) | exact Ext.plus (by assumption) | exact Ext.plus (Ext.weak (by assumption)) | exact Ext.plus (Ext.is (by assumption) (by assumption)) | exact Ext.set plus_self)
local macro_rules | `(tactic| walk_at "gr") => `(tactic| first | assumption | exact Ext.grow (by assumption) | exact Grow.upd)
local macro_rules | `(tactic| walk_at "mo") => `(tactic| first | assumption | exact MOk.zero | ((first | refine MOk.grow ?_ (by walk_at "gr") | exact MOk.upd (by walk_at "mo")); walk_at "mo") | exact MOk.plus (by walk_at "mo") (by assumption))
local macro_rules | `(tactic| walk_at "hp") => `(tactic| first
  | assumption | exact At.raw (by assumption)
  | exact At.mk' (by walk_at "mo") (by assumption) (by assumption)
  | ((first | refine At.ext (by walk_at "xt") ?_ | refine Rp.ext (by walk_at "xt") ?_ | refine RpA.ext (by walk_at "xt") ?_ | refine Tb.ext (by walk_at "xt") ?_); walk_at "hp")
  | ((first | refine At.plus (by assumption) ?_ | refine Rp.plus (by assumption) ?_ | refine RpA.plus (by assumption) ?_ | refine Tb.plus (by assumption) ?_); walk_at "hp"))
local macro_rules | `(tactic| walk_at "at") => `(tactic| first | assumption | exact At.get (M := N0) (by walk_at "hp"))
local macro_rules | `(tactic| walk_at "sq") => `(tactic| first | exact SqL.of (by walk_at "at") | exact SqT.of (by walk_at "at"))
local macro_rules | `(tactic| walk_at "st") => `(tactic| with_reducible first
  | refine i_seq ?_ | refine i_asg ?_ | refine i_ret ?_ | refine i_retN ?_ | refine i_drop ?_ | refine i_ifS ?_ | refine i_next ?_ | refine i_brk ?_
  | refine i_gname ?_ | refine i_gsub ?_ | refine i_c ?_ | refine i_op ?_ | refine i_un ?_ | refine i_I0 ?_ | refine i_U ?_ | refine i_isN ?_ | refine i_notN ?_
  | refine i_test ?_ | refine i_tB ?_ | refine i_bl ?_ | refine i_and ?_ | refine i_or ?_ | refine i_not ?_ | refine i_andV ?_ | refine i_orV ?_ | refine i_notV ?_ | refine i_ifE ?_
  | refine i_nil ?_ | refine i_cons ?_ | refine i_for ?_ | refine i_iL ?_ | refine i_iT ?_ | refine i_iR ?_ | refine i_lc ?_ | refine i_prp ?_ | refine i_mk ?_ | refine i_sS ?_ | refine i_sN ?_ | refine i_nsS ?_ | refine i_nsN ?_ | refine i_fld ?_ | refine i_sf ?_ | refine i_inO ?_ | refine i_lsO ?_ | refine i_tpO ?_ | refine i_lnO ?_ | refine i_cb ?_ | refine i_call ?_ | refine i_tup ?_ | refine i_lst ?_ | refine i_dnew ?_ | refine i_inI ?_ | refine i_inB ?_ | refine i_rgX ?_ | refine i_lrO ?_ | refine i_rg1 ?_ | refine i_nF ?_ | refine i_nT ?_ | refine i_tt ?_ | refine i_ff ?_ | refine i_ifT ?_ | refine i_ifF ?_
  | refine i_eqI ?_ | refine i_eqS ?_ | refine i_eqB ?_ | refine i_neI ?_ | refine i_neS ?_ | refine i_dR ?_ | refine i_dI ?_ | refine i_dT ?_ | refine i_dS ?_ | refine i_dN ?_ | refine i_nR ?_ | refine i_nI ?_ | refine i_nN ?_
  | (refine i_var (by with_unfolding_all rfl) ?_) | refine i_eq rfl ?_ | refine i_ne rfl ?_)
local macro_rules | `(tactic| walk_at "sc") => `(tactic| first | exact (Rp.int (M := N0) _) | exact (Rp.str (M := N0) _) | exact (Rp.bl (M := N0) _) | exact (Rp.non (M := N0)) | assumption | exact Rp.tab (by assumption) | exact Tb.rp (by assumption))
local macro_rules | `(tactic| walk_at "sd") => `(tactic| simp only [d_Bool_non, d_Bool_bl, d_Bool_int, d_Bool_str, d_Bool_lst, d_Bool_tup, d_Bool_tab, d_Bool_dic, d_Int_non, d_Int_bl, d_Int_int, d_Int_str, d_Int_lst, d_Int_tup, d_Int_tab, d_Int_dic, d_Str_non, d_Str_bl, d_Str_int, d_Str_str, d_Str_lst, d_Str_tup, d_Str_tab, d_Str_dic, d_List_non, d_List_bl, d_List_int, d_List_str, d_List_lst, d_List_tup, d_List_tab, d_List_dic, d_Tup_non, d_Tup_bl, d_Tup_int, d_Tup_str, d_Tup_lst, d_Tup_tup, d_Tup_tab, d_Tup_dic, d_Tab_non, d_Tab_bl, d_Tab_int, d_Tab_str, d_Tab_lst, d_Tab_tup, d_Tab_tab, d_Tab_dic, Bool.not_true, Bool.not_false, Bool.true_or, Bool.false_or, Bool.or_true, Bool.or_false, Bool.and_true, Bool.true_and, Bool.and_false, Bool.false_and, if_true, if_false, Bool.false_eq_true])
local macro_rules | `(tactic| walk_at "isi") => `(tactic| ((first | with_reducible apply i_isB | with_reducible apply i_isI | with_reducible apply i_isS | with_reducible apply i_isL | with_reducible apply i_isT | with_reducible apply i_isTab); (focus assumption); (focus walk_at "sc"); try simp only [d_Bool_non, d_Bool_bl, d_Bool_int, d_Bool_str, d_Bool_lst, d_Bool_tup, d_Bool_tab, d_Bool_dic, d_Int_non, d_Int_bl, d_Int_int, d_Int_str, d_Int_lst, d_Int_tup, d_Int_tab, d_Int_dic, d_Str_non, d_Str_bl, d_Str_int, d_Str_str, d_Str_lst, d_Str_tup, d_Str_tab, d_Str_dic, d_List_non, d_List_bl, d_List_int, d_List_str, d_List_lst, d_List_tup, d_List_tab, d_List_dic, d_Tup_non, d_Tup_bl, d_Tup_int, d_Tup_str, d_Tup_lst, d_Tup_tup, d_Tup_tab, d_Tup_dic, d_Tab_non, d_Tab_bl, d_Tab_int, d_Tab_str, d_Tab_lst, d_Tab_tup, d_Tab_tab, d_Tab_dic]))
local macro_rules | `(tactic| walk_at "om") => `(tactic| first | ((with_reducible refine i_decF ?_ ?_); (focus omega)) | ((with_reducible refine i_decT ?_ ?_); (focus omega)) | ((with_reducible refine i_ndecF ?_ ?_); (focus omega)) | ((with_reducible refine i_ndecT ?_ ?_); (focus omega)))
local macro_rules | `(tactic| walk_at "go") => `(tactic| ((repeat (first | walk_at "st" | walk_at "isi" | walk_at "om")); try dsimp only [List.set]))
variable {W : Wd} {a : Ad}
local macro_rules | `(tactic| walk_at "st") => `(tactic| with_reducible first | refine i_sl ?_ | refine i_nopart ?_ | refine i_part ?_ | refine i_partI ?_ | refine i_bm ?_ | refine i_bm0 ?_ | refine i_m1 ?_ | refine i_m1S ?_)
/-! L22: bad tables. -/
def ones (w : Nat) : List Int := List.replicate (2 ^ w) 1
theorem ones_ok {w : Nat} (h : w ≤ 6) : TabOk w (ones w) := ⟨h, by simp [ones], fun b hb => .inr (List.eq_of_mem_replicate hb)⟩
theorem bF_ones {w x : Nat} (hx : x < 2 ^ w) : bF (ones w) x = true := by
  simp [bF, ones, List.getD_eq_getElem?_getD, List.getElem?_replicate, hx]
theorem ones_ring (w : Nat) : Arw.Ring w (bF (ones w)) (bF (ones w)) (bF (ones w)) :=
  have h0 := Arw.one_pos w
  ⟨0, Arw.cpl w 0, 0, h0, Arw.cpl_lt h0, h0, Arw.nae_cpl h0, by rw [bF_ones h0, bF_ones (Arw.cpl_lt h0)], rfl⟩
theorem ones_plain {w : Nat} (h : w ≤ 6) : plain w (ones w) (ones w) (ones w) = none := ring_plain (ones_ok h) (ones_ok h) (ones_ok h) (ones_ring w)
theorem cba_ring {w : Nat} (h : w ≤ 6) : isRing w (ones w) (ones w) (ones w) (.tup [.str "ring", .lst (List.replicate w (.str "cba"))]) = true := by
  have e : List.replicate w (Dt.str "cba") = (List.replicate w ("cba" : Str)).map Dt.str := by rw [List.map_replicate]
  have ho : ∀ o ∈ List.replicate w ("cba" : Str), o ∈ orders := fun o ho => by rw [List.eq_of_mem_replicate ho]; decide
  have hl : (List.replicate w ("cba" : Str)).length = w := List.length_replicate
  have lt : ∀ q, wqn q (List.replicate w ("cba" : Str)) < 2 ^ w := fun q => by
    have := (wq_lo q (List.replicate w ("cba" : Str))).2
    rw [wq_nat, hl] at this
    exact_mod_cast this
  have hr : outc (ones w) (ones w) (ones w) (List.replicate w "cba") = "ring" := (outc_iff (ones_ok h) (ones_ok h) (ones_ok h) hl).mpr ⟨by rw [bF_ones (lt 0), bF_ones (lt 1)], by rw [bF_ones (lt 0), bF_ones (lt 2)]⟩
  rw [isR_ring, e]
  show (decide (((List.replicate w ("cba" : Str)).map Dt.str).length = w) && (((List.replicate w ("cba" : Str)).map Dt.str).all isOrd && decide (outc (ones w) (ones w) (ones w) (((List.replicate w ("cba" : Str)).map Dt.str).map strD) = "ring"))) = true
  rw [strD_map, hr, isOrd_all ho, List.length_map, hl]
  simp
def on (e : Option Nat) : Option (Nat × List Int) := e.map fun w => (w, ones w)
def fo (fw : Nat) : Option Nat → Str
  | none => "WrongKind"
  | some w => if w = fw then "" else "WrongSize"
def dueD : Option (Nat × Str) → Dt
  | some p => .tup [.str (erS p.1), .str p.2]
  | none => .non
theorem bad_due {fw : Nat} {e1 e2 e3 : Option Nat} (h : ∀ w, e1 = some w → w = fw) : ffD [("first", fo fw e1), ("second", fo fw e2), ("third", fo fw e3)] = dueD (flJ (on e1) (on e2) (on e3)) := by
  have n1 : (!decide (("WrongKind" : Str) = "")) = true := by decide
  have n2 : (!decide (("WrongSize" : Str) = "")) = true := by decide
  have n3 : (!decide (("" : Str) = "")) = false := by decide
  unfold ffD
  match e1, h with
  | none, _ =>
    rw [List.find?_cons]
    simp only [fo, n1]
    rfl
  | some w, h =>
    obtain rfl := h w rfl
    have f1 : fo w (some w) = "" := if_pos rfl
    rw [List.find?_cons]
    simp only [f1, n3]
    rw [List.find?_cons]
    match e2 with
    | none =>
      simp only [fo, n1]
      rfl
    | some w2 =>
      by_cases hw : w2 = w
      · have f2 : fo w (some w2) = "" := if_pos hw
        simp only [f2, n3]
        rw [List.find?_cons]
        match e3 with
        | none =>
          simp only [fo, n1, flJ, on, Option.map_some, Option.map_none, hw, ne_eq, not_true_eq_false, if_false]
          rfl
        | some w3 =>
          by_cases hw3 : w3 = w
          · obtain rfl := hw
            obtain rfl := hw3
            simp only [f1, flJ, on, Option.map_some, ne_eq, not_true_eq_false, if_false, List.find?_nil, decide_true, Bool.not_true]
            rfl
          · have f3 : fo w (some w3) = "WrongSize" := if_neg hw3
            simp only [f3, n2, flJ, on, Option.map_some, hw, ne_eq, not_true_eq_false, if_false, hw3, not_false_eq_true, if_true]
            rfl
      · have f2 : fo w (some w2) = "WrongSize" := if_neg hw
        simp only [f2, n2, flJ, on, Option.map_some, hw, ne_eq, not_false_eq_true, if_true]
        rfl
theorem bad_none {fw : Nat} {e1 e2 e3 : Option Nat} (h : ∀ w, e1 = some w → w = fw) (hn : flJ (on e1) (on e2) (on e3) = none) : e1 = some fw ∧ e2 = some fw ∧ e3 = some fw := by
  match e1, e2, e3, h, hn with
  | none, _, _, _, hn => cases hn
  | some w, none, _, h, hn => cases hn
  | some w, some w2, none, h, hn =>
    simp only [flJ, on, Option.map_some, Option.map_none] at hn
    split at hn <;> cases hn
  | some w, some w2, some w3, h, hn =>
    obtain rfl := h w rfl
    simp only [flJ, on, Option.map_some] at hn
    split at hn
    · cases hn
    · rename_i h2
      split at hn
      · cases hn
      · rename_i h3
        exact ⟨rfl, congrArg some (Classical.byContradiction h2), congrArg some (Classical.byContradiction h3)⟩
/-- the tables so far -/
inductive Gs (ct : Addr) (M : Mt) (H : Hp) : List V → List (Option Nat) → Prop
  | nil : Gs ct M H [] []
  | cons {v : V} {vs : List V} {e : Option Nat} {es : List (Option Nat)} : Gv ct M H v (on e) → Gs ct M H vs es → Gs ct M H (v :: vs) (e :: es)
section
variable {ct : Addr} {M : Mt} {H H' : Hp} {vs : List V} {es : List (Option Nat)} {v : V} {e : Option Nat}
theorem Gs.ext (x : Ext M H H') (h : Gs ct M H vs es) : Gs ct M H' vs es := by
  induction h with
  | nil => exact .nil
  | cons g _ ih => exact .cons (g.ext x) ih
theorem Gs.snoc (h : Gs ct M H vs es) (g : Gv ct M H v (on e)) : Gs ct M H (vs ++ [v]) (es ++ [e]) := by
  induction h with
  | nil => exact .cons g .nil
  | cons g' _ ih => exact .cons g' ih
theorem Gs.length (h : Gs ct M H vs es) : vs.length = es.length := by
  induction h with
  | nil => rfl
  | cons _ _ ih => simp [ih]
end
def nms : List Str := ["first", "second", "third"]
def flts (fw : Nat) (es : List (Option Nat)) : List (Str × Str) := nms.zip (es.map (fo fw))
theorem set_last {α : Type} (xs : List α) (y z : α) : (xs ++ [y]).set xs.length z = xs ++ [z] := by
  rw [List.set_append_right _ _ (Nat.le_refl _)]
  simp
theorem ixN_last (k : Nat) : ixN (k + 1) (-1) = some k := by
  unfold ixN
  rw [if_neg (by omega), if_pos (by omega)]
  congr 1
  omega
end Bs
set_option Elab.async false
set_option linter.all false
set_option maxRecDepth 100000
set_option maxHeartbeats 400000
namespace Bs
open PySem PySem.Spec PyProof.Rows L2 SX
open C8 (pe_gc pss_cut)
local macro_rules | `(tactic| walk_at "xt") => `(tactic| first | assumption | exact Ext.weak (by assumption) | exact Ext.is (by assumption) (by assumption) | exact Ext.plus (by assumption) | exact Ext.plus (Ext.weak (by assumption)) | exact Ext.plus (Ext.is (by assumption) (by assumption)) | exact Ext.set plus_self)
local macro_rules | `(tactic| walk_at "gr") => `(tactic| first | assumption | exact Ext.grow (by assumption) | exact Grow.upd)
local macro_rules | `(tactic| walk_at "mo") => `(tactic| first | assumption | exact MOk.zero | ((first | refine MOk.grow ?_ (by walk_at "gr") | exact MOk.upd (by walk_at "mo")); walk_at "mo") | exact MOk.plus (by walk_at "mo") (by assumption))
local macro_rules | `(tactic| walk_at "hp") => `(tactic| first
  | assumption | exact At.raw (by assumption)
  | exact At.mk' (by walk_at "mo") (by assumption) (by assumption)
  | ((first | refine At.ext (by walk_at "xt") ?_ | refine Rp.ext (by walk_at "xt") ?_ | refine RpA.ext (by walk_at "xt") ?_ | refine Tb.ext (by walk_at "xt") ?_); walk_at "hp")
  | ((first | refine At.plus (by assumption) ?_ | refine Rp.plus (by assumption) ?_ | refine RpA.plus (by assumption) ?_ | refine Tb.plus (by assumption) ?_); walk_at "hp"))
local macro_rules | `(tactic| walk_at "at") => `(tactic| first | assumption | exact At.get (M := N0) (by walk_at "hp"))
local macro_rules | `(tactic| walk_at "sq") => `(tactic| first | exact SqL.of (by walk_at "at") | exact SqT.of (by walk_at "at"))
local macro_rules | `(tactic| walk_at "st") => `(tactic| with_reducible first
  | refine i_seq ?_ | refine i_asg ?_ | refine i_ret ?_ | refine i_retN ?_ | refine i_drop ?_ | refine i_ifS ?_ | refine i_next ?_ | refine i_brk ?_
  | refine i_gname ?_ | refine i_gsub ?_ | refine i_c ?_ | refine i_op ?_ | refine i_un ?_ | refine i_I0 ?_ | refine i_U ?_ | refine i_isN ?_ | refine i_notN ?_
  | refine i_test ?_ | refine i_tB ?_ | refine i_bl ?_ | refine i_and ?_ | refine i_or ?_ | refine i_not ?_ | refine i_andV ?_ | refine i_orV ?_ | refine i_notV ?_ | refine i_ifE ?_
  | refine i_nil ?_ | refine i_cons ?_ | refine i_for ?_ | refine i_iL ?_ | refine i_iT ?_ | refine i_iR ?_ | refine i_lc ?_ | refine i_prp ?_ | refine i_mk ?_ | refine i_sS ?_ | refine i_sN ?_ | refine i_nsS ?_ | refine i_nsN ?_ | refine i_fld ?_ | refine i_sf ?_ | refine i_inO ?_ | refine i_lsO ?_ | refine i_tpO ?_ | refine i_lnO ?_ | refine i_cb ?_ | refine i_call ?_ | refine i_tup ?_ | refine i_lst ?_ | refine i_dnew ?_ | refine i_inI ?_ | refine i_inB ?_ | refine i_rgX ?_ | refine i_lrO ?_ | refine i_rg1 ?_ | refine i_nF ?_ | refine i_nT ?_ | refine i_tt ?_ | refine i_ff ?_ | refine i_ifT ?_ | refine i_ifF ?_
  | refine i_eqI ?_ | refine i_eqS ?_ | refine i_eqB ?_ | refine i_neI ?_ | refine i_neS ?_ | refine i_dR ?_ | refine i_dI ?_ | refine i_dT ?_ | refine i_dS ?_ | refine i_dN ?_ | refine i_nR ?_ | refine i_nI ?_ | refine i_nN ?_
  | (refine i_var (by with_unfolding_all rfl) ?_) | refine i_eq rfl ?_ | refine i_ne rfl ?_)
local macro_rules | `(tactic| walk_at "sc") => `(tactic| first | exact (Rp.int (M := N0) _) | exact (Rp.str (M := N0) _) | exact (Rp.bl (M := N0) _) | exact (Rp.non (M := N0)) | assumption | exact Rp.tab (by assumption) | exact Tb.rp (by assumption))
local macro_rules | `(tactic| walk_at "sd") => `(tactic| simp only [d_Bool_non, d_Bool_bl, d_Bool_int, d_Bool_str, d_Bool_lst, d_Bool_tup, d_Bool_tab, d_Bool_dic, d_Int_non, d_Int_bl, d_Int_int, d_Int_str, d_Int_lst, d_Int_tup, d_Int_tab, d_Int_dic, d_Str_non, d_Str_bl, d_Str_int, d_Str_str, d_Str_lst, d_Str_tup, d_Str_tab, d_Str_dic, d_List_non, d_List_bl, d_List_int, d_List_str, d_List_lst, d_List_tup, d_List_tab, d_List_dic, d_Tup_non, d_Tup_bl, d_Tup_int, d_Tup_str, d_Tup_lst, d_Tup_tup, d_Tup_tab, d_Tup_dic, d_Tab_non, d_Tab_bl, d_Tab_int, d_Tab_str, d_Tab_lst, d_Tab_tup, d_Tab_tab, d_Tab_dic, Bool.not_true, Bool.not_false, Bool.true_or, Bool.false_or, Bool.or_true, Bool.or_false, Bool.and_true, Bool.true_and, Bool.and_false, Bool.false_and, if_true, if_false, Bool.false_eq_true])
local macro_rules | `(tactic| walk_at "isi") => `(tactic| ((first | with_reducible apply i_isB | with_reducible apply i_isI | with_reducible apply i_isS | with_reducible apply i_isL | with_reducible apply i_isT | with_reducible apply i_isTab); (focus assumption); (focus walk_at "sc"); try simp only [d_Bool_non, d_Bool_bl, d_Bool_int, d_Bool_str, d_Bool_lst, d_Bool_tup, d_Bool_tab, d_Bool_dic, d_Int_non, d_Int_bl, d_Int_int, d_Int_str, d_Int_lst, d_Int_tup, d_Int_tab, d_Int_dic, d_Str_non, d_Str_bl, d_Str_int, d_Str_str, d_Str_lst, d_Str_tup, d_Str_tab, d_Str_dic, d_List_non, d_List_bl, d_List_int, d_List_str, d_List_lst, d_List_tup, d_List_tab, d_List_dic, d_Tup_non, d_Tup_bl, d_Tup_int, d_Tup_str, d_Tup_lst, d_Tup_tup, d_Tup_tab, d_Tup_dic, d_Tab_non, d_Tab_bl, d_Tab_int, d_Tab_str, d_Tab_lst, d_Tab_tup, d_Tab_tab, d_Tab_dic]))
local macro_rules | `(tactic| walk_at "om") => `(tactic| first | ((with_reducible refine i_decF ?_ ?_); (focus omega)) | ((with_reducible refine i_decT ?_ ?_); (focus omega)) | ((with_reducible refine i_ndecF ?_ ?_); (focus omega)) | ((with_reducible refine i_ndecT ?_ ?_); (focus omega)))
local macro_rules | `(tactic| walk_at "go") => `(tactic| ((repeat (first | walk_at "st" | walk_at "isi" | walk_at "om")); try dsimp only [List.set]))
variable {W : Wd} {a : Ad}
local macro_rules | `(tactic| walk_at "st") => `(tactic| with_reducible first | refine i_sl ?_ | refine i_nopart ?_ | refine i_part ?_ | refine i_partI ?_ | refine i_bm ?_ | refine i_bm0 ?_ | refine i_m1 ?_ | refine i_m1S ?_)
/-! L23: calls with bad tables. -/
theorem nm_first {i : Nat} {nm : Str} (h : nms[i]? = some nm) : (nm = "first" ↔ i = 0) := by
  match i, h with
  | 0, h => cases h; exact ⟨fun _ => rfl, fun _ => rfl⟩
  | 1, h => cases h; exact ⟨fun e => absurd e (by decide), fun e => by cases e⟩
  | 2, h => cases h; exact ⟨fun e => absurd e (by decide), fun e => by cases e⟩
def Fst (fw : Nat) (es : List (Option Nat)) : Prop := ∀ w, es[0]? = some (some w) → w = fw
theorem flts_snoc {fw : Nat} {es : List (Option Nat)} {e : Option Nat} {nm : Str} (h : nms[es.length]? = some nm) : flts fw (es ++ [e]) = flts fw es ++ [(nm, fo fw e)] := by
  match es, h with
  | [], h => cases h; rfl
  | [a], h => cases h; rfl
  | [a, b], h => cases h; rfl
  | _ :: _ :: _ :: _, h => simp [nms] at h
theorem Rp.strs {ct : Addr} {H : Hp} {v : V} {x y : Str} {s : Addr} {zs : List V} (h : Rp ct N0 H v (.tup [.str x, .str y])) (hs : H s = some (.lst zs)) : Rp ct (Is s) H v (.tup [.str x, .str y]) := by
  obtain ⟨t, ys, rfl, ht, hy⟩ := h.tupAt
  refine .tup ⟨fun z => ?_, ht.2⟩ ?_
  · have z : t = s := z
    have := ht.2
    rw [z, hs] at this
    cases this
  · cases hy with
    | cons h1 h2 => cases h2 with
      | cons h3 h4 => cases h1; cases h3; cases h4; exact .cons (.str _) (.cons (.str _) .nil)
theorem Fst.snoc {fw : Nat} {es : List (Option Nat)} {e : Option Nat} (h : Fst fw es) (h0 : es = [] → ∀ w, e = some w → w = fw) : Fst fw (es ++ [e]) := by
  intro w hw
  match es, h, h0 with
  | [], _, h0 =>
    have : e = some w := by simpa using hw
    exact h0 rfl w this
  | a :: r, h, _ => exact h w (by simpa using hw)
theorem flJ_ok {o1 o2 o3 : Option (Nat × List Int)} {j : Nat} {s : Str} (h : flJ o1 o2 o3 = some (j, s)) : okD 1000 30 (.tup [.str "refused", .tup [.str (erS j), .str s]]) = true := by
  match o1, o2, o3 with
  | none, _, _ => cases h; decide +kernel
  | some _, none, _ => cases h; decide +kernel
  | some (n, _), some (n2, _), none =>
    simp only [flJ] at h
    split at h <;> cases h <;> decide +kernel
  | some (n, _), some (n2, _), some (n3, _) =>
    simp only [flJ] at h
    split at h
    · cases h; decide +kernel
    · split at h <;> cases h
      decide +kernel
def badD : List Dt := [.non, .int 5, .str "1:01", .lst [.int 0, .int 1], .bl true, .tup [.int 1, .int 2], .dic]
theorem badD_tab : ∀ d ∈ badD, d.isTab = false := by
  intro d hd
  simp only [badD, List.mem_cons, List.not_mem_nil, or_false] at hd
  rcases hd with rfl | rfl | rfl | rfl | rfl | rfl | rfl <;> rfl
def sp_bad : Sp := sp1 fun x H Q _ => ∃ s k, x = .ref s ∧ Sto (Is s) H s k ∧ k + 100 ≤ 1000000 ∧ ∀ H', Sto (Is s) H' s (k + 100) → Q (.bl true) H'
abbrev s_law_bad : Stmt := top 102
abbrev N_law_bad : List Str := ["_law_store_here", "_law_which", "_law_first_wide", "_law_tables", "_law_faults", "_law_name", "_law_wide_here", "_law_kind", "_law_due", "_law_at", "_law_given", "_law_told", "_law_x", "_law_k"]
abbrev P_law_bad : List Str := ["_law_store_here"]
theorem sc_law_bad : FnScope N_law_bad P_law_bad (defScope s_law_bad) := ⟨rfl, rfl, rfl, by decide +kernel, rfl, by decide +kernel, by decide +kernel⟩
theorem bi_law_bad {K : PySem.W.Frag} {f : Addr} {fd : FuncData} (F : FnF K "_law_bad" "_law_bad" s_law_bad [] f fd) : Binds K fd P_law_bad [] := FunD.bindsN F fun _ _ _ _ _ _ us hl => match us, hl with | [_], _ => rfl
theorem c_law_bad (T : Txt W.K W.mg a) (D : DefAt W "_law_bad" "_law_bad" "_law_bad" s_law_bad) (c_law_take : Cal W CX0 3 "_law_take" P_law_take sp_take) (c_Table : Mkr W CX0 4 a.ct "Table" P_Table_init (sp_init a.ct)) (c_law_first_fault : Cal W CX0 1 "_law_first_fault" P_law_first_fault (sp_ff a.ct))
    (c_law_odd : Cal W CX0 4 "_law_odd" P_law_odd (sp_odd a.ct)) (c_law_called : Cal W CX0 11 "_law_called" P_law_called (sp_called a)) (c_law_same : Cal W CX0 31 "_law_same" P_law_same (sp_same a.ct 1000 31)) : Cal W CX0 32 "_law_bad" P_law_bad sp_bad := cal_mk D sc_law_bad len1 (fun _ _ => bi_law_bad) fun f cdv A outer s H vs Q E hr h => by
  obtain ⟨_, rfl, s, k, rfl, hs, hk, q⟩ := sp1_of h
  refine ⟨_, (PSs.nox (pss_cons (ps_set (i := 1) sc_law_bad.nd rfl (by first | exact Or.inl rfl | exact Or.inr rfl) (pe_cal c_law_take hr (by omega) pass0 rfl (pa_cons (pv 0) (pa_cons pe_int pa_nil))))
 (pss_cons (ps_set (i := 2) sc_law_bad.nd rfl (by first | exact Or.inl rfl | exact Or.inr rfl) (pe_cal c_law_take hr (by omega) pass0 rfl (pa_cons (pv 0) (pa_cons pe_int pa_nil))))
 (pss_cons (ps_set (i := 3) sc_law_bad.nd rfl (by first | exact Or.inl rfl | exact Or.inr rfl) (pe_lst pa_nil))
 (pss_cons (ps_set (i := 4) sc_law_bad.nd rfl (by first | exact Or.inl rfl | exact Or.inr rfl) (pe_lst pa_nil))
 (pss_cons (ps_for PassesOwn.never rfl (pi_list (pe_lst (pa_cons pe_str (pa_cons pe_str (pa_cons pe_str pa_nil))))) (pg_name (i := 5) sc_law_bad.nd rfl (by first | exact Or.inl rfl | exact Or.inr rfl))
  (pss_cons (ps_set (i := 6) sc_law_bad.nd rfl (by first | exact Or.inl rfl | exact Or.inr rfl) (pv 2))
 (pss_cons (ps_set (i := 7) sc_law_bad.nd rfl (by first | exact Or.inl rfl | exact Or.inr rfl) (pe_cal c_law_take hr (by omega) pass0 rfl (pa_cons (pv 0) (pa_cons pe_int pa_nil))))
 (pss_cut (ps_if (PW.pt (pw_and (pt_cmpR op_eq (pv 7) pe_int (by rfl)) (pw_and1 (pt_cmpR op_ne (pv 5) pe_str (by rfl)))))
  (pss_one (ps_set (i := 6) sc_law_bad.nd rfl (by first | exact Or.inl rfl | exact Or.inr rfl) (pe_op op_mod (pe_callTy call_int1 rfl T.int (by decide +kernel) (pa_cons (pe_op op_add (pe_op op_add (pv 6) pe_int) (pe_cal c_law_take hr (by omega) pass0 rfl (pa_cons (pv 0) (pa_cons pe_int pa_nil)))) pa_nil)) pe_int)))
  pss_nil)
 (pss_cons (ps_expr (pe_bm PySem.F.plainAttrs_list PySem.F.slot_list_append PySem.F.type_list_append mt_append (pv 3) (pa_cons (pe_mkr c_Table hr (by omega) rfl (pa_cons (pv 6) (pa_cons (pe_lc (own := [("_law_x", 12)]) (g := gName 12) (tt := tYes) rfl sc_law_bad.nd (pi_range1 (by rfl) T.range (pa_cons (pe_op op_shl pe_int (pv 6)) pa_nil)) (blkOk_by (N := N_law_bad) (sc := defScope s_law_bad) (by decide +kernel)) (fun _ _ _ _ _ => (pg_name (i := 12) sc_law_bad.nd rfl (by first | exact Or.inl rfl | exact Or.inr rfl))) (fun _ _ _ _ _ => pts_nil) (fun _ _ _ _ _ => pe_int)) pa_nil))) pa_nil)))
 (pss_cons (ps_expr (pe_bm PySem.F.plainAttrs_list PySem.F.slot_list_append PySem.F.type_list_append mt_append (pv 4) (pa_cons (pe_tup (pa_cons (pv 5) (pa_cons (pe_ix ix_seq (pe_lst (pa_cons pe_str (pa_cons pe_str pa_nil))) (pe_callTy call_int1 rfl T.int (by decide +kernel) (pa_cons (pe_cmpR op_ne (pv 6) (pv 2) (by rfl)) pa_nil)) (fun _ _ => rfl)) pa_nil))) pa_nil)))
 (pss_one (ps_if (pt_cmpR op_lt (pv 7) pe_int (by rfl))
  (pss_cons (ps_asg (pe_ix ix_seq (pe_lst (pa_cons pe_non (pa_cons pe_int (pa_cons pe_str (pa_cons (pe_lst (pa_cons pe_int (pa_cons pe_int pa_nil))) (pa_cons pe_bl (pa_cons (pe_tup (pa_cons pe_int (pa_cons pe_int pa_nil))) (pa_cons pe_dnewK pa_nil)))))))) (pe_cal c_law_take hr (by omega) pass0 rfl (pa_cons (pv 0) (pa_cons pe_int pa_nil))) (fun _ _ => rfl)) (pg_sub (pv 3) (pe_un un_neg pe_int) set_list))
 (pss_one (ps_asg (pe_tup (pa_cons (pv 5) (pa_cons pe_str pa_nil))) (pg_sub (pv 4) (pe_un un_neg pe_int) set_list))))
  pss_nil))))))))
 (pss_cons (ps_set (i := 8) sc_law_bad.nd rfl (by first | exact Or.inl rfl | exact Or.inr rfl) (pe_cal c_law_first_fault hr (by omega) pass0 rfl (pa_cons (pv 4) pa_nil)))
 (pss_cons (ps_set (i := 9) sc_law_bad.nd rfl (by first | exact Or.inl rfl | exact Or.inr rfl) (pe_cal c_law_take hr (by omega) pass0 rfl (pa_cons (pv 0) (pa_cons pe_int pa_nil))))
 (pss_cons (ps_set (i := 10) sc_law_bad.nd rfl (by first | exact Or.inl rfl | exact Or.inr rfl) (pe_ix ix_seq (pe_lst (pa_cons (pe_tup (pa_cons pe_str (pa_cons (pe_lc (own := [("_law_k", 13)]) (g := gName 13) (tt := tYes) rfl sc_law_bad.nd (pi_range1 (by rfl) T.range (pa_cons (pv 2) pa_nil)) (blkOk_by (N := N_law_bad) (sc := defScope s_law_bad) (by decide +kernel)) (fun _ _ _ _ _ => (pg_name (i := 13) sc_law_bad.nd rfl (by first | exact Or.inl rfl | exact Or.inr rfl))) (fun _ _ _ _ _ => pts_nil) (fun _ _ _ _ _ => pe_str)) pa_nil))) (pa_cons pe_non (pa_cons (pe_lst pa_nil) (pa_cons pe_str (pa_cons (pe_tup (pa_cons pe_str (pa_cons pe_int pa_nil))) (pa_cons (pe_cal c_law_odd hr (by omega) pass0 rfl (pa_cons (pv 0) pa_nil)) pa_nil))))))) (pv 9) (fun _ _ => rfl)))
 (pss_cons (ps_set (i := 11) sc_law_bad.nd rfl (by first | exact Or.inl rfl | exact Or.inr rfl) (pe_cal c_law_called hr (by omega) pass0 rfl (pa_cons (pv 1) (pa_cons (pe_op op_cat (pv 3) (pe_lst (pa_cons (pv 10) pa_nil))) pa_nil))))
 (pss_cons (ps_if (pt_cmp (pc_notN (pv 8)))
  (pss_one (ps_ret (pe_cal c_law_same hr (by omega) pass0 rfl (pa_cons (pv 11) (pa_cons (pe_tup (pa_cons pe_str (pa_cons (pv 8) pa_nil))) pa_nil)))))
  pss_nil)
 (pss_cons (ps_if (pt_cmpR op_gt (pv 1) pe_int (by rfl))
  (pss_one (ps_ret (pe_cal c_law_same hr (by omega) pass0 rfl (pa_cons (pv 11) (pa_cons (pe_tup (pa_cons pe_str (pa_cons (pe_cmpR op_eq (pv 9) pe_int (by rfl)) pa_nil))) pa_nil)))))
  pss_nil)
 (pss_one (ps_ret (pe_and (pe_cmpR op_eq (pe_ix ix_seq (pv 11) pe_int (fun _ _ => rfl)) pe_str (by rfl)) (pe_and (pe_callB call_isi rfl T.isinstance (by decide +kernel) (pa_cons (pe_ix ix_seq (pv 11) pe_int (fun _ _ => rfl)) (pa_cons (pe_bltn (v := .ty "tuple") rfl T.tuple (by decide +kernel) rfl) pa_nil))) (pe_one (pe_cmpR op_eq (pe_ix ix_seq (pe_ix ix_seq (pv 11) pe_int (fun _ _ => rfl)) pe_int (fun _ _ => rfl)) pe_str (by rfl))))))))))))))))))), ?_⟩
  walk_at "go"
  refine ⟨Is s, s, k, 3, rfl, rfl, hs, by omega, by omega, fun wh H1 _ hwh x1 g1 s1 => ?_⟩
  have hwh := hwh (by omega)
  walk_at "go"
  refine ⟨Is s, s, _, 4, rfl, rfl, s1, by omega, by omega, fun fwi H2 _ hfw x2 g2 s2 => ?_⟩
  have hfw := hfw (by omega)
  obtain ⟨fw, rfl⟩ := Int.eq_ofNat_of_zero_le hfw.1
  have hfw6 : fw ≤ 6 := by omega
  walk_at "go"
  refine i_nwL (by simp) fun lt H3 n3 x3 e3 => ?_
  walk_at "go"
  refine i_nwL (by simp) fun lf H4 n4 x4 e4 => ?_
  walk_at "go"
  refine i_nwL (by simp) fun ln H5 n5 x5 e5 => ?_
  have e5 : H5 ln = some (.lst (nms.map V.str)) := e5
  have slt : s ≠ lt := s2.ne n3
  have slf : s ≠ lf := (s2.ext x3).ne n4
  have ltf : lt ≠ lf := fun e => by rw [← e, e3] at n4; cases n4
  let P : Mt := Plus (Plus (Is s) lt) lf
  have Ps : P s := .inl (.inl rfl)
  have Plt : P lt := .inl (.inr rfl)
  have Plf : P lf := .inr rfl
  have nP : ∀ {b : Addr}, b ≠ s → b ≠ lt → b ≠ lf → ¬ P b := fun h1 h2 h3 z => z.elim (fun z => z.elim h1 h2) h3
  have s5 : Sto P H5 s (k + 2) := ((((s2.plus n3).ext x3).plus n4).ext x4).ext x5
  have m5 : MOk P H5 := fun b z e => by
    rcases z with (z | z) | z
    · exact s5.at (show H5 s = none by rw [← show b = s from z]; exact e)
    · rw [z, (x4.trans x5) _ _ (fun z => z) e3] at e; cases e
    · rw [z, x5 _ _ (fun z => z) e4] at e; cases e
  have nln : ¬ P ln := nP (fun e => by rw [e] at n5; exact (((s2.ext x3).ext x4).at n5)) (fun e => by rw [e, x4 _ _ (fun z => z) e3] at n5; cases n5) (fun e => by rw [e, e4] at n5; cases n5)
  -- the loop's state
  let Lp : Nat → L2.St → Hp → Prop := fun i σ Hx => ∃ v5 v6 v7 vs es ws, σ = [some (V.ref s), some (.int wh), some (.int (fw : Nat)), some (.ref lt), some (.ref lf), v5, v6, v7, none, none, none, none, none, none] ∧ Hx lt = some (.lst vs) ∧ Hx lf = some (.lst ws) ∧ Gs a.ct P Hx vs es ∧ RpA a.ct P Hx ws ((flts fw es).map ffR) ∧
    es.length = i ∧ Fst fw es ∧ Sto P Hx s (k + 2 + 3 * i) ∧ Ext P H5 Hx ∧ MOk P Hx
  refine f_list (SqL.of e5) Lp ⟨_, _, _, [], [], [], rfl, (x4.trans x5) _ _ (fun z => z) e3, x5 _ _ (fun z => z) e4, .nil, .nil, rfl, fun w e => by simp at e, s5, Ext.refl _ _, m5⟩ (fun i σ Hx _ e => ?_) ?_ ?_
  · obtain ⟨_, _, _, _, _, _, _, _, _, _, _, _, _, _, x, _⟩ := e
    exact SqL.of (x _ _ nln e5)
  · rintro i v σ Hx hv ⟨_, _, _, vs, es, ws, rfl, hlt, hlf, hG, hW, hle, hF, st, xx, mm⟩
    obtain ⟨nm, hnm, rfl⟩ : ∃ o, nms[i]? = some o ∧ v = .str o := by
      rw [List.getElem?_map] at hv
      cases e : nms[i]? with
      | none => rw [e] at hv; cases hv
      | some b => rw [e] at hv; exact ⟨b, rfl, (Option.some.inj hv).symm⟩
    have hi : i < 3 := (List.getElem?_eq_some_iff.mp hnm).1
    have hvl := hG.length
    walk_at "go"
    refine ⟨P, s, _, 6, rfl, rfl, st, by omega, by omega, fun kd Ha _ hkd xa ga sa => ?_⟩
    have hkd := hkd (by omega)
    have kl : ∀ {Hy Hz : Hp} {b : Addr} {o : HO}, Ext (Is s) Hy Hz → b ≠ s → Hy b = some o → Hz b = some o := fun x h e => x _ _ h e
    have hlt := kl xa slt.symm hlt
    have hlf := kl xa slf.symm hlf
    have hG := hG.ext (xa.is Ps)
    have hW := hW.ext (xa.is Ps)
    have xx := xx.trans (xa.is Ps)
    have mm := mm.grow ga
    clear st xa ga
    walk_at "go"
    refine i_cut (fun σ' Hx => ∃ w : Nat, σ' = [some (V.ref s), some (.int wh), some (.int (fw : Nat)), some (.ref lt), some (.ref lf), some (.str nm), some (.int (w : Nat)), some (.int kd), none, none, none, none, none, none] ∧ w ≤ 6 ∧ (i = 0 → w = fw) ∧ Hx lt = some (.lst vs) ∧ Hx lf = some (.lst ws) ∧ Gs a.ct P Hx vs es ∧ RpA a.ct P Hx ws ((flts fw es).map ffR) ∧
      Sto P Hx s (k + 2 + 3 * i + 2) ∧ Ext P H5 Hx ∧ MOk P Hx) ?_ ?_
    · have stay : ∃ w : Nat, [some (V.ref s), some (.int wh), some (.int (fw : Nat)), some (.ref lt), some (.ref lf), some (.str nm), some (.int (fw : Nat)), some (.int kd), none, none, none, none, none, none] = [some (V.ref s), some (.int wh), some (.int (fw : Nat)), some (.ref lt), some (.ref lf), some (.str nm), some (.int (w : Nat)), some (.int kd), none, none, none, none, none, none] ∧ w ≤ 6 ∧ (i = 0 → w = fw) ∧ Ha lt = some (.lst vs) ∧ Ha lf = some (.lst ws) ∧ Gs a.ct P Ha vs es ∧ RpA a.ct P Ha ws ((flts fw es).map ffR) ∧
          Sto P Ha s (k + 2 + 3 * i + 2) ∧ Ext P H5 Ha ∧ MOk P Ha := ⟨fw, rfl, hfw6, fun _ => rfl, hlt, hlf, hG, hW, sa.le (by omega), xx, mm⟩
      walk_at "go"
      refine i_dec (fun e1 => ?_) (fun e1 => ?_)
      · walk_at "go"
        refine i_ndec (fun e2 => ?_) (fun e2 => ?_)
        · walk_at "go"
          refine ⟨P, s, _, 6, rfl, rfl, sa, by omega, by omega, fun r Hb _ hr' xb gb sb => ?_⟩
          have hr' := hr' (by omega)
          walk_at "go"
          refine i_I (by omega) ?_
          walk_at "go"
          refine ⟨((fw : Int) + 1 + r).toNat % 7, ?_, by omega, fun e => absurd ((nm_first hnm).mpr e) e2, kl xb slt.symm hlt, kl xb slf.symm hlf, hG.ext (xb.is Ps), hW.ext (xb.is Ps), sb, xx.trans (xb.is Ps), mm.grow gb⟩
          rw [show ((((fw : Int) + 1 + r).toNat % 7 : Nat) : Int) = ((fw : Int) + 1 + r) % 7 by omega]
        · walk_at "go"
          exact stay
      · walk_at "go"
        exact stay
    clear hlt hlf hG hW xx mm sa
    rintro σ' Hb ⟨w, rfl, hw6, hw0, hlt, hlf, hG, hW, st, xx, mm⟩
    have h64 := pow_le6 hw6
    walk_at "go"
    refine i_bmL hlt ?_
    walk_at "go"
    refine i_I (cpow1 (by omega)) ?_
    rw [pow1]
    walk_at "go"
    refine c_rg (n := 2 ^ w) (M := N0) MOk.zero (by omega) (fun _ _ _ => True) (fun _ _ y _ => y = .int 1) fun D1 nD1 => ⟨fun _ _ _ _ _ e => e, fun _ _ _ _ e => e, trivial, ?_, ?_⟩
    · intro c H8 N N' hc x8 m8 _ nx
      walk_at "go"
      refine i_yes rfl ?_
      walk_at "go"
      exact nx _ _ (Ext.refl _ _) MOk.zero rfl trivial
    intro acc Hc hlc hrc hdc xc _ _
    obtain rfl := acc_rep hlc hrc
    walk_at "go"
    refine i_mkTb (M := P) (mm.grow xc.grow) hdc (ones_ok hw6) fun t Hd nd xd tb md => ?_
    have xcd := xc.trans xd
    walk_at "go"
    refine i_app (xcd _ _ (fun z => z) hlt) (by omega) fun He xe ge he => ?_
    walk_at "go"
    have hle' : He lf = some (.lst ws) := xe _ _ (fun z => ltf (show lf = lt from z).symm) (xcd _ _ (fun z => z) hlf)
    have hGe := hG.ext (xcd.weak.trans (xe.is Plt))
    have hWe := hW.ext (xcd.weak.trans (xe.is Plt))
    have tbe := tb.ext (xe.is Plt)
    have ste := (st.ext xcd).setM Plt slt xe
    have xxe := xx.trans (xcd.weak.trans (xe.is Plt))
    have mme := md.grow ge
    clear hG hW tb st xx mm hlt hlf
    refine i_bmL hle' ?_
    walk_at "go"
    refine i_nwL (by simp) fun l1 Hf nf xf hf => ?_
    walk_at "go"
    have hix : atI [V.str "", .str "WrongSize"] (if (!decide ((w : Int) = (fw : Int))) = true then 1 else 0) = some (.str (fo fw (some w))) := by
      by_cases e : w = fw
      · have e2 : (w : Int) = (fw : Int) := by omega
        rw [decide_eq_true e2]
        show atI [V.str "", .str "WrongSize"] 0 = some (.str (if w = fw then "" else "WrongSize"))
        rw [if_pos e]; rfl
      · have e2 : ¬ (w : Int) = (fw : Int) := by omega
        rw [decide_eq_false e2]
        show atI [V.str "", .str "WrongSize"] 1 = some (.str (if w = fw then "" else "WrongSize"))
        rw [if_neg e]; rfl
    refine .inl (i_ixL (At.raw hf) hix ?_)
    walk_at "go"
    refine i_nwT (by simp) fun u Hg ng xg hg => ?_
    have xfg := xf.trans xg
    have hWl := hWe.length
    walk_at "go"
    have hfl : (flts fw es).length ≤ 3 := by simp [flts, nms]; omega
    refine i_app (xfg _ _ (fun z => z) hle') (by rw [hWl, List.length_map]; omega) fun Hh xh gh hh => ?_
    walk_at "go"
    have nuP : ¬ P u := fun z => (mme.grow xf.grow) u z ng
    have hlt : Hh lt = some (.lst (vs ++ [.ref t])) := xh _ _ (fun z => ltf z) (xfg _ _ (fun z => z) he)
    have xh' := xfg.weak.trans (xh.is Plf)
    have hG := hGe.ext xh'
    have hW := hWe.ext xh'
    have tbh := tbe.ext xh'
    have st := (ste.ext xfg).setM Plf slf xh
    have xx := xxe.trans xh'
    have mm := (mme.grow xfg.grow).grow gh
    have hu : At P Hh u (.tup [.str nm, .str (fo fw (some w))]) := (At.mk' (mme.grow xf.grow) ng hg).ext (xh.is Plf)
    have hsn : ∀ e, flts fw (es ++ [e]) = flts fw es ++ [(nm, fo fw e)] := fun e => flts_snoc (by rw [hle]; exact hnm)
    clear hGe hWe tbe ste xxe mme hle' he hg
    refine i_dec (fun e1 => ?_) (fun e1 => ?_)
    · walk_at "go"
      refine i_nwL (by simp) fun q1 H1' n1' x1' h1' => ?_
      walk_at "go"
      refine i_nwT (by simp) fun q2 H2' n2' x2' h2' => ?_
      walk_at "go"
      refine i_nw fun q3 H3' n3' x3' h3' => ?_
      walk_at "go"
      refine i_nwL (by simp) fun q4 H4' n4' x4' h4' => ?_
      walk_at "go"
      have x14 := x1'.trans (x2'.trans (x3'.trans x4'))
      have mm1 := mm.grow x1'.grow
      have mm2 := mm1.grow x2'.grow
      have hB : RpA a.ct P H4' [.non, .int 5, .str "1:01", .ref q1, .bl true, .ref q2, .ref q3] badD := .cons .non (.cons (.int _) (.cons (.str _) (.cons (.lst ((At.mk' mm n1' h1').ext (x2'.weak.trans (x3'.weak.trans x4'.weak))) (.cons (.int _) (.cons (.int _) .nil)))
        (.cons (.bl _) (.cons (.tup ((At.mk' mm1 n2' h2').ext (x3'.weak.trans x4'.weak)) (.cons (.int _) (.cons (.int _) .nil))) (.cons (.dic ((At.mk' mm2 n3' h3').ext x4'.weak)) .nil))))))
      have mm4 := mm.grow x14.grow
      have n4P : ¬ P q4 := fun z => (mm2.grow x3'.grow) q4 z n4'
      refine ⟨P, s, _, 7, rfl, rfl, st.ext x14, by omega, by omega, fun r H5' _ hr5 x5' g5 s5' => ?_⟩
      have hr5 := hr5 (by omega)
      walk_at "go"
      have h4s : H5' q4 = some (.lst [.non, .int 5, .str "1:01", .ref q1, .bl true, .ref q2, .ref q3]) := x5' _ _ (fun z => n4P (by rw [show q4 = s from z]; exact Ps)) h4'
      refine drawn (ct := a.ct) (M := P) h4s (hB.ext (x5'.is Ps)) hr5.1 (by show r < 7; omega) fun bv bd hbd hbv => ?_
      walk_at "go"
      have hlt5 : H5' lt = some (.lst (vs ++ [.ref t])) := x5' _ _ (fun z => slt (show lt = s from z).symm) (x14 _ _ (fun z => z) hlt)
      refine i_setL hlt5 (j := vs.length) (by rw [List.length_append]; exact ixN_last _) fun H6' x6' g6' h6' => ?_
      rw [set_last] at h6'
      walk_at "go"
      refine i_nwT (by simp) fun u2 H7' n7' x7' h7' => ?_
      walk_at "go"
      have hlf6 : H6' lf = some (.lst (ws ++ [.ref u])) := x6' _ _ (fun z => ltf (show lf = lt from z).symm) (x5' _ _ (fun z => slf (show lf = s from z).symm) (x14 _ _ (fun z => z) hh))
      have mm6 := (mm4.grow g5).grow g6'
      refine i_setL (x7' _ _ (fun z => z) hlf6) (j := ws.length) (by rw [List.length_append]; exact ixN_last _) fun H8' x8' g8' h8' => ?_
      rw [set_last] at h8'
      have y58 : Ext P Hh H8' := x14.weak.trans ((x5'.is Ps).trans ((x6'.is Plt).trans (x7'.weak.trans (x8'.is Plf))))
      have hv8 := hbv.ext ((x6'.is Plt).trans (x7'.weak.trans (x8'.is Plf)))
      refine ⟨_, _, _, vs ++ [bv], es ++ [none], ws ++ [.ref u2], rfl, x8' _ _ (fun z => ltf z) (x7' _ _ (fun z => z) h6'), h8', (hG.ext y58).snoc (.no hv8 (badD_tab bd hbd)), ?_, by simp [hle], hF.snoc (fun _ w e => by cases e), ?_, xx.trans y58, ((mm6.grow x7'.grow).grow g8')⟩
      · rw [hsn, List.map_append]
        exact (hW.ext y58).snoc (.tup ((At.mk' mm6 n7' h7').ext (x8'.is Plf)) (.cons (.str _) (.cons (.str _) .nil)))
      · exact (((s5'.setM Plt slt x6').ext x7').setM Plf slf x8').le (by omega)
    · walk_at "go"
      refine ⟨_, _, _, vs ++ [.ref t], es ++ [some w], ws ++ [.ref u], rfl, hlt, hh, hG.snoc (.tab tbh), ?_, by simp [hle], hF.snoc fun e0 w' e => ?_, st.le (by omega), xx, mm⟩
      · rw [hsn, List.map_append]
        exact hW.snoc (.tup hu (.cons (.str _) (.cons (.str _) .nil)))
      · cases e
        refine hw0 ?_
        rw [← hle, e0]; rfl
  rintro σ Hx ⟨v5, v6, v7, vs, es, ws, rfl, hlt, hlf, hG, hW, hle, hF, st, xx, mm⟩
  have hn3 : (List.map V.str nms).length = 3 := rfl
  rw [hn3] at hle st
  obtain ⟨e1, e2, e3, rfl⟩ : ∃ e1 e2 e3, es = [e1, e2, e3] := by
    match es, hle with
    | [a, b, c], _ => exact ⟨a, b, c, rfl⟩
  obtain ⟨v1, v2, v3, rfl, G1, G2, G3⟩ : ∃ v1 v2 v3, vs = [v1, v2, v3] ∧ Gv a.ct P Hx v1 (on e1) ∧ Gv a.ct P Hx v2 (on e2) ∧ Gv a.ct P Hx v3 (on e3) := by
    cases hG with
    | cons g1 t => cases t with
      | cons g2 t => cases t with
        | cons g3 t => cases t; exact ⟨_, _, _, rfl, g1, g2, g3⟩
  have hF1 : ∀ w, e1 = some w → w = fw := fun w e => hF w (by rw [e]; rfl)
  walk_at "go"
  refine ⟨lf, ws, flts fw [e1, e2, e3], rfl, hlf, hW.zero, fun due Hy xy hdue => ?_⟩
  have hdue : Rp a.ct N0 Hy due (dueD (flJ (on e1) (on e2) (on e3))) := by
    rw [← bad_due hF1]
    exact hdue
  have hlty := xy _ _ (fun z => z) hlt
  have sy := st.ext xy
  walk_at "go"
  refine ⟨P, s, _, 6, rfl, rfl, sy, by omega, by omega, fun at_ Hz _ hat xz gz sz => ?_⟩
  have hat := hat (by omega)
  have hdue2 : (∃ j z, flJ (on e1) (on e2) (on e3) = some (j, z) ∧ Rp a.ct (Is s) Hz due (.tup [.str (erS j), .str z])) ∨ (flJ (on e1) (on e2) (on e3) = none ∧ due = .non) := by
    obtain ⟨_, c, cells, i, r, m, nn, h1, _⟩ := sy
    cases hfl : flJ (on e1) (on e2) (on e3) with
    | some p =>
      obtain ⟨j, z⟩ := p
      rw [hfl] at hdue
      exact .inl ⟨j, z, rfl, (hdue.strs h1).ext xz⟩
    | none =>
      rw [hfl] at hdue
      cases hdue
      exact .inr ⟨rfl, rfl⟩
  have mz := (mm.grow xy.grow).grow gz
  have hltz : Hz lt = some (.lst [v1, v2, v3]) := xz _ _ (fun z => slt (show lt = s from z).symm) hlty
  have xp := xy.weak.trans (xz.is Ps)
  have G1 := G1.ext xp
  have G2 := G2.ext xp
  have G3 := G3.ext xp
  clear hG hW hlt hlf hlty st sy xx mm hdue xp
  walk_at "go"
  refine c_rg (n := fw) (M := N0) MOk.zero (by omega) (fun _ _ _ => True) (fun _ _ y _ => y = .str "cba") fun D1 nD1 => ⟨fun _ _ _ _ _ e => e, fun _ _ _ _ e => e, trivial, ?_, ?_⟩
  · intro c H8 N N' hc x8 m8 _ nx
    walk_at "go"
    refine i_yes rfl ?_
    walk_at "go"
    exact nx _ _ (Ext.refl _ _) MOk.zero rfl trivial
  intro acc Ha hla hra hda xa _ _
  walk_at "go"
  refine i_nwT (by simp) fun t1 Hb nb xb hb => ?_
  walk_at "go"
  refine i_nwL (by simp) fun t2 Hc nc xc hc => ?_
  walk_at "go"
  refine i_nwT (by simp) fun t3 Hd nd xd hd => ?_
  walk_at "go"
  have xad := xa.trans (xb.trans (xc.trans xd))
  have ma := mz.grow xa.grow
  have mb := ma.grow xb.grow
  have mc := mb.grow xc.grow
  have md := mc.grow xd.grow
  have hD1 : At P Ha D1 (.lst acc) := ⟨fun z => mz _ z nD1, hda⟩
  have r1 : Rp a.ct P Hd (.ref t1) (.tup [.str "ring", .lst (List.replicate fw (.str "cba"))]) := .tup ((At.mk' ma nb hb).ext (xc.weak.trans xd.weak)) (.cons (.str _) (.cons (.lst (hD1.ext (xb.weak.trans (xc.weak.trans xd.weak))) (rpA_rep hla fun i y e => by rw [hra i y e]; exact .str _)) .nil))
  have r2 : Rp a.ct P Hd (.ref t2) (.lst []) := .lst ((At.mk' mb nc hc).ext xd.weak) .nil
  have r3 : Rp a.ct P Hd (.ref t3) (.tup [.str "own", .int 0]) := .tup (At.mk' mc nd hd) (.cons (.str _) (.cons (.int _) .nil))
  refine ⟨P, s, _, rfl, sz.ext xad, md, by omega, fun od dd He hdd hod xe ge se => ?_⟩
  have me := md.grow ge
  walk_at "go"
  refine i_nwL (by simp) fun t4 Hf nf xf hf => ?_
  have xdf : Ext P Hd Hf := (xe.is Ps).trans xf.weak
  have sf := se.ext xf
  have hpick : ∃ gv gd, atI [V.ref t1, .non, .ref t2, .str "ring", .ref t3, od] at_ = some gv ∧ Rp a.ct P Hf gv gd ∧ (∀ (hw : fw ≤ 6), isRing fw (ones fw) (ones fw) (ones fw) gd = decide (at_ = 0)) := by
    have : at_ = 0 ∨ at_ = 1 ∨ at_ = 2 ∨ at_ = 3 ∨ at_ = 4 ∨ at_ = 5 := by omega
    rcases this with rfl | rfl | rfl | rfl | rfl | rfl
    · exact ⟨_, _, rfl, r1.ext xdf, fun hw => cba_ring hw⟩
    · exact ⟨_, .non, rfl, .non, fun _ => rfl⟩
    · exact ⟨_, _, rfl, r2.ext xdf, fun _ => rfl⟩
    · exact ⟨_, .str "ring", rfl, .str _, fun _ => rfl⟩
    · refine ⟨_, _, rfl, r3.ext xdf, fun _ => ?_⟩
      show (decide (("own" : Str) = "ring") && ringB fw (ones fw) (ones fw) (ones fw) (.int 0)) = decide ((4 : Int) = 0)
      rw [decide_eq_false (by decide), Bool.false_and]
      rfl
    · exact ⟨_, _, rfl, hod.ext xf.weak, fun _ => odd_ring hdd _ _ _ _⟩
  obtain ⟨gv, gd, hix, hgv, hring⟩ := hpick
  have hring := hring hfw6
  walk_at "go"
  refine .inl (i_ixL (At.raw hf) hix ?_)
  walk_at "go"
  have xzf : Ext (Is s) Hz Hf := xad.weak.trans (xe.trans xf.weak)
  have hltf : Hf lt = some (.lst [v1, v2, v3]) := xzf _ _ (fun z => slt (show lt = s from z).symm) hltz
  refine i_nwL (by simp) fun l6 Hg ng xg hg => ?_
  refine i_cat (xg _ _ (fun z => z) hltf) hg (by simp) fun l7 Hh nh xh hh => ?_
  have xfh := xg.trans xh
  have xph : Ext P Hz Hh := (xzf.is Ps).trans xfh.weak
  have sh := (sf.ext xfh).of (M := Is s) rfl fun b z => .inl (.inl z)
  walk_at "go"
  have okw : wh = 0 ∨ (wh ≠ 0 ∧ ∃ v4 r', ([gv] : List V) = v4 :: r' ∧ Rp a.ct N0 Hh v4 gd) := by
    by_cases h : wh = 0
    · exact .inl h
    · exact .inr ⟨h, gv, [], rfl, (hgv.ext xfh.weak).zero⟩
  refine ⟨wh, l7, v1, v2, v3, [gv], on e1, on e2, on e3, gd, rfl, rfl, hh, (G1.ext xph).zero, (G2.ext xph).zero, (G3.ext xph).zero, okw, fun j z ej x H' x1 hx => ?_, fun n b1 b2 b3 q1 q2 q3 x H' x1 hx => ?_⟩
  · rcases hdue2 with ⟨j', z', ej', hd'⟩ | ⟨ej', _⟩
    · rw [ej] at ej'
      cases ej'
      have hdx := ((hd'.ext (xzf.trans xfh.weak)).zero).ext x1
      obtain ⟨t, ys, rfl, _⟩ := hdx.tupAt
      walk_at "go"
      refine i_nwT (by simp) fun u H9 n9 x9 u9 => ?_
      walk_at "go"
      refine ⟨_, _, hx.ext x9, .tup (At.raw u9) (.cons (.str _) (.cons (hdx.ext x9) .nil)), flJ_ok ej, fun b hb => ?_⟩
      cases hb.mpr rfl
      exact q _ ((sh.ext (x1.trans x9)).le (by omega))
    · rw [ej] at ej'; cases ej'
  · rcases hdue2 with ⟨j', z', ej', hd'⟩ | ⟨ej', rfl⟩
    · have hno : ∀ {o1 o2 o3 : Option (Nat × List Int)}, o1 = some (n, b1) → o2 = some (n, b2) → o3 = some (n, b3) → flJ o1 o2 o3 = none := fun h1 h2 h3 => by
        rw [h1, h2, h3]
        simp [flJ]
      rw [hno q1 q2 q3] at ej'
      cases ej'
    · obtain ⟨rfl, rfl, rfl⟩ := bad_none hF1 ej'
      cases q1; cases q2; cases q3
      walk_at "go"
      refine i_dec (fun c1 => ?_) (fun c1 => ?_)
      · walk_at "go"
        refine i_nwT (by simp) fun u H9 n9 x9 u9 => ?_
        walk_at "go"
        rw [ansD, if_neg (by omega), hring] at hx
        refine ⟨_, _, hx.ext x9, .tup (At.raw u9) (.cons (.str _) (.cons (.bl _) .nil)), ?_, fun b hb => ?_⟩
        · show okD 1000 30 (.tup [.str "answer", .bl (decide (at_ = 0))]) = true
          cases decide (at_ = 0) <;> decide +kernel
        cases hb.mpr rfl
        exact q _ ((sh.ext (x1.trans x9)).le (by omega))
      · obtain rfl : wh = 0 := by omega
        walk_at "go"
        rw [ansD, if_pos rfl] at hx
        obtain ⟨t, ys, rfl, ht, hy⟩ := hx.tupAt
        have hpl := ones_plain hfw6
        obtain ⟨b, hb⟩ : ∃ b : List Str, paperD fw (ones fw) (ones fw) (ones fw) = .tup [.str "ring", .lst (b.map Dt.str)] := by
          obtain ⟨x, y, z, e, _⟩ := ringW_of (ones_ok hfw6) (ones_ok hfw6) (ones_ok hfw6) (ones_ring fw)
          exact ⟨bwF fw x y z, by simp only [paperD, hpl, e]⟩
        rw [hb] at hy
        cases hy with
        | cons hy1 hy2 => cases hy2 with
          | cons hy3 hy4 =>
            cases hy1; cases hy4
            obtain ⟨t2', zs, rfl, ht2, hz2⟩ := hy3.tupAt
            cases hz2 with
            | cons hz3 hz4 =>
              cases hz3
              refine .inr (.inl (i_ixT ht (i := 0) rfl ?_))
              walk_at "go"
              refine i_decT rfl ?_
              walk_at "go"
              refine .inr (.inl (i_ixT ht (i := 1) rfl ?_))
              have hr2 : Rp a.ct N0 H' (.ref t2') (.tup [.str "ring", .lst (b.map Dt.str)]) := .tup ht2 (.cons (.str _) hz4)
              walk_at "go"
              refine .inr (.inl (i_ixT ht (i := 1) rfl ?_))
              walk_at "go"
              refine .inr (.inl (i_ixT ht2 (atI_nat (i := 0) rfl) ?_))
              walk_at "go"
              exact q _ ((sh.ext x1).le (by omega))
end Bs
set_option Elab.async false
set_option linter.all false
set_option maxRecDepth 100000
set_option maxHeartbeats 400000
namespace Bs
open PySem PySem.Spec PyProof.Rows L2 SX
open C8 (pe_gc pss_cut)
local macro_rules | `(tactic| walk_at "xt") => `(tactic| first | assumption | exact Ext.weak (by assumption) | exact Ext.is (by assumption) (by assumption) | exact Ext.plus (by assumption) | exact Ext.plus (Ext.weak (by assumption)) | exact Ext.plus (Ext.is (by assumption) (by assumption)) | exact Ext.set plus_self)
local macro_rules | `(tactic| walk_at "gr") => `(tactic| first | assumption | exact Ext.grow (by assumption) | exact Grow.upd)
local macro_rules | `(tactic| walk_at "mo") => `(tactic| first | assumption | exact MOk.zero | ((first | refine MOk.grow ?_ (by walk_at "gr") | exact MOk.upd (by walk_at "mo")); walk_at "mo") | exact MOk.plus (by walk_at "mo") (by assumption))
local macro_rules | `(tactic| walk_at "hp") => `(tactic| first
  | assumption | exact At.raw (by assumption)
  | exact At.mk' (by walk_at "mo") (by assumption) (by assumption)
  | ((first | refine At.ext (by walk_at "xt") ?_ | refine Rp.ext (by walk_at "xt") ?_ | refine RpA.ext (by walk_at "xt") ?_ | refine Tb.ext (by walk_at "xt") ?_); walk_at "hp")
  | ((first | refine At.plus (by assumption) ?_ | refine Rp.plus (by assumption) ?_ | refine RpA.plus (by assumption) ?_ | refine Tb.plus (by assumption) ?_); walk_at "hp"))
local macro_rules | `(tactic| walk_at "at") => `(tactic| first | assumption | exact At.get (M := N0) (by walk_at "hp"))
local macro_rules | `(tactic| walk_at "sq") => `(tactic| first | exact SqL.of (by walk_at "at") | exact SqT.of (by walk_at "at"))
local macro_rules | `(tactic| walk_at "st") => `(tactic| with_reducible first
  | refine i_seq ?_ | refine i_asg ?_ | refine i_ret ?_ | refine i_retN ?_ | refine i_drop ?_ | refine i_ifS ?_ | refine i_next ?_ | refine i_brk ?_
  | refine i_gname ?_ | refine i_gsub ?_ | refine i_c ?_ | refine i_op ?_ | refine i_un ?_ | refine i_I0 ?_ | refine i_U ?_ | refine i_isN ?_ | refine i_notN ?_
  | refine i_test ?_ | refine i_tB ?_ | refine i_bl ?_ | refine i_and ?_ | refine i_or ?_ | refine i_not ?_ | refine i_andV ?_ | refine i_orV ?_ | refine i_notV ?_ | refine i_ifE ?_
  | refine i_nil ?_ | refine i_cons ?_ | refine i_for ?_ | refine i_iL ?_ | refine i_iT ?_ | refine i_iR ?_ | refine i_lc ?_ | refine i_prp ?_ | refine i_mk ?_ | refine i_sS ?_ | refine i_sN ?_ | refine i_nsS ?_ | refine i_nsN ?_ | refine i_fld ?_ | refine i_sf ?_ | refine i_inO ?_ | refine i_lsO ?_ | refine i_tpO ?_ | refine i_lnO ?_ | refine i_cb ?_ | refine i_call ?_ | refine i_tup ?_ | refine i_lst ?_ | refine i_dnew ?_ | refine i_inI ?_ | refine i_inB ?_ | refine i_rgX ?_ | refine i_lrO ?_ | refine i_rg1 ?_ | refine i_nF ?_ | refine i_nT ?_ | refine i_tt ?_ | refine i_ff ?_ | refine i_ifT ?_ | refine i_ifF ?_
  | refine i_eqI ?_ | refine i_eqS ?_ | refine i_eqB ?_ | refine i_neI ?_ | refine i_neS ?_ | refine i_dR ?_ | refine i_dI ?_ | refine i_dT ?_ | refine i_dS ?_ | refine i_dN ?_ | refine i_nR ?_ | refine i_nI ?_ | refine i_nN ?_
  | (refine i_var (by with_unfolding_all rfl) ?_) | refine i_eq rfl ?_ | refine i_ne rfl ?_)
local macro_rules | `(tactic| walk_at "sc") => `(tactic| first | exact (Rp.int (M := N0) _) | exact (Rp.str (M := N0) _) | exact (Rp.bl (M := N0) _) | exact (Rp.non (M := N0)) | assumption | exact Rp.tab (by assumption) | exact Tb.rp (by assumption))
local macro_rules | `(tactic| walk_at "sd") => `(tactic| simp only [d_Bool_non, d_Bool_bl, d_Bool_int, d_Bool_str, d_Bool_lst, d_Bool_tup, d_Bool_tab, d_Bool_dic, d_Int_non, d_Int_bl, d_Int_int, d_Int_str, d_Int_lst, d_Int_tup, d_Int_tab, d_Int_dic, d_Str_non, d_Str_bl, d_Str_int, d_Str_str, d_Str_lst, d_Str_tup, d_Str_tab, d_Str_dic, d_List_non, d_List_bl, d_List_int, d_List_str, d_List_lst, d_List_tup, d_List_tab, d_List_dic, d_Tup_non, d_Tup_bl, d_Tup_int, d_Tup_str, d_Tup_lst, d_Tup_tup, d_Tup_tab, d_Tup_dic, d_Tab_non, d_Tab_bl, d_Tab_int, d_Tab_str, d_Tab_lst, d_Tab_tup, d_Tab_tab, d_Tab_dic, Bool.not_true, Bool.not_false, Bool.true_or, Bool.false_or, Bool.or_true, Bool.or_false, Bool.and_true, Bool.true_and, Bool.and_false, Bool.false_and, if_true, if_false, Bool.false_eq_true])
local macro_rules | `(tactic| walk_at "isi") => `(tactic| ((first | with_reducible apply i_isB | with_reducible apply i_isI | with_reducible apply i_isS | with_reducible apply i_isL | with_reducible apply i_isT | with_reducible apply i_isTab); (focus assumption); (focus walk_at "sc"); try simp only [d_Bool_non, d_Bool_bl, d_Bool_int, d_Bool_str, d_Bool_lst, d_Bool_tup, d_Bool_tab, d_Bool_dic, d_Int_non, d_Int_bl, d_Int_int, d_Int_str, d_Int_lst, d_Int_tup, d_Int_tab, d_Int_dic, d_Str_non, d_Str_bl, d_Str_int, d_Str_str, d_Str_lst, d_Str_tup, d_Str_tab, d_Str_dic, d_List_non, d_List_bl, d_List_int, d_List_str, d_List_lst, d_List_tup, d_List_tab, d_List_dic, d_Tup_non, d_Tup_bl, d_Tup_int, d_Tup_str, d_Tup_lst, d_Tup_tup, d_Tup_tab, d_Tup_dic, d_Tab_non, d_Tab_bl, d_Tab_int, d_Tab_str, d_Tab_lst, d_Tab_tup, d_Tab_tab, d_Tab_dic]))
local macro_rules | `(tactic| walk_at "om") => `(tactic| first | ((with_reducible refine i_decF ?_ ?_); (focus omega)) | ((with_reducible refine i_decT ?_ ?_); (focus omega)) | ((with_reducible refine i_ndecF ?_ ?_); (focus omega)) | ((with_reducible refine i_ndecT ?_ ?_); (focus omega)))
local macro_rules | `(tactic| walk_at "go") => `(tactic| ((repeat (first | walk_at "st" | walk_at "isi" | walk_at "om")); try dsimp only [List.set]))
variable {W : Wd} {a : Ad}
/-! L24: the law. -/
def sp_law (K : PySem.W.Frag) : Sp := sp1 fun v H Q _ => ∃ p, ∃ cells : List Int, v = .ref p ∧ SqL K H p (cells.map V.int) ∧ ∀ H', Q (.bl true) H'
def wds : List Int := [0, 0, 1, 1, 1, 1, 2, 2, 2, 2, 2, 2, 2, 3, 3, 3, 3, 3, 3, 3, 4, 4, 5, 6]
theorem wds_ok : ∀ v ∈ wds, 0 ≤ v ∧ v ≤ 6 := by decide
abbrev s_law : Stmt := top 103
abbrev N_law : List Str := ["_law_script", "_law_store_here", "_law_wide_here", "_law_k"]
abbrev P_law : List Str := ["_law_script"]
theorem sc_law : FnScope N_law P_law (defScope s_law) := ⟨rfl, rfl, rfl, by decide +kernel, rfl, by decide +kernel, by decide +kernel⟩
theorem bi_law {K : PySem.W.Frag} {f : Addr} {fd : FuncData} (F : FnF K "law" "law" s_law [] f fd) : Binds K fd P_law [] := FunD.bindsN F fun _ _ _ _ _ _ us hl => match us, hl with | [_], _ => rfl
theorem c_law (T : Txt W.K W.mg a) {f : Addr} {fd : FuncData} (F : FnF W.K "law" "law" s_law [] f fd) (c_law_store : Cal W CX0 1 "_law_store" P_law_store (sp_store W.K)) (c_law_take : Cal W CX0 3 "_law_take" P_law_take sp_take) (c_law_good : Cal W CX0 34 "_law_good" P_law_good sp_good)
    (c_law_bad : Cal W CX0 32 "_law_bad" P_law_bad sp_bad) : FnOk W.P W.w W.K W.mg W.base CX0 35 f fd P_law (sp_law W.K) := mth_mk F sc_law len1 fun f cdv A outer s H vs Q E hr h => by
  obtain ⟨_, rfl, p, cells, rfl, hp, q⟩ := sp1_of h
  refine ⟨_, (PSs.nox (pss_cons (ps_set (i := 1) sc_law.nd rfl (by first | exact Or.inl rfl | exact Or.inr rfl) (pe_cal c_law_store hr (by omega) pass0 rfl (pa_cons (pv 0) pa_nil)))
 (pss_cons (ps_set (i := 2) sc_law.nd rfl (by first | exact Or.inl rfl | exact Or.inr rfl) (pe_ix ix_seq (pe_lst (pa_cons pe_int (pa_cons pe_int (pa_cons pe_int (pa_cons pe_int (pa_cons pe_int (pa_cons pe_int (pa_cons pe_int (pa_cons pe_int (pa_cons pe_int (pa_cons pe_int (pa_cons pe_int (pa_cons pe_int (pa_cons pe_int (pa_cons pe_int (pa_cons pe_int (pa_cons pe_int (pa_cons pe_int (pa_cons pe_int (pa_cons pe_int (pa_cons pe_int (pa_cons pe_int (pa_cons pe_int (pa_cons pe_int (pa_cons pe_int pa_nil))))))))))))))))))))))))) (pe_cal c_law_take hr (by omega) pass0 rfl (pa_cons (pv 1) (pa_cons pe_int pa_nil))) (fun _ _ => rfl)))
 (pss_cut (ps_if (PW.pt (pw_or (pt_not (pt_val (pe_cal c_law_good hr (by omega) pass0 rfl (pa_cons (pv 1) (pa_cons (pv 2) pa_nil))))) (pw_or1 (PW.pt (pw_and (pt_cmpR op_lt (pv 2) pe_int (by rfl)) (pw_and1 (pt_not (pt_val (pe_cal c_law_good hr (by omega) pass0 rfl (pa_cons (pv 1) (pa_cons (pe_cal c_law_take hr (by omega) pass0 rfl (pa_cons (pv 1) (pa_cons pe_int pa_nil))) pa_nil)))))))))))
  (pss_one (ps_ret pe_bl))
  pss_nil)
 (pss_cons (ps_for PassesOwn.never rfl (pi_range1 (by rfl) T.range (pa_cons pe_int pa_nil)) (pg_name (i := 3) sc_law.nd rfl (by first | exact Or.inl rfl | exact Or.inr rfl))
  (pss_one (ps_if (pt_not (pt_val (pe_cal c_law_bad hr (by omega) pass0 rfl (pa_cons (pv 1) pa_nil))))
  (pss_one (ps_ret pe_bl))
  pss_nil)))
 (pss_one (ps_ret pe_bl))))))), ?_⟩
  walk_at "go"
  refine ⟨p, cells, rfl, hp, fun s H1 x1 s1 => ?_⟩
  walk_at "go"
  refine i_nwL (by simp) fun l H2 n2 x2 h2 => ?_
  have h2 : H2 l = some (.lst (wds.map V.int)) := h2
  walk_at "go"
  have ls : l ≠ s := fun e => s1.at (e ▸ n2)
  refine ⟨Is s, s, 0, 24, rfl, rfl, s1.ext x2, by omega, by omega, fun r H3 _ hr x3 g3 s3 => ?_⟩
  have hr := hr (by omega)
  have h3 := x3 _ _ (fun z => ls z) h2
  have hlen : wds.length = 24 := rfl
  obtain ⟨w, hw, hw6⟩ : ∃ w : Nat, wds[r.toNat]? = some (w : Int) ∧ w ≤ 6 := by
    have hlt : r.toNat < wds.length := by omega
    have h := wds_ok _ (List.getElem_mem hlt)
    obtain ⟨w, e⟩ := Int.eq_ofNat_of_zero_le h.1
    exact ⟨w, by rw [List.getElem?_eq_getElem hlt, e], by omega⟩
  refine .inl (i_ixL (At.raw h3) (v := .int (w : Int)) (atI_of hr.1 (by rw [List.getElem?_map, hw]; rfl)) ?_)
  walk_at "go"
  refine i_cut (fun σ' Hx => σ' = [some (V.ref p), some (.ref s), some (.int (w : Nat)), none] ∧ Sto (Is s) Hx s 25000) ?_ ?_
  · walk_at "go"
    refine ⟨s, _, w, rfl, rfl, hw6, s3, by omega, fun H4 s4 => ?_⟩
    walk_at "go"
    refine i_dec (fun e => ?_) (fun e => ?_)
    · walk_at "go"
      refine ⟨Is s, s, _, 3, rfl, rfl, s4, by omega, by omega, fun r' H5 _ hr' x5 g5 s5 => ?_⟩
      have hr' := hr' (by omega)
      obtain ⟨w', rfl⟩ := Int.eq_ofNat_of_zero_le hr'.1
      walk_at "go"
      refine ⟨s, _, w', rfl, rfl, by omega, s5, by omega, fun H6 s6 => ?_⟩
      walk_at "go"
      exact ⟨rfl, s6.le (by omega)⟩
    · walk_at "go"
      exact ⟨rfl, s4.le (by omega)⟩
  rintro σ' Hx ⟨rfl, sx⟩
  walk_at "go"
  refine f_rg (n := 3) (by omega) (fun i σ Hy => i ≤ 3 ∧ (∃ v, σ = [some (V.ref p), some (.ref s), some (.int (w : Nat)), v]) ∧ Sto (Is s) Hy s (25000 + 100 * i)) ⟨by omega, ⟨_, rfl⟩, sx⟩ ?_ ?_
  · rintro i σ Hy hi ⟨_, ⟨v, rfl⟩, sy⟩
    walk_at "go"
    refine ⟨s, _, rfl, sy, by omega, fun Hz sz => ?_⟩
    walk_at "go"
    exact ⟨by omega, ⟨_, rfl⟩, sz.le (by omega)⟩
  · rintro σ Hy ⟨_, ⟨v, rfl⟩, sy⟩
    walk_at "go"
    exact q _
end Bs
set_option Elab.async false
set_option linter.all false
set_option maxRecDepth 100000
set_option maxHeartbeats 400000
namespace Bs
open PySem PySem.Spec PyProof.Rows L2 SX
open C8 (pe_gc pss_cut)
local macro_rules | `(tactic| walk_at "xt") => `(tactic| first | assumption | exact Ext.weak (by assumption) | exact Ext.is (by assumption) (by assumption) | exact Ext.plus (by assumption) | exact Ext.plus (Ext.weak (by assumption)) | exact Ext.plus (Ext.is (by assumption) (by assumption)) | exact Ext.set plus_self)
local macro_rules | `(tactic| walk_at "gr") => `(tactic| first | assumption | exact Ext.grow (by assumption) | exact Grow.upd)
local macro_rules | `(tactic| walk_at "mo") => `(tactic| first | assumption | exact MOk.zero | ((first | refine MOk.grow ?_ (by walk_at "gr") | exact MOk.upd (by walk_at "mo")); walk_at "mo") | exact MOk.plus (by walk_at "mo") (by assumption))
local macro_rules | `(tactic| walk_at "hp") => `(tactic| first
  | assumption | exact At.raw (by assumption)
  | exact At.mk' (by walk_at "mo") (by assumption) (by assumption)
  | ((first | refine At.ext (by walk_at "xt") ?_ | refine Rp.ext (by walk_at "xt") ?_ | refine RpA.ext (by walk_at "xt") ?_ | refine Tb.ext (by walk_at "xt") ?_); walk_at "hp")
  | ((first | refine At.plus (by assumption) ?_ | refine Rp.plus (by assumption) ?_ | refine RpA.plus (by assumption) ?_ | refine Tb.plus (by assumption) ?_); walk_at "hp"))
local macro_rules | `(tactic| walk_at "at") => `(tactic| first | assumption | exact At.get (M := N0) (by walk_at "hp"))
local macro_rules | `(tactic| walk_at "sq") => `(tactic| first | exact SqL.of (by walk_at "at") | exact SqT.of (by walk_at "at"))
local macro_rules | `(tactic| walk_at "st") => `(tactic| with_reducible first
  | refine i_seq ?_ | refine i_asg ?_ | refine i_ret ?_ | refine i_retN ?_ | refine i_drop ?_ | refine i_ifS ?_ | refine i_next ?_ | refine i_brk ?_
  | refine i_gname ?_ | refine i_gsub ?_ | refine i_c ?_ | refine i_op ?_ | refine i_un ?_ | refine i_I0 ?_ | refine i_U ?_ | refine i_isN ?_ | refine i_notN ?_
  | refine i_test ?_ | refine i_tB ?_ | refine i_bl ?_ | refine i_and ?_ | refine i_or ?_ | refine i_not ?_ | refine i_andV ?_ | refine i_orV ?_ | refine i_notV ?_ | refine i_ifE ?_
  | refine i_nil ?_ | refine i_cons ?_ | refine i_for ?_ | refine i_iL ?_ | refine i_iT ?_ | refine i_iR ?_ | refine i_lc ?_ | refine i_prp ?_ | refine i_mk ?_ | refine i_sS ?_ | refine i_sN ?_ | refine i_nsS ?_ | refine i_nsN ?_ | refine i_fld ?_ | refine i_sf ?_ | refine i_inO ?_ | refine i_lsO ?_ | refine i_tpO ?_ | refine i_lnO ?_ | refine i_cb ?_ | refine i_call ?_ | refine i_tup ?_ | refine i_lst ?_ | refine i_dnew ?_ | refine i_inI ?_ | refine i_inB ?_ | refine i_rgX ?_ | refine i_lrO ?_ | refine i_rg1 ?_ | refine i_nF ?_ | refine i_nT ?_ | refine i_tt ?_ | refine i_ff ?_ | refine i_ifT ?_ | refine i_ifF ?_
  | refine i_eqI ?_ | refine i_eqS ?_ | refine i_eqB ?_ | refine i_neI ?_ | refine i_neS ?_ | refine i_dR ?_ | refine i_dI ?_ | refine i_dT ?_ | refine i_dS ?_ | refine i_dN ?_ | refine i_nR ?_ | refine i_nI ?_ | refine i_nN ?_
  | (refine i_var (by with_unfolding_all rfl) ?_) | refine i_eq rfl ?_ | refine i_ne rfl ?_)
local macro_rules | `(tactic| walk_at "sc") => `(tactic| first | exact (Rp.int (M := N0) _) | exact (Rp.str (M := N0) _) | exact (Rp.bl (M := N0) _) | exact (Rp.non (M := N0)) | assumption | exact Rp.tab (by assumption) | exact Tb.rp (by assumption))
local macro_rules | `(tactic| walk_at "sd") => `(tactic| simp only [d_Bool_non, d_Bool_bl, d_Bool_int, d_Bool_str, d_Bool_lst, d_Bool_tup, d_Bool_tab, d_Bool_dic, d_Int_non, d_Int_bl, d_Int_int, d_Int_str, d_Int_lst, d_Int_tup, d_Int_tab, d_Int_dic, d_Str_non, d_Str_bl, d_Str_int, d_Str_str, d_Str_lst, d_Str_tup, d_Str_tab, d_Str_dic, d_List_non, d_List_bl, d_List_int, d_List_str, d_List_lst, d_List_tup, d_List_tab, d_List_dic, d_Tup_non, d_Tup_bl, d_Tup_int, d_Tup_str, d_Tup_lst, d_Tup_tup, d_Tup_tab, d_Tup_dic, d_Tab_non, d_Tab_bl, d_Tab_int, d_Tab_str, d_Tab_lst, d_Tab_tup, d_Tab_tab, d_Tab_dic, Bool.not_true, Bool.not_false, Bool.true_or, Bool.false_or, Bool.or_true, Bool.or_false, Bool.and_true, Bool.true_and, Bool.and_false, Bool.false_and, if_true, if_false, Bool.false_eq_true])
local macro_rules | `(tactic| walk_at "isi") => `(tactic| ((first | with_reducible apply i_isB | with_reducible apply i_isI | with_reducible apply i_isS | with_reducible apply i_isL | with_reducible apply i_isT | with_reducible apply i_isTab); (focus assumption); (focus walk_at "sc"); try simp only [d_Bool_non, d_Bool_bl, d_Bool_int, d_Bool_str, d_Bool_lst, d_Bool_tup, d_Bool_tab, d_Bool_dic, d_Int_non, d_Int_bl, d_Int_int, d_Int_str, d_Int_lst, d_Int_tup, d_Int_tab, d_Int_dic, d_Str_non, d_Str_bl, d_Str_int, d_Str_str, d_Str_lst, d_Str_tup, d_Str_tab, d_Str_dic, d_List_non, d_List_bl, d_List_int, d_List_str, d_List_lst, d_List_tup, d_List_tab, d_List_dic, d_Tup_non, d_Tup_bl, d_Tup_int, d_Tup_str, d_Tup_lst, d_Tup_tup, d_Tup_tab, d_Tup_dic, d_Tab_non, d_Tab_bl, d_Tab_int, d_Tab_str, d_Tab_lst, d_Tab_tup, d_Tab_tab, d_Tab_dic]))
local macro_rules | `(tactic| walk_at "om") => `(tactic| first | ((with_reducible refine i_decF ?_ ?_); (focus omega)) | ((with_reducible refine i_decT ?_ ?_); (focus omega)) | ((with_reducible refine i_ndecF ?_ ?_); (focus omega)) | ((with_reducible refine i_ndecT ?_ ?_); (focus omega)))
local macro_rules | `(tactic| walk_at "go") => `(tactic| ((repeat (first | walk_at "st" | walk_at "isi" | walk_at "om")); try dsimp only [List.set]))
variable {W : Wd} {a : Ad}
/-! A1: all defs together. -/
theorem law_all (T : Txt W.K W.mg a) (T2 : Tx2 W.K W.P W.w a) (T3 : Tx3 W.K W.mg a) (eK : EcK W a) (eS : EcS W a)
    (X_init : ∃ f fd, Mk W.K a.ct f ∧ FnF W.K "__init__" "Table.__init__" s_Table_init [] f fd ∧ W.mg "Table" = some (.ref a.ct))
    (X_width : ∃ p f fd, PropOf W.K a.ct "width" p f ∧ FnF W.K "width" "Table.width" s_Table_width [] f fd) (X_bits : ∃ p f fd, PropOf W.K a.ct "bits" p f ∧ FnF W.K "bits" "Table.bits" s_Table_bits [] f fd) (X_ones : ∃ p f fd, PropOf W.K a.ct "ones" p f ∧ FnF W.K "ones" "Table.ones" s_Table_ones [] f fd) 
    (X_getitem : ∃ f fd, PySem.W.findIn W.K (.ref a.ct) "__getitem__" = some (some (.ref f)) ∧ PySem.W.isFn W.K (.ref f) = true ∧ PySem.W.fnIn W.K f = true ∧ FnF W.K "__getitem__" "Table.__getitem__" s_Table_getitem [] f fd) (X_eq : ∃ f fd, PySem.W.findIn W.K (.ref a.ct) "__eq__" = some (some (.ref f)) ∧ PySem.W.isFn W.K (.ref f) = true ∧ PySem.W.fnIn W.K f = true ∧ FnF W.K "__eq__" "Table.__eq__" s_Table_eq [] f fd) 
    (D_check_integer_ratios : DefAt W "check_integer_ratios" "check_integer" "check_integer" s_check_integer_ratios)
    (D_check_between_ratios : DefAt W "check_between_ratios" "check_between" "check_between" s_check_between_ratios)
    (D_check_width_words : DefAt W "check_width_words" "check_width" "check_width" s_check_width_words)
    (D_word_count : DefAt W "word_count" "word_count" "word_count" s_word_count)
    (D_all_words : DefAt W "all_words" "all_words" "all_words" s_all_words)
    (D_check_integer_tables : DefAt W "check_integer_tables" "check_integer" "check_integer" s_check_integer_tables)
    (D_check_between_tables : DefAt W "check_between_tables" "check_between" "check_between" s_check_between_tables)
    (D_check_width_tables : DefAt W "check_width_tables" "check_width" "check_width" s_check_width_tables)
    (D_check_word : DefAt W "check_word" "check_word" "check_word" s_check_word)
    (D_check_place : DefAt W "check_place" "check_place" "check_place" s_check_place)
    (D_check_row : DefAt W "check_row" "check_row" "check_row" s_check_row)
    (D_check_bits : DefAt W "check_bits" "check_bits" "check_bits" s_check_bits)
    (D_plain_integer : DefAt W "plain_integer" "plain_integer" "plain_integer" s_plain_integer)
    (D_check_table : DefAt W "check_table" "check_table" "check_table" s_check_table)
    (D_place_table : DefAtD W "place_table" "place_table" "place_table" s_place_table [.int 0])
    (D_need_table : DefAtD W "need_table" "need_table" "need_table" s_need_table [.int 6])
    (D_own_pairs : DefAt W "own_pairs" "own_pairs" "own_pairs" s_own_pairs)
    (D_own_place : DefAt W "own_place" "own_place" "own_place" s_own_place)
    (D_check_three : DefAt W "check_three" "check_three" "check_three" s_check_three)
    (D_constant_bit : DefAt W "constant_bit" "constant_bit" "constant_bit" s_constant_bit)
    (D_unlike_pair : DefAt W "unlike_pair" "unlike_pair" "unlike_pair" s_unlike_pair)
    (D_words_of_ballot : DefAt W "words_of_ballot" "words_of_ballot" "words_of_ballot" s_words_of_ballot)
    (D_order_with_bits : DefAt W "order_with_bits" "order_with_bits" "order_with_bits" s_order_with_bits)
    (D_ballot_with_words : DefAt W "ballot_with_words" "ballot_with_words" "ballot_with_words" s_ballot_with_words)
    (D_outcome_of : DefAt W "outcome_of" "outcome_of" "outcome_of" s_outcome_of)
    (D_ballots_of : DefAt W "ballots_of" "ballots_of" "ballots_of" s_ballots_of)
    (D_first_ring : DefAt W "first_ring" "first_ring" "first_ring" s_first_ring)
    (D_owned_by : DefAt W "owned_by" "owned_by" "owned_by" s_owned_by)
    (D_words_with : DefAt W "words_with" "words_with" "words_with" s_words_with)
    (D_ring_words : DefAt W "ring_words" "ring_words" "ring_words" s_ring_words)
    (D_ring_paper : DefAt W "ring_paper" "ring_paper" "ring_paper" s_ring_paper)
    (D_ringing : DefAt W "ringing" "ringing" "ringing" s_ringing)
    (D_is_ring_paper : DefAt W "is_ring_paper" "is_ring_paper" "is_ring_paper" s_is_ring_paper)
    (D_law_mixed : DefAt W "_law_mixed" "_law_mixed" "_law_mixed" s_law_mixed)
    (D_law_wide : DefAt W "_law_wide" "_law_wide" "_law_wide" s_law_wide)
    (D_law_store : DefAt W "_law_store" "_law_store" "_law_store" s_law_store)
    (D_law_take : DefAt W "_law_take" "_law_take" "_law_take" s_law_take)
    (D_law_near : DefAt W "_law_near" "_law_near" "_law_near" s_law_near)
    (D_law_pick : DefAt W "_law_pick" "_law_pick" "_law_pick" s_law_pick)
    (D_law_is_integer : DefAt W "_law_is_integer" "_law_is_integer" "_law_is_integer" s_law_is_integer)
    (D_law_same : DefAt W "_law_same" "_law_same" "_law_same" s_law_same)
    (D_law_copy : DefAt W "_law_copy" "_law_copy" "_law_copy" s_law_copy)
    (D_law_spoil : DefAt W "_law_spoil" "_law_spoil" "_law_spoil" s_law_spoil)
    (D_law_is_table : DefAt W "_law_is_table" "_law_is_table" "_law_is_table" s_law_is_table)
    (D_law_first_fault : DefAt W "_law_first_fault" "_law_first_fault" "_law_first_fault" s_law_first_fault)
    (D_law_odd : DefAt W "_law_odd" "_law_odd" "_law_odd" s_law_odd)
    (D_law_orders : DefAt W "_law_orders" "_law_orders" "_law_orders" s_law_orders)
    (D_law_order_bits : DefAt W "_law_order_bits" "_law_order_bits" "_law_order_bits" s_law_order_bits)
    (D_law_order_of : DefAt W "_law_order_of" "_law_order_of" "_law_order_of" s_law_order_of)
    (D_law_result_of : DefAt W "_law_result_of" "_law_result_of" "_law_result_of" s_law_result_of)
    (D_law_ring_right : DefAt W "_law_ring_right" "_law_ring_right" "_law_ring_right" s_law_ring_right)
    (D_law_bend_plain : DefAt W "_law_bend_plain" "_law_bend_plain" "_law_bend_plain" s_law_bend_plain)
    (D_law_bend_row : DefAt W "_law_bend_row" "_law_bend_row" "_law_bend_row" s_law_bend_row)
    (D_law_bend : DefAt W "_law_bend" "_law_bend" "_law_bend" s_law_bend)
    (D_law_ring_paper : DefAt W "_law_ring_paper" "_law_ring_paper" "_law_ring_paper" s_law_ring_paper)
    (D_law_no_ring : DefAt W "_law_no_ring" "_law_no_ring" "_law_no_ring" s_law_no_ring)
    (D_law_fault_of : DefAt W "_law_fault_of" "_law_fault_of" "_law_fault_of" s_law_fault_of)
    (D_law_ask : DefAt W "_law_ask" "_law_ask" "_law_ask" s_law_ask)
    (D_law_called : DefAt W "_law_called" "_law_called" "_law_called" s_law_called)
    (D_law_judged : DefAt W "_law_judged" "_law_judged" "_law_judged" s_law_judged)
    (D_law_other_papers : DefAt W "_law_other_papers" "_law_other_papers" "_law_other_papers" s_law_other_papers)
    (D_law_some_three : DefAt W "_law_some_three" "_law_some_three" "_law_some_three" s_law_some_three)
    (D_law_good : DefAt W "_law_good" "_law_good" "_law_good" s_law_good)
    (D_law_bad : DefAt W "_law_bad" "_law_bad" "_law_bad" s_law_bad)
    {f : Addr} {fd : FuncData} (F : FnF W.K "law" "law" s_law [] f fd) :
    FnOk W.P W.w W.K W.mg W.base CX0 35 f fd P_law (sp_law W.K) := by
  have c_check_integer_ratios := Bs.c_check_integer_ratios T D_check_integer_ratios
  have c_check_between_ratios := Bs.c_check_between_ratios T D_check_between_ratios c_check_integer_ratios
  have c_check_width_words := Bs.c_check_width_words T D_check_width_words c_check_between_ratios
  have c_word_count := Bs.c_word_count T D_word_count c_check_width_words
  have c_all_words := Bs.c_all_words T D_all_words c_check_width_words
  have c_check_integer_tables := Bs.c_check_integer_tables T D_check_integer_tables
  have c_check_between_tables := Bs.c_check_between_tables T D_check_between_tables c_check_integer_tables
  have c_check_width_tables := Bs.c_check_width_tables T D_check_width_tables c_check_between_tables
  have c_check_word := Bs.c_check_word T D_check_word c_check_between_tables
  have c_check_place := Bs.c_check_place T D_check_place c_check_between_tables
  have c_check_row := Bs.c_check_row T D_check_row
  have c_check_bits := Bs.c_check_bits T D_check_bits c_check_row c_check_between_tables
  obtain ⟨fi, fdi, mki, Fi, gi⟩ := X_init
  have c_Table : Mkr W CX0 4 a.ct "Table" P_Table_init (sp_init a.ct) := ⟨fi, fdi, mki, m_init T Fi c_check_width_tables c_check_bits, gi, bi_Table_init Fi⟩
  obtain ⟨pp_width, f_width, fd_width, k_width, F_width⟩ := X_width
  have c_width : Prp W CX0 1 a.ct "width" P_Table_width (sp_wid a.ct) := ⟨pp_width, f_width, fd_width, T.cls, k_width, m_width T F_width, bi_Table_width F_width⟩
  obtain ⟨pp_bits, f_bits, fd_bits, k_bits, F_bits⟩ := X_bits
  have c_bits : Prp W CX0 1 a.ct "bits" P_Table_bits (sp_bits a.ct) := ⟨pp_bits, f_bits, fd_bits, T.cls, k_bits, m_bits T F_bits, bi_Table_bits F_bits⟩
  obtain ⟨pp_ones, f_ones, fd_ones, k_ones, F_ones⟩ := X_ones
  have c_ones : Prp W CX0 1 a.ct "ones" P_Table_ones (sp_ones a.ct) := ⟨pp_ones, f_ones, fd_ones, T.cls, k_ones, m_ones T F_ones, bi_Table_ones F_ones⟩
  obtain ⟨f_g, fd_g, g1, g2, g3, F_g⟩ := X_getitem
  have c_getitem : Own W CX0 4 a.ct "__getitem__" P_Table_getitem (sp_get a.ct) := ⟨f_g, fd_g, m_get T F_g c_check_word, g1, g2, g3, bi_Table_getitem F_g⟩
  obtain ⟨f_e, fd_e, e1, e2, e3, F_e⟩ := X_eq
  have c_eq : Own W CX0 1 a.ct "__eq__" P_Table_eq (sp_eq a.ct) := ⟨f_e, fd_e, m_eq T F_e, e1, e2, e3, bi_Table_eq F_e⟩
  have c_plain_integer := Bs.c_plain_integer T D_plain_integer
  have c_check_table := Bs.c_check_table T eK eS D_check_table c_width
  have c_place_table := Bs.c_place_table T D_place_table c_check_width_tables c_check_place c_check_between_tables c_all_words c_Table
  have c_need_table := Bs.c_need_table T D_need_table c_width
  have c_own_pairs := Bs.c_own_pairs T D_own_pairs
  have c_own_place := Bs.c_own_place T D_own_place c_width c_eq c_need_table c_own_pairs c_place_table
  have c_check_three := Bs.c_check_three T eS D_check_three c_width c_check_table
  have c_constant_bit := Bs.c_constant_bit T D_constant_bit c_width c_ones c_word_count
  have c_unlike_pair := Bs.c_unlike_pair T D_unlike_pair c_constant_bit
  have c_words_of_ballot := Bs.c_words_of_ballot T T2 D_words_of_ballot
  have c_order_with_bits := Bs.c_order_with_bits T T2 D_order_with_bits
  have c_ballot_with_words := Bs.c_ballot_with_words T T2 D_ballot_with_words c_order_with_bits
  have c_outcome_of := Bs.c_outcome_of T T2 D_outcome_of c_words_of_ballot c_getitem c_order_with_bits
  have c_ballots_of := Bs.c_ballots_of T T2 D_ballots_of
  have c_first_ring := Bs.c_first_ring T D_first_ring c_width c_check_three c_ballots_of c_outcome_of
  have c_owned_by := Bs.c_owned_by T D_owned_by c_own_place
  have c_words_with := Bs.c_words_with T D_words_with c_bits
  have c_ring_words := Bs.c_ring_words T D_ring_words c_width c_word_count c_words_with
  obtain ⟨c_ring_paper, ck_ring_paper⟩ := Bs.c_ring_paper plain_ok T T2 D_ring_paper c_width c_check_three c_unlike_pair c_own_place c_owned_by c_ring_words c_ballot_with_words
  have c_ringing := Bs.c_ringing T T2 D_ringing c_width c_outcome_of
  obtain ⟨c_is_ring_paper, ck_is_ring_paper⟩ := Bs.c_is_ring_paper T T2 D_is_ring_paper c_check_three c_plain_integer c_unlike_pair c_owned_by c_ringing
  have c_law_mixed := Bs.c_law_mixed T D_law_mixed
  have c_law_wide := Bs.c_law_wide T D_law_wide c_law_mixed
  have c_law_store := Bs.c_law_store T D_law_store
  have c_law_take := Bs.c_law_take T D_law_take c_law_wide
  have c_law_near := Bs.c_law_near T D_law_near c_law_take
  have c_law_pick := Bs.c_law_pick T D_law_pick c_law_take
  have c_law_is_integer := Bs.c_law_is_integer T D_law_is_integer
  have c_law_same := Bs.c_law_same T D_law_same 1000 (Nat.le_refl _) 31
  have c_law_same2 := Bs.c_law_same T D_law_same 1000 (Nat.le_refl _) 2
  have c_law_copy := Bs.c_law_copy T D_law_copy 1000 (Nat.le_refl _) 31
  have c_law_spoil := Bs.c_law_spoil2 T D_law_spoil
  have c_law_is_table := Bs.c_law_is_table T D_law_is_table c_width c_bits c_law_same2
  have c_law_first_fault := Bs.c_law_first_fault T D_law_first_fault
  have c_law_odd := Bs.c_law_odd T D_law_odd c_law_take
  have c_law_orders := Bs.c_law_orders T D_law_orders c_law_take c_law_pick
  have c_law_order_bits := Bs.c_law_order_bits T D_law_order_bits
  have c_law_order_of := Bs.c_law_order_of T D_law_order_of c_law_order_bits
  have c_law_result_of := Bs.c_law_result_of T D_law_result_of c_law_order_bits c_law_order_of
  have c_law_ring_right := Bs.c_law_ring_right T D_law_ring_right c_law_is_integer c_law_result_of
  have c_law_bend_plain := Bs.c_law_bend_plain T D_law_bend_plain c_law_take
  have c_br := fun n hn => Bs.c_law_bend_row T D_law_bend_row c_law_near n hn
  have c_law_bend := Bs.c_law_bend T D_law_bend c_law_take c_law_near c_law_bend_plain c_br 3 (by decide)
  have c_law_ring_paper := Bs.c_law_ring_paper T D_law_ring_paper c_law_take c_law_odd c_law_orders c_law_result_of c_law_bend
  have c_law_no_ring := Bs.c_law_no_ring T D_law_no_ring
  have c_law_fault_of := Bs.c_law_fault_of T T3 D_law_fault_of
  have c_law_ask := Bs.c_law_ask T D_law_ask ck_ring_paper c_is_ring_paper ck_is_ring_paper
  have c_law_called := Bs.c_law_called T T3 D_law_called c_law_ask c_law_fault_of
  have c_law_judged := Bs.c_law_judged T D_law_judged c_law_copy c_law_ring_right c_law_called c_law_same
  have c_law_other_papers := Bs.c_law_other_papers T D_law_other_papers c_law_judged c_law_called c_law_same
  have c_law_some_three := Bs.c_law_some_three T D_law_some_three c_law_take
  have c_law_good := Bs.c_law_good T D_law_good c_law_some_three c_Table c_law_no_ring c_ring_paper c_law_same c_law_ring_right c_law_copy c_law_spoil c_law_called c_first_ring c_law_bend c_law_ring_paper c_law_judged c_law_other_papers c_law_is_table
  have c_law_bad := Bs.c_law_bad T D_law_bad c_law_take c_Table c_law_first_fault c_law_odd c_law_called c_law_same
  have c_law := Bs.c_law T F c_law_store c_law_take c_law_good c_law_bad
  exact c_law

end Bs
set_option Elab.async false
set_option linter.all false
set_option maxRecDepth 100000
set_option maxHeartbeats 4000000
namespace Bs
open PySem PySem.Spec PyProof.Rows L2
/-! F1: the law holds. -/
section
variable {K : PySem.W.Frag} {w : World} {h base : Heap} {mg : Str → Option Value}
theorem da (c : obsB K = valB w) (KX : K.In h) (G : h.Ns mainGlobals mg) (i : Nat) {x name qual : Str} {st : Stmt} (e : dfs[i]? = some ⟨fun K => He.ga K x, name, qual, st, []⟩) (j : Nat) (hx : glos[j]? = some x) : DefAt ⟨prog, w, K, mg, base⟩ x name qual st :=
  let ⟨fd, F⟩ := dx c i e
  ⟨_, fd, F, glx c KX G (List.mem_of_getElem? hx)⟩
theorem daD (c : obsB K = valB w) (KX : K.In h) (G : h.Ns mainGlobals mg) (i : Nat) {x name qual : Str} {st : Stmt} {dv : List V} (e : dfs[i]? = some ⟨fun K => He.ga K x, name, qual, st, dv⟩) (j : Nat) (hx : glos[j]? = some x) : DefAtD ⟨prog, w, K, mg, base⟩ x name qual st dv :=
  let ⟨fd, F⟩ := dx c i e
  ⟨_, fd, F, glx c KX G (List.mem_of_getElem? hx)⟩
theorem prB_ok {x : Str} (h : prB K x = true) : PropOf K (He.ga K "Table") x (prA K x) (prG K x) := by
  obtain ⟨h1, h⟩ := He.ba h
  obtain ⟨h2, h⟩ := He.ba h
  obtain ⟨h3, h4⟩ := He.ba h
  refine ⟨He.eqO_ok h1, He.eqO_ok h2, of_decide_eq_true h3, ?_⟩
  split at h4
  · rename_i g r e
    obtain rfl := of_decide_eq_true h4
    exact ⟨r, e⟩
  · cases h4
theorem owB_ok {x : Str} (h : owB K x = true) : PySem.W.findIn K (.ref (He.ga K "Table")) x = some (some (.ref (prA K x))) ∧ PySem.W.isFn K (.ref (prA K x)) = true ∧ PySem.W.fnIn K (prA K x) = true := by
  obtain ⟨h1, h⟩ := He.ba h
  obtain ⟨h2, h3⟩ := He.ba h
  exact ⟨He.eqO_ok h1, h2, h3⟩
theorem law_at (c : obsB K = valB w) (KX : K.In h) (G : h.Ns mainGlobals mg) : ∃ fd : FuncData, (∀ (s : Shared) (v : Value), BindsTo s fd ⟨[v], []⟩ [("_law_script", v)]) ∧ ∀ base : Heap, K.In base → base.Ns mainGlobals mg → FnOk prog w K mg base CX0 35 (He.ga K "law") fd ["_law_script"] (sp_law K) := by
  obtain ⟨fd, F⟩ := dx c 70 rfl
  have F : FnF K "law" "law" s_law [] (He.ga K "law") fd := F
  have b := FunD.bindsA (ps := ["_law_script"]) F fun _ _ _ _ _ _ us hl => match us, hl with | [_], _ => rfl
  refine ⟨fd, fun s v => b s [v] rfl, fun base _ _ => ?_⟩
  have T := txt_of c KX G
  have eK : BsX.Ec K mg prog true "WrongKind" (erA K 0) := ec_of KX G (glx c KX G (List.mem_of_getElem? (i := 71) rfl)) (frx c KX G (List.mem_of_getElem? (i := 15) rfl)) (fx c 36 rfl) (fx c 28 rfl) (fx c 34 rfl) (fx c 38 rfl) (congrArg (fun z : AlB => z.2.2.2.1) c) (He.eqO_ok (He.ba (He.ba (fx c 32 rfl)).2).2)
  have eS : BsX.Ec K mg prog false "WrongSize" (erA K 1) := ec_of KX G (glx c KX G (List.mem_of_getElem? (i := 72) rfl)) (frx c KX G (List.mem_of_getElem? (i := 15) rfl)) (fx c 37 rfl) (fx c 29 rfl) (fx c 35 rfl) (fx c 39 rfl) (congrArg (fun z : AlB => z.2.2.2.2) c) (He.eqO_ok (He.ba (He.ba (fx c 33 rfl)).2).2)
  obtain ⟨fi, Fi⟩ := dx c 12 rfl
  obtain ⟨fw, Fw⟩ := dx c 13 rfl
  obtain ⟨fb, Fb⟩ := dx c 14 rfl
  obtain ⟨fo, Fo⟩ := dx c 15 rfl
  obtain ⟨fg, Fg⟩ := dx c 16 rfl
  obtain ⟨fe, Fe⟩ := dx c 17 rfl
  obtain ⟨g1, g2, g3⟩ := owB_ok (fx c 19 rfl)
  obtain ⟨q1, q2, q3⟩ := owB_ok (fx c 20 rfl)
  exact law_all (W := ⟨prog, w, K, mg, base⟩) (a := adOf K) T (tx2_of c) (tx3_of c KX G) eK eS ⟨_, fi, He.mkr_ok (fx c 8 rfl), Fi, glx c KX G (List.mem_of_getElem? (i := 65) rfl)⟩
    ⟨_, _, fw, prB_ok (fx c 16 rfl), Fw⟩ ⟨_, _, fb, prB_ok (fx c 17 rfl), Fb⟩ ⟨_, _, fo, prB_ok (fx c 18 rfl), Fo⟩ ⟨_, fg, g1, g2, g3, Fg⟩ ⟨_, fe, q1, q2, q3, Fe⟩
    (da (base := base) c KX G 0 rfl 0 rfl)
    (da (base := base) c KX G 1 rfl 1 rfl)
    (da (base := base) c KX G 2 rfl 2 rfl)
    (da (base := base) c KX G 3 rfl 3 rfl)
    (da (base := base) c KX G 4 rfl 4 rfl)
    (da (base := base) c KX G 5 rfl 5 rfl)
    (da (base := base) c KX G 6 rfl 6 rfl)
    (da (base := base) c KX G 7 rfl 7 rfl)
    (da (base := base) c KX G 8 rfl 8 rfl)
    (da (base := base) c KX G 9 rfl 9 rfl)
    (da (base := base) c KX G 10 rfl 10 rfl)
    (da (base := base) c KX G 11 rfl 11 rfl)
    (da (base := base) c KX G 18 rfl 12 rfl)
    (da (base := base) c KX G 19 rfl 13 rfl)
    (daD (base := base) c KX G 20 rfl 14 rfl)
    (daD (base := base) c KX G 21 rfl 15 rfl)
    (da (base := base) c KX G 22 rfl 16 rfl)
    (da (base := base) c KX G 23 rfl 17 rfl)
    (da (base := base) c KX G 24 rfl 18 rfl)
    (da (base := base) c KX G 31 rfl 25 rfl)
    (da (base := base) c KX G 32 rfl 26 rfl)
    (da (base := base) c KX G 25 rfl 19 rfl)
    (da (base := base) c KX G 26 rfl 20 rfl)
    (da (base := base) c KX G 27 rfl 21 rfl)
    (da (base := base) c KX G 28 rfl 22 rfl)
    (da (base := base) c KX G 29 rfl 23 rfl)
    (da (base := base) c KX G 30 rfl 24 rfl)
    (da (base := base) c KX G 33 rfl 27 rfl)
    (da (base := base) c KX G 34 rfl 28 rfl)
    (da (base := base) c KX G 35 rfl 29 rfl)
    (da (base := base) c KX G 36 rfl 30 rfl)
    (da (base := base) c KX G 37 rfl 31 rfl)
    (da (base := base) c KX G 38 rfl 32 rfl)
    (da (base := base) c KX G 39 rfl 33 rfl)
    (da (base := base) c KX G 40 rfl 34 rfl)
    (da (base := base) c KX G 41 rfl 35 rfl)
    (da (base := base) c KX G 42 rfl 36 rfl)
    (da (base := base) c KX G 43 rfl 37 rfl)
    (da (base := base) c KX G 44 rfl 38 rfl)
    (da (base := base) c KX G 45 rfl 39 rfl)
    (da (base := base) c KX G 46 rfl 40 rfl)
    (da (base := base) c KX G 47 rfl 41 rfl)
    (da (base := base) c KX G 48 rfl 42 rfl)
    (da (base := base) c KX G 49 rfl 43 rfl)
    (da (base := base) c KX G 50 rfl 44 rfl)
    (da (base := base) c KX G 54 rfl 48 rfl)
    (da (base := base) c KX G 55 rfl 49 rfl)
    (da (base := base) c KX G 56 rfl 50 rfl)
    (da (base := base) c KX G 57 rfl 51 rfl)
    (da (base := base) c KX G 58 rfl 52 rfl)
    (da (base := base) c KX G 59 rfl 53 rfl)
    (da (base := base) c KX G 53 rfl 47 rfl)
    (da (base := base) c KX G 52 rfl 46 rfl)
    (da (base := base) c KX G 51 rfl 45 rfl)
    (da (base := base) c KX G 60 rfl 54 rfl)
    (da (base := base) c KX G 64 rfl 58 rfl)
    (da (base := base) c KX G 61 rfl 55 rfl)
    (da (base := base) c KX G 63 rfl 57 rfl)
    (da (base := base) c KX G 62 rfl 56 rfl)
    (da (base := base) c KX G 65 rfl 59 rfl)
    (da (base := base) c KX G 66 rfl 60 rfl)
    (da (base := base) c KX G 67 rfl 61 rfl)
    (da (base := base) c KX G 68 rfl 62 rfl)
    (da (base := base) c KX G 69 rfl 63 rfl)
    F
end
end Bs
open PySem PySem.W PySem.Calls PyProof.Rows
set_option maxHeartbeats 0
theorem PySem.Challenge.cw_bitshades_k92_whole_ring_papers_holds : PySem.Challenge.rw_bitshades_k92_whole_ring_papers.Holds := by
  refine Bs.hd_red fun said => ?_
  refine HandSHeadRun.head_any (r := Bs.Rw0) (q := Bs.qv) (H := Bs.hookB) (ob := Bs.obB) (M := 20000) (loose := Bs.loo) (d := Bs.dLaw) (kwd := []) Bs.obB_eq Bs.hd_open Bs.hd_fence Bs.runW Bs.hd_def Bs.hd_the Bs.hd_kw Bs.hd_wr said Bs.hd_ok Bs.hd_bare Bs.hd_prom ?hc
  refine L2.walk_ofE (l := PySem.Challenge.rw_bitshades_k92_whole_ring_papers) (n := 63) (k := 35) (x := "_law_script") (CX := L2.CX0) rfl (by decide) Bs.hd_dfl ⟨rfl, by decide, by decide⟩ ?F (fun _ _ _ _ z => z)
  intro w mg fa h Y G hmg0
  obtain ⟨K, KX, c⟩ := Y
  have hmg : mg ("law" : PySem.Str) = some (.ref fa) := by
    rw [← Bs.hd_name]
    exact hmg0
  obtain ⟨fd, hb, hF⟩ := Bs.law_at c KX G
  have e := hmg.symm.trans (Bs.glx c KX G (x := "law") (List.mem_of_getElem? (i := 64) rfl))
  cases e
  exact ⟨K, fd, Bs.sp_law K, KX, hb, fun H a ns hl _ hS => ⟨a, ns, rfl, hS, fun _ => rfl⟩, hF⟩
