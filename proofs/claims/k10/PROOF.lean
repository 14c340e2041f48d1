import PyProof.Rows.All
import Wide.All
import OpenK.AllK
import Wide.FinOn
import HandS.ForMost
import HandS.ForExc
import HandS.Wide
import HandS.WideMore
import HandS.TupAny
import HandS.TupMul
import HandS.IsInst
import HandS.Style
import HandS.Lambda
import HandS.Deep
import KE.KTupSum
import HandS.Conv
import HandS.TryOnly
import HandS.StrMore
import HandS.RaiseMore
import KE.IntTextLaws
import HandS.EndTab
import HandS.EndOwn
import HandS.NestedK
import PyProof.StrBlock2
import HandS.ExcIs
import PySem.Challenge.RW_runsplits_k10_texts_of_books
set_option Elab.async false
set_option linter.all false
set_option maxRecDepth 100000
set_option maxHeartbeats 4000000
namespace DL
/-- the tables of code objects in which lambdas are noted, with their names -/
def lamT : List (PySem.Addr × PySem.Str) := [(311, "_law_tried.<locals>.<lambda>")]
end DL

namespace DL
open PySem PySem.Spec PyProof.Rows L2
abbrev St := L2.St

/-! ## data -/
inductive D where
  | non | bl (b : Bool) | int (i : Int) | str (x : Str) | lst (xs : List D) | tup (xs : List D) | ref (a : Addr)
  /-- a list of ints that is read alone (the script) -/
  | scr (ns : List Int)

mutual
inductive Dv (K : PySem.W.Frag) (H : Hp) : V → D → Prop
  | non : Dv K H .non .non
  | bl (b : Bool) : Dv K H (.bl b) (.bl b)
  | int (i : Int) : Dv K H (.int i) (.int i)
  | str (x : Str) : Dv K H (.str x) (.str x)
  | lst {a : Addr} {xs : List V} {ds : List D} : H a = some (.lst xs) → ds.length ≤ sizeLine → DvA K H xs ds → Dv K H (.ref a) (.lst ds)
  | tup {a : Addr} {xs : List V} {ds : List D} : H a = some (.tup xs) → ds.length ≤ sizeLine → DvA K H xs ds → Dv K H (.ref a) (.tup ds)
  | ref (a : Addr) : Dv K H (.ref a) (.ref a)
  | scr {a : Addr} {ns : List Int} : SqL K H a (ns.map V.int) → Dv K H (.ref a) (.scr ns)
inductive DvA (K : PySem.W.Frag) (H : Hp) : List V → List D → Prop
  | nil : DvA K H [] []
  | cons {v : V} {vs : List V} {d : D} {ds : List D} : Dv K H v d → DvA K H vs ds → DvA K H (v :: vs) (d :: ds)
end
mutual
theorem Dv.mono {K : PySem.W.Frag} {H H' : Hp} (e : Same H H') : ∀ (d : D) (v : V), Dv K H v d → Dv K H' v d
  | .non, _, h => by cases h; exact .non
  | .bl b, _, h => by cases h; exact .bl b
  | .int i, _, h => by cases h; exact .int i
  | .str x, _, h => by cases h; exact .str x
  | .ref a, _, h => by cases h; exact .ref a
  | .scr ns, _, h => by cases h with | scr hs => exact .scr (e.seq hs)
  | .lst ds, _, h => by cases h with | lst hs hz ha => exact .lst (e _ _ hs) hz (DvA.mono e ds _ ha)
  | .tup ds, _, h => by cases h with | tup hs hz ha => exact .tup (e _ _ hs) hz (DvA.mono e ds _ ha)
theorem DvA.mono {K : PySem.W.Frag} {H H' : Hp} (e : Same H H') : ∀ (ds : List D) (vs : List V), DvA K H vs ds → DvA K H' vs ds
  | [], _, h => by cases h; exact .nil
  | d :: ds, _, h => by cases h with | cons h1 h2 => exact .cons (Dv.mono e d _ h1) (DvA.mono e ds _ h2)
end
section
variable {K : PySem.W.Frag} {H H' : Hp}
theorem DvA.length : ∀ {ds : List D} {vs : List V}, DvA K H vs ds → vs.length = ds.length
  | [], _, h => by cases h; rfl
  | d :: ds, _, h => by cases h with | cons h1 h2 => simp [DvA.length h2]
theorem DvA.get : ∀ {ds : List D} {vs : List V} {i : Nat} {v : V}, DvA K H vs ds → vs[i]? = some v → ∃ d, ds[i]? = some d ∧ Dv K H v d
  | [], _, i, v, h, e => by cases h; simp at e
  | d :: ds, _, 0, v, h, e => by cases h with | cons h1 h2 => simp at e; subst e; exact ⟨d, rfl, h1⟩
  | d :: ds, _, i + 1, v, h, e => by cases h with | cons h1 h2 => simp at e; simpa using DvA.get h2 e
theorem DvA.getD : ∀ {ds : List D} {vs : List V} {i : Nat} {d : D}, DvA K H vs ds → ds[i]? = some d → ∃ v, vs[i]? = some v ∧ Dv K H v d
  | [], _, i, v, h, e => by simp at e
  | d :: ds, _, 0, v, h, e => by cases h with | cons h1 h2 => simp at e; subst e; exact ⟨_, rfl, h1⟩
  | d :: ds, _, i + 1, v, h, e => by cases h with | cons h1 h2 => simp at e; simpa using DvA.getD h2 e
theorem DvA.append : ∀ {ds es : List D} {vs ws : List V}, DvA K H vs ds → DvA K H ws es → DvA K H (vs ++ ws) (ds ++ es)
  | [], _, _, _, h, h' => by cases h; exact h'
  | d :: ds, _, _, _, h, h' => by cases h with | cons h1 h2 => exact .cons h1 (DvA.append h2 h')
theorem DvA.take : ∀ {ds : List D} {vs : List V} (n : Nat), DvA K H vs ds → DvA K H (vs.take n) (ds.take n)
  | _, _, 0, _ => by simpa using DvA.nil
  | [], _, n + 1, h => by cases h; simpa using DvA.nil
  | d :: ds, _, n + 1, h => by cases h with | cons h1 h2 => simpa using DvA.cons h1 (DvA.take n h2)
theorem DvA.drop : ∀ {ds : List D} {vs : List V} (n : Nat), DvA K H vs ds → DvA K H (vs.drop n) (ds.drop n)
  | _, _, 0, h => by simpa using h
  | [], _, n + 1, h => by cases h; simpa using DvA.nil
  | d :: ds, _, n + 1, h => by cases h with | cons h1 h2 => simpa using DvA.drop n h2
theorem DvA.set {v : V} {d : D} (hd : Dv K H v d) : ∀ {ds : List D} {vs : List V} (n : Nat), DvA K H vs ds → DvA K H (vs.set n v) (ds.set n d)
  | [], _, _, h => by cases h; simpa using DvA.nil
  | _ :: _, _, 0, h => by cases h with | cons h1 h2 => exact .cons hd h2
  | _ :: _, _, n + 1, h => by cases h with | cons h1 h2 => exact .cons h1 (DvA.set hd n h2)
theorem DvA.rep {v : V} {d : D} (hd : Dv K H v d) : ∀ n : Nat, DvA K H (List.replicate n v) (List.replicate n d)
  | 0 => .nil
  | n + 1 => .cons hd (DvA.rep hd n)
end

/-! ## the state -/
inductive Sl where
  | val (d : D)
  /-- a list that this slot alone holds; it may be changed -/
  | own (xs : List D)
  /-- the list that the caller lent -/
  | via
structure S where
  sl : List (Option Sl)
  via : Option (List D)
def S.put (s : S) (i : Nat) (x : Sl) : S := ⟨s.sl.set i (some x), s.via⟩
def S.clr (s : S) (i : Nat) : S := ⟨s.sl.set i none, s.via⟩
@[simp] theorem S.put_via (s : S) (i : Nat) (x : Sl) : (s.put i x).via = s.via := rfl
@[simp] theorem S.put_mk (l : List (Option Sl)) (w : Option (List D)) (i : Nat) (x : Sl) : S.put ⟨l, w⟩ i x = ⟨l.set i (some x), w⟩ := rfl

inductive R (α : Type) where
  | ok (a : α) (s : S)
  | exc (n : Str) (p : Option Int) (s : S)
  | stuck
def R.bind {α β : Type} (r : R α) (k : α → S → R β) : R β := match r with
  | .ok a s => k a s
  | .exc n p s => .exc n p s
  | .stuck => .stuck
@[simp] theorem R.bind_ok {α β : Type} (a : α) (s : S) (k : α → S → R β) : (R.ok a s).bind k = k a s := rfl
@[simp] theorem R.bind_exc {α β : Type} (n : Str) (p : Option Int) (s : S) (k : α → S → R β) : (R.exc n p s : R α).bind k = .exc n p s := rfl
@[simp] theorem R.bind_stuck {α β : Type} (k : α → S → R β) : (R.stuck : R α).bind k = .stuck := rfl

/-- how a statement ends -/
inductive T where
  | next (s : S) | ret (d : D) (s : S) | retO (xs : List D) (s : S) | brk (s : S) | cnt (s : S) | exc (n : Str) (p : Option Int) (s : S) | stuck
def R.thn {α : Type} (r : R α) (k : α → S → T) : T := match r with
  | .ok a s => k a s
  | .exc n p s => .exc n p s
  | .stuck => .stuck
@[simp] theorem R.thn_ok {α : Type} (a : α) (s : S) (k : α → S → T) : (R.ok a s).thn k = k a s := rfl
@[simp] theorem R.thn_exc {α : Type} (n : Str) (p : Option Int) (s : S) (k : α → S → T) : (R.exc n p s : R α).thn k = .exc n p s := rfl
@[simp] theorem R.thn_stuck {α : Type} (k : α → S → T) : (R.stuck : R α).thn k = .stuck := rfl
def T.seq (r : T) (k : S → T) : T := match r with
  | .next s => k s
  | r => r
@[simp] theorem T.seq_next (s : S) (k : S → T) : (T.next s).seq k = k s := rfl
@[simp] theorem T.seq_ret (d : D) (s : S) (k : S → T) : (T.ret d s).seq k = .ret d s := rfl
@[simp] theorem T.seq_retO (d : List D) (s : S) (k : S → T) : (T.retO d s).seq k = .retO d s := rfl
@[simp] theorem T.seq_brk (s : S) (k : S → T) : (T.brk s).seq k = .brk s := rfl
@[simp] theorem T.seq_cnt (s : S) (k : S → T) : (T.cnt s).seq k = .cnt s := rfl
@[simp] theorem T.seq_exc (n : Str) (p : Option Int) (s : S) (k : S → T) : (T.exc n p s).seq k = .exc n p s := rfl
@[simp] theorem T.seq_stuck (k : S → T) : T.stuck.seq k = .stuck := rfl

/-- where the lent list lies, and the tables of code objects that are known -/
structure VA where
  a : Addr
/-- the known tables; what stays as it is holds none of them -/
structure TB (T : List (Addr × Str)) (HP H : Hp) : Prop where
  t : LamX.Tabs T H
  n : ∀ b ps, HP b ≠ some (.tbl ps)
theorem noTb_upd {HP : Hp} {p : Addr} {o : HO} (h : ∀ b ps, HP b ≠ some (.tbl ps)) (ho : ∀ ps, o ≠ .tbl ps) : ∀ b ps, upd HP p o b ≠ some (.tbl ps) := fun b ps z => by
  by_cases e : b = p
  · subst e; rw [upd_same] at z; exact ho ps (Option.some.inj z)
  · rw [upd_ne e] at z; exact h b ps z
section
variable (K : PySem.W.Frag) (mg : Str → Option Value) (va : VA)
/-- the state told of: HP the part of the heap that stays as it is -/
structure Rel (s : S) (σ : St) (HP H : Hp) : Prop where
  len : s.sl.length = σ.length
  sub : Same HP H
  val : ∀ (i : Nat) d, s.sl[i]? = some (some (.val d)) → ∃ v, σ[i]? = some (some v) ∧ Dv K HP v d
  own : ∀ (i : Nat) xs, s.sl[i]? = some (some (.own xs)) → ∃ a vs, σ[i]? = some (some (.ref a)) ∧ HP a = none ∧ H a = some (.lst vs) ∧ xs.length ≤ sizeLine ∧ DvA K HP vs xs
  vis : ∀ (i : Nat), s.sl[i]? = some (some .via) → σ[i]? = some (some (.ref va.a)) ∧ s.via ≠ none
  vst : ∀ xs, s.via = some xs → HP va.a = none ∧ ∃ vs, H va.a = some (.lst vs) ∧ xs.length ≤ sizeLine ∧ DvA K HP vs xs
  dis : ∀ (i j : Nat) xs ys a, i ≠ j → s.sl[i]? = some (some (.own xs)) → s.sl[j]? = some (some (.own ys)) → σ[i]? = some (some (.ref a)) → σ[j]? ≠ some (some (.ref a))
  dvi : ∀ (i : Nat) xs, s.sl[i]? = some (some (.own xs)) → s.via ≠ none → σ[i]? ≠ some (some (.ref va.a))
  tab : TB lamT HP H
def Owns (s : S) (σ : St) (b : Addr) : Prop := (∃ (i : Nat) (xs : List D), s.sl[i]? = some (some (.own xs)) ∧ σ[i]? = some (some (.ref b))) ∨ (s.via ≠ none ∧ b = va.a)
structure Stp (s : S) (σ : St) (HP H : Hp) (s' : S) (σ' : St) (HP' H' : Hp) : Prop where
  rel : Rel K va s' σ' HP' H'
  same : Same HP HP'
  keep : ∀ b o, H b = some o → (∀ ps, o ≠ .tbl ps) → ¬ Owns va s σ b → H' b = some o ∧ ¬ Owns va s' σ' b ∧ (HP b = none → HP' b = none)
  via : s.via = none ↔ s'.via = none
end
section
variable {K : PySem.W.Frag} {mg : Str → Option Value} {va : VA} {s s1 s2 : S} {σ σ1 σ2 : St} {HP H HP1 H1 HP2 H2 : Hp}
theorem Stp.refl (r : Rel K va s σ HP H) : Stp K va s σ HP H s σ HP H := ⟨r, Same.refl _, fun b o h _ n => ⟨h, n, fun z => z⟩, Iff.rfl⟩
theorem Stp.trans (a : Stp K va s σ HP H s1 σ1 HP1 H1) (b : Stp K va s1 σ1 HP1 H1 s2 σ2 HP2 H2) : Stp K va s σ HP H s2 σ2 HP2 H2 :=
  ⟨b.rel, a.same.trans b.same, fun c o h nt n => by
    obtain ⟨h1, n1, p1⟩ := a.keep c o h nt n
    obtain ⟨h2, n2, p2⟩ := b.keep c o h1 nt n1
    exact ⟨h2, n2, fun z => p2 (p1 z)⟩, a.via.trans b.via⟩
theorem tab_upd {T : List (Addr × Str)} {a : Addr} {o : HO} {vs : List V} (t : LamX.Tabs T H) (h : H a = some (.lst vs)) : LamX.Tabs T (upd H a o) := fun p hp => by
  obtain ⟨ps, h1, h2, h3⟩ := t p hp
  have n1 : p.1 ≠ a := fun z => by rw [z, h] at h1; cases h1
  refine ⟨ps, by rw [upd_ne n1]; exact h1, h2, fun pos cv hc => ?_⟩
  obtain ⟨c, e1, e2⟩ := h3 pos cv hc
  have n2 : c ≠ a := fun z => by
    rw [z, h] at e2
    unfold LamX.CodeO at e2
    cases e2
  exact ⟨c, e1, by rw [upd_ne n2]; exact e2⟩
/-- a new object that stays -/
theorem Rel.laid (r : Rel K va s σ HP H) {p : Addr} {o : HO} (n : H p = none) (ho : ∀ ps, o ≠ .tbl ps := by intro _ z; cases z) : Stp K va s σ HP H s σ (upd HP p o) (upd H p o) := by
  have nP : HP p = none := r.sub.free n
  have sm : Same HP (upd HP p o) := fun b x e => by rw [upd_ne (ne_of_none e nP)]; exact e
  have ne : ∀ {b x}, H b = some x → b ≠ p := fun e => ne_of_none e n
  have no : ∀ b x, H b = some x → upd H p o b = some x := fun b x e => by rw [upd_ne (ne e)]; exact e
  refine ⟨⟨r.len, fun b x e => ?_, fun i d e => ?_, fun i xs e => ?_, r.vis, fun xs e => ?_, r.dis, r.dvi, ⟨r.tab.t.ext no, noTb_upd r.tab.n ho⟩⟩, sm, fun b x e _ nb => ⟨no b x e, nb, fun z => ?_⟩, Iff.rfl⟩
  · by_cases h : b = p
    · subst h; rw [upd_same] at e ⊢; exact e
    · rw [upd_ne h] at e ⊢; exact r.sub b x e
  · obtain ⟨v, h1, h2⟩ := r.val i d e
    exact ⟨v, h1, Dv.mono sm d v h2⟩
  · obtain ⟨a, vs, h1, h2, h3, hz, h4⟩ := r.own i xs e
    exact ⟨a, vs, h1, by rw [upd_ne (ne h3)]; exact h2, no _ _ h3, hz, DvA.mono sm xs vs h4⟩
  · obtain ⟨h1, vs, h2, hz, h3⟩ := r.vst xs e
    exact ⟨by rw [upd_ne (ne h2)]; exact h1, vs, no _ _ h2, hz, DvA.mono sm xs vs h3⟩
  · rw [upd_ne (ne e)]; exact z
end

/-! ## the judgements -/
/-- what an exception carries -/
def ExcAt (p : Option Int) (dd : Option Addr) (H : Hp) : Prop := match p with
  | none => dd = none
  | some i => ∃ a, dd = some a ∧ H a = some (.xd [(("limit" : Str), .int i)])
section
variable (X : Cx) (W : WX)
/-- the end of an expression that is told by r -/
def PoE (va : VA) (s : S) (σ : St) (HP H : Hp) (r : R D) (Q : VK) : Prop := match r with
  | .ok d s' => ∀ v H' HP', Stp X.K va s σ HP H s' σ HP' H' → Dv X.K HP' v d → Q v H'
  | .exc n p s' => ∀ dd H' HP' C, Stp X.K va s σ HP H s' σ HP' H' → ExcAt p dd H' → X.mg n = some (.ref C) → W (.ref C) dd σ H'
  | .stuck => False
def PoT (va : VA) (s : S) (σ : St) (HP H : Hp) (r : R Bool) (Q : Bool → Hp → Prop) : Prop := match r with
  | .ok b s' => ∀ H' HP', Stp X.K va s σ HP H s' σ HP' H' → Q b H'
  | .exc n p s' => ∀ dd H' HP' C, Stp X.K va s σ HP H s' σ HP' H' → ExcAt p dd H' → X.mg n = some (.ref C) → W (.ref C) dd σ H'
  | .stuck => False
def PoA (va : VA) (s : S) (σ : St) (HP H : Hp) (r : R (List D)) (Q : List V → Hp → Prop) : Prop := match r with
  | .ok ds s' => ∀ vs H' HP', Stp X.K va s σ HP H s' σ HP' H' → DvA X.K HP' vs ds → Q vs H'
  | .exc n p s' => ∀ dd H' HP' C, Stp X.K va s σ HP H s' σ HP' H' → ExcAt p dd H' → X.mg n = some (.ref C) → W (.ref C) dd σ H'
  | .stuck => False
def PoS (va : VA) (s : S) (σ : St) (HP H : Hp) (r : T) (D : Ends) : Prop := match r with
  | .next s' => ∀ σ' H' HP', Stp X.K va s σ HP H s' σ' HP' H' → D.nx σ' H'
  | .ret d s' => ∀ v σ' H' HP', Stp X.K va s σ HP H s' σ' HP' H' → Dv X.K HP' v d → D.rt v H'
  | .retO xs s' => ∀ p vs σ' H' HP', Stp X.K va s σ HP H s' σ' HP' H' → H' p = none → xs.length ≤ sizeLine → DvA X.K HP' vs xs → D.rt (.ref p) (upd H' p (.lst vs))
  | .brk s' => ∀ σ' H' HP', Stp X.K va s σ HP H s' σ' HP' H' → D.bk σ' H'
  | .cnt s' => ∀ σ' H' HP', Stp X.K va s σ HP H s' σ' HP' H' → D.ct σ' H'
  | .exc n p s' => ∀ dd σ' H' HP' C, Stp X.K va s σ HP H s' σ' HP' H' → ExcAt p dd H' → X.mg n = some (.ref C) → W (.ref C) dd σ' H'
  | .stuck => False
def tDE (f : S → R D) : TE := fun σ H Q => ∃ va s HP, Rel X.K va s σ HP H ∧ PoE X W va s σ HP H (f s) Q
def tDT (f : S → R Bool) : TT := fun σ H Q => ∃ va s HP, Rel X.K va s σ HP H ∧ PoT X W va s σ HP H (f s) Q
def tDA (f : S → R (List D)) : TA := fun σ H Q => ∃ va s HP, Rel X.K va s σ HP H ∧ PoA X W va s σ HP H (f s) Q
def tDS (f : S → T) : TS := fun D σ H => ∃ va s HP, Rel X.K va s σ HP H ∧ PoS X W va s σ HP H (f s) D
def DE (e : Expr) (f : S → R D) : Prop := PE X e (tDE X W f)
def DT (e : Expr) (f : S → R Bool) : Prop := PT X e (tDT X W f)
def DW (e : Expr) (f : S → R Bool) : Prop := PW X e (tDT X W f)
def DA (es : List Expr) (f : S → R (List D)) : Prop := PA X es (tDA X W f)
def DS (st : Stmt) (f : S → T) : Prop := PS X st (tDS X W f)
def DSs (st : List Stmt) (f : S → T) : Prop := PSs X st (tDS X W f)
end
section
variable {X : Cx} {e : Expr} {es : List Expr} {st : Stmt} {sts : List Stmt}
theorem pe_imp {t t' : TE} (h : PE X e t) (i : ∀ σ H Q, t' σ H Q → t σ H Q) : PE X e t' := ⟨fun pins s σ H Q I w => h.run pins s σ H Q I (i σ H Q w)⟩
theorem pt_imp {t t' : TT} (h : PT X e t) (i : ∀ σ H Q, t' σ H Q → t σ H Q) : PT X e t' := ⟨fun pins s σ H Q I w => h.run pins s σ H Q I (i σ H Q w)⟩
theorem pw_imp {t t' : TT} (h : PW X e t) (i : ∀ σ H Q, t' σ H Q → t σ H Q) : PW X e t' := ⟨fun wh pins s σ H Q I w => h.run wh pins s σ H Q I (i σ H Q w)⟩
theorem pa_imp {t t' : TA} (h : PA X es t) (i : ∀ σ H Q, t' σ H Q → t σ H Q) : PA X es t' := ⟨fun pos pins s σ H Q I w => h.run pos pins s σ H Q I (i σ H Q w)⟩
theorem ps_imp {t t' : TS} (h : PS X st t) (i : ∀ D σ H, t' D σ H → t D σ H) : PS X st t' := ⟨fun pins s σ H D I w => h.run pins s σ H D I (i D σ H w)⟩
theorem pss_imp {t t' : TS} (h : PSs X sts t) (i : ∀ D σ H, t' D σ H → t D σ H) : PSs X sts t' := ⟨fun pins s σ H D I w => h.run pins s σ H D I (i D σ H w)⟩
end
section
variable {X : Cx} {W : WX} {va : VA} {s s1 : S} {σ σ1 : St} {HP H HP1 H1 : Hp}
theorem PoE.from (a : Stp X.K va s σ HP H s1 σ HP1 H1) {r : R D} {Q : VK} (h : PoE X W va s σ HP H r Q) : PoE X W va s1 σ HP1 H1 r Q := by
  cases r with
  | ok d s' => exact fun v H' HP' st dv => h v H' HP' (a.trans st) dv
  | exc n p s' => exact fun dd H' HP' C st e m => h dd H' HP' C (a.trans st) e m
  | stuck => exact h
theorem PoT.from (a : Stp X.K va s σ HP H s1 σ HP1 H1) {r : R Bool} {Q : Bool → Hp → Prop} (h : PoT X W va s σ HP H r Q) : PoT X W va s1 σ HP1 H1 r Q := by
  cases r with
  | ok d s' => exact fun H' HP' st => h H' HP' (a.trans st)
  | exc n p s' => exact fun dd H' HP' C st e m => h dd H' HP' C (a.trans st) e m
  | stuck => exact h
theorem PoA.from (a : Stp X.K va s σ HP H s1 σ HP1 H1) {r : R (List D)} {Q : List V → Hp → Prop} (h : PoA X W va s σ HP H r Q) : PoA X W va s1 σ HP1 H1 r Q := by
  cases r with
  | ok d s' => exact fun v H' HP' st dv => h v H' HP' (a.trans st) dv
  | exc n p s' => exact fun dd H' HP' C st e m => h dd H' HP' C (a.trans st) e m
  | stuck => exact h
theorem PoS.from (a : Stp X.K va s σ HP H s1 σ1 HP1 H1) {r : T} {D : Ends} (h : PoS X W va s σ HP H r D) : PoS X W va s1 σ1 HP1 H1 r D := by
  cases r with
  | next s' => exact fun σ' H' HP' st => h σ' H' HP' (a.trans st)
  | ret d s' => exact fun v σ' H' HP' st dv => h v σ' H' HP' (a.trans st) dv
  | retO xs s' => exact fun p vs σ' H' HP' st n z dv => h p vs σ' H' HP' (a.trans st) n z dv
  | brk s' => exact fun σ' H' HP' st => h σ' H' HP' (a.trans st)
  | cnt s' => exact fun σ' H' HP' st => h σ' H' HP' (a.trans st)
  | exc n p s' => exact fun dd σ' H' HP' C st e m => h dd σ' H' HP' C (a.trans st) e m
  | stuck => exact h
/-- an expression, then more -/
theorem bindE {f : S → R D} {R : VK} (r : Rel X.K va s σ HP H)
    (k : ∀ d s' v H' HP', f s = .ok d s' → Stp X.K va s σ HP H s' σ HP' H' → Dv X.K HP' v d → R v H')
    (kx : ∀ n p s' dd H' HP' C, f s = .exc n p s' → Stp X.K va s σ HP H s' σ HP' H' → ExcAt p dd H' → X.mg n = some (.ref C) → W (.ref C) dd σ H')
    (ks : f s ≠ .stuck) : tDE X W f σ H R := by
  refine ⟨va, s, HP, r, ?_⟩
  cases e : f s with
  | ok d s' => exact fun v H' HP' st dv => k d s' v H' HP' e st dv
  | exc n p s' => exact fun dd H' HP' C st x m => kx n p s' dd H' HP' C e st x m
  | stuck => exact ks e
theorem bindEE {f : S → R D} {g : D → S → R D} {Q R : VK} (r : Rel X.K va s σ HP H) (h : PoE X W va s σ HP H ((f s).bind g) Q)
    (k : ∀ d s' v H' HP', Stp X.K va s σ HP H s' σ HP' H' → Dv X.K HP' v d → PoE X W va s' σ HP' H' (g d s') Q → R v H') : tDE X W f σ H R := by
  refine bindE r (fun d s' v H' HP' e st dv => ?_) (fun n p s' dd H' HP' C e st x m => ?_) (fun e => ?_) <;> rw [e] at h
  · exact k d s' v H' HP' st dv (h.from st)
  · exact h dd H' HP' C st x m
  · exact h
theorem bindET {f : S → R D} {g : D → S → R Bool} {Q : Bool → Hp → Prop} {R : VK} (r : Rel X.K va s σ HP H) (h : PoT X W va s σ HP H ((f s).bind g) Q)
    (k : ∀ d s' v H' HP', Stp X.K va s σ HP H s' σ HP' H' → Dv X.K HP' v d → PoT X W va s' σ HP' H' (g d s') Q → R v H') : tDE X W f σ H R := by
  refine bindE r (fun d s' v H' HP' e st dv => ?_) (fun n p s' dd H' HP' C e st x m => ?_) (fun e => ?_) <;> rw [e] at h
  · exact k d s' v H' HP' st dv (h.from st)
  · exact h dd H' HP' C st x m
  · exact h
theorem bindEA {f : S → R D} {g : D → S → R (List D)} {Q : List V → Hp → Prop} {R : VK} (r : Rel X.K va s σ HP H) (h : PoA X W va s σ HP H ((f s).bind g) Q)
    (k : ∀ d s' v H' HP', Stp X.K va s σ HP H s' σ HP' H' → Dv X.K HP' v d → PoA X W va s' σ HP' H' (g d s') Q → R v H') : tDE X W f σ H R := by
  refine bindE r (fun d s' v H' HP' e st dv => ?_) (fun n p s' dd H' HP' C e st x m => ?_) (fun e => ?_) <;> rw [e] at h
  · exact k d s' v H' HP' st dv (h.from st)
  · exact h dd H' HP' C st x m
  · exact h
theorem bindES {f : S → R D} {g : D → S → T} {D : Ends} {R : VK} (r : Rel X.K va s σ HP H) (h : PoS X W va s σ HP H ((f s).thn g) D)
    (k : ∀ d s' v H' HP', Stp X.K va s σ HP H s' σ HP' H' → Dv X.K HP' v d → PoS X W va s' σ HP' H' (g d s') D → R v H') : tDE X W f σ H R := by
  refine bindE r (fun d s' v H' HP' e st dv => ?_) (fun n p s' dd H' HP' C e st x m => ?_) (fun e => ?_) <;> rw [e] at h
  · exact k d s' v H' HP' st dv (h.from st)
  · exact h dd σ H' HP' C st x m
  · exact h
theorem bindT {f : S → R Bool} {R : Bool → Hp → Prop} (r : Rel X.K va s σ HP H)
    (k : ∀ d s' H' HP', f s = .ok d s' → Stp X.K va s σ HP H s' σ HP' H' → R d H')
    (kx : ∀ n p s' dd H' HP' C, f s = .exc n p s' → Stp X.K va s σ HP H s' σ HP' H' → ExcAt p dd H' → X.mg n = some (.ref C) → W (.ref C) dd σ H')
    (ks : f s ≠ .stuck) : tDT X W f σ H R := by
  refine ⟨va, s, HP, r, ?_⟩
  cases e : f s with
  | ok d s' => exact fun H' HP' st => k d s' H' HP' e st
  | exc n p s' => exact fun dd H' HP' C st x m => kx n p s' dd H' HP' C e st x m
  | stuck => exact ks e
theorem bindTT {f : S → R Bool} {g : Bool → S → R Bool} {Q R : Bool → Hp → Prop} (r : Rel X.K va s σ HP H) (h : PoT X W va s σ HP H ((f s).bind g) Q)
    (k : ∀ d s' H' HP', Stp X.K va s σ HP H s' σ HP' H' → PoT X W va s' σ HP' H' (g d s') Q → R d H') : tDT X W f σ H R := by
  refine bindT r (fun d s' H' HP' e st => ?_) (fun n p s' dd H' HP' C e st x m => ?_) (fun e => ?_) <;> rw [e] at h
  · exact k d s' H' HP' st (h.from st)
  · exact h dd H' HP' C st x m
  · exact h
theorem bindTE {f : S → R Bool} {g : Bool → S → R D} {Q : VK} {R : Bool → Hp → Prop} (r : Rel X.K va s σ HP H) (h : PoE X W va s σ HP H ((f s).bind g) Q)
    (k : ∀ d s' H' HP', Stp X.K va s σ HP H s' σ HP' H' → PoE X W va s' σ HP' H' (g d s') Q → R d H') : tDT X W f σ H R := by
  refine bindT r (fun d s' H' HP' e st => ?_) (fun n p s' dd H' HP' C e st x m => ?_) (fun e => ?_) <;> rw [e] at h
  · exact k d s' H' HP' st (h.from st)
  · exact h dd H' HP' C st x m
  · exact h
theorem bindTS {f : S → R Bool} {g : Bool → S → T} {D : Ends} {R : Bool → Hp → Prop} (r : Rel X.K va s σ HP H) (h : PoS X W va s σ HP H ((f s).thn g) D)
    (k : ∀ d s' H' HP', Stp X.K va s σ HP H s' σ HP' H' → PoS X W va s' σ HP' H' (g d s') D → R d H') : tDT X W f σ H R := by
  refine bindT r (fun d s' H' HP' e st => ?_) (fun n p s' dd H' HP' C e st x m => ?_) (fun e => ?_) <;> rw [e] at h
  · exact k d s' H' HP' st (h.from st)
  · exact h dd σ H' HP' C st x m
  · exact h
theorem bindA {f : S → R (List D)} {R : List V → Hp → Prop} (r : Rel X.K va s σ HP H)
    (k : ∀ d s' v H' HP', f s = .ok d s' → Stp X.K va s σ HP H s' σ HP' H' → DvA X.K HP' v d → R v H')
    (kx : ∀ n p s' dd H' HP' C, f s = .exc n p s' → Stp X.K va s σ HP H s' σ HP' H' → ExcAt p dd H' → X.mg n = some (.ref C) → W (.ref C) dd σ H')
    (ks : f s ≠ .stuck) : tDA X W f σ H R := by
  refine ⟨va, s, HP, r, ?_⟩
  cases e : f s with
  | ok d s' => exact fun v H' HP' st dv => k d s' v H' HP' e st dv
  | exc n p s' => exact fun dd H' HP' C st x m => kx n p s' dd H' HP' C e st x m
  | stuck => exact ks e
theorem bindAE {f : S → R (List D)} {g : List D → S → R D} {Q : VK} {R : List V → Hp → Prop} (r : Rel X.K va s σ HP H) (h : PoE X W va s σ HP H ((f s).bind g) Q)
    (k : ∀ d s' v H' HP', Stp X.K va s σ HP H s' σ HP' H' → DvA X.K HP' v d → PoE X W va s' σ HP' H' (g d s') Q → R v H') : tDA X W f σ H R := by
  refine bindA r (fun d s' v H' HP' e st dv => ?_) (fun n p s' dd H' HP' C e st x m => ?_) (fun e => ?_) <;> rw [e] at h
  · exact k d s' v H' HP' st dv (h.from st)
  · exact h dd H' HP' C st x m
  · exact h
theorem bindAA {f : S → R (List D)} {g : List D → S → R (List D)} {Q : List V → Hp → Prop} {R : List V → Hp → Prop} (r : Rel X.K va s σ HP H) (h : PoA X W va s σ HP H ((f s).bind g) Q)
    (k : ∀ d s' v H' HP', Stp X.K va s σ HP H s' σ HP' H' → DvA X.K HP' v d → PoA X W va s' σ HP' H' (g d s') Q → R v H') : tDA X W f σ H R := by
  refine bindA r (fun d s' v H' HP' e st dv => ?_) (fun n p s' dd H' HP' C e st x m => ?_) (fun e => ?_) <;> rw [e] at h
  · exact k d s' v H' HP' st dv (h.from st)
  · exact h dd H' HP' C st x m
  · exact h
/-- the end of an expression's telling -/
theorem PoE.fin {d : D} {Q : VK} {v : V} (h : PoE X W va s σ HP H (.ok d s) Q) (r : Rel X.K va s σ HP H) (dv : Dv X.K HP v d) : Q v H := h v H HP (Stp.refl r) dv
theorem PoE.fin_at {d : D} {Q : VK} {v : V} (h : PoE X W va s σ HP H (.ok d s1) Q) (st : Stp X.K va s σ HP H s1 σ HP1 H1) (dv : Dv X.K HP1 v d) : Q v H1 := h v H1 HP1 st dv
theorem PoT.fin {d : Bool} {Q : Bool → Hp → Prop} (h : PoT X W va s σ HP H (.ok d s) Q) (r : Rel X.K va s σ HP H) : Q d H := h H HP (Stp.refl r)
end
end DL

namespace DL
open PySem PySem.Spec PyProof.Rows L2
def lift (o : Option D) (s : S) : R D := match o with
  | some d => .ok d s
  | none => .stuck
@[simp] theorem lift_some (d : D) (s : S) : lift (some d) s = .ok d s := rfl
@[simp] theorem lift_none (s : S) : lift none s = .stuck := rfl
def liftB (o : Option Bool) (s : S) : R Bool := match o with
  | some d => .ok d s
  | none => .stuck
@[simp] theorem liftB_some (d : Bool) (s : S) : liftB (some d) s = .ok d s := rfl
@[simp] theorem liftB_none (s : S) : liftB none s = .stuck := rfl
section
variable {X : Cx} {W : WX} {va : VA} {s : S} {σ : St} {HP H : Hp}
/-- ways to end with a datum -/
theorem fin_int {i : Int} {Q : VK} (h : PoE X W va s σ HP H (.ok (.int i) s) Q) (r : Rel X.K va s σ HP H) : Q (.int i) H := h.fin r (.int i)
theorem fin_bl {i : Bool} {Q : VK} (h : PoE X W va s σ HP H (.ok (.bl i) s) Q) (r : Rel X.K va s σ HP H) : Q (.bl i) H := h.fin r (.bl i)
theorem fin_str {i : Str} {Q : VK} (h : PoE X W va s σ HP H (.ok (.str i) s) Q) (r : Rel X.K va s σ HP H) : Q (.str i) H := h.fin r (.str i)
theorem fin_lst {vs : List V} {ds : List D} {Q : VK} (h : PoE X W va s σ HP H (.ok (.lst ds) s) Q) (r : Rel X.K va s σ HP H) (a : DvA X.K HP vs ds) (z : ds.length ≤ sizeLine) (p : Addr) (n : H p = none) : Q (.ref p) (upd H p (.lst vs)) := by
  have st := r.laid (o := .lst vs) n
  exact h _ _ _ st (.lst upd_same z (DvA.mono st.same ds vs a))
theorem fin_tup {vs : List V} {ds : List D} {Q : VK} (h : PoE X W va s σ HP H (.ok (.tup ds) s) Q) (r : Rel X.K va s σ HP H) (a : DvA X.K HP vs ds) (z : ds.length ≤ sizeLine) (p : Addr) (n : H p = none) : Q (.ref p) (upd H p (.tup vs)) := by
  have st := r.laid (o := .tup vs) n
  exact h _ _ _ st (.tup upd_same z (DvA.mono st.same ds vs a))
end
/-! ## two operands -/
def OpD (X : Cx) (f : Value → Value → Sem Value) (g : D → D → Option D) : Prop := ∃ r : R2, OpR X f r ∧
  ∀ (W : WX) (va : VA) (s : S) (σ : St) (HP H : Hp) (x y : V) (a b d : D) (Q : VK), Rel X.K va s σ HP H → Dv X.K HP x a → Dv X.K HP y b → g a b = some d → PoE X W va s σ HP H (.ok d s) Q → r x y H Q
theorem OpD.orElse {X : Cx} {f : Value → Value → Sem Value} {g g' : D → D → Option D} (h : OpD X f g) (h' : OpD X f g') : OpD X f (fun a b => (g a b).or (g' a b)) := by
  obtain ⟨r, h1, h2⟩ := h
  obtain ⟨r', h1', h2'⟩ := h'
  refine ⟨_, h1.or h1', fun W va s σ HP H x y a b d Q rl dx dy e p => ?_⟩
  cases c : g a b with
  | some z => simp only [c, Option.some_or, Option.some.injEq] at e; subst e; exact .inl (h2 W va s σ HP H x y a b z Q rl dx dy c p)
  | none => simp only [c, Option.none_or] at e; exact .inr (h2' W va s σ HP H x y a b d Q rl dx dy e p)
theorem OpD.imp {X : Cx} {f : Value → Value → Sem Value} {g g' : D → D → Option D} (h : OpD X f g) (i : ∀ a b d, g' a b = some d → g a b = some d) : OpD X f g' := by
  obtain ⟨r, h1, h2⟩ := h
  exact ⟨r, h1, fun W va s σ HP H x y a b d Q rl dx dy e p => h2 W va s σ HP H x y a b d Q rl dx dy (i a b d e) p⟩
section
variable {X : Cx} {W : WX} {a b c e : Expr} {es : List Expr} {fa fb fc : S → R D} {pos : Pos}
theorem de_bin {g : D → D → Option D} {r : R2} (h2 : ∀ (W : WX) (va : VA) (s : S) (σ : St) (HP H : Hp) (x y : V) (a b d : D) (Q : VK), Rel X.K va s σ HP H → Dv X.K HP x a → Dv X.K HP y b → g a b = some d → PoE X W va s σ HP H (.ok d s) Q → r x y H Q)
    (σ : St) (H : Hp) (Q : VK) (h : tDE X W (fun s => (fa s).bind fun x s => (fb s).bind fun y s => lift (g x y) s) σ H Q) : tOp r (tDE X W fa) (tDE X W fb) σ H Q := by
  obtain ⟨va, s, HP, rl, h⟩ := h
  dsimp only at h
  refine bindEE rl h fun x s1 v H1 HP1 st1 d1 h1 => ?_
  have rl1 := st1.rel
  refine bindE rl1 (fun y s2 u H2 HP2 e st d2 => ?_) (fun n p s' dd H' HP' C e st z m => ?_) (fun e => ?_) <;> rw [e] at h1
  · cases q : g x y with
    | none => rw [R.bind_ok, q] at h1; exact h1.elim
    | some d =>
      rw [R.bind_ok, q] at h1
      exact h2 W va s2 σ HP2 H2 v u x y d Q st.rel (Dv.mono st.same x v d1) d2 q (h1.from st)
  · exact h1 dd H' HP' C st z m
  · exact h1
theorem de_op {op : Operator} {g : D → D → Option D} (o : OpD X (binaryOp op) g) (ha : DE X W a fa) (hb : DE X W b fb) :
    DE X W (.BinOp a op b pos) (fun s => (fa s).bind fun x s => (fb s).bind fun y s => lift (g x y) s) := by
  obtain ⟨r, h1, h2⟩ := o
  exact pe_imp (pe_op h1 ha hb) fun σ H Q h => de_bin h2 σ H Q h
theorem de_cmp {op : CmpOp} {g : D → D → Option D} (o : OpD X (compareOp op) g) (ha : DE X W a fa) (hb : DE X W b fb) (hm : behindInMarks op b = false) :
    DE X W (.Compare a [op] [b] pos) (fun s => (fa s).bind fun x s => (fb s).bind fun y s => lift (g x y) s) := by
  obtain ⟨r, h1, h2⟩ := o
  exact pe_imp (pe_cmpR h1 ha hb hm) fun σ H Q h => de_bin h2 σ H Q h
def toB (d : D) (s : S) : R Bool := match d with
  | .bl b => .ok b s
  | _ => .stuck
@[simp] theorem toB_bl (b : Bool) (s : S) : toB (.bl b) s = .ok b s := rfl
theorem tB_of {f : S → R D} {σ : St} {H : Hp} {Q : Bool → Hp → Prop} (h : tDT X W (fun s => (f s).bind toB) σ H Q) : tDE X W f σ H fun x H' => ∃ k, x = .bl k ∧ Q k H' := by
  obtain ⟨va, s, HP, rl, h⟩ := h
  dsimp only at h
  refine bindET rl h fun d s1 v H1 HP1 st1 d1 h1 => ?_
  have rl1 := st1.rel
  cases d1 <;> first | exact h1.elim | exact ⟨_, rfl, h1.fin rl1⟩
/-- a comparison as a test -/
theorem dt_cmp {op : CmpOp} {g : D → D → Option D} (o : OpD X (compareOp op) g) (ha : DE X W a fa) (hb : DE X W b fb) (hm : behindInMarks op b = false) :
    DT X W (.Compare a [op] [b] pos) (fun s => ((fa s).bind fun x s => (fb s).bind fun y s => lift (g x y) s).bind toB) := by
  obtain ⟨r, h1, h2⟩ := o
  exact pt_imp (pt_cmpR h1 ha hb hm) fun σ H Q h => de_bin h2 σ H _ (tB_of h)
/-- an expression that gives a bool, as a test -/
theorem dt_val (h : DE X W e fa) (he : ∀ whole, isTrue e X.env whole = (do let v ← whole; standAt e.pos; holding [v] (truthy v)) := by intro _; rfl) :
    DT X W e (fun s => (fa s).bind toB) := pt_imp (pt_val h he) fun σ H Q q => tB_of q
/-! ## and, or, not, if -/
variable {ta tb tc : S → R Bool} {rest : List Expr}
theorem dw_and1 (ha : DT X W a ta) : DW X W (.BoolOp .And [a] pos) ta := pw_and1 ha
theorem dw_or1 (ha : DT X W a ta) : DW X W (.BoolOp .Or [a] pos) ta := pw_or1 ha
theorem dw_and (ha : DT X W a ta) (hb : DW X W (.BoolOp .And (b :: rest) pos) tb) : DW X W (.BoolOp .And (a :: b :: rest) pos) (fun s => (ta s).bind fun k s => if k = true then tb s else .ok false s) := by
  refine pw_imp (pw_and ha hb) fun σ H Q h => ?_
  obtain ⟨va, s, HP, rl, h⟩ := h
  dsimp only at h
  refine bindTT rl h fun k s1 H1 HP1 st1 h1 => ?_
  have rl1 := st1.rel
  cases k with
  | true => rw [if_pos rfl] at h1 ⊢; exact ⟨va, s1, HP1, rl1, h1⟩
  | false => rw [if_neg Bool.false_ne_true] at h1 ⊢; exact h1.fin rl1
theorem dw_or (ha : DT X W a ta) (hb : DW X W (.BoolOp .Or (b :: rest) pos) tb) : DW X W (.BoolOp .Or (a :: b :: rest) pos) (fun s => (ta s).bind fun k s => if k = true then .ok true s else tb s) := by
  refine pw_imp (pw_or ha hb) fun σ H Q h => ?_
  obtain ⟨va, s, HP, rl, h⟩ := h
  dsimp only at h
  refine bindTT rl h fun k s1 H1 HP1 st1 h1 => ?_
  have rl1 := st1.rel
  cases k with
  | true => rw [if_pos rfl] at h1 ⊢; exact h1.fin rl1
  | false => rw [if_neg Bool.false_ne_true] at h1 ⊢; exact ⟨va, s1, HP1, rl1, h1⟩
theorem dt_w (h : DW X W a ta) : DT X W a ta := h.pt
theorem dt_not (ha : DT X W a ta) : DT X W (.UnaryOp .Not a pos) (fun s => (ta s).bind fun k s => .ok (!k) s) := by
  refine pt_imp (pt_not ha) fun σ H Q h => ?_
  obtain ⟨va, s, HP, rl, h⟩ := h
  dsimp only at h
  exact bindTT rl h fun k s1 H1 HP1 st1 h1 => h1.fin st1.rel
/-- as values, all but the last True or False -/
theorem de_one {op} (h : DE X W a fa) : DE X W (.BoolOp op [a] pos) fa := pe_one h
theorem de_and (ha : DE X W a fa) (hb : DE X W (.BoolOp .And (b :: rest) pos) fb) : DE X W (.BoolOp .And (a :: b :: rest) pos) (fun s => ((fa s).bind toB).bind fun k s => if k = true then fb s else .ok (.bl false) s) := by
  refine pe_imp (pe_and ha hb) fun σ H Q h => ?_
  obtain ⟨va, s, HP, rl, h⟩ := h
  dsimp only at h
  refine bindE rl (fun d s1 v H1 HP1 e st dv => ?_) (fun n p s' dd H' HP' C e st z m => ?_) (fun e => ?_) <;> rw [e] at h
  · cases dv <;> first | exact h.elim | skip
    rename_i k
    refine ⟨k, rfl, ?_⟩
    have h1 := PoE.from st h
    cases k with
    | true => rw [if_pos rfl]; exact ⟨va, s1, HP1, st.rel, h1⟩
    | false => rw [if_neg Bool.false_ne_true]; exact fin_bl h1 st.rel
  · exact h dd H' HP' C st z m
  · exact h
theorem de_or (ha : DE X W a fa) (hb : DE X W (.BoolOp .Or (b :: rest) pos) fb) : DE X W (.BoolOp .Or (a :: b :: rest) pos) (fun s => ((fa s).bind toB).bind fun k s => if k = true then .ok (.bl true) s else fb s) := by
  refine pe_imp (pe_or ha hb) fun σ H Q h => ?_
  obtain ⟨va, s, HP, rl, h⟩ := h
  dsimp only at h
  refine bindE rl (fun d s1 v H1 HP1 e st dv => ?_) (fun n p s' dd H' HP' C e st z m => ?_) (fun e => ?_) <;> rw [e] at h
  · cases dv <;> first | exact h.elim | skip
    rename_i k
    refine ⟨k, rfl, ?_⟩
    have h1 := PoE.from st h
    cases k with
    | true => rw [if_pos rfl]; exact fin_bl h1 st.rel
    | false => rw [if_neg Bool.false_ne_true]; exact ⟨va, s1, HP1, st.rel, h1⟩
  · exact h dd H' HP' C st z m
  · exact h
theorem de_not (ha : DE X W a fa) : DE X W (.UnaryOp .Not a pos) (fun s => ((fa s).bind toB).bind fun k s => .ok (.bl (!k)) s) := by
  refine pe_imp (pe_not ha) fun σ H Q h => ?_
  obtain ⟨va, s, HP, rl, h⟩ := h
  dsimp only at h
  refine bindE rl (fun d s1 v H1 HP1 e st dv => ?_) (fun n p s' dd H' HP' C e st z m => ?_) (fun e => ?_) <;> rw [e] at h
  · cases dv <;> first | exact h.elim | skip
    rename_i k
    exact ⟨k, rfl, fin_bl (PoE.from st h) st.rel⟩
  · exact h dd H' HP' C st z m
  · exact h
theorem de_if (hc : DT X W c tc) (ha : DE X W a fa) (hb : DE X W b fb) : DE X W (.IfExp c a b pos) (fun s => (tc s).bind fun k s => if k = true then fa s else fb s) := by
  refine pe_imp (pe_ifExp hc ha hb) fun σ H Q h => ?_
  obtain ⟨va, s, HP, rl, h⟩ := h
  dsimp only at h
  refine bindTE rl h fun k s1 H1 HP1 st1 h1 => ?_
  have rl1 := st1.rel
  cases k with
  | true => rw [if_pos rfl] at h1 ⊢; exact ⟨va, s1, HP1, rl1, h1⟩
  | false => rw [if_neg Bool.false_ne_true] at h1 ⊢; exact ⟨va, s1, HP1, rl1, h1⟩
/-! ## constants -/
theorem de_int {i : Int} {j : Nat} : DE X W (.Constant (.int i) j pos) (fun s => .ok (.int i) s) := pe_imp pe_int fun σ H Q ⟨va, s, HP, rl, h⟩ => fin_int h rl
theorem de_bl {i : Bool} {j : Nat} : DE X W (.Constant (.bool i) j pos) (fun s => .ok (.bl i) s) := pe_imp pe_bl fun σ H Q ⟨va, s, HP, rl, h⟩ => fin_bl h rl
theorem de_non {j : Nat} : DE X W (.Constant .none j pos) (fun s => .ok .non s) := pe_imp pe_non fun σ H Q ⟨va, s, HP, rl, h⟩ => h.fin rl .non
theorem de_str {i : Str} {j : Nat} : DE X W (.Constant (.str i) j pos) (fun s => .ok (.str i) s) := pe_imp pe_str fun σ H Q ⟨va, s, HP, rl, h⟩ => fin_str h rl
/-- a constant of the module: an int, a text -/
theorem de_gint {x : Str} {i : Int} {t : Tok} (hg : Gl X x) (hm : X.mg x = some (.int i t)) (hd : (x == ("__debug__" : Str)) = false := by decide) : DE X W (.Name x pos) (fun s => .ok (.int i) s) :=
  pe_imp (pe_glob (v := .int i) hg hm ⟨t, rfl⟩ hd) fun σ H Q ⟨va, s, HP, rl, h⟩ => fin_int h rl
theorem de_gstr {x z : Str} {t : Tok} (hg : Gl X x) (hm : X.mg x = some (.str z t)) (hd : (x == ("__debug__" : Str)) = false := by decide) : DE X W (.Name x pos) (fun s => .ok (.str z) s) :=
  pe_imp (pe_glob (v := .str z) hg hm ⟨t, rfl⟩ hd) fun σ H Q ⟨va, s, HP, rl, h⟩ => fin_str h rl
/-! ## argument lists, displays -/
variable {ga : S → R (List D)}
theorem da_nil : DA X W [] (fun s => .ok [] s) := pa_imp pa_nil fun σ H Q ⟨va, s, HP, rl, h⟩ => h [] H HP (Stp.refl rl) .nil
theorem da_cons (ha : DE X W e fa) (hr : DA X W es ga) (hs : starEach (e :: es) X.env = (false, eval e X.env) :: starEach es X.env := by rfl) : DA X W (e :: es) (fun s => (fa s).bind fun x s => (ga s).bind fun xs s => .ok (x :: xs) s) := by
  refine pa_imp (pa_cons ha hr hs) fun σ H Q h => ?_
  obtain ⟨va, s, HP, rl, h⟩ := h
  dsimp only at h
  refine bindEA rl h fun d s1 v H1 HP1 st1 dv h1 => ?_
  have rl1 := st1.rel
  refine bindA rl1 (fun ds s2 vs H2 HP2 e st dvs => ?_) (fun n p s' dd H' HP' C e st z m => ?_) (fun e => ?_) <;> rw [e] at h1
  · exact h1 (v :: vs) H2 HP2 st (.cons (Dv.mono st.same d v dv) dvs)
  · exact h1 dd H' HP' C st z m
  · exact h1
def mkT (ds : List D) (s : S) : R D := if ds.length ≤ sizeLine then .ok (.tup ds) s else .stuck
def mkL (ds : List D) (s : S) : R D := if ds.length ≤ sizeLine then .ok (.lst ds) s else .stuck
theorem mkT_of {ds : List D} {s : S} (h : ds.length ≤ 1000) : mkT ds s = .ok (.tup ds) s := if_pos (Nat.le_of_lt (small1000 h))
theorem mkL_of {ds : List D} {s : S} (h : ds.length ≤ 1000) : mkL ds s = .ok (.lst ds) s := if_pos (Nat.le_of_lt (small1000 h))
theorem de_tup {x1} (h : DA X W es ga) : DE X W (.Tuple es x1 pos) (fun s => (ga s).bind mkT) := by
  refine pe_imp (pe_tup h) fun σ H Q q => ?_
  obtain ⟨va, s, HP, rl, q⟩ := q
  refine bindAE rl q fun ds s1 vs H1 HP1 rl1 dv q1 => ?_
  unfold mkT at q1
  split at q1
  · exact ⟨by rw [dv.length]; assumption, fun p hp => fin_tup q1 rl1.rel dv (by assumption) p hp⟩
  · exact q1.elim
theorem de_lst (h : DA X W es ga) : DE X W (.List es pos) (fun s => (ga s).bind mkL) := by
  refine pe_imp (pe_lst h) fun σ H Q q => ?_
  obtain ⟨va, s, HP, rl, q⟩ := q
  refine bindAE rl q fun ds s1 vs H1 HP1 rl1 dv q1 => ?_
  unfold mkL at q1
  split at q1
  · exact ⟨by rw [dv.length]; assumption, fun p hp => fin_lst q1 rl1.rel dv (by assumption) p hp⟩
  · exact q1.elim
end
end DL

namespace DL
open PySem PySem.Spec PyProof.Rows L2
/-! ## arithmetic -/
def addI : D → D → Option D
  | .int i, .int j => some (.int (i + j))
  | _, _ => none
def addS : D → D → Option D
  | .str i, .str j => if i.length + j.length ≤ sizeLine then some (.str (i ++ j)) else none
  | _, _ => none
def addT : D → D → Option D
  | .tup i, .tup j => if i.length + j.length ≤ sizeLine then some (.tup (i ++ j)) else none
  | _, _ => none
def addL : D → D → Option D
  | .lst i, .lst j => if i.length + j.length ≤ sizeLine then some (.lst (i ++ j)) else none
  | _, _ => none
def opAdd : D → D → Option D
  | .int i, .int j => some (.int (i + j))
  | .str i, .str j => if i.length + j.length ≤ sizeLine then some (.str (i ++ j)) else none
  | .tup i, .tup j => if i.length + j.length ≤ sizeLine then some (.tup (i ++ j)) else none
  | .lst i, .lst j => if i.length + j.length ≤ sizeLine then some (.lst (i ++ j)) else none
  | _, _ => none
def opSub : D → D → Option D
  | .int i, .int j => some (.int (i - j))
  | _, _ => none
def okMul (i j : Int) : Bool := decide (i.natAbs.log2 + j.natAbs.log2 < 1000000)
def opMul : D → D → Option D
  | .int i, .int j => if okMul i j then some (.int (i * j)) else none
  | .tup xs, .int k => if xs ≠ [] ∧ 2 ≤ k ∧ k ≤ 1000 ∧ xs.length ≤ 1000 then some (.tup (List.replicate k.toNat xs).flatten) else none
  | .lst xs, .int k => if 0 ≤ k ∧ k ≤ 1000 ∧ xs.length ≤ 1000 then some (.lst (List.replicate k.toNat xs).flatten) else none
  | _, _ => none
def opDiv : D → D → Option D
  | .int i, .int j => if 0 < j ∧ j.natAbs.log2 < 9000 then some (.int (i / j)) else none
  | _, _ => none
def opMod : D → D → Option D
  | .int i, .int j => if 0 < j then some (.int (i % j)) else none
  | _, _ => none
def opPow : D → D → Option D
  | .int i, .int j => if 0 ≤ j ∧ j ≤ 1000000 ∧ i.natAbs < 2 ^ 64 then some (.int (i ^ j.toNat)) else none
  | _, _ => none
section
variable {K : PySem.W.Frag} {HP H : Hp}
theorem DvA.rep2 {vs : List V} {ds : List D} (h : DvA K H vs ds) : ∀ n : Nat, DvA K H (List.replicate n vs).flatten (List.replicate n ds).flatten
  | 0 => .nil
  | n + 1 => by
    rw [List.replicate_succ, List.replicate_succ, List.flatten_cons, List.flatten_cons]
    exact h.append (DvA.rep2 h n)
theorem rep_len {α : Type} {xs : List α} {k : Int} (h : xs.length ≤ 1000) (h2 : k ≤ 1000) : (List.replicate k.toNat xs).flatten.length ≤ sizeLine := by
  rw [List.length_flatten, List.map_replicate, List.sum_replicate_nat]
  exact Nat.le_trans (Nat.mul_le_mul (Int.toNat_le.mpr h2) h) (show 1000 * 1000 ≤ 16777216 by decide)
theorem DvA.nil_iff {vs : List V} {ds : List D} (h : DvA K H vs ds) : vs = [] ↔ ds = [] := by cases h <;> simp
end
section
variable {X : Cx} {W : WX} {a b c e : Expr} {fa fb fc : S → R D} {pos : Pos}
theorem od_addI : OpD X (binaryOp .Add) addI := by
  refine ⟨_, op_add, fun W va s σ HP H x y a b d Q rl dx dy e p => ?_⟩
  unfold addI at e
  split at e <;> cases e
  cases dx; cases dy
  exact ⟨_, _, rfl, rfl, fin_int p rl⟩
theorem od_addS : OpD X (binaryOp .Add) addS := by
  refine ⟨_, op_add_str, fun W va s σ HP H x y a b d Q rl dx dy e p => ?_⟩
  unfold addS at e
  split at e
  · split at e <;> cases e
    cases dx; cases dy
    exact ⟨_, _, rfl, rfl, by assumption, fin_str p rl⟩
  · cases e
theorem od_addT : OpD X (binaryOp .Add) addT := by
  refine ⟨_, op_catA, fun W va s σ HP H x y a b d Q rl dx dy e p => ?_⟩
  unfold addT at e
  split at e
  · split at e <;> cases e
    rename_i hz
    cases dx with
    | @tup a xs ds h1 y1 a1 =>
      cases dy with
      | @tup b ys es h2 y2 a2 =>
        refine ⟨a, b, xs, ys, rfl, rfl, SqT.of (rl.sub _ _ h1), SqT.of (rl.sub _ _ h2), by rw [a1.length, a2.length]; exact hz, fun z => ?_, fun _ z => ?_, fun _ _ q hq => fin_tup p rl (a1.append a2) (by rw [List.length_append]; exact hz) q hq⟩
        · have := a1.nil_iff.mp z
          subst this
          exact p.fin rl (.tup h2 y2 a2)
        · have := a2.nil_iff.mp z
          subst this
          rw [List.append_nil] at p
          exact p.fin rl (.tup h1 y1 a1)
  · cases e
theorem od_addL : OpD X (binaryOp .Add) addL := by
  refine ⟨_, op_cat, fun W va s σ HP H x y a b d Q rl dx dy e p => ?_⟩
  unfold addL at e
  split at e
  · split at e <;> cases e
    rename_i hz
    cases dx with
    | @lst a xs ds h1 y1 a1 =>
      cases dy with
      | @lst b ys es h2 y2 a2 =>
        exact ⟨a, b, xs, ys, rfl, rfl, rl.sub _ _ h1, rl.sub _ _ h2, by rw [a1.length, a2.length]; exact hz, fun q hq => fin_lst p rl (a1.append a2) (by rw [List.length_append]; exact hz) q hq⟩
  · cases e
theorem od_add : OpD X (binaryOp .Add) opAdd := by
  refine (((od_addI.orElse od_addS).orElse od_addT).orElse od_addL).imp fun a b d e => ?_
  unfold opAdd at e
  split at e
  · exact e
  · simp only [addI, addS, addT, addL, Option.none_or, Option.or_none]; exact e
  · simp only [addI, addS, addT, addL, Option.none_or, Option.or_none]; exact e
  · simp only [addI, addS, addT, addL, Option.none_or, Option.or_none]; exact e
  · cases e
theorem od_sub : OpD X (binaryOp .Sub) opSub := by
  refine ⟨_, op_sub, fun W va s σ HP H x y a b d Q rl dx dy e p => ?_⟩
  unfold opSub at e
  split at e <;> cases e
  cases dx; cases dy
  exact ⟨_, _, rfl, rfl, fin_int p rl⟩
theorem od_mul : OpD X (binaryOp .Mult) opMul := by
  refine ⟨_, (op_mulW.or op_repT).or op_rep, fun W va s σ HP H x y a b d Q rl dx dy e p => ?_⟩
  unfold opMul at e
  split at e
  · split at e <;> cases e
    rename_i hz
    cases dx; cases dy
    exact .inl (.inl ⟨_, _, rfl, rfl, (show CMulW _ _ from of_decide_eq_true (p := _ < 1000000) hz), fin_int p rl⟩)
  · split at e <;> cases e
    rename_i hz
    cases dx with
    | @tup a xs ds h1 y1 a1 =>
      cases dy
      obtain ⟨z1, z2, z3, z4⟩ := hz
      exact .inl (.inr ⟨a, _, xs, rfl, rfl, SqT.of (rl.sub _ _ h1), fun q => z1 (a1.nil_iff.mp q), z2, z3, by rw [a1.length]; exact z4, fun q hq => fin_tup p rl (a1.rep2 _) (rep_len z4 z3) q hq⟩)
  · split at e <;> cases e
    rename_i hz
    cases dx with
    | @lst a xs ds h1 y1 a1 =>
      cases dy
      obtain ⟨z2, z3, z4⟩ := hz
      refine .inr ⟨a, _, xs, rfl, rfl, rl.sub _ _ h1, by omega, by omega, ?_, fun q hq => fin_lst p rl (a1.rep2 _) (rep_len z4 z3) q hq⟩
      have h9 : xs.length ≤ 1000 := by rw [a1.length]; exact z4
      exact Nat.le_trans (Nat.mul_le_mul h9 (Int.toNat_le.mpr z3)) (show 1000 * 1000 ≤ 16777216 by decide)
  · cases e
theorem od_div : OpD X (binaryOp .FloorDiv) opDiv := by
  refine ⟨_, op_fdivW, fun W va s σ HP H x y a b d Q rl dx dy e p => ?_⟩
  unfold opDiv at e
  split at e
  · split at e <;> cases e
    rename_i hz
    cases dx; cases dy
    exact ⟨_, _, rfl, rfl, hz, fin_int p rl⟩
  · cases e
theorem od_mod : OpD X (binaryOp .Mod) opMod := by
  refine ⟨_, op_mod, fun W va s σ HP H x y a b d Q rl dx dy e p => ?_⟩
  unfold opMod at e
  split at e
  · split at e <;> cases e
    rename_i hz
    cases dx; cases dy
    exact ⟨_, _, rfl, rfl, hz, fin_int p rl⟩
  · cases e
theorem od_pow : OpD X (binaryOp .Pow) opPow := by
  refine ⟨_, op_pow, fun W va s σ HP H x y a b d Q rl dx dy e p => ?_⟩
  unfold opPow at e
  split at e
  · split at e <;> cases e
    rename_i hz
    cases dx; cases dy
    exact ⟨_, _, rfl, rfl, hz, fin_int p rl⟩
  · cases e
def opNeg : D → Option D
  | .int i => some (.int (-i))
  | _ => none
theorem de_neg (ha : DE X W a fa) : DE X W (.UnaryOp .USub a pos) (fun s => (fa s).bind fun x s => lift (opNeg x) s) := by
  refine pe_imp (pe_un un_neg ha) fun σ H Q h => ?_
  obtain ⟨va, s, HP, rl, h⟩ := h
  refine bindEE rl h fun x s1 v H1 HP1 st1 d1 h1 => ?_
  have rl1 := st1.rel
  cases d1 <;> first | exact h1.elim | exact ⟨_, rfl, fin_int h1 rl1⟩
/-! ## comparisons of ints -/
def opLt : D → D → Option D
  | .int i, .int j => some (.bl (decide (i < j)))
  | _, _ => none
def opLe : D → D → Option D
  | .int i, .int j => some (.bl (decide (i ≤ j)))
  | _, _ => none
def opGt : D → D → Option D
  | .int i, .int j => some (.bl (decide (j < i)))
  | _, _ => none
def opGe : D → D → Option D
  | .int i, .int j => some (.bl (decide (j ≤ i)))
  | _, _ => none
theorem od_lt : OpD X (compareOp .Lt) opLt := by
  refine ⟨_, op_lt, fun W va s σ HP H x y a b d Q rl dx dy e p => ?_⟩
  unfold opLt at e
  split at e <;> cases e
  cases dx; cases dy
  exact ⟨_, _, rfl, rfl, fin_bl p rl⟩
theorem od_le : OpD X (compareOp .LtE) opLe := by
  refine ⟨_, op_le, fun W va s σ HP H x y a b d Q rl dx dy e p => ?_⟩
  unfold opLe at e
  split at e <;> cases e
  cases dx; cases dy
  exact ⟨_, _, rfl, rfl, fin_bl p rl⟩
theorem od_gt : OpD X (compareOp .Gt) opGt := by
  refine ⟨_, op_gt, fun W va s σ HP H x y a b d Q rl dx dy e p => ?_⟩
  unfold opGt at e
  split at e <;> cases e
  cases dx; cases dy
  exact ⟨_, _, rfl, rfl, fin_bl p rl⟩
theorem od_ge : OpD X (compareOp .GtE) opGe := by
  refine ⟨_, op_ge, fun W va s σ HP H x y a b d Q rl dx dy e p => ?_⟩
  unfold opGe at e
  split at e <;> cases e
  cases dx; cases dy
  exact ⟨_, _, rfl, rfl, fin_bl p rl⟩
/-! ## is None, is a bool -/
def opIs : D → D → Option D
  | .ref _, _ => none
  | .scr _, _ => none
  | .non, .non => some (.bl true)
  | _, .non => some (.bl false)
  | .bl i, .bl j => some (.bl (decide (i = j)))
  | _, _ => none
def opIsNot : D → D → Option D
  | .ref _, _ => none
  | .scr _, _ => none
  | .non, .non => some (.bl false)
  | _, .non => some (.bl true)
  | .bl i, .bl j => some (.bl (!decide (i = j)))
  | _, _ => none
theorem od_is : OpD X (compareOp .Is) opIs := by
  refine ⟨_, op_isN.or op_isBl, fun W va s σ HP H x y a b d Q rl dx dy e p => ?_⟩
  unfold opIs at e
  split at e <;> cases e
  · cases dx; cases dy; exact .inl ⟨rfl, fin_bl p rl⟩
  · rename_i h1 h2 h3
    cases dy
    refine .inl ⟨rfl, ?_⟩
    rw [decide_eq_false (fun z => ?_)]
    · exact fin_bl p rl
    · subst z; cases dx; exact h3 rfl
  · cases dx; cases dy; exact .inr ⟨_, _, rfl, rfl, fin_bl p rl⟩
theorem od_isnot : OpD X (compareOp .IsNot) opIsNot := by
  refine ⟨_, op_notN.or op_notBl, fun W va s σ HP H x y a b d Q rl dx dy e p => ?_⟩
  unfold opIsNot at e
  split at e <;> cases e
  · cases dx; cases dy; exact .inl ⟨rfl, fin_bl p rl⟩
  · rename_i h1 h2 h3
    cases dy
    refine .inl ⟨rfl, ?_⟩
    rw [decide_eq_false (fun z => ?_)]
    · exact fin_bl p rl
    · subst z; cases dx; exact h3 rfl
  · cases dx; cases dy; exact .inr ⟨_, _, rfl, rfl, fin_bl p rl⟩
/-! ## chains -/
theorem tB_of' {f : S → R D} {va : VA} {s : S} {σ : St} {HP H : Hp} {Q : Bool → Hp → Prop} (h : PoT X W va s σ HP H ((f s).bind toB) Q) : PoE X W va s σ HP H (f s) fun x H' => ∃ k, x = .bl k ∧ Q k H' := by
  cases e : f s with
  | ok d s' =>
    rw [e] at h
    intro v H' HP' st dv
    cases dv <;> first | exact h.elim | exact ⟨_, rfl, h H' HP' st⟩
  | exc n p s' => rw [e] at h; exact h
  | stuck => rw [e] at h; exact h
def ChV (X : Cx) (W : WX) (ops : List CmpOp) (rs : List (Sem Value)) (g : D → S → R D) : Prop :=
  ∀ (pos : Pos) (pins : List (Addr × Obj)) (s : Shared) (va : VA) (st : S) (σ : St) (HP H : Hp) (y : D) (x : V) (v : Value) (Q : VK), Inv X pins σ H s → Rel X.K va st σ HP H → Dv X.K HP x y → RelV x v → PoE X W va st σ HP H (g y st) Q →
    wpAny (model X.prog X.w) X.A (compareChain pos v ops rs) (EP X pins σ Q) X.xe s
def ChT (X : Cx) (W : WX) (ops : List CmpOp) (rs : List (Sem Value)) (g : D → S → R Bool) : Prop :=
  ∀ (pos : Pos) (pins : List (Addr × Obj)) (s : Shared) (va : VA) (st : S) (σ : St) (HP H : Hp) (y : D) (x : V) (v : Value) (Q : Bool → Hp → Prop), Inv X pins σ H s → Rel X.K va st σ HP H → Dv X.K HP x y → RelV x v → PoT X W va st σ HP H (g y st) Q →
    wpAny (model X.prog X.w) X.A (testChain pos v ops rs) (TP X pins σ Q) X.xe s
theorem chv_last {op : CmpOp} {g : D → D → Option D} (o : OpD X (compareOp op) g) (hc : DE X W c fc) : ChV X W [op] [eval c X.env] (fun y s => (fc s).bind fun z s => lift (g y z) s) := by
  obtain ⟨r, h1, h2⟩ := o
  intro pos pins s va st σ HP H y x v Q I rl dx rx h
  refine chain_last (thn (hc.run pins s σ H _ I (bindEE (R := fun w H2 => r x w H2 Q) rl h fun z s1 w H1 HP1 st1 d1 hz => ?_)) fun u s2 ⟨w, H2, I2, r2, q2⟩ => h1 pins s2 σ H2 x w v u _ I2 rx r2 q2)
  cases q : g y z with
  | none => rw [q] at hz; exact hz.elim
  | some d => rw [q] at hz; exact h2 W va s1 σ HP1 H1 x w y z d Q st1.rel (Dv.mono st1.same y x dx) d1 q hz
theorem cht_last {op : CmpOp} {g : D → D → Option D} (o : OpD X (compareOp op) g) (hc : DE X W c fc) : ChT X W [op] [eval c X.env] (fun y s => ((fc s).bind fun z s => lift (g y z) s).bind toB) := by
  obtain ⟨r, h1, h2⟩ := o
  intro pos pins s va st σ HP H y x v Q I rl dx rx h
  refine test_last (thn (hc.run pins s σ H _ I (bindEE (R := fun w H2 => r x w H2 fun t H3 => ∃ k, t = .bl k ∧ Q k H3) rl (tB_of' (f := fun s => (fc s).bind fun z s => lift (g y z) s) h) fun z s1 w H1 HP1 st1 d1 hz => ?_)) fun u s2 ⟨w, H2, I2, r2, q2⟩ => thn (h1 pins s2 σ H2 x w v u _ I2 rx r2 q2) fun t s3 ⟨z, H3, I3, r3, k, e, q3⟩ => ?_)
  · cases q : g y z with
    | none => rw [q] at hz; exact hz.elim
    | some d => rw [q] at hz; exact h2 W va s1 σ HP1 H1 x w y z d _ st1.rel (Dv.mono st1.same y x dx) d1 q hz
  · subst e
    cases r3
    exact wpAny_truthy_bool ⟨H3, I3, q3⟩
theorem chv_link {op op' : CmpOp} {ops : List CmpOp} {b' : Sem Value} {rs : List (Sem Value)} {g : D → D → Option D} {k : D → S → R D} (o : OpD X (compareOp op) g) (hb : DE X W b fb) (hr : ChV X W (op' :: ops) (b' :: rs) k) :
    ChV X W (op :: op' :: ops) (eval b X.env :: b' :: rs) (fun x s => (fb s).bind fun y s => ((lift (g x y) s).bind toB).bind fun c s => if c = true then k y s else .ok (.bl false) s) := by
  obtain ⟨r, h1, h2⟩ := o
  intro pos pins s va st σ HP H x xv v Q I rl dx rx h
  refine chain_link (thn (hb.run pins s σ H _ I (bindEE (R := fun w H2 => r xv w H2 fun t H3 => ∃ c y s1 HP1, t = .bl c ∧ Rel X.K va s1 σ HP1 H3 ∧ Dv X.K HP1 w y ∧ PoE X W va s1 σ HP1 H3 (if c = true then k y s1 else .ok (.bl false) s1) Q) rl h fun y s1 w H1 HP1 st1 d1 hz => ?_)) fun u s2 ⟨w, H2, I2, r2, q2⟩ => thn (h1 pins s2 σ H2 xv w v u _ I2 rx r2 q2) fun t s3 ⟨z, H3, I3, r3, c, y, s1, HP1, e, rl3, d3, q3⟩ => ?_)
  · cases q : g x y with
    | none => rw [q] at hz; exact hz.elim
    | some d =>
      rw [q] at hz
      refine h2 W va s1 σ HP1 H1 xv w x y d _ st1.rel (Dv.mono st1.same x xv dx) d1 q fun t H3 HP3 st3 d3 => ?_
      cases d3 <;> first | exact hz.elim | skip
      exact ⟨_, y, s1, HP3, rfl, st3.rel, Dv.mono st3.same y w d1, PoE.from st3 hz⟩
  · subst e
    cases r3
    refine wpAny_truthy_bool ?_
    cases c with
    | false => exact ⟨.bl false, H3, I3, rfl, q3.fin rl3 (.bl false)⟩
    | true => exact hr pos pins s3 va s1 σ HP1 H3 y w u Q I3 rl3 d3 r2 q3
theorem cht_link {op op' : CmpOp} {ops : List CmpOp} {b' : Sem Value} {rs : List (Sem Value)} {g : D → D → Option D} {k : D → S → R Bool} (o : OpD X (compareOp op) g) (hb : DE X W b fb) (hr : ChT X W (op' :: ops) (b' :: rs) k) :
    ChT X W (op :: op' :: ops) (eval b X.env :: b' :: rs) (fun x s => (fb s).bind fun y s => ((lift (g x y) s).bind toB).bind fun c s => if c = true then k y s else .ok false s) := by
  obtain ⟨r, h1, h2⟩ := o
  intro pos pins s va st σ HP H x xv v Q I rl dx rx h
  refine test_link (thn (hb.run pins s σ H _ I (bindET (R := fun w H2 => r xv w H2 fun t H3 => ∃ c y s1 HP1, t = .bl c ∧ Rel X.K va s1 σ HP1 H3 ∧ Dv X.K HP1 w y ∧ PoT X W va s1 σ HP1 H3 (if c = true then k y s1 else .ok false s1) Q) rl h fun y s1 w H1 HP1 st1 d1 hz => ?_)) fun u s2 ⟨w, H2, I2, r2, q2⟩ => thn (h1 pins s2 σ H2 xv w v u _ I2 rx r2 q2) fun t s3 ⟨z, H3, I3, r3, c, y, s1, HP1, e, rl3, d3, q3⟩ => ?_)
  · cases q : g x y with
    | none => rw [q] at hz; exact hz.elim
    | some d =>
      rw [q] at hz
      refine h2 W va s1 σ HP1 H1 xv w x y d _ st1.rel (Dv.mono st1.same x xv dx) d1 q fun t H3 HP3 st3 d3 => ?_
      cases d3 <;> first | exact hz.elim | skip
      exact ⟨_, y, s1, HP3, rfl, st3.rel, Dv.mono st3.same y w d1, PoT.from st3 hz⟩
  · subst e
    cases r3
    refine wpAny_truthy_bool ?_
    cases c with
    | false => exact ⟨H3, I3, q3.fin rl3⟩
    | true => exact hr pos pins s3 va s1 σ HP1 H3 y w u Q I3 rl3 d3 r2 q3
/-- a < b < .. -/
theorem de_chain {op op' : CmpOp} {ops : List CmpOp} {b' : Expr} {bs : List Expr} {k : D → S → R D} (ha : DE X W a fa) (hr : ChV X W (op :: op' :: ops) (eval b X.env :: eval b' X.env :: evalEach bs X.env) k)
    (hm : lastMarks (op :: op' :: ops) (b :: b' :: bs) = false := by with_unfolding_all rfl) : DE X W (.Compare a (op :: op' :: ops) (b :: b' :: bs) pos) (fun s => (fa s).bind k) := by
  refine ⟨fun pins s σ H Q I h => ?_⟩
  obtain ⟨va, st, HP, rl, h⟩ := h
  refine Compare_chain (thn (ha.run pins s σ H _ I (bindEE (R := fun v H1 => ∃ x s1 HP1, Rel X.K va s1 σ HP1 H1 ∧ Dv X.K HP1 v x ∧ PoE X W va s1 σ HP1 H1 (k x s1) Q) rl h fun x s1 v H1 HP1 st1 d1 h1 => ⟨x, s1, HP1, st1.rel, d1, h1⟩)) fun u s2 ⟨v, H2, I2, r2, x, s1, HP1, rl1, d1, h1⟩ => ?_) hm
  exact hr pos pins s2 va s1 σ HP1 H2 x v u Q I2 rl1 d1 r2 h1
theorem dt_chain {op op' : CmpOp} {ops : List CmpOp} {b' : Expr} {bs : List Expr} {k : D → S → R Bool} (ha : DE X W a fa) (hr : ChT X W (op :: op' :: ops) (eval b X.env :: eval b' X.env :: evalEach bs X.env) k)
    (hm : lastMarks (op :: op' :: ops) (b :: b' :: bs) = false := by with_unfolding_all rfl) : DT X W (.Compare a (op :: op' :: ops) (b :: b' :: bs) pos) (fun s => (fa s).bind k) := by
  refine ⟨fun pins s σ H Q I h => ?_⟩
  obtain ⟨va, st, HP, rl, h⟩ := h
  refine isTrue_chain (thn (ha.run pins s σ H _ I (bindET (R := fun v H1 => ∃ x s1 HP1, Rel X.K va s1 σ HP1 H1 ∧ Dv X.K HP1 v x ∧ PoT X W va s1 σ HP1 H1 (k x s1) Q) rl h fun x s1 v H1 HP1 st1 d1 h1 => ⟨x, s1, HP1, st1.rel, d1, h1⟩)) fun u s2 ⟨v, H2, I2, r2, x, s1, HP1, rl1, d1, h1⟩ => ?_) hm
  exact hr pos pins s2 va s1 σ HP1 H2 x v u Q I2 rl1 d1 r2 h1
end
end DL

namespace DL
open PySem PySem.Spec PyProof.Rows L2
/-! ## names -/
section
variable {K : PySem.W.Frag} {va : VA} {s : S} {σ : St} {HP H : Hp}
theorem sl_put_ne {s : S} {i j : Nat} {x : Sl} (h : j ≠ i) : (s.put i x).sl[j]? = s.sl[j]? := by
  show (s.sl.set i (some x))[j]? = _
  rw [List.getElem?_set_ne (Ne.symm h)]
theorem sl_put_eq {s : S} {i : Nat} {x : Sl} {y : Option Sl} (h : (s.put i x).sl[i]? = some y) : y = some x := by
  have h' : (s.sl.set i (some x))[i]? = some y := h
  rw [List.getElem?_set_self'] at h'
  cases e : s.sl[i]? with
  | none => rw [e] at h'; cases h'
  | some z => rw [e] at h'; simpa using h'.symm
/-- an own list becomes one that stays as it is -/
theorem Rel.freeze (r : Rel K va s σ HP H) {i : Nat} {xs : List D} (e : s.sl[i]? = some (some (.own xs))) :
    ∃ a HP', σ[i]? = some (some (.ref a)) ∧ Dv K HP' (.ref a) (.lst xs) ∧ Stp K va s σ HP H (s.put i (.val (.lst xs))) σ HP' H := by
  obtain ⟨a, vs, h1, h2, h3, hz, h4⟩ := r.own i xs e
  have sm : Same HP (upd HP a (.lst vs)) := fun b x e => by rw [upd_ne (ne_of_none e h2)]; exact e
  have dl : Dv K (upd HP a (.lst vs)) (.ref a) (.lst xs) := .lst upd_same hz (DvA.mono sm xs vs h4)
  have own : ∀ (j : Nat) ys, (s.put i (.val (.lst xs))).sl[j]? = some (some (.own ys)) → j ≠ i ∧ s.sl[j]? = some (some (.own ys)) := fun j ys q => by
    by_cases h : j = i
    · subst h; cases sl_put_eq q
    · rw [sl_put_ne h] at q; exact ⟨h, q⟩
  have now : ∀ b, Owns va (s.put i (.val (.lst xs))) σ b → Owns va s σ b := fun b q => by
    rcases q with ⟨j, ys, q1, q2⟩ | q
    · exact .inl ⟨j, ys, (own j ys q1).2, q2⟩
    · exact .inr q
  refine ⟨a, upd HP a (.lst vs), h1, dl, ⟨by simpa [S.put] using r.len, fun b x q => ?_, fun j d q => ?_, fun j ys q => ?_, fun j q => ?_, fun ys q => ?_, fun j k ys zs b n q1 q2 => ?_, fun j ys q => ?_, ⟨r.tab.t, noTb_upd r.tab.n (fun _ z => nomatch z)⟩⟩, sm, fun b o hb _ nb => ⟨hb, fun z => nb (now b z), fun z => ?_⟩, Iff.rfl⟩
  · by_cases hb : b = a
    · subst hb; rw [upd_same] at q; cases q; exact h3
    · rw [upd_ne hb] at q; exact r.sub b x q
  · by_cases h : j = i
    · subst h
      cases sl_put_eq q
      exact ⟨_, h1, dl⟩
    · rw [sl_put_ne h] at q
      obtain ⟨v, z1, z2⟩ := r.val j d q
      exact ⟨v, z1, Dv.mono sm d v z2⟩
  · obtain ⟨nj, q'⟩ := own j ys q
    obtain ⟨b, ws, z1, z2, z3, zz, z4⟩ := r.own j ys q'
    have ne : b ≠ a := fun z => by subst z; exact r.dis i j xs ys b (Ne.symm nj) e q' h1 z1
    exact ⟨b, ws, z1, by rw [upd_ne ne]; exact z2, z3, zz, DvA.mono sm ys ws z4⟩
  · by_cases h : j = i
    · subst h; cases sl_put_eq q
    · rw [sl_put_ne h] at q; exact r.vis j q
  · obtain ⟨z1, ws, z2, zz, z3⟩ := r.vst ys q
    have q' : s.via = some ys := q
    have ne : va.a ≠ a := fun z => r.dvi i xs e (by rw [q']; simp) (by rw [z]; exact h1)
    exact ⟨by rw [upd_ne ne]; exact z1, ws, z2, zz, DvA.mono sm ys ws z3⟩
  · exact r.dis j k ys zs b n (own j ys q1).2 (own k zs q2).2
  · exact r.dvi j ys (own j ys q).2
  · have ne : b ≠ a := fun w => nb (.inl ⟨i, xs, e, by rw [w]; exact h1⟩)
    rw [upd_ne ne]; exact z
end
def getS (i : Nat) (s : S) : R D := match s.sl[i]? with
  | some (some (.val d)) => .ok d s
  | some (some (.own xs)) => .ok (.lst xs) (s.put i (.val (.lst xs)))
  | _ => .stuck
section
variable {X : Cx} {W : WX} {a b c e : Expr} {es : List Expr} {fa fb fc : S → R D} {pos : Pos}
theorem de_v (i : Nat) {x : Str} {pos : Pos} (hN : X.N[i]? = some x := by rfl) (hv : Vis X.env.scope x := by first | exact Or.inl rfl | exact Or.inr (Or.inl rfl) | exact Or.inr (Or.inr rfl)) (hd : (x == ("__debug__" : Str)) = false := by decide)
    (hcd : (x == ("__classdict__" : Str)) = false := by decide) : DE X W (.Name x pos) (getS i) := by
  refine pe_imp (pv i hN hv hd hcd) fun σ H Q h => ?_
  obtain ⟨va, s, HP, rl, h⟩ := h
  unfold getS at h
  split at h
  · rename_i d q
    obtain ⟨v, h1, h2⟩ := rl.val i d q
    exact ⟨v, h1, h.fin rl h2⟩
  · rename_i xs q
    obtain ⟨b, HP', h1, h2, h3⟩ := rl.freeze q
    exact ⟨_, h1, h.fin_at h3 h2⟩
  · exact h.elim
end
/-! ## == -/
mutual
def D.py : D → PyData
  | .non => .none
  | .bl b => .bool b
  | .int i => .int i
  | .str x => .str x
  | .lst xs => .list (D.pyA xs)
  | .tup xs => .tuple (D.pyA xs)
  | .ref _ => .dict []
  | .scr _ => .dict []
def D.pyA : List D → List PyData
  | [] => []
  | d :: ds => D.py d :: D.pyA ds
end
mutual
def deq : D → D → Bool
  | .non, .non => true
  | .bl a, .bl b => a == b
  | .bl a, .int j => (if a then 1 else 0) == j
  | .int i, .bl b => i == (if b then 1 else 0)
  | .int i, .int j => i == j
  | .str x, .str y => x == y
  | .lst xs, .lst ys => deqA xs ys
  | .tup xs, .tup ys => deqA xs ys
  | _, _ => false
def deqA : List D → List D → Bool
  | [], [] => true
  | x :: xs, y :: ys => deq x y && deqA xs ys
  | _, _ => false
end
def okd : Nat → D → Bool
  | _, .non => true
  | _, .bl _ => true
  | _, .int _ => true
  | _, .str x => PyData.strOk x
  | n + 1, .lst xs => xs.all (okd n)
  | n + 1, .tup xs => xs.all (okd n)
  | _, _ => false
mutual
theorem py_eqv : ∀ (a b : D) (n : Nat), okd n a = true → PyData.eqv a.py b.py = deq a b
  | .non, b, n, _ => by cases b <;> simp [D.py, PyData.eqv, deq]
  | .bl x, b, n, _ => by cases b <;> simp [D.py, PyData.eqv, deq]
  | .int x, b, n, _ => by cases b <;> simp [D.py, PyData.eqv, deq]
  | .str x, b, n, _ => by cases b <;> simp [D.py, PyData.eqv, deq]
  | .lst xs, b, n, h => by
    cases n with
    | zero => simp [okd] at h
    | succ n =>
      have h' : xs.all (okd n) = true := by simpa [okd] using h
      cases b <;> simp [D.py, PyData.eqv, deq, py_eqvA xs _ n h']
  | .tup xs, b, n, h => by
    cases n with
    | zero => simp [okd] at h
    | succ n =>
      have h' : xs.all (okd n) = true := by simpa [okd] using h
      cases b <;> simp [D.py, PyData.eqv, deq, py_eqvA xs _ n h']
  | .ref a, b, n, h => by cases n <;> simp [okd] at h
  | .scr a, b, n, h => by cases n <;> simp [okd] at h
theorem py_eqvA : ∀ (xs ys : List D) (n : Nat), xs.all (okd n) = true → PyData.eqvAll (D.pyA xs) (D.pyA ys) = deqA xs ys
  | [], ys, n, _ => by cases ys <;> simp [D.pyA, PyData.eqvAll, deqA]
  | x :: xs, ys, n, h => by
    have h' : okd n x = true ∧ xs.all (okd n) = true := by simpa using h
    cases ys with
    | nil => simp [D.pyA, PyData.eqvAll, deqA]
    | cons y ys => simp [D.pyA, PyData.eqvAll, deqA, py_eqv x y n h'.1, py_eqvA xs ys n h'.2]
end
mutual
theorem py_lay : ∀ (a : D) (n : Nat), okd n a = true → a.py.canLay0 = true ∧ a.py.depth ≤ n
  | .non, n, _ => by simp [D.py, PyData.canLay0, PyData.depth]
  | .bl x, n, _ => by simp [D.py, PyData.canLay0, PyData.depth]
  | .int x, n, _ => by simp [D.py, PyData.canLay0, PyData.depth]
  | .str x, n, h => by
    have h' : PyData.strOk x = true := by cases n <;> simpa [okd] using h
    simp [D.py, PyData.canLay0, PyData.depth, h']
  | .lst xs, n, h => by
    cases n with
    | zero => simp [okd] at h
    | succ n =>
      have h' : xs.all (okd n) = true := by simpa [okd] using h
      obtain ⟨h1, h2⟩ := py_layA xs n h'
      simp only [D.py, PyData.canLay0, PyData.depth]
      exact ⟨h1, by omega⟩
  | .tup xs, n, h => by
    cases n with
    | zero => simp [okd] at h
    | succ n =>
      have h' : xs.all (okd n) = true := by simpa [okd] using h
      obtain ⟨h1, h2⟩ := py_layA xs n h'
      simp only [D.py, PyData.canLay0, PyData.depth]
      exact ⟨h1, by omega⟩
  | .ref a, n, h => by cases n <;> simp [okd] at h
  | .scr a, n, h => by cases n <;> simp [okd] at h
theorem py_layA : ∀ (xs : List D) (n : Nat), xs.all (okd n) = true → PyData.canLayAll0 (D.pyA xs) = true ∧ PyData.depthAll (D.pyA xs) ≤ n
  | [], n, _ => by simp [D.pyA, PyData.canLayAll0, PyData.depthAll]
  | x :: xs, n, h => by
    have h' : okd n x = true ∧ xs.all (okd n) = true := by simpa using h
    obtain ⟨h1, h2⟩ := py_lay x n h'.1
    obtain ⟨h3, h4⟩ := py_layA xs n h'.2
    simp only [D.pyA, PyData.canLayAll0, PyData.depthAll, h1, h3, Bool.and_self, true_and]
    omega
end
mutual
theorem py_dp {K : PySem.W.Frag} {H HP : Hp} (sm : Same HP H) : ∀ (d : D) (v : V) (n : Nat), okd n d = true → Dv K HP v d → Dp K H v d.py
  | .non, _, _, _, h => by cases h; exact .non
  | .bl b, _, _, _, h => by cases h; exact .bl b
  | .int i, _, _, _, h => by cases h; exact .int i
  | .str x, _, _, _, h => by cases h; exact .str x
  | .ref a, _, n, o, h => by cases n <;> simp [okd] at o
  | .scr a, _, n, o, h => by cases n <;> simp [okd] at o
  | .lst xs, _, n, o, h => by
    cases n with
    | zero => simp [okd] at o
    | succ n =>
      have o' : xs.all (okd n) = true := by simpa [okd] using o
      cases h with
      | lst hs _ ha => exact .lst (SqL.of (sm _ _ hs)) (py_dpA sm xs _ n o' ha)
  | .tup xs, _, n, o, h => by
    cases n with
    | zero => simp [okd] at o
    | succ n =>
      have o' : xs.all (okd n) = true := by simpa [okd] using o
      cases h with
      | tup hs _ ha => exact .tup (SqT.of (sm _ _ hs)) (py_dpA sm xs _ n o' ha)
theorem py_dpA {K : PySem.W.Frag} {H HP : Hp} (sm : Same HP H) : ∀ (ds : List D) (vs : List V) (n : Nat), ds.all (okd n) = true → DvA K HP vs ds → DpAll K H vs (D.pyA ds)
  | [], _, _, _, h => by cases h; exact .nil
  | d :: ds, _, n, o, h => by
    have o' : okd n d = true ∧ ds.all (okd n) = true := by simpa using o
    cases h with
    | cons h1 h2 => exact .cons (py_dp sm d _ n o'.1 h1) (py_dpA sm ds _ n o'.2 h2)
end
theorem py_shaped {d : D} (h : okd 60 d = true) : SeqAt.shaped d.py = true := by
  obtain ⟨h1, h2⟩ := py_lay d 60 h
  unfold SeqAt.shaped
  rw [h1, decide_eq_true (show d.py.depth ≤ 64 by omega)]
  rfl
theorem pyA_any (f : D → Bool) (g : PyData → Bool) : ∀ ds : List D, (∀ d ∈ ds, g d.py = f d) → (D.pyA ds).any g = ds.any f
  | [], _ => rfl
  | d :: ds, h => by
    rw [D.pyA, List.any_cons, List.any_cons, h d (by simp), pyA_any f g ds fun e he => h e (by simp [he])]
def opEq (a b : D) : Option D := if okd 60 a && okd 60 b then some (.bl (deq a b)) else none
def opNe (a b : D) : Option D := if okd 60 a && okd 60 b then some (.bl (!deq a b)) else none
/-- whether a is among xs -/
def dmem (a : D) (xs : List D) : Bool := xs.any fun z => deq z a
def opIn (a b : D) : Option D := match b with
  | .lst xs => if okd 59 a && xs.all (okd 59) then some (.bl (dmem a xs)) else none
  | _ => none
def opNotIn (a b : D) : Option D := match b with
  | .lst xs => if okd 59 a && xs.all (okd 59) then some (.bl (!dmem a xs)) else none
  | _ => none
theorem okd_up : ∀ (n : Nat) (d : D), okd n d = true → okd (n + 1) d = true
  | 0, d, h => by cases d <;> simp_all [okd]
  | n + 1, d, h => by
    cases d with
    | lst xs =>
      have h' : ∀ x ∈ xs, okd n x = true := by simpa [okd] using h
      have : ∀ x ∈ xs, okd (n + 1) x = true := fun x hx => okd_up n x (h' x hx)
      simpa [okd] using this
    | tup xs =>
      have h' : ∀ x ∈ xs, okd n x = true := by simpa [okd] using h
      have : ∀ x ∈ xs, okd (n + 1) x = true := fun x hx => okd_up n x (h' x hx)
      simpa [okd] using this
    | _ => simp_all [okd]
section
variable {X : Cx} {W : WX} {a b c e : Expr} {es : List Expr} {fa fb fc : S → R D} {pos : Pos}
theorem od_eq {k : Nat} (hr : Room k X.A) : OpD X (compareOp .Eq) opEq := by
  refine ⟨_, op_eqD hr.units, fun W va s σ HP H x y a b d Q rl dx dy e p => ?_⟩
  unfold opEq at e
  split at e <;> cases e
  rename_i hz
  obtain ⟨h1, h2⟩ := Bool.and_eq_true_iff.mp hz
  exact ⟨a.py, b.py, py_dp rl.sub a x 60 h1 dx, py_dp rl.sub b y 60 h2 dy, py_shaped h1, py_shaped h2, by rw [py_eqv a b 60 h1]; exact fin_bl p rl⟩
theorem od_ne {k : Nat} (hr : Room k X.A) : OpD X (compareOp .NotEq) opNe := by
  refine ⟨_, op_neD hr.units, fun W va s σ HP H x y a b d Q rl dx dy e p => ?_⟩
  unfold opNe at e
  split at e <;> cases e
  rename_i hz
  obtain ⟨h1, h2⟩ := Bool.and_eq_true_iff.mp hz
  exact ⟨a.py, b.py, py_dp rl.sub a x 60 h1 dx, py_dp rl.sub b y 60 h2 dy, py_shaped h1, py_shaped h2, by rw [py_eqv a b 60 h1]; exact fin_bl p rl⟩
theorem dmem_py {a : D} {xs : List D} (h : xs.all (okd 59) = true) : ((D.pyA xs).any fun z => PyData.eqv z a.py) = dmem a xs := by
  refine pyA_any _ _ xs fun d hd => ?_
  exact py_eqv d a 59 (List.all_eq_true.mp h d hd)
theorem od_in {k : Nat} (hr : Room k X.A) : OpD X (compareOp .In) opIn := by
  refine ⟨_, op_inD (by have := hr.un; omega), fun W va s σ HP H x y a b d Q rl dx dy e p => ?_⟩
  unfold opIn at e
  split at e
  · split at e <;> cases e
    rename_i xs hz
    obtain ⟨h1, h2⟩ := Bool.and_eq_true_iff.mp hz
    have h3 : okd 60 (.lst xs) = true := by simpa [okd] using h2
    have h4 := okd_up 59 a h1
    refine ⟨a.py, D.pyA xs, py_dp rl.sub a x 60 h4 dx, py_dp rl.sub (.lst xs) y 60 h3 dy, py_shaped h4, py_shaped h3, ?_⟩
    rw [dmem_py h2]
    exact fin_bl p rl
  · cases e
theorem od_notin {k : Nat} (hr : Room k X.A) : OpD X (compareOp .NotIn) opNotIn := by
  refine ⟨_, op_notInD (by have := hr.un; omega), fun W va s σ HP H x y a b d Q rl dx dy e p => ?_⟩
  unfold opNotIn at e
  split at e
  · split at e <;> cases e
    rename_i xs hz
    obtain ⟨h1, h2⟩ := Bool.and_eq_true_iff.mp hz
    have h3 : okd 60 (.lst xs) = true := by simpa [okd] using h2
    have h4 := okd_up 59 a h1
    refine ⟨a.py, D.pyA xs, py_dp rl.sub a x 60 h4 dx, py_dp rl.sub (.lst xs) y 60 h3 dy, py_shaped h4, py_shaped h3, ?_⟩
    rw [dmem_py h2]
    exact fin_bl p rl
  · cases e
/-! ## items, slices -/
def opIx : D → D → Option D
  | .lst xs, .int i => atI xs i
  | .tup xs, .int i => atI xs i
  | .scr ns, .int i => (atI ns i).map .int
  | _, _ => none
theorem DvA.atI {K : PySem.W.Frag} {H : Hp} {vs : List V} {ds : List D} {i : Int} {d : D} (h : DvA K H vs ds) (e : L2.atI ds i = some d) : ∃ v, L2.atI vs i = some v ∧ Dv K H v d := by
  unfold L2.atI at e ⊢
  rw [h.length]
  cases q : ixN ds.length i with
  | none => rw [q] at e; cases e
  | some j => rw [q] at e; exact h.getD e
theorem de_ix (ha : DE X W a fa) (hb : DE X W b fb) (hs : PlainIx b := by exact fun _ _ => rfl) : DE X W (.Subscript a b pos) (fun s => (fa s).bind fun x s => (fb s).bind fun y s => lift (opIx x y) s) := by
  refine pe_imp (pe_ix ix_seq ha hb hs) fun σ H Q h => de_bin (fun W va s σ HP H x y a b d Q rl dx dy e p => ?_) σ H Q h
  unfold opIx at e
  split at e
  · cases dx with
    | @lst q vs ds h1 y1 a1 =>
      cases dy
      obtain ⟨v, h2, h3⟩ := a1.atI e
      exact .inl ⟨q, vs, _, v, rfl, rfl, SqL.of (rl.sub _ _ h1), h2, p.fin rl h3⟩
  · cases dx with
    | @tup q vs ds h1 y1 a1 =>
      cases dy
      obtain ⟨v, h2, h3⟩ := a1.atI e
      exact .inr (.inl ⟨q, vs, _, v, rfl, rfl, SqT.of (rl.sub _ _ h1), h2, p.fin rl h3⟩)
  · rename_i ns i
    cases dx with
    | @scr q _ h1 =>
      cases dy
      cases z : L2.atI ns i with
      | none => rw [z] at e; cases e
      | some n =>
        rw [z] at e
        cases e
        refine .inl ⟨q, ns.map V.int, i, .int n, rfl, rfl, rl.sub.seq h1, ?_, fin_int p rl⟩
        unfold L2.atI at z ⊢
        rw [List.length_map]
        cases y : ixN ns.length i with
        | none => rw [y] at z; cases z
        | some j =>
          rw [y] at z
          show (ns.map V.int)[j]? = _
          rw [List.getElem?_map, show ns[j]? = some n from z]
          rfl
  · cases e
/-- a slice's part -/
def PoO (X : Cx) (W : WX) (va : VA) (s : S) (σ : St) (HP H : Hp) (r : R (Option Int)) (Q : Option Int → Hp → Prop) : Prop := match r with
  | .ok b s' => ∀ H' HP', Stp X.K va s σ HP H s' σ HP' H' → Q b H'
  | .exc n p s' => ∀ dd H' HP' C, Stp X.K va s σ HP H s' σ HP' H' → ExcAt p dd H' → X.mg n = some (.ref C) → W (.ref C) dd σ H'
  | .stuck => False
def tDO (X : Cx) (W : WX) (f : S → R (Option Int)) : TO := fun σ H Q => ∃ va s HP, Rel X.K va s σ HP H ∧ PoO X W va s σ HP H (f s) Q
def DO (X : Cx) (W : WX) (e : Option Expr) (f : S → R (Option Int)) : Prop := PO X e (tDO X W f)
theorem do_none : DO X W none (fun s => .ok none s) := ⟨fun pins s σ H Q I h => by
  obtain ⟨va, st, HP, rl, h⟩ := h
  exact po_none.run pins s σ H Q I (h H HP (Stp.refl rl))⟩
def toI (d : D) (s : S) : R (Option Int) := match d with
  | .int i => .ok (some i) s
  | _ => .stuck
@[simp] theorem toI_int (i : Int) (s : S) : toI (.int i) s = .ok (some i) s := rfl
theorem do_some (ha : DE X W a fa) : DO X W (some a) (fun s => (fa s).bind toI) := ⟨fun pins s σ H Q I h => by
  obtain ⟨va, st, HP, rl, h⟩ := h
  dsimp only at h
  refine (po_some ha).run pins s σ H Q I (bindE rl (fun d s' v H' HP' e stp dv => ?_) (fun n p s' dd H' HP' C e stp z m => ?_) (fun e => ?_)) <;> rw [e] at h
  · cases dv <;> first | exact h.elim | exact ⟨_, rfl, h H' HP' stp⟩
  · exact h dd H' HP' C stp z m
  · exact h⟩
def cutG {α : Type} (xs : List α) (lo hi : Option Int) : List α := (xs.drop (HT.sIx xs.length 0 lo)).take (HT.sIx xs.length xs.length hi - HT.sIx xs.length 0 lo)
def opSl (d : D) (lo hi : Option Int) : Option D := match d with
  | .tup xs => some (.tup (cutG xs lo hi))
  | .lst xs => some (.lst (cutG xs lo hi))
  | _ => none
theorem cut_len {α : Type} (xs : List α) (lo hi : Option Int) : (cutG xs lo hi).length ≤ xs.length := by
  unfold cutG
  rw [List.length_take, List.length_drop]
  omega
theorem DvA.cut {K : PySem.W.Frag} {H : Hp} {vs : List V} {ds : List D} (h : DvA K H vs ds) (lo hi : Option Int) : DvA K H (cutV vs lo hi) (cutG ds lo hi) := by
  unfold cutV cutG
  rw [h.length]
  exact (h.drop _).take _
theorem cut_whole {α : Type} {xs : List α} {lo hi : Option Int} (h : HT.sIx xs.length 0 lo = 0 ∧ HT.sIx xs.length xs.length hi = xs.length) : cutG xs lo hi = xs := by
  unfold cutG
  rw [h.1, h.2, List.drop_zero, Nat.sub_zero, List.take_length]
theorem de_sl {lo hi : Option Expr} {fl fh : S → R (Option Int)} {p2 : Pos} (ha : DE X W a fa) (hl : DO X W lo fl) (hh : DO X W hi fh) :
    DE X W (.Subscript a (.Slice lo hi none p2) pos) (fun s => (fa s).bind fun x s => (fl s).bind fun l s => (fh s).bind fun u s => lift (opSl x l u) s) := by
  refine pe_imp (pe_slice (sl_tupA.or sl_list) ha hl hh) fun σ H Q h => ?_
  obtain ⟨va, s, HP, rl, h⟩ := h
  dsimp only at h
  refine bindEE rl h fun x s1 v H1 HP1 st1 d1 h1 => ?_
  refine ⟨va, s1, HP1, st1.rel, ?_⟩
  cases e1 : fl s1 with
  | stuck => rw [e1] at h1; exact h1
  | exc n p s' => rw [e1] at h1; exact h1
  | ok l s2 =>
    rw [e1] at h1
    intro H2 HP2 st2
    have h2 := PoE.from st2 h1
    refine ⟨va, s2, HP2, st2.rel, ?_⟩
    cases e2 : fh s2 with
    | stuck => simp only [R.bind_ok, e2, R.bind_stuck] at h2; exact h2
    | exc n p s' => simp only [R.bind_ok, e2, R.bind_exc] at h2; exact h2
    | ok u s3 =>
      simp only [R.bind_ok, e2] at h2
      intro H3 HP3 st3
      have h3 := PoE.from st3 h2
      have dx := Dv.mono (st2.same.trans st3.same) x v d1
      have rl3 := st3.rel
      unfold opSl at h3
      split at h3
      · rename_i ds
        cases dx with
        | @tup q vs _ z1 y1 a1 =>
          refine .inl ⟨q, vs, rfl, SqT.of (rl3.sub _ _ z1), fun w => ?_, fun _ p hp => fin_tup h3 rl3 (a1.cut l u) (Nat.le_trans (cut_len _ _ _) y1) p hp⟩
          have w' : cutG ds l u = ds := cut_whole (by rw [← a1.length]; exact w)
          rw [w'] at h3
          exact h3.fin rl3 (.tup z1 y1 a1)
      · cases dx with
        | @lst q vs ds z1 y1 a1 => exact .inr ⟨q, vs, rfl, SqL.of (rl3.sub _ _ z1), fun p hp => fin_lst h3 rl3 (a1.cut l u) (Nat.le_trans (cut_len _ _ _) y1) p hp⟩
      · exact h3.elim
end
end DL

namespace DL
open PySem PySem.Spec PyProof.Rows L2
/-! ## what a store does to the state -/
section
variable {K : PySem.W.Frag} {va : VA} {s : S} {σ : St} {HP H : Hp}
theorem st_put_ne {σ : St} {i j : Nat} {x : Option V} (h : j ≠ i) : (σ.set i x)[j]? = σ[j]? := List.getElem?_set_ne (Ne.symm h)
theorem put_own {i : Nat} {d : D} {j : Nat} {ys : List D} (q : (s.put i (.val d)).sl[j]? = some (some (.own ys))) : j ≠ i ∧ s.sl[j]? = some (some (.own ys)) := by
  by_cases h : j = i
  · subst h; cases sl_put_eq q
  · rw [sl_put_ne h] at q; exact ⟨h, q⟩
theorem Rel.put (r : Rel K va s σ HP H) (i : Nat) {v : V} {d : D} (dv : Dv K HP v d) : Stp K va s σ HP H (s.put i (.val d)) (σ.set i (some v)) HP H := by
  refine ⟨⟨by simpa [S.put] using r.len, r.sub, fun j e q => ?_, fun j ys q => ?_, fun j q => ?_, r.vst, fun j k ys zs b n q1 q2 q3 => ?_, fun j ys q n => ?_, r.tab⟩, Same.refl _, fun b o hb _ nb => ⟨hb, fun z => nb ?_, fun z => z⟩, Iff.rfl⟩
  · by_cases h : j = i
    · subst h
      cases sl_put_eq q
      refine ⟨v, ?_, dv⟩
      have hlt : j < σ.length := by
        have : j < (s.put j (.val d)).sl.length := by
          rcases Nat.lt_or_ge j (s.put j (.val d)).sl.length with z | z
          · exact z
          · rw [List.getElem?_eq_none_iff.mpr z] at q; cases q
        simpa [S.put, r.len] using this
      rw [List.getElem?_set_self hlt]
    · rw [sl_put_ne h] at q
      obtain ⟨w, z1, z2⟩ := r.val j e q
      exact ⟨w, by rw [st_put_ne h]; exact z1, z2⟩
  · obtain ⟨nj, q'⟩ := put_own q
    obtain ⟨a, vs, z1, z2⟩ := r.own j ys q'
    exact ⟨a, vs, by rw [st_put_ne nj]; exact z1, z2⟩
  · by_cases h : j = i
    · subst h; cases sl_put_eq q
    · rw [sl_put_ne h] at q; rw [st_put_ne h]; exact r.vis j q
  · obtain ⟨n1, q1'⟩ := put_own q1
    obtain ⟨n2, q2'⟩ := put_own q2
    rw [st_put_ne n1] at q3
    rw [st_put_ne n2]
    exact r.dis j k ys zs b n q1' q2' q3
  · obtain ⟨n1, q'⟩ := put_own q
    rw [st_put_ne n1]
    exact r.dvi j ys q' n
  · rcases z with ⟨j, ys, q1, q2⟩ | z
    · obtain ⟨n1, q'⟩ := put_own q1
      rw [st_put_ne n1] at q2
      exact .inl ⟨j, ys, q', q2⟩
    · exact .inr z
/-- a new list that the slot alone holds -/
theorem Rel.putOwn (r : Rel K va s σ HP H) (i : Nat) {p : Addr} {vs : List V} {ds : List D} (np : H p = none) (hz : ds.length ≤ sizeLine) (dv : DvA K HP vs ds) :
    Stp K va s σ HP H (s.put i (.own ds)) (σ.set i (some (.ref p))) HP (upd H p (.lst vs)) := by
  have nP : HP p = none := r.sub.free np
  have no : ∀ b x, H b = some x → upd H p (.lst vs) b = some x := fun b x e => by rw [upd_ne (ne_of_none e np)]; exact e
  have own : ∀ (j : Nat) ys, (s.put i (.own ds)).sl[j]? = some (some (.own ys)) → (j = i ∧ ys = ds) ∨ (j ≠ i ∧ s.sl[j]? = some (some (.own ys))) := fun j ys q => by
    by_cases h : j = i
    · subst h
      have := sl_put_eq q
      injection this with e
      injection e with e
      exact .inl ⟨rfl, e⟩
    · rw [sl_put_ne h] at q; exact .inr ⟨h, q⟩
  have lt : ∀ {y : Sl}, (s.put i y).sl[i]? ≠ none → i < σ.length := fun {y} q => by
    have : i < (s.put i y).sl.length := by
      rcases Nat.lt_or_ge i (s.put i y).sl.length with z | z
      · exact z
      · exact absurd (List.getElem?_eq_none_iff.mpr z) q
    simpa [S.put, r.len] using this
  have at_i : ∀ {y : Sl}, (s.put i y).sl[i]? ≠ none → (σ.set i (some (V.ref p)))[i]? = some (some (.ref p)) := fun q => List.getElem?_set_self (lt q)
  have op : ∀ (j : Nat) ys a, s.sl[j]? = some (some (.own ys)) → σ[j]? = some (some (.ref a)) → a ≠ p := fun j ys a q1 q2 z => by
    obtain ⟨b, ws, z1, z2, z3, _⟩ := r.own j ys q1
    rw [q2] at z1
    injection z1 with z1; injection z1 with z1; injection z1 with z1
    rw [← z1, z, np] at z3; cases z3
  refine ⟨⟨by simpa [S.put] using r.len, fun b x e => no b x (r.sub b x e), fun j e q => ?_, fun j ys q => ?_, fun j q => ?_, fun xs q => ?_, fun j k ys zs b n q1 q2 q3 => ?_, fun j ys q n => ?_, ⟨r.tab.t.ext no, r.tab.n⟩⟩, Same.refl _, fun b o hb _ nb => ⟨no b o hb, fun z => nb ?_, fun z => z⟩, Iff.rfl⟩
  · by_cases h : j = i
    · subst h; cases sl_put_eq q
    · rw [sl_put_ne h] at q
      obtain ⟨w, z1, z2⟩ := r.val j e q
      exact ⟨w, by rw [st_put_ne h]; exact z1, z2⟩
  · rcases own j ys q with ⟨rfl, rfl⟩ | ⟨nj, q'⟩
    · exact ⟨p, vs, at_i (by rw [q]; simp), nP, upd_same, hz, dv⟩
    · obtain ⟨a, ws, z1, z2, z3, z4⟩ := r.own j ys q'
      exact ⟨a, ws, by rw [st_put_ne nj]; exact z1, z2, no _ _ z3, z4⟩
  · by_cases h : j = i
    · subst h; cases sl_put_eq q
    · rw [sl_put_ne h] at q; rw [st_put_ne h]; exact r.vis j q
  · obtain ⟨z1, ws, z2, z3⟩ := r.vst xs q
    exact ⟨z1, ws, no _ _ z2, z3⟩
  · rcases own j ys q1 with ⟨rfl, rfl⟩ | ⟨nj, q1'⟩
    · rcases own k zs q2 with ⟨rfl, rfl⟩ | ⟨nk, q2'⟩
      · exact absurd rfl n
      · rw [at_i (by rw [q1]; simp)] at q3
        rw [st_put_ne nk]
        intro q4
        injection q3 with q3; injection q3 with q3; injection q3 with q3
        exact op k zs b q2' q4 q3.symm
    · rw [st_put_ne nj] at q3
      rcases own k zs q2 with ⟨rfl, rfl⟩ | ⟨nk, q2'⟩
      · rw [at_i (by rw [q2]; simp)]
        intro q4
        injection q4 with q4; injection q4 with q4; injection q4 with q4
        exact op j ys b q1' q3 q4.symm
      · rw [st_put_ne nk]
        exact r.dis j k ys zs b n q1' q2' q3
  · rcases own j ys q with ⟨rfl, rfl⟩ | ⟨nj, q'⟩
    · rw [at_i (by rw [q]; simp)]
      intro q4
      injection q4 with q4; injection q4 with q4; injection q4 with q4
      cases hv : s.via with
      | none => exact n hv
      | some w =>
        obtain ⟨_, ws, z2, _⟩ := r.vst w hv
        rw [← q4, np] at z2; cases z2
    · rw [st_put_ne nj]; exact r.dvi j ys q' n
  · rcases z with ⟨j, ys, q1, q2⟩ | z
    · rcases own j ys q1 with ⟨rfl, rfl⟩ | ⟨nj, q1'⟩
      · rw [at_i (by rw [q1]; simp)] at q2
        injection q2 with q2; injection q2 with q2; injection q2 with q2
        rw [← q2, np] at hb; cases hb
      · rw [st_put_ne nj] at q2
        exact .inl ⟨j, ys, q1', q2⟩
    · exact .inr z
/-- the list that slot i alone holds is changed -/
theorem Rel.chg (r : Rel K va s σ HP H) {i : Nat} {xs ds : List D} {a : Addr} {vs : List V} (e : s.sl[i]? = some (some (.own xs))) (ha : σ[i]? = some (some (.ref a))) (hz : ds.length ≤ sizeLine) (dv : DvA K HP vs ds) :
    Stp K va s σ HP H (s.put i (.own ds)) σ HP (upd H a (.lst vs)) := by
  obtain ⟨a', vs', h1, h2, h3, h4, h5⟩ := r.own i xs e
  rw [ha] at h1
  injection h1 with h1; injection h1 with h1; injection h1 with h1
  subst h1
  have own : ∀ (j : Nat) ys, (s.put i (.own ds)).sl[j]? = some (some (.own ys)) → (j = i ∧ ys = ds) ∨ (j ≠ i ∧ s.sl[j]? = some (some (.own ys))) := fun j ys q => by
    by_cases h : j = i
    · subst h
      have := sl_put_eq q
      injection this with e
      injection e with e
      exact .inl ⟨rfl, e⟩
    · rw [sl_put_ne h] at q; exact .inr ⟨h, q⟩
  have nP : ∀ b x, HP b = some x → b ≠ a := fun b x e => ne_of_none e h2
  have ow : ∀ (j : Nat) ys, (s.put i (.own ds)).sl[j]? = some (some (.own ys)) → ∃ zs, s.sl[j]? = some (some (.own zs)) := fun j ys q => by
    rcases own j ys q with ⟨rfl, rfl⟩ | ⟨nj, q'⟩
    · exact ⟨xs, e⟩
    · exact ⟨ys, q'⟩
  refine ⟨⟨by simpa [S.put] using r.len, fun b x q => by rw [upd_ne (nP b x q)]; exact r.sub b x q, fun j f q => ?_, fun j ys q => ?_, fun j q => ?_, fun ws q => ?_, fun j k ys zs b n q1 q2 q3 => ?_, fun j ys q n => ?_, ⟨tab_upd r.tab.t h3, r.tab.n⟩⟩, Same.refl _, fun b o hb _ nb => ⟨?_, fun z => nb ?_, fun z => z⟩, Iff.rfl⟩
  · by_cases h : j = i
    · subst h; cases sl_put_eq q
    · rw [sl_put_ne h] at q; exact r.val j f q
  · rcases own j ys q with ⟨rfl, rfl⟩ | ⟨nj, q'⟩
    · exact ⟨a, vs, ha, h2, upd_same, hz, dv⟩
    · obtain ⟨b, ws, z1, z2, z3, z4⟩ := r.own j ys q'
      have ne : b ≠ a := fun z => by subst z; exact r.dis i j xs ys b (Ne.symm nj) e q' ha z1
      exact ⟨b, ws, z1, z2, by rw [upd_ne ne]; exact z3, z4⟩
  · by_cases h : j = i
    · subst h; cases sl_put_eq q
    · rw [sl_put_ne h] at q; exact r.vis j q
  · obtain ⟨z1, us, z2, z3⟩ := r.vst ws q
    have q' : s.via = some ws := q
    have ne : va.a ≠ a := fun z => r.dvi i xs e (by rw [q']; simp) (by rw [z]; exact ha)
    exact ⟨z1, us, by rw [upd_ne ne]; exact z2, z3⟩
  · obtain ⟨_, q1'⟩ := ow j ys q1
    obtain ⟨_, q2'⟩ := ow k zs q2
    exact r.dis j k _ _ b n q1' q2' q3
  · obtain ⟨_, q'⟩ := ow j ys q
    exact r.dvi j _ q' n
  · have ne : b ≠ a := fun w => nb (.inl ⟨i, xs, e, by rw [w]; exact ha⟩)
    rw [upd_ne ne]; exact hb
  · rcases z with ⟨j, ys, q1, q2⟩ | z
    · obtain ⟨_, q1'⟩ := ow j ys q1
      exact .inl ⟨j, _, q1', q2⟩
    · exact .inr z
/-- the lent list is changed -/
theorem Rel.chgV (r : Rel K va s σ HP H) {xs ds : List D} {vs : List V} (e : s.via = some xs) (hz : ds.length ≤ sizeLine) (dv : DvA K HP vs ds) :
    Stp K va s σ HP H ⟨s.sl, some ds⟩ σ HP (upd H va.a (.lst vs)) := by
  obtain ⟨h2, vs', h3, h4, h5⟩ := r.vst xs e
  have nv : s.via ≠ none := by rw [e]; simp
  have nP : ∀ b x, HP b = some x → b ≠ va.a := fun b x e => ne_of_none e h2
  refine ⟨⟨r.len, fun b x q => by rw [upd_ne (nP b x q)]; exact r.sub b x q, r.val, fun j ys q => ?_, fun j q => ⟨(r.vis j q).1, by simp⟩, fun ws q => ?_, r.dis, fun j ys q n => r.dvi j ys q nv, ⟨tab_upd r.tab.t h3, r.tab.n⟩⟩, Same.refl _, fun b o hb _ nb => ⟨?_, fun z => nb ?_, fun z => z⟩, by simp [e]⟩
  · obtain ⟨b, ws, z1, z2, z3, z4⟩ := r.own j ys q
    have ne : b ≠ va.a := fun z => by subst z; exact r.dvi j ys q nv z1
    exact ⟨b, ws, z1, z2, by rw [upd_ne ne]; exact z3, z4⟩
  · have : ds = ws := by simpa using q
    subst this
    exact ⟨h2, vs, upd_same, hz, dv⟩
  · have ne : b ≠ va.a := fun w => nb (.inr ⟨nv, w⟩)
    rw [upd_ne ne]; exact hb
  · rcases z with ⟨j, ys, q1, q2⟩ | ⟨_, z⟩
    · exact .inl ⟨j, ys, q1, q2⟩
    · exact .inr ⟨nv, z⟩
end
/-! ## statements -/
section
variable {X : Cx} {W : WX} {a b c e : Expr} {es : List Expr} {fa fb fc : S → R D} {ga : S → R (List D)} {ta tb tc : S → R Bool} {pos : Pos} {st : Stmt} {sts sts' : List Stmt} {f f' : S → T}
theorem dss_nil : DSs X W [] (fun s => .next s) := pss_imp pss_nil fun D σ H ⟨va, s, HP, rl, h⟩ => h σ H HP (Stp.refl rl)
theorem tDS_seq {va : VA} {s : S} {σ : St} {HP H : Hp} {D : Ends} (rl : Rel X.K va s σ HP H) (h : PoS X W va s σ HP H ((f s).seq f') D) : tDS X W f { D with nx := tDS X W f' D } σ H := by
  refine ⟨va, s, HP, rl, ?_⟩
  cases e : f s with
  | next s' => rw [e] at h; exact fun σ' H' HP' stp => ⟨va, s', HP', stp.rel, PoS.from stp h⟩
  | ret d s' => rw [e] at h; exact h
  | retO d s' => rw [e] at h; exact h
  | brk s' => rw [e] at h; exact h
  | cnt s' => rw [e] at h; exact h
  | exc n p s' => rw [e] at h; exact h
  | stuck => rw [e] at h; exact h
theorem dss_cons (h1 : DS X W st f) (h2 : DSs X W sts f') : DSs X W (st :: sts) (fun s => (f s).seq f') :=
  pss_imp (pss_cons h1 h2) fun D σ H ⟨va, s, HP, rl, h⟩ => tDS_seq rl h
theorem dss_one (h1 : DS X W st f) : DSs X W [st] f := pss_one h1
theorem ds_pass : DS X W (.Pass pos) (fun s => .next s) := ps_imp ps_pass fun D σ H ⟨va, s, HP, rl, h⟩ => h σ H HP (Stp.refl rl)
theorem ds_brk : DS X W (.Break pos) (fun s => .brk s) := ps_imp ps_break fun D σ H ⟨va, s, HP, rl, h⟩ => h σ H HP (Stp.refl rl)
theorem ds_ret (ha : DE X W a fa) : DS X W (.Return (some a) pos) (fun s => (fa s).thn fun d s => .ret d s) :=
  ps_imp (ps_ret ha) fun D σ H ⟨va, s, HP, rl, h⟩ => bindES rl h fun d s1 v H1 HP1 st1 d1 h1 => h1 v σ H1 HP1 (Stp.refl st1.rel) d1
/-- return [a, b, ..]: a list for the caller alone -/
theorem ds_retO (ha : DA X W es ga) {p0 : Pos} : DS X W (.Return (some (.List es p0)) pos) (fun s => (ga s).thn fun ds s => if ds.length ≤ sizeLine then .retO ds s else .stuck) := by
  refine ps_imp (ps_ret (pe_lst ha)) fun D σ H ⟨va, s, HP, rl, h⟩ => ?_
  refine bindA rl (fun ds s1 vs H1 HP1 e st1 d1 => ?_) (fun n p s' dd H' HP' C e stp z m => ?_) (fun e => ?_) <;> simp only [e, R.thn_ok, R.thn_exc, R.thn_stuck] at h
  · split at h
    · rename_i hz
      exact ⟨by rw [d1.length]; exact hz, fun p hp => h p vs σ H1 HP1 st1 hp hz d1⟩
    · exact h.elim
  · exact h dd σ H' HP' C stp z m
  · exact h
theorem ds_retN : DS X W (.Return none pos) (fun s => .ret .non s) := ps_imp ps_retN fun D σ H ⟨va, s, HP, rl, h⟩ => h _ σ H HP (Stp.refl rl) .non
theorem ds_expr (ha : DE X W a fa) (hs : swapsWith a none pos.line X.env = pure false := by rfl) : DS X W (.Expr a pos) (fun s => (fa s).thn fun _ s => .next s) :=
  ps_imp (ps_expr ha hs) fun D σ H ⟨va, s, HP, rl, h⟩ => bindES rl h fun d s1 v H1 HP1 st1 d1 h1 => h1 σ H1 HP1 (Stp.refl st1.rel)
theorem ds_doc {x : Str} {j : Nat} {pos' : Pos} : DS X W (.Expr (.Constant (.str x) j pos) pos') (fun s => .next s) := ps_imp ps_doc fun D σ H ⟨va, s, HP, rl, h⟩ => h σ H HP (Stp.refl rl)
theorem ds_if (hc : DT X W c tc) (h1 : DSs X W sts f) (h2 : DSs X W sts' f') : DS X W (.If c sts sts' pos) (fun s => (tc s).thn fun k s => if k = true then f s else f' s) := by
  refine ps_imp (ps_if hc h1 h2) fun D σ H ⟨va, s, HP, rl, h⟩ => bindTS rl h fun k s1 H1 HP1 st1 q => ?_
  cases k with
  | true => rw [if_pos rfl] at q ⊢; exact ⟨va, s1, HP1, st1.rel, q⟩
  | false => rw [if_neg Bool.false_ne_true] at q ⊢; exact ⟨va, s1, HP1, st1.rel, q⟩
/-- x = e -/
theorem ds_set (i : Nat) {x : Str} {pos' : Pos} (hN : X.N.Nodup) (ha : DE X W a fa) (hi : X.N[i]? = some x := by rfl) (hx : Loc X.env.scope x := by first | exact Or.inl rfl | exact Or.inr rfl) (hs : swapsWith a (some (.Name x pos')) pos.line X.env = pure false := by rfl)
    (hf : X.fn x = true ∨ X.env.scope.names.lookup x = some .local := by first | exact .inl rfl | exact .inr rfl | assumption) :
    DS X W (.Assign [.Name x pos'] a pos) (fun s => (fa s).thn fun d s => .next (s.put i (.val d))) :=
  ps_imp (ps_set hN hi hx ha hs hf) fun D σ H ⟨va, s, HP, rl, h⟩ => bindES rl h fun d s1 v H1 HP1 st1 d1 h1 => h1 _ H1 HP1 (st1.rel.put i d1)
/-- x = [a, b, ..], a list that is to be changed -/
theorem ds_own (i : Nat) {x : Str} {pos' : Pos} (hN : X.N.Nodup) (ha : DA X W es ga) (hi : X.N[i]? = some x := by rfl) (hx : Loc X.env.scope x := by first | exact Or.inl rfl | exact Or.inr rfl) (hs : swapsWith (.List es pos) (some (.Name x pos')) pos.line X.env = pure false := by rfl)
    (hf : X.fn x = true ∨ X.env.scope.names.lookup x = some .local := by first | exact .inl rfl | exact .inr rfl | assumption) {p0 : Pos} (hs' : swapsWith (.List es p0) (some (.Name x pos')) pos.line X.env = pure false := by rfl) :
    DS X W (.Assign [.Name x pos'] (.List es p0) pos) (fun s => (ga s).thn fun ds s => if ds.length ≤ sizeLine then .next (s.put i (.own ds)) else .stuck) := by
  refine ps_imp (ps_set hN hi hx (pe_lst ha) hs' hf) fun D σ H ⟨va, s, HP, rl, h⟩ => ?_
  refine bindA rl (fun ds s1 vs H1 HP1 e st1 d1 => ?_) (fun n p s' dd H' HP' C e stp z m => ?_) (fun e => ?_) <;> simp only [e, R.thn_ok, R.thn_exc, R.thn_stuck] at h
  · split at h
    · rename_i hz
      exact ⟨by rw [d1.length]; exact hz, fun p hp => h _ _ HP1 (st1.trans (st1.rel.putOwn i hp hz d1))⟩
    · exact h.elim
  · exact h dd σ H' HP' C stp z m
  · exact h
/-! ## targets -/
def tDG (X : Cx) (g : D → S → Option S) : TG := fun v σ H Q => ∃ va s HP d s', Rel X.K va s σ HP H ∧ Dv X.K HP v d ∧ g d s = some s' ∧ ∀ σ', Stp X.K va s σ HP H s' σ' HP H → Q σ' H
def DG (X : Cx) (tg : Expr) (g : D → S → Option S) : Prop := PG X tg (tDG X g)
def tDGs (X : Cx) (g : List D → S → Option S) : TGs := fun vs σ H Q => ∃ va s HP ds s', Rel X.K va s σ HP H ∧ DvA X.K HP vs ds ∧ g ds s = some s' ∧ ∀ σ', Stp X.K va s σ HP H s' σ' HP H → Q σ' H
def DGs (X : Cx) (ts : List Expr) (g : List D → S → Option S) : Prop := PGs X ts (tDGs X g)
theorem pg_imp {tg : Expr} {t t' : TG} (h : PG X tg t) (i : ∀ v σ H Q, t' v σ H Q → t v σ H Q) : PG X tg t' := ⟨fun pins s σ H v u Q I r w => h.run pins s σ H v u Q I r (i v σ H Q w)⟩
theorem pgs_imp {ts : List Expr} {t t' : TGs} (h : PGs X ts t) (i : ∀ v σ H Q, t' v σ H Q → t v σ H Q) : PGs X ts t' := ⟨fun pins s σ H v u Q I r w => h.run pins s σ H v u Q I r (i v σ H Q w)⟩
theorem dg_v (i : Nat) {x : Str} (hN : X.N.Nodup) (hi : X.N[i]? = some x := by rfl) (hx : Loc X.env.scope x := by first | exact Or.inl rfl | exact Or.inr rfl)
    (hf : X.fn x = true ∨ X.env.scope.names.lookup x = some .local := by first | exact .inl rfl | exact .inr rfl | assumption) : DG X (.Name x pos) (fun d s => some (s.put i (.val d))) := by
  refine pg_imp (pg_name hN hi hx hf) fun v σ H Q ⟨va, s, HP, d, s', rl, dv, e, k⟩ => ?_
  cases e
  exact k _ (rl.put i dv)
theorem dgs_nil : DGs X [] (fun ds s => match ds with | [] => some s | _ => none) := by
  refine pgs_imp pgs_nil fun v σ H Q ⟨va, s, HP, d, s', rl, dv, e, k⟩ => ?_
  cases d with
  | nil => cases dv; cases e; exact ⟨rfl, k σ (Stp.refl rl)⟩
  | cons _ _ => cases e
theorem dgs_cons {g : D → S → Option S} {gs : List D → S → Option S} (h1 : DG X e g) (h2 : DGs X es gs) (hs : (assignEach (e :: es) X.env).map (·.2) = assign e X.env :: (assignEach es X.env).map (·.2) := by rfl) :
    DGs X (e :: es) (fun ds s => match ds with | d :: r => (g d s).bind (gs r) | _ => none) := by
  refine pgs_imp (pgs_cons h1 h2 hs) fun v σ H Q ⟨va, s, HP, ds, s', rl, dv, eq, k⟩ => ?_
  cases ds with
  | nil => cases eq
  | cons d r =>
    cases dv with
    | @cons v vs _ _ h1 h2 =>
      refine ⟨v, vs, rfl, ?_⟩
      have eq' : (g d s).bind (gs r) = some s' := eq
      cases q : g d s with
      | none => rw [q] at eq'; cases eq'
      | some s1 =>
        rw [q] at eq'
        exact ⟨va, s, HP, d, s1, rl, h1, q, fun σ1 st1 => ⟨va, s1, HP, r, s', st1.rel, h2, eq', fun σ2 st2 => k σ2 (st1.trans st2)⟩⟩
def unT (n : Nat) (g : List D → S → Option S) (d : D) (s : S) : Option S := match d with
  | .tup ds => if ds.length = n then g ds s else none
  | _ => none
theorem dg_tup {k n : Nat} {gs : List D → S → Option S} (hc : X.calm = true) (h : DGs X es gs) (hn : (assignEach es X.env).length = n := by rfl) (hst : (assignEach es X.env).findIdx? (·.1) = none := by rfl) : DG X (.Tuple es k pos) (unT n gs) := by
  refine pg_imp (pg_tup hc h hn hst) fun v σ H Q ⟨va, s, HP, d, s', rl, dv, eq, k⟩ => ?_
  unfold unT at eq
  split at eq
  · split at eq
    · cases dv with
      | @tup a vs ds h1 hz h2 => exact ⟨a, vs, rfl, SqT.of (rl.sub _ _ h1), by rw [h2.length]; assumption, va, s, HP, _, s', rl, h2, eq, k⟩
    · cases eq
  · cases eq
def asg (o : Option S) : T := match o with
  | some s => .next s
  | none => .stuck
@[simp] theorem asg_some (s : S) : asg (some s) = .next s := rfl
/-- target = e -/
theorem ds_asg {tg : Expr} {g : D → S → Option S} (ha : DE X W a fa) (hg : DG X tg g) (hs : swapsWithSole [tg] a pos.line X.env = pure false := by rfl) (hw : swappedStores [tg] a X.env = pure none := by rfl)
    (h1 : (assignEach [tg] X.env).map (·.2) = [assign tg X.env] := by rfl) : DS X W (.Assign [tg] a pos) (fun s => (fa s).thn fun d s => asg (g d s)) := by
  refine ps_imp (ps_asg ha hg hs hw h1) fun D σ H ⟨va, s, HP, rl, h⟩ => bindES rl h fun d s1 v H1 HP1 st1 d1 h1 => ?_
  cases q : g d s1 with
  | none => rw [q] at h1; exact h1.elim
  | some s2 => rw [q] at h1; exact ⟨va, s1, HP1, d, s2, st1.rel, d1, q, fun σ' stp => h1 σ' H1 HP1 stp⟩
/-- a, b = e1, e2; a, b, c = .. -/
theorem ds_par (i j : Nat) {x y : Str} {px py pt : Pos} {kt k2 pt2} (hc : X.calm = true) (hN : X.N.Nodup) (ha : DA X W [a, b] ga) (hi : X.N[i]? = some x := by rfl) (hj : X.N[j]? = some y := by rfl) (hij : i ≠ j := by decide)
    (hx : X.env.scope.names.lookup x = some .local := by rfl) (hy : X.env.scope.names.lookup y = some .local := by rfl)
    (hw : swappedStores [.Tuple [.Name x px, .Name y py] kt pt] (.Tuple [a, b] k2 pt2) X.env = pure (some [x, y]) := by rfl)
    (hs : swapsWithSole [.Tuple [.Name x px, .Name y py] kt pt] (.Tuple [a, b] k2 pt2) pos.line X.env = pure false := by rfl) :
    DS X W (.Assign [.Tuple [.Name x px, .Name y py] kt pt] (.Tuple [a, b] k2 pt2) pos) (fun s => (ga s).thn fun ds s => match ds with | [d, e] => .next ((s.put i (.val d)).put j (.val e)) | _ => .stuck) := by
  refine ps_imp (ps_par hc hN hi hj hij hx hy ha hw hs) fun D σ H ⟨va, s, HP, rl, h⟩ => ?_
  refine bindA rl (fun ds s1 vs H1 HP1 e st1 d1 => ?_) (fun n p s' dd H' HP' C e stp z m => ?_) (fun e => ?_) <;> simp only [e, R.thn_ok, R.thn_exc, R.thn_stuck] at h
  · split at h
    · cases d1 with
      | @cons v _ _ _ h1 h2 =>
        cases h2 with
        | @cons w _ _ _ h3 h4 =>
          cases h4
          have r1 := st1.rel.put i h1
          exact ⟨v, w, rfl, h _ _ HP1 (st1.trans (r1.trans (r1.rel.put j h3)))⟩
    · exact h.elim
  · exact h dd σ H' HP' C stp z m
  · exact h
theorem ds_par3 (i j l : Nat) {x y z : Str} {px py pz pt : Pos} {kt k2 pt2} (hc : X.calm = true) (hN : X.N.Nodup) (ha : DA X W [a, b, c] ga) (hi : X.N[i]? = some x := by rfl) (hj : X.N[j]? = some y := by rfl) (hl : X.N[l]? = some z := by rfl)
    (hij : i ≠ j := by decide) (hil : i ≠ l := by decide) (hjl : j ≠ l := by decide)
    (hx : X.env.scope.names.lookup x = some .local := by rfl) (hy : X.env.scope.names.lookup y = some .local := by rfl) (hz : X.env.scope.names.lookup z = some .local := by rfl)
    (hw : swappedStores [.Tuple [.Name x px, .Name y py, .Name z pz] kt pt] (.Tuple [a, b, c] k2 pt2) X.env = pure (some [x, y, z]) := by rfl)
    (hs : swapsWithSole [.Tuple [.Name x px, .Name y py, .Name z pz] kt pt] (.Tuple [a, b, c] k2 pt2) pos.line X.env = pure false := by rfl) :
    DS X W (.Assign [.Tuple [.Name x px, .Name y py, .Name z pz] kt pt] (.Tuple [a, b, c] k2 pt2) pos) (fun s => (ga s).thn fun ds s => match ds with | [d, e, f] => .next (((s.put i (.val d)).put j (.val e)).put l (.val f)) | _ => .stuck) := by
  refine ps_imp (ps_par3 hc hN hi hj hl hij hil hjl hx hy hz ha hw hs) fun D σ H ⟨va, s, HP, rl, h⟩ => ?_
  refine bindA rl (fun ds s1 vs H1 HP1 e st1 d1 => ?_) (fun n p s' dd H' HP' C e stp z m => ?_) (fun e => ?_) <;> simp only [e, R.thn_ok, R.thn_exc, R.thn_stuck] at h
  · split at h
    · cases d1 with
      | @cons v _ _ _ h1 h2 =>
        cases h2 with
        | @cons w _ _ _ h3 h4 =>
          cases h4 with
          | @cons u _ _ _ h5 h6 =>
            cases h6
            have r1 := st1.rel.put i h1
            have r2 := r1.trans (r1.rel.put j h3)
            exact ⟨v, w, u, rfl, h _ _ HP1 (st1.trans (r2.trans (r2.rel.put l h5)))⟩
    · exact h.elim
  · exact h dd σ H' HP' C stp z m
  · exact h
end
end DL

namespace DL
open PySem PySem.Spec PyProof.Rows L2
/-! ## what is walked -/
def Walks (K : PySem.W.Frag) (J : It) (ds : List D) (HP0 : Hp) : Prop := ∀ (i : Nat) (HP H : Hp), Same HP0 HP → Same HP H →
  (∀ d, ds[i]? = some d → J.go i H ∧ ∀ x H', J.yld i H x H' → ∃ HP', Dv K HP' x d ∧ ∀ va s σ, Rel K va s σ HP H → Stp K va s σ HP H s σ HP' H') ∧ (ds.length ≤ i → J.stop i H)
theorem Walks.mono {K : PySem.W.Frag} {J : It} {ds : List D} {HP0 HP1 : Hp} (w : Walks K J ds HP0) (e : Same HP0 HP1) : Walks K J ds HP1 := fun i HP H a b => w i HP H (e.trans a) b
def PoI (X : Cx) (W : WX) (va : VA) (s : S) (σ : St) (HP H : Hp) (r : R (List D)) (Q : It → Hp → Prop) : Prop := match r with
  | .ok ds s' => ∀ J H' HP', Stp X.K va s σ HP H s' σ HP' H' → ds.length ≤ sizeLine → Walks X.K J ds HP' → Q J H'
  | .exc n p s' => ∀ dd H' HP' C, Stp X.K va s σ HP H s' σ HP' H' → ExcAt p dd H' → X.mg n = some (.ref C) → W (.ref C) dd σ H'
  | .stuck => False
def tDI (X : Cx) (W : WX) (f : S → R (List D)) : TI := fun σ H Q => ∃ va s HP, Rel X.K va s σ HP H ∧ PoI X W va s σ HP H (f s) Q
def DI (X : Cx) (W : WX) (tg e : Expr) (f : S → R (List D)) : Prop := PI X tg e (tDI X W f)
theorem walks_list {K : PySem.W.Frag} {HP0 : Hp} {a : Addr} {vs : List V} {ds : List D} (h : HP0 a = some (.lst vs)) (dv : DvA K HP0 vs ds) : Walks K (Itl K a) ds HP0 := fun i HP H e1 e2 => by
  have q : SqL K H a vs := SqL.of (e2 _ _ (e1 _ _ h))
  refine ⟨fun d hd => ?_, fun hi => ⟨vs, q, by rw [dv.length]; exact hi⟩⟩
  obtain ⟨v, h1, h2⟩ := dv.getD hd
  refine ⟨⟨vs, v, q, h1⟩, fun x H' ⟨y1, y2⟩ => ?_⟩
  subst y1
  have := y2 vs q
  rw [h1] at this
  cases this
  exact ⟨HP, Dv.mono e1 d v h2, fun va s σ r => Stp.refl r⟩
theorem walks_tup {K : PySem.W.Frag} {HP0 : Hp} {a : Addr} {vs : List V} {ds : List D} (h : HP0 a = some (.tup vs)) (dv : DvA K HP0 vs ds) : Walks K (Itt K a) ds HP0 := fun i HP H e1 e2 => by
  have q : SqT K H a vs := SqT.of (e2 _ _ (e1 _ _ h))
  refine ⟨fun d hd => ?_, fun hi => ⟨vs, q, by rw [dv.length]; exact hi⟩⟩
  obtain ⟨v, h1, h2⟩ := dv.getD hd
  refine ⟨⟨vs, v, q, h1⟩, fun x H' ⟨y1, y2⟩ => ?_⟩
  subst y1
  have := y2 vs q
  rw [h1] at this
  cases this
  exact ⟨HP, Dv.mono e1 d v h2, fun va s σ r => Stp.refl r⟩
def rngI (lo hi : Int) : List D := (List.range (hi - lo).toNat).map fun k => .int (lo + ((k : Nat) : Int))
@[simp] theorem rngI_len (lo hi : Int) : (rngI lo hi).length = (hi - lo).toNat := by simp [rngI]
theorem walks_range {K : PySem.W.Frag} {HP0 : Hp} {lo hi : Int} : Walks K (Itr lo (hi - lo).toNat) (rngI lo hi) HP0 := fun i HP H e1 e2 => by
  refine ⟨fun d hd => ?_, fun h => by rw [rngI_len] at h; exact h⟩
  have hlt : i < (hi - lo).toNat := by
    rcases Nat.lt_or_ge i (hi - lo).toNat with z | z
    · exact z
    · rw [List.getElem?_eq_none_iff.mpr (by rw [rngI_len]; exact z)] at hd; cases hd
  have hd' : (.int (lo + ((i : Nat) : Int)) : D) = d := by
    unfold rngI at hd
    rw [List.getElem?_map, List.getElem?_range hlt] at hd
    simpa using hd
  refine ⟨hlt, fun x H' ⟨y1, y2⟩ => ?_⟩
  subst y1 y2 hd'
  exact ⟨HP, .int _, fun va s σ r => Stp.refl r⟩
def asSeq (d : D) (s : S) : R (List D) := match d with
  | .lst ds => .ok ds s
  | .tup ds => .ok ds s
  | _ => .stuck
@[simp] theorem asSeq_lst (ds : List D) (s : S) : asSeq (.lst ds) s = .ok ds s := rfl
@[simp] theorem asSeq_tup (ds : List D) (s : S) : asSeq (.tup ds) s = .ok ds s := rfl
section
variable {X : Cx} {W : WX} {a b c e tg : Expr} {es : List Expr} {fa fb fc : S → R D} {ga : S → R (List D)} {ta tb tc : S → R Bool} {pos p : Pos} {st : Stmt} {sts sts' : List Stmt} {f f' : S → T}
theorem di_seq (ha : DE X W a fa) : DI X W tg a (fun s => (fa s).bind asSeq) := by
  refine ⟨fun pins s σ H Q I h => ?_⟩
  obtain ⟨va, st, HP, rl, h⟩ := h
  dsimp only at h
  have hx : (∃ n p s', fa st = .exc n p s') ∨ (∃ ds s', fa st = .ok (.lst ds) s') ∨ ∃ ds s', fa st = .ok (.tup ds) s' := by
    cases e : fa st with
    | stuck => rw [e] at h; exact h.elim
    | exc n p s' => exact .inl ⟨n, p, s', rfl⟩
    | ok d s' =>
      rw [e] at h
      cases d <;> first | exact h.elim | exact .inr (.inl ⟨_, _, rfl⟩) | exact .inr (.inr ⟨_, _, rfl⟩)
  have hl : ((∃ n p s', fa st = .exc n p s') ∨ ∃ ds s', fa st = .ok (.lst ds) s') → wpAny (model X.prog X.w) X.A (eval a X.env) (fun v s1 => wpAny (model X.prog X.w) X.A (pyIter v) (PIE X pins σ tg Q) X.xe s1) X.xe s := fun hq => by
    refine (pi_list (tg := tg) ha).run pins s σ H Q I (bindE rl (fun d s' v H' HP' e stp dv => ?_) (fun n p s' dd H' HP' C e stp z m => ?_) (fun e => ?_))
    · rcases hq with ⟨_, _, _, q⟩ | ⟨ds, s'', q⟩ <;> rw [q] at e <;> cases e
      rw [q] at h
      cases dv with
      | @lst b vs _ h1 hz h2 => exact ⟨b, rfl, ⟨vs, SqL.of (stp.rel.sub _ _ h1)⟩, h (Itl X.K b) H' HP' stp hz (walks_list h1 h2)⟩
    · rw [e] at h; exact h dd H' HP' C stp z m
    · rw [e] at h; exact h
  rcases hx with hx | hx | ⟨ds, s'', q⟩
  · exact hl (.inl hx)
  · exact hl (.inr hx)
  · refine (pi_tup (tg := tg) ha).run pins s σ H Q I (bindE rl (fun d s' v H' HP' e stp dv => ?_) (fun n p s' dd H' HP' C e stp z m => ?_) (fun e => ?_))
    · rw [q] at e
      cases e
      rw [q] at h
      cases dv with
      | @tup b vs _ h1 hz h2 => exact ⟨b, rfl, ⟨vs, SqT.of (stp.rel.sub _ _ h1)⟩, h (Itt X.K b) H' HP' stp hz (walks_tup h1 h2)⟩
    · rw [q] at e; cases e
    · rw [q] at e; cases e
def toR1 (ds : List D) (s : S) : R (List D) := match ds with
  | [.int j] => if -(2 ^ 62) ≤ j ∧ j ≤ 16000000 then .ok (rngI 0 j) s else .stuck
  | _ => .stuck
def toR2 (ds : List D) (s : S) : R (List D) := match ds with
  | [.int i, .int j] => if -(2 ^ 62) ≤ i ∧ i < 2 ^ 62 ∧ -(2 ^ 62) ≤ j ∧ j < 2 ^ 62 ∧ j - i ≤ 16000000 then .ok (rngI i j) s else .stuck
  | _ => .stuck
theorem di_range1 (hg : Gl X "range") (hm : X.mg "range" = none) (ha : DA X W [a] ga) (hs : starEach [a] X.env = [(false, eval a X.env)] := by rfl) : DI X W tg (.Call (.Name "range" p) [a] [] pos) (fun s => (ga s).bind toR1) := by
  refine ⟨fun pins s σ H Q I h => ?_⟩
  obtain ⟨va, st, HP, rl, h⟩ := h
  dsimp only at h
  refine (pi_range1 hg hm ha hs).run pins s σ H Q I (bindA rl (fun ds s1 vs H1 HP1 e st1 d1 => ?_) (fun n p s' dd H' HP' C e stp z m => ?_) (fun e => ?_)) <;> simp only [e, R.bind_ok, R.bind_exc, R.bind_stuck] at h
  · unfold toR1 at h
    split at h
    · split at h
      · rename_i j hz
        cases d1 with
        | cons h1 h2 =>
          cases h1
          cases h2
          refine ⟨j, rfl, hz.1, by have := hz.2; omega, ?_⟩
          have hw := walks_range (K := X.K) (HP0 := HP1) (lo := 0) (hi := j)
          rw [Int.sub_zero] at hw
          exact h _ H1 HP1 st1 (by rw [rngI_len, sizeLine_eq]; have := hz.2; omega) hw
      · exact h.elim
    · exact h.elim
  · exact h dd H' HP' C stp z m
  · exact h
theorem di_range2 (hg : Gl X "range") (hm : X.mg "range" = none) (ha : DA X W [a, b] ga) (hs : starEach [a, b] X.env = [(false, eval a X.env), (false, eval b X.env)] := by rfl) (hs2 : starEach [b] X.env = [(false, eval b X.env)] := by rfl) :
    DI X W tg (.Call (.Name "range" p) [a, b] [] pos) (fun s => (ga s).bind toR2) := by
  refine ⟨fun pins s σ H Q I h => ?_⟩
  obtain ⟨va, st, HP, rl, h⟩ := h
  dsimp only at h
  refine (pi_range2 hg hm ha hs hs2).run pins s σ H Q I (bindA rl (fun ds s1 vs H1 HP1 e st1 d1 => ?_) (fun n p s' dd H' HP' C e stp z m => ?_) (fun e => ?_)) <;> simp only [e, R.bind_ok, R.bind_exc, R.bind_stuck] at h
  · unfold toR2 at h
    split at h
    · split at h
      · rename_i i j hz
        obtain ⟨z1, z2, z3, z4, z5⟩ := hz
        cases d1 with
        | cons h1 h2 =>
          cases h1
          cases h2 with
          | cons h3 h4 =>
            cases h3
            cases h4
            exact ⟨i, j, rfl, ⟨z1, z2, z3, z4⟩, h _ H1 HP1 st1 (by rw [rngI_len, sizeLine_eq]; omega) walks_range⟩
      · exact h.elim
    · exact h.elim
  · exact h dd H' HP' C stp z m
  · exact h
/-! ## for -/
def forL (g : D → S → Option S) (body : S → T) : List D → S → T
  | [], s => .next s
  | d :: ds, s => match g d s with
    | none => .stuck
    | some s1 => match body s1 with
      | .next s2 => forL g body ds s2
      | .cnt s2 => forL g body ds s2
      | .brk s2 => .next s2
      | r => r
theorem ds_for {g : D → S → Option S} {fi : S → R (List D)} (hp : PassesOwn (model X.prog X.w) X.A X.env X.xe) (hc : X.calm = true) (hi : DI X W tg e fi) (hg : DG X tg g) (hb : DSs X W sts f) (hs : ∀ x, foldedSetIterable e X.env x = pure x := by intro _; rfl) :
    DS X W (.For tg e sts [] pos) (fun s => (fi s).thn fun ds s => forL g f ds s) := by
  refine ps_imp (ps_for hp hc hi hg hb hs) fun D σ H h => ?_
  obtain ⟨va, s, HP, rl, h⟩ := h
  dsimp only at h
  refine ⟨va, s, HP, rl, ?_⟩
  cases ei : fi s with
  | stuck => rw [ei] at h; exact h
  | exc n p s' => rw [ei] at h; exact fun dd H' HP' C stp z m => h dd σ H' HP' C stp z m
  | ok ds s1 =>
    rw [ei] at h
    intro J H1 HP1 st1 hz hw
    have h1 : PoS X W va s1 σ HP1 H1 (forL g f ds s1) D := PoS.from st1 h
    refine ⟨fun i m σ H => ∃ s HP, m = ds.length - i ∧ i ≤ ds.length ∧ Rel X.K va s σ HP H ∧ Same HP1 HP ∧ PoS X W va s σ HP H (forL g f (ds.drop i) s) D, ⟨ds.length, s1, HP1, by simp, Nat.zero_le _, st1.rel, Same.refl _, h1⟩, ?_⟩
    rintro i m σ2 H2 ⟨s2, HP2, rfl, hle, r2, sm, p2⟩
    obtain ⟨w1, w2⟩ := hw i HP2 H2 sm r2.sub
    by_cases hlt : i < ds.length
    · have hd : ds[i]? = some ds[i] := List.getElem?_eq_getElem hlt
      obtain ⟨hgo, hy⟩ := w1 _ hd
      rw [List.drop_eq_getElem_cons hlt] at p2
      unfold forL at p2
      refine .inr ⟨hgo, fun σ' H' => ∃ s HP, Rel X.K va s σ' HP H' ∧ Same HP1 HP ∧ PoS X W va s σ' HP H' (forL g f (ds.drop (i + 1)) s) D, fun σ' H' ⟨s', HP', q1, q2, q3⟩ => ⟨ds.length - (i + 1), by omega, s', HP', rfl, hlt, q1, q2, q3⟩, fun x H' y => ?_⟩
      obtain ⟨HP', dv, stp⟩ := hy x H' y
      have st3 := stp va s2 σ2 r2
      cases eg : g ds[i] s2 with
      | none => rw [eg] at p2; exact p2.elim
      | some s4 =>
        rw [eg] at p2
        dsimp only at p2
        refine ⟨va, s2, HP', _, s4, st3.rel, dv, eg, fun σ4 st4 => ?_⟩
        refine ⟨va, s4, HP', st4.rel, ?_⟩
        have p4 := PoS.from (st3.trans st4) p2
        cases eb : f s4 with
        | stuck => rw [eb] at p4; exact p4
        | next s5 => rw [eb] at p4; exact fun σ' H'' HP'' st5 => ⟨s5, HP'', st5.rel, (sm.trans st3.same).trans st5.same, PoS.from st5 p4⟩
        | cnt s5 => rw [eb] at p4; exact fun σ' H'' HP'' st5 => ⟨s5, HP'', st5.rel, (sm.trans st3.same).trans st5.same, PoS.from st5 p4⟩
        | brk s5 => rw [eb] at p4; exact p4
        | ret d s5 => rw [eb] at p4; exact p4
        | retO d s5 => rw [eb] at p4; exact p4
        | exc n p s5 => rw [eb] at p4; exact p4
    · have e : ds.drop i = [] := List.drop_eq_nil_of_le (by omega)
      rw [e] at p2
      exact .inl ⟨w2 (by omega), p2 σ2 H2 HP2 (Stp.refl r2)⟩
/-! ## while: at most so many turns -/
def whl (t : S → R Bool) (body : S → T) : Nat → S → T
  | 0, _ => .stuck
  | n + 1, s => (t s).thn fun k s => if k = true then (match body s with
      | .next s2 => whl t body n s2
      | .cnt s2 => whl t body n s2
      | .brk s2 => .next s2
      | r => r) else .next s
theorem ds_while (n : Nat) (hp : PassesOwn (model X.prog X.w) X.A X.env X.xe) (hc : DT X W c tc) (hb : DSs X W sts f) : DS X W (.While c sts [] pos) (fun s => whl tc f n s) := by
  refine ps_imp (ps_while hp hc hb) fun D σ H h => ?_
  obtain ⟨va, s, HP, rl, h⟩ := h
  refine ⟨fun m σ H => ∃ s HP, Rel X.K va s σ HP H ∧ PoS X W va s σ HP H (whl tc f m s) D, ⟨n, s, HP, rl, h⟩, ?_⟩
  rintro m σ H ⟨s, HP, r, p⟩
  cases m with
  | zero => exact p.elim
  | succ m =>
    unfold whl at p
    refine bindTS r p fun k s1 H1 HP1 st1 p1 => ?_
    cases k with
    | false => rw [if_neg Bool.false_ne_true] at p1 ⊢; exact p1 σ H1 HP1 (Stp.refl st1.rel)
    | true =>
      rw [if_pos rfl] at p1 ⊢
      refine ⟨fun σ' H' => ∃ s HP, Rel X.K va s σ' HP H' ∧ PoS X W va s σ' HP H' (whl tc f m s) D, fun σ' H' ⟨s', HP', q1, q2⟩ => ⟨m, Nat.lt_succ_self m, s', HP', q1, q2⟩, va, s1, HP1, st1.rel, ?_⟩
      cases eb : f s1 with
      | stuck => rw [eb] at p1; exact p1
      | next s5 => rw [eb] at p1; exact fun σ' H'' HP'' st5 => ⟨s5, HP'', st5.rel, PoS.from st5 p1⟩
      | cnt s5 => rw [eb] at p1; exact fun σ' H'' HP'' st5 => ⟨s5, HP'', st5.rel, PoS.from st5 p1⟩
      | brk s5 => rw [eb] at p1; exact p1
      | ret d s5 => rw [eb] at p1; exact p1
      | retO d s5 => rw [eb] at p1; exact p1
      | exc n p s5 => rw [eb] at p1; exact p1
/-! ## lists that are changed -/
/-- x.append(e), x an own list -/
def apnd (i : Nat) (d : D) (s : S) : T := match s.sl[i]? with
  | some (some (.own xs)) => if xs.length < sizeLine then .next (s.put i (.own (xs ++ [d]))) else .stuck
  | _ => .stuck
def isOwn (i : Nat) (s : S) : Bool := match s.sl[i]? with
  | some (some (.own _)) => true
  | _ => false
theorem ds_append (i : Nat) {x : Str} {p2 ap cp : Pos} (ha : DE X W a fa) (hN : X.N[i]? = some x := by rfl) (hv : Vis X.env.scope x := by first | exact Or.inl rfl | exact Or.inr (Or.inl rfl) | exact Or.inr (Or.inr rfl))
    (hd : (x == ("__debug__" : Str)) = false := by decide) (hcd : (x == ("__classdict__" : Str)) = false := by decide)
    (hb : attributeBase (.Name x p2) "append" X.env (eval (.Name x p2) X.env) = eval (.Name x p2) X.env := by rfl) (hline : (ap.endLine == cp.line) = true := by rfl)
    (he : starEach (a :: []) X.env = (false, eval a X.env) :: starEach [] X.env := by rfl)
    (hfew : ((backTo cp (starEach (a :: []) X.env)).all (fun x => !x.1) && (backToKw cp (keywordEach [] X.env)).all (fun x => x.1.isSome) && decide ((a :: []).length + ([] : List Keyword).length + (if ([] : List Keyword).isEmpty then 0 else 1) < 30)) = true := by rfl)
    (hs : swapsWith (.Call (.Attribute (.Name x p2) "append" ap) [a] [] cp) none pos.line X.env = pure false := by rfl) :
    DS X W (.Expr (.Call (.Attribute (.Name x p2) "append" ap) [a] [] cp) pos) (fun s => if isOwn i s = true then (fa s).thn fun d s => apnd i d s else .stuck) := by
  refine ps_imp (ps_expr (pe_bm PySem.F.plainAttrs_list PySem.F.slot_list_append PySem.F.type_list_append mt_append (pv i hN hv hd hcd) (pa_cons ha pa_nil he) hb hfew hline he rfl) hs) fun D σ H h => ?_
  obtain ⟨va, s, HP, rl, h⟩ := h
  dsimp only at h
  split at h
  · rename_i ho
    unfold isOwn at ho
    split at ho
    · rename_i xs q
      obtain ⟨b, vs, h1, h2, h3, hz, h4⟩ := rl.own i xs q
      refine ⟨_, h1, .inl ⟨rfl, vs, SqL.of h3⟩, ?_⟩
      refine bindES rl h fun d s1 v H1 HP1 st1 d1 p1 => ?_
      unfold apnd at p1
      split at p1
      · rename_i ys q1
        split at p1
        · rename_i hl
          obtain ⟨b', ws, y1, y2, y3, yz, y4⟩ := st1.rel.own i ys q1
          rw [h1] at y1
          injection y1 with y1; injection y1 with y1; injection y1 with y1
          subst y1
          refine ⟨b, ws, v, rfl, rfl, y3, by rw [y4.length]; exact hl, ?_⟩
          exact p1 σ _ HP1 (st1.rel.chg q1 h1 (by rw [List.length_append, List.length_singleton]; exact hl) (y4.append (.cons d1 .nil)))
        · exact p1.elim
      · exact p1.elim
    · cases ho
  · exact h.elim
/-- x[e], x the lent list or an own one, read as it stands -/
def refS (i : Nat) (s : S) : Option (List D) := match s.sl[i]? with
  | some (some .via) => s.via
  | some (some (.own xs)) => some xs
  | _ => none
theorem Rel.refS {K : PySem.W.Frag} {va : VA} {s : S} {σ : St} {HP H : Hp} (r : Rel K va s σ HP H) {i : Nat} {xs : List D} (e : refS i s = some xs) : ∃ a vs, σ[i]? = some (some (.ref a)) ∧ H a = some (.lst vs) ∧ xs.length ≤ sizeLine ∧ DvA K HP vs xs := by
  unfold DL.refS at e
  split at e
  · rename_i q
    obtain ⟨h1, vs, h2, h3, h4⟩ := r.vst xs e
    exact ⟨va.a, vs, (r.vis i q).1, h2, h3, h4⟩
  · rename_i ys q
    cases e
    obtain ⟨a, vs, h1, h2, h3, h4, h5⟩ := r.own i xs q
    exact ⟨a, vs, h1, h3, h4, h5⟩
  · cases e
def ixR (i : Nat) (y : D) (s : S) : R D := match refS i s with
  | some xs => lift (opIx (.lst xs) y) s
  | none => .stuck
theorem de_ixr (i : Nat) {x : Str} {p2 : Pos} (hb : DE X W b fb) (hN : X.N[i]? = some x := by rfl) (hv : Vis X.env.scope x := by first | exact Or.inl rfl | exact Or.inr (Or.inl rfl) | exact Or.inr (Or.inr rfl))
    (hd : (x == ("__debug__" : Str)) = false := by decide) (hcd : (x == ("__classdict__" : Str)) = false := by decide) (hs : PlainIx b := by exact fun _ _ => rfl) :
    DE X W (.Subscript (.Name x p2) b pos) (fun s => if (refS i s).isSome = true then (fb s).bind fun y s => ixR i y s else .stuck) := by
  refine pe_imp (pe_ix ix_list (pv i hN hv hd hcd) hb hs) fun σ H Q h => ?_
  obtain ⟨va, s, HP, rl, h⟩ := h
  dsimp only at h
  split at h
  · rename_i ho
    obtain ⟨xs, q⟩ := Option.isSome_iff_exists.mp ho
    obtain ⟨c, vs, h1, h2, h3, h4⟩ := rl.refS q
    refine ⟨_, h1, ?_⟩
    refine bindEE rl h fun y s1 v H1 HP1 st1 d1 p1 => ?_
    unfold ixR at p1
    split at p1
    · rename_i ys q1
      obtain ⟨c', ws, y1, y2, y3, y4⟩ := st1.rel.refS q1
      rw [h1] at y1
      injection y1 with y1; injection y1 with y1; injection y1 with y1
      subst y1
      cases d1 <;> try exact p1.elim
      rename_i k
      cases z : L2.atI ys k with
      | none => simp only [opIx, z] at p1; exact p1.elim
      | some d =>
        simp only [opIx, z] at p1
        obtain ⟨w, z1, z2⟩ := y4.atI z
        exact ⟨c, ws, k, w, rfl, rfl, SqL.of y2, z1, p1.fin st1.rel z2⟩
    · exact p1.elim
  · exact h.elim
/-- x[e] = a, x the lent list or an own one -/
def setR (i : Nat) (y d : D) (s : S) : T := match y with
  | .int k => match s.sl[i]? with
    | some (some .via) => match s.via with
      | some xs => match ixN xs.length k with
        | some j => .next ⟨s.sl, some (xs.set j d)⟩
        | none => .stuck
      | none => .stuck
    | some (some (.own xs)) => match ixN xs.length k with
      | some j => .next (s.put i (.own (xs.set j d)))
      | none => .stuck
    | _ => .stuck
  | _ => .stuck
theorem ds_setr (i : Nat) {x : Str} {p2 p3 : Pos} (ha : DE X W a fa) (hb : DE X W b fb) (hN : X.N[i]? = some x := by rfl) (hv : Vis X.env.scope x := by first | exact Or.inl rfl | exact Or.inr (Or.inl rfl) | exact Or.inr (Or.inr rfl))
    (hd : (x == ("__debug__" : Str)) = false := by decide) (hcd : (x == ("__classdict__" : Str)) = false := by decide)
    (hsa : ∀ v, assign (.Subscript (.Name x p2) b p3) X.env v = (do
      let ov ← holding [v] (eval (.Name x p2) X.env)
      let iv ← holding [v, ov] (eval b X.env)
      standAt p3
      holding [v, ov, iv] (setItem ov iv v)
      release [v, ov, iv] []) := by intro _; rfl)
    (hs : swapsWithSole [.Subscript (.Name x p2) b p3] a pos.line X.env = pure false := by rfl) (hw : swappedStores [.Subscript (.Name x p2) b p3] a X.env = pure none := by rfl)
    (h1 : (assignEach [.Subscript (.Name x p2) b p3] X.env).map (·.2) = [assign (.Subscript (.Name x p2) b p3) X.env] := by rfl) :
    DS X W (.Assign [.Subscript (.Name x p2) b p3] a pos) (fun s => (fa s).thn fun d s => if (refS i s).isSome = true then (fb s).thn fun y s => setR i y d s else .stuck) := by
  refine ps_imp (ps_asg ha (pg_sub (pv i hN hv hd hcd) hb set_list hsa) hs hw h1) fun D σ H h => ?_
  obtain ⟨va, s, HP, rl, h⟩ := h
  refine bindES rl h fun d s1 v H1 HP1 st1 d1 p1 => ?_
  split at p1
  · rename_i ho
    obtain ⟨xs, q⟩ := Option.isSome_iff_exists.mp ho
    obtain ⟨c, vs, z1, z2, z3, z4⟩ := st1.rel.refS q
    refine ⟨_, z1, ?_⟩
    refine bindES st1.rel p1 fun y s2 u H2 HP2 st2 d2 p2 => ?_
    have dv := Dv.mono st2.same d v d1
    have rl2 := st2.rel
    unfold setR at p2
    split at p2
    · cases d2
      rename_i k
      split at p2
      · rename_i q2
        split at p2
        · rename_i ys q3
          split at p2
          · rename_i j q4
            obtain ⟨y1, ws, y2, y3, y4⟩ := rl2.vst ys q3
            have y0 := (rl2.vis i q2).1
            rw [z1] at y0
            injection y0 with y0; injection y0 with y0; injection y0 with y0
            subst y0
            exact ⟨va.a, ws, k, j, rfl, rfl, y2, by rw [y4.length]; exact q4, p2 σ _ HP2 (rl2.chgV q3 (by rw [List.length_set]; exact y3) (y4.set dv j))⟩
          · exact p2.elim
        · exact p2.elim
      · rename_i ys q2
        split at p2
        · rename_i j q4
          obtain ⟨b', ws, y1, y2, y3, yz, y4⟩ := rl2.own i ys q2
          have y0 := y1
          rw [z1] at y0
          injection y0 with y0; injection y0 with y0; injection y0 with y0
          subst y0
          exact ⟨c, ws, k, j, rfl, rfl, y3, by rw [y4.length]; exact q4, p2 σ _ HP2 (rl2.chg q2 z1 (by rw [List.length_set]; exact yz) (y4.set dv j))⟩
        · exact p2.elim
      · exact p2.elim
    · exact p2.elim
  · exact p1.elim
end
end DL

namespace DL
open PySem PySem.Spec PyProof.Rows L2
/-! ## what a def is worth -/
inductive FR where
  | ok (d : D) (w : Option (List D)) | own (xs : List D) (w : Option (List D)) | exc (n : Str) (p : Option Int) (w : Option (List D)) | stuck
/-- the arguments (without the lent list), the lent list -/
abbrev FM := List D → Option (List D) → FR
structure FG (K : PySem.W.Frag) (va : VA) (w : Option (List D)) (HP H : Hp) (w' : Option (List D)) (HP' H' : Hp) : Prop where
  sub : Same HP' H'
  same : Same HP HP'
  keep : ∀ b o, H b = some o → (∀ ps, o ≠ .tbl ps) → (w ≠ none → b ≠ va.a) → H' b = some o ∧ (HP b = none → HP' b = none)
  via : w = none ↔ w' = none
  vst : ∀ xs, w' = some xs → HP' va.a = none ∧ ∃ vs, H' va.a = some (.lst vs) ∧ xs.length ≤ sizeLine ∧ DvA K HP' vs xs
  tab : TB lamT HP' H'
/-- the arguments as the caller lays them -/
def Args (K : PySem.W.Frag) (va : VA) (HP H : Hp) (vs vs' : List V) : Option (List D) → Prop
  | none => vs = vs'
  | some xs => vs = .ref va.a :: vs' ∧ HP va.a = none ∧ ∃ us, H va.a = some (.lst us) ∧ xs.length ≤ sizeLine ∧ DvA K HP us xs
def PoF (K : PySem.W.Frag) (mg : Str → Option Value) (va : VA) (w : Option (List D)) (HP H : Hp) (r : FR) (Q : VK) (E : XK) : Prop := match r with
  | .ok d w' => ∀ v H' HP', FG K va w HP H w' HP' H' → Dv K HP' v d → Q v H'
  | .own xs w' => ∀ p vs H' HP', FG K va w HP H w' HP' H' → H' p = none → xs.length ≤ sizeLine → DvA K HP' vs xs → Q (.ref p) (upd H' p (.lst vs))
  | .exc n p w' => ∀ dd H' HP' C, FG K va w HP H w' HP' H' → ExcAt p dd H' → mg n = some (.ref C) → E (.ref C) dd H'
  | .stuck => False
def spD (K : PySem.W.Frag) (mg : Str → Option Value) (n : Nat) (m : FM) : Sp := fun vs H Q E => ∃ va HP ds w vs', vs.length = n ∧ Same HP H ∧ DvA K HP vs' ds ∧ Args K va HP H vs vs' w ∧ TB lamT HP H ∧ PoF K mg va w HP H (m ds w) Q E
/-- a def of the text keeps m -/
abbrev FnD (P : Program) (w : World) (K : PySem.W.Frag) (mg : Str → Option Value) (base : Heap) (k : Nat) (f : Addr) (fd : FuncData) (ps : List Str) (m : FM) : Prop := FnOk P w K mg base (L2.CX P w) k f fd ps (spD K mg ps.length m)
def stD (N : List Str) (ds : List D) : Option (List D) → S
  | none => ⟨ds.map (fun d => some (Sl.val d)) ++ List.replicate (N.length - ds.length) none, none⟩
  | some xs => ⟨some .via :: (ds.map (fun d => some (Sl.val d)) ++ List.replicate (N.length - (ds.length + 1)) none), some xs⟩
def T.fin : T → FR
  | .ret d s => .ok d s.via
  | .retO d s => .own d s.via
  | .next s => .ok .non s.via
  | .exc n p s => .exc n p s.via
  | _ => .stuck
@[simp] theorem T.fin_ret (d : D) (s : S) : (T.ret d s).fin = .ok d s.via := rfl
@[simp] theorem T.fin_retO (d : List D) (s : S) : (T.retO d s).fin = .own d s.via := rfl
@[simp] theorem T.fin_next (s : S) : (T.next s).fin = .ok .non s.via := rfl
@[simp] theorem T.fin_exc (n : Str) (p : Option Int) (s : S) : (T.exc n p s).fin = .exc n p s.via := rfl
theorem vals_start {K : PySem.W.Frag} {HP : Hp} {vs : List V} {ds : List D} (h : DvA K HP vs ds) {r : List (Option Sl)} {r' : List (Option V)} (hr : ∀ (i : Nat), r[i]? = some none ∨ r[i]? = none) : ∀ (i : Nat) d, (ds.map (fun d => some (Sl.val d)) ++ r)[i]? = some (some (.val d)) → ∃ v, (vs.map some ++ r')[i]? = some (some v) ∧ Dv K HP v d := fun i d q => by
  rcases Nat.lt_or_ge i ds.length with z | z
  · rw [List.getElem?_append_left (by simpa using z), List.getElem?_map, List.getElem?_eq_getElem z] at q
    have q' : ds[i] = d := by simpa using q
    subst q'
    obtain ⟨v, h1, h2⟩ := h.getD (List.getElem?_eq_getElem z)
    refine ⟨v, ?_, h2⟩
    rw [List.getElem?_append_left (by rw [List.length_map, h.length]; exact z), List.getElem?_map, h1]
    rfl
  · rw [List.getElem?_append_right (by simpa using z)] at q
    rcases hr (i - (ds.map (fun d => some (Sl.val d))).length) with e | e <;> rw [e] at q <;> cases q
theorem not_start {ds : List D} {r : List (Option Sl)} (hr : ∀ (i : Nat), r[i]? = some none ∨ r[i]? = none) {i : Nat} {x : Sl} (q : (ds.map (fun d => some (Sl.val d)) ++ r)[i]? = some (some x)) : ∃ d, x = .val d := by
  rcases Nat.lt_or_ge i ds.length with z | z
  · rw [List.getElem?_append_left (by simpa using z), List.getElem?_map, List.getElem?_eq_getElem z] at q
    exact ⟨ds[i], by simpa using q.symm⟩
  · rw [List.getElem?_append_right (by simpa using z)] at q
    rcases hr (i - (ds.map (fun d => some (Sl.val d))).length) with e | e <;> rw [e] at q <;> cases q
theorem rep_none (n i : Nat) : (List.replicate n (none : Option Sl))[i]? = some none ∨ (List.replicate n (none : Option Sl))[i]? = none := by
  rcases Nat.lt_or_ge i n with z | z
  · left; rw [List.getElem?_replicate, if_pos z]
  · right; exact List.getElem?_eq_none_iff.mpr (by simpa using z)
theorem rel_start {K : PySem.W.Frag} {va : VA} {HP H : Hp} {vs vs' : List V} {ds : List D} {w : Option (List D)} {N : List Str} (hn : vs.length ≤ N.length) (sm : Same HP H) (h : DvA K HP vs' ds) (a : Args K va HP H vs vs' w) (tb : TB lamT HP H) : Rel K va (stD N ds w) (start N vs) HP H := by
  cases w with
  | none =>
    have e : vs = vs' := a
    subst e
    refine ⟨?_, sm, vals_start h (rep_none _), fun i xs q => ?_, fun i q => ?_, fun xs q => (by cases q), fun i j xs ys b _ q => ?_, fun i xs q => ?_, tb⟩
    · simp [stD, L2.start, h.length]
    all_goals obtain ⟨d, e⟩ := not_start (rep_none _) q; cases e
  | some xs =>
    obtain ⟨e, h1, us, h2, h3, h4⟩ := a
    subst e
    have nt : ∀ (i : Nat) (x : Sl), (stD N ds (some xs)).sl[i]? = some (some x) → (i = 0 ∧ x = .via) ∨ (∃ j d, i = j + 1 ∧ x = .val d ∧ (ds.map (fun d => some (Sl.val d)) ++ List.replicate (N.length - (ds.length + 1)) none)[j]? = some (some (.val d))) := fun i x q => by
      cases i with
      | zero => left; exact ⟨rfl, by simpa [stD] using q.symm⟩
      | succ j =>
        right
        have q' : (ds.map (fun d => some (Sl.val d)) ++ List.replicate (N.length - (ds.length + 1)) none)[j]? = some (some x) := by simpa [stD] using q
        obtain ⟨d, e⟩ := not_start (rep_none _) q'
        subst e
        exact ⟨j, d, rfl, rfl, q'⟩
    have st : start N (.ref va.a :: vs') = some (.ref va.a) :: (vs'.map some ++ List.replicate (N.length - (vs'.length + 1)) none) := rfl
    rw [st]
    refine ⟨?_, sm, fun i d q => ?_, fun i ys q => ?_, fun i q => ?_, fun ys q => ?_, fun i j ys zs b _ q => ?_, fun i ys q => ?_, tb⟩
    · simp [stD, h.length]
    · rcases nt i _ q with ⟨rfl, e⟩ | ⟨j, d', rfl, e, q'⟩
      · cases e
      · cases e
        obtain ⟨v, y1, y2⟩ := vals_start h (r' := List.replicate (N.length - (vs'.length + 1)) none) (rep_none _) j d q'
        exact ⟨v, by simpa using y1, y2⟩
    · rcases nt i _ q with ⟨rfl, e⟩ | ⟨j, d', rfl, e, q'⟩ <;> cases e
    · rcases nt i _ q with ⟨rfl, e⟩ | ⟨j, d', rfl, e, q'⟩
      · exact ⟨rfl, by simp [stD]⟩
      · cases e
    · have : xs = ys := by simpa [stD] using q
      subst this
      exact ⟨h1, us, h2, h3, h4⟩
    · rcases nt i _ q with ⟨rfl, e⟩ | ⟨j, d', rfl, e, q'⟩ <;> cases e
    · rcases nt i _ q with ⟨rfl, e⟩ | ⟨j, d', rfl, e, q'⟩ <;> cases e
theorem stD_via (N : List Str) (ds : List D) (w : Option (List D)) : (stD N ds w).via = w := by cases w <;> rfl
theorem stD_own {N : List Str} {ds : List D} {w : Option (List D)} {i : Nat} {xs : List D} : (stD N ds w).sl[i]? ≠ some (some (.own xs)) := by
  cases w with
  | none =>
    intro q
    obtain ⟨d, e⟩ := not_start (rep_none _) q
    cases e
  | some ys =>
    intro q
    cases i with
    | zero => simp [stD] at q
    | succ j =>
      have q' : (ds.map (fun d => some (Sl.val d)) ++ List.replicate (N.length - (ds.length + 1)) none)[j]? = some (some (.own xs)) := by simpa [stD] using q
      obtain ⟨d, e⟩ := not_start (rep_none _) q'
      cases e
theorem Stp.fg {K : PySem.W.Frag} {va : VA} {HP H HP' H' : Hp} {N : List Str} {ds : List D} {w : Option (List D)} {σ σ' : St} {s' : S} (a : Stp K va (stD N ds w) σ HP H s' σ' HP' H') : FG K va w HP H s'.via HP' H' where
  sub := a.rel.sub
  same := a.same
  keep := fun b o h nt n => by
    have no : ¬ Owns va (stD N ds w) σ b := fun z => by
      rcases z with ⟨i, xs, q, _⟩ | ⟨q, e⟩
      · exact stD_own q
      · rw [stD_via] at q; exact n q e
    obtain ⟨h1, _, h2⟩ := a.keep b o h nt no
    exact ⟨h1, h2⟩
  via := by have := a.via; rw [stD_via] at this; exact this
  vst := fun xs e => a.rel.vst xs e
  tab := a.rel.tab
section
variable {P : Program} {w : World} {K : PySem.W.Frag} {mg : Str → Option Value} {base : Heap}
/-- THE RULE for a def -/
theorem fn_d {x qual : Str} {st : Stmt} {f : Addr} {fd : FuncData} {N ps : List Str} {k : Nat} {m : FM} (F : Fun K x qual st f fd) (Sc : FnScope N ps (defScope st))
    (body : ∀ (cdv : Value) (A : Around) (outer : List Env) (s : Shared) (H : Hp) (E : XK), Room k (A.deeper (envOfC qual (defScope st) s.heap.objs.size f cdv)) →
      ∃ f', DSs (cxOf (L2.CX P w) P w K mg base N qual (defScope st) f cdv A outer s H E) (fun cls d _ H => E cls d H) (defBody st) f' ∧ ∀ ds v, m ds v ≠ .stuck → (f' (stD N ds v)).fin = m ds v) :
    FnD P w K mg base (k + 1) f fd ps m := by
  refine F.okX Sc (fun vs H Q E h => ?_) (fun cdv A outer s H vs Q E hr h => ?_)
  · obtain ⟨_, _, _, _, _, e, _⟩ := h; exact e
  · obtain ⟨va, HP, ds, v, vs', e1, sm, dv, ar, tb, po⟩ := h
    obtain ⟨f', hd, hf⟩ := body cdv A outer s H E hr
    have hN : ps.length ≤ N.length := by
      have := congrArg List.length Sc.pre
      rw [List.length_take] at this
      omega
    refine ⟨_, hd, va, stD N ds v, HP, rel_start (by rw [e1]; exact hN) sm dv ar tb, ?_⟩
    have ne : m ds v ≠ .stuck := fun z => by rw [z] at po; exact po
    have e := hf ds v ne
    rw [← e] at po
    cases q : f' (stD N ds v) with
    | stuck => rw [q] at po; exact po
    | brk s' => rw [q] at po; exact po.elim
    | cnt s' => rw [q] at po; exact po.elim
    | next s' => rw [q] at po; exact fun σ' H' HP' stp => po .non H' HP' stp.fg .non
    | ret d s' => rw [q] at po; exact fun v' σ' H' HP' stp dv' => po v' H' HP' stp.fg dv'
    | retO xs s' => rw [q] at po; exact fun p vs σ' H' HP' stp n z dv' => po p vs H' HP' stp.fg n z dv'
    | exc n p s' => rw [q] at po; exact fun dd σ' H' HP' C stp z y => po dd H' HP' C stp.fg z y
end
/-- another saying of the same -/
theorem FnD.re {P : Program} {w : World} {K : PySem.W.Frag} {mg : Str → Option Value} {base : Heap} {k : Nat} {f : Addr} {fd : FuncData} {ps : List Str} {m m' : FM} (F : FnD P w K mg base k f fd ps m) (h : ∀ ds v, m' ds v ≠ .stuck → m ds v = m' ds v) : FnD P w K mg base k f fd ps m' :=
  F.imp fun vs H Q E ⟨va, HP, ds, v, vs', e1, sm, dv, ar, tb, po⟩ => ⟨va, HP, ds, v, vs', e1, sm, dv, ar, tb, by
    have ne : m' ds v ≠ .stuck := fun z => by rw [z] at po; exact po
    rw [h ds v ne]; exact po⟩
/-- a new list as a datum -/
def FR.frz : FR → FR
  | .own xs w => .ok (.lst xs) w
  | r => r
theorem FG.lay {K : PySem.W.Frag} {va : VA} {w w' : Option (List D)} {HP H HP' H' : Hp} (g : FG K va w HP H w' HP' H') {p : Addr} {o : HO} (n : H' p = none) (ho : ∀ ps, o ≠ .tbl ps := by intro _ z; cases z) : FG K va w HP H w' (upd HP' p o) (upd H' p o) := by
  have nP : HP' p = none := g.sub.free n
  have ne : ∀ {b x}, H' b = some x → b ≠ p := fun e => ne_of_none e n
  have sm : Same HP' (upd HP' p o) := fun b x e => by rw [upd_ne (ne_of_none e nP)]; exact e
  refine ⟨fun b x e => ?_, g.same.trans sm, fun b x e nt k => ?_, g.via, fun xs e => ?_, ⟨g.tab.t.ext fun b x e => (by rw [upd_ne (ne e)]; exact e), noTb_upd g.tab.n ho⟩⟩
  · by_cases h : b = p
    · subst h; rw [upd_same] at e ⊢; exact e
    · rw [upd_ne h] at e ⊢; exact g.sub b x e
  · obtain ⟨h1, h2⟩ := g.keep b x e nt k
    exact ⟨by rw [upd_ne (ne h1)]; exact h1, fun z => by rw [upd_ne (ne h1)]; exact h2 z⟩
  · obtain ⟨h1, vs, h2, h3, h4⟩ := g.vst xs e
    exact ⟨by rw [upd_ne (ne h2)]; exact h1, vs, by rw [upd_ne (ne h2)]; exact h2, h3, DvA.mono sm xs vs h4⟩
theorem FnD.frz {P : Program} {w : World} {K : PySem.W.Frag} {mg : Str → Option Value} {base : Heap} {k : Nat} {f : Addr} {fd : FuncData} {ps : List Str} {m : FM} (F : FnD P w K mg base k f fd ps m) : FnD P w K mg base k f fd ps (fun ds v => (m ds v).frz) :=
  F.imp fun vs H Q E ⟨va, HP, ds, v, vs', e1, sm, dv, ar, tb, po⟩ => ⟨va, HP, ds, v, vs', e1, sm, dv, ar, tb, by
    dsimp only at po
    cases q : m ds v with
    | own xs w' =>
      rw [q] at po
      exact fun p vs H' HP' g n z d => po (.ref p) _ _ (g.lay n) (.lst upd_same z (DvA.mono (fun b x e => by rw [upd_ne (ne_of_none e (g.sub.free n))]; exact e) xs vs d))
    | ok d w' => rw [q] at po; exact po
    | exc n p w' => rw [q] at po; exact po
    | stuck => rw [q] at po; exact po⟩
/-! ## calls -/
def callP (m : FM) (n : Nat) (ds : List D) (s : S) : R D := if ds.length = n then (match m ds none with
  | .ok d none => .ok d s
  | .exc n p none => .exc n p s
  | _ => .stuck) else .stuck
def S.setRef (i : Nat) (xs : List D) (s : S) : S := match s.sl[i]? with
  | some (some .via) => ⟨s.sl, some xs⟩
  | _ => s.put i (.own xs)
def callV (i : Nat) (m : FM) (n : Nat) (ds : List D) (s : S) : R D := match refS i s with
  | some xs => if ds.length + 1 = n then (match m ds (some xs) with
    | .ok d (some ys) => .ok d (s.setRef i ys)
    | .exc n p (some ys) => .exc n p (s.setRef i ys)
    | _ => .stuck) else .stuck
  | none => .stuck
section
variable {K : PySem.W.Frag} {va : VA} {s : S} {σ : St} {HP H HP' H' : Hp}
theorem nL {vs : List V} : ∀ ps, HO.lst vs ≠ .tbl ps := fun _ z => nomatch z
theorem Rel.called (r : Rel K va s σ HP H) {vb : Addr} (g : FG K ⟨vb⟩ none HP H none HP' H') : Stp K va s σ HP H s σ HP' H' := by
  have kp : ∀ b o, H b = some o → (∀ ps, o ≠ .tbl ps) → H' b = some o ∧ (HP b = none → HP' b = none) := fun b o h nt => g.keep b o h nt fun z => absurd rfl z
  refine ⟨⟨r.len, g.sub, fun i d q => ?_, fun i xs q => ?_, r.vis, fun xs q => ?_, r.dis, r.dvi, g.tab⟩, g.same, fun b o h nt n => ⟨(kp b o h nt).1, n, (kp b o h nt).2⟩, Iff.rfl⟩
  · obtain ⟨v, h1, h2⟩ := r.val i d q
    exact ⟨v, h1, Dv.mono g.same d v h2⟩
  · obtain ⟨a, vs, h1, h2, h3, hz, h4⟩ := r.own i xs q
    exact ⟨a, vs, h1, (kp a _ h3 nL).2 h2, (kp a _ h3 nL).1, hz, DvA.mono g.same xs vs h4⟩
  · obtain ⟨h1, vs, h2, hz, h3⟩ := r.vst xs q
    exact ⟨(kp va.a _ h2 nL).2 h1, vs, (kp va.a _ h2 nL).1, hz, DvA.mono g.same xs vs h3⟩
/-- behind a call to which the list at slot i was lent -/
theorem Rel.calledV (r : Rel K va s σ HP H) {i : Nat} {vb : Addr} {xs ys : List D} (e : DL.refS i s = some xs) (ha : σ[i]? = some (some (.ref vb))) (g : FG K ⟨vb⟩ (some xs) HP H (some ys) HP' H') : Stp K va s σ HP H (s.setRef i ys) σ HP' H' := by
  have kp : ∀ b o, H b = some o → (∀ ps, o ≠ .tbl ps) → b ≠ vb → H' b = some o ∧ (HP b = none → HP' b = none) := fun b o h nt n => g.keep b o h nt fun _ => n
  obtain ⟨g1, us, g2, g3, g4⟩ := g.vst ys rfl
  unfold DL.refS at e
  unfold S.setRef
  split at e
  · -- the lent list, lent on
    rename_i q0
    have hvb : vb = va.a := by
      have := (r.vis i q0).1
      rw [ha] at this
      injection this with z; injection z with z; injection z with z
    subst hvb
    simp only [q0]
    have nv : s.via ≠ none := by rw [e]; simp
    refine ⟨⟨r.len, g.sub, fun i d q => ?_, fun j zs q => ?_, fun j q => ⟨(r.vis j q).1, by simp⟩, fun zs q => ?_, r.dis, fun j zs q n => r.dvi j zs q nv, g.tab⟩, g.same, fun b o h nt n => ?_, by simp [e]⟩
    · obtain ⟨v, h1, h2⟩ := r.val i d q
      exact ⟨v, h1, Dv.mono g.same d v h2⟩
    · obtain ⟨a, vs, h1, h2, h3, hz, h4⟩ := r.own j zs q
      have ne : a ≠ va.a := fun z => by subst z; exact r.dvi j zs q nv h1
      exact ⟨a, vs, h1, (kp a _ h3 nL ne).2 h2, (kp a _ h3 nL ne).1, hz, DvA.mono g.same zs vs h4⟩
    · have : ys = zs := by simpa using q
      subst this
      exact ⟨g1, us, g2, g3, g4⟩
    · have ne : b ≠ va.a := fun z => n (.inr ⟨nv, z⟩)
      refine ⟨(kp b o h nt ne).1, fun z => n ?_, (kp b o h nt ne).2⟩
      rcases z with ⟨j, zs, q1, q2⟩ | ⟨_, z⟩
      · exact .inl ⟨j, zs, q1, q2⟩
      · exact .inr ⟨nv, z⟩
  · rename_i xs' q0
    cases e
    simp only [q0]
    have own : ∀ (j : Nat) zs, (s.put i (.own ys)).sl[j]? = some (some (.own zs)) → (j = i ∧ zs = ys) ∨ (j ≠ i ∧ s.sl[j]? = some (some (.own zs))) := fun j zs q => by
      by_cases h : j = i
      · subst h
        have := sl_put_eq q
        injection this with e
        injection e with e
        exact .inl ⟨rfl, e⟩
      · rw [sl_put_ne h] at q; exact .inr ⟨h, q⟩
    have ow : ∀ (j : Nat) zs, (s.put i (.own ys)).sl[j]? = some (some (.own zs)) → ∃ zs, s.sl[j]? = some (some (.own zs)) := fun j zs q => by
      rcases own j zs q with ⟨rfl, rfl⟩ | ⟨nj, q'⟩
      · exact ⟨_, q0⟩
      · exact ⟨zs, q'⟩
    refine ⟨⟨by simpa [S.put] using r.len, g.sub, fun j d q => ?_, fun j zs q => ?_, fun j q => ?_, fun zs q => ?_, fun j k zs ws b n q1 q2 q3 => ?_, fun j zs q n => ?_, g.tab⟩, g.same, fun b o h nt n => ?_, Iff.rfl⟩
    · by_cases h : j = i
      · subst h; cases sl_put_eq q
      · rw [sl_put_ne h] at q
        obtain ⟨v, h1, h2⟩ := r.val j d q
        exact ⟨v, h1, Dv.mono g.same d v h2⟩
    · rcases own j zs q with ⟨rfl, rfl⟩ | ⟨nj, q'⟩
      · exact ⟨vb, us, ha, g1, g2, g3, g4⟩
      · obtain ⟨a, vs, h1, h2, h3, hz, h4⟩ := r.own j zs q'
        have ne : a ≠ vb := fun z => by subst z; exact r.dis i j _ zs a (Ne.symm nj) q0 q' ha h1
        exact ⟨a, vs, h1, (kp a _ h3 nL ne).2 h2, (kp a _ h3 nL ne).1, hz, DvA.mono g.same zs vs h4⟩
    · by_cases h : j = i
      · subst h; cases sl_put_eq q
      · rw [sl_put_ne h] at q; exact r.vis j q
    · obtain ⟨h1, vs, h2, hz, h3⟩ := r.vst zs q
      have q' : s.via = some zs := q
      have ne : va.a ≠ vb := fun z => r.dvi i _ q0 (by rw [q']; simp) (by rw [z]; exact ha)
      exact ⟨(kp va.a _ h2 nL ne).2 h1, vs, (kp va.a _ h2 nL ne).1, hz, DvA.mono g.same zs vs h3⟩
    · obtain ⟨_, q1'⟩ := ow j zs q1
      obtain ⟨_, q2'⟩ := ow k ws q2
      exact r.dis j k _ _ b n q1' q2' q3
    · obtain ⟨_, q'⟩ := ow j zs q
      exact r.dvi j _ q' n
    · have ne : b ≠ vb := fun z => n (.inl ⟨i, _, q0, by rw [z]; exact ha⟩)
      refine ⟨(kp b o h nt ne).1, fun z => n ?_, (kp b o h nt ne).2⟩
      rcases z with ⟨j, zs, q1, q2⟩ | z
      · obtain ⟨_, q1'⟩ := ow j zs q1
        exact .inl ⟨j, _, q1', q2⟩
      · exact .inr z
  · cases e
end
section
variable {X : Cx} {W : WX} {a b c e : Expr} {es : List Expr} {fa fb fc : S → R D} {ga : S → R (List D)} {pos p : Pos} {k n : Nat} {f : Addr} {fd : FuncData} {ps : List Str} {m : FM} {x : Str}
theorem de_call (G : FnD X.prog X.w X.K X.mg X.base k f fd ps m) (hr : Room k X.A) (tk : Takes X W) (hm : X.mg x = some (.ref f)) (hk : PySem.W.keepIn X.K (.ref f) = true) (hb : Binds X.K fd ps []) (ha : DA X W (e :: es) ga)
    (hg : Gl X x := by rfl) (hdb : (x == ("__debug__" : Str)) = false := by decide) (he : starEach (e :: es) X.env = (false, eval e X.env) :: starEach es X.env := by rfl) (hpl : (backTo pos (starEach es X.env)).any (·.1) = false := by rfl) :
    DE X W (.Call (.Name x p) (e :: es) [] pos) (fun s => (ga s).bind fun ds s => callP m ps.length ds s) := by
  refine pe_imp (pe_callS (E := WE W) G hr hg hm hk hb (fun σ => passAt tk σ) ha hdb he hpl) fun σ H Q h => ?_
  obtain ⟨va, s, HP, rl, h⟩ := h
  refine bindAE rl h fun ds s1 vs H1 HP1 st1 d1 h1 => ?_
  unfold callP at h1
  split at h1
  · rename_i hl
    refine ⟨va, HP1, ds, none, vs, by rw [d1.length]; exact hl, st1.rel.sub, d1, rfl, st1.rel.tab, ?_⟩
    split at h1
    · rename_i d e; rw [e]; exact fun v H' HP' g dv => h1 v H' HP' (st1.rel.called g) dv
    · rename_i e; rw [e]; exact fun dd H' HP' C g z y => h1 dd H' HP' C (st1.rel.called g) z y
    · exact h1.elim
  · exact h1.elim
theorem de_callv (i : Nat) {y : Str} {py : Pos} (G : FnD X.prog X.w X.K X.mg X.base k f fd ps m) (hr : Room k X.A) (tk : Takes X W) (hm : X.mg x = some (.ref f)) (hk : PySem.W.keepIn X.K (.ref f) = true) (hb : Binds X.K fd ps []) (ha : DA X W es ga)
    (hN : X.N[i]? = some y := by rfl) (hv : Vis X.env.scope y := by first | exact Or.inl rfl | exact Or.inr (Or.inl rfl) | exact Or.inr (Or.inr rfl)) (hd : (y == ("__debug__" : Str)) = false := by decide) (hcd : (y == ("__classdict__" : Str)) = false := by decide)
    (hg : Gl X x := by rfl) (hdb : (x == ("__debug__" : Str)) = false := by decide) (he : starEach (.Name y py :: es) X.env = (false, eval (.Name y py) X.env) :: starEach es X.env := by rfl) (hpl : (backTo pos (starEach es X.env)).any (·.1) = false := by rfl) :
    DE X W (.Call (.Name x p) (.Name y py :: es) [] pos) (fun s => if (refS i s).isSome = true then (ga s).bind fun ds s => callV i m ps.length ds s else .stuck) := by
  refine pe_imp (pe_callS (E := WE W) G hr hg hm hk hb (fun σ => passAt tk σ) (pa_cons (pv i hN hv hd hcd) ha he) hdb he hpl) fun σ H Q h => ?_
  obtain ⟨va, s, HP, rl, h⟩ := h
  dsimp only at h
  split at h
  · rename_i ho
    obtain ⟨xs, q⟩ := Option.isSome_iff_exists.mp ho
    obtain ⟨vb, us, h1, h2, h3, h4⟩ := rl.refS q
    refine ⟨_, h1, ?_⟩
    refine bindAE rl h fun ds s1 vs H1 HP1 st1 d1 p1 => ?_
    unfold callV at p1
    split at p1
    · rename_i ys q1
      split at p1
      · rename_i hl
        obtain ⟨vb', us', y1, y2, y3, y4⟩ := st1.rel.refS q1
        rw [h1] at y1
        injection y1 with y1; injection y1 with y1; injection y1 with y1
        subst y1
        have nP : HP1 vb = none := by
          unfold refS at q1
          split at q1
          · rename_i z
            have := (st1.rel.vis i z).1
            rw [h1] at this
            injection this with w; injection w with w; injection w with w
            rw [w]
            exact (st1.rel.vst ys q1).1
          · rename_i z
            cases q1
            obtain ⟨b, ws, w1, w2, _⟩ := st1.rel.own i ys z
            rw [h1] at w1
            injection w1 with w; injection w with w; injection w with w
            rw [w]; exact w2
          · cases q1
        refine ⟨⟨vb⟩, HP1, ds, some ys, vs, by rw [List.length_cons, d1.length]; exact hl, st1.rel.sub, d1, ⟨rfl, nP, us', y2, y3, y4⟩, st1.rel.tab, ?_⟩
        split at p1
        · rename_i d zs e; rw [e]; exact fun v H' HP' g dv => p1 v H' HP' (st1.rel.calledV q1 h1 g) dv
        · rename_i e; rw [e]; exact fun dd H' HP' C g z y => p1 dd H' HP' C (st1.rel.calledV q1 h1 g) z y
        · exact p1.elim
      · exact p1.elim
    · exact p1.elim
  · exact h.elim
/-- x = f(..), the result a list for this slot alone -/
def asgO (i : Nat) (m : FM) (n : Nat) (ds : List D) (s : S) : T := if ds.length = n then (match m ds none with
  | .own xs none => .next (s.put i (.own xs))
  | .exc n p none => .exc n p s
  | _ => .stuck) else .stuck
theorem ds_ownc (i : Nat) {y : Str} {py pos' : Pos} (G : FnD X.prog X.w X.K X.mg X.base k f fd ps m) (hr : Room k X.A) (tk : Takes X W) (hN : X.N.Nodup) (hm : X.mg x = some (.ref f)) (hk : PySem.W.keepIn X.K (.ref f) = true) (hb : Binds X.K fd ps []) (ha : DA X W (e :: es) ga)
    (hi : X.N[i]? = some y := by rfl) (hx : Loc X.env.scope y := by first | exact Or.inl rfl | exact Or.inr rfl) (hs : swapsWith (.Call (.Name x p) (e :: es) [] pos) (some (.Name y py)) pos'.line X.env = pure false := by rfl)
    (hf : X.fn y = true ∨ X.env.scope.names.lookup y = some .local := by first | exact .inl rfl | exact .inr rfl | assumption)
    (hg : Gl X x := by rfl) (hdb : (x == ("__debug__" : Str)) = false := by decide) (he : starEach (e :: es) X.env = (false, eval e X.env) :: starEach es X.env := by rfl) (hpl : (backTo pos (starEach es X.env)).any (·.1) = false := by rfl) :
    DS X W (.Assign [.Name y py] (.Call (.Name x p) (e :: es) [] pos) pos') (fun s => (ga s).thn fun ds s => asgO i m ps.length ds s) := by
  refine ps_imp (ps_set hN hi hx (pe_callS (E := WE W) G hr hg hm hk hb (fun σ => passAt tk σ) ha hdb he hpl) hs hf) fun D σ H h => ?_
  obtain ⟨va, s, HP, rl, h⟩ := h
  dsimp only at h
  refine bindA rl (fun ds s1 vs H1 HP1 q st1 d1 => ?_) (fun n p s' dd H' HP' C q stp z m => ?_) (fun q => ?_) <;> simp only [q, R.thn_ok, R.thn_exc, R.thn_stuck] at h
  · have h1 := PoS.from st1 h
    unfold asgO at h1
    split at h1
    · rename_i hl
      refine ⟨va, HP1, ds, none, vs, by rw [d1.length]; exact hl, st1.rel.sub, d1, rfl, st1.rel.tab, ?_⟩
      split at h1
      · rename_i xs z
        rw [z]
        intro p us H' HP' g n hz dv
        have st2 := st1.rel.called g
        exact h1 _ _ HP' (st2.trans (st2.rel.putOwn i n hz dv))
      · rename_i z; rw [z]; exact fun dd H' HP' C g y1 y2 => h1 dd σ H' HP' C (st1.rel.called g) y1 y2
      · exact h1.elim
    · exact h1.elim
  · exact h dd σ H' HP' C stp z m
  · exact h
end
end DL

namespace DL
open PySem PySem.Spec PyProof.Rows L2
/-! ## calls of what is built in -/
def CallD (X : Cx) (f : Value) (g : List D → Option D) : Prop := ∃ r : List V → Hp → VK → Prop, CallR X f r ∧
  ∀ (W : WX) (va : VA) (s : S) (σ : St) (HP H : Hp) (vs : List V) (ds : List D) (d : D) (Q : VK), Rel X.K va s σ HP H → DvA X.K HP vs ds → g ds = some d → PoE X W va s σ HP H (.ok d s) Q → r vs H Q
def intsOf : List D → Option (List Int)
  | [] => some []
  | .int i :: r => (intsOf r).map (i :: ·)
  | _ => none
@[simp] theorem intsOf_map : ∀ ns : List Int, intsOf (ns.map D.int) = some ns
  | [] => rfl
  | n :: r => by simp [intsOf, intsOf_map r]
theorem intsOf_vals {K : PySem.W.Frag} {H : Hp} : ∀ {ds : List D} {vs : List V} {ns : List Int}, DvA K H vs ds → intsOf ds = some ns → vs = ns.map V.int
  | [], _, ns, h, e => by cases h; cases e; rfl
  | d :: ds, _, ns, h, e => by
    cases h with
    | cons h1 h2 =>
      cases h1 <;> simp [intsOf] at e
      obtain ⟨ms, e1, e2⟩ := e
      subst e2
      rw [intsOf_vals h2 e1]
      rfl
def minL : List Int → Int
  | [] => 0
  | x :: r => r.foldl min x
def maxL : List Int → Int
  | [] => 0
  | x :: r => r.foldl max x
theorem foldl_min : ∀ (r : List Int) (x : Int), (r.foldl min x = x ∨ r.foldl min x ∈ r) ∧ r.foldl min x ≤ x ∧ ∀ y ∈ r, r.foldl min x ≤ y
  | [], x => by simp
  | z :: r, x => by
    obtain ⟨h1, h2, h3⟩ := foldl_min r (min x z)
    refine ⟨?_, ?_, fun y hy => ?_⟩
    · rw [List.foldl_cons]
      rcases h1 with h1 | h1
      · rw [h1]
        rcases Int.le_total x z with h | h
        · left; exact Int.min_eq_left h
        · right; rw [Int.min_eq_right h]; simp
      · right; simp [h1]
    · rw [List.foldl_cons]; exact Int.le_trans h2 (Int.min_le_left _ _)
    · rw [List.foldl_cons]
      rcases List.mem_cons.mp hy with e | e
      · rw [e]; exact Int.le_trans h2 (Int.min_le_right _ _)
      · exact h3 y e
theorem foldl_max : ∀ (r : List Int) (x : Int), (r.foldl max x = x ∨ r.foldl max x ∈ r) ∧ x ≤ r.foldl max x ∧ ∀ y ∈ r, y ≤ r.foldl max x
  | [], x => by simp
  | z :: r, x => by
    obtain ⟨h1, h2, h3⟩ := foldl_max r (max x z)
    refine ⟨?_, ?_, fun y hy => ?_⟩
    · rw [List.foldl_cons]
      rcases h1 with h1 | h1
      · rw [h1]
        rcases Int.le_total x z with h | h
        · right; rw [Int.max_eq_right h]; simp
        · left; exact Int.max_eq_left h
      · right; simp [h1]
    · rw [List.foldl_cons]; exact Int.le_trans (Int.le_max_left _ _) h2
    · rw [List.foldl_cons]
      rcases List.mem_cons.mp hy with e | e
      · rw [e]; exact Int.le_trans (Int.le_max_right _ _) h2
      · exact h3 y e
theorem minL_le {l : List Int} {y : Int} (h : y ∈ l) : minL l ≤ y := by
  cases l with
  | nil => cases h
  | cons x r =>
    rcases List.mem_cons.mp h with e | e
    · rw [e]; exact (foldl_min r x).2.1
    · exact (foldl_min r x).2.2 y e
theorem minL_mem {l : List Int} (h : l ≠ []) : minL l ∈ l := by
  cases l with
  | nil => exact absurd rfl h
  | cons x r =>
    rcases (foldl_min r x).1 with e | e
    · show r.foldl min x ∈ x :: r
      rw [e]; simp
    · exact List.mem_cons_of_mem _ e
theorem le_maxL {l : List Int} {y : Int} (h : y ∈ l) : y ≤ maxL l := by
  cases l with
  | nil => cases h
  | cons x r =>
    rcases List.mem_cons.mp h with e | e
    · rw [e]; exact (foldl_max r x).2.1
    · exact (foldl_max r x).2.2 y e
theorem maxL_mem {l : List Int} (h : l ≠ []) : maxL l ∈ l := by
  cases l with
  | nil => exact absurd rfl h
  | cons x r =>
    rcases (foldl_max r x).1 with e | e
    · show r.foldl max x ∈ x :: r
      rw [e]; simp
    · exact List.mem_cons_of_mem _ e
def gLen : List D → Option D
  | [.lst xs] => some (.int xs.length)
  | [.tup xs] => some (.int xs.length)
  | [.scr xs] => some (.int xs.length)
  | [.str x] => if x.length ≤ sizeLine then some (.int x.length) else none
  | _ => none
def gSum : List D → Option D
  | [.lst xs] => (intsOf xs).map fun ns => .int ns.sum
  | [.tup xs] => (intsOf xs).map fun ns => .int ns.sum
  | _ => none
def gMin : List D → Option D
  | [.lst xs] => (intsOf xs).bind fun ns => if ns = [] then none else some (.int (minL ns))
  | [.int i, .int j] => some (.int (min i j))
  | _ => none
def gMax : List D → Option D
  | [.lst xs] => (intsOf xs).bind fun ns => if ns = [] then none else some (.int (maxL ns))
  | [.int i, .int j] => some (.int (max i j))
  | _ => none
def gAbs : List D → Option D
  | [.int i] => some (.int (if i < 0 then -i else i))
  | _ => none
def gInt : List D → Option D
  | [.int i] => some (.int i)
  | [.bl b] => some (.int (if b then 1 else 0))
  | _ => none
def gTup : List D → Option D
  | [.lst xs] => some (.tup xs)
  | [.tup xs] => some (.tup xs)
  | _ => none
def gLst : List D → Option D
  | [.lst xs] => some (.lst xs)
  | [.tup xs] => some (.lst xs)
  | _ => none
section
variable {X : Cx} {W : WX} {a b c e tg : Expr} {es : List Expr} {fa fb fc : S → R D} {ga : S → R (List D)} {ta tb tc : S → R Bool} {pos p : Pos} {id T : String} {x : Str}
theorem callD_core {g : List D → Option D} {r : List V → Hp → VK → Prop} (h2 : ∀ (W : WX) (va : VA) (s : S) (σ : St) (HP H : Hp) (vs : List V) (ds : List D) (d : D) (Q : VK), Rel X.K va s σ HP H → DvA X.K HP vs ds → g ds = some d → PoE X W va s σ HP H (.ok d s) Q → r vs H Q)
    (σ : St) (H : Hp) (Q : VK) (h : tDE X W (fun s => (ga s).bind fun ds s => lift (g ds) s) σ H Q) : tCB r (tDA X W ga) σ H Q := by
  obtain ⟨va, s, HP, rl, h⟩ := h
  refine bindAE rl h fun ds s1 vs H1 HP1 st1 d1 h1 => ?_
  cases q : g ds with
  | none => rw [q] at h1; exact h1.elim
  | some d => rw [q] at h1; exact h2 W va s1 σ HP1 H1 vs ds d Q st1.rel d1 q h1
theorem de_callB {g : List D → Option D} (o : CallD X (.builtin id) g) (hm : X.mg x = none) (hv : bootBuiltins x = some (.builtin id)) (ha : DA X W (e :: es) ga) (hg : Gl X x := by rfl) (hn : x ≠ "__name__" := by decide) (hdb : (x == ("__debug__" : Str)) = false := by decide)
    (he : starEach (e :: es) X.env = (false, eval e X.env) :: starEach es X.env := by rfl) (hpl : (backTo pos (starEach es X.env)).any (·.1) = false := by rfl) : DE X W (.Call (.Name x p) (e :: es) [] pos) (fun s => (ga s).bind fun ds s => lift (g ds) s) := by
  obtain ⟨r, h1, h2⟩ := o
  exact pe_imp (pe_callB h1 hg hm hv ha hn hdb he hpl) fun σ H Q h => callD_core h2 σ H Q h
theorem de_callT {g : List D → Option D} (o : CallD X (.type T) g) (hm : X.mg x = none) (hv : bootBuiltins x = some (.type T)) (ha : DA X W (e :: es) ga) (hg : Gl X x := by rfl) (hn : x ≠ "__name__" := by decide) (hdb : (x == ("__debug__" : Str)) = false := by decide)
    (he : starEach (e :: es) X.env = (false, eval e X.env) :: starEach es X.env := by rfl) (hpl : (backTo pos (starEach es X.env)).any (·.1) = false := by rfl) : DE X W (.Call (.Name x p) (e :: es) [] pos) (fun s => (ga s).bind fun ds s => lift (g ds) s) := by
  obtain ⟨r, h1, h2⟩ := o
  exact pe_imp (pe_callTy h1 hg hm hv ha hn hdb he hpl) fun σ H Q h => callD_core h2 σ H Q h
theorem cd_len : CallD X (.builtin "len") gLen := by
  refine ⟨_, CallR.or call_len_seq call_len_str, fun W va s σ HP H vs ds d Q rl dv e p => ?_⟩
  unfold gLen at e
  split at e
  · cases e
    cases dv with
    | cons h1 h2 =>
      cases h2
      cases h1 with
      | @lst a ws _ z1 zz z2 => exact .inl ⟨a, ws, rfl, .inl (SqL.of (rl.sub _ _ z1)), by rw [z2.length]; exact fin_int p rl⟩
  · cases e
    cases dv with
    | cons h1 h2 =>
      cases h2
      cases h1 with
      | @tup a ws _ z1 zz z2 => exact .inl ⟨a, ws, rfl, .inr (SqT.of (rl.sub _ _ z1)), by rw [z2.length]; exact fin_int p rl⟩
  · cases e
    rename_i ns
    cases dv with
    | cons h1 h2 =>
      cases h2
      cases h1 with
      | @scr a _ z1 => exact .inl ⟨a, ns.map V.int, rfl, .inl (rl.sub.seq z1), by rw [List.length_map]; exact fin_int p rl⟩
  · split at e <;> cases e
    cases dv with
    | cons h1 h2 =>
      cases h2
      cases h1
      exact .inr ⟨_, rfl, by assumption, fin_int p rl⟩
  · cases e
theorem cr_sumT (hc : X.calm = true) : CallR X (.builtin "sum") (fun vs H Q => ∃ (a : Addr) (ns : List Int), vs = [V.ref a] ∧ SqT X.K H a (ns.map V.int) ∧ Q (.int ns.sum) H) := by
  intro pins s σ H vs us Q I r h
  obtain ⟨a, ns, e0, hs, q⟩ := h
  subst e0
  obtain ⟨its, rv, hl, _⟩ := I.tuple hs
  rw [Vals.ref1 r]
  have hi := rv.ints
  obtain ⟨xs, ex⟩ := hi.allInts.items
  have hn : numsOf (intItems xs).toList = ns := by rw [← ex]; exact hi.numsOf
  rw [nums_intItems] at hn
  rw [ex] at hl
  refine PySem.W.ktm_sumG (I.ok.hd hc) (show s.heap.IsTuple a (intItems xs) from hl) fun h' tk t' hk => ?_
  have hsum : preSum (numAt xs) xs.size = ns.sum := by rw [preSum_eq, List.take_of_length_le (by simp), hn]
  rw [hsum]
  exact ⟨.int ns.sum, H, I.kept hk, ⟨t', rfl⟩, q⟩
theorem cd_sum (hc : X.calm = true) : CallD X (.builtin "sum") gSum := by
  refine ⟨_, CallR.or (cr_sum hc) (cr_sumT hc), fun W va s σ HP H vs ds d Q rl dv e p => ?_⟩
  unfold gSum at e
  split at e
  · rename_i xs
    cases q : intsOf xs with
    | none => rw [q] at e; cases e
    | some ns =>
      rw [q] at e; cases e
      cases dv with
      | cons h1 h2 =>
        cases h2
        cases h1 with
        | @lst a ws _ z1 zz z2 => exact .inl ⟨a, ns, rfl, by rw [← intsOf_vals z2 q]; exact SqL.of (rl.sub _ _ z1), fin_int p rl⟩
  · rename_i xs
    cases q : intsOf xs with
    | none => rw [q] at e; cases e
    | some ns =>
      rw [q] at e; cases e
      cases dv with
      | cons h1 h2 =>
        cases h2
        cases h1 with
        | @tup a ws _ z1 zz z2 => exact .inr ⟨a, ns, rfl, by rw [← intsOf_vals z2 q]; exact SqT.of (rl.sub _ _ z1), fin_int p rl⟩
  · cases e
theorem cd_min (hc : X.calm = true) : CallD X (.builtin "min") gMin := by
  refine ⟨_, CallR.or (cr_min hc) (call_min2 hc), fun W va s σ HP H vs ds d Q rl dv e p => ?_⟩
  unfold gMin at e
  split at e
  · rename_i xs
    cases q : intsOf xs with
    | none => rw [q] at e; cases e
    | some ns =>
      rw [q] at e
      simp only [Option.bind_some] at e
      split at e
      · cases e
      · rename_i hne
        cases e
        cases dv with
        | cons h1 h2 =>
          cases h2
          cases h1 with
          | @lst a ws _ z1 zz z2 =>
            refine .inl ⟨a, ns, rfl, by rw [← intsOf_vals z2 q]; exact SqL.of (rl.sub _ _ z1), List.length_pos_iff.mpr hne, fun m hm hle => ?_⟩
            have : m = minL ns := Int.le_antisymm (hle _ (minL_mem hne)) (minL_le hm)
            rw [this]
            exact fin_int p rl
  · cases e
    cases dv with
    | cons h1 h2 =>
      cases h2 with
      | cons h3 h4 =>
        cases h4; cases h1; cases h3
        rename_i i j
        refine .inr ⟨i, j, rfl, ?_⟩
        have : (if j < i then j else i) = min i j := by rw [Int.min_def]; split <;> split <;> omega
        rw [this]
        exact fin_int p rl
  · cases e
theorem cd_max (hc : X.calm = true) : CallD X (.builtin "max") gMax := by
  refine ⟨_, CallR.or (cr_max hc) (call_max2 hc), fun W va s σ HP H vs ds d Q rl dv e p => ?_⟩
  unfold gMax at e
  split at e
  · rename_i xs
    cases q : intsOf xs with
    | none => rw [q] at e; cases e
    | some ns =>
      rw [q] at e
      simp only [Option.bind_some] at e
      split at e
      · cases e
      · rename_i hne
        cases e
        cases dv with
        | cons h1 h2 =>
          cases h2
          cases h1 with
          | @lst a ws _ z1 zz z2 =>
            refine .inl ⟨a, ns, rfl, by rw [← intsOf_vals z2 q]; exact SqL.of (rl.sub _ _ z1), List.length_pos_iff.mpr hne, fun m hm hle => ?_⟩
            have : m = maxL ns := Int.le_antisymm (le_maxL hm) (hle _ (maxL_mem hne))
            rw [this]
            exact fin_int p rl
  · cases e
    cases dv with
    | cons h1 h2 =>
      cases h2 with
      | cons h3 h4 =>
        cases h4; cases h1; cases h3
        rename_i i j
        refine .inr ⟨i, j, rfl, ?_⟩
        have : (if j > i then j else i) = max i j := by rw [Int.max_def]; split <;> split <;> omega
        rw [this]
        exact fin_int p rl
  · cases e
theorem cd_abs : CallD X (.builtin "abs") gAbs := by
  refine ⟨_, call_abs, fun W va s σ HP H vs ds d Q rl dv e p => ?_⟩
  unfold gAbs at e
  split at e <;> cases e
  cases dv with
  | cons h1 h2 => cases h2; cases h1; exact ⟨_, rfl, fin_int p rl⟩
theorem cd_int : CallD X (.type "int") gInt := by
  refine ⟨_, call_int1, fun W va s σ HP H vs ds d Q rl dv e p => ?_⟩
  unfold gInt at e
  split at e <;> cases e
  · cases dv with
    | cons h1 h2 => cases h2; cases h1; exact .inl ⟨_, rfl, fin_int p rl⟩
  · cases dv with
    | cons h1 h2 => cases h2; cases h1; exact .inr ⟨_, rfl, fin_int p rl⟩
theorem cd_tup : CallD X (.type "tuple") gTup := by
  refine ⟨_, call_tuple_of, fun W va s σ HP H vs ds d Q rl dv e p => ?_⟩
  unfold gTup at e
  split at e <;> cases e
  · cases dv with
    | cons h1 h2 =>
      cases h2
      cases h1 with
      | @lst a ws _ z1 zz z2 => exact ⟨a, ws, rfl, .inl ⟨SqL.of (rl.sub _ _ z1), fun l hl => fin_tup p rl z2 zz l hl⟩⟩
  · cases dv with
    | cons h1 h2 =>
      cases h2
      cases h1 with
      | @tup a ws _ z1 zz z2 => exact ⟨a, ws, rfl, .inr ⟨SqT.of (rl.sub _ _ z1), p.fin rl (.tup z1 zz z2)⟩⟩
theorem cd_lst : CallD X (.type "list") gLst := by
  refine ⟨_, call_list_of, fun W va s σ HP H vs ds d Q rl dv e p => ?_⟩
  unfold gLst at e
  split at e <;> cases e
  · cases dv with
    | cons h1 h2 =>
      cases h2
      cases h1 with
      | @lst a ws _ z1 zz z2 => exact ⟨a, ws, rfl, .inl (SqL.of (rl.sub _ _ z1)), fun l hl => fin_lst p rl z2 zz l hl⟩
  · cases dv with
    | cons h1 h2 =>
      cases h2
      cases h1 with
      | @tup a ws _ z1 zz z2 => exact ⟨a, ws, rfl, .inr (SqT.of (rl.sub _ _ z1)), fun l hl => fin_lst p rl z2 zz l hl⟩
/-! ## isinstance with a built-in class -/
def tyN : D → Option String
  | .non => some "NoneType"
  | .bl _ => some "bool"
  | .int _ => some "int"
  | .str _ => some "str"
  | .lst _ => some "list"
  | .tup _ => some "tuple"
  | _ => none
def isiT (T : String) (d : D) : Option D := (tyN d).bind fun t => (kitB t T).map .bl
theorem tyN_of {HP H : Hp} {v : V} {d : D} {t : String} (sm : Same HP H) (dv : Dv X.K HP v d) (e : tyN d = some t) : TyX X.K H v (.type t) := by
  cases dv <;> simp only [tyN, Option.some.injEq, reduceCtorEq] at e <;> try subst e
  · exact .base .non
  · exact .base (.bl _)
  · exact .base (.int _)
  · exact .base (.str _)
  · rename_i h _ _; exact .base (.lst (sm _ _ h))
  · rename_i h _ _; exact .base (.tup (sm _ _ h))
theorem de_isi (T : String) {y : Str} {py : Pos} (hm : X.mg "isinstance" = none) (hmy : X.mg y = none) (hvy : bootBuiltins y = some (.type T)) (ha : DE X W a fa) (hg : Gl X "isinstance" := by rfl) (hgy : Gl X y := by rfl) (hny : y ≠ "__name__" := by decide) (hdy : (y == ("__debug__" : Str)) = false := by decide)
    (hv : bootBuiltins "isinstance" = some (.builtin "isinstance") := by decide +kernel)
    (he : starEach [a, .Name y py] X.env = (false, eval a X.env) :: starEach [.Name y py] X.env := by rfl) (he2 : starEach [.Name y py] X.env = (false, eval (.Name y py) X.env) :: starEach [] X.env := by rfl)
    (hpl : (backTo pos (starEach [.Name y py] X.env)).any (·.1) = false := by rfl) : DE X W (.Call (.Name "isinstance" p) [a, .Name y py] [] pos) (fun s => (fa s).bind fun d s => lift (isiT T d) s) := by
  refine pe_imp (pe_callB call_isi hg hm hv (pa_cons ha (pa_cons (pe_bltn (v := .ty T) hgy hmy hvy rfl hny hdy) pa_nil he2) he) (by decide) (by decide) he hpl) fun σ H Q h => ?_
  obtain ⟨va, s, HP, rl, h⟩ := h
  refine bindEE rl h fun d s1 v H1 HP1 st1 d1 h1 => ?_
  unfold isiT at h1
  cases q : tyN d with
  | none => rw [q] at h1; exact h1.elim
  | some t =>
    rw [q] at h1
    simp only [Option.bind_some] at h1
    cases q2 : kitB t T with
    | none => rw [q2] at h1; exact h1.elim
    | some r =>
      rw [q2] at h1
      exact ⟨v, .ty T, .type t, .type T, r, rfl, .ty T, tyN_of st1.rel.sub d1 q, kit_ty q2, fin_bl h1 st1.rel⟩
end
end DL

namespace DL
open PySem PySem.Spec PyProof.Rows L2
/-! ## comprehensions -/
theorem wipe_in {σ : St} {i : Nat} : ∀ {vs : List Nat}, i ∈ vs → (wipe σ vs)[i]? = if i < σ.length then some none else none
  | [], h => by cases h
  | v :: vs, h => by
    unfold wipe
    by_cases e : v = i
    · subst e
      rw [List.getElem?_set_self', wipe_length_get]
    · have h2 : i ∈ vs := by
        rcases List.mem_cons.mp h with q | q
        · exact absurd q.symm e
        · exact q
      rw [List.getElem?_set_ne e]
      exact wipe_in h2
where
  wipe_length_get {σ : St} {vs : List Nat} {v : Nat} : (Function.const (Option V) (none : Option V) <$> (wipe σ vs)[v]?) = if v < σ.length then some none else none := by
    by_cases h : v < σ.length
    · rw [List.getElem?_eq_getElem (by rw [wipe_length]; exact h), if_pos h]; rfl
    · rw [List.getElem?_eq_none_iff.mpr (by rw [wipe_length]; omega), if_neg h]; rfl
theorem wipe_set {σ : St} {i : Nat} {x : Option V} {vs : List Nat} (h : i ∈ vs) : wipe (σ.set i x) vs = wipe σ vs := by
  refine List.ext_getElem? fun j => ?_
  by_cases hj : j ∈ vs
  · rw [wipe_in hj, wipe_in hj, List.length_set]
  · have hne : i ≠ j := fun e => hj (e ▸ h)
    rw [wipe_out hj, wipe_out hj, List.getElem?_set_ne hne]
theorem wipe_wipe {σ : St} {vs : List Nat} : wipe (wipe σ vs) vs = wipe σ vs := by
  refine List.ext_getElem? fun j => ?_
  by_cases hj : j ∈ vs
  · rw [wipe_in hj, wipe_in hj, wipe_length]
  · rw [wipe_out hj]
theorem wipe_same {σ σ' : St} {vs : List Nat} (h : wipe σ vs = wipe σ' vs) {j : Nat} (hj : j ∉ vs) : σ[j]? = σ'[j]? := by
  rw [← wipe_out (σ := σ) hj, h, wipe_out hj]
theorem wipe_len {σ σ' : St} {vs : List Nat} (h : wipe σ vs = wipe σ' vs) : σ.length = σ'.length := by
  have := congrArg List.length h
  rwa [wipe_length, wipe_length] at this
def wipeL (l : List (Option Sl)) : List Nat → List (Option Sl)
  | [] => l
  | v :: vs => (wipeL l vs).set v none
def S.wipe (vs : List Nat) (s : S) : S := ⟨wipeL s.sl vs, s.via⟩
theorem wipeL_length (l : List (Option Sl)) : ∀ vs : List Nat, (wipeL l vs).length = l.length
  | [] => rfl
  | v :: vs => by unfold wipeL; rw [List.length_set, wipeL_length l vs]
theorem wipeL_some {l : List (Option Sl)} {i : Nat} {x : Sl} : ∀ {vs : List Nat}, (wipeL l vs)[i]? = some (some x) → l[i]? = some (some x) ∧ i ∉ vs
  | [], h => ⟨h, by simp⟩
  | v :: vs, h => by
    unfold wipeL at h
    by_cases e : v = i
    · subst e
      rw [List.getElem?_set_self'] at h
      cases q : (wipeL l vs)[v]? <;> rw [q] at h <;> simp at h
    · rw [List.getElem?_set_ne e] at h
      obtain ⟨h1, h2⟩ := wipeL_some h
      exact ⟨h1, fun m => by
        rcases List.mem_cons.mp m with q | q
        · exact e q.symm
        · exact h2 q⟩
section
variable {K : PySem.W.Frag} {va : VA} {s s' : S} {σ σ' : St} {HP H HP' H' : Hp} {vs : List Nat}
/-- the slots vs are empty -/
def Clean (vs : List Nat) (s : S) : Prop := ∀ (i : Nat) x, s.sl[i]? = some (some x) → i ∉ vs
theorem clean_wipe : Clean vs (s.wipe vs) := fun _ _ q => (wipeL_some q).2
/-- other slots may hold anything where the state tells nothing -/
theorem Rel.to (r : Rel K va s σ HP H) (c : Clean vs s) (e : wipe σ vs = wipe σ' vs) : Rel K va s σ' HP H := by
  have w : ∀ (i : Nat) x, s.sl[i]? = some (some x) → σ[i]? = σ'[i]? := fun i x q => wipe_same e (c i x q)
  refine ⟨r.len.trans (wipe_len e), r.sub, fun i d q => ?_, fun i xs q => ?_, fun i q => ?_, r.vst, fun i j xs ys a n q1 q2 q3 => ?_, fun i xs q n => ?_, r.tab⟩
  · rw [← w i _ q]; exact r.val i d q
  · rw [← w i _ q]; exact r.own i xs q
  · rw [← w i _ q]; exact r.vis i q
  · rw [← w i _ q1] at q3; rw [← w j _ q2]; exact r.dis i j xs ys a n q1 q2 q3
  · rw [← w i _ q]; exact r.dvi i xs q n
theorem owns_to (c : Clean vs s) (e : wipe σ vs = wipe σ' vs) {b : Addr} (o : Owns va s σ b) : Owns va s σ' b := by
  rcases o with ⟨i, xs, q1, q2⟩ | o
  · exact .inl ⟨i, xs, q1, by rw [← wipe_same e (c i _ q1)]; exact q2⟩
  · exact .inr o
theorem Rel.wiped (r : Rel K va s σ HP H) : Rel K va (s.wipe vs) σ HP H := by
  refine ⟨(wipeL_length _ _).trans r.len, r.sub, fun i d q => r.val i d (wipeL_some q).1, fun i xs q => r.own i xs (wipeL_some q).1, fun i q => r.vis i (wipeL_some q).1, r.vst, fun i j xs ys a n q1 q2 => r.dis i j xs ys a n (wipeL_some q1).1 (wipeL_some q2).1, fun i xs q => r.dvi i xs (wipeL_some q).1, r.tab⟩
theorem owns_wiped {b : Addr} (o : Owns va (s.wipe vs) σ b) : Owns va s σ b := by
  rcases o with ⟨i, xs, q1, q2⟩ | o
  · exact .inl ⟨i, xs, (wipeL_some q1).1, q2⟩
  · exact .inr o
theorem Rel.wst (r : Rel K va s σ HP H) : Stp K va s σ HP H (s.wipe vs) σ HP H := ⟨r.wiped, Same.refl _, fun b o h _ n => ⟨h, fun z => n (owns_wiped z), fun z => z⟩, Iff.rfl⟩
/-- a turn within the block, seen from without -/
theorem Stp.out {σ2 : St} (a : Stp K va s (L2.wipe σ vs) HP H s' σ2 HP' H') (c : Clean vs s) (e : L2.wipe σ2 vs = L2.wipe σ vs) : Stp K va s σ HP H (s'.wipe vs) σ HP' H' := by
  have e2 : L2.wipe (L2.wipe σ vs) vs = L2.wipe σ vs := wipe_wipe
  refine ⟨a.rel.wiped.to clean_wipe e, a.same, fun b o h nt n => ?_, a.via⟩
  obtain ⟨h1, h2, h3⟩ := a.keep b o h nt fun z => n (owns_to c e2 z)
  exact ⟨h1, fun z => h2 (owns_wiped (owns_to clean_wipe e.symm z)), h3⟩
/-- the heap without the list that is being made -/
def del (H : Hp) (a : Addr) : Hp := fun b => if b = a then none else H b
theorem del_ne {a b : Addr} (h : b ≠ a) : del H a b = H b := by unfold del; rw [if_neg h]
theorem del_same {a : Addr} : del H a a = none := by unfold del; rw [if_pos rfl]
theorem del_some {a b : Addr} {o : HO} (h : del H a b = some o) : b ≠ a ∧ H b = some o := by
  by_cases e : b = a
  · subst e; rw [del_same] at h; cases h
  · rw [del_ne e] at h; exact ⟨e, h⟩
theorem del_upd {a : Addr} {o : HO} (h : H a = none) : del (upd H a o) a = H := by
  funext b
  by_cases e : b = a
  · subst e; rw [del_same, h]
  · rw [del_ne e, upd_ne e]
theorem upd_del {a : Addr} {o : HO} (h : H a = some o) : upd (del H a) a o = H := by
  funext b
  by_cases e : b = a
  · subst e; rw [upd_same, h]
  · rw [upd_ne e, del_ne e]
theorem del_upd' {a : Addr} {o : HO} : del (upd H a o) a = del H a := by
  funext b
  by_cases e : b = a
  · subst e; rw [del_same, del_same]
  · rw [del_ne e, del_ne e, upd_ne e]
theorem Rel.more {a : Addr} (r : Rel K va s σ HP (del H a)) : Rel K va s σ HP H :=
  ⟨r.len, fun b o q => (del_some (r.sub b o q)).2, r.val, fun i xs q => by
    obtain ⟨b, vs, h1, h2, h3, h4⟩ := r.own i xs q
    exact ⟨b, vs, h1, h2, (del_some h3).2, h4⟩, r.vis, fun xs q => by
    obtain ⟨h1, vs, h2, h3⟩ := r.vst xs q
    exact ⟨h1, vs, (del_some h2).2, h3⟩, r.dis, r.dvi, ⟨r.tab.t.ext fun b o q => (del_some q).2, r.tab.n⟩⟩
theorem Rel.nown {a : Addr} (r : Rel K va s σ HP (del H a)) : ¬ Owns va s σ a := fun z => by
  rcases z with ⟨i, xs, q1, q2⟩ | ⟨n, e⟩
  · obtain ⟨b, vs, h1, h2, h3, h4⟩ := r.own i xs q1
    rw [q2] at h1
    injection h1 with h1; injection h1 with h1; injection h1 with h1
    exact (del_some h3).1 h1.symm
  · cases hv : s.via with
    | none => exact n hv
    | some xs =>
      obtain ⟨h1, vs, h2, h3⟩ := r.vst xs hv
      exact (del_some h2).1 e.symm
theorem tab_del {T : List (Addr × Str)} {a : Addr} {vs : List V} (t : LamX.Tabs T H) (h : H a = some (.lst vs)) : LamX.Tabs T (del H a) := fun p hp => by
  obtain ⟨ps, h1, h2, h3⟩ := t p hp
  have n1 : p.1 ≠ a := fun z => by rw [z, h] at h1; cases h1
  refine ⟨ps, by rw [del_ne n1]; exact h1, h2, fun pos cv hc => ?_⟩
  obtain ⟨c, e1, e2⟩ := h3 pos cv hc
  have n2 : c ≠ a := fun z => by
    rw [z, h] at e2
    unfold LamX.CodeO at e2
    cases e2
  exact ⟨c, e1, by rw [del_ne n2]; exact e2⟩
theorem Rel.less {a : Addr} {us : List V} (r : Rel K va s σ HP H) (n : ¬ Owns va s σ a) (nP : HP a = none) (hA : H a = some (.lst us)) : Rel K va s σ HP (del H a) :=
  ⟨r.len, fun b o q => by rw [del_ne (ne_of_none q nP)]; exact r.sub b o q, r.val, fun i xs q => by
    obtain ⟨b, vs, h1, h2, h3, h4⟩ := r.own i xs q
    have ne : b ≠ a := fun z => n (.inl ⟨i, xs, q, by rw [← z]; exact h1⟩)
    exact ⟨b, vs, h1, h2, by rw [del_ne ne]; exact h3, h4⟩, r.vis, fun xs q => by
    obtain ⟨h1, vs, h2, h3⟩ := r.vst xs q
    have ne : va.a ≠ a := fun z => n (.inr ⟨by rw [q]; simp, z.symm⟩)
    exact ⟨h1, vs, by rw [del_ne ne]; exact h2, h3⟩, r.dis, r.dvi, ⟨tab_del r.tab.t hA, r.tab.n⟩⟩
theorem Stp.del {a : Addr} {us : List V} (t : Stp K va s σ HP H s' σ' HP' H') (n : ¬ Owns va s σ a) (nP : HP a = none) (ha : H a = some (.lst us)) :
    H' a = some (.lst us) ∧ HP' a = none ∧ Stp K va s σ HP (del H a) s' σ' HP' (del H' a) := by
  obtain ⟨h1, h2, h3⟩ := t.keep a _ ha nL n
  refine ⟨h1, h3 nP, t.rel.less h2 (h3 nP) h1, t.same, fun b x q nt nb => ?_, t.via⟩
  obtain ⟨ne, q'⟩ := del_some q
  obtain ⟨y1, y2, y3⟩ := t.keep b x q' nt nb
  exact ⟨by rw [del_ne ne]; exact y1, y2, y3⟩
end
/-! targets within a block -/
section
variable {X : Cx} {W : WX} {a b c e : Expr} {es : List Expr} {pos : Pos} {vs : List Nat}
def tDGw (X : Cx) (vs : List Nat) (g : D → S → Option S) : TG := fun v σ H Q => ∃ va s HP d s', Rel X.K va s σ HP H ∧ Dv X.K HP v d ∧ g d s = some s' ∧ ∀ σ', Stp X.K va s σ HP H s' σ' HP H → wipe σ' vs = wipe σ vs → Q σ' H
def DGw (X : Cx) (vs : List Nat) (tg : Expr) (g : D → S → Option S) : Prop := PG X tg (tDGw X vs g)
def tDGsw (X : Cx) (vs : List Nat) (g : List D → S → Option S) : TGs := fun us σ H Q => ∃ va s HP ds s', Rel X.K va s σ HP H ∧ DvA X.K HP us ds ∧ g ds s = some s' ∧ ∀ σ', Stp X.K va s σ HP H s' σ' HP H → wipe σ' vs = wipe σ vs → Q σ' H
def DGsw (X : Cx) (vs : List Nat) (ts : List Expr) (g : List D → S → Option S) : Prop := PGs X ts (tDGsw X vs g)
theorem dgw_v (i : Nat) {x : Str} (hN : X.N.Nodup) (hi : X.N[i]? = some x := by rfl) (hx : Loc X.env.scope x := by first | exact Or.inl rfl | exact Or.inr rfl)
    (hf : X.fn x = true ∨ X.env.scope.names.lookup x = some .local := by first | exact .inl rfl | exact .inr rfl | assumption) (hv : i ∈ vs := by decide) : DGw X vs (.Name x pos) (fun d s => some (s.put i (.val d))) := by
  refine pg_imp (pg_name hN hi hx hf) fun v σ H Q ⟨va, s, HP, d, s', rl, dv, e, k⟩ => ?_
  cases e
  exact k _ (rl.put i dv) (wipe_set hv)
theorem dgsw_nil : DGsw X vs [] (fun ds s => match ds with | [] => some s | _ => none) := by
  refine pgs_imp pgs_nil fun v σ H Q ⟨va, s, HP, d, s', rl, dv, e, k⟩ => ?_
  cases d with
  | nil => cases dv; cases e; exact ⟨rfl, k σ (Stp.refl rl) rfl⟩
  | cons _ _ => cases e
theorem dgsw_cons {g : D → S → Option S} {gs : List D → S → Option S} (h1 : DGw X vs e g) (h2 : DGsw X vs es gs) (hs : (assignEach (e :: es) X.env).map (·.2) = assign e X.env :: (assignEach es X.env).map (·.2) := by rfl) :
    DGsw X vs (e :: es) (fun ds s => match ds with | d :: r => (g d s).bind (gs r) | _ => none) := by
  refine pgs_imp (pgs_cons h1 h2 hs) fun v σ H Q ⟨va, s, HP, ds, s', rl, dv, eq, k⟩ => ?_
  cases ds with
  | nil => cases eq
  | cons d r =>
    cases dv with
    | @cons v us _ _ h1 h2 =>
      refine ⟨v, us, rfl, ?_⟩
      have eq' : (g d s).bind (gs r) = some s' := eq
      cases q : g d s with
      | none => rw [q] at eq'; cases eq'
      | some s1 =>
        rw [q] at eq'
        exact ⟨va, s, HP, d, s1, rl, h1, q, fun σ1 st1 w1 => ⟨va, s1, HP, r, s', st1.rel, h2, eq', fun σ2 st2 w2 => k σ2 (st1.trans st2) (w2.trans w1)⟩⟩
theorem dgw_tup {k n : Nat} {gs : List D → S → Option S} (hc : X.calm = true) (h : DGsw X vs es gs) (hn : (assignEach es X.env).length = n := by rfl) (hst : (assignEach es X.env).findIdx? (·.1) = none := by rfl) : DGw X vs (.Tuple es k pos) (unT n gs) := by
  refine pg_imp (pg_tup hc h hn hst) fun v σ H Q ⟨va, s, HP, d, s', rl, dv, eq, k⟩ => ?_
  unfold unT at eq
  split at eq
  · split at eq
    · cases dv with
      | @tup a us ds h1 hz h2 => exact ⟨a, us, rfl, SqT.of (rl.sub _ _ h1), by rw [h2.length]; assumption, va, s, HP, _, s', rl, h2, eq, k⟩
    · cases eq
  · cases eq
end
def compL (vs : List Nat) (g : D → S → Option S) (t : S → R Bool) (f : S → R D) : List D → List D → S → R (List D)
  | [], acc, s => .ok acc s
  | d :: ds, acc, s => match g d s with
    | none => .stuck
    | some s1 => match t s1 with
      | .ok k s2 => if k = true then (match f s2 with
        | .ok y s3 => compL vs g t f ds (acc ++ [y]) (s3.wipe vs)
        | _ => .stuck) else compL vs g t f ds acc (s2.wipe vs)
      | _ => .stuck
def WF : WX := fun _ _ _ _ => False
theorem wf_takes {X : Cx} : Takes X WF := fun _ _ x => by
  obtain ⟨_, _, _, _, _, _, _, _, _, _, _, _, _, _, _, _, z⟩ := x
  exact z.elim
def DTs (X : Cx) (W : WX) (ifs : List Expr) (f : S → R Bool) : Prop := PTs X ifs (tDT X W f)
section
variable {X : Cx} {W : WX} {a b c e elt tg iter : Expr} {ifs : List Expr} {pos : Pos} {fi : S → R (List D)} {g : D → S → Option S} {t : S → R Bool} {f : S → R D} {scope : Scope} {own : List (Str × Nat)}
theorem dts_nil : DTs X W [] (fun s => .ok true s) := ⟨fun pins s σ H Q I h => by
  obtain ⟨va, st, HP, rl, h⟩ := h
  exact pts_nil.run pins s σ H Q I (h.fin rl)⟩
theorem dts_one (h : DT X W c t) : DTs X W [c] t := pts_one h
/-- the reading of a comprehension -/
theorem lc_read {vs : List Nat} {XB : Cx} (hK : XB.K = X.K) (hM : XB.mg = X.mg) {σ : St} {H : Hp} {Q : VK} (h : tDE X W (fun s => (fi s).bind fun ds s => (compL vs g t f ds [] (s.wipe vs)).bind fun ys s => .ok (.lst ys) s) σ H Q) :
    tLc (tDI X W fi) (tDGw XB vs g) (tDT XB WF t) (tDE XB WF f) vs σ H Q := by
  obtain ⟨va, s, HP, rl, h⟩ := h
  dsimp only at h
  refine ⟨va, s, HP, rl, ?_⟩
  cases ei : fi s with
  | stuck => rw [ei] at h; exact h
  | exc n p s' => rw [ei] at h; exact h
  | ok ds s1 =>
    rw [ei] at h
    intro J H1 HP1 st1 hz hw D0 nD
    have h1 : PoE X W va (s1.wipe vs) σ HP1 H1 ((compL vs g t f ds [] (s1.wipe vs)).bind fun ys s => .ok (.lst ys) s) Q := PoE.from (st1.trans st1.rel.wst) h
    refine ⟨fun i m H => ∃ s HP acc ys, m = ds.length - i ∧ i ≤ ds.length ∧ H D0 = some (.lst acc) ∧ ys.length ≤ i ∧ HP D0 = none ∧ Rel X.K va s σ HP (del H D0) ∧ Same HP1 HP ∧ Clean vs s ∧ DvA X.K HP acc ys ∧
      PoE X W va s σ HP (del H D0) ((compL vs g t f (ds.drop i) ys s).bind fun ys s => .ok (.lst ys) s) Q,
      ⟨ds.length, s1.wipe vs, HP1, [], [], by simp, Nat.zero_le _, upd_same, Nat.le_refl _, st1.rel.sub.free nD, by rw [del_upd nD]; exact st1.rel.wiped, Same.refl _, clean_wipe, .nil, by rw [del_upd nD]; exact h1⟩, ?_⟩
    rintro i m H2 ⟨s2, HP2, acc, ys, rfl, hle, hD, hy, nP, r2, sm, cl, dv, p2⟩
    have r2' := r2.more
    have no := r2.nown
    obtain ⟨w1, w2⟩ := hw i HP2 H2 sm r2'.sub
    by_cases hlt : i < ds.length
    · have hd : ds[i]? = some ds[i] := List.getElem?_eq_getElem hlt
      obtain ⟨hgo, hyl⟩ := w1 _ hd
      rw [List.drop_eq_getElem_cons hlt] at p2
      unfold compL at p2
      refine .inr ⟨hgo, fun H' => ∃ s HP acc ys, H' D0 = some (.lst acc) ∧ ys.length ≤ i + 1 ∧ HP D0 = none ∧ Rel X.K va s σ HP (del H' D0) ∧ Same HP1 HP ∧ Clean vs s ∧ DvA X.K HP acc ys ∧
        PoE X W va s σ HP (del H' D0) ((compL vs g t f (ds.drop (i + 1)) ys s).bind fun ys s => .ok (.lst ys) s) Q,
        fun H' ⟨s', HP', acc', ys', q⟩ => ⟨ds.length - (i + 1), by omega, s', HP', acc', ys', rfl, hlt, q⟩, fun x H' y => ?_⟩
      obtain ⟨HP', dx, stp⟩ := hyl x H' y
      have rw' : Rel X.K va s2 (wipe σ vs) HP2 H2 := r2'.to cl wipe_wipe.symm
      have st3 := stp va s2 (wipe σ vs) rw'
      cases eg : g ds[i] s2 with
      | none => rw [eg] at p2; exact p2.elim
      | some s4 =>
        rw [eg] at p2
        dsimp only at p2
        refine ⟨va, s2, HP', _, s4, by rw [hK]; exact st3.rel, by rw [hK]; exact dx, eg, fun σ4 st4 hw4 => ⟨hw4.trans wipe_wipe, ?_⟩⟩
        rw [hK] at st4
        have e4 : wipe σ4 vs = wipe σ vs := hw4.trans wipe_wipe
        have st34 := st3.trans st4
        refine ⟨va, s4, HP', by rw [hK]; exact st4.rel, ?_⟩
        cases et : t s4 with
        | stuck => rw [et] at p2; exact p2
        | exc n p s' => rw [et] at p2; exact p2.elim
        | ok k s5 =>
          rw [et] at p2
          dsimp only at p2
          intro H5 HP5 st5
          rw [hK] at st5
          have st35 := st34.trans st5
          cases k with
          | false =>
            rw [if_neg Bool.false_ne_true] at p2 ⊢
            have so := st35.out cl e4
            obtain ⟨y1, y2, y3⟩ := so.del no nP hD
            exact ⟨s5.wipe vs, HP5, acc, ys, y1, by omega, y2, y3.rel, sm.trans so.same, clean_wipe, DvA.mono so.same ys acc dv, PoE.from y3 p2⟩
          | true =>
            rw [if_pos rfl] at p2 ⊢
            refine ⟨va, s5, HP5, by rw [hK]; exact st5.rel, ?_⟩
            cases ef : f s5 with
            | stuck => rw [ef] at p2; exact p2
            | exc n p s' => rw [ef] at p2; exact p2.elim
            | ok d s6 =>
              rw [ef] at p2
              dsimp only at p2
              intro v6 H6 HP6 st6 dv6
              rw [hK] at st6 dv6
              have so := (st35.trans st6).out cl e4
              obtain ⟨y1, y2, y3⟩ := so.del no nP hD
              have dacc := DvA.mono so.same ys acc dv
              refine ⟨acc, y1, by rw [dacc.length]; omega, s6.wipe vs, HP6, acc ++ [v6], ys ++ [d], upd_same, by rw [List.length_append, List.length_singleton]; omega, y2, by rw [del_upd']; exact y3.rel, sm.trans so.same, clean_wipe, dacc.append (.cons dv6 .nil), by rw [del_upd']; exact PoE.from y3 p2⟩
    · have e : ds.drop i = [] := List.drop_eq_nil_of_le (by omega)
      rw [e] at p2
      refine .inl ⟨w2 (by omega), ?_⟩
      have q := fin_lst (p2 : PoE X W va s2 σ HP2 (del H2 D0) (.ok (.lst ys) s2) Q) r2 dv (by omega) D0 del_same
      rw [upd_del hD] at q
      exact q
theorem de_lc (vs : List Nat) (hc : X.calm = true) (hN : X.N.Nodup) (hi : DI X W tg iter fi) (ok : BlkOk X.N X.env.scope scope own)
    (hg : ∀ (s : Shared) (H : Hp) (C : Addr) (cl : List (Str × Addr)) (fp : List Addr), DGw (X.blk s H scope (compEnvC scope cl C X.env) fp) vs tg g) (ht : ∀ (s : Shared) (H : Hp) (C : Addr) (cl : List (Str × Addr)) (fp : List Addr), DTs (X.blk s H scope (compEnvC scope cl C X.env) fp) WF ifs t)
    (he : ∀ (s : Shared) (H : Hp) (C : Addr) (cl : List (Str × Addr)) (fp : List Addr), DE (X.blk s H scope (compEnvC scope cl C X.env) fp) WF elt f) (hs : ∀ x, foldedSetIterable iter X.env x = pure x := by intro _; rfl) (hv : own.map (·.2) = vs := by rfl) :
    DE X W (.ListComp elt [⟨tg, iter, ifs, 0⟩] scope pos) (fun s => (fi s).bind fun ds s => (compL vs g t f ds [] (s.wipe vs)).bind fun ys s => .ok (.lst ys) s) := by
  subst hv
  exact pe_imp (pe_lc (g := tDGw X (own.map fun q : Str × Nat => q.2) g) (tt := tDT X WF t) (te := tDE X WF f) hc hN hi ok hg ht he hs) fun σ H Q h => lc_read (XB := X) rfl rfl h
/-- y = [..] -/
theorem ds_setlc (vs : List Nat) (i : Nat) {y : Str} {py spos : Pos} (hc : X.calm = true) (hN : X.N.Nodup) (hi : DI X W tg iter fi) (ok : BlkOk X.N X.env.scope scope own)
    (hg : ∀ (s : Shared) (H : Hp) (C : Addr) (cl : List (Str × Addr)) (fp : List Addr), DGw (X.blk s H scope (compEnvC scope cl C X.env) fp) vs tg g) (ht : ∀ (s : Shared) (H : Hp) (C : Addr) (cl : List (Str × Addr)) (fp : List Addr), DTs (X.blk s H scope (compEnvC scope cl C X.env) fp) WF ifs t)
    (he : ∀ (s : Shared) (H : Hp) (C : Addr) (cl : List (Str × Addr)) (fp : List Addr), DE (X.blk s H scope (compEnvC scope cl C X.env) fp) WF elt f)
    (hsw : swapsWith (.ListComp elt [⟨tg, iter, ifs, 0⟩] scope pos) (some (.Name y py)) spos.line X.env = pure true) (hy : X.N[i]? = some y := by rfl) (hyl : X.env.scope.names.lookup y = some .local := by rfl)
    (hs : ∀ x, foldedSetIterable iter X.env x = pure x := by intro _; rfl) (hv : own.map (·.2) = vs := by rfl) :
    DS X W (.Assign [.Name y py] (.ListComp elt [⟨tg, iter, ifs, 0⟩] scope pos) spos) (fun s => ((fi s).bind fun ds s => (compL vs g t f ds [] (s.wipe vs)).bind fun ys s => .ok (.lst ys) s).thn fun d s => .next (s.put i (.val d))) := by
  subst hv
  refine ps_imp (ps_setLc (g := tDGw X (own.map fun q : Str × Nat => q.2) g) (tt := tDT X WF t) (te := tDE X WF f) hc hN hy hyl hsw hi ok hg ht he hs) fun D σ H h => ?_
  obtain ⟨va, s, HP, rl, h⟩ := h
  exact lc_read (X := X) (XB := X) rfl rfl (bindES rl h fun d s1 v H1 HP1 st1 d1 h1 => h1 _ H1 HP1 (st1.rel.put i d1))
end
end DL

namespace DL
open PySem PySem.Spec PyProof.Rows L2
/-! ## what stands behind the top -/
/-- the def x of the text keeps m -/
def Has (P : Program) (w : World) (K : PySem.W.Frag) (mg : Str → Option Value) (base : Heap) (k : Nat) (x : Str) (ps : List Str) (m : FM) : Prop :=
  ∃ f fd, FnD P w K mg base k f fd ps m ∧ mg x = some (.ref f) ∧ PySem.W.keepIn K (.ref f) = true ∧ Binds K fd ps []
theorem Has.re {P : Program} {w : World} {K : PySem.W.Frag} {mg : Str → Option Value} {base : Heap} {k : Nat} {x : Str} {ps : List Str} {m m' : FM} (G : Has P w K mg base k x ps m) (h : ∀ ds v, m' ds v ≠ .stuck → m ds v = m' ds v) : Has P w K mg base k x ps m' := by
  obtain ⟨f, fd, g, r⟩ := G
  exact ⟨f, fd, g.re h, r⟩
theorem Has.frz {P : Program} {w : World} {K : PySem.W.Frag} {mg : Str → Option Value} {base : Heap} {k : Nat} {x : Str} {ps : List Str} {m : FM} (G : Has P w K mg base k x ps m) : Has P w K mg base k x ps (fun ds v => (m ds v).frz) := by
  obtain ⟨f, fd, g, r⟩ := G
  exact ⟨f, fd, g.frz, r⟩
theorem Has.up {P : Program} {w : World} {K : PySem.W.Frag} {mg : Str → Option Value} {base : Heap} {k j : Nat} {x : Str} {ps : List Str} {m : FM} (G : Has P w K mg base k x ps m) (h : k ≤ j) : Has P w K mg base j x ps m := by
  obtain ⟨f, fd, g, r⟩ := G
  exact ⟨f, fd, g.mono h, r⟩
/-- how the def x stands there -/
structure Stand (K : PySem.W.Frag) (mg : Str → Option Value) (x : Str) (st : Stmt) (ps : List Str) (f : Addr) (fd : FuncData) : Prop where
  F : Fun K x x st f fd
  g : mg x = some (.ref f)
  b : Binds K fd ps []
def There (K : PySem.W.Frag) (mg : Str → Option Value) (x : Str) (st : Stmt) (ps : List Str) : Prop := ∃ f fd, Stand K mg x st ps f fd
section
variable {P : Program} {w : World} {K : PySem.W.Frag} {mg : Str → Option Value} {base : Heap}
theorem tkX {N : List Str} {q : Str} {sc : Scope} {f : Addr} {cdv : Value} {A : Around} {outer : List Env} {s : Shared} {H : Hp} {E : XK} : Takes (cxOf (L2.CX P w) P w K mg base N q sc f cdv A outer s H E) (fun cls d _ H => E cls d H) := takes_of rfl rfl rfl rfl
theorem hpX {N : List Str} {q : Str} {sc : Scope} {f : Addr} {cdv : Value} {A : Around} {outer : List Env} {s : Shared} {H : Hp} {E : XK} : PassesOwn (model (cxOf (L2.CX P w) P w K mg base N q sc f cdv A outer s H E).prog (cxOf (L2.CX P w) P w K mg base N q sc f cdv A outer s H E).w) (cxOf (L2.CX P w) P w K mg base N q sc f cdv A outer s H E).A (cxOf (L2.CX P w) P w K mg base N q sc f cdv A outer s H E).env (cxOf (L2.CX P w) P w K mg base N q sc f cdv A outer s H E).xe := passes_of rfl
theorem has_of {x : Str} {st : Stmt} {N ps : List Str} {k : Nat} {m : FM} (T : There K mg x st ps) (Sc : FnScope N ps (defScope st))
    (body : ∀ (f : Addr) (cdv : Value) (A : Around) (outer : List Env) (s : Shared) (H : Hp) (E : XK), Room k (A.deeper (envOfC x (defScope st) s.heap.objs.size f cdv)) → Takes (cxOf (L2.CX P w) P w K mg base N x (defScope st) f cdv A outer s H E) (fun cls d _ H => E cls d H) → PassesOwn (model (cxOf (L2.CX P w) P w K mg base N x (defScope st) f cdv A outer s H E).prog (cxOf (L2.CX P w) P w K mg base N x (defScope st) f cdv A outer s H E).w) (cxOf (L2.CX P w) P w K mg base N x (defScope st) f cdv A outer s H E).A (cxOf (L2.CX P w) P w K mg base N x (defScope st) f cdv A outer s H E).env (cxOf (L2.CX P w) P w K mg base N x (defScope st) f cdv A outer s H E).xe →
      ∃ f', DSs (cxOf (L2.CX P w) P w K mg base N x (defScope st) f cdv A outer s H E) (fun cls d _ H => E cls d H) (defBody st) f' ∧ ∀ ds v, m ds v ≠ .stuck → (f' (stD N ds v)).fin = m ds v) :
    Has P w K mg base (k + 1) x ps m := by
  obtain ⟨f, fd, S⟩ := T
  exact ⟨f, fd, fn_d S.F Sc fun cdv A outer s H E hr => body f cdv A outer s H E hr tkX hpX, S.g, S.F.kp, S.b⟩
/-- what its body is worth, as the rules tell it -/
theorem has_any {x : Str} {st : Stmt} {N ps : List Str} {k : Nat} {f' : S → T} (T : There K mg x st ps) (Sc : FnScope N ps (defScope st))
    (body : ∀ (f : Addr) (cdv : Value) (A : Around) (outer : List Env) (s : Shared) (H : Hp) (E : XK), Room k (A.deeper (envOfC x (defScope st) s.heap.objs.size f cdv)) → Takes (cxOf (L2.CX P w) P w K mg base N x (defScope st) f cdv A outer s H E) (fun cls d _ H => E cls d H) → PassesOwn (model (cxOf (L2.CX P w) P w K mg base N x (defScope st) f cdv A outer s H E).prog (cxOf (L2.CX P w) P w K mg base N x (defScope st) f cdv A outer s H E).w) (cxOf (L2.CX P w) P w K mg base N x (defScope st) f cdv A outer s H E).A (cxOf (L2.CX P w) P w K mg base N x (defScope st) f cdv A outer s H E).env (cxOf (L2.CX P w) P w K mg base N x (defScope st) f cdv A outer s H E).xe →
      DSs (cxOf (L2.CX P w) P w K mg base N x (defScope st) f cdv A outer s H E) (fun cls d _ H => E cls d H) (defBody st) f') :
    Has P w K mg base (k + 1) x ps (fun ds v => (f' (stD N ds v)).fin) :=
  has_of T Sc fun f cdv A outer s H E hr tk hp => ⟨f', body f cdv A outer s H E hr tk hp, fun ds v _ => rfl⟩
end
section
variable {X : Cx} {W : WX} {a b c e : Expr} {es : List Expr} {fa fb fc : S → R D} {ga : S → R (List D)} {pos p : Pos} {k n : Nat} {ps : List Str} {m : FM} {x : Str} {st : Stmt}
theorem dc (G : Has X.prog X.w X.K X.mg X.base k x ps m) (tk : Takes X W) (hr : Room k X.A) (ha : DA X W (e :: es) ga)
    (hg : Gl X x := by rfl) (hdb : (x == ("__debug__" : Str)) = false := by decide) (he : starEach (e :: es) X.env = (false, eval e X.env) :: starEach es X.env := by rfl) (hpl : (backTo pos (starEach es X.env)).any (·.1) = false := by rfl) :
    DE X W (.Call (.Name x p) (e :: es) [] pos) (fun s => (ga s).bind fun ds s => callP m ps.length ds s) := by
  obtain ⟨f, fd, F, hm, hk, hb⟩ := G
  exact de_call F hr tk hm hk hb ha hg hdb he hpl
theorem dcv (i : Nat) {y : Str} {py : Pos} (G : Has X.prog X.w X.K X.mg X.base k x ps m) (tk : Takes X W) (hr : Room k X.A) (ha : DA X W es ga)
    (hN : X.N[i]? = some y := by rfl) (hv : Vis X.env.scope y := by first | exact Or.inl rfl | exact Or.inr (Or.inl rfl) | exact Or.inr (Or.inr rfl)) (hd : (y == ("__debug__" : Str)) = false := by decide) (hcd : (y == ("__classdict__" : Str)) = false := by decide)
    (hg : Gl X x := by rfl) (hdb : (x == ("__debug__" : Str)) = false := by decide) (he : starEach (.Name y py :: es) X.env = (false, eval (.Name y py) X.env) :: starEach es X.env := by rfl) (hpl : (backTo pos (starEach es X.env)).any (·.1) = false := by rfl) :
    DE X W (.Call (.Name x p) (.Name y py :: es) [] pos) (fun s => if (refS i s).isSome = true then (ga s).bind fun ds s => callV i m ps.length ds s else .stuck) := by
  obtain ⟨f, fd, F, hm, hk, hb⟩ := G
  exact de_callv i F hr tk hm hk hb ha hN hv hd hcd hg hdb he hpl
theorem dcO (i : Nat) {y : Str} {py pos' : Pos} (G : Has X.prog X.w X.K X.mg X.base k x ps m) (tk : Takes X W) (hr : Room k X.A) (hN : X.N.Nodup) (ha : DA X W (e :: es) ga)
    (hi : X.N[i]? = some y := by rfl) (hx : Loc X.env.scope y := by first | exact Or.inl rfl | exact Or.inr rfl) (hs : swapsWith (.Call (.Name x p) (e :: es) [] pos) (some (.Name y py)) pos'.line X.env = pure false := by rfl)
    (hf : X.fn y = true ∨ X.env.scope.names.lookup y = some .local := by first | exact .inl rfl | exact .inr rfl | assumption)
    (hg : Gl X x := by rfl) (hdb : (x == ("__debug__" : Str)) = false := by decide) (he : starEach (e :: es) X.env = (false, eval e X.env) :: starEach es X.env := by rfl) (hpl : (backTo pos (starEach es X.env)).any (·.1) = false := by rfl) :
    DS X W (.Assign [.Name y py] (.Call (.Name x p) (e :: es) [] pos) pos') (fun s => (ga s).thn fun ds s => asgO i m ps.length ds s) := by
  obtain ⟨f, fd, F, hm, hk, hb⟩ := G
  exact ds_ownc i F hr tk hN hm hk hb ha hi hx hs hf hg hdb he hpl
theorem de_never : DE X W e (fun _ => .stuck) := ⟨fun _ _ _ _ _ _ ⟨_, _, _, _, h⟩ => h.elim⟩
theorem ds_never : DS X W st (fun _ => .stuck) := ⟨fun _ _ _ _ _ _ ⟨_, _, _, _, h⟩ => h.elim⟩
/-- an int constant of the module -/
def GInt (mg : Str → Option Value) (x : Str) (i : Int) : Prop := ∃ t, mg x = some (.int i t)
theorem dgi {i : Int} (h : GInt X.mg x i) (hg : Gl X x := by rfl) (hd : (x == ("__debug__" : Str)) = false := by decide) : DE X W (.Name x pos) (fun s => .ok (.int i) s) := by
  obtain ⟨t, h⟩ := h
  exact de_gint hg h hd
def GStr (mg : Str → Option Value) (x : Str) (i : Str) : Prop := ∃ t, mg x = some (.str i t)
theorem dgs {i : Str} (h : GStr X.mg x i) (hg : Gl X x := by rfl) (hd : (x == ("__debug__" : Str)) = false := by decide) : DE X W (.Name x pos) (fun s => .ok (.str i) s) := by
  obtain ⟨t, h⟩ := h
  exact de_gstr hg h hd
/-! ## raise -/
/-- an own exception class without own __init__ -/
structure ExC (K : PySem.W.Frag) (mg : Str → Option Value) (x : Str) (C : Addr) : Prop where
  g : mg x = some (.ref C)
  q : PySem.W.excIn K C [.type "ValueError", .type "Exception", .type "BaseException", .type "object"] "ValueError.__new__" = true
  k : PySem.W.keepIn K (.ref C) = true
  b : PySem.W.subIn K (.ref C) (.type "BaseException") = some true
  t : PySem.W.typeIn K (.ref C) = some (.type "type")
theorem ds_raise {z : Str} {j : Nat} {p2 p3 : Pos} {C : Addr} (T : ExC X.K X.mg x C) (tk : Takes X W) (hc : X.calm = true := by rfl) (hg : Gl X x := by rfl) (hdb : (x == ("__debug__" : Str)) = false := by decide) :
    DS X W (.Raise (some (.Call (.Name x p) [.Constant (.str z) j p2] [] p3)) none pos) (fun s => .exc x none s) := by
  refine ps_imp (ps_raise hc tk (pmk_own PySem.F.excBase_ValueError T.q T.g T.k (raises_own T.b T.t) hg hdb)) fun D σ H ⟨va, s, HP, rl, h⟩ => ?_
  exact h none σ H HP C (Stp.refl rl) rfl T.g
end
/-! ## the law -/
/-- a heap without its tables -/
def noTab (H : Hp) : Hp := fun b => match H b with
  | some (.tbl _) => none
  | o => o
theorem noTab_sub (H : Hp) : Same (noTab H) H := fun b o e => by
  unfold noTab at e
  split at e
  · cases e
  · exact e
theorem noTab_n (H : Hp) : ∀ b ps, noTab H b ≠ some (.tbl ps) := fun b ps e => by
  unfold noTab at e
  split at e
  · cases e
  · rename_i h; exact h _ e
theorem noTab_of {H : Hp} {b : Addr} {o : HO} (h : H b = some o) (n : ∀ ps, o ≠ .tbl ps) : noTab H b = some o := by
  unfold noTab
  split
  · rename_i ps q; rw [h] at q; exact absurd (Option.some.inj q) (n ps)
  · exact h
theorem seq_noTab {K : PySem.W.Frag} {H : Hp} {a : Addr} {xs : List V} (h : SqL K H a xs) : SqL K (noTab H) a xs := by
  rcases h with (h | ⟨o, h⟩) | h
  · exact .inl (.inl (noTab_of h fun _ z => nomatch z))
  · exact .inl (.inr ⟨o, noTab_of h fun _ z => nomatch z⟩)
  · exact .inr h
def spLaw (K : PySem.W.Frag) : Sp := fun vs H Q _ => ∃ (a : Addr) (ns : List Int), vs = [.ref a] ∧ SqL K H a (ns.map V.int) ∧ ns.length ≤ 63 ∧ LamX.Tabs lamT H ∧ ∀ H', Q (.bl true) H'
theorem law_has {P : Program} {w : World} {K : PySem.W.Frag} {mg : Str → Option Value} {base : Heap} {k : Nat} {f : Addr} {fd : FuncData} {ps : List Str} {m : FM} (hp : ps.length = 1) (F : FnD P w K mg base k f fd ps m) (h : ∀ ns : List Int, ns.length ≤ 63 → m [.scr ns] none = .ok (.bl true) none) :
    FnOk P w K mg base (L2.CX P w) k f fd ps (spLaw K) :=
  F.imp fun vs H Q E ⟨a, ns, e, hs, hl, tb, q⟩ => by
    subst e
    refine ⟨⟨a⟩, noTab H, [.scr ns], none, [.ref a], by rw [hp]; rfl, noTab_sub H, .cons (.scr (seq_noTab hs)) .nil, rfl, ⟨tb, noTab_n H⟩, ?_⟩
    rw [h ns hl]
    intro v H' HP' _ dv
    cases dv
    exact q H'
theorem cx_none {P : Program} {w : World} {H : Hp} {s s' : Shared} {e : Value} (c : L2.CX P w [] H s (fun _ _ _ => False) e s') : False := by
  obtain ⟨_, _, _, _, _, _, _, _, _, _, _, _, z⟩ := c
  exact z.elim
end DL

namespace DL
open PySem PySem.Spec PyProof.Rows L2
/-! ## how tellings are reckoned -/
def getL (o : Option (Option Sl)) (i : Nat) (s : S) : R D := match o with
  | some (some (.val d)) => .ok d s
  | some (some (.own xs)) => .ok (.lst xs) (s.put i (.val (.lst xs)))
  | _ => .stuck
@[simp] theorem getS_mk (i : Nat) (l : List (Option Sl)) (w : Option (List D)) : getS i ⟨l, w⟩ = getL l[i]? i ⟨l, w⟩ := rfl
@[simp] theorem getL_val (i : Nat) (s : S) (d : D) : getL (some (some (.val d))) i s = .ok d s := rfl
@[simp] theorem getL_own (i : Nat) (s : S) (d : List D) : getL (some (some (.own d))) i s = .ok (.lst d) (s.put i (.val (.lst d))) := rfl
def refL (o : Option (Option Sl)) (w : Option (List D)) : Option (List D) := match o with
  | some (some .via) => w
  | some (some (.own xs)) => some xs
  | _ => none
@[simp] theorem refS_mk (i : Nat) (l : List (Option Sl)) (w : Option (List D)) : refS i ⟨l, w⟩ = refL l[i]? w := rfl
@[simp] theorem refL_via (w : Option (List D)) : refL (some (some .via)) w = w := rfl
@[simp] theorem refL_own (w : Option (List D)) (xs : List D) : refL (some (some (.own xs))) w = some xs := rfl
def ownL (o : Option (Option Sl)) : Bool := match o with
  | some (some (.own _)) => true
  | _ => false
@[simp] theorem isOwn_mk (i : Nat) (l : List (Option Sl)) (w : Option (List D)) : isOwn i ⟨l, w⟩ = ownL l[i]? := rfl
@[simp] theorem ownL_own (xs : List D) : ownL (some (some (.own xs))) = true := rfl
def setL (o : Option (Option Sl)) (i : Nat) (xs : List D) (s : S) : S := match o with
  | some (some .via) => ⟨s.sl, some xs⟩
  | _ => s.put i (.own xs)
@[simp] theorem setRef_mk (i : Nat) (xs : List D) (l : List (Option Sl)) (w : Option (List D)) : S.setRef i xs ⟨l, w⟩ = setL l[i]? i xs ⟨l, w⟩ := rfl
@[simp] theorem setL_via (i : Nat) (xs : List D) (s : S) : setL (some (some .via)) i xs s = ⟨s.sl, some xs⟩ := rfl
@[simp] theorem setL_own (i : Nat) (xs ys : List D) (s : S) : setL (some (some (.own ys))) i xs s = s.put i (.own xs) := rfl
@[simp] theorem wipe_mk (vs : List Nat) (l : List (Option Sl)) (w : Option (List D)) : S.wipe vs ⟨l, w⟩ = ⟨wipeL l vs, w⟩ := rfl
@[simp] theorem wipeL_nil (l : List (Option Sl)) : wipeL l [] = l := rfl
@[simp] theorem wipeL_cons (l : List (Option Sl)) (v : Nat) (vs : List Nat) : wipeL l (v :: vs) = (wipeL l vs).set v none := rfl
@[simp] theorem apnd_mk (i : Nat) (d : D) (l : List (Option Sl)) (w : Option (List D)) (xs : List D) (h : l[i]? = some (some (.own xs))) (hz : xs.length < sizeLine) : apnd i d ⟨l, w⟩ = .next ⟨l.set i (some (.own (xs ++ [d]))), w⟩ := by
  unfold apnd
  show (match l[i]? with | some (some (.own xs)) => _ | _ => _) = _
  rw [h]
  exact if_pos hz
@[simp] theorem stD_none (N : List Str) (ds : List D) : stD N ds none = ⟨ds.map (fun d => some (Sl.val d)) ++ List.replicate (N.length - ds.length) none, none⟩ := rfl
@[simp] theorem stD_some (N : List Str) (ds xs : List D) : stD N ds (some xs) = ⟨some .via :: (ds.map (fun d => some (Sl.val d)) ++ List.replicate (N.length - (ds.length + 1)) none), some xs⟩ := rfl
@[simp] theorem lt_int (i j : Int) : opLt (.int i) (.int j) = some (.bl (decide (i < j))) := rfl
@[simp] theorem le_int (i j : Int) : opLe (.int i) (.int j) = some (.bl (decide (i ≤ j))) := rfl
@[simp] theorem gt_int (i j : Int) : opGt (.int i) (.int j) = some (.bl (decide (j < i))) := rfl
@[simp] theorem ge_int (i j : Int) : opGe (.int i) (.int j) = some (.bl (decide (j ≤ i))) := rfl
@[simp] theorem add_int (i j : Int) : opAdd (.int i) (.int j) = some (.int (i + j)) := rfl
@[simp] theorem sub_int (i j : Int) : opSub (.int i) (.int j) = some (.int (i - j)) := rfl
@[simp] theorem neg_int (i : Int) : opNeg (.int i) = some (.int (-i)) := rfl
theorem mod_pos (i j : Int) (h : 0 < j) : opMod (.int i) (.int j) = some (.int (i % j)) := if_pos h
theorem div_pos (i j : Int) (h : 0 < j) (h2 : j.natAbs.log2 < 9000) : opDiv (.int i) (.int j) = some (.int (i / j)) := if_pos ⟨h, h2⟩
theorem mul_ok (i j : Int) (h : okMul i j = true) : opMul (.int i) (.int j) = some (.int (i * j)) := if_pos h
@[simp] theorem ix_tup' (xs : List D) (i : Int) : opIx (.tup xs) (.int i) = atI xs i := rfl
@[simp] theorem ix_lst' (xs : List D) (i : Int) : opIx (.lst xs) (.int i) = atI xs i := rfl
@[simp] theorem ix_scr' (xs : List Int) (i : Int) : opIx (.scr xs) (.int i) = (atI xs i).map .int := rfl
theorem at_n {α : Type} (xs : List α) (n : Nat) : atI xs (n : Int) = xs[n]? := by
  unfold atI ixN
  rw [if_pos (Int.natCast_nonneg n)]
  by_cases h : n < xs.length
  · rw [if_pos (by omega)]; rfl
  · rw [if_neg (by omega), List.getElem?_eq_none_iff.mpr (by omega)]; rfl
theorem at_of {α : Type} (xs : List α) (i : Int) (h : 0 ≤ i) : atI xs i = xs[i.toNat]? := by
  have := at_n xs i.toNat
  rwa [Int.toNat_of_nonneg h] at this
@[simp] theorem at_0 {α : Type} (xs : List α) : atI xs 0 = xs[0]? := at_n xs 0
@[simp] theorem at_1 {α : Type} (xs : List α) : atI xs 1 = xs[1]? := at_n xs 1
@[simp] theorem at_2 {α : Type} (xs : List α) : atI xs 2 = xs[2]? := at_n xs 2
@[simp] theorem at_3 {α : Type} (xs : List α) : atI xs 3 = xs[3]? := at_n xs 3
@[simp] theorem at_4 {α : Type} (xs : List α) : atI xs 4 = xs[4]? := at_n xs 4
@[simp] theorem at_5 {α : Type} (xs : List α) : atI xs 5 = xs[5]? := at_n xs 5
@[simp] theorem len_lst (xs : List D) : gLen [.lst xs] = some (.int xs.length) := rfl
@[simp] theorem len_tup (xs : List D) : gLen [.tup xs] = some (.int xs.length) := rfl
@[simp] theorem len_scr (xs : List Int) : gLen [.scr xs] = some (.int xs.length) := rfl
@[simp] theorem int_int (i : Int) : gInt [.int i] = some (.int i) := rfl
@[simp] theorem int_bl (i : Bool) : gInt [.bl i] = some (.int (if i then 1 else 0)) := rfl
@[simp] theorem abs_int (i : Int) : gAbs [.int i] = some (.int (if i < 0 then -i else i)) := rfl
@[simp] theorem min_int (i j : Int) : gMin [.int i, .int j] = some (.int (min i j)) := rfl
@[simp] theorem max_int (i j : Int) : gMax [.int i, .int j] = some (.int (max i j)) := rfl
@[simp] theorem tup_lst (xs : List D) : gTup [.lst xs] = some (.tup xs) := rfl
@[simp] theorem tup_tup (xs : List D) : gTup [.tup xs] = some (.tup xs) := rfl
@[simp] theorem lst_lst (xs : List D) : gLst [.lst xs] = some (.lst xs) := rfl
@[simp] theorem lst_tup (xs : List D) : gLst [.tup xs] = some (.lst xs) := rfl
theorem eq_okd {a b : D} (h1 : okd 60 a = true) (h2 : okd 60 b = true) : opEq a b = some (.bl (deq a b)) := by unfold opEq; rw [h1, h2]; rfl
theorem ne_okd {a b : D} (h1 : okd 60 a = true) (h2 : okd 60 b = true) : opNe a b = some (.bl (!deq a b)) := by unfold opNe; rw [h1, h2]; rfl
@[simp] theorem eq_int' (i j : Int) : opEq (.int i) (.int j) = some (.bl (i == j)) := by rw [eq_okd (by simp [okd]) (by simp [okd])]; rfl
@[simp] theorem ne_int' (i j : Int) : opNe (.int i) (.int j) = some (.bl (!(i == j))) := by rw [ne_okd (by simp [okd]) (by simp [okd])]; rfl
theorem eq_str' {x y : Str} (h1 : PyData.strOk x = true) (h2 : PyData.strOk y = true) : opEq (.str x) (.str y) = some (.bl (x == y)) := by rw [eq_okd (by simpa [okd] using h1) (by simpa [okd] using h2)]; rfl
theorem ne_str' {x y : Str} (h1 : PyData.strOk x = true) (h2 : PyData.strOk y = true) : opNe (.str x) (.str y) = some (.bl (!(x == y))) := by rw [ne_okd (by simpa [okd] using h1) (by simpa [okd] using h2)]; rfl
/-- a list beside the empty one -/
theorem ne_nil' {xs : List D} (h : xs.all (okd 59) = true) : opNe (.lst xs) (.lst []) = some (.bl (!xs.isEmpty)) := by
  rw [ne_okd (by simpa [okd] using h) (by simp [okd])]
  cases xs <;> rfl
theorem eq_nil' {xs : List D} (h : xs.all (okd 59) = true) : opEq (.lst xs) (.lst []) = some (.bl xs.isEmpty) := by
  rw [eq_okd (by simpa [okd] using h) (by simp [okd])]
  cases xs <;> rfl
theorem ne_tnil {xs : List D} (h : xs.all (okd 59) = true) : opNe (.tup xs) (.tup []) = some (.bl (!xs.isEmpty)) := by
  rw [ne_okd (by simpa [okd] using h) (by simp [okd])]
  cases xs <;> rfl
@[simp] theorem mkT_ok (ds : List D) (s : S) (h : ds.length ≤ 1000) : mkT ds s = .ok (.tup ds) s := mkT_of h
@[simp] theorem mkL_ok (ds : List D) (s : S) (h : ds.length ≤ 1000) : mkL ds s = .ok (.lst ds) s := mkL_of h
theorem add_tup {xs ys : List D} (h : xs.length + ys.length ≤ 16777216) : opAdd (.tup xs) (.tup ys) = some (.tup (xs ++ ys)) := if_pos (by rw [sizeLine_eq]; exact h)
theorem add_lst {xs ys : List D} (h : xs.length + ys.length ≤ 16777216) : opAdd (.lst xs) (.lst ys) = some (.lst (xs ++ ys)) := if_pos (by rw [sizeLine_eq]; exact h)
theorem isi_of {T t : String} {d : D} {r : Bool} (h1 : tyN d = some t) (h2 : kitB t T = some r) : isiT T d = some (.bl r) := by
  unfold isiT
  rw [h1, Option.bind_some, h2]
  rfl
@[simp] theorem isi_bool_non : isiT "bool" .non = some (.bl false) := isi_of rfl (by decide +kernel)
@[simp] theorem isi_bool_bl (b : Bool) : isiT "bool" (.bl b) = some (.bl true) := isi_of rfl (by decide +kernel)
@[simp] theorem isi_bool_int (b : Int) : isiT "bool" (.int b) = some (.bl false) := isi_of rfl (by decide +kernel)
@[simp] theorem isi_bool_str (b : Str) : isiT "bool" (.str b) = some (.bl false) := isi_of rfl (by decide +kernel)
@[simp] theorem isi_bool_lst (b : List D) : isiT "bool" (.lst b) = some (.bl false) := isi_of rfl (by decide +kernel)
@[simp] theorem isi_bool_tup (b : List D) : isiT "bool" (.tup b) = some (.bl false) := isi_of rfl (by decide +kernel)
@[simp] theorem isi_int_non : isiT "int" .non = some (.bl false) := isi_of rfl (by decide +kernel)
@[simp] theorem isi_int_bl (b : Bool) : isiT "int" (.bl b) = some (.bl true) := isi_of rfl (by decide +kernel)
@[simp] theorem isi_int_int (b : Int) : isiT "int" (.int b) = some (.bl true) := isi_of rfl (by decide +kernel)
@[simp] theorem isi_int_str (b : Str) : isiT "int" (.str b) = some (.bl false) := isi_of rfl (by decide +kernel)
@[simp] theorem isi_int_lst (b : List D) : isiT "int" (.lst b) = some (.bl false) := isi_of rfl (by decide +kernel)
@[simp] theorem isi_int_tup (b : List D) : isiT "int" (.tup b) = some (.bl false) := isi_of rfl (by decide +kernel)
@[simp] theorem isi_str_non : isiT "str" .non = some (.bl false) := isi_of rfl (by decide +kernel)
@[simp] theorem isi_str_bl (b : Bool) : isiT "str" (.bl b) = some (.bl false) := isi_of rfl (by decide +kernel)
@[simp] theorem isi_str_int (b : Int) : isiT "str" (.int b) = some (.bl false) := isi_of rfl (by decide +kernel)
@[simp] theorem isi_str_str (b : Str) : isiT "str" (.str b) = some (.bl true) := isi_of rfl (by decide +kernel)
@[simp] theorem isi_str_lst (b : List D) : isiT "str" (.lst b) = some (.bl false) := isi_of rfl (by decide +kernel)
@[simp] theorem isi_str_tup (b : List D) : isiT "str" (.tup b) = some (.bl false) := isi_of rfl (by decide +kernel)
@[simp] theorem isi_tup_non : isiT "tuple" .non = some (.bl false) := isi_of rfl (by decide +kernel)
@[simp] theorem isi_tup_bl (b : Bool) : isiT "tuple" (.bl b) = some (.bl false) := isi_of rfl (by decide +kernel)
@[simp] theorem isi_tup_int (b : Int) : isiT "tuple" (.int b) = some (.bl false) := isi_of rfl (by decide +kernel)
@[simp] theorem isi_tup_str (b : Str) : isiT "tuple" (.str b) = some (.bl false) := isi_of rfl (by decide +kernel)
@[simp] theorem isi_tup_lst (b : List D) : isiT "tuple" (.lst b) = some (.bl false) := isi_of rfl (by decide +kernel)
@[simp] theorem isi_tup_tup (b : List D) : isiT "tuple" (.tup b) = some (.bl true) := isi_of rfl (by decide +kernel)
theorem notin_ints (i : Int) (xs : List Int) : opNotIn (.int i) (.lst (xs.map .int)) = some (.bl (!xs.any fun z => z == i)) := by
  have h : (xs.map D.int).all (okd 59) = true := by simp [okd]
  show (if (okd 59 (D.int i) && (xs.map D.int).all (okd 59)) = true then _ else _) = _
  rw [if_pos (by rw [h]; rfl)]
  congr 3
  unfold dmem
  rw [List.any_map]
  rfl
@[simp] theorem notin2 (i a b : Int) : opNotIn (.int i) (.lst [.int a, .int b]) = some (.bl (!(a == i || b == i))) := by
  have := notin_ints i [a, b]
  simpa using this
theorem pow_ok (i j : Int) (h : 0 ≤ j ∧ j ≤ 1000000 ∧ i.natAbs < 2 ^ 64) : opPow (.int i) (.int j) = some (.int (i ^ j.toNat)) := if_pos h
@[simp] theorem pow_10_6 : opPow (.int 10) (.int 6) = some (.int 1000000) := by rw [pow_ok 10 6 (by decide)]; rfl
@[simp] theorem sl_tup' (xs : List D) (lo hi : Option Int) : opSl (.tup xs) lo hi = some (.tup (cutG xs lo hi)) := rfl
@[simp] theorem sl_lst' (xs : List D) (lo hi : Option Int) : opSl (.lst xs) lo hi = some (.lst (cutG xs lo hi)) := rfl
theorem cut_from {α : Type} (xs : List α) (n : Nat) : cutG xs (some (n : Int)) none = xs.drop n := by
  unfold cutG
  rw [HT.sIx_none, HT.sIx_nat]
  by_cases h : n ≤ xs.length
  · rw [Nat.min_eq_left h, List.take_of_length_le (by simp)]
  · rw [Nat.min_eq_right (by omega), List.drop_eq_nil_of_le (Nat.le_refl _), List.drop_eq_nil_of_le (by omega)]
    simp
theorem cut_to {α : Type} (xs : List α) (n : Nat) : cutG xs none (some (n : Int)) = xs.take n := by
  unfold cutG
  rw [HT.sIx_none, HT.sIx_nat, List.drop_zero, Nat.sub_zero]
  by_cases h : n ≤ xs.length
  · rw [Nat.min_eq_left h]
  · rw [Nat.min_eq_right (by omega), List.take_of_length_le (by omega), List.take_of_length_le (by omega)]
theorem cut_mid {α : Type} (xs : List α) (m n : Nat) : cutG xs (some (m : Int)) (some (n : Int)) = (xs.drop m).take (n - m) := by
  unfold cutG
  rw [HT.sIx_nat, HT.sIx_nat]
  by_cases h : m ≤ xs.length
  · rw [Nat.min_eq_left h]
    by_cases h2 : n ≤ xs.length
    · rw [Nat.min_eq_left h2]
    · rw [Nat.min_eq_right (by omega), List.take_of_length_le (by simp), List.take_of_length_le (by simp; omega)]
  · have e : min m xs.length = xs.length := by omega
    rw [e, List.drop_eq_nil_of_le (Nat.le_refl _), List.drop_eq_nil_of_le (by omega)]
    simp
@[simp] theorem cut_1 {α : Type} (xs : List α) : cutG xs (some 1) none = xs.drop 1 := cut_from xs 1
def callR (r : FR) (i : Nat) (s : S) : R D := match r with
  | .ok d (some ys) => .ok d (s.setRef i ys)
  | .exc n p (some ys) => .exc n p (s.setRef i ys)
  | _ => .stuck
@[simp] theorem callR_ok (d : D) (ys : List D) (i : Nat) (s : S) : callR (.ok d (some ys)) i s = .ok d (s.setRef i ys) := rfl
def callL (o : Option (List D)) (i : Nat) (m : FM) (n : Nat) (ds : List D) (s : S) : R D := match o with
  | some xs => if ds.length + 1 = n then callR (m ds (some xs)) i s else .stuck
  | none => .stuck
@[simp] theorem callV_mk (i : Nat) (m : FM) (n : Nat) (ds : List D) (l : List (Option Sl)) (w : Option (List D)) : callV i m n ds ⟨l, w⟩ = callL (refL l[i]? w) i m n ds ⟨l, w⟩ := rfl
@[simp] theorem callL_some (xs : List D) (i : Nat) (m : FM) (n : Nat) (ds : List D) (s : S) (h : ds.length + 1 = n) : callL (some xs) i m n ds s = callR (m ds (some xs)) i s := if_pos h
theorem cutG_map {α β : Type} (f : α → β) (xs : List α) (lo hi : Option Int) : cutG (xs.map f) lo hi = (cutG xs lo hi).map f := by
  unfold cutG
  rw [List.length_map, List.map_take, List.map_drop]
theorem intsOf_map' {α : Type} (g : α → Int) : ∀ l : List α, intsOf (l.map fun x => D.int (g x)) = some (l.map g)
  | [] => rfl
  | x :: r => by simp [intsOf, intsOf_map' g r]
@[simp] theorem sum_ints (ns : List Int) : gSum [.tup (ns.map .int)] = some (.int ns.sum) := by simp [gSum]
@[simp] theorem sum_lints (ns : List Int) : gSum [.lst (ns.map .int)] = some (.int ns.sum) := by simp [gSum]
theorem min_lints {α : Type} (g : α → Int) (l : List α) (h : l ≠ []) : gMin [.lst (l.map fun x => D.int (g x))] = some (.int (minL (l.map g))) := by
  have : l.map g ≠ [] := by simpa using h
  simp [gMin, intsOf_map', this]
theorem max_lints {α : Type} (g : α → Int) (l : List α) (h : l ≠ []) : gMax [.lst (l.map fun x => D.int (g x))] = some (.int (maxL (l.map g))) := by
  have : l.map g ≠ [] := by simpa using h
  simp [gMax, intsOf_map', this]
theorem cutG_mem {α : Type} {xs : List α} {lo hi : Option Int} {x : α} (h : x ∈ cutG xs lo hi) : x ∈ xs := List.mem_of_mem_drop (List.mem_of_mem_take h)
theorem sum_bounds {l : List Int} {a b : Int} (h : ∀ x ∈ l, a ≤ x ∧ x ≤ b) : l.length * a ≤ l.sum ∧ l.sum ≤ l.length * b := by
  induction l with
  | nil => simp
  | cons x l ih =>
    have h1 := h x (by simp)
    have h2 := ih fun y hy => h y (by simp [hy])
    rw [List.length_cons, List.sum_cons]
    have e1 : ((l.length + 1 : Nat) : Int) * a = l.length * a + a := by rw [Int.natCast_add, Int.add_mul]; simp
    have e2 : ((l.length + 1 : Nat) : Int) * b = l.length * b + b := by rw [Int.natCast_add, Int.add_mul]; simp
    rw [e1, e2]
    omega
/-! ## loops -/
def whlK (t : S → R Bool) (body : S → T) (n : Nat) (k : Bool) (s : S) : T := if k = true then (match body s with
  | .next s2 => whl t body n s2
  | .cnt s2 => whl t body n s2
  | .brk s2 => .next s2
  | r => r) else .next s
theorem whl3 (t : S → R Bool) (body : S → T) (s : S) : whl t body 3 s = (t s).thn (whlK t body 2) := rfl
theorem whl2 (t : S → R Bool) (body : S → T) (s : S) : whl t body 2 s = (t s).thn (whlK t body 1) := rfl
theorem whl1 (t : S → R Bool) (body : S → T) (s : S) : whl t body 1 s = (t s).thn (whlK t body 0) := rfl
def T.loop (r : T) (k : S → T) : T := match r with
  | .next s2 => k s2
  | .cnt s2 => k s2
  | .brk s2 => .next s2
  | r => r
@[simp] theorem T.loop_next (s : S) (k : S → T) : (T.next s).loop k = k s := rfl
theorem whlK_true (t : S → R Bool) (body : S → T) (n : Nat) (s : S) : whlK t body n true s = (body s).loop (whl t body n) := by
  unfold whlK T.loop
  rw [if_pos rfl]
theorem whlK_false (t : S → R Bool) (body : S → T) (n : Nat) (s : S) : whlK t body n false s = .next s := rfl

/-- a loop that goes through, by an invariant -/
theorem forL_inv {g : D → S → Option S} {body : S → T} (I : Nat → S → Prop) : ∀ (ds : List D) (k : Nat) (s : S), I k s →
    (∀ (i : Nat) d s, ds[i]? = some d → I (k + i) s → ∃ s1 s2, g d s = some s1 ∧ body s1 = .next s2 ∧ I (k + i + 1) s2) → ∃ s', forL g body ds s = .next s' ∧ I (k + ds.length) s'
  | [], k, s, h, _ => ⟨s, rfl, h⟩
  | d :: ds, k, s, h, st => by
    obtain ⟨s1, s2, e1, e2, h2⟩ := st 0 d s rfl h
    obtain ⟨s', e, h'⟩ := forL_inv I ds (k + 1) s2 h2 fun i d s q hi => by
      have := st (i + 1) d s (by simpa using q) (by rwa [show k + (i + 1) = k + 1 + i by omega])
      rwa [show k + (i + 1) + 1 = k + 1 + i + 1 by omega] at this
    refine ⟨s', ?_, by rwa [show k + (d :: ds).length = k + 1 + ds.length by simp; omega]⟩
    unfold forL
    rw [e1]
    dsimp only
    rw [e2]
    exact e
/-- a comprehension whose block leaves the state as it is: a filter and a map -/
theorem compL_pure {vs : List Nat} {g : D → S → Option S} {t : S → R Bool} {f : S → R D} (s0 : S) (tb : D → Bool) (fd : D → D) : ∀ (ds acc : List D),
    (∀ d ∈ ds, ∃ s1 s2 s3, g d s0 = some s1 ∧ t s1 = .ok (tb d) s2 ∧ (tb d = false → s2.wipe vs = s0) ∧ (tb d = true → f s2 = .ok (fd d) s3 ∧ s3.wipe vs = s0)) →
    compL vs g t f ds acc s0 = .ok (acc ++ (ds.filter tb).map fd) s0
  | [], acc, _ => by simp [compL]
  | d :: ds, acc, h => by
    obtain ⟨s1, s2, s3, e1, e2, e3, e4⟩ := h d (by simp)
    unfold compL
    rw [e1]
    dsimp only
    rw [e2]
    dsimp only
    cases b : tb d with
    | false =>
      rw [if_neg Bool.false_ne_true, e3 b, compL_pure s0 tb fd ds acc fun x hx => h x (by simp [hx])]
      simp [b]
    | true =>
      obtain ⟨e5, e6⟩ := e4 b
      rw [if_pos rfl, e5]
      dsimp only
      rw [e6, compL_pure s0 tb fd ds _ fun x hx => h x (by simp [hx])]
      simp [b]
theorem compL_map {vs : List Nat} {g : D → S → Option S} {t : S → R Bool} {f : S → R D} (s0 : S) (tb : D → Bool) (fd : D → D) (ds acc : List D)
    (h : ∀ d ∈ ds, ∃ s1, g d s0 = some s1 ∧ t s1 = .ok (tb d) s1 ∧ (tb d = true → f s1 = .ok (fd d) s1) ∧ s1.wipe vs = s0) :
    compL vs g t f ds acc s0 = .ok (acc ++ (ds.filter tb).map fd) s0 :=
  compL_pure s0 tb fd ds acc fun d hd => by
    obtain ⟨s1, e1, e2, e3, e4⟩ := h d hd
    exact ⟨s1, s1, s1, e1, e2, fun _ => e4, fun q => ⟨e3 q, e4⟩⟩
theorem compL_mapf {α : Type} {vs : List Nat} {g : D → S → Option S} {t : S → R Bool} {f : S → R D} (mk : α → D) (h : α → D) (s0 : S) : ∀ (l : List α) (acc : List D),
    (∀ x ∈ l, ∃ s1, g (mk x) s0 = some s1 ∧ t s1 = .ok true s1 ∧ f s1 = .ok (h x) s1 ∧ s1.wipe vs = s0) → compL vs g t f (l.map mk) acc s0 = .ok (acc ++ l.map h) s0
  | [], acc, _ => by simp [compL]
  | x :: l, acc, q => by
    obtain ⟨s1, e1, e2, e3, e4⟩ := q x (by simp)
    rw [List.map_cons]
    unfold compL
    rw [e1]
    dsimp only
    rw [e2]
    dsimp only
    rw [if_pos rfl, e3]
    dsimp only
    rw [e4, compL_mapf mk h s0 l _ fun y hy => q y (by simp [hy])]
    simp
/-- a comprehension that goes through, by an invariant -/
theorem compL_inv {vs : List Nat} {g : D → S → Option S} {t : S → R Bool} {f : S → R D} (I : Nat → List D → S → Prop) : ∀ (ds : List D) (k : Nat) (acc : List D) (s : S), I k acc s →
    (∀ (i : Nat) d acc s, ds[i]? = some d → I (k + i) acc s → ∃ s1 s2 y s3, g d s = some s1 ∧ t s1 = .ok true s2 ∧ f s2 = .ok y s3 ∧ I (k + i + 1) (acc ++ [y]) (s3.wipe vs)) →
    ∃ ys s', compL vs g t f ds acc s = .ok ys s' ∧ I (k + ds.length) ys s'
  | [], k, acc, s, h, _ => ⟨acc, s, rfl, h⟩
  | d :: ds, k, acc, s, h, st => by
    obtain ⟨s1, s2, y, s3, e1, e2, e3, h2⟩ := st 0 d acc s rfl h
    obtain ⟨ys, s', e, h'⟩ := compL_inv I ds (k + 1) (acc ++ [y]) (s3.wipe vs) h2 fun i d acc s q hi => by
      have := st (i + 1) d acc s (by simpa using q) (by rwa [show k + (i + 1) = k + 1 + i by omega])
      rwa [show k + (i + 1) + 1 = k + 1 + i + 1 by omega] at this
    refine ⟨ys, s', ?_, by rwa [show k + (d :: ds).length = k + 1 + ds.length by simp; omega]⟩
    unfold compL
    rw [e1]
    dsimp only
    rw [e2]
    dsimp only
    rw [if_pos rfl, e3]
    exact e
theorem toR1_ok (j : Int) (s : S) (h : 0 ≤ j) (h2 : j ≤ 16000000) : toR1 [.int j] s = .ok (rngI 0 j) s := if_pos ⟨by omega, h2⟩
theorem rngI_get {lo hi : Int} {i : Nat} {d : D} (h : (rngI lo hi)[i]? = some d) : d = .int (lo + i) ∧ lo + i < hi := by
  have hl : i < (rngI lo hi).length := by
    rcases List.getElem?_eq_some_iff.mp h with ⟨a, _⟩
    exact a
  rw [rngI_len] at hl
  unfold rngI at h
  rw [List.getElem?_map, List.getElem?_range hl] at h
  cases h
  exact ⟨rfl, by omega⟩
def T.nx (t : T) (I : S → Prop) : Prop := ∃ s, t = .next s ∧ I s
@[simp] theorem T.nx_next (s : S) (I : S → Prop) : (T.next s).nx I = I s := propext ⟨fun ⟨_, e, h⟩ => by cases e; exact h, fun h => ⟨_, rfl, h⟩⟩
def R.nx {α : Type} (r : R α) (I : α → S → Prop) : Prop := ∃ a s, r = .ok a s ∧ I a s
@[simp] theorem R.nx_ok {α : Type} (a : α) (s : S) (I : α → S → Prop) : (R.ok a s).nx I = I a s := propext ⟨fun ⟨_, _, e, h⟩ => by cases e; exact h, fun h => ⟨_, _, rfl, h⟩⟩
theorem forL_st {α : Type} {g : D → S → Option S} {body : S → T} (st : α → S) (J : Nat → α → Prop) (ds : List D) (a0 : α) (h0 : J 0 a0)
    (h : ∀ (i : Nat) d a, ds[i]? = some d → J i a → ∃ s1, g d (st a) = some s1 ∧ ∀ I : S → Prop, (∀ a', J (i + 1) a' → I (st a')) → (body s1).nx I) : ∃ a, forL g body ds (st a0) = .next (st a) ∧ J ds.length a := by
  obtain ⟨s', e, a, rfl, hj⟩ := forL_inv (g := g) (body := body) (fun k s => ∃ a, s = st a ∧ J k a) ds 0 (st a0) ⟨a0, rfl, h0⟩ (by
    rintro i d s hd ⟨a, rfl, hj⟩
    obtain ⟨s1, e1, h1⟩ := h i d a hd (by simpa using hj)
    obtain ⟨s2, e2, h2⟩ := h1 (fun s => ∃ a', s = st a' ∧ J (i + 1) a') fun a' h => ⟨a', rfl, h⟩
    exact ⟨s1, s2, e1, e2, by simpa using h2⟩)
  exact ⟨a, e, by simpa using hj⟩
theorem compL_st {α : Type} {vs : List Nat} {g : D → S → Option S} {t : S → R Bool} {f : S → R D} (st : α → S) (J : Nat → List D → α → Prop) (ds : List D) (a0 : α) (h0 : J 0 [] a0)
    (h : ∀ (i : Nat) d acc a, ds[i]? = some d → J i acc a → ∃ s1, g d (st a) = some s1 ∧ t s1 = .ok true s1 ∧ ∀ I : D → S → Prop, (∀ y a', J (i + 1) (acc ++ [y]) a' → I y (st a')) → (f s1).nx fun y s => I y (s.wipe vs)) :
    ∃ ys a, compL vs g t f ds [] (st a0) = .ok ys (st a) ∧ J ds.length ys a := by
  obtain ⟨ys, s', e, a, rfl, hj⟩ := compL_inv (g := g) (vs := vs) (t := t) (f := f) (fun k ys s => ∃ a, s = st a ∧ J k ys a) ds 0 [] (st a0) ⟨a0, rfl, h0⟩ (by
    rintro i d acc s hd ⟨a, rfl, hj⟩
    obtain ⟨s1, e1, e2, h1⟩ := h i d acc a hd (by simpa using hj)
    obtain ⟨y, s2, e3, h2⟩ := h1 (fun y s => ∃ a', s = st a' ∧ J (i + 1) (acc ++ [y]) a') fun y a' h => ⟨a', rfl, h⟩
    exact ⟨s1, s1, y, s2, e1, e2, e3, by simpa using h2⟩)
  exact ⟨ys, a, e, by simpa using hj⟩
theorem has_never {P : Program} {w : World} {K : PySem.W.Frag} {mg : Str → Option Value} {base : Heap} {x : Str} {st : Stmt} {ps : List Str} (T : There K mg x st ps) : Has P w K mg base 0 x ps (fun _ _ => .stuck) := by
  obtain ⟨f, fd, S⟩ := T
  exact ⟨f, fd, ⟨fun vs H Q E ⟨_, _, _, _, _, _, _, _, _, _, z⟩ => z.elim, fun A outer s H args us vs Q E _ _ _ _ ⟨_, _, _, _, _, _, _, _, _, _, z⟩ => z.elim⟩, S.g, S.F.kp, S.b⟩
end DL

namespace DL
open PySem PySem.Spec PyProof.Rows L2
/-! ## what the top has written -/
section
variable {K : PySem.W.Frag} {h : Heap} {mg : Str → Option Value} {x : Str} {st : Stmt} {ps : List Str} {f : Addr} {oc : Value} {od an : Option Addr} {osl : Array (Option Value)} {kV doc pm cdv ct : Value}
theorem stand_of (X : K.In h) (G : h.Ns mainGlobals mg) (a : PySem.W.nsIn K mainGlobals x = some (some (.ref f)))
    (l : K.lookup f = some ⟨oc, od, .func (PySem.W.fnOf x x (defArgs st) (defBody st) (defScope st) .none kV doc pm an cdv ct), osl⟩) (c : PySem.W.codeIn K cdv x = true) (k : PySem.W.keepIn K (.ref f) = true)
    (hb : ∀ (kV doc pm : Value) (an : Option Addr) (cdv ct : Value) (us : List Value), us.length = ps.length → bindArgs (PySem.W.fnOf x x (defArgs st) (defBody st) (defScope st) .none kV doc pm an cdv ct) ⟨us, []⟩ = pure (ps.zip us)) :
    Stand K mg x st ps f (PySem.W.fnOf x x (defArgs st) (defBody st) (defScope st) .none kV doc pm an cdv ct) :=
  ⟨fun_mk l c k, PySem.W.mg_of X G a, .all (hb kV doc pm an cdv ct)⟩
theorem there_of (X : K.In h) (G : h.Ns mainGlobals mg) (a : PySem.W.nsIn K mainGlobals x = some (some (.ref f)))
    (l : K.lookup f = some ⟨oc, od, .func (PySem.W.fnOf x x (defArgs st) (defBody st) (defScope st) .none kV doc pm an cdv ct), osl⟩) (c : PySem.W.codeIn K cdv x = true) (k : PySem.W.keepIn K (.ref f) = true)
    (hb : ∀ (kV doc pm : Value) (an : Option Addr) (cdv ct : Value) (us : List Value), us.length = ps.length → bindArgs (PySem.W.fnOf x x (defArgs st) (defBody st) (defScope st) .none kV doc pm an cdv ct) ⟨us, []⟩ = pure (ps.zip us)) :
    There K mg x st ps := ⟨f, _, stand_of X G a l c k hb⟩
theorem gint_of {i : Int} {t : Nat} (X : K.In h) (G : h.Ns mainGlobals mg) (a : PySem.W.nsIn K mainGlobals x = some (some (.int i t))) : GInt mg x i := ⟨t, PySem.W.mg_of X G a⟩
end
theorem fnd_any {P : Program} {w : World} {K : PySem.W.Frag} {mg : Str → Option Value} {base : Heap} {k : Nat} {x : Str} {st : Stmt} {N ps : List Str} {f' : S → T} {f : Addr} {fd : FuncData} (T : Stand K mg x st ps f fd) (Sc : FnScope N ps (defScope st))
    (body : ∀ (f : Addr) (cdv : Value) (A : Around) (outer : List Env) (s : Shared) (H : Hp) (E : XK), Room k (A.deeper (envOfC x (defScope st) s.heap.objs.size f cdv)) → Takes (cxOf (L2.CX P w) P w K mg base N x (defScope st) f cdv A outer s H E) (fun cls d _ H => E cls d H) → PassesOwn (model (cxOf (L2.CX P w) P w K mg base N x (defScope st) f cdv A outer s H E).prog (cxOf (L2.CX P w) P w K mg base N x (defScope st) f cdv A outer s H E).w) (cxOf (L2.CX P w) P w K mg base N x (defScope st) f cdv A outer s H E).A (cxOf (L2.CX P w) P w K mg base N x (defScope st) f cdv A outer s H E).env (cxOf (L2.CX P w) P w K mg base N x (defScope st) f cdv A outer s H E).xe →
      DSs (cxOf (L2.CX P w) P w K mg base N x (defScope st) f cdv A outer s H E) (fun cls d _ H => E cls d H) (defBody st) f') :
    FnD P w K mg base (k + 1) f fd ps (fun ds v => (f' (stD N ds v)).fin) :=
  fn_d T.F Sc fun cdv A outer s H E hr => ⟨f', body f cdv A outer s H E hr tkX hpX, fun ds v _ => rfl⟩
end DL

namespace DL
open PySem PySem.Spec PyProof.Rows L2
/-! ## clauses, some of them with a name that is never bound -/
abbrev ClT := Addr → Value → Option Addr → TS
/-- what the clauses wish, one behind the other; a clause with a name must never fit -/
def wCl (K : PySem.W.Frag) (D : Ends) : List (Value × Option ClT) → WX
  | [] => fun _ _ _ _ => False
  | (c, none) :: r => fun cls d σ H => PySem.W.exmOne K cls c = some false ∧ wCl K D r cls d σ H
  | (c, some ts) :: r => fun cls d σ H => (PySem.W.exmOne K cls c = some true ∧ ∀ a, H a = none → ts a cls d D σ H) ∨ (PySem.W.exmOne K cls c = some false ∧ wCl K D r cls d σ H)
inductive ClOk (X : Cx) : List ExceptHandler → List (Value × Option ClT) → Prop
  | nil : ClOk X [] []
  | one {x : Str} {c : Value} {ts : ClT} {s0 : Stmt} {ss : List Stmt} {q1 q2 : Pos} {hs : List ExceptHandler} {l : List (Value × Option ClT)} (hc : Names X x c)
      (run : ∀ (a : Addr) (ob : Obj) (cls : Value) (d : Option Addr) (pn : List (Addr × Obj)), Zc cls d ob → (∃ vs, ob.data = .fields vs) → PSs (X.suite a ((a, ob) :: pn)) (s0 :: ss) (ts a cls d)) (r : ClOk X hs l) :
      ClOk X (.ExceptHandler (some (.Name x q1)) none (s0 :: ss) q2 :: hs) ((c, some ts) :: l)
  | skip {x n : Str} {c : Value} {ss : List Stmt} {q1 q2 : Pos} {hs : List ExceptHandler} {l : List (Value × Option ClT)} (hc : Names X x c) (r : ClOk X hs l) : ClOk X (.ExceptHandler (some (.Name x q1)) (some n) ss q2 :: hs) ((c, none) :: l)
section
variable {X : Cx} {bd : List Stmt} {h1 : ExceptHandler} {hs : List ExceptHandler} {l : List (Value × Option ClT)} {pos : Pos} {tb : WX → TS}
theorem ps_try_cl (st : X.stack = X.env :: X.outer) (fr : X.env.frame = some X.env.locals)
    (hb : ∀ (W : WX) (pn : List (Addr × Obj)) (xe : Value → Shared → Prop), Takes (X.tr pn xe) W → PassesOwn (model X.prog X.w) X.A X.env xe → PSs (X.tr pn xe) bd (tb W))
    (ok : ClOk X (h1 :: hs) l) : PS X (.Try bd (h1 :: hs) [] [] pos) (fun D σ H => tb (wCl X.K D l) D σ H) := by
  constructor
  intro pins s σ H D I hw
  have xo := I.ok
  have afr : X.A.frames = some (X.env :: X.outer) := xo.frames.trans (congrArg some st)
  refine wpAny_Try_except (wpAny_mono ((hb (wCl X.K D l) (X.pn ++ pins) _ (fun u s2 caught => ?k1) PassesOwn.looking).run [] s σ H D (I.toTry _) hw) (fun fl s2 hp => ?k2) (fun _ _ z => z))
  case k2 =>
    cases fl with
    | next => exact hp.elim fun τ h => h.elim fun G h => wpAny_execs_nil ⟨τ, G, h.1.ofTry xo, h.2⟩
    | brk => exact hp.elim fun τ h => h.elim fun G h => ⟨τ, G, h.1.ofTry xo, h.2⟩
    | cont => exact hp.elim fun τ h => h.elim fun G h => ⟨τ, G, h.1.ofTry xo, h.2⟩
    | ret u => exact hp.elim fun v h => h.elim fun τ h => h.elim fun G h => ⟨v, τ, G, h.1.ofTry xo, h.2⟩
  case k1 =>
    obtain ⟨a, B, si, pi, τ, G, cls, d, eu, J0, nb, up, sky, na, os, ag, wish⟩ := caught
    subst eu
    have J : Inv X pins τ G si := J0.ofTry xo
    rw [st] at sky
    show wpAny (model X.prog X.w) X.A (noteFrame (.ref a) X.env) _ _ _
    refine Sky.land Zc.steady afr fr sky fun g fl1 up1 => ?_
    have Jg : Inv X pins τ G { s2 with heap := g } := J.landed nb fl1.1 (up.trans up1) os ag
    obtain ⟨ob, fs, hob, hz, hd⟩ := fl1.there
    have out : a ∉ frs (X.env :: X.outer) := fun hm => by
      obtain ⟨_, o2, e2, nf⟩ := fl1.2.2.1.mem hm
      rw [hob] at e2
      cases e2
      exact nf _ hd
    have nl : a ≠ X.env.locals := fun z => out (List.mem_filterMap.mpr ⟨_, List.mem_cons_self, by rw [fr, z]⟩)
    have nf : a ∉ X.fs := fun hm => (List.mem_filterMap.mp hm).elim fun e q => out (List.mem_filterMap.mpr ⟨e, List.mem_cons_of_mem _ q.1, q.2⟩)
    have Sg := Jg.suite hob hd na nl nf
    have chain : ∀ {hs' : List ExceptHandler} {l' : List (Value × Option ClT)}, ClOk X hs' l' → wCl X.K D l' cls d τ G →
        wpAny (model X.prog X.w) X.A (handleBy (.ref a) X.env hs') (SP X pins D) X.xe { s2 with heap := g } := by
      intro hs' l' k
      have fits : ∀ {x : Str} {c : Value} {q1 : Pos} {b : Bool} {Q : Value → Shared → Prop} {E : Value → Shared → Prop}, Names X x c → Q c { s2 with heap := g } → wpAny (model X.prog X.w) (X.A.mark (some (.ref a))) (eval (.Name x q1) X.env) Q E { s2 with heap := g } := fun {x c q1 b Q E} hc q => by
        obtain ⟨hg, hq, e | ⟨e, hv, hn⟩⟩ := hc
        · exact ld_glob (X := X.suite a ((a, ob) :: (X.pn ++ pins))) Sg hg e q hq
        · exact ld_blt (X := X.suite a ((a, ob) :: (X.pn ++ pins))) Sg hg e hv q hn hq
      have cl : PySem.W.Looks (model X.prog X.w) g (typeOf (.ref a)) cls := fun A Q E s k q => wpAny_typeOf_ref (k _ _ hob) (by rw [hz.1]; exact q)
      induction k with
      | nil => exact fun z => z.elim
      | skip hc r ih =>
        rintro ⟨e, w⟩
        refine wpAny_handleBy_cons (codeAny_handlers_test ?_) (fun z => nomatch z)
        exact fits (b := true) hc ((PySem.W.exm_one (M := model X.prog X.w) Jg.kIn cl e).here (ih w))
      | @one x c ts s0 ss q1 q2 hs2 l2 hc run r ih =>
        intro w
        refine wpAny_handleBy_cons (codeAny_handlers_test ?_) (fun z => nomatch z)
        rcases w with ⟨e, w⟩ | ⟨e, w⟩
        · refine fits (b := true) hc ((PySem.W.exm_one (M := model X.prog X.w) Jg.kIn cl e).here ?_)
          refine codeAny_handlers_suite ?_
          refine HandSPX.lands_againZ fl1 fun g4 fl4 up4 => ?_
          have J4 : Inv X pins τ G { s2 with heap := g4 } := J.landed nb fl4.1 ((up.trans up1).trans up4) os ag
          obtain ⟨o4, v4, h4, z4, d4⟩ := fl4.there
          refine wpAny_mono ((run a o4 cls d (X.pn ++ pins) z4 ⟨_, d4⟩).run [] _ _ G _ (J4.suite h4 d4 na nl nf) (w a na)) (fun f s6 hp => ?_) (fun _ _ z => z.elim)
          cases f with
          | next => exact hp.elim fun τ h => h.elim fun G h => ⟨τ, G, h.1.unsuite xo, h.2⟩
          | brk => exact hp.elim fun τ h => h.elim fun G h => ⟨τ, G, h.1.unsuite xo, h.2⟩
          | cont => exact hp.elim fun τ h => h.elim fun G h => ⟨τ, G, h.1.unsuite xo, h.2⟩
          | ret u => exact hp.elim fun v h => h.elim fun τ h => h.elim fun G h => ⟨v, τ, G, h.1.unsuite xo, h.2⟩
        · exact fits (b := true) hc ((PySem.W.exm_one (M := model X.prog X.w) Jg.kIn cl e).here (ih w))
    exact chain ok wish
end
/-! ## other tables -/
section
variable {K : PySem.W.Frag} {va : VA} {s : S} {σ : St} {HP H H1 : Hp}
theorem Rel.grow (r : Rel K va s σ HP H) (e : LamX.ExtN H H1) (t : LamX.Tabs lamT H1) : Stp K va s σ HP H s σ HP H1 := by
  refine ⟨⟨r.len, fun b o q => e b o (r.sub b o q) fun ps z => r.tab.n b ps (by rw [← z]; exact q), r.val, fun i xs q => ?_, r.vis, fun xs q => ?_, r.dis, r.dvi, ⟨t, r.tab.n⟩⟩, Same.refl _, fun b o h nt n => ⟨e b o h nt, n, fun z => z⟩, Iff.rfl⟩
  · obtain ⟨a, vs, h1, h2, h3, h4⟩ := r.own i xs q
    exact ⟨a, vs, h1, h2, e _ _ h3 nL, h4⟩
  · obtain ⟨h1, vs, h2, h3⟩ := r.vst xs q
    exact ⟨h1, vs, e _ _ h2 nL, h3⟩
end
end DL

namespace DL
open PySem PySem.Spec PyProof.Rows L2 LamX
/-! ## a def that calls the lambda it got -/
/-- the def's context, entered at s -/
abbrev cxG (X : Cx) (Ng : List Str) (x : Str) (sg : Scope) (g : Addr) (cdg : Value) (s : Shared) (H : Hp) : Cx := cxOf C8.CX0 X.prog X.w X.K X.mg X.base Ng x sg g cdg X.A X.stack s H C8.E0
section
variable {X : Cx} {pins : List (Addr × Obj)} {σ : L2.St} {H : Hp} {s : Shared}
theorem pe_actS {Ng : List Str} {qg : Str} {sg : Scope} {g f cc : Addr} {cdg pm ctv : Value} {params : Arguments} {body : Expr} {scope : Scope} {k i : Nat} {a : Str} {pn : List (Addr × Obj)} {xe : Value → Shared → Prop} {W : WX} {t : XK → TE} {p1 p2 : Pos}
    (I : Inv X pins σ H s) (L : LamS X.env.scope scope) (hf : s.heap.get? f = some (PySem.W.kla_obj "<lambda>" (X.env.qual ++ "<lambda>") params body scope (cloFrom X.env.cells scope.names []) pm cc ctv)) (hfn : H f = none) (hfr : f ∉ frs X.stack)
    (bnd : bindArgs (PySem.W.kla_fn "<lambda>" (X.env.qual ++ "<lambda>") params body scope (cloFrom X.env.cells scope.names []) pm (.ref cc) ctv) ⟨[], []⟩ = pure [])
    (tk : Takes ((cxG X Ng qg sg g cdg s H).tr pn xe) W) (hr : Room (k + 1) (X.A.deeper (envOfC qg sg s.heap.objs.size g cdg)))
    (hb : ∀ (A : Around) (outer : List Env) (s : Shared) (H : Hp) (E : XK), Room k (A.deeper (lamEnv X scope s.heap.objs.size f cc)) → PE (lamCx X A outer s H E scope f cc) body (t E))
    (hN : Ng[i]? = some a) (hv : Vis sg a) (hd : (a == ("__debug__" : Str)) = false := by decide) (hcd : (a == ("__classdict__" : Str)) = false := by decide) :
    PE ((cxG X Ng qg sg g cdg s H).tr pn xe) (.Call (.Name a p1) [] [] p2)
      (fun τ G Q => τ[i]? = some (some (.ref f)) ∧ G cc = some (CodeO cc (X.env.qual ++ "<lambda>")) ∧ t (WE W τ) σ G Q) := by
  constructor
  intro pz sz τ G Q J hh
  refine wpAny_Call_Name_kw (thn ((pe_var (pos := p1) (i := i) hN hv hd hcd).run pz sz τ G (fun v G' => v = .ref f ∧ G' = G) J ⟨.ref f, hh.1, rfl, rfl⟩) fun u s1 w => ?_)
  obtain ⟨v, G', J1, rv, rfl, rfl⟩ := w
  obtain rfl : u = Value.ref f := rv
  have ff := J1.base.keep f _ hf hfn hfr fun z => nomatch (show f ∈ ([] : List Addr) from z)
  refine PySem.W.callWith_F0 ⟨_, _, _, _, ff⟩ ?_
  obtain ⟨⟨oc, vs, tt, e1, e2, e3⟩, _, _⟩ := J1.hok cc _ hh.2.1
  have told : codeAny (model X.prog X.w) (X.A.deeper (envOfC qg sg s.heap.objs.size g cdg)) (.call (.ref f) ⟨[], []⟩) (CR (L2.CX X.prog X.w) (envOfC qg sg s.heap.objs.size g cdg :: X.stack) X.prog X.w G' s1 Q (WE W τ)) s1 := by
    refine PySem.W.kla_callFunE hr.depth ff rfl L.co L.gen rfl ⟨cc, oc, vs, tt, rfl, e1, e2, e3⟩ ?_
    rw [bnd]
    refine wpAny_pure (wpAny_newFunctionEnv (fun y hy => (L.own y hy).2) (fun y hy => absurd hy (by simp)) (fun h1 ns sb => ⟨J1.nolimit.fresh _ sb, ?_⟩) L.kind)
    have keep : ∀ b o, s1.heap.get? b = some o → h1.get? b = some o := fun b o e => sb.extBut b o (Nat.ne_of_lt (Heap.lt_size e)) (Heap.get?_push_of_some _ e)
    have J2 := lam_start2 (A := X.A.deeper (envOfC qg sg s.heap.objs.size g cdg)) (outer := envOfC qg sg s.heap.objs.size g cdg :: X.stack) (E := WE W τ) (f := f) (c' := cc) (tk := s1.toks + ([] : List (Str × Value)).length) I L J1.env0 hr.hd J1.base ns keep
    refine PySem.W.kla_codeExpr (wpAny_mono ((hb _ _ s1 G' (WE W τ) (hr.deeper _)).run [] _ _ G' Q J2 hh.2.2) (fun v s2 w => ?_) fun _ _ w => w)
    exact w.elim fun y w => w.elim fun G2 w => ⟨y, G2, w.1.os, w.1.bare, w.1.base, w.1.hok, w.2.1, w.2.2⟩
  refine wpAny_call (codeAny_mono told fun r s2 w => ?_)
  rcases r with e | fl
  · exact passAt tk τ pz G' s1 e s2 J1 w
  · cases fl with
    | ret u => exact J1.after w
    | _ => exact False.elim w
end
/-- what a def makes of the lambda that it got -/
def Gives (X : Cx) (Ng : List Str) (x : Str) (sg : Scope) (g : Addr) (cdg : Value) (bg : List Stmt) (a q : Str) (TT : (XK → Hp → VK → Prop) → Hp → VK → Prop) : Prop :=
  ∀ (f cc : Addr) (s : Shared) (H : Hp) (Q : VK) (tl : XK → Hp → VK → Prop),
    (∀ (W : WX) (pn : List (Addr × Obj)) (xe : Value → Shared → Prop) (p1 p2 : Pos), Takes ((cxG X Ng x sg g cdg s H).tr pn xe) W →
      PE ((cxG X Ng x sg g cdg s H).tr pn xe) (.Call (.Name a p1) [] [] p2) (fun τ G Q => τ[0]? = some (some (.ref f)) ∧ G cc = some (CodeO cc q) ∧ tl (WE W τ) G Q)) →
    H cc = some (CodeO cc q) → TT tl H Q →
    ∃ t, PSs (cxG X Ng x sg g cdg s H).nox bg t ∧ t { nx := fun _ H' => Q .non H', rt := Q } (L2.start Ng [.ref f]) H
section
variable {X : Cx}
/-- x(lambda: body) -/
theorem pe_lamS {T : List (Addr × Str)} {TT : (XK → Hp → VK → Prop) → Hp → VK → Prop} {x a : Str} {g c P : Addr} {k : Nat} {pg : Arguments} {bg : List Stmt} {sg : Scope} {dV kV doc pm cdv ct oc : Value} {an od : Option Addr} {osl : Array (Option Value)} {Ng : List Str}
    {params : Arguments} {body : Expr} {scope : Scope} {t : XK → TE} {p lpos pos : Pos} (hg : Gl X x) (hm : X.mg x = some (.ref g)) (hk : PySem.W.keepIn X.K (.ref g) = true)
    (lk : X.K.lookup g = some ⟨oc, od, .func (PySem.W.fnOf x x pg bg sg dV kV doc pm an cdv ct), osl⟩) (hcg : PySem.W.codeIn X.K cdv x = true) (bn : L2.Binds X.K (PySem.W.fnOf x x pg bg sg dV kV doc pm an cdv ct) [a] []) (Sg : FnScope Ng [a] sg) (hNg : Ng[0]? = some a) (hva : Vis sg a)
    (gv : Gives X Ng x sg g cdv bg a (X.env.qual ++ "<lambda>") TT)
    (TB : TabB X.base X.mg c P) (hcode : X.env.code = .ref c) (hmT : (P, X.env.qual ++ "<lambda>") ∈ T) (hu : ∀ p ∈ T, p.1 = P → p.2 = X.env.qual ++ "<lambda>") (hr : Room (k + 2) X.A) (L : LamS X.env.scope scope) (nodef : defaultsOf params X.env = ([], []))
    (bnd : ∀ (q : Str) (cl : List (Str × Addr)) (pm cv ctv : Value), bindArgs (PySem.W.kla_fn "<lambda>" q params body scope cl pm cv ctv) ⟨[], []⟩ = pure [])
    (hb : ∀ (A : Around) (outer : List Env) (s : Shared) (H : Hp) (E : XK) (f cc : Addr), Room k (A.deeper (lamEnv X scope s.heap.objs.size f cc)) → PE (lamCx X A outer s H E scope f cc) body (t E))
    (hdb : (x == ("__debug__" : Str)) = false := by decide) (hd : (a == ("__debug__" : Str)) = false := by decide) (hcd : (a == ("__classdict__" : Str)) = false := by decide) :
    PE X (.Call (.Name x p) [.Lambda params body scope lpos] [] pos) (tLam T TT t) := by
  constructor
  rintro pins s σ H Q I ⟨hT, h⟩
  refine wpAny_Call_Name_kw (ld_glob I hg hm (PySem.W.callWith_K (h₀ := X.base) I.ok.mod.kin hk ?_ (by rfl) (by rfl)) hdb)
  show wpAny _ _ (spliced ((false, eval (.Lambda params body scope lpos) X.env) :: backTo pos (starEach [] X.env))) _ _ s
  refine Calls.spliced_cons (lam_make2 I TB hcode hmT hu hT nodef (L.has I.ok) fun f cc pm2 ctv G s2 J grow tabs isf nof nofr isc => Calls.spliced_nil ⟨J.kIn, ?_⟩)
  have told : codeAny (model X.prog X.w) X.A (.call (.ref g) ⟨[.ref f], []⟩) (CR C8.CX0 X.stack X.prog X.w G s2 Q C8.E0) s2 := by
    refine run_ofS (N := Ng) (ps := [a]) (us := [.ref f]) (vs := [.ref f]) lk hcg Sg hr J.env0 (bn s2 [.ref f] J.kIn rfl) (.cons rfl .nil) rfl fun hr2 => ?_
    obtain ⟨t2, ht2, hq⟩ := gv f cc s2 G Q (fun E G Q => t E σ G Q) (fun W pn xe p1 p2 tk => pe_actS (i := 0) J L isf nof nofr (bnd _ _ _ _ _) tk hr2 (fun A outer s H E hr3 => hb A outer s H E f cc hr3) hNg hva hd hcd) isc (h G grow tabs)
    exact ⟨t2, ht2.nox, hq⟩
  refine wpAny_call (codeAny_mono told fun r s3 w => ?_)
  rcases r with e | fl
  · exact (show False from w).elim
  · cases fl with
    | ret u => exact J.after w
    | _ => exact False.elim w
end
end DL

namespace DL
open PySem PySem.Spec PyProof.Rows L2 LamX
/-! ## the word for a call's error -/
/-- the word of the first clause that fits -/
def wdOf (K : PySem.W.Frag) (cls : Value) : List (Value × Option Str) → Option Str
  | [] => none
  | (c, w) :: r => match PySem.W.exmOne K cls c with
    | some true => w
    | some false => wdOf K cls r
    | none => none
def toCl (q : Value × Option Str) : Value × Option ClT := (q.1, q.2.map fun w _ _ _ => tAsg (tC (.str w)) (gName 1))
theorem wCl_of {K : PySem.W.Frag} {cls : Value} {d : Option Addr} {σ : L2.St} {H : Hp} {D : Ends} : ∀ (l : List (Value × Option Str)) {w : Str}, wdOf K cls l = some w → D.nx (σ.set 1 (some (.str w))) H → wCl K D (l.map toCl) cls d σ H
  | [], w, e, _ => by cases e
  | (c, none) :: r, w, e, h => by
    unfold wdOf at e
    split at e
    · cases e
    · rename_i z; exact ⟨z, wCl_of r e h⟩
    · cases e
  | (c, some v) :: r, w, e, h => by
    unfold wdOf at e
    split at e
    · rename_i z
      cases e
      exact .inl ⟨z, fun a _ => h⟩
    · rename_i z; exact .inr ⟨z, wCl_of r e h⟩
    · cases e
def TTw (K : PySem.W.Frag) (l : List (Value × Option Str)) : (XK → Hp → VK → Prop) → Hp → VK → Prop := fun tl H Q =>
  ∀ (E : XK) (Q' : VK), (∀ cls d H' w, wdOf K cls l = some w → Q (.str w) H' → E cls d H') → (∀ v H', Q (.str "") H' → Q' v H') → tl E H Q'
theorem word_gives {X : Cx} {N2 : List Str} {x a y q : Str} {sg : Scope} {g : Addr} {cdg : Value} {h1 : ExceptHandler} {hs : List ExceptHandler} {l : List (Value × Option Str)} {j0 : Nat} {p0 p1 p2 q1 q2 q3 q4 q5 q6 : Pos} (nd : (a :: y :: N2).Nodup) (hy : sg.names.lookup y = some .local)
    (ok : ∀ (s : Shared) (H : Hp), ClOk (cxG X (a :: y :: N2) x sg g cdg s H).nox (h1 :: hs) (l.map toCl)) (d1 : (y == ("__debug__" : Str)) = false := by decide) (d2 : (y == ("__classdict__" : Str)) = false := by decide) :
    Gives X (a :: y :: N2) x sg g cdg [.Assign [.Name y p0] (.Constant (.str "") j0 p1) p2, .Try [.Expr (.Call (.Name a q1) [] [] q2) q3] (h1 :: hs) [] [] q4, .Return (some (.Name y q5)) q6] a q (TTw X.K l) := by
  intro f cc s H Q tl act hc h
  refine ⟨_, pss_cons (ps_set (X := (cxG X (a :: y :: N2) x sg g cdg s H).nox) (i := 1) nd rfl (.inl hy) pe_str (by rfl) (.inr hy))
    (pss_cons (ps_try_cl (X := (cxG X (a :: y :: N2) x sg g cdg s H).nox) (tb := fun W D σ H => σ[0]? = some (some (.ref f)) ∧ H cc = some (CodeO cc q) ∧ tl (WE W σ) H (fun _ H' => D.nx σ H')) rfl rfl (fun W pn xe tk _ => ?_) (ok s H))
      (pss_one (ps_ret (pe_var (X := (cxG X (a :: y :: N2) x sg g cdg s H).nox) (i := 1) rfl (.inl hy) d1 d2)))), ?_⟩
  · exact pss_one (ps_expr (act W pn xe q1 q2 tk) (by rfl))
  · refine ⟨rfl, hc, h _ _ (fun cls d H' w e k => ?_) fun v H' k => ?_⟩
    · exact wCl_of l e ⟨_, rfl, k⟩
    · exact ⟨_, rfl, k⟩
/-- what the call of the def with the lambda tells -/
def fW (wd : Str → Option Str) (fb : S → R D) (s : S) : R D := match fb s with
  | .ok _ s' => .ok (.str "") s'
  | .exc n _ s' => match wd n with
    | some w => .ok (.str w) s'
    | none => .stuck
  | .stuck => .stuck
section
variable {X : Cx} {W : WX}
theorem de_word {x a y q : Str} {g c P : Addr} {k : Nat} {N2 : List Str} {sg : Scope} {l : List (Value × Option Str)} {pg : Arguments} {bg : List Stmt} {dV kV doc pm cdv ct oc : Value} {an od : Option Addr} {osl : Array (Option Value)}
    {params : Arguments} {body : Expr} {scope : Scope} {fb : S → R D} {wd : Str → Option Str} {p lpos pos : Pos} (hg : Gl X x) (hm : X.mg x = some (.ref g)) (hk : PySem.W.keepIn X.K (.ref g) = true)
    (lk : X.K.lookup g = some ⟨oc, od, .func (PySem.W.fnOf x x pg bg sg dV kV doc pm an cdv ct), osl⟩) (hcg : PySem.W.codeIn X.K cdv x = true) (bn : L2.Binds X.K (PySem.W.fnOf x x pg bg sg dV kV doc pm an cdv ct) [a] []) (Sg : FnScope (a :: y :: N2) [a] sg) (hva : Vis sg a)
    (gv : Gives X (a :: y :: N2) x sg g cdv bg a (X.env.qual ++ "<lambda>") (TTw X.K l))
    (hw : ∀ n w C, wd n = some w → X.mg n = some (.ref C) → wdOf X.K (.ref C) l = some w)
    (TB : TabB X.base X.mg c P) (hcode : X.env.code = .ref c) (hmT : (P, X.env.qual ++ "<lambda>") ∈ lamT) (hu : ∀ p ∈ lamT, p.1 = P → p.2 = X.env.qual ++ "<lambda>") (hr : Room (k + 2) X.A) (L : LamS X.env.scope scope) (nodef : defaultsOf params X.env = ([], []))
    (bnd : ∀ (q : Str) (cl : List (Str × Addr)) (pm cv ctv : Value), bindArgs (PySem.W.kla_fn "<lambda>" q params body scope cl pm cv ctv) ⟨[], []⟩ = pure [])
    (hb : ∀ (A : Around) (outer : List Env) (s : Shared) (H : Hp) (E : XK) (f cc : Addr), Room k (A.deeper (lamEnv X scope s.heap.objs.size f cc)) → DE (lamCx X A outer s H E scope f cc) (fun cls d _ H => E cls d H) body fb)
    (hdb : (x == ("__debug__" : Str)) = false := by decide) (hd : (a == ("__debug__" : Str)) = false := by decide) (hcd : (a == ("__classdict__" : Str)) = false := by decide) :
    DE X W (.Call (.Name x p) [.Lambda params body scope lpos] [] pos) (fW wd fb) := by
  refine pe_imp (pe_lamS (TT := TTw X.K l) (t := fun E σ H Q => ∃ va s HP, Rel X.K va s σ HP H ∧ ∀ Y : Cx, Y.K = X.K → Y.mg = X.mg → PoE Y (fun cls d _ H => E cls d H) va s σ HP H (fb s) Q) hg hm hk lk hcg bn Sg rfl hva gv TB hcode hmT hu hr L nodef bnd (fun A outer s H E f cc hr2 => pe_imp (hb A outer s H E f cc hr2) fun σ H Q ⟨va, s, HP, rl, h⟩ => ⟨va, s, HP, rl, h _ rfl rfl⟩) hdb hd hcd) fun σ H Q h => ?_
  obtain ⟨va, s, HP, rl, h⟩ := h
  refine ⟨rl.tab.t, fun G grow tabs E Q' hE hQ => ?_⟩
  have st := rl.grow grow tabs
  refine ⟨va, s, HP, st.rel, fun Y eK em => ?_⟩
  unfold fW at h
  cases e : fb s with
  | stuck => rw [e] at h; exact h
  | ok d s' =>
    rw [e] at h
    intro v H' HP' st2 dv
    rw [eK] at st2
    exact hQ _ _ (h (.str "") H' HP' (st.trans st2) (.str _))
  | exc n p s' =>
    rw [e] at h
    dsimp only at h
    intro dd H' HP' C st2 hx hC
    rw [eK] at st2
    rw [em] at hC
    cases ew : wd n with
    | none => rw [ew] at h; exact h.elim
    | some w =>
      rw [ew] at h
      exact hE _ _ _ w (hw n w C ew hC) (h (.str w) H' HP' (st.trans st2) (.str _))
end
end DL

namespace DL
open PySem PySem.Spec PyProof.Rows L2
/-! ## texts -/
def asS (d : D) (s : S) : R Str := match d with
  | .str x => .ok x s
  | _ => .stuck
@[simp] theorem asS_str (x : Str) (s : S) : asS (.str x) s = .ok x s := rfl
/-- a text's method with one argument -/
def MtD (X : Cx) (id : String) (g : Str → D → Option D) : Prop := ∃ r : V → List V → Hp → VK → Prop, MtR X id r ∧
  ∀ (W : WX) (va : VA) (s : S) (σ : St) (HP H : Hp) (a : Str) (y : V) (b d : D) (Q : VK), Rel X.K va s σ HP H → Dv X.K HP y b → g a b = some d → PoE X W va s σ HP H (.ok d s) Q → r (.str a) [y] H Q
def strsOf : List D → Option (List Str)
  | [] => some []
  | .str x :: r => (strsOf r).map (x :: ·)
  | _ => none
@[simp] theorem strsOf_map : ∀ xs : List Str, strsOf (xs.map D.str) = some xs
  | [] => rfl
  | x :: r => by simp [strsOf, strsOf_map r]
theorem strsOf_vals {K : PySem.W.Frag} {H : Hp} : ∀ {ds : List D} {vs : List V} {xs : List Str}, DvA K H vs ds → strsOf ds = some xs → vs = xs.map V.str
  | [], _, xs, h, e => by cases h; cases e; rfl
  | d :: ds, _, xs, h, e => by
    cases h with
    | cons h1 h2 =>
      cases h1 <;> simp [strsOf] at e
      obtain ⟨ms, e1, e2⟩ := e
      subst e2
      rw [strsOf_vals h2 e1]
      rfl
theorem strs_dv {K : PySem.W.Frag} {H : Hp} : ∀ xs : List Str, DvA K H (xs.map V.str) (xs.map D.str)
  | [] => .nil
  | x :: r => .cons (.str x) (strs_dv r)
def gSplit (a : Str) (d : D) : Option D := match d with
  | .str b => if (b.length == 0) = false ∧ a.length + 2 ≤ sizeLine then some (.lst ((Txt.split a b).map .str)) else none
  | _ => none
def gStripC (a : Str) (d : D) : Option D := match d with
  | .str b => if a.length ≤ sizeLine then some (.str (Txt.stripChars a b)) else none
  | _ => none
def gJoin (a : Str) (d : D) : Option D := match d with
  | .lst ds => (strsOf ds).bind fun ys => if (ys.map (·.length)).sum + ys.length * a.length ≤ 16777216 then some (.str (Txt.join a ys)) else none
  | .tup ds => (strsOf ds).bind fun ys => if (ys.map (·.length)).sum + ys.length * a.length ≤ 16777216 then some (.str (Txt.join a ys)) else none
  | _ => none
section
variable {X : Cx} {W : WX} {o e : Expr} {fo fe : S → R D}
theorem md_split : MtD X "str.split" gSplit := by
  refine ⟨_, mt_split, fun W va s σ HP H a y b d Q rl dy e p => ?_⟩
  unfold gSplit at e
  split at e
  · split at e <;> cases e
    cases dy
    rename_i b h
    exact ⟨a, b, rfl, rfl, h.1, h.2, fun q hq => fin_lst p rl (strs_dv _) (by rw [List.length_map]; exact Nat.le_trans (PyProof.Rows.split_le a b) h.2) q hq⟩
  · cases e
theorem md_strip : MtD X "str.strip" gStripC := by
  refine ⟨_, mt_stripChars, fun W va s σ HP H a y b d Q rl dy e p => ?_⟩
  unfold gStripC at e
  split at e
  · split at e <;> cases e
    cases dy
    exact ⟨_, _, rfl, rfl, by assumption, fin_str p rl⟩
  · cases e
theorem md_join : MtD X "str.join" gJoin := by
  refine ⟨_, mt_join, fun W va s σ HP H a y b d Q rl dy e p => ?_⟩
  unfold gJoin at e
  split at e
  · obtain ⟨ys, e1, e2⟩ := Option.bind_eq_some_iff.mp e
    split at e2 <;> cases e2
    cases dy with
    | @lst q vs _ z1 zz z2 => exact ⟨a, q, ys, rfl, rfl, .inl (by rw [← strsOf_vals z2 e1]; exact SqL.of (rl.sub _ _ z1)), by assumption, fin_str p rl⟩
  · obtain ⟨ys, e1, e2⟩ := Option.bind_eq_some_iff.mp e
    split at e2 <;> cases e2
    cases dy with
    | @tup q vs _ z1 zz z2 => exact ⟨a, q, ys, rfl, rfl, .inr (by rw [← strsOf_vals z2 e1]; exact SqT.of (rl.sub _ _ z1)), by assumption, fin_str p rl⟩
  · cases e
theorem de_m1 {id : String} {name : Str} {apos pos : Pos} {g : Str → D → Option D} (slot : Slot "str" name id) (ty : typeOf (.builtin id) = pure (.type "method_descriptor")) (rule : MtD X id g) (ho : DE X W o fo) (he : DE X W e fe)
    (hs : starEach [e] X.env = [(false, eval e X.env)] := by rfl) (hbase : attributeBase o name X.env (eval o X.env) = eval o X.env := by rfl) (hline : (apos.endLine == pos.line) = true := by rfl) :
    DE X W (.Call (.Attribute o name apos) [e] [] pos) (fun s => ((fo s).bind asS).bind fun x s => (fe s).bind fun y s => lift (g x y) s) := by
  obtain ⟨r, h1, h2⟩ := rule
  refine pe_imp (pe_m1 slot ty h1 ho he hs hbase hline) fun σ H Q h => ?_
  obtain ⟨va, s, HP, rl, h⟩ := h
  refine ⟨va, s, HP, rl, ?_⟩
  dsimp only at h
  cases e0 : fo s with
  | stuck => rw [e0] at h; exact h
  | exc n p s' => rw [e0] at h; exact h
  | ok x s1 =>
    rw [e0] at h
    intro v1 H1 HP1 st1 d1
    cases x with
    | str a =>
      cases d1
      refine ⟨⟨a, rfl⟩, va, s1, HP1, st1.rel, ?_⟩
      have h' := PoE.from st1 h
      simp only [R.bind_ok, asS_str] at h'
      cases e1 : fe s1 with
      | stuck => rw [e1] at h'; exact h'
      | exc n p s' => rw [e1] at h'; exact h'
      | ok y s2 =>
        rw [e1] at h'
        intro v2 H2 HP2 st2 d2
        have h3 := PoE.from st2 h'
        simp only [R.bind_ok] at h3
        cases e2 : g a y with
        | none => rw [e2] at h3; exact h3.elim
        | some d => rw [e2] at h3; exact h2 W va s2 σ HP2 H2 a v2 y d Q st2.rel d2 e2 h3
    | _ => exact h.elim
end
end DL

namespace DL
open PySem PySem.Spec PyProof.Rows L2
/-! ## texts, further -/
/-- the signs of a text -/
def sgD (x : Str) : List D := x.cps.toList.map fun c => .str ⟨#[c]⟩
theorem walks_str {K : PySem.W.Frag} {HP0 : Hp} {x : Str} : Walks K (Its x) (sgD x) HP0 := fun i HP H e1 e2 => by
  refine ⟨fun d hd => ?_, fun h => (by simpa [sgD] using h : x.cps.size ≤ i)⟩
  have hlt : i < x.cps.size := by
    rcases Nat.lt_or_ge i x.cps.size with z | z
    · exact z
    · rw [List.getElem?_eq_none_iff.mpr (by simpa [sgD] using z)] at hd; cases hd
  refine ⟨hlt, fun v H' ⟨y1, c, y2, y3⟩ => ?_⟩
  subst y1 y3
  have hd' : (.str ⟨#[c]⟩ : D) = d := by
    unfold sgD at hd
    rw [List.getElem?_map, Array.getElem?_toList, y2] at hd
    simpa using hd
  subst hd'
  exact ⟨HP, .str _, fun va s σ r => Stp.refl r⟩
def asSg (d : D) (s : S) : R (List D) := match d with
  | .str x => if x.length ≤ sizeLine then .ok (sgD x) s else .stuck
  | _ => .stuck
def opSlS (x : D) (lo hi : Option Int) : Option D := match x with
  | .str z => if z.length ≤ sizeLine then some (.str (cutS z lo hi)) else none
  | _ => none
/-- one sign in a text -/
def opInS (x y : D) : Option D := match x, y with
  | .str c, .str z => match c.cps.toList with
    | [k] => some (.bl (decide (k ∈ z.cps.toList)))
    | _ => none
  | _, _ => none
def opNotInS (x y : D) : Option D := match x, y with
  | .str c, .str z => match c.cps.toList with
    | [k] => some (.bl (!decide (k ∈ z.cps.toList)))
    | _ => none
  | _, _ => none
def gIntS : List D → Option D
  | [.str a] => if a.length ≤ 640 then (intText? a).map .int else none
  | ds => gInt ds
def gStr : List D → Option D
  | [.int i] => if i.natAbs.log2 < 1920 then some (.str (Str.ofString (toString i))) else none
  | [.str a] => some (.str a)
  | _ => none
section
variable {X : Cx} {W : WX} {a b c e tg : Expr} {fa fb fc : S → R D} {pos : Pos}
theorem di_str (ha : DE X W a fa) : DI X W tg a (fun s => (fa s).bind asSg) := by
  refine ⟨fun pins s σ H Q I h => ?_⟩
  obtain ⟨va, st, HP, rl, h⟩ := h
  dsimp only at h
  refine (pi_str (tg := tg) ha).run pins s σ H Q I (bindE rl (fun d s' v H' HP' e stp dv => ?_) (fun n p s' dd H' HP' C e stp z m => ?_) (fun e => ?_)) <;> rw [e] at h
  · cases d with
    | str x =>
      cases dv
      simp only [R.bind_ok, asSg] at h
      split at h
      · rename_i hz
        exact ⟨x, rfl, h (Its x) H' HP' stp (by simp only [sgD, List.length_map, Array.length_toList]; exact hz) walks_str⟩
      · exact h.elim
    | _ => exact h.elim
  · exact h dd H' HP' C stp z m
  · exact h
theorem od_ins : OpD X (compareOp .In) opInS := by
  refine ⟨_, op_in_sign, fun W va s σ HP H x y a b d Q rl dx dy e p => ?_⟩
  unfold opInS at e
  split at e
  · split at e <;> cases e
    cases dx; cases dy
    rename_i c z zz k hk
    exact ⟨k, z, by rw [show c = ⟨#[k]⟩ from Str.ext' (Array.toList_inj.mp hk)], rfl, fin_bl p rl⟩
  · cases e
theorem od_notins : OpD X (compareOp .NotIn) opNotInS := by
  refine ⟨_, op_notIn_sign, fun W va s σ HP H x y a b d Q rl dx dy e p => ?_⟩
  unfold opNotInS at e
  split at e
  · split at e <;> cases e
    cases dx; cases dy
    rename_i c z zz k hk
    exact ⟨k, z, by rw [show c = ⟨#[k]⟩ from Str.ext' (Array.toList_inj.mp hk)], rfl, fin_bl p rl⟩
  · cases e
theorem cd_ints : CallD X (.type "int") gIntS := by
  obtain ⟨r, h1, h2⟩ := cd_int (X := X)
  refine ⟨_, CallR.or call_int_str h1, fun W va s σ HP H vs ds d Q rl dv e p => ?_⟩
  unfold gIntS at e
  split at e
  · split at e
    · obtain ⟨n, e1, e2⟩ := Option.map_eq_some_iff.mp e
      cases e2
      cases dv with
      | cons y1 y2 => cases y2; cases y1; exact .inl ⟨_, n, rfl, e1, by assumption, fin_int p rl⟩
    · cases e
  · exact .inr (h2 W va s σ HP H vs _ d Q rl dv e p)
theorem cd_str : CallD X (.type "str") gStr := by
  refine ⟨_, CallR.or call_str_int SkE.call_str_str, fun W va s σ HP H vs ds d Q rl dv e p => ?_⟩
  unfold gStr at e
  split at e
  · split at e <;> cases e
    cases dv with
    | cons y1 y2 => cases y2; cases y1; exact .inl ⟨_, rfl, by assumption, fin_str p rl⟩
  · cases e
    cases dv with
    | cons y1 y2 => cases y2; cases y1; exact .inr ⟨_, rfl, fin_str p rl⟩
  · cases e
theorem de_slS {lo hi : Option Expr} {fl fh : S → R (Option Int)} {p2 : Pos} (ha : DE X W a fa) (hl : DO X W lo fl) (hh : DO X W hi fh) :
    DE X W (.Subscript a (.Slice lo hi none p2) pos) (fun s => (fa s).bind fun x s => (fl s).bind fun l s => (fh s).bind fun u s => lift (opSlS x l u) s) := by
  refine pe_imp (pe_slice sl_str ha hl hh) fun σ H Q h => ?_
  obtain ⟨va, s, HP, rl, h⟩ := h
  dsimp only at h
  refine bindEE rl h fun x s1 v H1 HP1 st1 d1 h1 => ?_
  refine ⟨va, s1, HP1, st1.rel, ?_⟩
  cases e1 : fl s1 with
  | stuck => rw [e1] at h1; exact h1
  | exc n p s' => rw [e1] at h1; exact h1
  | ok l s2 =>
    rw [e1] at h1
    intro H2 HP2 st2
    have h2 := PoE.from st2 h1
    refine ⟨va, s2, HP2, st2.rel, ?_⟩
    cases e2 : fh s2 with
    | stuck => simp only [R.bind_ok, e2, R.bind_stuck] at h2; exact h2
    | exc n p s' => simp only [R.bind_ok, e2, R.bind_exc] at h2; exact h2
    | ok u s3 =>
      simp only [R.bind_ok, e2] at h2
      intro H3 HP3 st3
      have h3 := PoE.from st3 h2
      cases x with
      | str z =>
        cases d1
        unfold opSlS at h3
        dsimp only at h3
        by_cases hz : z.length ≤ sizeLine
        · rw [if_pos hz] at h3
          exact ⟨z, rfl, hz, fin_str h3 st3.rel⟩
        · rw [if_neg hz] at h3; exact h3.elim
      | _ => exact h3.elim
end
end DL

namespace DL
open PySem PySem.Spec PyProof.Rows L2 LamX
/-- a def, its code object known -/
theorem fnd_code {P : Program} {w : World} {K : PySem.W.Frag} {mg : Str → Option Value} {base : Heap} {k : Nat} {x : Str} {st : Stmt} {N ps : List Str} {f' : S → T} {f : Addr} {oc : Value} {od an : Option Addr} {osl : Array (Option Value)} {kV doc pm cdv ct : Value}
    (lk : K.lookup f = some ⟨oc, od, .func (PySem.W.fnOf x x (defArgs st) (defBody st) (defScope st) .none kV doc pm an cdv ct), osl⟩) (hcd : PySem.W.codeIn K cdv x = true) (Sc : FnScope N ps (defScope st))
    (body : ∀ (A : Around) (outer : List Env) (s : Shared) (H : Hp) (E : XK), Room k (A.deeper (envOfC x (defScope st) s.heap.objs.size f cdv)) → Takes (cxOf (L2.CX P w) P w K mg base N x (defScope st) f cdv A outer s H E) (fun cls d _ H => E cls d H) → PassesOwn (model (cxOf (L2.CX P w) P w K mg base N x (defScope st) f cdv A outer s H E).prog (cxOf (L2.CX P w) P w K mg base N x (defScope st) f cdv A outer s H E).w) (cxOf (L2.CX P w) P w K mg base N x (defScope st) f cdv A outer s H E).A (cxOf (L2.CX P w) P w K mg base N x (defScope st) f cdv A outer s H E).env (cxOf (L2.CX P w) P w K mg base N x (defScope st) f cdv A outer s H E).xe →
      DSs (cxOf (L2.CX P w) P w K mg base N x (defScope st) f cdv A outer s H E) (fun cls d _ H => E cls d H) (defBody st) f') :
    FnD P w K mg base (k + 1) f (PySem.W.fnOf x x (defArgs st) (defBody st) (defScope st) .none kV doc pm an cdv ct) ps (fun ds v => (f' (stD N ds v)).fin) := by
  constructor
  · rintro vs H Q E ⟨_, _, _, _, _, e, _⟩
    exact e
  · intro A outer s H args us vs Q E hr e0 hb rv h
    obtain ⟨va, HP, ds, v, vs', e1, sm, dv, ar, tb, po⟩ := h
    refine run_ofS lk hcd Sc hr e0 hb rv e1 fun hr2 => ?_
    have hN : ps.length ≤ N.length := by
      have := congrArg List.length Sc.pre
      rw [List.length_take] at this
      omega
    refine ⟨_, body A outer s H E hr2 tkX hpX, va, stD N ds v, HP, rel_start (by rw [e1]; exact hN) sm dv ar tb, ?_⟩
    dsimp only at po
    cases q : f' (stD N ds v) with
    | stuck => rw [q] at po; exact po
    | brk s' => rw [q] at po; exact po.elim
    | cnt s' => rw [q] at po; exact po.elim
    | next s' => rw [q] at po; exact fun σ' H' HP' stp => po .non H' HP' stp.fg .non
    | ret d s' => rw [q] at po; exact fun v' σ' H' HP' stp dv' => po v' H' HP' stp.fg dv'
    | retO xs s' => rw [q] at po; exact fun p vs σ' H' HP' stp n z dv' => po p vs H' HP' stp.fg n z dv'
    | exc n p s' => rw [q] at po; exact fun dd σ' H' HP' C stp z y => po dd H' HP' C stp.fg z y
/-- the end of a law in whose defs xs lambdas stand -/
theorem walk_ofTabs {l : PySem.W.OpenLaw} {n k : Nat} {q : Program} {loose : List Str} {XP : (Str → Option Value) → Heap → Prop} {YP : World → Heap → Prop} {d : DefRec} {K : Params → PySem.W.Frag} {CX : World → CXT} {x : Str} (xs : List Str)
    (hn : l.most = some n) (hn2 : n ≤ sizeLine) (hdf : d.params.defaults = []) (hr : Room k callerA) (hrec : ∀ y ∈ xs, ((recsOf q).any fun e => e.name == y) = true) (hY : ∀ (w : World) (h : Heap), YP w h → (K w.params).In h)
    (F : ∀ (w : World) (mg : Str → Option Value) (fa : Addr) (h : Heap), YP w h → (K w.params).In h → h.Ns mainGlobals mg → mg d.name = some (.ref fa) → (∀ y ∈ xs, ∀ fy, mg y = some (.ref fy) → OwnTab (K w.params) fy h) → LawAtS l w (K w.params) (CX w) k n x mg fa h)
    (none_left : ∀ (w : World) (G : Hp) (t0 : Shared) (e : Value) (t1 : Shared), CX w [] G t0 (fun _ _ _ => False) e t1 → False) : PySem.W.WalkO q loose XP YP l.row.toRowW d [] (fun f vs => PySem.call f vs) := by
  refine Att.attach_callB hn hdf fun w s0 s1 mg mb fa o pm cd doc a vs ns G Y ho hd hcd hmg hobj hints hlen hbits hg => ?_
  have KX := hY w _ Y
  have tabs : ∀ y ∈ xs, ∀ fy, mg y = some (.ref fy) → OwnTab (K w.params) fy s1.heap := by
    intro y hy fy my c P o1 fd1 e dd us sl k1 k2 k3 k4 k5
    obtain ⟨r, hm, hq⟩ := List.any_eq_true.mp (hrec y hy)
    have hq2 : r.name = y := beq_iff_eq.mp hq
    obtain ⟨b, o2, fd2, c2, P2, m1, m2, m3, m4, _, ⟨oc, uc, m5, _, m6, m7⟩, m8⟩ := G.T.tab r hm
    rw [hq2, my] at m1
    cases m1
    rw [KX _ _ k1] at m2
    cases m2
    rw [k2] at m3
    cases m3
    rw [k3] at m4
    cases m4
    rw [KX _ _ k4] at m5
    cases m5
    cases m6
    rw [k5] at m7
    cases m7
    exact m8
  obtain ⟨fd, cs, sp, hT, nT, C, hb, hsp, hF⟩ := F w mg fa _ Y KX G.T.g hmg tabs
  exact law_callTs KX G.T.g G.T.b G.T.builtins G.T.nolimit hg hT nT C G.T.bmain hobj hints (Nat.le_trans hlen hn2) hr hF hb (fun H hH hS => hsp H a ns hlen hbits hH hS) fun H e s' => none_left w H s1 e s'
end DL

namespace DL
open PySem PySem.Spec PyProof.Rows L2
/-! ## a text so many times -/
open Classical in
noncomputable def opMulS (x y : D) : Option D := match x, y with
  | .str z, .int n => if MulOk z n then some (.str (Txt.mul z n)) else none
  | _, _ => none
theorem op_times {X : Cx} : OpR X (binaryOp .Mult) (fun x y H Q => ∃ z n, x = .str z ∧ y = .int n ∧ MulOk z n ∧ Q (.str (Txt.mul z n)) H) := by
  intro pins s σ H x y v u Q I rx ry h
  obtain ⟨z, n, rfl, rfl, ok, q⟩ := h
  obtain ⟨t, rfl⟩ := rx
  obtain ⟨t2, rfl⟩ := ry
  exact SB.mul ok fun t3 k => ⟨.str _, H, I.tok _, ⟨_, rfl⟩, q⟩
theorem od_muls {X : Cx} : OpD X (binaryOp .Mult) opMulS := by
  refine ⟨_, op_times, fun W va s σ HP H x y a b d Q rl dx dy e p => ?_⟩
  unfold opMulS at e
  split at e
  · split at e <;> cases e
    cases dx; cases dy
    exact ⟨_, _, rfl, rfl, by assumption, fin_str p rl⟩
  · cases e
theorem mul_str {z : Str} {n : Int} (h : MulOk z n) : opMulS (.str z) (.int n) = some (.str (Txt.mul z n)) := if_pos h
/-! ## a sum of two lists for one slot alone -/
def addO (i : Nat) (x y : D) (s : S) : T := match x, y with
  | .lst xs, .lst ys => if xs.length + ys.length ≤ sizeLine then .next (s.put i (.own (xs ++ ys))) else .stuck
  | _, _ => .stuck
section
variable {X : Cx} {W : WX} {a b : Expr} {fa fb : S → R D} {pos p0 : Pos}
theorem ds_ownadd (i : Nat) {x : Str} {pos' : Pos} (hN : X.N.Nodup) (ha : DE X W a fa) (hb : DE X W b fb) (hi : X.N[i]? = some x := by rfl) (hx : Loc X.env.scope x := by first | exact Or.inl rfl | exact Or.inr rfl)
    (hs : swapsWith (.BinOp a .Add b p0) (some (.Name x pos')) pos.line X.env = pure false := by rfl) (hf : X.fn x = true ∨ X.env.scope.names.lookup x = some .local := by first | exact .inl rfl | exact .inr rfl | assumption) :
    DS X W (.Assign [.Name x pos'] (.BinOp a .Add b p0) pos) (fun s => (fa s).thn fun x s => (fb s).thn fun y s => addO i x y s) := by
  refine ps_imp (ps_set hN hi hx (pe_op op_cat ha hb) hs hf) fun D σ H ⟨va, s, HP, rl, h⟩ => ?_
  refine bindES rl h fun x s1 v H1 HP1 st1 d1 h1 => bindES st1.rel h1 fun y s2 u H2 HP2 st2 d2 h2 => ?_
  have d1' := Dv.mono st2.same x v d1
  unfold addO at h2
  split at h2
  · split at h2
    · rename_i hz
      cases d1' with
      | @lst q xs ds y0 y1 a1 =>
        cases d2 with
        | @lst r ys es z0 z1 a2 =>
          refine ⟨q, r, xs, ys, rfl, rfl, st2.rel.sub _ _ y0, st2.rel.sub _ _ z0, by rw [a1.length, a2.length]; exact hz, fun n hn => ?_⟩
          exact h2 _ _ HP2 (st2.rel.putOwn i hn (by rw [List.length_append]; exact hz) (a1.append a2))
    · exact h2.elim
  · exact h2.elim
end
end DL

namespace K10
open PySem PySem.Spec PyProof.Rows L2 DL
def topS (i : Nat) : Stmt := PySem.Challenge.pw_runsplits_k10_texts_of_books.main.body.getD i (.Pass ⟨0, 0, 0, 0⟩)
abbrev s_is_int : Stmt := topS 21
abbrev n_is_int : List Str := ["value", "low", "high"]
abbrev p_is_int : List Str := ["value", "low", "high"]
theorem sc_is_int : FnScope n_is_int p_is_int (defScope s_is_int) := ⟨rfl, rfl, rfl, by decide +kernel, rfl, by decide +kernel, by decide +kernel⟩
abbrev s_tells : Stmt := topS 22
abbrev n_tells : List Str := ["runs", "pieces", "value"]
abbrev p_tells : List Str := ["runs", "pieces", "value"]
theorem sc_tells : FnScope n_tells p_tells (defScope s_tells) := ⟨rfl, rfl, rfl, by decide +kernel, rfl, by decide +kernel, by decide +kernel⟩
abbrev s_fits : Stmt := topS 23
abbrev n_fits : List Str := ["value", "telling"]
abbrev p_fits : List Str := ["value"]
theorem sc_fits : FnScope n_fits p_fits (defScope s_fits) := ⟨rfl, rfl, rfl, by decide +kernel, rfl, by decide +kernel, by decide +kernel⟩
abbrev s_need_book : Stmt := topS 24
abbrev n_need_book : List Str := ["value"]
abbrev p_need_book : List Str := ["value"]
theorem sc_need_book : FnScope n_need_book p_need_book (defScope s_need_book) := ⟨rfl, rfl, rfl, by decide +kernel, rfl, by decide +kernel, by decide +kernel⟩
abbrev s_is_book : Stmt := topS 25
abbrev n_is_book : List Str := ["value"]
abbrev p_is_book : List Str := ["value"]
theorem sc_is_book : FnScope n_is_book p_is_book (defScope s_is_book) := ⟨rfl, rfl, rfl, by decide +kernel, rfl, by decide +kernel, by decide +kernel⟩
abbrev s_text_of : Stmt := topS 27
abbrev n_text_of : List Str := ["book", "lines", "item", "telling"]
abbrev p_text_of : List Str := ["book"]
theorem sc_text_of : FnScope n_text_of p_text_of (defScope s_text_of) := ⟨rfl, rfl, rfl, by decide +kernel, rfl, by decide +kernel, by decide +kernel⟩
abbrev s_integer_in : Stmt := topS 28
abbrev n_integer_in : List Str := ["word", "figures", "sign"]
abbrev p_integer_in : List Str := ["word"]
theorem sc_integer_in : FnScope n_integer_in p_integer_in (defScope s_integer_in) := ⟨rfl, rfl, rfl, by decide +kernel, rfl, by decide +kernel, by decide +kernel⟩
abbrev s_book_in : Stmt := topS 29
abbrev n_book_in : List Str := ["value", "rows", "line", "found", "word", "words", "book"]
abbrev p_book_in : List Str := ["value"]
theorem sc_book_in : FnScope n_book_in p_book_in (defScope s_book_in) := ⟨rfl, rfl, rfl, by decide +kernel, rfl, by decide +kernel, by decide +kernel⟩
abbrev s_book_text : Stmt := topS 30
abbrev n_book_text : List Str := ["book"]
abbrev p_book_text : List Str := ["book"]
theorem sc_book_text : FnScope n_book_text p_book_text (defScope s_book_text) := ⟨rfl, rfl, rfl, by decide +kernel, rfl, by decide +kernel, by decide +kernel⟩
abbrev s_read_book : Stmt := topS 31
abbrev n_read_book : List Str := ["value"]
abbrev p_read_book : List Str := ["value"]
theorem sc_read_book : FnScope n_read_book p_read_book (defScope s_read_book) := ⟨rfl, rfl, rfl, by decide +kernel, rfl, by decide +kernel, by decide +kernel⟩
abbrev s__law_vial_of : Stmt := topS 33
abbrev n__law_vial_of : List Str := ["_law_script", "_law_k", "_law_cell"]
abbrev p__law_vial_of : List Str := ["_law_script", "_law_k"]
theorem sc__law_vial_of : FnScope n__law_vial_of p__law_vial_of (defScope s__law_vial_of) := ⟨rfl, rfl, rfl, by decide +kernel, rfl, by decide +kernel, by decide +kernel⟩
abbrev s__law_drop : Stmt := topS 34
abbrev n__law_drop : List Str := ["_law_vial", "_law_many", "_law_found", "_law_wide"]
abbrev p__law_drop : List Str := ["_law_vial", "_law_many"]
theorem sc__law_drop : FnScope n__law_drop p__law_drop (defScope s__law_drop) := ⟨rfl, rfl, rfl, by decide +kernel, rfl, by decide +kernel, by decide +kernel⟩
abbrev s__law_some : Stmt := topS 35
abbrev n__law_some : List Str := ["_law_vial", "_law_things"]
abbrev p__law_some : List Str := ["_law_vial", "_law_things"]
theorem sc__law_some : FnScope n__law_some p__law_some (defScope s__law_some) := ⟨rfl, rfl, rfl, by decide +kernel, rfl, by decide +kernel, by decide +kernel⟩
abbrev s__law_spoken : Stmt := topS 36
abbrev n__law_spoken : List Str := ["_law_vial", "_law_runs", "_law_pieces", "_law_row", "_law_first", "_law_last", "_law_run", "_law_wide", "_law_kind", "_law_off", "_law_least", "_law_times_here", "_law_low", "_law_other", "_law_mine", "_law_yours"]
abbrev p__law_spoken : List Str := ["_law_vial", "_law_runs", "_law_pieces", "_law_row"]
theorem sc__law_spoken : FnScope n__law_spoken p__law_spoken (defScope s__law_spoken) := ⟨rfl, rfl, rfl, by decide +kernel, rfl, by decide +kernel, by decide +kernel⟩
abbrev s__law_times : Stmt := topS 37
abbrev n__law_times : List Str := ["_law_vial", "_law_runs", "_law_pieces", "_law_most", "_law_found", "_law_run", "_law_piece"]
abbrev p__law_times : List Str := ["_law_vial", "_law_runs", "_law_pieces", "_law_most"]
theorem sc__law_times : FnScope n__law_times p__law_times (defScope s__law_times) := ⟨rfl, rfl, rfl, by decide +kernel, rfl, by decide +kernel, by decide +kernel⟩
abbrev s__law_volume : Stmt := topS 38
abbrev n__law_volume : List Str := ["_law_vial", "_law_runs", "_law_pieces", "_law_most", "_law_many", "_law_row", "_law_found", "_law_bests", "_law_turn", "_law_telling"]
abbrev p__law_volume : List Str := ["_law_vial", "_law_runs", "_law_pieces", "_law_most", "_law_many"]
theorem sc__law_volume : FnScope n__law_volume p__law_volume (defScope s__law_volume) := ⟨rfl, rfl, rfl, by decide +kernel, rfl, by decide +kernel, by decide +kernel⟩
abbrev s__law_number : Stmt := topS 40
abbrev n__law_number : List Str := ["_law_word_here", "_law_figures"]
abbrev p__law_number : List Str := ["_law_word_here"]
theorem sc__law_number : FnScope n__law_number p__law_number (defScope s__law_number) := ⟨rfl, rfl, rfl, by decide +kernel, rfl, by decide +kernel, by decide +kernel⟩
abbrev s__law_read : Stmt := topS 41
abbrev n__law_read : List Str := ["_law_text", "_law_rows", "_law_line", "_law_found", "_law_words", "_law_row", "_law_word_here", "_law_volume_here"]
abbrev p__law_read : List Str := ["_law_text"]
theorem sc__law_read : FnScope n__law_read p__law_read (defScope s__law_read) := ⟨rfl, rfl, rfl, by decide +kernel, rfl, by decide +kernel, by decide +kernel⟩
abbrev s__law_bent : Stmt := topS 43
abbrev n__law_bent : List Str := ["_law_vial", "_law_text", "_law_signs", "_law_at", "_law_lines", "_law_here", "_law_some_here"]
abbrev p__law_bent : List Str := ["_law_vial", "_law_text"]
theorem sc__law_bent : FnScope n__law_bent p__law_bent (defScope s__law_bent) := ⟨rfl, rfl, rfl, by decide +kernel, rfl, by decide +kernel, by decide +kernel⟩
structure Bl (mg : Str → Option Value) : Prop where
  «isinstance» : mg "isinstance" = none
  «int» : mg "int" = none
  «bool» : mg "bool" = none
  «str» : mg "str" = none
  «tuple» : mg "tuple" = none
  «list» : mg "list" = none
  «len» : mg "len" = none
  «sum» : mg "sum" = none
  «min» : mg "min" = none
  «max» : mg "max" = none
  «abs» : mg "abs" = none
  «range» : mg "range" = none
  MOST_RUNS : GInt mg "MOST_RUNS" 3
  MOST_PIECES : GInt mg "MOST_PIECES" 4
  MOST_TELLINGS : GInt mg "MOST_TELLINGS" 8
  MOST_BESTS : GInt mg "MOST_BESTS" 3
  LONG : GInt mg "LONG" 1000000
section
variable {P : Program} {w : World} {K : PySem.W.Frag} {mg : Str → Option Value} {base : Heap}
/-! ## the program -/
def isI (d : D) (lo hi : Int) : Bool := match d with
  | .int i => decide (lo ≤ i) && decide (i ≤ hi)
  | _ => false
/-- a datum whose class isinstance tells -/
def plain : D → Bool
  | .ref _ => false
  | .scr _ => false
  | _ => true
def m_is_int : FM
  | [d, .int lo, .int hi], none => if plain d then .ok (.bl (isI d lo hi)) none else .stuck
  | _, _ => .stuck
theorem ok_is_int (B : Bl mg) (Th : There K mg "is_int" s_is_int p_is_int) : Has P w K mg base 1 "is_int" p_is_int m_is_int :=
  has_of Th sc_is_int fun f cdv A outer s H E hr tk hp => ⟨_, (dss_one (ds_ret (de_and (de_isi "int" B.isinstance B.int PyProof.Rows.boot_int (de_v 0)) (de_and (de_not (de_isi "bool" B.isinstance B.bool PyProof.Rows.boot_bool (de_v 0))) (de_one (de_chain (de_v 1) (chv_link od_le (de_v 0) (chv_last od_le (de_v 2))))))))), fun ds v hm => by
    unfold m_is_int at hm ⊢
    split at hm
    · rename_i d lo hi
      cases d <;> simp [plain] at hm ⊢
      all_goals simp [isI]
      rename_i i
      by_cases h : lo ≤ i <;> simp [h]
    · exact absurd rfl hm⟩
theorem cp_is_int {d : D} {lo hi : Int} {s : S} (h : plain d = true) : callP m_is_int 3 [d, .int lo, .int hi] s = .ok (.bl (isI d lo hi)) s := by
  simp [callP, m_is_int, h]
theorem plain_okd {n : Nat} {d : D} (h : okd n d = true) : plain d = true := by cases d <;> first | rfl | (cases n <;> simp [okd] at h)
theorem okd_str {n : Nat} {x : Str} (h : okd n (.str x) = true) : PyData.strOk x = true := by cases n <;> simpa [okd] using h
theorem okd_items {n : Nat} {xs : List D} (h : okd (n + 1) (.tup xs) = true) : ∀ x ∈ xs, okd n x = true := by simpa [okd] using h
theorem ok_best : PyData.strOk "best" = true := by decide +kernel
theorem ok_span : PyData.strOk "span" = true := by decide +kernel
theorem ok_gap : PyData.strOk "gap" = true := by decide +kernel
theorem sb_ne : ("span" == ("best" : Str)) = false := by decide +kernel
theorem gb_ne : ("gap" == ("best" : Str)) = false := by decide +kernel
theorem gs_ne : ("gap" == ("span" : Str)) = false := by decide +kernel
def gtI (a b : D) (hi : Int) : Bool := match a with
  | .int i => isI b (i + 1) hi
  | _ => false
def geI (a b : D) (hi : Int) : Bool := match a with
  | .int i => isI b i hi
  | _ => false
def neI (a b : D) : Bool := match a, b with
  | .int i, .int j => !(i == j)
  | _, _ => false
def tellsB (runs pieces : Int) (d : D) : Bool := match d with
  | .tup [.str k, a, b, c] => k == "best" && (isI a 0 (pieces - 1) && (gtI a b pieces && isI c 1 1000000))
  | .tup [.str k, r, x, y, l, h] => !(k == "best") && (isI r 0 (runs - 1) && (if k == "span" then isI x 0 (pieces - 1) && (gtI x y pieces && (isI l 0 1000000 && geI l h 1000000))
      else k == "gap" && (isI x 0 (runs - 1) && (neI r x && (isI y 1 pieces && (isI l (-1000000) 1000000 && geI l h 1000000))))))
  | _ => false
def m_tells : FM
  | [.int runs, .int pieces, d], none => if okd 60 d then .ok (.bl (tellsB runs pieces d)) none else .stuck
  | _, _ => .stuck
theorem isI_int {d : D} {lo hi : Int} (h : isI d lo hi = true) : ∃ i, d = .int i ∧ lo ≤ i ∧ i ≤ hi := by
  cases d <;> simp [isI] at h
  exact ⟨_, rfl, h⟩
theorem ok_tells (B : Bl mg) (h_is_int : Has P w K mg base 1 "is_int" p_is_int m_is_int) (Th : There K mg "tells" s_tells p_tells) : Has P w K mg base 2 "tells" p_tells m_tells :=
  has_of Th sc_tells fun f cdv A outer s H E hr tk hp => ⟨_, (dss_cons (ds_if (dt_w (dw_or (dt_not (dt_val (de_isi "tuple" B.isinstance B.tuple PyProof.Rows.boot_tuple (de_v 2)))) (dw_or (dt_cmp od_lt (de_callB cd_len B.len PySem.boot_len (da_cons (de_v 2) da_nil)) de_int (nomark _)) (dw_or1 (dt_not (dt_val (de_isi "str" B.isinstance B.str PyProof.Rows.boot_str (de_ix (de_v 2) de_int)))))))) (dss_one (ds_ret de_bl)) dss_nil)
    (dss_cons (ds_if (dt_cmp (od_eq hr) (de_ix (de_v 2) de_int) de_str (nomark _)) (dss_cons (ds_if (dt_w (dw_or (dt_cmp (od_ne hr) (de_callB cd_len B.len PySem.boot_len (da_cons (de_v 2) da_nil)) de_int (nomark _)) (dw_or (dt_not (dt_val (dc h_is_int tk (hr.mono (by decide)) (da_cons (de_ix (de_v 2) de_int) (da_cons de_int (da_cons (de_op od_sub (de_v 1) de_int) da_nil)))))) (dw_or1 (dt_not (dt_val (dc h_is_int tk (hr.mono (by decide)) (da_cons (de_ix (de_v 2) de_int) (da_cons (de_op od_add (de_ix (de_v 2) de_int) de_int) (da_cons (de_v 1) da_nil)))))))))) (dss_one (ds_ret de_bl)) dss_nil)
      (dss_one (ds_ret (dc h_is_int tk (hr.mono (by decide)) (da_cons (de_ix (de_v 2) de_int) (da_cons de_int (da_cons (dgi B.LONG) da_nil))))))) dss_nil)
    (dss_cons (ds_if (dt_w (dw_or (dt_cmp (od_ne hr) (de_callB cd_len B.len PySem.boot_len (da_cons (de_v 2) da_nil)) de_int (nomark _)) (dw_or1 (dt_not (dt_val (dc h_is_int tk (hr.mono (by decide)) (da_cons (de_ix (de_v 2) de_int) (da_cons de_int (da_cons (de_op od_sub (de_v 0) de_int) da_nil))))))))) (dss_one (ds_ret de_bl)) dss_nil)
    (dss_cons (ds_if (dt_cmp (od_eq hr) (de_ix (de_v 2) de_int) de_str (nomark _)) (dss_cons (ds_if (dt_w (dw_or (dt_not (dt_val (dc h_is_int tk (hr.mono (by decide)) (da_cons (de_ix (de_v 2) de_int) (da_cons de_int (da_cons (de_op od_sub (de_v 1) de_int) da_nil)))))) (dw_or1 (dt_not (dt_val (dc h_is_int tk (hr.mono (by decide)) (da_cons (de_ix (de_v 2) de_int) (da_cons (de_op od_add (de_ix (de_v 2) de_int) de_int) (da_cons (de_v 1) da_nil))))))))) (dss_one (ds_ret de_bl)) dss_nil)
      (dss_one (ds_ret (de_and (dc h_is_int tk (hr.mono (by decide)) (da_cons (de_ix (de_v 2) de_int) (da_cons de_int (da_cons (dgi B.LONG) da_nil)))) (de_one (dc h_is_int tk (hr.mono (by decide)) (da_cons (de_ix (de_v 2) de_int) (da_cons (de_ix (de_v 2) de_int) (da_cons (dgi B.LONG) da_nil))))))))) dss_nil)
    (dss_cons (ds_if (dt_w (dw_or (dt_cmp (od_ne hr) (de_ix (de_v 2) de_int) de_str (nomark _)) (dw_or (dt_not (dt_val (dc h_is_int tk (hr.mono (by decide)) (da_cons (de_ix (de_v 2) de_int) (da_cons de_int (da_cons (de_op od_sub (de_v 0) de_int) da_nil)))))) (dw_or1 (dt_cmp (od_eq hr) (de_ix (de_v 2) de_int) (de_ix (de_v 2) de_int) (nomark _)))))) (dss_one (ds_ret de_bl)) dss_nil)
    (dss_one (ds_ret (de_and (dc h_is_int tk (hr.mono (by decide)) (da_cons (de_ix (de_v 2) de_int) (da_cons de_int (da_cons (de_v 1) da_nil)))) (de_and (dc h_is_int tk (hr.mono (by decide)) (da_cons (de_ix (de_v 2) de_int) (da_cons (de_neg (dgi B.LONG)) (da_cons (dgi B.LONG) da_nil)))) (de_one (dc h_is_int tk (hr.mono (by decide)) (da_cons (de_ix (de_v 2) de_int) (da_cons (de_ix (de_v 2) de_int) (da_cons (dgi B.LONG) da_nil)))))))))))))), fun ds v hm => by
    unfold m_tells at hm ⊢
    split at hm
    · rename_i runs pieces d
      by_cases ho : okd 60 d = true
      · rw [if_pos ho]
        cases d with
        | tup xs =>
          have hi := okd_items ho
          rcases xs with _ | ⟨a, _ | ⟨b, _ | ⟨c, _ | ⟨e, _ | ⟨g, _ | ⟨i, _ | ⟨j, r⟩⟩⟩⟩⟩⟩⟩
          · simp [tellsB]
          · simp [tellsB]
          · simp [tellsB]
          · simp [tellsB]
          · have pa := plain_okd (hi a (by simp))
            have pb := plain_okd (hi b (by simp))
            have pc := plain_okd (hi c (by simp))
            have pe := plain_okd (hi e (by simp))
            cases a with
            | str k =>
              have sk := okd_str (hi (.str k) (by simp))
              simp [tellsB, eq_str' sk ok_best]
              by_cases hk : k = "best"
              · simp [hk, cp_is_int pb, cp_is_int pc, cp_is_int pe]
                by_cases h1 : isI b 0 (pieces - 1) = true
                · obtain ⟨z, rfl, _⟩ := isI_int h1
                  simp [h1, gtI, cp_is_int pc]
                  by_cases h2 : isI c (z + 1) pieces = true
                  · simp [h2, cp_is_int pe]
                  · simp [h2]
                · simp [h1]
              · simp [hk]
            | ref _ => simp [plain] at pa
            | scr _ => simp [plain] at pa
            | _ => simp [tellsB]
          · have pa := plain_okd (hi a (by simp))
            cases a with
            | str k =>
              have sk := okd_str (hi (.str k) (by simp))
              simp [tellsB, eq_str' sk ok_best]
              by_cases hk : k = "best" <;> simp [hk]
            | ref _ => simp [plain] at pa
            | scr _ => simp [plain] at pa
            | _ => simp [tellsB]
          · have pa := plain_okd (hi a (by simp))
            have pb := plain_okd (hi b (by simp))
            have pc := plain_okd (hi c (by simp))
            have pe := plain_okd (hi e (by simp))
            have pg := plain_okd (hi g (by simp))
            have pi := plain_okd (hi i (by simp))
            cases a with
            | str k =>
              have sk := okd_str (hi (.str k) (by simp))
              simp [tellsB, eq_str' sk ok_best, eq_str' sk ok_span, ne_str' sk ok_gap]
              by_cases hk : k = "best"
              · simp [hk]
              · simp [hk, cp_is_int pb]
                by_cases h1 : isI b 0 (runs - 1) = true
                · obtain ⟨z, rfl, _⟩ := isI_int h1
                  simp [h1]
                  by_cases h2 : k = "span"
                  · simp [eq_str' sk ok_span, eq_true h2, cp_is_int pc]
                    by_cases h3 : isI c 0 (pieces - 1) = true
                    · obtain ⟨y, rfl, _⟩ := isI_int h3
                      simp [h3, gtI, cp_is_int pe]
                      by_cases h4 : isI e (y + 1) pieces = true
                      · simp [h4, cp_is_int pg]
                        by_cases h5 : isI g 0 1000000 = true
                        · obtain ⟨x, rfl, _⟩ := isI_int h5
                          simp [h5, geI, cp_is_int pi, hk]
                        · simp [h5]
                      · simp [h4]
                    · simp [h3]
                  · simp [eq_str' sk ok_span, h2]
                    by_cases h3 : k = "gap"
                    · simp [ne_str' sk ok_gap, eq_true h3, cp_is_int pc]
                      by_cases h4 : isI c 0 (runs - 1) = true
                      · obtain ⟨y, rfl, _⟩ := isI_int h4
                        simp [h4, neI]
                        by_cases h5 : z = y
                        · simp [h5]
                        · simp [h5, cp_is_int pe]
                          by_cases h6 : isI e 1 pieces = true
                          · simp [h6, cp_is_int pg]
                            by_cases h7 : isI g (-1000000) 1000000 = true
                            · obtain ⟨x, rfl, _⟩ := isI_int h7
                              have b1 : (k == ("best" : Str)) = false := by simpa using hk
                              have b3 : (k == ("gap" : Str)) = true := by simpa using h3
                              have b5 : (z == y) = false := by simpa using h5
                              simp [h7, geI, cp_is_int pi, b1, b3, b5]
                            · simp [h7]
                          · simp [h6]
                      · simp [h4]
                    · simp [ne_str' sk ok_gap, h3]
                · simp [h1]
            | ref _ => simp [plain] at pa
            | scr _ => simp [plain] at pa
            | _ => simp [tellsB]
          · have pa := plain_okd (hi a (by simp))
            have hl : ∀ n : Int, n < 7 → ¬ ((r.length : Int) + 1 + 1 + 1 + 1 + 1 + 1 + 1 = n) := fun n h => by omega
            have hl4 : ¬ ((r.length : Int) + 1 + 1 + 1 + 1 + 1 + 1 + 1 < 4) := by omega
            cases a with
            | str k =>
              have sk := okd_str (hi (.str k) (by simp))
              simp [tellsB, eq_str' sk ok_best, hl4, hl 4 (by omega), hl 6 (by omega)]
              by_cases hk : k = "best" <;> simp [hk, hl 4 (by omega), hl 6 (by omega)]
            | ref _ => simp [plain] at pa
            | scr _ => simp [plain] at pa
            | _ => simp [tellsB, hl4]
        | ref _ => simp [okd] at ho
        | scr _ => simp [okd] at ho
        | _ => simp [tellsB]
      · exact absurd (if_neg ho) hm
    · exact absurd rfl hm⟩
theorem cp_tells {d : D} {runs pieces : Int} {s : S} (h : okd 60 d = true) : callP m_tells 3 [.int runs, .int pieces, d] s = .ok (.bl (tellsB runs pieces d)) s := by
  simp [callP, m_tells, h]
def isBest (d : D) : Bool := match d with
  | .tup (.str k :: _) => k == "best"
  | _ => false
def fitsB (d : D) : Bool := match d with
  | .tup [r, p, .tup ts] => isI r 1 3 && (isI p 1 4 && (decide (ts.length ≤ 8) && match r, p with
    | .int runs, .int pieces => ts.all (tellsB runs pieces) && decide ((ts.filter isBest).length ≤ 3)
    | _, _ => false))
  | _ => false
def m_fits : FM
  | [d], none => if okd 58 d then .ok (.bl (fitsB d)) none else .stuck
  | _, _ => .stuck
theorem okd_le {n m : Nat} (h : n ≤ m) {d : D} (o : okd n d = true) : okd m d = true := by
  induction h with
  | refl => exact o
  | step _ ih => exact okd_up _ _ ih
theorem tellsB_best {runs pieces : Int} {d : D} (h : tellsB runs pieces d = true) : ∃ k r, d = .tup (.str k :: r) := by
  unfold tellsB at h
  split at h
  · exact ⟨_, _, rfl⟩
  · exact ⟨_, _, rfl⟩
  · cases h
theorem ok_fits (B : Bl mg) (h_is_int : Has P w K mg base 1 "is_int" p_is_int m_is_int) (h_tells : Has P w K mg base 2 "tells" p_tells m_tells) (Th : There K mg "fits" s_fits p_fits) : Has P w K mg base 3 "fits" p_fits m_fits :=
  has_of Th sc_fits fun f cdv A outer s H E hr tk hp => ⟨_, (dss_cons (ds_if (dt_w (dw_or (dt_not (dt_val (de_isi "tuple" B.isinstance B.tuple PyProof.Rows.boot_tuple (de_v 0)))) (dw_or1 (dt_cmp (od_ne hr) (de_callB cd_len B.len PySem.boot_len (da_cons (de_v 0) da_nil)) de_int (nomark _))))) (dss_one (ds_ret de_bl)) dss_nil)
    (dss_cons (ds_if (dt_w (dw_or (dt_not (dt_val (dc h_is_int tk (hr.mono (by decide)) (da_cons (de_ix (de_v 0) de_int) (da_cons de_int (da_cons (dgi B.MOST_RUNS) da_nil)))))) (dw_or1 (dt_not (dt_val (dc h_is_int tk (hr.mono (by decide)) (da_cons (de_ix (de_v 0) de_int) (da_cons de_int (da_cons (dgi B.MOST_PIECES) da_nil))))))))) (dss_one (ds_ret de_bl)) dss_nil)
    (dss_cons (ds_if (dt_w (dw_or (dt_not (dt_val (de_isi "tuple" B.isinstance B.tuple PyProof.Rows.boot_tuple (de_ix (de_v 0) de_int)))) (dw_or1 (dt_cmp od_gt (de_callB cd_len B.len PySem.boot_len (da_cons (de_ix (de_v 0) de_int) da_nil)) (dgi B.MOST_TELLINGS) (nomark _))))) (dss_one (ds_ret de_bl)) dss_nil)
    (dss_cons (ds_if (dt_cmp (od_ne hr) (de_lc [1] rfl sc_fits.nd (di_seq (de_ix (de_v 0) de_int)) (blkOk_by (own := [("telling", 1)]) (N := n_fits) (sc := defScope s_fits) (by decide +kernel)) (fun _ _ _ _ _ => (dgw_v 1 sc_fits.nd)) (fun _ _ _ _ _ => (dts_one (dt_not (dt_val (dc h_tells wf_takes (hr.mono (by decide)) (da_cons (de_ix (de_v 0) de_int) (da_cons (de_ix (de_v 0) de_int) (da_cons (de_v 1) da_nil)))))))) (fun _ _ _ _ _ => (de_v 1))) (de_lst da_nil) (nomark _)) (dss_one (ds_ret de_bl)) dss_nil)
    (dss_one (ds_ret (de_cmp od_le (de_callB cd_len B.len PySem.boot_len (da_cons (de_lc [1] rfl sc_fits.nd (di_seq (de_ix (de_v 0) de_int)) (blkOk_by (own := [("telling", 1)]) (N := n_fits) (sc := defScope s_fits) (by decide +kernel)) (fun _ _ _ _ _ => (dgw_v 1 sc_fits.nd)) (fun _ _ _ _ _ => (dts_one (dt_cmp (od_eq hr) (de_ix (de_v 1) de_int) de_str (nomark _)))) (fun _ _ _ _ _ => (de_v 1))) da_nil)) (dgi B.MOST_BESTS) (nomark _)))))))), fun ds v hm => by
    unfold m_fits at hm ⊢
    split at hm
    · rename_i d
      by_cases ho : okd 58 d = true
      · rw [if_pos ho]
        cases d with
        | tup xs =>
          have hi := okd_items ho
          rcases xs with _ | ⟨a, _ | ⟨b, _ | ⟨c, _ | ⟨e, r⟩⟩⟩⟩
          · simp [fitsB]
          · simp [fitsB]
          · simp [fitsB]
          · have oa := hi a (by simp)
            have ob := hi b (by simp)
            have oc := hi c (by simp)
            simp [cp_is_int (plain_okd oa), cp_is_int (plain_okd ob)]
            by_cases h1 : isI a 1 3 = true
            · obtain ⟨runs, rfl, r1, r2⟩ := isI_int h1
              by_cases h2 : isI b 1 4 = true
              · obtain ⟨pieces, rfl, p1, p2⟩ := isI_int h2
                simp [h1, h2]
                cases c with
                | tup ts =>
                  have ht := okd_items oc
                  simp
                  by_cases h3 : (ts.length : Int) > 8
                  · have : ¬ ts.length ≤ 8 := by omega
                    simp [h3, fitsB, this]
                  · have h3' : ts.length ≤ 8 := by omega
                    have ht60 : ∀ x ∈ ts, okd 60 x = true := fun x hx => okd_le (by decide) (ht x hx)
                    simp [h3]
                    rw [compL_map (tb := fun d => !tellsB runs pieces d) (fd := id)]
                    case h =>
                      refine fun d hd => ⟨_, rfl, ?_, ?_, ?_⟩ <;> simp [cp_tells (ht60 d hd)]
                    generalize hB : ([] ++ List.map id (List.filter (fun d => !tellsB runs pieces d) ts)) = bad
                    have hB' : bad = List.filter (fun d => !tellsB runs pieces d) ts := by rw [← hB]; simp
                    have all : bad.all (okd 59) = true := List.all_eq_true.mpr fun x hx => okd_le (by decide) (ht x (List.mem_filter.mp (hB' ▸ hx)).1)
                    by_cases h4 : ts.all (tellsB runs pieces) = true
                    · have e4 : bad = [] := by rw [hB']; exact List.filter_eq_nil_iff.mpr fun x hx => by simp [List.all_eq_true.mp h4 x hx]
                      subst e4
                      simp [ne_nil' all]
                      rw [compL_map (tb := isBest) (fd := id)]
                      case h =>
                        refine fun d hd => ⟨_, rfl, ?_, ?_, ?_⟩
                        · obtain ⟨k, r, rfl⟩ := tellsB_best (List.all_eq_true.mp h4 d hd)
                          have sk := okd_str (okd_items (okd_le (by decide : 56 ≤ 57) (ht _ hd)) (.str k) (by simp))
                          simp [eq_str' sk ok_best, isBest]
                        · simp
                        · simp
                      simp [fitsB, h1, h2, h3', h4]
                      omega
                    · have e4 : bad ≠ [] := fun z => h4 (List.all_eq_true.mpr fun x hx => by
                        have := List.filter_eq_nil_iff.mp (hB'.symm.trans z) x hx
                        simpa using this)
                      have e5 : bad.isEmpty = false := by simpa using e4
                      simp [ne_nil' all, e5, fitsB, h4]
                | ref _ => simp [okd] at oc
                | scr _ => simp [okd] at oc
                | _ => simp [fitsB]
              · cases c <;> simp [h1, h2, fitsB]
            · cases c <;> simp [h1, fitsB]
          · have hl : ¬ ((r.length : Int) + 1 + 1 + 1 + 1 = 3) := by omega
            simp [fitsB, hl]
        | ref _ => simp [okd] at ho
        | scr _ => simp [okd] at ho
        | _ => simp [fitsB]
      · exact absurd (if_neg ho) hm
    · exact absurd rfl hm⟩
theorem cp_fits {d : D} {s : S} (h : okd 58 d = true) : callP m_fits 1 [d] s = .ok (.bl (fitsB d)) s := by
  simp [callP, m_fits, h]
def m_is_book : FM
  | [d], none => if okd 58 d then .ok (.bl (fitsB d)) none else .stuck
  | _, _ => .stuck
theorem ok_is_book (B : Bl mg) (h_fits : Has P w K mg base 3 "fits" p_fits m_fits) (Th : There K mg "is_book" s_is_book p_is_book) : Has P w K mg base 4 "is_book" p_is_book m_is_book :=
  has_of Th sc_is_book fun f cdv A outer s H E hr tk hp => ⟨_, (dss_one (ds_ret (dc h_fits tk (hr.mono (by decide)) (da_cons (de_v 0) da_nil)))), fun ds v hm => by
    unfold m_is_book at hm ⊢
    split at hm
    · rename_i d
      by_cases ho : okd 58 d = true
      · simp [cp_fits ho, ho]
      · exact absurd (if_neg ho) hm
    · exact absurd rfl hm⟩
/-- of a book nothing is raised -/
def m_need_book : FM
  | [d], none => if okd 58 d && fitsB d then .ok .non none else .stuck
  | _, _ => .stuck
theorem ok_need_book (B : Bl mg) (h_fits : Has P w K mg base 3 "fits" p_fits m_fits) (Th : There K mg "need_book" s_need_book p_need_book) : Has P w K mg base 4 "need_book" p_need_book m_need_book :=
  has_of Th sc_need_book fun f cdv A outer s H E hr tk hp => ⟨_, (dss_one (ds_if (dt_not (dt_val (dc h_fits tk (hr.mono (by decide)) (da_cons (de_v 0) da_nil)))) (dss_one ds_never) dss_nil)), fun ds v hm => by
    unfold m_need_book at hm ⊢
    split at hm
    · rename_i d
      by_cases ho : (okd 58 d && fitsB d) = true
      · obtain ⟨h1, h2⟩ := Bool.and_eq_true_iff.mp ho
        simp [cp_fits h1, h1, h2]
      · exact absurd (if_neg ho) hm
    · exact absurd rfl hm⟩
theorem cp_need_book {d : D} {s : S} (h : okd 58 d = true) (h2 : fitsB d = true) : callP m_need_book 1 [d] s = .ok .non s := by
  simp [callP, m_need_book, h, h2]
theorem cp_is_book {d : D} {s : S} (h : okd 58 d = true) : callP m_is_book 1 [d] s = .ok (.bl (fitsB d)) s := by
  simp [callP, m_is_book, h]
end
end K10

namespace K10
open PySem PySem.Spec PyProof.Rows L2 DL
section
variable {P : Program} {w : World} {K : PySem.W.Frag} {mg : Str → Option Value} {base : Heap}
/-! ## what is drawn -/
def VOK (v : List D) : Prop := ∃ c n : Int, v = [.int c, .int n] ∧ 0 ≤ c ∧ 0 ≤ n ∧ n ≤ 2147482621
def P_drop (m : FM) : Prop := ∀ (v : List D) (many : Int), VOK v → 1 ≤ many → many ≤ 67108864 → ∃ x v', m [.int many] (some v) = .ok (.int x) (some v') ∧ 0 ≤ x ∧ x < many ∧ VOK v'
theorem small_log {i : Int} {k : Nat} (h : i.natAbs < 2 ^ k) : i.natAbs.log2 ≤ k := by
  rcases Nat.eq_zero_or_pos i.natAbs with e | e
  · rw [e]; simp
  · exact Nat.le_of_lt ((Nat.log2_lt (by omega)).mpr h)
theorem okm {i j : Int} (h : i.natAbs < 2 ^ 100) (h2 : j.natAbs < 2 ^ 100) : okMul i j = true := by
  have := small_log h
  have := small_log h2
  unfold okMul
  exact decide_eq_true (by omega)
theorem mulI {i j : Int} (h : i.natAbs < 2 ^ 100) (h2 : j.natAbs < 2 ^ 100) : opMul (.int i) (.int j) = some (.int (i * j)) := mul_ok i j (okm h h2)
theorem divI {i j : Int} (h : 0 < j) (h2 : j.natAbs < 2 ^ 100) : opDiv (.int i) (.int j) = some (.int (i / j)) := div_pos i j h (by have := small_log h2; omega)
theorem div65777 (i : Int) : opDiv (.int i) (.int 65777) = some (.int (i / 65777)) := divI (by decide) (by decide)
theorem mul16519 (i : Int) (h : 0 ≤ i) (h2 : i ≤ 2147482621) : opMul (.int i) (.int 16519) = some (.int (i * 16519)) := mulI (by omega) (by decide)
theorem mul8192 (i : Int) (h : 0 ≤ i) (h2 : i ≤ 1000000000000) : opMul (.int i) (.int 8192) = some (.int (i * 8192)) := mulI (by omega) (by decide)
theorem modL (i j : Int) (h : 0 < j) : opMod (.int i) (.int j) = some (.int (i % j)) := mod_pos i j h
theorem ok__law_drop (B : Bl mg) (Th : There K mg "_law_drop" s__law_drop p__law_drop) : ∃ m, Has P w K mg base 1 "_law_drop" p__law_drop m ∧ P_drop m := by
  refine ⟨_, has_any Th sc__law_drop fun f cdv A outer s H E hr tk hp => (dss_cons (ds_if (dt_cmp od_gt (de_ixr 0 de_int) de_int (nomark _)) (dss_cons (ds_set 2 sc__law_drop.nd (de_op od_mod (de_callT cd_int B.int PyProof.Rows.boot_int (da_cons (de_ixr 0 de_int) da_nil)) (de_v 1)))
      (dss_cons (ds_setr 0 (de_op od_div (de_ixr 0 de_int) (de_v 1)) de_int)
      (dss_one (ds_ret (de_v 2))))) dss_nil)
    (dss_cons (ds_asg (de_tup (da_cons de_int (da_cons de_int da_nil))) (dg_tup (n := 2) rfl (dgs_cons (dg_v 2 sc__law_drop.nd) (dgs_cons (dg_v 3 sc__law_drop.nd) dgs_nil))))
    (dss_cons (ds_while 3 hp (dt_w (dw_or (dt_cmp od_lt (de_v 3) (de_v 1) (nomark _)) (dw_or1 (dt_cmp (od_eq hr) (de_v 3) de_int (nomark _))))) (dss_cons (ds_setr 0 (de_op od_mod (de_callT cd_int B.int PyProof.Rows.boot_int (da_cons (de_op od_add (de_op od_mul (de_ixr 0 de_int) de_int) de_int) da_nil)) de_int) de_int)
      (dss_cons (ds_set 2 sc__law_drop.nd (de_op od_add (de_op od_mul (de_v 2) de_int) (de_op od_mod (de_callT cd_int B.int PyProof.Rows.boot_int (da_cons (de_op od_div (de_ixr 0 de_int) de_int) da_nil)) de_int)))
      (dss_one (ds_set 3 sc__law_drop.nd (de_op od_mul (de_v 3) de_int))))))
    (dss_one (ds_ret (de_op od_mod (de_callT cd_int B.int PyProof.Rows.boot_int (da_cons (de_v 2) da_nil)) (de_v 1))))))), ?_⟩
  rintro v many ⟨c, n, rfl, c0, n0, n1⟩ h1 h2
  have hp : 0 < many := by omega
  by_cases hc : 0 < c
  · refine ⟨c % many, [.int (c / many), .int n], ?_, Int.emod_nonneg _ (by omega), Int.emod_lt_of_pos _ hp, c / many, n, rfl, Int.ediv_nonneg c0 (by omega), n0, n1⟩
    simp [ixR, hc, mod_pos _ _ hp, divI (i := c) hp (by omega), setR, ixN]
  · have b1 : 0 ≤ (n * 16519 + 149) % 2147482621 := Int.emod_nonneg _ (by decide)
    have b2 : (n * 16519 + 149) % 2147482621 < 2147482621 := Int.emod_lt_of_pos _ (by decide)
    have b3 : (n * 16519 + 149) % 2147482621 ≤ 2147482621 := by omega
    have b4 : 0 ≤ ((n * 16519 + 149) % 2147482621 * 16519 + 149) % 2147482621 := Int.emod_nonneg _ (by decide)
    have b5 : ((n * 16519 + 149) % 2147482621 * 16519 + 149) % 2147482621 < 2147482621 := Int.emod_lt_of_pos _ (by decide)
    have b6 : 0 ≤ (n * 16519 + 149) % 2147482621 / 65777 % 8192 := Int.emod_nonneg _ (by decide)
    have b7 : (n * 16519 + 149) % 2147482621 / 65777 % 8192 ≤ 1000000000000 := by
      have := Int.emod_lt_of_pos ((n * 16519 + 149) % 2147482621 / 65777) (show (0 : Int) < 8192 by decide)
      omega
    by_cases hm : many ≤ 8192
    · have hm' : ¬ (8192 < many) := by omega
      by_cases hm2 : 1 < many
      all_goals
        simp [ixR, hc, unT, whl3, whl2, whl1, whlK_true, whlK_false, mul16519 n n0 n1, modL, setR, ixN, mul8192, div65777, hm', hm2, mod_pos _ _ hp]
        exact ⟨_, _, ⟨rfl, rfl⟩, Int.emod_nonneg _ (by omega), Int.emod_lt_of_pos _ hp, _, _, rfl, c0, b1, b3⟩
    · have hm' : 8192 < many := by omega
      have hm2 : 1 < many := by omega
      have hm3 : ¬ (67108864 < many) := by omega
      simp [ixR, hc, unT, whl3, whl2, whl1, whlK_true, whlK_false, mul16519 n n0 n1, modL, setR, ixN, mul8192, div65777, hm', hm2, hm3, mod_pos _ _ hp, mul16519 _ b1 b3, mul8192 _ b6 b7]
      exact ⟨_, _, ⟨rfl, rfl⟩, Int.emod_nonneg _ (by omega), Int.emod_lt_of_pos _ hp, _, _, rfl, c0, b4, by omega⟩
def P_some (m : FM) : Prop := ∀ (v xs : List D), VOK v → xs ≠ [] → xs.length ≤ 67108864 → ∃ d v', m [.lst xs] (some v) = .ok d (some v') ∧ d ∈ xs ∧ VOK v'
theorem ok__law_some (B : Bl mg) (h_law_drop : ∃ m, Has P w K mg base 1 "_law_drop" p__law_drop m ∧ P_drop m) (Th : There K mg "_law_some" s__law_some p__law_some) : ∃ m, Has P w K mg base 2 "_law_some" p__law_some m ∧ P_some m := by
  obtain ⟨m1, h__law_drop, p1⟩ := h_law_drop
  refine ⟨_, has_any Th sc__law_some fun f cdv A outer s H E hr tk hp => (dss_one (ds_ret (de_ix (de_v 1) (dcv 0 h__law_drop tk (hr.mono (by decide)) (da_cons (de_callB cd_len B.len PySem.boot_len (da_cons (de_v 1) da_nil)) da_nil))))), ?_⟩
  intro v xs hv hx hl
  have hpos : 0 < xs.length := List.length_pos_iff.mpr hx
  obtain ⟨x, v', e, x0, x1, hv'⟩ := p1 v xs.length hv (by omega) (by omega)
  have hx' : x.toNat < xs.length := by omega
  refine ⟨xs[x.toNat], v', ?_, List.getElem_mem hx', hv'⟩
  simp [e, at_of _ _ x0, List.getElem?_eq_getElem hx']
end
end K10

namespace K10
open PySem PySem.Spec PyProof.Rows L2 DL
section
variable {P : Program} {w : World} {K : PySem.W.Frag} {mg : Str → Option Value} {base : Heap}
theorem e_bb : opEq (.str "best") (.str "best") = some (.bl true) := by rw [eq_str' ok_best ok_best]; simp
theorem e_sb : opEq (.str "span") (.str "best") = some (.bl false) := by rw [eq_str' ok_span ok_best, sb_ne]
theorem e_gb : opEq (.str "gap") (.str "best") = some (.bl false) := by rw [eq_str' ok_gap ok_best, gb_ne]
theorem e_ss : opEq (.str "span") (.str "span") = some (.bl true) := by rw [eq_str' ok_span ok_span]; simp
theorem e_gs : opEq (.str "gap") (.str "span") = some (.bl false) := by rw [eq_str' ok_gap ok_span, gs_ne]
def mkRow (r : List Int) : D := .tup (r.map .int)
def mkRows (rows : List (List Int)) : D := .tup (rows.map mkRow)
/-- drawn times of so many runs and pieces -/
structure ROK (rows : List (List Int)) (runs pieces most : Int) : Prop where
  len : (rows.length : Int) = runs
  row : ∀ r ∈ rows, (r.length : Int) = pieces ∧ ∀ x ∈ r, 1 ≤ x ∧ x ≤ most
def P_spoken (m : FM) : Prop := ∀ (v : List D) (runs pieces most : Int) (rows : List (List Int)), VOK v → 1 ≤ runs → runs ≤ 3 → 1 ≤ pieces → pieces ≤ 4 → most ≤ 200000 → ROK rows runs pieces most →
  ∃ t v', m [.int runs, .int pieces, mkRows rows] (some v) = .ok (.tup t) (some v') ∧ tellsB runs pieces (.tup t) = true ∧ VOK v' ∧ t.length ≤ 6
theorem ok__law_spoken (B : Bl mg) (h_law_drop : ∃ m, Has P w K mg base 1 "_law_drop" p__law_drop m ∧ P_drop m) (h_law_some : ∃ m, Has P w K mg base 2 "_law_some" p__law_some m ∧ P_some m) (Th : There K mg "_law_spoken" s__law_spoken p__law_spoken) :
    ∃ m, Has P w K mg base 3 "_law_spoken" p__law_spoken m ∧ P_spoken m := by
  obtain ⟨m1, h__law_drop, p1⟩ := h_law_drop
  obtain ⟨m2, h__law_some, p2⟩ := h_law_some
  refine ⟨_, has_any Th sc__law_spoken fun f cdv A outer s H E hr tk hp => (dss_cons (ds_set 4 sc__law_spoken.nd (dcv 0 h__law_drop tk (hr.mono (by decide)) (da_cons (de_v 2) da_nil)))
    (dss_cons (ds_set 5 sc__law_spoken.nd (de_op od_add (de_op od_add (de_v 4) de_int) (dcv 0 h__law_drop tk (hr.mono (by decide)) (da_cons (de_op od_sub (de_v 2) (de_v 4)) da_nil))))
    (dss_cons (ds_par 6 7 rfl sc__law_spoken.nd (da_cons (dcv 0 h__law_drop tk (hr.mono (by decide)) (da_cons (de_v 1) da_nil)) (da_cons (dcv 0 h__law_some tk (hr.mono (by decide)) (da_cons (de_lst (da_cons de_int (da_cons de_int (da_cons de_int (da_cons de_int da_nil))))) da_nil)) da_nil)))
    (dss_cons (ds_set 8 sc__law_spoken.nd (dcv 0 h__law_some tk (hr.mono (by decide)) (da_cons (de_lst (da_cons de_str (da_cons de_str (da_cons de_str (da_cons de_str (da_cons de_str da_nil)))))) da_nil)))
    (dss_cons (ds_set 9 sc__law_spoken.nd (dcv 0 h__law_some tk (hr.mono (by decide)) (da_cons (de_lst (da_cons de_int (da_cons de_int (da_cons de_int (da_cons de_int (da_cons de_int (da_cons (de_neg de_int) da_nil))))))) da_nil)))
    (dss_cons (ds_if (dt_cmp (od_eq hr) (de_v 8) de_str (nomark _)) (dss_cons (ds_set 10 sc__law_spoken.nd (de_callB (cd_min rfl) B.min PyProof.Rows.boot_min (da_cons (de_lc [11] rfl sc__law_spoken.nd (di_seq (de_v 3)) (blkOk_by (own := [("_law_times_here", 11)]) (N := n__law_spoken) (sc := defScope s__law_spoken) (by decide +kernel)) (fun _ _ _ _ _ => (dgw_v 11 sc__law_spoken.nd)) (fun _ _ _ _ _ => dts_nil) (fun _ _ _ _ _ => (de_callB (cd_sum rfl) B.sum (by decide +kernel) (da_cons (de_sl (de_v 11) (do_some (de_v 4)) (do_some (de_v 5))) da_nil)))) da_nil)))
      (dss_one (ds_ret (de_tup (da_cons (de_v 8) (da_cons (de_v 4) (da_cons (de_v 5) (da_cons (de_callB (cd_max rfl) B.max PyProof.Rows.boot_max (da_cons de_int (da_cons (de_op od_add (de_v 10) (de_v 9)) da_nil))) da_nil)))))))) dss_nil)
    (dss_cons (ds_if (dt_w (dw_or (dt_cmp (od_eq hr) (de_v 8) de_str (nomark _)) (dw_or1 (dt_cmp (od_eq hr) (de_v 1) de_int (nomark _))))) (dss_cons (ds_set 12 sc__law_spoken.nd (de_callB (cd_max rfl) B.max PyProof.Rows.boot_max (da_cons de_int (da_cons (de_op od_sub (de_op od_add (de_callB (cd_sum rfl) B.sum (by decide +kernel) (da_cons (de_sl (de_ix (de_v 3) (de_v 6)) (do_some (de_v 4)) (do_some (de_v 5))) da_nil)) (de_v 9)) (dcv 0 h__law_drop tk (hr.mono (by decide)) (da_cons (de_op od_add (de_v 7) de_int) da_nil))) da_nil))))
      (dss_one (ds_ret (de_tup (da_cons de_str (da_cons (de_v 6) (da_cons (de_v 4) (da_cons (de_v 5) (da_cons (de_v 12) (da_cons (de_op od_add (de_v 12) (de_v 7)) da_nil)))))))))) dss_nil)
    (dss_cons (ds_set 13 sc__law_spoken.nd (de_op od_mod (de_op od_add (de_op od_add (de_v 6) de_int) (dcv 0 h__law_drop tk (hr.mono (by decide)) (da_cons (de_op od_sub (de_v 1) de_int) da_nil))) (de_v 1)))
    (dss_cons (ds_par 14 15 rfl sc__law_spoken.nd (da_cons (de_callB (cd_sum rfl) B.sum (by decide +kernel) (da_cons (de_sl (de_ix (de_v 3) (de_v 6)) do_none (do_some (de_v 5))) da_nil)) (da_cons (de_callB (cd_sum rfl) B.sum (by decide +kernel) (da_cons (de_sl (de_ix (de_v 3) (de_v 13)) do_none (do_some (de_v 5))) da_nil)) da_nil)))
    (dss_cons (ds_set 12 sc__law_spoken.nd (de_op od_sub (de_op od_add (de_op od_sub (de_v 14) (de_v 15)) (de_v 9)) (dcv 0 h__law_drop tk (hr.mono (by decide)) (da_cons (de_op od_add (de_v 7) de_int) da_nil))))
    (dss_one (ds_ret (de_tup (da_cons (de_v 8) (da_cons (de_v 6) (da_cons (de_v 13) (da_cons (de_v 5) (da_cons (de_v 12) (da_cons (de_op od_add (de_v 12) (de_v 7)) da_nil))))))))))))))))))), ?_⟩
  intro v runs pieces most rows hv r1 r3 q1 q4 hm ro
  obtain ⟨a, v1, e1, a0, a1, hv1⟩ := p1 v pieces hv q1 (by omega)
  obtain ⟨b, v2, e2, b0, b1, hv2⟩ := p1 v1 (pieces - a) hv1 (by omega) (by omega)
  obtain ⟨c, v3, e3, c0, c1, hv3⟩ := p1 v2 runs hv2 r1 (by omega)
  obtain ⟨wd, v4, e4, w0, hv4⟩ := p2 v3 [.int 0, .int 0, .int 1, .int 2] hv3 (by simp) (by simp)
  obtain ⟨kd, v5, e5, k0, hv5⟩ := p2 v4 [.str "span", .str "span", .str "gap", .str "best", .str "best"] hv4 (by simp) (by simp)
  obtain ⟨od, v6, e6, o0, hv6⟩ := p2 v5 [.int 0, .int 0, .int 0, .int 0, .int 1, .int (-1)] hv5 (by simp) (by simp)
  obtain ⟨wi, rfl, w1, w2⟩ : ∃ i : Int, wd = .int i ∧ 0 ≤ i ∧ i ≤ 2 := by
    simp at w0
    rcases w0 with h | h | h <;> exact ⟨_, h, by decide, by decide⟩
  obtain ⟨off, rfl, o1, o2⟩ : ∃ i : Int, od = .int i ∧ -1 ≤ i ∧ i ≤ 1 := by
    simp at o0
    rcases o0 with h | h | h <;> exact ⟨_, h, by decide, by decide⟩
  have hne : rows ≠ [] := fun z => by have := ro.len; rw [z] at this; simp at this; omega
  have hs : ∀ r ∈ rows, ∀ lo hi : Option Int, 0 ≤ (cutG r lo hi).sum ∧ (cutG r lo hi).sum ≤ 800000 := fun r hr lo hi => by
    obtain ⟨z1, z2⟩ := ro.row r hr
    have z3 := cut_len r lo hi
    obtain ⟨y1, y2⟩ := sum_bounds (l := cutG r lo hi) (a := 0) (b := 200000) fun x hx => by
      have := z2 x (cutG_mem hx); omega
    have : (cutG r lo hi).length ≤ 4 := by omega
    omega
  have hrun : ∀ i : Int, 0 ≤ i → i < runs → ∃ r ∈ rows, rows[i.toNat]? = some r := fun i i0 i1 => by
    have hl := ro.len
    have hlt : i.toNat < rows.length := by omega
    exact ⟨rows[i.toNat], List.getElem_mem hlt, List.getElem?_eq_getElem hlt⟩
  have best : ∀ lo hi : Option Int, 0 ≤ minL (rows.map fun r => (cutG r lo hi).sum) ∧ minL (rows.map fun r => (cutG r lo hi).sum) ≤ 800000 := fun lo hi => by
    have hm := minL_mem (l := rows.map fun r => (cutG r lo hi).sum) (by simpa using hne)
    obtain ⟨r, hr, er⟩ := List.mem_map.mp hm
    rw [← er]
    exact hs r hr lo hi
  have spanT : ∀ low : Int, 0 ≤ low → low ≤ 900000 → tellsB runs pieces (.tup [.str "span", .int c, .int a, .int (a + 1 + b), .int low, .int (low + wi)]) = true := fun low l0 l1 => by
    simp [tellsB, isI, gtI, geI, sb_ne]
    omega
  obtain ⟨r, hr, er⟩ := hrun c c0 c1
  obtain ⟨d, v7, e7, d0, d1, hv7⟩ := p1 v6 (wi + 1) hv6 (by omega) (by omega)
  have hb := hs r hr (some a) (some (a + 1 + b))
  simp at k0
  rcases k0 with rfl | rfl | rfl
  · refine ⟨_, v7, ?_, spanT (max 0 ((cutG r (some a) (some (a + 1 + b))).sum + off - d)) (by omega) (by omega), hv7, by simp⟩
    simp [e1, e2, e3, e4, e5, e6, e_sb, e_ss, mkRows, DL.at_of _ _ c0, er, mkRow, cutG_map, e7]
  · by_cases h1 : runs = 1
    · subst h1
      refine ⟨_, v7, ?_, spanT (max 0 ((cutG r (some a) (some (a + 1 + b))).sum + off - d)) (by omega) (by omega), hv7, by simp⟩
      simp [e1, e2, e3, e4, e5, e6, e_gb, e_gs, mkRows, DL.at_of _ _ c0, er, mkRow, cutG_map, e7]
    · have h1' : ¬ (runs = 1) := h1
      obtain ⟨g, v7, e7, g0, g1, hv7⟩ := p1 v6 (runs - 1) hv6 (by omega) (by omega)
      obtain ⟨d, v8, e8, d0, d1, hv8⟩ := p1 v7 (wi + 1) hv7 (by omega) (by omega)
      have o0 : 0 ≤ (c + 1 + g) % runs := Int.emod_nonneg _ (by omega)
      have o1 : (c + 1 + g) % runs < runs := Int.emod_lt_of_pos _ (by omega)
      have o2 : c ≠ (c + 1 + g) % runs := by
        by_cases z : c + 1 + g < runs
        · rw [Int.emod_eq_of_lt (by omega) z]; omega
        · rw [← Int.sub_emod_right, Int.emod_eq_of_lt (by omega) (by omega)]; omega
      obtain ⟨q, hq, eq⟩ := hrun _ o0 o1
      have hb1 := hs r hr none (some (a + 1 + b))
      have hb2 := hs q hq none (some (a + 1 + b))
      refine ⟨[.str "gap", .int c, .int ((c + 1 + g) % runs), .int (a + 1 + b), .int ((cutG r none (some (a + 1 + b))).sum - (cutG q none (some (a + 1 + b))).sum + off - d), .int ((cutG r none (some (a + 1 + b))).sum - (cutG q none (some (a + 1 + b))).sum + off - d + wi)], v8, ?_, ?_, hv8, by simp⟩
      · have hrp : 0 < runs := by omega
        simp [e1, e2, e3, e4, e5, e6, e_gb, e_gs, mkRows, DL.at_of _ _ c0, DL.at_of _ _ o0, er, eq, mkRow, cutG_map, e7, e8, h1, mod_pos _ _ hrp]
      · simp [tellsB, isI, gtI, geI, neI, gb_ne, gs_ne]
        omega
  · refine ⟨[.str "best", .int a, .int (a + 1 + b), .int (max 1 (minL (rows.map fun r => (cutG r (some a) (some (a + 1 + b))).sum) + off))], v6, ?_, ?_, hv6, by simp⟩
    · simp [e1, e2, e3, e4, e5, e6, e_bb, mkRows]
      rw [compL_mapf (h := fun r => .int (cutG r (some a) (some (a + 1 + b))).sum)]
      · simp [min_lints _ _ hne]
      · intro r hr
        refine ⟨_, rfl, ?_⟩
        simp [mkRow, cutG_map]
    · have := best (some a) (some (a + 1 + b))
      simp [tellsB, isI, gtI]
      omega
end
end K10

namespace K10
open PySem PySem.Spec PyProof.Rows L2 DL
section
variable {P : Program} {w : World} {K : PySem.W.Frag} {mg : Str → Option Value} {base : Heap}
def P_vial (m : FM) : Prop := ∀ (ns : List Int) (k : Int), 0 ≤ k → k ≤ 8 → ∃ v, m [.scr ns, .int k] none = .own v none ∧ VOK v
def T60 : Int := 10 ^ 60
def T120 : Int := 10 ^ 120
def T180 : Int := 10 ^ 180
def T240 : Int := 10 ^ 240
theorem p60 : opPow (.int 10) (.int 60) = some (.int T60) := by rw [pow_ok 10 60 (by decide)]; rfl
theorem p18 : opPow (.int 10) (.int 18) = some (.int 1000000000000000000) := by rw [pow_ok 10 18 (by decide)]; rfl
theorem m120 : opMul (.int T60) (.int T60) = some (.int T120) := by rw [mul_ok _ _ (by decide +kernel)]; rfl
theorem m180 : opMul (.int T120) (.int T60) = some (.int T180) := by rw [mul_ok _ _ (by decide +kernel)]; rfl
theorem m240 : opMul (.int T180) (.int T60) = some (.int T240) := by rw [mul_ok _ _ (by decide +kernel)]; rfl
theorem md240 (i : Int) : opMod (.int i) (.int T240) = some (.int (i % T240)) := mod_pos i _ (by decide +kernel)
theorem md_m (i : Int) : opMod (.int i) (.int 1000313) = some (.int (i % 1000313)) := mod_pos i _ (by decide +kernel)
theorem md_p (i : Int) : opMod (.int i) (.int 2147482621) = some (.int (i % 2147482621)) := mod_pos i _ (by decide +kernel)
theorem ok__law_vial_of (B : Bl mg) (Th : There K mg "_law_vial_of" s__law_vial_of p__law_vial_of) : ∃ m, Has P w K mg base 1 "_law_vial_of" p__law_vial_of m ∧ P_vial m := by
  refine ⟨_, has_any Th sc__law_vial_of fun f cdv A outer s H E hr tk hp => (dss_cons (ds_set 2 sc__law_vial_of.nd (de_op od_add (de_op od_mul de_int (de_v 1)) de_int))
    (dss_cons (ds_if (dt_cmp od_lt (de_v 1) (de_callB cd_len B.len PySem.boot_len (da_cons (de_v 0) da_nil)) (nomark _)) (dss_one (ds_set 2 sc__law_vial_of.nd (de_op od_mod (de_callB cd_abs B.abs PyProof.Rows.boot_abs (da_cons (de_callT cd_int B.int PyProof.Rows.boot_int (da_cons (de_ix (de_v 0) (de_v 1)) da_nil)) da_nil)) (de_op od_mul (de_op od_mul (de_op od_mul (de_op od_pow de_int de_int) (de_op od_pow de_int de_int)) (de_op od_pow de_int de_int)) (de_op od_pow de_int de_int))))) (dss_one (ds_if (dt_cmp od_gt (de_callB cd_len B.len PySem.boot_len (da_cons (de_v 0) da_nil)) de_int (nomark _)) (dss_one (ds_set 2 sc__law_vial_of.nd (de_op od_add (de_v 2) (de_op od_mod (de_callB cd_abs B.abs PyProof.Rows.boot_abs (da_cons (de_callT cd_int B.int PyProof.Rows.boot_int (da_cons (de_ix (de_v 0) de_int) da_nil)) da_nil)) de_int)))) dss_nil)))
    (dss_one (ds_retO (da_cons (de_if (dt_cmp od_ge (de_v 2) (de_op od_pow de_int de_int) (nomark _)) (de_v 2) de_int) (da_cons (de_op od_add (de_op od_mod (de_callT cd_int B.int PyProof.Rows.boot_int (da_cons (de_op od_add (de_op od_add (de_op od_mul (de_op od_mod (de_v 2) de_int) de_int) (de_op od_mul de_int (de_v 1))) de_int) da_nil)) de_int) de_int) da_nil)))))), ?_⟩
  intro ns k k0 k1
  have e35 : opMul (.int 35023) (.int k) = some (.int (35023 * k)) := mulI (by decide) (by omega)
  have e137 : opMul (.int 137) (.int k) = some (.int (137 * k)) := mulI (by decide) (by omega)
  have e47 : ∀ c : Int, opMul (.int (c % 2147482621)) (.int 47) = some (.int (c % 2147482621 * 47)) := fun c => mulI (by omega) (by decide)
  have vok : ∀ c : Int, 0 ≤ c → VOK [.int c, .int ((c % 2147482621 * 47 + 137 * k + 83) % 2147482621 + 1)] ∧ VOK [.int 0, .int ((c % 2147482621 * 47 + 137 * k + 83) % 2147482621 + 1)] := fun c hc =>
    ⟨⟨_, _, rfl, by omega, by omega, by omega⟩, _, _, rfl, by omega, by omega, by omega⟩
  have s2 : 2 ≤ sizeLine := by decide +kernel
  by_cases h1 : k < ns.length
  · have hl : k.toNat < ns.length := by omega
    have hx : ns[k.toNat]? = some ns[k.toNat] := List.getElem?_eq_getElem hl
    generalize ns[k.toNat] = x at hx
    have c0 : 0 ≤ (if x < 0 then -x else x) % T240 := Int.emod_nonneg _ (by decide +kernel)
    generalize hc : (if x < 0 then -x else x) % T240 = c at c0
    by_cases h3 : (1000000000000000000 : Int) ≤ c
    · refine ⟨_, ?_, (vok c c0).1⟩
      simp [e35, h1, p60, p18, m120, m180, m240, DL.at_of _ _ k0, hx, md240, hc, md_p, e47, e137, h3, s2]
    · refine ⟨_, ?_, (vok c c0).2⟩
      simp [e35, h1, p60, p18, m120, m180, m240, DL.at_of _ _ k0, hx, md240, hc, md_p, e47, e137, h3, s2]
  · by_cases h2 : 0 < ns.length
    · obtain ⟨x, hx⟩ : ∃ x, ns[0]'h2 = x := ⟨_, rfl⟩
      have x0 : 0 ≤ (if x < 0 then -x else x) % 1000313 ∧ (if x < 0 then -x else x) % 1000313 < 1000313 := by omega
      have c0 : 0 ≤ 35023 * k + 71 + (if x < 0 then -x else x) % 1000313 := by omega
      have c1 : 35023 * k + 71 + (if x < 0 then -x else x) % 1000313 ≤ 9999999 := by omega
      have h3 : ¬ (1000000000000000000 : Int) ≤ 35023 * k + 71 + (if x < 0 then -x else x) % 1000313 := by omega
      refine ⟨_, ?_, (vok _ c0).2⟩
      simp [e35, h1, h2, p18, hx, md_m, md_p, e47, e137, h3, s2]
    · refine ⟨_, ?_, (vok (35023 * k + 71) (by omega)).2⟩
      have h3 : ¬ (1000000000000000000 : Int) ≤ 35023 * k + 71 := by omega
      simp [e35, h1, h2, p18, md_p, e47, e137, h3, s2]
def P_times (m : FM) : Prop := ∀ (v : List D) (runs pieces most : Int), VOK v → 1 ≤ runs → runs ≤ 3 → 1 ≤ pieces → pieces ≤ 4 → 1 ≤ most → most ≤ 200000 →
  ∃ rows v', m [.int runs, .int pieces, .int most] (some v) = .ok (mkRows rows) (some v') ∧ ROK rows runs pieces most ∧ VOK v'
theorem ok__law_times (B : Bl mg) (h_law_drop : ∃ m, Has P w K mg base 1 "_law_drop" p__law_drop m ∧ P_drop m) (Th : There K mg "_law_times" s__law_times p__law_times) :
    ∃ m, Has P w K mg base 2 "_law_times" p__law_times m ∧ P_times m := by
  obtain ⟨m1, h__law_drop, p1⟩ := h_law_drop
  refine ⟨_, has_any Th sc__law_times fun f cdv A outer s H E hr tk hp => (dss_cons (ds_set 4 sc__law_times.nd (de_tup da_nil))
    (dss_cons (ds_for hp rfl (di_range1 rfl B.range (da_cons (de_v 1) da_nil)) (dg_v 5 sc__law_times.nd) (dss_one (ds_set 4 sc__law_times.nd (de_op od_add (de_v 4) (de_tup (da_cons (de_callT cd_tup B.tuple PyProof.Rows.boot_tuple (da_cons (de_lc [6] rfl sc__law_times.nd (di_range1 rfl B.range (da_cons (de_v 2) da_nil)) (blkOk_by (own := [("_law_piece", 6)]) (N := n__law_times) (sc := defScope s__law_times) (by decide +kernel)) (fun _ _ _ _ _ => (dgw_v 6 sc__law_times.nd)) (fun _ _ _ _ _ => dts_nil) (fun _ _ _ _ _ => (de_op od_add de_int (dcv 0 h__law_drop wf_takes (hr.mono (by decide)) (da_cons (de_v 3) da_nil))))) da_nil)) da_nil))))))
    (dss_one (ds_ret (de_v 4))))), ?_⟩
  intro v runs pieces most hv r1 r3 q1 q4 t1 t2
  simp [toR1_ok runs _ (by omega) (by omega)]
  generalize hf : forL _ _ _ _ = r
  let st : List (List Int) × List D × Option Sl → S := fun a => ⟨[some Sl.via, some (Sl.val (D.int runs)), some (Sl.val (D.int pieces)), some (Sl.val (D.int most)), some (Sl.val (mkRows a.1)), a.2.2, none], some a.2.1⟩
  have key : ∃ a, r = .next (st a) ∧ (VOK a.2.1 ∧ a.1.length = (rngI 0 runs).length ∧ ∀ r ∈ a.1, (r.length : Int) = pieces ∧ ∀ x ∈ r, 1 ≤ x ∧ x ≤ most) := by
    rw [← hf]
    refine forL_st st (fun k a => VOK a.2.1 ∧ a.1.length = k ∧ ∀ r ∈ a.1, (r.length : Int) = pieces ∧ ∀ x ∈ r, 1 ≤ x ∧ x ≤ most) (rngI 0 runs) ([], v, none) ⟨hv, rfl, by simp⟩ ?_
    rintro i d ⟨rows, v1, y⟩ hd ⟨hv1, hl, hr⟩
    dsimp only at hv1 hl hr
    have hli := (rngI_get hd).2
    refine ⟨_, rfl, fun I hI => ?_⟩
    simp [st, toR1_ok pieces _ (by omega) (by omega)]
    generalize hc : compL _ _ _ _ _ _ _ = r
    let st2 : List D → S := fun a => ⟨[some Sl.via, some (Sl.val (D.int runs)), some (Sl.val (D.int pieces)), some (Sl.val (D.int most)), some (Sl.val (mkRows rows)), some (Sl.val d), none], some a⟩
    have key : ∃ ys a, r = .ok ys (st2 a) ∧ (VOK a ∧ ∃ (q : List Int), ys = q.map .int ∧ q.length = (rngI 0 pieces).length ∧ ∀ x ∈ q, 1 ≤ x ∧ x ≤ most) := by
      rw [← hc]
      refine compL_st st2 (fun k ys a => VOK a ∧ ∃ (q : List Int), ys = q.map .int ∧ q.length = k ∧ ∀ x ∈ q, 1 ≤ x ∧ x ≤ most) (rngI 0 pieces) v1 ⟨hv1, [], rfl, rfl, by simp⟩ ?_
      rintro i d acc v2 hd ⟨hv2, q, rfl, hq, hb⟩
      obtain ⟨a, v3, e1, a0, a1, hv3⟩ := p1 v2 most hv2 t1 (by omega)
      refine ⟨_, rfl, rfl, fun I hI => ?_⟩
      simp [st2, e1]
      refine hI (.int (1 + a)) v3 ⟨hv3, q ++ [1 + a], by simp, by simp [hq], ?_⟩
      intro x hx
      rcases List.mem_append.mp hx with hx | hx
      · exact hb x hx
      · simp at hx; omega
    obtain ⟨ys, v2, rfl, hv2, q, rfl, hq, hb⟩ := key
    have ea : opAdd (mkRows rows) (.tup [.tup (q.map .int)]) = some (mkRows (rows ++ [q])) := by
      unfold mkRows
      rw [add_tup (by simp; omega), List.map_append]
      rfl
    simp [st2, ea]
    refine hI (rows ++ [q], v2, some (.val d)) ⟨hv2, by simp [hl], ?_⟩
    · intro r hx
      rcases List.mem_append.mp hx with hx | hx
      · exact hr r hx
      · simp at hx; subst hx; simp at hq; exact ⟨by omega, hb⟩
  obtain ⟨⟨rows, v', y⟩, rfl, hv', hl, hr⟩ := key
  refine ⟨rows, v', ?_, ⟨?_, hr⟩, hv'⟩
  · simp [st]
  · simp at hl
    omega
end
end K10

namespace K10
open PySem PySem.Spec PyProof.Rows L2 DL
section
variable {P : Program} {w : World} {K : PySem.W.Frag} {mg : Str → Option Value} {base : Heap}
theorem isI_okd {d : D} {lo hi : Int} {n : Nat} (h : isI d lo hi = true) : okd n d = true := by
  obtain ⟨i, rfl, _⟩ := isI_int h
  cases n <;> simp [okd]
theorem gtI_okd {a d : D} {hi : Int} {n : Nat} (h : gtI a d hi = true) : okd n d = true := by
  cases a <;> simp [gtI] at h
  exact isI_okd h
theorem geI_okd {a d : D} {hi : Int} {n : Nat} (h : geI a d hi = true) : okd n d = true := by
  cases a <;> simp [geI] at h
  exact isI_okd h
theorem tells_kind {r p : Int} {t : List D} (h : tellsB r p (.tup t) = true) : ∃ k xs, t = .str k :: xs ∧ PyData.strOk k = true ∧ xs.all (okd 0) = true := by
  unfold tellsB at h
  split at h
  · rename_i d k a b c heq
    cases heq
    simp at h
    obtain ⟨h0, h1, h2, h3⟩ := h
    exact ⟨_, _, rfl, by rw [h0]; exact ok_best, by simp [isI_okd h1, gtI_okd h2, isI_okd h3]⟩
  · rename_i d k r' x y l hh heq
    cases heq
    simp at h
    obtain ⟨h0, h1, h2⟩ := h
    split at h2
    · rename_i hk
      obtain ⟨h3, h4, h5, h6⟩ := h2
      exact ⟨_, _, rfl, by rw [hk]; exact ok_span, by simp [isI_okd h1, isI_okd h3, gtI_okd h4, isI_okd h5, geI_okd h6]⟩
    · obtain ⟨hk, h3, h4, h5, h6, h7⟩ := h2
      exact ⟨_, _, rfl, by rw [hk]; exact ok_gap, by simp [isI_okd h1, isI_okd h3, isI_okd h5, isI_okd h6, geI_okd h7]⟩
  · cases h
theorem tells_okd {r p : Int} {d : D} (h : tellsB r p d = true) : okd 1 d = true := by
  obtain ⟨k, xs, rfl⟩ := tellsB_best h
  obtain ⟨k, xs, e, h1, h2⟩ := tells_kind h
  cases e
  simp only [okd, List.all_cons, Bool.and_eq_true]
  exact ⟨h1, h2⟩
/-- a book drawn -/
structure VolOK (runs pieces many : Int) (ts : List D) : Prop where
  len : (ts.length : Int) ≤ many
  all : ∀ t ∈ ts, tellsB runs pieces t = true
  few : (ts.filter isBest).length ≤ 3
def vol (runs pieces : Int) (ts : List D) : D := .tup [.int runs, .int pieces, .tup ts]
def P_volume (m : FM) : Prop := ∀ (v : List D) (runs pieces most many : Int), VOK v → 1 ≤ runs → runs ≤ 3 → 1 ≤ pieces → pieces ≤ 4 → 1 ≤ most → most ≤ 200000 → 0 ≤ many → many ≤ 1000 →
  ∃ ts v', m [.int runs, .int pieces, .int most, .int many] (some v) = .ok (vol runs pieces ts) (some v') ∧ VolOK runs pieces many ts ∧ VOK v'
theorem ok__law_volume (B : Bl mg) (h_law_drop : ∃ m, Has P w K mg base 1 "_law_drop" p__law_drop m ∧ P_drop m) (h_law_times : ∃ m, Has P w K mg base 2 "_law_times" p__law_times m ∧ P_times m) (h_law_spoken : ∃ m, Has P w K mg base 3 "_law_spoken" p__law_spoken m ∧ P_spoken m) (Th : There K mg "_law_volume" s__law_volume p__law_volume) :
    ∃ m, Has P w K mg base 4 "_law_volume" p__law_volume m ∧ P_volume m := by
  obtain ⟨m1, h__law_drop, p1⟩ := h_law_drop
  obtain ⟨m2, h__law_times, p2⟩ := h_law_times
  obtain ⟨m3, h__law_spoken, p3⟩ := h_law_spoken
  refine ⟨_, has_any Th sc__law_volume fun f cdv A outer s H E hr tk hp => (dss_cons (ds_par3 5 6 7 rfl sc__law_volume.nd (da_cons (dcv 0 h__law_times tk (hr.mono (by decide)) (da_cons (de_v 1) (da_cons (de_v 2) (da_cons (de_v 3) da_nil)))) (da_cons (de_tup da_nil) (da_cons de_int da_nil))))
    (dss_cons (ds_for hp rfl (di_range1 rfl B.range (da_cons (dcv 0 h__law_drop tk (hr.mono (by decide)) (da_cons (de_op od_add (de_v 4) de_int) da_nil)) da_nil)) (dg_v 8 sc__law_volume.nd) (dss_cons (ds_set 9 sc__law_volume.nd (dcv 0 h__law_spoken tk (hr.mono (by decide)) (da_cons (de_v 1) (da_cons (de_v 2) (da_cons (de_v 5) da_nil)))))
      (dss_cons (ds_set 7 sc__law_volume.nd (de_op od_add (de_v 7) (de_callT cd_int B.int PyProof.Rows.boot_int (da_cons (de_cmp (od_eq hr) (de_ix (de_v 9) de_int) de_str (nomark _)) da_nil))))
      (dss_one (ds_if (dt_w (dw_or (dt_cmp (od_ne hr) (de_ix (de_v 9) de_int) de_str (nomark _)) (dw_or1 (dt_cmp od_le (de_v 7) de_int (nomark _))))) (dss_one (ds_set 6 sc__law_volume.nd (de_op od_add (de_v 6) (de_tup (da_cons (de_v 9) da_nil))))) dss_nil)))))
    (dss_one (ds_ret (de_tup (da_cons (de_v 1) (da_cons (de_v 2) (da_cons (de_v 6) da_nil)))))))), ?_⟩
  intro v runs pieces most many hv r1 r3 q1 q4 t1 t2 y1 y2
  obtain ⟨rows, v1, e1, hrow, hv1⟩ := p2 v runs pieces most hv r1 r3 q1 q4 t1 t2
  obtain ⟨a, v2, e2, a0, a1, hv2⟩ := p1 v1 (many + 1) hv1 (by omega) (by omega)
  simp [e1, e2, toR1_ok a _ a0 (by omega)]
  generalize hf : forL _ _ _ _ = r
  let st : List D × Int × List D × Option Sl × Option Sl → S := fun a => ⟨[some Sl.via, some (Sl.val (D.int runs)), some (Sl.val (D.int pieces)), some (Sl.val (D.int most)),
    some (Sl.val (D.int many)), some (Sl.val (mkRows rows)), some (Sl.val (D.tup a.1)), some (Sl.val (D.int a.2.1)), a.2.2.2.1, a.2.2.2.2], some a.2.2.1⟩
  let J : Nat → List D × Int × List D × Option Sl × Option Sl → Prop := fun k a => VOK a.2.2.1 ∧ a.1.length ≤ k ∧ (∀ t ∈ a.1, tellsB runs pieces t = true) ∧ (a.1.filter isBest).length ≤ 3 ∧ ((a.1.filter isBest).length : Int) ≤ a.2.1
  have key : ∃ x, r = .next (st x) ∧ J (rngI 0 a).length x := by
    rw [← hf]
    refine forL_st st J (rngI 0 a) ([], 0, v2, none, none) ⟨hv2, by simp, by simp, by simp, by simp⟩ ?_
    rintro i d ⟨ts, bests, v3, y, y'⟩ hd ⟨hv3, hl, hts, hb, hb'⟩
    dsimp only at hv3 hl hts hb hb'
    have hli := (rngI_get hd).2
    refine ⟨_, rfl, fun I hI => ?_⟩
    obtain ⟨t, v4, e4, ht, hv4, _⟩ := p3 v3 runs pieces most rows hv3 r1 r3 q1 q4 t2 hrow
    obtain ⟨k, xs, rfl, sk, hxs⟩ := tells_kind ht
    have ib : isBest (.tup (.str k :: xs)) = (k == ("best" : Str)) := rfl
    have nts : ∀ x ∈ ts ++ [.tup (.str k :: xs)], tellsB runs pieces x = true := fun x hx => by
      rcases List.mem_append.mp hx with hx | hx
      · exact hts x hx
      · simp at hx; subst hx; exact ht
    have ea : opAdd (.tup ts) (.tup [.tup (.str k :: xs)]) = some (.tup (ts ++ [.tup (.str k :: xs)])) := add_tup (by simp; omega)
    simp [st, e4, eq_str' sk ok_best, ne_str' sk ok_best]
    by_cases hk : k = "best"
    · have ib' : isBest (.tup (.str k :: xs)) = true := by rw [ib, hk]; simp
      by_cases h3 : bests + 1 ≤ 3
      · have h3' : bests ≤ 2 := by omega
        simp [hk, h3, h3']
        rw [hk] at ea
        simp [ea]
        exact hI (ts ++ [.tup (.str "best" :: xs)], bests + 1, v4, some (.val d), some (.val (.tup (.str "best" :: xs)))) ⟨hv4, by simp; omega, by rw [← hk]; exact nts, by rw [hk] at ib'; simp [ib']; omega, by rw [hk] at ib'; simp [ib']; omega⟩
      · simp [hk, h3]
        exact hI (ts, bests + 1, v4, some (.val d), some (.val (.tup (.str "best" :: xs)))) ⟨hv4, by dsimp only; omega, hts, hb, by dsimp only; omega⟩
    · have ib' : isBest (.tup (.str k :: xs)) = false := by rw [ib]; simpa using hk
      simp [hk, ea]
      exact hI (ts ++ [.tup (.str k :: xs)], bests, v4, some (.val d), some (.val (.tup (.str k :: xs)))) ⟨hv4, by simp; omega, nts, by simp [ib']; exact hb, by simp [ib']; exact hb'⟩
  obtain ⟨⟨ts, bests, v', y, y'⟩, rfl, hv', hl, hts, hb, hb'⟩ := key
  dsimp only at hv' hl hts hb hb'
  refine ⟨ts, v', ?_, ⟨?_, hts, hb⟩, hv'⟩
  · simp [st, vol]
  · simp at hl
    omega
end
end K10

namespace K10
open PySem PySem.Spec PyProof.Rows L2 DL
section
variable {P : Program} {w : World} {K : PySem.W.Frag} {mg : Str → Option Value} {base : Heap}
/-! ## texts: numbers -/
theorem cutS_list (z : Str) (lo hi : Option Int) : (cutS z lo hi).cps.toList = cutG z.cps.toList lo hi := by
  unfold cutS cutG
  rw [show z.length = z.cps.toList.length from Array.length_toList.symm]
theorem cut_ok {x : Str} {lo hi : Option Int} (h : PyData.strOk x = true) : PyData.strOk (cutS x lo hi) = true := by
  unfold PyData.strOk at h ⊢
  rw [← Array.all_toList, List.all_eq_true] at h ⊢
  rw [cutS_list]
  exact fun c hc => h c (cutG_mem hc)
theorem str_len (x : Str) : x.length = x.cps.toList.length := Array.length_toList.symm
theorem fold_lt : ∀ (cs : List Nat) (a : Nat), NumText.AllDigits cs → cs.foldl (fun acc c => acc * 10 + (c - 48)) a < (a + 1) * 10 ^ cs.length
  | [], a, _ => by simp
  | c :: cs, a, h => by
    have hc := h.head
    have := fold_lt cs (a * 10 + (c - 48)) h.tail
    rw [List.foldl_cons, List.length_cons, Nat.pow_succ]
    have h2 : (a * 10 + (c - 48) + 1) ≤ (a + 1) * 10 := by omega
    calc _ < (a * 10 + (c - 48) + 1) * 10 ^ cs.length := this
      _ ≤ ((a + 1) * 10) * 10 ^ cs.length := Nat.mul_le_mul_right _ h2
      _ = (a + 1) * (10 ^ cs.length * 10) := by rw [Nat.mul_assoc, Nat.mul_comm 10]
theorem val_lt {cs : List Nat} (h : NumText.AllDigits cs) : NumText.digitsVal cs < 10 ^ cs.length := by
  have := fold_lt cs 0 h
  simpa [NumText.digitsVal] using this
def figs (x : Str) : Str := if (cutS x none (some 1) == ("-" : Str)) = true then cutS x (some 1) none else x
def digs (x : Str) : Bool := x.cps.toList.all fun k => decide (k ∈ ("0123456789" : Str).cps.toList)
def numK (k : Nat) (x : Str) : Option Int := if 1 ≤ (figs x).length ∧ (figs x).length ≤ k ∧ digs (figs x) = true then (match intText? x with
    | some n => if (Str.ofString (toString n) == x) = true then some n else none
    | none => none) else none
def optD : Option Int → D
  | some n => .int n
  | none => .non
theorem ok_minus : PyData.strOk "-" = true := by decide +kernel
theorem ok_empty : PyData.strOk "" = true := by decide +kernel
theorem digits_list : ("0123456789" : Str).cps.toList = [48, 49, 50, 51, 52, 53, 54, 55, 56, 57] := by decide +kernel
theorem minus_list : ("-" : Str).cps.toList = [45] := by decide +kernel
theorem digs_all {x : Str} (h : digs x = true) : NumText.AllDigits x.cps.toList := by
  unfold digs at h
  rw [digits_list] at h
  simp only [List.all_eq_true, decide_eq_true_eq] at h
  intro c hc
  have := h c hc
  simp at this
  omega
theorem minus_iff (x : Str) : (cutS x none (some 1) == ("-" : Str)) = true ↔ ∃ cs, x.cps.toList = 45 :: cs := by
  have e : (cutS x none (some 1)).cps.toList = x.cps.toList.take 1 := by rw [cutS_list]; exact cut_to _ 1
  constructor
  · intro h
    have h2 : cutS x none (some 1) = ("-" : Str) := by simpa using h
    rw [h2, minus_list] at e
    cases q : x.cps.toList with
    | nil => rw [q] at e; cases e
    | cons c cs => rw [q] at e; simp at e; exact ⟨cs, by rw [← e]⟩
  · rintro ⟨cs, h⟩
    rw [h] at e
    have h2 : cutS x none (some 1) = ("-" : Str) := Str.ext' (Array.toList_inj.mp (by rw [e, minus_list]; rfl))
    simpa using h2
theorem reads {x : Str} (h1 : 1 ≤ (figs x).length) (h2 : (figs x).length ≤ 9) (h3 : digs (figs x) = true) : ∃ n : Int, intText? x = some n ∧ n.natAbs < 10 ^ 9 ∧ x.length ≤ 640 := by
  have ha := digs_all h3
  have hp : (10 : Nat) ^ (figs x).length ≤ 10 ^ 9 := Nat.pow_le_pow_right (by decide) h2
  have hv := val_lt ha
  rw [← str_len] at hv
  by_cases h : (cutS x none (some 1) == ("-" : Str)) = true
  · obtain ⟨cs, e⟩ := (minus_iff x).mp h
    have ef : (figs x).cps.toList = cs := by
      unfold figs
      rw [if_pos h, cutS_list, e]
      exact cut_from _ 1
    have hx : x.length = cs.length + 1 := by rw [str_len, e]; rfl
    have hf : (figs x).length = cs.length := by rw [str_len, ef]
    rw [ef] at ha hv
    refine ⟨_, intText_neg e ha (fun z => by rw [z] at hf; simp at hf; omega) (by omega), by omega, by omega⟩
  · have ef : figs x = x := if_neg h
    rw [ef] at ha hv h1 h2 hp
    exact ⟨_, intText_digits ha (fun z => by rw [str_len, z] at h1; simp at h1) (by omega), by omega, by omega⟩
theorem ok_of (s : String) : PyData.strOk (Str.ofString s) = true := by
  unfold PyData.strOk
  rw [← Array.all_toList, List.all_eq_true, PyProof.Rows.signs_ofString]
  intro c hc
  obtain ⟨ch, _, rfl⟩ := List.mem_map.mp hc
  have := ch.valid
  refine decide_eq_true ?_
  rcases this with h | h
  · exact Nat.lt_trans h (by decide)
  · exact h.2
def P_num (k : Nat) (m : FM) : Prop := ∀ x : Str, PyData.strOk x = true → x.length ≤ 100000 → m [.str x] none = .ok (optD (numK k x)) none
theorem gstr_int {n : Int} (h : n.natAbs < 10 ^ 9) : gStr [.int n] = some (.str (Str.ofString (toString n))) := by
  have : n.natAbs.log2 < 1920 := by
    rcases Nat.eq_zero_or_pos n.natAbs with e | e
    · rw [e]; decide
    · exact (Nat.log2_lt (by omega)).mpr (Nat.lt_trans h (by decide +kernel))
  exact if_pos this
theorem gint_str {x : Str} {n : Int} (h : intText? x = some n) (hl : x.length ≤ 640) : gIntS [.str x] = some (.int n) := by
  show (if _ then _ else _) = _
  rw [if_pos hl, h]
  rfl
theorem len_str (x : Str) (h : x.length ≤ sizeLine) : gLen [.str x] = some (.int x.length) := by simp [gLen, h]
theorem str_nil {x : Str} (h : x.length = 0) : (x == ("" : Str)) = true := by
  have : x = ("" : Str) := Str.ext' (Array.toList_inj.mp (by
    have e : ("" : Str).cps.toList = [] := by decide +kernel
    rw [e]
    rw [str_len] at h
    exact List.eq_nil_of_length_eq_zero h))
  rw [this]; simp
theorem str_cons {x : Str} (h : 1 ≤ x.length) : (x == ("" : Str)) = false := by
  cases e : x == ("" : Str) with
  | false => rfl
  | true =>
    have : x = ("" : Str) := by simpa using e
    rw [this] at h
    exact absurd h (by decide +kernel)
theorem filt_empty' (q : Nat → Bool) : ∀ l : List Nat, (l.filter fun d => !q d).isEmpty = l.all q
  | [] => rfl
  | d :: r => by
    rw [List.filter_cons, List.all_cons]
    cases e : q d with
    | true => simpa using filt_empty' q r
    | false => simp
theorem ok_integer_in (B : Bl mg) (Th : There K mg "integer_in" s_integer_in p_integer_in) : ∃ m, Has P w K mg base 1 "integer_in" p_integer_in m ∧ P_num 9 m := by
  refine ⟨_, has_any Th sc_integer_in fun f cdv A outer s H E hr tk hp => (dss_cons (ds_set 1 sc_integer_in.nd (de_if (dt_cmp (od_eq hr) (de_slS (de_v 0) do_none (do_some de_int)) de_str (nomark _)) (de_slS (de_v 0) (do_some de_int) do_none) (de_v 0)))
    (dss_cons (ds_if (dt_w (dw_or (dt_cmp (od_eq hr) (de_v 1) de_str (nomark _)) (dw_or (dt_cmp od_gt (de_callB cd_len B.len PySem.boot_len (da_cons (de_v 1) da_nil)) de_int (nomark _)) (dw_or1 (dt_cmp (od_ne hr) (de_lc [2] rfl sc_integer_in.nd (di_str (de_v 1)) (blkOk_by (own := [("sign", 2)]) (N := n_integer_in) (sc := defScope s_integer_in) (by decide +kernel)) (fun _ _ _ _ _ => (dgw_v 2 sc_integer_in.nd)) (fun _ _ _ _ _ => (dts_one (dt_cmp od_notins (de_v 2) de_str (by rfl)))) (fun _ _ _ _ _ => (de_v 2))) (de_lst da_nil) (nomark _)))))) (dss_one (ds_ret de_non)) dss_nil)
    (dss_one (ds_ret (de_if (dt_cmp (od_eq hr) (de_callT cd_str B.str PyProof.Rows.boot_str (da_cons (de_callT cd_ints B.int PyProof.Rows.boot_int (da_cons (de_v 0) da_nil)) da_nil)) (de_v 0) (nomark _)) (de_callT cd_ints B.int PyProof.Rows.boot_int (da_cons (de_v 0) da_nil)) de_non))))), ?_⟩
  intro x hx hl
  have zl : x.length ≤ sizeLine := Nat.le_trans hl (by decide +kernel)
  have e1 : opSlS (.str x) none (some 1) = some (.str (cutS x none (some 1))) := if_pos zl
  have e2 : opSlS (.str x) (some 1) none = some (.str (cutS x (some 1) none)) := if_pos zl
  have e3 : opEq (.str (cutS x none (some 1))) (.str "-") = some (.bl (cutS x none (some 1) == ("-" : Str))) := eq_str' (cut_ok hx) ok_minus
  have fok : PyData.strOk (figs x) = true := by
    unfold figs
    split
    · exact cut_ok hx
    · exact hx
  have fl : (figs x).length ≤ sizeLine := by
    unfold figs
    split
    · exact Nat.le_trans (cutS_length _ _ _) zl
    · exact zl
  have e4 : opEq (.str (figs x)) (.str "") = some (.bl (figs x == ("" : Str))) := eq_str' fok ok_empty
  have rd := reads (x := x)
  have nk : numK 9 x = numK 9 x := rfl
  conv at nk => rhs; unfold numK
  have ef : (cutS x none (some 1) == ("-" : Str)) = true → cutS x (some 1) none = figs x := fun h => (if_pos h).symm
  have ef2 : ¬ (cutS x none (some 1) == ("-" : Str)) = true → x = figs x := fun h => (if_neg h).symm
  have bad : compL [2] (fun d s => some (s.put 2 (Sl.val d))) (fun s => ((getS 2 s).bind fun x s => lift (opNotInS x (D.str (Str.ofString "0123456789"))) s).bind toB) (getS 2) (sgD (figs x)) [] ⟨[some (Sl.val (D.str x)), some (Sl.val (D.str (figs x))), none], none⟩ =
      .ok ((sgD (figs x)).filter fun d => match d with | .str c => !c.cps.toList.all (fun k => decide (k ∈ ("0123456789" : Str).cps.toList)) | _ => true) ⟨[some (Sl.val (D.str x)), some (Sl.val (D.str (figs x))), none], none⟩ := by
    refine (compL_map (tb := fun d => match d with | .str c => !c.cps.toList.all (fun k => decide (k ∈ ("0123456789" : Str).cps.toList)) | _ => true) (fd := id) _ _ _ ?_).trans (by simp)
    intro d hd
    obtain ⟨c, _, rfl⟩ := List.mem_map.mp hd
    refine ⟨_, rfl, ?_, ?_, rfl⟩
    · simp [opNotInS]
    · simp
  have sgl : sgD (figs x) = (figs x).cps.toList.map fun c => .str ⟨#[c]⟩ := rfl
  have allB : ((sgD (figs x)).filter fun d => match d with | .str c => !c.cps.toList.all (fun k => decide (k ∈ ("0123456789" : Str).cps.toList)) | _ => true).isEmpty = digs (figs x) := by
    rw [sgl, List.filter_map, List.isEmpty_map]
    unfold digs
    rw [show (((fun d : D => match d with | .str c => !c.cps.toList.all (fun k => decide (k ∈ ("0123456789" : Str).cps.toList)) | _ => true) ∘ fun c : Nat => (D.str ⟨#[c]⟩ : D))) = fun c : Nat => !decide (c ∈ ("0123456789" : Str).cps.toList) from by funext c; simp]
    exact filt_empty' _ _
  have okF : ((sgD (figs x)).filter fun d => match d with | .str c => !c.cps.toList.all (fun k => decide (k ∈ ("0123456789" : Str).cps.toList)) | _ => true).all (okd 59) = true := by
    rw [List.all_eq_true]
    intro d hd
    obtain ⟨hd, _⟩ := List.mem_filter.mp hd
    rw [sgl] at hd
    obtain ⟨c, hc, rfl⟩ := List.mem_map.mp hd
    have fk := fok
    unfold PyData.strOk at fk
    rw [← Array.all_toList, List.all_eq_true] at fk
    simp [okd, PyData.strOk]
    simpa using fk c hc
  generalize hbd : ((sgD (figs x)).filter fun d => match d with | .str c => !c.cps.toList.all (fun k => decide (k ∈ ("0123456789" : Str).cps.toList)) | _ => true) = badL at bad allB okF
  have asg : ∀ s : S, asSg (.str (figs x)) s = .ok (sgD (figs x)) s := fun s => if_pos fl
  have fin : ∀ (h : S → FR), True := fun _ => trivial
  by_cases h1 : (cutS x none (some 1) == ("-" : Str)) = true
  · rw [ef h1] at e2
    by_cases hz : (figs x).length = 0
    · have nz : ¬ 1 ≤ (figs x).length := by omega
      rw [nk]
      simp [e1, e2, e3, h1, e4, str_nil hz, nz, optD]
    · have z1 : 1 ≤ (figs x).length := by omega
      by_cases h9 : (figs x).length ≤ 9
      · have h9' : ¬ ((9 : Int) < (figs x).length) := by omega
        by_cases hd : digs (figs x) = true
        · obtain ⟨n, r1, r2, r3⟩ := rd z1 h9 hd
          have er : badL.isEmpty = true := by rw [allB, hd]
          have eb : opEq (.str (Str.ofString n.repr)) (.str x) = some (.bl (Str.ofString n.repr == x)) := eq_str' (ok_of _) hx
          rw [nk]
          simp [e1, e2, e3, h1, e4, str_cons z1, len_str _ fl, h9', asg, bad, ne_nil' okF, er, gint_str r1 r3, gstr_int r2, eb, z1, h9, hd, r1]
          by_cases hq : Str.ofString n.repr = x
          · simp [hq, gint_str r1 r3, optD]
          · simp [hq, optD]
        · have er : badL.isEmpty = false := by rw [allB]; simpa using hd
          rw [nk]
          simp [e1, e2, e3, h1, e4, str_cons z1, len_str _ fl, h9', asg, bad, ne_nil' okF, er, hd, optD]
      · have h9' : ((9 : Int) < (figs x).length) := by omega
        rw [nk]
        simp [e1, e2, e3, h1, e4, str_cons z1, len_str _ fl, h9', h9, optD]
  · have e5 := ef2 h1
    rw [← e5] at e4 fl fok rd nk bad allB asg
    by_cases hz : x.length = 0
    · have nz : ¬ 1 ≤ x.length := by omega
      rw [nk]
      simp [e1, e2, e3, h1, e4, str_nil hz, nz, optD]
    · have z1 : 1 ≤ x.length := by omega
      by_cases h9 : x.length ≤ 9
      · have h9' : ¬ ((9 : Int) < x.length) := by omega
        by_cases hd : digs x = true
        · obtain ⟨n, r1, r2, r3⟩ := rd z1 h9 hd
          have er : badL.isEmpty = true := by rw [allB, hd]
          have eb : opEq (.str (Str.ofString n.repr)) (.str x) = some (.bl (Str.ofString n.repr == x)) := eq_str' (ok_of _) hx
          rw [nk]
          simp [e1, e2, e3, h1, e4, str_cons z1, len_str _ fl, h9', asg, bad, ne_nil' okF, er, gint_str r1 r3, gstr_int r2, eb, z1, h9, hd, r1]
          by_cases hq : Str.ofString n.repr = x
          · simp [hq, gint_str r1 r3, optD]
          · simp [hq, optD]
        · have er : badL.isEmpty = false := by rw [allB]; simpa using hd
          rw [nk]
          simp [e1, e2, e3, h1, e4, str_cons z1, len_str _ fl, h9', asg, bad, ne_nil' okF, er, hd, optD]
      · have h9' : ((9 : Int) < x.length) := by omega
        rw [nk]
        simp [e1, e2, e3, h1, e4, str_cons z1, len_str _ fl, h9', h9, optD]
end
end K10

namespace K10
open PySem PySem.Spec PyProof.Rows L2 DL
section
variable {P : Program} {w : World} {K : PySem.W.Frag} {mg : Str → Option Value} {base : Heap}
theorem drop_takeWhile_ne {p : Nat → Bool} : ∀ (l : List Nat), l.all p = false → ∃ c r, l.drop (l.takeWhile p).length = c :: r ∧ p c = false
  | [], h => by simp at h
  | c :: l, h => by
    by_cases e : p c = true
    · rw [List.all_cons, e, Bool.true_and] at h
      rw [List.takeWhile_cons, if_pos e, List.length_cons, List.drop_succ_cons]
      exact drop_takeWhile_ne l h
    · rw [List.takeWhile_cons, if_neg e]
      exact ⟨c, l, rfl, by simpa using e⟩
theorem takeWhile_all' {p : Nat → Bool} {l : List Nat} (h : l.all p = true) : l.takeWhile p = l := by
  induction l with
  | nil => rfl
  | cons c l ih =>
    rw [List.all_cons, Bool.and_eq_true] at h
    rw [List.takeWhile_cons, if_pos h.1, ih h.2]
theorem sub_len (x : Str) (i j : Nat) : (PySem.Builtin.Str.strSub x i j).length = min (j - i) (x.length - i) := by
  have e : (PySem.Builtin.Str.strSub x i j).cps.toList = (x.cps.toList.drop i).take (j - i) := TL.tl_strSub x i j
  rw [str_len, e, List.length_take, List.length_drop, ← str_len]
theorem strip_len (x y : Str) : (Txt.stripChars x y).length = 0 ↔ x.cps.toList.all y.cps.contains = true := by
  have hx : x.length = x.cps.toList.length := str_len x
  unfold Txt.stripChars Txt.stripBy
  cases h : x.cps.toList.all y.cps.contains with
  | true =>
    simp only [iff_true]
    have lo : stripLo y.cps.contains true x = x.length := by
      unfold stripLo
      rw [if_pos rfl, takeWhile_all' h, ← hx]
    split
    · rename_i q
      unfold stripSame at q
      rw [lo] at q
      simp at q
      exact q.1
    · unfold stripped
      rw [lo, sub_len]
      omega
  | false =>
    simp only [Bool.false_eq_true, iff_false]
    obtain ⟨c, r, hd, hc⟩ := drop_takeWhile_ne _ h
    have lo : stripLo y.cps.contains true x = (x.cps.toList.takeWhile y.cps.contains).length := by
      unfold stripLo
      rw [if_pos rfl]
    have hn : x.length = (x.cps.toList.takeWhile y.cps.contains).length + (r.length + 1) := by
      have := congrArg List.length hd
      rw [List.length_drop, List.length_cons, ← hx] at this
      omega
    split
    · omega
    · unfold stripped
      rw [sub_len]
      have hi : stripHi y.cps.contains true x (stripLo y.cps.contains true x) = x.length - ((c :: r).reverse.takeWhile y.cps.contains).length := by
        unfold stripHi
        rw [if_pos rfl, lo, hd]
      have ha : (c :: r).reverse.all y.cps.contains = false := by
        rw [List.all_reverse, List.all_cons, hc, Bool.false_and]
      obtain ⟨c2, r2, hd2, _⟩ := drop_takeWhile_ne _ ha
      have h2 := congrArg List.length hd2
      rw [List.length_drop, List.length_reverse, List.length_cons, List.length_cons] at h2
      rw [hi, lo]
      omega
theorem strip_digs (x : Str) : (Txt.stripChars x ("0123456789" : Str) == ("" : Str)) = digs x := by
  have h := strip_len x ("0123456789" : Str)
  have e : x.cps.toList.all ("0123456789" : Str).cps.contains = digs x := by
    unfold digs
    congr 1
    funext k
    rw [← Array.contains_toList]
    simp
  rw [e] at h
  cases hd : digs x with
  | true => exact str_nil (h.mpr hd)
  | false =>
    refine str_cons ?_
    rcases Nat.eq_zero_or_pos (Txt.stripChars x ("0123456789" : Str)).length with z | z
    · rw [h.mp z] at hd; cases hd
    · exact z
theorem ok__law_number (B : Bl mg) (Th : There K mg "_law_number" s__law_number p__law_number) : ∃ m, Has P w K mg base 1 "_law_number" p__law_number m ∧ P_num 7 m := by
  refine ⟨_, has_any Th sc__law_number fun f cdv A outer s H E hr tk hp => (dss_cons (ds_set 1 sc__law_number.nd (de_if (dt_cmp (od_eq hr) (de_slS (de_v 0) do_none (do_some de_int)) de_str (nomark _)) (de_slS (de_v 0) (do_some de_int) do_none) (de_v 0)))
    (dss_cons (ds_if (dt_w (dw_or (dt_not (dt_chain de_int (cht_link od_le (de_callB cd_len B.len PySem.boot_len (da_cons (de_v 1) da_nil)) (cht_last od_le de_int)))) (dw_or1 (dt_cmp (od_ne hr) (de_m1 F.slot_str_strip F.type_str_strip md_strip (de_v 1) de_str) de_str (nomark _))))) (dss_one (ds_ret de_non)) dss_nil)
    (dss_one (ds_ret (de_if (dt_cmp (od_eq hr) (de_callT cd_str B.str PyProof.Rows.boot_str (da_cons (de_callT cd_ints B.int PyProof.Rows.boot_int (da_cons (de_v 0) da_nil)) da_nil)) (de_v 0) (nomark _)) (de_callT cd_ints B.int PyProof.Rows.boot_int (da_cons (de_v 0) da_nil)) de_non))))), ?_⟩
  intro x hx hl
  have zl : x.length ≤ sizeLine := Nat.le_trans hl (by decide +kernel)
  have e1 : opSlS (.str x) none (some 1) = some (.str (cutS x none (some 1))) := if_pos zl
  have e2 : opSlS (.str x) (some 1) none = some (.str (cutS x (some 1) none)) := if_pos zl
  have e3 : opEq (.str (cutS x none (some 1))) (.str "-") = some (.bl (cutS x none (some 1) == ("-" : Str))) := eq_str' (cut_ok hx) ok_minus
  have fl : (figs x).length ≤ sizeLine := by
    unfold figs
    split
    · exact Nat.le_trans (cutS_length _ _ _) zl
    · exact zl
  have fok : PyData.strOk (figs x) = true := by
    unfold figs
    split
    · exact cut_ok hx
    · exact hx
  have sok : PyData.strOk (Txt.stripChars (figs x) ("0123456789" : Str)) = true := by
    have hsub : ∀ i j, PyData.strOk (PySem.Builtin.Str.strSub (figs x) i j) = true := fun i j => by
      have e : (PySem.Builtin.Str.strSub (figs x) i j).cps.toList = ((figs x).cps.toList.drop i).take (j - i) := TL.tl_strSub _ i j
      unfold PyData.strOk at fok ⊢
      rw [← Array.all_toList, List.all_eq_true] at fok ⊢
      rw [e]
      exact fun c hc => fok c (List.mem_of_mem_drop (List.mem_of_mem_take hc))
    unfold Txt.stripChars Txt.stripBy
    split
    · exact fok
    · exact hsub _ _
  have e4 : gStripC (figs x) (.str "0123456789") = some (.str (Txt.stripChars (figs x) ("0123456789" : Str))) := if_pos fl
  have e5 : opNe (.str (Txt.stripChars (figs x) ("0123456789" : Str))) (.str "") = some (.bl (!digs (figs x))) := by
    rw [ne_str' sok ok_empty, strip_digs]
  have rd := reads (x := x)
  have nk : numK 7 x = numK 7 x := rfl
  conv at nk => rhs; unfold numK
  have ef : (cutS x none (some 1) == ("-" : Str)) = true → cutS x (some 1) none = figs x := fun h => (if_pos h).symm
  have ef2 : ¬ (cutS x none (some 1) == ("-" : Str)) = true → x = figs x := fun h => (if_neg h).symm
  by_cases h1 : (cutS x none (some 1) == ("-" : Str)) = true
  · rw [ef h1] at e2
    by_cases z1 : 1 ≤ (figs x).length
    · have z1' : (1 : Int) ≤ (figs x).length := by omega
      by_cases h9 : (figs x).length ≤ 7
      · have h9' : ((figs x).length : Int) ≤ 7 := by omega
        by_cases hd : digs (figs x) = true
        · obtain ⟨n, r1, r2, r3⟩ := rd z1 (by omega) hd
          have eb : opEq (.str (Str.ofString n.repr)) (.str x) = some (.bl (Str.ofString n.repr == x)) := eq_str' (ok_of _) hx
          rw [nk]
          simp [e1, e2, e3, h1, e4, e5, len_str _ fl, z1', h9', gint_str r1 r3, gstr_int r2, eb, z1, h9, hd, r1]
          by_cases hq : Str.ofString n.repr = x
          · simp [hq, gint_str r1 r3, optD]
          · simp [hq, optD]
        · rw [nk]
          simp [e1, e2, e3, h1, e4, e5, len_str _ fl, z1', h9', hd, optD]
      · have h9' : ¬ ((figs x).length : Int) ≤ 7 := by omega
        rw [nk]
        simp [e1, e2, e3, h1, e4, e5, len_str _ fl, z1', h9', h9, optD]
    · have z1' : ¬ (1 : Int) ≤ (figs x).length := by omega
      rw [nk]
      simp [e1, e2, e3, h1, len_str _ fl, z1', z1, optD]
  · have e6 := ef2 h1
    rw [← e6] at e4 e5 fl rd nk
    by_cases z1 : 1 ≤ x.length
    · have z1' : (1 : Int) ≤ x.length := by omega
      by_cases h9 : x.length ≤ 7
      · have h9' : (x.length : Int) ≤ 7 := by omega
        by_cases hd : digs x = true
        · obtain ⟨n, r1, r2, r3⟩ := rd z1 (by omega) hd
          have eb : opEq (.str (Str.ofString n.repr)) (.str x) = some (.bl (Str.ofString n.repr == x)) := eq_str' (ok_of _) hx
          rw [nk]
          simp [e1, e2, e3, h1, e4, e5, len_str _ fl, z1', h9', gint_str r1 r3, gstr_int r2, eb, z1, h9, hd, r1]
          by_cases hq : Str.ofString n.repr = x
          · simp [hq, gint_str r1 r3, optD]
          · simp [hq, optD]
        · rw [nk]
          simp [e1, e2, e3, h1, e4, e5, len_str _ fl, z1', h9', hd, optD]
      · have h9' : ¬ (x.length : Int) ≤ 7 := by omega
        rw [nk]
        simp [e1, e2, e3, h1, e4, e5, len_str _ fl, z1', h9', h9, optD]
    · have z1' : ¬ (1 : Int) ≤ x.length := by omega
      rw [nk]
      simp [e1, e2, e3, h1, len_str _ fl, z1', z1, optD]
end
end K10

namespace K10
open PySem PySem.Spec PyProof.Rows L2 DL
section
variable {P : Program} {w : World} {K : PySem.W.Frag} {mg : Str → Option Value} {base : Heap}
/-! ## texts: a book -/
structure Xl (K : PySem.W.Frag) (mg : Str → Option Value) : Type where
  C_InvalidText : Addr
  X_InvalidText : ExC K mg "InvalidText" C_InvalidText
theorem spl_in (S : List Nat) : ∀ (l : List Nat) (k : Nat) (acc : List Nat), TL.spl S k acc l ≠ [] ∧ ∀ q ∈ TL.spl S k acc l, q.length ≤ acc.length + l.length ∧ ∀ c ∈ q, c ∈ acc ∨ c ∈ l
  | [], k, acc => by
    rw [TL.spl_nil]
    exact ⟨by simp, fun q hq => by simp at hq; subst hq; exact ⟨by simp, fun c hc => .inl hc⟩⟩
  | c :: r, 0, acc => by
    cases h : TL.pre S (c :: r) with
    | true =>
      rw [TL.spl_hit h]
      obtain ⟨_, ih⟩ := spl_in S r (S.length - 1) []
      refine ⟨by simp, fun q hq => ?_⟩
      rcases List.mem_cons.mp hq with e | hq
      · subst e; exact ⟨by omega, fun c hc => .inl hc⟩
      · obtain ⟨h1, h2⟩ := ih q hq
        refine ⟨by simp at h1 ⊢; omega, fun d hd => ?_⟩
        rcases h2 d hd with z | z
        · simp at z
        · exact .inr (List.mem_cons_of_mem _ z)
    | false =>
      rw [TL.spl_miss h]
      obtain ⟨h0, ih⟩ := spl_in S r 0 (acc ++ [c])
      refine ⟨h0, fun q hq => ?_⟩
      obtain ⟨h1, h2⟩ := ih q hq
      refine ⟨by simp at h1 ⊢; omega, fun d hd => ?_⟩
      rcases h2 d hd with z | z
      · rcases List.mem_append.mp z with z | z
        · exact .inl z
        · simp at z; subst z; exact .inr List.mem_cons_self
      · exact .inr (List.mem_cons_of_mem _ z)
  | c :: r, k + 1, acc => by
    have e : TL.spl S (k + 1) acc (c :: r) = TL.spl S k acc r := by
      rw [TL.spl_pass, List.drop_succ_cons, ← TL.spl_pass]
    rw [e]
    obtain ⟨h0, ih⟩ := spl_in S r k acc
    refine ⟨h0, fun q hq => ?_⟩
    obtain ⟨h1, h2⟩ := ih q hq
    exact ⟨by simp at h1 ⊢; omega, fun d hd => (h2 d hd).imp id (List.mem_cons_of_mem _)⟩
/-- the parts of a text -/
structure Parts (x : Str) (ps : List Str) : Prop where
  ne : ps ≠ []
  len : ps.length ≤ x.length + 2
  each : ∀ p ∈ ps, PyData.strOk p = true ∧ p.length ≤ x.length
theorem split_parts {x y : Str} (hx : PyData.strOk x = true) (hy : TL.tl y ≠ []) (hk : y.cps.all (· < 256) = true) : Parts x (Txt.split x y) := by
  have e := TL.split_spl x y hy (TL.kind_ok hk)
  obtain ⟨h0, h1⟩ := spl_in (TL.tl y) (TL.tl x) 0 []
  refine ⟨fun z => h0 (by rw [← e, z]; rfl), PyProof.Rows.split_le x y, fun p hp => ?_⟩
  have hm : TL.tl p ∈ TL.spl (TL.tl y) 0 [] (TL.tl x) := by rw [← e]; exact List.mem_map_of_mem hp
  obtain ⟨h2, h3⟩ := h1 _ hm
  constructor
  · unfold PyData.strOk at hx ⊢
    rw [← Array.all_toList, List.all_eq_true] at hx ⊢
    intro c hc
    rcases h3 c hc with z | z
    · simp at z
    · exact hx c z
  · rw [str_len, str_len]
    simpa [TL.tl] using h2
def rowsOf (x : Str) : List (List Str) := (Txt.split x "\n").map fun l => Txt.split l " "
def entryK (k : Nat) (ws : List Str) : D := match ws with
  | [] => .non
  | w :: r => .tup (.str w :: r.map fun v => optD (numK k v))
def bookP (x : Str) : Option D := match rowsOf x with
  | (w :: r) :: rest => if (w == ("runs" : Str)) = true ∧ fitsB (.tup ((r.map fun v => optD (numK 9 v)) ++ [.tup (rest.map (entryK 9))])) = true then some (.tup ((r.map fun v => optD (numK 9 v)) ++ [.tup (rest.map (entryK 9))])) else none
  | _ => none
theorem optD_okd {n : Nat} (o : Option Int) : okd n (optD o) = true := by cases o <;> cases n <;> simp [optD, okd]
theorem entry_okd {k : Nat} {ws : List Str} (h : ∀ v ∈ ws, PyData.strOk v = true) : okd 2 (entryK k ws) = true := by
  cases ws with
  | nil => simp [entryK, okd]
  | cons v q =>
    simp only [entryK, okd, List.all_cons, List.all_map, Bool.and_eq_true]
    exact ⟨h v List.mem_cons_self, List.all_eq_true.mpr fun u _ => optD_okd _⟩
theorem nl_list : TL.tl ("\n" : Str) ≠ [] := by decide +kernel
theorem sp_list : TL.tl (" " : Str) ≠ [] := by decide +kernel
theorem nl_kind : ("\n" : Str).cps.all (· < 256) = true := by decide +kernel
theorem sp_kind : (" " : Str).cps.all (· < 256) = true := by decide +kernel
theorem row_parts {x : Str} (hx : PyData.strOk x = true) : ∀ ws ∈ rowsOf x, ∃ l : Str, ws = Txt.split l " " ∧ l.length ≤ x.length ∧ Parts l ws := fun ws hw => by
  obtain ⟨l, hl, rfl⟩ := List.mem_map.mp hw
  obtain ⟨h1, h2⟩ := (split_parts hx nl_list nl_kind).each l hl
  exact ⟨l, rfl, h2, split_parts h1 sp_list sp_kind⟩
def frP : Option D → FR
  | some d => .ok d none
  | none => .exc "InvalidText" none none
structure P_book (m : FM) : Prop where
  txt : ∀ x : Str, PyData.strOk x = true → x.length ≤ 100000 → m [.str x] none = frP (bookP x)
  odd : ∀ d : D, plain d = true → (∀ x, d ≠ .str x) → m [d] none = .exc "InvalidText" none none
theorem ok_book_in (B : Bl mg) (XB : Xl K mg) (h_integer_in : ∃ m, Has P w K mg base 1 "integer_in" p_integer_in m ∧ P_num 9 m) (h_fits : Has P w K mg base 3 "fits" p_fits m_fits) (Th : There K mg "book_in" s_book_in p_book_in) : ∃ m, Has P w K mg base 4 "book_in" p_book_in m ∧ P_book m := by
  obtain ⟨m1, h_integer_in, pn⟩ := h_integer_in
  refine ⟨_, has_any Th sc_book_in fun f cdv A outer s H E hr tk hp => (dss_cons (ds_if (dt_not (dt_val (de_isi "str" B.isinstance B.str PyProof.Rows.boot_str (de_v 0)))) (dss_one (ds_raise XB.X_InvalidText tk)) dss_nil)
    (dss_cons (ds_setlc [2] 1 rfl sc_book_in.nd (di_seq (de_m1 F.slot_str_split F.type_str_split md_split (de_v 0) de_str)) (blkOk_by (own := [("line", 2)]) (N := n_book_in) (sc := defScope s_book_in) (by decide +kernel)) (fun _ _ _ _ _ => (dgw_v 2 sc_book_in.nd)) (fun _ _ _ _ _ => dts_nil) (fun _ _ _ _ _ => (de_m1 F.slot_str_split F.type_str_split md_split (de_v 2) de_str)) (sw_true rfl rfl rfl (by decide +kernel)))
    (dss_cons (ds_setlc [5] 3 rfl sc_book_in.nd (di_seq (de_v 1)) (blkOk_by (own := [("words", 5)]) (N := n_book_in) (sc := defScope s_book_in) (by decide +kernel)) (fun _ _ _ _ _ => (dgw_v 5 sc_book_in.nd)) (fun _ _ _ _ _ => dts_nil) (fun _ _ _ _ _ => (de_op od_add (de_tup (da_cons (de_ix (de_v 5) de_int) da_nil)) (de_callT cd_tup B.tuple PyProof.Rows.boot_tuple (da_cons (de_lc [4] rfl sc_book_in.nd (di_seq (de_sl (de_v 5) (do_some de_int) do_none)) (blkOk_by (own := [("word", 4)]) (N := n_book_in) (by with_unfolding_all rfl)) (fun _ _ _ _ _ => (dgw_v 4 sc_book_in.nd)) (fun _ _ _ _ _ => dts_nil) (fun _ _ _ _ _ => (dc h_integer_in wf_takes (hr.mono (by decide)) (da_cons (de_v 4) da_nil)))) da_nil)))) (sw_true rfl rfl rfl (by decide +kernel)))
    (dss_cons (ds_set 6 sc_book_in.nd (de_op od_add (de_sl (de_ix (de_v 3) de_int) (do_some de_int) do_none) (de_tup (da_cons (de_callT cd_tup B.tuple PyProof.Rows.boot_tuple (da_cons (de_sl (de_v 3) (do_some de_int) do_none) da_nil)) da_nil))))
    (dss_cons (ds_if (dt_w (dw_or (dt_cmp (od_ne hr) (de_ix (de_ix (de_v 3) de_int) de_int) de_str (nomark _)) (dw_or1 (dt_not (dt_val (dc h_fits tk (hr.mono (by decide)) (da_cons (de_v 6) da_nil))))))) (dss_one (ds_raise XB.X_InvalidText tk)) dss_nil)
    (dss_one (ds_ret (de_v 6)))))))), ?_⟩
  constructor
  rotate_left
  · intro d hp hd
    cases d with
    | str x => exact absurd rfl (hd x)
    | ref _ => simp [plain] at hp
    | scr _ => simp [plain] at hp
    | _ => simp
  intro x hx hl
  have zl : x.length + 2 ≤ sizeLine := Nat.le_trans (show x.length + 2 ≤ 100002 by omega) (by decide +kernel)
  have e1 : gSplit x (.str "\n") = some (.lst ((Txt.split x "\n").map .str)) := if_pos ⟨by decide +kernel, zl⟩
  simp [e1]
  generalize hc : compL _ _ _ _ _ _ _ = r
  have key : r = .ok ((rowsOf x).map fun ws => .lst (ws.map .str)) ⟨[some (Sl.val (D.str x)), none, none, none, none, none, none], none⟩ := by
    rw [← hc]
    clear hc
    refine (compL_mapf (mk := D.str) (h := fun l => .lst ((Txt.split l " ").map .str)) _ _ [] ?_).trans ?_
    · intro l hl
      obtain ⟨_, h2⟩ := (split_parts hx nl_list nl_kind).each l hl
      have e2 : gSplit l (.str " ") = some (.lst ((Txt.split l " ").map .str)) := if_pos ⟨by decide +kernel, by omega⟩
      refine ⟨_, rfl, rfl, ?_, rfl⟩
      simp [e2]
    · rw [List.nil_append]
      unfold rowsOf
      rw [List.map_map]
      rfl
  clear hc
  subst key
  have rp := row_parts hx
  have rl : (rowsOf x).length ≤ 100002 := by
    unfold rowsOf
    rw [List.length_map]
    have := (split_parts hx nl_list nl_kind).len
    omega
  have rn : rowsOf x ≠ [] := fun z => (split_parts hx nl_list nl_kind).ne (by unfold rowsOf at z; simpa using z)
  simp
  generalize hc : compL _ _ _ _ _ _ _ = r
  have key : r = .ok ((rowsOf x).map (entryK 9)) ⟨[some (Sl.val (D.str x)), some (Sl.val (.lst ((rowsOf x).map fun ws => .lst (ws.map .str)))), none, none, none, none, none], none⟩ := by
    rw [← hc]
    clear hc
    refine (compL_mapf (mk := fun ws : List Str => D.lst (ws.map .str)) (h := entryK 9) _ _ [] ?_).trans (by rw [List.nil_append])
    intro ws hw
    obtain ⟨l, _, hll, hp⟩ := rp ws hw
    have hlen := hp.len
    have each := hp.each
    cases ws with
    | nil => exact absurd rfl hp.ne
    | cons v q =>
      refine ⟨_, rfl, rfl, ?_, rfl⟩
      simp at hlen
      simp
      rw [compL_mapf (mk := D.str) (h := fun v => optD (numK 9 v))]
      · have ea : opAdd (.tup [.str v]) (.tup (q.map fun v => optD (numK 9 v))) = some (.tup (.str v :: q.map fun v => optD (numK 9 v))) := add_tup (by simp; omega)
        simp [ea, entryK]
      · intro u hu
        obtain ⟨y1, y2⟩ := each u (List.mem_cons_of_mem _ hu)
        refine ⟨_, rfl, rfl, ?_, rfl⟩
        simp [callP, pn u y1 (by omega)]
  clear hc
  subst key
  have ok2 : ∀ ws ∈ rowsOf x, okd 2 (entryK 9 ws) = true := fun ws hw => by
    obtain ⟨l, _, hll, hp⟩ := rp ws hw
    exact entry_okd fun v hv => (hp.each v hv).1
  unfold bookP
  cases hr0 : rowsOf x with
  | nil => exact absurd hr0 rn
  | cons ws rest =>
    have hw0 : ws ∈ rowsOf x := by rw [hr0]; exact List.mem_cons_self
    obtain ⟨l, _, hll, hp⟩ := rp ws hw0
    have hlen := hp.len
    have each := hp.each
    rw [hr0] at rl ok2
    cases ws with
    | nil => exact absurd rfl hp.ne
    | cons v q =>
      simp at hlen rl
      have ea : opAdd (.tup (q.map fun v => optD (numK 9 v))) (.tup [.tup (rest.map (entryK 9))]) = some (.tup ((q.map fun v => optD (numK 9 v)) ++ [.tup (rest.map (entryK 9))])) := add_tup (by simp; omega)
      have en : opNe (.str v) (.str "runs") = some (.bl (!(v == ("runs" : Str)))) := ne_str' (each v List.mem_cons_self).1 (by decide +kernel)
      have ob : okd 58 (.tup ((q.map fun v => optD (numK 9 v)) ++ [.tup (rest.map (entryK 9))])) = true := okd_le (n := 4) (by decide) (by
        simp only [okd, List.all_append, List.all_map, List.all_cons, List.all_nil, Bool.and_true, Bool.and_eq_true]
        refine ⟨List.all_eq_true.mpr fun u _ => optD_okd _, ?_⟩
        exact List.all_eq_true.mpr fun z hz => ok2 z (List.mem_cons_of_mem _ hz))
      have e0 : entryK 9 (v :: q) = .tup (.str v :: q.map fun v => optD (numK 9 v)) := rfl
      by_cases hv : v = "runs"
      · have hv' : (v == ("runs" : Str)) = true := by simpa using hv
        by_cases hf : fitsB (.tup ((q.map fun v => optD (numK 9 v)) ++ [.tup (rest.map (entryK 9))])) = true
        · simp [e0, ea, en, hv', cp_fits ob, hf, frP]
        · simp [e0, ea, en, hv', cp_fits ob, hf, frP]
      · have hv' : (v == ("runs" : Str)) = false := by simpa using hv
        simp [e0, ea, en, hv', frP]
theorem frP_callP {m : FM} {x : Str} {s : S} (h : P_book m) (h1 : PyData.strOk x = true) (h2 : x.length ≤ 100000) : callP m 1 [.str x] s = match bookP x with
    | some d => .ok d s
    | none => .exc "InvalidText" none s := by
  simp [callP, h.txt x h1 h2]
  cases bookP x <;> simp [frP]
theorem ok_read_book (B : Bl mg) (h_book_in : ∃ m, Has P w K mg base 4 "book_in" p_book_in m ∧ P_book m) (Th : There K mg "read_book" s_read_book p_read_book) : ∃ m, Has P w K mg base 5 "read_book" p_read_book m ∧ P_book m := by
  obtain ⟨m1, h_book_in, pb⟩ := h_book_in
  refine ⟨_, has_any Th sc_read_book fun f cdv A outer s H E hr tk hp => (dss_one (ds_ret (dc h_book_in tk (hr.mono (by decide)) (da_cons (de_v 0) da_nil)))), ?_, ?_⟩
  · intro x hx hl
    simp [frP_callP pb hx hl]
    cases bookP x <;> simp [frP]
  · intro d hp hd
    simp [callP, pb.odd d hp hd]
end
end K10

namespace K10
open PySem PySem.Spec PyProof.Rows L2 DL
section
variable {P : Program} {w : World} {K : PySem.W.Frag} {mg : Str → Option Value} {base : Heap}
/-! ## seven figures and nine -/
theorem nat_list (n : Nat) : (Str.ofString (toString ((n : Nat) : Int))).cps.toList = TL.numL n := TL.tl_num n
theorem neg_list (m : Nat) : (Str.ofString (toString (Int.negSucc m))).cps.toList = 45 :: TL.numL (m + 1) := by
  have h := nat_list (m + 1)
  rw [PyProof.Rows.signs_ofString] at h ⊢
  have e : toString (Int.negSucc m) = "-" ++ toString (((m + 1 : Nat)) : Int) := rfl
  rw [e, String.toList_append, List.map_append, h]
  rfl
theorem num_small {x : Str} {n : Int} (h : numK 9 x = some n) (h1 : -1000000 ≤ n) (h2 : n ≤ 1000000) : numK 7 x = some n := by
  unfold numK at h ⊢
  split at h
  · rename_i hc
    split at h
    · rename_i k hk
      split at h
      · rename_i hq
        cases h
        have ex : Str.ofString (toString n) = x := by simpa using hq
        have hlen : (figs x).length ≤ 7 := by
          cases n with
          | ofNat m =>
            have e : x.cps.toList = TL.numL m := by rw [← ex]; exact nat_list m
            have hl : (TL.numL m).length ≤ 7 := TL.numL_len (by decide) (by have : (m : Int) ≤ 1000000 := h2; omega)
            unfold figs
            split
            · exact Nat.le_trans (cutS_length _ _ _) (by rw [str_len, e]; exact hl)
            · rw [str_len, e]; exact hl
          | negSucc m =>
            have e : x.cps.toList = 45 :: TL.numL (m + 1) := by rw [← ex]; exact neg_list m
            have hl : (TL.numL (m + 1)).length ≤ 7 := TL.numL_len (by decide) (by have : -1000000 ≤ Int.negSucc m := h1; omega)
            have hm : (cutS x none (some 1) == ("-" : Str)) = true := (minus_iff x).mpr ⟨_, e⟩
            unfold figs
            rw [if_pos hm, str_len, cutS_list, e]
            have := cut_from (45 :: TL.numL (m + 1)) 1
            rw [show ((1 : Nat) : Int) = 1 from rfl] at this
            rw [this]
            exact hl
        rw [if_pos ⟨hc.1, hlen, hc.2.2⟩]
        exact if_pos hq
      · cases h
    · cases h
  · cases h
theorem num_more {x : Str} {n : Int} (h : numK 7 x = some n) : numK 9 x = some n := by
  unfold numK at h ⊢
  split at h
  · rename_i hc
    rw [if_pos ⟨hc.1, by omega, hc.2.2⟩]
    exact h
  · cases h
/-- a row that the reading here takes -/
def goodR (ws : List Str) : Prop := ∃ v q, ws = v :: q ∧ (v = "runs" ∨ v = "span" ∨ v = "gap" ∨ v = "best") ∧ ∀ u ∈ q, ∃ n, numK 7 u = some n
theorem isI_num {u : Str} {lo hi : Int} (h : isI (optD (numK 9 u)) lo hi = true) (h1 : -1000000 ≤ lo) (h2 : hi ≤ 1000000) : ∃ n, numK 7 u = some n := by
  obtain ⟨i, e, y1, y2⟩ := isI_int h
  cases k : numK 9 u with
  | none => rw [k] at e; cases e
  | some n =>
    rw [k] at e
    cases e
    exact ⟨_, num_small k (by omega) (by omega)⟩
theorem tells_range {r p : Int} {k : Str} {xs : List D} (hr : r ≤ 3) (hp : p ≤ 4) (h : tellsB r p (.tup (.str k :: xs)) = true) : (xs.all fun d => isI d (-1000000) 1000000) = true := by
  unfold tellsB at h
  split at h
  · rename_i z
    injection z with z
    injection z with z1 z2
    subst z2
    simp only [Bool.and_eq_true] at h
    obtain ⟨_, h1, h2, h3⟩ := h
    obtain ⟨y, rfl, y1, y2⟩ := isI_int h1
    obtain ⟨z, rfl, z1, z2⟩ := isI_int (show isI _ (y + 1) p = true from h2)
    obtain ⟨x, rfl, x1, x2⟩ := isI_int h3
    simp [isI]
    omega
  · rename_i z
    injection z with z
    injection z with z1 z2
    subst z2
    simp only [Bool.and_eq_true] at h
    obtain ⟨_, h1, h2⟩ := h
    obtain ⟨y, rfl, y1, y2⟩ := isI_int h1
    split at h2
    · simp only [Bool.and_eq_true] at h2
      obtain ⟨h3, h4, h5, h6⟩ := h2
      obtain ⟨z, rfl, z1, z2⟩ := isI_int h3
      obtain ⟨x, rfl, x1, x2⟩ := isI_int (show isI _ (z + 1) p = true from h4)
      obtain ⟨u, rfl, u1, u2⟩ := isI_int h5
      obtain ⟨v, rfl, v1, v2⟩ := isI_int (show isI _ u 1000000 = true from h6)
      simp [isI]
      omega
    · simp only [Bool.and_eq_true] at h2
      obtain ⟨_, h3, _, h4, h5, h6⟩ := h2
      obtain ⟨z, rfl, z1, z2⟩ := isI_int h3
      obtain ⟨x, rfl, x1, x2⟩ := isI_int h4
      obtain ⟨u, rfl, u1, u2⟩ := isI_int h5
      obtain ⟨v, rfl, v1, v2⟩ := isI_int (show isI _ u 1000000 = true from h6)
      simp [isI]
      omega
  · cases h
theorem tells_word {r p : Int} {k : Str} {xs : List D} (h : tellsB r p (.tup (.str k :: xs)) = true) : k = "runs" ∨ k = "span" ∨ k = "gap" ∨ k = "best" := by
  unfold tellsB at h
  split at h
  · rename_i heq
    simp at heq h
    obtain ⟨rfl, _⟩ := heq
    exact .inr (.inr (.inr h.1))
  · rename_i heq
    simp at heq h
    obtain ⟨rfl, _⟩ := heq
    obtain ⟨_, _, h2⟩ := h
    split at h2
    · rename_i z; exact .inr (.inl z)
    · exact .inr (.inr (.inl h2.1))
  · cases h
theorem good_row {ws : List Str} {runs pieces : Int} (hr : runs ≤ 3) (hp : pieces ≤ 4) (h : tellsB runs pieces (entryK 9 ws) = true) : goodR ws := by
  cases ws with
  | nil => simp [entryK, tellsB] at h
  | cons v q =>
    have e : entryK 9 (v :: q) = .tup (.str v :: q.map fun v => optD (numK 9 v)) := rfl
    rw [e] at h
    have h2 := tells_range hr hp h
    rw [List.all_map, List.all_eq_true] at h2
    exact ⟨v, q, rfl, tells_word h, fun u hu => isI_num (h2 u hu) (by decide) (by decide)⟩
theorem entry_good {ws : List Str} (h : goodR ws) : entryK 7 ws = entryK 9 ws := by
  obtain ⟨v, q, rfl, _, hq⟩ := h
  have e : (q.map fun v => optD (numK 7 v)) = q.map fun v => optD (numK 9 v) := List.map_congr_left fun u hu => by
    obtain ⟨n, hn⟩ := hq u hu
    rw [hn, num_more hn]
  show D.tup (.str v :: q.map fun v => optD (numK 7 v)) = D.tup (.str v :: q.map fun v => optD (numK 9 v))
  rw [e]
/-- a book's rows are good -/
theorem book_good {x : Str} {d : D} (h : bookP x = some d) : ∀ ws ∈ rowsOf x, goodR ws := by
  unfold bookP at h
  split at h
  · rename_i w r rest hr
    split at h
    · rename_i hc
      rw [hr]
      obtain ⟨hw, hf⟩ := hc
      have hw' : w = "runs" := by simpa using hw
      unfold fitsB at hf
      split at hf
      · rename_i a b ts heq
        have hl := congrArg (fun z : D => match z with | .tup l => l.length | _ => 0) heq
        simp at hl
        match r, hl with
        | [u1, u2], _ =>
          simp at heq
          obtain ⟨rfl, rfl, rfl⟩ := heq
          simp only [Bool.and_eq_true] at hf
          obtain ⟨h1, h2, _, h4⟩ := hf
          obtain ⟨n1, k1⟩ := isI_num h1 (by decide) (by decide)
          obtain ⟨n2, k2⟩ := isI_num h2 (by decide) (by decide)
          have b1 := isI_int h1
          have b2 := isI_int h2
          rw [num_more k1] at h4 b1
          rw [num_more k2] at h4 b2
          obtain ⟨_, e1, _, y1⟩ := b1
          obtain ⟨_, e2, _, y2⟩ := b2
          cases e1
          cases e2
          simp only [optD, Bool.and_eq_true, List.all_map, List.all_eq_true] at h4
          intro ws hws
          rcases List.mem_cons.mp hws with e | hws
          · subst e
            exact ⟨w, [u1, u2], rfl, .inl hw', fun u hu => by simp at hu; rcases hu with rfl | rfl; exact ⟨_, k1⟩; exact ⟨_, k2⟩⟩
          · exact good_row y1 y2 (h4.1 ws hws)
      · cases hf
    · cases h
  · cases h
end
end K10

namespace K10
open PySem PySem.Spec PyProof.Rows L2 DL
section
variable {P : Program} {w : World} {K : PySem.W.Frag} {mg : Str → Option Value} {base : Heap}
def okD : Option D → D
  | some d => d
  | none => .non
def P_read (m : FM) : Prop := ∀ x : Str, PyData.strOk x = true → x.length ≤ 100000 → m [.str x] none = .ok (okD (bookP x)) none
theorem forL_out {α : Type} {g : D → S → Option S} {body : S → T} {e : D} {v : Option (List D)} (st : α → S) : ∀ (n : Nat) (J : Nat → α → Prop) (ds : List D) (a0 : α) (d : D), ds[n]? = some d → J 0 a0 →
    (∀ i d a, i < n → ds[i]? = some d → J i a → ∃ s1, g d (st a) = some s1 ∧ ∃ a', body s1 = .next (st a') ∧ J (i + 1) a') →
    (∀ a, J n a → ∃ s1, g d (st a) = some s1 ∧ ∃ s2, body s1 = .ret e s2 ∧ s2.via = v) → ∃ s2, forL g body ds (st a0) = .ret e s2 ∧ s2.via = v
  | 0, J, [], a0, d, hd, _, _, _ => by simp at hd
  | 0, J, c :: ds, a0, d, hd, h0, _, out => by
    obtain rfl : c = d := by simpa using hd
    obtain ⟨s1, e1, s2, e2, e3⟩ := out a0 h0
    refine ⟨s2, ?_, e3⟩
    unfold forL
    rw [e1]
    dsimp only
    rw [e2]
  | n + 1, J, [], a0, d, hd, _, _, _ => by simp at hd
  | n + 1, J, c :: ds, a0, d, hd, h0, step, out => by
    obtain ⟨s1, e1, a', e2, h1⟩ := step 0 c a0 (by omega) rfl h0
    obtain ⟨s2, e3, e4⟩ := forL_out st n (fun i a => J (i + 1) a) ds a' d (by simpa using hd) h1 (fun i d a hi hd hj => step (i + 1) d a (by omega) (by simpa using hd) hj) out
    refine ⟨s2, ?_, e4⟩
    unfold forL
    rw [e1]
    dsimp only
    rw [e2]
    exact e3
def kindsD : D := .lst [.str "runs", .str "span", .str "gap", .str "best"]
def kindB (v : Str) : Bool := ("runs" : Str) == v || (("span" : Str) == v || (("gap" : Str) == v || ("best" : Str) == v))
theorem kind_in {v : Str} (h : PyData.strOk v = true) : opNotIn (.str v) (.lst [.str "runs", .str "span", .str "gap", .str "best"]) = some (.bl (!kindB v)) := by
  have h1 : okd 59 (.str v) = true := by simpa [okd] using h
  have h2 : ([.str "runs", .str "span", .str "gap", .str "best"] : List D).all (okd 59) = true := by decide +kernel
  show (if (okd 59 (D.str v) && ([.str "runs", .str "span", .str "gap", .str "best"] : List D).all (okd 59)) = true then _ else _) = _
  rw [h1, h2]
  simp [dmem, deq, kindB]
theorem none_in (q : List Str) : opIn .non (.lst (q.map fun u => optD (numK 7 u))) = some (.bl (!q.all fun u => (numK 7 u).isSome)) := by
  have h2 : (q.map fun u => optD (numK 7 u)).all (okd 59) = true := by
    rw [List.all_map, List.all_eq_true]
    exact fun u _ => optD_okd _
  show (if (okd 59 D.non && (q.map fun u => optD (numK 7 u)).all (okd 59)) = true then _ else _) = _
  rw [h2, if_pos (by simp [okd])]
  congr 2
  unfold dmem
  induction q with
  | nil => rfl
  | cons u q ih =>
    rw [List.map_cons, List.any_cons, List.all_cons, ih (by rw [List.all_map, List.all_eq_true]; exact fun u _ => optD_okd _)]
    cases numK 7 u <;> simp [optD, deq]
def goodB (ws : List Str) : Bool := match ws with
  | [] => false
  | v :: q => kindB v && q.all fun u => (numK 7 u).isSome
theorem good_iff (ws : List Str) : goodR ws ↔ goodB ws = true := by
  constructor
  · rintro ⟨v, q, rfl, hv, hq⟩
    unfold goodB
    rw [Bool.and_eq_true, List.all_eq_true]
    refine ⟨?_, fun u hu => ?_⟩
    · rcases hv with h | h | h | h <;> subst h <;> decide +kernel
    · obtain ⟨n, hn⟩ := hq u hu
      rw [hn]; rfl
  · intro h
    cases ws with
    | nil => cases h
    | cons v q =>
      unfold goodB at h
      rw [Bool.and_eq_true, List.all_eq_true] at h
      refine ⟨v, q, rfl, ?_, fun u hu => Option.isSome_iff_exists.mp (h.2 u hu)⟩
      have := h.1
      simp [kindB] at this
      rcases this with h | h | h | h
      · exact .inl h.symm
      · exact .inr (.inl h.symm)
      · exact .inr (.inr (.inl h.symm))
      · exact .inr (.inr (.inr h.symm))
theorem first_bad : ∀ l : List (List Str), (¬ ∀ ws ∈ l, goodR ws) → ∃ (n : Nat) (ws : List Str), l[n]? = some ws ∧ ¬ goodR ws ∧ ∀ i : Nat, i < n → ∀ w, l[i]? = some w → goodR w
  | [], h => absurd (fun ws hw => by cases hw) h
  | w :: l, h => by
    by_cases hw : goodR w
    · obtain ⟨n, ws, h1, h2, h3⟩ := first_bad l fun z => h fun ws hm => by
        rcases List.mem_cons.mp hm with e | hm
        · rw [e]; exact hw
        · exact z ws hm
      refine ⟨n + 1, ws, by simpa using h1, h2, fun i hi u hu => ?_⟩
      cases i with
      | zero => simp at hu; rw [← hu]; exact hw
      | succ i => exact h3 i (by omega) u (by simpa using hu)
    · exact ⟨0, w, rfl, hw, fun i hi => by omega⟩
theorem ok__law_read (B : Bl mg) (h__law_number : ∃ m, Has P w K mg base 1 "_law_number" p__law_number m ∧ P_num 7 m) (h_is_book : Has P w K mg base 4 "is_book" p_is_book m_is_book) (Th : There K mg "_law_read" s__law_read p__law_read) : ∃ m, Has P w K mg base 5 "_law_read" p__law_read m ∧ P_read m := by
  obtain ⟨m1, h__law_number, pn⟩ := h__law_number
  refine ⟨_, has_any Th sc__law_read fun f cdv A outer s H E hr tk hp => (dss_cons (ds_setlc [2] 1 rfl sc__law_read.nd (di_seq (de_m1 F.slot_str_split F.type_str_split md_split (de_v 0) de_str)) (blkOk_by (own := [("_law_line", 2)]) (N := n__law_read) (sc := defScope s__law_read) (by decide +kernel)) (fun _ _ _ _ _ => (dgw_v 2 sc__law_read.nd)) (fun _ _ _ _ _ => dts_nil) (fun _ _ _ _ _ => (de_m1 F.slot_str_split F.type_str_split md_split (de_v 2) de_str)) (sw_true rfl rfl rfl (by decide +kernel)))
    (dss_cons (ds_own 3 sc__law_read.nd da_nil)
    (dss_cons (ds_for hp rfl (di_seq (de_v 1)) (dg_v 4 sc__law_read.nd) (dss_cons (ds_setlc [6] 5 rfl sc__law_read.nd (di_seq (de_sl (de_v 4) (do_some de_int) do_none)) (blkOk_by (own := [("_law_word_here", 6)]) (N := n__law_read) (sc := defScope s__law_read) (by decide +kernel)) (fun _ _ _ _ _ => (dgw_v 6 sc__law_read.nd)) (fun _ _ _ _ _ => dts_nil) (fun _ _ _ _ _ => (dc h__law_number wf_takes (hr.mono (by decide)) (da_cons (de_v 6) da_nil))) (sw_true rfl rfl rfl (by decide +kernel)))
      (dss_cons (ds_if (dt_w (dw_or (dt_cmp (od_notin hr) (de_ix (de_v 4) de_int) (de_lst (da_cons de_str (da_cons de_str (da_cons de_str (da_cons de_str da_nil))))) (by rfl)) (dw_or1 (dt_cmp (od_in hr) de_non (de_v 5) (by rfl))))) (dss_one (ds_ret de_non)) dss_nil)
      (dss_one (ds_append 3 (de_op od_add (de_tup (da_cons (de_ix (de_v 4) de_int) da_nil)) (de_callT cd_tup B.tuple PyProof.Rows.boot_tuple (da_cons (de_v 5) da_nil))))))))
    (dss_cons (ds_if (dt_w (dw_or (dt_cmp (od_ne hr) (de_ix (de_ix (de_v 3) de_int) de_int) de_str (nomark _)) (dw_or1 (dt_cmp (od_ne hr) (de_callB cd_len B.len PySem.boot_len (da_cons (de_ix (de_v 3) de_int) da_nil)) de_int (nomark _))))) (dss_one (ds_ret de_non)) dss_nil)
    (dss_cons (ds_set 7 sc__law_read.nd (de_tup (da_cons (de_ix (de_ix (de_v 3) de_int) de_int) (da_cons (de_ix (de_ix (de_v 3) de_int) de_int) (da_cons (de_callT cd_tup B.tuple PyProof.Rows.boot_tuple (da_cons (de_sl (de_v 3) (do_some de_int) do_none) da_nil)) da_nil)))))
    (dss_one (ds_ret (de_if (dt_val (dc h_is_book tk (hr.mono (by decide)) (da_cons (de_v 7) da_nil))) (de_v 7) de_non)))))))), ?_⟩
  intro x hx hl
  have zl : x.length + 2 ≤ sizeLine := Nat.le_trans (show x.length + 2 ≤ 100002 by omega) (by decide +kernel)
  have e1 : gSplit x (.str "\n") = some (.lst ((Txt.split x "\n").map .str)) := if_pos ⟨by decide +kernel, zl⟩
  simp [e1]
  generalize hc : compL _ _ _ _ _ _ _ = r
  have key : r = .ok ((rowsOf x).map fun ws => .lst (ws.map .str)) ⟨[some (Sl.val (D.str x)), none, none, none, none, none, none, none], none⟩ := by
    rw [← hc]
    clear hc
    refine (compL_mapf (mk := D.str) (h := fun l => .lst ((Txt.split l " ").map .str)) _ _ [] ?_).trans ?_
    · intro l hl
      obtain ⟨_, h2⟩ := (split_parts hx nl_list nl_kind).each l hl
      have e2 : gSplit l (.str " ") = some (.lst ((Txt.split l " ").map .str)) := if_pos ⟨by decide +kernel, by omega⟩
      refine ⟨_, rfl, rfl, ?_, rfl⟩
      simp [e2]
    · rw [List.nil_append]
      unfold rowsOf
      rw [List.map_map]
      rfl
  clear hc
  subst key
  have rp := row_parts hx
  have rl : (rowsOf x).length ≤ 100002 := by
    unfold rowsOf
    rw [List.length_map]
    have := (split_parts hx nl_list nl_kind).len
    omega
  have rn : rowsOf x ≠ [] := fun z => (split_parts hx nl_list nl_kind).ne (by unfold rowsOf at z; simpa using z)
  simp
  generalize hf : forL _ _ _ _ = r
  let st : List D × Option Sl × Option Sl → S := fun a => ⟨[some (Sl.val (D.str x)), some (Sl.val (.lst ((rowsOf x).map fun ws => .lst (ws.map .str)))), none, some (Sl.own a.1), a.2.1, a.2.2, none, none], none⟩
  have getR : ∀ (i : Nat) (d : D), ((rowsOf x).map fun ws => D.lst (ws.map .str))[i]? = some d → ∃ ws, (rowsOf x)[i]? = some ws ∧ d = .lst (ws.map .str) := fun i d h => by
    rw [List.getElem?_map] at h
    obtain ⟨ws, h1, h2⟩ := Option.map_eq_some_iff.mp h
    exact ⟨ws, h1, h2.symm⟩
  by_cases hall : ∀ ws ∈ rowsOf x, goodR ws
  · have key : ∃ a, r = .next (st a) ∧ (a.1 = ((rowsOf x).take ((rowsOf x).map fun ws => D.lst (ws.map .str)).length).map (entryK 9)) := by
      rw [← hf]
      clear hf
      refine forL_st st (fun k a => a.1 = ((rowsOf x).take k).map (entryK 9)) _ ([], none, none) (by simp) ?_
      rintro i d ⟨acc, o4, o5⟩ hd hacc
      obtain ⟨ws, hw, rfl⟩ := getR i d hd
      have hm : ws ∈ rowsOf x := List.mem_of_getElem? hw
      obtain ⟨l, _, hll, hp⟩ := rp ws hm
      have hlen := hp.len
      have each := hp.each
      have hg := hall ws hm
      have eg := entry_good hg
      have hgB := (good_iff ws).mp hg
      dsimp only at hacc
      have hal : acc.length < sizeLine := by
        rw [hacc, List.length_map, List.length_take]
        exact Nat.lt_of_le_of_lt (Nat.min_le_right _ _) (Nat.lt_of_le_of_lt rl (by decide +kernel))
      refine ⟨_, rfl, fun I hI => ?_⟩
      cases ws with
      | nil => cases hgB
      | cons v q =>
        simp at hlen
        simp [st]
        rw [compL_mapf (mk := D.str) (h := fun v => optD (numK 7 v))]
        · have ea : opAdd (.tup [.str v]) (.tup (q.map fun v => optD (numK 7 v))) = some (.tup (.str v :: q.map fun v => optD (numK 7 v))) := add_tup (by simp; omega)
          unfold goodB at hgB
          rw [Bool.and_eq_true] at hgB
          have ni := none_in q
          rw [hgB.2] at ni
          have ki := kind_in (each v List.mem_cons_self).1
          rw [hgB.1] at ki
          simp [ki, ni, ea, isOwn, apnd, hal]
          refine hI (acc ++ [entryK 7 (v :: q)], some _, some _) ?_
          dsimp only
          rw [hacc, List.take_succ, hw, List.map_append, eg]
          rfl
        · intro u hu
          obtain ⟨y1, y2⟩ := each u (List.mem_cons_of_mem _ hu)
          refine ⟨_, rfl, rfl, ?_, rfl⟩
          simp [callP, pn u y1 (by omega)]
    obtain ⟨⟨acc, o4, o5⟩, rfl, hacc⟩ := key
    dsimp only at hacc
    rw [List.length_map, List.take_length] at hacc
    subst hacc
    unfold bookP
    cases hr0 : rowsOf x with
    | nil => exact absurd hr0 rn
    | cons ws rest =>
      have hw0 : ws ∈ rowsOf x := by rw [hr0]; exact List.mem_cons_self
      obtain ⟨l, _, hll, hp⟩ := rp ws hw0
      have each := hp.each
      have ok2 : ∀ ws ∈ rowsOf x, okd 2 (entryK 9 ws) = true := fun ws hw => by
        obtain ⟨l, _, hll, hp⟩ := rp ws hw
        exact entry_okd fun v hv => (hp.each v hv).1
      rw [hr0] at ok2 rl
      cases ws with
      | nil => exact absurd rfl hp.ne
      | cons v q =>
        have en : opNe (.str v) (.str "runs") = some (.bl (!(v == ("runs" : Str)))) := ne_str' (each v List.mem_cons_self).1 (by decide +kernel)
        have e0 : entryK 9 (v :: q) = .tup (.str v :: q.map fun v => optD (numK 9 v)) := rfl
        by_cases hv : v = "runs"
        · have hv' : (v == ("runs" : Str)) = true := by simpa using hv
          match q with
          | [a, b] =>
            have ob : okd 58 (.tup [optD (numK 9 a), optD (numK 9 b), .tup (rest.map (entryK 9))]) = true := okd_le (n := 4) (by decide) (by
              simp only [okd, List.all_cons, List.all_nil, Bool.and_true, Bool.and_eq_true, List.all_map]
              exact ⟨optD_okd _, optD_okd _, List.all_eq_true.mpr fun z hz => ok2 z (List.mem_cons_of_mem _ hz)⟩)
            by_cases hfit : fitsB (.tup [optD (numK 9 a), optD (numK 9 b), .tup (rest.map (entryK 9))]) = true
            · simp [st, hr0, e0, en, hv', cp_is_book ob, hfit, okD]
            · simp [st, hr0, e0, en, hv', cp_is_book ob, hfit, okD]
          | [] => simp [st, hr0, e0, en, hv', fitsB, okD]
          | [a] => simp [st, hr0, e0, en, hv', fitsB, okD]
          | a :: b :: c :: r =>
            have hl3 : ¬ ((r.length : Int) + 1 + 1 + 1 + 1 = 3) := by omega
            simp [st, hr0, e0, en, hv', hl3, fitsB, okD]
        · have hv' : (v == ("runs" : Str)) = false := by simpa using hv
          simp [st, hr0, e0, en, hv', okD]
  · obtain ⟨n, wb, hn, hbad, hbef⟩ := first_bad _ hall
    have hnone : bookP x = none := by
      cases hb : bookP x with
      | none => rfl
      | some d => exact absurd (book_good hb wb (List.mem_of_getElem? hn)) hbad
    have key : ∃ s2, r = .ret .non s2 ∧ s2.via = none := by
      rw [← hf]
      clear hf
      refine forL_out st n (fun k a => a.1.length ≤ k) _ ([], none, none) (.lst (wb.map .str)) (by rw [List.getElem?_map, hn]; rfl) (by simp) ?_ ?_
      · rintro i d ⟨acc, o4, o5⟩ hi hd hacc
        obtain ⟨ws, hw, rfl⟩ := getR i d hd
        have hm : ws ∈ rowsOf x := List.mem_of_getElem? hw
        obtain ⟨l, _, hll, hp⟩ := rp ws hm
        have hlen := hp.len
        have each := hp.each
        have hgB := (good_iff ws).mp (hbef i hi ws hw)
        dsimp only at hacc
        have hil : i < (rowsOf x).length := by
          rcases List.getElem?_eq_some_iff.mp hw with ⟨z, _⟩
          exact z
        have hal : acc.length < sizeLine := Nat.lt_of_le_of_lt (show acc.length ≤ 100002 by omega) (by decide +kernel)
        refine ⟨_, rfl, ?_⟩
        cases ws with
        | nil => cases hgB
        | cons v q =>
          refine ⟨(acc ++ [entryK 7 (v :: q)], some (.val (.lst (.str v :: q.map .str))), some (.val (.lst (q.map fun v => optD (numK 7 v))))), ?_, by simp; omega⟩
          simp at hlen
          simp [st]
          rw [compL_mapf (mk := D.str) (h := fun v => optD (numK 7 v))]
          · have ea : opAdd (.tup [.str v]) (.tup (q.map fun v => optD (numK 7 v))) = some (.tup (.str v :: q.map fun v => optD (numK 7 v))) := add_tup (by simp; omega)
            unfold goodB at hgB
            rw [Bool.and_eq_true] at hgB
            have ni := none_in q
            rw [hgB.2] at ni
            have ki := kind_in (each v List.mem_cons_self).1
            rw [hgB.1] at ki
            simp [ki, ni, ea, isOwn, apnd, hal, entryK]
          · intro u hu
            obtain ⟨y1, y2⟩ := each u (List.mem_cons_of_mem _ hu)
            refine ⟨_, rfl, rfl, ?_, rfl⟩
            simp [callP, pn u y1 (by omega)]
      · rintro ⟨acc, o4, o5⟩ hacc
        obtain ⟨l, _, hll, hp⟩ := rp wb (List.mem_of_getElem? hn)
        have each := hp.each
        refine ⟨_, rfl, ?_⟩
        cases wb with
        | nil => exact absurd rfl hp.ne
        | cons v q =>
          have hgB : goodB (v :: q) = false := by
            cases z : goodB (v :: q) with
            | false => rfl
            | true => exact absurd ((good_iff _).mpr z) hbad
          have hgB : (kindB v && q.all fun u => (numK 7 u).isSome) = false := hgB
          simp [st]
          rw [compL_mapf (mk := D.str) (h := fun v => optD (numK 7 v))]
          · have ni := none_in q
            have ki := kind_in (each v List.mem_cons_self).1
            cases hk : kindB v with
            | false =>
              rw [hk] at ki
              simp [ki]
            | true =>
              rw [hk, Bool.true_and] at hgB
              rw [hgB] at ni
              rw [hk] at ki
              simp [ki, ni]
          · intro u hu
            obtain ⟨y1, y2⟩ := each u (List.mem_cons_of_mem _ hu)
            refine ⟨_, rfl, rfl, ?_, rfl⟩
            simp [callP, pn u y1 (by omega)]
    obtain ⟨s2, rfl, hs⟩ := key
    rw [hnone]
    simp [okD, hs]
end
end K10

namespace K10
open PySem PySem.Spec PyProof.Rows L2 DL
section
variable {P : Program} {w : World} {K : PySem.W.Frag} {mg : Str → Option Value} {base : Heap}
/-! ## the text of a book -/
def itemS : D → Str
  | .int i => Str.ofString (toString i)
  | .str s => s
  | _ => ""
def lineOf (t : List D) : Str := Txt.join " " (t.map itemS)
def headOf (r p : Int) : Str := (("runs " : Str) ++ Str.ofString (toString r)) ++ (" " : Str) ++ Str.ofString (toString p)
def linesD (ts : List D) : List Str := ts.map fun t => match t with
  | .tup l => lineOf l
  | _ => ""
def textOf (r p : Int) (ts : List D) : Str := Txt.join "\n" (headOf r p :: linesD ts)
theorem add_str {i j : Str} (h : i.length + j.length ≤ 16777216) : opAdd (.str i) (.str j) = some (.str (i ++ j)) := if_pos (by rw [sizeLine_eq]; exact h)
theorem len_int {n : Int} (h : n.natAbs < 10 ^ 9) : (Str.ofString (toString n)).length ≤ 10 := by
  cases n with
  | ofNat m =>
    have e := nat_list m
    have hl : (TL.numL m).length ≤ 9 := TL.numL_len (by decide) (by simpa using h)
    rw [str_len]
    show (Str.ofString (toString ((m : Nat) : Int))).cps.toList.length ≤ 10
    rw [e]
    omega
  | negSucc m =>
    have e := neg_list m
    have hl : (TL.numL (m + 1)).length ≤ 9 := TL.numL_len (by decide) (by simpa using h)
    rw [str_len, e, List.length_cons]
    omega
theorem app_len (i j : Str) : (i ++ j).length = i.length + j.length := by
  have := congrArg List.length (TL.tl_append i j)
  rw [List.length_append] at this
  exact this
theorem joinL_len (S : List Nat) : ∀ ps : List (List Nat), (TL.joinL S ps).length ≤ (ps.map List.length).sum + ps.length * S.length
  | [] => by simp [TL.joinL]
  | [p] => by simp [TL.joinL]
  | p :: q :: r => by
    have ih := joinL_len S (q :: r)
    have e : TL.joinL S (p :: q :: r) = p ++ (S ++ TL.joinL S (q :: r)) := rfl
    rw [e]
    simp only [List.length_append, List.map_cons, List.sum_cons, List.length_cons, Nat.add_mul, Nat.one_mul] at ih ⊢
    omega
theorem sum_le {l : List Nat} {b : Nat} (h : ∀ x ∈ l, x ≤ b) : l.sum ≤ l.length * b := by
  induction l with
  | nil => simp
  | cons x l ih =>
    have h1 := h x List.mem_cons_self
    have h2 := ih fun y hy => h y (List.mem_cons_of_mem _ hy)
    rw [List.sum_cons, List.length_cons, Nat.add_mul, Nat.one_mul]
    omega
theorem join_len (y : Str) (ps : List Str) (b : Nat) (h : ∀ p ∈ ps, p.length ≤ b) : (Txt.join y ps).length ≤ ps.length * b + ps.length * y.length ∧ (ps.map (·.length)).sum + ps.length * y.length ≤ ps.length * b + ps.length * y.length := by
  have hs : (ps.map (·.length)).sum ≤ ps.length * b := by
    have := sum_le (l := ps.map (·.length)) (b := b) fun x hx => by
      obtain ⟨p, hp, rfl⟩ := List.mem_map.mp hx
      exact h p hp
    rwa [List.length_map] at this
  refine ⟨?_, by omega⟩
  have e := congrArg List.length (TL.tl_join y ps)
  have hl := joinL_len (TL.tl y) (ps.map TL.tl)
  rw [TL.join_eq]
  have e2 : (Str.join y ps).length = (TL.tl (Str.join y ps)).length := str_len _
  have e3 : ((ps.map TL.tl).map List.length) = ps.map (·.length) := by
    rw [List.map_map]
    exact List.map_congr_left fun p _ => (str_len p).symm
  rw [e3, List.length_map] at hl
  have e4 : (TL.tl y).length = y.length := (str_len y).symm
  rw [e4] at hl
  omega
theorem tells_bd6 {r p : Int} {t : List D} (h : tellsB r p (.tup t) = true) : t.length ≤ 6 := by
  unfold tellsB at h
  split at h
  · rename_i heq; cases heq; simp
  · rename_i heq; cases heq; simp
  · cases h
/-- the items of a telling, written -/
theorem items_ok {r p : Int} {t : List D} (hr : r ≤ 3) (hp : p ≤ 4) (h : tellsB r p (.tup t) = true) : t.length ≤ 6 ∧ ∀ d ∈ t, gStr [d] = some (.str (itemS d)) ∧ (itemS d).length ≤ 10 ∧ PyData.strOk (itemS d) = true := by
  have hb := tells_bd6 h
  obtain ⟨k, xs, rfl, sk, _⟩ := tells_kind h
  have hx := tells_range hr hp h
  rw [List.all_eq_true] at hx
  refine ⟨hb, fun d hd => ?_⟩
  rcases List.mem_cons.mp hd with e | hd
  · subst e
    refine ⟨rfl, ?_, sk⟩
    rcases tells_word h with e | e | e | e <;> subst e <;> decide +kernel
  · obtain ⟨i, rfl, y1, y2⟩ := isI_int (hx d hd)
    have hi : i.natAbs < 10 ^ 9 := by omega
    exact ⟨gstr_int hi, len_int hi, ok_of _⟩
theorem compL_each {vs : List Nat} {g : D → S → Option S} {t : S → R Bool} {f : S → R D} (h : D → D) (s0 : S) (l : List D)
    (q : ∀ x ∈ l, ∃ s1, g x s0 = some s1 ∧ t s1 = .ok true s1 ∧ f s1 = .ok (h x) s1 ∧ s1.wipe vs = s0) : compL vs g t f l [] s0 = .ok (l.map h) s0 := by
  have := compL_mapf (mk := id) (vs := vs) (g := g) (t := t) (f := f) h s0 l [] q
  rw [List.map_id] at this
  simpa using this
theorem gJoin_strs {a : Str} {ys : List Str} (h : (ys.map (·.length)).sum + ys.length * a.length ≤ 16777216) : gJoin a (.lst (ys.map .str)) = some (.str (Txt.join a ys)) := by
  show ((strsOf (ys.map D.str)).bind _) = _
  rw [strsOf_map]
  exact if_pos h
theorem ok_text_of (B : Bl mg) (Th : There K mg "text_of" s_text_of p_text_of) : ∃ m, Has P w K mg base 1 "text_of" p_text_of m ∧
    ∀ (r p : Int) (ts : List D), 1 ≤ r → r ≤ 3 → 1 ≤ p → p ≤ 4 → VolOK r p 8 ts → m [vol r p ts] none = .ok (.str (textOf r p ts)) none := by
  refine ⟨_, has_any Th sc_text_of fun f cdv A outer s H E hr tk hp => (dss_cons (ds_set 1 sc_text_of.nd (de_lst (da_cons (de_op od_add (de_op od_add (de_op od_add de_str (de_callT cd_str B.str PyProof.Rows.boot_str (da_cons (de_ix (de_v 0) de_int) da_nil))) de_str) (de_callT cd_str B.str PyProof.Rows.boot_str (da_cons (de_ix (de_v 0) de_int) da_nil))) da_nil)))
    (dss_one (ds_ret (de_m1 F.slot_str_join F.type_str_join md_join de_str (de_op od_add (de_v 1) (de_lc [3] rfl sc_text_of.nd (di_seq (de_ix (de_v 0) de_int)) (blkOk_by (own := [("telling", 3)]) (N := n_text_of) (sc := defScope s_text_of) (by decide +kernel)) (fun _ _ _ _ _ => (dgw_v 3 sc_text_of.nd)) (fun _ _ _ _ _ => dts_nil) (fun _ _ _ _ _ => (de_m1 F.slot_str_join F.type_str_join md_join de_str (de_lc [2] rfl sc_text_of.nd (di_seq (de_v 3)) (blkOk_by (own := [("item", 2)]) (N := n_text_of) (by with_unfolding_all rfl)) (fun _ _ _ _ _ => (dgw_v 2 sc_text_of.nd)) (fun _ _ _ _ _ => dts_nil) (fun _ _ _ _ _ => (de_callT cd_str B.str PyProof.Rows.boot_str (da_cons (de_v 2) da_nil)))))))))))), ?_⟩
  intro r p ts r1 r3 p1 p4 hv
  have er : gStr [.int r] = some (.str (Str.ofString (toString r))) := gstr_int (by omega)
  have ep : gStr [.int p] = some (.str (Str.ofString (toString p))) := gstr_int (by omega)
  have er' : gStr [.int r] = some (.str (Str.ofString r.repr)) := er
  have ep' : gStr [.int p] = some (.str (Str.ofString p.repr)) := ep
  have lr : (Str.ofString r.repr).length ≤ 10 := len_int (n := r) (by omega)
  have lp : (Str.ofString p.repr).length ≤ 10 := len_int (n := p) (by omega)
  have l1 : ("runs " : Str).length = 5 := by decide +kernel
  have l2 : (" " : Str).length = 1 := by decide +kernel
  have a1 : opAdd (.str "runs ") (.str (Str.ofString r.repr)) = some (.str (("runs " : Str) ++ Str.ofString r.repr)) := add_str (by omega)
  have a2 : opAdd (.str (("runs " : Str) ++ Str.ofString r.repr)) (.str " ") = some (.str (("runs " : Str) ++ Str.ofString r.repr ++ (" " : Str))) := add_str (by rw [app_len]; omega)
  have a3 : opAdd (.str (("runs " : Str) ++ Str.ofString r.repr ++ (" " : Str))) (.str (Str.ofString p.repr)) = some (.str (headOf r p)) := add_str (by rw [app_len, app_len]; omega)
  have hlen := hv.len
  simp [vol, er', ep', a1, a2, a3]
  have eachT : ∀ t ∈ ts, ∃ l, t = .tup l ∧ tellsB r p (.tup l) = true := fun t ht => by
    obtain ⟨k, xs, rfl⟩ := tellsB_best (hv.all t ht)
    exact ⟨_, rfl, hv.all _ ht⟩
  have lineL : ∀ l, tellsB r p (.tup l) = true → (lineOf l).length ≤ 66 ∧ gJoin " " (.lst ((l.map itemS).map .str)) = some (.str (lineOf l)) := fun l hl => by
    obtain ⟨h6, hi⟩ := items_ok r3 p4 hl
    obtain ⟨j1, j2⟩ := join_len " " (l.map itemS) 10 fun q hq => by
      obtain ⟨d, hd, rfl⟩ := List.mem_map.mp hq
      exact (hi d hd).2.1
    rw [List.length_map, l2] at j1 j2
    refine ⟨by unfold lineOf; omega, ?_⟩
    refine gJoin_strs ?_
    rw [l2, List.length_map]
    omega
  generalize hc : compL _ _ _ _ _ _ _ = q
  have key : q = .ok (ts.map fun t => .str (match t with
    | .tup l => lineOf l
    | _ => "")) ⟨[some (Sl.val (D.tup [.int r, .int p, .tup ts])), some (Sl.val (.lst [.str (headOf r p)])), none, none], none⟩ := by
    rw [← hc]
    clear hc
    refine compL_each _ _ ts ?_
    intro t ht
    obtain ⟨l, rfl, hl⟩ := eachT t ht
    obtain ⟨h6, hi⟩ := items_ok r3 p4 hl
    have j := (lineL l hl).2
    rw [List.map_map] at j
    refine ⟨_, rfl, rfl, ?_, rfl⟩
    simp
    rw [compL_each (h := fun d => .str (itemS d))]
    · have j' : gJoin " " (.lst (l.map fun d => .str (itemS d))) = some (.str (lineOf l)) := j
      simp [j']
    · intro d hd
      refine ⟨_, rfl, rfl, ?_, rfl⟩
      simp [(hi d hd).1]
  clear hc
  subst key
  have a4 : opAdd (.lst [.str (headOf r p)]) (.lst (ts.map fun t => .str (match t with
    | .tup l => lineOf l
    | _ => ""))) = some (.lst ((headOf r p :: linesD ts).map .str)) := by
    rw [add_lst (by simp; omega)]
    unfold linesD
    simp
  have hh : (headOf r p).length ≤ 66 := by
    unfold headOf
    rw [app_len, app_len, app_len]
    have lr2 : (Str.ofString (toString r)).length ≤ 10 := lr
    have lp2 : (Str.ofString (toString p)).length ≤ 10 := lp
    omega
  have a5 : gJoin "\n" (.lst ((headOf r p :: linesD ts).map .str)) = some (.str (textOf r p ts)) := by
    have l3 : ("\n" : Str).length = 1 := by decide +kernel
    obtain ⟨j1, j2⟩ := join_len "\n" (headOf r p :: linesD ts) 66 fun q hq => by
      rcases List.mem_cons.mp hq with e | hq
      · rw [e]; exact hh
      · obtain ⟨t, ht, rfl⟩ := List.mem_map.mp hq
        obtain ⟨l, rfl, hl⟩ := eachT t ht
        exact (lineL l hl).1
    refine gJoin_strs ?_
    have : (headOf r p :: linesD ts).length ≤ 9 := by unfold linesD; simp; omega
    rw [l3] at j2 ⊢
    omega
  rw [List.map_cons] at a5
  simp [a4, a5]
theorem ok_book_text (B : Bl mg) (h_text_of : ∃ m, Has P w K mg base 1 "text_of" p_text_of m ∧ ∀ (r p : Int) (ts : List D), 1 ≤ r → r ≤ 3 → 1 ≤ p → p ≤ 4 → VolOK r p 8 ts → m [vol r p ts] none = .ok (.str (textOf r p ts)) none)
    (h_need_book : Has P w K mg base 4 "need_book" p_need_book m_need_book) (Th : There K mg "book_text" s_book_text p_book_text) : ∃ m, Has P w K mg base 5 "book_text" p_book_text m ∧
    ∀ (r p : Int) (ts : List D), 1 ≤ r → r ≤ 3 → 1 ≤ p → p ≤ 4 → VolOK r p 8 ts → okd 58 (vol r p ts) = true → fitsB (vol r p ts) = true → m [vol r p ts] none = .ok (.str (textOf r p ts)) none := by
  obtain ⟨m1, h_text_of, pt⟩ := h_text_of
  refine ⟨_, has_any Th sc_book_text fun f cdv A outer s H E hr tk hp => (dss_cons (ds_expr (dc h_need_book tk (hr.mono (by decide)) (da_cons (de_v 0) da_nil)))
    (dss_one (ds_ret (dc h_text_of tk (hr.mono (by decide)) (da_cons (de_v 0) da_nil))))), ?_⟩
  intro r p ts r1 r3 p1 p4 hv ho hf
  have e1 : ∀ s, callP m1 1 [vol r p ts] s = .ok (.str (textOf r p ts)) s := fun s => by simp [callP, pt r p ts r1 r3 p1 p4 hv]
  have e2 : ∀ s, callP m_need_book 1 [vol r p ts] s = .ok .non s := fun s => cp_need_book ho hf
  simp [e1, e2]
end
end K10

namespace K10
open PySem PySem.Spec PyProof.Rows L2 DL
section
variable {P : Program} {w : World} {K : PySem.W.Frag} {mg : Str → Option Value} {base : Heap}
/-! ## reading back -/
theorem digs_of {x : Str} (h : NumText.AllDigits x.cps.toList) : digs x = true := by
  unfold digs
  rw [digits_list, List.all_eq_true]
  intro c hc
  have := h c hc
  refine decide_eq_true ?_
  simp
  omega
theorem num_back {n : Int} (h : n.natAbs < 10 ^ 9) : numK 9 (Str.ofString (toString n)) = some n := by
  cases n with
  | ofNat m =>
    have e : (Str.ofString (toString (Int.ofNat m))).cps.toList = TL.numL m := nat_list m
    have hd := TL.numL_digits m
    have hne := TL.numL_ne m
    have hl : (TL.numL m).length ≤ 9 := TL.numL_len (by decide) (by simpa using h)
    generalize hx : Str.ofString (toString (Int.ofNat m)) = x at e ⊢
    have hm : ¬ (cutS x none (some 1) == ("-" : Str)) = true := fun z => by
      obtain ⟨cs, hc⟩ := (minus_iff x).mp z
      rw [e] at hc
      rw [hc] at hd
      have := hd.head
      omega
    have ef : figs x = x := if_neg hm
    have hp : 1 ≤ (TL.numL m).length := List.length_pos_iff.mpr hne
    have hi := intText_digits (x := x) (by rw [e]; exact hd) (by rw [e]; exact hne) (by rw [str_len, e]; omega)
    rw [e, TL.numL_val] at hi
    unfold numK
    rw [ef, if_pos ⟨by rw [str_len, e]; exact hp, by rw [str_len, e]; exact hl, digs_of (by rw [e]; exact hd)⟩, hi]
    exact if_pos (by rw [← hx]; simp)
  | negSucc m =>
    have e : (Str.ofString (toString (Int.negSucc m))).cps.toList = 45 :: TL.numL (m + 1) := neg_list m
    have hd := TL.numL_digits (m + 1)
    have hne := TL.numL_ne (m + 1)
    have hl : (TL.numL (m + 1)).length ≤ 9 := TL.numL_len (by decide) (by simpa using h)
    generalize hx : Str.ofString (toString (Int.negSucc m)) = x at e ⊢
    have hm : (cutS x none (some 1) == ("-" : Str)) = true := (minus_iff x).mpr ⟨_, e⟩
    have ef : (figs x).cps.toList = TL.numL (m + 1) := by
      unfold figs
      rw [if_pos hm, cutS_list, e]
      exact cut_from _ 1
    have hp : 1 ≤ (TL.numL (m + 1)).length := List.length_pos_iff.mpr hne
    have hi := intText_neg (x := x) e hd hne (by rw [str_len, e, List.length_cons]; omega)
    rw [TL.numL_val] at hi
    have hi' : intText? x = some (Int.negSucc m) := by rw [hi]; rfl
    unfold numK
    rw [if_pos ⟨by rw [str_len, ef]; exact hp, by rw [str_len, ef]; exact hl, digs_of (by rw [ef]; exact hd)⟩, hi']
    exact if_pos (by rw [← hx]; simp)
theorem num_free {n : Int} {s : Nat} (h : s = 10 ∨ s = 32) : s ∉ TL.tl (Str.ofString (toString n)) := by
  cases n with
  | ofNat m =>
    have e : TL.tl (Str.ofString (toString (Int.ofNat m))) = TL.numL m := nat_list m
    rw [e]
    exact TL.numL_free (by omega)
  | negSucc m =>
    have e : TL.tl (Str.ofString (toString (Int.negSucc m))) = 45 :: TL.numL (m + 1) := neg_list m
    rw [e]
    intro hm
    rcases List.mem_cons.mp hm with z | z
    · omega
    · exact TL.numL_free (by omega) z
theorem join_back {y : Str} {s : Nat} {S : List Nat} (ey : TL.tl y = s :: S) (hk : y.cps.all (· < 256) = true) {parts : List Str} (hne : parts ≠ []) (hp : ∀ p ∈ parts, s ∉ TL.tl p) : Txt.split (Txt.join y parts) y = parts := by
  exact TL.split_join ey hk hne hp
theorem mem_joinL {S : List Nat} {c : Nat} : ∀ {ps : List (List Nat)}, c ∈ TL.joinL S ps → c ∈ S ∨ ∃ p ∈ ps, c ∈ p
  | [], h => by cases h
  | [p], h => .inr ⟨p, by simp, h⟩
  | p :: q :: r, h => by
    have h : c ∈ p ++ (S ++ TL.joinL S (q :: r)) := h
    rcases List.mem_append.mp h with h | h
    · exact .inr ⟨p, by simp, h⟩
    · rcases List.mem_append.mp h with h | h
      · exact .inl h
      · rcases mem_joinL h with z | ⟨z, hz, hc⟩
        · exact .inl z
        · exact .inr ⟨z, List.mem_cons_of_mem _ hz, hc⟩
theorem mem_join {y : Str} {ps : List Str} {c : Nat} (h : c ∈ TL.tl (Txt.join y ps)) : c ∈ TL.tl y ∨ ∃ p ∈ ps, c ∈ TL.tl p := by
  rw [TL.join_eq, TL.tl_join] at h
  rcases mem_joinL h with h | ⟨q, hq, hc⟩
  · exact .inl h
  · obtain ⟨p, hp, rfl⟩ := List.mem_map.mp hq
    exact .inr ⟨p, hp, hc⟩
theorem tl_nl : TL.tl ("\n" : Str) = [10] := by decide +kernel
theorem tl_sp : TL.tl (" " : Str) = [32] := by decide +kernel
theorem tl_runs : TL.tl ("runs" : Str) = [114, 117, 110, 115] := by decide +kernel
theorem tl_runs_ : TL.tl ("runs " : Str) = [114, 117, 110, 115, 32] := by decide +kernel
theorem head_join (r p : Int) : headOf r p = Txt.join " " ["runs", Str.ofString (toString r), Str.ofString (toString p)] := by
  rw [TL.join_eq]
  refine TL.ext_tl ?_
  rw [TL.tl_join]
  unfold headOf
  rw [TL.tl_append, TL.tl_append, TL.tl_append, tl_runs_, tl_sp]
  simp only [List.map_cons, List.map_nil, TL.joinL, tl_runs]
  simp
/-- the items of a telling hold neither a blank nor a line's end -/
theorem item_free {r p : Int} {t : List D} (hr : r ≤ 3) (hp : p ≤ 4) (h : tellsB r p (.tup t) = true) {s : Nat} (hs : s = 10 ∨ s = 32) : ∀ d ∈ t, s ∉ TL.tl (itemS d) := by
  obtain ⟨k, xs, rfl, _, _⟩ := tells_kind h
  have hx := tells_range hr hp h
  rw [List.all_eq_true] at hx
  intro d hd
  rcases List.mem_cons.mp hd with e | hd
  · subst e
    rcases tells_word h with e | e | e | e <;> subst e <;> rcases hs with e | e <;> subst e <;> decide +kernel
  · obtain ⟨i, rfl, _⟩ := isI_int (hx d hd)
    exact num_free hs
theorem entry_back {r p : Int} {t : List D} (hr : r ≤ 3) (hp : p ≤ 4) (h : tellsB r p (.tup t) = true) : entryK 9 (t.map itemS) = .tup t := by
  obtain ⟨k, xs, rfl, _, _⟩ := tells_kind h
  have hx := tells_range hr hp h
  rw [List.all_eq_true] at hx
  show D.tup (.str k :: ((xs.map itemS).map fun v => optD (numK 9 v))) = _
  rw [List.map_map]
  congr 2
  refine (List.map_congr_left fun d hd => ?_).trans (List.map_id xs)
  obtain ⟨i, rfl, y1, y2⟩ := isI_int (hx d hd)
  show optD (numK 9 (Str.ofString (toString i))) = .int i
  rw [num_back (by omega)]
  rfl
theorem vol_fits {r p : Int} {ts : List D} (r1 : 1 ≤ r) (r3 : r ≤ 3) (p1 : 1 ≤ p) (p4 : p ≤ 4) (h : VolOK r p 8 ts) : fitsB (vol r p ts) = true := by
  have hl := h.len
  have : ts.length ≤ 8 := by omega
  have ha : ts.all (tellsB r p) = true := List.all_eq_true.mpr h.all
  have hb := h.few
  simp only [vol, fitsB, isI, Bool.and_eq_true, decide_eq_true_eq]
  exact ⟨⟨r1, r3⟩, ⟨p1, p4⟩, this, ha, hb⟩
theorem rows_back {r p : Int} {ts : List D} (hr : r ≤ 3) (hp : p ≤ 4) (hv : VolOK r p 8 ts) : ∃ rest : List (List Str), rowsOf (textOf r p ts) = [("runs" : Str), Str.ofString (toString r), Str.ofString (toString p)] :: rest ∧ rest.map (entryK 9) = ts := by
  have eachT : ∀ t ∈ ts, ∃ l, t = .tup l ∧ tellsB r p (.tup l) = true := fun t ht => by
    obtain ⟨k, xs, rfl⟩ := tellsB_best (hv.all t ht)
    exact ⟨_, rfl, hv.all _ ht⟩
  have s1 : Txt.split (textOf r p ts) "\n" = headOf r p :: linesD ts := by
    refine join_back (S := []) tl_nl nl_kind (by simp) fun q hq => ?_
    rcases List.mem_cons.mp hq with e | hq
    · subst e
      rw [head_join]
      intro hm
      rcases mem_join hm with z | ⟨z, hz, hc⟩
      · rw [tl_sp] at z; simp at z
      · simp at hz
        rcases hz with e | e | e <;> subst e
        · rw [tl_runs] at hc; simp at hc
        · exact num_free (.inl rfl) hc
        · exact num_free (.inl rfl) hc
    · obtain ⟨t, ht, rfl⟩ := List.mem_map.mp hq
      obtain ⟨l, rfl, hl⟩ := eachT t ht
      show 10 ∉ TL.tl (lineOf l)
      intro hm
      rcases mem_join hm with z | ⟨z, hz, hc⟩
      · rw [tl_sp] at z; simp at z
      · obtain ⟨d, hd, rfl⟩ := List.mem_map.mp hz
        exact item_free hr hp hl (.inl rfl) d hd hc
  have s2 : Txt.split (headOf r p) " " = [("runs" : Str), Str.ofString (toString r), Str.ofString (toString p)] := by
    rw [head_join]
    refine join_back (S := []) tl_sp sp_kind (by simp) fun q hq => ?_
    simp at hq
    rcases hq with e | e | e <;> subst e
    · rw [tl_runs]; simp
    · exact num_free (.inr rfl)
    · exact num_free (.inr rfl)
  refine ⟨(linesD ts).map fun l => Txt.split l " ", ?_, ?_⟩
  · unfold rowsOf
    rw [s1, List.map_cons, s2]
  · unfold linesD
    rw [List.map_map, List.map_map]
    refine (List.map_congr_left fun t ht => ?_).trans (List.map_id ts)
    obtain ⟨l, rfl, hl⟩ := eachT t ht
    show entryK 9 (Txt.split (lineOf l) " ") = .tup l
    have hne : l.map itemS ≠ [] := by
      obtain ⟨k, xs, rfl, _, _⟩ := tells_kind hl
      simp
    have s3 : Txt.split (lineOf l) " " = l.map itemS := join_back (S := []) tl_sp sp_kind hne fun q hq => by
      obtain ⟨d, hd, rfl⟩ := List.mem_map.mp hq
      exact item_free hr hp hl (.inr rfl) d hd
    rw [s3]
    exact entry_back hr hp hl
theorem book_back {r p : Int} {ts : List D} (r1 : 1 ≤ r) (r3 : r ≤ 3) (p1 : 1 ≤ p) (p4 : p ≤ 4) (hv : VolOK r p 8 ts) : bookP (textOf r p ts) = some (vol r p ts) := by
  obtain ⟨rest, h1, h2⟩ := rows_back r3 p4 hv
  have hf := vol_fits r1 r3 p1 p4 hv
  unfold bookP
  rw [h1]
  dsimp only
  rw [h2, List.map_cons, List.map_cons, List.map_nil, num_back (by omega), num_back (by omega)]
  exact if_pos ⟨by simp, hf⟩
end
end K10

namespace K10
open PySem PySem.Spec PyProof.Rows L2 DL
section
variable {P : Program} {w : World} {K : PySem.W.Frag} {mg : Str → Option Value} {base : Heap}
/-! ## a text bent -/
def TOK (x : Str) : Prop := PyData.strOk x = true ∧ x.length ≤ 900
def P_bentT (m : FM) : Prop := ∀ (v : List D) (x : Str), VOK v → TOK x → ∃ y v', m [.str x] (some v) = .ok (.str y) (some v') ∧ TOK y ∧ VOK v'
theorem app_ok {i j : Str} (h1 : PyData.strOk i = true) (h2 : PyData.strOk j = true) : PyData.strOk (i ++ j) = true := by
  unfold PyData.strOk at h1 h2 ⊢
  rw [← Array.all_toList, List.all_eq_true] at h1 h2 ⊢
  have e : (i ++ j).cps.toList = i.cps.toList ++ j.cps.toList := TL.tl_append i j
  rw [e]
  intro c hc
  rcases List.mem_append.mp hc with z | z
  · exact h1 c z
  · exact h2 c z
theorem join_ok {y : Str} {ps : List Str} (h1 : PyData.strOk y = true) (h2 : ∀ p ∈ ps, PyData.strOk p = true) : PyData.strOk (Txt.join y ps) = true := by
  unfold PyData.strOk at h1 ⊢
  rw [← Array.all_toList, List.all_eq_true] at h1 ⊢
  intro c hc
  rcases mem_join (show c ∈ TL.tl (Txt.join y ps) from hc) with z | ⟨p, hp, z⟩
  · exact h1 c z
  · have := h2 p hp
    unfold PyData.strOk at this
    rw [← Array.all_toList, List.all_eq_true] at this
    exact this c z
theorem cut900 (x : Str) : (cutS x none (some 900)).length ≤ 900 := by
  rw [str_len, cutS_list]
  have := cut_to x.cps.toList 900
  rw [show ((900 : Nat) : Int) = 900 from rfl] at this
  rw [this, List.length_take]
  omega
theorem ok__law_bent (B : Bl mg) (h_law_drop : ∃ m, Has P w K mg base 1 "_law_drop" p__law_drop m ∧ P_drop m) (h_law_some : ∃ m, Has P w K mg base 2 "_law_some" p__law_some m ∧ P_some m) (Th : There K mg "_law_bent" s__law_bent p__law_bent) : ∃ m, Has P w K mg base 3 "_law_bent" p__law_bent m ∧ P_bentT m := by
  obtain ⟨m1, h__law_drop, p1⟩ := h_law_drop
  obtain ⟨m2, h__law_some, p2⟩ := h_law_some
  refine ⟨_, has_any Th sc__law_bent fun f cdv A outer s H E hr tk hp => (dss_cons (ds_set 2 sc__law_bent.nd (de_lst (da_cons de_str (da_cons de_str (da_cons de_str (da_cons de_str (da_cons de_str (da_cons de_str (da_cons de_str (da_cons de_str (da_cons de_str (da_cons de_str (da_cons de_str (da_cons de_str (da_cons de_str da_nil)))))))))))))))
    (dss_cons (ds_set 3 sc__law_bent.nd (dcv 0 h__law_drop tk (hr.mono (by decide)) (da_cons (de_op od_add (de_callB cd_len B.len PySem.boot_len (da_cons (de_v 1) da_nil)) de_int) da_nil)))
    (dss_cons (ds_set 1 sc__law_bent.nd (de_op od_add (de_op od_add (de_slS (de_v 1) do_none (do_some (de_v 3))) (dcv 0 h__law_some tk (hr.mono (by decide)) (da_cons (de_v 2) da_nil))) (de_slS (de_v 1) (do_some (de_op od_add (de_v 3) (dcv 0 h__law_drop tk (hr.mono (by decide)) (da_cons de_int da_nil)))) do_none)))
    (dss_cons (ds_set 4 sc__law_bent.nd (de_m1 F.slot_str_split F.type_str_split md_split (de_v 1) de_str))
    (dss_cons (ds_set 5 sc__law_bent.nd (dcv 0 h__law_drop tk (hr.mono (by decide)) (da_cons (de_callB cd_len B.len PySem.boot_len (da_cons (de_v 4) da_nil)) da_nil)))
    (dss_cons (ds_set 6 sc__law_bent.nd (de_lst (da_cons (de_v 1) (da_cons (de_v 1) (da_cons (de_m1 F.slot_str_join F.type_str_join md_join de_str (de_op od_add (de_sl (de_v 4) do_none (do_some (de_v 5))) (de_sl (de_v 4) (do_some (de_op od_add (de_v 5) de_int)) do_none))) (da_cons (de_m1 F.slot_str_join F.type_str_join md_join de_str (de_op od_add (de_sl (de_v 4) do_none (do_some (de_op od_add (de_v 5) de_int))) (de_sl (de_v 4) (do_some (de_v 5)) do_none))) da_nil))))))
    (dss_one (ds_ret (de_slS (dcv 0 h__law_some tk (hr.mono (by decide)) (da_cons (de_v 6) da_nil)) do_none (do_some de_int)))))))))), ?_⟩
  intro v x hv ⟨ho, hl⟩
  have z : ∀ n : Nat, n ≤ 100000 → n ≤ sizeLine := fun n h => Nat.le_trans h (by decide +kernel)
  obtain ⟨a, v1, e1, a0, a1, hv1⟩ := p1 v (x.length + 1) hv (by omega) (by omega)
  obtain ⟨sd, v2, e2, hs, hv2⟩ := p2 v1 [.str " ", .str "\n", .str "0", .str "1", .str "3", .str "-", .str "best 0 1 5", .str "span", .str "", .str "x", .str "01", .str "\nruns 2 2", .str "runs"] hv1 (by simp) (by simp)
  obtain ⟨sg, rfl, sgo, sgl⟩ : ∃ y : Str, sd = .str y ∧ PyData.strOk y = true ∧ y.length ≤ 13 := by
    simp at hs
    rcases hs with h | h | h | h | h | h | h | h | h | h | h | h | h <;> exact ⟨_, h, by decide +kernel, by decide +kernel⟩
  obtain ⟨b, v3, e3, b0, b1, hv3⟩ := p1 v2 3 hv2 (by omega) (by omega)
  have q1 : opSlS (.str x) none (some a) = some (.str (cutS x none (some a))) := if_pos (z _ (by omega))
  have q2 : opSlS (.str x) (some (a + b)) none = some (.str (cutS x (some (a + b)) none)) := if_pos (z _ (by omega))
  have l1 := cutS_length x none (some a)
  have l2 := cutS_length x (some (a + b)) none
  have q3 : opAdd (.str (cutS x none (some a))) (.str sg) = some (.str (cutS x none (some a) ++ sg)) := add_str (by omega)
  have q4 : opAdd (.str (cutS x none (some a) ++ sg)) (.str (cutS x (some (a + b)) none)) = some (.str (cutS x none (some a) ++ sg ++ cutS x (some (a + b)) none)) := add_str (by rw [app_len]; omega)
  have yo : PyData.strOk (cutS x none (some a) ++ sg ++ cutS x (some (a + b)) none) = true := app_ok (app_ok (cut_ok ho) sgo) (cut_ok ho)
  have yl : (cutS x none (some a) ++ sg ++ cutS x (some (a + b)) none).length ≤ 1813 := by rw [app_len, app_len]; omega
  generalize cutS x none (some a) ++ sg ++ cutS x (some (a + b)) none = y at q4 yo yl
  have hps := split_parts yo nl_list nl_kind
  have q5 : gSplit y (.str "\n") = some (.lst ((Txt.split y "\n").map .str)) := if_pos ⟨by decide +kernel, z _ (by omega)⟩
  generalize Txt.split y "\n" = ps at hps q5
  have pl := hps.len
  have pp : 0 < ps.length := List.length_pos_iff.mpr hps.ne
  obtain ⟨c, v4, e4, c0, c1, hv4⟩ := p1 v3 ps.length hv3 (by omega) (by omega)
  obtain ⟨i, rfl⟩ : ∃ i : Nat, c = i := ⟨c.toNat, by omega⟩
  have c1' : cutG ps none (some (i : Int)) = ps.take i := cut_to ps i
  have c2' : cutG ps (some ((i : Int) + 1)) none = ps.drop (i + 1) := cut_from ps (i + 1)
  have c3' : cutG ps none (some ((i : Int) + 1)) = ps.take (i + 1) := cut_to ps (i + 1)
  have c4' : cutG ps (some (i : Int)) none = ps.drop i := cut_from ps i
  have jn : ∀ ys : List Str, ys.length ≤ 4000 → (∀ q ∈ ys, q ∈ ps) → gJoin "\n" (.lst (ys.map .str)) = some (.str (Txt.join "\n" ys)) ∧ PyData.strOk (Txt.join "\n" ys) = true ∧ (Txt.join "\n" ys).length ≤ 16000000 := fun ys h1 h2 => by
    have l3 : ("\n" : Str).length = 1 := by decide +kernel
    obtain ⟨j1, j2⟩ := join_len "\n" ys 1813 fun q hq => Nat.le_trans (hps.each q (h2 q hq)).2 yl
    rw [l3] at j1 j2
    refine ⟨gJoin_strs (by rw [l3]; omega), join_ok (by decide +kernel) fun q hq => (hps.each q (h2 q hq)).1, by omega⟩
  have m1' : ∀ q ∈ ps.take i ++ ps.drop (i + 1), q ∈ ps := fun q hq => (List.mem_append.mp hq).elim List.mem_of_mem_take List.mem_of_mem_drop
  have m2' : ∀ q ∈ ps.take (i + 1) ++ ps.drop i, q ∈ ps := fun q hq => (List.mem_append.mp hq).elim List.mem_of_mem_take List.mem_of_mem_drop
  obtain ⟨j1, j2, j3⟩ := jn (ps.take i ++ ps.drop (i + 1)) (by simp; omega) m1'
  obtain ⟨k1, k2, k3⟩ := jn (ps.take (i + 1) ++ ps.drop i) (by simp; omega) m2'
  have w1 : opAdd (.lst ((ps.map D.str).take i)) (.lst ((ps.map D.str).drop (i + 1))) = some (.lst ((ps.take i ++ ps.drop (i + 1)).map .str)) := by rw [add_lst (by simp; omega), List.map_append, List.map_take, List.map_drop]
  have w2 : opAdd (.lst ((ps.map D.str).take (i + 1))) (.lst ((ps.map D.str).drop i)) = some (.lst ((ps.take (i + 1) ++ ps.drop i).map .str)) := by rw [add_lst (by simp; omega), List.map_append, List.map_take, List.map_drop]
  generalize ps.take i ++ ps.drop (i + 1) = ya at w1 j1 j2 j3
  generalize ps.take (i + 1) ++ ps.drop i = yb at w2 k1 k2 k3
  have g1 : cutG (ps.map D.str) none (some (i : Int)) = (ps.map D.str).take i := cut_to _ i
  have g2 : cutG (ps.map D.str) (some ((i : Int) + 1)) none = (ps.map D.str).drop (i + 1) := cut_from _ (i + 1)
  have g3 : cutG (ps.map D.str) none (some ((i : Int) + 1)) = (ps.map D.str).take (i + 1) := cut_to _ (i + 1)
  have g4 : cutG (ps.map D.str) (some (i : Int)) none = (ps.map D.str).drop i := cut_from _ i
  have lx : gLen [.str x] = some (.int x.length) := len_str x (z _ (by omega))
  obtain ⟨rd, v5, e5, hrd, hv5⟩ := p2 v4 [.str y, .str y, .str (Txt.join "\n" ya), .str (Txt.join "\n" yb)] hv4 (by simp) (by simp)
  obtain ⟨o, rfl, oo, ol⟩ : ∃ o : Str, rd = .str o ∧ PyData.strOk o = true ∧ o.length ≤ 16000000 := by
    simp at hrd
    rcases hrd with h | h | h
    · exact ⟨_, h, yo, by omega⟩
    · exact ⟨_, h, j2, j3⟩
    · exact ⟨_, h, k2, k3⟩
  have q6 : opSlS (.str o) none (some 900) = some (.str (cutS o none (some 900))) := if_pos (Nat.le_trans ol (by decide +kernel))
  refine ⟨cutS o none (some 900), v5, ?_, ⟨cut_ok oo, cut900 o⟩, hv5⟩
  simp [e1, e2, e3, q1, q2, q3, q4, q5, e4, g1, g2, g3, g4, w1, w2, lx, j1, k1, e5, q6]
end
end K10

namespace K10
open PySem PySem.Spec PyProof.Rows L2 DL
section
variable {P : Program} {w : World} {K : PySem.W.Frag} {mg : Str → Option Value} {base : Heap}
/-! ## the word of an error -/
abbrev s__law_word : Stmt := topS 39
abbrev n__law_word : List Str := ["_law_call", "_law_found", "e"]
theorem sc__law_word : FnScope n__law_word ["_law_call"] (defScope s__law_word) := ⟨rfl, rfl, rfl, by decide +kernel, rfl, by decide +kernel, by decide +kernel⟩
theorem nd_word : n__law_word.Nodup := by decide +kernel
/-- the classes that the clauses name -/
structure Cl14 (mg : Str → Option Value) : Type where
  c_InvalidBook : Addr
  g_InvalidBook : mg "InvalidBook" = some (.ref c_InvalidBook)
  c_InvalidRun : Addr
  g_InvalidRun : mg "InvalidRun" = some (.ref c_InvalidRun)
  c_InvalidMark : Addr
  g_InvalidMark : mg "InvalidMark" = some (.ref c_InvalidMark)
  c_InvalidTime : Addr
  g_InvalidTime : mg "InvalidTime" = some (.ref c_InvalidTime)
  c_InvalidTelling : Addr
  g_InvalidTelling : mg "InvalidTelling" = some (.ref c_InvalidTelling)
  c_InvalidTruth : Addr
  g_InvalidTruth : mg "InvalidTruth" = some (.ref c_InvalidTruth)
  c_InvalidPaper : Addr
  g_InvalidPaper : mg "InvalidPaper" = some (.ref c_InvalidPaper)
  c_InvalidIndex : Addr
  g_InvalidIndex : mg "InvalidIndex" = some (.ref c_InvalidIndex)
  c_InvalidText : Addr
  g_InvalidText : mg "InvalidText" = some (.ref c_InvalidText)
  c_NoTruth : Addr
  g_NoTruth : mg "NoTruth" = some (.ref c_NoTruth)
  c_Unlike : Addr
  g_Unlike : mg "Unlike" = some (.ref c_Unlike)
  c_NothingToUndo : Addr
  g_NothingToUndo : mg "NothingToUndo" = some (.ref c_NothingToUndo)
  c_TooMany : Addr
  g_TooMany : mg "TooMany" = some (.ref c_TooMany)
  c_SplitError : Addr
  g_SplitError : mg "SplitError" = some (.ref c_SplitError)
def Cl14.l {mg : Str → Option Value} (c : Cl14 mg) : List (Value × Option Str) := [(.ref c.c_InvalidBook, some "book"), (.ref c.c_InvalidRun, some "run"), (.ref c.c_InvalidMark, some "mark"), (.ref c.c_InvalidTime, some "time"), (.ref c.c_InvalidTelling, some "telling"), (.ref c.c_InvalidTruth, some "truth"), (.ref c.c_InvalidPaper, some "paper"), (.ref c.c_InvalidIndex, some "index"), (.ref c.c_InvalidText, some "text"), (.ref c.c_NoTruth, some "none"), (.ref c.c_Unlike, some "unlike"), (.ref c.c_NothingToUndo, some "undo"), (.ref c.c_TooMany, none), (.ref c.c_SplitError, some "base")]
theorem word_ok {X : Cx} {g : Addr} {cdg : Value} {q : Str} (c : Cl14 X.mg) : Gives X n__law_word "_law_word" (defScope s__law_word) g cdg (defBody s__law_word) "_law_call" q (TTw X.K c.l) := by
  refine word_gives (N2 := ["e"]) (by decide +kernel) rfl (fun s H => ?_)

  exact (ClOk.one ⟨rfl, by decide, .inl c.g_InvalidBook⟩ (fun a ob cls d pn _ _ => pss_one (ps_set (i := 1) nd_word rfl (.inl rfl) pe_str))
    (ClOk.one ⟨rfl, by decide, .inl c.g_InvalidRun⟩ (fun a ob cls d pn _ _ => pss_one (ps_set (i := 1) nd_word rfl (.inl rfl) pe_str))
    (ClOk.one ⟨rfl, by decide, .inl c.g_InvalidMark⟩ (fun a ob cls d pn _ _ => pss_one (ps_set (i := 1) nd_word rfl (.inl rfl) pe_str))
    (ClOk.one ⟨rfl, by decide, .inl c.g_InvalidTime⟩ (fun a ob cls d pn _ _ => pss_one (ps_set (i := 1) nd_word rfl (.inl rfl) pe_str))
    (ClOk.one ⟨rfl, by decide, .inl c.g_InvalidTelling⟩ (fun a ob cls d pn _ _ => pss_one (ps_set (i := 1) nd_word rfl (.inl rfl) pe_str))
    (ClOk.one ⟨rfl, by decide, .inl c.g_InvalidTruth⟩ (fun a ob cls d pn _ _ => pss_one (ps_set (i := 1) nd_word rfl (.inl rfl) pe_str))
    (ClOk.one ⟨rfl, by decide, .inl c.g_InvalidPaper⟩ (fun a ob cls d pn _ _ => pss_one (ps_set (i := 1) nd_word rfl (.inl rfl) pe_str))
    (ClOk.one ⟨rfl, by decide, .inl c.g_InvalidIndex⟩ (fun a ob cls d pn _ _ => pss_one (ps_set (i := 1) nd_word rfl (.inl rfl) pe_str))
    (ClOk.one ⟨rfl, by decide, .inl c.g_InvalidText⟩ (fun a ob cls d pn _ _ => pss_one (ps_set (i := 1) nd_word rfl (.inl rfl) pe_str))
    (ClOk.one ⟨rfl, by decide, .inl c.g_NoTruth⟩ (fun a ob cls d pn _ _ => pss_one (ps_set (i := 1) nd_word rfl (.inl rfl) pe_str))
    (ClOk.one ⟨rfl, by decide, .inl c.g_Unlike⟩ (fun a ob cls d pn _ _ => pss_one (ps_set (i := 1) nd_word rfl (.inl rfl) pe_str))
    (ClOk.one ⟨rfl, by decide, .inl c.g_NothingToUndo⟩ (fun a ob cls d pn _ _ => pss_one (ps_set (i := 1) nd_word rfl (.inl rfl) pe_str))
    (ClOk.skip ⟨rfl, by decide, .inl c.g_TooMany⟩
    (ClOk.one ⟨rfl, by decide, .inl c.g_SplitError⟩ (fun a ob cls d pn _ _ => pss_one (ps_set (i := 1) nd_word rfl (.inl rfl) pe_str))
    ClOk.nil))))))))))))))
theorem word_ok' {X : Cx} {mg : Str → Option Value} {g : Addr} {cdg : Value} {q : Str} (c : Cl14 mg) (h : X.mg = mg) : Gives X n__law_word "_law_word" (defScope s__law_word) g cdg (defBody s__law_word) "_law_call" q (TTw X.K c.l) := by
  subst h
  exact word_ok c
end
end K10

namespace K10
open PySem PySem.Spec PyProof.Rows L2 DL
section
variable {P : Program} {w : World} {K : PySem.W.Frag} {mg : Str → Option Value} {base : Heap}
/-! ## a reading tried -/
abbrev s__law_tried : Stmt := topS 42
abbrev n__law_tried : List Str := ["_law_value", "_law_word_here"]
theorem sc__law_tried : FnScope n__law_tried ["_law_value"] (defScope s__law_tried) := ⟨rfl, rfl, rfl, by decide +kernel, rfl, by decide +kernel, by decide +kernel⟩
theorem nd_tried : n__law_tried.Nodup := by decide +kernel
def wdT (n : Str) : Option Str := if n = "InvalidText" then some "text" else none
structure P_tried (m : FM) : Prop where
  txt : ∀ x : Str, PyData.strOk x = true → x.length ≤ 100000 → m [.str x] none = .ok (match bookP x with
    | some d => d
    | none => .str "text") none
  odd : ∀ d : D, plain d = true → (∀ x, d ≠ .str x) → m [d] none = .ok (.str "text") none
theorem wdT_it : wdT "InvalidText" = some "text" := if_pos rfl
theorem eq_te : opEq (.str "text") (.str "") = some (.bl false) := by
  rw [eq_str' (by decide +kernel) ok_empty]
  have : ("text" == ("" : Str)) = false := by decide +kernel
  rw [this]
theorem eq_ee : opEq (.str "") (.str "") = some (.bl true) := by
  rw [eq_str' ok_empty ok_empty]
  simp
theorem ok__law_tried (c : Cl14 mg) {m1 : FM} (pb : P_book m1) (h_read_book : Has P w K mg base 5 "read_book" p_read_book m1)
    {fT g cc Pt : Addr} {oc kV doc pm ct oc2 kV2 dV2 doc2 pm2 cdv2 ct2 : Value} {od an od2 an2 : Option Addr} {osl osl2 : Array (Option Value)}
    (lkT : K.lookup fT = some ⟨oc, od, .func (PySem.W.fnOf "_law_tried" "_law_tried" (defArgs s__law_tried) (defBody s__law_tried) (defScope s__law_tried) .none kV doc pm an (.ref cc) ct), osl⟩) (hcT : PySem.W.codeIn K (.ref cc) "_law_tried" = true)
    (hm : mg "_law_word" = some (.ref g)) (hk : PySem.W.keepIn K (.ref g) = true)
    (lk : K.lookup g = some ⟨oc2, od2, .func (PySem.W.fnOf "_law_word" "_law_word" (defArgs s__law_word) (defBody s__law_word) (defScope s__law_word) dV2 kV2 doc2 pm2 an2 cdv2 ct2), osl2⟩) (hcg : PySem.W.codeIn K cdv2 "_law_word" = true)
    (bn : L2.Binds K (PySem.W.fnOf "_law_word" "_law_word" (defArgs s__law_word) (defBody s__law_word) (defScope s__law_word) dV2 kV2 doc2 pm2 an2 cdv2 ct2) ["_law_call"] [])
    (hw : ∀ n w C, wdT n = some w → mg n = some (.ref C) → wdOf K (.ref C) c.l = some w) (TB : LamX.TabB base mg cc Pt) (hT : (Pt, ("_law_tried.<locals>.<lambda>" : Str)) ∈ lamT) (hu : ∀ p ∈ lamT, p.1 = Pt → p.2 = "_law_tried.<locals>.<lambda>") :
    ∃ m, FnD P w K mg base 8 fT (PySem.W.fnOf "_law_tried" "_law_tried" (defArgs s__law_tried) (defBody s__law_tried) (defScope s__law_tried) .none kV doc pm an (.ref cc) ct) ["_law_value"] m ∧ P_tried m := by
  refine ⟨_, fnd_code (k := 7) lkT hcT sc__law_tried (fun A outer s H E hr tk hp =>
    dss_cons (ds_set 1 nd_tried (de_word (q := "") (k := 5) (l := c.l) (wd := wdT) (N2 := ["e"]) (y := "_law_found") (a := "_law_call") (by rfl) hm hk lk hcg bn sc__law_word (.inl rfl) (word_ok' c (by rfl)) hw TB rfl hT hu (hr.mono (by decide)) (by exact LamX.lamS_by (by rfl)) (by rfl) (fun _ _ _ _ _ => by rfl)
      (fun A2 outer2 s2 H2 E2 f2 c2 hr2 => dc h_read_book (takes_of rfl rfl rfl rfl) hr2 (da_cons (de_v 0) da_nil))))
      (dss_one (ds_ret (de_if (dt_cmp (od_eq hr) (de_v 1) de_str (nomark _)) (dc h_read_book tk (hr.mono (by decide)) (da_cons (de_v 0) da_nil)) (de_v 1))))), ?_, ?_⟩
  · intro x hx hl
    cases hb : bookP x with
    | some d =>
      simp [fW, callP, pb.txt x hx hl, hb, frP, eq_ee]
    | none =>
      simp [fW, callP, pb.txt x hx hl, hb, frP, wdT_it, eq_te]
  · intro d hp hd
    simp [fW, callP, pb.odd d hp hd, wdT_it, eq_te]
end
end K10

namespace K10
open PySem PySem.Spec PyProof.Rows L2 DL
section
variable {P : Program} {w : World} {K : PySem.W.Frag} {mg : Str → Option Value} {base : Heap}
/-! ## the text of a book, once more, as the law writes it -/
theorem each_tup {r p : Int} {ts : List D} (hv : VolOK r p 8 ts) : ∀ t ∈ ts, ∃ l, t = .tup l ∧ tellsB r p (.tup l) = true := fun t ht => by
  obtain ⟨k, xs, rfl⟩ := tellsB_best (hv.all t ht)
  exact ⟨_, rfl, hv.all _ ht⟩
theorem line_facts {r p : Int} {l : List D} (r3 : r ≤ 3) (p4 : p ≤ 4) (hl : tellsB r p (.tup l) = true) : (lineOf l).length ≤ 66 ∧ gJoin " " (.lst (l.map fun d => .str (itemS d))) = some (.str (lineOf l)) ∧ PyData.strOk (lineOf l) = true := by
  have l2 : (" " : Str).length = 1 := by decide +kernel
  obtain ⟨h6, hi⟩ := items_ok r3 p4 hl
  obtain ⟨j1, j2⟩ := join_len " " (l.map itemS) 10 fun q hq => by
    obtain ⟨d, hd, rfl⟩ := List.mem_map.mp hq
    exact (hi d hd).2.1
  rw [List.length_map, l2] at j1 j2
  refine ⟨by unfold lineOf; omega, ?_, ?_⟩
  · have := gJoin_strs (a := " ") (ys := l.map itemS) (by rw [l2, List.length_map]; omega)
    rw [List.map_map] at this
    exact this
  · refine join_ok (by decide +kernel) fun q hq => ?_
    obtain ⟨d, hd, rfl⟩ := List.mem_map.mp hq
    exact (hi d hd).2.2
theorem head_facts {r p : Int} (r1 : 1 ≤ r) (r3 : r ≤ 3) (p1 : 1 ≤ p) (p4 : p ≤ 4) : (headOf r p).length ≤ 66 ∧ PyData.strOk (headOf r p) = true := by
  have l1 : ("runs " : Str).length = 5 := by decide +kernel
  have l2 : (" " : Str).length = 1 := by decide +kernel
  have lr : (Str.ofString (toString r)).length ≤ 10 := len_int (n := r) (by omega)
  have lp : (Str.ofString (toString p)).length ≤ 10 := len_int (n := p) (by omega)
  refine ⟨?_, ?_⟩
  · unfold headOf
    rw [app_len, app_len, app_len]
    omega
  · obtain ⟨n, rfl⟩ : ∃ n : Nat, r = n := ⟨r.toNat, by omega⟩
    obtain ⟨m, rfl⟩ : ∃ m : Nat, p = m := ⟨p.toNat, by omega⟩
    have ok : ∀ k : Nat, k ≤ 4 → PyData.strOk (Str.ofString (toString (k : Int))) = true := fun k hk => by
      have : k = 0 ∨ k = 1 ∨ k = 2 ∨ k = 3 ∨ k = 4 := by omega
      rcases this with rfl | rfl | rfl | rfl | rfl <;> decide +kernel
    unfold headOf
    exact app_ok (app_ok (app_ok (by decide +kernel) (ok n (by omega))) (by decide +kernel)) (ok m (by omega))
theorem text_facts {r p : Int} {ts : List D} (r1 : 1 ≤ r) (r3 : r ≤ 3) (p1 : 1 ≤ p) (p4 : p ≤ 4) (hv : VolOK r p 8 ts) :
    gJoin "\n" (.lst ((headOf r p :: linesD ts).map .str)) = some (.str (textOf r p ts)) ∧ TOK (textOf r p ts) := by
  have l3 : ("\n" : Str).length = 1 := by decide +kernel
  have hlen := hv.len
  have ln : (headOf r p :: linesD ts).length ≤ 9 := by unfold linesD; simp; omega
  have each : ∀ q ∈ headOf r p :: linesD ts, q.length ≤ 66 ∧ PyData.strOk q = true := fun q hq => by
    rcases List.mem_cons.mp hq with e | hq
    · rw [e]; exact head_facts r1 r3 p1 p4
    · obtain ⟨t, ht, rfl⟩ := List.mem_map.mp hq
      obtain ⟨l, rfl, hl⟩ := each_tup hv t ht
      exact ⟨(line_facts r3 p4 hl).1, (line_facts r3 p4 hl).2.2⟩
  obtain ⟨j1, j2⟩ := join_len "\n" (headOf r p :: linesD ts) 66 fun q hq => (each q hq).1
  rw [l3] at j1 j2
  refine ⟨gJoin_strs (by rw [l3]; omega), join_ok (by decide +kernel) fun q hq => (each q hq).2, ?_⟩
  unfold textOf
  omega
/-- the written rows -/
def rowsT : List Str := ["", "runs", "runs 2", "runs 2 1 ", "runs 2 1\n", "runs 0 1", "runs 2 1 1", "Runs 2 1", "runs 2  1", "runs 02 1", "span 0 0 1 1 1", "runs 2 1\nbest 0 2 5", "runs 2 1\nruns 2 1", "runs 2 1\ngap 0 1 1 -0 0",
  "runs 1 1" ++ Txt.mul "\nspan 0 0 1 0 5" 9]
theorem rowsT_none : rowsT.all (fun x => (bookP x).isNone && PyData.strOk x && decide (x.length ≤ 900)) = true := by decide +kernel
theorem gap_some : bookP "runs 2 1\ngap 0 1 1 -1000000 1000000" = some (.tup [.int 2, .int 1, .tup [.tup [.str "gap", .int 0, .int 1, .int 1, .int (-1000000), .int 1000000]]]) := by
  have e : textOf 2 1 [.tup [.str "gap", .int 0, .int 1, .int 1, .int (-1000000), .int 1000000]] = "runs 2 1\ngap 0 1 1 -1000000 1000000" := by decide +kernel
  rw [← e]
  exact book_back (by decide) (by decide) (by decide) (by decide) ⟨by decide, by intro t ht; rw [List.mem_singleton] at ht; subst ht; decide +kernel, by decide⟩
def lnD (t : D) : Str := match t with
  | .tup l => lineOf l
  | _ => ""
theorem lines_ln (ts : List D) : linesD ts = ts.map lnD := rfl
end
end K10

namespace K10
open PySem PySem.Spec PyProof.Rows L2 DL
section
variable {P : Program} {w : World} {K : PySem.W.Frag} {mg : Str → Option Value} {base : Heap}
/-! ## a datum is equal to itself -/
mutual
theorem deq_refl : ∀ (d : D) (n : Nat), okd n d = true → deq d d = true
  | .non, _, _ => rfl
  | .bl b, _, _ => by simp [deq]
  | .int i, _, _ => by simp [deq]
  | .str x, _, _ => by simp [deq]
  | .lst xs, 0, h => by simp [okd] at h
  | .lst xs, n + 1, h => by unfold deq; exact deqA_refl xs n (by simpa [okd] using h)
  | .tup xs, 0, h => by simp [okd] at h
  | .tup xs, n + 1, h => by unfold deq; exact deqA_refl xs n (by simpa [okd] using h)
  | .ref _, n, h => by cases n <;> simp [okd] at h
  | .scr _, n, h => by cases n <;> simp [okd] at h
theorem deqA_refl : ∀ (xs : List D) (n : Nat), (∀ x ∈ xs, okd n x = true) → deqA xs xs = true
  | [], _, _ => rfl
  | x :: xs, n, h => by
    unfold deqA
    rw [deq_refl x n (h x List.mem_cons_self), deqA_refl xs n (fun y hy => h y (List.mem_cons_of_mem _ hy))]
    rfl
end
theorem ne_self {d : D} (h : okd 60 d = true) : opNe d d = some (.bl false) := by rw [ne_okd h h, deq_refl d 60 h]; rfl
theorem eq_self {d : D} (h : okd 60 d = true) : opEq d d = some (.bl true) := by rw [eq_okd h h, deq_refl d 60 h]
theorem bookP_okd {x : Str} {d : D} (hx : PyData.strOk x = true) (h : bookP x = some d) : okd 60 d = true := by
  have ok2 : ∀ ws ∈ rowsOf x, okd 2 (entryK 9 ws) = true := fun ws hw => by
    obtain ⟨l, _, hll, hp⟩ := row_parts hx ws hw
    exact entry_okd fun v hv => (hp.each v hv).1
  unfold bookP at h
  split at h
  · rename_i v q rest hr0
    split at h
    · cases h
      rw [hr0] at ok2
      refine okd_le (n := 4) (by decide) ?_
      simp only [okd, List.all_append, List.all_map, List.all_cons, List.all_nil, Bool.and_true, Bool.and_eq_true]
      refine ⟨List.all_eq_true.mpr fun u _ => optD_okd _, ?_⟩
      exact List.all_eq_true.mpr fun z hz => ok2 z (List.mem_cons_of_mem _ hz)
    · cases h
  · cases h
theorem ok_text : okd 60 (.str "text") = true := by decide +kernel
theorem tok_text : PyData.strOk "text" = true := by decide +kernel
theorem bookP_tup {x : Str} {d : D} (h : bookP x = some d) : ∃ xs, d = .tup xs := by
  unfold bookP at h
  split at h
  · split at h
    · cases h; exact ⟨_, rfl⟩
    · cases h
  · cases h
theorem isn_tup (xs : List D) : opIs (.tup xs) .non = some (.bl false) := rfl
theorem isn_non : opIs .non .non = some (.bl true) := rfl
theorem tried_c {m : FM} (h : P_tried m) {x : Str} (ok : TOK x) (s : S) : callP m 1 [.str x] s = .ok ((bookP x).getD (.str "text")) s := by
  have := h.txt x ok.1 (by have := ok.2; omega)
  cases hb : bookP x <;> rw [hb] at this <;> simp [callP, this]
theorem read_c {m : FM} (h : P_read m) {x : Str} (ok : TOK x) (s : S) : callP m 1 [.str x] s = .ok (okD (bookP x)) s := by
  simp [callP, h x ok.1 (by have := ok.2; omega)]
theorem odd_c {m : FM} (h : P_tried m) {d : D} (h1 : plain d = true) (h2 : ∀ x, d ≠ .str x) (s : S) : callP m 1 [d] s = .ok (.str "text") s := by
  simp [callP, h.odd d h1 h2]
end
end K10

namespace K10
open PySem PySem.Spec PyProof.Rows L2 DL
section
variable {P : Program} {w : World} {K : PySem.W.Frag} {mg : Str → Option Value} {base : Heap}
/-! ## the law -/
abbrev s_law : Stmt := topS 44
abbrev n_law : List Str := ["_law_script", "_law_k", "_law_vial", "_law_turn", "_law_volume_here", "_law_lines", "_law_item", "_law_one", "_law_first", "_law_text", "_law_again", "_law_due", "_law_odd", "_law_rows", "_law_row"]
abbrev p_law : List Str := ["_law_script"]
theorem sc_law : FnScope n_law p_law (defScope s_law) := ⟨rfl, rfl, rfl, by decide +kernel, rfl, by decide +kernel, by decide +kernel⟩
theorem ok_law (B : Bl mg) (h_book_text : ∃ m, Has P w K mg base 5 "book_text" p_book_text m ∧ ∀ (r p : Int) (ts : List D), 1 ≤ r → r ≤ 3 → 1 ≤ p → p ≤ 4 → VolOK r p 8 ts → okd 58 (vol r p ts) = true → fitsB (vol r p ts) = true → m [vol r p ts] none = .ok (.str (textOf r p ts)) none) (h__law_tried : ∃ m, Has P w K mg base 8 "_law_tried" ["_law_value"] m ∧ P_tried m) (h__law_read : ∃ m, Has P w K mg base 5 "_law_read" p__law_read m ∧ P_read m)
    (h_law_drop : ∃ m, Has P w K mg base 1 "_law_drop" p__law_drop m ∧ P_drop m) (h_law_volume : ∃ m, Has P w K mg base 4 "_law_volume" p__law_volume m ∧ P_volume m) (h_law_vial_of : ∃ m, Has P w K mg base 1 "_law_vial_of" p__law_vial_of m ∧ P_vial m) (h_law_bent : ∃ m, Has P w K mg base 3 "_law_bent" p__law_bent m ∧ P_bentT m)
    {fl : Addr} {fdl : FuncData} (S0 : Stand K mg "law" s_law p_law fl fdl) : ∃ m, FnD P w K mg base 9 fl fdl p_law m ∧ ∀ ns : List Int, ns.length ≤ 63 → m [.scr ns] none = .ok (.bl true) none := by
  obtain ⟨m0, h_book_text, px⟩ := h_book_text
  obtain ⟨m1, h__law_drop, pd⟩ := h_law_drop
  obtain ⟨m2, h__law_read, pr⟩ := h__law_read
  obtain ⟨m3, h__law_tried, pt⟩ := h__law_tried
  obtain ⟨m4, h__law_volume, pv⟩ := h_law_volume
  obtain ⟨m5, h__law_vial_of, po⟩ := h_law_vial_of
  obtain ⟨m6, h__law_bent, pb⟩ := h_law_bent
  refine ⟨_, fnd_any S0 sc_law fun f cdv A outer s H E hr tk hp => (dss_cons (ds_for hp rfl (di_range1 rfl B.range (da_cons (de_op od_add de_int (de_callB (cd_min rfl) B.min PyProof.Rows.boot_min (da_cons (de_callB cd_len B.len PySem.boot_len (da_cons (de_v 0) da_nil)) (da_cons de_int da_nil)))) da_nil)) (dg_v 1 sc_law.nd) (dss_cons (dcO 2 h__law_vial_of tk (hr.mono (by decide)) sc_law.nd (da_cons (de_v 0) (da_cons (de_v 1) da_nil)))
      (dss_cons (ds_for hp rfl (di_range1 rfl B.range (da_cons de_int da_nil)) (dg_v 3 sc_law.nd) (dss_cons (ds_set 4 sc_law.nd (dcv 2 h__law_volume tk (hr.mono (by decide)) (da_cons (de_op od_add de_int (dcv 2 h__law_drop tk (hr.mono (by decide)) (da_cons de_int da_nil))) (da_cons (de_op od_add de_int (dcv 2 h__law_drop tk (hr.mono (by decide)) (da_cons de_int da_nil))) (da_cons de_int (da_cons de_int da_nil))))))
        (dss_cons (ds_setlc [7] 5 rfl sc_law.nd (di_seq (de_ix (de_v 4) de_int)) (blkOk_by (own := [("_law_one", 7)]) (N := n_law) (sc := defScope s_law) (by decide +kernel)) (fun _ _ _ _ _ => (dgw_v 7 sc_law.nd)) (fun _ _ _ _ _ => dts_nil) (fun _ _ _ _ _ => (de_m1 F.slot_str_join F.type_str_join md_join de_str (de_lc [6] rfl sc_law.nd (di_seq (de_v 7)) (blkOk_by (own := [("_law_item", 6)]) (N := n_law) (by with_unfolding_all rfl)) (fun _ _ _ _ _ => (dgw_v 6 sc_law.nd)) (fun _ _ _ _ _ => dts_nil) (fun _ _ _ _ _ => (de_callT cd_str B.str PyProof.Rows.boot_str (da_cons (de_v 6) da_nil)))))) (sw_true rfl rfl rfl (by decide +kernel)))
        (dss_cons (ds_set 8 sc_law.nd (de_m1 F.slot_str_join F.type_str_join md_join de_str (de_op od_add (de_lst (da_cons (de_op od_add (de_op od_add (de_op od_add de_str (de_callT cd_str B.str PyProof.Rows.boot_str (da_cons (de_ix (de_v 4) de_int) da_nil))) de_str) (de_callT cd_str B.str PyProof.Rows.boot_str (da_cons (de_ix (de_v 4) de_int) da_nil))) da_nil)) (de_v 5))))
        (dss_cons (ds_if (dt_w (dw_or (dt_cmp (od_ne hr) (dc h_book_text tk (hr.mono (by decide)) (da_cons (de_v 4) da_nil)) (de_v 8) (nomark _)) (dw_or1 (dt_cmp (od_ne hr) (dc h__law_tried tk (hr.mono (by decide)) (da_cons (de_v 8) da_nil)) (de_v 4) (nomark _))))) (dss_one (ds_ret de_bl)) dss_nil)
        (dss_cons (ds_set 9 sc_law.nd (de_v 8))
        (dss_one (ds_for hp rfl (di_range1 rfl B.range (da_cons de_int da_nil)) (dg_v 10 sc_law.nd) (dss_cons (ds_set 9 sc_law.nd (dcv 2 h__law_bent tk (hr.mono (by decide)) (da_cons (de_if (dt_cmp (od_eq hr) (de_op od_mod (de_v 10) de_int) de_int (nomark _)) (de_v 8) (de_v 9)) da_nil)))
          (dss_cons (ds_set 11 sc_law.nd (dc h__law_read tk (hr.mono (by decide)) (da_cons (de_v 9) da_nil)))
          (dss_one (ds_if (dt_cmp (od_ne hr) (dc h__law_tried tk (hr.mono (by decide)) (da_cons (de_v 9) da_nil)) (de_if (dt_cmp od_is (de_v 11) de_non (nomark _)) de_str (de_v 11)) (nomark _)) (dss_one (ds_ret de_bl)) dss_nil))))))))))))
      (dss_one (ds_for hp rfl (di_seq (de_lst (da_cons de_non (da_cons de_int (da_cons (de_tup (da_cons (de_v 8) da_nil)) (da_cons (de_lst (da_cons (de_v 8) da_nil)) (da_cons de_bl (da_cons (de_v 4) da_nil)))))))) (dg_v 12 sc_law.nd) (dss_one (ds_if (dt_cmp (od_ne hr) (dc h__law_tried tk (hr.mono (by decide)) (da_cons (de_v 12) da_nil)) de_str (nomark _)) (dss_one (ds_ret de_bl)) dss_nil)))))))
    (dss_cons (ds_own 13 sc_law.nd (da_cons de_str (da_cons de_str (da_cons de_str (da_cons de_str (da_cons de_str (da_cons de_str (da_cons de_str (da_cons de_str (da_cons de_str da_nil))))))))))
    (dss_cons (ds_ownadd 13 sc_law.nd (de_v 13) (de_lst (da_cons de_str (da_cons de_str (da_cons de_str (da_cons de_str da_nil))))))
    (dss_cons (ds_append 13 de_str)
    (dss_cons (ds_append 13 (de_op od_add de_str (de_op od_muls de_str de_int)))
    (dss_cons (ds_if (dt_cmp (od_ne hr) (de_lc [14] rfl sc_law.nd (di_seq (de_v 13)) (blkOk_by (own := [("_law_row", 14)]) (N := n_law) (sc := defScope s_law) (by decide +kernel)) (fun _ _ _ _ _ => (dgw_v 14 sc_law.nd)) (fun _ _ _ _ _ => (dts_one (dt_cmp (od_ne hr) (dc h__law_tried wf_takes (hr.mono (by decide)) (da_cons (de_v 14) da_nil)) de_str (nomark _)))) (fun _ _ _ _ _ => (de_v 14))) (de_lst da_nil) (nomark _)) (dss_one (ds_ret de_bl)) dss_nil)
    (dss_one (ds_ret (de_cmp (od_eq hr) (dc h__law_tried tk (hr.mono (by decide)) (da_cons de_str da_nil)) (de_tup (da_cons de_int (da_cons de_int (da_cons (de_tup (da_cons (de_tup (da_cons de_str (da_cons de_int (da_cons de_int (da_cons de_int (da_cons (de_neg (de_op od_pow de_int de_int)) (da_cons (de_op od_pow de_int de_int) da_nil))))))) da_nil)) da_nil)))) (nomark _)))))))))), ?_⟩
  intro ns hns
  simp [toR1_ok (1 + min (ns.length : Int) 8) _ (by omega) (by omega)]
  generalize hf : forL _ _ _ _ = r
  let st : Option Sl × Option Sl × Option Sl × Option Sl × Option Sl × Option Sl × Option Sl × Option Sl × Option Sl × Option Sl → S := fun ⟨a1, a2, a3, a4, a5, a8, a9, a10, a11, a12⟩ =>
    ⟨[some (Sl.val (D.scr ns)), a1, a2, a3, a4, a5, none, none, a8, a9, a10, a11, a12, none, none], none⟩
  have key : ∃ a, r = .next (st a) ∧ True := by
    rw [← hf]; clear hf
    refine forL_st st (fun _ _ => True) (rngI 0 (1 + min (ns.length : Int) 8)) (none, none, none, none, none, none, none, none, none, none) trivial ?_
    rintro i d ⟨a1, a2, a3, a4, a5, a8, a9, a10, a11, a12⟩ hd -
    obtain ⟨ed, hd2⟩ := rngI_get hd
    rw [Int.zero_add] at ed hd2
    refine ⟨_, rfl, fun I hI => ?_⟩
    obtain ⟨v, e0, hv⟩ := po ns i (by omega) (by omega)
    simp [st, ed, asgO, e0, toR1_ok 2 _ (by omega) (by omega)]
    generalize hg : forL _ _ _ _ = r
    let st2 : List D × Option Sl × Option Sl × Option Sl × Option Sl × Option Sl × Option Sl × Option Sl → S := fun ⟨v, o3, o4, o5, o8, o9, o10, o11⟩ =>
      ⟨[some (Sl.val (D.scr ns)), some (Sl.val (D.int i)), some (Sl.own v), o3, o4, o5, none, none, o8, o9, o10, o11, a12, none, none], none⟩
    have key : ∃ a, r = .next (st2 a) ∧ (VOK a.1 ∧ (2 = 0 ∨ ∃ d x, a.2.2.1 = some (.val d) ∧ a.2.2.2.2.1 = some (.val (.str x)) ∧ plain d = true ∧ (∀ y, d ≠ .str y))) := by
      rw [← hg]; clear hg
      refine forL_st st2 (fun k a => VOK a.1 ∧ (k = 0 ∨ ∃ d x, a.2.2.1 = some (.val d) ∧ a.2.2.2.2.1 = some (.val (.str x)) ∧ plain d = true ∧ (∀ y, d ≠ .str y))) (rngI 0 2) (v, a3, a4, a5, a8, a9, a10, a11) ⟨hv, .inl rfl⟩ ?_
      rintro j d ⟨v, o3, o4, o5, o8, o9, o10, o11⟩ hd ⟨hv, -⟩
      dsimp only at hv
      obtain ⟨ed, hd2'⟩ := rngI_get hd
      rw [Int.zero_add] at ed hd2'
      subst ed
      refine ⟨_, rfl, fun I hI => ?_⟩
      obtain ⟨x, v1, e1, x0, x1, hv1⟩ := pd v 3 hv (by omega) (by omega)
      obtain ⟨y, v2, e2, y0, y1, hv2⟩ := pd v1 4 hv1 (by omega) (by omega)
      obtain ⟨ts, v3, e3, hvol, hv3⟩ := pv v2 (1 + x) (1 + y) 9 8 hv2 (by omega) (by omega) (by omega) (by omega) (by omega) (by omega) (by omega) (by omega)
      have r1 : 1 ≤ 1 + x := by omega
      have r3 : 1 + x ≤ 3 := by omega
      have p1 : 1 ≤ 1 + y := by omega
      have p4 : 1 + y ≤ 4 := by omega
      obtain ⟨r, hr⟩ : ∃ r, 1 + x = r := ⟨_, rfl⟩
      obtain ⟨p, hp⟩ : ∃ p, 1 + y = p := ⟨_, rfl⟩
      rw [hr] at r1 r3 e3 hvol
      rw [hp] at p1 p4 e3 hvol
      have er' : gStr [.int r] = some (.str (Str.ofString r.repr)) := gstr_int (by omega)
      have ep' : gStr [.int p] = some (.str (Str.ofString p.repr)) := gstr_int (by omega)
      have lr : (Str.ofString r.repr).length ≤ 10 := len_int (n := r) (by omega)
      have lp : (Str.ofString p.repr).length ≤ 10 := len_int (n := p) (by omega)
      have l1 : ("runs " : Str).length = 5 := by decide +kernel
      have l2 : (" " : Str).length = 1 := by decide +kernel
      have q1 : opAdd (.str "runs ") (.str (Str.ofString r.repr)) = some (.str (("runs " : Str) ++ Str.ofString r.repr)) := add_str (by omega)
      have q2 : opAdd (.str (("runs " : Str) ++ Str.ofString r.repr)) (.str " ") = some (.str (("runs " : Str) ++ Str.ofString r.repr ++ (" " : Str))) := add_str (by rw [app_len]; omega)
      have q3 : opAdd (.str (("runs " : Str) ++ Str.ofString r.repr ++ (" " : Str))) (.str (Str.ofString p.repr)) = some (.str (headOf r p)) := add_str (by rw [app_len, app_len]; omega)
      have hlen := hvol.len
      have okv : okd 58 (vol r p ts) = true := okd_le (n := 3) (by decide) (by
        simp only [vol, okd, List.all_cons, List.all_nil, Bool.and_true, Bool.true_and, List.all_eq_true]
        exact fun t ht => tells_okd (hvol.all t ht))
      have fit := vol_fits r1 r3 p1 p4 hvol
      obtain ⟨tj, tok⟩ := text_facts r1 r3 p1 p4 hvol
      have bt := px r p ts r1 r3 p1 p4 hvol okv fit
      have bb := book_back r1 r3 p1 p4 hvol
      have tt := pt.txt (textOf r p ts) tok.1 (by have := tok.2; omega)
      rw [bb] at tt
      dsimp only at tt
      have s1 : opNe (vol r p ts) (vol r p ts) = some (.bl false) := ne_self (okd_le (by decide) okv)
      have s2 : opNe (.str (textOf r p ts)) (.str (textOf r p ts)) = some (.bl false) := ne_self (by simpa [okd] using tok.1)
      have q4 : opAdd (.lst [.str (headOf r p)]) (.lst (ts.map fun t => .str (lnD t))) = some (.lst ((headOf r p :: linesD ts).map .str)) := by
        rw [add_lst (by simp; omega)]
        rw [lines_ln]
        simp
      simp [st2, e1, e2, hr, hp, e3]
      have i0 : opIx (vol r p ts) (.int 0) = some (.int r) := rfl
      have i1 : opIx (vol r p ts) (.int 1) = some (.int p) := rfl
      have i2 : opIx (vol r p ts) (.int 2) = some (.tup ts) := rfl
      simp [i2]
      generalize hc : compL _ _ _ _ _ _ _ = q
      have key : q = .ok (ts.map fun t => .str (lnD t)) ⟨[some (Sl.val (D.scr ns)), some (Sl.val (D.int i)), some (Sl.own v3), some (Sl.val (D.int j)), some (Sl.val (vol r p ts)), o5, none, none, o8, o9, o10, o11, a12, none, none], none⟩ := by
        rw [← hc]
        clear hc
        refine compL_each _ _ ts ?_
        intro t ht
        obtain ⟨l, rfl, hl⟩ := each_tup hvol t ht
        obtain ⟨h6, hi⟩ := items_ok r3 p4 hl
        have jn := (line_facts r3 p4 hl).2.1
        refine ⟨_, rfl, rfl, ?_, rfl⟩
        simp
        rw [compL_each (h := fun d => .str (itemS d))]
        · simp [jn, lnD]
        · intro d hd
          refine ⟨_, rfl, rfl, ?_, rfl⟩
          simp [(hi d hd).1]
      clear hc
      subst key
      rw [List.map_cons] at q4 tj
      have c0 : ∀ s, callP m0 1 [vol r p ts] s = .ok (.str (textOf r p ts)) s := fun s => by simp [callP, bt]
      have c3 : ∀ s, callP m3 1 [.str (textOf r p ts)] s = .ok (vol r p ts) s := fun s => by simp [callP, tt]
      simp [i0, i1, er', ep', q1, q2, q3, q4, tj, c0, c3, s1, s2, toR1_ok 16 _ (by omega) (by omega)]
      generalize textOf r p ts = z at tok
      generalize hg : forL _ _ _ _ = rr
      let st3 : List D × Str × Option Sl × Option Sl → S := fun ⟨v, x, o10, o11⟩ =>
        ⟨[some (Sl.val (D.scr ns)), some (Sl.val (D.int i)), some (Sl.own v), some (Sl.val (D.int j)), some (Sl.val (vol r p ts)), some (Sl.val (.lst (ts.map fun t => .str (lnD t)))), none, none, some (Sl.val (.str z)), some (Sl.val (.str x)), o10, o11, a12, none, none], none⟩
      have key : ∃ a, rr = .next (st3 a) ∧ (VOK a.1 ∧ TOK a.2.1) := by
        rw [← hg]; clear hg
        refine forL_st st3 (fun _ a => VOK a.1 ∧ TOK a.2.1) (rngI 0 16) (v3, z, o10, o11) ⟨hv3, tok⟩ ?_
        rintro k d ⟨v, x, q10, q11⟩ hd ⟨hv, hx⟩
        dsimp only at hv hx
        obtain ⟨ed, hd3⟩ := rngI_get hd
        rw [Int.zero_add] at ed hd3
        subst ed
        refine ⟨_, rfl, fun I hI => ?_⟩
        by_cases h3 : (k : Int) % 3 = 0
        · obtain ⟨y, w1, f1, hy, hw1⟩ := pb v z hv tok
          have g1 := tried_c pt hy
          have g2 := read_c pr hy
          cases hb : bookP y with
          | none =>
            simp only [hb, Option.getD_none, Option.getD_some] at g1 g2
            simp [st3, modL, mod_pos, h3, f1, g1, g2, okD, isn_non, ne_self ok_text]
            exact hI (w1, y, _, _) ⟨hw1, hy⟩
          | some d =>
            simp only [hb, Option.getD_none, Option.getD_some] at g1 g2
            have od := bookP_okd hy.1 hb
            obtain ⟨xs, rfl⟩ := bookP_tup hb
            simp [st3, modL, mod_pos, h3, f1, g1, g2, okD, isn_tup, ne_self od]
            exact hI (w1, y, _, _) ⟨hw1, hy⟩
        · obtain ⟨y, w1, f1, hy, hw1⟩ := pb v x hv hx
          have g1 := tried_c pt hy
          have g2 := read_c pr hy
          cases hb : bookP y with
          | none =>
            simp only [hb, Option.getD_none, Option.getD_some] at g1 g2
            simp [st3, modL, mod_pos, h3, f1, g1, g2, okD, isn_non, ne_self ok_text]
            exact hI (w1, y, _, _) ⟨hw1, hy⟩
          | some d =>
            simp only [hb, Option.getD_none, Option.getD_some] at g1 g2
            have od := bookP_okd hy.1 hb
            obtain ⟨xs, rfl⟩ := bookP_tup hb
            simp [st3, modL, mod_pos, h3, f1, g1, g2, okD, isn_tup, ne_self od]
            exact hI (w1, y, _, _) ⟨hw1, hy⟩
      obtain ⟨⟨v4, x4, q10, q11⟩, rfl, hv4, -⟩ := key
      simp [st3]
      exact hI (v4, _, _, _, _, _, _, _) ⟨hv4, .inr ⟨_, _, rfl, rfl, rfl, fun y z => by cases z⟩⟩
    obtain ⟨⟨v4, o3, o4, o5, o8, o9, o10, o11⟩, rfl, hv4, h0 | ⟨d4, x4, rfl, rfl, hp4, hn4⟩⟩ := key
    · cases h0
    simp [st2]
    generalize hg : forL _ _ _ _ = rr
    have key : ∃ a, rr = .next (st (some (.val (.int i)), some (.own v4), o3, some (.val d4), o5, some (.val (.str x4)), o9, o10, o11, a)) ∧ True := by
      rw [← hg]; clear hg
      refine forL_st (fun a => st (some (.val (.int i)), some (.own v4), o3, some (.val d4), o5, some (.val (.str x4)), o9, o10, o11, a)) (fun _ _ => True) _ a12 trivial ?_
      rintro k d a hd -
      have hm := List.mem_of_getElem? hd
      have hd' : plain d = true ∧ ∀ x, d ≠ .str x := by
        simp only [List.mem_cons, List.not_mem_nil, or_false] at hm
        rcases hm with rfl | rfl | rfl | rfl | rfl | rfl
        · exact ⟨rfl, fun x z => by cases z⟩
        · exact ⟨rfl, fun x z => by cases z⟩
        · exact ⟨rfl, fun x z => by cases z⟩
        · exact ⟨rfl, fun x z => by cases z⟩
        · exact ⟨rfl, fun x z => by cases z⟩
        · exact ⟨hp4, hn4⟩
      have g1 := odd_c pt hd'.1 hd'.2
      refine ⟨_, rfl, fun I hI => ?_⟩
      simp [st, g1, ne_self ok_text]
      exact hI _ trivial
    obtain ⟨a, rfl, -⟩ := key
    simp
    exact hI (some (.val (.int i)), some (.own v4), o3, some (.val d4), o5, some (.val (.str x4)), o9, o10, o11, a) trivial
  obtain ⟨⟨a1, a2, a3, a4, a5, a8, a9, a10, a11, a12⟩, rfl, -⟩ := key
  have s9 : 9 ≤ sizeLine := by decide +kernel
  have s13 : 13 ≤ sizeLine := by decide +kernel
  have l13 : 13 < sizeLine := by decide +kernel
  have l14 : 14 < sizeLine := by decide +kernel
  have mu : opMulS (.str "\nspan 0 0 1 0 5") (.int 9) = some (.str (Txt.mul "\nspan 0 0 1 0 5" 9)) := mul_str ⟨by decide, fun _ _ => by decide +kernel, fun _ _ => by decide +kernel⟩
  have ad : opAdd (.str "runs 1 1") (.str (Txt.mul "\nspan 0 0 1 0 5" 9)) = some (.str ("runs 1 1" ++ Txt.mul "\nspan 0 0 1 0 5" 9)) := add_str (by decide +kernel)
  simp [st, s9, s13, l13, l14, addO, apnd, isOwn, mu, ad]
  generalize hc : compL _ _ _ _ _ _ _ = q
  have key : q = .ok [] ⟨[some (Sl.val (D.scr ns)), a1, a2, a3, a4, a5, none, none, a8, a9, a10, a11, a12, some (Sl.val (.lst (rowsT.map .str))), none], none⟩ := by
    rw [← hc]
    clear hc
    refine (compL_map (ds := rowsT.map .str) (tb := fun _ => false) (fd := fun d => d) _ _ ?_).trans ?_
    · intro d hd
      obtain ⟨x, hx, rfl⟩ := List.mem_map.mp hd
      have h3 := List.all_eq_true.mp rowsT_none x hx
      simp only [Bool.and_eq_true, decide_eq_true_eq] at h3
      have g1 := tried_c pt (x := x) ⟨h3.1.2, h3.2⟩
      have hb : bookP x = none := by
        cases z : bookP x with
        | none => rfl
        | some d => rw [z] at h3; simp at h3
      simp only [hb, Option.getD_none] at g1
      refine ⟨_, rfl, ?_, (fun z => by cases z), rfl⟩
      simp [g1, ne_self ok_text]
    · rw [List.filter_eq_nil_iff.mpr (by simp)]
      rfl
  clear hc
  subst key
  have gt : TOK "runs 2 1\ngap 0 1 1 -1000000 1000000" := by unfold TOK; decide +kernel
  have g2 := tried_c pt gt
  rw [gap_some] at g2
  have go := bookP_okd gt.1 gap_some
  have nn : opNe (.lst []) (.lst []) = some (.bl false) := ne_self (by simp [okd])
  simp [g2, nn, eq_self go]
end
end K10

namespace K10
open PySem PySem.Spec PyProof.Rows L2 DL
abbrev p__law_word : List Str := ["_law_call"]
abbrev p__law_tried : List Str := ["_law_value"]
theorem hw_of {K : PySem.W.Frag} {mg : Str → Option Value} (c14 : Cl14 mg)
    (e0 : PySem.W.exmOne K (.ref c14.c_InvalidText) (.ref c14.c_InvalidBook) = some false)
    (e1 : PySem.W.exmOne K (.ref c14.c_InvalidText) (.ref c14.c_InvalidRun) = some false)
    (e2 : PySem.W.exmOne K (.ref c14.c_InvalidText) (.ref c14.c_InvalidMark) = some false)
    (e3 : PySem.W.exmOne K (.ref c14.c_InvalidText) (.ref c14.c_InvalidTime) = some false)
    (e4 : PySem.W.exmOne K (.ref c14.c_InvalidText) (.ref c14.c_InvalidTelling) = some false)
    (e5 : PySem.W.exmOne K (.ref c14.c_InvalidText) (.ref c14.c_InvalidTruth) = some false)
    (e6 : PySem.W.exmOne K (.ref c14.c_InvalidText) (.ref c14.c_InvalidPaper) = some false)
    (e7 : PySem.W.exmOne K (.ref c14.c_InvalidText) (.ref c14.c_InvalidIndex) = some false)
    (e8 : PySem.W.exmOne K (.ref c14.c_InvalidText) (.ref c14.c_InvalidText) = some true)
    : ∀ n w C, wdT n = some w → mg n = some (.ref C) → wdOf K (.ref C) c14.l = some w := by
  intro n w C h m
  unfold wdT at h
  by_cases h_InvalidText : n = "InvalidText"
  · subst h_InvalidText
    have : c14.c_InvalidText = C := by have := c14.g_InvalidText.symm.trans m; cases this; rfl
    subst this
    first
      | (simp at h; subst h; unfold Cl14.l; simp only [wdOf, e0, e1, e2, e3, e4, e5, e6, e7, e8])
      | (rw [if_pos rfl] at h; cases h; unfold Cl14.l; simp only [wdOf, e0, e1, e2, e3, e4, e5, e6, e7, e8])
  simp_all
theorem all_mk {l : PySem.W.OpenLaw} {w : World} {K : PySem.W.Frag} {h : Heap} {mg : Str → Option Value} {fa : Addr} (X : K.In h) (G : h.Ns mainGlobals mg) (hfa : mg "law" = some (.ref fa)) (B : Bl mg)
    {C_InvalidText : Addr} (X_InvalidText : ExC K mg "InvalidText" C_InvalidText)
    {c_InvalidBook : Addr} (g_InvalidBook : mg "InvalidBook" = some (.ref c_InvalidBook))
    {c_InvalidRun : Addr} (g_InvalidRun : mg "InvalidRun" = some (.ref c_InvalidRun))
    {c_InvalidMark : Addr} (g_InvalidMark : mg "InvalidMark" = some (.ref c_InvalidMark))
    {c_InvalidTime : Addr} (g_InvalidTime : mg "InvalidTime" = some (.ref c_InvalidTime))
    {c_InvalidTelling : Addr} (g_InvalidTelling : mg "InvalidTelling" = some (.ref c_InvalidTelling))
    {c_InvalidTruth : Addr} (g_InvalidTruth : mg "InvalidTruth" = some (.ref c_InvalidTruth))
    {c_InvalidPaper : Addr} (g_InvalidPaper : mg "InvalidPaper" = some (.ref c_InvalidPaper))
    {c_InvalidIndex : Addr} (g_InvalidIndex : mg "InvalidIndex" = some (.ref c_InvalidIndex))
    {c_InvalidText : Addr} (g_InvalidText : mg "InvalidText" = some (.ref c_InvalidText))
    {c_NoTruth : Addr} (g_NoTruth : mg "NoTruth" = some (.ref c_NoTruth))
    {c_Unlike : Addr} (g_Unlike : mg "Unlike" = some (.ref c_Unlike))
    {c_NothingToUndo : Addr} (g_NothingToUndo : mg "NothingToUndo" = some (.ref c_NothingToUndo))
    {c_TooMany : Addr} (g_TooMany : mg "TooMany" = some (.ref c_TooMany))
    {c_SplitError : Addr} (g_SplitError : mg "SplitError" = some (.ref c_SplitError))
    (e0 : PySem.W.exmOne K (.ref c_InvalidText) (.ref c_InvalidBook) = some false)
    (e1 : PySem.W.exmOne K (.ref c_InvalidText) (.ref c_InvalidRun) = some false)
    (e2 : PySem.W.exmOne K (.ref c_InvalidText) (.ref c_InvalidMark) = some false)
    (e3 : PySem.W.exmOne K (.ref c_InvalidText) (.ref c_InvalidTime) = some false)
    (e4 : PySem.W.exmOne K (.ref c_InvalidText) (.ref c_InvalidTelling) = some false)
    (e5 : PySem.W.exmOne K (.ref c_InvalidText) (.ref c_InvalidTruth) = some false)
    (e6 : PySem.W.exmOne K (.ref c_InvalidText) (.ref c_InvalidPaper) = some false)
    (e7 : PySem.W.exmOne K (.ref c_InvalidText) (.ref c_InvalidIndex) = some false)
    (e8 : PySem.W.exmOne K (.ref c_InvalidText) (.ref c_InvalidText) = some true)
    (T_is_int : There K mg "is_int" s_is_int p_is_int)
    (T_tells : There K mg "tells" s_tells p_tells)
    (T_fits : There K mg "fits" s_fits p_fits)
    (T_need_book : There K mg "need_book" s_need_book p_need_book)
    (T_is_book : There K mg "is_book" s_is_book p_is_book)
    (T_law_drop : There K mg "_law_drop" s__law_drop p__law_drop)
    (T_law_some : There K mg "_law_some" s__law_some p__law_some)
    (T_law_spoken : There K mg "_law_spoken" s__law_spoken p__law_spoken)
    (T_law_times : There K mg "_law_times" s__law_times p__law_times)
    (T_law_volume : There K mg "_law_volume" s__law_volume p__law_volume)
    (T_law_vial_of : There K mg "_law_vial_of" s__law_vial_of p__law_vial_of)
    (T_integer_in : There K mg "integer_in" s_integer_in p_integer_in)
    (T_law_number : There K mg "_law_number" s__law_number p__law_number)
    (T_book_in : There K mg "book_in" s_book_in p_book_in)
    (T_read_book : There K mg "read_book" s_read_book p_read_book)
    (T_law_read : There K mg "_law_read" s__law_read p__law_read)
    (T_text_of : There K mg "text_of" s_text_of p_text_of)
    (T_book_text : There K mg "book_text" s_book_text p_book_text)
    (T_law_bent : There K mg "_law_bent" s__law_bent p__law_bent)
    {f_law_tried cc_law_tried Pt_law_tried : Addr} {oc_law_tried kV_law_tried doc_law_tried pm_law_tried ct_law_tried : Value} {od_law_tried an_law_tried : Option Addr} {osl_law_tried : Array (Option Value)} (a_law_tried : PySem.W.nsIn K mainGlobals "_law_tried" = some (some (.ref f_law_tried)))
    (lk_law_tried : K.lookup f_law_tried = some ⟨oc_law_tried, od_law_tried, .func (PySem.W.fnOf "_law_tried" "_law_tried" (defArgs s__law_tried) (defBody s__law_tried) (defScope s__law_tried) .none kV_law_tried doc_law_tried pm_law_tried an_law_tried (.ref cc_law_tried) ct_law_tried), osl_law_tried⟩) (cd_law_tried : PySem.W.codeIn K (.ref cc_law_tried) "_law_tried" = true) (kp_law_tried : PySem.W.keepIn K (.ref f_law_tried) = true)
    {ec_law_tried : Value} {dc_law_tried : Option Addr} {vc_law_tried : Array Value} {sc_law_tried : Array (Option Value)} (lc_law_tried : K.lookup cc_law_tried = some ⟨ec_law_tried, dc_law_tried, .fields vc_law_tried, sc_law_tried⟩) (vp_law_tried : vc_law_tried[11]? = some (.ref Pt_law_tried)) (np_law_tried : K.lookup Pt_law_tried = none) (hh_law_tried : PySem.W.codeHdIn K cc_law_tried Pt_law_tried = true)
    (hT_law_tried : (Pt_law_tried, ("_law_tried.<locals>.<lambda>" : Str)) ∈ lamT) (hu_law_tried : ∀ p ∈ lamT, p.1 = Pt_law_tried → p.2 = "_law_tried.<locals>.<lambda>")
    {f_law_word : Addr} {oc_law_word kV_law_word doc_law_word pm_law_word ct_law_word cdv_law_word : Value} {od_law_word an_law_word : Option Addr} {osl_law_word : Array (Option Value)} (a_law_word : PySem.W.nsIn K mainGlobals "_law_word" = some (some (.ref f_law_word)))
    (lk_law_word : K.lookup f_law_word = some ⟨oc_law_word, od_law_word, .func (PySem.W.fnOf "_law_word" "_law_word" (defArgs s__law_word) (defBody s__law_word) (defScope s__law_word) .none kV_law_word doc_law_word pm_law_word an_law_word cdv_law_word ct_law_word), osl_law_word⟩) (cd_law_word : PySem.W.codeIn K cdv_law_word "_law_word" = true) (kp_law_word : PySem.W.keepIn K (.ref f_law_word) = true)
    {f_law : Addr} {oc_law kV_law doc_law pm_law ct_law cdv_law : Value} {od_law an_law : Option Addr} {osl_law : Array (Option Value)} (a_law : PySem.W.nsIn K mainGlobals "law" = some (some (.ref f_law)))
    (lk_law : K.lookup f_law = some ⟨oc_law, od_law, .func (PySem.W.fnOf "law" "law" (defArgs s_law) (defBody s_law) (defScope s_law) .none kV_law doc_law pm_law an_law cdv_law ct_law), osl_law⟩) (cd_law : PySem.W.codeIn K cdv_law "law" = true) (kp_law : PySem.W.keepIn K (.ref f_law) = true)
    (hTall : ∀ p ∈ lamT, p.1 = Pt_law_tried)
    (own : ∀ y ∈ [("_law_tried" : Str)], ∀ fy, mg y = some (.ref fy) → LamX.OwnTab K fy h) :
    LamX.LawAtS l w K (L2.CX l.prog w) 9 63 "_law_script" mg fa h := by
  have e := hfa.symm.trans (PySem.W.mg_of X G a_law)
  cases e
  have emp_law_tried := own "_law_tried" (by simp) f_law_tried (PySem.W.mg_of X G a_law_tried) cc_law_tried Pt_law_tried _ _ _ _ _ _ lk_law_tried rfl rfl lc_law_tried vp_law_tried
  refine ⟨(PySem.W.fnOf "law" "law" (defArgs s_law) (defBody s_law) (defScope s_law) .none kV_law doc_law pm_law an_law cdv_law ct_law), [(cc_law_tried, Pt_law_tried)], spLaw K, ?_, ?_, ?_, fun s v => .of_eq rfl, fun H a ns hl _ ht hs => ⟨a, ns, rfl, hs, hl, fun p hp => ?_, fun _ => rfl⟩, fun base Kb nsb TB => ?_⟩
  · intro p hp
    simp only [List.mem_cons, List.not_mem_nil, or_false] at hp
    rcases hp with rfl
    · exact emp_law_tried
  · intro p hp
    simp only [List.mem_cons, List.not_mem_nil, or_false] at hp
    rcases hp with rfl
    · exact np_law_tried
  · intro p hp
    simp only [List.mem_cons, List.not_mem_nil, or_false] at hp
    rcases hp with rfl
    · exact PySem.W.codeHd_of_K X hh_law_tried
  · rcases hTall p hp with q
    · exact ⟨#[], by rw [q]; exact ht (cc_law_tried, Pt_law_tried) (by simp), trivial, fun pos cv hc => nomatch hc⟩
  · have hw := hw_of (K := K) (⟨c_InvalidBook, g_InvalidBook, c_InvalidRun, g_InvalidRun, c_InvalidMark, g_InvalidMark, c_InvalidTime, g_InvalidTime, c_InvalidTelling, g_InvalidTelling, c_InvalidTruth, g_InvalidTruth, c_InvalidPaper, g_InvalidPaper, c_InvalidIndex, g_InvalidIndex, c_InvalidText, g_InvalidText, c_NoTruth, g_NoTruth, c_Unlike, g_Unlike, c_NothingToUndo, g_NothingToUndo, c_TooMany, g_TooMany, c_SplitError, g_SplitError⟩ : Cl14 mg) e0 e1 e2 e3 e4 e5 e6 e7 e8
    have Sw := stand_of (ps := p__law_word) X G a_law_word lk_law_word cd_law_word kp_law_word fun _ _ _ _ _ _ us hl => match us, hl with | [_], _ => rfl
    have S := stand_of (ps := p_law) X G a_law lk_law cd_law kp_law fun _ _ _ _ _ _ us hl => match us, hl with | [_], _ => rfl
    have TB_law_tried := TB (cc_law_tried, Pt_law_tried) (by simp)
    have S_law_tried := stand_of (ps := p__law_tried) X G a_law_tried lk_law_tried cd_law_tried kp_law_tried fun _ _ _ _ _ _ us hl => match us, hl with | [_], _ => rfl
    have h_is_int := ok_is_int (P := l.prog) (w := w) (base := base) B T_is_int
    have h_tells := ok_tells B h_is_int T_tells
    have h_fits := ok_fits B h_is_int h_tells T_fits
    have h_need_book := ok_need_book B h_fits T_need_book
    have h_is_book := ok_is_book B h_fits T_is_book
    have h__law_drop := ok__law_drop (P := l.prog) (w := w) (base := base) B T_law_drop
    have h__law_some := ok__law_some B h__law_drop T_law_some
    have h__law_spoken := ok__law_spoken B h__law_drop h__law_some T_law_spoken
    have h__law_times := ok__law_times B h__law_drop T_law_times
    have h__law_volume := ok__law_volume B h__law_drop h__law_times h__law_spoken T_law_volume
    have h__law_vial_of := ok__law_vial_of (P := l.prog) (w := w) (base := base) B T_law_vial_of
    have h_integer_in := ok_integer_in (P := l.prog) (w := w) (base := base) B T_integer_in
    have h__law_number := ok__law_number (P := l.prog) (w := w) (base := base) B T_law_number
    have h_book_in := ok_book_in B (⟨C_InvalidText, X_InvalidText⟩ : Xl K mg) h_integer_in h_fits T_book_in
    have h_read_book := ok_read_book B h_book_in T_read_book
    have h__law_read := ok__law_read B h__law_number h_is_book T_law_read
    have h_text_of := ok_text_of (P := l.prog) (w := w) (base := base) B T_text_of
    have h_book_text := ok_book_text B h_text_of h_need_book T_book_text
    have h__law_bent := ok__law_bent B h__law_drop h__law_some T_law_bent
    obtain ⟨m_law_tried, F_law_tried, P_law_tried⟩ := ok__law_tried (P := l.prog) (w := w) (base := base) (⟨c_InvalidBook, g_InvalidBook, c_InvalidRun, g_InvalidRun, c_InvalidMark, g_InvalidMark, c_InvalidTime, g_InvalidTime, c_InvalidTelling, g_InvalidTelling, c_InvalidTruth, g_InvalidTruth, c_InvalidPaper, g_InvalidPaper, c_InvalidIndex, g_InvalidIndex, c_InvalidText, g_InvalidText, c_NoTruth, g_NoTruth, c_Unlike, g_Unlike, c_NothingToUndo, g_NothingToUndo, c_TooMany, g_TooMany, c_SplitError, g_SplitError⟩ : Cl14 mg) h_read_book.choose_spec.2 h_read_book.choose_spec.1 lk_law_tried cd_law_tried (PySem.W.mg_of X G a_law_word) kp_law_word lk_law_word cd_law_word Sw.b hw TB_law_tried hT_law_tried hu_law_tried
    have h__law_tried := (⟨m_law_tried, ⟨f_law_tried, _, F_law_tried, S_law_tried.g, S_law_tried.F.kp, S_law_tried.b⟩, P_law_tried⟩ : ∃ m, Has l.prog w K mg base 8 "_law_tried" ["_law_value"] m ∧ P_tried m)
    obtain ⟨m, F, hm⟩ := ok_law B h_book_text h__law_tried h__law_read h__law_drop h__law_volume h__law_vial_of h__law_bent S
    exact law_has rfl F hm
end K10
open PySem PySem.W PyProof.Rows
set_option maxHeartbeats 0 in
theorem PySem.Challenge.cw_runsplits_k10_texts_of_books_holds : PySem.Challenge.rw_runsplits_k10_texts_of_books.Holds := by
  w_on; o_law; k_head; (case hw => w_witness2)
  k_fill
  refine DL.walk_ofTabs (l := PySem.Challenge.rw_runsplits_k10_texts_of_books) (n := 63) (k := 9) (x := "_law_script") (CX := fun w => L2.CX (PySem.Challenge.rw_runsplits_k10_texts_of_books).prog w) ["_law_tried"] rfl (by decide) rfl ⟨rfl, by decide, by decide⟩ (by intro y hy; simp only [List.mem_cons, List.not_mem_nil, or_false] at hy; rcases hy with rfl <;> kernel_rfl) (fun w h Y => PySem.W.km_in_of Y) ?F (fun _ _ _ _ _ h => DL.cx_none h)
  case F =>
    intro w mg fa h Y KX G hmg own
    refine' K10.all_mk KX G hmg ?B ?yx0 (PySem.W.mg_of KX G ?ye0) (PySem.W.mg_of KX G ?ye1) (PySem.W.mg_of KX G ?ye2) (PySem.W.mg_of KX G ?ye3) (PySem.W.mg_of KX G ?ye4) (PySem.W.mg_of KX G ?ye5) (PySem.W.mg_of KX G ?ye6) (PySem.W.mg_of KX G ?ye7) (PySem.W.mg_of KX G ?ye8) (PySem.W.mg_of KX G ?ye9) (PySem.W.mg_of KX G ?ye10) (PySem.W.mg_of KX G ?ye11) (PySem.W.mg_of KX G ?ye12) (PySem.W.mg_of KX G ?ye13) ?ym0 ?ym1 ?ym2 ?ym3 ?ym4 ?ym5 ?ym6 ?ym7 ?ym8 ?T0 ?T1 ?T2 ?T3 ?T4 ?T5 ?T6 ?T7 ?T8 ?T9 ?T10 ?T11 ?T12 ?T13 ?T14 ?T15 ?T16 ?T17 ?T18 ?a_law_tried ?lk_law_tried ?cd_law_tried ?kp_law_tried ?lc_law_tried ?vp_law_tried ?np_law_tried ?hh_law_tried ?hT_law_tried ?hu_law_tried ?a_law_word ?lk_law_word ?cd_law_word ?kp_law_word ?a_law ?lk_law ?cd_law ?kp_law ?hTall own
    case B =>
      refine' K10.Bl.mk ?b0 ?b1 ?b2 ?b3 ?b4 ?b5 ?b6 ?b7 ?b8 ?b9 ?b10 ?b11 ?b12 ?b13 ?b14 ?b15 ?b16
      case b0 => refine' PySem.W.mg_none_of KX G ?_; k_is
      case b1 => refine' PySem.W.mg_none_of KX G ?_; k_is
      case b2 => refine' PySem.W.mg_none_of KX G ?_; k_is
      case b3 => refine' PySem.W.mg_none_of KX G ?_; k_is
      case b4 => refine' PySem.W.mg_none_of KX G ?_; k_is
      case b5 => refine' PySem.W.mg_none_of KX G ?_; k_is
      case b6 => refine' PySem.W.mg_none_of KX G ?_; k_is
      case b7 => refine' PySem.W.mg_none_of KX G ?_; k_is
      case b8 => refine' PySem.W.mg_none_of KX G ?_; k_is
      case b9 => refine' PySem.W.mg_none_of KX G ?_; k_is
      case b10 => refine' PySem.W.mg_none_of KX G ?_; k_is
      case b11 => refine' PySem.W.mg_none_of KX G ?_; k_is
      case b12 => refine' DL.gint_of KX G ?e; (case e => k_is)
      case b13 => refine' DL.gint_of KX G ?e; (case e => k_is)
      case b14 => refine' DL.gint_of KX G ?e; (case e => k_is)
      case b15 => refine' DL.gint_of KX G ?e; (case e => k_is)
      case b16 => refine' DL.gint_of KX G ?e; (case e => k_is)
    case yx0 =>
      refine' DL.ExC.mk (PySem.W.mg_of KX G ?yg) ?yq ?yk ?yb ?yt
      (case yg => k_is); (case yq => k_exc); (case yk => k_is); (case yb => k_is); (case yt => k_is)
    (case ye0 => k_is)
    (case ye1 => k_is)
    (case ye2 => k_is)
    (case ye3 => k_is)
    (case ye4 => k_is)
    (case ye5 => k_is)
    (case ye6 => k_is)
    (case ye7 => k_is)
    (case ye8 => k_is)
    (case ye9 => k_is)
    (case ye10 => k_is)
    (case ye11 => k_is)
    (case ye12 => k_is)
    (case ye13 => k_is)
    case ym0 =>
      refine' PySem.W.exm_ref ?yq1 ?yq2 ?yq3 ?yq4
      (case yq1 => k_is); (case yq2 => k_is); (case yq3 => k_is); (case yq4 => k_is)
    case ym1 =>
      refine' PySem.W.exm_ref ?yq1 ?yq2 ?yq3 ?yq4
      (case yq1 => k_is); (case yq2 => k_is); (case yq3 => k_is); (case yq4 => k_is)
    case ym2 =>
      refine' PySem.W.exm_ref ?yq1 ?yq2 ?yq3 ?yq4
      (case yq1 => k_is); (case yq2 => k_is); (case yq3 => k_is); (case yq4 => k_is)
    case ym3 =>
      refine' PySem.W.exm_ref ?yq1 ?yq2 ?yq3 ?yq4
      (case yq1 => k_is); (case yq2 => k_is); (case yq3 => k_is); (case yq4 => k_is)
    case ym4 =>
      refine' PySem.W.exm_ref ?yq1 ?yq2 ?yq3 ?yq4
      (case yq1 => k_is); (case yq2 => k_is); (case yq3 => k_is); (case yq4 => k_is)
    case ym5 =>
      refine' PySem.W.exm_ref ?yq1 ?yq2 ?yq3 ?yq4
      (case yq1 => k_is); (case yq2 => k_is); (case yq3 => k_is); (case yq4 => k_is)
    case ym6 =>
      refine' PySem.W.exm_ref ?yq1 ?yq2 ?yq3 ?yq4
      (case yq1 => k_is); (case yq2 => k_is); (case yq3 => k_is); (case yq4 => k_is)
    case ym7 =>
      refine' PySem.W.exm_ref ?yq1 ?yq2 ?yq3 ?yq4
      (case yq1 => k_is); (case yq2 => k_is); (case yq3 => k_is); (case yq4 => k_is)
    case ym8 =>
      refine' PySem.W.exm_ref ?yq1 ?yq2 ?yq3 ?yq4
      (case yq1 => k_is); (case yq2 => k_is); (case yq3 => k_is); (case yq4 => k_is)
    case T0 =>
      refine' DL.there_of KX G ?yq1 ?yq2 ?yq3 ?yq4 (fun _ _ _ _ _ _ us hl => match us, hl with | [_, _, _], _ => rfl)
      (case yq1 => k_is); (case yq2 => k_is); (case yq3 => k_is); (case yq4 => k_is)
    case T1 =>
      refine' DL.there_of KX G ?yq1 ?yq2 ?yq3 ?yq4 (fun _ _ _ _ _ _ us hl => match us, hl with | [_, _, _], _ => rfl)
      (case yq1 => k_is); (case yq2 => k_is); (case yq3 => k_is); (case yq4 => k_is)
    case T2 =>
      refine' DL.there_of KX G ?yq1 ?yq2 ?yq3 ?yq4 (fun _ _ _ _ _ _ us hl => match us, hl with | [_], _ => rfl)
      (case yq1 => k_is); (case yq2 => k_is); (case yq3 => k_is); (case yq4 => k_is)
    case T3 =>
      refine' DL.there_of KX G ?yq1 ?yq2 ?yq3 ?yq4 (fun _ _ _ _ _ _ us hl => match us, hl with | [_], _ => rfl)
      (case yq1 => k_is); (case yq2 => k_is); (case yq3 => k_is); (case yq4 => k_is)
    case T4 =>
      refine' DL.there_of KX G ?yq1 ?yq2 ?yq3 ?yq4 (fun _ _ _ _ _ _ us hl => match us, hl with | [_], _ => rfl)
      (case yq1 => k_is); (case yq2 => k_is); (case yq3 => k_is); (case yq4 => k_is)
    case T5 =>
      refine' DL.there_of KX G ?yq1 ?yq2 ?yq3 ?yq4 (fun _ _ _ _ _ _ us hl => match us, hl with | [_, _], _ => rfl)
      (case yq1 => k_is); (case yq2 => k_is); (case yq3 => k_is); (case yq4 => k_is)
    case T6 =>
      refine' DL.there_of KX G ?yq1 ?yq2 ?yq3 ?yq4 (fun _ _ _ _ _ _ us hl => match us, hl with | [_, _], _ => rfl)
      (case yq1 => k_is); (case yq2 => k_is); (case yq3 => k_is); (case yq4 => k_is)
    case T7 =>
      refine' DL.there_of KX G ?yq1 ?yq2 ?yq3 ?yq4 (fun _ _ _ _ _ _ us hl => match us, hl with | [_, _, _, _], _ => rfl)
      (case yq1 => k_is); (case yq2 => k_is); (case yq3 => k_is); (case yq4 => k_is)
    case T8 =>
      refine' DL.there_of KX G ?yq1 ?yq2 ?yq3 ?yq4 (fun _ _ _ _ _ _ us hl => match us, hl with | [_, _, _, _], _ => rfl)
      (case yq1 => k_is); (case yq2 => k_is); (case yq3 => k_is); (case yq4 => k_is)
    case T9 =>
      refine' DL.there_of KX G ?yq1 ?yq2 ?yq3 ?yq4 (fun _ _ _ _ _ _ us hl => match us, hl with | [_, _, _, _, _], _ => rfl)
      (case yq1 => k_is); (case yq2 => k_is); (case yq3 => k_is); (case yq4 => k_is)
    case T10 =>
      refine' DL.there_of KX G ?yq1 ?yq2 ?yq3 ?yq4 (fun _ _ _ _ _ _ us hl => match us, hl with | [_, _], _ => rfl)
      (case yq1 => k_is); (case yq2 => k_is); (case yq3 => k_is); (case yq4 => k_is)
    case T11 =>
      refine' DL.there_of KX G ?yq1 ?yq2 ?yq3 ?yq4 (fun _ _ _ _ _ _ us hl => match us, hl with | [_], _ => rfl)
      (case yq1 => k_is); (case yq2 => k_is); (case yq3 => k_is); (case yq4 => k_is)
    case T12 =>
      refine' DL.there_of KX G ?yq1 ?yq2 ?yq3 ?yq4 (fun _ _ _ _ _ _ us hl => match us, hl with | [_], _ => rfl)
      (case yq1 => k_is); (case yq2 => k_is); (case yq3 => k_is); (case yq4 => k_is)
    case T13 =>
      refine' DL.there_of KX G ?yq1 ?yq2 ?yq3 ?yq4 (fun _ _ _ _ _ _ us hl => match us, hl with | [_], _ => rfl)
      (case yq1 => k_is); (case yq2 => k_is); (case yq3 => k_is); (case yq4 => k_is)
    case T14 =>
      refine' DL.there_of KX G ?yq1 ?yq2 ?yq3 ?yq4 (fun _ _ _ _ _ _ us hl => match us, hl with | [_], _ => rfl)
      (case yq1 => k_is); (case yq2 => k_is); (case yq3 => k_is); (case yq4 => k_is)
    case T15 =>
      refine' DL.there_of KX G ?yq1 ?yq2 ?yq3 ?yq4 (fun _ _ _ _ _ _ us hl => match us, hl with | [_], _ => rfl)
      (case yq1 => k_is); (case yq2 => k_is); (case yq3 => k_is); (case yq4 => k_is)
    case T16 =>
      refine' DL.there_of KX G ?yq1 ?yq2 ?yq3 ?yq4 (fun _ _ _ _ _ _ us hl => match us, hl with | [_], _ => rfl)
      (case yq1 => k_is); (case yq2 => k_is); (case yq3 => k_is); (case yq4 => k_is)
    case T17 =>
      refine' DL.there_of KX G ?yq1 ?yq2 ?yq3 ?yq4 (fun _ _ _ _ _ _ us hl => match us, hl with | [_], _ => rfl)
      (case yq1 => k_is); (case yq2 => k_is); (case yq3 => k_is); (case yq4 => k_is)
    case T18 =>
      refine' DL.there_of KX G ?yq1 ?yq2 ?yq3 ?yq4 (fun _ _ _ _ _ _ us hl => match us, hl with | [_, _], _ => rfl)
      (case yq1 => k_is); (case yq2 => k_is); (case yq3 => k_is); (case yq4 => k_is)
    (case a_law_tried => k_is); (case lk_law_tried => k_is); (case cd_law_tried => k_is); (case kp_law_tried => k_is)
    (case lc_law_tried => k_is)
    (case vp_law_tried => exact rfl)
    (case np_law_tried => kernel_rfl); (case hh_law_tried => kernel_rfl)
    (case hT_law_tried => simp [DL.lamT])
    (case hu_law_tried => (intro p hp; simp only [DL.lamT, List.mem_cons, List.not_mem_nil, or_false] at hp; rcases hp with rfl <;> simp))
    (case a_law_word => k_is); (case lk_law_word => k_is); (case cd_law_word => k_is); (case kp_law_word => k_is)
    (case a_law => k_is); (case lk_law => k_is); (case cd_law => k_is); (case kp_law => k_is)
    case hTall => (intro p hp; simp only [DL.lamT, List.mem_cons, List.not_mem_nil, or_false] at hp; rcases hp with rfl <;> simp)

