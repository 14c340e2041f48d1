import PyProof.Rows.All
import Wide.All
import OpenK.AllK
import Wide.FinOn
import HandS.ForMost
import HandS.ForExc
import HandS.Wide
import HandS.WideMore
import HandS.TupAny
import HandS.TupMul
import HandS.IsInst
import HandS.ExcValue
import HandS.ExcInit
import HandS.ExcIs
import HandS.Style
import HandS.Lambda
import HandS.Deep
import KE.KTupSum
import HandS.Conv
import HandS.TryOnly
import HandS.StrMore
import HandS.RaiseMore
import KE.IntTextLaws
import HandS.EndTab
import HandS.EndOwn
import HandS.NestedK
import PyProof.StrBlock2
import HandS.ExcField
import KE.KExcIs
import PySem.Challenge.RW_runsplits_k15_errors_and_their_classes
set_option Elab.async false
set_option linter.all false
set_option maxRecDepth 100000
set_option maxHeartbeats 4000000
namespace DL
/-- the tables of code objects in which lambdas are noted, with their names -/
def lamT : List (PySem.Addr × PySem.Str) := []
end DL

namespace DL
open PySem PySem.Spec PyProof.Rows L2
abbrev St := L2.St

/-! ## data -/
inductive D where
  | non | bl (b : Bool) | int (i : Int) | str (x : Str) | lst (xs : List D) | tup (xs : List D) | ref (a : Addr)
  /-- a list of ints that is read alone (the script) -/
  | scr (ns : List Int)
  /-- an exception of the class at C, not raised; what it carries -/
  | exn (C : Addr) (p : Option Int)

def ExV (H : Hp) (a C : Addr) : Option Int → Prop
  | none => H a = some (ExO (.ref C) a)
  | some i => ∃ d, H a = some (exo a C (some d)) ∧ H d = some (exd d [(("limit" : Str), .int i)])
theorem ExV.same {H H' : Hp} (e : Same H H') {a C : Addr} : ∀ {p : Option Int}, ExV H a C p → ExV H' a C p
  | none, h => e _ _ h
  | some _, ⟨d, h1, h2⟩ => ⟨d, e _ _ h1, e _ _ h2⟩
mutual
inductive Dv (K : PySem.W.Frag) (H : Hp) : V → D → Prop
  | non : Dv K H .non .non
  | bl (b : Bool) : Dv K H (.bl b) (.bl b)
  | int (i : Int) : Dv K H (.int i) (.int i)
  | str (x : Str) : Dv K H (.str x) (.str x)
  | lst {a : Addr} {xs : List V} {ds : List D} : H a = some (.lst xs) → ds.length ≤ sizeLine → DvA K H xs ds → Dv K H (.ref a) (.lst ds)
  | tup {a : Addr} {xs : List V} {ds : List D} : H a = some (.tup xs) → ds.length ≤ sizeLine → DvA K H xs ds → Dv K H (.ref a) (.tup ds)
  | ref (a : Addr) : Dv K H (.ref a) (.ref a)
  | scr {a : Addr} {ns : List Int} : SqL K H a (ns.map V.int) → Dv K H (.ref a) (.scr ns)
  | exn {a C : Addr} {p : Option Int} : ExV H a C p → Dv K H (.ref a) (.exn C p)
inductive DvA (K : PySem.W.Frag) (H : Hp) : List V → List D → Prop
  | nil : DvA K H [] []
  | cons {v : V} {vs : List V} {d : D} {ds : List D} : Dv K H v d → DvA K H vs ds → DvA K H (v :: vs) (d :: ds)
end
mutual
theorem Dv.mono {K : PySem.W.Frag} {H H' : Hp} (e : Same H H') : ∀ (d : D) (v : V), Dv K H v d → Dv K H' v d
  | .non, _, h => by cases h; exact .non
  | .bl b, _, h => by cases h; exact .bl b
  | .int i, _, h => by cases h; exact .int i
  | .str x, _, h => by cases h; exact .str x
  | .ref a, _, h => by cases h; exact .ref a
  | .scr ns, _, h => by cases h with | scr hs => exact .scr (e.seq hs)
  | .exn C p, _, h => by cases h with | exn hs => exact .exn (hs.same e)
  | .lst ds, _, h => by cases h with | lst hs hz ha => exact .lst (e _ _ hs) hz (DvA.mono e ds _ ha)
  | .tup ds, _, h => by cases h with | tup hs hz ha => exact .tup (e _ _ hs) hz (DvA.mono e ds _ ha)
theorem DvA.mono {K : PySem.W.Frag} {H H' : Hp} (e : Same H H') : ∀ (ds : List D) (vs : List V), DvA K H vs ds → DvA K H' vs ds
  | [], _, h => by cases h; exact .nil
  | d :: ds, _, h => by cases h with | cons h1 h2 => exact .cons (Dv.mono e d _ h1) (DvA.mono e ds _ h2)
end
section
variable {K : PySem.W.Frag} {H H' : Hp}
theorem DvA.length : ∀ {ds : List D} {vs : List V}, DvA K H vs ds → vs.length = ds.length
  | [], _, h => by cases h; rfl
  | d :: ds, _, h => by cases h with | cons h1 h2 => simp [DvA.length h2]
theorem DvA.get : ∀ {ds : List D} {vs : List V} {i : Nat} {v : V}, DvA K H vs ds → vs[i]? = some v → ∃ d, ds[i]? = some d ∧ Dv K H v d
  | [], _, i, v, h, e => by cases h; simp at e
  | d :: ds, _, 0, v, h, e => by cases h with | cons h1 h2 => simp at e; subst e; exact ⟨d, rfl, h1⟩
  | d :: ds, _, i + 1, v, h, e => by cases h with | cons h1 h2 => simp at e; simpa using DvA.get h2 e
theorem DvA.getD : ∀ {ds : List D} {vs : List V} {i : Nat} {d : D}, DvA K H vs ds → ds[i]? = some d → ∃ v, vs[i]? = some v ∧ Dv K H v d
  | [], _, i, v, h, e => by simp at e
  | d :: ds, _, 0, v, h, e => by cases h with | cons h1 h2 => simp at e; subst e; exact ⟨_, rfl, h1⟩
  | d :: ds, _, i + 1, v, h, e => by cases h with | cons h1 h2 => simp at e; simpa using DvA.getD h2 e
theorem DvA.append : ∀ {ds es : List D} {vs ws : List V}, DvA K H vs ds → DvA K H ws es → DvA K H (vs ++ ws) (ds ++ es)
  | [], _, _, _, h, h' => by cases h; exact h'
  | d :: ds, _, _, _, h, h' => by cases h with | cons h1 h2 => exact .cons h1 (DvA.append h2 h')
theorem DvA.take : ∀ {ds : List D} {vs : List V} (n : Nat), DvA K H vs ds → DvA K H (vs.take n) (ds.take n)
  | _, _, 0, _ => by simpa using DvA.nil
  | [], _, n + 1, h => by cases h; simpa using DvA.nil
  | d :: ds, _, n + 1, h => by cases h with | cons h1 h2 => simpa using DvA.cons h1 (DvA.take n h2)
theorem DvA.drop : ∀ {ds : List D} {vs : List V} (n : Nat), DvA K H vs ds → DvA K H (vs.drop n) (ds.drop n)
  | _, _, 0, h => by simpa using h
  | [], _, n + 1, h => by cases h; simpa using DvA.nil
  | d :: ds, _, n + 1, h => by cases h with | cons h1 h2 => simpa using DvA.drop n h2
theorem DvA.set {v : V} {d : D} (hd : Dv K H v d) : ∀ {ds : List D} {vs : List V} (n : Nat), DvA K H vs ds → DvA K H (vs.set n v) (ds.set n d)
  | [], _, _, h => by cases h; simpa using DvA.nil
  | _ :: _, _, 0, h => by cases h with | cons h1 h2 => exact .cons hd h2
  | _ :: _, _, n + 1, h => by cases h with | cons h1 h2 => exact .cons h1 (DvA.set hd n h2)
theorem DvA.rep {v : V} {d : D} (hd : Dv K H v d) : ∀ n : Nat, DvA K H (List.replicate n v) (List.replicate n d)
  | 0 => .nil
  | n + 1 => .cons hd (DvA.rep hd n)
end

/-! ## the state -/
inductive Sl where
  | val (d : D)
  /-- a list that this slot alone holds; it may be changed -/
  | own (xs : List D)
  /-- the list that the caller lent -/
  | via
structure S where
  sl : List (Option Sl)
  via : Option (List D)
def S.put (s : S) (i : Nat) (x : Sl) : S := ⟨s.sl.set i (some x), s.via⟩
def S.clr (s : S) (i : Nat) : S := ⟨s.sl.set i none, s.via⟩
@[simp] theorem S.put_via (s : S) (i : Nat) (x : Sl) : (s.put i x).via = s.via := rfl
@[simp] theorem S.put_mk (l : List (Option Sl)) (w : Option (List D)) (i : Nat) (x : Sl) : S.put ⟨l, w⟩ i x = ⟨l.set i (some x), w⟩ := rfl

inductive R (α : Type) where
  | ok (a : α) (s : S)
  | exc (n : Str) (p : Option Int) (s : S)
  | stuck
def R.bind {α β : Type} (r : R α) (k : α → S → R β) : R β := match r with
  | .ok a s => k a s
  | .exc n p s => .exc n p s
  | .stuck => .stuck
@[simp] theorem R.bind_ok {α β : Type} (a : α) (s : S) (k : α → S → R β) : (R.ok a s).bind k = k a s := rfl
@[simp] theorem R.bind_exc {α β : Type} (n : Str) (p : Option Int) (s : S) (k : α → S → R β) : (R.exc n p s : R α).bind k = .exc n p s := rfl
@[simp] theorem R.bind_stuck {α β : Type} (k : α → S → R β) : (R.stuck : R α).bind k = .stuck := rfl

/-- how a statement ends -/
inductive T where
  | next (s : S) | ret (d : D) (s : S) | retO (xs : List D) (s : S) | brk (s : S) | cnt (s : S) | exc (n : Str) (p : Option Int) (s : S) | stuck
def R.thn {α : Type} (r : R α) (k : α → S → T) : T := match r with
  | .ok a s => k a s
  | .exc n p s => .exc n p s
  | .stuck => .stuck
@[simp] theorem R.thn_ok {α : Type} (a : α) (s : S) (k : α → S → T) : (R.ok a s).thn k = k a s := rfl
@[simp] theorem R.thn_exc {α : Type} (n : Str) (p : Option Int) (s : S) (k : α → S → T) : (R.exc n p s : R α).thn k = .exc n p s := rfl
@[simp] theorem R.thn_stuck {α : Type} (k : α → S → T) : (R.stuck : R α).thn k = .stuck := rfl
def T.seq (r : T) (k : S → T) : T := match r with
  | .next s => k s
  | r => r
@[simp] theorem T.seq_next (s : S) (k : S → T) : (T.next s).seq k = k s := rfl
@[simp] theorem T.seq_ret (d : D) (s : S) (k : S → T) : (T.ret d s).seq k = .ret d s := rfl
@[simp] theorem T.seq_retO (d : List D) (s : S) (k : S → T) : (T.retO d s).seq k = .retO d s := rfl
@[simp] theorem T.seq_brk (s : S) (k : S → T) : (T.brk s).seq k = .brk s := rfl
@[simp] theorem T.seq_cnt (s : S) (k : S → T) : (T.cnt s).seq k = .cnt s := rfl
@[simp] theorem T.seq_exc (n : Str) (p : Option Int) (s : S) (k : S → T) : (T.exc n p s).seq k = .exc n p s := rfl
@[simp] theorem T.seq_stuck (k : S → T) : T.stuck.seq k = .stuck := rfl

/-- where the lent list lies, and the tables of code objects that are known -/
structure VA where
  a : Addr
/-- the known tables; what stays as it is holds none of them -/
structure TB (T : List (Addr × Str)) (HP H : Hp) : Prop where
  t : LamX.Tabs T H
  n : ∀ b ps, HP b ≠ some (.tbl ps)
theorem noTb_upd {HP : Hp} {p : Addr} {o : HO} (h : ∀ b ps, HP b ≠ some (.tbl ps)) (ho : ∀ ps, o ≠ .tbl ps) : ∀ b ps, upd HP p o b ≠ some (.tbl ps) := fun b ps z => by
  by_cases e : b = p
  · subst e; rw [upd_same] at z; exact ho ps (Option.some.inj z)
  · rw [upd_ne e] at z; exact h b ps z
section
variable (K : PySem.W.Frag) (mg : Str → Option Value) (va : VA)
/-- the state told of: HP the part of the heap that stays as it is -/
structure Rel (s : S) (σ : St) (HP H : Hp) : Prop where
  len : s.sl.length = σ.length
  sub : Same HP H
  val : ∀ (i : Nat) d, s.sl[i]? = some (some (.val d)) → ∃ v, σ[i]? = some (some v) ∧ Dv K HP v d
  own : ∀ (i : Nat) xs, s.sl[i]? = some (some (.own xs)) → ∃ a vs, σ[i]? = some (some (.ref a)) ∧ HP a = none ∧ H a = some (.lst vs) ∧ xs.length ≤ sizeLine ∧ DvA K HP vs xs
  vis : ∀ (i : Nat), s.sl[i]? = some (some .via) → σ[i]? = some (some (.ref va.a)) ∧ s.via ≠ none
  vst : ∀ xs, s.via = some xs → HP va.a = none ∧ ∃ vs, H va.a = some (.lst vs) ∧ xs.length ≤ sizeLine ∧ DvA K HP vs xs
  dis : ∀ (i j : Nat) xs ys a, i ≠ j → s.sl[i]? = some (some (.own xs)) → s.sl[j]? = some (some (.own ys)) → σ[i]? = some (some (.ref a)) → σ[j]? ≠ some (some (.ref a))
  dvi : ∀ (i : Nat) xs, s.sl[i]? = some (some (.own xs)) → s.via ≠ none → σ[i]? ≠ some (some (.ref va.a))
  tab : TB lamT HP H
def Owns (s : S) (σ : St) (b : Addr) : Prop := (∃ (i : Nat) (xs : List D), s.sl[i]? = some (some (.own xs)) ∧ σ[i]? = some (some (.ref b))) ∨ (s.via ≠ none ∧ b = va.a)
structure Stp (s : S) (σ : St) (HP H : Hp) (s' : S) (σ' : St) (HP' H' : Hp) : Prop where
  rel : Rel K va s' σ' HP' H'
  same : Same HP HP'
  keep : ∀ b o, H b = some o → (∀ ps, o ≠ .tbl ps) → ¬ Owns va s σ b → H' b = some o ∧ ¬ Owns va s' σ' b ∧ (HP b = none → HP' b = none)
  via : s.via = none ↔ s'.via = none
end
section
variable {K : PySem.W.Frag} {mg : Str → Option Value} {va : VA} {s s1 s2 : S} {σ σ1 σ2 : St} {HP H HP1 H1 HP2 H2 : Hp}
theorem Stp.refl (r : Rel K va s σ HP H) : Stp K va s σ HP H s σ HP H := ⟨r, Same.refl _, fun b o h _ n => ⟨h, n, fun z => z⟩, Iff.rfl⟩
theorem Stp.trans (a : Stp K va s σ HP H s1 σ1 HP1 H1) (b : Stp K va s1 σ1 HP1 H1 s2 σ2 HP2 H2) : Stp K va s σ HP H s2 σ2 HP2 H2 :=
  ⟨b.rel, a.same.trans b.same, fun c o h nt n => by
    obtain ⟨h1, n1, p1⟩ := a.keep c o h nt n
    obtain ⟨h2, n2, p2⟩ := b.keep c o h1 nt n1
    exact ⟨h2, n2, fun z => p2 (p1 z)⟩, a.via.trans b.via⟩
theorem tab_upd {T : List (Addr × Str)} {a : Addr} {o : HO} {vs : List V} (t : LamX.Tabs T H) (h : H a = some (.lst vs)) : LamX.Tabs T (upd H a o) := fun p hp => by
  obtain ⟨ps, h1, h2, h3⟩ := t p hp
  have n1 : p.1 ≠ a := fun z => by rw [z, h] at h1; cases h1
  refine ⟨ps, by rw [upd_ne n1]; exact h1, h2, fun pos cv hc => ?_⟩
  obtain ⟨c, e1, e2⟩ := h3 pos cv hc
  have n2 : c ≠ a := fun z => by
    rw [z, h] at e2
    unfold LamX.CodeO at e2
    cases e2
  exact ⟨c, e1, by rw [upd_ne n2]; exact e2⟩
/-- a new object that stays -/
theorem Rel.laid (r : Rel K va s σ HP H) {p : Addr} {o : HO} (n : H p = none) (ho : ∀ ps, o ≠ .tbl ps := by intro _ z; cases z) : Stp K va s σ HP H s σ (upd HP p o) (upd H p o) := by
  have nP : HP p = none := r.sub.free n
  have sm : Same HP (upd HP p o) := fun b x e => by rw [upd_ne (ne_of_none e nP)]; exact e
  have ne : ∀ {b x}, H b = some x → b ≠ p := fun e => ne_of_none e n
  have no : ∀ b x, H b = some x → upd H p o b = some x := fun b x e => by rw [upd_ne (ne e)]; exact e
  refine ⟨⟨r.len, fun b x e => ?_, fun i d e => ?_, fun i xs e => ?_, r.vis, fun xs e => ?_, r.dis, r.dvi, ⟨r.tab.t.ext no, noTb_upd r.tab.n ho⟩⟩, sm, fun b x e _ nb => ⟨no b x e, nb, fun z => ?_⟩, Iff.rfl⟩
  · by_cases h : b = p
    · subst h; rw [upd_same] at e ⊢; exact e
    · rw [upd_ne h] at e ⊢; exact r.sub b x e
  · obtain ⟨v, h1, h2⟩ := r.val i d e
    exact ⟨v, h1, Dv.mono sm d v h2⟩
  · obtain ⟨a, vs, h1, h2, h3, hz, h4⟩ := r.own i xs e
    exact ⟨a, vs, h1, by rw [upd_ne (ne h3)]; exact h2, no _ _ h3, hz, DvA.mono sm xs vs h4⟩
  · obtain ⟨h1, vs, h2, hz, h3⟩ := r.vst xs e
    exact ⟨by rw [upd_ne (ne h2)]; exact h1, vs, no _ _ h2, hz, DvA.mono sm xs vs h3⟩
  · rw [upd_ne (ne e)]; exact z
end

/-! ## the judgements -/
/-- what an exception carries -/
def ExcAt (p : Option Int) (dd : Option Addr) (H : Hp) : Prop := match p with
  | none => dd = none
  | some i => ∃ a, dd = some a ∧ H a = some (.xd [(("limit" : Str), .int i)])
section
variable (X : Cx) (W : WX)
/-- the end of an expression that is told by r -/
def PoE (va : VA) (s : S) (σ : St) (HP H : Hp) (r : R D) (Q : VK) : Prop := match r with
  | .ok d s' => ∀ v H' HP', Stp X.K va s σ HP H s' σ HP' H' → Dv X.K HP' v d → Q v H'
  | .exc n p s' => ∀ dd H' HP' C, Stp X.K va s σ HP H s' σ HP' H' → ExcAt p dd H' → X.mg n = some (.ref C) → W (.ref C) dd σ H'
  | .stuck => False
def PoT (va : VA) (s : S) (σ : St) (HP H : Hp) (r : R Bool) (Q : Bool → Hp → Prop) : Prop := match r with
  | .ok b s' => ∀ H' HP', Stp X.K va s σ HP H s' σ HP' H' → Q b H'
  | .exc n p s' => ∀ dd H' HP' C, Stp X.K va s σ HP H s' σ HP' H' → ExcAt p dd H' → X.mg n = some (.ref C) → W (.ref C) dd σ H'
  | .stuck => False
def PoA (va : VA) (s : S) (σ : St) (HP H : Hp) (r : R (List D)) (Q : List V → Hp → Prop) : Prop := match r with
  | .ok ds s' => ∀ vs H' HP', Stp X.K va s σ HP H s' σ HP' H' → DvA X.K HP' vs ds → Q vs H'
  | .exc n p s' => ∀ dd H' HP' C, Stp X.K va s σ HP H s' σ HP' H' → ExcAt p dd H' → X.mg n = some (.ref C) → W (.ref C) dd σ H'
  | .stuck => False
def PoS (va : VA) (s : S) (σ : St) (HP H : Hp) (r : T) (D : Ends) : Prop := match r with
  | .next s' => ∀ σ' H' HP', Stp X.K va s σ HP H s' σ' HP' H' → D.nx σ' H'
  | .ret d s' => ∀ v σ' H' HP', Stp X.K va s σ HP H s' σ' HP' H' → Dv X.K HP' v d → D.rt v H'
  | .retO xs s' => ∀ p vs σ' H' HP', Stp X.K va s σ HP H s' σ' HP' H' → H' p = none → xs.length ≤ sizeLine → DvA X.K HP' vs xs → D.rt (.ref p) (upd H' p (.lst vs))
  | .brk s' => ∀ σ' H' HP', Stp X.K va s σ HP H s' σ' HP' H' → D.bk σ' H'
  | .cnt s' => ∀ σ' H' HP', Stp X.K va s σ HP H s' σ' HP' H' → D.ct σ' H'
  | .exc n p s' => ∀ dd σ' H' HP' C, Stp X.K va s σ HP H s' σ' HP' H' → ExcAt p dd H' → X.mg n = some (.ref C) → W (.ref C) dd σ' H'
  | .stuck => False
def tDE (f : S → R D) : TE := fun σ H Q => ∃ va s HP, Rel X.K va s σ HP H ∧ PoE X W va s σ HP H (f s) Q
def tDT (f : S → R Bool) : TT := fun σ H Q => ∃ va s HP, Rel X.K va s σ HP H ∧ PoT X W va s σ HP H (f s) Q
def tDA (f : S → R (List D)) : TA := fun σ H Q => ∃ va s HP, Rel X.K va s σ HP H ∧ PoA X W va s σ HP H (f s) Q
def tDS (f : S → T) : TS := fun D σ H => ∃ va s HP, Rel X.K va s σ HP H ∧ PoS X W va s σ HP H (f s) D
def DE (e : Expr) (f : S → R D) : Prop := PE X e (tDE X W f)
def DT (e : Expr) (f : S → R Bool) : Prop := PT X e (tDT X W f)
def DW (e : Expr) (f : S → R Bool) : Prop := PW X e (tDT X W f)
def DA (es : List Expr) (f : S → R (List D)) : Prop := PA X es (tDA X W f)
def DS (st : Stmt) (f : S → T) : Prop := PS X st (tDS X W f)
def DSs (st : List Stmt) (f : S → T) : Prop := PSs X st (tDS X W f)
end
section
variable {X : Cx} {e : Expr} {es : List Expr} {st : Stmt} {sts : List Stmt}
theorem pe_imp {t t' : TE} (h : PE X e t) (i : ∀ σ H Q, t' σ H Q → t σ H Q) : PE X e t' := ⟨fun pins s σ H Q I w => h.run pins s σ H Q I (i σ H Q w)⟩
theorem pt_imp {t t' : TT} (h : PT X e t) (i : ∀ σ H Q, t' σ H Q → t σ H Q) : PT X e t' := ⟨fun pins s σ H Q I w => h.run pins s σ H Q I (i σ H Q w)⟩
theorem pw_imp {t t' : TT} (h : PW X e t) (i : ∀ σ H Q, t' σ H Q → t σ H Q) : PW X e t' := ⟨fun wh pins s σ H Q I w => h.run wh pins s σ H Q I (i σ H Q w)⟩
theorem pa_imp {t t' : TA} (h : PA X es t) (i : ∀ σ H Q, t' σ H Q → t σ H Q) : PA X es t' := ⟨fun pos pins s σ H Q I w => h.run pos pins s σ H Q I (i σ H Q w)⟩
theorem ps_imp {t t' : TS} (h : PS X st t) (i : ∀ D σ H, t' D σ H → t D σ H) : PS X st t' := ⟨fun pins s σ H D I w => h.run pins s σ H D I (i D σ H w)⟩
theorem pss_imp {t t' : TS} (h : PSs X sts t) (i : ∀ D σ H, t' D σ H → t D σ H) : PSs X sts t' := ⟨fun pins s σ H D I w => h.run pins s σ H D I (i D σ H w)⟩
end
section
variable {X : Cx} {W : WX} {va : VA} {s s1 : S} {σ σ1 : St} {HP H HP1 H1 : Hp}
theorem PoE.from (a : Stp X.K va s σ HP H s1 σ HP1 H1) {r : R D} {Q : VK} (h : PoE X W va s σ HP H r Q) : PoE X W va s1 σ HP1 H1 r Q := by
  cases r with
  | ok d s' => exact fun v H' HP' st dv => h v H' HP' (a.trans st) dv
  | exc n p s' => exact fun dd H' HP' C st e m => h dd H' HP' C (a.trans st) e m
  | stuck => exact h
theorem PoT.from (a : Stp X.K va s σ HP H s1 σ HP1 H1) {r : R Bool} {Q : Bool → Hp → Prop} (h : PoT X W va s σ HP H r Q) : PoT X W va s1 σ HP1 H1 r Q := by
  cases r with
  | ok d s' => exact fun H' HP' st => h H' HP' (a.trans st)
  | exc n p s' => exact fun dd H' HP' C st e m => h dd H' HP' C (a.trans st) e m
  | stuck => exact h
theorem PoA.from (a : Stp X.K va s σ HP H s1 σ HP1 H1) {r : R (List D)} {Q : List V → Hp → Prop} (h : PoA X W va s σ HP H r Q) : PoA X W va s1 σ HP1 H1 r Q := by
  cases r with
  | ok d s' => exact fun v H' HP' st dv => h v H' HP' (a.trans st) dv
  | exc n p s' => exact fun dd H' HP' C st e m => h dd H' HP' C (a.trans st) e m
  | stuck => exact h
theorem PoS.from (a : Stp X.K va s σ HP H s1 σ1 HP1 H1) {r : T} {D : Ends} (h : PoS X W va s σ HP H r D) : PoS X W va s1 σ1 HP1 H1 r D := by
  cases r with
  | next s' => exact fun σ' H' HP' st => h σ' H' HP' (a.trans st)
  | ret d s' => exact fun v σ' H' HP' st dv => h v σ' H' HP' (a.trans st) dv
  | retO xs s' => exact fun p vs σ' H' HP' st n z dv => h p vs σ' H' HP' (a.trans st) n z dv
  | brk s' => exact fun σ' H' HP' st => h σ' H' HP' (a.trans st)
  | cnt s' => exact fun σ' H' HP' st => h σ' H' HP' (a.trans st)
  | exc n p s' => exact fun dd σ' H' HP' C st e m => h dd σ' H' HP' C (a.trans st) e m
  | stuck => exact h
/-- an expression, then more -/
theorem bindE {f : S → R D} {R : VK} (r : Rel X.K va s σ HP H)
    (k : ∀ d s' v H' HP', f s = .ok d s' → Stp X.K va s σ HP H s' σ HP' H' → Dv X.K HP' v d → R v H')
    (kx : ∀ n p s' dd H' HP' C, f s = .exc n p s' → Stp X.K va s σ HP H s' σ HP' H' → ExcAt p dd H' → X.mg n = some (.ref C) → W (.ref C) dd σ H')
    (ks : f s ≠ .stuck) : tDE X W f σ H R := by
  refine ⟨va, s, HP, r, ?_⟩
  cases e : f s with
  | ok d s' => exact fun v H' HP' st dv => k d s' v H' HP' e st dv
  | exc n p s' => exact fun dd H' HP' C st x m => kx n p s' dd H' HP' C e st x m
  | stuck => exact ks e
theorem bindEE {f : S → R D} {g : D → S → R D} {Q R : VK} (r : Rel X.K va s σ HP H) (h : PoE X W va s σ HP H ((f s).bind g) Q)
    (k : ∀ d s' v H' HP', Stp X.K va s σ HP H s' σ HP' H' → Dv X.K HP' v d → PoE X W va s' σ HP' H' (g d s') Q → R v H') : tDE X W f σ H R := by
  refine bindE r (fun d s' v H' HP' e st dv => ?_) (fun n p s' dd H' HP' C e st x m => ?_) (fun e => ?_) <;> rw [e] at h
  · exact k d s' v H' HP' st dv (h.from st)
  · exact h dd H' HP' C st x m
  · exact h
theorem bindET {f : S → R D} {g : D → S → R Bool} {Q : Bool → Hp → Prop} {R : VK} (r : Rel X.K va s σ HP H) (h : PoT X W va s σ HP H ((f s).bind g) Q)
    (k : ∀ d s' v H' HP', Stp X.K va s σ HP H s' σ HP' H' → Dv X.K HP' v d → PoT X W va s' σ HP' H' (g d s') Q → R v H') : tDE X W f σ H R := by
  refine bindE r (fun d s' v H' HP' e st dv => ?_) (fun n p s' dd H' HP' C e st x m => ?_) (fun e => ?_) <;> rw [e] at h
  · exact k d s' v H' HP' st dv (h.from st)
  · exact h dd H' HP' C st x m
  · exact h
theorem bindEA {f : S → R D} {g : D → S → R (List D)} {Q : List V → Hp → Prop} {R : VK} (r : Rel X.K va s σ HP H) (h : PoA X W va s σ HP H ((f s).bind g) Q)
    (k : ∀ d s' v H' HP', Stp X.K va s σ HP H s' σ HP' H' → Dv X.K HP' v d → PoA X W va s' σ HP' H' (g d s') Q → R v H') : tDE X W f σ H R := by
  refine bindE r (fun d s' v H' HP' e st dv => ?_) (fun n p s' dd H' HP' C e st x m => ?_) (fun e => ?_) <;> rw [e] at h
  · exact k d s' v H' HP' st dv (h.from st)
  · exact h dd H' HP' C st x m
  · exact h
theorem bindES {f : S → R D} {g : D → S → T} {D : Ends} {R : VK} (r : Rel X.K va s σ HP H) (h : PoS X W va s σ HP H ((f s).thn g) D)
    (k : ∀ d s' v H' HP', Stp X.K va s σ HP H s' σ HP' H' → Dv X.K HP' v d → PoS X W va s' σ HP' H' (g d s') D → R v H') : tDE X W f σ H R := by
  refine bindE r (fun d s' v H' HP' e st dv => ?_) (fun n p s' dd H' HP' C e st x m => ?_) (fun e => ?_) <;> rw [e] at h
  · exact k d s' v H' HP' st dv (h.from st)
  · exact h dd σ H' HP' C st x m
  · exact h
theorem bindT {f : S → R Bool} {R : Bool → Hp → Prop} (r : Rel X.K va s σ HP H)
    (k : ∀ d s' H' HP', f s = .ok d s' → Stp X.K va s σ HP H s' σ HP' H' → R d H')
    (kx : ∀ n p s' dd H' HP' C, f s = .exc n p s' → Stp X.K va s σ HP H s' σ HP' H' → ExcAt p dd H' → X.mg n = some (.ref C) → W (.ref C) dd σ H')
    (ks : f s ≠ .stuck) : tDT X W f σ H R := by
  refine ⟨va, s, HP, r, ?_⟩
  cases e : f s with
  | ok d s' => exact fun H' HP' st => k d s' H' HP' e st
  | exc n p s' => exact fun dd H' HP' C st x m => kx n p s' dd H' HP' C e st x m
  | stuck => exact ks e
theorem bindTT {f : S → R Bool} {g : Bool → S → R Bool} {Q R : Bool → Hp → Prop} (r : Rel X.K va s σ HP H) (h : PoT X W va s σ HP H ((f s).bind g) Q)
    (k : ∀ d s' H' HP', Stp X.K va s σ HP H s' σ HP' H' → PoT X W va s' σ HP' H' (g d s') Q → R d H') : tDT X W f σ H R := by
  refine bindT r (fun d s' H' HP' e st => ?_) (fun n p s' dd H' HP' C e st x m => ?_) (fun e => ?_) <;> rw [e] at h
  · exact k d s' H' HP' st (h.from st)
  · exact h dd H' HP' C st x m
  · exact h
theorem bindTE {f : S → R Bool} {g : Bool → S → R D} {Q : VK} {R : Bool → Hp → Prop} (r : Rel X.K va s σ HP H) (h : PoE X W va s σ HP H ((f s).bind g) Q)
    (k : ∀ d s' H' HP', Stp X.K va s σ HP H s' σ HP' H' → PoE X W va s' σ HP' H' (g d s') Q → R d H') : tDT X W f σ H R := by
  refine bindT r (fun d s' H' HP' e st => ?_) (fun n p s' dd H' HP' C e st x m => ?_) (fun e => ?_) <;> rw [e] at h
  · exact k d s' H' HP' st (h.from st)
  · exact h dd H' HP' C st x m
  · exact h
theorem bindTS {f : S → R Bool} {g : Bool → S → T} {D : Ends} {R : Bool → Hp → Prop} (r : Rel X.K va s σ HP H) (h : PoS X W va s σ HP H ((f s).thn g) D)
    (k : ∀ d s' H' HP', Stp X.K va s σ HP H s' σ HP' H' → PoS X W va s' σ HP' H' (g d s') D → R d H') : tDT X W f σ H R := by
  refine bindT r (fun d s' H' HP' e st => ?_) (fun n p s' dd H' HP' C e st x m => ?_) (fun e => ?_) <;> rw [e] at h
  · exact k d s' H' HP' st (h.from st)
  · exact h dd σ H' HP' C st x m
  · exact h
theorem bindA {f : S → R (List D)} {R : List V → Hp → Prop} (r : Rel X.K va s σ HP H)
    (k : ∀ d s' v H' HP', f s = .ok d s' → Stp X.K va s σ HP H s' σ HP' H' → DvA X.K HP' v d → R v H')
    (kx : ∀ n p s' dd H' HP' C, f s = .exc n p s' → Stp X.K va s σ HP H s' σ HP' H' → ExcAt p dd H' → X.mg n = some (.ref C) → W (.ref C) dd σ H')
    (ks : f s ≠ .stuck) : tDA X W f σ H R := by
  refine ⟨va, s, HP, r, ?_⟩
  cases e : f s with
  | ok d s' => exact fun v H' HP' st dv => k d s' v H' HP' e st dv
  | exc n p s' => exact fun dd H' HP' C st x m => kx n p s' dd H' HP' C e st x m
  | stuck => exact ks e
theorem bindAE {f : S → R (List D)} {g : List D → S → R D} {Q : VK} {R : List V → Hp → Prop} (r : Rel X.K va s σ HP H) (h : PoE X W va s σ HP H ((f s).bind g) Q)
    (k : ∀ d s' v H' HP', Stp X.K va s σ HP H s' σ HP' H' → DvA X.K HP' v d → PoE X W va s' σ HP' H' (g d s') Q → R v H') : tDA X W f σ H R := by
  refine bindA r (fun d s' v H' HP' e st dv => ?_) (fun n p s' dd H' HP' C e st x m => ?_) (fun e => ?_) <;> rw [e] at h
  · exact k d s' v H' HP' st dv (h.from st)
  · exact h dd H' HP' C st x m
  · exact h
theorem bindAA {f : S → R (List D)} {g : List D → S → R (List D)} {Q : List V → Hp → Prop} {R : List V → Hp → Prop} (r : Rel X.K va s σ HP H) (h : PoA X W va s σ HP H ((f s).bind g) Q)
    (k : ∀ d s' v H' HP', Stp X.K va s σ HP H s' σ HP' H' → DvA X.K HP' v d → PoA X W va s' σ HP' H' (g d s') Q → R v H') : tDA X W f σ H R := by
  refine bindA r (fun d s' v H' HP' e st dv => ?_) (fun n p s' dd H' HP' C e st x m => ?_) (fun e => ?_) <;> rw [e] at h
  · exact k d s' v H' HP' st dv (h.from st)
  · exact h dd H' HP' C st x m
  · exact h
/-- the end of an expression's telling -/
theorem PoE.fin {d : D} {Q : VK} {v : V} (h : PoE X W va s σ HP H (.ok d s) Q) (r : Rel X.K va s σ HP H) (dv : Dv X.K HP v d) : Q v H := h v H HP (Stp.refl r) dv
theorem PoE.fin_at {d : D} {Q : VK} {v : V} (h : PoE X W va s σ HP H (.ok d s1) Q) (st : Stp X.K va s σ HP H s1 σ HP1 H1) (dv : Dv X.K HP1 v d) : Q v H1 := h v H1 HP1 st dv
theorem PoT.fin {d : Bool} {Q : Bool → Hp → Prop} (h : PoT X W va s σ HP H (.ok d s) Q) (r : Rel X.K va s σ HP H) : Q d H := h H HP (Stp.refl r)
end
end DL

namespace DL
open PySem PySem.Spec PyProof.Rows L2
def lift (o : Option D) (s : S) : R D := match o with
  | some d => .ok d s
  | none => .stuck
@[simp] theorem lift_some (d : D) (s : S) : lift (some d) s = .ok d s := rfl
@[simp] theorem lift_none (s : S) : lift none s = .stuck := rfl
def liftB (o : Option Bool) (s : S) : R Bool := match o with
  | some d => .ok d s
  | none => .stuck
@[simp] theorem liftB_some (d : Bool) (s : S) : liftB (some d) s = .ok d s := rfl
@[simp] theorem liftB_none (s : S) : liftB none s = .stuck := rfl
section
variable {X : Cx} {W : WX} {va : VA} {s : S} {σ : St} {HP H : Hp}
/-- ways to end with a datum -/
theorem fin_int {i : Int} {Q : VK} (h : PoE X W va s σ HP H (.ok (.int i) s) Q) (r : Rel X.K va s σ HP H) : Q (.int i) H := h.fin r (.int i)
theorem fin_bl {i : Bool} {Q : VK} (h : PoE X W va s σ HP H (.ok (.bl i) s) Q) (r : Rel X.K va s σ HP H) : Q (.bl i) H := h.fin r (.bl i)
theorem fin_str {i : Str} {Q : VK} (h : PoE X W va s σ HP H (.ok (.str i) s) Q) (r : Rel X.K va s σ HP H) : Q (.str i) H := h.fin r (.str i)
theorem fin_lst {vs : List V} {ds : List D} {Q : VK} (h : PoE X W va s σ HP H (.ok (.lst ds) s) Q) (r : Rel X.K va s σ HP H) (a : DvA X.K HP vs ds) (z : ds.length ≤ sizeLine) (p : Addr) (n : H p = none) : Q (.ref p) (upd H p (.lst vs)) := by
  have st := r.laid (o := .lst vs) n
  exact h _ _ _ st (.lst upd_same z (DvA.mono st.same ds vs a))
theorem fin_tup {vs : List V} {ds : List D} {Q : VK} (h : PoE X W va s σ HP H (.ok (.tup ds) s) Q) (r : Rel X.K va s σ HP H) (a : DvA X.K HP vs ds) (z : ds.length ≤ sizeLine) (p : Addr) (n : H p = none) : Q (.ref p) (upd H p (.tup vs)) := by
  have st := r.laid (o := .tup vs) n
  exact h _ _ _ st (.tup upd_same z (DvA.mono st.same ds vs a))
end
/-! ## two operands -/
def OpD (X : Cx) (f : Value → Value → Sem Value) (g : D → D → Option D) : Prop := ∃ r : R2, OpR X f r ∧
  ∀ (W : WX) (va : VA) (s : S) (σ : St) (HP H : Hp) (x y : V) (a b d : D) (Q : VK), Rel X.K va s σ HP H → Dv X.K HP x a → Dv X.K HP y b → g a b = some d → PoE X W va s σ HP H (.ok d s) Q → r x y H Q
theorem OpD.orElse {X : Cx} {f : Value → Value → Sem Value} {g g' : D → D → Option D} (h : OpD X f g) (h' : OpD X f g') : OpD X f (fun a b => (g a b).or (g' a b)) := by
  obtain ⟨r, h1, h2⟩ := h
  obtain ⟨r', h1', h2'⟩ := h'
  refine ⟨_, h1.or h1', fun W va s σ HP H x y a b d Q rl dx dy e p => ?_⟩
  cases c : g a b with
  | some z => simp only [c, Option.some_or, Option.some.injEq] at e; subst e; exact .inl (h2 W va s σ HP H x y a b z Q rl dx dy c p)
  | none => simp only [c, Option.none_or] at e; exact .inr (h2' W va s σ HP H x y a b d Q rl dx dy e p)
theorem OpD.imp {X : Cx} {f : Value → Value → Sem Value} {g g' : D → D → Option D} (h : OpD X f g) (i : ∀ a b d, g' a b = some d → g a b = some d) : OpD X f g' := by
  obtain ⟨r, h1, h2⟩ := h
  exact ⟨r, h1, fun W va s σ HP H x y a b d Q rl dx dy e p => h2 W va s σ HP H x y a b d Q rl dx dy (i a b d e) p⟩
section
variable {X : Cx} {W : WX} {a b c e : Expr} {es : List Expr} {fa fb fc : S → R D} {pos : Pos}
theorem de_bin {g : D → D → Option D} {r : R2} (h2 : ∀ (W : WX) (va : VA) (s : S) (σ : St) (HP H : Hp) (x y : V) (a b d : D) (Q : VK), Rel X.K va s σ HP H → Dv X.K HP x a → Dv X.K HP y b → g a b = some d → PoE X W va s σ HP H (.ok d s) Q → r x y H Q)
    (σ : St) (H : Hp) (Q : VK) (h : tDE X W (fun s => (fa s).bind fun x s => (fb s).bind fun y s => lift (g x y) s) σ H Q) : tOp r (tDE X W fa) (tDE X W fb) σ H Q := by
  obtain ⟨va, s, HP, rl, h⟩ := h
  dsimp only at h
  refine bindEE rl h fun x s1 v H1 HP1 st1 d1 h1 => ?_
  have rl1 := st1.rel
  refine bindE rl1 (fun y s2 u H2 HP2 e st d2 => ?_) (fun n p s' dd H' HP' C e st z m => ?_) (fun e => ?_) <;> rw [e] at h1
  · cases q : g x y with
    | none => rw [R.bind_ok, q] at h1; exact h1.elim
    | some d =>
      rw [R.bind_ok, q] at h1
      exact h2 W va s2 σ HP2 H2 v u x y d Q st.rel (Dv.mono st.same x v d1) d2 q (h1.from st)
  · exact h1 dd H' HP' C st z m
  · exact h1
theorem de_op {op : Operator} {g : D → D → Option D} (o : OpD X (binaryOp op) g) (ha : DE X W a fa) (hb : DE X W b fb) :
    DE X W (.BinOp a op b pos) (fun s => (fa s).bind fun x s => (fb s).bind fun y s => lift (g x y) s) := by
  obtain ⟨r, h1, h2⟩ := o
  exact pe_imp (pe_op h1 ha hb) fun σ H Q h => de_bin h2 σ H Q h
theorem de_cmp {op : CmpOp} {g : D → D → Option D} (o : OpD X (compareOp op) g) (ha : DE X W a fa) (hb : DE X W b fb) (hm : behindInMarks op b = false) :
    DE X W (.Compare a [op] [b] pos) (fun s => (fa s).bind fun x s => (fb s).bind fun y s => lift (g x y) s) := by
  obtain ⟨r, h1, h2⟩ := o
  exact pe_imp (pe_cmpR h1 ha hb hm) fun σ H Q h => de_bin h2 σ H Q h
def toB (d : D) (s : S) : R Bool := match d with
  | .bl b => .ok b s
  | _ => .stuck
@[simp] theorem toB_bl (b : Bool) (s : S) : toB (.bl b) s = .ok b s := rfl
theorem tB_of {f : S → R D} {σ : St} {H : Hp} {Q : Bool → Hp → Prop} (h : tDT X W (fun s => (f s).bind toB) σ H Q) : tDE X W f σ H fun x H' => ∃ k, x = .bl k ∧ Q k H' := by
  obtain ⟨va, s, HP, rl, h⟩ := h
  dsimp only at h
  refine bindET rl h fun d s1 v H1 HP1 st1 d1 h1 => ?_
  have rl1 := st1.rel
  cases d1 <;> first | exact h1.elim | exact ⟨_, rfl, h1.fin rl1⟩
/-- a comparison as a test -/
theorem dt_cmp {op : CmpOp} {g : D → D → Option D} (o : OpD X (compareOp op) g) (ha : DE X W a fa) (hb : DE X W b fb) (hm : behindInMarks op b = false) :
    DT X W (.Compare a [op] [b] pos) (fun s => ((fa s).bind fun x s => (fb s).bind fun y s => lift (g x y) s).bind toB) := by
  obtain ⟨r, h1, h2⟩ := o
  exact pt_imp (pt_cmpR h1 ha hb hm) fun σ H Q h => de_bin h2 σ H _ (tB_of h)
/-- an expression that gives a bool, as a test -/
theorem dt_val (h : DE X W e fa) (he : ∀ whole, isTrue e X.env whole = (do let v ← whole; standAt e.pos; holding [v] (truthy v)) := by intro _; rfl) :
    DT X W e (fun s => (fa s).bind toB) := pt_imp (pt_val h he) fun σ H Q q => tB_of q
/-! ## and, or, not, if -/
variable {ta tb tc : S → R Bool} {rest : List Expr}
theorem dw_and1 (ha : DT X W a ta) : DW X W (.BoolOp .And [a] pos) ta := pw_and1 ha
theorem dw_or1 (ha : DT X W a ta) : DW X W (.BoolOp .Or [a] pos) ta := pw_or1 ha
theorem dw_and (ha : DT X W a ta) (hb : DW X W (.BoolOp .And (b :: rest) pos) tb) : DW X W (.BoolOp .And (a :: b :: rest) pos) (fun s => (ta s).bind fun k s => if k = true then tb s else .ok false s) := by
  refine pw_imp (pw_and ha hb) fun σ H Q h => ?_
  obtain ⟨va, s, HP, rl, h⟩ := h
  dsimp only at h
  refine bindTT rl h fun k s1 H1 HP1 st1 h1 => ?_
  have rl1 := st1.rel
  cases k with
  | true => rw [if_pos rfl] at h1 ⊢; exact ⟨va, s1, HP1, rl1, h1⟩
  | false => rw [if_neg Bool.false_ne_true] at h1 ⊢; exact h1.fin rl1
theorem dw_or (ha : DT X W a ta) (hb : DW X W (.BoolOp .Or (b :: rest) pos) tb) : DW X W (.BoolOp .Or (a :: b :: rest) pos) (fun s => (ta s).bind fun k s => if k = true then .ok true s else tb s) := by
  refine pw_imp (pw_or ha hb) fun σ H Q h => ?_
  obtain ⟨va, s, HP, rl, h⟩ := h
  dsimp only at h
  refine bindTT rl h fun k s1 H1 HP1 st1 h1 => ?_
  have rl1 := st1.rel
  cases k with
  | true => rw [if_pos rfl] at h1 ⊢; exact h1.fin rl1
  | false => rw [if_neg Bool.false_ne_true] at h1 ⊢; exact ⟨va, s1, HP1, rl1, h1⟩
theorem dt_w (h : DW X W a ta) : DT X W a ta := h.pt
theorem dt_not (ha : DT X W a ta) : DT X W (.UnaryOp .Not a pos) (fun s => (ta s).bind fun k s => .ok (!k) s) := by
  refine pt_imp (pt_not ha) fun σ H Q h => ?_
  obtain ⟨va, s, HP, rl, h⟩ := h
  dsimp only at h
  exact bindTT rl h fun k s1 H1 HP1 st1 h1 => h1.fin st1.rel
/-- as values, all but the last True or False -/
theorem de_one {op} (h : DE X W a fa) : DE X W (.BoolOp op [a] pos) fa := pe_one h
theorem de_and (ha : DE X W a fa) (hb : DE X W (.BoolOp .And (b :: rest) pos) fb) : DE X W (.BoolOp .And (a :: b :: rest) pos) (fun s => ((fa s).bind toB).bind fun k s => if k = true then fb s else .ok (.bl false) s) := by
  refine pe_imp (pe_and ha hb) fun σ H Q h => ?_
  obtain ⟨va, s, HP, rl, h⟩ := h
  dsimp only at h
  refine bindE rl (fun d s1 v H1 HP1 e st dv => ?_) (fun n p s' dd H' HP' C e st z m => ?_) (fun e => ?_) <;> rw [e] at h
  · cases dv <;> first | exact h.elim | skip
    rename_i k
    refine ⟨k, rfl, ?_⟩
    have h1 := PoE.from st h
    cases k with
    | true => rw [if_pos rfl]; exact ⟨va, s1, HP1, st.rel, h1⟩
    | false => rw [if_neg Bool.false_ne_true]; exact fin_bl h1 st.rel
  · exact h dd H' HP' C st z m
  · exact h
theorem de_or (ha : DE X W a fa) (hb : DE X W (.BoolOp .Or (b :: rest) pos) fb) : DE X W (.BoolOp .Or (a :: b :: rest) pos) (fun s => ((fa s).bind toB).bind fun k s => if k = true then .ok (.bl true) s else fb s) := by
  refine pe_imp (pe_or ha hb) fun σ H Q h => ?_
  obtain ⟨va, s, HP, rl, h⟩ := h
  dsimp only at h
  refine bindE rl (fun d s1 v H1 HP1 e st dv => ?_) (fun n p s' dd H' HP' C e st z m => ?_) (fun e => ?_) <;> rw [e] at h
  · cases dv <;> first | exact h.elim | skip
    rename_i k
    refine ⟨k, rfl, ?_⟩
    have h1 := PoE.from st h
    cases k with
    | true => rw [if_pos rfl]; exact fin_bl h1 st.rel
    | false => rw [if_neg Bool.false_ne_true]; exact ⟨va, s1, HP1, st.rel, h1⟩
  · exact h dd H' HP' C st z m
  · exact h
theorem de_not (ha : DE X W a fa) : DE X W (.UnaryOp .Not a pos) (fun s => ((fa s).bind toB).bind fun k s => .ok (.bl (!k)) s) := by
  refine pe_imp (pe_not ha) fun σ H Q h => ?_
  obtain ⟨va, s, HP, rl, h⟩ := h
  dsimp only at h
  refine bindE rl (fun d s1 v H1 HP1 e st dv => ?_) (fun n p s' dd H' HP' C e st z m => ?_) (fun e => ?_) <;> rw [e] at h
  · cases dv <;> first | exact h.elim | skip
    rename_i k
    exact ⟨k, rfl, fin_bl (PoE.from st h) st.rel⟩
  · exact h dd H' HP' C st z m
  · exact h
theorem de_if (hc : DT X W c tc) (ha : DE X W a fa) (hb : DE X W b fb) : DE X W (.IfExp c a b pos) (fun s => (tc s).bind fun k s => if k = true then fa s else fb s) := by
  refine pe_imp (pe_ifExp hc ha hb) fun σ H Q h => ?_
  obtain ⟨va, s, HP, rl, h⟩ := h
  dsimp only at h
  refine bindTE rl h fun k s1 H1 HP1 st1 h1 => ?_
  have rl1 := st1.rel
  cases k with
  | true => rw [if_pos rfl] at h1 ⊢; exact ⟨va, s1, HP1, rl1, h1⟩
  | false => rw [if_neg Bool.false_ne_true] at h1 ⊢; exact ⟨va, s1, HP1, rl1, h1⟩
/-! ## constants -/
theorem de_int {i : Int} {j : Nat} : DE X W (.Constant (.int i) j pos) (fun s => .ok (.int i) s) := pe_imp pe_int fun σ H Q ⟨va, s, HP, rl, h⟩ => fin_int h rl
theorem de_bl {i : Bool} {j : Nat} : DE X W (.Constant (.bool i) j pos) (fun s => .ok (.bl i) s) := pe_imp pe_bl fun σ H Q ⟨va, s, HP, rl, h⟩ => fin_bl h rl
theorem de_non {j : Nat} : DE X W (.Constant .none j pos) (fun s => .ok .non s) := pe_imp pe_non fun σ H Q ⟨va, s, HP, rl, h⟩ => h.fin rl .non
theorem de_str {i : Str} {j : Nat} : DE X W (.Constant (.str i) j pos) (fun s => .ok (.str i) s) := pe_imp pe_str fun σ H Q ⟨va, s, HP, rl, h⟩ => fin_str h rl
/-- a constant of the module: an int, a text -/
theorem de_gint {x : Str} {i : Int} {t : Tok} (hg : Gl X x) (hm : X.mg x = some (.int i t)) (hd : (x == ("__debug__" : Str)) = false := by decide) : DE X W (.Name x pos) (fun s => .ok (.int i) s) :=
  pe_imp (pe_glob (v := .int i) hg hm ⟨t, rfl⟩ hd) fun σ H Q ⟨va, s, HP, rl, h⟩ => fin_int h rl
theorem de_gstr {x z : Str} {t : Tok} (hg : Gl X x) (hm : X.mg x = some (.str z t)) (hd : (x == ("__debug__" : Str)) = false := by decide) : DE X W (.Name x pos) (fun s => .ok (.str z) s) :=
  pe_imp (pe_glob (v := .str z) hg hm ⟨t, rfl⟩ hd) fun σ H Q ⟨va, s, HP, rl, h⟩ => fin_str h rl
/-! ## argument lists, displays -/
variable {ga : S → R (List D)}
theorem da_nil : DA X W [] (fun s => .ok [] s) := pa_imp pa_nil fun σ H Q ⟨va, s, HP, rl, h⟩ => h [] H HP (Stp.refl rl) .nil
theorem da_cons (ha : DE X W e fa) (hr : DA X W es ga) (hs : starEach (e :: es) X.env = (false, eval e X.env) :: starEach es X.env := by rfl) : DA X W (e :: es) (fun s => (fa s).bind fun x s => (ga s).bind fun xs s => .ok (x :: xs) s) := by
  refine pa_imp (pa_cons ha hr hs) fun σ H Q h => ?_
  obtain ⟨va, s, HP, rl, h⟩ := h
  dsimp only at h
  refine bindEA rl h fun d s1 v H1 HP1 st1 dv h1 => ?_
  have rl1 := st1.rel
  refine bindA rl1 (fun ds s2 vs H2 HP2 e st dvs => ?_) (fun n p s' dd H' HP' C e st z m => ?_) (fun e => ?_) <;> rw [e] at h1
  · exact h1 (v :: vs) H2 HP2 st (.cons (Dv.mono st.same d v dv) dvs)
  · exact h1 dd H' HP' C st z m
  · exact h1
def mkT (ds : List D) (s : S) : R D := if ds.length ≤ sizeLine then .ok (.tup ds) s else .stuck
def mkL (ds : List D) (s : S) : R D := if ds.length ≤ sizeLine then .ok (.lst ds) s else .stuck
theorem mkT_of {ds : List D} {s : S} (h : ds.length ≤ 1000) : mkT ds s = .ok (.tup ds) s := if_pos (Nat.le_of_lt (small1000 h))
theorem mkL_of {ds : List D} {s : S} (h : ds.length ≤ 1000) : mkL ds s = .ok (.lst ds) s := if_pos (Nat.le_of_lt (small1000 h))
theorem de_tup {x1} (h : DA X W es ga) : DE X W (.Tuple es x1 pos) (fun s => (ga s).bind mkT) := by
  refine pe_imp (pe_tup h) fun σ H Q q => ?_
  obtain ⟨va, s, HP, rl, q⟩ := q
  refine bindAE rl q fun ds s1 vs H1 HP1 rl1 dv q1 => ?_
  unfold mkT at q1
  split at q1
  · exact ⟨by rw [dv.length]; assumption, fun p hp => fin_tup q1 rl1.rel dv (by assumption) p hp⟩
  · exact q1.elim
theorem de_lst (h : DA X W es ga) : DE X W (.List es pos) (fun s => (ga s).bind mkL) := by
  refine pe_imp (pe_lst h) fun σ H Q q => ?_
  obtain ⟨va, s, HP, rl, q⟩ := q
  refine bindAE rl q fun ds s1 vs H1 HP1 rl1 dv q1 => ?_
  unfold mkL at q1
  split at q1
  · exact ⟨by rw [dv.length]; assumption, fun p hp => fin_lst q1 rl1.rel dv (by assumption) p hp⟩
  · exact q1.elim
end
end DL

namespace DL
open PySem PySem.Spec PyProof.Rows L2
/-! ## arithmetic -/
def addI : D → D → Option D
  | .int i, .int j => some (.int (i + j))
  | _, _ => none
def addS : D → D → Option D
  | .str i, .str j => if i.length + j.length ≤ sizeLine then some (.str (i ++ j)) else none
  | _, _ => none
def addT : D → D → Option D
  | .tup i, .tup j => if i.length + j.length ≤ sizeLine then some (.tup (i ++ j)) else none
  | _, _ => none
def addL : D → D → Option D
  | .lst i, .lst j => if i.length + j.length ≤ sizeLine then some (.lst (i ++ j)) else none
  | _, _ => none
def opAdd : D → D → Option D
  | .int i, .int j => some (.int (i + j))
  | .str i, .str j => if i.length + j.length ≤ sizeLine then some (.str (i ++ j)) else none
  | .tup i, .tup j => if i.length + j.length ≤ sizeLine then some (.tup (i ++ j)) else none
  | .lst i, .lst j => if i.length + j.length ≤ sizeLine then some (.lst (i ++ j)) else none
  | _, _ => none
def opSub : D → D → Option D
  | .int i, .int j => some (.int (i - j))
  | _, _ => none
def okMul (i j : Int) : Bool := decide (i.natAbs.log2 + j.natAbs.log2 < 1000000)
def opMul : D → D → Option D
  | .int i, .int j => if okMul i j then some (.int (i * j)) else none
  | .tup xs, .int k => if xs ≠ [] ∧ 2 ≤ k ∧ k ≤ 1000 ∧ xs.length ≤ 1000 then some (.tup (List.replicate k.toNat xs).flatten) else none
  | .lst xs, .int k => if 0 ≤ k ∧ k ≤ 1000 ∧ xs.length ≤ 1000 then some (.lst (List.replicate k.toNat xs).flatten) else none
  | _, _ => none
def opDiv : D → D → Option D
  | .int i, .int j => if 0 < j ∧ j.natAbs.log2 < 9000 then some (.int (i / j)) else none
  | _, _ => none
def opMod : D → D → Option D
  | .int i, .int j => if 0 < j then some (.int (i % j)) else none
  | _, _ => none
def opPow : D → D → Option D
  | .int i, .int j => if 0 ≤ j ∧ j ≤ 1000000 ∧ i.natAbs < 2 ^ 64 then some (.int (i ^ j.toNat)) else none
  | _, _ => none
section
variable {K : PySem.W.Frag} {HP H : Hp}
theorem DvA.rep2 {vs : List V} {ds : List D} (h : DvA K H vs ds) : ∀ n : Nat, DvA K H (List.replicate n vs).flatten (List.replicate n ds).flatten
  | 0 => .nil
  | n + 1 => by
    rw [List.replicate_succ, List.replicate_succ, List.flatten_cons, List.flatten_cons]
    exact h.append (DvA.rep2 h n)
theorem rep_len {α : Type} {xs : List α} {k : Int} (h : xs.length ≤ 1000) (h2 : k ≤ 1000) : (List.replicate k.toNat xs).flatten.length ≤ sizeLine := by
  rw [List.length_flatten, List.map_replicate, List.sum_replicate_nat]
  exact Nat.le_trans (Nat.mul_le_mul (Int.toNat_le.mpr h2) h) (show 1000 * 1000 ≤ 16777216 by decide)
theorem DvA.nil_iff {vs : List V} {ds : List D} (h : DvA K H vs ds) : vs = [] ↔ ds = [] := by cases h <;> simp
end
section
variable {X : Cx} {W : WX} {a b c e : Expr} {fa fb fc : S → R D} {pos : Pos}
theorem od_addI : OpD X (binaryOp .Add) addI := by
  refine ⟨_, op_add, fun W va s σ HP H x y a b d Q rl dx dy e p => ?_⟩
  unfold addI at e
  split at e <;> cases e
  cases dx; cases dy
  exact ⟨_, _, rfl, rfl, fin_int p rl⟩
theorem od_addS : OpD X (binaryOp .Add) addS := by
  refine ⟨_, op_add_str, fun W va s σ HP H x y a b d Q rl dx dy e p => ?_⟩
  unfold addS at e
  split at e
  · split at e <;> cases e
    cases dx; cases dy
    exact ⟨_, _, rfl, rfl, by assumption, fin_str p rl⟩
  · cases e
theorem od_addT : OpD X (binaryOp .Add) addT := by
  refine ⟨_, op_catA, fun W va s σ HP H x y a b d Q rl dx dy e p => ?_⟩
  unfold addT at e
  split at e
  · split at e <;> cases e
    rename_i hz
    cases dx with
    | @tup a xs ds h1 y1 a1 =>
      cases dy with
      | @tup b ys es h2 y2 a2 =>
        refine ⟨a, b, xs, ys, rfl, rfl, SqT.of (rl.sub _ _ h1), SqT.of (rl.sub _ _ h2), by rw [a1.length, a2.length]; exact hz, fun z => ?_, fun _ z => ?_, fun _ _ q hq => fin_tup p rl (a1.append a2) (by rw [List.length_append]; exact hz) q hq⟩
        · have := a1.nil_iff.mp z
          subst this
          exact p.fin rl (.tup h2 y2 a2)
        · have := a2.nil_iff.mp z
          subst this
          rw [List.append_nil] at p
          exact p.fin rl (.tup h1 y1 a1)
  · cases e
theorem od_addL : OpD X (binaryOp .Add) addL := by
  refine ⟨_, op_cat, fun W va s σ HP H x y a b d Q rl dx dy e p => ?_⟩
  unfold addL at e
  split at e
  · split at e <;> cases e
    rename_i hz
    cases dx with
    | @lst a xs ds h1 y1 a1 =>
      cases dy with
      | @lst b ys es h2 y2 a2 =>
        exact ⟨a, b, xs, ys, rfl, rfl, rl.sub _ _ h1, rl.sub _ _ h2, by rw [a1.length, a2.length]; exact hz, fun q hq => fin_lst p rl (a1.append a2) (by rw [List.length_append]; exact hz) q hq⟩
  · cases e
theorem od_add : OpD X (binaryOp .Add) opAdd := by
  refine (((od_addI.orElse od_addS).orElse od_addT).orElse od_addL).imp fun a b d e => ?_
  unfold opAdd at e
  split at e
  · exact e
  · simp only [addI, addS, addT, addL, Option.none_or, Option.or_none]; exact e
  · simp only [addI, addS, addT, addL, Option.none_or, Option.or_none]; exact e
  · simp only [addI, addS, addT, addL, Option.none_or, Option.or_none]; exact e
  · cases e
theorem od_sub : OpD X (binaryOp .Sub) opSub := by
  refine ⟨_, op_sub, fun W va s σ HP H x y a b d Q rl dx dy e p => ?_⟩
  unfold opSub at e
  split at e <;> cases e
  cases dx; cases dy
  exact ⟨_, _, rfl, rfl, fin_int p rl⟩
theorem od_mul : OpD X (binaryOp .Mult) opMul := by
  refine ⟨_, (op_mulW.or op_repT).or op_rep, fun W va s σ HP H x y a b d Q rl dx dy e p => ?_⟩
  unfold opMul at e
  split at e
  · split at e <;> cases e
    rename_i hz
    cases dx; cases dy
    exact .inl (.inl ⟨_, _, rfl, rfl, (show CMulW _ _ from of_decide_eq_true (p := _ < 1000000) hz), fin_int p rl⟩)
  · split at e <;> cases e
    rename_i hz
    cases dx with
    | @tup a xs ds h1 y1 a1 =>
      cases dy
      obtain ⟨z1, z2, z3, z4⟩ := hz
      exact .inl (.inr ⟨a, _, xs, rfl, rfl, SqT.of (rl.sub _ _ h1), fun q => z1 (a1.nil_iff.mp q), z2, z3, by rw [a1.length]; exact z4, fun q hq => fin_tup p rl (a1.rep2 _) (rep_len z4 z3) q hq⟩)
  · split at e <;> cases e
    rename_i hz
    cases dx with
    | @lst a xs ds h1 y1 a1 =>
      cases dy
      obtain ⟨z2, z3, z4⟩ := hz
      refine .inr ⟨a, _, xs, rfl, rfl, rl.sub _ _ h1, by omega, by omega, ?_, fun q hq => fin_lst p rl (a1.rep2 _) (rep_len z4 z3) q hq⟩
      have h9 : xs.length ≤ 1000 := by rw [a1.length]; exact z4
      exact Nat.le_trans (Nat.mul_le_mul h9 (Int.toNat_le.mpr z3)) (show 1000 * 1000 ≤ 16777216 by decide)
  · cases e
theorem od_div : OpD X (binaryOp .FloorDiv) opDiv := by
  refine ⟨_, op_fdivW, fun W va s σ HP H x y a b d Q rl dx dy e p => ?_⟩
  unfold opDiv at e
  split at e
  · split at e <;> cases e
    rename_i hz
    cases dx; cases dy
    exact ⟨_, _, rfl, rfl, hz, fin_int p rl⟩
  · cases e
theorem od_mod : OpD X (binaryOp .Mod) opMod := by
  refine ⟨_, op_mod, fun W va s σ HP H x y a b d Q rl dx dy e p => ?_⟩
  unfold opMod at e
  split at e
  · split at e <;> cases e
    rename_i hz
    cases dx; cases dy
    exact ⟨_, _, rfl, rfl, hz, fin_int p rl⟩
  · cases e
theorem od_pow : OpD X (binaryOp .Pow) opPow := by
  refine ⟨_, op_pow, fun W va s σ HP H x y a b d Q rl dx dy e p => ?_⟩
  unfold opPow at e
  split at e
  · split at e <;> cases e
    rename_i hz
    cases dx; cases dy
    exact ⟨_, _, rfl, rfl, hz, fin_int p rl⟩
  · cases e
def opNeg : D → Option D
  | .int i => some (.int (-i))
  | _ => none
theorem de_neg (ha : DE X W a fa) : DE X W (.UnaryOp .USub a pos) (fun s => (fa s).bind fun x s => lift (opNeg x) s) := by
  refine pe_imp (pe_un un_neg ha) fun σ H Q h => ?_
  obtain ⟨va, s, HP, rl, h⟩ := h
  refine bindEE rl h fun x s1 v H1 HP1 st1 d1 h1 => ?_
  have rl1 := st1.rel
  cases d1 <;> first | exact h1.elim | exact ⟨_, rfl, fin_int h1 rl1⟩
/-! ## comparisons of ints -/
def opLt : D → D → Option D
  | .int i, .int j => some (.bl (decide (i < j)))
  | _, _ => none
def opLe : D → D → Option D
  | .int i, .int j => some (.bl (decide (i ≤ j)))
  | _, _ => none
def opGt : D → D → Option D
  | .int i, .int j => some (.bl (decide (j < i)))
  | _, _ => none
def opGe : D → D → Option D
  | .int i, .int j => some (.bl (decide (j ≤ i)))
  | _, _ => none
theorem od_lt : OpD X (compareOp .Lt) opLt := by
  refine ⟨_, op_lt, fun W va s σ HP H x y a b d Q rl dx dy e p => ?_⟩
  unfold opLt at e
  split at e <;> cases e
  cases dx; cases dy
  exact ⟨_, _, rfl, rfl, fin_bl p rl⟩
theorem od_le : OpD X (compareOp .LtE) opLe := by
  refine ⟨_, op_le, fun W va s σ HP H x y a b d Q rl dx dy e p => ?_⟩
  unfold opLe at e
  split at e <;> cases e
  cases dx; cases dy
  exact ⟨_, _, rfl, rfl, fin_bl p rl⟩
theorem od_gt : OpD X (compareOp .Gt) opGt := by
  refine ⟨_, op_gt, fun W va s σ HP H x y a b d Q rl dx dy e p => ?_⟩
  unfold opGt at e
  split at e <;> cases e
  cases dx; cases dy
  exact ⟨_, _, rfl, rfl, fin_bl p rl⟩
theorem od_ge : OpD X (compareOp .GtE) opGe := by
  refine ⟨_, op_ge, fun W va s σ HP H x y a b d Q rl dx dy e p => ?_⟩
  unfold opGe at e
  split at e <;> cases e
  cases dx; cases dy
  exact ⟨_, _, rfl, rfl, fin_bl p rl⟩
/-! ## is None, is a bool -/
def opIs : D → D → Option D
  | .ref _, _ => none
  | .scr _, _ => none
  | .exn _ _, _ => none
  | .non, .non => some (.bl true)
  | _, .non => some (.bl false)
  | .bl i, .bl j => some (.bl (decide (i = j)))
  | _, _ => none
def opIsNot : D → D → Option D
  | .ref _, _ => none
  | .scr _, _ => none
  | .exn _ _, _ => none
  | .non, .non => some (.bl false)
  | _, .non => some (.bl true)
  | .bl i, .bl j => some (.bl (!decide (i = j)))
  | _, _ => none
theorem od_is : OpD X (compareOp .Is) opIs := by
  refine ⟨_, op_isN.or op_isBl, fun W va s σ HP H x y a b d Q rl dx dy e p => ?_⟩
  unfold opIs at e
  split at e <;> cases e
  · cases dx; cases dy; exact .inl ⟨rfl, fin_bl p rl⟩
  · rename_i h1 h2 h3
    cases dy
    refine .inl ⟨rfl, ?_⟩
    rw [decide_eq_false (fun z => ?_)]
    · exact fin_bl p rl
    · subst z; cases dx; exact h3 rfl
  · cases dx; cases dy; exact .inr ⟨_, _, rfl, rfl, fin_bl p rl⟩
theorem od_isnot : OpD X (compareOp .IsNot) opIsNot := by
  refine ⟨_, op_notN.or op_notBl, fun W va s σ HP H x y a b d Q rl dx dy e p => ?_⟩
  unfold opIsNot at e
  split at e <;> cases e
  · cases dx; cases dy; exact .inl ⟨rfl, fin_bl p rl⟩
  · rename_i h1 h2 h3
    cases dy
    refine .inl ⟨rfl, ?_⟩
    rw [decide_eq_false (fun z => ?_)]
    · exact fin_bl p rl
    · subst z; cases dx; exact h3 rfl
  · cases dx; cases dy; exact .inr ⟨_, _, rfl, rfl, fin_bl p rl⟩
/-! ## chains -/
theorem tB_of' {f : S → R D} {va : VA} {s : S} {σ : St} {HP H : Hp} {Q : Bool → Hp → Prop} (h : PoT X W va s σ HP H ((f s).bind toB) Q) : PoE X W va s σ HP H (f s) fun x H' => ∃ k, x = .bl k ∧ Q k H' := by
  cases e : f s with
  | ok d s' =>
    rw [e] at h
    intro v H' HP' st dv
    cases dv <;> first | exact h.elim | exact ⟨_, rfl, h H' HP' st⟩
  | exc n p s' => rw [e] at h; exact h
  | stuck => rw [e] at h; exact h
def ChV (X : Cx) (W : WX) (ops : List CmpOp) (rs : List (Sem Value)) (g : D → S → R D) : Prop :=
  ∀ (pos : Pos) (pins : List (Addr × Obj)) (s : Shared) (va : VA) (st : S) (σ : St) (HP H : Hp) (y : D) (x : V) (v : Value) (Q : VK), Inv X pins σ H s → Rel X.K va st σ HP H → Dv X.K HP x y → RelV x v → PoE X W va st σ HP H (g y st) Q →
    wpAny (model X.prog X.w) X.A (compareChain pos v ops rs) (EP X pins σ Q) X.xe s
def ChT (X : Cx) (W : WX) (ops : List CmpOp) (rs : List (Sem Value)) (g : D → S → R Bool) : Prop :=
  ∀ (pos : Pos) (pins : List (Addr × Obj)) (s : Shared) (va : VA) (st : S) (σ : St) (HP H : Hp) (y : D) (x : V) (v : Value) (Q : Bool → Hp → Prop), Inv X pins σ H s → Rel X.K va st σ HP H → Dv X.K HP x y → RelV x v → PoT X W va st σ HP H (g y st) Q →
    wpAny (model X.prog X.w) X.A (testChain pos v ops rs) (TP X pins σ Q) X.xe s
theorem chv_last {op : CmpOp} {g : D → D → Option D} (o : OpD X (compareOp op) g) (hc : DE X W c fc) : ChV X W [op] [eval c X.env] (fun y s => (fc s).bind fun z s => lift (g y z) s) := by
  obtain ⟨r, h1, h2⟩ := o
  intro pos pins s va st σ HP H y x v Q I rl dx rx h
  refine chain_last (thn (hc.run pins s σ H _ I (bindEE (R := fun w H2 => r x w H2 Q) rl h fun z s1 w H1 HP1 st1 d1 hz => ?_)) fun u s2 ⟨w, H2, I2, r2, q2⟩ => h1 pins s2 σ H2 x w v u _ I2 rx r2 q2)
  cases q : g y z with
  | none => rw [q] at hz; exact hz.elim
  | some d => rw [q] at hz; exact h2 W va s1 σ HP1 H1 x w y z d Q st1.rel (Dv.mono st1.same y x dx) d1 q hz
theorem cht_last {op : CmpOp} {g : D → D → Option D} (o : OpD X (compareOp op) g) (hc : DE X W c fc) : ChT X W [op] [eval c X.env] (fun y s => ((fc s).bind fun z s => lift (g y z) s).bind toB) := by
  obtain ⟨r, h1, h2⟩ := o
  intro pos pins s va st σ HP H y x v Q I rl dx rx h
  refine test_last (thn (hc.run pins s σ H _ I (bindEE (R := fun w H2 => r x w H2 fun t H3 => ∃ k, t = .bl k ∧ Q k H3) rl (tB_of' (f := fun s => (fc s).bind fun z s => lift (g y z) s) h) fun z s1 w H1 HP1 st1 d1 hz => ?_)) fun u s2 ⟨w, H2, I2, r2, q2⟩ => thn (h1 pins s2 σ H2 x w v u _ I2 rx r2 q2) fun t s3 ⟨z, H3, I3, r3, k, e, q3⟩ => ?_)
  · cases q : g y z with
    | none => rw [q] at hz; exact hz.elim
    | some d => rw [q] at hz; exact h2 W va s1 σ HP1 H1 x w y z d _ st1.rel (Dv.mono st1.same y x dx) d1 q hz
  · subst e
    cases r3
    exact wpAny_truthy_bool ⟨H3, I3, q3⟩
theorem chv_link {op op' : CmpOp} {ops : List CmpOp} {b' : Sem Value} {rs : List (Sem Value)} {g : D → D → Option D} {k : D → S → R D} (o : OpD X (compareOp op) g) (hb : DE X W b fb) (hr : ChV X W (op' :: ops) (b' :: rs) k) :
    ChV X W (op :: op' :: ops) (eval b X.env :: b' :: rs) (fun x s => (fb s).bind fun y s => ((lift (g x y) s).bind toB).bind fun c s => if c = true then k y s else .ok (.bl false) s) := by
  obtain ⟨r, h1, h2⟩ := o
  intro pos pins s va st σ HP H x xv v Q I rl dx rx h
  refine chain_link (thn (hb.run pins s σ H _ I (bindEE (R := fun w H2 => r xv w H2 fun t H3 => ∃ c y s1 HP1, t = .bl c ∧ Rel X.K va s1 σ HP1 H3 ∧ Dv X.K HP1 w y ∧ PoE X W va s1 σ HP1 H3 (if c = true then k y s1 else .ok (.bl false) s1) Q) rl h fun y s1 w H1 HP1 st1 d1 hz => ?_)) fun u s2 ⟨w, H2, I2, r2, q2⟩ => thn (h1 pins s2 σ H2 xv w v u _ I2 rx r2 q2) fun t s3 ⟨z, H3, I3, r3, c, y, s1, HP1, e, rl3, d3, q3⟩ => ?_)
  · cases q : g x y with
    | none => rw [q] at hz; exact hz.elim
    | some d =>
      rw [q] at hz
      refine h2 W va s1 σ HP1 H1 xv w x y d _ st1.rel (Dv.mono st1.same x xv dx) d1 q fun t H3 HP3 st3 d3 => ?_
      cases d3 <;> first | exact hz.elim | skip
      exact ⟨_, y, s1, HP3, rfl, st3.rel, Dv.mono st3.same y w d1, PoE.from st3 hz⟩
  · subst e
    cases r3
    refine wpAny_truthy_bool ?_
    cases c with
    | false => exact ⟨.bl false, H3, I3, rfl, q3.fin rl3 (.bl false)⟩
    | true => exact hr pos pins s3 va s1 σ HP1 H3 y w u Q I3 rl3 d3 r2 q3
theorem cht_link {op op' : CmpOp} {ops : List CmpOp} {b' : Sem Value} {rs : List (Sem Value)} {g : D → D → Option D} {k : D → S → R Bool} (o : OpD X (compareOp op) g) (hb : DE X W b fb) (hr : ChT X W (op' :: ops) (b' :: rs) k) :
    ChT X W (op :: op' :: ops) (eval b X.env :: b' :: rs) (fun x s => (fb s).bind fun y s => ((lift (g x y) s).bind toB).bind fun c s => if c = true then k y s else .ok false s) := by
  obtain ⟨r, h1, h2⟩ := o
  intro pos pins s va st σ HP H x xv v Q I rl dx rx h
  refine test_link (thn (hb.run pins s σ H _ I (bindET (R := fun w H2 => r xv w H2 fun t H3 => ∃ c y s1 HP1, t = .bl c ∧ Rel X.K va s1 σ HP1 H3 ∧ Dv X.K HP1 w y ∧ PoT X W va s1 σ HP1 H3 (if c = true then k y s1 else .ok false s1) Q) rl h fun y s1 w H1 HP1 st1 d1 hz => ?_)) fun u s2 ⟨w, H2, I2, r2, q2⟩ => thn (h1 pins s2 σ H2 xv w v u _ I2 rx r2 q2) fun t s3 ⟨z, H3, I3, r3, c, y, s1, HP1, e, rl3, d3, q3⟩ => ?_)
  · cases q : g x y with
    | none => rw [q] at hz; exact hz.elim
    | some d =>
      rw [q] at hz
      refine h2 W va s1 σ HP1 H1 xv w x y d _ st1.rel (Dv.mono st1.same x xv dx) d1 q fun t H3 HP3 st3 d3 => ?_
      cases d3 <;> first | exact hz.elim | skip
      exact ⟨_, y, s1, HP3, rfl, st3.rel, Dv.mono st3.same y w d1, PoT.from st3 hz⟩
  · subst e
    cases r3
    refine wpAny_truthy_bool ?_
    cases c with
    | false => exact ⟨H3, I3, q3.fin rl3⟩
    | true => exact hr pos pins s3 va s1 σ HP1 H3 y w u Q I3 rl3 d3 r2 q3
/-- a < b < .. -/
theorem de_chain {op op' : CmpOp} {ops : List CmpOp} {b' : Expr} {bs : List Expr} {k : D → S → R D} (ha : DE X W a fa) (hr : ChV X W (op :: op' :: ops) (eval b X.env :: eval b' X.env :: evalEach bs X.env) k)
    (hm : lastMarks (op :: op' :: ops) (b :: b' :: bs) = false := by with_unfolding_all rfl) : DE X W (.Compare a (op :: op' :: ops) (b :: b' :: bs) pos) (fun s => (fa s).bind k) := by
  refine ⟨fun pins s σ H Q I h => ?_⟩
  obtain ⟨va, st, HP, rl, h⟩ := h
  refine Compare_chain (thn (ha.run pins s σ H _ I (bindEE (R := fun v H1 => ∃ x s1 HP1, Rel X.K va s1 σ HP1 H1 ∧ Dv X.K HP1 v x ∧ PoE X W va s1 σ HP1 H1 (k x s1) Q) rl h fun x s1 v H1 HP1 st1 d1 h1 => ⟨x, s1, HP1, st1.rel, d1, h1⟩)) fun u s2 ⟨v, H2, I2, r2, x, s1, HP1, rl1, d1, h1⟩ => ?_) hm
  exact hr pos pins s2 va s1 σ HP1 H2 x v u Q I2 rl1 d1 r2 h1
theorem dt_chain {op op' : CmpOp} {ops : List CmpOp} {b' : Expr} {bs : List Expr} {k : D → S → R Bool} (ha : DE X W a fa) (hr : ChT X W (op :: op' :: ops) (eval b X.env :: eval b' X.env :: evalEach bs X.env) k)
    (hm : lastMarks (op :: op' :: ops) (b :: b' :: bs) = false := by with_unfolding_all rfl) : DT X W (.Compare a (op :: op' :: ops) (b :: b' :: bs) pos) (fun s => (fa s).bind k) := by
  refine ⟨fun pins s σ H Q I h => ?_⟩
  obtain ⟨va, st, HP, rl, h⟩ := h
  refine isTrue_chain (thn (ha.run pins s σ H _ I (bindET (R := fun v H1 => ∃ x s1 HP1, Rel X.K va s1 σ HP1 H1 ∧ Dv X.K HP1 v x ∧ PoT X W va s1 σ HP1 H1 (k x s1) Q) rl h fun x s1 v H1 HP1 st1 d1 h1 => ⟨x, s1, HP1, st1.rel, d1, h1⟩)) fun u s2 ⟨v, H2, I2, r2, x, s1, HP1, rl1, d1, h1⟩ => ?_) hm
  exact hr pos pins s2 va s1 σ HP1 H2 x v u Q I2 rl1 d1 r2 h1
end
end DL

namespace DL
open PySem PySem.Spec PyProof.Rows L2
/-! ## names -/
section
variable {K : PySem.W.Frag} {va : VA} {s : S} {σ : St} {HP H : Hp}
theorem sl_put_ne {s : S} {i j : Nat} {x : Sl} (h : j ≠ i) : (s.put i x).sl[j]? = s.sl[j]? := by
  show (s.sl.set i (some x))[j]? = _
  rw [List.getElem?_set_ne (Ne.symm h)]
theorem sl_put_eq {s : S} {i : Nat} {x : Sl} {y : Option Sl} (h : (s.put i x).sl[i]? = some y) : y = some x := by
  have h' : (s.sl.set i (some x))[i]? = some y := h
  rw [List.getElem?_set_self'] at h'
  cases e : s.sl[i]? with
  | none => rw [e] at h'; cases h'
  | some z => rw [e] at h'; simpa using h'.symm
/-- an own list becomes one that stays as it is -/
theorem Rel.freeze (r : Rel K va s σ HP H) {i : Nat} {xs : List D} (e : s.sl[i]? = some (some (.own xs))) :
    ∃ a HP', σ[i]? = some (some (.ref a)) ∧ Dv K HP' (.ref a) (.lst xs) ∧ Stp K va s σ HP H (s.put i (.val (.lst xs))) σ HP' H := by
  obtain ⟨a, vs, h1, h2, h3, hz, h4⟩ := r.own i xs e
  have sm : Same HP (upd HP a (.lst vs)) := fun b x e => by rw [upd_ne (ne_of_none e h2)]; exact e
  have dl : Dv K (upd HP a (.lst vs)) (.ref a) (.lst xs) := .lst upd_same hz (DvA.mono sm xs vs h4)
  have own : ∀ (j : Nat) ys, (s.put i (.val (.lst xs))).sl[j]? = some (some (.own ys)) → j ≠ i ∧ s.sl[j]? = some (some (.own ys)) := fun j ys q => by
    by_cases h : j = i
    · subst h; cases sl_put_eq q
    · rw [sl_put_ne h] at q; exact ⟨h, q⟩
  have now : ∀ b, Owns va (s.put i (.val (.lst xs))) σ b → Owns va s σ b := fun b q => by
    rcases q with ⟨j, ys, q1, q2⟩ | q
    · exact .inl ⟨j, ys, (own j ys q1).2, q2⟩
    · exact .inr q
  refine ⟨a, upd HP a (.lst vs), h1, dl, ⟨by simpa [S.put] using r.len, fun b x q => ?_, fun j d q => ?_, fun j ys q => ?_, fun j q => ?_, fun ys q => ?_, fun j k ys zs b n q1 q2 => ?_, fun j ys q => ?_, ⟨r.tab.t, noTb_upd r.tab.n (fun _ z => nomatch z)⟩⟩, sm, fun b o hb _ nb => ⟨hb, fun z => nb (now b z), fun z => ?_⟩, Iff.rfl⟩
  · by_cases hb : b = a
    · subst hb; rw [upd_same] at q; cases q; exact h3
    · rw [upd_ne hb] at q; exact r.sub b x q
  · by_cases h : j = i
    · subst h
      cases sl_put_eq q
      exact ⟨_, h1, dl⟩
    · rw [sl_put_ne h] at q
      obtain ⟨v, z1, z2⟩ := r.val j d q
      exact ⟨v, z1, Dv.mono sm d v z2⟩
  · obtain ⟨nj, q'⟩ := own j ys q
    obtain ⟨b, ws, z1, z2, z3, zz, z4⟩ := r.own j ys q'
    have ne : b ≠ a := fun z => by subst z; exact r.dis i j xs ys b (Ne.symm nj) e q' h1 z1
    exact ⟨b, ws, z1, by rw [upd_ne ne]; exact z2, z3, zz, DvA.mono sm ys ws z4⟩
  · by_cases h : j = i
    · subst h; cases sl_put_eq q
    · rw [sl_put_ne h] at q; exact r.vis j q
  · obtain ⟨z1, ws, z2, zz, z3⟩ := r.vst ys q
    have q' : s.via = some ys := q
    have ne : va.a ≠ a := fun z => r.dvi i xs e (by rw [q']; simp) (by rw [z]; exact h1)
    exact ⟨by rw [upd_ne ne]; exact z1, ws, z2, zz, DvA.mono sm ys ws z3⟩
  · exact r.dis j k ys zs b n (own j ys q1).2 (own k zs q2).2
  · exact r.dvi j ys (own j ys q).2
  · have ne : b ≠ a := fun w => nb (.inl ⟨i, xs, e, by rw [w]; exact h1⟩)
    rw [upd_ne ne]; exact z
end
def getS (i : Nat) (s : S) : R D := match s.sl[i]? with
  | some (some (.val d)) => .ok d s
  | some (some (.own xs)) => .ok (.lst xs) (s.put i (.val (.lst xs)))
  | _ => .stuck
section
variable {X : Cx} {W : WX} {a b c e : Expr} {es : List Expr} {fa fb fc : S → R D} {pos : Pos}
theorem de_v (i : Nat) {x : Str} {pos : Pos} (hN : X.N[i]? = some x := by rfl) (hv : Vis X.env.scope x := by first | exact Or.inl rfl | exact Or.inr (Or.inl rfl) | exact Or.inr (Or.inr rfl)) (hd : (x == ("__debug__" : Str)) = false := by decide)
    (hcd : (x == ("__classdict__" : Str)) = false := by decide) : DE X W (.Name x pos) (getS i) := by
  refine pe_imp (pv i hN hv hd hcd) fun σ H Q h => ?_
  obtain ⟨va, s, HP, rl, h⟩ := h
  unfold getS at h
  split at h
  · rename_i d q
    obtain ⟨v, h1, h2⟩ := rl.val i d q
    exact ⟨v, h1, h.fin rl h2⟩
  · rename_i xs q
    obtain ⟨b, HP', h1, h2, h3⟩ := rl.freeze q
    exact ⟨_, h1, h.fin_at h3 h2⟩
  · exact h.elim
end
/-! ## == -/
mutual
def D.py : D → PyData
  | .non => .none
  | .bl b => .bool b
  | .int i => .int i
  | .str x => .str x
  | .lst xs => .list (D.pyA xs)
  | .tup xs => .tuple (D.pyA xs)
  | .ref _ => .dict []
  | .scr _ => .dict []
  | .exn _ _ => .dict []
def D.pyA : List D → List PyData
  | [] => []
  | d :: ds => D.py d :: D.pyA ds
end
mutual
def deq : D → D → Bool
  | .non, .non => true
  | .bl a, .bl b => a == b
  | .bl a, .int j => (if a then 1 else 0) == j
  | .int i, .bl b => i == (if b then 1 else 0)
  | .int i, .int j => i == j
  | .str x, .str y => x == y
  | .lst xs, .lst ys => deqA xs ys
  | .tup xs, .tup ys => deqA xs ys
  | _, _ => false
def deqA : List D → List D → Bool
  | [], [] => true
  | x :: xs, y :: ys => deq x y && deqA xs ys
  | _, _ => false
end
def okd : Nat → D → Bool
  | _, .non => true
  | _, .bl _ => true
  | _, .int _ => true
  | _, .str x => PyData.strOk x
  | n + 1, .lst xs => xs.all (okd n)
  | n + 1, .tup xs => xs.all (okd n)
  | _, _ => false
mutual
theorem py_eqv : ∀ (a b : D) (n : Nat), okd n a = true → PyData.eqv a.py b.py = deq a b
  | .non, b, n, _ => by cases b <;> simp [D.py, PyData.eqv, deq]
  | .bl x, b, n, _ => by cases b <;> simp [D.py, PyData.eqv, deq]
  | .int x, b, n, _ => by cases b <;> simp [D.py, PyData.eqv, deq]
  | .str x, b, n, _ => by cases b <;> simp [D.py, PyData.eqv, deq]
  | .lst xs, b, n, h => by
    cases n with
    | zero => simp [okd] at h
    | succ n =>
      have h' : xs.all (okd n) = true := by simpa [okd] using h
      cases b <;> simp [D.py, PyData.eqv, deq, py_eqvA xs _ n h']
  | .tup xs, b, n, h => by
    cases n with
    | zero => simp [okd] at h
    | succ n =>
      have h' : xs.all (okd n) = true := by simpa [okd] using h
      cases b <;> simp [D.py, PyData.eqv, deq, py_eqvA xs _ n h']
  | .ref a, b, n, h => by cases n <;> simp [okd] at h
  | .scr a, b, n, h => by cases n <;> simp [okd] at h
  | .exn C p, b, n, h => by cases n <;> simp [okd] at h
theorem py_eqvA : ∀ (xs ys : List D) (n : Nat), xs.all (okd n) = true → PyData.eqvAll (D.pyA xs) (D.pyA ys) = deqA xs ys
  | [], ys, n, _ => by cases ys <;> simp [D.pyA, PyData.eqvAll, deqA]
  | x :: xs, ys, n, h => by
    have h' : okd n x = true ∧ xs.all (okd n) = true := by simpa using h
    cases ys with
    | nil => simp [D.pyA, PyData.eqvAll, deqA]
    | cons y ys => simp [D.pyA, PyData.eqvAll, deqA, py_eqv x y n h'.1, py_eqvA xs ys n h'.2]
end
mutual
theorem py_lay : ∀ (a : D) (n : Nat), okd n a = true → a.py.canLay0 = true ∧ a.py.depth ≤ n
  | .non, n, _ => by simp [D.py, PyData.canLay0, PyData.depth]
  | .bl x, n, _ => by simp [D.py, PyData.canLay0, PyData.depth]
  | .int x, n, _ => by simp [D.py, PyData.canLay0, PyData.depth]
  | .str x, n, h => by
    have h' : PyData.strOk x = true := by cases n <;> simpa [okd] using h
    simp [D.py, PyData.canLay0, PyData.depth, h']
  | .lst xs, n, h => by
    cases n with
    | zero => simp [okd] at h
    | succ n =>
      have h' : xs.all (okd n) = true := by simpa [okd] using h
      obtain ⟨h1, h2⟩ := py_layA xs n h'
      simp only [D.py, PyData.canLay0, PyData.depth]
      exact ⟨h1, by omega⟩
  | .tup xs, n, h => by
    cases n with
    | zero => simp [okd] at h
    | succ n =>
      have h' : xs.all (okd n) = true := by simpa [okd] using h
      obtain ⟨h1, h2⟩ := py_layA xs n h'
      simp only [D.py, PyData.canLay0, PyData.depth]
      exact ⟨h1, by omega⟩
  | .ref a, n, h => by cases n <;> simp [okd] at h
  | .scr a, n, h => by cases n <;> simp [okd] at h
  | .exn C p, n, h => by cases n <;> simp [okd] at h
theorem py_layA : ∀ (xs : List D) (n : Nat), xs.all (okd n) = true → PyData.canLayAll0 (D.pyA xs) = true ∧ PyData.depthAll (D.pyA xs) ≤ n
  | [], n, _ => by simp [D.pyA, PyData.canLayAll0, PyData.depthAll]
  | x :: xs, n, h => by
    have h' : okd n x = true ∧ xs.all (okd n) = true := by simpa using h
    obtain ⟨h1, h2⟩ := py_lay x n h'.1
    obtain ⟨h3, h4⟩ := py_layA xs n h'.2
    simp only [D.pyA, PyData.canLayAll0, PyData.depthAll, h1, h3, Bool.and_self, true_and]
    omega
end
mutual
theorem py_dp {K : PySem.W.Frag} {H HP : Hp} (sm : Same HP H) : ∀ (d : D) (v : V) (n : Nat), okd n d = true → Dv K HP v d → Dp K H v d.py
  | .non, _, _, _, h => by cases h; exact .non
  | .bl b, _, _, _, h => by cases h; exact .bl b
  | .int i, _, _, _, h => by cases h; exact .int i
  | .str x, _, _, _, h => by cases h; exact .str x
  | .ref a, _, n, o, h => by cases n <;> simp [okd] at o
  | .scr a, _, n, o, h => by cases n <;> simp [okd] at o
  | .exn C p, _, n, o, h => by cases n <;> simp [okd] at o
  | .lst xs, _, n, o, h => by
    cases n with
    | zero => simp [okd] at o
    | succ n =>
      have o' : xs.all (okd n) = true := by simpa [okd] using o
      cases h with
      | lst hs _ ha => exact .lst (SqL.of (sm _ _ hs)) (py_dpA sm xs _ n o' ha)
  | .tup xs, _, n, o, h => by
    cases n with
    | zero => simp [okd] at o
    | succ n =>
      have o' : xs.all (okd n) = true := by simpa [okd] using o
      cases h with
      | tup hs _ ha => exact .tup (SqT.of (sm _ _ hs)) (py_dpA sm xs _ n o' ha)
theorem py_dpA {K : PySem.W.Frag} {H HP : Hp} (sm : Same HP H) : ∀ (ds : List D) (vs : List V) (n : Nat), ds.all (okd n) = true → DvA K HP vs ds → DpAll K H vs (D.pyA ds)
  | [], _, _, _, h => by cases h; exact .nil
  | d :: ds, _, n, o, h => by
    have o' : okd n d = true ∧ ds.all (okd n) = true := by simpa using o
    cases h with
    | cons h1 h2 => exact .cons (py_dp sm d _ n o'.1 h1) (py_dpA sm ds _ n o'.2 h2)
end
theorem py_shaped {d : D} (h : okd 60 d = true) : SeqAt.shaped d.py = true := by
  obtain ⟨h1, h2⟩ := py_lay d 60 h
  unfold SeqAt.shaped
  rw [h1, decide_eq_true (show d.py.depth ≤ 64 by omega)]
  rfl
theorem pyA_any (f : D → Bool) (g : PyData → Bool) : ∀ ds : List D, (∀ d ∈ ds, g d.py = f d) → (D.pyA ds).any g = ds.any f
  | [], _ => rfl
  | d :: ds, h => by
    rw [D.pyA, List.any_cons, List.any_cons, h d (by simp), pyA_any f g ds fun e he => h e (by simp [he])]
def opEq (a b : D) : Option D := if okd 60 a && okd 60 b then some (.bl (deq a b)) else none
def opNe (a b : D) : Option D := if okd 60 a && okd 60 b then some (.bl (!deq a b)) else none
/-- whether a is among xs -/
def dmem (a : D) (xs : List D) : Bool := xs.any fun z => deq z a
def opIn (a b : D) : Option D := match b with
  | .lst xs => if okd 59 a && xs.all (okd 59) then some (.bl (dmem a xs)) else none
  | _ => none
def opNotIn (a b : D) : Option D := match b with
  | .lst xs => if okd 59 a && xs.all (okd 59) then some (.bl (!dmem a xs)) else none
  | _ => none
theorem okd_up : ∀ (n : Nat) (d : D), okd n d = true → okd (n + 1) d = true
  | 0, d, h => by cases d <;> simp_all [okd]
  | n + 1, d, h => by
    cases d with
    | lst xs =>
      have h' : ∀ x ∈ xs, okd n x = true := by simpa [okd] using h
      have : ∀ x ∈ xs, okd (n + 1) x = true := fun x hx => okd_up n x (h' x hx)
      simpa [okd] using this
    | tup xs =>
      have h' : ∀ x ∈ xs, okd n x = true := by simpa [okd] using h
      have : ∀ x ∈ xs, okd (n + 1) x = true := fun x hx => okd_up n x (h' x hx)
      simpa [okd] using this
    | _ => simp_all [okd]
section
variable {X : Cx} {W : WX} {a b c e : Expr} {es : List Expr} {fa fb fc : S → R D} {pos : Pos}
theorem od_eq {k : Nat} (hr : Room k X.A) : OpD X (compareOp .Eq) opEq := by
  refine ⟨_, op_eqD hr.units, fun W va s σ HP H x y a b d Q rl dx dy e p => ?_⟩
  unfold opEq at e
  split at e <;> cases e
  rename_i hz
  obtain ⟨h1, h2⟩ := Bool.and_eq_true_iff.mp hz
  exact ⟨a.py, b.py, py_dp rl.sub a x 60 h1 dx, py_dp rl.sub b y 60 h2 dy, py_shaped h1, py_shaped h2, by rw [py_eqv a b 60 h1]; exact fin_bl p rl⟩
theorem od_ne {k : Nat} (hr : Room k X.A) : OpD X (compareOp .NotEq) opNe := by
  refine ⟨_, op_neD hr.units, fun W va s σ HP H x y a b d Q rl dx dy e p => ?_⟩
  unfold opNe at e
  split at e <;> cases e
  rename_i hz
  obtain ⟨h1, h2⟩ := Bool.and_eq_true_iff.mp hz
  exact ⟨a.py, b.py, py_dp rl.sub a x 60 h1 dx, py_dp rl.sub b y 60 h2 dy, py_shaped h1, py_shaped h2, by rw [py_eqv a b 60 h1]; exact fin_bl p rl⟩
theorem dmem_py {a : D} {xs : List D} (h : xs.all (okd 59) = true) : ((D.pyA xs).any fun z => PyData.eqv z a.py) = dmem a xs := by
  refine pyA_any _ _ xs fun d hd => ?_
  exact py_eqv d a 59 (List.all_eq_true.mp h d hd)
theorem od_in {k : Nat} (hr : Room k X.A) : OpD X (compareOp .In) opIn := by
  refine ⟨_, op_inD (by have := hr.un; omega), fun W va s σ HP H x y a b d Q rl dx dy e p => ?_⟩
  unfold opIn at e
  split at e
  · split at e <;> cases e
    rename_i xs hz
    obtain ⟨h1, h2⟩ := Bool.and_eq_true_iff.mp hz
    have h3 : okd 60 (.lst xs) = true := by simpa [okd] using h2
    have h4 := okd_up 59 a h1
    refine ⟨a.py, D.pyA xs, py_dp rl.sub a x 60 h4 dx, py_dp rl.sub (.lst xs) y 60 h3 dy, py_shaped h4, py_shaped h3, ?_⟩
    rw [dmem_py h2]
    exact fin_bl p rl
  · cases e
theorem od_notin {k : Nat} (hr : Room k X.A) : OpD X (compareOp .NotIn) opNotIn := by
  refine ⟨_, op_notInD (by have := hr.un; omega), fun W va s σ HP H x y a b d Q rl dx dy e p => ?_⟩
  unfold opNotIn at e
  split at e
  · split at e <;> cases e
    rename_i xs hz
    obtain ⟨h1, h2⟩ := Bool.and_eq_true_iff.mp hz
    have h3 : okd 60 (.lst xs) = true := by simpa [okd] using h2
    have h4 := okd_up 59 a h1
    refine ⟨a.py, D.pyA xs, py_dp rl.sub a x 60 h4 dx, py_dp rl.sub (.lst xs) y 60 h3 dy, py_shaped h4, py_shaped h3, ?_⟩
    rw [dmem_py h2]
    exact fin_bl p rl
  · cases e
/-! ## items, slices -/
def opIx : D → D → Option D
  | .lst xs, .int i => atI xs i
  | .tup xs, .int i => atI xs i
  | .scr ns, .int i => (atI ns i).map .int
  | _, _ => none
theorem DvA.atI {K : PySem.W.Frag} {H : Hp} {vs : List V} {ds : List D} {i : Int} {d : D} (h : DvA K H vs ds) (e : L2.atI ds i = some d) : ∃ v, L2.atI vs i = some v ∧ Dv K H v d := by
  unfold L2.atI at e ⊢
  rw [h.length]
  cases q : ixN ds.length i with
  | none => rw [q] at e; cases e
  | some j => rw [q] at e; exact h.getD e
theorem de_ix (ha : DE X W a fa) (hb : DE X W b fb) (hs : PlainIx b := by exact fun _ _ => rfl) : DE X W (.Subscript a b pos) (fun s => (fa s).bind fun x s => (fb s).bind fun y s => lift (opIx x y) s) := by
  refine pe_imp (pe_ix ix_seq ha hb hs) fun σ H Q h => de_bin (fun W va s σ HP H x y a b d Q rl dx dy e p => ?_) σ H Q h
  unfold opIx at e
  split at e
  · cases dx with
    | @lst q vs ds h1 y1 a1 =>
      cases dy
      obtain ⟨v, h2, h3⟩ := a1.atI e
      exact .inl ⟨q, vs, _, v, rfl, rfl, SqL.of (rl.sub _ _ h1), h2, p.fin rl h3⟩
  · cases dx with
    | @tup q vs ds h1 y1 a1 =>
      cases dy
      obtain ⟨v, h2, h3⟩ := a1.atI e
      exact .inr (.inl ⟨q, vs, _, v, rfl, rfl, SqT.of (rl.sub _ _ h1), h2, p.fin rl h3⟩)
  · rename_i ns i
    cases dx with
    | @scr q _ h1 =>
      cases dy
      cases z : L2.atI ns i with
      | none => rw [z] at e; cases e
      | some n =>
        rw [z] at e
        cases e
        refine .inl ⟨q, ns.map V.int, i, .int n, rfl, rfl, rl.sub.seq h1, ?_, fin_int p rl⟩
        unfold L2.atI at z ⊢
        rw [List.length_map]
        cases y : ixN ns.length i with
        | none => rw [y] at z; cases z
        | some j =>
          rw [y] at z
          show (ns.map V.int)[j]? = _
          rw [List.getElem?_map, show ns[j]? = some n from z]
          rfl
  · cases e
/-- a slice's part -/
def PoO (X : Cx) (W : WX) (va : VA) (s : S) (σ : St) (HP H : Hp) (r : R (Option Int)) (Q : Option Int → Hp → Prop) : Prop := match r with
  | .ok b s' => ∀ H' HP', Stp X.K va s σ HP H s' σ HP' H' → Q b H'
  | .exc n p s' => ∀ dd H' HP' C, Stp X.K va s σ HP H s' σ HP' H' → ExcAt p dd H' → X.mg n = some (.ref C) → W (.ref C) dd σ H'
  | .stuck => False
def tDO (X : Cx) (W : WX) (f : S → R (Option Int)) : TO := fun σ H Q => ∃ va s HP, Rel X.K va s σ HP H ∧ PoO X W va s σ HP H (f s) Q
def DO (X : Cx) (W : WX) (e : Option Expr) (f : S → R (Option Int)) : Prop := PO X e (tDO X W f)
theorem do_none : DO X W none (fun s => .ok none s) := ⟨fun pins s σ H Q I h => by
  obtain ⟨va, st, HP, rl, h⟩ := h
  exact po_none.run pins s σ H Q I (h H HP (Stp.refl rl))⟩
def toI (d : D) (s : S) : R (Option Int) := match d with
  | .int i => .ok (some i) s
  | _ => .stuck
@[simp] theorem toI_int (i : Int) (s : S) : toI (.int i) s = .ok (some i) s := rfl
theorem do_some (ha : DE X W a fa) : DO X W (some a) (fun s => (fa s).bind toI) := ⟨fun pins s σ H Q I h => by
  obtain ⟨va, st, HP, rl, h⟩ := h
  dsimp only at h
  refine (po_some ha).run pins s σ H Q I (bindE rl (fun d s' v H' HP' e stp dv => ?_) (fun n p s' dd H' HP' C e stp z m => ?_) (fun e => ?_)) <;> rw [e] at h
  · cases dv <;> first | exact h.elim | exact ⟨_, rfl, h H' HP' stp⟩
  · exact h dd H' HP' C stp z m
  · exact h⟩
def cutG {α : Type} (xs : List α) (lo hi : Option Int) : List α := (xs.drop (HT.sIx xs.length 0 lo)).take (HT.sIx xs.length xs.length hi - HT.sIx xs.length 0 lo)
def opSl (d : D) (lo hi : Option Int) : Option D := match d with
  | .tup xs => some (.tup (cutG xs lo hi))
  | .lst xs => some (.lst (cutG xs lo hi))
  | _ => none
theorem cut_len {α : Type} (xs : List α) (lo hi : Option Int) : (cutG xs lo hi).length ≤ xs.length := by
  unfold cutG
  rw [List.length_take, List.length_drop]
  omega
theorem DvA.cut {K : PySem.W.Frag} {H : Hp} {vs : List V} {ds : List D} (h : DvA K H vs ds) (lo hi : Option Int) : DvA K H (cutV vs lo hi) (cutG ds lo hi) := by
  unfold cutV cutG
  rw [h.length]
  exact (h.drop _).take _
theorem cut_whole {α : Type} {xs : List α} {lo hi : Option Int} (h : HT.sIx xs.length 0 lo = 0 ∧ HT.sIx xs.length xs.length hi = xs.length) : cutG xs lo hi = xs := by
  unfold cutG
  rw [h.1, h.2, List.drop_zero, Nat.sub_zero, List.take_length]
theorem de_sl {lo hi : Option Expr} {fl fh : S → R (Option Int)} {p2 : Pos} (ha : DE X W a fa) (hl : DO X W lo fl) (hh : DO X W hi fh) :
    DE X W (.Subscript a (.Slice lo hi none p2) pos) (fun s => (fa s).bind fun x s => (fl s).bind fun l s => (fh s).bind fun u s => lift (opSl x l u) s) := by
  refine pe_imp (pe_slice (sl_tupA.or sl_list) ha hl hh) fun σ H Q h => ?_
  obtain ⟨va, s, HP, rl, h⟩ := h
  dsimp only at h
  refine bindEE rl h fun x s1 v H1 HP1 st1 d1 h1 => ?_
  refine ⟨va, s1, HP1, st1.rel, ?_⟩
  cases e1 : fl s1 with
  | stuck => rw [e1] at h1; exact h1
  | exc n p s' => rw [e1] at h1; exact h1
  | ok l s2 =>
    rw [e1] at h1
    intro H2 HP2 st2
    have h2 := PoE.from st2 h1
    refine ⟨va, s2, HP2, st2.rel, ?_⟩
    cases e2 : fh s2 with
    | stuck => simp only [R.bind_ok, e2, R.bind_stuck] at h2; exact h2
    | exc n p s' => simp only [R.bind_ok, e2, R.bind_exc] at h2; exact h2
    | ok u s3 =>
      simp only [R.bind_ok, e2] at h2
      intro H3 HP3 st3
      have h3 := PoE.from st3 h2
      have dx := Dv.mono (st2.same.trans st3.same) x v d1
      have rl3 := st3.rel
      unfold opSl at h3
      split at h3
      · rename_i ds
        cases dx with
        | @tup q vs _ z1 y1 a1 =>
          refine .inl ⟨q, vs, rfl, SqT.of (rl3.sub _ _ z1), fun w => ?_, fun _ p hp => fin_tup h3 rl3 (a1.cut l u) (Nat.le_trans (cut_len _ _ _) y1) p hp⟩
          have w' : cutG ds l u = ds := cut_whole (by rw [← a1.length]; exact w)
          rw [w'] at h3
          exact h3.fin rl3 (.tup z1 y1 a1)
      · cases dx with
        | @lst q vs ds z1 y1 a1 => exact .inr ⟨q, vs, rfl, SqL.of (rl3.sub _ _ z1), fun p hp => fin_lst h3 rl3 (a1.cut l u) (Nat.le_trans (cut_len _ _ _) y1) p hp⟩
      · exact h3.elim
end
end DL

namespace DL
open PySem PySem.Spec PyProof.Rows L2
/-! ## what a store does to the state -/
section
variable {K : PySem.W.Frag} {va : VA} {s : S} {σ : St} {HP H : Hp}
theorem st_put_ne {σ : St} {i j : Nat} {x : Option V} (h : j ≠ i) : (σ.set i x)[j]? = σ[j]? := List.getElem?_set_ne (Ne.symm h)
theorem put_own {i : Nat} {d : D} {j : Nat} {ys : List D} (q : (s.put i (.val d)).sl[j]? = some (some (.own ys))) : j ≠ i ∧ s.sl[j]? = some (some (.own ys)) := by
  by_cases h : j = i
  · subst h; cases sl_put_eq q
  · rw [sl_put_ne h] at q; exact ⟨h, q⟩
theorem Rel.put (r : Rel K va s σ HP H) (i : Nat) {v : V} {d : D} (dv : Dv K HP v d) : Stp K va s σ HP H (s.put i (.val d)) (σ.set i (some v)) HP H := by
  refine ⟨⟨by simpa [S.put] using r.len, r.sub, fun j e q => ?_, fun j ys q => ?_, fun j q => ?_, r.vst, fun j k ys zs b n q1 q2 q3 => ?_, fun j ys q n => ?_, r.tab⟩, Same.refl _, fun b o hb _ nb => ⟨hb, fun z => nb ?_, fun z => z⟩, Iff.rfl⟩
  · by_cases h : j = i
    · subst h
      cases sl_put_eq q
      refine ⟨v, ?_, dv⟩
      have hlt : j < σ.length := by
        have : j < (s.put j (.val d)).sl.length := by
          rcases Nat.lt_or_ge j (s.put j (.val d)).sl.length with z | z
          · exact z
          · rw [List.getElem?_eq_none_iff.mpr z] at q; cases q
        simpa [S.put, r.len] using this
      rw [List.getElem?_set_self hlt]
    · rw [sl_put_ne h] at q
      obtain ⟨w, z1, z2⟩ := r.val j e q
      exact ⟨w, by rw [st_put_ne h]; exact z1, z2⟩
  · obtain ⟨nj, q'⟩ := put_own q
    obtain ⟨a, vs, z1, z2⟩ := r.own j ys q'
    exact ⟨a, vs, by rw [st_put_ne nj]; exact z1, z2⟩
  · by_cases h : j = i
    · subst h; cases sl_put_eq q
    · rw [sl_put_ne h] at q; rw [st_put_ne h]; exact r.vis j q
  · obtain ⟨n1, q1'⟩ := put_own q1
    obtain ⟨n2, q2'⟩ := put_own q2
    rw [st_put_ne n1] at q3
    rw [st_put_ne n2]
    exact r.dis j k ys zs b n q1' q2' q3
  · obtain ⟨n1, q'⟩ := put_own q
    rw [st_put_ne n1]
    exact r.dvi j ys q' n
  · rcases z with ⟨j, ys, q1, q2⟩ | z
    · obtain ⟨n1, q'⟩ := put_own q1
      rw [st_put_ne n1] at q2
      exact .inl ⟨j, ys, q', q2⟩
    · exact .inr z
/-- a new list that the slot alone holds -/
theorem Rel.putOwn (r : Rel K va s σ HP H) (i : Nat) {p : Addr} {vs : List V} {ds : List D} (np : H p = none) (hz : ds.length ≤ sizeLine) (dv : DvA K HP vs ds) :
    Stp K va s σ HP H (s.put i (.own ds)) (σ.set i (some (.ref p))) HP (upd H p (.lst vs)) := by
  have nP : HP p = none := r.sub.free np
  have no : ∀ b x, H b = some x → upd H p (.lst vs) b = some x := fun b x e => by rw [upd_ne (ne_of_none e np)]; exact e
  have own : ∀ (j : Nat) ys, (s.put i (.own ds)).sl[j]? = some (some (.own ys)) → (j = i ∧ ys = ds) ∨ (j ≠ i ∧ s.sl[j]? = some (some (.own ys))) := fun j ys q => by
    by_cases h : j = i
    · subst h
      have := sl_put_eq q
      injection this with e
      injection e with e
      exact .inl ⟨rfl, e⟩
    · rw [sl_put_ne h] at q; exact .inr ⟨h, q⟩
  have lt : ∀ {y : Sl}, (s.put i y).sl[i]? ≠ none → i < σ.length := fun {y} q => by
    have : i < (s.put i y).sl.length := by
      rcases Nat.lt_or_ge i (s.put i y).sl.length with z | z
      · exact z
      · exact absurd (List.getElem?_eq_none_iff.mpr z) q
    simpa [S.put, r.len] using this
  have at_i : ∀ {y : Sl}, (s.put i y).sl[i]? ≠ none → (σ.set i (some (V.ref p)))[i]? = some (some (.ref p)) := fun q => List.getElem?_set_self (lt q)
  have op : ∀ (j : Nat) ys a, s.sl[j]? = some (some (.own ys)) → σ[j]? = some (some (.ref a)) → a ≠ p := fun j ys a q1 q2 z => by
    obtain ⟨b, ws, z1, z2, z3, _⟩ := r.own j ys q1
    rw [q2] at z1
    injection z1 with z1; injection z1 with z1; injection z1 with z1
    rw [← z1, z, np] at z3; cases z3
  refine ⟨⟨by simpa [S.put] using r.len, fun b x e => no b x (r.sub b x e), fun j e q => ?_, fun j ys q => ?_, fun j q => ?_, fun xs q => ?_, fun j k ys zs b n q1 q2 q3 => ?_, fun j ys q n => ?_, ⟨r.tab.t.ext no, r.tab.n⟩⟩, Same.refl _, fun b o hb _ nb => ⟨no b o hb, fun z => nb ?_, fun z => z⟩, Iff.rfl⟩
  · by_cases h : j = i
    · subst h; cases sl_put_eq q
    · rw [sl_put_ne h] at q
      obtain ⟨w, z1, z2⟩ := r.val j e q
      exact ⟨w, by rw [st_put_ne h]; exact z1, z2⟩
  · rcases own j ys q with ⟨rfl, rfl⟩ | ⟨nj, q'⟩
    · exact ⟨p, vs, at_i (by rw [q]; simp), nP, upd_same, hz, dv⟩
    · obtain ⟨a, ws, z1, z2, z3, z4⟩ := r.own j ys q'
      exact ⟨a, ws, by rw [st_put_ne nj]; exact z1, z2, no _ _ z3, z4⟩
  · by_cases h : j = i
    · subst h; cases sl_put_eq q
    · rw [sl_put_ne h] at q; rw [st_put_ne h]; exact r.vis j q
  · obtain ⟨z1, ws, z2, z3⟩ := r.vst xs q
    exact ⟨z1, ws, no _ _ z2, z3⟩
  · rcases own j ys q1 with ⟨rfl, rfl⟩ | ⟨nj, q1'⟩
    · rcases own k zs q2 with ⟨rfl, rfl⟩ | ⟨nk, q2'⟩
      · exact absurd rfl n
      · rw [at_i (by rw [q1]; simp)] at q3
        rw [st_put_ne nk]
        intro q4
        injection q3 with q3; injection q3 with q3; injection q3 with q3
        exact op k zs b q2' q4 q3.symm
    · rw [st_put_ne nj] at q3
      rcases own k zs q2 with ⟨rfl, rfl⟩ | ⟨nk, q2'⟩
      · rw [at_i (by rw [q2]; simp)]
        intro q4
        injection q4 with q4; injection q4 with q4; injection q4 with q4
        exact op j ys b q1' q3 q4.symm
      · rw [st_put_ne nk]
        exact r.dis j k ys zs b n q1' q2' q3
  · rcases own j ys q with ⟨rfl, rfl⟩ | ⟨nj, q'⟩
    · rw [at_i (by rw [q]; simp)]
      intro q4
      injection q4 with q4; injection q4 with q4; injection q4 with q4
      cases hv : s.via with
      | none => exact n hv
      | some w =>
        obtain ⟨_, ws, z2, _⟩ := r.vst w hv
        rw [← q4, np] at z2; cases z2
    · rw [st_put_ne nj]; exact r.dvi j ys q' n
  · rcases z with ⟨j, ys, q1, q2⟩ | z
    · rcases own j ys q1 with ⟨rfl, rfl⟩ | ⟨nj, q1'⟩
      · rw [at_i (by rw [q1]; simp)] at q2
        injection q2 with q2; injection q2 with q2; injection q2 with q2
        rw [← q2, np] at hb; cases hb
      · rw [st_put_ne nj] at q2
        exact .inl ⟨j, ys, q1', q2⟩
    · exact .inr z
/-- the list that slot i alone holds is changed -/
theorem Rel.chg (r : Rel K va s σ HP H) {i : Nat} {xs ds : List D} {a : Addr} {vs : List V} (e : s.sl[i]? = some (some (.own xs))) (ha : σ[i]? = some (some (.ref a))) (hz : ds.length ≤ sizeLine) (dv : DvA K HP vs ds) :
    Stp K va s σ HP H (s.put i (.own ds)) σ HP (upd H a (.lst vs)) := by
  obtain ⟨a', vs', h1, h2, h3, h4, h5⟩ := r.own i xs e
  rw [ha] at h1
  injection h1 with h1; injection h1 with h1; injection h1 with h1
  subst h1
  have own : ∀ (j : Nat) ys, (s.put i (.own ds)).sl[j]? = some (some (.own ys)) → (j = i ∧ ys = ds) ∨ (j ≠ i ∧ s.sl[j]? = some (some (.own ys))) := fun j ys q => by
    by_cases h : j = i
    · subst h
      have := sl_put_eq q
      injection this with e
      injection e with e
      exact .inl ⟨rfl, e⟩
    · rw [sl_put_ne h] at q; exact .inr ⟨h, q⟩
  have nP : ∀ b x, HP b = some x → b ≠ a := fun b x e => ne_of_none e h2
  have ow : ∀ (j : Nat) ys, (s.put i (.own ds)).sl[j]? = some (some (.own ys)) → ∃ zs, s.sl[j]? = some (some (.own zs)) := fun j ys q => by
    rcases own j ys q with ⟨rfl, rfl⟩ | ⟨nj, q'⟩
    · exact ⟨xs, e⟩
    · exact ⟨ys, q'⟩
  refine ⟨⟨by simpa [S.put] using r.len, fun b x q => by rw [upd_ne (nP b x q)]; exact r.sub b x q, fun j f q => ?_, fun j ys q => ?_, fun j q => ?_, fun ws q => ?_, fun j k ys zs b n q1 q2 q3 => ?_, fun j ys q n => ?_, ⟨tab_upd r.tab.t h3, r.tab.n⟩⟩, Same.refl _, fun b o hb _ nb => ⟨?_, fun z => nb ?_, fun z => z⟩, Iff.rfl⟩
  · by_cases h : j = i
    · subst h; cases sl_put_eq q
    · rw [sl_put_ne h] at q; exact r.val j f q
  · rcases own j ys q with ⟨rfl, rfl⟩ | ⟨nj, q'⟩
    · exact ⟨a, vs, ha, h2, upd_same, hz, dv⟩
    · obtain ⟨b, ws, z1, z2, z3, z4⟩ := r.own j ys q'
      have ne : b ≠ a := fun z => by subst z; exact r.dis i j xs ys b (Ne.symm nj) e q' ha z1
      exact ⟨b, ws, z1, z2, by rw [upd_ne ne]; exact z3, z4⟩
  · by_cases h : j = i
    · subst h; cases sl_put_eq q
    · rw [sl_put_ne h] at q; exact r.vis j q
  · obtain ⟨z1, us, z2, z3⟩ := r.vst ws q
    have q' : s.via = some ws := q
    have ne : va.a ≠ a := fun z => r.dvi i xs e (by rw [q']; simp) (by rw [z]; exact ha)
    exact ⟨z1, us, by rw [upd_ne ne]; exact z2, z3⟩
  · obtain ⟨_, q1'⟩ := ow j ys q1
    obtain ⟨_, q2'⟩ := ow k zs q2
    exact r.dis j k _ _ b n q1' q2' q3
  · obtain ⟨_, q'⟩ := ow j ys q
    exact r.dvi j _ q' n
  · have ne : b ≠ a := fun w => nb (.inl ⟨i, xs, e, by rw [w]; exact ha⟩)
    rw [upd_ne ne]; exact hb
  · rcases z with ⟨j, ys, q1, q2⟩ | z
    · obtain ⟨_, q1'⟩ := ow j ys q1
      exact .inl ⟨j, _, q1', q2⟩
    · exact .inr z
/-- the lent list is changed -/
theorem Rel.chgV (r : Rel K va s σ HP H) {xs ds : List D} {vs : List V} (e : s.via = some xs) (hz : ds.length ≤ sizeLine) (dv : DvA K HP vs ds) :
    Stp K va s σ HP H ⟨s.sl, some ds⟩ σ HP (upd H va.a (.lst vs)) := by
  obtain ⟨h2, vs', h3, h4, h5⟩ := r.vst xs e
  have nv : s.via ≠ none := by rw [e]; simp
  have nP : ∀ b x, HP b = some x → b ≠ va.a := fun b x e => ne_of_none e h2
  refine ⟨⟨r.len, fun b x q => by rw [upd_ne (nP b x q)]; exact r.sub b x q, r.val, fun j ys q => ?_, fun j q => ⟨(r.vis j q).1, by simp⟩, fun ws q => ?_, r.dis, fun j ys q n => r.dvi j ys q nv, ⟨tab_upd r.tab.t h3, r.tab.n⟩⟩, Same.refl _, fun b o hb _ nb => ⟨?_, fun z => nb ?_, fun z => z⟩, by simp [e]⟩
  · obtain ⟨b, ws, z1, z2, z3, z4⟩ := r.own j ys q
    have ne : b ≠ va.a := fun z => by subst z; exact r.dvi j ys q nv z1
    exact ⟨b, ws, z1, z2, by rw [upd_ne ne]; exact z3, z4⟩
  · have : ds = ws := by simpa using q
    subst this
    exact ⟨h2, vs, upd_same, hz, dv⟩
  · have ne : b ≠ va.a := fun w => nb (.inr ⟨nv, w⟩)
    rw [upd_ne ne]; exact hb
  · rcases z with ⟨j, ys, q1, q2⟩ | ⟨_, z⟩
    · exact .inl ⟨j, ys, q1, q2⟩
    · exact .inr ⟨nv, z⟩
end
/-! ## statements -/
section
variable {X : Cx} {W : WX} {a b c e : Expr} {es : List Expr} {fa fb fc : S → R D} {ga : S → R (List D)} {ta tb tc : S → R Bool} {pos : Pos} {st : Stmt} {sts sts' : List Stmt} {f f' : S → T}
theorem dss_nil : DSs X W [] (fun s => .next s) := pss_imp pss_nil fun D σ H ⟨va, s, HP, rl, h⟩ => h σ H HP (Stp.refl rl)
theorem tDS_seq {va : VA} {s : S} {σ : St} {HP H : Hp} {D : Ends} (rl : Rel X.K va s σ HP H) (h : PoS X W va s σ HP H ((f s).seq f') D) : tDS X W f { D with nx := tDS X W f' D } σ H := by
  refine ⟨va, s, HP, rl, ?_⟩
  cases e : f s with
  | next s' => rw [e] at h; exact fun σ' H' HP' stp => ⟨va, s', HP', stp.rel, PoS.from stp h⟩
  | ret d s' => rw [e] at h; exact h
  | retO d s' => rw [e] at h; exact h
  | brk s' => rw [e] at h; exact h
  | cnt s' => rw [e] at h; exact h
  | exc n p s' => rw [e] at h; exact h
  | stuck => rw [e] at h; exact h
theorem dss_cons (h1 : DS X W st f) (h2 : DSs X W sts f') : DSs X W (st :: sts) (fun s => (f s).seq f') :=
  pss_imp (pss_cons h1 h2) fun D σ H ⟨va, s, HP, rl, h⟩ => tDS_seq rl h
theorem dss_one (h1 : DS X W st f) : DSs X W [st] f := pss_one h1
theorem ds_pass : DS X W (.Pass pos) (fun s => .next s) := ps_imp ps_pass fun D σ H ⟨va, s, HP, rl, h⟩ => h σ H HP (Stp.refl rl)
theorem ds_brk : DS X W (.Break pos) (fun s => .brk s) := ps_imp ps_break fun D σ H ⟨va, s, HP, rl, h⟩ => h σ H HP (Stp.refl rl)
theorem ds_ret (ha : DE X W a fa) : DS X W (.Return (some a) pos) (fun s => (fa s).thn fun d s => .ret d s) :=
  ps_imp (ps_ret ha) fun D σ H ⟨va, s, HP, rl, h⟩ => bindES rl h fun d s1 v H1 HP1 st1 d1 h1 => h1 v σ H1 HP1 (Stp.refl st1.rel) d1
/-- return [a, b, ..]: a list for the caller alone -/
theorem ds_retO (ha : DA X W es ga) {p0 : Pos} : DS X W (.Return (some (.List es p0)) pos) (fun s => (ga s).thn fun ds s => if ds.length ≤ sizeLine then .retO ds s else .stuck) := by
  refine ps_imp (ps_ret (pe_lst ha)) fun D σ H ⟨va, s, HP, rl, h⟩ => ?_
  refine bindA rl (fun ds s1 vs H1 HP1 e st1 d1 => ?_) (fun n p s' dd H' HP' C e stp z m => ?_) (fun e => ?_) <;> simp only [e, R.thn_ok, R.thn_exc, R.thn_stuck] at h
  · split at h
    · rename_i hz
      exact ⟨by rw [d1.length]; exact hz, fun p hp => h p vs σ H1 HP1 st1 hp hz d1⟩
    · exact h.elim
  · exact h dd σ H' HP' C stp z m
  · exact h
theorem ds_retN : DS X W (.Return none pos) (fun s => .ret .non s) := ps_imp ps_retN fun D σ H ⟨va, s, HP, rl, h⟩ => h _ σ H HP (Stp.refl rl) .non
theorem ds_expr (ha : DE X W a fa) (hs : swapsWith a none pos.line X.env = pure false := by rfl) : DS X W (.Expr a pos) (fun s => (fa s).thn fun _ s => .next s) :=
  ps_imp (ps_expr ha hs) fun D σ H ⟨va, s, HP, rl, h⟩ => bindES rl h fun d s1 v H1 HP1 st1 d1 h1 => h1 σ H1 HP1 (Stp.refl st1.rel)
theorem ds_doc {x : Str} {j : Nat} {pos' : Pos} : DS X W (.Expr (.Constant (.str x) j pos) pos') (fun s => .next s) := ps_imp ps_doc fun D σ H ⟨va, s, HP, rl, h⟩ => h σ H HP (Stp.refl rl)
theorem ds_if (hc : DT X W c tc) (h1 : DSs X W sts f) (h2 : DSs X W sts' f') : DS X W (.If c sts sts' pos) (fun s => (tc s).thn fun k s => if k = true then f s else f' s) := by
  refine ps_imp (ps_if hc h1 h2) fun D σ H ⟨va, s, HP, rl, h⟩ => bindTS rl h fun k s1 H1 HP1 st1 q => ?_
  cases k with
  | true => rw [if_pos rfl] at q ⊢; exact ⟨va, s1, HP1, st1.rel, q⟩
  | false => rw [if_neg Bool.false_ne_true] at q ⊢; exact ⟨va, s1, HP1, st1.rel, q⟩
/-- x = e -/
theorem ds_set (i : Nat) {x : Str} {pos' : Pos} (hN : X.N.Nodup) (ha : DE X W a fa) (hi : X.N[i]? = some x := by rfl) (hx : Loc X.env.scope x := by first | exact Or.inl rfl | exact Or.inr rfl) (hs : swapsWith a (some (.Name x pos')) pos.line X.env = pure false := by rfl)
    (hf : X.fn x = true ∨ X.env.scope.names.lookup x = some .local := by first | exact .inl rfl | exact .inr rfl | assumption) :
    DS X W (.Assign [.Name x pos'] a pos) (fun s => (fa s).thn fun d s => .next (s.put i (.val d))) :=
  ps_imp (ps_set hN hi hx ha hs hf) fun D σ H ⟨va, s, HP, rl, h⟩ => bindES rl h fun d s1 v H1 HP1 st1 d1 h1 => h1 _ H1 HP1 (st1.rel.put i d1)
/-- x = [a, b, ..], a list that is to be changed -/
theorem ds_own (i : Nat) {x : Str} {pos' : Pos} (hN : X.N.Nodup) (ha : DA X W es ga) (hi : X.N[i]? = some x := by rfl) (hx : Loc X.env.scope x := by first | exact Or.inl rfl | exact Or.inr rfl) (hs : swapsWith (.List es pos) (some (.Name x pos')) pos.line X.env = pure false := by rfl)
    (hf : X.fn x = true ∨ X.env.scope.names.lookup x = some .local := by first | exact .inl rfl | exact .inr rfl | assumption) {p0 : Pos} (hs' : swapsWith (.List es p0) (some (.Name x pos')) pos.line X.env = pure false := by rfl) :
    DS X W (.Assign [.Name x pos'] (.List es p0) pos) (fun s => (ga s).thn fun ds s => if ds.length ≤ sizeLine then .next (s.put i (.own ds)) else .stuck) := by
  refine ps_imp (ps_set hN hi hx (pe_lst ha) hs' hf) fun D σ H ⟨va, s, HP, rl, h⟩ => ?_
  refine bindA rl (fun ds s1 vs H1 HP1 e st1 d1 => ?_) (fun n p s' dd H' HP' C e stp z m => ?_) (fun e => ?_) <;> simp only [e, R.thn_ok, R.thn_exc, R.thn_stuck] at h
  · split at h
    · rename_i hz
      exact ⟨by rw [d1.length]; exact hz, fun p hp => h _ _ HP1 (st1.trans (st1.rel.putOwn i hp hz d1))⟩
    · exact h.elim
  · exact h dd σ H' HP' C stp z m
  · exact h
/-! ## targets -/
def tDG (X : Cx) (g : D → S → Option S) : TG := fun v σ H Q => ∃ va s HP d s', Rel X.K va s σ HP H ∧ Dv X.K HP v d ∧ g d s = some s' ∧ ∀ σ', Stp X.K va s σ HP H s' σ' HP H → Q σ' H
def DG (X : Cx) (tg : Expr) (g : D → S → Option S) : Prop := PG X tg (tDG X g)
def tDGs (X : Cx) (g : List D → S → Option S) : TGs := fun vs σ H Q => ∃ va s HP ds s', Rel X.K va s σ HP H ∧ DvA X.K HP vs ds ∧ g ds s = some s' ∧ ∀ σ', Stp X.K va s σ HP H s' σ' HP H → Q σ' H
def DGs (X : Cx) (ts : List Expr) (g : List D → S → Option S) : Prop := PGs X ts (tDGs X g)
theorem pg_imp {tg : Expr} {t t' : TG} (h : PG X tg t) (i : ∀ v σ H Q, t' v σ H Q → t v σ H Q) : PG X tg t' := ⟨fun pins s σ H v u Q I r w => h.run pins s σ H v u Q I r (i v σ H Q w)⟩
theorem pgs_imp {ts : List Expr} {t t' : TGs} (h : PGs X ts t) (i : ∀ v σ H Q, t' v σ H Q → t v σ H Q) : PGs X ts t' := ⟨fun pins s σ H v u Q I r w => h.run pins s σ H v u Q I r (i v σ H Q w)⟩
theorem dg_v (i : Nat) {x : Str} (hN : X.N.Nodup) (hi : X.N[i]? = some x := by rfl) (hx : Loc X.env.scope x := by first | exact Or.inl rfl | exact Or.inr rfl)
    (hf : X.fn x = true ∨ X.env.scope.names.lookup x = some .local := by first | exact .inl rfl | exact .inr rfl | assumption) : DG X (.Name x pos) (fun d s => some (s.put i (.val d))) := by
  refine pg_imp (pg_name hN hi hx hf) fun v σ H Q ⟨va, s, HP, d, s', rl, dv, e, k⟩ => ?_
  cases e
  exact k _ (rl.put i dv)
theorem dgs_nil : DGs X [] (fun ds s => match ds with | [] => some s | _ => none) := by
  refine pgs_imp pgs_nil fun v σ H Q ⟨va, s, HP, d, s', rl, dv, e, k⟩ => ?_
  cases d with
  | nil => cases dv; cases e; exact ⟨rfl, k σ (Stp.refl rl)⟩
  | cons _ _ => cases e
theorem dgs_cons {g : D → S → Option S} {gs : List D → S → Option S} (h1 : DG X e g) (h2 : DGs X es gs) (hs : (assignEach (e :: es) X.env).map (·.2) = assign e X.env :: (assignEach es X.env).map (·.2) := by rfl) :
    DGs X (e :: es) (fun ds s => match ds with | d :: r => (g d s).bind (gs r) | _ => none) := by
  refine pgs_imp (pgs_cons h1 h2 hs) fun v σ H Q ⟨va, s, HP, ds, s', rl, dv, eq, k⟩ => ?_
  cases ds with
  | nil => cases eq
  | cons d r =>
    cases dv with
    | @cons v vs _ _ h1 h2 =>
      refine ⟨v, vs, rfl, ?_⟩
      have eq' : (g d s).bind (gs r) = some s' := eq
      cases q : g d s with
      | none => rw [q] at eq'; cases eq'
      | some s1 =>
        rw [q] at eq'
        exact ⟨va, s, HP, d, s1, rl, h1, q, fun σ1 st1 => ⟨va, s1, HP, r, s', st1.rel, h2, eq', fun σ2 st2 => k σ2 (st1.trans st2)⟩⟩
def unT (n : Nat) (g : List D → S → Option S) (d : D) (s : S) : Option S := match d with
  | .tup ds => if ds.length = n then g ds s else none
  | _ => none
theorem dg_tup {k n : Nat} {gs : List D → S → Option S} (hc : X.calm = true) (h : DGs X es gs) (hn : (assignEach es X.env).length = n := by rfl) (hst : (assignEach es X.env).findIdx? (·.1) = none := by rfl) : DG X (.Tuple es k pos) (unT n gs) := by
  refine pg_imp (pg_tup hc h hn hst) fun v σ H Q ⟨va, s, HP, d, s', rl, dv, eq, k⟩ => ?_
  unfold unT at eq
  split at eq
  · split at eq
    · cases dv with
      | @tup a vs ds h1 hz h2 => exact ⟨a, vs, rfl, SqT.of (rl.sub _ _ h1), by rw [h2.length]; assumption, va, s, HP, _, s', rl, h2, eq, k⟩
    · cases eq
  · cases eq
def asg (o : Option S) : T := match o with
  | some s => .next s
  | none => .stuck
@[simp] theorem asg_some (s : S) : asg (some s) = .next s := rfl
/-- target = e -/
theorem ds_asg {tg : Expr} {g : D → S → Option S} (ha : DE X W a fa) (hg : DG X tg g) (hs : swapsWithSole [tg] a pos.line X.env = pure false := by rfl) (hw : swappedStores [tg] a X.env = pure none := by rfl)
    (h1 : (assignEach [tg] X.env).map (·.2) = [assign tg X.env] := by rfl) : DS X W (.Assign [tg] a pos) (fun s => (fa s).thn fun d s => asg (g d s)) := by
  refine ps_imp (ps_asg ha hg hs hw h1) fun D σ H ⟨va, s, HP, rl, h⟩ => bindES rl h fun d s1 v H1 HP1 st1 d1 h1 => ?_
  cases q : g d s1 with
  | none => rw [q] at h1; exact h1.elim
  | some s2 => rw [q] at h1; exact ⟨va, s1, HP1, d, s2, st1.rel, d1, q, fun σ' stp => h1 σ' H1 HP1 stp⟩
/-- a, b = e1, e2; a, b, c = .. -/
theorem ds_par (i j : Nat) {x y : Str} {px py pt : Pos} {kt k2 pt2} (hc : X.calm = true) (hN : X.N.Nodup) (ha : DA X W [a, b] ga) (hi : X.N[i]? = some x := by rfl) (hj : X.N[j]? = some y := by rfl) (hij : i ≠ j := by decide)
    (hx : X.env.scope.names.lookup x = some .local := by rfl) (hy : X.env.scope.names.lookup y = some .local := by rfl)
    (hw : swappedStores [.Tuple [.Name x px, .Name y py] kt pt] (.Tuple [a, b] k2 pt2) X.env = pure (some [x, y]) := by rfl)
    (hs : swapsWithSole [.Tuple [.Name x px, .Name y py] kt pt] (.Tuple [a, b] k2 pt2) pos.line X.env = pure false := by rfl) :
    DS X W (.Assign [.Tuple [.Name x px, .Name y py] kt pt] (.Tuple [a, b] k2 pt2) pos) (fun s => (ga s).thn fun ds s => match ds with | [d, e] => .next ((s.put i (.val d)).put j (.val e)) | _ => .stuck) := by
  refine ps_imp (ps_par hc hN hi hj hij hx hy ha hw hs) fun D σ H ⟨va, s, HP, rl, h⟩ => ?_
  refine bindA rl (fun ds s1 vs H1 HP1 e st1 d1 => ?_) (fun n p s' dd H' HP' C e stp z m => ?_) (fun e => ?_) <;> simp only [e, R.thn_ok, R.thn_exc, R.thn_stuck] at h
  · split at h
    · cases d1 with
      | @cons v _ _ _ h1 h2 =>
        cases h2 with
        | @cons w _ _ _ h3 h4 =>
          cases h4
          have r1 := st1.rel.put i h1
          exact ⟨v, w, rfl, h _ _ HP1 (st1.trans (r1.trans (r1.rel.put j h3)))⟩
    · exact h.elim
  · exact h dd σ H' HP' C stp z m
  · exact h
theorem ds_par3 (i j l : Nat) {x y z : Str} {px py pz pt : Pos} {kt k2 pt2} (hc : X.calm = true) (hN : X.N.Nodup) (ha : DA X W [a, b, c] ga) (hi : X.N[i]? = some x := by rfl) (hj : X.N[j]? = some y := by rfl) (hl : X.N[l]? = some z := by rfl)
    (hij : i ≠ j := by decide) (hil : i ≠ l := by decide) (hjl : j ≠ l := by decide)
    (hx : X.env.scope.names.lookup x = some .local := by rfl) (hy : X.env.scope.names.lookup y = some .local := by rfl) (hz : X.env.scope.names.lookup z = some .local := by rfl)
    (hw : swappedStores [.Tuple [.Name x px, .Name y py, .Name z pz] kt pt] (.Tuple [a, b, c] k2 pt2) X.env = pure (some [x, y, z]) := by rfl)
    (hs : swapsWithSole [.Tuple [.Name x px, .Name y py, .Name z pz] kt pt] (.Tuple [a, b, c] k2 pt2) pos.line X.env = pure false := by rfl) :
    DS X W (.Assign [.Tuple [.Name x px, .Name y py, .Name z pz] kt pt] (.Tuple [a, b, c] k2 pt2) pos) (fun s => (ga s).thn fun ds s => match ds with | [d, e, f] => .next (((s.put i (.val d)).put j (.val e)).put l (.val f)) | _ => .stuck) := by
  refine ps_imp (ps_par3 hc hN hi hj hl hij hil hjl hx hy hz ha hw hs) fun D σ H ⟨va, s, HP, rl, h⟩ => ?_
  refine bindA rl (fun ds s1 vs H1 HP1 e st1 d1 => ?_) (fun n p s' dd H' HP' C e stp z m => ?_) (fun e => ?_) <;> simp only [e, R.thn_ok, R.thn_exc, R.thn_stuck] at h
  · split at h
    · cases d1 with
      | @cons v _ _ _ h1 h2 =>
        cases h2 with
        | @cons w _ _ _ h3 h4 =>
          cases h4 with
          | @cons u _ _ _ h5 h6 =>
            cases h6
            have r1 := st1.rel.put i h1
            have r2 := r1.trans (r1.rel.put j h3)
            exact ⟨v, w, u, rfl, h _ _ HP1 (st1.trans (r2.trans (r2.rel.put l h5)))⟩
    · exact h.elim
  · exact h dd σ H' HP' C stp z m
  · exact h
end
end DL

namespace DL
open PySem PySem.Spec PyProof.Rows L2
/-! ## what is walked -/
def Walks (K : PySem.W.Frag) (J : It) (ds : List D) (HP0 : Hp) : Prop := ∀ (i : Nat) (HP H : Hp), Same HP0 HP → Same HP H →
  (∀ d, ds[i]? = some d → J.go i H ∧ ∀ x H', J.yld i H x H' → ∃ HP', Dv K HP' x d ∧ ∀ va s σ, Rel K va s σ HP H → Stp K va s σ HP H s σ HP' H') ∧ (ds.length ≤ i → J.stop i H)
theorem Walks.mono {K : PySem.W.Frag} {J : It} {ds : List D} {HP0 HP1 : Hp} (w : Walks K J ds HP0) (e : Same HP0 HP1) : Walks K J ds HP1 := fun i HP H a b => w i HP H (e.trans a) b
def PoI (X : Cx) (W : WX) (va : VA) (s : S) (σ : St) (HP H : Hp) (r : R (List D)) (Q : It → Hp → Prop) : Prop := match r with
  | .ok ds s' => ∀ J H' HP', Stp X.K va s σ HP H s' σ HP' H' → ds.length ≤ sizeLine → Walks X.K J ds HP' → Q J H'
  | .exc n p s' => ∀ dd H' HP' C, Stp X.K va s σ HP H s' σ HP' H' → ExcAt p dd H' → X.mg n = some (.ref C) → W (.ref C) dd σ H'
  | .stuck => False
def tDI (X : Cx) (W : WX) (f : S → R (List D)) : TI := fun σ H Q => ∃ va s HP, Rel X.K va s σ HP H ∧ PoI X W va s σ HP H (f s) Q
def DI (X : Cx) (W : WX) (tg e : Expr) (f : S → R (List D)) : Prop := PI X tg e (tDI X W f)
theorem walks_list {K : PySem.W.Frag} {HP0 : Hp} {a : Addr} {vs : List V} {ds : List D} (h : HP0 a = some (.lst vs)) (dv : DvA K HP0 vs ds) : Walks K (Itl K a) ds HP0 := fun i HP H e1 e2 => by
  have q : SqL K H a vs := SqL.of (e2 _ _ (e1 _ _ h))
  refine ⟨fun d hd => ?_, fun hi => ⟨vs, q, by rw [dv.length]; exact hi⟩⟩
  obtain ⟨v, h1, h2⟩ := dv.getD hd
  refine ⟨⟨vs, v, q, h1⟩, fun x H' ⟨y1, y2⟩ => ?_⟩
  subst y1
  have := y2 vs q
  rw [h1] at this
  cases this
  exact ⟨HP, Dv.mono e1 d v h2, fun va s σ r => Stp.refl r⟩
theorem walks_tup {K : PySem.W.Frag} {HP0 : Hp} {a : Addr} {vs : List V} {ds : List D} (h : HP0 a = some (.tup vs)) (dv : DvA K HP0 vs ds) : Walks K (Itt K a) ds HP0 := fun i HP H e1 e2 => by
  have q : SqT K H a vs := SqT.of (e2 _ _ (e1 _ _ h))
  refine ⟨fun d hd => ?_, fun hi => ⟨vs, q, by rw [dv.length]; exact hi⟩⟩
  obtain ⟨v, h1, h2⟩ := dv.getD hd
  refine ⟨⟨vs, v, q, h1⟩, fun x H' ⟨y1, y2⟩ => ?_⟩
  subst y1
  have := y2 vs q
  rw [h1] at this
  cases this
  exact ⟨HP, Dv.mono e1 d v h2, fun va s σ r => Stp.refl r⟩
def rngI (lo hi : Int) : List D := (List.range (hi - lo).toNat).map fun k => .int (lo + ((k : Nat) : Int))
@[simp] theorem rngI_len (lo hi : Int) : (rngI lo hi).length = (hi - lo).toNat := by simp [rngI]
theorem walks_range {K : PySem.W.Frag} {HP0 : Hp} {lo hi : Int} : Walks K (Itr lo (hi - lo).toNat) (rngI lo hi) HP0 := fun i HP H e1 e2 => by
  refine ⟨fun d hd => ?_, fun h => by rw [rngI_len] at h; exact h⟩
  have hlt : i < (hi - lo).toNat := by
    rcases Nat.lt_or_ge i (hi - lo).toNat with z | z
    · exact z
    · rw [List.getElem?_eq_none_iff.mpr (by rw [rngI_len]; exact z)] at hd; cases hd
  have hd' : (.int (lo + ((i : Nat) : Int)) : D) = d := by
    unfold rngI at hd
    rw [List.getElem?_map, List.getElem?_range hlt] at hd
    simpa using hd
  refine ⟨hlt, fun x H' ⟨y1, y2⟩ => ?_⟩
  subst y1 y2 hd'
  exact ⟨HP, .int _, fun va s σ r => Stp.refl r⟩
def asSeq (d : D) (s : S) : R (List D) := match d with
  | .lst ds => .ok ds s
  | .tup ds => .ok ds s
  | _ => .stuck
@[simp] theorem asSeq_lst (ds : List D) (s : S) : asSeq (.lst ds) s = .ok ds s := rfl
@[simp] theorem asSeq_tup (ds : List D) (s : S) : asSeq (.tup ds) s = .ok ds s := rfl
section
variable {X : Cx} {W : WX} {a b c e tg : Expr} {es : List Expr} {fa fb fc : S → R D} {ga : S → R (List D)} {ta tb tc : S → R Bool} {pos p : Pos} {st : Stmt} {sts sts' : List Stmt} {f f' : S → T}
theorem di_seq (ha : DE X W a fa) : DI X W tg a (fun s => (fa s).bind asSeq) := by
  refine ⟨fun pins s σ H Q I h => ?_⟩
  obtain ⟨va, st, HP, rl, h⟩ := h
  dsimp only at h
  have hx : (∃ n p s', fa st = .exc n p s') ∨ (∃ ds s', fa st = .ok (.lst ds) s') ∨ ∃ ds s', fa st = .ok (.tup ds) s' := by
    cases e : fa st with
    | stuck => rw [e] at h; exact h.elim
    | exc n p s' => exact .inl ⟨n, p, s', rfl⟩
    | ok d s' =>
      rw [e] at h
      cases d <;> first | exact h.elim | exact .inr (.inl ⟨_, _, rfl⟩) | exact .inr (.inr ⟨_, _, rfl⟩)
  have hl : ((∃ n p s', fa st = .exc n p s') ∨ ∃ ds s', fa st = .ok (.lst ds) s') → wpAny (model X.prog X.w) X.A (eval a X.env) (fun v s1 => wpAny (model X.prog X.w) X.A (pyIter v) (PIE X pins σ tg Q) X.xe s1) X.xe s := fun hq => by
    refine (pi_list (tg := tg) ha).run pins s σ H Q I (bindE rl (fun d s' v H' HP' e stp dv => ?_) (fun n p s' dd H' HP' C e stp z m => ?_) (fun e => ?_))
    · rcases hq with ⟨_, _, _, q⟩ | ⟨ds, s'', q⟩ <;> rw [q] at e <;> cases e
      rw [q] at h
      cases dv with
      | @lst b vs _ h1 hz h2 => exact ⟨b, rfl, ⟨vs, SqL.of (stp.rel.sub _ _ h1)⟩, h (Itl X.K b) H' HP' stp hz (walks_list h1 h2)⟩
    · rw [e] at h; exact h dd H' HP' C stp z m
    · rw [e] at h; exact h
  rcases hx with hx | hx | ⟨ds, s'', q⟩
  · exact hl (.inl hx)
  · exact hl (.inr hx)
  · refine (pi_tup (tg := tg) ha).run pins s σ H Q I (bindE rl (fun d s' v H' HP' e stp dv => ?_) (fun n p s' dd H' HP' C e stp z m => ?_) (fun e => ?_))
    · rw [q] at e
      cases e
      rw [q] at h
      cases dv with
      | @tup b vs _ h1 hz h2 => exact ⟨b, rfl, ⟨vs, SqT.of (stp.rel.sub _ _ h1)⟩, h (Itt X.K b) H' HP' stp hz (walks_tup h1 h2)⟩
    · rw [q] at e; cases e
    · rw [q] at e; cases e
def toR1 (ds : List D) (s : S) : R (List D) := match ds with
  | [.int j] => if -(2 ^ 62) ≤ j ∧ j ≤ 16000000 then .ok (rngI 0 j) s else .stuck
  | _ => .stuck
def toR2 (ds : List D) (s : S) : R (List D) := match ds with
  | [.int i, .int j] => if -(2 ^ 62) ≤ i ∧ i < 2 ^ 62 ∧ -(2 ^ 62) ≤ j ∧ j < 2 ^ 62 ∧ j - i ≤ 16000000 then .ok (rngI i j) s else .stuck
  | _ => .stuck
theorem di_range1 (hg : Gl X "range") (hm : X.mg "range" = none) (ha : DA X W [a] ga) (hs : starEach [a] X.env = [(false, eval a X.env)] := by rfl) : DI X W tg (.Call (.Name "range" p) [a] [] pos) (fun s => (ga s).bind toR1) := by
  refine ⟨fun pins s σ H Q I h => ?_⟩
  obtain ⟨va, st, HP, rl, h⟩ := h
  dsimp only at h
  refine (pi_range1 hg hm ha hs).run pins s σ H Q I (bindA rl (fun ds s1 vs H1 HP1 e st1 d1 => ?_) (fun n p s' dd H' HP' C e stp z m => ?_) (fun e => ?_)) <;> simp only [e, R.bind_ok, R.bind_exc, R.bind_stuck] at h
  · unfold toR1 at h
    split at h
    · split at h
      · rename_i j hz
        cases d1 with
        | cons h1 h2 =>
          cases h1
          cases h2
          refine ⟨j, rfl, hz.1, by have := hz.2; omega, ?_⟩
          have hw := walks_range (K := X.K) (HP0 := HP1) (lo := 0) (hi := j)
          rw [Int.sub_zero] at hw
          exact h _ H1 HP1 st1 (by rw [rngI_len, sizeLine_eq]; have := hz.2; omega) hw
      · exact h.elim
    · exact h.elim
  · exact h dd H' HP' C stp z m
  · exact h
theorem di_range2 (hg : Gl X "range") (hm : X.mg "range" = none) (ha : DA X W [a, b] ga) (hs : starEach [a, b] X.env = [(false, eval a X.env), (false, eval b X.env)] := by rfl) (hs2 : starEach [b] X.env = [(false, eval b X.env)] := by rfl) :
    DI X W tg (.Call (.Name "range" p) [a, b] [] pos) (fun s => (ga s).bind toR2) := by
  refine ⟨fun pins s σ H Q I h => ?_⟩
  obtain ⟨va, st, HP, rl, h⟩ := h
  dsimp only at h
  refine (pi_range2 hg hm ha hs hs2).run pins s σ H Q I (bindA rl (fun ds s1 vs H1 HP1 e st1 d1 => ?_) (fun n p s' dd H' HP' C e stp z m => ?_) (fun e => ?_)) <;> simp only [e, R.bind_ok, R.bind_exc, R.bind_stuck] at h
  · unfold toR2 at h
    split at h
    · split at h
      · rename_i i j hz
        obtain ⟨z1, z2, z3, z4, z5⟩ := hz
        cases d1 with
        | cons h1 h2 =>
          cases h1
          cases h2 with
          | cons h3 h4 =>
            cases h3
            cases h4
            exact ⟨i, j, rfl, ⟨z1, z2, z3, z4⟩, h _ H1 HP1 st1 (by rw [rngI_len, sizeLine_eq]; omega) walks_range⟩
      · exact h.elim
    · exact h.elim
  · exact h dd H' HP' C stp z m
  · exact h
/-! ## for -/
def forL (g : D → S → Option S) (body : S → T) : List D → S → T
  | [], s => .next s
  | d :: ds, s => match g d s with
    | none => .stuck
    | some s1 => match body s1 with
      | .next s2 => forL g body ds s2
      | .cnt s2 => forL g body ds s2
      | .brk s2 => .next s2
      | r => r
theorem ds_for {g : D → S → Option S} {fi : S → R (List D)} (hp : PassesOwn (model X.prog X.w) X.A X.env X.xe) (hc : X.calm = true) (hi : DI X W tg e fi) (hg : DG X tg g) (hb : DSs X W sts f) (hs : ∀ x, foldedSetIterable e X.env x = pure x := by intro _; rfl) :
    DS X W (.For tg e sts [] pos) (fun s => (fi s).thn fun ds s => forL g f ds s) := by
  refine ps_imp (ps_for hp hc hi hg hb hs) fun D σ H h => ?_
  obtain ⟨va, s, HP, rl, h⟩ := h
  dsimp only at h
  refine ⟨va, s, HP, rl, ?_⟩
  cases ei : fi s with
  | stuck => rw [ei] at h; exact h
  | exc n p s' => rw [ei] at h; exact fun dd H' HP' C stp z m => h dd σ H' HP' C stp z m
  | ok ds s1 =>
    rw [ei] at h
    intro J H1 HP1 st1 hz hw
    have h1 : PoS X W va s1 σ HP1 H1 (forL g f ds s1) D := PoS.from st1 h
    refine ⟨fun i m σ H => ∃ s HP, m = ds.length - i ∧ i ≤ ds.length ∧ Rel X.K va s σ HP H ∧ Same HP1 HP ∧ PoS X W va s σ HP H (forL g f (ds.drop i) s) D, ⟨ds.length, s1, HP1, by simp, Nat.zero_le _, st1.rel, Same.refl _, h1⟩, ?_⟩
    rintro i m σ2 H2 ⟨s2, HP2, rfl, hle, r2, sm, p2⟩
    obtain ⟨w1, w2⟩ := hw i HP2 H2 sm r2.sub
    by_cases hlt : i < ds.length
    · have hd : ds[i]? = some ds[i] := List.getElem?_eq_getElem hlt
      obtain ⟨hgo, hy⟩ := w1 _ hd
      rw [List.drop_eq_getElem_cons hlt] at p2
      unfold forL at p2
      refine .inr ⟨hgo, fun σ' H' => ∃ s HP, Rel X.K va s σ' HP H' ∧ Same HP1 HP ∧ PoS X W va s σ' HP H' (forL g f (ds.drop (i + 1)) s) D, fun σ' H' ⟨s', HP', q1, q2, q3⟩ => ⟨ds.length - (i + 1), by omega, s', HP', rfl, hlt, q1, q2, q3⟩, fun x H' y => ?_⟩
      obtain ⟨HP', dv, stp⟩ := hy x H' y
      have st3 := stp va s2 σ2 r2
      cases eg : g ds[i] s2 with
      | none => rw [eg] at p2; exact p2.elim
      | some s4 =>
        rw [eg] at p2
        dsimp only at p2
        refine ⟨va, s2, HP', _, s4, st3.rel, dv, eg, fun σ4 st4 => ?_⟩
        refine ⟨va, s4, HP', st4.rel, ?_⟩
        have p4 := PoS.from (st3.trans st4) p2
        cases eb : f s4 with
        | stuck => rw [eb] at p4; exact p4
        | next s5 => rw [eb] at p4; exact fun σ' H'' HP'' st5 => ⟨s5, HP'', st5.rel, (sm.trans st3.same).trans st5.same, PoS.from st5 p4⟩
        | cnt s5 => rw [eb] at p4; exact fun σ' H'' HP'' st5 => ⟨s5, HP'', st5.rel, (sm.trans st3.same).trans st5.same, PoS.from st5 p4⟩
        | brk s5 => rw [eb] at p4; exact p4
        | ret d s5 => rw [eb] at p4; exact p4
        | retO d s5 => rw [eb] at p4; exact p4
        | exc n p s5 => rw [eb] at p4; exact p4
    · have e : ds.drop i = [] := List.drop_eq_nil_of_le (by omega)
      rw [e] at p2
      exact .inl ⟨w2 (by omega), p2 σ2 H2 HP2 (Stp.refl r2)⟩
/-! ## while: at most so many turns -/
def whl (t : S → R Bool) (body : S → T) : Nat → S → T
  | 0, _ => .stuck
  | n + 1, s => (t s).thn fun k s => if k = true then (match body s with
      | .next s2 => whl t body n s2
      | .cnt s2 => whl t body n s2
      | .brk s2 => .next s2
      | r => r) else .next s
theorem ds_while (n : Nat) (hp : PassesOwn (model X.prog X.w) X.A X.env X.xe) (hc : DT X W c tc) (hb : DSs X W sts f) : DS X W (.While c sts [] pos) (fun s => whl tc f n s) := by
  refine ps_imp (ps_while hp hc hb) fun D σ H h => ?_
  obtain ⟨va, s, HP, rl, h⟩ := h
  refine ⟨fun m σ H => ∃ s HP, Rel X.K va s σ HP H ∧ PoS X W va s σ HP H (whl tc f m s) D, ⟨n, s, HP, rl, h⟩, ?_⟩
  rintro m σ H ⟨s, HP, r, p⟩
  cases m with
  | zero => exact p.elim
  | succ m =>
    unfold whl at p
    refine bindTS r p fun k s1 H1 HP1 st1 p1 => ?_
    cases k with
    | false => rw [if_neg Bool.false_ne_true] at p1 ⊢; exact p1 σ H1 HP1 (Stp.refl st1.rel)
    | true =>
      rw [if_pos rfl] at p1 ⊢
      refine ⟨fun σ' H' => ∃ s HP, Rel X.K va s σ' HP H' ∧ PoS X W va s σ' HP H' (whl tc f m s) D, fun σ' H' ⟨s', HP', q1, q2⟩ => ⟨m, Nat.lt_succ_self m, s', HP', q1, q2⟩, va, s1, HP1, st1.rel, ?_⟩
      cases eb : f s1 with
      | stuck => rw [eb] at p1; exact p1
      | next s5 => rw [eb] at p1; exact fun σ' H'' HP'' st5 => ⟨s5, HP'', st5.rel, PoS.from st5 p1⟩
      | cnt s5 => rw [eb] at p1; exact fun σ' H'' HP'' st5 => ⟨s5, HP'', st5.rel, PoS.from st5 p1⟩
      | brk s5 => rw [eb] at p1; exact p1
      | ret d s5 => rw [eb] at p1; exact p1
      | retO d s5 => rw [eb] at p1; exact p1
      | exc n p s5 => rw [eb] at p1; exact p1
/-! ## lists that are changed -/
/-- x.append(e), x an own list -/
def apnd (i : Nat) (d : D) (s : S) : T := match s.sl[i]? with
  | some (some (.own xs)) => if xs.length < sizeLine then .next (s.put i (.own (xs ++ [d]))) else .stuck
  | _ => .stuck
def isOwn (i : Nat) (s : S) : Bool := match s.sl[i]? with
  | some (some (.own _)) => true
  | _ => false
theorem ds_append (i : Nat) {x : Str} {p2 ap cp : Pos} (ha : DE X W a fa) (hN : X.N[i]? = some x := by rfl) (hv : Vis X.env.scope x := by first | exact Or.inl rfl | exact Or.inr (Or.inl rfl) | exact Or.inr (Or.inr rfl))
    (hd : (x == ("__debug__" : Str)) = false := by decide) (hcd : (x == ("__classdict__" : Str)) = false := by decide)
    (hb : attributeBase (.Name x p2) "append" X.env (eval (.Name x p2) X.env) = eval (.Name x p2) X.env := by rfl) (hline : (ap.endLine == cp.line) = true := by rfl)
    (he : starEach (a :: []) X.env = (false, eval a X.env) :: starEach [] X.env := by rfl)
    (hfew : ((backTo cp (starEach (a :: []) X.env)).all (fun x => !x.1) && (backToKw cp (keywordEach [] X.env)).all (fun x => x.1.isSome) && decide ((a :: []).length + ([] : List Keyword).length + (if ([] : List Keyword).isEmpty then 0 else 1) < 30)) = true := by rfl)
    (hs : swapsWith (.Call (.Attribute (.Name x p2) "append" ap) [a] [] cp) none pos.line X.env = pure false := by rfl) :
    DS X W (.Expr (.Call (.Attribute (.Name x p2) "append" ap) [a] [] cp) pos) (fun s => if isOwn i s = true then (fa s).thn fun d s => apnd i d s else .stuck) := by
  refine ps_imp (ps_expr (pe_bm PySem.F.plainAttrs_list PySem.F.slot_list_append PySem.F.type_list_append mt_append (pv i hN hv hd hcd) (pa_cons ha pa_nil he) hb hfew hline he rfl) hs) fun D σ H h => ?_
  obtain ⟨va, s, HP, rl, h⟩ := h
  dsimp only at h
  split at h
  · rename_i ho
    unfold isOwn at ho
    split at ho
    · rename_i xs q
      obtain ⟨b, vs, h1, h2, h3, hz, h4⟩ := rl.own i xs q
      refine ⟨_, h1, .inl ⟨rfl, vs, SqL.of h3⟩, ?_⟩
      refine bindES rl h fun d s1 v H1 HP1 st1 d1 p1 => ?_
      unfold apnd at p1
      split at p1
      · rename_i ys q1
        split at p1
        · rename_i hl
          obtain ⟨b', ws, y1, y2, y3, yz, y4⟩ := st1.rel.own i ys q1
          rw [h1] at y1
          injection y1 with y1; injection y1 with y1; injection y1 with y1
          subst y1
          refine ⟨b, ws, v, rfl, rfl, y3, by rw [y4.length]; exact hl, ?_⟩
          exact p1 σ _ HP1 (st1.rel.chg q1 h1 (by rw [List.length_append, List.length_singleton]; exact hl) (y4.append (.cons d1 .nil)))
        · exact p1.elim
      · exact p1.elim
    · cases ho
  · exact h.elim
/-- x[e], x the lent list or an own one, read as it stands -/
def refS (i : Nat) (s : S) : Option (List D) := match s.sl[i]? with
  | some (some .via) => s.via
  | some (some (.own xs)) => some xs
  | _ => none
theorem Rel.refS {K : PySem.W.Frag} {va : VA} {s : S} {σ : St} {HP H : Hp} (r : Rel K va s σ HP H) {i : Nat} {xs : List D} (e : refS i s = some xs) : ∃ a vs, σ[i]? = some (some (.ref a)) ∧ H a = some (.lst vs) ∧ xs.length ≤ sizeLine ∧ DvA K HP vs xs := by
  unfold DL.refS at e
  split at e
  · rename_i q
    obtain ⟨h1, vs, h2, h3, h4⟩ := r.vst xs e
    exact ⟨va.a, vs, (r.vis i q).1, h2, h3, h4⟩
  · rename_i ys q
    cases e
    obtain ⟨a, vs, h1, h2, h3, h4, h5⟩ := r.own i xs q
    exact ⟨a, vs, h1, h3, h4, h5⟩
  · cases e
def ixR (i : Nat) (y : D) (s : S) : R D := match refS i s with
  | some xs => lift (opIx (.lst xs) y) s
  | none => .stuck
theorem de_ixr (i : Nat) {x : Str} {p2 : Pos} (hb : DE X W b fb) (hN : X.N[i]? = some x := by rfl) (hv : Vis X.env.scope x := by first | exact Or.inl rfl | exact Or.inr (Or.inl rfl) | exact Or.inr (Or.inr rfl))
    (hd : (x == ("__debug__" : Str)) = false := by decide) (hcd : (x == ("__classdict__" : Str)) = false := by decide) (hs : PlainIx b := by exact fun _ _ => rfl) :
    DE X W (.Subscript (.Name x p2) b pos) (fun s => if (refS i s).isSome = true then (fb s).bind fun y s => ixR i y s else .stuck) := by
  refine pe_imp (pe_ix ix_list (pv i hN hv hd hcd) hb hs) fun σ H Q h => ?_
  obtain ⟨va, s, HP, rl, h⟩ := h
  dsimp only at h
  split at h
  · rename_i ho
    obtain ⟨xs, q⟩ := Option.isSome_iff_exists.mp ho
    obtain ⟨c, vs, h1, h2, h3, h4⟩ := rl.refS q
    refine ⟨_, h1, ?_⟩
    refine bindEE rl h fun y s1 v H1 HP1 st1 d1 p1 => ?_
    unfold ixR at p1
    split at p1
    · rename_i ys q1
      obtain ⟨c', ws, y1, y2, y3, y4⟩ := st1.rel.refS q1
      rw [h1] at y1
      injection y1 with y1; injection y1 with y1; injection y1 with y1
      subst y1
      cases d1 <;> try exact p1.elim
      rename_i k
      cases z : L2.atI ys k with
      | none => simp only [opIx, z] at p1; exact p1.elim
      | some d =>
        simp only [opIx, z] at p1
        obtain ⟨w, z1, z2⟩ := y4.atI z
        exact ⟨c, ws, k, w, rfl, rfl, SqL.of y2, z1, p1.fin st1.rel z2⟩
    · exact p1.elim
  · exact h.elim
/-- x[e] = a, x the lent list or an own one -/
def setR (i : Nat) (y d : D) (s : S) : T := match y with
  | .int k => match s.sl[i]? with
    | some (some .via) => match s.via with
      | some xs => match ixN xs.length k with
        | some j => .next ⟨s.sl, some (xs.set j d)⟩
        | none => .stuck
      | none => .stuck
    | some (some (.own xs)) => match ixN xs.length k with
      | some j => .next (s.put i (.own (xs.set j d)))
      | none => .stuck
    | _ => .stuck
  | _ => .stuck
theorem ds_setr (i : Nat) {x : Str} {p2 p3 : Pos} (ha : DE X W a fa) (hb : DE X W b fb) (hN : X.N[i]? = some x := by rfl) (hv : Vis X.env.scope x := by first | exact Or.inl rfl | exact Or.inr (Or.inl rfl) | exact Or.inr (Or.inr rfl))
    (hd : (x == ("__debug__" : Str)) = false := by decide) (hcd : (x == ("__classdict__" : Str)) = false := by decide)
    (hsa : ∀ v, assign (.Subscript (.Name x p2) b p3) X.env v = (do
      let ov ← holding [v] (eval (.Name x p2) X.env)
      let iv ← holding [v, ov] (eval b X.env)
      standAt p3
      holding [v, ov, iv] (setItem ov iv v)
      release [v, ov, iv] []) := by intro _; rfl)
    (hs : swapsWithSole [.Subscript (.Name x p2) b p3] a pos.line X.env = pure false := by rfl) (hw : swappedStores [.Subscript (.Name x p2) b p3] a X.env = pure none := by rfl)
    (h1 : (assignEach [.Subscript (.Name x p2) b p3] X.env).map (·.2) = [assign (.Subscript (.Name x p2) b p3) X.env] := by rfl) :
    DS X W (.Assign [.Subscript (.Name x p2) b p3] a pos) (fun s => (fa s).thn fun d s => if (refS i s).isSome = true then (fb s).thn fun y s => setR i y d s else .stuck) := by
  refine ps_imp (ps_asg ha (pg_sub (pv i hN hv hd hcd) hb set_list hsa) hs hw h1) fun D σ H h => ?_
  obtain ⟨va, s, HP, rl, h⟩ := h
  refine bindES rl h fun d s1 v H1 HP1 st1 d1 p1 => ?_
  split at p1
  · rename_i ho
    obtain ⟨xs, q⟩ := Option.isSome_iff_exists.mp ho
    obtain ⟨c, vs, z1, z2, z3, z4⟩ := st1.rel.refS q
    refine ⟨_, z1, ?_⟩
    refine bindES st1.rel p1 fun y s2 u H2 HP2 st2 d2 p2 => ?_
    have dv := Dv.mono st2.same d v d1
    have rl2 := st2.rel
    unfold setR at p2
    split at p2
    · cases d2
      rename_i k
      split at p2
      · rename_i q2
        split at p2
        · rename_i ys q3
          split at p2
          · rename_i j q4
            obtain ⟨y1, ws, y2, y3, y4⟩ := rl2.vst ys q3
            have y0 := (rl2.vis i q2).1
            rw [z1] at y0
            injection y0 with y0; injection y0 with y0; injection y0 with y0
            subst y0
            exact ⟨va.a, ws, k, j, rfl, rfl, y2, by rw [y4.length]; exact q4, p2 σ _ HP2 (rl2.chgV q3 (by rw [List.length_set]; exact y3) (y4.set dv j))⟩
          · exact p2.elim
        · exact p2.elim
      · rename_i ys q2
        split at p2
        · rename_i j q4
          obtain ⟨b', ws, y1, y2, y3, yz, y4⟩ := rl2.own i ys q2
          have y0 := y1
          rw [z1] at y0
          injection y0 with y0; injection y0 with y0; injection y0 with y0
          subst y0
          exact ⟨c, ws, k, j, rfl, rfl, y3, by rw [y4.length]; exact q4, p2 σ _ HP2 (rl2.chg q2 z1 (by rw [List.length_set]; exact yz) (y4.set dv j))⟩
        · exact p2.elim
      · exact p2.elim
    · exact p2.elim
  · exact p1.elim
end
end DL

namespace DL
open PySem PySem.Spec PyProof.Rows L2
/-! ## what a def is worth -/
inductive FR where
  | ok (d : D) (w : Option (List D)) | own (xs : List D) (w : Option (List D)) | exc (n : Str) (p : Option Int) (w : Option (List D)) | stuck
/-- the arguments (without the lent list), the lent list -/
abbrev FM := List D → Option (List D) → FR
structure FG (K : PySem.W.Frag) (va : VA) (w : Option (List D)) (HP H : Hp) (w' : Option (List D)) (HP' H' : Hp) : Prop where
  sub : Same HP' H'
  same : Same HP HP'
  keep : ∀ b o, H b = some o → (∀ ps, o ≠ .tbl ps) → (w ≠ none → b ≠ va.a) → H' b = some o ∧ (HP b = none → HP' b = none)
  via : w = none ↔ w' = none
  vst : ∀ xs, w' = some xs → HP' va.a = none ∧ ∃ vs, H' va.a = some (.lst vs) ∧ xs.length ≤ sizeLine ∧ DvA K HP' vs xs
  tab : TB lamT HP' H'
/-- the arguments as the caller lays them -/
def Args (K : PySem.W.Frag) (va : VA) (HP H : Hp) (vs vs' : List V) : Option (List D) → Prop
  | none => vs = vs'
  | some xs => vs = .ref va.a :: vs' ∧ HP va.a = none ∧ ∃ us, H va.a = some (.lst us) ∧ xs.length ≤ sizeLine ∧ DvA K HP us xs
def PoF (K : PySem.W.Frag) (mg : Str → Option Value) (va : VA) (w : Option (List D)) (HP H : Hp) (r : FR) (Q : VK) (E : XK) : Prop := match r with
  | .ok d w' => ∀ v H' HP', FG K va w HP H w' HP' H' → Dv K HP' v d → Q v H'
  | .own xs w' => ∀ p vs H' HP', FG K va w HP H w' HP' H' → H' p = none → xs.length ≤ sizeLine → DvA K HP' vs xs → Q (.ref p) (upd H' p (.lst vs))
  | .exc n p w' => ∀ dd H' HP' C, FG K va w HP H w' HP' H' → ExcAt p dd H' → mg n = some (.ref C) → E (.ref C) dd H'
  | .stuck => False
def spD (K : PySem.W.Frag) (mg : Str → Option Value) (n : Nat) (m : FM) : Sp := fun vs H Q E => ∃ va HP ds w vs', vs.length = n ∧ Same HP H ∧ DvA K HP vs' ds ∧ Args K va HP H vs vs' w ∧ TB lamT HP H ∧ PoF K mg va w HP H (m ds w) Q E
/-- a def of the text keeps m -/
abbrev FnD (P : Program) (w : World) (K : PySem.W.Frag) (mg : Str → Option Value) (base : Heap) (k : Nat) (f : Addr) (fd : FuncData) (ps : List Str) (m : FM) : Prop := FnOk P w K mg base (L2.CX P w) k f fd ps (spD K mg ps.length m)
def stD (N : List Str) (ds : List D) : Option (List D) → S
  | none => ⟨ds.map (fun d => some (Sl.val d)) ++ List.replicate (N.length - ds.length) none, none⟩
  | some xs => ⟨some .via :: (ds.map (fun d => some (Sl.val d)) ++ List.replicate (N.length - (ds.length + 1)) none), some xs⟩
def T.fin : T → FR
  | .ret d s => .ok d s.via
  | .retO d s => .own d s.via
  | .next s => .ok .non s.via
  | .exc n p s => .exc n p s.via
  | _ => .stuck
@[simp] theorem T.fin_ret (d : D) (s : S) : (T.ret d s).fin = .ok d s.via := rfl
@[simp] theorem T.fin_retO (d : List D) (s : S) : (T.retO d s).fin = .own d s.via := rfl
@[simp] theorem T.fin_next (s : S) : (T.next s).fin = .ok .non s.via := rfl
@[simp] theorem T.fin_exc (n : Str) (p : Option Int) (s : S) : (T.exc n p s).fin = .exc n p s.via := rfl
theorem vals_start {K : PySem.W.Frag} {HP : Hp} {vs : List V} {ds : List D} (h : DvA K HP vs ds) {r : List (Option Sl)} {r' : List (Option V)} (hr : ∀ (i : Nat), r[i]? = some none ∨ r[i]? = none) : ∀ (i : Nat) d, (ds.map (fun d => some (Sl.val d)) ++ r)[i]? = some (some (.val d)) → ∃ v, (vs.map some ++ r')[i]? = some (some v) ∧ Dv K HP v d := fun i d q => by
  rcases Nat.lt_or_ge i ds.length with z | z
  · rw [List.getElem?_append_left (by simpa using z), List.getElem?_map, List.getElem?_eq_getElem z] at q
    have q' : ds[i] = d := by simpa using q
    subst q'
    obtain ⟨v, h1, h2⟩ := h.getD (List.getElem?_eq_getElem z)
    refine ⟨v, ?_, h2⟩
    rw [List.getElem?_append_left (by rw [List.length_map, h.length]; exact z), List.getElem?_map, h1]
    rfl
  · rw [List.getElem?_append_right (by simpa using z)] at q
    rcases hr (i - (ds.map (fun d => some (Sl.val d))).length) with e | e <;> rw [e] at q <;> cases q
theorem not_start {ds : List D} {r : List (Option Sl)} (hr : ∀ (i : Nat), r[i]? = some none ∨ r[i]? = none) {i : Nat} {x : Sl} (q : (ds.map (fun d => some (Sl.val d)) ++ r)[i]? = some (some x)) : ∃ d, x = .val d := by
  rcases Nat.lt_or_ge i ds.length with z | z
  · rw [List.getElem?_append_left (by simpa using z), List.getElem?_map, List.getElem?_eq_getElem z] at q
    exact ⟨ds[i], by simpa using q.symm⟩
  · rw [List.getElem?_append_right (by simpa using z)] at q
    rcases hr (i - (ds.map (fun d => some (Sl.val d))).length) with e | e <;> rw [e] at q <;> cases q
theorem rep_none (n i : Nat) : (List.replicate n (none : Option Sl))[i]? = some none ∨ (List.replicate n (none : Option Sl))[i]? = none := by
  rcases Nat.lt_or_ge i n with z | z
  · left; rw [List.getElem?_replicate, if_pos z]
  · right; exact List.getElem?_eq_none_iff.mpr (by simpa using z)
theorem rel_start {K : PySem.W.Frag} {va : VA} {HP H : Hp} {vs vs' : List V} {ds : List D} {w : Option (List D)} {N : List Str} (hn : vs.length ≤ N.length) (sm : Same HP H) (h : DvA K HP vs' ds) (a : Args K va HP H vs vs' w) (tb : TB lamT HP H) : Rel K va (stD N ds w) (start N vs) HP H := by
  cases w with
  | none =>
    have e : vs = vs' := a
    subst e
    refine ⟨?_, sm, vals_start h (rep_none _), fun i xs q => ?_, fun i q => ?_, fun xs q => (by cases q), fun i j xs ys b _ q => ?_, fun i xs q => ?_, tb⟩
    · simp [stD, L2.start, h.length]
    all_goals obtain ⟨d, e⟩ := not_start (rep_none _) q; cases e
  | some xs =>
    obtain ⟨e, h1, us, h2, h3, h4⟩ := a
    subst e
    have nt : ∀ (i : Nat) (x : Sl), (stD N ds (some xs)).sl[i]? = some (some x) → (i = 0 ∧ x = .via) ∨ (∃ j d, i = j + 1 ∧ x = .val d ∧ (ds.map (fun d => some (Sl.val d)) ++ List.replicate (N.length - (ds.length + 1)) none)[j]? = some (some (.val d))) := fun i x q => by
      cases i with
      | zero => left; exact ⟨rfl, by simpa [stD] using q.symm⟩
      | succ j =>
        right
        have q' : (ds.map (fun d => some (Sl.val d)) ++ List.replicate (N.length - (ds.length + 1)) none)[j]? = some (some x) := by simpa [stD] using q
        obtain ⟨d, e⟩ := not_start (rep_none _) q'
        subst e
        exact ⟨j, d, rfl, rfl, q'⟩
    have st : start N (.ref va.a :: vs') = some (.ref va.a) :: (vs'.map some ++ List.replicate (N.length - (vs'.length + 1)) none) := rfl
    rw [st]
    refine ⟨?_, sm, fun i d q => ?_, fun i ys q => ?_, fun i q => ?_, fun ys q => ?_, fun i j ys zs b _ q => ?_, fun i ys q => ?_, tb⟩
    · simp [stD, h.length]
    · rcases nt i _ q with ⟨rfl, e⟩ | ⟨j, d', rfl, e, q'⟩
      · cases e
      · cases e
        obtain ⟨v, y1, y2⟩ := vals_start h (r' := List.replicate (N.length - (vs'.length + 1)) none) (rep_none _) j d q'
        exact ⟨v, by simpa using y1, y2⟩
    · rcases nt i _ q with ⟨rfl, e⟩ | ⟨j, d', rfl, e, q'⟩ <;> cases e
    · rcases nt i _ q with ⟨rfl, e⟩ | ⟨j, d', rfl, e, q'⟩
      · exact ⟨rfl, by simp [stD]⟩
      · cases e
    · have : xs = ys := by simpa [stD] using q
      subst this
      exact ⟨h1, us, h2, h3, h4⟩
    · rcases nt i _ q with ⟨rfl, e⟩ | ⟨j, d', rfl, e, q'⟩ <;> cases e
    · rcases nt i _ q with ⟨rfl, e⟩ | ⟨j, d', rfl, e, q'⟩ <;> cases e
theorem stD_via (N : List Str) (ds : List D) (w : Option (List D)) : (stD N ds w).via = w := by cases w <;> rfl
theorem stD_own {N : List Str} {ds : List D} {w : Option (List D)} {i : Nat} {xs : List D} : (stD N ds w).sl[i]? ≠ some (some (.own xs)) := by
  cases w with
  | none =>
    intro q
    obtain ⟨d, e⟩ := not_start (rep_none _) q
    cases e
  | some ys =>
    intro q
    cases i with
    | zero => simp [stD] at q
    | succ j =>
      have q' : (ds.map (fun d => some (Sl.val d)) ++ List.replicate (N.length - (ds.length + 1)) none)[j]? = some (some (.own xs)) := by simpa [stD] using q
      obtain ⟨d, e⟩ := not_start (rep_none _) q'
      cases e
theorem Stp.fg {K : PySem.W.Frag} {va : VA} {HP H HP' H' : Hp} {N : List Str} {ds : List D} {w : Option (List D)} {σ σ' : St} {s' : S} (a : Stp K va (stD N ds w) σ HP H s' σ' HP' H') : FG K va w HP H s'.via HP' H' where
  sub := a.rel.sub
  same := a.same
  keep := fun b o h nt n => by
    have no : ¬ Owns va (stD N ds w) σ b := fun z => by
      rcases z with ⟨i, xs, q, _⟩ | ⟨q, e⟩
      · exact stD_own q
      · rw [stD_via] at q; exact n q e
    obtain ⟨h1, _, h2⟩ := a.keep b o h nt no
    exact ⟨h1, h2⟩
  via := by have := a.via; rw [stD_via] at this; exact this
  vst := fun xs e => a.rel.vst xs e
  tab := a.rel.tab
section
variable {P : Program} {w : World} {K : PySem.W.Frag} {mg : Str → Option Value} {base : Heap}
/-- THE RULE for a def -/
theorem fn_d {x qual : Str} {st : Stmt} {f : Addr} {fd : FuncData} {N ps : List Str} {k : Nat} {m : FM} (F : Fun K x qual st f fd) (Sc : FnScope N ps (defScope st))
    (body : ∀ (cdv : Value) (A : Around) (outer : List Env) (s : Shared) (H : Hp) (E : XK), Room k (A.deeper (envOfC qual (defScope st) s.heap.objs.size f cdv)) →
      ∃ f', DSs (cxOf (L2.CX P w) P w K mg base N qual (defScope st) f cdv A outer s H E) (fun cls d _ H => E cls d H) (defBody st) f' ∧ ∀ ds v, m ds v ≠ .stuck → (f' (stD N ds v)).fin = m ds v) :
    FnD P w K mg base (k + 1) f fd ps m := by
  refine F.okX Sc (fun vs H Q E h => ?_) (fun cdv A outer s H vs Q E hr h => ?_)
  · obtain ⟨_, _, _, _, _, e, _⟩ := h; exact e
  · obtain ⟨va, HP, ds, v, vs', e1, sm, dv, ar, tb, po⟩ := h
    obtain ⟨f', hd, hf⟩ := body cdv A outer s H E hr
    have hN : ps.length ≤ N.length := by
      have := congrArg List.length Sc.pre
      rw [List.length_take] at this
      omega
    refine ⟨_, hd, va, stD N ds v, HP, rel_start (by rw [e1]; exact hN) sm dv ar tb, ?_⟩
    have ne : m ds v ≠ .stuck := fun z => by rw [z] at po; exact po
    have e := hf ds v ne
    rw [← e] at po
    cases q : f' (stD N ds v) with
    | stuck => rw [q] at po; exact po
    | brk s' => rw [q] at po; exact po.elim
    | cnt s' => rw [q] at po; exact po.elim
    | next s' => rw [q] at po; exact fun σ' H' HP' stp => po .non H' HP' stp.fg .non
    | ret d s' => rw [q] at po; exact fun v' σ' H' HP' stp dv' => po v' H' HP' stp.fg dv'
    | retO xs s' => rw [q] at po; exact fun p vs σ' H' HP' stp n z dv' => po p vs H' HP' stp.fg n z dv'
    | exc n p s' => rw [q] at po; exact fun dd σ' H' HP' C stp z y => po dd H' HP' C stp.fg z y
end
/-- another saying of the same -/
theorem FnD.re {P : Program} {w : World} {K : PySem.W.Frag} {mg : Str → Option Value} {base : Heap} {k : Nat} {f : Addr} {fd : FuncData} {ps : List Str} {m m' : FM} (F : FnD P w K mg base k f fd ps m) (h : ∀ ds v, m' ds v ≠ .stuck → m ds v = m' ds v) : FnD P w K mg base k f fd ps m' :=
  F.imp fun vs H Q E ⟨va, HP, ds, v, vs', e1, sm, dv, ar, tb, po⟩ => ⟨va, HP, ds, v, vs', e1, sm, dv, ar, tb, by
    have ne : m' ds v ≠ .stuck := fun z => by rw [z] at po; exact po
    rw [h ds v ne]; exact po⟩
/-- a new list as a datum -/
def FR.frz : FR → FR
  | .own xs w => .ok (.lst xs) w
  | r => r
theorem FG.lay {K : PySem.W.Frag} {va : VA} {w w' : Option (List D)} {HP H HP' H' : Hp} (g : FG K va w HP H w' HP' H') {p : Addr} {o : HO} (n : H' p = none) (ho : ∀ ps, o ≠ .tbl ps := by intro _ z; cases z) : FG K va w HP H w' (upd HP' p o) (upd H' p o) := by
  have nP : HP' p = none := g.sub.free n
  have ne : ∀ {b x}, H' b = some x → b ≠ p := fun e => ne_of_none e n
  have sm : Same HP' (upd HP' p o) := fun b x e => by rw [upd_ne (ne_of_none e nP)]; exact e
  refine ⟨fun b x e => ?_, g.same.trans sm, fun b x e nt k => ?_, g.via, fun xs e => ?_, ⟨g.tab.t.ext fun b x e => (by rw [upd_ne (ne e)]; exact e), noTb_upd g.tab.n ho⟩⟩
  · by_cases h : b = p
    · subst h; rw [upd_same] at e ⊢; exact e
    · rw [upd_ne h] at e ⊢; exact g.sub b x e
  · obtain ⟨h1, h2⟩ := g.keep b x e nt k
    exact ⟨by rw [upd_ne (ne h1)]; exact h1, fun z => by rw [upd_ne (ne h1)]; exact h2 z⟩
  · obtain ⟨h1, vs, h2, h3, h4⟩ := g.vst xs e
    exact ⟨by rw [upd_ne (ne h2)]; exact h1, vs, by rw [upd_ne (ne h2)]; exact h2, h3, DvA.mono sm xs vs h4⟩
theorem FnD.frz {P : Program} {w : World} {K : PySem.W.Frag} {mg : Str → Option Value} {base : Heap} {k : Nat} {f : Addr} {fd : FuncData} {ps : List Str} {m : FM} (F : FnD P w K mg base k f fd ps m) : FnD P w K mg base k f fd ps (fun ds v => (m ds v).frz) :=
  F.imp fun vs H Q E ⟨va, HP, ds, v, vs', e1, sm, dv, ar, tb, po⟩ => ⟨va, HP, ds, v, vs', e1, sm, dv, ar, tb, by
    dsimp only at po
    cases q : m ds v with
    | own xs w' =>
      rw [q] at po
      exact fun p vs H' HP' g n z d => po (.ref p) _ _ (g.lay n) (.lst upd_same z (DvA.mono (fun b x e => by rw [upd_ne (ne_of_none e (g.sub.free n))]; exact e) xs vs d))
    | ok d w' => rw [q] at po; exact po
    | exc n p w' => rw [q] at po; exact po
    | stuck => rw [q] at po; exact po⟩
/-! ## calls -/
def callP (m : FM) (n : Nat) (ds : List D) (s : S) : R D := if ds.length = n then (match m ds none with
  | .ok d none => .ok d s
  | .exc n p none => .exc n p s
  | _ => .stuck) else .stuck
def S.setRef (i : Nat) (xs : List D) (s : S) : S := match s.sl[i]? with
  | some (some .via) => ⟨s.sl, some xs⟩
  | _ => s.put i (.own xs)
def callV (i : Nat) (m : FM) (n : Nat) (ds : List D) (s : S) : R D := match refS i s with
  | some xs => if ds.length + 1 = n then (match m ds (some xs) with
    | .ok d (some ys) => .ok d (s.setRef i ys)
    | .exc n p (some ys) => .exc n p (s.setRef i ys)
    | _ => .stuck) else .stuck
  | none => .stuck
section
variable {K : PySem.W.Frag} {va : VA} {s : S} {σ : St} {HP H HP' H' : Hp}
theorem nL {vs : List V} : ∀ ps, HO.lst vs ≠ .tbl ps := fun _ z => nomatch z
theorem Rel.called (r : Rel K va s σ HP H) {vb : Addr} (g : FG K ⟨vb⟩ none HP H none HP' H') : Stp K va s σ HP H s σ HP' H' := by
  have kp : ∀ b o, H b = some o → (∀ ps, o ≠ .tbl ps) → H' b = some o ∧ (HP b = none → HP' b = none) := fun b o h nt => g.keep b o h nt fun z => absurd rfl z
  refine ⟨⟨r.len, g.sub, fun i d q => ?_, fun i xs q => ?_, r.vis, fun xs q => ?_, r.dis, r.dvi, g.tab⟩, g.same, fun b o h nt n => ⟨(kp b o h nt).1, n, (kp b o h nt).2⟩, Iff.rfl⟩
  · obtain ⟨v, h1, h2⟩ := r.val i d q
    exact ⟨v, h1, Dv.mono g.same d v h2⟩
  · obtain ⟨a, vs, h1, h2, h3, hz, h4⟩ := r.own i xs q
    exact ⟨a, vs, h1, (kp a _ h3 nL).2 h2, (kp a _ h3 nL).1, hz, DvA.mono g.same xs vs h4⟩
  · obtain ⟨h1, vs, h2, hz, h3⟩ := r.vst xs q
    exact ⟨(kp va.a _ h2 nL).2 h1, vs, (kp va.a _ h2 nL).1, hz, DvA.mono g.same xs vs h3⟩
/-- behind a call to which the list at slot i was lent -/
theorem Rel.calledV (r : Rel K va s σ HP H) {i : Nat} {vb : Addr} {xs ys : List D} (e : DL.refS i s = some xs) (ha : σ[i]? = some (some (.ref vb))) (g : FG K ⟨vb⟩ (some xs) HP H (some ys) HP' H') : Stp K va s σ HP H (s.setRef i ys) σ HP' H' := by
  have kp : ∀ b o, H b = some o → (∀ ps, o ≠ .tbl ps) → b ≠ vb → H' b = some o ∧ (HP b = none → HP' b = none) := fun b o h nt n => g.keep b o h nt fun _ => n
  obtain ⟨g1, us, g2, g3, g4⟩ := g.vst ys rfl
  unfold DL.refS at e
  unfold S.setRef
  split at e
  · -- the lent list, lent on
    rename_i q0
    have hvb : vb = va.a := by
      have := (r.vis i q0).1
      rw [ha] at this
      injection this with z; injection z with z; injection z with z
    subst hvb
    simp only [q0]
    have nv : s.via ≠ none := by rw [e]; simp
    refine ⟨⟨r.len, g.sub, fun i d q => ?_, fun j zs q => ?_, fun j q => ⟨(r.vis j q).1, by simp⟩, fun zs q => ?_, r.dis, fun j zs q n => r.dvi j zs q nv, g.tab⟩, g.same, fun b o h nt n => ?_, by simp [e]⟩
    · obtain ⟨v, h1, h2⟩ := r.val i d q
      exact ⟨v, h1, Dv.mono g.same d v h2⟩
    · obtain ⟨a, vs, h1, h2, h3, hz, h4⟩ := r.own j zs q
      have ne : a ≠ va.a := fun z => by subst z; exact r.dvi j zs q nv h1
      exact ⟨a, vs, h1, (kp a _ h3 nL ne).2 h2, (kp a _ h3 nL ne).1, hz, DvA.mono g.same zs vs h4⟩
    · have : ys = zs := by simpa using q
      subst this
      exact ⟨g1, us, g2, g3, g4⟩
    · have ne : b ≠ va.a := fun z => n (.inr ⟨nv, z⟩)
      refine ⟨(kp b o h nt ne).1, fun z => n ?_, (kp b o h nt ne).2⟩
      rcases z with ⟨j, zs, q1, q2⟩ | ⟨_, z⟩
      · exact .inl ⟨j, zs, q1, q2⟩
      · exact .inr ⟨nv, z⟩
  · rename_i xs' q0
    cases e
    simp only [q0]
    have own : ∀ (j : Nat) zs, (s.put i (.own ys)).sl[j]? = some (some (.own zs)) → (j = i ∧ zs = ys) ∨ (j ≠ i ∧ s.sl[j]? = some (some (.own zs))) := fun j zs q => by
      by_cases h : j = i
      · subst h
        have := sl_put_eq q
        injection this with e
        injection e with e
        exact .inl ⟨rfl, e⟩
      · rw [sl_put_ne h] at q; exact .inr ⟨h, q⟩
    have ow : ∀ (j : Nat) zs, (s.put i (.own ys)).sl[j]? = some (some (.own zs)) → ∃ zs, s.sl[j]? = some (some (.own zs)) := fun j zs q => by
      rcases own j zs q with ⟨rfl, rfl⟩ | ⟨nj, q'⟩
      · exact ⟨_, q0⟩
      · exact ⟨zs, q'⟩
    refine ⟨⟨by simpa [S.put] using r.len, g.sub, fun j d q => ?_, fun j zs q => ?_, fun j q => ?_, fun zs q => ?_, fun j k zs ws b n q1 q2 q3 => ?_, fun j zs q n => ?_, g.tab⟩, g.same, fun b o h nt n => ?_, Iff.rfl⟩
    · by_cases h : j = i
      · subst h; cases sl_put_eq q
      · rw [sl_put_ne h] at q
        obtain ⟨v, h1, h2⟩ := r.val j d q
        exact ⟨v, h1, Dv.mono g.same d v h2⟩
    · rcases own j zs q with ⟨rfl, rfl⟩ | ⟨nj, q'⟩
      · exact ⟨vb, us, ha, g1, g2, g3, g4⟩
      · obtain ⟨a, vs, h1, h2, h3, hz, h4⟩ := r.own j zs q'
        have ne : a ≠ vb := fun z => by subst z; exact r.dis i j _ zs a (Ne.symm nj) q0 q' ha h1
        exact ⟨a, vs, h1, (kp a _ h3 nL ne).2 h2, (kp a _ h3 nL ne).1, hz, DvA.mono g.same zs vs h4⟩
    · by_cases h : j = i
      · subst h; cases sl_put_eq q
      · rw [sl_put_ne h] at q; exact r.vis j q
    · obtain ⟨h1, vs, h2, hz, h3⟩ := r.vst zs q
      have q' : s.via = some zs := q
      have ne : va.a ≠ vb := fun z => r.dvi i _ q0 (by rw [q']; simp) (by rw [z]; exact ha)
      exact ⟨(kp va.a _ h2 nL ne).2 h1, vs, (kp va.a _ h2 nL ne).1, hz, DvA.mono g.same zs vs h3⟩
    · obtain ⟨_, q1'⟩ := ow j zs q1
      obtain ⟨_, q2'⟩ := ow k ws q2
      exact r.dis j k _ _ b n q1' q2' q3
    · obtain ⟨_, q'⟩ := ow j zs q
      exact r.dvi j _ q' n
    · have ne : b ≠ vb := fun z => n (.inl ⟨i, _, q0, by rw [z]; exact ha⟩)
      refine ⟨(kp b o h nt ne).1, fun z => n ?_, (kp b o h nt ne).2⟩
      rcases z with ⟨j, zs, q1, q2⟩ | z
      · obtain ⟨_, q1'⟩ := ow j zs q1
        exact .inl ⟨j, _, q1', q2⟩
      · exact .inr z
  · cases e
end
section
variable {X : Cx} {W : WX} {a b c e : Expr} {es : List Expr} {fa fb fc : S → R D} {ga : S → R (List D)} {pos p : Pos} {k n : Nat} {f : Addr} {fd : FuncData} {ps : List Str} {m : FM} {x : Str}
theorem de_call (G : FnD X.prog X.w X.K X.mg X.base k f fd ps m) (hr : Room k X.A) (tk : Takes X W) (hm : X.mg x = some (.ref f)) (hk : PySem.W.keepIn X.K (.ref f) = true) (hb : Binds X.K fd ps []) (ha : DA X W (e :: es) ga)
    (hg : Gl X x := by rfl) (hdb : (x == ("__debug__" : Str)) = false := by decide) (he : starEach (e :: es) X.env = (false, eval e X.env) :: starEach es X.env := by rfl) (hpl : (backTo pos (starEach es X.env)).any (·.1) = false := by rfl) :
    DE X W (.Call (.Name x p) (e :: es) [] pos) (fun s => (ga s).bind fun ds s => callP m ps.length ds s) := by
  refine pe_imp (pe_callS (E := WE W) G hr hg hm hk hb (fun σ => passAt tk σ) ha hdb he hpl) fun σ H Q h => ?_
  obtain ⟨va, s, HP, rl, h⟩ := h
  refine bindAE rl h fun ds s1 vs H1 HP1 st1 d1 h1 => ?_
  unfold callP at h1
  split at h1
  · rename_i hl
    refine ⟨va, HP1, ds, none, vs, by rw [d1.length]; exact hl, st1.rel.sub, d1, rfl, st1.rel.tab, ?_⟩
    split at h1
    · rename_i d e; rw [e]; exact fun v H' HP' g dv => h1 v H' HP' (st1.rel.called g) dv
    · rename_i e; rw [e]; exact fun dd H' HP' C g z y => h1 dd H' HP' C (st1.rel.called g) z y
    · exact h1.elim
  · exact h1.elim
theorem de_callv (i : Nat) {y : Str} {py : Pos} (G : FnD X.prog X.w X.K X.mg X.base k f fd ps m) (hr : Room k X.A) (tk : Takes X W) (hm : X.mg x = some (.ref f)) (hk : PySem.W.keepIn X.K (.ref f) = true) (hb : Binds X.K fd ps []) (ha : DA X W es ga)
    (hN : X.N[i]? = some y := by rfl) (hv : Vis X.env.scope y := by first | exact Or.inl rfl | exact Or.inr (Or.inl rfl) | exact Or.inr (Or.inr rfl)) (hd : (y == ("__debug__" : Str)) = false := by decide) (hcd : (y == ("__classdict__" : Str)) = false := by decide)
    (hg : Gl X x := by rfl) (hdb : (x == ("__debug__" : Str)) = false := by decide) (he : starEach (.Name y py :: es) X.env = (false, eval (.Name y py) X.env) :: starEach es X.env := by rfl) (hpl : (backTo pos (starEach es X.env)).any (·.1) = false := by rfl) :
    DE X W (.Call (.Name x p) (.Name y py :: es) [] pos) (fun s => if (refS i s).isSome = true then (ga s).bind fun ds s => callV i m ps.length ds s else .stuck) := by
  refine pe_imp (pe_callS (E := WE W) G hr hg hm hk hb (fun σ => passAt tk σ) (pa_cons (pv i hN hv hd hcd) ha he) hdb he hpl) fun σ H Q h => ?_
  obtain ⟨va, s, HP, rl, h⟩ := h
  dsimp only at h
  split at h
  · rename_i ho
    obtain ⟨xs, q⟩ := Option.isSome_iff_exists.mp ho
    obtain ⟨vb, us, h1, h2, h3, h4⟩ := rl.refS q
    refine ⟨_, h1, ?_⟩
    refine bindAE rl h fun ds s1 vs H1 HP1 st1 d1 p1 => ?_
    unfold callV at p1
    split at p1
    · rename_i ys q1
      split at p1
      · rename_i hl
        obtain ⟨vb', us', y1, y2, y3, y4⟩ := st1.rel.refS q1
        rw [h1] at y1
        injection y1 with y1; injection y1 with y1; injection y1 with y1
        subst y1
        have nP : HP1 vb = none := by
          unfold refS at q1
          split at q1
          · rename_i z
            have := (st1.rel.vis i z).1
            rw [h1] at this
            injection this with w; injection w with w; injection w with w
            rw [w]
            exact (st1.rel.vst ys q1).1
          · rename_i z
            cases q1
            obtain ⟨b, ws, w1, w2, _⟩ := st1.rel.own i ys z
            rw [h1] at w1
            injection w1 with w; injection w with w; injection w with w
            rw [w]; exact w2
          · cases q1
        refine ⟨⟨vb⟩, HP1, ds, some ys, vs, by rw [List.length_cons, d1.length]; exact hl, st1.rel.sub, d1, ⟨rfl, nP, us', y2, y3, y4⟩, st1.rel.tab, ?_⟩
        split at p1
        · rename_i d zs e; rw [e]; exact fun v H' HP' g dv => p1 v H' HP' (st1.rel.calledV q1 h1 g) dv
        · rename_i e; rw [e]; exact fun dd H' HP' C g z y => p1 dd H' HP' C (st1.rel.calledV q1 h1 g) z y
        · exact p1.elim
      · exact p1.elim
    · exact p1.elim
  · exact h.elim
/-- x = f(..), the result a list for this slot alone -/
def asgO (i : Nat) (m : FM) (n : Nat) (ds : List D) (s : S) : T := if ds.length = n then (match m ds none with
  | .own xs none => .next (s.put i (.own xs))
  | .exc n p none => .exc n p s
  | _ => .stuck) else .stuck
theorem ds_ownc (i : Nat) {y : Str} {py pos' : Pos} (G : FnD X.prog X.w X.K X.mg X.base k f fd ps m) (hr : Room k X.A) (tk : Takes X W) (hN : X.N.Nodup) (hm : X.mg x = some (.ref f)) (hk : PySem.W.keepIn X.K (.ref f) = true) (hb : Binds X.K fd ps []) (ha : DA X W (e :: es) ga)
    (hi : X.N[i]? = some y := by rfl) (hx : Loc X.env.scope y := by first | exact Or.inl rfl | exact Or.inr rfl) (hs : swapsWith (.Call (.Name x p) (e :: es) [] pos) (some (.Name y py)) pos'.line X.env = pure false := by rfl)
    (hf : X.fn y = true ∨ X.env.scope.names.lookup y = some .local := by first | exact .inl rfl | exact .inr rfl | assumption)
    (hg : Gl X x := by rfl) (hdb : (x == ("__debug__" : Str)) = false := by decide) (he : starEach (e :: es) X.env = (false, eval e X.env) :: starEach es X.env := by rfl) (hpl : (backTo pos (starEach es X.env)).any (·.1) = false := by rfl) :
    DS X W (.Assign [.Name y py] (.Call (.Name x p) (e :: es) [] pos) pos') (fun s => (ga s).thn fun ds s => asgO i m ps.length ds s) := by
  refine ps_imp (ps_set hN hi hx (pe_callS (E := WE W) G hr hg hm hk hb (fun σ => passAt tk σ) ha hdb he hpl) hs hf) fun D σ H h => ?_
  obtain ⟨va, s, HP, rl, h⟩ := h
  dsimp only at h
  refine bindA rl (fun ds s1 vs H1 HP1 q st1 d1 => ?_) (fun n p s' dd H' HP' C q stp z m => ?_) (fun q => ?_) <;> simp only [q, R.thn_ok, R.thn_exc, R.thn_stuck] at h
  · have h1 := PoS.from st1 h
    unfold asgO at h1
    split at h1
    · rename_i hl
      refine ⟨va, HP1, ds, none, vs, by rw [d1.length]; exact hl, st1.rel.sub, d1, rfl, st1.rel.tab, ?_⟩
      split at h1
      · rename_i xs z
        rw [z]
        intro p us H' HP' g n hz dv
        have st2 := st1.rel.called g
        exact h1 _ _ HP' (st2.trans (st2.rel.putOwn i n hz dv))
      · rename_i z; rw [z]; exact fun dd H' HP' C g y1 y2 => h1 dd σ H' HP' C (st1.rel.called g) y1 y2
      · exact h1.elim
    · exact h1.elim
  · exact h dd σ H' HP' C stp z m
  · exact h
end
end DL

namespace DL
open PySem PySem.Spec PyProof.Rows L2
/-! ## calls of what is built in -/
def CallD (X : Cx) (f : Value) (g : List D → Option D) : Prop := ∃ r : List V → Hp → VK → Prop, CallR X f r ∧
  ∀ (W : WX) (va : VA) (s : S) (σ : St) (HP H : Hp) (vs : List V) (ds : List D) (d : D) (Q : VK), Rel X.K va s σ HP H → DvA X.K HP vs ds → g ds = some d → PoE X W va s σ HP H (.ok d s) Q → r vs H Q
def intsOf : List D → Option (List Int)
  | [] => some []
  | .int i :: r => (intsOf r).map (i :: ·)
  | _ => none
@[simp] theorem intsOf_map : ∀ ns : List Int, intsOf (ns.map D.int) = some ns
  | [] => rfl
  | n :: r => by simp [intsOf, intsOf_map r]
theorem intsOf_vals {K : PySem.W.Frag} {H : Hp} : ∀ {ds : List D} {vs : List V} {ns : List Int}, DvA K H vs ds → intsOf ds = some ns → vs = ns.map V.int
  | [], _, ns, h, e => by cases h; cases e; rfl
  | d :: ds, _, ns, h, e => by
    cases h with
    | cons h1 h2 =>
      cases h1 <;> simp [intsOf] at e
      obtain ⟨ms, e1, e2⟩ := e
      subst e2
      rw [intsOf_vals h2 e1]
      rfl
def minL : List Int → Int
  | [] => 0
  | x :: r => r.foldl min x
def maxL : List Int → Int
  | [] => 0
  | x :: r => r.foldl max x
theorem foldl_min : ∀ (r : List Int) (x : Int), (r.foldl min x = x ∨ r.foldl min x ∈ r) ∧ r.foldl min x ≤ x ∧ ∀ y ∈ r, r.foldl min x ≤ y
  | [], x => by simp
  | z :: r, x => by
    obtain ⟨h1, h2, h3⟩ := foldl_min r (min x z)
    refine ⟨?_, ?_, fun y hy => ?_⟩
    · rw [List.foldl_cons]
      rcases h1 with h1 | h1
      · rw [h1]
        rcases Int.le_total x z with h | h
        · left; exact Int.min_eq_left h
        · right; rw [Int.min_eq_right h]; simp
      · right; simp [h1]
    · rw [List.foldl_cons]; exact Int.le_trans h2 (Int.min_le_left _ _)
    · rw [List.foldl_cons]
      rcases List.mem_cons.mp hy with e | e
      · rw [e]; exact Int.le_trans h2 (Int.min_le_right _ _)
      · exact h3 y e
theorem foldl_max : ∀ (r : List Int) (x : Int), (r.foldl max x = x ∨ r.foldl max x ∈ r) ∧ x ≤ r.foldl max x ∧ ∀ y ∈ r, y ≤ r.foldl max x
  | [], x => by simp
  | z :: r, x => by
    obtain ⟨h1, h2, h3⟩ := foldl_max r (max x z)
    refine ⟨?_, ?_, fun y hy => ?_⟩
    · rw [List.foldl_cons]
      rcases h1 with h1 | h1
      · rw [h1]
        rcases Int.le_total x z with h | h
        · right; rw [Int.max_eq_right h]; simp
        · left; exact Int.max_eq_left h
      · right; simp [h1]
    · rw [List.foldl_cons]; exact Int.le_trans (Int.le_max_left _ _) h2
    · rw [List.foldl_cons]
      rcases List.mem_cons.mp hy with e | e
      · rw [e]; exact Int.le_trans (Int.le_max_right _ _) h2
      · exact h3 y e
theorem minL_le {l : List Int} {y : Int} (h : y ∈ l) : minL l ≤ y := by
  cases l with
  | nil => cases h
  | cons x r =>
    rcases List.mem_cons.mp h with e | e
    · rw [e]; exact (foldl_min r x).2.1
    · exact (foldl_min r x).2.2 y e
theorem minL_mem {l : List Int} (h : l ≠ []) : minL l ∈ l := by
  cases l with
  | nil => exact absurd rfl h
  | cons x r =>
    rcases (foldl_min r x).1 with e | e
    · show r.foldl min x ∈ x :: r
      rw [e]; simp
    · exact List.mem_cons_of_mem _ e
theorem le_maxL {l : List Int} {y : Int} (h : y ∈ l) : y ≤ maxL l := by
  cases l with
  | nil => cases h
  | cons x r =>
    rcases List.mem_cons.mp h with e | e
    · rw [e]; exact (foldl_max r x).2.1
    · exact (foldl_max r x).2.2 y e
theorem maxL_mem {l : List Int} (h : l ≠ []) : maxL l ∈ l := by
  cases l with
  | nil => exact absurd rfl h
  | cons x r =>
    rcases (foldl_max r x).1 with e | e
    · show r.foldl max x ∈ x :: r
      rw [e]; simp
    · exact List.mem_cons_of_mem _ e
def gLen : List D → Option D
  | [.lst xs] => some (.int xs.length)
  | [.tup xs] => some (.int xs.length)
  | [.scr xs] => some (.int xs.length)
  | [.str x] => if x.length ≤ sizeLine then some (.int x.length) else none
  | _ => none
def gSum : List D → Option D
  | [.lst xs] => (intsOf xs).map fun ns => .int ns.sum
  | [.tup xs] => (intsOf xs).map fun ns => .int ns.sum
  | _ => none
def gMin : List D → Option D
  | [.lst xs] => (intsOf xs).bind fun ns => if ns = [] then none else some (.int (minL ns))
  | [.int i, .int j] => some (.int (min i j))
  | _ => none
def gMax : List D → Option D
  | [.lst xs] => (intsOf xs).bind fun ns => if ns = [] then none else some (.int (maxL ns))
  | [.int i, .int j] => some (.int (max i j))
  | _ => none
def gAbs : List D → Option D
  | [.int i] => some (.int (if i < 0 then -i else i))
  | _ => none
def gInt : List D → Option D
  | [.int i] => some (.int i)
  | [.bl b] => some (.int (if b then 1 else 0))
  | _ => none
def gTup : List D → Option D
  | [.lst xs] => some (.tup xs)
  | [.tup xs] => some (.tup xs)
  | _ => none
def gLst : List D → Option D
  | [.lst xs] => some (.lst xs)
  | [.tup xs] => some (.lst xs)
  | _ => none
section
variable {X : Cx} {W : WX} {a b c e tg : Expr} {es : List Expr} {fa fb fc : S → R D} {ga : S → R (List D)} {ta tb tc : S → R Bool} {pos p : Pos} {id T : String} {x : Str}
theorem callD_core {g : List D → Option D} {r : List V → Hp → VK → Prop} (h2 : ∀ (W : WX) (va : VA) (s : S) (σ : St) (HP H : Hp) (vs : List V) (ds : List D) (d : D) (Q : VK), Rel X.K va s σ HP H → DvA X.K HP vs ds → g ds = some d → PoE X W va s σ HP H (.ok d s) Q → r vs H Q)
    (σ : St) (H : Hp) (Q : VK) (h : tDE X W (fun s => (ga s).bind fun ds s => lift (g ds) s) σ H Q) : tCB r (tDA X W ga) σ H Q := by
  obtain ⟨va, s, HP, rl, h⟩ := h
  refine bindAE rl h fun ds s1 vs H1 HP1 st1 d1 h1 => ?_
  cases q : g ds with
  | none => rw [q] at h1; exact h1.elim
  | some d => rw [q] at h1; exact h2 W va s1 σ HP1 H1 vs ds d Q st1.rel d1 q h1
theorem de_callB {g : List D → Option D} (o : CallD X (.builtin id) g) (hm : X.mg x = none) (hv : bootBuiltins x = some (.builtin id)) (ha : DA X W (e :: es) ga) (hg : Gl X x := by rfl) (hn : x ≠ "__name__" := by decide) (hdb : (x == ("__debug__" : Str)) = false := by decide)
    (he : starEach (e :: es) X.env = (false, eval e X.env) :: starEach es X.env := by rfl) (hpl : (backTo pos (starEach es X.env)).any (·.1) = false := by rfl) : DE X W (.Call (.Name x p) (e :: es) [] pos) (fun s => (ga s).bind fun ds s => lift (g ds) s) := by
  obtain ⟨r, h1, h2⟩ := o
  exact pe_imp (pe_callB h1 hg hm hv ha hn hdb he hpl) fun σ H Q h => callD_core h2 σ H Q h
theorem de_callT {g : List D → Option D} (o : CallD X (.type T) g) (hm : X.mg x = none) (hv : bootBuiltins x = some (.type T)) (ha : DA X W (e :: es) ga) (hg : Gl X x := by rfl) (hn : x ≠ "__name__" := by decide) (hdb : (x == ("__debug__" : Str)) = false := by decide)
    (he : starEach (e :: es) X.env = (false, eval e X.env) :: starEach es X.env := by rfl) (hpl : (backTo pos (starEach es X.env)).any (·.1) = false := by rfl) : DE X W (.Call (.Name x p) (e :: es) [] pos) (fun s => (ga s).bind fun ds s => lift (g ds) s) := by
  obtain ⟨r, h1, h2⟩ := o
  exact pe_imp (pe_callTy h1 hg hm hv ha hn hdb he hpl) fun σ H Q h => callD_core h2 σ H Q h
theorem cd_len : CallD X (.builtin "len") gLen := by
  refine ⟨_, CallR.or call_len_seq call_len_str, fun W va s σ HP H vs ds d Q rl dv e p => ?_⟩
  unfold gLen at e
  split at e
  · cases e
    cases dv with
    | cons h1 h2 =>
      cases h2
      cases h1 with
      | @lst a ws _ z1 zz z2 => exact .inl ⟨a, ws, rfl, .inl (SqL.of (rl.sub _ _ z1)), by rw [z2.length]; exact fin_int p rl⟩
  · cases e
    cases dv with
    | cons h1 h2 =>
      cases h2
      cases h1 with
      | @tup a ws _ z1 zz z2 => exact .inl ⟨a, ws, rfl, .inr (SqT.of (rl.sub _ _ z1)), by rw [z2.length]; exact fin_int p rl⟩
  · cases e
    rename_i ns
    cases dv with
    | cons h1 h2 =>
      cases h2
      cases h1 with
      | @scr a _ z1 => exact .inl ⟨a, ns.map V.int, rfl, .inl (rl.sub.seq z1), by rw [List.length_map]; exact fin_int p rl⟩
  · split at e <;> cases e
    cases dv with
    | cons h1 h2 =>
      cases h2
      cases h1
      exact .inr ⟨_, rfl, by assumption, fin_int p rl⟩
  · cases e
theorem cr_sumT (hc : X.calm = true) : CallR X (.builtin "sum") (fun vs H Q => ∃ (a : Addr) (ns : List Int), vs = [V.ref a] ∧ SqT X.K H a (ns.map V.int) ∧ Q (.int ns.sum) H) := by
  intro pins s σ H vs us Q I r h
  obtain ⟨a, ns, e0, hs, q⟩ := h
  subst e0
  obtain ⟨its, rv, hl, _⟩ := I.tuple hs
  rw [Vals.ref1 r]
  have hi := rv.ints
  obtain ⟨xs, ex⟩ := hi.allInts.items
  have hn : numsOf (intItems xs).toList = ns := by rw [← ex]; exact hi.numsOf
  rw [nums_intItems] at hn
  rw [ex] at hl
  refine PySem.W.ktm_sumG (I.ok.hd hc) (show s.heap.IsTuple a (intItems xs) from hl) fun h' tk t' hk => ?_
  have hsum : preSum (numAt xs) xs.size = ns.sum := by rw [preSum_eq, List.take_of_length_le (by simp), hn]
  rw [hsum]
  exact ⟨.int ns.sum, H, I.kept hk, ⟨t', rfl⟩, q⟩
theorem cd_sum (hc : X.calm = true) : CallD X (.builtin "sum") gSum := by
  refine ⟨_, CallR.or (cr_sum hc) (cr_sumT hc), fun W va s σ HP H vs ds d Q rl dv e p => ?_⟩
  unfold gSum at e
  split at e
  · rename_i xs
    cases q : intsOf xs with
    | none => rw [q] at e; cases e
    | some ns =>
      rw [q] at e; cases e
      cases dv with
      | cons h1 h2 =>
        cases h2
        cases h1 with
        | @lst a ws _ z1 zz z2 => exact .inl ⟨a, ns, rfl, by rw [← intsOf_vals z2 q]; exact SqL.of (rl.sub _ _ z1), fin_int p rl⟩
  · rename_i xs
    cases q : intsOf xs with
    | none => rw [q] at e; cases e
    | some ns =>
      rw [q] at e; cases e
      cases dv with
      | cons h1 h2 =>
        cases h2
        cases h1 with
        | @tup a ws _ z1 zz z2 => exact .inr ⟨a, ns, rfl, by rw [← intsOf_vals z2 q]; exact SqT.of (rl.sub _ _ z1), fin_int p rl⟩
  · cases e
theorem cd_min (hc : X.calm = true) : CallD X (.builtin "min") gMin := by
  refine ⟨_, CallR.or (cr_min hc) (call_min2 hc), fun W va s σ HP H vs ds d Q rl dv e p => ?_⟩
  unfold gMin at e
  split at e
  · rename_i xs
    cases q : intsOf xs with
    | none => rw [q] at e; cases e
    | some ns =>
      rw [q] at e
      simp only [Option.bind_some] at e
      split at e
      · cases e
      · rename_i hne
        cases e
        cases dv with
        | cons h1 h2 =>
          cases h2
          cases h1 with
          | @lst a ws _ z1 zz z2 =>
            refine .inl ⟨a, ns, rfl, by rw [← intsOf_vals z2 q]; exact SqL.of (rl.sub _ _ z1), List.length_pos_iff.mpr hne, fun m hm hle => ?_⟩
            have : m = minL ns := Int.le_antisymm (hle _ (minL_mem hne)) (minL_le hm)
            rw [this]
            exact fin_int p rl
  · cases e
    cases dv with
    | cons h1 h2 =>
      cases h2 with
      | cons h3 h4 =>
        cases h4; cases h1; cases h3
        rename_i i j
        refine .inr ⟨i, j, rfl, ?_⟩
        have : (if j < i then j else i) = min i j := by rw [Int.min_def]; split <;> split <;> omega
        rw [this]
        exact fin_int p rl
  · cases e
theorem cd_max (hc : X.calm = true) : CallD X (.builtin "max") gMax := by
  refine ⟨_, CallR.or (cr_max hc) (call_max2 hc), fun W va s σ HP H vs ds d Q rl dv e p => ?_⟩
  unfold gMax at e
  split at e
  · rename_i xs
    cases q : intsOf xs with
    | none => rw [q] at e; cases e
    | some ns =>
      rw [q] at e
      simp only [Option.bind_some] at e
      split at e
      · cases e
      · rename_i hne
        cases e
        cases dv with
        | cons h1 h2 =>
          cases h2
          cases h1 with
          | @lst a ws _ z1 zz z2 =>
            refine .inl ⟨a, ns, rfl, by rw [← intsOf_vals z2 q]; exact SqL.of (rl.sub _ _ z1), List.length_pos_iff.mpr hne, fun m hm hle => ?_⟩
            have : m = maxL ns := Int.le_antisymm (le_maxL hm) (hle _ (maxL_mem hne))
            rw [this]
            exact fin_int p rl
  · cases e
    cases dv with
    | cons h1 h2 =>
      cases h2 with
      | cons h3 h4 =>
        cases h4; cases h1; cases h3
        rename_i i j
        refine .inr ⟨i, j, rfl, ?_⟩
        have : (if j > i then j else i) = max i j := by rw [Int.max_def]; split <;> split <;> omega
        rw [this]
        exact fin_int p rl
  · cases e
theorem cd_abs : CallD X (.builtin "abs") gAbs := by
  refine ⟨_, call_abs, fun W va s σ HP H vs ds d Q rl dv e p => ?_⟩
  unfold gAbs at e
  split at e <;> cases e
  cases dv with
  | cons h1 h2 => cases h2; cases h1; exact ⟨_, rfl, fin_int p rl⟩
theorem cd_int : CallD X (.type "int") gInt := by
  refine ⟨_, call_int1, fun W va s σ HP H vs ds d Q rl dv e p => ?_⟩
  unfold gInt at e
  split at e <;> cases e
  · cases dv with
    | cons h1 h2 => cases h2; cases h1; exact .inl ⟨_, rfl, fin_int p rl⟩
  · cases dv with
    | cons h1 h2 => cases h2; cases h1; exact .inr ⟨_, rfl, fin_int p rl⟩
theorem cd_tup : CallD X (.type "tuple") gTup := by
  refine ⟨_, call_tuple_of, fun W va s σ HP H vs ds d Q rl dv e p => ?_⟩
  unfold gTup at e
  split at e <;> cases e
  · cases dv with
    | cons h1 h2 =>
      cases h2
      cases h1 with
      | @lst a ws _ z1 zz z2 => exact ⟨a, ws, rfl, .inl ⟨SqL.of (rl.sub _ _ z1), fun l hl => fin_tup p rl z2 zz l hl⟩⟩
  · cases dv with
    | cons h1 h2 =>
      cases h2
      cases h1 with
      | @tup a ws _ z1 zz z2 => exact ⟨a, ws, rfl, .inr ⟨SqT.of (rl.sub _ _ z1), p.fin rl (.tup z1 zz z2)⟩⟩
theorem cd_lst : CallD X (.type "list") gLst := by
  refine ⟨_, call_list_of, fun W va s σ HP H vs ds d Q rl dv e p => ?_⟩
  unfold gLst at e
  split at e <;> cases e
  · cases dv with
    | cons h1 h2 =>
      cases h2
      cases h1 with
      | @lst a ws _ z1 zz z2 => exact ⟨a, ws, rfl, .inl (SqL.of (rl.sub _ _ z1)), fun l hl => fin_lst p rl z2 zz l hl⟩
  · cases dv with
    | cons h1 h2 =>
      cases h2
      cases h1 with
      | @tup a ws _ z1 zz z2 => exact ⟨a, ws, rfl, .inr (SqT.of (rl.sub _ _ z1)), fun l hl => fin_lst p rl z2 zz l hl⟩
/-! ## isinstance with a built-in class -/
def tyN : D → Option String
  | .non => some "NoneType"
  | .bl _ => some "bool"
  | .int _ => some "int"
  | .str _ => some "str"
  | .lst _ => some "list"
  | .tup _ => some "tuple"
  | _ => none
def isiT (T : String) (d : D) : Option D := (tyN d).bind fun t => (kitB t T).map .bl
theorem tyN_of {HP H : Hp} {v : V} {d : D} {t : String} (sm : Same HP H) (dv : Dv X.K HP v d) (e : tyN d = some t) : TyX X.K H v (.type t) := by
  cases dv <;> simp only [tyN, Option.some.injEq, reduceCtorEq] at e <;> try subst e
  · exact .base .non
  · exact .base (.bl _)
  · exact .base (.int _)
  · exact .base (.str _)
  · rename_i h _ _; exact .base (.lst (sm _ _ h))
  · rename_i h _ _; exact .base (.tup (sm _ _ h))
theorem de_isi (T : String) {y : Str} {py : Pos} (hm : X.mg "isinstance" = none) (hmy : X.mg y = none) (hvy : bootBuiltins y = some (.type T)) (ha : DE X W a fa) (hg : Gl X "isinstance" := by rfl) (hgy : Gl X y := by rfl) (hny : y ≠ "__name__" := by decide) (hdy : (y == ("__debug__" : Str)) = false := by decide)
    (hv : bootBuiltins "isinstance" = some (.builtin "isinstance") := by decide +kernel)
    (he : starEach [a, .Name y py] X.env = (false, eval a X.env) :: starEach [.Name y py] X.env := by rfl) (he2 : starEach [.Name y py] X.env = (false, eval (.Name y py) X.env) :: starEach [] X.env := by rfl)
    (hpl : (backTo pos (starEach [.Name y py] X.env)).any (·.1) = false := by rfl) : DE X W (.Call (.Name "isinstance" p) [a, .Name y py] [] pos) (fun s => (fa s).bind fun d s => lift (isiT T d) s) := by
  refine pe_imp (pe_callB call_isi hg hm hv (pa_cons ha (pa_cons (pe_bltn (v := .ty T) hgy hmy hvy rfl hny hdy) pa_nil he2) he) (by decide) (by decide) he hpl) fun σ H Q h => ?_
  obtain ⟨va, s, HP, rl, h⟩ := h
  refine bindEE rl h fun d s1 v H1 HP1 st1 d1 h1 => ?_
  unfold isiT at h1
  cases q : tyN d with
  | none => rw [q] at h1; exact h1.elim
  | some t =>
    rw [q] at h1
    simp only [Option.bind_some] at h1
    cases q2 : kitB t T with
    | none => rw [q2] at h1; exact h1.elim
    | some r =>
      rw [q2] at h1
      exact ⟨v, .ty T, .type t, .type T, r, rfl, .ty T, tyN_of st1.rel.sub d1 q, kit_ty q2, fin_bl h1 st1.rel⟩
end
end DL

namespace DL
open PySem PySem.Spec PyProof.Rows L2
/-! ## comprehensions -/
theorem wipe_in {σ : St} {i : Nat} : ∀ {vs : List Nat}, i ∈ vs → (wipe σ vs)[i]? = if i < σ.length then some none else none
  | [], h => by cases h
  | v :: vs, h => by
    unfold wipe
    by_cases e : v = i
    · subst e
      rw [List.getElem?_set_self', wipe_length_get]
    · have h2 : i ∈ vs := by
        rcases List.mem_cons.mp h with q | q
        · exact absurd q.symm e
        · exact q
      rw [List.getElem?_set_ne e]
      exact wipe_in h2
where
  wipe_length_get {σ : St} {vs : List Nat} {v : Nat} : (Function.const (Option V) (none : Option V) <$> (wipe σ vs)[v]?) = if v < σ.length then some none else none := by
    by_cases h : v < σ.length
    · rw [List.getElem?_eq_getElem (by rw [wipe_length]; exact h), if_pos h]; rfl
    · rw [List.getElem?_eq_none_iff.mpr (by rw [wipe_length]; omega), if_neg h]; rfl
theorem wipe_set {σ : St} {i : Nat} {x : Option V} {vs : List Nat} (h : i ∈ vs) : wipe (σ.set i x) vs = wipe σ vs := by
  refine List.ext_getElem? fun j => ?_
  by_cases hj : j ∈ vs
  · rw [wipe_in hj, wipe_in hj, List.length_set]
  · have hne : i ≠ j := fun e => hj (e ▸ h)
    rw [wipe_out hj, wipe_out hj, List.getElem?_set_ne hne]
theorem wipe_wipe {σ : St} {vs : List Nat} : wipe (wipe σ vs) vs = wipe σ vs := by
  refine List.ext_getElem? fun j => ?_
  by_cases hj : j ∈ vs
  · rw [wipe_in hj, wipe_in hj, wipe_length]
  · rw [wipe_out hj]
theorem wipe_same {σ σ' : St} {vs : List Nat} (h : wipe σ vs = wipe σ' vs) {j : Nat} (hj : j ∉ vs) : σ[j]? = σ'[j]? := by
  rw [← wipe_out (σ := σ) hj, h, wipe_out hj]
theorem wipe_len {σ σ' : St} {vs : List Nat} (h : wipe σ vs = wipe σ' vs) : σ.length = σ'.length := by
  have := congrArg List.length h
  rwa [wipe_length, wipe_length] at this
def wipeL (l : List (Option Sl)) : List Nat → List (Option Sl)
  | [] => l
  | v :: vs => (wipeL l vs).set v none
def S.wipe (vs : List Nat) (s : S) : S := ⟨wipeL s.sl vs, s.via⟩
theorem wipeL_length (l : List (Option Sl)) : ∀ vs : List Nat, (wipeL l vs).length = l.length
  | [] => rfl
  | v :: vs => by unfold wipeL; rw [List.length_set, wipeL_length l vs]
theorem wipeL_some {l : List (Option Sl)} {i : Nat} {x : Sl} : ∀ {vs : List Nat}, (wipeL l vs)[i]? = some (some x) → l[i]? = some (some x) ∧ i ∉ vs
  | [], h => ⟨h, by simp⟩
  | v :: vs, h => by
    unfold wipeL at h
    by_cases e : v = i
    · subst e
      rw [List.getElem?_set_self'] at h
      cases q : (wipeL l vs)[v]? <;> rw [q] at h <;> simp at h
    · rw [List.getElem?_set_ne e] at h
      obtain ⟨h1, h2⟩ := wipeL_some h
      exact ⟨h1, fun m => by
        rcases List.mem_cons.mp m with q | q
        · exact e q.symm
        · exact h2 q⟩
section
variable {K : PySem.W.Frag} {va : VA} {s s' : S} {σ σ' : St} {HP H HP' H' : Hp} {vs : List Nat}
/-- the slots vs are empty -/
def Clean (vs : List Nat) (s : S) : Prop := ∀ (i : Nat) x, s.sl[i]? = some (some x) → i ∉ vs
theorem clean_wipe : Clean vs (s.wipe vs) := fun _ _ q => (wipeL_some q).2
/-- other slots may hold anything where the state tells nothing -/
theorem Rel.to (r : Rel K va s σ HP H) (c : Clean vs s) (e : wipe σ vs = wipe σ' vs) : Rel K va s σ' HP H := by
  have w : ∀ (i : Nat) x, s.sl[i]? = some (some x) → σ[i]? = σ'[i]? := fun i x q => wipe_same e (c i x q)
  refine ⟨r.len.trans (wipe_len e), r.sub, fun i d q => ?_, fun i xs q => ?_, fun i q => ?_, r.vst, fun i j xs ys a n q1 q2 q3 => ?_, fun i xs q n => ?_, r.tab⟩
  · rw [← w i _ q]; exact r.val i d q
  · rw [← w i _ q]; exact r.own i xs q
  · rw [← w i _ q]; exact r.vis i q
  · rw [← w i _ q1] at q3; rw [← w j _ q2]; exact r.dis i j xs ys a n q1 q2 q3
  · rw [← w i _ q]; exact r.dvi i xs q n
theorem owns_to (c : Clean vs s) (e : wipe σ vs = wipe σ' vs) {b : Addr} (o : Owns va s σ b) : Owns va s σ' b := by
  rcases o with ⟨i, xs, q1, q2⟩ | o
  · exact .inl ⟨i, xs, q1, by rw [← wipe_same e (c i _ q1)]; exact q2⟩
  · exact .inr o
theorem Rel.wiped (r : Rel K va s σ HP H) : Rel K va (s.wipe vs) σ HP H := by
  refine ⟨(wipeL_length _ _).trans r.len, r.sub, fun i d q => r.val i d (wipeL_some q).1, fun i xs q => r.own i xs (wipeL_some q).1, fun i q => r.vis i (wipeL_some q).1, r.vst, fun i j xs ys a n q1 q2 => r.dis i j xs ys a n (wipeL_some q1).1 (wipeL_some q2).1, fun i xs q => r.dvi i xs (wipeL_some q).1, r.tab⟩
theorem owns_wiped {b : Addr} (o : Owns va (s.wipe vs) σ b) : Owns va s σ b := by
  rcases o with ⟨i, xs, q1, q2⟩ | o
  · exact .inl ⟨i, xs, (wipeL_some q1).1, q2⟩
  · exact .inr o
theorem Rel.wst (r : Rel K va s σ HP H) : Stp K va s σ HP H (s.wipe vs) σ HP H := ⟨r.wiped, Same.refl _, fun b o h _ n => ⟨h, fun z => n (owns_wiped z), fun z => z⟩, Iff.rfl⟩
/-- a turn within the block, seen from without -/
theorem Stp.out {σ2 : St} (a : Stp K va s (L2.wipe σ vs) HP H s' σ2 HP' H') (c : Clean vs s) (e : L2.wipe σ2 vs = L2.wipe σ vs) : Stp K va s σ HP H (s'.wipe vs) σ HP' H' := by
  have e2 : L2.wipe (L2.wipe σ vs) vs = L2.wipe σ vs := wipe_wipe
  refine ⟨a.rel.wiped.to clean_wipe e, a.same, fun b o h nt n => ?_, a.via⟩
  obtain ⟨h1, h2, h3⟩ := a.keep b o h nt fun z => n (owns_to c e2 z)
  exact ⟨h1, fun z => h2 (owns_wiped (owns_to clean_wipe e.symm z)), h3⟩
/-- the heap without the list that is being made -/
def del (H : Hp) (a : Addr) : Hp := fun b => if b = a then none else H b
theorem del_ne {a b : Addr} (h : b ≠ a) : del H a b = H b := by unfold del; rw [if_neg h]
theorem del_same {a : Addr} : del H a a = none := by unfold del; rw [if_pos rfl]
theorem del_some {a b : Addr} {o : HO} (h : del H a b = some o) : b ≠ a ∧ H b = some o := by
  by_cases e : b = a
  · subst e; rw [del_same] at h; cases h
  · rw [del_ne e] at h; exact ⟨e, h⟩
theorem del_upd {a : Addr} {o : HO} (h : H a = none) : del (upd H a o) a = H := by
  funext b
  by_cases e : b = a
  · subst e; rw [del_same, h]
  · rw [del_ne e, upd_ne e]
theorem upd_del {a : Addr} {o : HO} (h : H a = some o) : upd (del H a) a o = H := by
  funext b
  by_cases e : b = a
  · subst e; rw [upd_same, h]
  · rw [upd_ne e, del_ne e]
theorem del_upd' {a : Addr} {o : HO} : del (upd H a o) a = del H a := by
  funext b
  by_cases e : b = a
  · subst e; rw [del_same, del_same]
  · rw [del_ne e, del_ne e, upd_ne e]
theorem Rel.more {a : Addr} (r : Rel K va s σ HP (del H a)) : Rel K va s σ HP H :=
  ⟨r.len, fun b o q => (del_some (r.sub b o q)).2, r.val, fun i xs q => by
    obtain ⟨b, vs, h1, h2, h3, h4⟩ := r.own i xs q
    exact ⟨b, vs, h1, h2, (del_some h3).2, h4⟩, r.vis, fun xs q => by
    obtain ⟨h1, vs, h2, h3⟩ := r.vst xs q
    exact ⟨h1, vs, (del_some h2).2, h3⟩, r.dis, r.dvi, ⟨r.tab.t.ext fun b o q => (del_some q).2, r.tab.n⟩⟩
theorem Rel.nown {a : Addr} (r : Rel K va s σ HP (del H a)) : ¬ Owns va s σ a := fun z => by
  rcases z with ⟨i, xs, q1, q2⟩ | ⟨n, e⟩
  · obtain ⟨b, vs, h1, h2, h3, h4⟩ := r.own i xs q1
    rw [q2] at h1
    injection h1 with h1; injection h1 with h1; injection h1 with h1
    exact (del_some h3).1 h1.symm
  · cases hv : s.via with
    | none => exact n hv
    | some xs =>
      obtain ⟨h1, vs, h2, h3⟩ := r.vst xs hv
      exact (del_some h2).1 e.symm
theorem tab_del {T : List (Addr × Str)} {a : Addr} {vs : List V} (t : LamX.Tabs T H) (h : H a = some (.lst vs)) : LamX.Tabs T (del H a) := fun p hp => by
  obtain ⟨ps, h1, h2, h3⟩ := t p hp
  have n1 : p.1 ≠ a := fun z => by rw [z, h] at h1; cases h1
  refine ⟨ps, by rw [del_ne n1]; exact h1, h2, fun pos cv hc => ?_⟩
  obtain ⟨c, e1, e2⟩ := h3 pos cv hc
  have n2 : c ≠ a := fun z => by
    rw [z, h] at e2
    unfold LamX.CodeO at e2
    cases e2
  exact ⟨c, e1, by rw [del_ne n2]; exact e2⟩
theorem Rel.less {a : Addr} {us : List V} (r : Rel K va s σ HP H) (n : ¬ Owns va s σ a) (nP : HP a = none) (hA : H a = some (.lst us)) : Rel K va s σ HP (del H a) :=
  ⟨r.len, fun b o q => by rw [del_ne (ne_of_none q nP)]; exact r.sub b o q, r.val, fun i xs q => by
    obtain ⟨b, vs, h1, h2, h3, h4⟩ := r.own i xs q
    have ne : b ≠ a := fun z => n (.inl ⟨i, xs, q, by rw [← z]; exact h1⟩)
    exact ⟨b, vs, h1, h2, by rw [del_ne ne]; exact h3, h4⟩, r.vis, fun xs q => by
    obtain ⟨h1, vs, h2, h3⟩ := r.vst xs q
    have ne : va.a ≠ a := fun z => n (.inr ⟨by rw [q]; simp, z.symm⟩)
    exact ⟨h1, vs, by rw [del_ne ne]; exact h2, h3⟩, r.dis, r.dvi, ⟨tab_del r.tab.t hA, r.tab.n⟩⟩
theorem Stp.del {a : Addr} {us : List V} (t : Stp K va s σ HP H s' σ' HP' H') (n : ¬ Owns va s σ a) (nP : HP a = none) (ha : H a = some (.lst us)) :
    H' a = some (.lst us) ∧ HP' a = none ∧ Stp K va s σ HP (del H a) s' σ' HP' (del H' a) := by
  obtain ⟨h1, h2, h3⟩ := t.keep a _ ha nL n
  refine ⟨h1, h3 nP, t.rel.less h2 (h3 nP) h1, t.same, fun b x q nt nb => ?_, t.via⟩
  obtain ⟨ne, q'⟩ := del_some q
  obtain ⟨y1, y2, y3⟩ := t.keep b x q' nt nb
  exact ⟨by rw [del_ne ne]; exact y1, y2, y3⟩
end
/-! targets within a block -/
section
variable {X : Cx} {W : WX} {a b c e : Expr} {es : List Expr} {pos : Pos} {vs : List Nat}
def tDGw (X : Cx) (vs : List Nat) (g : D → S → Option S) : TG := fun v σ H Q => ∃ va s HP d s', Rel X.K va s σ HP H ∧ Dv X.K HP v d ∧ g d s = some s' ∧ ∀ σ', Stp X.K va s σ HP H s' σ' HP H → wipe σ' vs = wipe σ vs → Q σ' H
def DGw (X : Cx) (vs : List Nat) (tg : Expr) (g : D → S → Option S) : Prop := PG X tg (tDGw X vs g)
def tDGsw (X : Cx) (vs : List Nat) (g : List D → S → Option S) : TGs := fun us σ H Q => ∃ va s HP ds s', Rel X.K va s σ HP H ∧ DvA X.K HP us ds ∧ g ds s = some s' ∧ ∀ σ', Stp X.K va s σ HP H s' σ' HP H → wipe σ' vs = wipe σ vs → Q σ' H
def DGsw (X : Cx) (vs : List Nat) (ts : List Expr) (g : List D → S → Option S) : Prop := PGs X ts (tDGsw X vs g)
theorem dgw_v (i : Nat) {x : Str} (hN : X.N.Nodup) (hi : X.N[i]? = some x := by rfl) (hx : Loc X.env.scope x := by first | exact Or.inl rfl | exact Or.inr rfl)
    (hf : X.fn x = true ∨ X.env.scope.names.lookup x = some .local := by first | exact .inl rfl | exact .inr rfl | assumption) (hv : i ∈ vs := by decide) : DGw X vs (.Name x pos) (fun d s => some (s.put i (.val d))) := by
  refine pg_imp (pg_name hN hi hx hf) fun v σ H Q ⟨va, s, HP, d, s', rl, dv, e, k⟩ => ?_
  cases e
  exact k _ (rl.put i dv) (wipe_set hv)
theorem dgsw_nil : DGsw X vs [] (fun ds s => match ds with | [] => some s | _ => none) := by
  refine pgs_imp pgs_nil fun v σ H Q ⟨va, s, HP, d, s', rl, dv, e, k⟩ => ?_
  cases d with
  | nil => cases dv; cases e; exact ⟨rfl, k σ (Stp.refl rl) rfl⟩
  | cons _ _ => cases e
theorem dgsw_cons {g : D → S → Option S} {gs : List D → S → Option S} (h1 : DGw X vs e g) (h2 : DGsw X vs es gs) (hs : (assignEach (e :: es) X.env).map (·.2) = assign e X.env :: (assignEach es X.env).map (·.2) := by rfl) :
    DGsw X vs (e :: es) (fun ds s => match ds with | d :: r => (g d s).bind (gs r) | _ => none) := by
  refine pgs_imp (pgs_cons h1 h2 hs) fun v σ H Q ⟨va, s, HP, ds, s', rl, dv, eq, k⟩ => ?_
  cases ds with
  | nil => cases eq
  | cons d r =>
    cases dv with
    | @cons v us _ _ h1 h2 =>
      refine ⟨v, us, rfl, ?_⟩
      have eq' : (g d s).bind (gs r) = some s' := eq
      cases q : g d s with
      | none => rw [q] at eq'; cases eq'
      | some s1 =>
        rw [q] at eq'
        exact ⟨va, s, HP, d, s1, rl, h1, q, fun σ1 st1 w1 => ⟨va, s1, HP, r, s', st1.rel, h2, eq', fun σ2 st2 w2 => k σ2 (st1.trans st2) (w2.trans w1)⟩⟩
theorem dgw_tup {k n : Nat} {gs : List D → S → Option S} (hc : X.calm = true) (h : DGsw X vs es gs) (hn : (assignEach es X.env).length = n := by rfl) (hst : (assignEach es X.env).findIdx? (·.1) = none := by rfl) : DGw X vs (.Tuple es k pos) (unT n gs) := by
  refine pg_imp (pg_tup hc h hn hst) fun v σ H Q ⟨va, s, HP, d, s', rl, dv, eq, k⟩ => ?_
  unfold unT at eq
  split at eq
  · split at eq
    · cases dv with
      | @tup a us ds h1 hz h2 => exact ⟨a, us, rfl, SqT.of (rl.sub _ _ h1), by rw [h2.length]; assumption, va, s, HP, _, s', rl, h2, eq, k⟩
    · cases eq
  · cases eq
end
def compL (vs : List Nat) (g : D → S → Option S) (t : S → R Bool) (f : S → R D) : List D → List D → S → R (List D)
  | [], acc, s => .ok acc s
  | d :: ds, acc, s => match g d s with
    | none => .stuck
    | some s1 => match t s1 with
      | .ok k s2 => if k = true then (match f s2 with
        | .ok y s3 => compL vs g t f ds (acc ++ [y]) (s3.wipe vs)
        | _ => .stuck) else compL vs g t f ds acc (s2.wipe vs)
      | _ => .stuck
def WF : WX := fun _ _ _ _ => False
theorem wf_takes {X : Cx} : Takes X WF := fun _ _ x => by
  obtain ⟨_, _, _, _, _, _, _, _, _, _, _, _, _, _, _, _, z⟩ := x
  exact z.elim
def DTs (X : Cx) (W : WX) (ifs : List Expr) (f : S → R Bool) : Prop := PTs X ifs (tDT X W f)
section
variable {X : Cx} {W : WX} {a b c e elt tg iter : Expr} {ifs : List Expr} {pos : Pos} {fi : S → R (List D)} {g : D → S → Option S} {t : S → R Bool} {f : S → R D} {scope : Scope} {own : List (Str × Nat)}
theorem dts_nil : DTs X W [] (fun s => .ok true s) := ⟨fun pins s σ H Q I h => by
  obtain ⟨va, st, HP, rl, h⟩ := h
  exact pts_nil.run pins s σ H Q I (h.fin rl)⟩
theorem dts_one (h : DT X W c t) : DTs X W [c] t := pts_one h
/-- the reading of a comprehension -/
theorem lc_read {vs : List Nat} {XB : Cx} (hK : XB.K = X.K) (hM : XB.mg = X.mg) {σ : St} {H : Hp} {Q : VK} (h : tDE X W (fun s => (fi s).bind fun ds s => (compL vs g t f ds [] (s.wipe vs)).bind fun ys s => .ok (.lst ys) s) σ H Q) :
    tLc (tDI X W fi) (tDGw XB vs g) (tDT XB WF t) (tDE XB WF f) vs σ H Q := by
  obtain ⟨va, s, HP, rl, h⟩ := h
  dsimp only at h
  refine ⟨va, s, HP, rl, ?_⟩
  cases ei : fi s with
  | stuck => rw [ei] at h; exact h
  | exc n p s' => rw [ei] at h; exact h
  | ok ds s1 =>
    rw [ei] at h
    intro J H1 HP1 st1 hz hw D0 nD
    have h1 : PoE X W va (s1.wipe vs) σ HP1 H1 ((compL vs g t f ds [] (s1.wipe vs)).bind fun ys s => .ok (.lst ys) s) Q := PoE.from (st1.trans st1.rel.wst) h
    refine ⟨fun i m H => ∃ s HP acc ys, m = ds.length - i ∧ i ≤ ds.length ∧ H D0 = some (.lst acc) ∧ ys.length ≤ i ∧ HP D0 = none ∧ Rel X.K va s σ HP (del H D0) ∧ Same HP1 HP ∧ Clean vs s ∧ DvA X.K HP acc ys ∧
      PoE X W va s σ HP (del H D0) ((compL vs g t f (ds.drop i) ys s).bind fun ys s => .ok (.lst ys) s) Q,
      ⟨ds.length, s1.wipe vs, HP1, [], [], by simp, Nat.zero_le _, upd_same, Nat.le_refl _, st1.rel.sub.free nD, by rw [del_upd nD]; exact st1.rel.wiped, Same.refl _, clean_wipe, .nil, by rw [del_upd nD]; exact h1⟩, ?_⟩
    rintro i m H2 ⟨s2, HP2, acc, ys, rfl, hle, hD, hy, nP, r2, sm, cl, dv, p2⟩
    have r2' := r2.more
    have no := r2.nown
    obtain ⟨w1, w2⟩ := hw i HP2 H2 sm r2'.sub
    by_cases hlt : i < ds.length
    · have hd : ds[i]? = some ds[i] := List.getElem?_eq_getElem hlt
      obtain ⟨hgo, hyl⟩ := w1 _ hd
      rw [List.drop_eq_getElem_cons hlt] at p2
      unfold compL at p2
      refine .inr ⟨hgo, fun H' => ∃ s HP acc ys, H' D0 = some (.lst acc) ∧ ys.length ≤ i + 1 ∧ HP D0 = none ∧ Rel X.K va s σ HP (del H' D0) ∧ Same HP1 HP ∧ Clean vs s ∧ DvA X.K HP acc ys ∧
        PoE X W va s σ HP (del H' D0) ((compL vs g t f (ds.drop (i + 1)) ys s).bind fun ys s => .ok (.lst ys) s) Q,
        fun H' ⟨s', HP', acc', ys', q⟩ => ⟨ds.length - (i + 1), by omega, s', HP', acc', ys', rfl, hlt, q⟩, fun x H' y => ?_⟩
      obtain ⟨HP', dx, stp⟩ := hyl x H' y
      have rw' : Rel X.K va s2 (wipe σ vs) HP2 H2 := r2'.to cl wipe_wipe.symm
      have st3 := stp va s2 (wipe σ vs) rw'
      cases eg : g ds[i] s2 with
      | none => rw [eg] at p2; exact p2.elim
      | some s4 =>
        rw [eg] at p2
        dsimp only at p2
        refine ⟨va, s2, HP', _, s4, by rw [hK]; exact st3.rel, by rw [hK]; exact dx, eg, fun σ4 st4 hw4 => ⟨hw4.trans wipe_wipe, ?_⟩⟩
        rw [hK] at st4
        have e4 : wipe σ4 vs = wipe σ vs := hw4.trans wipe_wipe
        have st34 := st3.trans st4
        refine ⟨va, s4, HP', by rw [hK]; exact st4.rel, ?_⟩
        cases et : t s4 with
        | stuck => rw [et] at p2; exact p2
        | exc n p s' => rw [et] at p2; exact p2.elim
        | ok k s5 =>
          rw [et] at p2
          dsimp only at p2
          intro H5 HP5 st5
          rw [hK] at st5
          have st35 := st34.trans st5
          cases k with
          | false =>
            rw [if_neg Bool.false_ne_true] at p2 ⊢
            have so := st35.out cl e4
            obtain ⟨y1, y2, y3⟩ := so.del no nP hD
            exact ⟨s5.wipe vs, HP5, acc, ys, y1, by omega, y2, y3.rel, sm.trans so.same, clean_wipe, DvA.mono so.same ys acc dv, PoE.from y3 p2⟩
          | true =>
            rw [if_pos rfl] at p2 ⊢
            refine ⟨va, s5, HP5, by rw [hK]; exact st5.rel, ?_⟩
            cases ef : f s5 with
            | stuck => rw [ef] at p2; exact p2
            | exc n p s' => rw [ef] at p2; exact p2.elim
            | ok d s6 =>
              rw [ef] at p2
              dsimp only at p2
              intro v6 H6 HP6 st6 dv6
              rw [hK] at st6 dv6
              have so := (st35.trans st6).out cl e4
              obtain ⟨y1, y2, y3⟩ := so.del no nP hD
              have dacc := DvA.mono so.same ys acc dv
              refine ⟨acc, y1, by rw [dacc.length]; omega, s6.wipe vs, HP6, acc ++ [v6], ys ++ [d], upd_same, by rw [List.length_append, List.length_singleton]; omega, y2, by rw [del_upd']; exact y3.rel, sm.trans so.same, clean_wipe, dacc.append (.cons dv6 .nil), by rw [del_upd']; exact PoE.from y3 p2⟩
    · have e : ds.drop i = [] := List.drop_eq_nil_of_le (by omega)
      rw [e] at p2
      refine .inl ⟨w2 (by omega), ?_⟩
      have q := fin_lst (p2 : PoE X W va s2 σ HP2 (del H2 D0) (.ok (.lst ys) s2) Q) r2 dv (by omega) D0 del_same
      rw [upd_del hD] at q
      exact q
theorem de_lc (vs : List Nat) (hc : X.calm = true) (hN : X.N.Nodup) (hi : DI X W tg iter fi) (ok : BlkOk X.N X.env.scope scope own)
    (hg : ∀ (s : Shared) (H : Hp) (C : Addr) (cl : List (Str × Addr)) (fp : List Addr), DGw (X.blk s H scope (compEnvC scope cl C X.env) fp) vs tg g) (ht : ∀ (s : Shared) (H : Hp) (C : Addr) (cl : List (Str × Addr)) (fp : List Addr), DTs (X.blk s H scope (compEnvC scope cl C X.env) fp) WF ifs t)
    (he : ∀ (s : Shared) (H : Hp) (C : Addr) (cl : List (Str × Addr)) (fp : List Addr), DE (X.blk s H scope (compEnvC scope cl C X.env) fp) WF elt f) (hs : ∀ x, foldedSetIterable iter X.env x = pure x := by intro _; rfl) (hv : own.map (·.2) = vs := by rfl) :
    DE X W (.ListComp elt [⟨tg, iter, ifs, 0⟩] scope pos) (fun s => (fi s).bind fun ds s => (compL vs g t f ds [] (s.wipe vs)).bind fun ys s => .ok (.lst ys) s) := by
  subst hv
  exact pe_imp (pe_lc (g := tDGw X (own.map fun q : Str × Nat => q.2) g) (tt := tDT X WF t) (te := tDE X WF f) hc hN hi ok hg ht he hs) fun σ H Q h => lc_read (XB := X) rfl rfl h
/-- y = [..] -/
theorem ds_setlc (vs : List Nat) (i : Nat) {y : Str} {py spos : Pos} (hc : X.calm = true) (hN : X.N.Nodup) (hi : DI X W tg iter fi) (ok : BlkOk X.N X.env.scope scope own)
    (hg : ∀ (s : Shared) (H : Hp) (C : Addr) (cl : List (Str × Addr)) (fp : List Addr), DGw (X.blk s H scope (compEnvC scope cl C X.env) fp) vs tg g) (ht : ∀ (s : Shared) (H : Hp) (C : Addr) (cl : List (Str × Addr)) (fp : List Addr), DTs (X.blk s H scope (compEnvC scope cl C X.env) fp) WF ifs t)
    (he : ∀ (s : Shared) (H : Hp) (C : Addr) (cl : List (Str × Addr)) (fp : List Addr), DE (X.blk s H scope (compEnvC scope cl C X.env) fp) WF elt f)
    (hsw : swapsWith (.ListComp elt [⟨tg, iter, ifs, 0⟩] scope pos) (some (.Name y py)) spos.line X.env = pure true) (hy : X.N[i]? = some y := by rfl) (hyl : X.env.scope.names.lookup y = some .local := by rfl)
    (hs : ∀ x, foldedSetIterable iter X.env x = pure x := by intro _; rfl) (hv : own.map (·.2) = vs := by rfl) :
    DS X W (.Assign [.Name y py] (.ListComp elt [⟨tg, iter, ifs, 0⟩] scope pos) spos) (fun s => ((fi s).bind fun ds s => (compL vs g t f ds [] (s.wipe vs)).bind fun ys s => .ok (.lst ys) s).thn fun d s => .next (s.put i (.val d))) := by
  subst hv
  refine ps_imp (ps_setLc (g := tDGw X (own.map fun q : Str × Nat => q.2) g) (tt := tDT X WF t) (te := tDE X WF f) hc hN hy hyl hsw hi ok hg ht he hs) fun D σ H h => ?_
  obtain ⟨va, s, HP, rl, h⟩ := h
  exact lc_read (X := X) (XB := X) rfl rfl (bindES rl h fun d s1 v H1 HP1 st1 d1 h1 => h1 _ H1 HP1 (st1.rel.put i d1))
end
end DL

namespace DL
open PySem PySem.Spec PyProof.Rows L2
/-! ## what stands behind the top -/
/-- the def x of the text keeps m -/
def Has (P : Program) (w : World) (K : PySem.W.Frag) (mg : Str → Option Value) (base : Heap) (k : Nat) (x : Str) (ps : List Str) (m : FM) : Prop :=
  ∃ f fd, FnD P w K mg base k f fd ps m ∧ mg x = some (.ref f) ∧ PySem.W.keepIn K (.ref f) = true ∧ Binds K fd ps []
theorem Has.re {P : Program} {w : World} {K : PySem.W.Frag} {mg : Str → Option Value} {base : Heap} {k : Nat} {x : Str} {ps : List Str} {m m' : FM} (G : Has P w K mg base k x ps m) (h : ∀ ds v, m' ds v ≠ .stuck → m ds v = m' ds v) : Has P w K mg base k x ps m' := by
  obtain ⟨f, fd, g, r⟩ := G
  exact ⟨f, fd, g.re h, r⟩
theorem Has.frz {P : Program} {w : World} {K : PySem.W.Frag} {mg : Str → Option Value} {base : Heap} {k : Nat} {x : Str} {ps : List Str} {m : FM} (G : Has P w K mg base k x ps m) : Has P w K mg base k x ps (fun ds v => (m ds v).frz) := by
  obtain ⟨f, fd, g, r⟩ := G
  exact ⟨f, fd, g.frz, r⟩
theorem Has.up {P : Program} {w : World} {K : PySem.W.Frag} {mg : Str → Option Value} {base : Heap} {k j : Nat} {x : Str} {ps : List Str} {m : FM} (G : Has P w K mg base k x ps m) (h : k ≤ j) : Has P w K mg base j x ps m := by
  obtain ⟨f, fd, g, r⟩ := G
  exact ⟨f, fd, g.mono h, r⟩
/-- how the def x stands there -/
structure Stand (K : PySem.W.Frag) (mg : Str → Option Value) (x : Str) (st : Stmt) (ps : List Str) (f : Addr) (fd : FuncData) : Prop where
  F : Fun K x x st f fd
  g : mg x = some (.ref f)
  b : Binds K fd ps []
def There (K : PySem.W.Frag) (mg : Str → Option Value) (x : Str) (st : Stmt) (ps : List Str) : Prop := ∃ f fd, Stand K mg x st ps f fd
section
variable {P : Program} {w : World} {K : PySem.W.Frag} {mg : Str → Option Value} {base : Heap}
theorem tkX {N : List Str} {q : Str} {sc : Scope} {f : Addr} {cdv : Value} {A : Around} {outer : List Env} {s : Shared} {H : Hp} {E : XK} : Takes (cxOf (L2.CX P w) P w K mg base N q sc f cdv A outer s H E) (fun cls d _ H => E cls d H) := takes_of rfl rfl rfl rfl
theorem hpX {N : List Str} {q : Str} {sc : Scope} {f : Addr} {cdv : Value} {A : Around} {outer : List Env} {s : Shared} {H : Hp} {E : XK} : PassesOwn (model (cxOf (L2.CX P w) P w K mg base N q sc f cdv A outer s H E).prog (cxOf (L2.CX P w) P w K mg base N q sc f cdv A outer s H E).w) (cxOf (L2.CX P w) P w K mg base N q sc f cdv A outer s H E).A (cxOf (L2.CX P w) P w K mg base N q sc f cdv A outer s H E).env (cxOf (L2.CX P w) P w K mg base N q sc f cdv A outer s H E).xe := passes_of rfl
theorem has_of {x : Str} {st : Stmt} {N ps : List Str} {k : Nat} {m : FM} (T : There K mg x st ps) (Sc : FnScope N ps (defScope st))
    (body : ∀ (f : Addr) (cdv : Value) (A : Around) (outer : List Env) (s : Shared) (H : Hp) (E : XK), Room k (A.deeper (envOfC x (defScope st) s.heap.objs.size f cdv)) → Takes (cxOf (L2.CX P w) P w K mg base N x (defScope st) f cdv A outer s H E) (fun cls d _ H => E cls d H) → PassesOwn (model (cxOf (L2.CX P w) P w K mg base N x (defScope st) f cdv A outer s H E).prog (cxOf (L2.CX P w) P w K mg base N x (defScope st) f cdv A outer s H E).w) (cxOf (L2.CX P w) P w K mg base N x (defScope st) f cdv A outer s H E).A (cxOf (L2.CX P w) P w K mg base N x (defScope st) f cdv A outer s H E).env (cxOf (L2.CX P w) P w K mg base N x (defScope st) f cdv A outer s H E).xe →
      ∃ f', DSs (cxOf (L2.CX P w) P w K mg base N x (defScope st) f cdv A outer s H E) (fun cls d _ H => E cls d H) (defBody st) f' ∧ ∀ ds v, m ds v ≠ .stuck → (f' (stD N ds v)).fin = m ds v) :
    Has P w K mg base (k + 1) x ps m := by
  obtain ⟨f, fd, S⟩ := T
  exact ⟨f, fd, fn_d S.F Sc fun cdv A outer s H E hr => body f cdv A outer s H E hr tkX hpX, S.g, S.F.kp, S.b⟩
/-- what its body is worth, as the rules tell it -/
theorem has_any {x : Str} {st : Stmt} {N ps : List Str} {k : Nat} {f' : S → T} (T : There K mg x st ps) (Sc : FnScope N ps (defScope st))
    (body : ∀ (f : Addr) (cdv : Value) (A : Around) (outer : List Env) (s : Shared) (H : Hp) (E : XK), Room k (A.deeper (envOfC x (defScope st) s.heap.objs.size f cdv)) → Takes (cxOf (L2.CX P w) P w K mg base N x (defScope st) f cdv A outer s H E) (fun cls d _ H => E cls d H) → PassesOwn (model (cxOf (L2.CX P w) P w K mg base N x (defScope st) f cdv A outer s H E).prog (cxOf (L2.CX P w) P w K mg base N x (defScope st) f cdv A outer s H E).w) (cxOf (L2.CX P w) P w K mg base N x (defScope st) f cdv A outer s H E).A (cxOf (L2.CX P w) P w K mg base N x (defScope st) f cdv A outer s H E).env (cxOf (L2.CX P w) P w K mg base N x (defScope st) f cdv A outer s H E).xe →
      DSs (cxOf (L2.CX P w) P w K mg base N x (defScope st) f cdv A outer s H E) (fun cls d _ H => E cls d H) (defBody st) f') :
    Has P w K mg base (k + 1) x ps (fun ds v => (f' (stD N ds v)).fin) :=
  has_of T Sc fun f cdv A outer s H E hr tk hp => ⟨f', body f cdv A outer s H E hr tk hp, fun ds v _ => rfl⟩
end
section
variable {X : Cx} {W : WX} {a b c e : Expr} {es : List Expr} {fa fb fc : S → R D} {ga : S → R (List D)} {pos p : Pos} {k n : Nat} {ps : List Str} {m : FM} {x : Str} {st : Stmt}
theorem dc (G : Has X.prog X.w X.K X.mg X.base k x ps m) (tk : Takes X W) (hr : Room k X.A) (ha : DA X W (e :: es) ga)
    (hg : Gl X x := by rfl) (hdb : (x == ("__debug__" : Str)) = false := by decide) (he : starEach (e :: es) X.env = (false, eval e X.env) :: starEach es X.env := by rfl) (hpl : (backTo pos (starEach es X.env)).any (·.1) = false := by rfl) :
    DE X W (.Call (.Name x p) (e :: es) [] pos) (fun s => (ga s).bind fun ds s => callP m ps.length ds s) := by
  obtain ⟨f, fd, F, hm, hk, hb⟩ := G
  exact de_call F hr tk hm hk hb ha hg hdb he hpl
theorem dcv (i : Nat) {y : Str} {py : Pos} (G : Has X.prog X.w X.K X.mg X.base k x ps m) (tk : Takes X W) (hr : Room k X.A) (ha : DA X W es ga)
    (hN : X.N[i]? = some y := by rfl) (hv : Vis X.env.scope y := by first | exact Or.inl rfl | exact Or.inr (Or.inl rfl) | exact Or.inr (Or.inr rfl)) (hd : (y == ("__debug__" : Str)) = false := by decide) (hcd : (y == ("__classdict__" : Str)) = false := by decide)
    (hg : Gl X x := by rfl) (hdb : (x == ("__debug__" : Str)) = false := by decide) (he : starEach (.Name y py :: es) X.env = (false, eval (.Name y py) X.env) :: starEach es X.env := by rfl) (hpl : (backTo pos (starEach es X.env)).any (·.1) = false := by rfl) :
    DE X W (.Call (.Name x p) (.Name y py :: es) [] pos) (fun s => if (refS i s).isSome = true then (ga s).bind fun ds s => callV i m ps.length ds s else .stuck) := by
  obtain ⟨f, fd, F, hm, hk, hb⟩ := G
  exact de_callv i F hr tk hm hk hb ha hN hv hd hcd hg hdb he hpl
theorem dcO (i : Nat) {y : Str} {py pos' : Pos} (G : Has X.prog X.w X.K X.mg X.base k x ps m) (tk : Takes X W) (hr : Room k X.A) (hN : X.N.Nodup) (ha : DA X W (e :: es) ga)
    (hi : X.N[i]? = some y := by rfl) (hx : Loc X.env.scope y := by first | exact Or.inl rfl | exact Or.inr rfl) (hs : swapsWith (.Call (.Name x p) (e :: es) [] pos) (some (.Name y py)) pos'.line X.env = pure false := by rfl)
    (hf : X.fn y = true ∨ X.env.scope.names.lookup y = some .local := by first | exact .inl rfl | exact .inr rfl | assumption)
    (hg : Gl X x := by rfl) (hdb : (x == ("__debug__" : Str)) = false := by decide) (he : starEach (e :: es) X.env = (false, eval e X.env) :: starEach es X.env := by rfl) (hpl : (backTo pos (starEach es X.env)).any (·.1) = false := by rfl) :
    DS X W (.Assign [.Name y py] (.Call (.Name x p) (e :: es) [] pos) pos') (fun s => (ga s).thn fun ds s => asgO i m ps.length ds s) := by
  obtain ⟨f, fd, F, hm, hk, hb⟩ := G
  exact ds_ownc i F hr tk hN hm hk hb ha hi hx hs hf hg hdb he hpl
theorem de_never : DE X W e (fun _ => .stuck) := ⟨fun _ _ _ _ _ _ ⟨_, _, _, _, h⟩ => h.elim⟩
theorem ds_never : DS X W st (fun _ => .stuck) := ⟨fun _ _ _ _ _ _ ⟨_, _, _, _, h⟩ => h.elim⟩
/-- an int constant of the module -/
def GInt (mg : Str → Option Value) (x : Str) (i : Int) : Prop := ∃ t, mg x = some (.int i t)
theorem dgi {i : Int} (h : GInt X.mg x i) (hg : Gl X x := by rfl) (hd : (x == ("__debug__" : Str)) = false := by decide) : DE X W (.Name x pos) (fun s => .ok (.int i) s) := by
  obtain ⟨t, h⟩ := h
  exact de_gint hg h hd
def GStr (mg : Str → Option Value) (x : Str) (i : Str) : Prop := ∃ t, mg x = some (.str i t)
theorem dgs {i : Str} (h : GStr X.mg x i) (hg : Gl X x := by rfl) (hd : (x == ("__debug__" : Str)) = false := by decide) : DE X W (.Name x pos) (fun s => .ok (.str i) s) := by
  obtain ⟨t, h⟩ := h
  exact de_gstr hg h hd
/-! ## raise -/
/-- an own exception class without own __init__ -/
structure ExC (K : PySem.W.Frag) (mg : Str → Option Value) (x : Str) (C : Addr) : Prop where
  g : mg x = some (.ref C)
  q : PySem.W.excIn K C [.type "ValueError", .type "Exception", .type "BaseException", .type "object"] "ValueError.__new__" = true
  k : PySem.W.keepIn K (.ref C) = true
  b : PySem.W.subIn K (.ref C) (.type "BaseException") = some true
  t : PySem.W.typeIn K (.ref C) = some (.type "type")
theorem ds_raise {z : Str} {j : Nat} {p2 p3 : Pos} {C : Addr} (T : ExC X.K X.mg x C) (tk : Takes X W) (hc : X.calm = true := by rfl) (hg : Gl X x := by rfl) (hdb : (x == ("__debug__" : Str)) = false := by decide) :
    DS X W (.Raise (some (.Call (.Name x p) [.Constant (.str z) j p2] [] p3)) none pos) (fun s => .exc x none s) := by
  refine ps_imp (ps_raise hc tk (pmk_own PySem.F.excBase_ValueError T.q T.g T.k (raises_own T.b T.t) hg hdb)) fun D σ H ⟨va, s, HP, rl, h⟩ => ?_
  exact h none σ H HP C (Stp.refl rl) rfl T.g
end
/-! ## the law -/
/-- a heap without its tables -/
def noTab (H : Hp) : Hp := fun b => match H b with
  | some (.tbl _) => none
  | o => o
theorem noTab_sub (H : Hp) : Same (noTab H) H := fun b o e => by
  unfold noTab at e
  split at e
  · cases e
  · exact e
theorem noTab_n (H : Hp) : ∀ b ps, noTab H b ≠ some (.tbl ps) := fun b ps e => by
  unfold noTab at e
  split at e
  · cases e
  · rename_i h; exact h _ e
theorem noTab_of {H : Hp} {b : Addr} {o : HO} (h : H b = some o) (n : ∀ ps, o ≠ .tbl ps) : noTab H b = some o := by
  unfold noTab
  split
  · rename_i ps q; rw [h] at q; exact absurd (Option.some.inj q) (n ps)
  · exact h
theorem seq_noTab {K : PySem.W.Frag} {H : Hp} {a : Addr} {xs : List V} (h : SqL K H a xs) : SqL K (noTab H) a xs := by
  rcases h with (h | ⟨o, h⟩) | h
  · exact .inl (.inl (noTab_of h fun _ z => nomatch z))
  · exact .inl (.inr ⟨o, noTab_of h fun _ z => nomatch z⟩)
  · exact .inr h
def spLaw (K : PySem.W.Frag) : Sp := fun vs H Q _ => ∃ (a : Addr) (ns : List Int), vs = [.ref a] ∧ SqL K H a (ns.map V.int) ∧ ns.length ≤ 63 ∧ LamX.Tabs lamT H ∧ ∀ H', Q (.bl true) H'
theorem law_has {P : Program} {w : World} {K : PySem.W.Frag} {mg : Str → Option Value} {base : Heap} {k : Nat} {f : Addr} {fd : FuncData} {ps : List Str} {m : FM} (hp : ps.length = 1) (F : FnD P w K mg base k f fd ps m) (h : ∀ ns : List Int, ns.length ≤ 63 → m [.scr ns] none = .ok (.bl true) none) :
    FnOk P w K mg base (L2.CX P w) k f fd ps (spLaw K) :=
  F.imp fun vs H Q E ⟨a, ns, e, hs, hl, tb, q⟩ => by
    subst e
    refine ⟨⟨a⟩, noTab H, [.scr ns], none, [.ref a], by rw [hp]; rfl, noTab_sub H, .cons (.scr (seq_noTab hs)) .nil, rfl, ⟨tb, noTab_n H⟩, ?_⟩
    rw [h ns hl]
    intro v H' HP' _ dv
    cases dv
    exact q H'
theorem cx_none {P : Program} {w : World} {H : Hp} {s s' : Shared} {e : Value} (c : L2.CX P w [] H s (fun _ _ _ => False) e s') : False := by
  obtain ⟨_, _, _, _, _, _, _, _, _, _, _, _, z⟩ := c
  exact z.elim
end DL

namespace DL
open PySem PySem.Spec PyProof.Rows L2
/-! ## how tellings are reckoned -/
def getL (o : Option (Option Sl)) (i : Nat) (s : S) : R D := match o with
  | some (some (.val d)) => .ok d s
  | some (some (.own xs)) => .ok (.lst xs) (s.put i (.val (.lst xs)))
  | _ => .stuck
@[simp] theorem getS_mk (i : Nat) (l : List (Option Sl)) (w : Option (List D)) : getS i ⟨l, w⟩ = getL l[i]? i ⟨l, w⟩ := rfl
@[simp] theorem getL_val (i : Nat) (s : S) (d : D) : getL (some (some (.val d))) i s = .ok d s := rfl
@[simp] theorem getL_own (i : Nat) (s : S) (d : List D) : getL (some (some (.own d))) i s = .ok (.lst d) (s.put i (.val (.lst d))) := rfl
def refL (o : Option (Option Sl)) (w : Option (List D)) : Option (List D) := match o with
  | some (some .via) => w
  | some (some (.own xs)) => some xs
  | _ => none
@[simp] theorem refS_mk (i : Nat) (l : List (Option Sl)) (w : Option (List D)) : refS i ⟨l, w⟩ = refL l[i]? w := rfl
@[simp] theorem refL_via (w : Option (List D)) : refL (some (some .via)) w = w := rfl
@[simp] theorem refL_own (w : Option (List D)) (xs : List D) : refL (some (some (.own xs))) w = some xs := rfl
def ownL (o : Option (Option Sl)) : Bool := match o with
  | some (some (.own _)) => true
  | _ => false
@[simp] theorem isOwn_mk (i : Nat) (l : List (Option Sl)) (w : Option (List D)) : isOwn i ⟨l, w⟩ = ownL l[i]? := rfl
@[simp] theorem ownL_own (xs : List D) : ownL (some (some (.own xs))) = true := rfl
def setL (o : Option (Option Sl)) (i : Nat) (xs : List D) (s : S) : S := match o with
  | some (some .via) => ⟨s.sl, some xs⟩
  | _ => s.put i (.own xs)
@[simp] theorem setRef_mk (i : Nat) (xs : List D) (l : List (Option Sl)) (w : Option (List D)) : S.setRef i xs ⟨l, w⟩ = setL l[i]? i xs ⟨l, w⟩ := rfl
@[simp] theorem setL_via (i : Nat) (xs : List D) (s : S) : setL (some (some .via)) i xs s = ⟨s.sl, some xs⟩ := rfl
@[simp] theorem setL_own (i : Nat) (xs ys : List D) (s : S) : setL (some (some (.own ys))) i xs s = s.put i (.own xs) := rfl
@[simp] theorem wipe_mk (vs : List Nat) (l : List (Option Sl)) (w : Option (List D)) : S.wipe vs ⟨l, w⟩ = ⟨wipeL l vs, w⟩ := rfl
@[simp] theorem wipeL_nil (l : List (Option Sl)) : wipeL l [] = l := rfl
@[simp] theorem wipeL_cons (l : List (Option Sl)) (v : Nat) (vs : List Nat) : wipeL l (v :: vs) = (wipeL l vs).set v none := rfl
@[simp] theorem apnd_mk (i : Nat) (d : D) (l : List (Option Sl)) (w : Option (List D)) (xs : List D) (h : l[i]? = some (some (.own xs))) (hz : xs.length < sizeLine) : apnd i d ⟨l, w⟩ = .next ⟨l.set i (some (.own (xs ++ [d]))), w⟩ := by
  unfold apnd
  show (match l[i]? with | some (some (.own xs)) => _ | _ => _) = _
  rw [h]
  exact if_pos hz
@[simp] theorem stD_none (N : List Str) (ds : List D) : stD N ds none = ⟨ds.map (fun d => some (Sl.val d)) ++ List.replicate (N.length - ds.length) none, none⟩ := rfl
@[simp] theorem stD_some (N : List Str) (ds xs : List D) : stD N ds (some xs) = ⟨some .via :: (ds.map (fun d => some (Sl.val d)) ++ List.replicate (N.length - (ds.length + 1)) none), some xs⟩ := rfl
@[simp] theorem lt_int (i j : Int) : opLt (.int i) (.int j) = some (.bl (decide (i < j))) := rfl
@[simp] theorem le_int (i j : Int) : opLe (.int i) (.int j) = some (.bl (decide (i ≤ j))) := rfl
@[simp] theorem gt_int (i j : Int) : opGt (.int i) (.int j) = some (.bl (decide (j < i))) := rfl
@[simp] theorem ge_int (i j : Int) : opGe (.int i) (.int j) = some (.bl (decide (j ≤ i))) := rfl
@[simp] theorem add_int (i j : Int) : opAdd (.int i) (.int j) = some (.int (i + j)) := rfl
@[simp] theorem sub_int (i j : Int) : opSub (.int i) (.int j) = some (.int (i - j)) := rfl
@[simp] theorem neg_int (i : Int) : opNeg (.int i) = some (.int (-i)) := rfl
theorem mod_pos (i j : Int) (h : 0 < j) : opMod (.int i) (.int j) = some (.int (i % j)) := if_pos h
theorem div_pos (i j : Int) (h : 0 < j) (h2 : j.natAbs.log2 < 9000) : opDiv (.int i) (.int j) = some (.int (i / j)) := if_pos ⟨h, h2⟩
theorem mul_ok (i j : Int) (h : okMul i j = true) : opMul (.int i) (.int j) = some (.int (i * j)) := if_pos h
@[simp] theorem ix_tup' (xs : List D) (i : Int) : opIx (.tup xs) (.int i) = atI xs i := rfl
@[simp] theorem ix_lst' (xs : List D) (i : Int) : opIx (.lst xs) (.int i) = atI xs i := rfl
@[simp] theorem ix_scr' (xs : List Int) (i : Int) : opIx (.scr xs) (.int i) = (atI xs i).map .int := rfl
theorem at_n {α : Type} (xs : List α) (n : Nat) : atI xs (n : Int) = xs[n]? := by
  unfold atI ixN
  rw [if_pos (Int.natCast_nonneg n)]
  by_cases h : n < xs.length
  · rw [if_pos (by omega)]; rfl
  · rw [if_neg (by omega), List.getElem?_eq_none_iff.mpr (by omega)]; rfl
theorem at_of {α : Type} (xs : List α) (i : Int) (h : 0 ≤ i) : atI xs i = xs[i.toNat]? := by
  have := at_n xs i.toNat
  rwa [Int.toNat_of_nonneg h] at this
@[simp] theorem at_0 {α : Type} (xs : List α) : atI xs 0 = xs[0]? := at_n xs 0
@[simp] theorem at_1 {α : Type} (xs : List α) : atI xs 1 = xs[1]? := at_n xs 1
@[simp] theorem at_2 {α : Type} (xs : List α) : atI xs 2 = xs[2]? := at_n xs 2
@[simp] theorem at_3 {α : Type} (xs : List α) : atI xs 3 = xs[3]? := at_n xs 3
@[simp] theorem at_4 {α : Type} (xs : List α) : atI xs 4 = xs[4]? := at_n xs 4
@[simp] theorem at_5 {α : Type} (xs : List α) : atI xs 5 = xs[5]? := at_n xs 5
@[simp] theorem len_lst (xs : List D) : gLen [.lst xs] = some (.int xs.length) := rfl
@[simp] theorem len_tup (xs : List D) : gLen [.tup xs] = some (.int xs.length) := rfl
@[simp] theorem len_scr (xs : List Int) : gLen [.scr xs] = some (.int xs.length) := rfl
@[simp] theorem int_int (i : Int) : gInt [.int i] = some (.int i) := rfl
@[simp] theorem int_bl (i : Bool) : gInt [.bl i] = some (.int (if i then 1 else 0)) := rfl
@[simp] theorem abs_int (i : Int) : gAbs [.int i] = some (.int (if i < 0 then -i else i)) := rfl
@[simp] theorem min_int (i j : Int) : gMin [.int i, .int j] = some (.int (min i j)) := rfl
@[simp] theorem max_int (i j : Int) : gMax [.int i, .int j] = some (.int (max i j)) := rfl
@[simp] theorem tup_lst (xs : List D) : gTup [.lst xs] = some (.tup xs) := rfl
@[simp] theorem tup_tup (xs : List D) : gTup [.tup xs] = some (.tup xs) := rfl
@[simp] theorem lst_lst (xs : List D) : gLst [.lst xs] = some (.lst xs) := rfl
@[simp] theorem lst_tup (xs : List D) : gLst [.tup xs] = some (.lst xs) := rfl
theorem eq_okd {a b : D} (h1 : okd 60 a = true) (h2 : okd 60 b = true) : opEq a b = some (.bl (deq a b)) := by unfold opEq; rw [h1, h2]; rfl
theorem ne_okd {a b : D} (h1 : okd 60 a = true) (h2 : okd 60 b = true) : opNe a b = some (.bl (!deq a b)) := by unfold opNe; rw [h1, h2]; rfl
@[simp] theorem eq_int' (i j : Int) : opEq (.int i) (.int j) = some (.bl (i == j)) := by rw [eq_okd (by simp [okd]) (by simp [okd])]; rfl
@[simp] theorem ne_int' (i j : Int) : opNe (.int i) (.int j) = some (.bl (!(i == j))) := by rw [ne_okd (by simp [okd]) (by simp [okd])]; rfl
theorem eq_str' {x y : Str} (h1 : PyData.strOk x = true) (h2 : PyData.strOk y = true) : opEq (.str x) (.str y) = some (.bl (x == y)) := by rw [eq_okd (by simpa [okd] using h1) (by simpa [okd] using h2)]; rfl
theorem ne_str' {x y : Str} (h1 : PyData.strOk x = true) (h2 : PyData.strOk y = true) : opNe (.str x) (.str y) = some (.bl (!(x == y))) := by rw [ne_okd (by simpa [okd] using h1) (by simpa [okd] using h2)]; rfl
/-- a list beside the empty one -/
theorem ne_nil' {xs : List D} (h : xs.all (okd 59) = true) : opNe (.lst xs) (.lst []) = some (.bl (!xs.isEmpty)) := by
  rw [ne_okd (by simpa [okd] using h) (by simp [okd])]
  cases xs <;> rfl
theorem eq_nil' {xs : List D} (h : xs.all (okd 59) = true) : opEq (.lst xs) (.lst []) = some (.bl xs.isEmpty) := by
  rw [eq_okd (by simpa [okd] using h) (by simp [okd])]
  cases xs <;> rfl
theorem ne_tnil {xs : List D} (h : xs.all (okd 59) = true) : opNe (.tup xs) (.tup []) = some (.bl (!xs.isEmpty)) := by
  rw [ne_okd (by simpa [okd] using h) (by simp [okd])]
  cases xs <;> rfl
@[simp] theorem mkT_ok (ds : List D) (s : S) (h : ds.length ≤ 1000) : mkT ds s = .ok (.tup ds) s := mkT_of h
@[simp] theorem mkL_ok (ds : List D) (s : S) (h : ds.length ≤ 1000) : mkL ds s = .ok (.lst ds) s := mkL_of h
theorem add_tup {xs ys : List D} (h : xs.length + ys.length ≤ 16777216) : opAdd (.tup xs) (.tup ys) = some (.tup (xs ++ ys)) := if_pos (by rw [sizeLine_eq]; exact h)
theorem add_lst {xs ys : List D} (h : xs.length + ys.length ≤ 16777216) : opAdd (.lst xs) (.lst ys) = some (.lst (xs ++ ys)) := if_pos (by rw [sizeLine_eq]; exact h)
theorem isi_of {T t : String} {d : D} {r : Bool} (h1 : tyN d = some t) (h2 : kitB t T = some r) : isiT T d = some (.bl r) := by
  unfold isiT
  rw [h1, Option.bind_some, h2]
  rfl
@[simp] theorem isi_bool_non : isiT "bool" .non = some (.bl false) := isi_of rfl (by decide +kernel)
@[simp] theorem isi_bool_bl (b : Bool) : isiT "bool" (.bl b) = some (.bl true) := isi_of rfl (by decide +kernel)
@[simp] theorem isi_bool_int (b : Int) : isiT "bool" (.int b) = some (.bl false) := isi_of rfl (by decide +kernel)
@[simp] theorem isi_bool_str (b : Str) : isiT "bool" (.str b) = some (.bl false) := isi_of rfl (by decide +kernel)
@[simp] theorem isi_bool_lst (b : List D) : isiT "bool" (.lst b) = some (.bl false) := isi_of rfl (by decide +kernel)
@[simp] theorem isi_bool_tup (b : List D) : isiT "bool" (.tup b) = some (.bl false) := isi_of rfl (by decide +kernel)
@[simp] theorem isi_int_non : isiT "int" .non = some (.bl false) := isi_of rfl (by decide +kernel)
@[simp] theorem isi_int_bl (b : Bool) : isiT "int" (.bl b) = some (.bl true) := isi_of rfl (by decide +kernel)
@[simp] theorem isi_int_int (b : Int) : isiT "int" (.int b) = some (.bl true) := isi_of rfl (by decide +kernel)
@[simp] theorem isi_int_str (b : Str) : isiT "int" (.str b) = some (.bl false) := isi_of rfl (by decide +kernel)
@[simp] theorem isi_int_lst (b : List D) : isiT "int" (.lst b) = some (.bl false) := isi_of rfl (by decide +kernel)
@[simp] theorem isi_int_tup (b : List D) : isiT "int" (.tup b) = some (.bl false) := isi_of rfl (by decide +kernel)
@[simp] theorem isi_str_non : isiT "str" .non = some (.bl false) := isi_of rfl (by decide +kernel)
@[simp] theorem isi_str_bl (b : Bool) : isiT "str" (.bl b) = some (.bl false) := isi_of rfl (by decide +kernel)
@[simp] theorem isi_str_int (b : Int) : isiT "str" (.int b) = some (.bl false) := isi_of rfl (by decide +kernel)
@[simp] theorem isi_str_str (b : Str) : isiT "str" (.str b) = some (.bl true) := isi_of rfl (by decide +kernel)
@[simp] theorem isi_str_lst (b : List D) : isiT "str" (.lst b) = some (.bl false) := isi_of rfl (by decide +kernel)
@[simp] theorem isi_str_tup (b : List D) : isiT "str" (.tup b) = some (.bl false) := isi_of rfl (by decide +kernel)
@[simp] theorem isi_tup_non : isiT "tuple" .non = some (.bl false) := isi_of rfl (by decide +kernel)
@[simp] theorem isi_tup_bl (b : Bool) : isiT "tuple" (.bl b) = some (.bl false) := isi_of rfl (by decide +kernel)
@[simp] theorem isi_tup_int (b : Int) : isiT "tuple" (.int b) = some (.bl false) := isi_of rfl (by decide +kernel)
@[simp] theorem isi_tup_str (b : Str) : isiT "tuple" (.str b) = some (.bl false) := isi_of rfl (by decide +kernel)
@[simp] theorem isi_tup_lst (b : List D) : isiT "tuple" (.lst b) = some (.bl false) := isi_of rfl (by decide +kernel)
@[simp] theorem isi_tup_tup (b : List D) : isiT "tuple" (.tup b) = some (.bl true) := isi_of rfl (by decide +kernel)
theorem notin_ints (i : Int) (xs : List Int) : opNotIn (.int i) (.lst (xs.map .int)) = some (.bl (!xs.any fun z => z == i)) := by
  have h : (xs.map D.int).all (okd 59) = true := by simp [okd]
  show (if (okd 59 (D.int i) && (xs.map D.int).all (okd 59)) = true then _ else _) = _
  rw [if_pos (by rw [h]; rfl)]
  congr 3
  unfold dmem
  rw [List.any_map]
  rfl
@[simp] theorem notin2 (i a b : Int) : opNotIn (.int i) (.lst [.int a, .int b]) = some (.bl (!(a == i || b == i))) := by
  have := notin_ints i [a, b]
  simpa using this
theorem pow_ok (i j : Int) (h : 0 ≤ j ∧ j ≤ 1000000 ∧ i.natAbs < 2 ^ 64) : opPow (.int i) (.int j) = some (.int (i ^ j.toNat)) := if_pos h
@[simp] theorem pow_10_6 : opPow (.int 10) (.int 6) = some (.int 1000000) := by rw [pow_ok 10 6 (by decide)]; rfl
@[simp] theorem sl_tup' (xs : List D) (lo hi : Option Int) : opSl (.tup xs) lo hi = some (.tup (cutG xs lo hi)) := rfl
@[simp] theorem sl_lst' (xs : List D) (lo hi : Option Int) : opSl (.lst xs) lo hi = some (.lst (cutG xs lo hi)) := rfl
theorem cut_from {α : Type} (xs : List α) (n : Nat) : cutG xs (some (n : Int)) none = xs.drop n := by
  unfold cutG
  rw [HT.sIx_none, HT.sIx_nat]
  by_cases h : n ≤ xs.length
  · rw [Nat.min_eq_left h, List.take_of_length_le (by simp)]
  · rw [Nat.min_eq_right (by omega), List.drop_eq_nil_of_le (Nat.le_refl _), List.drop_eq_nil_of_le (by omega)]
    simp
theorem cut_to {α : Type} (xs : List α) (n : Nat) : cutG xs none (some (n : Int)) = xs.take n := by
  unfold cutG
  rw [HT.sIx_none, HT.sIx_nat, List.drop_zero, Nat.sub_zero]
  by_cases h : n ≤ xs.length
  · rw [Nat.min_eq_left h]
  · rw [Nat.min_eq_right (by omega), List.take_of_length_le (by omega), List.take_of_length_le (by omega)]
theorem cut_mid {α : Type} (xs : List α) (m n : Nat) : cutG xs (some (m : Int)) (some (n : Int)) = (xs.drop m).take (n - m) := by
  unfold cutG
  rw [HT.sIx_nat, HT.sIx_nat]
  by_cases h : m ≤ xs.length
  · rw [Nat.min_eq_left h]
    by_cases h2 : n ≤ xs.length
    · rw [Nat.min_eq_left h2]
    · rw [Nat.min_eq_right (by omega), List.take_of_length_le (by simp), List.take_of_length_le (by simp; omega)]
  · have e : min m xs.length = xs.length := by omega
    rw [e, List.drop_eq_nil_of_le (Nat.le_refl _), List.drop_eq_nil_of_le (by omega)]
    simp
@[simp] theorem cut_1 {α : Type} (xs : List α) : cutG xs (some 1) none = xs.drop 1 := cut_from xs 1
def callR (r : FR) (i : Nat) (s : S) : R D := match r with
  | .ok d (some ys) => .ok d (s.setRef i ys)
  | .exc n p (some ys) => .exc n p (s.setRef i ys)
  | _ => .stuck
@[simp] theorem callR_ok (d : D) (ys : List D) (i : Nat) (s : S) : callR (.ok d (some ys)) i s = .ok d (s.setRef i ys) := rfl
def callL (o : Option (List D)) (i : Nat) (m : FM) (n : Nat) (ds : List D) (s : S) : R D := match o with
  | some xs => if ds.length + 1 = n then callR (m ds (some xs)) i s else .stuck
  | none => .stuck
@[simp] theorem callV_mk (i : Nat) (m : FM) (n : Nat) (ds : List D) (l : List (Option Sl)) (w : Option (List D)) : callV i m n ds ⟨l, w⟩ = callL (refL l[i]? w) i m n ds ⟨l, w⟩ := rfl
@[simp] theorem callL_some (xs : List D) (i : Nat) (m : FM) (n : Nat) (ds : List D) (s : S) (h : ds.length + 1 = n) : callL (some xs) i m n ds s = callR (m ds (some xs)) i s := if_pos h
theorem cutG_map {α β : Type} (f : α → β) (xs : List α) (lo hi : Option Int) : cutG (xs.map f) lo hi = (cutG xs lo hi).map f := by
  unfold cutG
  rw [List.length_map, List.map_take, List.map_drop]
theorem intsOf_map' {α : Type} (g : α → Int) : ∀ l : List α, intsOf (l.map fun x => D.int (g x)) = some (l.map g)
  | [] => rfl
  | x :: r => by simp [intsOf, intsOf_map' g r]
@[simp] theorem sum_ints (ns : List Int) : gSum [.tup (ns.map .int)] = some (.int ns.sum) := by simp [gSum]
@[simp] theorem sum_lints (ns : List Int) : gSum [.lst (ns.map .int)] = some (.int ns.sum) := by simp [gSum]
theorem min_lints {α : Type} (g : α → Int) (l : List α) (h : l ≠ []) : gMin [.lst (l.map fun x => D.int (g x))] = some (.int (minL (l.map g))) := by
  have : l.map g ≠ [] := by simpa using h
  simp [gMin, intsOf_map', this]
theorem max_lints {α : Type} (g : α → Int) (l : List α) (h : l ≠ []) : gMax [.lst (l.map fun x => D.int (g x))] = some (.int (maxL (l.map g))) := by
  have : l.map g ≠ [] := by simpa using h
  simp [gMax, intsOf_map', this]
theorem cutG_mem {α : Type} {xs : List α} {lo hi : Option Int} {x : α} (h : x ∈ cutG xs lo hi) : x ∈ xs := List.mem_of_mem_drop (List.mem_of_mem_take h)
theorem sum_bounds {l : List Int} {a b : Int} (h : ∀ x ∈ l, a ≤ x ∧ x ≤ b) : l.length * a ≤ l.sum ∧ l.sum ≤ l.length * b := by
  induction l with
  | nil => simp
  | cons x l ih =>
    have h1 := h x (by simp)
    have h2 := ih fun y hy => h y (by simp [hy])
    rw [List.length_cons, List.sum_cons]
    have e1 : ((l.length + 1 : Nat) : Int) * a = l.length * a + a := by rw [Int.natCast_add, Int.add_mul]; simp
    have e2 : ((l.length + 1 : Nat) : Int) * b = l.length * b + b := by rw [Int.natCast_add, Int.add_mul]; simp
    rw [e1, e2]
    omega
/-! ## loops -/
def whlK (t : S → R Bool) (body : S → T) (n : Nat) (k : Bool) (s : S) : T := if k = true then (match body s with
  | .next s2 => whl t body n s2
  | .cnt s2 => whl t body n s2
  | .brk s2 => .next s2
  | r => r) else .next s
theorem whl3 (t : S → R Bool) (body : S → T) (s : S) : whl t body 3 s = (t s).thn (whlK t body 2) := rfl
theorem whl2 (t : S → R Bool) (body : S → T) (s : S) : whl t body 2 s = (t s).thn (whlK t body 1) := rfl
theorem whl1 (t : S → R Bool) (body : S → T) (s : S) : whl t body 1 s = (t s).thn (whlK t body 0) := rfl
def T.loop (r : T) (k : S → T) : T := match r with
  | .next s2 => k s2
  | .cnt s2 => k s2
  | .brk s2 => .next s2
  | r => r
@[simp] theorem T.loop_next (s : S) (k : S → T) : (T.next s).loop k = k s := rfl
theorem whlK_true (t : S → R Bool) (body : S → T) (n : Nat) (s : S) : whlK t body n true s = (body s).loop (whl t body n) := by
  unfold whlK T.loop
  rw [if_pos rfl]
theorem whlK_false (t : S → R Bool) (body : S → T) (n : Nat) (s : S) : whlK t body n false s = .next s := rfl

/-- a loop that goes through, by an invariant -/
theorem forL_inv {g : D → S → Option S} {body : S → T} (I : Nat → S → Prop) : ∀ (ds : List D) (k : Nat) (s : S), I k s →
    (∀ (i : Nat) d s, ds[i]? = some d → I (k + i) s → ∃ s1 s2, g d s = some s1 ∧ body s1 = .next s2 ∧ I (k + i + 1) s2) → ∃ s', forL g body ds s = .next s' ∧ I (k + ds.length) s'
  | [], k, s, h, _ => ⟨s, rfl, h⟩
  | d :: ds, k, s, h, st => by
    obtain ⟨s1, s2, e1, e2, h2⟩ := st 0 d s rfl h
    obtain ⟨s', e, h'⟩ := forL_inv I ds (k + 1) s2 h2 fun i d s q hi => by
      have := st (i + 1) d s (by simpa using q) (by rwa [show k + (i + 1) = k + 1 + i by omega])
      rwa [show k + (i + 1) + 1 = k + 1 + i + 1 by omega] at this
    refine ⟨s', ?_, by rwa [show k + (d :: ds).length = k + 1 + ds.length by simp; omega]⟩
    unfold forL
    rw [e1]
    dsimp only
    rw [e2]
    exact e
/-- a comprehension whose block leaves the state as it is: a filter and a map -/
theorem compL_pure {vs : List Nat} {g : D → S → Option S} {t : S → R Bool} {f : S → R D} (s0 : S) (tb : D → Bool) (fd : D → D) : ∀ (ds acc : List D),
    (∀ d ∈ ds, ∃ s1 s2 s3, g d s0 = some s1 ∧ t s1 = .ok (tb d) s2 ∧ (tb d = false → s2.wipe vs = s0) ∧ (tb d = true → f s2 = .ok (fd d) s3 ∧ s3.wipe vs = s0)) →
    compL vs g t f ds acc s0 = .ok (acc ++ (ds.filter tb).map fd) s0
  | [], acc, _ => by simp [compL]
  | d :: ds, acc, h => by
    obtain ⟨s1, s2, s3, e1, e2, e3, e4⟩ := h d (by simp)
    unfold compL
    rw [e1]
    dsimp only
    rw [e2]
    dsimp only
    cases b : tb d with
    | false =>
      rw [if_neg Bool.false_ne_true, e3 b, compL_pure s0 tb fd ds acc fun x hx => h x (by simp [hx])]
      simp [b]
    | true =>
      obtain ⟨e5, e6⟩ := e4 b
      rw [if_pos rfl, e5]
      dsimp only
      rw [e6, compL_pure s0 tb fd ds _ fun x hx => h x (by simp [hx])]
      simp [b]
theorem compL_map {vs : List Nat} {g : D → S → Option S} {t : S → R Bool} {f : S → R D} (s0 : S) (tb : D → Bool) (fd : D → D) (ds acc : List D)
    (h : ∀ d ∈ ds, ∃ s1, g d s0 = some s1 ∧ t s1 = .ok (tb d) s1 ∧ (tb d = true → f s1 = .ok (fd d) s1) ∧ s1.wipe vs = s0) :
    compL vs g t f ds acc s0 = .ok (acc ++ (ds.filter tb).map fd) s0 :=
  compL_pure s0 tb fd ds acc fun d hd => by
    obtain ⟨s1, e1, e2, e3, e4⟩ := h d hd
    exact ⟨s1, s1, s1, e1, e2, fun _ => e4, fun q => ⟨e3 q, e4⟩⟩
theorem compL_mapf {α : Type} {vs : List Nat} {g : D → S → Option S} {t : S → R Bool} {f : S → R D} (mk : α → D) (h : α → D) (s0 : S) : ∀ (l : List α) (acc : List D),
    (∀ x ∈ l, ∃ s1, g (mk x) s0 = some s1 ∧ t s1 = .ok true s1 ∧ f s1 = .ok (h x) s1 ∧ s1.wipe vs = s0) → compL vs g t f (l.map mk) acc s0 = .ok (acc ++ l.map h) s0
  | [], acc, _ => by simp [compL]
  | x :: l, acc, q => by
    obtain ⟨s1, e1, e2, e3, e4⟩ := q x (by simp)
    rw [List.map_cons]
    unfold compL
    rw [e1]
    dsimp only
    rw [e2]
    dsimp only
    rw [if_pos rfl, e3]
    dsimp only
    rw [e4, compL_mapf mk h s0 l _ fun y hy => q y (by simp [hy])]
    simp
/-- a comprehension that goes through, by an invariant -/
theorem compL_inv {vs : List Nat} {g : D → S → Option S} {t : S → R Bool} {f : S → R D} (I : Nat → List D → S → Prop) : ∀ (ds : List D) (k : Nat) (acc : List D) (s : S), I k acc s →
    (∀ (i : Nat) d acc s, ds[i]? = some d → I (k + i) acc s → ∃ s1 s2 y s3, g d s = some s1 ∧ t s1 = .ok true s2 ∧ f s2 = .ok y s3 ∧ I (k + i + 1) (acc ++ [y]) (s3.wipe vs)) →
    ∃ ys s', compL vs g t f ds acc s = .ok ys s' ∧ I (k + ds.length) ys s'
  | [], k, acc, s, h, _ => ⟨acc, s, rfl, h⟩
  | d :: ds, k, acc, s, h, st => by
    obtain ⟨s1, s2, y, s3, e1, e2, e3, h2⟩ := st 0 d acc s rfl h
    obtain ⟨ys, s', e, h'⟩ := compL_inv I ds (k + 1) (acc ++ [y]) (s3.wipe vs) h2 fun i d acc s q hi => by
      have := st (i + 1) d acc s (by simpa using q) (by rwa [show k + (i + 1) = k + 1 + i by omega])
      rwa [show k + (i + 1) + 1 = k + 1 + i + 1 by omega] at this
    refine ⟨ys, s', ?_, by rwa [show k + (d :: ds).length = k + 1 + ds.length by simp; omega]⟩
    unfold compL
    rw [e1]
    dsimp only
    rw [e2]
    dsimp only
    rw [if_pos rfl, e3]
    exact e
theorem toR1_ok (j : Int) (s : S) (h : 0 ≤ j) (h2 : j ≤ 16000000) : toR1 [.int j] s = .ok (rngI 0 j) s := if_pos ⟨by omega, h2⟩
theorem rngI_get {lo hi : Int} {i : Nat} {d : D} (h : (rngI lo hi)[i]? = some d) : d = .int (lo + i) ∧ lo + i < hi := by
  have hl : i < (rngI lo hi).length := by
    rcases List.getElem?_eq_some_iff.mp h with ⟨a, _⟩
    exact a
  rw [rngI_len] at hl
  unfold rngI at h
  rw [List.getElem?_map, List.getElem?_range hl] at h
  cases h
  exact ⟨rfl, by omega⟩
def T.nx (t : T) (I : S → Prop) : Prop := ∃ s, t = .next s ∧ I s
@[simp] theorem T.nx_next (s : S) (I : S → Prop) : (T.next s).nx I = I s := propext ⟨fun ⟨_, e, h⟩ => by cases e; exact h, fun h => ⟨_, rfl, h⟩⟩
def R.nx {α : Type} (r : R α) (I : α → S → Prop) : Prop := ∃ a s, r = .ok a s ∧ I a s
@[simp] theorem R.nx_ok {α : Type} (a : α) (s : S) (I : α → S → Prop) : (R.ok a s).nx I = I a s := propext ⟨fun ⟨_, _, e, h⟩ => by cases e; exact h, fun h => ⟨_, _, rfl, h⟩⟩
theorem forL_st {α : Type} {g : D → S → Option S} {body : S → T} (st : α → S) (J : Nat → α → Prop) (ds : List D) (a0 : α) (h0 : J 0 a0)
    (h : ∀ (i : Nat) d a, ds[i]? = some d → J i a → ∃ s1, g d (st a) = some s1 ∧ ∀ I : S → Prop, (∀ a', J (i + 1) a' → I (st a')) → (body s1).nx I) : ∃ a, forL g body ds (st a0) = .next (st a) ∧ J ds.length a := by
  obtain ⟨s', e, a, rfl, hj⟩ := forL_inv (g := g) (body := body) (fun k s => ∃ a, s = st a ∧ J k a) ds 0 (st a0) ⟨a0, rfl, h0⟩ (by
    rintro i d s hd ⟨a, rfl, hj⟩
    obtain ⟨s1, e1, h1⟩ := h i d a hd (by simpa using hj)
    obtain ⟨s2, e2, h2⟩ := h1 (fun s => ∃ a', s = st a' ∧ J (i + 1) a') fun a' h => ⟨a', rfl, h⟩
    exact ⟨s1, s2, e1, e2, by simpa using h2⟩)
  exact ⟨a, e, by simpa using hj⟩
theorem compL_st {α : Type} {vs : List Nat} {g : D → S → Option S} {t : S → R Bool} {f : S → R D} (st : α → S) (J : Nat → List D → α → Prop) (ds : List D) (a0 : α) (h0 : J 0 [] a0)
    (h : ∀ (i : Nat) d acc a, ds[i]? = some d → J i acc a → ∃ s1, g d (st a) = some s1 ∧ t s1 = .ok true s1 ∧ ∀ I : D → S → Prop, (∀ y a', J (i + 1) (acc ++ [y]) a' → I y (st a')) → (f s1).nx fun y s => I y (s.wipe vs)) :
    ∃ ys a, compL vs g t f ds [] (st a0) = .ok ys (st a) ∧ J ds.length ys a := by
  obtain ⟨ys, s', e, a, rfl, hj⟩ := compL_inv (g := g) (vs := vs) (t := t) (f := f) (fun k ys s => ∃ a, s = st a ∧ J k ys a) ds 0 [] (st a0) ⟨a0, rfl, h0⟩ (by
    rintro i d acc s hd ⟨a, rfl, hj⟩
    obtain ⟨s1, e1, e2, h1⟩ := h i d acc a hd (by simpa using hj)
    obtain ⟨y, s2, e3, h2⟩ := h1 (fun y s => ∃ a', s = st a' ∧ J (i + 1) (acc ++ [y]) a') fun y a' h => ⟨a', rfl, h⟩
    exact ⟨s1, s1, y, s2, e1, e2, e3, by simpa using h2⟩)
  exact ⟨ys, a, e, by simpa using hj⟩
theorem has_never {P : Program} {w : World} {K : PySem.W.Frag} {mg : Str → Option Value} {base : Heap} {x : Str} {st : Stmt} {ps : List Str} (T : There K mg x st ps) : Has P w K mg base 0 x ps (fun _ _ => .stuck) := by
  obtain ⟨f, fd, S⟩ := T
  exact ⟨f, fd, ⟨fun vs H Q E ⟨_, _, _, _, _, _, _, _, _, _, z⟩ => z.elim, fun A outer s H args us vs Q E _ _ _ _ ⟨_, _, _, _, _, _, _, _, _, _, z⟩ => z.elim⟩, S.g, S.F.kp, S.b⟩
end DL

namespace DL
open PySem PySem.Spec PyProof.Rows L2
/-! ## what the top has written -/
section
variable {K : PySem.W.Frag} {h : Heap} {mg : Str → Option Value} {x : Str} {st : Stmt} {ps : List Str} {f : Addr} {oc : Value} {od an : Option Addr} {osl : Array (Option Value)} {kV doc pm cdv ct : Value}
theorem stand_of (X : K.In h) (G : h.Ns mainGlobals mg) (a : PySem.W.nsIn K mainGlobals x = some (some (.ref f)))
    (l : K.lookup f = some ⟨oc, od, .func (PySem.W.fnOf x x (defArgs st) (defBody st) (defScope st) .none kV doc pm an cdv ct), osl⟩) (c : PySem.W.codeIn K cdv x = true) (k : PySem.W.keepIn K (.ref f) = true)
    (hb : ∀ (kV doc pm : Value) (an : Option Addr) (cdv ct : Value) (us : List Value), us.length = ps.length → bindArgs (PySem.W.fnOf x x (defArgs st) (defBody st) (defScope st) .none kV doc pm an cdv ct) ⟨us, []⟩ = pure (ps.zip us)) :
    Stand K mg x st ps f (PySem.W.fnOf x x (defArgs st) (defBody st) (defScope st) .none kV doc pm an cdv ct) :=
  ⟨fun_mk l c k, PySem.W.mg_of X G a, .all (hb kV doc pm an cdv ct)⟩
theorem there_of (X : K.In h) (G : h.Ns mainGlobals mg) (a : PySem.W.nsIn K mainGlobals x = some (some (.ref f)))
    (l : K.lookup f = some ⟨oc, od, .func (PySem.W.fnOf x x (defArgs st) (defBody st) (defScope st) .none kV doc pm an cdv ct), osl⟩) (c : PySem.W.codeIn K cdv x = true) (k : PySem.W.keepIn K (.ref f) = true)
    (hb : ∀ (kV doc pm : Value) (an : Option Addr) (cdv ct : Value) (us : List Value), us.length = ps.length → bindArgs (PySem.W.fnOf x x (defArgs st) (defBody st) (defScope st) .none kV doc pm an cdv ct) ⟨us, []⟩ = pure (ps.zip us)) :
    There K mg x st ps := ⟨f, _, stand_of X G a l c k hb⟩
theorem gint_of {i : Int} {t : Nat} (X : K.In h) (G : h.Ns mainGlobals mg) (a : PySem.W.nsIn K mainGlobals x = some (some (.int i t))) : GInt mg x i := ⟨t, PySem.W.mg_of X G a⟩
end
theorem fnd_any {P : Program} {w : World} {K : PySem.W.Frag} {mg : Str → Option Value} {base : Heap} {k : Nat} {x : Str} {st : Stmt} {N ps : List Str} {f' : S → T} {f : Addr} {fd : FuncData} (T : Stand K mg x st ps f fd) (Sc : FnScope N ps (defScope st))
    (body : ∀ (f : Addr) (cdv : Value) (A : Around) (outer : List Env) (s : Shared) (H : Hp) (E : XK), Room k (A.deeper (envOfC x (defScope st) s.heap.objs.size f cdv)) → Takes (cxOf (L2.CX P w) P w K mg base N x (defScope st) f cdv A outer s H E) (fun cls d _ H => E cls d H) → PassesOwn (model (cxOf (L2.CX P w) P w K mg base N x (defScope st) f cdv A outer s H E).prog (cxOf (L2.CX P w) P w K mg base N x (defScope st) f cdv A outer s H E).w) (cxOf (L2.CX P w) P w K mg base N x (defScope st) f cdv A outer s H E).A (cxOf (L2.CX P w) P w K mg base N x (defScope st) f cdv A outer s H E).env (cxOf (L2.CX P w) P w K mg base N x (defScope st) f cdv A outer s H E).xe →
      DSs (cxOf (L2.CX P w) P w K mg base N x (defScope st) f cdv A outer s H E) (fun cls d _ H => E cls d H) (defBody st) f') :
    FnD P w K mg base (k + 1) f fd ps (fun ds v => (f' (stD N ds v)).fin) :=
  fn_d T.F Sc fun cdv A outer s H E hr => ⟨f', body f cdv A outer s H E hr tkX hpX, fun ds v _ => rfl⟩
end DL

namespace DL
open PySem PySem.Spec PyProof.Rows L2
/-! ## clauses, some of them with a name that is never bound -/
abbrev ClT := Addr → Value → Option Addr → TS
/-- what the clauses wish, one behind the other; a clause with a name must never fit -/
def wCl (K : PySem.W.Frag) (D : Ends) : List (Value × Option ClT) → WX
  | [] => fun _ _ _ _ => False
  | (c, none) :: r => fun cls d σ H => PySem.W.exmOne K cls c = some false ∧ wCl K D r cls d σ H
  | (c, some ts) :: r => fun cls d σ H => (PySem.W.exmOne K cls c = some true ∧ ∀ a, H a = none → ts a cls d D σ H) ∨ (PySem.W.exmOne K cls c = some false ∧ wCl K D r cls d σ H)
inductive ClOk (X : Cx) : List ExceptHandler → List (Value × Option ClT) → Prop
  | nil : ClOk X [] []
  | one {x : Str} {c : Value} {ts : ClT} {s0 : Stmt} {ss : List Stmt} {q1 q2 : Pos} {hs : List ExceptHandler} {l : List (Value × Option ClT)} (hc : Names X x c)
      (run : ∀ (a : Addr) (ob : Obj) (cls : Value) (d : Option Addr) (pn : List (Addr × Obj)), Zc cls d ob → (∃ vs, ob.data = .fields vs) → PSs (X.suite a ((a, ob) :: pn)) (s0 :: ss) (ts a cls d)) (r : ClOk X hs l) :
      ClOk X (.ExceptHandler (some (.Name x q1)) none (s0 :: ss) q2 :: hs) ((c, some ts) :: l)
  | skip {x n : Str} {c : Value} {ss : List Stmt} {q1 q2 : Pos} {hs : List ExceptHandler} {l : List (Value × Option ClT)} (hc : Names X x c) (r : ClOk X hs l) : ClOk X (.ExceptHandler (some (.Name x q1)) (some n) ss q2 :: hs) ((c, none) :: l)
section
variable {X : Cx} {bd : List Stmt} {h1 : ExceptHandler} {hs : List ExceptHandler} {l : List (Value × Option ClT)} {pos : Pos} {tb : WX → TS}
theorem ps_try_cl (st : X.stack = X.env :: X.outer) (fr : X.env.frame = some X.env.locals)
    (hb : ∀ (W : WX) (pn : List (Addr × Obj)) (xe : Value → Shared → Prop), Takes (X.tr pn xe) W → PassesOwn (model X.prog X.w) X.A X.env xe → PSs (X.tr pn xe) bd (tb W))
    (ok : ClOk X (h1 :: hs) l) : PS X (.Try bd (h1 :: hs) [] [] pos) (fun D σ H => tb (wCl X.K D l) D σ H) := by
  constructor
  intro pins s σ H D I hw
  have xo := I.ok
  have afr : X.A.frames = some (X.env :: X.outer) := xo.frames.trans (congrArg some st)
  refine wpAny_Try_except (wpAny_mono ((hb (wCl X.K D l) (X.pn ++ pins) _ (fun u s2 caught => ?k1) PassesOwn.looking).run [] s σ H D (I.toTry _) hw) (fun fl s2 hp => ?k2) (fun _ _ z => z))
  case k2 =>
    cases fl with
    | next => exact hp.elim fun τ h => h.elim fun G h => wpAny_execs_nil ⟨τ, G, h.1.ofTry xo, h.2⟩
    | brk => exact hp.elim fun τ h => h.elim fun G h => ⟨τ, G, h.1.ofTry xo, h.2⟩
    | cont => exact hp.elim fun τ h => h.elim fun G h => ⟨τ, G, h.1.ofTry xo, h.2⟩
    | ret u => exact hp.elim fun v h => h.elim fun τ h => h.elim fun G h => ⟨v, τ, G, h.1.ofTry xo, h.2⟩
  case k1 =>
    obtain ⟨a, B, si, pi, τ, G, cls, d, eu, J0, nb, up, sky, na, os, ag, wish⟩ := caught
    subst eu
    have J : Inv X pins τ G si := J0.ofTry xo
    rw [st] at sky
    show wpAny (model X.prog X.w) X.A (noteFrame (.ref a) X.env) _ _ _
    refine Sky.land Zc.steady afr fr sky fun g fl1 up1 => ?_
    have Jg : Inv X pins τ G { s2 with heap := g } := J.landed nb fl1.1 (up.trans up1) os ag
    obtain ⟨ob, fs, hob, hz, hd⟩ := fl1.there
    have out : a ∉ frs (X.env :: X.outer) := fun hm => by
      obtain ⟨_, o2, e2, nf⟩ := fl1.2.2.1.mem hm
      rw [hob] at e2
      cases e2
      exact nf _ hd
    have nl : a ≠ X.env.locals := fun z => out (List.mem_filterMap.mpr ⟨_, List.mem_cons_self, by rw [fr, z]⟩)
    have nf : a ∉ X.fs := fun hm => (List.mem_filterMap.mp hm).elim fun e q => out (List.mem_filterMap.mpr ⟨e, List.mem_cons_of_mem _ q.1, q.2⟩)
    have Sg := Jg.suite hob hd na nl nf
    have chain : ∀ {hs' : List ExceptHandler} {l' : List (Value × Option ClT)}, ClOk X hs' l' → wCl X.K D l' cls d τ G →
        wpAny (model X.prog X.w) X.A (handleBy (.ref a) X.env hs') (SP X pins D) X.xe { s2 with heap := g } := by
      intro hs' l' k
      have fits : ∀ {x : Str} {c : Value} {q1 : Pos} {b : Bool} {Q : Value → Shared → Prop} {E : Value → Shared → Prop}, Names X x c → Q c { s2 with heap := g } → wpAny (model X.prog X.w) (X.A.mark (some (.ref a))) (eval (.Name x q1) X.env) Q E { s2 with heap := g } := fun {x c q1 b Q E} hc q => by
        obtain ⟨hg, hq, e | ⟨e, hv, hn⟩⟩ := hc
        · exact ld_glob (X := X.suite a ((a, ob) :: (X.pn ++ pins))) Sg hg e q hq
        · exact ld_blt (X := X.suite a ((a, ob) :: (X.pn ++ pins))) Sg hg e hv q hn hq
      have cl : PySem.W.Looks (model X.prog X.w) g (typeOf (.ref a)) cls := fun A Q E s k q => wpAny_typeOf_ref (k _ _ hob) (by rw [hz.1]; exact q)
      induction k with
      | nil => exact fun z => z.elim
      | skip hc r ih =>
        rintro ⟨e, w⟩
        refine wpAny_handleBy_cons (codeAny_handlers_test ?_) (fun z => nomatch z)
        exact fits (b := true) hc ((PySem.W.exm_one (M := model X.prog X.w) Jg.kIn cl e).here (ih w))
      | @one x c ts s0 ss q1 q2 hs2 l2 hc run r ih =>
        intro w
        refine wpAny_handleBy_cons (codeAny_handlers_test ?_) (fun z => nomatch z)
        rcases w with ⟨e, w⟩ | ⟨e, w⟩
        · refine fits (b := true) hc ((PySem.W.exm_one (M := model X.prog X.w) Jg.kIn cl e).here ?_)
          refine codeAny_handlers_suite ?_
          refine HandSPX.lands_againZ fl1 fun g4 fl4 up4 => ?_
          have J4 : Inv X pins τ G { s2 with heap := g4 } := J.landed nb fl4.1 ((up.trans up1).trans up4) os ag
          obtain ⟨o4, v4, h4, z4, d4⟩ := fl4.there
          refine wpAny_mono ((run a o4 cls d (X.pn ++ pins) z4 ⟨_, d4⟩).run [] _ _ G _ (J4.suite h4 d4 na nl nf) (w a na)) (fun f s6 hp => ?_) (fun _ _ z => z.elim)
          cases f with
          | next => exact hp.elim fun τ h => h.elim fun G h => ⟨τ, G, h.1.unsuite xo, h.2⟩
          | brk => exact hp.elim fun τ h => h.elim fun G h => ⟨τ, G, h.1.unsuite xo, h.2⟩
          | cont => exact hp.elim fun τ h => h.elim fun G h => ⟨τ, G, h.1.unsuite xo, h.2⟩
          | ret u => exact hp.elim fun v h => h.elim fun τ h => h.elim fun G h => ⟨v, τ, G, h.1.unsuite xo, h.2⟩
        · exact fits (b := true) hc ((PySem.W.exm_one (M := model X.prog X.w) Jg.kIn cl e).here (ih w))
    exact chain ok wish
end
/-! ## other tables -/
section
variable {K : PySem.W.Frag} {va : VA} {s : S} {σ : St} {HP H H1 : Hp}
theorem Rel.grow (r : Rel K va s σ HP H) (e : LamX.ExtN H H1) (t : LamX.Tabs lamT H1) : Stp K va s σ HP H s σ HP H1 := by
  refine ⟨⟨r.len, fun b o q => e b o (r.sub b o q) fun ps z => r.tab.n b ps (by rw [← z]; exact q), r.val, fun i xs q => ?_, r.vis, fun xs q => ?_, r.dis, r.dvi, ⟨t, r.tab.n⟩⟩, Same.refl _, fun b o h nt n => ⟨e b o h nt, n, fun z => z⟩, Iff.rfl⟩
  · obtain ⟨a, vs, h1, h2, h3, h4⟩ := r.own i xs q
    exact ⟨a, vs, h1, h2, e _ _ h3 nL, h4⟩
  · obtain ⟨h1, vs, h2, h3⟩ := r.vst xs q
    exact ⟨h1, vs, e _ _ h2 nL, h3⟩
end
end DL

namespace DL
open PySem PySem.Spec PyProof.Rows L2 LamX
/-! ## a def that calls the lambda it got -/
/-- the def's context, entered at s -/
abbrev cxG (X : Cx) (Ng : List Str) (x : Str) (sg : Scope) (g : Addr) (cdg : Value) (s : Shared) (H : Hp) : Cx := cxOf C8.CX0 X.prog X.w X.K X.mg X.base Ng x sg g cdg X.A X.stack s H C8.E0
section
variable {X : Cx} {pins : List (Addr × Obj)} {σ : L2.St} {H : Hp} {s : Shared}
theorem pe_actS {Ng : List Str} {qg : Str} {sg : Scope} {g f cc : Addr} {cdg pm ctv : Value} {params : Arguments} {body : Expr} {scope : Scope} {k i : Nat} {a : Str} {pn : List (Addr × Obj)} {xe : Value → Shared → Prop} {W : WX} {t : XK → TE} {p1 p2 : Pos}
    (I : Inv X pins σ H s) (L : LamS X.env.scope scope) (hf : s.heap.get? f = some (PySem.W.kla_obj "<lambda>" (X.env.qual ++ "<lambda>") params body scope (cloFrom X.env.cells scope.names []) pm cc ctv)) (hfn : H f = none) (hfr : f ∉ frs X.stack)
    (bnd : bindArgs (PySem.W.kla_fn "<lambda>" (X.env.qual ++ "<lambda>") params body scope (cloFrom X.env.cells scope.names []) pm (.ref cc) ctv) ⟨[], []⟩ = pure [])
    (tk : Takes ((cxG X Ng qg sg g cdg s H).tr pn xe) W) (hr : Room (k + 1) (X.A.deeper (envOfC qg sg s.heap.objs.size g cdg)))
    (hb : ∀ (A : Around) (outer : List Env) (s : Shared) (H : Hp) (E : XK), Room k (A.deeper (lamEnv X scope s.heap.objs.size f cc)) → PE (lamCx X A outer s H E scope f cc) body (t E))
    (hN : Ng[i]? = some a) (hv : Vis sg a) (hd : (a == ("__debug__" : Str)) = false := by decide) (hcd : (a == ("__classdict__" : Str)) = false := by decide) :
    PE ((cxG X Ng qg sg g cdg s H).tr pn xe) (.Call (.Name a p1) [] [] p2)
      (fun τ G Q => τ[i]? = some (some (.ref f)) ∧ G cc = some (CodeO cc (X.env.qual ++ "<lambda>")) ∧ t (WE W τ) σ G Q) := by
  constructor
  intro pz sz τ G Q J hh
  refine wpAny_Call_Name_kw (thn ((pe_var (pos := p1) (i := i) hN hv hd hcd).run pz sz τ G (fun v G' => v = .ref f ∧ G' = G) J ⟨.ref f, hh.1, rfl, rfl⟩) fun u s1 w => ?_)
  obtain ⟨v, G', J1, rv, rfl, rfl⟩ := w
  obtain rfl : u = Value.ref f := rv
  have ff := J1.base.keep f _ hf hfn hfr fun z => nomatch (show f ∈ ([] : List Addr) from z)
  refine PySem.W.callWith_F0 ⟨_, _, _, _, ff⟩ ?_
  obtain ⟨⟨oc, vs, tt, e1, e2, e3⟩, _, _⟩ := J1.hok cc _ hh.2.1
  have told : codeAny (model X.prog X.w) (X.A.deeper (envOfC qg sg s.heap.objs.size g cdg)) (.call (.ref f) ⟨[], []⟩) (CR (L2.CX X.prog X.w) (envOfC qg sg s.heap.objs.size g cdg :: X.stack) X.prog X.w G' s1 Q (WE W τ)) s1 := by
    refine PySem.W.kla_callFunE hr.depth ff rfl L.co L.gen rfl ⟨cc, oc, vs, tt, rfl, e1, e2, e3⟩ ?_
    rw [bnd]
    refine wpAny_pure (wpAny_newFunctionEnv (fun y hy => (L.own y hy).2) (fun y hy => absurd hy (by simp)) (fun h1 ns sb => ⟨J1.nolimit.fresh _ sb, ?_⟩) L.kind)
    have keep : ∀ b o, s1.heap.get? b = some o → h1.get? b = some o := fun b o e => sb.extBut b o (Nat.ne_of_lt (Heap.lt_size e)) (Heap.get?_push_of_some _ e)
    have J2 := lam_start2 (A := X.A.deeper (envOfC qg sg s.heap.objs.size g cdg)) (outer := envOfC qg sg s.heap.objs.size g cdg :: X.stack) (E := WE W τ) (f := f) (c' := cc) (tk := s1.toks + ([] : List (Str × Value)).length) I L J1.env0 hr.hd J1.base ns keep
    refine PySem.W.kla_codeExpr (wpAny_mono ((hb _ _ s1 G' (WE W τ) (hr.deeper _)).run [] _ _ G' Q J2 hh.2.2) (fun v s2 w => ?_) fun _ _ w => w)
    exact w.elim fun y w => w.elim fun G2 w => ⟨y, G2, w.1.os, w.1.bare, w.1.base, w.1.hok, w.2.1, w.2.2⟩
  refine wpAny_call (codeAny_mono told fun r s2 w => ?_)
  rcases r with e | fl
  · exact passAt tk τ pz G' s1 e s2 J1 w
  · cases fl with
    | ret u => exact J1.after w
    | _ => exact False.elim w
end
/-- what a def makes of the lambda that it got -/
def Gives (X : Cx) (Ng : List Str) (x : Str) (sg : Scope) (g : Addr) (cdg : Value) (bg : List Stmt) (a q : Str) (TT : (XK → Hp → VK → Prop) → Hp → VK → Prop) : Prop :=
  ∀ (f cc : Addr) (s : Shared) (H : Hp) (Q : VK) (tl : XK → Hp → VK → Prop),
    (∀ (W : WX) (pn : List (Addr × Obj)) (xe : Value → Shared → Prop) (p1 p2 : Pos), Takes ((cxG X Ng x sg g cdg s H).tr pn xe) W →
      PE ((cxG X Ng x sg g cdg s H).tr pn xe) (.Call (.Name a p1) [] [] p2) (fun τ G Q => τ[0]? = some (some (.ref f)) ∧ G cc = some (CodeO cc q) ∧ tl (WE W τ) G Q)) →
    H cc = some (CodeO cc q) → TT tl H Q →
    ∃ t, PSs (cxG X Ng x sg g cdg s H).nox bg t ∧ t { nx := fun _ H' => Q .non H', rt := Q } (L2.start Ng [.ref f]) H
section
variable {X : Cx}
/-- x(lambda: body) -/
theorem pe_lamS {T : List (Addr × Str)} {TT : (XK → Hp → VK → Prop) → Hp → VK → Prop} {x a : Str} {g c P : Addr} {k : Nat} {pg : Arguments} {bg : List Stmt} {sg : Scope} {dV kV doc pm cdv ct oc : Value} {an od : Option Addr} {osl : Array (Option Value)} {Ng : List Str}
    {params : Arguments} {body : Expr} {scope : Scope} {t : XK → TE} {p lpos pos : Pos} (hg : Gl X x) (hm : X.mg x = some (.ref g)) (hk : PySem.W.keepIn X.K (.ref g) = true)
    (lk : X.K.lookup g = some ⟨oc, od, .func (PySem.W.fnOf x x pg bg sg dV kV doc pm an cdv ct), osl⟩) (hcg : PySem.W.codeIn X.K cdv x = true) (bn : L2.Binds X.K (PySem.W.fnOf x x pg bg sg dV kV doc pm an cdv ct) [a] []) (Sg : FnScope Ng [a] sg) (hNg : Ng[0]? = some a) (hva : Vis sg a)
    (gv : Gives X Ng x sg g cdv bg a (X.env.qual ++ "<lambda>") TT)
    (TB : TabB X.base X.mg c P) (hcode : X.env.code = .ref c) (hmT : (P, X.env.qual ++ "<lambda>") ∈ T) (hu : ∀ p ∈ T, p.1 = P → p.2 = X.env.qual ++ "<lambda>") (hr : Room (k + 2) X.A) (L : LamS X.env.scope scope) (nodef : defaultsOf params X.env = ([], []))
    (bnd : ∀ (q : Str) (cl : List (Str × Addr)) (pm cv ctv : Value), bindArgs (PySem.W.kla_fn "<lambda>" q params body scope cl pm cv ctv) ⟨[], []⟩ = pure [])
    (hb : ∀ (A : Around) (outer : List Env) (s : Shared) (H : Hp) (E : XK) (f cc : Addr), Room k (A.deeper (lamEnv X scope s.heap.objs.size f cc)) → PE (lamCx X A outer s H E scope f cc) body (t E))
    (hdb : (x == ("__debug__" : Str)) = false := by decide) (hd : (a == ("__debug__" : Str)) = false := by decide) (hcd : (a == ("__classdict__" : Str)) = false := by decide) :
    PE X (.Call (.Name x p) [.Lambda params body scope lpos] [] pos) (tLam T TT t) := by
  constructor
  rintro pins s σ H Q I ⟨hT, h⟩
  refine wpAny_Call_Name_kw (ld_glob I hg hm (PySem.W.callWith_K (h₀ := X.base) I.ok.mod.kin hk ?_ (by rfl) (by rfl)) hdb)
  show wpAny _ _ (spliced ((false, eval (.Lambda params body scope lpos) X.env) :: backTo pos (starEach [] X.env))) _ _ s
  refine Calls.spliced_cons (lam_make2 I TB hcode hmT hu hT nodef (L.has I.ok) fun f cc pm2 ctv G s2 J grow tabs isf nof nofr isc => Calls.spliced_nil ⟨J.kIn, ?_⟩)
  have told : codeAny (model X.prog X.w) X.A (.call (.ref g) ⟨[.ref f], []⟩) (CR C8.CX0 X.stack X.prog X.w G s2 Q C8.E0) s2 := by
    refine run_ofS (N := Ng) (ps := [a]) (us := [.ref f]) (vs := [.ref f]) lk hcg Sg hr J.env0 (bn s2 [.ref f] J.kIn rfl) (.cons rfl .nil) rfl fun hr2 => ?_
    obtain ⟨t2, ht2, hq⟩ := gv f cc s2 G Q (fun E G Q => t E σ G Q) (fun W pn xe p1 p2 tk => pe_actS (i := 0) J L isf nof nofr (bnd _ _ _ _ _) tk hr2 (fun A outer s H E hr3 => hb A outer s H E f cc hr3) hNg hva hd hcd) isc (h G grow tabs)
    exact ⟨t2, ht2.nox, hq⟩
  refine wpAny_call (codeAny_mono told fun r s3 w => ?_)
  rcases r with e | fl
  · exact (show False from w).elim
  · cases fl with
    | ret u => exact J.after w
    | _ => exact False.elim w
end
end DL

namespace DL
open PySem PySem.Spec PyProof.Rows L2 LamX
/-! ## the word for a call's error -/
/-- the word of the first clause that fits -/
def wdOf (K : PySem.W.Frag) (cls : Value) : List (Value × Option Str) → Option Str
  | [] => none
  | (c, w) :: r => match PySem.W.exmOne K cls c with
    | some true => w
    | some false => wdOf K cls r
    | none => none
def toCl (q : Value × Option Str) : Value × Option ClT := (q.1, q.2.map fun w _ _ _ => tAsg (tC (.str w)) (gName 1))
theorem wCl_of {K : PySem.W.Frag} {cls : Value} {d : Option Addr} {σ : L2.St} {H : Hp} {D : Ends} : ∀ (l : List (Value × Option Str)) {w : Str}, wdOf K cls l = some w → D.nx (σ.set 1 (some (.str w))) H → wCl K D (l.map toCl) cls d σ H
  | [], w, e, _ => by cases e
  | (c, none) :: r, w, e, h => by
    unfold wdOf at e
    split at e
    · cases e
    · rename_i z; exact ⟨z, wCl_of r e h⟩
    · cases e
  | (c, some v) :: r, w, e, h => by
    unfold wdOf at e
    split at e
    · rename_i z
      cases e
      exact .inl ⟨z, fun a _ => h⟩
    · rename_i z; exact .inr ⟨z, wCl_of r e h⟩
    · cases e
def TTw (K : PySem.W.Frag) (l : List (Value × Option Str)) : (XK → Hp → VK → Prop) → Hp → VK → Prop := fun tl H Q =>
  ∀ (E : XK) (Q' : VK), (∀ cls d H' w, wdOf K cls l = some w → Q (.str w) H' → E cls d H') → (∀ v H', Q (.str "") H' → Q' v H') → tl E H Q'
theorem word_gives {X : Cx} {N2 : List Str} {x a y q : Str} {sg : Scope} {g : Addr} {cdg : Value} {h1 : ExceptHandler} {hs : List ExceptHandler} {l : List (Value × Option Str)} {j0 : Nat} {p0 p1 p2 q1 q2 q3 q4 q5 q6 : Pos} (nd : (a :: y :: N2).Nodup) (hy : sg.names.lookup y = some .local)
    (ok : ∀ (s : Shared) (H : Hp), ClOk (cxG X (a :: y :: N2) x sg g cdg s H).nox (h1 :: hs) (l.map toCl)) (d1 : (y == ("__debug__" : Str)) = false := by decide) (d2 : (y == ("__classdict__" : Str)) = false := by decide) :
    Gives X (a :: y :: N2) x sg g cdg [.Assign [.Name y p0] (.Constant (.str "") j0 p1) p2, .Try [.Expr (.Call (.Name a q1) [] [] q2) q3] (h1 :: hs) [] [] q4, .Return (some (.Name y q5)) q6] a q (TTw X.K l) := by
  intro f cc s H Q tl act hc h
  refine ⟨_, pss_cons (ps_set (X := (cxG X (a :: y :: N2) x sg g cdg s H).nox) (i := 1) nd rfl (.inl hy) pe_str (by rfl) (.inr hy))
    (pss_cons (ps_try_cl (X := (cxG X (a :: y :: N2) x sg g cdg s H).nox) (tb := fun W D σ H => σ[0]? = some (some (.ref f)) ∧ H cc = some (CodeO cc q) ∧ tl (WE W σ) H (fun _ H' => D.nx σ H')) rfl rfl (fun W pn xe tk _ => ?_) (ok s H))
      (pss_one (ps_ret (pe_var (X := (cxG X (a :: y :: N2) x sg g cdg s H).nox) (i := 1) rfl (.inl hy) d1 d2)))), ?_⟩
  · exact pss_one (ps_expr (act W pn xe q1 q2 tk) (by rfl))
  · refine ⟨rfl, hc, h _ _ (fun cls d H' w e k => ?_) fun v H' k => ?_⟩
    · exact wCl_of l e ⟨_, rfl, k⟩
    · exact ⟨_, rfl, k⟩
/-- what the call of the def with the lambda tells -/
def fW (wd : Str → Option Str) (fb : S → R D) (s : S) : R D := match fb s with
  | .ok _ s' => .ok (.str "") s'
  | .exc n _ s' => match wd n with
    | some w => .ok (.str w) s'
    | none => .stuck
  | .stuck => .stuck
section
variable {X : Cx} {W : WX}
theorem de_word {x a y q : Str} {g c P : Addr} {k : Nat} {N2 : List Str} {sg : Scope} {l : List (Value × Option Str)} {pg : Arguments} {bg : List Stmt} {dV kV doc pm cdv ct oc : Value} {an od : Option Addr} {osl : Array (Option Value)}
    {params : Arguments} {body : Expr} {scope : Scope} {fb : S → R D} {wd : Str → Option Str} {p lpos pos : Pos} (hg : Gl X x) (hm : X.mg x = some (.ref g)) (hk : PySem.W.keepIn X.K (.ref g) = true)
    (lk : X.K.lookup g = some ⟨oc, od, .func (PySem.W.fnOf x x pg bg sg dV kV doc pm an cdv ct), osl⟩) (hcg : PySem.W.codeIn X.K cdv x = true) (bn : L2.Binds X.K (PySem.W.fnOf x x pg bg sg dV kV doc pm an cdv ct) [a] []) (Sg : FnScope (a :: y :: N2) [a] sg) (hva : Vis sg a)
    (gv : Gives X (a :: y :: N2) x sg g cdv bg a (X.env.qual ++ "<lambda>") (TTw X.K l))
    (hw : ∀ n w C, wd n = some w → X.mg n = some (.ref C) → wdOf X.K (.ref C) l = some w)
    (TB : TabB X.base X.mg c P) (hcode : X.env.code = .ref c) (hmT : (P, X.env.qual ++ "<lambda>") ∈ lamT) (hu : ∀ p ∈ lamT, p.1 = P → p.2 = X.env.qual ++ "<lambda>") (hr : Room (k + 2) X.A) (L : LamS X.env.scope scope) (nodef : defaultsOf params X.env = ([], []))
    (bnd : ∀ (q : Str) (cl : List (Str × Addr)) (pm cv ctv : Value), bindArgs (PySem.W.kla_fn "<lambda>" q params body scope cl pm cv ctv) ⟨[], []⟩ = pure [])
    (hb : ∀ (A : Around) (outer : List Env) (s : Shared) (H : Hp) (E : XK) (f cc : Addr), Room k (A.deeper (lamEnv X scope s.heap.objs.size f cc)) → DE (lamCx X A outer s H E scope f cc) (fun cls d _ H => E cls d H) body fb)
    (hdb : (x == ("__debug__" : Str)) = false := by decide) (hd : (a == ("__debug__" : Str)) = false := by decide) (hcd : (a == ("__classdict__" : Str)) = false := by decide) :
    DE X W (.Call (.Name x p) [.Lambda params body scope lpos] [] pos) (fW wd fb) := by
  refine pe_imp (pe_lamS (TT := TTw X.K l) (t := fun E σ H Q => ∃ va s HP, Rel X.K va s σ HP H ∧ ∀ Y : Cx, Y.K = X.K → Y.mg = X.mg → PoE Y (fun cls d _ H => E cls d H) va s σ HP H (fb s) Q) hg hm hk lk hcg bn Sg rfl hva gv TB hcode hmT hu hr L nodef bnd (fun A outer s H E f cc hr2 => pe_imp (hb A outer s H E f cc hr2) fun σ H Q ⟨va, s, HP, rl, h⟩ => ⟨va, s, HP, rl, h _ rfl rfl⟩) hdb hd hcd) fun σ H Q h => ?_
  obtain ⟨va, s, HP, rl, h⟩ := h
  refine ⟨rl.tab.t, fun G grow tabs E Q' hE hQ => ?_⟩
  have st := rl.grow grow tabs
  refine ⟨va, s, HP, st.rel, fun Y eK em => ?_⟩
  unfold fW at h
  cases e : fb s with
  | stuck => rw [e] at h; exact h
  | ok d s' =>
    rw [e] at h
    intro v H' HP' st2 dv
    rw [eK] at st2
    exact hQ _ _ (h (.str "") H' HP' (st.trans st2) (.str _))
  | exc n p s' =>
    rw [e] at h
    dsimp only at h
    intro dd H' HP' C st2 hx hC
    rw [eK] at st2
    rw [em] at hC
    cases ew : wd n with
    | none => rw [ew] at h; exact h.elim
    | some w =>
      rw [ew] at h
      exact hE _ _ _ w (hw n w C ew hC) (h (.str w) H' HP' (st.trans st2) (.str _))
end
end DL

namespace DL
open PySem PySem.Spec PyProof.Rows L2
/-! ## texts -/
def asS (d : D) (s : S) : R Str := match d with
  | .str x => .ok x s
  | _ => .stuck
@[simp] theorem asS_str (x : Str) (s : S) : asS (.str x) s = .ok x s := rfl
/-- a text's method with one argument -/
def MtD (X : Cx) (id : String) (g : Str → D → Option D) : Prop := ∃ r : V → List V → Hp → VK → Prop, MtR X id r ∧
  ∀ (W : WX) (va : VA) (s : S) (σ : St) (HP H : Hp) (a : Str) (y : V) (b d : D) (Q : VK), Rel X.K va s σ HP H → Dv X.K HP y b → g a b = some d → PoE X W va s σ HP H (.ok d s) Q → r (.str a) [y] H Q
def strsOf : List D → Option (List Str)
  | [] => some []
  | .str x :: r => (strsOf r).map (x :: ·)
  | _ => none
@[simp] theorem strsOf_map : ∀ xs : List Str, strsOf (xs.map D.str) = some xs
  | [] => rfl
  | x :: r => by simp [strsOf, strsOf_map r]
theorem strsOf_vals {K : PySem.W.Frag} {H : Hp} : ∀ {ds : List D} {vs : List V} {xs : List Str}, DvA K H vs ds → strsOf ds = some xs → vs = xs.map V.str
  | [], _, xs, h, e => by cases h; cases e; rfl
  | d :: ds, _, xs, h, e => by
    cases h with
    | cons h1 h2 =>
      cases h1 <;> simp [strsOf] at e
      obtain ⟨ms, e1, e2⟩ := e
      subst e2
      rw [strsOf_vals h2 e1]
      rfl
theorem strs_dv {K : PySem.W.Frag} {H : Hp} : ∀ xs : List Str, DvA K H (xs.map V.str) (xs.map D.str)
  | [] => .nil
  | x :: r => .cons (.str x) (strs_dv r)
def gSplit (a : Str) (d : D) : Option D := match d with
  | .str b => if (b.length == 0) = false ∧ a.length + 2 ≤ sizeLine then some (.lst ((Txt.split a b).map .str)) else none
  | _ => none
def gStripC (a : Str) (d : D) : Option D := match d with
  | .str b => if a.length ≤ sizeLine then some (.str (Txt.stripChars a b)) else none
  | _ => none
def gJoin (a : Str) (d : D) : Option D := match d with
  | .lst ds => (strsOf ds).bind fun ys => if (ys.map (·.length)).sum + ys.length * a.length ≤ 16777216 then some (.str (Txt.join a ys)) else none
  | .tup ds => (strsOf ds).bind fun ys => if (ys.map (·.length)).sum + ys.length * a.length ≤ 16777216 then some (.str (Txt.join a ys)) else none
  | _ => none
section
variable {X : Cx} {W : WX} {o e : Expr} {fo fe : S → R D}
theorem md_split : MtD X "str.split" gSplit := by
  refine ⟨_, mt_split, fun W va s σ HP H a y b d Q rl dy e p => ?_⟩
  unfold gSplit at e
  split at e
  · split at e <;> cases e
    cases dy
    rename_i b h
    exact ⟨a, b, rfl, rfl, h.1, h.2, fun q hq => fin_lst p rl (strs_dv _) (by rw [List.length_map]; exact Nat.le_trans (PyProof.Rows.split_le a b) h.2) q hq⟩
  · cases e
theorem md_strip : MtD X "str.strip" gStripC := by
  refine ⟨_, mt_stripChars, fun W va s σ HP H a y b d Q rl dy e p => ?_⟩
  unfold gStripC at e
  split at e
  · split at e <;> cases e
    cases dy
    exact ⟨_, _, rfl, rfl, by assumption, fin_str p rl⟩
  · cases e
theorem md_join : MtD X "str.join" gJoin := by
  refine ⟨_, mt_join, fun W va s σ HP H a y b d Q rl dy e p => ?_⟩
  unfold gJoin at e
  split at e
  · obtain ⟨ys, e1, e2⟩ := Option.bind_eq_some_iff.mp e
    split at e2 <;> cases e2
    cases dy with
    | @lst q vs _ z1 zz z2 => exact ⟨a, q, ys, rfl, rfl, .inl (by rw [← strsOf_vals z2 e1]; exact SqL.of (rl.sub _ _ z1)), by assumption, fin_str p rl⟩
  · obtain ⟨ys, e1, e2⟩ := Option.bind_eq_some_iff.mp e
    split at e2 <;> cases e2
    cases dy with
    | @tup q vs _ z1 zz z2 => exact ⟨a, q, ys, rfl, rfl, .inr (by rw [← strsOf_vals z2 e1]; exact SqT.of (rl.sub _ _ z1)), by assumption, fin_str p rl⟩
  · cases e
theorem de_m1 {id : String} {name : Str} {apos pos : Pos} {g : Str → D → Option D} (slot : Slot "str" name id) (ty : typeOf (.builtin id) = pure (.type "method_descriptor")) (rule : MtD X id g) (ho : DE X W o fo) (he : DE X W e fe)
    (hs : starEach [e] X.env = [(false, eval e X.env)] := by rfl) (hbase : attributeBase o name X.env (eval o X.env) = eval o X.env := by rfl) (hline : (apos.endLine == pos.line) = true := by rfl) :
    DE X W (.Call (.Attribute o name apos) [e] [] pos) (fun s => ((fo s).bind asS).bind fun x s => (fe s).bind fun y s => lift (g x y) s) := by
  obtain ⟨r, h1, h2⟩ := rule
  refine pe_imp (pe_m1 slot ty h1 ho he hs hbase hline) fun σ H Q h => ?_
  obtain ⟨va, s, HP, rl, h⟩ := h
  refine ⟨va, s, HP, rl, ?_⟩
  dsimp only at h
  cases e0 : fo s with
  | stuck => rw [e0] at h; exact h
  | exc n p s' => rw [e0] at h; exact h
  | ok x s1 =>
    rw [e0] at h
    intro v1 H1 HP1 st1 d1
    cases x with
    | str a =>
      cases d1
      refine ⟨⟨a, rfl⟩, va, s1, HP1, st1.rel, ?_⟩
      have h' := PoE.from st1 h
      simp only [R.bind_ok, asS_str] at h'
      cases e1 : fe s1 with
      | stuck => rw [e1] at h'; exact h'
      | exc n p s' => rw [e1] at h'; exact h'
      | ok y s2 =>
        rw [e1] at h'
        intro v2 H2 HP2 st2 d2
        have h3 := PoE.from st2 h'
        simp only [R.bind_ok] at h3
        cases e2 : g a y with
        | none => rw [e2] at h3; exact h3.elim
        | some d => rw [e2] at h3; exact h2 W va s2 σ HP2 H2 a v2 y d Q st2.rel d2 e2 h3
    | _ => exact h.elim
end
end DL

namespace DL
open PySem PySem.Spec PyProof.Rows L2
/-! ## texts, further -/
/-- the signs of a text -/
def sgD (x : Str) : List D := x.cps.toList.map fun c => .str ⟨#[c]⟩
theorem walks_str {K : PySem.W.Frag} {HP0 : Hp} {x : Str} : Walks K (Its x) (sgD x) HP0 := fun i HP H e1 e2 => by
  refine ⟨fun d hd => ?_, fun h => (by simpa [sgD] using h : x.cps.size ≤ i)⟩
  have hlt : i < x.cps.size := by
    rcases Nat.lt_or_ge i x.cps.size with z | z
    · exact z
    · rw [List.getElem?_eq_none_iff.mpr (by simpa [sgD] using z)] at hd; cases hd
  refine ⟨hlt, fun v H' ⟨y1, c, y2, y3⟩ => ?_⟩
  subst y1 y3
  have hd' : (.str ⟨#[c]⟩ : D) = d := by
    unfold sgD at hd
    rw [List.getElem?_map, Array.getElem?_toList, y2] at hd
    simpa using hd
  subst hd'
  exact ⟨HP, .str _, fun va s σ r => Stp.refl r⟩
def asSg (d : D) (s : S) : R (List D) := match d with
  | .str x => if x.length ≤ sizeLine then .ok (sgD x) s else .stuck
  | _ => .stuck
def opSlS (x : D) (lo hi : Option Int) : Option D := match x with
  | .str z => if z.length ≤ sizeLine then some (.str (cutS z lo hi)) else none
  | _ => none
/-- one sign in a text -/
def opInS (x y : D) : Option D := match x, y with
  | .str c, .str z => match c.cps.toList with
    | [k] => some (.bl (decide (k ∈ z.cps.toList)))
    | _ => none
  | _, _ => none
def opNotInS (x y : D) : Option D := match x, y with
  | .str c, .str z => match c.cps.toList with
    | [k] => some (.bl (!decide (k ∈ z.cps.toList)))
    | _ => none
  | _, _ => none
def gIntS : List D → Option D
  | [.str a] => if a.length ≤ 640 then (intText? a).map .int else none
  | ds => gInt ds
def gStr : List D → Option D
  | [.int i] => if i.natAbs.log2 < 1920 then some (.str (Str.ofString (toString i))) else none
  | [.str a] => some (.str a)
  | _ => none
section
variable {X : Cx} {W : WX} {a b c e tg : Expr} {fa fb fc : S → R D} {pos : Pos}
theorem di_str (ha : DE X W a fa) : DI X W tg a (fun s => (fa s).bind asSg) := by
  refine ⟨fun pins s σ H Q I h => ?_⟩
  obtain ⟨va, st, HP, rl, h⟩ := h
  dsimp only at h
  refine (pi_str (tg := tg) ha).run pins s σ H Q I (bindE rl (fun d s' v H' HP' e stp dv => ?_) (fun n p s' dd H' HP' C e stp z m => ?_) (fun e => ?_)) <;> rw [e] at h
  · cases d with
    | str x =>
      cases dv
      simp only [R.bind_ok, asSg] at h
      split at h
      · rename_i hz
        exact ⟨x, rfl, h (Its x) H' HP' stp (by simp only [sgD, List.length_map, Array.length_toList]; exact hz) walks_str⟩
      · exact h.elim
    | _ => exact h.elim
  · exact h dd H' HP' C stp z m
  · exact h
theorem od_ins : OpD X (compareOp .In) opInS := by
  refine ⟨_, op_in_sign, fun W va s σ HP H x y a b d Q rl dx dy e p => ?_⟩
  unfold opInS at e
  split at e
  · split at e <;> cases e
    cases dx; cases dy
    rename_i c z zz k hk
    exact ⟨k, z, by rw [show c = ⟨#[k]⟩ from Str.ext' (Array.toList_inj.mp hk)], rfl, fin_bl p rl⟩
  · cases e
theorem od_notins : OpD X (compareOp .NotIn) opNotInS := by
  refine ⟨_, op_notIn_sign, fun W va s σ HP H x y a b d Q rl dx dy e p => ?_⟩
  unfold opNotInS at e
  split at e
  · split at e <;> cases e
    cases dx; cases dy
    rename_i c z zz k hk
    exact ⟨k, z, by rw [show c = ⟨#[k]⟩ from Str.ext' (Array.toList_inj.mp hk)], rfl, fin_bl p rl⟩
  · cases e
theorem cd_ints : CallD X (.type "int") gIntS := by
  obtain ⟨r, h1, h2⟩ := cd_int (X := X)
  refine ⟨_, CallR.or call_int_str h1, fun W va s σ HP H vs ds d Q rl dv e p => ?_⟩
  unfold gIntS at e
  split at e
  · split at e
    · obtain ⟨n, e1, e2⟩ := Option.map_eq_some_iff.mp e
      cases e2
      cases dv with
      | cons y1 y2 => cases y2; cases y1; exact .inl ⟨_, n, rfl, e1, by assumption, fin_int p rl⟩
    · cases e
  · exact .inr (h2 W va s σ HP H vs _ d Q rl dv e p)
theorem cd_str : CallD X (.type "str") gStr := by
  refine ⟨_, CallR.or call_str_int SkE.call_str_str, fun W va s σ HP H vs ds d Q rl dv e p => ?_⟩
  unfold gStr at e
  split at e
  · split at e <;> cases e
    cases dv with
    | cons y1 y2 => cases y2; cases y1; exact .inl ⟨_, rfl, by assumption, fin_str p rl⟩
  · cases e
    cases dv with
    | cons y1 y2 => cases y2; cases y1; exact .inr ⟨_, rfl, fin_str p rl⟩
  · cases e
theorem de_slS {lo hi : Option Expr} {fl fh : S → R (Option Int)} {p2 : Pos} (ha : DE X W a fa) (hl : DO X W lo fl) (hh : DO X W hi fh) :
    DE X W (.Subscript a (.Slice lo hi none p2) pos) (fun s => (fa s).bind fun x s => (fl s).bind fun l s => (fh s).bind fun u s => lift (opSlS x l u) s) := by
  refine pe_imp (pe_slice sl_str ha hl hh) fun σ H Q h => ?_
  obtain ⟨va, s, HP, rl, h⟩ := h
  dsimp only at h
  refine bindEE rl h fun x s1 v H1 HP1 st1 d1 h1 => ?_
  refine ⟨va, s1, HP1, st1.rel, ?_⟩
  cases e1 : fl s1 with
  | stuck => rw [e1] at h1; exact h1
  | exc n p s' => rw [e1] at h1; exact h1
  | ok l s2 =>
    rw [e1] at h1
    intro H2 HP2 st2
    have h2 := PoE.from st2 h1
    refine ⟨va, s2, HP2, st2.rel, ?_⟩
    cases e2 : fh s2 with
    | stuck => simp only [R.bind_ok, e2, R.bind_stuck] at h2; exact h2
    | exc n p s' => simp only [R.bind_ok, e2, R.bind_exc] at h2; exact h2
    | ok u s3 =>
      simp only [R.bind_ok, e2] at h2
      intro H3 HP3 st3
      have h3 := PoE.from st3 h2
      cases x with
      | str z =>
        cases d1
        unfold opSlS at h3
        dsimp only at h3
        by_cases hz : z.length ≤ sizeLine
        · rw [if_pos hz] at h3
          exact ⟨z, rfl, hz, fin_str h3 st3.rel⟩
        · rw [if_neg hz] at h3; exact h3.elim
      | _ => exact h3.elim
end
end DL

namespace DL
open PySem PySem.Spec PyProof.Rows L2 LamX
/-- a def, its code object known -/
theorem fnd_code {P : Program} {w : World} {K : PySem.W.Frag} {mg : Str → Option Value} {base : Heap} {k : Nat} {x : Str} {st : Stmt} {N ps : List Str} {f' : S → T} {f : Addr} {oc : Value} {od an : Option Addr} {osl : Array (Option Value)} {kV doc pm cdv ct : Value}
    (lk : K.lookup f = some ⟨oc, od, .func (PySem.W.fnOf x x (defArgs st) (defBody st) (defScope st) .none kV doc pm an cdv ct), osl⟩) (hcd : PySem.W.codeIn K cdv x = true) (Sc : FnScope N ps (defScope st))
    (body : ∀ (A : Around) (outer : List Env) (s : Shared) (H : Hp) (E : XK), Room k (A.deeper (envOfC x (defScope st) s.heap.objs.size f cdv)) → Takes (cxOf (L2.CX P w) P w K mg base N x (defScope st) f cdv A outer s H E) (fun cls d _ H => E cls d H) → PassesOwn (model (cxOf (L2.CX P w) P w K mg base N x (defScope st) f cdv A outer s H E).prog (cxOf (L2.CX P w) P w K mg base N x (defScope st) f cdv A outer s H E).w) (cxOf (L2.CX P w) P w K mg base N x (defScope st) f cdv A outer s H E).A (cxOf (L2.CX P w) P w K mg base N x (defScope st) f cdv A outer s H E).env (cxOf (L2.CX P w) P w K mg base N x (defScope st) f cdv A outer s H E).xe →
      DSs (cxOf (L2.CX P w) P w K mg base N x (defScope st) f cdv A outer s H E) (fun cls d _ H => E cls d H) (defBody st) f') :
    FnD P w K mg base (k + 1) f (PySem.W.fnOf x x (defArgs st) (defBody st) (defScope st) .none kV doc pm an cdv ct) ps (fun ds v => (f' (stD N ds v)).fin) := by
  constructor
  · rintro vs H Q E ⟨_, _, _, _, _, e, _⟩
    exact e
  · intro A outer s H args us vs Q E hr e0 hb rv h
    obtain ⟨va, HP, ds, v, vs', e1, sm, dv, ar, tb, po⟩ := h
    refine run_ofS lk hcd Sc hr e0 hb rv e1 fun hr2 => ?_
    have hN : ps.length ≤ N.length := by
      have := congrArg List.length Sc.pre
      rw [List.length_take] at this
      omega
    refine ⟨_, body A outer s H E hr2 tkX hpX, va, stD N ds v, HP, rel_start (by rw [e1]; exact hN) sm dv ar tb, ?_⟩
    dsimp only at po
    cases q : f' (stD N ds v) with
    | stuck => rw [q] at po; exact po
    | brk s' => rw [q] at po; exact po.elim
    | cnt s' => rw [q] at po; exact po.elim
    | next s' => rw [q] at po; exact fun σ' H' HP' stp => po .non H' HP' stp.fg .non
    | ret d s' => rw [q] at po; exact fun v' σ' H' HP' stp dv' => po v' H' HP' stp.fg dv'
    | retO xs s' => rw [q] at po; exact fun p vs σ' H' HP' stp n z dv' => po p vs H' HP' stp.fg n z dv'
    | exc n p s' => rw [q] at po; exact fun dd σ' H' HP' C stp z y => po dd H' HP' C stp.fg z y
/-- the end of a law in whose defs xs lambdas stand -/
theorem walk_ofTabs {l : PySem.W.OpenLaw} {n k : Nat} {q : Program} {loose : List Str} {XP : (Str → Option Value) → Heap → Prop} {YP : World → Heap → Prop} {d : DefRec} {K : Params → PySem.W.Frag} {CX : World → CXT} {x : Str} (xs : List Str)
    (hn : l.most = some n) (hn2 : n ≤ sizeLine) (hdf : d.params.defaults = []) (hr : Room k callerA) (hrec : ∀ y ∈ xs, ((recsOf q).any fun e => e.name == y) = true) (hY : ∀ (w : World) (h : Heap), YP w h → (K w.params).In h)
    (F : ∀ (w : World) (mg : Str → Option Value) (fa : Addr) (h : Heap), YP w h → (K w.params).In h → h.Ns mainGlobals mg → mg d.name = some (.ref fa) → (∀ y ∈ xs, ∀ fy, mg y = some (.ref fy) → OwnTab (K w.params) fy h) → LawAtS l w (K w.params) (CX w) k n x mg fa h)
    (none_left : ∀ (w : World) (G : Hp) (t0 : Shared) (e : Value) (t1 : Shared), CX w [] G t0 (fun _ _ _ => False) e t1 → False) : PySem.W.WalkO q loose XP YP l.row.toRowW d [] (fun f vs => PySem.call f vs) := by
  refine Att.attach_callB hn hdf fun w s0 s1 mg mb fa o pm cd doc a vs ns G Y ho hd hcd hmg hobj hints hlen hbits hg => ?_
  have KX := hY w _ Y
  have tabs : ∀ y ∈ xs, ∀ fy, mg y = some (.ref fy) → OwnTab (K w.params) fy s1.heap := by
    intro y hy fy my c P o1 fd1 e dd us sl k1 k2 k3 k4 k5
    obtain ⟨r, hm, hq⟩ := List.any_eq_true.mp (hrec y hy)
    have hq2 : r.name = y := beq_iff_eq.mp hq
    obtain ⟨b, o2, fd2, c2, P2, m1, m2, m3, m4, _, ⟨oc, uc, m5, _, m6, m7⟩, m8⟩ := G.T.tab r hm
    rw [hq2, my] at m1
    cases m1
    rw [KX _ _ k1] at m2
    cases m2
    rw [k2] at m3
    cases m3
    rw [k3] at m4
    cases m4
    rw [KX _ _ k4] at m5
    cases m5
    cases m6
    rw [k5] at m7
    cases m7
    exact m8
  obtain ⟨fd, cs, sp, hT, nT, C, hb, hsp, hF⟩ := F w mg fa _ Y KX G.T.g hmg tabs
  exact law_callTs KX G.T.g G.T.b G.T.builtins G.T.nolimit hg hT nT C G.T.bmain hobj hints (Nat.le_trans hlen hn2) hr hF hb (fun H hH hS => hsp H a ns hlen hbits hH hS) fun H e s' => none_left w H s1 e s'
end DL

namespace DL
open PySem PySem.Spec PyProof.Rows L2
/-! ## a text so many times -/
open Classical in
noncomputable def opMulS (x y : D) : Option D := match x, y with
  | .str z, .int n => if MulOk z n then some (.str (Txt.mul z n)) else none
  | _, _ => none
theorem op_times {X : Cx} : OpR X (binaryOp .Mult) (fun x y H Q => ∃ z n, x = .str z ∧ y = .int n ∧ MulOk z n ∧ Q (.str (Txt.mul z n)) H) := by
  intro pins s σ H x y v u Q I rx ry h
  obtain ⟨z, n, rfl, rfl, ok, q⟩ := h
  obtain ⟨t, rfl⟩ := rx
  obtain ⟨t2, rfl⟩ := ry
  exact SB.mul ok fun t3 k => ⟨.str _, H, I.tok _, ⟨_, rfl⟩, q⟩
theorem od_muls {X : Cx} : OpD X (binaryOp .Mult) opMulS := by
  refine ⟨_, op_times, fun W va s σ HP H x y a b d Q rl dx dy e p => ?_⟩
  unfold opMulS at e
  split at e
  · split at e <;> cases e
    cases dx; cases dy
    exact ⟨_, _, rfl, rfl, by assumption, fin_str p rl⟩
  · cases e
theorem mul_str {z : Str} {n : Int} (h : MulOk z n) : opMulS (.str z) (.int n) = some (.str (Txt.mul z n)) := if_pos h
/-! ## a sum of two lists for one slot alone -/
def addO (i : Nat) (x y : D) (s : S) : T := match x, y with
  | .lst xs, .lst ys => if xs.length + ys.length ≤ sizeLine then .next (s.put i (.own (xs ++ ys))) else .stuck
  | _, _ => .stuck
section
variable {X : Cx} {W : WX} {a b : Expr} {fa fb : S → R D} {pos p0 : Pos}
theorem ds_ownadd (i : Nat) {x : Str} {pos' : Pos} (hN : X.N.Nodup) (ha : DE X W a fa) (hb : DE X W b fb) (hi : X.N[i]? = some x := by rfl) (hx : Loc X.env.scope x := by first | exact Or.inl rfl | exact Or.inr rfl)
    (hs : swapsWith (.BinOp a .Add b p0) (some (.Name x pos')) pos.line X.env = pure false := by rfl) (hf : X.fn x = true ∨ X.env.scope.names.lookup x = some .local := by first | exact .inl rfl | exact .inr rfl | assumption) :
    DS X W (.Assign [.Name x pos'] (.BinOp a .Add b p0) pos) (fun s => (fa s).thn fun x s => (fb s).thn fun y s => addO i x y s) := by
  refine ps_imp (ps_set hN hi hx (pe_op op_cat ha hb) hs hf) fun D σ H ⟨va, s, HP, rl, h⟩ => ?_
  refine bindES rl h fun x s1 v H1 HP1 st1 d1 h1 => bindES st1.rel h1 fun y s2 u H2 HP2 st2 d2 h2 => ?_
  have d1' := Dv.mono st2.same x v d1
  unfold addO at h2
  split at h2
  · split at h2
    · rename_i hz
      cases d1' with
      | @lst q xs ds y0 y1 a1 =>
        cases d2 with
        | @lst r ys es z0 z1 a2 =>
          refine ⟨q, r, xs, ys, rfl, rfl, st2.rel.sub _ _ y0, st2.rel.sub _ _ z0, by rw [a1.length, a2.length]; exact hz, fun n hn => ?_⟩
          exact h2 _ _ HP2 (st2.rel.putOwn i hn (by rw [List.length_append]; exact hz) (a1.append a2))
    · exact h2.elim
  · exact h2.elim
end
end DL

namespace DL
open PySem PySem.Spec PyProof.Rows L2
/-! ## a comprehension with two clauses -/
def compL2 (vs vs1 : List Nat) (g : D → S → Option S) (t : S → R Bool) (fi1 : S → R (List D)) (g1 : D → S → Option S) (t1 : S → R Bool) (f : S → R D) : List D → List D → S → R (List D)
  | [], acc, s => .ok acc s
  | d :: ds, acc, s => match g d s with
    | none => .stuck
    | some s1 => match t s1 with
      | .ok k s2 => if k = true then (match fi1 s2 with
        | .ok es s3 => if acc.length + es.length ≤ sizeLine then (match compL vs1 g1 t1 f es acc (s3.wipe vs1) with
          | .ok acc' s4 => compL2 vs vs1 g t fi1 g1 t1 f ds acc' (s4.wipe vs)
          | _ => .stuck) else .stuck
        | _ => .stuck) else compL2 vs vs1 g t fi1 g1 t1 f ds acc (s2.wipe vs)
      | _ => .stuck
section
variable {X : Cx} {W : WX} {va : VA} {a b c e elt tg iter tg1 iter1 : Expr} {ifs ifs1 : List Expr} {pos : Pos} {fi fi1 : S → R (List D)} {g g1 : D → S → Option S} {t t1 : S → R Bool} {f : S → R D} {scope : Scope} {own : List (Str × Nat)} {vs vs1 : List Nat}
/-- the turns of an inner clause -/
theorem lc_turns {J : It} {ds : List D} {s1 s' : S} {σ : St} {HP1 H1 : Hp} {D0 : Addr} {acc0 : List V} {ys0 ys' : List D} {Nx : Hp → Prop}
    (hD0 : H1 D0 = some (.lst acc0)) (nP0 : HP1 D0 = none) (rl : Rel X.K va s1 σ HP1 (del H1 D0)) (cl0 : Clean vs s1) (dv0 : DvA X.K HP1 acc0 ys0) (hz : ys0.length + ds.length ≤ sizeLine) (hw : Walks X.K J ds HP1)
    (hc : compL vs g t f ds ys0 s1 = .ok ys' s')
    (fin : ∀ H' HP' acc', H' D0 = some (.lst acc') → HP' D0 = none → Stp X.K va s1 σ HP1 (del H1 D0) s' σ HP' (del H' D0) → DvA X.K HP' acc' ys' → ys'.length ≤ sizeLine → Nx H') :
    ∃ W1 : Nat → Nat → Hp → Prop, (∃ m, W1 0 m H1) ∧ ∀ j k H, W1 j k H →
      (J.stop j H ∧ Nx H) ∨ (J.go j H ∧ ∃ Nx1 : Hp → Prop, (∀ H', Nx1 H' → ∃ k', k' < k ∧ W1 (j + 1) k' H') ∧ ∀ x H', J.yld j H x H' → tDGw X vs g x (wipe σ vs) H' fun σ3 H5 => wipe σ3 vs = wipe σ vs ∧ tDT X WF t σ3 H5 fun b H6 =>
        if b = true then tDE X WF f σ3 H6 fun y H7 => ∃ acc, H7 D0 = some (.lst acc) ∧ acc.length < sizeLine ∧ Nx1 (upd H7 D0 (.lst (acc ++ [y]))) else Nx1 H6) := by
  refine ⟨fun i m H => ∃ s HP acc ys, m = ds.length - i ∧ i ≤ ds.length ∧ H D0 = some (.lst acc) ∧ ys.length ≤ ys0.length + i ∧ HP D0 = none ∧ Stp X.K va s1 σ HP1 (del H1 D0) s σ HP (del H D0) ∧ Clean vs s ∧ DvA X.K HP acc ys ∧ compL vs g t f (ds.drop i) ys s = .ok ys' s',
    ⟨ds.length, s1, HP1, acc0, ys0, by simp, Nat.zero_le _, hD0, Nat.le_refl _, nP0, Stp.refl rl, cl0, dv0, hc⟩, ?_⟩
  rintro i m H2 ⟨s2, HP2, acc, ys, rfl, hle, hD, hy, nP, st2, cl, dv, p2⟩
  have r2 := st2.rel
  have r2' := r2.more
  have no := r2.nown
  obtain ⟨w1, w2⟩ := hw i HP2 H2 st2.same r2'.sub
  by_cases hlt : i < ds.length
  · have hd : ds[i]? = some ds[i] := List.getElem?_eq_getElem hlt
    obtain ⟨hgo, hyl⟩ := w1 _ hd
    rw [List.drop_eq_getElem_cons hlt] at p2
    unfold compL at p2
    refine .inr ⟨hgo, fun H' => ∃ s HP acc ys, H' D0 = some (.lst acc) ∧ ys.length ≤ ys0.length + (i + 1) ∧ HP D0 = none ∧ Stp X.K va s1 σ HP1 (del H1 D0) s σ HP (del H' D0) ∧ Clean vs s ∧ DvA X.K HP acc ys ∧ compL vs g t f (ds.drop (i + 1)) ys s = .ok ys' s',
      fun H' ⟨s5, HP', acc', ys5, q⟩ => ⟨ds.length - (i + 1), by omega, s5, HP', acc', ys5, rfl, hlt, q⟩, fun x H' y => ?_⟩
    obtain ⟨HP', dx, stp⟩ := hyl x H' y
    have rw' : Rel X.K va s2 (wipe σ vs) HP2 H2 := r2'.to cl wipe_wipe.symm
    have st3 := stp va s2 (wipe σ vs) rw'
    cases eg : g ds[i] s2 with
    | none => rw [eg] at p2; cases p2
    | some s4 =>
      rw [eg] at p2
      dsimp only at p2
      refine ⟨va, s2, HP', _, s4, st3.rel, dx, eg, fun σ4 st4 hw4 => ⟨hw4.trans wipe_wipe, ?_⟩⟩
      have e4 : wipe σ4 vs = wipe σ vs := hw4.trans wipe_wipe
      have st34 := st3.trans st4
      refine ⟨va, s4, HP', st4.rel, ?_⟩
      cases et : t s4 with
      | stuck => rw [et] at p2; cases p2
      | exc n p s' => rw [et] at p2; cases p2
      | ok k s5 =>
        rw [et] at p2
        dsimp only at p2
        intro H5 HP5 st5
        have st35 := st34.trans st5
        cases k with
        | false =>
          rw [if_neg Bool.false_ne_true] at p2 ⊢
          have so := st35.out cl e4
          obtain ⟨y1, y2, y3⟩ := so.del no nP hD
          exact ⟨s5.wipe vs, HP5, acc, ys, y1, by omega, y2, st2.trans y3, clean_wipe, DvA.mono so.same ys acc dv, p2⟩
        | true =>
          rw [if_pos rfl] at p2 ⊢
          refine ⟨va, s5, HP5, st5.rel, ?_⟩
          cases ef : f s5 with
          | stuck => rw [ef] at p2; cases p2
          | exc n p s' => rw [ef] at p2; cases p2
          | ok d s6 =>
            rw [ef] at p2
            dsimp only at p2
            intro v6 H6 HP6 st6 dv6
            have so := (st35.trans st6).out cl e4
            obtain ⟨y1, y2, y3⟩ := so.del no nP hD
            have dacc := DvA.mono so.same ys acc dv
            refine ⟨acc, y1, by rw [dacc.length]; omega, s6.wipe vs, HP6, acc ++ [v6], ys ++ [d], upd_same, by rw [List.length_append, List.length_singleton]; omega, y2, by rw [del_upd']; exact st2.trans y3, clean_wipe, dacc.append (.cons dv6 .nil), p2⟩
  · have e : ds.drop i = [] := List.drop_eq_nil_of_le (by omega)
    rw [e] at p2
    unfold compL at p2
    cases p2
    exact .inl ⟨w2 (by omega), fin H2 HP2 acc hD nP st2 dv (by omega)⟩
theorem lc2_read {σ : St} {H : Hp} {Q : VK} (h : tDE X W (fun s => (fi s).bind fun ds s => (compL2 vs vs1 g t fi1 g1 t1 f ds [] (s.wipe vs)).bind fun ys s => .ok (.lst ys) s) σ H Q) :
    tLc2 (tDI X W fi) (tDGw X vs g) (tDT X WF t) (tDI X WF fi1) (tDGw X vs1 g1) (tDT X WF t1) (tDE X WF f) vs vs1 σ H Q := by
  obtain ⟨va, s, HP, rl, h⟩ := h
  dsimp only at h
  refine ⟨va, s, HP, rl, ?_⟩
  cases ei : fi s with
  | stuck => rw [ei] at h; exact h
  | exc n p s' => rw [ei] at h; exact h
  | ok ds s1 =>
    rw [ei] at h
    intro J H1 HP1 st1 hz hw D0 nD
    have h1 : PoE X W va (s1.wipe vs) σ HP1 H1 ((compL2 vs vs1 g t fi1 g1 t1 f ds [] (s1.wipe vs)).bind fun ys s => .ok (.lst ys) s) Q := PoE.from (st1.trans st1.rel.wst) h
    refine ⟨fun i m H => ∃ s HP acc ys, m = ds.length - i ∧ i ≤ ds.length ∧ H D0 = some (.lst acc) ∧ ys.length ≤ sizeLine ∧ HP D0 = none ∧ Rel X.K va s σ HP (del H D0) ∧ Same HP1 HP ∧ Clean vs s ∧ DvA X.K HP acc ys ∧
      PoE X W va s σ HP (del H D0) ((compL2 vs vs1 g t fi1 g1 t1 f (ds.drop i) ys s).bind fun ys s => .ok (.lst ys) s) Q,
      ⟨ds.length, s1.wipe vs, HP1, [], [], by simp, Nat.zero_le _, upd_same, Nat.zero_le _, st1.rel.sub.free nD, by rw [del_upd nD]; exact st1.rel.wiped, Same.refl _, clean_wipe, .nil, by rw [del_upd nD]; exact h1⟩, ?_⟩
    rintro i m H2 ⟨s2, HP2, acc, ys, rfl, hle, hD, hy, nP, r2, sm, cl, dv, p2⟩
    have r2' := r2.more
    have no := r2.nown
    obtain ⟨w1, w2⟩ := hw i HP2 H2 sm r2'.sub
    by_cases hlt : i < ds.length
    · have hd : ds[i]? = some ds[i] := List.getElem?_eq_getElem hlt
      obtain ⟨hgo, hyl⟩ := w1 _ hd
      rw [List.drop_eq_getElem_cons hlt] at p2
      unfold compL2 at p2
      refine .inr ⟨hgo, fun H' => ∃ s HP acc ys, H' D0 = some (.lst acc) ∧ ys.length ≤ sizeLine ∧ HP D0 = none ∧ Rel X.K va s σ HP (del H' D0) ∧ Same HP1 HP ∧ Clean vs s ∧ DvA X.K HP acc ys ∧
        PoE X W va s σ HP (del H' D0) ((compL2 vs vs1 g t fi1 g1 t1 f (ds.drop (i + 1)) ys s).bind fun ys s => .ok (.lst ys) s) Q,
        fun H' ⟨s', HP', acc', ys', q⟩ => ⟨ds.length - (i + 1), by omega, s', HP', acc', ys', rfl, hlt, q⟩, fun x H' y => ?_⟩
      obtain ⟨HP', dx, stp⟩ := hyl x H' y
      have rw' : Rel X.K va s2 (wipe σ vs) HP2 H2 := r2'.to cl wipe_wipe.symm
      have st3 := stp va s2 (wipe σ vs) rw'
      cases eg : g ds[i] s2 with
      | none => rw [eg] at p2; exact p2.elim
      | some s4 =>
        rw [eg] at p2
        dsimp only at p2
        refine ⟨va, s2, HP', _, s4, st3.rel, dx, eg, fun σ4 st4 hw4 => ⟨hw4.trans wipe_wipe, ?_⟩⟩
        have e4 : wipe σ4 vs = wipe σ vs := hw4.trans wipe_wipe
        have st34 := st3.trans st4
        refine ⟨va, s4, HP', st4.rel, ?_⟩
        cases et : t s4 with
        | stuck => rw [et] at p2; exact p2
        | exc n p s' => rw [et] at p2; exact p2.elim
        | ok k s5 =>
          rw [et] at p2
          dsimp only at p2
          intro H5 HP5 st5
          have st35 := st34.trans st5
          cases k with
          | false =>
            rw [if_neg Bool.false_ne_true] at p2 ⊢
            have so := st35.out cl e4
            obtain ⟨y1, y2, y3⟩ := so.del no nP hD
            exact ⟨s5.wipe vs, HP5, acc, ys, y1, hy, y2, y3.rel, sm.trans so.same, clean_wipe, DvA.mono so.same ys acc dv, PoE.from y3 p2⟩
          | true =>
            rw [if_pos rfl] at p2 ⊢
            refine ⟨va, s5, HP5, st5.rel, ?_⟩
            cases e1 : fi1 s5 with
            | stuck => rw [e1] at p2; exact p2
            | exc n p s' => rw [e1] at p2; exact p2.elim
            | ok es s6 =>
              rw [e1] at p2
              dsimp only at p2
              split at p2
              case isFalse => exact p2.elim
              case isTrue hz1 =>
                split at p2
                case h_2 => exact p2.elim
                case h_1 acc2 s7 ec =>
                  intro J1 H6 HP6 st6 hz6 hw6
                  have st36 := (st35.trans st6)
                  have so := st36.out cl e4
                  obtain ⟨y1, y2, _⟩ := so.del no nP hD
                  have no4 : ¬ Owns va s6 σ4 D0 := (st36.keep D0 _ hD nL (fun z => no (owns_to cl wipe_wipe z))).2.1
                  have r6 : Rel X.K va s6 σ4 HP6 (del H6 D0) := st6.rel.less no4 y2 y1
                  refine lc_turns y1 y2 r6.wiped clean_wipe (DvA.mono so.same ys acc dv) hz1 hw6 ec fun H7 HP7 acc7 h7 n7 st7 dv7 hz7 => ?_
                  have st2d : Stp X.K va s2 (wipe σ vs) HP2 (del H2 D0) s6 σ4 HP6 (del H6 D0) := (st36.del (fun z => no (owns_to cl wipe_wipe z)) nP hD).2.2
                  have stall := (st2d.trans (r6.wst (vs := vs1))).trans st7
                  have so2 := stall.out cl e4
                  exact ⟨s7.wipe vs, HP7, acc7, acc2, h7, hz7, n7, so2.rel, sm.trans so2.same, clean_wipe, dv7, PoE.from so2 p2⟩
    · have e : ds.drop i = [] := List.drop_eq_nil_of_le (by omega)
      rw [e] at p2
      refine .inl ⟨w2 (by omega), ?_⟩
      have q := fin_lst (p2 : PoE X W va s2 σ HP2 (del H2 D0) (.ok (.lst ys) s2) Q) r2 dv hy D0 del_same
      rw [upd_del hD] at q
      exact q
/-- y = [.. for .. for ..] -/
theorem ds_setlc2 (vs vs1 : List Nat) (i : Nat) {y : Str} {py spos : Pos} (hc : X.calm = true) (hN : X.N.Nodup) (hi : DI X W tg iter fi) (ok : BlkOk X.N X.env.scope scope own) (hv1 : ∀ i ∈ vs1, i ∈ own.map (·.2))
    (hg : ∀ (s : Shared) (H : Hp) (C : Addr) (cl : List (Str × Addr)) (fp : List Addr), DGw (X.blk s H scope (compEnvC scope cl C X.env) fp) vs tg g) (ht : ∀ (s : Shared) (H : Hp) (C : Addr) (cl : List (Str × Addr)) (fp : List Addr), DTs (X.blk s H scope (compEnvC scope cl C X.env) fp) WF ifs t)
    (hi1 : ∀ (s : Shared) (H : Hp) (C : Addr) (cl : List (Str × Addr)) (fp : List Addr), DI (X.blk s H scope (compEnvC scope cl C X.env) fp) WF tg1 iter1 fi1)
    (hg1 : ∀ (s : Shared) (H : Hp) (C : Addr) (cl : List (Str × Addr)) (fp : List Addr), DGw (X.blk s H scope (compEnvC scope cl C X.env) fp) vs1 tg1 g1) (ht1 : ∀ (s : Shared) (H : Hp) (C : Addr) (cl : List (Str × Addr)) (fp : List Addr), DTs (X.blk s H scope (compEnvC scope cl C X.env) fp) WF ifs1 t1)
    (he : ∀ (s : Shared) (H : Hp) (C : Addr) (cl : List (Str × Addr)) (fp : List Addr), DE (X.blk s H scope (compEnvC scope cl C X.env) fp) WF elt f)
    (hsw : swapsWith (.ListComp elt [⟨tg, iter, ifs, 0⟩, ⟨tg1, iter1, ifs1, 0⟩] scope pos) (some (.Name y py)) spos.line X.env = pure true) (hy : X.N[i]? = some y := by rfl) (hyl : X.env.scope.names.lookup y = some .local := by rfl)
    (hs : ∀ x, foldedSetIterable iter X.env x = pure x := by intro _; rfl) (hs1 : ∀ env x, foldedSetIterable iter1 env x = pure x := by intro _ _; rfl) (hv : own.map (·.2) = vs := by rfl) :
    DS X W (.Assign [.Name y py] (.ListComp elt [⟨tg, iter, ifs, 0⟩, ⟨tg1, iter1, ifs1, 0⟩] scope pos) spos) (fun s => ((fi s).bind fun ds s => (compL2 vs vs1 g t fi1 g1 t1 f ds [] (s.wipe vs)).bind fun ys s => .ok (.lst ys) s).thn fun d s => .next (s.put i (.val d))) := by
  subst hv
  refine ps_imp (ps_setLc2 (wi := tDI X W fi) (wi1 := tDI X WF fi1) (g1 := tDGw X vs1 g1) (tt1 := tDT X WF t1) (g := tDGw X (own.map fun q : Str × Nat => q.2) g) (tt := tDT X WF t) (te := tDE X WF f) hc hN hy hyl hsw hi ok hv1 hg ht hi1 hg1 ht1 he hs hs1) fun D σ H h => ?_
  obtain ⟨va, s, HP, rl, h⟩ := h
  exact lc2_read (bindES rl h fun d s1 v H1 HP1 st1 d1 h1 => h1 _ H1 HP1 (st1.rel.put i d1))
end
end DL

namespace DL
open PySem PySem.Spec PyProof.Rows L2
section
variable {X : Cx} {W : WX} {a : Expr} {fa : S → R D} {pos p0 : Pos}
/-- x, y = a, []: y a list for its slot alone -/
theorem ds_parO (i j : Nat) {x y : Str} {px py pt : Pos} {kt k2 pt2} (hc : X.calm = true) (hN : X.N.Nodup) (ha : DE X W a fa) (hi : X.N[i]? = some x := by rfl) (hj : X.N[j]? = some y := by rfl) (hij : i ≠ j := by decide)
    (hx : X.env.scope.names.lookup x = some .local := by rfl) (hy : X.env.scope.names.lookup y = some .local := by rfl)
    (hw : swappedStores [.Tuple [.Name x px, .Name y py] kt pt] (.Tuple [a, .List [] p0] k2 pt2) X.env = pure (some [x, y]) := by rfl)
    (hs : swapsWithSole [.Tuple [.Name x px, .Name y py] kt pt] (.Tuple [a, .List [] p0] k2 pt2) pos.line X.env = pure false := by rfl)
    (hst : starEach [a, .List [] p0] X.env = (false, eval a X.env) :: starEach [.List [] p0] X.env := by rfl) :
    DS X W (.Assign [.Tuple [.Name x px, .Name y py] kt pt] (.Tuple [a, .List [] p0] k2 pt2) pos) (fun s => (fa s).thn fun d s => .next ((s.put i (.val d)).put j (.own []))) := by
  refine ps_imp (ps_par hc hN hi hj hij hx hy (pa_cons ha (pa_cons (pe_lst pa_nil) pa_nil) hst) hw hs) fun D σ H ⟨va, s, HP, rl, h⟩ => ?_
  refine bindES rl h fun d s1 v H1 HP1 st1 d1 h1 => ?_
  refine ⟨Nat.zero_le _, fun p hp => ⟨v, .ref p, rfl, ?_⟩⟩
  have r1 := st1.rel.put i d1
  have r2 := r1.rel.putOwn j (ds := []) (vs := []) hp (Nat.zero_le _) .nil
  exact h1 _ _ HP1 (r1.trans r2)
end
end DL

namespace XV
open PySem PySem.Spec PyProof.Rows L2
abbrev St := L2.St
/-- at a: an exception of the class at C, with the own dict at d, or none -/
def ExV (H : Hp) (a C : Addr) : Option (Addr × List (Str × V)) → Prop
  | none => H a = some (ExO (.ref C) a)
  | some (d, fs) => H a = some (exo a C (some d)) ∧ H d = some (exd d fs)
section
variable {X : Cx} {pins : List (Addr × Obj)} {σ : St} {H : Hp} {s : Shared} {a C : Addr}
theorem at_none (I : Inv X pins σ H s) (h : H a = some (ExO (.ref C) a)) : ∃ ox : Obj, PySem.W.InstAt s.heap a ox C none := by
  obtain ⟨⟨oe, vs, ho, hz, hd, _⟩, _, _⟩ := I.hok a _ h
  obtain ⟨oc, od, oda, osl⟩ := oe
  obtain ⟨h1, h2⟩ := hz
  dsimp only at h1 h2 hd
  subst h1 h2 hd
  exact ⟨_, ho, rfl, rfl, trivial⟩
theorem at_some {d : Addr} {fs : List (Str × V)} (I : Inv X pins σ H s) (h : H a = some (exo a C (some d))) (hd : H d = some (exd d fs)) :
    ∃ (mA : Str → Option Value) (ox od : Obj), PySem.W.InstAt s.heap a ox C (some od) ∧ s.heap.Ns1 d mA ∧ (∀ f, RelO (fs.lookup f) (mA f)) ∧ s.heap.get? d = some od := by
  obtain ⟨t1, ho⟩ := exo_at I.hok h
  obtain ⟨mA, hns, rel⟩ := exd_at I.hok hd
  obtain ⟨oD, _, _, hoD, _, _⟩ := hns.count (within_of rel)
  exact ⟨mA, _, oD, ⟨ho, rfl, rfl, hoD⟩, hns, rel, hoD⟩
theorem at_any {p : Option (Addr × List (Str × V))} (I : Inv X pins σ H s) (h : ExV H a C p) : ∃ (ox : Obj) (od : Option Obj), PySem.W.InstAt s.heap a ox C od := by
  cases p with
  | none =>
    obtain ⟨ox, J⟩ := at_none I h
    exact ⟨ox, none, J⟩
  | some p =>
    obtain ⟨h1, h2⟩ := h
    obtain ⟨_, ox, od, J, _⟩ := at_some I h1 h2
    exact ⟨ox, some od, J⟩
/-- isinstance(e, c), e an exception held as a value -/
theorem call_isX : CallR X (.builtin "isinstance") (fun xs H Q => ∃ (a D : Addr) (p : Option (Addr × List (Str × V))) (c : V) (cv : Value) (b : Bool), xs = [.ref a, c] ∧ ExV H a D p ∧ (∀ u, RelV c u → u = cv) ∧ ExcC X.K D ∧ PySem.W.kitOne X.K (.ref D) cv = some b ∧ Q (.bl b) H) := by
  intro pins s σ H xs us Q I r h
  obtain ⟨a, D, p, c, cv, b, rfl, hx, hcv, C, e, q⟩ := h
  cases r with
  | cons rx rr =>
    cases rr with
    | cons rt rr =>
      cases rr
      cases rx
      have ec := hcv _ rt
      subst ec
      obtain ⟨ox, od, J⟩ := at_any I hx
      obtain ⟨cd, hcd, _⟩ := PySem.W.any_some C.hd
      exact PySem.W.kia_one (PySem.W.kitx_exc (by rw [hcd]; rfl) C.hg C.hk C.hs C.ha C.hn C.ht C.hm) I.kIn J e (fun z => nomatch z) fun tk => ⟨.bl b, H, I.kept (t' := tk) fun _ _ z => z, rfl, q⟩
/-- e.f, e an exception held as a value, f in its own dict -/
theorem pe_xv {e : Expr} {te : TE} {pos : Pos} {n : Str} (he : PE X e te) (hb : attributeBase e n X.env (eval e X.env) = eval e X.env := by rfl) :
    PE X (.Attribute e n pos) (fun σ H Q => te σ H fun x H1 => ∃ (a C d : Addr) (fs : List (Str × V)) (v : V), x = .ref a ∧ XfC X.K C ∧ PySem.W.findIn X.K (.ref C) n = some none ∧ ExV H1 a C (some (d, fs)) ∧ fs.lookup n = some v ∧ Q v H1) := by
  refine ⟨fun pins s σ H Q I h => ?_⟩
  refine attr_of hb (thn (he.run pins s σ H _ I h) fun u s1 hh => ?_)
  obtain ⟨x, H1, I1, rx, a, C, d, fs, v, ex, T, hno, hv, l, q⟩ := hh
  subst ex
  obtain rfl : u = Value.ref a := rx
  obtain ⟨h1, h2⟩ := hv
  obtain ⟨t1, ho⟩ := exo_at I1.hok h1
  obtain ⟨mA, hns, hr⟩ := exd_at I1.hok h2
  obtain ⟨od, hod, hl⟩ := lookIn_ns hns
  obtain ⟨u, hu, ru⟩ := RelO.some_of (v := v) (o := mA n) (by rw [← l]; exact hr n)
  have J : PySem.W.InstAt s1.heap a { cls := .ref C, dict := some d, data := .fields #[.ref t1, .none, .none, .none, .bool false, .none] } C (some od) := ⟨ho, rfl, rfl, hod⟩
  exact HandSPX.exc_get I1.kIn J T.ga T.gg T.exC (PySem.W.findObj_own T.hdC hno rfl (by rw [hl, hu])) (handed_of ru) ⟨v, H1, I1.tok _, ru, q⟩
/-- B.__init__(self, ..), B an own class over ValueError without __init__ -/
theorem pe_oinit {x : Str} {B : Addr} {mc : Value} {e : Expr} {es : List Expr} {ta : TA} {pl : Sem Bool} {p1 p2 pos : Pos} (hg : Gl X x) (hm : X.mg x = some (.ref B)) (sg : PySem.W.specialIn X.K (.ref B) "__getattribute__" = some (some (.builtin "type.__getattribute__")))
    (hr : PySem.W.readsIn X.K B mc = true) (ef : PySem.W.findCls X.K (.ref B) mc "__init__" = some (.val (.builtin "ValueError.__init__"))) (ha : PA X (e :: es) ta) (hdb : (x == ("__debug__" : Str)) = false := by decide)
    (hc : eval (.Call (.Attribute (.Name x p1) "__init__" p2) (e :: es) [] pos) X.env = (do
      let ov ← eval (.Name x p1) X.env
      standAt p2.atName
      let (f, first) ← holding [ov] (getMethod ov "__init__" pl)
      callWith pos f first (backTo pos (starEach (e :: es) X.env)) (backToKw pos (keywordEach [] X.env))) := by rfl)
    (he : starEach (e :: es) X.env = (false, eval e X.env) :: starEach es X.env := by rfl) (hpl : (backTo pos (starEach es X.env)).any (·.1) = false := by rfl) :
    PE X (.Call (.Attribute (.Name x p1) "__init__" p2) (e :: es) [] pos) (tVeI X.K ta) := by
  refine ⟨fun pins s σ H Q I h => ?_⟩
  refine PySem.W.methodCall_KW (ld_glob I hg hm ?_ hdb) hc
  obtain ⟨m, fr⟩ := I.fr
  refine PySem.W.method_cls I.kIn sg ?_
  refine PySem.W.cls_value I.kIn hr ef (by decide +kernel) ?_
  show wpAny _ _ (callWith pos (Value.builtin "ValueError.__init__") [] (backTo pos (starEach (e :: es) X.env)) []) _ _ _
  refine PyProof.Rows.callWith_method1 (thn (ha.run pos pins _ σ H _ (I.tok _) h) fun us s1 ⟨vs, H1, I1, r1, a, C, ws, ev, hl, T, ea, q⟩ => ?_) he hpl
  subst ev
  cases r1 with
  | @cons _ u0 _ ur ra rw' =>
    obtain rfl : u0 = Value.ref a := ra
    have hlen : ur.length ≤ sizeLine := by
      rw [← Paired.length rw', sizeLine_eq]
      omega
    exact oinit_ok T I1 ea hlen fun s' J => ⟨.non, H1, J, rfl, q⟩
/-- C(e, ..) as a value, C an own exception class over ValueError with an own __init__ that keeps sp -/
theorem pe_oex {CX : CXT} {x : Str} {C fI : Addr} {k : Nat} {fd : FuncData} {ps : List Str} {sp : Sp} {ds : List Value} {dvs : List V} {e : Expr} {es : List Expr} {ta : TA} {p pos : Pos} (T : OexC X.K C) (iC : PySem.W.findIn X.K (.ref C) "__init__" = some (some (.ref fI))) (tI : PySem.W.typeIn X.K (.ref fI) = some (.type "function"))
    (F1 : FnOk X.prog X.w X.K X.mg X.base CX k fI fd ps sp) (hr : Room (k + 1) X.A) (hb : Binds X.K fd ps ds) (hd : Vals dvs ds) (hx : Passes CX X (fun _ _ _ => False)) (hg : Gl X x) (hm : X.mg x = some (.ref C)) (ha : PA X (e :: es) ta)
    (hdb : (x == ("__debug__" : Str)) = false := by decide) (he : starEach (e :: es) X.env = (false, eval e X.env) :: starEach es X.env := by rfl) (hpl : (backTo pos (starEach es X.env)).any (·.1) = false := by rfl) :
    PE X (.Call (.Name x p) (e :: es) [] pos) (fun σ H Q => ta σ H fun vs H1 => vs.length ≤ 1000 ∧ ∀ a, H1 a = none → sp (.ref a :: (vs ++ dvs)) (upd H1 a (exo a C none)) (fun v H2 => v = .non ∧ Q (.ref a) H2) (fun _ _ _ => False)) := by
  refine ⟨fun pins s σ H Q I h => ?_⟩
  obtain ⟨nm, q, N, bs, bm, sn, sub, ab, col, dd, k0, k1, k2, k3, k5, hC, hbm⟩ := T.cls
  refine wpAny_Call_Name_kw (ld_glob I hg hm ?_ hdb)
  refine PySem.W.callWith_K (h₀ := X.base) I.ok.mod.kin T.kC (thn (ha.run pos pins s σ H _ I h) fun us s1 ⟨vs, H1, I1, r1, hz, q1⟩ => ⟨I1.kIn, ?_⟩) he hpl
  show wpAny _ _ (call (.ref C) us) _ _ _
  obtain ⟨hp, g, dr, tk, os⟩ := s1
  have hsz : hp.objs.size ≤ hp.objs.size + 1 := Nat.le_succ _
  have hn : H1 (hp.objs.size + 1) = none := I1.hok.fresh hsz
  have hq := q1 (hp.objs.size + 1) hn
  have kk : ∀ b o, hp.get? b = some o → ((hp.push (PySem.W.kdv_tup us)).push (PySem.HandSPX.excO C hp.objs.size)).get? b = some o := fun b o e => Heap.get?_push_of_some _ (Heap.get?_push_of_some _ e)
  have hget : ((hp.push (PySem.W.kdv_tup us)).push (PySem.HandSPX.excO C hp.objs.size)).get? (hp.objs.size + 1) = some (PySem.HandSPX.excO C hp.objs.size) := by heap_get
  have I2 : Inv X pins σ (upd H1 (hp.objs.size + 1) (exo (hp.objs.size + 1) C none)) ⟨(hp.push (PySem.W.kdv_tup us)).push (PySem.HandSPX.excO C hp.objs.size), g, dr, tk, os⟩ :=
    I1.laid (t' := tk) (a := hp.objs.size + 1) (o := exo (hp.objs.size + 1) C none) (h' := (hp.push (PySem.W.kdv_tup us)).push (PySem.HandSPX.excO C hp.objs.size)) kk hsz (exo_ok hget)
  have r2 : Vals (V.ref (hp.objs.size + 1) :: (vs ++ dvs)) (Value.ref (hp.objs.size + 1) :: (us ++ ds)) := .cons rfl (r1.append hd)
  have hl : (Value.ref (hp.objs.size + 1) :: us ++ ds).length = ps.length := by
    have e := r2.length
    rw [F1.len _ _ _ _ hq] at e
    exact e.symm
  have hus : us.length ≤ sizeLine := by
    rw [← Paired.length r1, sizeLine_eq]
    omega
  refine wpAny_call (PySem.HandSPX.call_own F.excBase_ValueError (fun Y => PySem.HandSPX.refsVE_contains Y bm hbm) (I1.kIn _ _ hC) (PySem.W.looks_findIn I1.kIn iC) (fun self => PySem.W.bind_fn I1.kIn self tI) hus
    (codeAny_mono (F1.run _ X.stack _ _ ⟨Value.ref (hp.objs.size + 1) :: us, []⟩ (Value.ref (hp.objs.size + 1) :: (us ++ ds)) _ _ (fun _ _ _ => False) (hr.make C us []) (I2.env0.make C us []) (hb _ (Value.ref (hp.objs.size + 1) :: us) I2.kIn hl) r2 hq) fun r s' hq' => ?_))
  cases r with
  | error er => exact hx pins σ _ _ er s' I2 hq'
  | ok fl =>
    cases fl with
    | ret u =>
      obtain ⟨v, H2, os2, bare2, un2, hok2, rv, ev, q2⟩ := hq'
      subst ev
      obtain ⟨h2, g2, d2, t2, os'⟩ := s'
      have nha : ∀ {b : Addr} {o : Obj}, hp.get? b = some o → b ≠ hp.objs.size + 1 := fun {b o} z => Nat.ne_of_lt (Nat.lt_of_lt_of_le (Heap.lt_size z) hsz)
      have up : ∀ {b : Addr}, b ≠ hp.objs.size + 1 → H1 b = none → upd H1 (hp.objs.size + 1) (exo (hp.objs.size + 1) C none) b = none := fun {b} hb n => by rw [upd_ne hb]; exact n
      have U : Un (frs X.stack) [] H1 H2 hp h2 := {
        keep := fun b o z n hf hx => un2.keep b o (kk b o z) (up (nha z) n) hf hx
        slot := fun b o z n hf hx => un2.slot b o (kk b o z) (up (nha z) n) hf hx
        free := fun b o z n hx => un2.free b o (kk b o z) (up (nha z) n) hx
        there := fun b o z hx => un2.there b o (kk b o z) hx
        tups := fun b xs z => un2.tups b xs (by rw [upd_ne (ne_of_none z hn)]; exact z)
        frzs := fun b o v z => un2.frzs b o v (by rw [upd_ne (ne_of_none z hn)]; exact z)
        tbls := fun b ps z => un2.tbls b ps (by rw [upd_ne (ne_of_none z hn)]; exact z) }
      have J : Inv X pins σ H2 ⟨h2, g2, d2, t2, os'⟩ := I1.call' (ch := []) os2 U hok2 bare2 (fun b z => absurd z (by simp))
      exact ⟨rv, .ref (hp.objs.size + 1), H2, J, rfl, q2⟩
    | next => exact False.elim hq'
    | brk => exact False.elim hq'
    | cont => exact False.elim hq'
end
end XV

namespace DL
open PySem PySem.Spec PyProof.Rows L2
/-! ## exceptions as values -/
theorem exv_to {H : Hp} {a C : Addr} : ∀ {p : Option Int}, ExV H a C p → ∃ q, XV.ExV H a C q
  | none, h => ⟨none, h⟩
  | some i, ⟨d, h1, h2⟩ => ⟨some (d, _), h1, h2⟩
/-- isinstance of such a value -/
def isX (K : PySem.W.Frag) (L : List Addr) (cv : Value) : D → Option D
  | .exn C _ => if C ∈ L then (PySem.W.kitOne K (.ref C) cv).map .bl else none
  | _ => none
theorem isX_of {K : PySem.W.Frag} {L : List Addr} {cv : Value} {C : Addr} {p : Option Int} {b : Bool} (h : C ∈ L) (k : PySem.W.kitOne K (.ref C) cv = some b) : isX K L cv (.exn C p) = some (.bl b) := by
  show (if C ∈ L then (PySem.W.kitOne K (.ref C) cv).map D.bl else none) = _
  rw [if_pos h, k]
  rfl
def xlim (L : List Addr) : D → Option D
  | .exn C (some i) => if C ∈ L then some (.int i) else none
  | _ => none
section
variable {X : Cx} {W : WX} {a : Expr} {fa : S → R D} {p pos : Pos} {L : List Addr}
theorem isX_inv {K : PySem.W.Frag} {cv : Value} {va : VA} {s s1 : S} {σ : St} {HP H : Hp} {d : D} {Q : VK} (h : PoE X W va s σ HP H (lift (isX K L cv d) s1) Q) : ∃ C q b, d = .exn C q ∧ C ∈ L ∧ PySem.W.kitOne K (.ref C) cv = some b ∧ PoE X W va s σ HP H (.ok (.bl b) s1) Q := by
  cases d <;> try exact h.elim
  rename_i C q
  by_cases hm : C ∈ L
  · cases k : PySem.W.kitOne K (.ref C) cv with
    | none =>
      have e : isX K L cv (.exn C q) = none := by
        show (if C ∈ L then (PySem.W.kitOne K (.ref C) cv).map D.bl else none) = _
        rw [if_pos hm, k]; rfl
      rw [e] at h; exact h.elim
    | some b =>
      rw [isX_of hm k] at h
      exact ⟨C, q, b, rfl, hm, k, h⟩
  · have e : isX K L cv (.exn C q) = none := if_neg hm
    rw [e] at h; exact h.elim
theorem de_isX {y : Str} {py : Pos} {B : Addr} {K : PySem.W.Frag} (hE : ∀ C ∈ L, ExcC K C) (hm : X.mg "isinstance" = none) (hy : X.mg y = some (.ref B)) (ha : DE X W a fa) (hg : Gl X "isinstance" := by rfl) (hgy : Gl X y := by rfl) (hdy : (y == ("__debug__" : Str)) = false := by decide)
    (hv : bootBuiltins "isinstance" = some (.builtin "isinstance") := by decide +kernel)
    (he : starEach [a, .Name y py] X.env = (false, eval a X.env) :: starEach [.Name y py] X.env := by rfl) (he2 : starEach [.Name y py] X.env = (false, eval (.Name y py) X.env) :: starEach [] X.env := by rfl)
    (hpl : (backTo pos (starEach [.Name y py] X.env)).any (·.1) = false := by rfl) (hK : X.K = K := by rfl) : DE X W (.Call (.Name "isinstance" p) [a, .Name y py] [] pos) (fun s => (fa s).bind fun d s => lift (isX K L (.ref B) d) s) := by
  subst hK
  refine pe_imp (pe_callB XV.call_isX hg hm hv (pa_cons ha (pa_cons (pe_glob (v := .ref B) hgy hy rfl hdy) pa_nil he2) he) (by decide) (by decide) he hpl) fun σ H Q h => ?_
  obtain ⟨va, s, HP, rl, h⟩ := h
  refine bindEE rl h fun d s1 v H1 HP1 st1 d1 h1 => ?_
  obtain ⟨C, q, b, rfl, hC, k, h2⟩ := isX_inv h1
  cases d1 with
  | exn hx =>
    obtain ⟨pp, hx⟩ := exv_to (hx.same st1.rel.sub)
    exact ⟨_, C, pp, .ref B, .ref B, b, rfl, hx, fun u hu => hu, hE C hC, k, fin_bl h2 st1.rel⟩
theorem de_isXB {y : Str} {py : Pos} {T : String} {K : PySem.W.Frag} (hE : ∀ C ∈ L, ExcC K C) (hm : X.mg "isinstance" = none) (hmy : X.mg y = none) (hvy : bootBuiltins y = some (.type T)) (ha : DE X W a fa) (hg : Gl X "isinstance" := by rfl) (hgy : Gl X y := by rfl) (hny : y ≠ "__name__" := by decide) (hdy : (y == ("__debug__" : Str)) = false := by decide)
    (hv : bootBuiltins "isinstance" = some (.builtin "isinstance") := by decide +kernel)
    (he : starEach [a, .Name y py] X.env = (false, eval a X.env) :: starEach [.Name y py] X.env := by rfl) (he2 : starEach [.Name y py] X.env = (false, eval (.Name y py) X.env) :: starEach [] X.env := by rfl)
    (hpl : (backTo pos (starEach [.Name y py] X.env)).any (·.1) = false := by rfl) (hK : X.K = K := by rfl) : DE X W (.Call (.Name "isinstance" p) [a, .Name y py] [] pos) (fun s => (fa s).bind fun d s => lift (isX K L (.type T) d) s) := by
  subst hK
  refine pe_imp (pe_callB XV.call_isX hg hm hv (pa_cons ha (pa_cons (pe_bltn (v := .ty T) hgy hmy hvy rfl hny hdy) pa_nil he2) he) (by decide) (by decide) he hpl) fun σ H Q h => ?_
  obtain ⟨va, s, HP, rl, h⟩ := h
  refine bindEE rl h fun d s1 v H1 HP1 st1 d1 h1 => ?_
  obtain ⟨C, q, b, rfl, hC, k, h2⟩ := isX_inv h1
  cases d1 with
  | exn hx =>
    obtain ⟨pp, hx⟩ := exv_to (hx.same st1.rel.sub)
    exact ⟨_, C, pp, .ty T, .type T, b, rfl, hx, fun u hu => hu, hE C hC, k, fin_bl h2 st1.rel⟩
theorem exO_tbl {cls : Value} {a : Addr} : ∀ ps, ExO cls a ≠ .tbl ps := fun ps z => by
  have z' : HO.ext _ = HO.tbl ps := z
  cases z'
theorem exd_tbl {fs : List (Str × V)} {a : Addr} : ∀ ps, exd a fs ≠ .tbl ps := fun ps z => by
  have z' : HO.ext _ = HO.tbl ps := z
  cases z'
/-- C(e), C an own exception class without own __init__ -/
theorem de_new1 {x : Str} {C : Addr} {bmB : List Value} {B newId initId : String} (F : ExcBaseFacts B newId initId bmB) (q : PySem.W.excIn X.K C bmB newId = true) (gC : X.mg x = some (.ref C)) (kC : PySem.W.keepIn X.K (.ref C) = true) (ha : DE X W a fa) (hg : Gl X x := by rfl)
    (hs : starEach [a] X.env = (false, eval a X.env) :: starEach [] X.env := by rfl) (hdb : (x == ("__debug__" : Str)) = false := by decide) : DE X W (.Call (.Name x p) [a] [] pos) (fun s => (fa s).bind fun _ s => .ok (.exn C none) s) := by
  refine pe_imp (pe_exc1 F q gC kC hg ha hs hdb) fun σ H Q h => ?_
  obtain ⟨va, s, HP, rl, h⟩ := h
  refine bindEE rl h fun d s1 v H1 HP1 st1 d1 h1 => ?_
  intro b hb
  exact h1.fin_at (st1.rel.laid hb exO_tbl) (.exn upd_same)
/-- what the __init__ of such a class promises: the field limit -/
def spLim (C : Addr) : Sp := fun vs H R _ => ∃ a y, vs = [.ref a, y] ∧ H a = some (exo a C none) ∧ ∀ dx, H dx = none → dx ≠ a → R .non (upd (upd H dx (exd dx [(("limit" : Str), y)])) a (exo a C (some dx)))
def newI (C : Addr) (d : D) (s : S) : R D := match d with
  | .int i => .ok (.exn C (some i)) s
  | _ => .stuck
theorem upd_upd3 {H : Hp} {a d : Addr} {o u w : HO} (h : d ≠ a) : upd (upd (upd H a o) d u) a w = upd (upd H d u) a w := by
  funext b
  by_cases e : b = a
  · rw [e, upd_same, upd_same]
  · rw [upd_ne e, upd_ne e]
    by_cases e2 : b = d
    · rw [e2, upd_same, upd_same]
    · rw [upd_ne e2, upd_ne e2, upd_ne e]
/-- C(e), C an own exception class whose __init__ notes the limit -/
theorem de_newI {x : Str} {C fI : Addr} {k j : Nat} {fd : FuncData} {ps : List Str} (T : OexC X.K C) (iC : PySem.W.findIn X.K (.ref C) "__init__" = some (some (.ref fI))) (tI : PySem.W.typeIn X.K (.ref fI) = some (.type "function"))
    (F1 : FnOk X.prog X.w X.K X.mg X.base CX0 k fI fd ps (spLim C)) (hr : Room j X.A) (hk : k + 1 ≤ j) (hb : Binds X.K fd ps []) (hm : X.mg x = some (.ref C)) (ha : DE X W a fa) (hg : Gl X x := by rfl)
    (hdb : (x == ("__debug__" : Str)) = false := by decide) (he : starEach [a] X.env = (false, eval a X.env) :: starEach [] X.env := by rfl) (hpl : (backTo pos (starEach [] X.env)).any (·.1) = false := by rfl) :
    DE X W (.Call (.Name x p) [a] [] pos) (fun s => (fa s).bind fun d s => newI C d s) := by
  refine pe_imp (XV.pe_oex T iC tI F1 (hr.mono hk) hb .nil pass0 hg hm (pa_cons ha pa_nil he) hdb he hpl) fun σ H Q h => ?_
  obtain ⟨va, s, HP, rl, h⟩ := h
  refine bindEE rl h fun d s1 v H1 HP1 st1 d1 h1 => ?_
  cases d <;> try exact h1.elim
  rename_i i
  cases d1
  refine ⟨by show 1 ≤ 1000; decide, fun b hb => ⟨b, .int i, rfl, upd_same, fun dx hd ne => ⟨rfl, ?_⟩⟩⟩
  rw [upd_ne ne] at hd
  rw [upd_upd3 ne]
  have st2 := st1.rel.laid (p := dx) (o := exd dx [(("limit" : Str), .int i)]) hd exd_tbl
  have st3 := st2.rel.laid (p := b) (o := exo b C (some dx)) (by rw [upd_ne (Ne.symm ne)]; exact hb) (fun ps => exo_tbl)
  exact h1.fin_at (st2.trans st3) (.exn ⟨dx, upd_same, by rw [upd_ne ne, upd_same]⟩)
/-- e.limit -/
theorem de_lim (hE : ∀ C ∈ L, XfC X.K C ∧ PySem.W.findIn X.K (.ref C) "limit" = some none) (ha : DE X W a fa) (hb : attributeBase a "limit" X.env (eval a X.env) = eval a X.env := by rfl) : DE X W (.Attribute a "limit" pos) (fun s => (fa s).bind fun d s => lift (xlim L d) s) := by
  refine pe_imp (XV.pe_xv ha hb) fun σ H Q h => ?_
  obtain ⟨va, s, HP, rl, h⟩ := h
  refine bindEE rl h fun d s1 v H1 HP1 st1 d1 h1 => ?_
  cases d <;> try exact h1.elim
  rename_i C q
  cases q with
  | none => exact h1.elim
  | some i =>
    by_cases hm : C ∈ L
    · have e : xlim L (.exn C (some i)) = some (.int i) := if_pos hm
      rw [e] at h1
      cases d1 with
      | exn hx =>
        obtain ⟨dd, x1, x2⟩ := hx.same st1.rel.sub
        exact ⟨_, C, dd, _, .int i, rfl, (hE C hm).1, (hE C hm).2, ⟨x1, x2⟩, by simp [List.lookup], fin_int h1 st1.rel⟩
    · have e : xlim L (.exn C (some i)) = none := if_neg hm
      rw [e] at h1; exact h1.elim
end
end DL

namespace DL
open PySem PySem.Spec PyProof.Rows L2
/-! ## enumerate of a list -/
def enumD : Nat → List D → List D
  | _, [] => []
  | k, d :: ds => .tup [.int (k : Int), d] :: enumD (k + 1) ds
theorem enumD_len : ∀ (ds : List D) (k : Nat), (enumD k ds).length = ds.length
  | [], _ => rfl
  | d :: ds, k => by simp [enumD, enumD_len ds (k + 1)]
theorem enumD_get : ∀ (ds : List D) (k i : Nat), (enumD k ds)[i]? = ds[i]?.map fun d => .tup [.int ((k + i : Nat) : Int), d]
  | [], k, i => by simp [enumD]
  | d :: ds, k, 0 => by simp [enumD]
  | d :: ds, k, i + 1 => by
    simp only [enumD, List.getElem?_cons_succ]
    rw [enumD_get ds (k + 1) i, show k + 1 + i = k + (i + 1) by omega]
theorem walks_enum {K : PySem.W.Frag} {HP0 : Hp} {a : Addr} {vs : List V} {ds : List D} (h : HP0 a = some (.lst vs)) (dv : DvA K HP0 vs ds) : Walks K (Ite K a) (enumD 0 ds) HP0 := fun i HP H e1 e2 => by
  have q : SqL K H a vs := SqL.of (e2 _ _ (e1 _ _ h))
  refine ⟨fun d hd => ?_, fun hi => ⟨vs, q, by rw [dv.length]; rw [enumD_len] at hi; exact hi⟩⟩
  rw [enumD_get, Option.map_eq_some_iff] at hd
  obtain ⟨d0, hd0, rfl⟩ := hd
  obtain ⟨v, h1, h2⟩ := dv.getD hd0
  refine ⟨⟨vs, v, q, h1⟩, fun x H' ⟨t, y, y1, y2, y3, y4⟩ => ?_⟩
  subst y1 y3
  have := y4 vs q
  rw [h1] at this
  cases this
  have nP : HP t = none := e2.free y2
  have sm : Same HP (upd HP t (.tup [.int (i : Nat), v])) := fun b o e => by rw [upd_ne (ne_of_none e nP)]; exact e
  refine ⟨upd HP t (.tup [.int (i : Nat), v]), ?_, fun va s σ r => r.laid y2⟩
  rw [Nat.zero_add]
  exact .tup upd_same (by rw [sizeLine_eq]; show 2 ≤ 16777216; decide) (.cons (.int _) (.cons (Dv.mono (e1.trans sm) d0 v h2) .nil))
def toEn (ds : List D) (s : S) : R (List D) := match ds with
  | [.lst xs] => .ok (enumD 0 xs) s
  | _ => .stuck
@[simp] theorem toEn_lst (xs : List D) (s : S) : toEn [.lst xs] s = .ok (enumD 0 xs) s := rfl
theorem di_enum {X : Cx} {W : WX} {a : Expr} {ga : S → R (List D)} {pos p tpos : Pos} {elts : List Expr} {kk : Nat} (hg : Gl X "enumerate") (hm : X.mg "enumerate" = none) (ha : DA X W [a] ga) (hs : starEach [a] X.env = [(false, eval a X.env)] := by rfl) :
    DI X W (.Tuple elts kk tpos) (.Call (.Name "enumerate" p) [a] [] pos) (fun s => (ga s).bind toEn) := by
  refine ⟨fun pins s σ H Q I h => ?_⟩
  obtain ⟨va, st, HP, rl, h⟩ := h
  dsimp only at h
  refine (pi_enum hg hm ha hs).run pins s σ H Q I (bindA rl (fun ds s1 vs H1 HP1 e st1 d1 => ?_) (fun n p s' dd H' HP' C e stp z m => ?_) (fun e => ?_)) <;> simp only [e, R.bind_ok, R.bind_exc, R.bind_stuck] at h
  · unfold toEn at h
    split at h
    · rename_i xs
      cases d1 with
      | cons h1 h2 =>
        cases h2
        cases h1 with
        | @lst b us _ g1 gz g2 => exact ⟨b, us, rfl, SqL.of (st1.rel.sub _ _ g1), h (Ite X.K b) H1 HP1 st1 (by rw [enumD_len]; exact gz) (walks_enum g1 g2)⟩
    · exact h.elim
  · exact h dd H' HP' C stp z m
  · exact h
theorem ds_ownL {X : Cx} {W : WX} {es : List Expr} {ga : S → R (List D)} {pos p0 : Pos} (i : Nat) {x : Str} {pos' : Pos} (hN : X.N.Nodup) (ha : DA X W es ga) (hi : X.N[i]? = some x := by rfl) (hx : Loc X.env.scope x := by first | exact Or.inl rfl | exact Or.inr rfl)
    (hs : swapsWith (.List es pos) (some (.Name x pos')) pos.line X.env = pure false := by rfl)
    (hf : X.fn x = true ∨ X.env.scope.names.lookup x = some .local := by first | exact .inl rfl | exact .inr rfl | assumption) (hs' : swapsWith (.List es p0) (some (.Name x pos')) pos.line X.env = pure false := by rfl) :
    DS X W (.Assign [.Name x pos'] (.List es p0) pos) (fun s => (ga s).thn fun ds s => if ds.length ≤ sizeLine then .next (s.put i (.own ds)) else .stuck) := ds_own i hN ha hi hx hs hf hs'
end DL

namespace X
open PySem PySem.Spec PyProof.Rows L2 DL
section
variable {P : Program} {w : World} {K : PySem.W.Frag} {mg : Str → Option Value} {base : Heap}
def topS (i : Nat) : Stmt := PySem.Challenge.pw_runsplits_k15_errors_and_their_classes.main.body.getD i (.Pass ⟨0, 0, 0, 0⟩)
abbrev s__law_vial_of : Stmt := topS 16
abbrev n__law_vial_of : List Str := ["_law_script", "_law_k", "_law_cell"]
abbrev p__law_vial_of : List Str := ["_law_script", "_law_k"]
theorem sc__law_vial_of : FnScope n__law_vial_of p__law_vial_of (defScope s__law_vial_of) := ⟨rfl, rfl, rfl, by decide +kernel, rfl, by decide +kernel, by decide +kernel⟩
abbrev s__law_drop : Stmt := topS 17
abbrev n__law_drop : List Str := ["_law_vial", "_law_many", "_law_found", "_law_wide"]
abbrev p__law_drop : List Str := ["_law_vial", "_law_many"]
theorem sc__law_drop : FnScope n__law_drop p__law_drop (defScope s__law_drop) := ⟨rfl, rfl, rfl, by decide +kernel, rfl, by decide +kernel, by decide +kernel⟩
abbrev s__law_some : Stmt := topS 18
abbrev n__law_some : List Str := ["_law_vial", "_law_things"]
abbrev p__law_some : List Str := ["_law_vial", "_law_things"]
theorem sc__law_some : FnScope n__law_some p__law_some (defScope s__law_some) := ⟨rfl, rfl, rfl, by decide +kernel, rfl, by decide +kernel, by decide +kernel⟩
abbrev s__law_kinds : Stmt := topS 19
abbrev n__law_kinds : List Str := ["_law_e", "_law_told"]
abbrev p__law_kinds : List Str := ["_law_e"]
theorem sc__law_kinds : FnScope n__law_kinds p__law_kinds (defScope s__law_kinds) := ⟨rfl, rfl, rfl, by decide +kernel, rfl, by decide +kernel, by decide +kernel⟩
abbrev s_law : Stmt := topS 20
abbrev n_law : List Str := ["_law_script", "_law_k", "_law_vial", "_law_word", "_law_number", "_law_made", "_law_at", "_law_e", "_law_other"]
abbrev p_law : List Str := ["_law_script"]
theorem sc_law : FnScope n_law p_law (defScope s_law) := ⟨rfl, rfl, rfl, by decide +kernel, rfl, by decide +kernel, by decide +kernel⟩
structure Bl (mg : Str → Option Value) : Prop where
  «isinstance» : mg "isinstance" = none
  «int» : mg "int" = none
  «len» : mg "len" = none
  «min» : mg "min" = none
  «abs» : mg "abs" = none
  «range» : mg "range" = none
  «enumerate» : mg "enumerate" = none
  «ValueError» : mg "ValueError" = none
abbrev sInit : Stmt := inClass (topS 14) 0
theorem scI : FnScope ["self", "limit"] ["self", "limit"] (defScope sInit) := ⟨rfl, rfl, rfl, by decide +kernel, rfl, by decide +kernel, by decide +kernel⟩
theorem tm_ok {f C S : Addr} {mc : Value} {fd : FuncData} (F : Fun K "__init__" "TooMany.__init__" sInit f fd) (T : OexC K C) (noL : PySem.W.findIn K (.ref C) "limit" = some none) (gS : mg "SplitError" = some (.ref S)) (sg : PySem.W.specialIn K (.ref S) "__getattribute__" = some (some (.builtin "type.__getattribute__")))
    (rd : PySem.W.readsIn K S mc = true) (ef : PySem.W.findCls K (.ref S) mc "__init__" = some (.val (.builtin "ValueError.__init__"))) : FnOk P w K mg base CX0 1 f fd ["self", "limit"] (spLim C) := by
  refine F.ok scI (fun vs H Q E h => ?_) (fun cdv A outer s H vs Q E hr h => ?_)
  · obtain ⟨a, y, rfl, _⟩ := h
    rfl
  · obtain ⟨a, y, rfl, ha, k⟩ := h
    refine ⟨_, pss_cons (ps_expr (XV.pe_oinit rfl gS sg rd ef (pa_cons (pv 0) (pa_cons pe_str pa_nil)))) (pss_one (ps_ost (pv 0) (pv 1))), ?_⟩
    refine ⟨_, rfl, a, C, [.str "too many calls"], rfl, by show 1 ≤ 1000; decide, T, ha, ?_⟩
    refine ⟨_, rfl, _, rfl, a, C, rfl, T, noL, .inl ⟨ha, fun dx hd ne => ?_⟩⟩
    exact k dx hd ne
end
end X

namespace X
open PySem PySem.Spec PyProof.Rows L2 DL
section
variable {P : Program} {w : World} {K : PySem.W.Frag} {mg : Str → Option Value} {base : Heap}
/-! ## what is drawn -/
def VOK (v : List D) : Prop := ∃ c n : Int, v = [.int c, .int n] ∧ 0 ≤ c ∧ 0 ≤ n ∧ n ≤ 2147482621
def P_drop (m : FM) : Prop := ∀ (v : List D) (many : Int), VOK v → 1 ≤ many → many ≤ 67108864 → ∃ x v', m [.int many] (some v) = .ok (.int x) (some v') ∧ 0 ≤ x ∧ x < many ∧ VOK v'
theorem small_log {i : Int} {k : Nat} (h : i.natAbs < 2 ^ k) : i.natAbs.log2 ≤ k := by
  rcases Nat.eq_zero_or_pos i.natAbs with e | e
  · rw [e]; simp
  · exact Nat.le_of_lt ((Nat.log2_lt (by omega)).mpr h)
theorem okm {i j : Int} (h : i.natAbs < 2 ^ 100) (h2 : j.natAbs < 2 ^ 100) : okMul i j = true := by
  have := small_log h
  have := small_log h2
  unfold okMul
  exact decide_eq_true (by omega)
theorem mulI {i j : Int} (h : i.natAbs < 2 ^ 100) (h2 : j.natAbs < 2 ^ 100) : opMul (.int i) (.int j) = some (.int (i * j)) := mul_ok i j (okm h h2)
theorem divI {i j : Int} (h : 0 < j) (h2 : j.natAbs < 2 ^ 100) : opDiv (.int i) (.int j) = some (.int (i / j)) := div_pos i j h (by have := small_log h2; omega)
theorem div65777 (i : Int) : opDiv (.int i) (.int 65777) = some (.int (i / 65777)) := divI (by decide) (by decide)
theorem mul16519 (i : Int) (h : 0 ≤ i) (h2 : i ≤ 2147482621) : opMul (.int i) (.int 16519) = some (.int (i * 16519)) := mulI (by omega) (by decide)
theorem mul8192 (i : Int) (h : 0 ≤ i) (h2 : i ≤ 1000000000000) : opMul (.int i) (.int 8192) = some (.int (i * 8192)) := mulI (by omega) (by decide)
theorem modL (i j : Int) (h : 0 < j) : opMod (.int i) (.int j) = some (.int (i % j)) := mod_pos i j h
theorem ok__law_drop (B : Bl mg) (Th : There K mg "_law_drop" s__law_drop p__law_drop) : ∃ m, Has P w K mg base 1 "_law_drop" p__law_drop m ∧ P_drop m := by
  refine ⟨_, has_any Th sc__law_drop fun f cdv A outer s H E hr tk hp => (dss_cons (ds_if (dt_cmp od_gt (de_ixr 0 de_int) de_int (nomark _)) (dss_cons (ds_set 2 sc__law_drop.nd (de_op od_mod (de_callT cd_int B.int PyProof.Rows.boot_int (da_cons (de_ixr 0 de_int) da_nil)) (de_v 1)))
      (dss_cons (ds_setr 0 (de_op od_div (de_ixr 0 de_int) (de_v 1)) de_int)
      (dss_one (ds_ret (de_v 2))))) dss_nil)
    (dss_cons (ds_asg (de_tup (da_cons de_int (da_cons de_int da_nil))) (dg_tup (n := 2) rfl (dgs_cons (dg_v 2 sc__law_drop.nd) (dgs_cons (dg_v 3 sc__law_drop.nd) dgs_nil))))
    (dss_cons (ds_while 3 hp (dt_w (dw_or (dt_cmp od_lt (de_v 3) (de_v 1) (nomark _)) (dw_or1 (dt_cmp (od_eq hr) (de_v 3) de_int (nomark _))))) (dss_cons (ds_setr 0 (de_op od_mod (de_callT cd_int B.int PyProof.Rows.boot_int (da_cons (de_op od_add (de_op od_mul (de_ixr 0 de_int) de_int) de_int) da_nil)) de_int) de_int)
      (dss_cons (ds_set 2 sc__law_drop.nd (de_op od_add (de_op od_mul (de_v 2) de_int) (de_op od_mod (de_callT cd_int B.int PyProof.Rows.boot_int (da_cons (de_op od_div (de_ixr 0 de_int) de_int) da_nil)) de_int)))
      (dss_one (ds_set 3 sc__law_drop.nd (de_op od_mul (de_v 3) de_int))))))
    (dss_one (ds_ret (de_op od_mod (de_callT cd_int B.int PyProof.Rows.boot_int (da_cons (de_v 2) da_nil)) (de_v 1))))))), ?_⟩
  rintro v many ⟨c, n, rfl, c0, n0, n1⟩ h1 h2
  have hp : 0 < many := by omega
  by_cases hc : 0 < c
  · refine ⟨c % many, [.int (c / many), .int n], ?_, Int.emod_nonneg _ (by omega), Int.emod_lt_of_pos _ hp, c / many, n, rfl, Int.ediv_nonneg c0 (by omega), n0, n1⟩
    simp [ixR, hc, mod_pos _ _ hp, divI (i := c) hp (by omega), setR, ixN]
  · have b1 : 0 ≤ (n * 16519 + 149) % 2147482621 := Int.emod_nonneg _ (by decide)
    have b2 : (n * 16519 + 149) % 2147482621 < 2147482621 := Int.emod_lt_of_pos _ (by decide)
    have b3 : (n * 16519 + 149) % 2147482621 ≤ 2147482621 := by omega
    have b4 : 0 ≤ ((n * 16519 + 149) % 2147482621 * 16519 + 149) % 2147482621 := Int.emod_nonneg _ (by decide)
    have b5 : ((n * 16519 + 149) % 2147482621 * 16519 + 149) % 2147482621 < 2147482621 := Int.emod_lt_of_pos _ (by decide)
    have b6 : 0 ≤ (n * 16519 + 149) % 2147482621 / 65777 % 8192 := Int.emod_nonneg _ (by decide)
    have b7 : (n * 16519 + 149) % 2147482621 / 65777 % 8192 ≤ 1000000000000 := by
      have := Int.emod_lt_of_pos ((n * 16519 + 149) % 2147482621 / 65777) (show (0 : Int) < 8192 by decide)
      omega
    by_cases hm : many ≤ 8192
    · have hm' : ¬ (8192 < many) := by omega
      by_cases hm2 : 1 < many
      all_goals
        simp [ixR, hc, unT, whl3, whl2, whl1, whlK_true, whlK_false, mul16519 n n0 n1, modL, setR, ixN, mul8192, div65777, hm', hm2, mod_pos _ _ hp]
        exact ⟨_, _, ⟨rfl, rfl⟩, Int.emod_nonneg _ (by omega), Int.emod_lt_of_pos _ hp, _, _, rfl, c0, b1, b3⟩
    · have hm' : 8192 < many := by omega
      have hm2 : 1 < many := by omega
      have hm3 : ¬ (67108864 < many) := by omega
      simp [ixR, hc, unT, whl3, whl2, whl1, whlK_true, whlK_false, mul16519 n n0 n1, modL, setR, ixN, mul8192, div65777, hm', hm2, hm3, mod_pos _ _ hp, mul16519 _ b1 b3, mul8192 _ b6 b7]
      exact ⟨_, _, ⟨rfl, rfl⟩, Int.emod_nonneg _ (by omega), Int.emod_lt_of_pos _ hp, _, _, rfl, c0, b4, by omega⟩
def P_some (m : FM) : Prop := ∀ (v xs : List D), VOK v → xs ≠ [] → xs.length ≤ 67108864 → ∃ d v', m [.lst xs] (some v) = .ok d (some v') ∧ d ∈ xs ∧ VOK v'
theorem ok__law_some (B : Bl mg) (h_law_drop : ∃ m, Has P w K mg base 1 "_law_drop" p__law_drop m ∧ P_drop m) (Th : There K mg "_law_some" s__law_some p__law_some) : ∃ m, Has P w K mg base 2 "_law_some" p__law_some m ∧ P_some m := by
  obtain ⟨m1, h__law_drop, p1⟩ := h_law_drop
  refine ⟨_, has_any Th sc__law_some fun f cdv A outer s H E hr tk hp => (dss_one (ds_ret (de_ix (de_v 1) (dcv 0 h__law_drop tk (hr.mono (by decide)) (da_cons (de_callB cd_len B.len PySem.boot_len (da_cons (de_v 1) da_nil)) da_nil))))), ?_⟩
  intro v xs hv hx hl
  have hpos : 0 < xs.length := List.length_pos_iff.mpr hx
  obtain ⟨x, v', e, x0, x1, hv'⟩ := p1 v xs.length hv (by omega) (by omega)
  have hx' : x.toNat < xs.length := by omega
  refine ⟨xs[x.toNat], v', ?_, List.getElem_mem hx', hv'⟩
  simp [e, at_of _ _ x0, List.getElem?_eq_getElem hx']

def P_vial (m : FM) : Prop := ∀ (ns : List Int) (k : Int), 0 ≤ k → k ≤ 8 → ∃ v, m [.scr ns, .int k] none = .own v none ∧ VOK v
def T60 : Int := 10 ^ 60
def T120 : Int := 10 ^ 120
def T180 : Int := 10 ^ 180
def T240 : Int := 10 ^ 240
theorem p60 : opPow (.int 10) (.int 60) = some (.int T60) := by rw [pow_ok 10 60 (by decide)]; rfl
theorem p18 : opPow (.int 10) (.int 18) = some (.int 1000000000000000000) := by rw [pow_ok 10 18 (by decide)]; rfl
theorem m120 : opMul (.int T60) (.int T60) = some (.int T120) := by rw [mul_ok _ _ (by decide +kernel)]; rfl
theorem m180 : opMul (.int T120) (.int T60) = some (.int T180) := by rw [mul_ok _ _ (by decide +kernel)]; rfl
theorem m240 : opMul (.int T180) (.int T60) = some (.int T240) := by rw [mul_ok _ _ (by decide +kernel)]; rfl
theorem md240 (i : Int) : opMod (.int i) (.int T240) = some (.int (i % T240)) := mod_pos i _ (by decide +kernel)
theorem md_m (i : Int) : opMod (.int i) (.int 1000313) = some (.int (i % 1000313)) := mod_pos i _ (by decide +kernel)
theorem md_p (i : Int) : opMod (.int i) (.int 2147482621) = some (.int (i % 2147482621)) := mod_pos i _ (by decide +kernel)
theorem ok__law_vial_of (B : Bl mg) (Th : There K mg "_law_vial_of" s__law_vial_of p__law_vial_of) : ∃ m, Has P w K mg base 1 "_law_vial_of" p__law_vial_of m ∧ P_vial m := by
  refine ⟨_, has_any Th sc__law_vial_of fun f cdv A outer s H E hr tk hp => (dss_cons (ds_set 2 sc__law_vial_of.nd (de_op od_add (de_op od_mul de_int (de_v 1)) de_int))
    (dss_cons (ds_if (dt_cmp od_lt (de_v 1) (de_callB cd_len B.len PySem.boot_len (da_cons (de_v 0) da_nil)) (nomark _)) (dss_one (ds_set 2 sc__law_vial_of.nd (de_op od_mod (de_callB cd_abs B.abs PyProof.Rows.boot_abs (da_cons (de_callT cd_int B.int PyProof.Rows.boot_int (da_cons (de_ix (de_v 0) (de_v 1)) da_nil)) da_nil)) (de_op od_mul (de_op od_mul (de_op od_mul (de_op od_pow de_int de_int) (de_op od_pow de_int de_int)) (de_op od_pow de_int de_int)) (de_op od_pow de_int de_int))))) (dss_one (ds_if (dt_cmp od_gt (de_callB cd_len B.len PySem.boot_len (da_cons (de_v 0) da_nil)) de_int (nomark _)) (dss_one (ds_set 2 sc__law_vial_of.nd (de_op od_add (de_v 2) (de_op od_mod (de_callB cd_abs B.abs PyProof.Rows.boot_abs (da_cons (de_callT cd_int B.int PyProof.Rows.boot_int (da_cons (de_ix (de_v 0) de_int) da_nil)) da_nil)) de_int)))) dss_nil)))
    (dss_one (ds_retO (da_cons (de_if (dt_cmp od_ge (de_v 2) (de_op od_pow de_int de_int) (nomark _)) (de_v 2) de_int) (da_cons (de_op od_add (de_op od_mod (de_callT cd_int B.int PyProof.Rows.boot_int (da_cons (de_op od_add (de_op od_add (de_op od_mul (de_op od_mod (de_v 2) de_int) de_int) (de_op od_mul de_int (de_v 1))) de_int) da_nil)) de_int) de_int) da_nil)))))), ?_⟩
  intro ns k k0 k1
  have e35 : opMul (.int 35023) (.int k) = some (.int (35023 * k)) := mulI (by decide) (by omega)
  have e137 : opMul (.int 137) (.int k) = some (.int (137 * k)) := mulI (by decide) (by omega)
  have e47 : ∀ c : Int, opMul (.int (c % 2147482621)) (.int 47) = some (.int (c % 2147482621 * 47)) := fun c => mulI (by omega) (by decide)
  have vok : ∀ c : Int, 0 ≤ c → VOK [.int c, .int ((c % 2147482621 * 47 + 137 * k + 83) % 2147482621 + 1)] ∧ VOK [.int 0, .int ((c % 2147482621 * 47 + 137 * k + 83) % 2147482621 + 1)] := fun c hc =>
    ⟨⟨_, _, rfl, by omega, by omega, by omega⟩, _, _, rfl, by omega, by omega, by omega⟩
  have s2 : 2 ≤ sizeLine := by decide +kernel
  by_cases h1 : k < ns.length
  · have hl : k.toNat < ns.length := by omega
    have hx : ns[k.toNat]? = some ns[k.toNat] := List.getElem?_eq_getElem hl
    generalize ns[k.toNat] = x at hx
    have c0 : 0 ≤ (if x < 0 then -x else x) % T240 := Int.emod_nonneg _ (by decide +kernel)
    generalize hc : (if x < 0 then -x else x) % T240 = c at c0
    by_cases h3 : (1000000000000000000 : Int) ≤ c
    · refine ⟨_, ?_, (vok c c0).1⟩
      simp [e35, h1, p60, p18, m120, m180, m240, DL.at_of _ _ k0, hx, md240, hc, md_p, e47, e137, h3, s2]
    · refine ⟨_, ?_, (vok c c0).2⟩
      simp [e35, h1, p60, p18, m120, m180, m240, DL.at_of _ _ k0, hx, md240, hc, md_p, e47, e137, h3, s2]
  · by_cases h2 : 0 < ns.length
    · obtain ⟨x, hx⟩ : ∃ x, ns[0]'h2 = x := ⟨_, rfl⟩
      have x0 : 0 ≤ (if x < 0 then -x else x) % 1000313 ∧ (if x < 0 then -x else x) % 1000313 < 1000313 := by omega
      have c0 : 0 ≤ 35023 * k + 71 + (if x < 0 then -x else x) % 1000313 := by omega
      have c1 : 35023 * k + 71 + (if x < 0 then -x else x) % 1000313 ≤ 9999999 := by omega
      have h3 : ¬ (1000000000000000000 : Int) ≤ 35023 * k + 71 + (if x < 0 then -x else x) % 1000313 := by omega
      refine ⟨_, ?_, (vok _ c0).2⟩
      simp [e35, h1, h2, p18, hx, md_m, md_p, e47, e137, h3, s2]
    · refine ⟨_, ?_, (vok (35023 * k + 71) (by omega)).2⟩
      have h3 : ¬ (1000000000000000000 : Int) ≤ 35023 * k + 71 := by omega
      simp [e35, h1, h2, p18, md_p, e47, e137, h3, s2]
end
end X

namespace X
open PySem PySem.Spec PyProof.Rows L2 DL
section
variable {P : Program} {w : World} {K : PySem.W.Frag} {mg : Str → Option Value} {base : Heap}
/-! ## the classes -/
structure Xs (P : Program) (w : World) (K : PySem.W.Frag) (mg : Str → Option Value) (base : Heap) : Type where
  c_InvalidBook : Addr
  c_InvalidRun : Addr
  c_InvalidMark : Addr
  c_InvalidTime : Addr
  c_InvalidTelling : Addr
  c_InvalidTruth : Addr
  c_InvalidPaper : Addr
  c_InvalidIndex : Addr
  c_InvalidText : Addr
  c_NoTruth : Addr
  c_Unlike : Addr
  c_NothingToUndo : Addr
  c_TooMany : Addr
  c_SplitError : Addr
  g_InvalidBook : mg "InvalidBook" = some (.ref c_InvalidBook)
  g_InvalidRun : mg "InvalidRun" = some (.ref c_InvalidRun)
  g_InvalidMark : mg "InvalidMark" = some (.ref c_InvalidMark)
  g_InvalidTime : mg "InvalidTime" = some (.ref c_InvalidTime)
  g_InvalidTelling : mg "InvalidTelling" = some (.ref c_InvalidTelling)
  g_InvalidTruth : mg "InvalidTruth" = some (.ref c_InvalidTruth)
  g_InvalidPaper : mg "InvalidPaper" = some (.ref c_InvalidPaper)
  g_InvalidIndex : mg "InvalidIndex" = some (.ref c_InvalidIndex)
  g_InvalidText : mg "InvalidText" = some (.ref c_InvalidText)
  g_NoTruth : mg "NoTruth" = some (.ref c_NoTruth)
  g_Unlike : mg "Unlike" = some (.ref c_Unlike)
  g_NothingToUndo : mg "NothingToUndo" = some (.ref c_NothingToUndo)
  g_TooMany : mg "TooMany" = some (.ref c_TooMany)
  g_SplitError : mg "SplitError" = some (.ref c_SplitError)
  q_InvalidBook : PySem.W.excIn K c_InvalidBook [.type "ValueError", .type "Exception", .type "BaseException", .type "object"] "ValueError.__new__" = true
  k_InvalidBook : PySem.W.keepIn K (.ref c_InvalidBook) = true
  q_InvalidRun : PySem.W.excIn K c_InvalidRun [.type "ValueError", .type "Exception", .type "BaseException", .type "object"] "ValueError.__new__" = true
  k_InvalidRun : PySem.W.keepIn K (.ref c_InvalidRun) = true
  q_InvalidMark : PySem.W.excIn K c_InvalidMark [.type "ValueError", .type "Exception", .type "BaseException", .type "object"] "ValueError.__new__" = true
  k_InvalidMark : PySem.W.keepIn K (.ref c_InvalidMark) = true
  q_InvalidTime : PySem.W.excIn K c_InvalidTime [.type "ValueError", .type "Exception", .type "BaseException", .type "object"] "ValueError.__new__" = true
  k_InvalidTime : PySem.W.keepIn K (.ref c_InvalidTime) = true
  q_InvalidTelling : PySem.W.excIn K c_InvalidTelling [.type "ValueError", .type "Exception", .type "BaseException", .type "object"] "ValueError.__new__" = true
  k_InvalidTelling : PySem.W.keepIn K (.ref c_InvalidTelling) = true
  q_InvalidTruth : PySem.W.excIn K c_InvalidTruth [.type "ValueError", .type "Exception", .type "BaseException", .type "object"] "ValueError.__new__" = true
  k_InvalidTruth : PySem.W.keepIn K (.ref c_InvalidTruth) = true
  q_InvalidPaper : PySem.W.excIn K c_InvalidPaper [.type "ValueError", .type "Exception", .type "BaseException", .type "object"] "ValueError.__new__" = true
  k_InvalidPaper : PySem.W.keepIn K (.ref c_InvalidPaper) = true
  q_InvalidIndex : PySem.W.excIn K c_InvalidIndex [.type "ValueError", .type "Exception", .type "BaseException", .type "object"] "ValueError.__new__" = true
  k_InvalidIndex : PySem.W.keepIn K (.ref c_InvalidIndex) = true
  q_InvalidText : PySem.W.excIn K c_InvalidText [.type "ValueError", .type "Exception", .type "BaseException", .type "object"] "ValueError.__new__" = true
  k_InvalidText : PySem.W.keepIn K (.ref c_InvalidText) = true
  q_NoTruth : PySem.W.excIn K c_NoTruth [.type "ValueError", .type "Exception", .type "BaseException", .type "object"] "ValueError.__new__" = true
  k_NoTruth : PySem.W.keepIn K (.ref c_NoTruth) = true
  q_Unlike : PySem.W.excIn K c_Unlike [.type "ValueError", .type "Exception", .type "BaseException", .type "object"] "ValueError.__new__" = true
  k_Unlike : PySem.W.keepIn K (.ref c_Unlike) = true
  q_NothingToUndo : PySem.W.excIn K c_NothingToUndo [.type "ValueError", .type "Exception", .type "BaseException", .type "object"] "ValueError.__new__" = true
  k_NothingToUndo : PySem.W.keepIn K (.ref c_NothingToUndo) = true
  q_SplitError : PySem.W.excIn K c_SplitError [.type "ValueError", .type "Exception", .type "BaseException", .type "object"] "ValueError.__new__" = true
  k_SplitError : PySem.W.keepIn K (.ref c_SplitError) = true
  hE : ∀ C ∈ ([c_InvalidBook, c_InvalidRun, c_InvalidMark, c_InvalidTime, c_InvalidTelling, c_InvalidTruth, c_InvalidPaper, c_InvalidIndex, c_InvalidText, c_NoTruth, c_Unlike, c_NothingToUndo, c_TooMany, c_SplitError] : List Addr), ExcC K C
  hL : ∀ C ∈ [c_TooMany], XfC K C ∧ PySem.W.findIn K (.ref C) "limit" = some none
  T : OexC K c_TooMany
  fI : Addr
  fd : FuncData
  iC : PySem.W.findIn K (.ref c_TooMany) "__init__" = some (some (.ref fI))
  tI : PySem.W.typeIn K (.ref fI) = some (.type "function")
  F1 : FnOk P w K mg base CX0 1 fI fd ["self", "limit"] (spLim c_TooMany)
  bI : Binds K fd ["self", "limit"] []
  kt : ∀ i j : Nat, i < 14 → j < 13 → PySem.W.kitOne K (.ref (([c_InvalidBook, c_InvalidRun, c_InvalidMark, c_InvalidTime, c_InvalidTelling, c_InvalidTruth, c_InvalidPaper, c_InvalidIndex, c_InvalidText, c_NoTruth, c_Unlike, c_NothingToUndo, c_TooMany, c_SplitError] : List Addr).getD i 0)) (.ref (([c_InvalidBook, c_InvalidRun, c_InvalidMark, c_InvalidTime, c_InvalidTelling, c_InvalidTruth, c_InvalidPaper, c_InvalidIndex, c_InvalidText, c_NoTruth, c_Unlike, c_NothingToUndo, c_TooMany, c_SplitError] : List Addr).getD j 0)) = some (decide (i = j))
  ks : ∀ i : Nat, i < 14 → PySem.W.kitOne K (.ref (([c_InvalidBook, c_InvalidRun, c_InvalidMark, c_InvalidTime, c_InvalidTelling, c_InvalidTruth, c_InvalidPaper, c_InvalidIndex, c_InvalidText, c_NoTruth, c_Unlike, c_NothingToUndo, c_TooMany, c_SplitError] : List Addr).getD i 0)) (.ref c_SplitError) = some true
  kv : ∀ i : Nat, i < 14 → PySem.W.kitOne K (.ref (([c_InvalidBook, c_InvalidRun, c_InvalidMark, c_InvalidTime, c_InvalidTelling, c_InvalidTruth, c_InvalidPaper, c_InvalidIndex, c_InvalidText, c_NoTruth, c_Unlike, c_NothingToUndo, c_TooMany, c_SplitError] : List Addr).getD i 0)) (.type "ValueError") = some true
def Xs.cl {P : Program} {w : World} {K : PySem.W.Frag} {mg : Str → Option Value} {base : Heap} (XE : Xs P w K mg base) : List Addr := [XE.c_InvalidBook, XE.c_InvalidRun, XE.c_InvalidMark, XE.c_InvalidTime, XE.c_InvalidTelling, XE.c_InvalidTruth, XE.c_InvalidPaper, XE.c_InvalidIndex, XE.c_InvalidText, XE.c_NoTruth, XE.c_Unlike, XE.c_NothingToUndo, XE.c_TooMany, XE.c_SplitError]
/-- the answer of _law_kinds of an error of the class i -/
def kindsD (i : Nat) : D := .lst ((List.range 13).map fun j => .bl (decide (i = j)))
def P_kinds (cl : List Addr) (m : FM) : Prop := ∀ (i : Nat) (p : Option Int), i < 14 → m [.exn (cl.getD i 0) p] none = .ok (kindsD i) none
theorem ok__law_kinds (B : Bl mg) (XE : Xs P w K mg base) (Th : There K mg "_law_kinds" s__law_kinds p__law_kinds) : ∃ m, Has P w K mg base 1 "_law_kinds" p__law_kinds m ∧ P_kinds XE.cl m := by
  refine ⟨_, has_any Th sc__law_kinds fun f cdv A outer s H E hr tk hp => (dss_cons (ds_ownL 1 sc__law_kinds.nd (da_cons (de_isX XE.hE B.isinstance XE.g_InvalidBook (de_v 0)) (da_cons (de_isX XE.hE B.isinstance XE.g_InvalidRun (de_v 0)) (da_cons (de_isX XE.hE B.isinstance XE.g_InvalidMark (de_v 0)) da_nil))))
    (dss_cons (ds_ownadd 1 sc__law_kinds.nd (de_v 1) (de_lst (da_cons (de_isX XE.hE B.isinstance XE.g_InvalidTime (de_v 0)) (da_cons (de_isX XE.hE B.isinstance XE.g_InvalidTelling (de_v 0)) (da_cons (de_isX XE.hE B.isinstance XE.g_InvalidTruth (de_v 0)) da_nil)))))
    (dss_cons (ds_ownadd 1 sc__law_kinds.nd (de_v 1) (de_lst (da_cons (de_isX XE.hE B.isinstance XE.g_InvalidPaper (de_v 0)) (da_cons (de_isX XE.hE B.isinstance XE.g_InvalidIndex (de_v 0)) (da_cons (de_isX XE.hE B.isinstance XE.g_InvalidText (de_v 0)) da_nil)))))
    (dss_cons (ds_ownadd 1 sc__law_kinds.nd (de_v 1) (de_lst (da_cons (de_isX XE.hE B.isinstance XE.g_NoTruth (de_v 0)) (da_cons (de_isX XE.hE B.isinstance XE.g_Unlike (de_v 0)) (da_cons (de_isX XE.hE B.isinstance XE.g_NothingToUndo (de_v 0)) da_nil)))))
    (dss_cons (ds_append 1 (de_isX XE.hE B.isinstance XE.g_TooMany (de_v 0)))
    (dss_one (ds_ret (de_if (dt_w (dw_and (dt_val (de_isX XE.hE B.isinstance XE.g_SplitError (de_v 0))) (dw_and1 (dt_val (de_isXB (T := "ValueError") XE.hE B.isinstance B.ValueError PyProof.Rows.Boot.«ValueError» (de_v 0)))))) (de_v 1) (de_lst da_nil))))))))), ?_⟩
  intro i p hi
  have hm : XE.cl.getD i 0 ∈ XE.cl := by
    unfold Xs.cl
    rcases i with _|_|_|_|_|_|_|_|_|_|_|_|_|_|i <;> first | (exfalso; omega) | simp
  have e0 : isX K XE.cl (.ref XE.c_InvalidBook) (.exn (XE.cl.getD i 0) p) = some (.bl (decide (i = 0))) := isX_of hm (XE.kt i 0 hi (by decide))
  have e1 : isX K XE.cl (.ref XE.c_InvalidRun) (.exn (XE.cl.getD i 0) p) = some (.bl (decide (i = 1))) := isX_of hm (XE.kt i 1 hi (by decide))
  have e2 : isX K XE.cl (.ref XE.c_InvalidMark) (.exn (XE.cl.getD i 0) p) = some (.bl (decide (i = 2))) := isX_of hm (XE.kt i 2 hi (by decide))
  have e3 : isX K XE.cl (.ref XE.c_InvalidTime) (.exn (XE.cl.getD i 0) p) = some (.bl (decide (i = 3))) := isX_of hm (XE.kt i 3 hi (by decide))
  have e4 : isX K XE.cl (.ref XE.c_InvalidTelling) (.exn (XE.cl.getD i 0) p) = some (.bl (decide (i = 4))) := isX_of hm (XE.kt i 4 hi (by decide))
  have e5 : isX K XE.cl (.ref XE.c_InvalidTruth) (.exn (XE.cl.getD i 0) p) = some (.bl (decide (i = 5))) := isX_of hm (XE.kt i 5 hi (by decide))
  have e6 : isX K XE.cl (.ref XE.c_InvalidPaper) (.exn (XE.cl.getD i 0) p) = some (.bl (decide (i = 6))) := isX_of hm (XE.kt i 6 hi (by decide))
  have e7 : isX K XE.cl (.ref XE.c_InvalidIndex) (.exn (XE.cl.getD i 0) p) = some (.bl (decide (i = 7))) := isX_of hm (XE.kt i 7 hi (by decide))
  have e8 : isX K XE.cl (.ref XE.c_InvalidText) (.exn (XE.cl.getD i 0) p) = some (.bl (decide (i = 8))) := isX_of hm (XE.kt i 8 hi (by decide))
  have e9 : isX K XE.cl (.ref XE.c_NoTruth) (.exn (XE.cl.getD i 0) p) = some (.bl (decide (i = 9))) := isX_of hm (XE.kt i 9 hi (by decide))
  have e10 : isX K XE.cl (.ref XE.c_Unlike) (.exn (XE.cl.getD i 0) p) = some (.bl (decide (i = 10))) := isX_of hm (XE.kt i 10 hi (by decide))
  have e11 : isX K XE.cl (.ref XE.c_NothingToUndo) (.exn (XE.cl.getD i 0) p) = some (.bl (decide (i = 11))) := isX_of hm (XE.kt i 11 hi (by decide))
  have e12 : isX K XE.cl (.ref XE.c_TooMany) (.exn (XE.cl.getD i 0) p) = some (.bl (decide (i = 12))) := isX_of hm (XE.kt i 12 hi (by decide))
  have eS : isX K XE.cl (.ref XE.c_SplitError) (.exn (XE.cl.getD i 0) p) = some (.bl true) := isX_of hm (XE.ks i hi)
  have eV : isX K XE.cl (.type "ValueError") (.exn (XE.cl.getD i 0) p) = some (.bl true) := isX_of hm (XE.kv i hi)
  generalize XE.cl.getD i 0 = C at e0 e1 e2 e3 e4 e5 e6 e7 e8 e9 e10 e11 e12 eS eV
  have ad : ∀ xs ys : List D, xs.length + ys.length ≤ 20 → opAdd (.lst xs) (.lst ys) = some (.lst (xs ++ ys)) := fun xs ys h => add_lst (by omega)
  unfold Xs.cl at e0 e1 e2 e3 e4 e5 e6 e7 e8 e9 e10 e11 e12 eS eV
  simp [sizeLine_eq, addO, e0, e1, e2, e3, e4, e5, e6, e7, e8, e9, e10, e11, e12, eS, eV, ad, kindsD]
  rfl
end
end X

namespace X
open PySem PySem.Spec PyProof.Rows L2 DL
section
variable {P : Program} {w : World} {K : PySem.W.Frag} {mg : Str → Option Value} {base : Heap}
/-! ## the law -/
/-! ## needless by all truths -/
mutual
theorem deq_refl : ∀ (d : D) (n : Nat), okd n d = true → deq d d = true
  | .non, _, _ => rfl
  | .bl b, _, _ => by simp [deq]
  | .int i, _, _ => by simp [deq]
  | .str x, _, _ => by simp [deq]
  | .lst xs, 0, h => by simp [okd] at h
  | .lst xs, n + 1, h => by unfold deq; exact deqA_refl xs n (by simpa [okd] using h)
  | .tup xs, 0, h => by simp [okd] at h
  | .tup xs, n + 1, h => by unfold deq; exact deqA_refl xs n (by simpa [okd] using h)
  | .ref _, n, h => by cases n <;> simp [okd] at h
  | .scr _, n, h => by cases n <;> simp [okd] at h
  | .exn C p, n, h => by cases n <;> simp [okd] at h
theorem deqA_refl : ∀ (xs : List D) (n : Nat), (∀ x ∈ xs, okd n x = true) → deqA xs xs = true
  | [], _, _ => rfl
  | x :: xs, n, h => by
    unfold deqA
    rw [deq_refl x n (h x List.mem_cons_self), deqA_refl xs n (fun y hy => h y (List.mem_cons_of_mem _ hy))]
    rfl
end
theorem ne_self {d : D} (h : okd 60 d = true) : opNe d d = some (.bl false) := by rw [ne_okd h h, deq_refl d 60 h]; rfl
theorem cdef (XE : Xs P w K mg base) : XE.cl = [XE.c_InvalidBook, XE.c_InvalidRun, XE.c_InvalidMark, XE.c_InvalidTime, XE.c_InvalidTelling, XE.c_InvalidTruth, XE.c_InvalidPaper, XE.c_InvalidIndex, XE.c_InvalidText, XE.c_NoTruth, XE.c_Unlike, XE.c_NothingToUndo, XE.c_TooMany, XE.c_SplitError] := rfl
theorem kinds_okd (i : Nat) : okd 60 (kindsD i) = true := by
  unfold kindsD
  simp only [okd, List.all_map, List.all_eq_true]
  intro x _
  rfl
theorem ok_law (B : Bl mg) (XE : Xs P w K mg base) (h__law_vial_of : ∃ m, Has P w K mg base 1 "_law_vial_of" p__law_vial_of m ∧ P_vial m) (h__law_drop : ∃ m, Has P w K mg base 1 "_law_drop" p__law_drop m ∧ P_drop m)
    (h__law_some : ∃ m, Has P w K mg base 2 "_law_some" p__law_some m ∧ P_some m) (h__law_kinds : ∃ m, Has P w K mg base 1 "_law_kinds" p__law_kinds m ∧ P_kinds XE.cl m)
    {fl : Addr} {fdl : FuncData} (S0 : Stand K mg "law" s_law p_law fl fdl) : ∃ m, FnD P w K mg base 3 fl fdl p_law m ∧ ∀ ns : List Int, ns.length ≤ 63 → m [.scr ns] none = .ok (.bl true) none := by
  obtain ⟨m1, h__law_vial_of, po⟩ := h__law_vial_of
  obtain ⟨m2, h__law_drop, pd⟩ := h__law_drop
  obtain ⟨m3, h__law_some, pso⟩ := h__law_some
  obtain ⟨m4, h__law_kinds, pk⟩ := h__law_kinds
  refine ⟨_, fnd_any S0 sc_law fun f cdv A outer s H E hr tk hp => (dss_cons (ds_for hp rfl (di_range1 rfl B.range (da_cons (de_op od_add de_int (de_callB (cd_min rfl) B.min PyProof.Rows.boot_min (da_cons (de_callB cd_len B.len PySem.boot_len (da_cons (de_v 0) da_nil)) (da_cons de_int da_nil)))) da_nil)) (dg_v 1 sc_law.nd) (dss_cons (dcO 2 h__law_vial_of tk (hr.mono (by decide)) sc_law.nd (da_cons (de_v 0) (da_cons (de_v 1) da_nil)))
      (dss_cons (ds_par 3 4 rfl sc_law.nd (da_cons (dcv 2 h__law_some tk (hr.mono (by decide)) (da_cons (de_lst (da_cons de_str (da_cons de_str (da_cons de_str (da_cons de_str da_nil))))) da_nil)) (da_cons (dcv 2 h__law_drop tk (hr.mono (by decide)) (da_cons de_int da_nil)) da_nil)))
      (dss_cons (ds_set 5 sc_law.nd (de_lst (da_cons (de_new1 F.excBase_ValueError XE.q_InvalidBook XE.g_InvalidBook XE.k_InvalidBook (de_v 3)) (da_cons (de_new1 F.excBase_ValueError XE.q_InvalidRun XE.g_InvalidRun XE.k_InvalidRun (de_v 3)) (da_cons (de_new1 F.excBase_ValueError XE.q_InvalidMark XE.g_InvalidMark XE.k_InvalidMark (de_v 3)) (da_cons (de_new1 F.excBase_ValueError XE.q_InvalidTime XE.g_InvalidTime XE.k_InvalidTime (de_v 3)) da_nil))))))
      (dss_cons (ds_set 5 sc_law.nd (de_op od_add (de_v 5) (de_lst (da_cons (de_new1 F.excBase_ValueError XE.q_InvalidTelling XE.g_InvalidTelling XE.k_InvalidTelling (de_v 3)) (da_cons (de_new1 F.excBase_ValueError XE.q_InvalidTruth XE.g_InvalidTruth XE.k_InvalidTruth (de_v 3)) (da_cons (de_new1 F.excBase_ValueError XE.q_InvalidPaper XE.g_InvalidPaper XE.k_InvalidPaper (de_v 3)) (da_cons (de_new1 F.excBase_ValueError XE.q_InvalidIndex XE.g_InvalidIndex XE.k_InvalidIndex (de_v 3)) da_nil)))))))
      (dss_cons (ds_set 5 sc_law.nd (de_op od_add (de_v 5) (de_lst (da_cons (de_new1 F.excBase_ValueError XE.q_InvalidText XE.g_InvalidText XE.k_InvalidText (de_v 3)) (da_cons (de_new1 F.excBase_ValueError XE.q_NoTruth XE.g_NoTruth XE.k_NoTruth (de_v 3)) (da_cons (de_new1 F.excBase_ValueError XE.q_Unlike XE.g_Unlike XE.k_Unlike (de_v 3)) (da_cons (de_new1 F.excBase_ValueError XE.q_NothingToUndo XE.g_NothingToUndo XE.k_NothingToUndo (de_v 3)) (da_cons (de_newI XE.T XE.iC XE.tI XE.F1 hr (by decide) XE.bI XE.g_TooMany (de_v 4)) da_nil))))))))
      (dss_cons (ds_for hp rfl (di_enum rfl B.enumerate (da_cons (de_v 5) da_nil)) (dg_tup (n := 2) rfl (dgs_cons (dg_v 6 sc_law.nd) (dgs_cons (dg_v 7 sc_law.nd) dgs_nil))) (dss_one (ds_if (dt_cmp (od_ne hr) (dc h__law_kinds tk (hr.mono (by decide)) (da_cons (de_v 7) da_nil)) (de_lc [8] rfl sc_law.nd (di_range1 rfl B.range (da_cons de_int da_nil)) (blkOk_by (own := [("_law_other", 8)]) (N := n_law) (sc := defScope s_law) (by decide +kernel)) (fun _ _ _ _ _ => (dgw_v 8 sc_law.nd)) (fun _ _ _ _ _ => dts_nil) (fun _ _ _ _ _ => (de_cmp (od_eq hr) (de_v 6) (de_v 8) (nomark _)))) (nomark _)) (dss_one (ds_ret de_bl)) dss_nil)))
      (dss_one (ds_if (dt_w (dw_or (dt_cmp (od_ne hr) (de_lim XE.hL (de_ix (de_v 5) de_int)) (de_v 4) (nomark _)) (dw_or1 (dt_cmp (od_ne hr) (dc h__law_kinds tk (hr.mono (by decide)) (da_cons (de_new1 F.excBase_ValueError XE.q_SplitError XE.g_SplitError XE.k_SplitError (de_v 3)) da_nil)) (de_op od_mul (de_lst (da_cons de_bl da_nil)) de_int) (nomark _))))) (dss_one (ds_ret de_bl)) dss_nil)))))))))
    (dss_one (ds_ret de_bl))), ?_⟩
  intro ns hns
  simp [toR1_ok (1 + min (ns.length : Int) 3) _ (by omega) (by omega)]
  generalize hf : forL _ _ _ _ = r
  let st : Option Sl × Option Sl × Option Sl × Option Sl × Option Sl × Option Sl × Option Sl → S := fun ⟨a1, a2, a3, a4, a5, a6, a7⟩ => ⟨[some (Sl.val (D.scr ns)), a1, a2, a3, a4, a5, a6, a7, none], none⟩
  have key : ∃ a, r = .next (st a) ∧ True := by
    rw [← hf]; clear hf
    refine forL_st st (fun _ _ => True) (rngI 0 (1 + min (ns.length : Int) 3)) (none, none, none, none, none, none, none) trivial ?_
    rintro i d ⟨a1, a2, a3, a4, a5, a6, a7⟩ hd -
    obtain ⟨ed, hd2⟩ := rngI_get hd
    rw [Int.zero_add] at ed hd2
    refine ⟨_, rfl, fun I hI => ?_⟩
    obtain ⟨v, e0, hv⟩ := po ns i (by omega) (by omega)
    obtain ⟨wd, v1, e1, hw, hv1⟩ := pso v [.str "a", .str "", .str "no word", .str "runs"] hv (by simp) (by simp)
    obtain ⟨x, v2, e2, x0, x1, hv2⟩ := pd v1 1000 hv1 (by omega) (by omega)
    have ad : ∀ xs ys : List D, xs.length + ys.length ≤ 20 → opAdd (.lst xs) (.lst ys) = some (.lst (xs ++ ys)) := fun xs ys h => add_lst (by omega)
    simp [st, ed, asgO, e0, e1, e2, ad, newI]
    have e12 : opIx (.lst [D.exn XE.c_InvalidBook none, D.exn XE.c_InvalidRun none, D.exn XE.c_InvalidMark none, D.exn XE.c_InvalidTime none, D.exn XE.c_InvalidTelling none, D.exn XE.c_InvalidTruth none, D.exn XE.c_InvalidPaper none, D.exn XE.c_InvalidIndex none, D.exn XE.c_InvalidText none, D.exn XE.c_NoTruth none, D.exn XE.c_Unlike none, D.exn XE.c_NothingToUndo none, D.exn XE.c_TooMany (some x)]) (.int 12) = some (.exn XE.c_TooMany (some x)) := rfl
    have mk13 : ∀ j d, [D.exn XE.c_InvalidBook none, D.exn XE.c_InvalidRun none, D.exn XE.c_InvalidMark none, D.exn XE.c_InvalidTime none, D.exn XE.c_InvalidTelling none, D.exn XE.c_InvalidTruth none, D.exn XE.c_InvalidPaper none, D.exn XE.c_InvalidIndex none, D.exn XE.c_InvalidText none, D.exn XE.c_NoTruth none, D.exn XE.c_Unlike none, D.exn XE.c_NothingToUndo none, D.exn XE.c_TooMany (some x)][j]? = some d → j < 13 ∧ ∃ p, d = .exn (XE.cl.getD j 0) p := fun j d h => by
      rw [cdef]
      rcases j with _|_|_|_|_|_|_|_|_|_|_|_|_|j
      all_goals first
        | (simp at h; done)
        | (refine ⟨by omega, ?_⟩
           have h' := Option.some.inj h
           exact ⟨_, h'.symm⟩)
    generalize [D.exn XE.c_InvalidBook none, D.exn XE.c_InvalidRun none, D.exn XE.c_InvalidMark none, D.exn XE.c_InvalidTime none, D.exn XE.c_InvalidTelling none, D.exn XE.c_InvalidTruth none, D.exn XE.c_InvalidPaper none, D.exn XE.c_InvalidIndex none, D.exn XE.c_InvalidText none, D.exn XE.c_NoTruth none, D.exn XE.c_Unlike none, D.exn XE.c_NothingToUndo none, D.exn XE.c_TooMany (some x)] = MM at mk13 e12 ⊢
    generalize hg : forL _ _ _ _ = q
    let st2 : Option Sl × Option Sl → S := fun ⟨b6, b7⟩ => ⟨[some (Sl.val (D.scr ns)), some (Sl.val (D.int (i : Int))), some (Sl.own v2), some (Sl.val wd), some (Sl.val (D.int x)), some (Sl.val (D.lst MM)), b6, b7, none], none⟩
    have key : ∃ a, q = .next (st2 a) ∧ True := by
      rw [← hg]; clear hg
      refine forL_st st2 (fun _ _ => True) _ (a6, a7) trivial ?_
      rintro j d ⟨b6, b7⟩ hd -
      rw [enumD_get, Option.map_eq_some_iff] at hd
      obtain ⟨d0, hd0, rfl⟩ := hd
      obtain ⟨hj, p, rfl⟩ := mk13 j d0 hd0
      rw [Nat.zero_add]
      refine ⟨_, rfl, fun I hI => ?_⟩
      have c : ∀ s, callP m4 1 [.exn (XE.cl.getD j 0) p] s = .ok (kindsD j) s := fun s => by
        have := pk j p (by omega)
        simp only [callP, this]
        rfl
      generalize XE.cl.getD j 0 = C at c
      have q13 := fun s => toR1_ok 13 s (by omega) (by omega)
      have r13 : rngI 0 13 = (List.range 13).map fun k : Nat => D.int ((0 : Int) + (k : Int)) := rfl
      have ns := ne_self (kinds_okd j)
      obtain ⟨J, hJ⟩ : ∃ J : Int, J = (j : Int) := ⟨_, rfl⟩
      rw [← hJ]
      simp [st2, c, q13]
      rw [r13, compL_mapf (mk := fun k : Nat => D.int ((0 : Int) + (k : Int))) (h := fun k => .bl (decide (j = k)))]
      · have ns' : opNe (kindsD j) (.lst ((List.range 13).map fun k => .bl (decide (j = k)))) = some (.bl false) := ns
        rw [List.nil_append]
        generalize ((List.range 13).map fun k => D.bl (decide (j = k))) = l13 at ns' ⊢
        simp [ns']
        exact hI (_, _) trivial
      · intro k hk
        refine ⟨_, rfl, rfl, ?_, rfl⟩
        have ek : opEq (.int J) (.int ((0 : Int) + (k : Int))) = some (.bl (decide (j = k))) := by
          rw [eq_okd (by simp [okd]) (by simp [okd])]
          have e2 : (J == (k : Int)) = decide (j = k) := by
            by_cases h : j = k
            · subst h; simp [hJ]
            · have h2 : J ≠ (k : Int) := by omega
              simp [h, h2]
          simp [deq, e2]
        rw [Int.zero_add] at ek ⊢
        simp [ek]
    obtain ⟨⟨b6, b7⟩, rfl, -⟩ := key
    have c13 : ∀ s, callP m4 1 [.exn XE.c_SplitError none] s = .ok (kindsD 13) s := fun s => by
      have := pk 13 none (by omega)
      rw [cdef] at this
      have e : m4 [.exn XE.c_SplitError none] none = .ok (kindsD 13) none := this
      simp only [callP, e]
      rfl
    have m13 : opMul (.lst [.bl false]) (.int 13) = some (kindsD 13) := by
      show (if 0 ≤ (13 : Int) ∧ (13 : Int) ≤ 1000 ∧ [D.bl false].length ≤ 1000 then some (D.lst (List.replicate (13 : Int).toNat [D.bl false]).flatten) else none) = _
      rw [if_pos ⟨by decide, by decide, by show 1 ≤ 1000; decide⟩]
      rfl
    have n13 := ne_self (kinds_okd 13)
    have nx : opNe (.int x) (.int x) = some (.bl false) := ne_self (by simp [okd])
    have xl : xlim [XE.c_TooMany] (.exn XE.c_TooMany (some x)) = some (.int x) := if_pos (List.mem_singleton.mpr rfl)
    generalize kindsD 13 = K13 at c13 m13 n13
    simp [st2, e12, c13, m13, n13, nx, xl]
    exact hI (_, _, _, _, _, _, _) trivial
  obtain ⟨⟨a1, a2, a3, a4, a5, a6, a7⟩, rfl, -⟩ := key
  simp [st]
end
end X

namespace X
open PySem PySem.Spec PyProof.Rows L2 DL
def kitAll (K : PySem.W.Frag) (cl : List Addr) (S : Addr) : Bool := (List.range 14).all fun i => (List.range 13).all (fun j => decide (PySem.W.kitOne K (.ref (cl.getD i 0)) (.ref (cl.getD j 0)) = some (decide (i = j)))) && (decide (PySem.W.kitOne K (.ref (cl.getD i 0)) (.ref S) = some true) && decide (PySem.W.kitOne K (.ref (cl.getD i 0)) (.type "ValueError") = some true))
theorem kitAll_of {K : PySem.W.Frag} {cl : List Addr} {S : Addr} (h : kitAll K cl S = true) {i : Nat} (hi : i < 14) : (∀ j, j < 13 → PySem.W.kitOne K (.ref (cl.getD i 0)) (.ref (cl.getD j 0)) = some (decide (i = j))) ∧ PySem.W.kitOne K (.ref (cl.getD i 0)) (.ref S) = some true ∧ PySem.W.kitOne K (.ref (cl.getD i 0)) (.type "ValueError") = some true := by
  unfold kitAll at h
  rw [List.all_eq_true] at h
  have h1 := h i (List.mem_range.mpr hi)
  obtain ⟨h2, h3⟩ := Bool.and_eq_true_iff.mp h1
  obtain ⟨h4, h5⟩ := Bool.and_eq_true_iff.mp h3
  rw [List.all_eq_true] at h2
  exact ⟨fun j hj => of_decide_eq_true (h2 j (List.mem_range.mpr hj)), of_decide_eq_true h4, of_decide_eq_true h5⟩
def excB (K : PySem.W.Frag) (C : Addr) : Bool := decide (PySem.W.findIn K (.ref C) "__getattribute__" = some (some (.builtin "BaseException.__getattribute__"))) && (decide (PySem.W.findIn K (.ref C) "__getattr__" = some none) && (decide (PySem.W.subIn K (.ref C) (.type "BaseException") = some true) && (PySem.W.hasDictIn K C && (decide (PySem.W.findIn K (.ref C) "__class__" = some (some (.builtin "object.__class__"))) && (decide (PySem.W.specialIn K (.builtin "object.__class__") "__get__" = some (some (.builtin "getset_descriptor.__get__"))) && (decide (PySem.W.takesIn K (.builtin "object.__class__") = some true) && decide (PySem.W.mroIn K C (.type "object") = some true)))))))
theorem excB_ok {K : PySem.W.Frag} {L : List Addr} (h : L.all (excB K) = true) : ∀ C ∈ L, ExcC K C := fun C hC => by
  rw [List.all_eq_true] at h
  have h := h C hC
  unfold excB at h
  obtain ⟨h1, h⟩ := Bool.and_eq_true_iff.mp h
  obtain ⟨h2, h⟩ := Bool.and_eq_true_iff.mp h
  obtain ⟨h3, h⟩ := Bool.and_eq_true_iff.mp h
  obtain ⟨h4, h⟩ := Bool.and_eq_true_iff.mp h
  obtain ⟨h5, h⟩ := Bool.and_eq_true_iff.mp h
  obtain ⟨h6, h⟩ := Bool.and_eq_true_iff.mp h
  obtain ⟨h7, h8⟩ := Bool.and_eq_true_iff.mp h
  exact ⟨of_decide_eq_true h1, of_decide_eq_true h2, of_decide_eq_true h3, h4, of_decide_eq_true h5, of_decide_eq_true h6, of_decide_eq_true h7, of_decide_eq_true h8⟩
theorem all_mk {l : PySem.W.OpenLaw} {w : World} {K : PySem.W.Frag} {h : Heap} {mg : Str → Option Value} {fa : Addr} (X : K.In h) (G : h.Ns mainGlobals mg) (hfa : mg "law" = some (.ref fa)) (B : Bl mg)
    {c_InvalidBook : Addr} (g_InvalidBook : mg "InvalidBook" = some (.ref c_InvalidBook))
    {c_InvalidRun : Addr} (g_InvalidRun : mg "InvalidRun" = some (.ref c_InvalidRun))
    {c_InvalidMark : Addr} (g_InvalidMark : mg "InvalidMark" = some (.ref c_InvalidMark))
    {c_InvalidTime : Addr} (g_InvalidTime : mg "InvalidTime" = some (.ref c_InvalidTime))
    {c_InvalidTelling : Addr} (g_InvalidTelling : mg "InvalidTelling" = some (.ref c_InvalidTelling))
    {c_InvalidTruth : Addr} (g_InvalidTruth : mg "InvalidTruth" = some (.ref c_InvalidTruth))
    {c_InvalidPaper : Addr} (g_InvalidPaper : mg "InvalidPaper" = some (.ref c_InvalidPaper))
    {c_InvalidIndex : Addr} (g_InvalidIndex : mg "InvalidIndex" = some (.ref c_InvalidIndex))
    {c_InvalidText : Addr} (g_InvalidText : mg "InvalidText" = some (.ref c_InvalidText))
    {c_NoTruth : Addr} (g_NoTruth : mg "NoTruth" = some (.ref c_NoTruth))
    {c_Unlike : Addr} (g_Unlike : mg "Unlike" = some (.ref c_Unlike))
    {c_NothingToUndo : Addr} (g_NothingToUndo : mg "NothingToUndo" = some (.ref c_NothingToUndo))
    {c_TooMany : Addr} (g_TooMany : mg "TooMany" = some (.ref c_TooMany))
    {c_SplitError : Addr} (g_SplitError : mg "SplitError" = some (.ref c_SplitError))
    (q_InvalidBook : PySem.W.excIn K c_InvalidBook [.type "ValueError", .type "Exception", .type "BaseException", .type "object"] "ValueError.__new__" = true) (k_InvalidBook : PySem.W.keepIn K (.ref c_InvalidBook) = true)
    (q_InvalidRun : PySem.W.excIn K c_InvalidRun [.type "ValueError", .type "Exception", .type "BaseException", .type "object"] "ValueError.__new__" = true) (k_InvalidRun : PySem.W.keepIn K (.ref c_InvalidRun) = true)
    (q_InvalidMark : PySem.W.excIn K c_InvalidMark [.type "ValueError", .type "Exception", .type "BaseException", .type "object"] "ValueError.__new__" = true) (k_InvalidMark : PySem.W.keepIn K (.ref c_InvalidMark) = true)
    (q_InvalidTime : PySem.W.excIn K c_InvalidTime [.type "ValueError", .type "Exception", .type "BaseException", .type "object"] "ValueError.__new__" = true) (k_InvalidTime : PySem.W.keepIn K (.ref c_InvalidTime) = true)
    (q_InvalidTelling : PySem.W.excIn K c_InvalidTelling [.type "ValueError", .type "Exception", .type "BaseException", .type "object"] "ValueError.__new__" = true) (k_InvalidTelling : PySem.W.keepIn K (.ref c_InvalidTelling) = true)
    (q_InvalidTruth : PySem.W.excIn K c_InvalidTruth [.type "ValueError", .type "Exception", .type "BaseException", .type "object"] "ValueError.__new__" = true) (k_InvalidTruth : PySem.W.keepIn K (.ref c_InvalidTruth) = true)
    (q_InvalidPaper : PySem.W.excIn K c_InvalidPaper [.type "ValueError", .type "Exception", .type "BaseException", .type "object"] "ValueError.__new__" = true) (k_InvalidPaper : PySem.W.keepIn K (.ref c_InvalidPaper) = true)
    (q_InvalidIndex : PySem.W.excIn K c_InvalidIndex [.type "ValueError", .type "Exception", .type "BaseException", .type "object"] "ValueError.__new__" = true) (k_InvalidIndex : PySem.W.keepIn K (.ref c_InvalidIndex) = true)
    (q_InvalidText : PySem.W.excIn K c_InvalidText [.type "ValueError", .type "Exception", .type "BaseException", .type "object"] "ValueError.__new__" = true) (k_InvalidText : PySem.W.keepIn K (.ref c_InvalidText) = true)
    (q_NoTruth : PySem.W.excIn K c_NoTruth [.type "ValueError", .type "Exception", .type "BaseException", .type "object"] "ValueError.__new__" = true) (k_NoTruth : PySem.W.keepIn K (.ref c_NoTruth) = true)
    (q_Unlike : PySem.W.excIn K c_Unlike [.type "ValueError", .type "Exception", .type "BaseException", .type "object"] "ValueError.__new__" = true) (k_Unlike : PySem.W.keepIn K (.ref c_Unlike) = true)
    (q_NothingToUndo : PySem.W.excIn K c_NothingToUndo [.type "ValueError", .type "Exception", .type "BaseException", .type "object"] "ValueError.__new__" = true) (k_NothingToUndo : PySem.W.keepIn K (.ref c_NothingToUndo) = true)
    (q_SplitError : PySem.W.excIn K c_SplitError [.type "ValueError", .type "Exception", .type "BaseException", .type "object"] "ValueError.__new__" = true) (k_SplitError : PySem.W.keepIn K (.ref c_SplitError) = true)
    (eA : ([c_InvalidBook, c_InvalidRun, c_InvalidMark, c_InvalidTime, c_InvalidTelling, c_InvalidTruth, c_InvalidPaper, c_InvalidIndex, c_InvalidText, c_NoTruth, c_Unlike, c_NothingToUndo, c_TooMany, c_SplitError] : List Addr).all (excB K) = true) (kA : kitAll K [c_InvalidBook, c_InvalidRun, c_InvalidMark, c_InvalidTime, c_InvalidTelling, c_InvalidTruth, c_InvalidPaper, c_InvalidIndex, c_InvalidText, c_NoTruth, c_Unlike, c_NothingToUndo, c_TooMany, c_SplitError] c_SplitError = true) (xA : xfB K c_TooMany = true) (noL : PySem.W.findIn K (.ref c_TooMany) "limit" = some none)
    {nmT qT : Str} {NT : Addr} {bsT bmT : List Value} {snT : List Str} {subT : List Value} {abT : Bool} {colT : Option Bool} {ddT : Option Addr} {m0 m1 m2 m3 m5 : Option Value}
    (xL : K.lookup c_TooMany = some (excClassObj nmT qT c_TooMany NT bsT bmT true snT subT abT colT ddT m0 m1 m2 m3 m5 "ValueError.__new__")) (rT : PySem.HandSPX.refsVE bmT = true)
    (sT : PySem.W.findIn K (.ref c_TooMany) "__setattr__" = some (some (.builtin "object.__setattr__"))) (xT : PySem.W.subIn K (.ref c_TooMany) (.type "BaseException") = some true) (tyT : PySem.W.typeIn K (.ref c_TooMany) = some (.type "type")) (kT : PySem.W.keepIn K (.ref c_TooMany) = true)
    {fI : Addr} {ocI kVI docI pmI cdI ctI : Value} {odI anI : Option Addr} {oslI : Array (Option Value)} (iC : PySem.W.findIn K (.ref c_TooMany) "__init__" = some (some (.ref fI))) (tI : PySem.W.typeIn K (.ref fI) = some (.type "function"))
    (lI : K.lookup fI = some ⟨ocI, odI, .func (PySem.W.fnOf "__init__" "TooMany.__init__" (defArgs sInit) (defBody sInit) (defScope sInit) .none kVI docI pmI anI cdI ctI), oslI⟩) (dI : PySem.W.codeIn K cdI "TooMany.__init__" = true) (kI : PySem.W.keepIn K (.ref fI) = true)
    (sS : PySem.W.specialIn K (.ref c_SplitError) "__getattribute__" = some (some (.builtin "type.__getattribute__"))) (rS : PySem.W.readsIn K c_SplitError (.type "type") = true) (fS : PySem.W.findCls K (.ref c_SplitError) (.type "type") "__init__" = some (.val (.builtin "ValueError.__init__")))
    (T_law_vial_of : There K mg "_law_vial_of" s__law_vial_of p__law_vial_of)
    (T_law_drop : There K mg "_law_drop" s__law_drop p__law_drop)
    (T_law_some : There K mg "_law_some" s__law_some p__law_some)
    (T_law_kinds : There K mg "_law_kinds" s__law_kinds p__law_kinds)
    {f : Addr} {oc kV doc pm cdv ct : Value} {od an : Option Addr} {osl : Array (Option Value)} (a : PySem.W.nsIn K mainGlobals "law" = some (some (.ref f)))
    (lk : K.lookup f = some ⟨oc, od, .func (PySem.W.fnOf "law" "law" (defArgs s_law) (defBody s_law) (defScope s_law) .none kV doc pm an cdv ct), osl⟩) (c : PySem.W.codeIn K cdv "law" = true) (k : PySem.W.keepIn K (.ref f) = true) :
    ∃ fd : FuncData, (∀ (s : Shared) (v : Value), BindsTo s fd ⟨[v], []⟩ [("_law_script", v)]) ∧ ∀ base : Heap, K.In base → base.Ns mainGlobals mg → FnOk l.prog w K mg base (L2.CX l.prog w) 3 fa fd ["_law_script"] (spLaw K) := by
  have e := hfa.symm.trans (PySem.W.mg_of X G a)
  cases e
  have S := stand_of (ps := p_law) X G a lk c k fun _ _ _ _ _ _ us hl => match us, hl with | [_], _ => rfl
  refine ⟨PySem.W.fnOf "law" "law" (defArgs s_law) (defBody s_law) (defScope s_law) .none kV doc pm an cdv ct, fun s v => .of_eq rfl, fun base _ _ => ?_⟩
  have T : OexC K c_TooMany := ⟨⟨_, _, _, _, _, _, _, _, _, _, _, _, _, _, _, xL, rT⟩, sT, xT, tyT, kT⟩
  have FI : L2.Fun K "__init__" "TooMany.__init__" sInit fI _ := fun_mk lI dI kI
  let XE : Xs l.prog w K mg base := { c_InvalidBook := c_InvalidBook, g_InvalidBook := g_InvalidBook, c_InvalidRun := c_InvalidRun, g_InvalidRun := g_InvalidRun, c_InvalidMark := c_InvalidMark, g_InvalidMark := g_InvalidMark, c_InvalidTime := c_InvalidTime, g_InvalidTime := g_InvalidTime, c_InvalidTelling := c_InvalidTelling, g_InvalidTelling := g_InvalidTelling, c_InvalidTruth := c_InvalidTruth, g_InvalidTruth := g_InvalidTruth, c_InvalidPaper := c_InvalidPaper, g_InvalidPaper := g_InvalidPaper, c_InvalidIndex := c_InvalidIndex, g_InvalidIndex := g_InvalidIndex, c_InvalidText := c_InvalidText, g_InvalidText := g_InvalidText, c_NoTruth := c_NoTruth, g_NoTruth := g_NoTruth, c_Unlike := c_Unlike, g_Unlike := g_Unlike, c_NothingToUndo := c_NothingToUndo, g_NothingToUndo := g_NothingToUndo, c_TooMany := c_TooMany, g_TooMany := g_TooMany, c_SplitError := c_SplitError, g_SplitError := g_SplitError, q_InvalidBook := q_InvalidBook, k_InvalidBook := k_InvalidBook, q_InvalidRun := q_InvalidRun, k_InvalidRun := k_InvalidRun, q_InvalidMark := q_InvalidMark, k_InvalidMark := k_InvalidMark, q_InvalidTime := q_InvalidTime, k_InvalidTime := k_InvalidTime, q_InvalidTelling := q_InvalidTelling, k_InvalidTelling := k_InvalidTelling, q_InvalidTruth := q_InvalidTruth, k_InvalidTruth := k_InvalidTruth, q_InvalidPaper := q_InvalidPaper, k_InvalidPaper := k_InvalidPaper, q_InvalidIndex := q_InvalidIndex, k_InvalidIndex := k_InvalidIndex, q_InvalidText := q_InvalidText, k_InvalidText := k_InvalidText, q_NoTruth := q_NoTruth, k_NoTruth := k_NoTruth, q_Unlike := q_Unlike, k_Unlike := k_Unlike, q_NothingToUndo := q_NothingToUndo, k_NothingToUndo := k_NothingToUndo, q_SplitError := q_SplitError, k_SplitError := k_SplitError, hE := excB_ok eA, hL := fun C hC => by rw [List.mem_singleton] at hC; subst hC; exact ⟨xfB_ok xA, noL⟩, T := T, fI := fI, fd := _, iC := iC, tI := tI, F1 := tm_ok FI T noL g_SplitError sS rS fS, bI := FI.binds (fun _ _ _ _ _ _ us hl => match us, hl with | [_, _], _ => rfl), kt := fun i j hi hj => (kitAll_of kA hi).1 j hj, ks := fun i hi => (kitAll_of kA hi).2.1, kv := fun i hi => (kitAll_of kA hi).2.2 }
  have h__law_vial_of := ok__law_vial_of (P := l.prog) (w := w) (base := base) B T_law_vial_of
  have h__law_drop := ok__law_drop (P := l.prog) (w := w) (base := base) B T_law_drop
  have h__law_some := ok__law_some B h__law_drop T_law_some
  have h__law_kinds := ok__law_kinds B XE T_law_kinds
  obtain ⟨m, F, hm⟩ := ok_law B XE h__law_vial_of h__law_drop h__law_some h__law_kinds S
  exact law_has rfl F hm
end X
open PySem PySem.W PyProof.Rows
set_option maxHeartbeats 0 in
theorem PySem.Challenge.cw_runsplits_k15_errors_and_their_classes_holds : PySem.Challenge.rw_runsplits_k15_errors_and_their_classes.Holds := by
  w_on; o_law; k_head; (case hw => w_witness2)
  k_fill
  refine L2.walk_of (l := PySem.Challenge.rw_runsplits_k15_errors_and_their_classes) (n := 63) (k := 3) (x := "_law_script") (CX := fun w => L2.CX (PySem.Challenge.rw_runsplits_k15_errors_and_their_classes).prog w) (sp := fun w => DL.spLaw _) rfl (by decide) rfl ⟨rfl, by decide, by decide⟩ (fun w h Y => PySem.W.kIn_of Y) ?F (fun _ _ a ns hl _ hS => ⟨a, ns, rfl, hS, hl, (fun p hp => absurd (show p ∈ ([] : List (PySem.Addr × PySem.Str)) from hp) List.not_mem_nil), fun _ => rfl⟩) (fun _ _ _ _ _ h => DL.cx_none h)
  case F =>
    intro w mg fa h KX G hmg
    refine' X.all_mk KX G hmg ?B (PySem.W.mg_of KX G ?ye0) (PySem.W.mg_of KX G ?ye1) (PySem.W.mg_of KX G ?ye2) (PySem.W.mg_of KX G ?ye3) (PySem.W.mg_of KX G ?ye4) (PySem.W.mg_of KX G ?ye5) (PySem.W.mg_of KX G ?ye6) (PySem.W.mg_of KX G ?ye7) (PySem.W.mg_of KX G ?ye8) (PySem.W.mg_of KX G ?ye9) (PySem.W.mg_of KX G ?ye10) (PySem.W.mg_of KX G ?ye11) (PySem.W.mg_of KX G ?ye12) (PySem.W.mg_of KX G ?ye13) ?yq0 ?yk0 ?yq1 ?yk1 ?yq2 ?yk2 ?yq3 ?yk3 ?yq4 ?yk4 ?yq5 ?yk5 ?yq6 ?yk6 ?yq7 ?yk7 ?yq8 ?yk8 ?yq9 ?yk9 ?yq10 ?yk10 ?yq11 ?yk11 ?yq12 ?yk12 ?eA ?kA ?xA ?noL ?xL ?rT ?sT ?xT ?tyT ?kT ?iC ?tI ?lI ?dI ?kI ?sS ?rS ?fS ?T0 ?T1 ?T2 ?T3 ?a ?l ?c ?k
    (case ye0 => k_is)
    (case ye1 => k_is)
    (case ye2 => k_is)
    (case ye3 => k_is)
    (case ye4 => k_is)
    (case ye5 => k_is)
    (case ye6 => k_is)
    (case ye7 => k_is)
    (case ye8 => k_is)
    (case ye9 => k_is)
    (case ye10 => k_is)
    (case ye11 => k_is)
    (case ye12 => k_is)
    (case ye13 => k_is)
    (case yq0 => k_exc); (case yk0 => k_is)
    (case yq1 => k_exc); (case yk1 => k_is)
    (case yq2 => k_exc); (case yk2 => k_is)
    (case yq3 => k_exc); (case yk3 => k_is)
    (case yq4 => k_exc); (case yk4 => k_is)
    (case yq5 => k_exc); (case yk5 => k_is)
    (case yq6 => k_exc); (case yk6 => k_is)
    (case yq7 => k_exc); (case yk7 => k_is)
    (case yq8 => k_exc); (case yk8 => k_is)
    (case yq9 => k_exc); (case yk9 => k_is)
    (case yq10 => k_exc); (case yk10 => k_is)
    (case yq11 => k_exc); (case yk11 => k_is)
    (case yq12 => k_exc); (case yk12 => k_is)
    (case iC => k_is); (case tI => k_is); (case lI => k_is); (case dI => k_is); (case kI => k_is)
    (case noL => k_is); (case sT => k_is); (case xT => k_is); (case tyT => k_is); (case kT => k_is)
    (case xL => k_is); (case rT => first | rfl | decide +kernel)
    (case sS => k_is); (case rS => first | k_is | kernel_rfl); (case fS => first | k_is | kernel_rfl)
    (case xA => kernel_rfl); (case eA => kernel_rfl); (case kA => kernel_rfl)
    case B =>
      refine' X.Bl.mk ?b0 ?b1 ?b2 ?b3 ?b4 ?b5 ?b6 ?b7
      case b0 => refine' PySem.W.mg_none_of KX G ?_; k_is
      case b1 => refine' PySem.W.mg_none_of KX G ?_; k_is
      case b2 => refine' PySem.W.mg_none_of KX G ?_; k_is
      case b3 => refine' PySem.W.mg_none_of KX G ?_; k_is
      case b4 => refine' PySem.W.mg_none_of KX G ?_; k_is
      case b5 => refine' PySem.W.mg_none_of KX G ?_; k_is
      case b6 => refine' PySem.W.mg_none_of KX G ?_; k_is
      case b7 => refine' PySem.W.mg_none_of KX G ?_; k_is
    case T0 =>
      refine' DL.there_of KX G ?q1 ?q2 ?q3 ?q4 (fun _ _ _ _ _ _ us hl => match us, hl with | [_, _], _ => rfl)
      (case q1 => k_is); (case q2 => k_is); (case q3 => k_is); (case q4 => k_is)
    case T1 =>
      refine' DL.there_of KX G ?q1 ?q2 ?q3 ?q4 (fun _ _ _ _ _ _ us hl => match us, hl with | [_, _], _ => rfl)
      (case q1 => k_is); (case q2 => k_is); (case q3 => k_is); (case q4 => k_is)
    case T2 =>
      refine' DL.there_of KX G ?q1 ?q2 ?q3 ?q4 (fun _ _ _ _ _ _ us hl => match us, hl with | [_, _], _ => rfl)
      (case q1 => k_is); (case q2 => k_is); (case q3 => k_is); (case q4 => k_is)
    case T3 =>
      refine' DL.there_of KX G ?q1 ?q2 ?q3 ?q4 (fun _ _ _ _ _ _ us hl => match us, hl with | [_], _ => rfl)
      (case q1 => k_is); (case q2 => k_is); (case q3 => k_is); (case q4 => k_is)
    (case a => k_is); (case l => k_is); (case c => k_is); (case k => k_is)


